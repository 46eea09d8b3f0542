import PyProof.Rows.All
import Wide.All
import OpenK.AllK
import Wide.FinOn
import KE.KStateDown
import KE.KOpsOwn
import HandS.ForMost
import HandS.More
import HandS.Exc
import HandS.WordsExc
import HandS.Defaults
import HandS.Property
import HandS.IsInst
import HandS.Wide
import HandS.Head0
import HandS.Head1
import HandS.Head2
import HandS.HeadEnd
import HandS.HeadHook1
import HandS.HeadHook2
import PyProof.ReprRoads
import HandS.ExcInit
import HandS.ExcField
import HandS.ExcIs
import KE.KExcIs
import HandS.EndTab
import HandS.HeadHook4
import HandS.Star
import HandS.ClsMeth
import HandS.Lambda
import HandS.RaiseMore
import HandS.Iter
import KE.GoesMore
import PyProof.EnumMake
import HandS.MakeKw
import KE.KCallOwn
import PyProof.InstNe
import HandS.GenList
import PyProof.GenComp
import HandS.TupAny
import HandS.SortInts
import HandS.OwnEq
import HandS.Style
import HandS.Conv
import KE.KSuper
import HandS.NestedK
import HandS.SetFor
import HandS.Strs
import HandS.Zip
import HandS.TryMany
import HandS.FStr
import HandS.TupLe
import HandS.NoneIn
import HandS.Text
import PyProof.EnumFor
import PyProof.Conv_bool
import PyProof.EqKinds
import PyProof.FactsAll.dict_1
import KE.LtData
import PyProof.Claim2Refuses
import HandS.ReplaceLit
import PyProof.NeKinds
import KE.KEqDict
import HandS.TupLen
import HandS.DictTup
import PySem.Challenge.RW_everyhunt_k42_forms_at_lengths
set_option Elab.async false
section
set_option Elab.async false
set_option linter.all false
set_option maxRecDepth 100000
namespace Gh
open PySem PySem.Spec PyProof.Rows L2
structure Df where
  adr : PySem.W.Frag → Addr
  name : Str
  qual : Str
  st : Stmt
  dfl : List He.Dv := []
def Df.val (d : Df) : He.FnW := some (d.name, d.qual, defArgs d.st, .stmts (defBody d.st), defScope d.st, mainGlobals, [], builtinsNs)
def Df.dvs (K : PySem.W.Frag) (d : Df) : List V := d.dfl.map (He.Dv.v K)
def fnAt (K : PySem.W.Frag) (a : Addr) : He.FnW := match K.lookup a with
  | some ⟨_, _, .func fd, _⟩ => some (fd.name, fd.qualname, fd.params, fd.body, fd.scope, fd.globals, fd.closure, fd.builtins)
  | _ => none
def Df.ok (K : PySem.W.Frag) (d : Df) : Bool := PySem.W.keepIn K (.ref (d.adr K)) && (match K.lookup (d.adr K) with
  | some ⟨_, _, .func fd, _⟩ => PySem.W.codeIn K fd.code d.qual && (He.dflB K fd.defaults (d.dvs K) && He.kwdB K fd.kwdefaults [])
  | _ => false)
abbrev Al : Type := Bool × List He.FnW
def obs (ex : List (PySem.W.Frag → Bool)) (fn : List Df) (K : PySem.W.Frag) : Al := ((ex.all fun f => f K) && fn.all fun d => d.ok K, fn.map fun d => fnAt K (d.adr K))
def val (fn : List Df) : Al := (true, fn.map Df.val)
def Says (ex : List (PySem.W.Frag → Bool)) (fn : List Df) (K : PySem.W.Frag) : Prop := obs ex fn K = val fn
def propG (x m : Str) (K : PySem.W.Frag) : Addr := match PySem.W.recIn K (He.ma K (He.ga K x) m) "property" with
  | some (.ref g :: _) => g
  | _ => 0
def propB (x m : Str) (K : PySem.W.Frag) : Bool := He.eqO (PySem.W.findIn K (.ref (He.ga K x)) m) (some (some (.ref (He.ma K (He.ga K x) m)))) &&
  (He.eqO (PySem.W.specialIn K (.ref (He.ma K (He.ga K x) m)) "__get__") (some (some (.builtin "property.__get__"))) &&
  (decide (PySem.W.takesIn K (.ref (He.ma K (He.ga K x) m)) = some true) && (match PySem.W.recIn K (He.ma K (He.ga K x) m) "property" with
    | some (.ref _ :: _) => true
    | _ => false)))
def gd (x : Str) : PySem.W.Frag → Addr := fun K => He.ga K x
def md (x m : Str) : PySem.W.Frag → Addr := fun K => He.ma K (He.ga K x) m
def fa (f : He.Fa) : PySem.W.Frag → Bool := fun K => f.ok K
structure InsT (K : PySem.W.Frag) (C : Addr) : Prop where
  ha : PySem.W.findIn K (.ref C) "__class__" = some (some (.builtin "object.__class__"))
  hn : PySem.W.specialIn K (.builtin "object.__class__") "__get__" = some (some (.builtin "getset_descriptor.__get__"))
  htk : PySem.W.takesIn K (.builtin "object.__class__") = some true
  hm : PySem.W.mroIn K C (.type "object") = some true
  yes : PySem.W.kitOne K (.ref C) (.ref C) = some true
  no : ∀ n ∈ (["NoneType", "bool", "int", "str", "list", "tuple", "dict"] : List String), PySem.W.kitOne K (.type n) (.ref C) = some false
  out : ∀ n ∈ (["NoneType", "bool", "int", "str", "list", "tuple", "dict"] : List String), PySem.W.kitOne K (.ref C) (.type n) = some false
def insB (x : Str) (K : PySem.W.Frag) : Bool := He.eqO (PySem.W.findIn K (.ref (gd x K)) "__class__") (some (some (.builtin "object.__class__"))) &&
  (He.eqO (PySem.W.specialIn K (.builtin "object.__class__") "__get__") (some (some (.builtin "getset_descriptor.__get__"))) &&
  (decide (PySem.W.takesIn K (.builtin "object.__class__") = some true) && (decide (PySem.W.mroIn K (gd x K) (.type "object") = some true) &&
  (decide (PySem.W.kitOne K (.ref (gd x K)) (.ref (gd x K)) = some true) && (((["NoneType", "bool", "int", "str", "list", "tuple", "dict"] : List String).all fun n => decide (PySem.W.kitOne K (.type n) (.ref (gd x K)) = some false)) &&
  ((["NoneType", "bool", "int", "str", "list", "tuple", "dict"] : List String).all fun n => decide (PySem.W.kitOne K (.ref (gd x K)) (.type n) = some false)))))))
end Gh
end
section
set_option Elab.async false
set_option linter.all false
set_option maxRecDepth 100000
set_option maxHeartbeats 4000000
namespace Gh
open PySem PySem.Spec PyProof.Rows L2
structure FnG (P : Program) (w : World) (K : PySem.W.Frag) (mg : Str → Option Value) (base : Heap) (CX : CXT) (k : Nat) (f : Addr) (fd : FuncData) (ps : List Str) (sp : Sp) : Prop where
  len : ∀ vs H Q E, sp vs H Q E → vs.length = ps.length
  run : ∀ (A : Around) (outer : List Env) (s : Shared) (H : Hp) (args : Args) (us : List Value) (vs : List V) (Q : VK) (E : XK), Room k A → A.guards = some [] → Env0 P w K mg base A outer s H → BindsTo s fd args (ps.zip us) → Vals vs us → sp vs H Q E →
    codeAny (model P w) A (.call (.ref f) args) (CR CX outer P w H s Q E) s
def Prom (P : Program) (w : World) (K : PySem.W.Frag) (mg : Str → Option Value) (base : Heap) (CX : CXT) (k : Nat) (f : Addr) (dvs : List V) (sp : Sp) : Prop :=
  ∃ (fd : FuncData) (ps : List Str) (ds : List Value), FnG P w K mg base CX k f fd ps sp ∧ Binds K fd ps ds ∧ Vals dvs ds
section
variable {P : Program} {w : World} {K : PySem.W.Frag} {mg : Str → Option Value} {base : Heap} {CX : CXT} {j k : Nat} {f : Addr} {fd : FuncData} {ps : List Str} {sp : Sp} {dvs : List V}
theorem FnG.mono (F : FnG P w K mg base CX j f fd ps sp) (h : j ≤ k) : FnG P w K mg base CX k f fd ps sp := ⟨F.len, fun A o s H a us vs Q E hr => F.run A o s H a us vs Q E (hr.mono h)⟩
theorem Prom.mono (F : Prom P w K mg base CX j f dvs sp) (h : j ≤ k) : Prom P w K mg base CX k f dvs sp := by
  obtain ⟨fd, ps, ds, G, b, v⟩ := F
  exact ⟨fd, ps, ds, G.mono h, b, v⟩
end
section
variable {X : Cx} {CX : CXT} {k : Nat} {f g C : Addr} {sp : Sp} {dvs : List V} {E : XK} {x m : Str} {p pos apos : Pos} {e o : Expr} {es : List Expr} {ta tb : TE} {t : TA} {r : List V → Hp → VK → Prop}
abbrev PromX (X : Cx) (CX : CXT) (k : Nat) (f : Addr) (dvs : List V) (sp : Sp) : Prop := Prom X.prog X.w X.K X.mg X.base CX k f dvs sp
def rSp (sp : Sp) (dvs : List V) (E : XK) : List V → Hp → VK → Prop := fun xs H Q => sp (xs ++ dvs) H Q E
theorem Prom.call (F : PromX X CX k f dvs sp) (hr : Room k X.A) (hg : X.A.guards = some []) (hx : Passes CX X E) : CallR X (.ref f) (rSp sp dvs E) := by
  intro pins s σ H xs us Q I r h
  obtain ⟨fd, ps, ds, G, b, hd⟩ := F
  have r2 : Vals (xs ++ dvs) (us ++ ds) := r.append hd
  have hl : (us ++ ds).length = ps.length := by rw [← r2.length]; exact G.len _ _ _ _ h
  refine wpAny_call (codeAny_mono (G.run X.A X.stack s H ⟨us, []⟩ (us ++ ds) (xs ++ dvs) Q E hr hg I.env0 (b s us I.kIn hl) r2 h) fun r s' hq => ?_)
  cases r with
  | error e => exact hx pins σ H s e s' I hq
  | ok fl =>
    cases fl with
    | ret u => exact I.after hq
    | next => exact False.elim hq
    | brk => exact False.elim hq
    | cont => exact False.elim hq
theorem ins_look {pins : List (Addr × Obj)} {σ : L2.St} {H : Hp} {s : Shared} {a dx : Addr} {fs : List (Str × V)} (I : Inv X pins σ H s) (h : H a = some (.ins C dx fs)) : ∃ ox od, PySem.W.InstAt s.heap a ox C od := by
  obtain ⟨mA, O, _, _, _, _⟩ := ins_get I.hok h
  obtain ⟨od, J, _⟩ := O.look
  exact ⟨_, _, J⟩
end
end Gh
end
section
set_option Elab.async false
set_option linter.all false
set_option maxRecDepth 100000
set_option maxHeartbeats 4000000
namespace Gh
open PySem PySem.Spec PyProof.Rows L2
def Keep (H H' : Hp) (p : Addr) : Prop := ∀ a o, H a = some o → a ≠ p → H' a = some o
theorem Keep.refl {H : Hp} {p : Addr} : Keep H H p := fun _ _ h _ => h
theorem Keep.trans {H H' H'' : Hp} {p : Addr} (h : Keep H H' p) (k : Keep H' H'' p) : Keep H H'' p := fun a o e n => k a o (h a o e n) n
def PenAt (H : Hp) (p : Addr) (b : Nat) : Prop := ∃ (c : Addr) (ns : List Int) (i z : Int), H p = some (.lst [.ref c, .int i, .int z]) ∧ H c = some (.lst (ns.map V.int)) ∧ ns.length ≤ 63 ∧ 0 ≤ i ∧ i + b ≤ 1000000 ∧ 0 ≤ z
theorem pen_ne {H : Hp} {p c : Addr} {ns : List Int} {i z : Int} (h : H p = some (.lst [.ref c, .int i, .int z])) (k : H c = some (.lst (ns.map V.int))) : c ≠ p := by
  refine ne_of k h fun e => ?_
  have e2 : ns.map V.int = [.ref c, .int i, .int z] := HO.lst.inj e
  cases ns with
  | nil => cases e2
  | cons n r => cases (List.cons.inj e2).1
theorem PenAt.same {H H' : Hp} {p : Addr} {b : Nat} (h : PenAt H p b) (n : L2.Same H H') : PenAt H' p b := by
  obtain ⟨c, ns, i, z, h1, h2, h3⟩ := h
  exact ⟨c, ns, i, z, n _ _ h1, n _ _ h2, h3⟩
end Gh
end
section
set_option Elab.async false
set_option linter.all false
set_option maxRecDepth 100000
set_option maxHeartbeats 4000000
namespace Gh
open PySem PySem.Spec PyProof.Rows L2
theorem PenAt.ne {H : Hp} {p c : Addr} {b : Nat} (h : PenAt H p b) (n : H c = none) : c ≠ p := by
  obtain ⟨d, ns, i, z, h1, _⟩ := h
  exact (ne_of_none h1 n).symm
section
variable {X : Cx} {K : PySem.W.Frag}
end
end Gh
end
section
set_option Elab.async false
set_option linter.all false
set_option maxRecDepth 100000
set_option maxHeartbeats 4000000
namespace Gh
open PySem PySem.Spec PyProof.Rows L2
def exk (a C d : Addr) : HO := .ext fun h => ∃ (o : Obj) (vs : Array Value), h.get? a = some o ∧ o.cls = .ref C ∧ o.dict = some d ∧ o.data = .fields vs
def errB (x : Str) (K : PySem.W.Frag) : Bool := He.eqO (PySem.W.findIn K (.ref (gd x K)) "__getattribute__") (some (some (.builtin "BaseException.__getattribute__"))) &&
  (He.eqO (PySem.W.findIn K (.ref (gd x K)) "__getattr__") (some none) && (decide (PySem.W.subIn K (.ref (gd x K)) (.type "BaseException") = some true) && (PySem.W.hasDictIn K (gd x K) &&
  (He.eqO (PySem.W.findIn K (.ref (gd x K)) "__class__") (some (some (.builtin "object.__class__"))) && (He.eqO (PySem.W.specialIn K (.builtin "object.__class__") "__get__") (some (some (.builtin "getset_descriptor.__get__"))) &&
  (decide (PySem.W.takesIn K (.builtin "object.__class__") = some true) && decide (PySem.W.mroIn K (gd x K) (.type "object") = some true)))))))
section
variable {X : Cx} {e : Expr} {te : TE} {pos : Pos} {n : Str}
end
section
variable {X : Cx} {x n : Str} {c : Value} {i : Nat} {body suite : List Stmt} {b₀ : Stmt} {np pos pos' : Pos} {tb : WX → TS} {ts : Addr → Value → Option Addr → TS} {Wout : WX}
end
end Gh
end
section
set_option Elab.async false
set_option linter.all false
set_option maxRecDepth 100000
set_option maxHeartbeats 4000000
namespace Gh
open PySem PySem.Spec PyProof.Rows L2
structure SaysT (ex : List (PySem.W.Frag → Bool)) (fn : List Df) (tf : List He.Defn) (h : Heap) (K : PySem.W.Frag) : Prop where
  t : Says ex fn K
  hd : ∀ p ∈ tf, PySem.W.codeHdIn K (He.cT K p).1 (He.cT K p).2 = true
  out : ∀ p ∈ tf, K.lookup (He.cT K p).2 = none
  empty : ∀ p ∈ tf, h.get? (He.cT K p).2 = some { cls := .none, data := .fields #[] }
abbrev AlT : Type := Al × Bool
end Gh
end
section
set_option Elab.async false
set_option linter.all false
set_option maxRecDepth 100000
set_option maxHeartbeats 4000000
namespace Gh
open PySem PySem.Spec PyProof.Rows L2
def PromO (P : Program) (w : World) (K : PySem.W.Frag) (mg : Str → Option Value) (base : Heap) (CX : CXT) (k : Nat) (f : Addr) (dvs : List V) (sp : Sp) : Prop :=
  ∃ (fd : FuncData) (ps : List Str) (ds : List Value), FnOk P w K mg base CX k f fd ps sp ∧ Binds K fd ps ds ∧ Vals dvs ds
section
variable {X : Cx} {CX : CXT} {k : Nat} {f g C : Addr} {sp : Sp} {dvs : List V} {E : XK} {m : Str} {pos : Pos} {o : Expr} {ta : TE}
abbrev PromOX (X : Cx) (CX : CXT) (k : Nat) (f : Addr) (dvs : List V) (sp : Sp) : Prop := PromO X.prog X.w X.K X.mg X.base CX k f dvs sp
theorem PromO.call (F : PromOX X CX k f dvs sp) (hr : Room k X.A) (hx : Passes CX X E) : CallR X (.ref f) (rSp sp dvs E) := by
  intro pins s σ H xs us Q I r h
  obtain ⟨fd, ps, ds, G, b, hd⟩ := F
  exact run_fn G hr b hd hx I r h
end
def oexB (x : Str) (K : PySem.W.Frag) : Bool := (match K.lookup (gd x K) with
  | some ⟨.type c, _, .cls ⟨_, _, .ref m :: bm, _, _, hd, _, _, _, _, dl⟩, ⟨[_, _, _, _, some (.builtin n), _]⟩⟩ => decide (c = "type") && (decide (m = gd x K) && (PySem.HandSPX.refsVE bm && (hd && (!dl && decide (n = "ValueError.__new__")))))
  | _ => false) && (He.eqO (PySem.W.findIn K (.ref (gd x K)) "__setattr__") (some (some (.builtin "object.__setattr__"))) && (decide (PySem.W.subIn K (.ref (gd x K)) (.type "BaseException") = some true) &&
  (decide (PySem.W.typeIn K (.ref (gd x K)) = some (.type "type")) && PySem.W.keepIn K (.ref (gd x K)))))
inductive Kd (H : Hp) : V → Prop
  | non : Kd H .non
  | bl (b : Bool) : Kd H (.bl b)
  | int (i : Int) : Kd H (.int i)
  | str (x : Str) : Kd H (.str x)
  | lst {a : Addr} {xs : List V} (h : H a = some (.lst xs)) : Kd H (.ref a)
  | tup {a : Addr} {xs : List V} (h : H a = some (.tup xs)) : Kd H (.ref a)
  | dK {a : Addr} {kvs : List (Key × V)} (h : H a = some (.dK kvs)) : Kd H (.ref a)
theorem Kd.ty {K : PySem.W.Frag} {H : Hp} {v : V} (k : Kd H v) : ∃ n : String, TyX K H v (.type n) ∧ ((∃ i, v = .int i) ∧ n = "int" ∨ (∃ b, v = .bl b) ∧ n = "bool" ∨ (∀ i, v ≠ .int i) ∧ (∀ b, v ≠ .bl b) ∧ n ∈ (["NoneType", "str", "list", "tuple", "dict"] : List String)) := by
  cases k with
  | non => exact ⟨_, .base .non, .inr (.inr ⟨fun _ => nofun, fun _ => nofun, by decide⟩)⟩
  | bl b => exact ⟨_, .base (.bl b), .inr (.inl ⟨⟨b, rfl⟩, rfl⟩)⟩
  | int i => exact ⟨_, .base (.int i), .inl ⟨⟨i, rfl⟩, rfl⟩⟩
  | str x => exact ⟨_, .base (.str x), .inr (.inr ⟨fun _ => nofun, fun _ => nofun, by decide⟩)⟩
  | lst h => exact ⟨_, .base (.lst h), .inr (.inr ⟨fun _ => nofun, fun _ => nofun, by decide⟩)⟩
  | tup h => exact ⟨_, .base (.tup h), .inr (.inr ⟨fun _ => nofun, fun _ => nofun, by decide⟩)⟩
  | dK h => exact ⟨_, .base (.dK h), .inr (.inr ⟨fun _ => nofun, fun _ => nofun, by decide⟩)⟩
theorem Kd.same {H H' : Hp} {v : V} (k : Kd H v) (s : L2.Same H H') : Kd H' v := by
  cases k with
  | non => exact .non
  | bl b => exact .bl b
  | int i => exact .int i
  | str x => exact .str x
  | lst h => exact .lst (s _ _ h)
  | tup h => exact .tup (s _ _ h)
  | dK h => exact .dK (s _ _ h)
end Gh
end
section
set_option Elab.async false
set_option linter.all false
set_option maxRecDepth 100000
set_option maxHeartbeats 4000000
namespace Gh
open PySem PySem.Spec PyProof.Rows L2
inductive Shw (K : PySem.W.Frag) (H : Hp) : V → Str → Prop
  | non : Shw K H .non "None"
  | bl (b : Bool) : Shw K H (.bl b) (if b then "True" else "False")
  | int (i : Int) : i.natAbs.log2 < 1920 → Shw K H (.int i) (toString i)
  | str (x : Str) : (reprText x).length ≤ sizeLine → Shw K H (.str x) (reprText x)
  | dp {a : Addr} {d : PyData} : Dp K H (.ref a) d → d.showable = true → d.hasDict = false → d.depth ≤ 100 → d.shown.length ≤ sizeLine → Shw K H (.ref a) d.shown
theorem sqL_same {K : PySem.W.Frag} {H H' : Hp} {a : Addr} {xs : List V} (h : SqL K H a xs) (s : L2.Same H H') : SqL K H' a xs := by
  rcases h with (h | ⟨o, h⟩) | h
  · exact .inl (.inl (s _ _ h))
  · exact .inl (.inr ⟨o, s _ _ h⟩)
  · exact .inr h
theorem sqT_same {K : PySem.W.Frag} {H H' : Hp} {a : Addr} {xs : List V} (h : SqT K H a xs) (s : L2.Same H H') : SqT K H' a xs := by
  rcases h with (h | ⟨o, h⟩) | h
  · exact .inl (.inl (s _ _ h))
  · exact .inl (.inr ⟨o, s _ _ h⟩)
  · exact .inr h
mutual
theorem dp_same {K : PySem.W.Frag} {H H' : Hp} (s : L2.Same H H') : ∀ {v : V} {d : PyData}, Dp K H v d → Dp K H' v d
  | _, _, .non => .non
  | _, _, .bl b => .bl b
  | _, _, .int i => .int i
  | _, _, .str x => .str x
  | _, _, .lst h a => .lst (sqL_same h s) (dpAll_same s a)
  | _, _, .tup h a => .tup (sqT_same h s) (dpAll_same s a)
theorem dpAll_same {K : PySem.W.Frag} {H H' : Hp} (s : L2.Same H H') : ∀ {vs : List V} {ds : List PyData}, DpAll K H vs ds → DpAll K H' vs ds
  | _, _, .nil => .nil
  | _, _, .cons a r => .cons (dp_same s a) (dpAll_same s r)
end
theorem Shw.same {K : PySem.W.Frag} {H H' : Hp} {v : V} {t : Str} (h : Shw K H v t) (s : L2.Same H H') : Shw K H' v t := by
  cases h with
  | non => exact .non
  | bl b => exact .bl b
  | int i h => exact .int i h
  | str x h => exact .str x h
  | dp a b c d e => exact .dp (dp_same s a) b c d e
section
variable {X : Cx} {K : PySem.W.Frag}
variable {CX : CXT} {x : Str} {C fI : Addr} {k : Nat} {sp : Sp} {dvs : List V} {e : Expr} {es : List Expr} {ta : TA} {p pos : Pos}
end
def iniB (x : Str) (K : PySem.W.Frag) : Bool := He.eqO (PySem.W.findIn K (.ref (gd x K)) "__init__") (some (some (.ref (md x "__init__" K)))) && decide (PySem.W.typeIn K (.ref (md x "__init__" K)) = some (.type "function"))
end Gh
end
section
set_option Elab.async false
set_option linter.all false
set_option maxRecDepth 100000
set_option maxHeartbeats 4000000
namespace Gh
open PySem PySem.Spec PyProof.Rows L2
section
variable {prog : Program} {w : World} {A : Around} {E : Value → Shared → Prop} {s : Shared}
end
theorem PI.or {X : Cx} {tg iter : Expr} {w1 w2 : TI} (a : PI X tg iter w1) (b : PI X tg iter w2) : PI X tg iter (fun σ H R => w1 σ H R ∨ w2 σ H R) :=
  ⟨fun pins s σ H R I h => h.elim (a.run pins s σ H R I) (b.run pins s σ H R I)⟩
end Gh
end
section
set_option Elab.async false
set_option linter.all false
set_option maxRecDepth 100000
set_option maxHeartbeats 4000000
namespace Gh
open PySem PySem.Spec PyProof.Rows L2
structure Nw (H H' : Hp) (p : Addr) (o : HO) : Prop where
  no : H p = none
  same : L2.Same H H'
  at_ : H' p = some o
structure Mu (H H' : Hp) (p : Addr) (o : HO) : Prop where
  keep : Keep H H' p
  at_ : H' p = some o
section
variable {H H' : Hp} {p a l : Addr} {o u : HO}
theorem Nw.up (n : Nw H H' p o) (h : H a = some u) : H' a = some u := n.same _ _ h
theorem Mu.up (n : Mu H H' p o) (e : a ≠ p) (h : H a = some u) : H' a = some u := n.keep _ _ h e
theorem Mu.free (n : Mu H H' p o) (h : H' a = none) : H a = none := by
  cases e : H a with
  | none => rfl
  | some u =>
    by_cases q : a = p
    · subst q
      rw [n.at_] at h
      cases h
    · rw [n.up q e] at h
      cases h
theorem Nw.ne (n : Nw H H' l o) (h : H a = some u) : l ≠ a := fun e => by
  rw [← e, n.no] at h
  cases h
end
def Pen (H : Hp) (p c : Addr) (b : Nat) : Prop := ∃ (ns : List Int) (i z : Int), H p = some (.lst [.ref c, .int i, .int z]) ∧ H c = some (.lst (ns.map V.int)) ∧ ns.length ≤ 63 ∧ 0 ≤ i ∧ i + b ≤ 1000000 ∧ 0 ≤ z
section
variable {H H' : Hp} {p c a l : Addr} {o u : HO} {b k : Nat} {xs : List V} {C dx : Addr} {fs : List (Str × V)}
theorem Pen.same (n : L2.Same H H') (h : Pen H p c b) : Pen H' p c b := by
  obtain ⟨ns, i, z, h1, h2, h3⟩ := h
  exact ⟨ns, i, z, n _ _ h1, n _ _ h2, h3⟩
theorem Pen.keep (n : Keep H H' l) (e1 : l ≠ p) (e2 : l ≠ c) (h : Pen H p c b) : Pen H' p c b := by
  obtain ⟨ns, i, z, h1, h2, h3⟩ := h
  exact ⟨ns, i, z, n _ _ h1 e1.symm, n _ _ h2 e2.symm, h3⟩
theorem Pen.cells (h : Pen H p c b) : c ≠ p := by
  obtain ⟨ns, i, z, h1, h2, h3⟩ := h
  exact pen_ne h1 h2
end
section
variable {H H' : Hp} {a t l : Addr} {o u : HO} {xs ys : List V} {C dx : Addr} {fs : List (Str × V)}
end
section
variable {H : Hp} {E : XK} {Q : VK} {p c l : Addr} {b : Nat} {m : Int} {xs : List V}
end
section
variable {X : Cx} {K : PySem.W.Frag}
end
section
variable {K : PySem.W.Frag} {H : Hp} {σ : L2.St} {Q : VK} {D : Ends} {i j n : Int} {x y v : V} {ta tb tc te tf : TE} {t u : TS} {c d : TT} {k : Bool} {a l p C dx : Addr} {xs ys : List V} {A B : Prop}
end
end Gh
end
section
set_option Elab.async false
set_option linter.all false
set_option maxRecDepth 100000
set_option maxHeartbeats 4000000
namespace Gh
open PySem PySem.Spec PyProof.Rows L2
section
variable {X : Cx} {a b c d : Expr} {ta tb tc td : TE} {pos : Pos}
end
def CallK (X : Cx) (u : Value) (ks : List Str) (r : List V → List V → Hp → VK → Prop) : Prop := ∀ (pins : List (Addr × Obj)) (s : Shared) (σ : L2.St) (H : Hp) (vs zs : List V) (us ws : List Value) (Q : VK), Inv X pins σ H s → Vals vs us → Vals zs ws → r vs zs H Q → wpAny (model X.prog X.w) X.A (call u us (ks.zip ws)) (EP X pins σ Q) X.xe s
def PromK (P : Program) (w : World) (K : PySem.W.Frag) (mg : Str → Option Value) (base : Heap) (CX : CXT) (k : Nat) (f : Addr) (n : Nat) (ks : List Str) (gV : List V → List V → List V) (sp : Sp) : Prop :=
  ∃ (fd : FuncData) (ps : List Str) (g : List Value → List Value → List Value), FnOk P w K mg base CX k f fd ps sp ∧ KBn K fd ps n ks g gV
section
variable {K : PySem.W.Frag} {x qual : Str} {params : Arguments} {body : List Stmt} {scope : Scope} {dvs : List V} {kws : List (Str × V)} {f : Addr} {fd : FuncData} {ps : List Str}
end
section
variable {X : Cx} {CX : CXT} {k n : Nat} {f C : Addr} {ks : List Str} {sp : Sp} {E : XK} {x m : Str} {p pos apos : Pos} {e o : Expr} {es : List Expr} {kws : List Keyword} {t tk : TA} {ta : TE} {gV : List V → List V → List V} {r : List V → List V → Hp → VK → Prop}
def rSpK (n m : Nat) (gV : List V → List V → List V) (sp : Sp) (E : XK) : List V → List V → Hp → VK → Prop := fun vs zs H Q => vs.length = n ∧ zs.length = m ∧ sp (gV vs zs) H Q E
theorem PromK.call (F : PromK X.prog X.w X.K X.mg X.base CX k f n ks gV sp) (hr : Room k X.A) (hx : Passes CX X E) : CallK X (.ref f) ks (rSpK n ks.length gV sp E) := by
  intro pins s σ H vs zs us ws Q I rv rz ⟨l1, l2, h⟩
  obtain ⟨fd, ps, g, G, b⟩ := F
  exact run_fnN G hr b hx I rv rz l1 l2 h
end
section
variable {H : Hp} {σ : L2.St} {Q : VK} {ta : TE} {t tk : TA} {r : List V → List V → Hp → VK → Prop} {C : Addr} {m : Str} {n k : Nat} {gV : List V → List V → List V} {sp : Sp} {E : XK} {vs zs : List V}
end
end Gh
end
section
set_option Elab.async false
set_option linter.all false
set_option maxRecDepth 100000
set_option maxHeartbeats 4000000
namespace Gh
open PySem PySem.Spec PyProof.Rows L2
structure Fn (d : PyData) (n b : Nat) : Prop where
  cl : d.canLay0 = true
  sh : d.showable = true
  nd : d.hasDict = false
  ls : d.leavesShort 200 = true
  dp : d.depth ≤ n
  bk : d.bulk ≤ b
structure FnAll (ds : List PyData) (n b : Nat) : Prop where
  cl : PyData.canLayAll0 ds = true
  sh : PyData.showableAll ds = true
  nd : PyData.hasDictAll ds = false
  ls : PyData.leavesShortAll 200 ds = true
  dp : PyData.depthAll ds ≤ n
  bk : PyData.bulkAll ds ≤ b
theorem log_lt100 {i : Int} (h1 : -(10 ^ 100) < i) (h2 : i < 10 ^ 100) : i.natAbs.log2 < 1920 := by
  have h : i.natAbs < 2 ^ 1920 := Nat.lt_of_lt_of_le (show i.natAbs < 10 ^ 100 by omega) (by decide)
  by_cases h0 : i.natAbs = 0
  · rw [h0]
    decide
  · exact (Nat.log2_lt h0).mpr h
theorem Fn.int {i : Int} (h1 : -(10 ^ 100) < i) (h2 : i < 10 ^ 100) : Fn (.int i) 0 0 := by
  refine ⟨rfl, decide_eq_true (log_lt100 h1 h2), rfl, ?_, Nat.le_refl _, Nat.le_refl _⟩
  have e := int_text_length_le10 (a := i) (k := 100) (by decide) (by omega)
  refine decide_eq_true ?_
  show (Str.ofString (toString i)).length ≤ 200
  rw [PySem.ofString_length]
  omega
theorem Fn.bool (b : Bool) : Fn (.bool b) 0 0 := ⟨rfl, rfl, rfl, rfl, Nat.le_refl _, Nat.le_refl _⟩
theorem Fn.none : Fn .none 0 0 := ⟨rfl, rfl, rfl, rfl, Nat.le_refl _, Nat.le_refl _⟩
theorem Fn.str {x : Str} (h0 : (PyData.str x).canLay0 = true) (h : (x.cps.toList.all fun c => decide (c < 16 ^ 8)) = true) : Fn (.str x) 0 x.cps.size := ⟨h0, rfl, rfl, h, Nat.le_refl _, Nat.le_refl _⟩
theorem FnAll.nil {n b : Nat} : FnAll [] n b := ⟨rfl, rfl, rfl, rfl, Nat.zero_le _, Nat.zero_le _⟩
theorem FnAll.cons {d : PyData} {ds : List PyData} {n b c : Nat} (h : Fn d n b) (k : FnAll ds n c) : FnAll (d :: ds) n (b + 1 + c) := by
  refine ⟨?_, ?_, ?_, ?_, ?_, ?_⟩
  · show (d.canLay0 && _) = true
    rw [h.cl, k.cl] <;> rfl
  · show (d.showable && _) = true
    rw [h.sh, k.sh] <;> rfl
  · show (d.hasDict || _) = false
    rw [h.nd, k.nd] <;> rfl
  · show (d.leavesShort 200 && _) = true
    rw [h.ls, k.ls] <;> rfl
  · show max _ _ ≤ n
    exact Nat.max_le.mpr ⟨h.dp, k.dp⟩
  · show d.bulk + 1 + _ ≤ _
    have := h.bk
    have := k.bk
    omega
theorem Fn.list {ds : List PyData} {n b : Nat} (h : FnAll ds n b) : Fn (.list ds) (n + 1) b := ⟨h.cl, h.sh, h.nd, h.ls, Nat.succ_le_succ h.dp, h.bk⟩
theorem Fn.tuple {ds : List PyData} {n b : Nat} (h : FnAll ds n b) : Fn (.tuple ds) (n + 1) b := ⟨h.cl, h.sh, h.nd, h.ls, Nat.succ_le_succ h.dp, h.bk⟩
theorem Fn.shaped {d : PyData} {n b : Nat} (h : Fn d n b) (hn : n ≤ 64) : SeqAt.shaped d = true := by
  unfold SeqAt.shaped
  rw [h.cl, decide_eq_true (Nat.le_trans h.dp hn)] <;> rfl
theorem Fn.eqv {d : PyData} {n b : Nat} (h : Fn d n b) : PyData.eqv d d = true := SeqAt.eqv_refl d h.cl
section
variable {K : PySem.W.Frag} {H : Hp} {a : Addr} {ns : List Int}
end
section
variable {H H' : Hp} {a l p c : Addr} {u : HO} {b : Nat}
end
section
variable {K : PySem.W.Frag} {H : Hp} {σ : L2.St} {Q : VK} {m : Nat} {tt : TT} {te tl : TE} {vs : List Nat} {t : TA} {a : Addr} {xs : List V}
end
section
variable {H H' : Hp} {a l p c : Addr} {u : HO} {b : Nat}
end
section
variable {K : PySem.W.Frag} {H : Hp} {σ : L2.St} {D : Ends} {m : Nat} {g : TG} {tb : TS} {tl : TE} {t : TA} {a : Addr} {xs : List V}
end
section
end
end Gh
end
section
set_option Elab.async false
set_option linter.all false
set_option maxRecDepth 100000
set_option maxHeartbeats 4000000
namespace Gh
open PySem PySem.Spec PyProof.Rows L2
section
variable {H H' : Hp} {a l p c t : Addr} {o u : HO} {b : Nat} {xs : List V} {T : List (Addr × Str)} {C dx : Addr} {fs : List (Str × V)}
def Fr (H H' : Hp) (p : Addr) : Prop := ∀ a o, H a = some o → a ≠ p → (∀ ps, o ≠ .tbl ps) → H' a = some o
theorem Fr.refl : Fr H H p := fun _ _ h _ _ => h
theorem Fr.trans {H1 : Hp} (n : Fr H H1 p) (k : Fr H1 H' p) : Fr H H' p := fun a o h e z => k a o (n a o h e z) e z
end
section
variable {X : Cx} {H : Hp} {σ : L2.St} {Q : VK} {T : List (Addr × Str)} {TT : (XK → Hp → VK → Prop) → Hp → VK → Prop} {t : XK → TE}
end
end Gh
end
section
set_option Elab.async false
set_option linter.all false
set_option maxRecDepth 100000
set_option maxHeartbeats 4000000
namespace Gh
open PySem PySem.Spec PyProof.Rows L2
section
variable {X : Cx} {CX : CXT} {k : Nat} {C f : Addr} {sp : Sp} {E : XK} {r : List V → Hp → VK → Prop}
theorem InsT.ty {K : PySem.W.Frag} {H : Hp} {a C dx : Addr} {fs : List (Str × V)} (t : InsT K C) (c : Cls K C) (h : H a = some (.ins C dx fs)) : TyX K H (.ref a) (.ref C) := .base (.ins h c t.ha t.hn t.htk t.hm)
end
end Gh
end
section
set_option Elab.async false
set_option linter.all false
set_option maxRecDepth 100000
set_option maxHeartbeats 4000000
namespace Gp
open PySem PySem.Spec PyProof.Rows L2 Gh
inductive D where
  | non | bl (b : Bool) | int (i : Int) | str (x : Str) | tup (ds : List D) | lst (ds : List D)
  | obj (c : Str) (fs : List (Str × D)) | err (c : Str) (fs : List (Str × D)) | pen
  | cls (c : Str) | dct | dic (ps : List (Key × D)) | dit (ps : List (List Key × D)) | dik (ps : List (Key × D))
abbrev Fs := List (Str × D)
inductive Tr (α : Type) where
  | ok (a : α) | ex (c : Str) (fs : Fs) | bad | draw (m : Int) (k : Int → Tr α)
section
variable {α β γ : Type}
def bd : Tr α → (α → Tr β) → Tr β
  | .ok a, k => k a
  | .ex c fs, _ => .ex c fs
  | .bad, _ => .bad
  | .draw m f, k => .draw m fun d => bd (f d) k
def Al (P : α → Nat → Prop) (E : Str → Fs → Nat → Prop) : Tr α → Nat → Prop
  | .ok a, b => P a b
  | .ex c fs, b => E c fs b
  | .bad, _ => False
  | .draw m k, b => ∃ b', b = b' + 1 ∧ 0 < m ∧ m < 10 ^ 100 ∧ ∀ d, 0 ≤ d → d < m → Al P E (k d) b'
theorem Al.mono {P P' : α → Nat → Prop} {E E' : Str → Fs → Nat → Prop} (hP : ∀ a b, P a b → P' a b) (hE : ∀ c fs b, E c fs b → E' c fs b) {m : Tr α} {b : Nat} (h : Al P E m b) : Al P' E' m b := by
  induction m generalizing b with
  | ok a => exact hP _ _ h
  | ex c fs => exact hE _ _ _ h
  | bad => exact h
  | draw m f ih =>
    obtain ⟨b', e, h1, h2, h3⟩ := h
    exact ⟨b', e, h1, h2, fun d d0 d1 => ih d (h3 d d0 d1)⟩
end
def pr2 : List D → Bool
  | [.int _, .int _] => true
  | _ => false
structure Gw where
  K : PySem.W.Frag
  T : List (Addr × Str)
  p : Addr
  c : Addr
mutual
inductive Den (g : Gw) (U : Addr → Prop) (H : Hp) : V → D → Prop
  | non : Den g U H .non .non
  | bl (b : Bool) : Den g U H (.bl b) (.bl b)
  | int (i : Int) : Den g U H (.int i) (.int i)
  | str (x : Str) : x.length ≤ sizeLine → Den g U H (.str x) (.str x)
  | tup {a : Addr} {vs : List V} {ds : List D} : H a = some (.tup vs) → ¬ U a → vs.length ≤ sizeLine → DenL g U H vs ds → Den g U H (.ref a) (.tup ds)
  | tupW {a : Addr} {vs : List V} {ds : List D} : (∀ H', SqT g.K H' a vs) → vs.length ≤ sizeLine → DenL g U H vs ds → pr2 ds = false → Den g U H (.ref a) (.tup ds)
  | lst {a : Addr} {vs : List V} {ds : List D} : H a = some (.lst vs) → ¬ U a → vs.length ≤ sizeLine → DenL g U H vs ds → Den g U H (.ref a) (.lst ds)
  | obj {a dx : Addr} {c : Str} {fvs : List (Str × V)} {fs : List (Str × D)} : H a = some (.ins (gd c g.K) dx fvs) → ¬ U a → DenF g U H fvs fs → Den g U H (.ref a) (.obj c fs)
  | err {a d : Addr} {c : Str} {fvs : List (Str × V)} {fs : List (Str × D)} : H a = some (exk a (gd c g.K) d) → ¬ U a → H d = some (.xd fvs) → ¬ U d → DenF g U H fvs fs → Den g U H (.ref a) (.err c fs)
  | pen : Den g U H (.ref g.p) .pen
  | cls (c : Str) : Den g U H (.ref (gd c g.K)) (.cls c)
  | dct {a : Addr} : H a = some (.dK []) → ¬ U a → Den g U H (.ref a) .dct
  | dic {a : Addr} {kvs : List (Key × V)} {ps : List (Key × D)} : H a = some (.dK kvs) → ¬ U a → kvs.map (·.1) = ps.map (·.1) → DenL g U H (kvs.map (·.2)) (ps.map (·.2)) → Den g U H (.ref a) (.dic ps)
  | dit {a : Addr} {ob : Obj} {kvs : List (List Key × V)} {ps : List (List Key × D)} : H a = some (.frz ob (.dT kvs)) → ¬ U a → kvs.map (·.1) = ps.map (·.1) → DenL g U H (kvs.map (·.2)) (ps.map (·.2)) → Den g U H (.ref a) (.dit ps)
  | dik {a : Addr} {ob : Obj} {kvs : List (Key × V)} {ps : List (Key × D)} : H a = some (.frz ob (.dK kvs)) → ¬ U a → kvs.map (·.1) = ps.map (·.1) → DenL g U H (kvs.map (·.2)) (ps.map (·.2)) → Den g U H (.ref a) (.dik ps)
inductive DenL (g : Gw) (U : Addr → Prop) (H : Hp) : List V → List D → Prop
  | nil : DenL g U H [] []
  | cons {v : V} {vs : List V} {d : D} {ds : List D} : Den g U H v d → DenL g U H vs ds → DenL g U H (v :: vs) (d :: ds)
inductive DenF (g : Gw) (U : Addr → Prop) (H : Hp) : List (Str × V) → List (Str × D) → Prop
  | nil : DenF g U H [] []
  | cons {n : Str} {v : V} {vs : List (Str × V)} {d : D} {ds : List (Str × D)} : Den g U H v d → DenF g U H vs ds → DenF g U H ((n, v) :: vs) ((n, d) :: ds)
end
section
variable {g : Gw} {U U' : Addr → Prop} {H H' : Hp}
def ExtU (U : Addr → Prop) (H H' : Hp) : Prop := ∀ a o, H a = some o → ¬ U a → (∀ ps, o ≠ .tbl ps) → H' a = some o
mutual
theorem Den.ext (e : ExtU U H H') : ∀ {v : V} {d : D}, Den g U H v d → Den g U H' v d
  | _, _, .non => .non
  | _, _, .bl b => .bl b
  | _, _, .int i => .int i
  | _, _, .str x h => .str x h
  | _, _, .tup h n l k => .tup (e _ _ h n (fun _ z => by cases z)) n l (DenL.ext e k)
  | _, _, .tupW h l k nk => .tupW h l (DenL.ext e k) nk
  | _, _, .lst h n l k => .lst (e _ _ h n (fun _ z => by cases z)) n l (DenL.ext e k)
  | _, _, .obj h n k => .obj (e _ _ h n (fun _ z => by cases z)) n (DenF.ext e k)
  | _, _, .err h n h2 n2 k => .err (e _ _ h n (fun _ z => by unfold exk at z; cases z)) n (e _ _ h2 n2 (fun _ z => by cases z)) n2 (DenF.ext e k)
  | _, _, .pen => .pen
  | _, _, .cls c => .cls c
  | _, _, .dct h n => .dct (e _ _ h n (fun _ z => by cases z)) n
  | _, _, .dic h n l k => .dic (e _ _ h n (fun _ z => by cases z)) n l (DenL.ext e k)
  | _, _, .dit h n l k => .dit (e _ _ h n (fun _ z => by cases z)) n l (DenL.ext e k)
  | _, _, .dik h n l k => .dik (e _ _ h n (fun _ z => by cases z)) n l (DenL.ext e k)
theorem DenL.ext (e : ExtU U H H') : ∀ {vs : List V} {ds : List D}, DenL g U H vs ds → DenL g U H' vs ds
  | _, _, .nil => .nil
  | _, _, .cons a r => .cons (Den.ext e a) (DenL.ext e r)
theorem DenF.ext (e : ExtU U H H') : ∀ {vs : List (Str × V)} {ds : List (Str × D)}, DenF g U H vs ds → DenF g U H' vs ds
  | _, _, .nil => .nil
  | _, _, .cons a r => .cons (Den.ext e a) (DenF.ext e r)
end
mutual
theorem Den.sub (e : ∀ a, (∃ o, H a = some o) → U' a → U a) : ∀ {v : V} {d : D}, Den g U H v d → Den g U' H v d
  | _, _, .non => .non
  | _, _, .bl b => .bl b
  | _, _, .int i => .int i
  | _, _, .str x h => .str x h
  | _, _, .tup h n l k => .tup h (fun z => n (e _ ⟨_, h⟩ z)) l (DenL.sub e k)
  | _, _, .tupW h l k nk => .tupW h l (DenL.sub e k) nk
  | _, _, .lst h n l k => .lst h (fun z => n (e _ ⟨_, h⟩ z)) l (DenL.sub e k)
  | _, _, .obj h n k => .obj h (fun z => n (e _ ⟨_, h⟩ z)) (DenF.sub e k)
  | _, _, .err h n h2 n2 k => .err h (fun z => n (e _ ⟨_, h⟩ z)) h2 (fun z => n2 (e _ ⟨_, h2⟩ z)) (DenF.sub e k)
  | _, _, .pen => .pen
  | _, _, .cls c => .cls c
  | _, _, .dct h n => .dct h (fun z => n (e _ ⟨_, h⟩ z))
  | _, _, .dic h n l k => .dic h (fun z => n (e _ ⟨_, h⟩ z)) l (DenL.sub e k)
  | _, _, .dit h n l k => .dit h (fun z => n (e _ ⟨_, h⟩ z)) l (DenL.sub e k)
  | _, _, .dik h n l k => .dik h (fun z => n (e _ ⟨_, h⟩ z)) l (DenL.sub e k)
theorem DenL.sub (e : ∀ a, (∃ o, H a = some o) → U' a → U a) : ∀ {vs : List V} {ds : List D}, DenL g U H vs ds → DenL g U' H vs ds
  | _, _, .nil => .nil
  | _, _, .cons a r => .cons (Den.sub e a) (DenL.sub e r)
theorem DenF.sub (e : ∀ a, (∃ o, H a = some o) → U' a → U a) : ∀ {vs : List (Str × V)} {ds : List (Str × D)}, DenF g U H vs ds → DenF g U' H vs ds
  | _, _, .nil => .nil
  | _, _, .cons a r => .cons (Den.sub e a) (DenF.sub e r)
end
theorem DenL.length : ∀ {vs : List V} {ds : List D}, DenL g U H vs ds → vs.length = ds.length
  | _, _, .nil => rfl
  | _, _, .cons _ r => congrArg (· + 1) (DenL.length r)
theorem DenL.append : ∀ {vs ws : List V} {ds es : List D}, DenL g U H vs ds → DenL g U H ws es → DenL g U H (vs ++ ws) (ds ++ es)
  | _, _, _, _, .nil, k => k
  | _, _, _, _, .cons a r, k => .cons a (DenL.append r k)
theorem DenL.get : ∀ {vs : List V} {ds : List D} {i : Nat} {v : V}, DenL g U H vs ds → vs[i]? = some v → ∃ d, ds[i]? = some d ∧ Den g U H v d
  | _, _, i, v, .nil, e => by simp at e
  | _, _, 0, v, .cons a r, e => by simp at e; subst e; exact ⟨_, rfl, a⟩
  | _, _, i + 1, v, .cons a r, e => by
    obtain ⟨d, h1, h2⟩ := DenL.get (i := i) (v := v) r (by simpa using e)
    exact ⟨d, by simpa using h1, h2⟩
theorem DenL.getD : ∀ {vs : List V} {ds : List D} {i : Nat} {d : D}, DenL g U H vs ds → ds[i]? = some d → ∃ v, vs[i]? = some v ∧ Den g U H v d
  | _, _, i, v, .nil, e => by simp at e
  | _, _, 0, v, .cons a r, e => by simp at e; subst e; exact ⟨_, rfl, a⟩
  | _, _, i + 1, v, .cons a r, e => by
    obtain ⟨d, h1, h2⟩ := DenL.getD (i := i) (d := v) r (by simpa using e)
    exact ⟨d, by simpa using h1, h2⟩
theorem DenL.set : ∀ {vs : List V} {ds : List D} (n : Nat) {v : V} {d : D}, Den g U H v d → DenL g U H vs ds → DenL g U H (vs.set n v) (ds.set n d)
  | _, _, _, _, _, _, .nil => .nil
  | _, _, 0, _, _, h, .cons _ r => .cons h r
  | _, _, n + 1, _, _, h, .cons a r => .cons a (DenL.set n h r)
theorem DenF.look : ∀ {vs : List (Str × V)} {ds : List (Str × D)} {n : Str} {d : D}, DenF g U H vs ds → ds.lookup n = some d → ∃ v, vs.lookup n = some v ∧ Den g U H v d
  | _, _, _, _, .nil, e => by cases e
  | _, _, n, d, .cons (n := m) a r, e => by
    simp only [List.lookup] at e ⊢
    cases q : (n == m) with
    | true => rw [q] at e; cases e; exact ⟨_, rfl, a⟩
    | false => rw [q] at e; exact DenF.look r e
theorem DenF.length : ∀ {vs : List (Str × V)} {ds : List (Str × D)}, DenF g U H vs ds → vs.length = ds.length
  | _, _, .nil => rfl
  | _, _, .cons _ r => congrArg (· + 1) (DenF.length r)
end
structure Wd (g : Gw) (H : Hp) (b : Nat) : Prop where
  pen : Pen H g.p g.c b
  tabs : LamX.Tabs g.T H
structure Nt (o : HO) : Prop where
  tbl : ∀ ps, o ≠ .tbl ps
  tup : ∀ xs, o ≠ .tup xs
structure UOk (g : Gw) (U : Addr → Prop) (H : Hp) : Prop where
  p : U g.p
  c : U g.c
  al : ∀ a, U a → ∃ o, H a = some o ∧ Nt o
section
variable {g : Gw} {U U' : Addr → Prop} {H H' H1 H2 : Hp} {b : Nat}
theorem UOk.extU (u : UOk g U H) (f : Fr H H' g.p) : ExtU U H H' := fun a o h n z => f a o h (fun e => n (e ▸ u.p)) z
theorem UOk.fr (u : UOk g U H) (f : Fr H H' g.p) (w : Wd g H' b) : UOk g U H' := ⟨u.p, u.c, fun a ha => by
  by_cases e : a = g.p
  · subst e
    obtain ⟨ns, i, z, h, _⟩ := w.pen
    exact ⟨_, h, (fun _ z => by cases z), (fun _ z => by cases z)⟩
  · obtain ⟨o, h, n⟩ := u.al a ha
    exact ⟨o, f a o h e n.tbl, n⟩⟩
theorem Den.fr (u : UOk g U H) (f : Fr H H' g.p) {v : V} {d : D} (h : Den g U H v d) : Den g U H' v d := h.ext (u.extU f)
theorem DenL.fr (u : UOk g U H) (f : Fr H H' g.p) {v : List V} {d : List D} (h : DenL g U H v d) : DenL g U H' v d := h.ext (u.extU f)
theorem Wd.same (w : Wd g H b) (s : L2.Same H H') : Wd g H' b := ⟨w.pen.same s, w.tabs.ext s⟩
end
inductive Ow where
  | l (ds : List D) | d (x : D)
inductive DcR (g : Gw) (U : Addr → Prop) (H : Hp) : HO → D → Prop
  | k {kvs : List (Key × V)} {ps : List (Key × D)} : kvs.map (·.1) = ps.map (·.1) → DenL g U H (kvs.map (·.2)) (ps.map (·.2)) → DcR g U H (.dK kvs) (.dik ps)
  | t {kvs : List (List Key × V)} {ps : List (List Key × D)} : kvs.map (·.1) = ps.map (·.1) → DenL g U H (kvs.map (·.2)) (ps.map (·.2)) → DcR g U H (.dT kvs) (.dit ps)
def OwR (g : Gw) (U : Addr → Prop) (H : Hp) (o : HO) : Ow → Prop
  | .l ds => ∃ vs, o = .lst vs ∧ vs.length ≤ sizeLine ∧ DenL g U H vs ds
  | .d x => DcR g U H o x
theorem OwR.map {g : Gw} {U U' : Addr → Prop} {H H' : Hp} {o : HO} (f : ∀ {vs : List V} {ds : List D}, DenL g U H vs ds → DenL g U' H' vs ds) : ∀ {x : Ow}, OwR g U H o x → OwR g U' H' o x
  | .l ds, ⟨vs, e, l, k⟩ => ⟨vs, e, l, f k⟩
  | .d x, h => by
    cases h with
    | k a b => exact .k a (f b)
    | t a b => exact .t a (f b)
theorem OwR.no {g : Gw} {U : Addr → Prop} {H : Hp} {o : HO} : ∀ {x : Ow}, OwR g U H o x → (∃ vs, o = .lst vs) ∨ (∃ ks, o = .dK ks) ∨ ∃ ks, o = .dT ks
  | .l ds, ⟨vs, e, l, k⟩ => .inl ⟨vs, e⟩
  | .d x, h => by
    cases h with
    | k a b => exact .inr (.inl ⟨_, rfl⟩)
    | t a b => exact .inr (.inr ⟨_, rfl⟩)
theorem OwR.tbl {g : Gw} {U : Addr → Prop} {H : Hp} {o : HO} {x : Ow} (h : OwR g U H o x) : ∀ ps, o ≠ .tbl ps := fun ps e => by
  rcases h.no with ⟨vs, z⟩ | ⟨vs, z⟩ | ⟨vs, z⟩ <;> (rw [e] at z; cases z)
inductive Sl where
  | no | fz (d : D) | ow (ds : Ow) | oi (c : Str) (fs : Fs)
abbrev Env := List Sl
def SlR (g : Gw) (U : Addr → Prop) (H : Hp) (o : Option V) : Sl → Prop
  | .no => True
  | .fz d => ∃ v, o = some v ∧ Den g U H v d
  | .ow ds => ∃ a u, o = some (.ref a) ∧ H a = some u ∧ OwR g U H u ds ∧ U a ∧ a ≠ g.p ∧ a ≠ g.c
  | .oi c fs => ∃ a dx fvs, o = some (.ref a) ∧ H a = some (.ins (gd c g.K) dx fvs) ∧ DenF g U H fvs fs ∧ U a ∧ a ≠ g.p ∧ a ≠ g.c
def OwnAt (σ : L2.St) (ε : Env) (i : Nat) (a : Addr) : Prop := σ[i]? = some (some (.ref a)) ∧ ((∃ ds, ε[i]? = some (.ow ds)) ∨ ∃ c fs, ε[i]? = some (.oi c fs))
structure Rel (g : Gw) (U : Addr → Prop) (H : Hp) (σ : L2.St) (ε : Env) : Prop where
  len : σ.length = ε.length
  at_ : ∀ (i : Nat) (s : Sl), ε[i]? = some s → ∃ o, σ[i]? = some o ∧ SlR g U H o s
  apart : ∀ (i j : Nat) (a : Addr), i ≠ j → OwnAt σ ε i a → OwnAt σ ε j a → False
section
variable {g : Gw} {U U' : Addr → Prop} {H H' H1 H2 : Hp} {b : Nat} {σ : L2.St} {ε : Env}
theorem extU_of (hp : U g.p) (f : Fr H H' g.p) : ExtU U H H' := fun a o h n z => f a o h (fun e => n (e ▸ hp)) z
theorem SlR.frp (hp : U g.p) (f : Fr H H' g.p) {o : Option V} : ∀ {s : Sl}, SlR g U H o s → SlR g U H' o s
  | .no, _ => trivial
  | .fz d, ⟨v, e, h⟩ => ⟨v, e, h.ext (extU_of hp f)⟩
  | .ow ds, ⟨a, vs, e, h, k, ua, n1, n2⟩ => ⟨a, vs, e, f _ _ h n1 k.tbl, k.map (fun q => q.ext (extU_of hp f)), ua, n1, n2⟩
  | .oi c fs, ⟨a, dx, fvs, e, h, k, ua, n1, n2⟩ => ⟨a, dx, fvs, e, f _ _ h n1 (fun _ z => by cases z), k.ext (extU_of hp f), ua, n1, n2⟩
theorem SlR.fr (u : UOk g U H) (f : Fr H H' g.p) {o : Option V} {s : Sl} (h : SlR g U H o s) : SlR g U H' o s := h.frp u.p f
theorem Rel.frp (r : Rel g U H σ ε) (hp : U g.p) (f : Fr H H' g.p) : Rel g U H' σ ε := ⟨r.len, fun i s e => by
  obtain ⟨o, h1, h2⟩ := r.at_ i s e
  exact ⟨o, h1, h2.frp hp f⟩, r.apart⟩
theorem Rel.fr (r : Rel g U H σ ε) (u : UOk g U H) (f : Fr H H' g.p) : Rel g U H' σ ε := ⟨r.len, fun i s e => by
  obtain ⟨o, h1, h2⟩ := r.at_ i s e
  exact ⟨o, h1, h2.fr u f⟩, r.apart⟩
def okP (g : Gw) (U : Addr → Prop) (H : Hp) (Q : VK) : D → Nat → Prop := fun d b => ∀ v H', Den g U H' v d → Wd g H' b → Fr H H' g.p → Q v H'
def exP (g : Gw) (U : Addr → Prop) (E : XK) (H : Hp) : Str → Fs → Nat → Prop := fun c fs b => ∀ dd fvs H', H' dd = some (.xd fvs) → ¬ U dd → DenF g U H' fvs fs → Wd g H' b → Fr H H' g.p → E (.ref (gd c g.K)) (some dd) H'
theorem exP.fr {E : XK} {c : Str} {fs : Fs} (f : Fr H H1 g.p) (h : exP g U E H c fs b) : exP g U E H1 c fs b := fun dd fvs H' h1 h2 h3 h4 h5 => h dd fvs H' h1 h2 h3 h4 (f.trans h5)
theorem okP.fr {Q : VK} {d : D} (f : Fr H H1 g.p) (h : okP g U H Q d b) : okP g U H1 Q d b := fun v H' h1 h2 h3 => h v H' h1 h2 (f.trans h3)
theorem okP.here {Q : VK} {d : D} {v : V} (h : okP g U H Q d b) (w : Wd g H b) (dn : Den g U H v d) : Q v H := h v H dn w Fr.refl
variable {E : XK} {ta tb tc : TE} {ma mb : Tr D}
end
end Gp
end
section
set_option Elab.async false
set_option linter.all false
set_option maxRecDepth 100000
set_option maxHeartbeats 4000000
namespace Gp
open PySem PySem.Spec PyProof.Rows L2 Gh
inductive Fl (W L : Type) where
  | nx (w : W) | rt (d : D) | bk (l : L) | ct (l : L)
def FrM (g : Gw) (Mt : Addr → Prop) (H H' : Hp) : Prop := ∀ a o, H a = some o → a ≠ g.p → ¬ Mt a → (∀ ps, o ≠ .tbl ps) → H' a = some o
structure Stt (g : Gw) (Mt U0 : Addr → Prop) (H0 : Hp) (U : Addr → Prop) (σ : L2.St) (H : Hp) (b : Nat) (ε : Env) : Prop where
  rel : Rel g U H σ ε
  wd : Wd g H b
  uok : UOk g U H
  sub : ∀ a, U0 a → U a
  own : ∀ i a, OwnAt σ ε i a → Mt a ∨ ∀ o, H0 a = some o → ∃ ps, o = .tbl ps
  ext : FrM g Mt H0 H
  nu0 : ∀ (i : Nat) (ds : Ow) (a : Addr), ε[i]? = some (.ow ds) → σ[i]? = some (some (.ref a)) → ¬ U0 a
  oim : ∀ (i : Nat) (c : Str) (fs : Fs) (a : Addr), i = 0 → ε[i]? = some (.oi c fs) → σ[i]? = some (some (.ref a)) → Mt a
section
variable {g : Gw} {Mt U0 U U' : Addr → Prop} {H0 H H' H1 H2 : Hp} {b b1 : Nat} {σ : L2.St} {ε ε' : Env} {E : XK} {W L W' : Type}
structure Ev (U : Addr → Prop) (H : Hp) (U' : Addr → Prop) (H' : Hp) : Prop where
  keep : ∀ a o, H a = some o → ¬ U a → (∀ ps, o ≠ .tbl ps) → H' a = some o
  out : ∀ a o, H a = some o → ¬ U a → (∀ ps, o ≠ .tbl ps) → ¬ U' a
theorem Ev.refl : Ev U H U H := ⟨fun _ _ h _ _ => h, fun _ _ _ n _ => n⟩
theorem Ev.trans {U1 : Addr → Prop} {H1 : Hp} (h : Ev U H U1 H1) (k : Ev U1 H1 U' H') : Ev U H U' H' := ⟨fun a o e n t => k.keep a o (h.keep a o e n t) (h.out a o e n t) t, fun a o e n t => k.out a o (h.keep a o e n t) (h.out a o e n t) t⟩
theorem FrM.trans (h : FrM g Mt H0 H) (f : Fr H H' g.p) : FrM g Mt H0 H' := fun a o e n1 n2 n3 => f a o (h a o e n1 n2 n3) n1 n3
theorem Stt.fr (s : Stt g Mt U0 H0 U σ H b ε) (f : Fr H H' g.p) (w : Wd g H' b1) : Stt g Mt U0 H0 U σ H' b1 ε := ⟨s.rel.fr s.uok f, w, s.uok.fr f w, s.sub, s.own, s.ext.trans f, s.nu0, s.oim⟩
def flP (g : Gw) (Mt U0 : Addr → Prop) (H0 : Hp) (U : Addr → Prop) (H : Hp) (D : Ends) (env : W → Env) (envL : L → Env) : Fl W L → Nat → Prop
  | .nx w, b => ∀ U' σ' H', Ev U H U' H' → Stt g Mt U0 H0 U' σ' H' b (env w) → D.nx σ' H'
  | .rt d, b => ∀ v H, Den g U0 H v d → Wd g H b → FrM g Mt H0 H → D.rt v H
  | .bk w, b => ∀ U' σ' H', Ev U H U' H' → Stt g Mt U0 H0 U' σ' H' b (envL w) → D.bk σ' H'
  | .ct w, b => ∀ U' σ' H', Ev U H U' H' → Stt g Mt U0 H0 U' σ' H' b (envL w) → D.ct σ' H'
def exS (g : Gw) (Mt U0 : Addr → Prop) (H0 : Hp) (E : XK) : Str → Fs → Nat → Prop := fun c fs b => ∀ dd fvs H, H dd = some (.xd fvs) → ¬ U0 dd → DenF g U0 H fvs fs → Wd g H b → FrM g Mt H0 H → E (.ref (gd c g.K)) (some dd) H
theorem exS.exP (s : Stt g Mt U0 H0 U σ H b ε) {c : Str} {fs : Fs} (h : exS g Mt U0 H0 E c fs b1) : exP g U E H c fs b1 := fun dd fvs H' h1 h2 h3 h4 h5 =>
  h dd fvs H' h1 (fun z => h2 (s.sub _ z)) (h3.sub fun a _ z => s.sub a z) h4 (s.ext.trans h5)
theorem ownAt_set {i j : Nat} {v : V} {d : D} {a : Addr} (h : OwnAt (σ.set i (some v)) (ε.set i (.fz d)) j a) : i ≠ j ∧ OwnAt σ ε j a := by
  obtain ⟨h1, h2⟩ := h
  by_cases e : i = j
  · subst e
    exfalso
    rcases h2 with ⟨ds, h2⟩ | ⟨c, fs, h2⟩
    · rw [List.getElem?_set_self' ] at h2
      cases q : ε[i]? with
      | none => rw [q] at h2; cases h2
      | some z => rw [q] at h2; cases h2
    · rw [List.getElem?_set_self'] at h2
      cases q : ε[i]? with
      | none => rw [q] at h2; cases h2
      | some z => rw [q] at h2; cases h2
  · rw [List.getElem?_set_ne e] at h1 h2
    exact ⟨e, h1, h2⟩
theorem Rel.set (r : Rel g U H σ ε) {v : V} {d : D} (i : Nat) (h : Den g U H v d) : Rel g U H (σ.set i (some v)) (ε.set i (.fz d)) := by
  refine ⟨by rw [List.length_set, List.length_set]; exact r.len, fun j s e => ?_, fun j k a n h1 h2 => r.apart j k a n (ownAt_set h1).2 (ownAt_set h2).2⟩
  by_cases q : i = j
  · subst q
    have hl : i < ε.length := by
      cases z : ε[i]? with
      | none => rw [List.getElem?_set_self', z] at e; cases e
      | some w => exact (List.getElem?_eq_some_iff.mp z).1
    rw [List.getElem?_set_self hl] at e
    cases e
    exact ⟨some v, List.getElem?_set_self (by rw [r.len]; exact hl), v, rfl, h⟩
  · rw [List.getElem?_set_ne q] at e ⊢
    exact r.at_ j s e
theorem Stt.set (s : Stt g Mt U0 H0 U σ H b ε) {v : V} {d : D} (i : Nat) (h : Den g U H v d) : Stt g Mt U0 H0 U (σ.set i (some v)) H b (ε.set i (.fz d)) :=
  ⟨s.rel.set i h, s.wd, s.uok, s.sub, fun j a o => s.own j a (ownAt_set o).2, s.ext, fun j ds a e1 e2 => (by
    obtain ⟨_, e3, e4⟩ := ownAt_set (a := a) (j := j) ⟨e2, .inl ⟨ds, e1⟩⟩
    rcases e4 with ⟨ds', e4⟩ | ⟨_, _, e4⟩
    · exact s.nu0 j ds' a e4 e3
    · by_cases q : i = j
      · subst q
        cases z : ε[i]? with
        | none => rw [List.getElem?_set_self', z] at e1; cases e1
        | some w => rw [List.getElem?_set_self', z] at e1; cases e1
      · rw [List.getElem?_set_ne q, e4] at e1
        cases e1), fun j c fs a j0 e1 e2 => by
    by_cases q : i = j
    · subst q
      cases z : ε[i]? with
      | none => rw [List.getElem?_set_self', z] at e1; cases e1
      | some w => rw [List.getElem?_set_self', z] at e1; cases e1
    · rw [List.getElem?_set_ne q] at e1 e2
      exact s.oim j c fs a j0 e1 e2⟩
inductive Le : Env → Env → Prop
  | nil : Le [] []
  | s {x : Sl} {a b : Env} : Le a b → Le (x :: a) (x :: b)
  | n {x : Sl} {a b : Env} : Le a b → Le (.no :: a) (x :: b)
theorem Le.refl : ∀ ε : Env, Le ε ε
  | [] => .nil
  | _ :: r => .s (Le.refl r)
theorem Le.len : ∀ {a b : Env}, Le a b → a.length = b.length
  | _, _, .nil => rfl
  | _, _, .s h => congrArg (· + 1) h.len
  | _, _, .n h => congrArg (· + 1) h.len
theorem Le.get : ∀ {a b : Env}, Le a b → ∀ {i : Nat} {s : Sl}, a[i]? = some s → s = .no ∧ (∃ z, b[i]? = some z) ∨ b[i]? = some s
  | _, _, .nil, _, _, e => by simp at e
  | _, _, .s h, 0, _, e => .inr e
  | _, _, .n h, 0, _, e => by simp at e; exact .inl ⟨e.symm, _, rfl⟩
  | _, _, .s h, i + 1, z, e => by simpa using h.get (i := i) (s := z) (by simpa using e)
  | _, _, .n h, i + 1, z, e => by simpa using h.get (i := i) (s := z) (by simpa using e)
variable {env : W → Env} {envL : L → Env} {env' : W' → Env} {u ta tb : TS} {te : TE} {me : Tr D}
section
variable {α : Type} {P : α → Nat → Prop} {X : Str → Fs → Nat → Prop} {ds : List D}
end
def SX (g : Gw) (E : XK) (ε : Env) (d : D) (gt : TG) (tb : TS) (env : W → Env) (envL : L → Env) (m : Tr (Fl W L)) : Prop := ∀ Mt U0 H0 U D σ H b v, Stt g Mt U0 H0 U σ H b ε → Den g U H v d → Al (flP g Mt U0 H0 U H D env envL) (exS g Mt U0 H0 E) m b → gt v σ H fun σ2 H2 => tb D σ2 H2
end
end Gp
end
section
set_option Elab.async false
set_option linter.all false
set_option maxRecDepth 100000
set_option maxHeartbeats 4000000
namespace Gp
open PySem PySem.Spec PyProof.Rows L2 Gh
section
variable {g : Gw} {Mt U0 U U' : Addr → Prop} {H0 H H' H1 H2 : Hp} {b b1 : Nat} {σ : L2.St} {ε ε' : Env} {E : XK} {W L W' : Type}
variable {env : W → Env} {envL : L → Env} {env' : W' → Env} {u ta tb : TS} {te : TE} {me : Tr D}
abbrev EF : XK := fun _ _ _ => False
theorem exP.F {c : Str} {fs : Fs} (h : False) : exP g U EF H c fs b := h.elim
end
end Gp
end
section
set_option Elab.async false
set_option linter.all false
set_option maxRecDepth 100000
set_option maxHeartbeats 4000000
namespace Gp
open PySem PySem.Spec PyProof.Rows L2 Gh
section
variable {g : Gw} {Mt U0 U U' : Addr → Prop} {H0 H H' H1 H2 : Hp} {b b1 : Nat} {σ : L2.St} {ε ε' : Env} {E : XK} {W L W' : Type}
variable {env : W → Env} {envL : L → Env} {env' : W' → Env} {u ta tb : TS} {te : TE} {me : Tr D}
def fin (m : Tr (Fl Unit Empty)) : Tr D := bd m fun f => match f with
  | .nx _ => .ok .non
  | .rt d => .ok d
  | .bk e => nomatch e
  | .ct e => nomatch e
def isO {α : Type} (c : Str) (o : D) (k : Fs → Tr α) : Tr α := match o with
  | .obj c' fs => if c' = c then k fs else .bad
  | _ => .bad
def fldD (c f : Str) (o : D) : Tr D := isO c o fun fs => match fs.lookup f with
  | some d => .ok d
  | none => .bad
end
end Gp
end
section
set_option Elab.async false
set_option linter.all false
set_option maxRecDepth 100000
set_option maxHeartbeats 4000000
namespace Gp
open PySem PySem.Spec PyProof.Rows L2 Gh
mutual
def toPy : D → Option PyData
  | .non => some .none
  | .bl b => some (.bool b)
  | .int i => some (.int i)
  | .str x => some (.str x)
  | .tup ds => (toPyL ds).map .tuple
  | .lst ds => (toPyL ds).map .list
  | .obj _ _ => none
  | .err _ _ => none
  | .pen => none
  | .cls _ => none
  | .dct => none
  | .dic _ => none
  | .dit _ => none
  | .dik _ => none
def toPyL : List D → Option (List PyData)
  | [] => some []
  | d :: ds => match toPy d, toPyL ds with
    | some e, some es => some (e :: es)
    | _, _ => none
end
section
variable {g : Gw} {U : Addr → Prop} {H H' H1 : Hp} {b : Nat} {E : XK} {Q : VK}
def eqS : D → D → Option Bool
  | .non, .non => some true | .non, .int _ => some false | .int _, .non => some false | .non, .bl _ => some false | .bl _, .non => some false | .non, .str _ => some false | .str _, .non => some false
  | .int i, .int j => some (decide (i = j)) | .bl a, .bl c => some (decide (a = c)) | .str a, .str c => some (decide (a = c))
  | .int _, .str _ => some false | .str _, .int _ => some false | .bl _, .str _ => some false | .str _, .bl _ => some false
  | _, _ => none
def eqB (x y : D) : Tr Bool := match eqS x y with
  | some b => .ok b
  | none => match toPy x, toPy y with
    | some a, some c => if SeqAt.shaped a = true ∧ SeqAt.shaped c = true then .ok (PyData.eqv a c) else .bad
    | _, _ => .bad
def eqD (x y : D) : Tr D := bd (eqB x y) fun k => .ok (.bl k)
def neD (x y : D) : Tr D := bd (eqB x y) fun k => .ok (.bl (!k))
end
end Gp
end
section
set_option Elab.async false
set_option linter.all false
set_option maxRecDepth 100000
set_option maxHeartbeats 4000000
namespace Gp
open PySem PySem.Spec PyProof.Rows L2 Gh
section
variable {g : Gw} {Mt U0 U U' : Addr → Prop} {H0 H H' H1 H2 : Hp} {b b1 : Nat} {σ : L2.St} {ε ε' : Env} {E : XK} {Q : VK} {W L W' : Type}
variable {env : W → Env} {envL : L → Env} {env' : W' → Env} {u ta tb : TS} {te : TE} {me : Tr D}
def shwD (d : D) : Option Str := match d with
  | .non => some "None"
  | .bl b => some (if b then "True" else "False")
  | .int i => if i.natAbs.log2 < 1920 then some (toString i) else none
  | .str x => if (reprText x).length ≤ sizeLine then some (reprText x) else none
  | d => match toPy d with
    | some e => if e.showable = true ∧ e.hasDict = false ∧ e.depth ≤ 100 ∧ e.shown.length ≤ sizeLine then some e.shown else none
    | none => none
def reprD (d : D) : Tr D := match shwD d with
  | some x => if x.length ≤ sizeLine then .ok (.str x) else .bad
  | none => .bad
end
end Gp
end
section
set_option Elab.async false
set_option linter.all false
set_option maxRecDepth 100000
set_option maxHeartbeats 4000000
namespace Gp
open PySem PySem.Spec PyProof.Rows L2 Gh
section
variable {g : Gw} {Mt U0 U U' : Addr → Prop} {H0 H H' H1 H2 : Hp} {b b1 : Nat} {σ : L2.St} {ε ε' : Env} {E : XK} {Q : VK} {W L W' : Type}
variable {env : W → Env} {envL : L → Env} {env' : W' → Env} {u ta tb : TS} {te : TE} {me : Tr D}
theorem PE.or {X : Cx} {e : Expr} {t1 t2 : TE} (a : PE X e t1) (c : PE X e t2) : PE X e (fun σ H Q => t1 σ H Q ∨ t2 σ H Q) := ⟨fun pins s σ H Q I h => h.elim (a.run pins s σ H Q I) (c.run pins s σ H Q I)⟩
theorem look_cons {α : Type} {a c : Str} {x k : α} {r : List (Str × α)} (h : ((a, x) :: r).lookup c = some k) : (c = a ∧ k = x) ∨ r.lookup c = some k := by
  simp only [List.lookup] at h
  split at h
  · rename_i z
    cases h
    exact .inl ⟨beq_iff_eq.mp z, rfl⟩
  · exact .inr h
section
variable {K : PySem.W.Frag} {T : List (Addr × Str)} {N : List Str} {cn : Str} {vs : List V} {t : TS} {envI : Fs → Env}
end
def Yes (F : Tr D) : Prop := Al (fun d _ => d = .bl true) (fun _ _ _ => False) F 1000000
def eqO (c : Str) (f : D → Bool) (F : List D → Tr D) (x y : D) : Tr D := isO c x fun _ => if f y = true then F [x, y] else .bad
end
end Gp
namespace Gp
open PySem PySem.Spec PyProof.Rows L2 Gh
section
variable {g : Gw}
end
end Gp
namespace Gp
open PySem PySem.Spec PyProof.Rows L2 Gh
end Gp
end
section
set_option Elab.async false
set_option linter.all false
set_option maxRecDepth 100000
set_option maxHeartbeats 4000000
namespace Gp
open PySem PySem.Spec PyProof.Rows L2 Gh
section
variable {g : Gw} {U : Addr → Prop} {H : Hp} {b : Nat} {E : XK} {Q : VK} {ε : Env} {te : TE} {me : Tr D}
def insI (a : Int) : List Int → List Int
  | [] => [a]
  | b :: r => if a ≤ b then a :: b :: r else b :: insI a r
def sortI : List Int → List Int
  | [] => []
  | a :: r => insI a (sortI r)
end
end Gp
end
section
set_option Elab.async false
set_option linter.all false
set_option maxRecDepth 100000
set_option maxHeartbeats 4000000
namespace Gp
open PySem PySem.Spec PyProof.Rows L2 Gh
structure SupX (X : Cx) (D f cda cc : Addr) (ar : Str) : Prop where
  fu : X.env.func = some f
  co : X.env.code = .ref cda
  lkf : ∃ oc od fd osl a, X.K.lookup f = some ⟨oc, od, .func fd, osl⟩ ∧ (fd.params.posonlyargs ++ fd.params.args).head? = some a ∧ a.arg = ar
  lkc : ∃ ccl cdd vs ccs file tf, X.K.lookup cda = some ⟨ccl, cdd, .fields vs, ccs⟩ ∧ vs[2]? = some (.str file tf) ∧ ((X.prog.main.file : Str) == file) = true
  top : (X.prog.main.scope.names.lookup ("super" : Str)).isSome = false
  ks : X.env.kindOf "super" = some .globalImplicit
  kc : X.env.kindOf "__class__" = some .free
  cell : X.env.cells.lookup ("__class__" : Str) = some cc
  lkl : ∃ cl cld csl, X.K.lookup cc = some ⟨cl, cld, .cell (some (.ref D)), csl⟩
  cD : ∃ cd, PySem.W.clsIn X.K D = some cd
  mg : X.mg "super" = none
  st : PySem.W.nsIn X.K cStatics "thirdparty.any" = some none
  n0 : X.N[0]? = some ar
  ka : X.env.kindOf ar = some .local
structure SupC (K : PySem.W.Frag) (C D : Addr) (m : Str) (f2 : Addr) : Prop where
  sub : PySem.W.mroIn K C (.ref D) = some true
  sup : PySem.W.ks_superIn K C D m = some (some (.ref f2))
  ty : PySem.W.typeIn K (.ref f2) = some (.type "function")
  fn : PySem.W.fnIn K f2 = true
theorem sup_run {X : Cx} {D f cda cc f2 : Addr} {ar m : Str} {body : List Stmt} {p0 p1 apos pos epos : Pos} {e : Expr} {es : List Expr} {ta : TA} {CX : CXT} {k : Nat} {dvs : List V} {sp : Sp} {E : XK} {pl : Sem Bool} {pins : List (Addr × Obj)} {s : Shared} {σ : L2.St} {H : Hp} {Dn : L2.St → Hp → Prop}
    (S : SupX X D f cda cc ar) (hm : (m == ("__class__" : Str)) = false) (ha : PA X (e :: es) ta) (G : PromOX X CX k f2 dvs sp) (hr : Room k X.A) (hx : Passes CX X E) (I : Inv X pins σ H s)
    (h : ∃ a C dx fs, σ[0]? = some (some (.ref a)) ∧ H a = some (.ins C dx fs) ∧ SupC X.K C D m f2 ∧ ta σ H fun vs H1 => sp (.ref a :: (vs ++ dvs)) H1 (fun _ H2 => Dn σ H2) E)
    (hst : starEach (e :: es) X.env = (false, eval e X.env) :: starEach es X.env := by rfl) (hpl : (backTo pos (starEach es X.env)).any (·.1) = false := by rfl)
    (he : eval (.Call (.Attribute (.Call (.Name "super" p0) [] [] p1) m apos) (e :: es) [] pos) X.env = (do
      let ov ← attributeBase (.Call (.Name "super" p0) [] [] p1) m X.env (eval (.Call (.Name "super" p0) [] [] p1) X.env)
      standAt apos.atName
      let (f, first) ← holding [ov] (getMethod ov m pl)
      callWith pos f first (backTo pos (starEach (e :: es) X.env)) []) := by rfl)
    (hsw : swapsWith (.Call (.Attribute (.Call (.Name "super" p0) [] [] p1) m apos) (e :: es) [] pos) none epos.line X.env = pure false := by rfl) :
    _root_.PySem.wpAt (model X.prog X.w) X.A (.func body X.env) (exec (.Expr (.Call (.Attribute (.Call (.Name "super" p0) [] [] p1) m apos) (e :: es) [] pos) epos) X.env) (fun fl s' => fl = .next ∧ ∃ H', Inv X pins σ H' s' ∧ Dn σ H') X.xe s := by
  obtain ⟨a, C, dx, fs, h0, hi, sc, q⟩ := h
  have KX := I.kIn
  obtain ⟨oc, od, fd, osl, ag, lkf, hp, rfl⟩ := S.lkf
  obtain ⟨ccl, cdd, vs, ccs, file, tf, lkc, hvs, hfile⟩ := S.lkc
  obtain ⟨cl, cld, csl, lkl⟩ := S.lkl
  obtain ⟨cdD, hD⟩ := S.cD
  obtain ⟨ox, od', J⟩ := ins_look I hi
  obtain ⟨oD, hD1, hD2⟩ : ∃ oD, s.heap.get? D = some oD ∧ oD.data = .cls cdD := by
    unfold PySem.W.clsIn at hD
    split at hD
    · rename_i ho
      cases hD
      exact ⟨_, KX _ _ ho, rfl⟩
    · cases hD
  have nc : ∀ c, ox.data ≠ .cls c := fun c e => by
    have := J.no
    unfold PySem.W.notCls at this
    rw [e] at this
    exact Bool.noConfusion this
  refine ks_wpAt_Expr_any (ks_wpAt_MethodCall (pl := pl) (ks_wpAt_super_base S.ks S.kc hm S.fu (KX _ _ lkf) rfl hp S.co (KX _ _ lkc) rfl hvs hfile S.top ?_) he) I.quiet hsw
  obtain ⟨mb, b1, b2⟩ := I.mod.blt
  refine PySem.W.ks_loadName_global I.ok.kind S.ks (Calls.loadGlobal_builtin (by rw [I.ok.glob]; exact I.mod.glob.keeps I.bk) S.mg (by rw [I.ok.blt]; exact b1.keeps I.bk) ((b2 "super" (by decide)).trans (show bootBuiltins "super" = some (.type "super") by decide +kernel)) ⟨rfl, ?_⟩)
  refine wpAny_loadName_free I.ok.kind S.kc S.cell ⟨_, KX _ _ lkl, rfl⟩ ?_
  obtain ⟨mm, hn, hl⟩ := I.loc
  obtain ⟨u, ru, hu⟩ := hl 0 ag.arg (.ref a) S.n0 h0 (.inl S.ka)
  have eu : u = Value.ref a := ru
  subst eu
  have hv : mm ag.arg = some (.ref a) := by
    rcases hu with z | ⟨z, _⟩
    · exact z.2
    · rcases z with z | z <;> rw [S.ka] at z <;> cases z
  refine wpAny_loadName_local I.ok.kind S.ka hn hv ?_
  obtain ⟨hh, g, d, t, os⟩ := s
  refine ks_wpAny_isType_cls hD1 hD2 ⟨rfl, ?_⟩
  refine ks_wpAny_call_super hD1 hD2 J.at_ J.cls nc (PySem.W.looks_mroIn KX sc.sub) (fun h1 e1 k1 => ?_)
  cases hcC : PySem.W.clsIn X.K C with
  | none =>
    have z := sc.sup
    unfold PySem.W.ks_superIn at z
    rw [hcC] at z
    cases z
  | some cdC =>
    have K1 : X.K.In h1 := KX.keeps k1
    obtain ⟨of, hof, hofc⟩ : ∃ of, h1.get? f2 = some of ∧ of.cls = .type "function" := by
      have ht' : (X.K.lookup f2).map (·.cls) = some (.type "function") := sc.ty
      cases z : X.K.lookup f2 with
      | none => rw [z] at ht'; cases ht'
      | some of => rw [z] at ht'; exact ⟨of, K1 _ _ z, Option.some.inj ht'⟩
    have hsup := sc.sup
    unfold PySem.W.ks_superIn at hsup
    rw [hcC] at hsup
    refine ks_wpAny_getMethod_super e1 (PySem.W.looks_opaque K1 S.st) (l₀ := cdC.mro) ?_ rfl K1 hsup hof hofc (PySem.W.ks_ne KX J hcC) hm ?_
    · exact fun A Q E s k q => wpAny_bind ((PySem.W.looks_clsIn K1 hcC) A _ E s k (wpAny_pure q))
    · have k2 : ∀ b o, hh.get? b = some o → (h1.push { cls := .type "method", data := .fields #[.ref f2, .ref a] }).get? b = some o := fun b o eb => Heap.get?_push_of_some _ (k1 b o eb)
      have I2 : Inv X pins σ H ⟨h1.push { cls := .type "method", data := .fields #[.ref f2, .ref a] }, g, d, t + 1, os⟩ := I.kept (t' := t + 1) k2
      have hsz : hh.objs.size ≤ h1.objs.size := by
        have := Heap.lt_size e1
        exact Nat.le_of_lt this
      have fp := I.fpOk (H' := H) (b := h1.objs.size) hsz (I.hok.fresh hsz)
      have hq1 : (h1.push { cls := .type "method", data := .fields #[.ref f2, .ref a] }).get? h1.objs.size = some (PySem.W.methodObj (.ref f2) (.ref a)) := Heap.get?_push_size _ rfl
      have I3 : Inv X ((h1.objs.size, PySem.W.methodObj (.ref f2) (.ref a)) :: pins) σ H ⟨h1.push { cls := .type "method", data := .fields #[.ref f2, .ref a] }, g, d, t + 1, os⟩ := I2.pins_of fun p hp => by
        rcases List.mem_cons.mp hp with rfl | hp
        · exact ⟨hq1, fp.1, fp.2.1, fp.2.2.1, fun v z => by cases z⟩
        · exact I2.pin p (List.mem_append_right _ hp)
      show wpAny _ _ (callWith pos (.ref h1.objs.size) [] (backTo pos (starEach (e :: es) X.env)) []) _ _ _
      rw [hst]
      refine PySem.W.callWith_of (P := PySem.W.MethP X.K h1.objs.size f2 (.ref a)) (by show ((false || (backTo pos (starEach es X.env)).any (·.1)) || false) = false; rw [hpl]; rfl) (PySem.W.keeps_M sc.fn) (PySem.Calls.evalArgs_plain ?_)
      show wpAny _ _ (spliced (backTo pos ((false, eval e X.env) :: starEach es X.env))) _ _ _
      rw [← hst]
      refine thn (ha.run pos _ _ σ H _ I3 q) fun us s3 ⟨ws, H1, I4, rv, q2⟩ => ?_
      have pq := (I4.pin (h1.objs.size, PySem.W.methodObj (.ref f2) (.ref a)) (List.mem_append_right _ List.mem_cons_self)).1
      refine ⟨⟨pq, I4.kIn⟩, ?_⟩
      have I5 : Inv X pins σ H1 s3 := I4.pins_of fun p hp => I4.pin p (List.mem_append_right _ (List.mem_cons_of_mem _ hp))
      obtain ⟨fd2, ps2, ds2, G2, b2', hd2⟩ := G
      have r2 : Vals (.ref a :: (ws ++ dvs)) (.ref a :: (us ++ ds2)) := .cons rfl (rv.append hd2)
      have hl2 : ((Value.ref a :: us) ++ ds2).length = ps2.length := by
        rw [← G2.len _ _ _ _ q2]
        exact r2.length.symm
      refine wpAny_call (ks_codeAny_call_bound pq (codeAny_mono (G2.run X.A X.stack s3 H1 ⟨.ref a :: us, []⟩ (.ref a :: (us ++ ds2)) (.ref a :: (ws ++ dvs)) _ E hr I5.env0 (b2' s3 (.ref a :: us) I5.kIn hl2) r2 q2) fun r s' hq => ?_))
      cases r with
      | error er => exact hx pins σ H1 s3 er s' I5 hq
      | ok fl =>
        cases fl with
        | ret u =>
          obtain ⟨v, H', I6, _, q3⟩ := I5.after hq
          exact ⟨rfl, H', I6, q3⟩
        | next => exact False.elim hq
        | brk => exact False.elim hq
        | cont => exact False.elim hq
end Gp
end
section
set_option Elab.async false
set_option linter.all false
set_option maxRecDepth 100000
set_option maxHeartbeats 4000000
namespace Gp
open PySem PySem.Spec PyProof.Rows L2 Gh
theorem execs_app (env : PySem.Env) (rest : List Stmt) : ∀ pre : List Stmt, execs (pre ++ rest) env = (execs pre env >>= fun f => match f with
  | .next => execs rest env
  | f => pure f)
  | [] => by
    show execs rest env = (pure Flow.next >>= _)
    rw [pure_bind]
  | st :: pre => by
    show execs (st :: (pre ++ rest)) env = _
    rw [execs_cons, execs_cons, bind_assoc]
    congr 1
    funext f
    cases f with
    | next => exact execs_app env rest pre
    | _ => rw [pure_bind]
theorem wpAt_app {M : Model} {A : Around} {c : Code} {env : PySem.Env} {pre rest : List Stmt} {Q : Flow → Shared → Prop} {E : Value → Shared → Prop} {s : Shared}
    (h : wpAny M A (execs pre env) (fun f s' => match f with
      | .next => _root_.PySem.wpAt M A c (execs rest env) Q E s'
      | f => Q f s') E s) : _root_.PySem.wpAt M A c (execs (pre ++ rest) env) Q E s := by
  rw [execs_app]
  refine _root_.PySem.wpAt_bind (_root_.PySem.wpAt_of_wpAny (wpAny_mono h (fun f s' hf => ?_) fun _ _ z => z))
  cases f with
  | next => exact hf
  | _ => exact _root_.PySem.wpAt_of_wpAny (wpAny_pure hf)
structure SupF (K : PySem.W.Frag) (x qual : Str) (params : Arguments) (body : List Stmt) (scope : Scope) (dvs : List V) (f D : Addr) (file : Str) (fd : FuncData) : Prop where
  ex : ∃ (oc : Value) (od : Option Addr) (dV kV doc pm : Value) (an : Option Addr) (cda : Addr) (ct : Value) (osl : Array (Option Value)) (cc : Addr),
    fd = PySem.W.fnX x qual params body scope [("__class__", cc)] dV kV doc pm an (.ref cda) ct ∧ K.lookup f = some ⟨oc, od, .func fd, osl⟩ ∧ PySem.W.codeIn K (.ref cda) qual = true ∧ DflV K dV dvs ∧
    (∃ cl cld csl, K.lookup cc = some ⟨cl, cld, .cell (some (.ref D)), csl⟩) ∧ ∃ ccl cdd vs ccs tf, K.lookup cda = some ⟨ccl, cdd, .fields vs, ccs⟩ ∧ vs[2]? = some (.str file tf)
  kp : PySem.W.keepIn K (.ref f) = true
structure SupT (K : PySem.W.Frag) (mg : Str → Option Value) (D : Addr) : Prop where
  cD : ∃ cd, PySem.W.clsIn K D = some cd
  mg : mg "super" = none
  st : PySem.W.nsIn K cStatics "thirdparty.any" = some none
section
variable {P : Program} {w : World} {K : PySem.W.Frag} {mg : Str → Option Value} {base : Heap} {CX : CXT} {k : Nat} {x qual file m ar : Str} {params : Arguments} {body : List Stmt} {scope : Scope} {dvs : List V} {f D : Addr} {fd : FuncData} {N ps : List Str} {sp : Sp}
abbrev scx (CX : CXT) (P : Program) (w : World) (K : PySem.W.Frag) (mg : Str → Option Value) (base : Heap) (N : List Str) (x qual : Str) (params : Arguments) (body : List Stmt) (scope : Scope) (cc cda f : Addr) (A : Around) (outer : List PySem.Env) (s : Shared) (H : Hp) (E : XK) : Cx :=
  NdefX.ncx CX P w K mg base N ⟨x, qual, params, body, scope, [("__class__", cc)], cda⟩ f A outer s H E
theorem SupF.ok {pre post : List Stmt} {p0 p1 apos pos epos : Pos} {e : Expr} {es : List Expr} (eb : body = pre ++ .Expr (.Call (.Attribute (.Call (.Name "super" p0) [] [] p1) m apos) (e :: es) [] pos) epos :: post) (F : SupF K x qual params body scope dvs f D file fd) (T : SupT K mg D) (S : NdefX.NScope N ps ["__class__"] scope)
    (len : ∀ vs H Q E, sp vs H Q E → vs.length = ps.length) (hfile : ((P.main.file : Str) == file) = true) (htop : (P.main.scope.names.lookup ("super" : Str)).isSome = false) (hm : (m == ("__class__" : Str)) = false) (hks : scope.names.lookup ("super" : Str) = some .globalImplicit)
    (har : ((params.posonlyargs ++ params.args).head?).map (·.arg) = some ar) (hn0 : N[0]? = some ar) (hka : scope.names.lookup ar = some .local)
    (hbody : ∀ (cc cda : Addr) (A : Around) (outer : List PySem.Env) (s : Shared) (H : Hp) (vs : List V) (Q : VK) (E : XK), Room k (scx CX P w K mg base N x qual params body scope cc cda f A outer s H E).A → sp vs H Q E →
      ∃ t1 ta t2 CX2 k2 f2 dvs2 sp2 E2, PSs (scx CX P w K mg base N x qual params body scope cc cda f A outer s H E) pre t1 ∧
        PA (scx CX P w K mg base N x qual params body scope cc cda f A outer s H E) (e :: es) ta ∧
        PSs (scx CX P w K mg base N x qual params body scope cc cda f A outer s H E) post t2 ∧
        PromO P w K mg base CX2 k2 f2 dvs2 sp2 ∧ k2 ≤ k ∧ Passes CX2 (scx CX P w K mg base N x qual params body scope cc cda f A outer s H E) E2 ∧
        t1 { nx := fun σ1 H1 => ∃ a C dx fs, σ1[0]? = some (some (.ref a)) ∧ H1 a = some (.ins C dx fs) ∧ SupC K C D m f2 ∧ ta σ1 H1 fun us H2 => sp2 (.ref a :: (us ++ dvs2)) H2 (fun _ H3 => t2 { nx := fun _ H' => Q .non H', rt := Q } σ1 H3) E2, rt := Q } (L2.start N vs) H)
    (hst : ∀ env : PySem.Env, starEach (e :: es) env = (false, eval e env) :: starEach es env := by intro _; rfl) (hpl : ∀ env : PySem.Env, (backTo pos (starEach es env)).any (·.1) = false := by intro _; rfl)
    (pl : PySem.Env → Sem Bool)
    (he : ∀ env : PySem.Env, eval (.Call (.Attribute (.Call (.Name "super" p0) [] [] p1) m apos) (e :: es) [] pos) env = (do
      let ov ← attributeBase (.Call (.Name "super" p0) [] [] p1) m env (eval (.Call (.Name "super" p0) [] [] p1) env)
      standAt apos.atName
      let (f, first) ← holding [ov] (getMethod ov m (pl env))
      callWith pos f first (backTo pos (starEach (e :: es) env)) []))
    (hsw : ∀ env : PySem.Env, swapsWith (.Call (.Attribute (.Call (.Name "super" p0) [] [] p1) m apos) (e :: es) [] pos) none epos.line env = pure false := by intro _; rfl) :
    FnOk P w K mg base CX (k + 1) f fd ps sp := by
  obtain ⟨oc, od, dV, kV, doc, pm, an, cda, ct, osl, cc, rfl, lk, hcd, _, ⟨cl, cld, csl, lkl⟩, ccl, cdd, vsc, ccs, tf, lkc, hvs⟩ := F.ex
  refine ⟨len, fun A outer s H args us vs Q E hr e0 hb r hsp => ?_⟩
  have KX : K.In s.heap := e0.mod.kin.keeps fun b o e => (e0.bs b o e).1
  have lim : s.heap.NoLimit := e0.mod.nolimit.keeps fun b o e => (e0.bs b o e).1
  have hl := len _ _ _ _ hsp
  have hpl2 : ps.length + 1 ≤ N.length := by
    have q := congrArg List.length S.pre
    rw [List.length_take, List.length_append] at q
    have : (["__class__"] : List Str).length = 1 := rfl
    omega
  refine ks_codeAny_call_defAt hr.depth (KX _ _ lk) rfl lim (PySem.W.codeRec_of KX hcd) rfl hb S.nocell (fun ⟨n, _⟩ hy => S.par n (List.of_mem_zip hy).1) (fun h₁ hns kp => ?_) S.co S.gen S.kind
  obtain ⟨t1, ta, t2, CX2, k2, f2, dvs2, sp2, E2, h1, h2, h3, G, hk2, hx2, hq⟩ := hbody cc cda A outer s H vs Q E (hr.deeper _) hsp
  have C : NdefX.CellsAt [(("__class__" : Str), cc)] ["__class__"] [none] s.heap H := by
    have hc : s.heap.get? cc = some ⟨cl, cld, .cell (some (.ref D)), csl⟩ := KX _ _ lkl
    have hH : H cc = none := by
      have hb : base.get? cc = some ⟨cl, cld, .cell (some (.ref D)), csl⟩ := e0.mod.kin _ _ lkl
      exact (e0.bs _ _ hb).2
    have one : ∀ (y : Str) (c : Addr), ([(("__class__" : Str), cc)] : List (Str × Addr)).lookup y = some c → y = "__class__" ∧ c = cc := fun y c hy => by
      rcases look_cons hy with ⟨e1, e2⟩ | z
      · exact ⟨e1, e2⟩
      · cases z
    refine ⟨rfl, fun y c hy => ?_, fun x y c hx hy => (one x c hx).1.trans (one y c hy).1.symm, fun i y hy => ?_⟩
    · obtain ⟨_, rfl⟩ := one y c hy
      exact ⟨hH, _, _, hc, rfl⟩
    · have e2 : y = "__class__" := by
        cases i with
        | zero => cases hy; rfl
        | succ i => cases hy
      subst e2
      refine ⟨cc, rfl, fun v hv => ?_⟩
      cases i with
      | zero => cases hv
      | succ i => cases hv
  have I := NdefX.inv_startN (CX := CX) (P := P) (w := w) (K := K) (mg := mg) (base := base) (N := N) (F := ⟨x, qual, params, body, scope, [("__class__", cc)], cda⟩) (f := f) (E := E) (tk := s.toks + (ps.zip us).length) S hr.hd e0 hl r C hns kp
  have est : NdefX.startF N vs [none] = L2.start N vs := by
    unfold NdefX.startF L2.start
    congr 1
    rw [List.length_singleton, ← List.singleton_append]
    have : N.length - vs.length = (N.length - vs.length - 1) + 1 := by omega
    rw [this, List.replicate_succ]
    rfl
  rw [est] at I
  have SX : SupX (scx CX P w K mg base N x qual params body scope cc cda f A outer s H E) D f cda cc ar := by
    refine ⟨rfl, rfl, ?_, ⟨ccl, cdd, vsc, ccs, file, tf, lkc, hvs, hfile⟩, htop, hks, S.frk _ (List.mem_singleton.mpr rfl), rfl, ⟨cl, cld, csl, lkl⟩, T.cD, T.mg, T.st, hn0, hka⟩
    cases z : (params.posonlyargs ++ params.args).head? with
    | none => rw [z] at har; cases har
    | some a =>
      rw [z] at har
      exact ⟨_, _, _, _, a, lk, z, Option.some.inj har⟩
  have fin : ∀ {s' : Shared} {σ' : L2.St} {H' : Hp} {v : V} {u : Value}, Inv (scx CX P w K mg base N x qual params body scope cc cda f A outer s H E) [] σ' H' s' → L2.RelV v u → Q v H' → CE outer P w H s Q u s' :=
    fun {s' σ' H' v u} J rv q => ⟨v, H', J.os, J.bare, J.base, J.hok, rv, q⟩
  have eb2 : execs body (scx CX P w K mg base N x qual params body scope cc cda f A outer s H E).env = execs (pre ++ .Expr (.Call (.Attribute (.Call (.Name "super" p0) [] [] p1) m apos) (e :: es) [] pos) epos :: post) (scx CX P w K mg base N x qual params body scope cc cda f A outer s H E).env := by rw [← eb]
  show _root_.PySem.wpAt _ _ _ (execs body _) _ _ _
  refine eb2 ▸ wpAt_app (wpAny_mono (h1.run [] _ (L2.start N vs) H _ I hq) (fun fl s' hs => ?_) fun _ _ z => z)
  cases fl with
  | ret u =>
    obtain ⟨v, σ', H', J, rv, q⟩ := hs
    exact fin J rv q
  | brk =>
    obtain ⟨_, _, _, q⟩ := hs
    exact False.elim q
  | cont =>
    obtain ⟨_, _, _, q⟩ := hs
    exact False.elim q
  | next =>
    obtain ⟨σ', H', J, q⟩ := hs
    refine ks_wpAt_execs_cons (_root_.PySem.wpAt_mono (sup_run (pl := pl _) SX hm h2 G ((hr.deeper _).mono hk2) hx2 J q (hst _) (hpl _) (he _) (hsw _)) (fun fl2 s2 hq2 => ?_) fun _ _ z => z)
    obtain ⟨rfl, H2, J2, q2⟩ := hq2
    refine _root_.PySem.wpAt_of_wpAny (wpAny_mono (h3.run [] s2 σ' H2 _ J2 q2) (fun fl s' hs => ?_) fun _ _ z => z)
    cases fl with
    | ret u =>
      obtain ⟨v, σ', H', J, rv, q⟩ := hs
      exact fin J rv q
    | next =>
      obtain ⟨σ', H', J, q⟩ := hs
      exact fin (v := V.non) (u := Value.none) J rfl q
    | brk =>
      obtain ⟨_, _, _, q⟩ := hs
      exact False.elim q
    | cont =>
      obtain ⟨_, _, _, q⟩ := hs
      exact False.elim q
end
end Gp
end
section
set_option Elab.async false
set_option linter.all false
set_option maxRecDepth 100000
set_option maxHeartbeats 4000000
namespace Gp
open PySem PySem.Spec PyProof.Rows L2 Gh
structure Ds where
  d : Df
  own : PySem.W.Frag → Addr
def fnAtS (K : PySem.W.Frag) (a : Addr) : He.FnW := match K.lookup a with
  | some ⟨_, _, .func fd, _⟩ => some (fd.name, fd.qualname, fd.params, fd.body, fd.scope, fd.globals, fd.closure.map (fun q => (q.1, 0)), fd.builtins)
  | _ => none
def Ds.val (d : Ds) : He.FnW := some (d.d.name, d.d.qual, defArgs d.d.st, .stmts (defBody d.d.st), defScope d.d.st, mainGlobals, [("__class__", 0)], builtinsNs)
def fileB (K : PySem.W.Frag) (file : Str) : Value → Bool
  | .ref c => (match K.lookup c with
    | some ⟨_, _, Data.fields vs, _⟩ => (match (vs[2]? : Option Value) with
      | some (Value.str f _) => decide (f = file)
      | _ => false)
    | _ => false)
  | _ => false
def cellB (K : PySem.W.Frag) (B : Addr) : List (Str × Addr) → Bool
  | [(_, c)] => (match K.lookup c with
    | some ⟨_, _, .cell (some (.ref b)), _⟩ => decide (b = B)
    | _ => false)
  | _ => false
def Ds.ok (file : Str) (K : PySem.W.Frag) (d : Ds) : Bool := PySem.W.keepIn K (.ref (d.d.adr K)) && (match K.lookup (d.d.adr K) with
  | some ⟨_, _, .func fd, _⟩ => PySem.W.codeIn K fd.code d.d.qual && (He.dflB K fd.defaults (d.d.dvs K) && (fileB K file fd.code && cellB K (d.own K) fd.closure))
  | _ => false)
structure SaysS (ex : List (PySem.W.Frag → Bool)) (fn : List Df) (tf : List He.Defn) (fs : List Ds) (file : Str) (h : Heap) (K : PySem.W.Frag) : Prop where
  s : SaysT ex fn tf h K
  o : (fs.all fun d => d.ok file K) = true
  v : (fs.map fun d => fnAtS K (d.d.adr K)) = fs.map Ds.val
abbrev AlS : Type := AlT × Bool × List He.FnW
end Gp
end
section
set_option Elab.async false
set_option linter.all false
set_option maxRecDepth 100000
set_option maxHeartbeats 4000000
namespace Gp
open PySem PySem.Spec PyProof.Rows L2 Gh
section
variable {P : Program} {w : World} {K : PySem.W.Frag} {mg : Str → Option Value} {base : Heap} {CX : CXT} {k : Nat} {x qual file m ar : Str} {params : Arguments} {body : List Stmt} {scope : Scope} {dvs : List V} {f D : Addr} {fd : FuncData} {N ps : List Str} {sp : Sp}
theorem SupF.run {A : Around} {outer : List PySem.Env} {s : Shared} {H : Hp} {args : Args} {Q : VK} {E : XK} {G : List V → Hp → Prop} {pre post : List Stmt} {p0 p1 apos pos epos : Pos} {e : Expr} {es : List Expr} (eb : body = pre ++ .Expr (.Call (.Attribute (.Call (.Name "super" p0) [] [] p1) m apos) (e :: es) [] pos) epos :: post) (F : SupF K x qual params body scope dvs f D file fd) (T : SupT K mg D) (S : NdefX.NScope N ps ["__class__"] scope)
    (hr : Room (k + 1) A) (e0 : Env0 P w K mg base A outer s H) (hb : StX.Bnd CX P w K mg base fd args ps A outer s H E G) (hfile : ((P.main.file : Str) == file) = true) (htop : (P.main.scope.names.lookup ("super" : Str)).isSome = false) (hm : (m == ("__class__" : Str)) = false) (hks : scope.names.lookup ("super" : Str) = some .globalImplicit)
    (har : ((params.posonlyargs ++ params.args).head?).map (·.arg) = some ar) (hn0 : N[0]? = some ar) (hka : scope.names.lookup ar = some .local)
    (hbody : ∀ (cc cda : Addr) (s : Shared) (H : Hp) (vs : List V), Room k (scx CX P w K mg base N x qual params body scope cc cda f A outer s H E).A → G vs H →
      ∃ t1 ta t2 CX2 k2 f2 dvs2 sp2 E2, PSs (scx CX P w K mg base N x qual params body scope cc cda f A outer s H E) pre t1 ∧
        PA (scx CX P w K mg base N x qual params body scope cc cda f A outer s H E) (e :: es) ta ∧
        PSs (scx CX P w K mg base N x qual params body scope cc cda f A outer s H E) post t2 ∧
        PromO P w K mg base CX2 k2 f2 dvs2 sp2 ∧ k2 ≤ k ∧ Passes CX2 (scx CX P w K mg base N x qual params body scope cc cda f A outer s H E) E2 ∧
        t1 { nx := fun σ1 H1 => ∃ a C dx fs, σ1[0]? = some (some (.ref a)) ∧ H1 a = some (.ins C dx fs) ∧ SupC K C D m f2 ∧ ta σ1 H1 fun us H2 => sp2 (.ref a :: (us ++ dvs2)) H2 (fun _ H3 => t2 { nx := fun _ H' => Q .non H', rt := Q } σ1 H3) E2, rt := Q } (L2.start N vs) H)
    (hst : ∀ env : PySem.Env, starEach (e :: es) env = (false, eval e env) :: starEach es env := by intro _; rfl) (hpl : ∀ env : PySem.Env, (backTo pos (starEach es env)).any (·.1) = false := by intro _; rfl)
    (pl : PySem.Env → Sem Bool)
    (he : ∀ env : PySem.Env, eval (.Call (.Attribute (.Call (.Name "super" p0) [] [] p1) m apos) (e :: es) [] pos) env = (do
      let ov ← attributeBase (.Call (.Name "super" p0) [] [] p1) m env (eval (.Call (.Name "super" p0) [] [] p1) env)
      standAt apos.atName
      let (f, first) ← holding [ov] (getMethod ov m (pl env))
      callWith pos f first (backTo pos (starEach (e :: es) env)) []))
    (hsw : ∀ env : PySem.Env, swapsWith (.Call (.Attribute (.Call (.Name "super" p0) [] [] p1) m apos) (e :: es) [] pos) none epos.line env = pure false := by intro _; rfl) :
    codeAny (model P w) A (.call (.ref f) args) (CR CX outer P w H s Q E) s := by
  obtain ⟨oc, od, dV, kV, doc, pm, an, cda, ct, osl, cc, rfl, lk, hcd, _, ⟨cl, cld, csl, lkl⟩, ccl, cdd, vsc, ccs, tf, lkc, hvs⟩ := F.ex
  have KX0 : K.In s.heap := e0.mod.kin.keeps fun b o e => (e0.bs b o e).1
  refine codeAny_call_function hr.depth (KX0 _ _ lk) rfl S.co S.gen rfl (PySem.W.codeRec_of KX0 hcd) ?_
  refine hb _ _ _ fun s2 H2 vs us e2 un ho hxx r hl gg => ?_
  have KX : K.In s2.heap := e0.mod.kin.keeps fun b o e => (e2.bs b o e).1
  have lim : s2.heap.NoLimit := e0.mod.nolimit.keeps fun b o e => (e2.bs b o e).1
  have hpl2 : ps.length + 1 ≤ N.length := by
    have q := congrArg List.length S.pre
    rw [List.length_take, List.length_append] at q
    have : (["__class__"] : List Str).length = 1 := rfl
    omega
  refine wpAny_newFunctionEnv S.nocell (fun ⟨n, _⟩ hy => S.par n (List.of_mem_zip hy).1) (fun h₁ hns hsb => ⟨lim.fresh _ hsb, ks_codeAny_funcAt ?_⟩) S.kind
  have kp : ∀ b o, s2.heap.get? b = some o → h₁.get? b = some o := fun b o e => hsb.extBut b o (Nat.ne_of_lt (Heap.lt_size e)) (Heap.get?_push_of_some _ e)
  refine _root_.PySem.wpAt_mono (Q := fun fl s' => CR CX outer P w H s Q E (.ok (.ret (match fl with | .ret v => v | _ => .none))) s') (E := (scx CX P w K mg base N x qual params body scope cc cda f A outer s2 H2 E).xe) ?_ (fun _ _ z => z) (fun e s' hs => wpAny_mono hs (fun _ s'' z => hxx e s'' z) fun e' s'' z => hxx e' s'' z)
  obtain ⟨t1, ta, t2, CX2, k2, f2, dvs2, sp2, E2, h1, h2, h3, G, hk2, hx2, hq⟩ := hbody cc cda s2 H2 vs (hr.deeper _) gg
  have C : NdefX.CellsAt [(("__class__" : Str), cc)] ["__class__"] [none] s2.heap H2 := by
    have hc : s2.heap.get? cc = some ⟨cl, cld, .cell (some (.ref D)), csl⟩ := KX _ _ lkl
    have hH : H2 cc = none := by
      have hb : base.get? cc = some ⟨cl, cld, .cell (some (.ref D)), csl⟩ := e0.mod.kin _ _ lkl
      exact (e2.bs _ _ hb).2
    have one : ∀ (y : Str) (c : Addr), ([(("__class__" : Str), cc)] : List (Str × Addr)).lookup y = some c → y = "__class__" ∧ c = cc := fun y c hy => by
      rcases look_cons hy with ⟨e1, e2⟩ | z
      · exact ⟨e1, e2⟩
      · cases z
    refine ⟨rfl, fun y c hy => ?_, fun x y c hx hy => (one x c hx).1.trans (one y c hy).1.symm, fun i y hy => ?_⟩
    · obtain ⟨_, rfl⟩ := one y c hy
      exact ⟨hH, _, _, hc, rfl⟩
    · have e2 : y = "__class__" := by
        cases i with
        | zero => cases hy; rfl
        | succ i => cases hy
      subst e2
      refine ⟨cc, rfl, fun v hv => ?_⟩
      cases i with
      | zero => cases hv
      | succ i => cases hv
  have I := NdefX.inv_startN (CX := CX) (P := P) (w := w) (K := K) (mg := mg) (base := base) (N := N) (F := ⟨x, qual, params, body, scope, [("__class__", cc)], cda⟩) (f := f) (E := E) (tk := s2.toks + (ps.zip us).length) S hr.hd e2 hl r C hns kp
  have est : NdefX.startF N vs [none] = L2.start N vs := by
    unfold NdefX.startF L2.start
    congr 1
    rw [List.length_singleton, ← List.singleton_append]
    have : N.length - vs.length = (N.length - vs.length - 1) + 1 := by omega
    rw [this, List.replicate_succ]
    rfl
  rw [est] at I
  have SX : SupX (scx CX P w K mg base N x qual params body scope cc cda f A outer s2 H2 E) D f cda cc ar := by
    refine ⟨rfl, rfl, ?_, ⟨ccl, cdd, vsc, ccs, file, tf, lkc, hvs, hfile⟩, htop, hks, S.frk _ (List.mem_singleton.mpr rfl), rfl, ⟨cl, cld, csl, lkl⟩, T.cD, T.mg, T.st, hn0, hka⟩
    cases z : (params.posonlyargs ++ params.args).head? with
    | none => rw [z] at har; cases har
    | some a =>
      rw [z] at har
      exact ⟨_, _, _, _, a, lk, z, Option.some.inj har⟩
  have fin : ∀ {s' : Shared} {σ' : L2.St} {H' : Hp} {v : V} {u : Value}, Inv (scx CX P w K mg base N x qual params body scope cc cda f A outer s2 H2 E) [] σ' H' s' → L2.RelV v u → Q v H' → CE outer P w H s Q u s' :=
    fun {s' σ' H' v u} J rv q => ⟨v, H', J.os.trans ho, J.bare, un.trans J.base, J.hok, rv, q⟩
  have eb2 : execs body (scx CX P w K mg base N x qual params body scope cc cda f A outer s2 H2 E).env = execs (pre ++ .Expr (.Call (.Attribute (.Call (.Name "super" p0) [] [] p1) m apos) (e :: es) [] pos) epos :: post) (scx CX P w K mg base N x qual params body scope cc cda f A outer s2 H2 E).env := by rw [← eb]
  show _root_.PySem.wpAt _ _ _ (execs body _) _ _ _
  refine eb2 ▸ wpAt_app (wpAny_mono (h1.run [] _ (L2.start N vs) H2 _ I hq) (fun fl s' hs => ?_) fun _ _ z => z)
  cases fl with
  | ret u =>
    obtain ⟨v, σ', H', J, rv, q⟩ := hs
    exact fin J rv q
  | brk =>
    obtain ⟨_, _, _, q⟩ := hs
    exact False.elim q
  | cont =>
    obtain ⟨_, _, _, q⟩ := hs
    exact False.elim q
  | next =>
    obtain ⟨σ', H', J, q⟩ := hs
    refine ks_wpAt_execs_cons (_root_.PySem.wpAt_mono (sup_run (pl := pl _) SX hm h2 G ((hr.deeper _).mono hk2) hx2 J q (hst _) (hpl _) (he _) (hsw _)) (fun fl2 s3 hq2 => ?_) fun _ _ z => z)
    obtain ⟨rfl, H3, J2, q2⟩ := hq2
    refine _root_.PySem.wpAt_of_wpAny (wpAny_mono (h3.run [] s3 σ' H3 _ J2 q2) (fun fl s' hs => ?_) fun _ _ z => z)
    cases fl with
    | ret u =>
      obtain ⟨v, σ', H', J, rv, q⟩ := hs
      exact fin J rv q
    | next =>
      obtain ⟨σ', H', J, q⟩ := hs
      exact fin (v := V.non) (u := Value.none) J rfl q
    | brk =>
      obtain ⟨_, _, _, q⟩ := hs
      exact False.elim q
    | cont =>
      obtain ⟨_, _, _, q⟩ := hs
      exact False.elim q
end
section
variable {g : Gw} {Mt U0 U U' : Addr → Prop} {H0 H H' H1 H2 : Hp} {b b1 b2 : Nat} {σ : L2.St} {ε ε' : Env} {E : XK}
end
end Gp
end
section
set_option Elab.async false
set_option linter.all false
set_option maxRecDepth 100000
set_option maxHeartbeats 4000000
namespace Gp
open PySem PySem.Spec PyProof.Rows L2 Gh
def frL {α : Type} : List (Addr × Obj) → (List (Addr × Obj) → α) → α
  | [], k => k []
  | (a, o) :: r, k => frL r fun r' => k ((a, o) :: r')
theorem frL_eq {α : Type} : ∀ (l : List (Addr × Obj)) (k : List (Addr × Obj) → α), frL l k = k l
  | [], _ => rfl
  | (a, o) :: r, k => by
    show frL r (fun r' => k ((a, o) :: r')) = _
    rw [frL_eq r]
def obsK (ex : List (PySem.W.Frag → Bool)) (fn : List Df) (tf : List He.Defn) (fs : List Ds) (file : Str) (g : Addr → Option Obj) (K : PySem.W.Frag) : AlS :=
  ((obs ex fn K, He.tabsB g tf K), (fs.all fun d => d.ok file K), fs.map fun d => fnAtS K (d.d.adr K))
def obsL (as : List Addr) (ex : List (PySem.W.Frag → Bool)) (fn : List Df) (tf : List He.Defn) (fs : List Ds) (file : Str) (g : Addr → Option Obj) : AlS := frL (He.frT g as) fun K => obsK ex fn tf fs file g K
theorem saysL_of {as : List Addr} {ex : List (PySem.W.Frag → Bool)} {fn : List Df} {tf : List He.Defn} {h : Heap} (e1 : obs ex fn (He.frT h.get? as) = val fn) (e2 : He.tabsB h.get? tf (He.frT h.get? as) = true) : SaysT ex fn tf h (He.frT h.get? as) := by
  have key : ∀ p ∈ tf, PySem.W.codeHdIn (He.frT h.get? as) (He.cT (He.frT h.get? as) p).1 (He.cT (He.frT h.get? as) p).2 = true ∧ ∃ o, h.get? (He.cT (He.frT h.get? as) p).2 = some o ∧ He.emptyTab o = true := fun p hp => by
    obtain ⟨h3, h4⟩ := He.ba (List.all_eq_true.mp e2 p hp)
    refine ⟨h3, ?_⟩
    cases q : h.get? (He.cT (He.frT h.get? as) p).2 with
    | none =>
      rw [q] at h4
      cases h4
    | some o =>
      rw [q] at h4
      exact ⟨o, rfl, h4⟩
  exact ⟨e1, fun p hp => (key p hp).1, fun p hp => by
    obtain ⟨_, o, q, z⟩ := key p hp
    exact He.frT_none q z, fun p hp => by
    obtain ⟨_, o, q, z⟩ := key p hp
    rw [q, He.emptyTab_eq z]⟩
def hookL (as : List Addr) (ex : List (PySem.W.Frag → Bool)) (fn : List Df) (tf : List He.Defn) (fs : List Ds) (file : Str) : PySem.W.Hook where
  α := AlS
  obs := fun s => obsL as ex fn tf fs file s.heap.get?
  val := fun _ => ((Gh.val fn, true), true, fs.map Ds.val)
  says := fun _ h => ∃ K : PySem.W.Frag, K.In h ∧ SaysS ex fn tf fs file h K
  of := fun _ s e => by
    have e' : obsK ex fn tf fs file _ (He.frT _ as) = ((Gh.val fn, true), true, fs.map Ds.val) := (frL_eq _ _).symm.trans e
    exact ⟨_, He.frT_in, ⟨saysL_of (congrArg (fun z : AlS => z.1.1) e') (congrArg (fun z : AlS => z.1.2) e'), congrArg (fun z : AlS => z.2.1) e', congrArg (fun z : AlS => z.2.2) e'⟩⟩
  keeps := fun _ _ _ ⟨K, hK, c⟩ k => ⟨K, PySem.W.Frag.In.keeps hK k, ⟨⟨c.s.t, c.s.hd, c.s.out, fun p hp => k _ _ (c.s.empty p hp)⟩, c.o, c.v⟩⟩
end Gp
end
section
set_option Elab.async false
set_option linter.all false
set_option maxRecDepth 100000
set_option maxHeartbeats 4000000
namespace Gp
open PySem PySem.Spec PyProof.Rows L2 Gh
def clsG (x m : Str) (K : PySem.W.Frag) : Addr := match PySem.W.recIn K (He.ma K (He.ga K x) m) "classmethod" with
  | some (.ref g :: _) => g
  | _ => 0
def clmB (x m : Str) (K : PySem.W.Frag) : Bool := PySem.W.readsIn K (gd x K) (.type "type") && (He.eqO (PySem.W.specialIn K (.ref (gd x K)) "__getattribute__") (some (some (.builtin "type.__getattribute__"))) &&
  ((match PySem.W.findCls K (.ref (gd x K)) (.type "type") m with
    | some (.get (.builtin b) (.ref p) .none (.ref C)) => decide (b = "classmethod.__get__") && (decide (p = He.ma K (He.ga K x) m) && decide (C = gd x K))
    | _ => false) && ((match PySem.W.recIn K (He.ma K (He.ga K x) m) "classmethod" with
    | some (.ref _ :: _) => true
    | _ => false) && PySem.W.fnIn K (clsG x m K))))
section
variable {g : Gw} {U : Addr → Prop} {H : Hp} {σ : L2.St} {ε : Env} {E : XK} {Q : VK}
end
end Gp
end
section
set_option Elab.async false
set_option linter.all false
set_option maxRecDepth 100000
set_option maxHeartbeats 4000000
namespace Gp
open PySem PySem.Spec PyProof.Rows L2 Gh
section
variable {g : Gw} {Mt U0 U U' : Addr → Prop} {H0 H H' H1 H2 : Hp} {b b1 : Nat} {σ : L2.St} {ε ε' : Env} {E : XK} {W L W' : Type}
variable {env : W → Env} {envL : L → Env} {env' : W' → Env} {u ta tb : TS} {te ti : TE} {me mi : Tr D}
structure Pnd (g : Gw) (Mt U0 : Addr → Prop) (H0 : Hp) (U : Addr → Prop) (σ : L2.St) (H : Hp) (ε : Env) (A : Addr) (ds : List D) : Prop where
  at_ : ∃ vs, H A = some (.lst vs) ∧ vs.length ≤ sizeLine ∧ DenL g U H vs ds
  u : U A
  np : A ≠ g.p
  nc : A ≠ g.c
  n0 : ¬ U0 A
  no : ∀ j, ¬ OwnAt σ ε j A
  mt : Mt A ∨ ∀ o, H0 A = some o → ∃ ps, o = .tbl ps
theorem Pnd.fr {A : Addr} {ds : List D} (uo : UOk g U H) (p : Pnd g Mt U0 H0 U σ H ε A ds) (f : Fr H H' g.p) : Pnd g Mt U0 H0 U σ H' ε A ds := by
  obtain ⟨⟨vs, hA, l, dn⟩, uA, hp, hc, n0, no, mt⟩ := p
  exact ⟨⟨vs, f _ _ hA hp (fun _ z => by cases z), l, dn.fr uo f⟩, uA, hp, hc, n0, no, mt⟩
theorem Pnd.set {A : Addr} {ds : List D} (p : Pnd g Mt U0 H0 U σ H ε A ds) (i : Nat) (v : V) (d : D) : Pnd g Mt U0 H0 U (σ.set i (some v)) H (ε.set i (.fz d)) A ds :=
  ⟨p.at_, p.u, p.np, p.nc, p.n0, fun j h => p.no j (ownAt_set h).2, p.mt⟩
inductive QR (g : Gw) (Mt U0 : Addr → Prop) (H0 : Hp) (U : Addr → Prop) (σ : L2.St) (H : Hp) (ε : Env) : Nat → List V → List D → Prop
  | here {A : Addr} {ds : List D} {vs : List V} {xs : List D} : Pnd g Mt U0 H0 U σ H ε A ds → DenL g U H vs xs → QR g Mt U0 H0 U σ H ε 0 (.ref A :: vs) (.lst ds :: xs)
  | next {n : Nat} {v : V} {d : D} {vs : List V} {ds : List D} : Den g U H v d → QR g Mt U0 H0 U σ H ε n vs ds → QR g Mt U0 H0 U σ H ε (n + 1) (v :: vs) (d :: ds)
theorem QR.length {n : Nat} : ∀ {vs : List V} {ds : List D}, QR g Mt U0 H0 U σ H ε n vs ds → vs.length = ds.length
  | _, _, .here _ k => congrArg (· + 1) k.length
  | _, _, .next _ r => congrArg (· + 1) r.length
end
end Gp
end
section
set_option Elab.async false
set_option linter.all false
set_option maxRecDepth 100000
set_option maxHeartbeats 4000000
namespace Gp
open PySem PySem.Spec PyProof.Rows L2 Gh
inductive ItH where
  | s (x : Str) | n (i : Int) | f (x : Str)
def ItH.d (fs : Fs) : ItH → Option D
  | .s x => if x.length ≤ sizeLine then some (.str x) else none
  | .n k => some (.int k)
  | .f x => fs.lookup x
section
variable {g : Gw} {U : Addr → Prop} {H H' : Hp} {b : Nat} {σ : L2.St} {ε : Env}
def Fz (ε : Env) : Prop := ∀ s ∈ ε, (∃ d, s = .fz d) ∨ s = .no
theorem Fz.set {j : Nat} {d : D} (h : Fz ε) : Fz (ε.set j (.fz d)) := fun s m => by
  rcases List.mem_or_eq_of_mem_set m with m | m
  · exact h s m
  · exact .inl ⟨_, m⟩
theorem Fz.own (h : Fz ε) : ∀ i a, ¬ OwnAt σ ε i a := fun i a ⟨_, z⟩ => by
  rcases z with ⟨x, z⟩ | ⟨x, y, z⟩
  · rcases h _ (List.mem_of_getElem? z) with ⟨d, e⟩ | e <;> cases e
  · rcases h _ (List.mem_of_getElem? z) with ⟨d, e⟩ | e <;> cases e
end
end Gp
end
section
set_option Elab.async false
set_option linter.all false
set_option maxRecDepth 100000
set_option maxHeartbeats 4000000
namespace Gz
open PySem
open Sem (wp)
def pois : GenState → GenState
  | .suspended _ l c p fs cl => .suspended (fun _ => .unsupported "") l c p fs cl
  | x => x
def IsSusp (x : GenState) : Prop := ∃ k l c p fs cl, x = .suspended k l c p fs cl
def Fixd (x : GenState) : Prop := IsSusp x ∨ x = .running
abbrev Map := Nat → Option GenState
def rest (ρ : Map) (G : Array GenState) : Array GenState := G.mapIdx fun i x => (ρ i).getD x
structure Held (ρ : Map) (G : Array GenState) : Prop where
  at_ : ∀ i x, ρ i = some x → Fixd x ∧ G[i]? = some (pois x)
  fr : ∀ i k l c p fs cl, ρ i = none → G[i]? = some (.suspended k l c p fs cl) → ∀ g kk ll cc pp, Frame.gen g kk ll cc pp ∈ fs → ρ g = none
def FsOk (ρ : Map) (fs : List Frame) : Prop := ∀ g kk ll cc pp, Frame.gen g kk ll cc pp ∈ fs → ρ g = none
theorem rest_size (ρ : Map) (G : Array GenState) : (rest ρ G).size = G.size := by unfold rest; exact Array.size_mapIdx
theorem rest_get (ρ : Map) (G : Array GenState) (i : Nat) : (rest ρ G)[i]? = (G[i]?).map fun x => (ρ i).getD x := by
  unfold rest
  exact Array.getElem?_mapIdx
theorem Held.lt {ρ : Map} {G : Array GenState} (h : Held ρ G) {i : Nat} {x : GenState} (e : ρ i = some x) : i < G.size := by
  obtain ⟨_, q⟩ := h.at_ i x e
  exact (Array.getElem?_eq_some_iff.mp q).1
theorem Held.push {ρ : Map} {G : Array GenState} (h : Held ρ G) (c : Code) : Held ρ (G.push (.fresh c)) ∧ rest ρ (G.push (.fresh c)) = (rest ρ G).push (.fresh c) := by
  have hn : ρ G.size = none := by
    cases e : ρ G.size with
    | none => rfl
    | some x => exact absurd (h.lt e) (Nat.lt_irrefl _)
  refine ⟨⟨fun i x e => ?_, fun i k l c' p fs cl e q => ?_⟩, ?_⟩
  · obtain ⟨a, b⟩ := h.at_ i x e
    refine ⟨a, ?_⟩
    rw [Array.getElem?_push, if_neg (Nat.ne_of_lt (h.lt e))]
    exact b
  · rw [Array.getElem?_push] at q
    split at q
    · cases q
    · exact h.fr i k l c' p fs cl e q
  · apply Array.ext_getElem?
    intro i
    rw [rest_get, Array.getElem?_push, Array.getElem?_push, rest_size]
    by_cases e : i = G.size
    · rw [if_pos e, if_pos e, e, hn]
      rfl
    · rw [if_neg e, if_neg e, rest_get]
theorem Held.set {ρ : Map} {G : Array GenState} (h : Held ρ G) {g : Nat} (hg : ρ g = none) {y : GenState} (hy : ∀ k l c p fs cl, y = .suspended k l c p fs cl → FsOk ρ fs) :
    Held ρ (G.setIfInBounds g y) ∧ rest ρ (G.setIfInBounds g y) = (rest ρ G).setIfInBounds g y := by
  refine ⟨⟨fun i x e => ?_, fun i k l c p fs cl e q => ?_⟩, ?_⟩
  · obtain ⟨a, b⟩ := h.at_ i x e
    refine ⟨a, ?_⟩
    rw [Array.getElem?_setIfInBounds_ne (fun z => by rw [z, e] at hg; cases hg)]
    exact b
  · by_cases z : g = i
    · subst z
      rw [Array.getElem?_setIfInBounds_self] at q
      split at q
      · exact hy _ _ _ _ _ _ (Option.some.inj q)
      · cases q
    · rw [Array.getElem?_setIfInBounds_ne z] at q
      exact h.fr i k l c p fs cl e q
  · apply Array.ext_getElem?
    intro i
    rw [rest_get]
    by_cases z : g = i
    · subst z
      rw [Array.getElem?_setIfInBounds_self, Array.getElem?_setIfInBounds_self, rest_size, hg]
      split <;> rfl
    · rw [Array.getElem?_setIfInBounds_ne z, Array.getElem?_setIfInBounds_ne z, rest_get]
abbrev up (ρ : Map) (s : Shared) : Shared := { s with gens := rest ρ s.gens }
theorem Held.run {ρ : Map} {G : Array GenState} (h : Held ρ G) {g : Nat} (e : G[g]? = some .running) : (rest ρ G)[g]? = some .running := by
  rw [rest_get, e]
  cases q : ρ g with
  | none => rfl
  | some y =>
    obtain ⟨hy, b⟩ := h.at_ g y q
    rw [e] at b
    rcases hy with ⟨k, l, c, p, fs, cl, rfl⟩ | rfl
    · cases b
    · rfl
def Sleep (s s1 : Shared) : Prop := ∀ (i : Nat) (x : GenState), Fixd x → s.gens[i]? = some x → s1.gens[i]? = some x
theorem Sleep.refl {s : Shared} : Sleep s s := fun _ _ _ h => h
theorem Sleep.trans {a b c : Shared} (h : Sleep a b) (k : Sleep b c) : Sleep a c := fun i x hx e => k i x hx (h i x hx e)
end Gz
end
section
set_option Elab.async false
set_option linter.all false
set_option maxRecDepth 100000
set_option maxHeartbeats 4000000
namespace Gz
open PySem PySem.Spec PyProof.Rows L2 GenW Gh
abbrev EndI (ι : Type) := Nat → ι → Result → Shared → Prop
abbrev ProI (ι : Type) := Nat → ι → Value → Shared → (Resume → ι → Shared → Prop) → Prop
section
variable {ι : Type} {M : Model} {A : Around} {R : EndI ι} {Y : ProI ι} {n : Nat} {i : ι} {c : Code} {fs : List Frame} {s : Shared}
def endI (R : EndI ι) (Y : ProI ι) (n : Nat) (go : ι → Code → Sem PySem.Fin → List Frame → Shared → Prop) (i : ι) : End → Shared → Prop
  | .ret r, s' => R n i r s'
  | .susp v g l k c p fs, s' => (End.susp v g l k c p fs).quiet = true ∧ Y (n - 1) i v s' fun r j s'' => go j c (k r) fs s''
def GSeg (M : Model) (A : Around) (R : EndI ι) (Y : ProI ι) : Nat → ι → Code → Sem PySem.Fin → List Frame → Shared → Prop
  | 0, i, c, t, fs, s => ∀ Γ p, Γ.code = c → Γ.Woken A → ∃ e s', Runs M Γ p t fs s e s' ∧ endI R Y 0 (fun _ _ _ _ _ => False) i e s'
  | n + 1, i, c, t, fs, s => ∀ Γ p, Γ.code = c → Γ.Woken A → ∃ e s', Runs M Γ p t fs s e s' ∧ endI R Y (n + 1) (GSeg M A R Y n) i e s'
section
variable {α β : Type} {m : Sem α} {H : Value → Sem PySem.Fin} {gd : Bool → Bool} {lv : List Value → List Value}
end
section
variable {env : PySem.Env} {K : Flow → Sem PySem.Fin} {H : Value → Sem PySem.Fin} {gd : Bool → Bool} {lv : List Value → List Value}
end
section
variable {prog : Program} {w : World} {env : PySem.Env}
end
def GGoes (M : Model) (A : Around) (R : EndI ι) (Y : ProI ι) (n : Nat) (i : ι) : GenState → Resume → Shared → Prop
  | .fresh c, r, s => r = .send .none ∧ GSeg M A R Y n i c (M.den c) [] s
  | .suspended k _ c _ fs _, r, s => GSeg M A R Y n i c (k r) fs s
  | _, _, _ => False
end
end Gz
end
section
set_option Elab.async false
set_option linter.all false
set_option maxRecDepth 100000
set_option maxHeartbeats 4000000
namespace Gz
open PySem PySem.Spec PyProof.Rows L2 GenW Gh
variable {X : Cx}
def cut (h : Heap) (n : Nat) : Heap := { h with objs := h.objs.extract 0 n }
abbrev cutS (s : Shared) (n : Nat) : Shared := { s with heap := cut s.heap n }
abbrev reb (X : Cx) (s0 : Shared) (H0 : Hp) : Cx := { X with s_0 := s0, H_0 := H0, xe := fun _ _ => False }
def RunS (s s1 : Shared) : Prop := ∀ i : Nat, s.gens[i]? = some .running → s1.gens[i]? = some .running
theorem RunS.refl {s : Shared} : RunS s s := fun _ h => h
theorem RunS.trans {a b c : Shared} (h : RunS a b) (k : RunS b c) : RunS a c := fun i e => k i (h i e)
structure Pro (T : Type) where
  hp : T → Hp
  src : T → Shared → Shared
  out : Nat → T → V → Hp → Prop
  lk : Nat → T → Hp → T → Prop
  fin : Nat → T → Hp → Prop
structure QE (T : Type) where
  nx : Nat → T → L2.St → Hp → Prop
  rt : Nat → T → V → Hp → Prop
  bk : Nat → T → L2.St → Hp → Prop := fun _ _ _ _ => False
  ct : Nat → T → L2.St → Hp → Prop := fun _ _ _ _ => False
def QE.at {T : Type} (D : QE T) (n : Nat) (γ : T) : Ends := { nx := D.nx n γ, rt := D.rt n γ, bk := D.bk n γ, ct := D.ct n γ }
structure QI {T : Type} (X : Cx) (g n0 : Nat) (P : Pro T) (ip : List (Addr × Obj)) (gp : List (Nat × GenState)) (γ : T) (s₀ : Shared) (σ : L2.St) (H : Hp) (s : Shared) : Prop where
  inv : Inv (reb X (cutS (P.src γ s₀) n0) (P.hp γ)) ip σ H s
  run : s.gens[g]? = some .running
  sz : n0 ≤ (P.src γ s₀).heap.objs.size
  ips : ∀ p ∈ ip, n0 ≤ p.1
  slp : RunS s₀ s
  gpn : ∀ q ∈ gp, IsSusp q.2 ∧ s.gens[q.1]? = some q.2
def QY {T : Type} (X : Cx) (g n0 : Nat) (P : Pro T) : ProI (T × Shared) := fun n i v s kap =>
  ∃ σ ip gp x H, QI X g n0 P ip gp i.1 i.2 σ H s ∧ RelV x v ∧ P.out n i.1 x H ∧
    ∀ s' γ', QI X g n0 P ip gp γ' s' σ (P.hp γ') s' → P.lk n i.1 H γ' → kap (.send .none) (γ', s') s'
def QR {T : Type} (X : Cx) (g n0 : Nat) (P : Pro T) (N : Nat) (Er : Value → Shared → Prop) : EndI (T × Shared) := fun n i r s1 =>
  ((r = .ok (.ret .none) ∨ r = .ok .next) ∧ ∃ σ ip gp H, QI X g n0 P ip gp i.1 i.2 σ H s1 ∧ P.fin n i.1 H) ∨ ∃ e, r = .error e ∧ (n = N ∧ Er e s1)
section
variable {T : Type} {Z : GpZ} {st : Stmt} {rest : List Stmt} {pos : Pos}
end
end Gz
end
section
set_option Elab.async false
set_option linter.all false
set_option maxRecDepth 100000
set_option maxHeartbeats 4000000
namespace Gz
open PySem PySem.Spec PyProof.Rows L2 GenW Gh
section
variable {X : Cx} {ip : List (Addr × Obj)} {σ : L2.St} {H : Hp} {s : Shared}
end
structure HxOk (n : Nat) (H H2 : Hp) : Prop where
  low : ∀ {b : Addr}, b < n → H2 b = H b
  ext : ∀ {b : Addr} {o : HO}, H b = some o → H2 b = some o
  tup : ∀ {b : Addr} {xs : List V}, H2 b = some (.tup xs) → H b = some (.tup xs)
  frz : ∀ {b : Addr} {od : Obj} {u : HO}, H2 b = some (.frz od u) → H b = some (.frz od u)
  tbl : ∀ {b : Addr} {ps : Array Value}, H2 b = some (.tbl ps) → H b = some (.tbl ps)
theorem HxOk.sub {n : Nat} {H H2 : Hp} (h : HxOk n H H2) {b : Addr} (e : H2 b = none) : H b = none := by
  cases q : H b with
  | none => rfl
  | some o =>
    rw [h.ext q] at e
    cases e
theorem HxOk.mono {n m : Nat} {H H2 : Hp} (h : HxOk n H H2) (l : m ≤ n) : HxOk m H H2 := ⟨fun q => h.low (Nat.lt_of_lt_of_le q l), h.ext, h.tup, h.frz, h.tbl⟩
theorem HxOk.same {n : Nat} {H H2 : Hp} (h : H2 = H) : HxOk n H H2 := by
  subst h
  exact ⟨fun _ => rfl, fun e => e, fun e => e, fun e => e, fun e => e⟩
theorem HxOk.trans {n : Nat} {H H2 H3 : Hp} (h : HxOk n H H2) (k : HxOk n H2 H3) : HxOk n H H3 :=
  ⟨fun q => (k.low q).trans (h.low q), fun e => k.ext (h.ext e), fun e => h.tup (k.tup e), fun e => h.frz (k.frz e), fun e => h.tbl (k.tbl e)⟩
theorem HxOk.one {n : Nat} {H H2 : Hp} (z : ∃ S o, n ≤ S ∧ H S = none ∧ (∀ xs, o ≠ .tup xs) ∧ (∀ od u, o ≠ .frz od u) ∧ (∀ ps, o ≠ .tbl ps) ∧ H2 = upd H S o) : HxOk n H H2 := by
  obtain ⟨S, o, h0, h1, h2, h3, h4, rfl⟩ := z
  refine ⟨fun l => ?_, fun e => ?_, fun {b xs} e => ?_, fun {b od u} e => ?_, fun {b ps} e => ?_⟩
  · rw [upd_ne (Nat.ne_of_lt (Nat.lt_of_lt_of_le l h0))]
  · rw [upd_ne (ne_of_none e h1)]; exact e
  · by_cases q : b = S
    · rw [q, upd_same] at e; cases e; exact absurd rfl (h2 _)
    · rwa [upd_ne q] at e
  · by_cases q : b = S
    · rw [q, upd_same] at e; cases e; exact absurd rfl (h3 _ _)
    · rwa [upd_ne q] at e
  · by_cases q : b = S
    · rw [q, upd_same] at e; cases e; exact absurd rfl (h4 _)
    · rwa [upd_ne q] at e
section
variable {T : Type} {X : Cx} {st : Stmt} {rest : List Stmt}
end
structure GX (X : Cx) (P : Program) (w : World) (base : Heap) (outer : List Env) (a : Addr) (g n0 : Nat) : Prop where
  prog : X.prog = P
  w : X.w = w
  base : X.base = base
  outer : X.outer = outer
  ex : X.ex = []
  cel : ∀ x c, X.env.cells.lookup x = some c → False
  gen : ∀ h : Heap, (∀ p ∈ X.pn, h.get? p.1 = some p.2) → h.IsGen a g
  loc : n0 ≤ X.env.locals
  pns : ∀ p ∈ X.pn, n0 ≤ p.1
end Gz
end
section
set_option Elab.async false
set_option linter.all false
set_option maxRecDepth 100000
set_option maxHeartbeats 4000000
namespace Gz
open PySem PySem.Spec PyProof.Rows L2 GenW Gh
def wrapP {T : Type} (P : Pro T) : Pro (T × Option Shared) := { hp := fun γ => P.hp γ.1, src := fun γ s => γ.2.getD s, out := fun n γ => P.out n γ.1, lk := fun n γ H γ' => P.lk n γ.1 H γ'.1, fin := fun n γ => P.fin n γ.1 }
section
variable {Xc X : Cx} {pins ip : List (Addr × Obj)} {σc σ : L2.St} {h1 h2 H1 : Hp} {s s' : Shared} {n0 : Nat}
end
structure SameC (X Y : Cx) : Prop where
  prog : Y.prog = X.prog
  w : Y.w = X.w
  base : Y.base = X.base
  stack : Y.stack = X.stack
theorem SameC.refl {X : Cx} : SameC X X := ⟨rfl, rfl, rfl, rfl⟩
structure Older (X XG : Cx) (pins : List (Addr × Obj)) (a : Addr) (g ns : Nat) : Prop where
  gx : GX XG X.prog X.w X.base X.stack a g ns
  s0 : X.s_0.heap.objs.size ≤ ns
  lo : X.env.locals < ns
  cl : ∀ x c, X.env.cells.lookup x = some c → c < ns
  pl : ∀ p ∈ X.pn ++ pins, p.1 < ns
  fs : ∀ b ∈ X.fs, b < ns
theorem Older.of {X XG : Cx} {pins : List (Addr × Obj)} {a : Addr} {g : Nat} {σ : L2.St} {H : Hp} {sc : Shared} (gx : GX XG X.prog X.w X.base X.stack a g sc.heap.objs.size) (I1 : Inv X pins σ H sc) : Older X XG pins a g sc.heap.objs.size :=
  ⟨gx, I1.sz, I1.lt, fun x c e => by
    obtain ⟨v, o, q, _⟩ := I1.cell x c e
    exact Heap.lt_size q, fun p hp => Heap.lt_size (I1.pin p hp).1, fun b hb => by
    obtain ⟨_, o, e, _⟩ := I1.ok.funs.mem hb
    exact Nat.lt_of_lt_of_le (Heap.lt_size e) I1.sz⟩
def Fst {T : Type} (X : Cx) (pins : List (Addr × Obj)) (P : Pro T) (ns : Nat) (γ : T × Option Shared) (σ : L2.St) : Prop :=
  ∀ s', γ.2 = some s' → s'.heap.objs.size = ns ∧ ∃ H1, Inv X pins σ H1 s' ∧ HxOk ns H1 (P.hp γ.1)
def Pulled {T : Type} (M : Model) (P : Pro T) (XG : Cx) (ns : Nat) (a : Addr) (g : Nat) (A : Around) (ER : Value → Shared → Prop) (N n : Nat) (γ : T × Option Shared) (s : Shared) : Prop :=
  s.heap.IsGen a g ∧ ∃ gs, s.gens[g]? = some gs ∧ GGoes M A.in1 (QR XG g ns (wrapP P) (N + 1) ER) (QY XG g ns (wrapP P)) (n + 1) (γ, s.setGen g .running) gs (.send .none) (s.setGen g .running)
section
variable {T : Type} {X XG : Cx} {pins : List (Addr × Obj)} {P : Pro T} {s s4 : Shared} {a : Addr} {g ns N n : Nat} {A : Around} {ER : Value → Shared → Prop} {σ σg : L2.St} {H4 : Hp} {γ : T × Option Shared} {ip : List (Addr × Obj)} {gp : List (Nat × GenState)} {gs' : GenState}
end
def PullS {T : Type} (X : Cx) (pins : List (Addr × Obj)) (P : Pro T) (I : Nat → T → L2.St → Prop) (sc : Shared) (XG : Cx) (a : Addr) (g : Nat) (A : Around) (H1 : Hp) (E : XK) (N n : Nat) (s : Shared) : Prop :=
  ∃ γ : T × Option Shared, ∃ σ, I n γ.1 σ ∧ Inv X pins σ (P.hp γ.1) s ∧ Fst X pins P sc.heap.objs.size γ σ ∧ Pulled (model X.prog X.w) P XG sc.heap.objs.size a g A (fun e s1 => CX X.prog X.w X.stack H1 sc E e s1 ∧ s1.heap.IsGen a g) N n γ s
section
variable {T : Type} {X XG : Cx} {pins : List (Addr × Obj)} {P : Pro T} {I : Nat → T → L2.St → Prop} {sc s : Shared} {a : Addr} {g N n : Nat} {A : Around} {H1 : Hp} {E : XK} {σ1 : L2.St}
theorem PullS.inv (h : PullS X pins P I sc XG a g A H1 E N n s) : ∃ γ σ, I n γ σ ∧ Inv X pins σ (P.hp γ) s := by
  obtain ⟨γ, σ, h1, h2, _⟩ := h
  exact ⟨γ.1, σ, h1, h2⟩
theorem PullS.gen (h : PullS X pins P I sc XG a g A H1 E N n s) : s.heap.IsGen a g := by
  obtain ⟨γ, _, _, _, _, h, _⟩ := h
  exact h
end
section
variable {X : Cx} {tg iter : Expr} {body : List Stmt} {tq : TQG} {gt : TG} {tb : TS} {pos : Pos} {k : Nat} {E : XK}
end
end Gz
end
section
set_option Elab.async false
set_option linter.all false
set_option maxRecDepth 100000
set_option maxHeartbeats 4000000
namespace Gp
open PySem PySem.Spec PyProof.Rows L2 Gh Gz
section
variable {W W' L : Type}
end
section
variable {g : Gw} {T : Type} {P : Pro T} {all : List D} {N : Nat} {W W' L : Type}
end
theorem Ev.sup {U U1 U' : Addr → Prop} {H H' : Hp} (h : Ev U H U' H') (s : ∀ a, U a → U1 a) : Ev U1 H U' H' := ⟨fun a o e n t => h.keep a o e (fun z => n (s a z)) t, fun a o e n t => h.out a o e (fun z => n (s a z)) t⟩
section
variable {g : Gw} {W W' L : Type} {ε : Env} {env : W → Env} {envL : L → Env} {env' : W' → Env} {u ta tb : TQA} {te : TE} {me : Tr D}
end
end Gp
end
section
set_option Elab.async false
set_option linter.all false
set_option maxRecDepth 100000
set_option maxHeartbeats 4000000
namespace Gp
open PySem PySem.Spec PyProof.Rows L2 Gh
inductive BX where
  | lit (b : Bool) | own (x : Str) | ty (x : String) | and (p q : BX)
def BX.v : BX → Bool
  | .lit b => b
  | .own _ => true
  | .ty _ => true
  | .and p q => p.v && q.v
def BX.free : BX → Bool
  | .lit _ => true
  | .own _ => false
  | .ty _ => false
  | .and p q => p.free && q.free
section
variable {g : Gw} {U : Addr → Prop} {H H' : Hp} {b : Nat} {σ : L2.St} {ε : Env}
end
end Gp
end
section
set_option Elab.async false
set_option linter.all false
set_option maxRecDepth 100000
set_option maxHeartbeats 4000000
namespace Gp
open PySem PySem.Spec PyProof.Rows L2 Gh
inductive IX where
  | s (x : Str) | n (i : Int) | f (cn x : Str)
def IX.d (cl : Str) (fs : Fs) : IX → Option D
  | .s x => if x.length ≤ sizeLine then some (.str x) else none
  | .n k => some (.int k)
  | .f cn x => if (cl == cn) = true then fs.lookup x else none
def ixDs (cl : Str) (fs : Fs) : List IX → Option (List D)
  | [] => some []
  | x :: r => match x.d cl fs, ixDs cl fs r with
    | some d, some ds => some (d :: ds)
    | _, _ => none
inductive TX where
  | own (x : Str) | not (p : TX) | and (p q : TX)
def TX.v (ki : Str → Str → Option Bool) (cl : Str) : TX → Option Bool
  | .own x => ki cl x
  | .not p => (p.v ki cl).map (!·)
  | .and p q => match p.v ki cl with
    | none => none
    | some false => some false
    | some true => q.v ki cl
inductive VX where
  | one (x : IX) | lst (l : List IX)
def VX.d (cl : Str) (fs : Fs) : VX → Option D
  | .one x => x.d cl fs
  | .lst l => match ixDs cl fs l with
    | some ds => if ds.length ≤ sizeLine then some (.lst ds) else none
    | none => none
inductive S1X where
  | set (v : VX) | sel (t : TX) (v u : VX)
def S1X.d (ki : Str → Str → Option Bool) (cl : Str) (fs : Fs) : S1X → Option D
  | .set v => v.d cl fs
  | .sel t v u => match t.v ki cl with
    | none => none
    | some true => v.d cl fs
    | some false => u.d cl fs
section
variable {g : Gw} {U : Addr → Prop} {H : Hp} {b : Nat} {σ : L2.St}
variable {a dd : Addr} {cl : Str} {i j n : Nat} {fvs : List (Str × V)} {fs : Fs} {ki : Str → Str → Option Bool}
end
end Gp
end
section
set_option Elab.async false
set_option linter.all false
set_option maxRecDepth 100000
set_option maxHeartbeats 4000000
namespace Gp
open PySem PySem.Spec PyProof.Rows L2 Gh
section
variable {g : Gw} {Mt U0 U U' : Addr → Prop} {H0 H H' H1 H2 : Hp} {b b1 b2 : Nat} {σ : L2.St} {ε ε' : Env} {E : XK} {W L W' : Type}
variable {env : W → Env} {envL : L → Env} {env' : W' → Env} {u ta tb : TS} {te : TE} {me : Tr D}
def frP (g : Gw) (U : Addr → Prop) (H : Hp) (c : Str) (Q : VK) : Fs → Nat → Prop := fun fs b' => ∀ x dx fvs H', (∀ o, H x = some o → ∃ ps, o = .tbl ps) → H' x = some (.ins (gd c g.K) dx fvs) → DenF g (fun a => U a ∨ a = x) H' fvs fs → Wd g H' b' → Fr H H' g.p → Q (.ref x) H'
theorem fresh_back {g : Gw} {H H' : Hp} {b : Nat} (w : Wd g H' b) (f : Fr H H' g.p) {x : Addr} (n : ∀ o, H' x = some o → ∃ ps, o = .tbl ps) : ∀ o, H x = some o → ∃ ps, o = .tbl ps := fun o e => by
  by_cases t : ∃ ps, o = .tbl ps
  · exact t
  · by_cases hp : x = g.p
    · subst hp
      obtain ⟨ns, i, z, h, _⟩ := w.pen
      obtain ⟨ps, q⟩ := n _ h
      cases q
    · exact n o (f x o e hp fun ps z => t ⟨ps, z⟩)
theorem frP.fr {c : Str} {Q : VK} {fs : Fs} (w : Wd g H1 b1) (f : Fr H H1 g.p) (h : frP g U H c Q fs b) : frP g U H1 c Q fs b := fun x dx fvs H' n hx df w' f' => h x dx fvs H' (fresh_back w f n) hx df w' (f.trans f')
end
end Gp
end
section
set_option Elab.async false
set_option linter.all false
set_option maxRecDepth 100000
set_option maxHeartbeats 4000000
namespace Gp
open PySem PySem.Spec PyProof.Rows L2 Gh
section
variable {X : Cx}
end
section
variable {κ : Type} [DecidableEq κ] {α : Type}
def lookP (ps : List (κ × α)) (k : κ) : Option α := (ps.find? fun kv => decide (kv.1 = k)).map (·.2)
def putP (ps : List (κ × α)) (k : κ) (v : α) : List (κ × α) :=
  if (ps.any fun kv => decide (kv.1 = k)) = true then ps.map (fun kv => if kv.1 = k then (kv.1, v) else kv) else ps ++ [(k, v)]
end
section
variable {κ : Type} [DecidableEq κ] {g : Gw} {U : Addr → Prop} {H : Hp}
end
section
variable {g : Gw} {Mt U0 U U' : Addr → Prop} {H0 H H' H1 H2 : Hp} {b b1 : Nat} {σ : L2.St} {ε ε' : Env} {E : XK} {W L W' : Type}
variable {env : W → Env} {envL : L → Env} {env' : W' → Env} {u ta tb : TS} {te td ty tv : TE} {me : Tr D}
theorem OwR.code {o : HO} {x : Ow} (h : OwR g U H o x) (c q) : LamX.CodeO c q ≠ o := fun e => by
  unfold LamX.CodeO at e
  rcases h.no with ⟨vs, z⟩ | ⟨vs, z⟩ | ⟨vs, z⟩ <;> (rw [z] at e; cases e)
end
end Gp
end
section
set_option Elab.async false
set_option linter.all false
set_option maxRecDepth 100000
set_option maxHeartbeats 0
namespace Lw
open PySem PySem.Spec PyProof.Rows L2 Gh Gp
def top (i : Nat) : Stmt := PySem.Challenge.pw_everyhunt_k42_forms_at_lengths.main.body.getD i (.Pass ⟨0, 0, 0, 0⟩)
abbrev s_BadLength___init__ : Stmt := inClass (top 3) 0
def d_BadLength___init__ : Df := ⟨md "BadLength" "__init__", "__init__", "BadLength.__init__", s_BadLength___init__, []⟩
abbrev s_BadPlace___init__ : Stmt := inClass (top 4) 0
def d_BadPlace___init__ : Df := ⟨md "BadPlace" "__init__", "__init__", "BadPlace.__init__", s_BadPlace___init__, []⟩
abbrev s_Overlap___init__ : Stmt := inClass (top 8) 0
def d_Overlap___init__ : Df := ⟨md "Overlap" "__init__", "__init__", "Overlap.__init__", s_Overlap___init__, []⟩
abbrev s__law_pen : Stmt := top 45
def d__law_pen : Df := ⟨gd "_law_pen", "_law_pen", "_law_pen", s__law_pen, []⟩
abbrev s__law_draw : Stmt := top 46
def d__law_draw : Df := ⟨gd "_law_draw", "_law_draw", "_law_draw", s__law_draw, []⟩
abbrev s_is_integer : Stmt := top 12
def d_is_integer : Df := ⟨gd "is_integer", "is_integer", "is_integer", s_is_integer, []⟩
abbrev s_is_within : Stmt := top 13
def d_is_within : Df := ⟨gd "is_within", "is_within", "is_within", s_is_within, []⟩
abbrev s_is_length : Stmt := top 14
def d_is_length : Df := ⟨gd "is_length", "is_length", "is_length", s_is_length, []⟩
abbrev s_need_length : Stmt := top 16
def d_need_length : Df := ⟨gd "need_length", "need_length", "need_length", s_need_length, []⟩
abbrev s_need_place : Stmt := top 17
def d_need_place : Df := ⟨gd "need_place", "need_place", "need_place", s_need_place, []⟩
abbrev s_is_rest : Stmt := top 15
def d_is_rest : Df := ⟨gd "is_rest", "is_rest", "is_rest", s_is_rest, []⟩
abbrev s_need_rest : Stmt := top 18
def d_need_rest : Df := ⟨gd "need_rest", "need_rest", "need_rest", s_need_rest, []⟩
abbrev s_seat_at : Stmt := top 29
def d_seat_at : Df := ⟨gd "seat_at", "seat_at", "seat_at", s_seat_at, []⟩
abbrev s_place_at : Stmt := top 30
def d_place_at : Df := ⟨gd "place_at", "place_at", "place_at", s_place_at, []⟩
abbrev s_is_offset : Stmt := top 21
def d_is_offset : Df := ⟨gd "is_offset", "is_offset", "is_offset", s_is_offset, []⟩
abbrev s_is_pair_row : Stmt := top 23
def d_is_pair_row : Df := ⟨gd "is_pair_row", "is_pair_row", "is_pair_row", s_is_pair_row, []⟩
abbrev s_is_mark_row : Stmt := top 24
def d_is_mark_row : Df := ⟨gd "is_mark_row", "is_mark_row", "is_mark_row", s_is_mark_row, []⟩
abbrev s_are_marks : Stmt := top 25
def d_are_marks : Df := ⟨gd "are_marks", "are_marks", "are_marks", s_are_marks, []⟩
abbrev s_Marks___init__ : Stmt := inClass (top 27) 0
def d_Marks___init__ : Df := ⟨md "Marks" "__init__", "__init__", "Marks.__init__", s_Marks___init__, []⟩
abbrev s_Marks_of : Stmt := inClass (top 27) 1
def d_Marks_of : Df := ⟨clsG "Marks" "of", "of", "Marks.of", s_Marks_of, []⟩
abbrev s_Shape___init__ : Stmt := inClass (top 35) 0
def d_Shape___init__ : Df := ⟨md "Shape" "__init__", "__init__", "Shape.__init__", s_Shape___init__, []⟩
abbrev s_Shape_seat_ahead : Stmt := inClass (top 35) 4
def d_Shape_seat_ahead : Df := ⟨md "Shape" "seat_ahead", "seat_ahead", "Shape.seat_ahead", s_Shape_seat_ahead, []⟩
abbrev s_Shape_marked_seats : Stmt := inClass (top 35) 5
def d_Shape_marked_seats : Df := ⟨md "Shape" "marked_seats", "marked_seats", "Shape.marked_seats", s_Shape_marked_seats, []⟩
abbrev s_is_shift : Stmt := top 38
def d_is_shift : Df := ⟨gd "is_shift", "is_shift", "is_shift", s_is_shift, []⟩
abbrev s_Form___init__ : Stmt := inClass (top 39) 0
def d_Form___init__ : Df := ⟨md "Form" "__init__", "__init__", "Form.__init__", s_Form___init__, []⟩
abbrev s_Form_rest : Stmt := inClass (top 39) 3
def d_Form_rest : Df := ⟨propG "Form" "rest", "rest", "Form.rest", s_Form_rest, []⟩
abbrev s_Form_need_own_length : Stmt := inClass (top 39) 10
def d_Form_need_own_length : Df := ⟨md "Form" "need_own_length", "need_own_length", "Form.need_own_length", s_Form_need_own_length, []⟩
abbrev s_Form_is_usable : Stmt := inClass (top 39) 11
def d_Form_is_usable : Df := ⟨md "Form" "is_usable", "is_usable", "Form.is_usable", s_Form_is_usable, []⟩
abbrev s_place_behind : Stmt := top 41
def d_place_behind : Df := ⟨gd "place_behind", "place_behind", "place_behind", s_place_behind, []⟩
abbrev s_Form_to : Stmt := inClass (top 39) 12
def d_Form_to : Df := ⟨md "Form" "to", "to", "Form.to", s_Form_to, []⟩
abbrev s__law_pick : Stmt := top 47
def d__law_pick : Df := ⟨gd "_law_pick", "_law_pick", "_law_pick", s__law_pick, []⟩
abbrev s__law_row : Stmt := top 48
def d__law_row : Df := ⟨gd "_law_row", "_law_row", "_law_row", s__law_row, []⟩
abbrev s__law_parts : Stmt := top 49
def d__law_parts : Df := ⟨gd "_law_parts", "_law_parts", "_law_parts", s__law_parts, []⟩
abbrev s__law_form : Stmt := top 50
def d__law_form : Df := ⟨gd "_law_form", "_law_form", "_law_form", s__law_form, []⟩
abbrev s__law_seat : Stmt := top 52
def d__law_seat : Df := ⟨gd "_law_seat", "_law_seat", "_law_seat", s__law_seat, []⟩
abbrev s__law_place : Stmt := top 53
def d__law_place : Df := ⟨gd "_law_place", "_law_place", "_law_place", s__law_place, []⟩
abbrev s__law_marked : Stmt := top 54
def d__law_marked : Df := ⟨gd "_law_marked", "_law_marked", "_law_marked", s__law_marked, []⟩
abbrev s__law_brought : Stmt := top 55
def d__law_brought : Df := ⟨gd "_law_brought", "_law_brought", "_law_brought", s__law_brought, []⟩
abbrev s__law_heard : Stmt := top 56
def d__law_heard : Df := ⟨gd "_law_heard", "_law_heard", "_law_heard", s__law_heard, []⟩
abbrev s__law_small_right : Stmt := top 57
def d__law_small_right : Df := ⟨gd "_law_small_right", "_law_small_right", "_law_small_right", s__law_small_right, []⟩
abbrev s__law_far_right : Stmt := top 58
def d__law_far_right : Df := ⟨gd "_law_far_right", "_law_far_right", "_law_far_right", s__law_far_right, []⟩
abbrev s_law : Stmt := top 59
def d_law : Df := ⟨gd "law", "law", "law", s_law, []⟩
def fns : List Df := [d_BadLength___init__, d_BadPlace___init__, d_Overlap___init__, d__law_pen, d__law_draw, d_is_integer, d_is_within, d_is_length, d_need_length, d_need_place, d_is_rest, d_need_rest, d_seat_at, d_place_at, d_is_offset, d_is_pair_row, d_is_mark_row, d_are_marks, d_Marks___init__, d_Marks_of, d_Shape___init__, d_Shape_seat_ahead, d_Shape_marked_seats, d_is_shift, d_Form___init__, d_Form_rest, d_Form_need_own_length, d_Form_is_usable, d_place_behind, d_Form_to, d__law_pick, d__law_row, d__law_parts, d__law_form, d__law_seat, d__law_place, d__law_marked, d__law_brought, d__law_heard, d__law_small_right, d__law_far_right, d_law]
def sds : List Gp.Ds := []
def pfile : Str := PySem.Challenge.pw_everyhunt_k42_forms_at_lengths.main.file
def exs : List (PySem.W.Frag → Bool) := [fa (.free "abs"), fa (.free "all"), fa (.free "bool"), fa (.free "enumerate"), fa (.free "int"), fa (.free "isinstance"), fa (.free "len"), fa (.free "list"), fa (.free "range"), fa (.free "repr"), fa (.free "set"), fa (.free "sorted"), fa (.free "str"), fa (.free "tuple"), fa (.glo "_law_pen"), fa (.keep "_law_pen"), fa (.glo "_law_draw"), fa (.keep "_law_draw"), fa (.glo "is_integer"), fa (.keep "is_integer"), fa (.glo "is_within"), fa (.keep "is_within"), fa (.glo "is_length"), fa (.keep "is_length"), fa (.glo "need_length"), fa (.keep "need_length"), fa (.glo "need_place"), fa (.keep "need_place"), fa (.glo "is_rest"), fa (.keep "is_rest"),
  fa (.glo "need_rest"), fa (.keep "need_rest"), fa (.glo "seat_at"), fa (.keep "seat_at"), fa (.glo "place_at"), fa (.keep "place_at"), fa (.glo "is_offset"), fa (.keep "is_offset"), fa (.glo "is_pair_row"), fa (.keep "is_pair_row"), fa (.glo "is_mark_row"), fa (.keep "is_mark_row"), fa (.glo "are_marks"), fa (.keep "are_marks"), fa (.glo "is_shift"), fa (.keep "is_shift"), fa (.glo "place_behind"), fa (.keep "place_behind"), fa (.glo "_law_pick"), fa (.keep "_law_pick"), fa (.glo "_law_row"), fa (.keep "_law_row"), fa (.glo "_law_parts"), fa (.keep "_law_parts"), fa (.glo "_law_form"), fa (.keep "_law_form"), fa (.glo "_law_seat"), fa (.keep "_law_seat"), fa (.glo "_law_place"), fa (.keep "_law_place"),
  fa (.glo "_law_marked"), fa (.keep "_law_marked"), fa (.glo "_law_brought"), fa (.keep "_law_brought"), fa (.glo "_law_heard"), fa (.keep "_law_heard"), fa (.glo "_law_small_right"), fa (.keep "_law_small_right"), fa (.glo "_law_far_right"), fa (.keep "_law_far_right"), fa (.glo "BadLength"), fa (.keep "BadLength"), fa (.glo "BadPlace"), fa (.keep "BadPlace"), fa (.glo "Overlap"), fa (.keep "Overlap"), fa (.glo "Marks"), fa (.keep "Marks"), fa (.glo "Shape"), fa (.keep "Shape"), fa (.glo "Form"), fa (.keep "Form"), fa (.glo "HuntError"), fa (.keep "HuntError"), fa (.int "CLASSES" 4), fa (.int "GREATEST_LENGTH" 10000000000000000000000000000000000000000), fa (.noat "BadLength" "value"), errB "BadLength", oexB "BadLength", iniB "BadLength",
  (fun K => decide (PySem.W.exmOne K (.ref (gd "BadLength" K)) (.ref (gd "HuntError" K)) = some true)), fa (.noat "BadPlace" "value"), errB "BadPlace", oexB "BadPlace", iniB "BadPlace", (fun K => decide (PySem.W.exmOne K (.ref (gd "BadPlace" K)) (.ref (gd "HuntError" K)) = some true)), fa (.noat "Overlap" "length"), errB "Overlap", oexB "Overlap", iniB "Overlap", (fun K => decide (PySem.W.exmOne K (.ref (gd "Overlap" K)) (.ref (gd "HuntError" K)) = some true)), fa (.cls "Marks"), insB "Marks", fa (.noat "Marks" "table"), fa (.mkr "Marks"), fa (.cls "Shape"), insB "Shape", fa (.noat "Shape" "class_rest"), fa (.noat "Shape" "way"), fa (.noat "Shape" "shift_by"), fa (.noat "Shape" "marks_behind"), fa (.mkr "Shape"), fa (.meth "Shape" "seat_ahead"), fa (.meth "Shape" "marked_seats"), fa (.cls "Form"), insB "Form", fa (.noat "Form" "shape_told"), fa (.mkr "Form"), propB "Form" "rest", fa (.meth "Form" "need_own_length"),
  fa (.meth "Form" "is_usable"), fa (.meth "Form" "to"), fa (.glo "QUARTERS"), (fun K => He.tupB K "QUARTERS" [.int 0, .int 1, .int 2, .int 3]), clmB "Marks" "of", (fun K => decide ((He.cT K ("_law_small_right", none)).2 ≠ (He.cT K ("law", none)).2)), (fun K => decide (PySem.W.kitOne K (.ref (gd "BadLength" K)) (.ref (gd "BadLength" K)) = some true)), (fun K => decide (PySem.W.kitOne K (.ref (gd "BadPlace" K)) (.ref (gd "BadLength" K)) = some false)), (fun K => decide (PySem.W.kitOne K (.ref (gd "Overlap" K)) (.ref (gd "BadLength" K)) = some false)), (fun K => decide (PySem.W.kitOne K (.ref (gd "BadLength" K)) (.ref (gd "BadPlace" K)) = some false)), (fun K => decide (PySem.W.kitOne K (.ref (gd "BadPlace" K)) (.ref (gd "BadPlace" K)) = some true)), (fun K => decide (PySem.W.kitOne K (.ref (gd "Overlap" K)) (.ref (gd "BadPlace" K)) = some false)), (fun K => decide (PySem.W.kitOne K (.ref (gd "BadLength" K)) (.ref (gd "Overlap" K)) = some false)), (fun K => decide (PySem.W.kitOne K (.ref (gd "BadPlace" K)) (.ref (gd "Overlap" K)) = some false)), (fun K => decide (PySem.W.kitOne K (.ref (gd "Overlap" K)) (.ref (gd "Overlap" K)) = some true)), fa (.glo "law")]
def loose0 : List Str := ["_wall", "__name__", "HuntError", "BadLength", "BadPlace", "BadRest", "BadNumber", "BadForm", "Overlap", "BadText", "GREATEST_LENGTH", "is_integer"]
def loose1 : List Str := ["is_within", "is_length", "is_rest", "need_length", "need_place", "need_rest", "QUARTERS", "is_offset", "row_of", "is_pair_row", "is_mark_row", "are_marks"]
def loose2 : List Str := ["quarter_of", "Marks", "seat_at", "place_at", "CLASSES", "number_in", "Shape", "MOST_POWER", "is_shift", "Form", "form_with", "place_behind"]
def loose3 : List Str := ["pair_in", "form_in", "_law_pen", "_law_draw", "_law_pick", "_law_row", "_law_parts", "_law_form", "_law_same", "_law_seat", "_law_place", "_law_marked"]
def loose4 : List Str := ["_law_brought", "_law_heard", "_law_small_right", "_law_far_right"]
def loose : List Str := loose0 ++ loose1 ++ loose2 ++ loose3 ++ loose4
abbrev R : PySem.W.OpenRow := PySem.W.OpenLaw.row PySem.Challenge.rw_everyhunt_k42_forms_at_lengths
def tfs : List He.Defn := [("_law_small_right", none), ("law", none)]
def adrs : List Addr := [3, 31, 51, 70, 146, 174, 181, 188, 195, 202, 209, 216, 217, 224, 236, 241, 246, 319, 330, 337, 404, 415, 568, 586, 603, 610, 617, 622, 627, 634, 648, 655, 662, 669, 676, 681, 688, 695, 30, 50, 69, 145, 173, 180, 187, 194, 201, 208, 215, 223, 235, 240, 245, 318, 329, 336, 403, 414, 567, 585, 602, 609, 616, 621, 626, 633, 647, 654, 661, 668, 675, 680, 687, 694, 48, 67, 143, 267, 274, 356, 387, 394, 429, 457, 511, 518, 525, 47, 66, 142, 266, 272, 355, 386, 393, 428, 456, 510, 517, 524, 271, 455, 2]
abbrev hk : PySem.W.Hook := Gp.hookL adrs exs fns tfs sds pfile
def ob (s : PySem.W.SharedT) : Gp.AlS := Gp.obsL adrs exs fns tfs sds pfile (HandSHeadRun.getT s)
theorem run (w : World) : HandSHeadRun.RunEq R (PySem.W.view R.prog [59]) hk ob 30000 loose w := by
  intro os
  kernel_rfl
section
variable {K : PySem.W.Frag} {mg : Str → Option Value} {Tb : List (Addr × Str)} {p c : Addr}
end
end Lw
end
section
set_option Elab.async false
set_option linter.all false
set_option maxRecDepth 100000
namespace Gh
open PySem PySem.Spec PyProof.Rows L2
abbrev FnA (K : PySem.W.Frag) (d : Df) (fd : FuncData) : Prop := FunD K d.name d.qual (defArgs d.st) (defBody d.st) (defScope d.st) (d.dvs K) [] (d.adr K) fd
theorem Df.funD {K : PySem.W.Frag} {d : Df} (e : fnAt K (d.adr K) = d.val) (c : d.ok K = true) : ∃ fd, FnA K d fd := by
  obtain ⟨kp, c2⟩ := He.ba c
  unfold fnAt at e
  cases q : K.lookup (d.adr K) with
  | none =>
    rw [q] at c2
    cases c2
  | some o =>
    obtain ⟨oc, od, dt, osl⟩ := o
    rw [q] at c2 e
    cases dt with
    | func fd =>
      obtain ⟨n1, n2, n3, n4, n5, n6, n7, n8, n9, n10, n11, n12, n13, n14, n15⟩ := fd
      have e2 : (some (n1, n2, n3, n4, n5, n6, n7, n15) : He.FnW) = some (d.name, d.qual, defArgs d.st, .stmts (defBody d.st), defScope d.st, mainGlobals, [], builtinsNs) := e
      simp only [Option.some.injEq, Prod.mk.injEq] at e2
      obtain ⟨h1, h2, h3, h4, h5, h6, h7, h8⟩ := e2
      subst h1 h2 h3 h4 h5 h6 h7 h8
      have c3 : (PySem.W.codeIn K n13 d.qual && (He.dflB K n8 (d.dvs K) && He.kwdB K n9 [])) = true := c2
      obtain ⟨k1, k2⟩ := He.ba c3
      obtain ⟨k3, k4⟩ := He.ba k2
      exact ⟨_, ⟨oc, od, n8, n9, n10, n11, n12, n13, n14, osl, rfl, q, k1, He.dflB_ok k3, He.kwdB_ok k4⟩, kp⟩
    | _ => cases c2
theorem Says.fact {ex : List (PySem.W.Frag → Bool)} {fn : List Df} {K : PySem.W.Frag} (c : Says ex fn K) (i : Nat) {f : PySem.W.Frag → Bool} (h : ex[i]? = some f := by rfl) : f K = true := by
  have c1 := (He.ba (show ((ex.all fun f => f K) && fn.all fun d => d.ok K) = true from congrArg (fun z : Al => z.1) c)).1
  exact List.all_eq_true.mp c1 f (List.mem_of_getElem? h)
theorem Says.def_ {ex : List (PySem.W.Frag → Bool)} {fn : List Df} {K : PySem.W.Frag} (c : Says ex fn K) (i : Nat) {d : Df} (h : fn[i]? = some d := by rfl) : ∃ fd, FnA K d fd := by
  have c2 := (He.ba (show ((ex.all fun f => f K) && fn.all fun d => d.ok K) = true from congrArg (fun z : Al => z.1) c)).2
  have e : fn.map (fun d => fnAt K (d.adr K)) = fn.map Df.val := congrArg (fun z : Al => z.2) c
  have e2 : (fn.map fun d => fnAt K (d.adr K))[i]? = (fn.map Df.val)[i]? := by rw [e]
  rw [List.getElem?_map, List.getElem?_map, h] at e2
  exact Df.funD (Option.some.inj e2) (List.all_eq_true.mp c2 d (List.mem_of_getElem? h))
theorem propB_ok {x m : Str} {K : PySem.W.Frag} (h : propB x m K = true) : PropOf K (He.ga K x) m (He.ma K (He.ga K x) m) (propG x m K) := by
  obtain ⟨h1, h2⟩ := He.ba h
  obtain ⟨h3, h4⟩ := He.ba h2
  obtain ⟨h5, h6⟩ := He.ba h4
  refine ⟨He.eqO_ok h1, He.eqO_ok h3, of_decide_eq_true h5, ?_⟩
  unfold propG
  cases q : PySem.W.recIn K (He.ma K (He.ga K x) m) "property" with
  | none =>
    rw [q] at h6
    cases h6
  | some l =>
    rw [q] at h6
    cases l with
    | nil => cases h6
    | cons v r =>
      cases v with
      | ref g => exact ⟨r, rfl⟩
      | _ => cases h6
theorem insB_ok {x : Str} {K : PySem.W.Frag} (h : insB x K = true) : InsT K (gd x K) := by
  obtain ⟨h1, h⟩ := He.ba h
  obtain ⟨h2, h⟩ := He.ba h
  obtain ⟨h3, h⟩ := He.ba h
  obtain ⟨h4, h⟩ := He.ba h
  obtain ⟨h5, h⟩ := He.ba h
  obtain ⟨h6, h7⟩ := He.ba h
  exact ⟨He.eqO_ok h1, He.eqO_ok h2, of_decide_eq_true h3, of_decide_eq_true h4, of_decide_eq_true h5, fun n hn => of_decide_eq_true (List.all_eq_true.mp h6 n hn), fun n hn => of_decide_eq_true (List.all_eq_true.mp h7 n hn)⟩
theorem pe_gi {X : Cx} {x : Str} {i : Int} {pos : Pos} (h : ∃ t, X.mg x = some (.int i t)) (hg : Gl X x) (hd : (x == ("__debug__" : Str)) = false := by decide) : PE X (.Name x pos) (tC (.int i)) := by
  obtain ⟨t, e⟩ := h
  exact pe_glob hg e ⟨t, rfl⟩ hd
end Gh
end
section
set_option Elab.async false
set_option linter.all false
set_option maxRecDepth 100000
set_option maxHeartbeats 4000000
namespace Gh
open PySem PySem.Spec PyProof.Rows L2
section
variable {P : Program} {w : World} {K : PySem.W.Frag} {mg : Str → Option Value} {base : Heap} {CX : CXT} {j k : Nat} {f : Addr} {fd : FuncData} {ps : List Str} {sp : Sp} {dvs : List V}
theorem fnG_of {x qual : Str} {params : Arguments} {body : List Stmt} {scope : Scope} {kws : List (Str × V)} {N : List Str} (F : FunD K x qual params body scope dvs kws f fd) (S : FnScope N ps scope) (len : ∀ vs H Q E, sp vs H Q E → vs.length = ps.length)
    (hbody : ∀ (cdv : Value) (A : Around) (outer : List Env) (s : Shared) (H : Hp) (vs : List V) (Q : VK) (E : XK), Room k (A.deeper (envOfC qual scope s.heap.objs.size f cdv)) → (A.deeper (envOfC qual scope s.heap.objs.size f cdv)).guards = some [] → sp vs H Q E →
      ∃ t, PSs (cxOf CX P w K mg base N qual scope f cdv A outer s H E) body t ∧ t { nx := fun _ H' => Q .non H', rt := Q } (start N vs) H) : FnG P w K mg base CX (k + 1) f fd ps sp := by
  obtain ⟨oc, od, dV, kV, doc, pm, an, cdv, ct, osl, rfl, lk, hcd, _, _⟩ := F.ex
  refine ⟨len, fun A outer s H args us vs Q E hr hg e0 hb r hsp => ?_⟩
  have hl := len _ _ _ _ hsp
  have KX : K.In s.heap := e0.mod.kin.keeps fun b o e => (e0.bs b o e).1
  have lim : s.heap.NoLimit := e0.mod.nolimit.keeps fun b o e => (e0.bs b o e).1
  have hkind : ∀ y ∈ ps.zip us, scope.names.lookup y.1 = some .local ∨ (scope.names.lookup y.1 = some .cell ∧ ((cellsFrom (s.heap.objs.size + 1) scope.names []).lookup y.1).isSome = true) := fun ⟨n, v⟩ hy => by
    rcases S.par n (List.of_mem_zip hy).1 with q | q
    · exact .inl q
    · exact .inr ⟨q, PySem.W.cellsFrom_some _ _ _ (.inl q)⟩
  refine codeAny_call_function hr.depth (KX _ _ lk) rfl S.co S.gen rfl (PySem.W.codeRec_of KX hcd) (hb _ _ _ _ ?_)
  refine wpAny_newFunctionEnv_cells S.kind hkind fun env he s1 x => ?_
  subst he
  refine ⟨lim.keeps x.toInCall.keep, codeAny_func ?_⟩
  obtain ⟨t, ht, hq⟩ := hbody cdv A outer s H vs Q E (hr.deeper _) hg hsp
  have I : Inv (cxOf CX P w K mg base N qual scope f cdv A outer s H E) [] (start N vs) H s1 := inv_start S hr.hd e0 hl r x
  refine wpAny_mono (ht.run [] s1 (start N vs) H _ I hq) (fun fl s' hs => ?_) fun e s' hs => hs
  cases fl with
  | ret u =>
    obtain ⟨v, σ', H', J, rv, q⟩ := hs
    exact ⟨v, H', J.os, J.bare, J.base, J.hok, rv, q⟩
  | next =>
    obtain ⟨σ', H', J, q⟩ := hs
    exact ⟨V.non, H', J.os, J.bare, J.base, J.hok, rfl, q⟩
  | brk =>
    obtain ⟨_, _, _, q⟩ := hs
    exact False.elim q
  | cont =>
    obtain ⟨_, _, _, q⟩ := hs
    exact False.elim q
end
section
variable {X : Cx} {CX : CXT} {k : Nat} {f g C : Addr} {sp : Sp} {dvs : List V} {E : XK} {x m : Str} {p pos apos : Pos} {e o : Expr} {es : List Expr} {ta tb : TE} {t : TA} {r : List V → Hp → VK → Prop}
@[irreducible] def rMk (C : Addr) (sp : Sp) (dvs : List V) (E : XK) : List V → Hp → VK → Prop := fun vs H Q =>
  ∀ x dx, H x = none → H dx = none → dx ≠ x → sp (.ref x :: (vs ++ dvs)) (upd (upd H dx (.own x)) x (.ins C dx [])) (fun v H2 => v = .non ∧ Q (.ref x) H2) E
theorem guards_make {A : Around} {us : List Value} {kw : List (Str × Value)} (h : A.guards = some []) : (A.under (.builtin "type.__call__" ⟨.ref C :: us, kw⟩)).guards = some [] := by
  show pushGuards (Code.guards (.builtin "type.__call__" ⟨.ref C :: us, kw⟩)) A.guards = some []
  have e : Code.guards (.builtin "type.__call__" ⟨.ref C :: us, kw⟩) = [] := by
    unfold Code.guards
    rw [if_neg (by show ¬ (guardIds.contains "type.__call__" = true); decide)]
  rw [e]
  exact h
theorem Prom.make (M : Mk X.K C f) (F : PromX X CX k f dvs sp) (hr : Room (k + 1) X.A) (hg : X.A.guards = some []) (hx : Passes CX X E) : CallR X (.ref C) (rMk C sp dvs E) := by
  intro pins s σ H vs us Q I r h
  unfold rMk at h
  obtain ⟨fd, ps, ds, G, b, hd⟩ := F
  have hq := h (s.heap.objs.size + 1) s.heap.objs.size (I.hok.fresh (Nat.le_succ _)) (I.hok.fresh (Nat.le_refl _)) (Nat.ne_of_lt (Nat.lt_succ_self _))
  have I2 := Inv.made (C := C) I
  have r2 : Vals (V.ref (s.heap.objs.size + 1) :: (vs ++ dvs)) (Value.ref (s.heap.objs.size + 1) :: (us ++ ds)) := .cons rfl (r.append hd)
  have hl : (Value.ref (s.heap.objs.size + 1) :: us ++ ds).length = ps.length := by
    have e := r2.length
    rw [G.len _ _ _ _ hq] at e
    exact e.symm
  refine wpAny_call (make_map (f := f) I.kIn M.makes M.init (beq_iff_eq.mp M.fn) (codeAny_mono (G.run _ X.stack _ _ ⟨Value.ref (s.heap.objs.size + 1) :: us, []⟩ (Value.ref (s.heap.objs.size + 1) :: (us ++ ds)) _ _ E (hr.make C us []) (guards_make hg)
    (I2.env0.make C us []) (b _ (Value.ref (s.heap.objs.size + 1) :: us) I2.kIn hl) r2 hq) fun r s' hq' => ?_))
  cases r with
  | error e => exact hx pins σ _ _ e s' I2 hq'
  | ok fl =>
    cases fl with
    | ret u =>
      obtain ⟨v, H', I3, rv, ev, q3⟩ := I2.after hq'
      subst ev
      exact ⟨rv, ⟨V.ref (s.heap.objs.size + 1), H', I3, rfl, q3⟩⟩
    | next => exact False.elim hq'
    | brk => exact False.elim hq'
    | cont => exact False.elim hq'
def tCl (r : List V → Hp → VK → Prop) (t : TA) : TE := fun σ H Q => t σ H fun vs H1 => r vs H1 Q
theorem pe_g (R : CallR X (.ref f) r) (hg : Gl X x) (hm : X.mg x = some (.ref f)) (hk : PySem.W.keepIn X.K (.ref f) = true)
    (ha : PA X (e :: es) t) (hdb : (x == ("__debug__" : Str)) = false := by decide) (he : starEach (e :: es) X.env = (false, eval e X.env) :: starEach es X.env := by rfl) (hpl : (backTo pos (starEach es X.env)).any (·.1) = false := by rfl) :
    PE X (.Call (.Name x p) (e :: es) [] pos) (tCl r t) := by
  refine ⟨fun pins s σ H Q I h => ?_⟩
  refine wpAny_Call_Name_kw (ld_glob I hg hm ?_ hdb)
  refine PySem.W.callWith_K (h₀ := X.base) I.ok.mod.kin hk (thn (ha.run pos pins s σ H _ I h) fun us s1 ⟨vs, H1, I1, r, q⟩ => ⟨I1.kIn, ?_⟩) he hpl
  exact R pins s1 σ H1 vs us Q I1 r q
def tMt (C : Addr) (m : Str) (r : List V → Hp → VK → Prop) (ta : TE) (t : TA) : TE := fun σ H Q => ta σ H fun x H1 => ∃ a dx fs, x = .ref a ∧ H1 a = some (.ins C dx fs) ∧ fs.lookup m = none ∧ t σ H1 fun vs H2 => r (x :: vs) H2 Q
theorem pe_m {pl : Sem Bool} (he : PE X o ta) (c : Cls X.K C) (hm : Meth X.K C m f) (R : CallR X (.ref f) r) (ha : PA X (e :: es) t)
    (hst : starEach (e :: es) X.env = (false, eval e X.env) :: starEach es X.env := by rfl) (hpl : (backTo pos (starEach es X.env)).any (·.1) = false := by rfl)
    (ht : eval (.Call (.Attribute o m apos) (e :: es) [] pos) X.env = (do
      let ov ← eval o X.env
      standAt apos.atName
      let (f, first) ← holding [ov] (getMethod ov m pl)
      callWith pos f first (backTo pos (starEach (e :: es) X.env)) (backToKw pos (keywordEach [] X.env))) := by rfl) :
    PE X (.Call (.Attribute o m apos) (e :: es) [] pos) (tMt C m r ta t) := by
  refine ⟨fun pins s σ H Q I h => ?_⟩
  refine PySem.W.methodCall_KW (pl := pl) (thn (he.run pins s σ H _ I h) fun u s1 ⟨x, H1, I1, rx, a, dx, fs, ex, ea, l, q⟩ => ?_) ht
  subst ex
  obtain rfl : u = Value.ref a := rx
  refine getmeth_ok I1 ea c hm l ?_
  refine PySem.W.callWith_K (first := [.ref a]) (h₀ := X.base) I.ok.mod.kin hm.kp (thn (ha.run pos pins s1 σ H1 _ I1 q) fun us s2 ⟨vs, H2, I2, r, q2⟩ => ⟨I2.kIn, ?_⟩) hst hpl
  exact R pins s2 σ H2 (.ref a :: vs) (.ref a :: us) Q I2 (.cons rfl r) q2
def tPr (C : Addr) (sp : Sp) (dvs : List V) (E : XK) (ta : TE) : TE := fun σ H Q => ta σ H fun x H1 => ∃ a dx fs, x = .ref a ∧ H1 a = some (.ins C dx fs) ∧ sp (.ref a :: dvs) H1 Q E
end
end Gh
end
section
set_option Elab.async false
set_option linter.all false
set_option maxRecDepth 100000
set_option maxHeartbeats 4000000
namespace Gh
open PySem PySem.Spec PyProof.Rows L2
theorem Keep.new {H H' : Hp} {p q : Addr} {o : HO} (h : Keep H H' p) (n : H' q = none) : Keep H (upd H' q o) p := fun a u e ne => by
  rw [upd_ne (ne_of_none (h a u e ne) n)]
  exact h a u e ne
theorem Keep.put {H H' : Hp} {p : Addr} {o : HO} (h : Keep H H' p) : Keep H (upd H' p o) p := fun a u e ne => by
  rw [upd_ne ne]
  exact h a u e ne
theorem PenAt.le {H : Hp} {p : Addr} {a b : Nat} (h : PenAt H p b) (k : a ≤ b) : PenAt H p a := by
  obtain ⟨c, ns, i, z, h1, h2, h3, h4, h5, h6⟩ := h
  exact ⟨c, ns, i, z, h1, h2, h3, h4, by omega, h6⟩
theorem PenAt.new {H : Hp} {p q : Addr} {b : Nat} {o : HO} (h : PenAt H p b) (n : H q = none) : PenAt (upd H q o) p b := by
  obtain ⟨c, ns, i, z, h1, h2, h3⟩ := h
  exact ⟨c, ns, i, z, by rw [upd_ne (ne_of_none h1 n)]; exact h1, by rw [upd_ne (ne_of_none h2 n)]; exact h2, h3⟩
theorem dp_ints (K : PySem.W.Frag) (H : Hp) : ∀ ns : List Int, DpAll K H (ns.map V.int) (ns.map PyData.int)
  | [] => .nil
  | n :: r => .cons (.int n) (dp_ints K H r)
theorem eqv_nil (ds : List PyData) : PyData.eqv (.list ds) (.list []) = ds.isEmpty := by
  cases ds <;> rfl
theorem same_new {H : Hp} {q : Addr} {o : HO} (n : H q = none) : L2.Same H (upd H q o) := fun a u e => by
  rw [upd_ne (ne_of_none e n)]
  exact e
theorem atI_int {ns : List Int} {i : Int} (h0 : 0 ≤ i) (h1 : i < ns.length) : ∃ v, atI (ns.map V.int) i = some (.int v) ∧ v ∈ ns := by
  obtain ⟨j, rfl⟩ : ∃ j : Nat, i = j := ⟨i.toNat, by omega⟩
  have hl : j < ns.length := by omega
  refine ⟨ns[j], atI_nat ?_, List.getElem_mem hl⟩
  rw [List.getElem?_map, List.getElem?_eq_getElem hl]
  rfl
theorem pow_lt {i : Int} (h0 : 0 ≤ i) (h1 : i < 18446744073709551616) : i.natAbs < 2 ^ 64 := by
  have e : (2 : Nat) ^ 64 = 18446744073709551616 := by decide
  rw [e]
  omega
theorem mix_ok {x i a b c : Int} (h0 : 0 ≤ x) (h1 : x < 4294967296) (h2 : 0 ≤ i) (h3 : i ≤ 1000000) (ha : 0 ≤ a ∧ a ≤ 1000000) (hb : 0 ≤ b ∧ b ≤ 1000000) (hc : 0 ≤ c ∧ c ≤ 1000000) : (x * (2 * i + a) + b * i * i + c).natAbs < 2 ^ 64 := by
  have hii : 0 ≤ i * i ∧ i * i ≤ 1000000 * 1000000 := ⟨Int.mul_nonneg h2 h2, Int.mul_le_mul h3 h3 h2 (by decide)⟩
  have hxi : 0 ≤ x * (2 * i + a) ∧ x * (2 * i + a) ≤ 4294967296 * 4000000 := ⟨Int.mul_nonneg h0 (by omega), Int.mul_le_mul (by omega) (by omega) (by omega) (by decide)⟩
  have hbi : 0 ≤ b * (i * i) ∧ b * (i * i) ≤ 1000000 * (1000000 * 1000000) := ⟨Int.mul_nonneg hb.1 hii.1, Int.mul_le_mul hb.2 hii.2 hii.1 (by decide)⟩
  have e : b * i * i = b * (i * i) := Int.mul_assoc _ _ _
  refine pow_lt ?_ ?_ <;> (rw [e]; omega)
theorem mod_lt (x : Int) {m : Int} (h : 0 < m) : 0 ≤ x % m ∧ x % m < m := ⟨Int.emod_nonneg _ (by omega), Int.emod_lt_of_pos _ h⟩
theorem cut_all {xs : List V} {n : Nat} (h : xs.length ≤ n) : cutV xs none (some (n : Int)) = xs := by
  unfold cutV
  rw [HT.sIx_none, HT.sIx_nat, Nat.min_eq_right h, List.drop_zero, Nat.sub_zero]
  exact List.take_length
theorem yes_ite {σ : L2.St} {H : Hp} {F G : Hp → Prop} (h : F H) : tYes σ H (fun b H3 => if b = true then F H3 else G H3) := by
  show (if true = true then F H else G H)
  rw [if_pos rfl]
  exact h
abbrev rInt1 : List V → Hp → VK → Prop := fun xs H Q => (∃ i, xs = [V.int i] ∧ Q (V.int i) H) ∨ ∃ k, xs = [V.bl k] ∧ Q (V.int (if k = true then 1 else 0)) H
theorem lc_int {K : PySem.W.Frag} {a : Addr} {ns : List Int} {i : Nat} {σ : L2.St} {H : Hp} {Q : Addr → Hp → Prop} (hS : SqL K H a (ns.map V.int)) (hl : ns.length ≤ 1000000) (hw : ∀ x, wipe ((wipe σ [i]).set i (some x)) [i] = wipe σ [i]) (hv : ∀ x, ((wipe σ [i]).set i (some x))[i]? = some (some x))
    (q : ∀ G H', L2.Same H H' → H G = none → H' G = some (.lst (ns.map V.int)) → Q G H') :
    ∀ D, H D = none → ∃ W : Nat → Nat → Hp → Prop, (∃ m, W 0 m (upd H D (.lst []))) ∧ ∀ j m H1, W j m H1 →
      ((Itl K a).stop j H1 ∧ Q D H1) ∨ ((Itl K a).go j H1 ∧ ∃ Nx : Hp → Prop, (∀ H', Nx H' → ∃ m', m' < m ∧ W (j + 1) m' H') ∧ ∀ x H', (Itl K a).yld j H1 x H' → gName i x (wipe σ [i]) H' fun σ2 H2 => wipe σ2 [i] = wipe σ [i] ∧ tYes σ2 H2 fun b H3 =>
        if b = true then tCB rInt1 (tCons (tVar i) tNil) σ2 H3 fun y H4 => ∃ acc, H4 D = some (.lst acc) ∧ acc.length < sizeLine ∧ Nx (upd H4 D (.lst (acc ++ [y]))) else Nx H3) := by
  intro D nD
  refine lc_list (K := K) (a := a) (xs := ns.map V.int) (fun j H2 => L2.Same H H2 ∧ H2 D = some (.lst ((ns.map V.int).take j))) ⟨same_new nD, upd_same⟩ (fun j H2 _ z => z.1.seq hS) (fun j x H2 hx z => ?_) (fun H2 z => ?_)
  · obtain ⟨n, rfl⟩ : ∃ n, x = V.int n := by
      rw [List.getElem?_map] at hx
      cases e : ns[j]? with
      | none => rw [e] at hx; cases hx
      | some n => rw [e] at hx; exact ⟨n, (Option.some.inj hx).symm⟩
    refine ⟨hw _, yes_ite ?_⟩
    refine ⟨_, hv _, .inl ⟨n, rfl, _, z.2, ?_, ?_, ?_⟩⟩
    · rw [List.length_take, List.length_map]
      exact Nat.lt_of_le_of_lt (Nat.min_le_right _ _) (Nat.lt_of_le_of_lt hl (by decide))
    · exact fun b u e => by
        rw [upd_ne (ne_of_none e nD)]
        exact z.1 _ _ e
    · rw [upd_same, List.take_add_one, hx]
      rfl
  · refine q D H2 z.1 nD ?_
    rw [z.2, List.take_of_length_le (Nat.le_refl _)]
def tCut (t u : TS) : TS := fun D σ H => ∃ M : L2.St → Hp → Prop, t { D with nx := M } σ H ∧ ∀ σ' H', M σ' H' → u D σ' H'
theorem pss_cut {X : Cx} {st : Stmt} {rest : List Stmt} {t u : TS} (h1 : PS X st t) (h2 : PSs X rest u) : PSs X (st :: rest) (tCut t u) := by
  refine ⟨fun pins s σ H D I h => ?_⟩
  obtain ⟨M, hm, hu⟩ := h
  refine wpAny_execs_cons (thn (h1.run pins s σ H { D with nx := M } I hm) fun f s1 q => ?_)
  cases f with
  | next =>
    obtain ⟨σ1, H1, I1, q1⟩ := q
    exact h2.run pins s1 σ1 H1 D I1 (hu σ1 H1 q1)
  | ret v => exact q
  | brk => exact q
  | cont => exact q
end Gh
end
section
set_option Elab.async false
set_option linter.all false
set_option maxRecDepth 100000
set_option maxHeartbeats 4000000
namespace Gh
open PySem PySem.Spec PyProof.Rows L2
theorem fnG0 {P : Program} {w : World} {K : PySem.W.Frag} {mg : Str → Option Value} {base : Heap} {CX : CXT} {k : Nat} {f : Addr} {fd : FuncData} {ps : List Str} {sp : Sp} {dvs : List V} {x qual : Str} {params : Arguments} {body : List Stmt} {scope : Scope} {kws : List (Str × V)} {N : List Str}
    (F : FunD K x qual params body scope dvs kws f fd) (S : FnScope N ps scope) (len : ∀ vs H Q E, sp vs H Q E → vs.length = ps.length)
    (hbody : ∀ (cdv : Value) (A : Around) (outer : List Env) (s : Shared) (H : Hp) (vs : List V) (Q : VK) (E : XK), Room k (A.deeper (envOfC qual scope s.heap.objs.size f cdv)) → (A.deeper (envOfC qual scope s.heap.objs.size f cdv)).guards = some [] → sp vs H Q E →
      ∃ t, PSs (cxOf CX P w K mg base N qual scope f cdv A outer s H E).nox body t ∧ t { nx := fun _ H' => Q .non H', rt := Q } (start N vs) H) : FnG P w K mg base CX (k + 1) f fd ps sp :=
  fnG_of F S len fun cdv A outer s H vs Q E hr hg h => by
    obtain ⟨t, ht, q⟩ := hbody cdv A outer s H vs Q E hr hg h
    exact ⟨t, PSs.nox ht, q⟩
section
variable {X : Cx} {K : PySem.W.Frag}
theorem ix_listK (h : X.K = K) : IxR X (rIxL K) := h ▸ ix_list
end
end Gh
end
section
set_option Elab.async false
set_option linter.all false
set_option maxRecDepth 100000
set_option maxHeartbeats 4000000
namespace Gh
open PySem PySem.Spec PyProof.Rows L2
theorem exk_ok {P : Program} {w : World} {H : Hp} {h : Heap} {a C d : Addr} {o : Obj} {vs : Array Value} (h1 : h.get? a = some o) (h2 : o.cls = .ref C) (h3 : o.dict = some d) (h4 : o.data = .fields vs) : ObjOk P w H h a (exk a C d) :=
  ⟨⟨o, vs, h1, h2, h3, h4⟩, ⟨o, h1⟩, fun _ _ z k => by
    obtain ⟨o, vs, h1, h2, h3, h4⟩ := z
    exact ⟨o, vs, k _ h1, h2, h3, h4⟩⟩
theorem exk_at {P : Program} {w : World} {H : Hp} {h : Heap} {a C d : Addr} (hok : HOk P w H h) (e : H a = some (exk a C d)) : ∃ (o : Obj) (vs : Array Value), h.get? a = some o ∧ o.cls = .ref C ∧ o.dict = some d ∧ o.data = .fields vs :=
  (show ObjOk P w H h a (exk a C d) from hok a _ e).1
structure ErrT (K : PySem.W.Frag) (C : Addr) : Prop where
  hg : PySem.W.findIn K (.ref C) "__getattribute__" = some (some (.builtin "BaseException.__getattribute__"))
  hk : PySem.W.findIn K (.ref C) "__getattr__" = some none
  hs : PySem.W.subIn K (.ref C) (.type "BaseException") = some true
  hd : PySem.W.hasDictIn K C = true
  ha : PySem.W.findIn K (.ref C) "__class__" = some (some (.builtin "object.__class__"))
  hn : PySem.W.specialIn K (.builtin "object.__class__") "__get__" = some (some (.builtin "getset_descriptor.__get__"))
  htk : PySem.W.takesIn K (.builtin "object.__class__") = some true
  hm : PySem.W.mroIn K C (.type "object") = some true
theorem errB_ok {x : Str} {K : PySem.W.Frag} (h : errB x K = true) : ErrT K (gd x K) := by
  obtain ⟨h1, h⟩ := He.ba h
  obtain ⟨h2, h⟩ := He.ba h
  obtain ⟨h3, h⟩ := He.ba h
  obtain ⟨h4, h⟩ := He.ba h
  obtain ⟨h5, h⟩ := He.ba h
  obtain ⟨h6, h⟩ := He.ba h
  obtain ⟨h7, h8⟩ := He.ba h
  exact ⟨He.eqO_ok h1, He.eqO_ok h2, of_decide_eq_true h3, h4, He.eqO_ok h5, He.eqO_ok h6, of_decide_eq_true h7, of_decide_eq_true h8⟩
section
variable {X : Cx} {e : Expr} {te : TE} {pos : Pos} {n : Str}
theorem exk_inst {pins : List (Addr × Obj)} {σ : L2.St} {H : Hp} {s : Shared} {a C d : Addr} {fs : List (Str × V)} (I : Inv X pins σ H s) (h1 : H a = some (exk a C d)) (h2 : H d = some (.xd fs)) :
    ∃ o od mA, PySem.W.InstAt s.heap a o C (some od) ∧ s.heap.Ns1 d mA ∧ (∀ f, RelO (fs.lookup f) (mA f)) ∧ s.heap.get? d = some od := by
  obtain ⟨o, vs, k1, k2, k3, k4⟩ := exk_at I.hok h1
  obtain ⟨mA, hns, hr⟩ := (show ObjOk X.prog X.w H s.heap d (.xd fs) from I.hok d _ h2)
  obtain ⟨od, ho, hl⟩ := lookIn_ns hns
  exact ⟨o, od, mA, ⟨k1, k2, by unfold PySem.W.notCls; rw [k4] <;> rfl, by rw [k3]; exact ho⟩, hns, hr, ho⟩
def tXa (K : PySem.W.Frag) (n : Str) (te : TE) : TE := fun σ H Q => te σ H fun x H1 => ∃ (a C d : Addr) (fs : List (Str × V)) (v : V), x = .ref a ∧ H1 a = some (exk a C d) ∧ ErrT K C ∧ PySem.W.findIn K (.ref C) n = some none ∧ H1 d = some (.xd fs) ∧ fs.lookup n = some v ∧ Q v H1
theorem pe_xa {K : PySem.W.Frag} (hK : X.K = K) (he : PE X e te) (hb : attributeBase e n X.env (eval e X.env) = eval e X.env := by rfl) : PE X (.Attribute e n pos) (tXa K n te) := by
  subst hK
  refine ⟨fun pins s σ H Q I h => ?_⟩
  refine attr_of hb (thn (he.run pins s σ H _ I h) fun u s1 hh => ?_)
  obtain ⟨x, H1, I1, rx, a, C, d, fs, v, ex, ea, T, hno, ed, l, q⟩ := hh
  subst ex
  obtain rfl : u = Value.ref a := rx
  obtain ⟨o, vs, k1, k2, k3, k4⟩ := exk_at I1.hok ea
  obtain ⟨mA, hns, hr⟩ := (show ObjOk X.prog X.w H1 s1.heap d (.xd fs) from I1.hok d _ ed)
  obtain ⟨od, ho, hl⟩ := lookIn_ns hns
  obtain ⟨u, hu, ru⟩ := RelO.some_of (v := v) (o := mA n) (by rw [← l]; exact hr n)
  have J : PySem.W.InstAt s1.heap a o C (some od) := ⟨k1, k2, by unfold PySem.W.notCls; rw [k4] <;> rfl, by rw [k3]; exact ho⟩
  exact HandSPX.exc_get I1.kIn J T.hg T.hk T.hs (PySem.W.findObj_own T.hd hno rfl (by rw [hl, hu])) (handed_of ru) ⟨v, H1, I1.tok _, ru, q⟩
def rIsiZ (K : PySem.W.Frag) : List V → Hp → VK → Prop := fun xs H Q => rIsi K xs H Q ∨ ∃ (a C d : Addr) (fs : List (Str × V)) (c : V) (u : Value) (b : Bool), xs = [.ref a, c] ∧ ClsV c u ∧ H a = some (exk a C d) ∧ H d = some (.xd fs) ∧ ErrT K C ∧ PySem.W.kitOne K (.ref C) u = some b ∧ Q (.bl b) H
theorem call_isiZ {K : PySem.W.Frag} (hK : X.K = K) : CallR X (.builtin "isinstance") (rIsiZ K) := by
  subst hK
  intro pins s σ H xs us Q I r h
  rcases h with h | ⟨a, C, d, fs, c, u, b, rfl, k, ea, ed, T, e, q⟩
  · exact call_isi pins s σ H xs us Q I r h
  · obtain ⟨u1, u2, rfl, r1, r2⟩ := vals2 r
    obtain rfl : u1 = Value.ref a := r1
    have e2 := k.eq r2
    subst e2
    obtain ⟨o, od, mA, J, _⟩ := exk_inst I ea ed
    have hcl : (PySem.W.clsIn X.K C).isSome = true := by
      obtain ⟨cd, hc, _⟩ := PySem.W.any_some T.hd
      rw [hc]
      rfl
    exact PySem.W.kia_one (PySem.W.kitx_exc hcl T.hg T.hk T.hs T.ha T.hn T.htk T.hm) I.kIn J e (fun z => nomatch z) fun tk => ⟨.bl b, H, I.tok tk, rfl, q⟩
end
theorem inv_track {X : Cx} {pins : List (Addr × Obj)} {σ : L2.St} {H : Hp} {s : Shared} {a : Addr} {o : HO} (I : Inv X pins σ H s) (hn : H a = none) (n0 : X.s_0.heap.get? a = none) (nL : a ≠ X.env.locals) (nC : ∀ x c, X.env.cells.lookup x = some c → c ≠ a) (nP : ∀ p ∈ X.pn ++ pins, p.1 ≠ a)
    (ok : ObjOk X.prog X.w (upd H a o) s.heap a o) : Inv X pins σ (upd H a o) s := by
  have ne : ∀ {b : Addr} {u : HO}, H b = some u → b ≠ a := fun e => ne_of_none e hn
  refine ⟨I.ok, I.os, I.bare, ⟨I.base.keep, I.base.slot, fun b u e n hx => ?_, I.base.there, fun b xs e => ?_, fun b u v e => ?_, fun b ps e => ?_⟩, I.loc, I.cell, ?_, fun x c e => ?_, fun p hp => ?_, fun b u e => ?_, I.len⟩
  · rw [upd_ne (fun z => by rw [z, n0] at e; cases e)]
    exact I.base.free b u e n hx
  · have z := I.base.tups b xs e
    rw [upd_ne (ne z)]
    exact z
  · have z := I.base.frzs b u v e
    rw [upd_ne (ne z)]
    exact z
  · obtain ⟨more, z⟩ := I.base.tbls b ps e
    exact ⟨more, by rw [upd_ne (ne z)]; exact z⟩
  · rw [upd_ne nL.symm]
    exact I.free
  · rw [upd_ne (nC x c e)]
    exact I.freeC x c e
  · obtain ⟨z1, z2, z3⟩ := I.pin p hp
    exact ⟨z1, by rw [upd_ne (nP p hp)]; exact z2, z3⟩
  · by_cases hb : b = a
    · subst hb
      rw [upd_same] at e
      cases e
      exact ok
    · rw [upd_ne hb] at e
      exact (I.hok b u e).stay (fun _ _ _ q => q) (fun c hc => by rw [upd_ne (ne hc)]; exact hc) (fun c xs hc => by rw [upd_ne (ne hc)]; exact hc)
def wAsK (K : PySem.W.Frag) (c : Value) (i : Nat) (ts : Addr → Value → Option Addr → TS) (Wout : WX) (D : Ends) : WX := fun cls d σ H =>
  ∃ b, PySem.W.exmOne K cls c = some b ∧ (b = true → ∃ C dd, cls = .ref C ∧ d = some dd ∧ ∀ a, H a = none → ts a cls d { nx := fun σ' H' => H' a = none → D.nx (σ'.set i none) (upd H' a (exk a C dd)), rt := D.rt, bk := fun σ' H' => D.bk (σ'.set i none) H', ct := fun σ' H' => D.ct (σ'.set i none) H' } (σ.set i (some (.ref a))) H) ∧
    (b = false → Wout cls d σ H)
section
variable {X : Cx} {x n : Str} {c : Value} {i : Nat} {body suite : List Stmt} {b₀ : Stmt} {np pos pos' : Pos} {tb : WX → TS} {ts : Addr → Value → Option Addr → TS} {Wout : WX}
theorem ps_try_keep (hex : X.ex = []) (hs : X.stack = X.env :: X.outer) (hf : X.env.frame = some X.env.locals) (hN : X.N.Nodup) (hi : X.N[i]? = some n) (hln : X.env.kindOf n = some .local) (hc : Names X x c) (tk : Takes X Wout)
    (hb : ∀ (W : WX) (pn : List (Addr × Obj)) (xe : Value → Shared → Prop), Takes (X.tr pn xe) W → PassesOwn (model X.prog X.w) X.A X.env xe → PSs (X.tr pn xe) body (tb W))
    (hsu : ∀ (a : Addr) (oe : Obj) (cls : Value) (d : Option Addr) (pn : List (Addr × Obj)), Zc cls d oe → (∃ vs, oe.data = .fields vs) → PSs (X.suite a ((a, oe) :: pn)) (b₀ :: suite) (ts a cls d)) :
    PS X (.Try body [.ExceptHandler (some (.Name x np)) (some n) (b₀ :: suite) pos'] [] [] pos) (fun D σ H => tb (wAsK X.K c i ts Wout D) D σ H) := by
  refine ⟨fun pins s σ H D I h => ?_⟩
  have ok := I.ok
  have hfr : X.A.frames = some (X.env :: X.outer) := by rw [ok.frames, hs]
  have hloc : Loc X.env.scope n := .inl hln
  refine wpAny_Try_except ?_
  refine wpAny_mono ((hb (wAsK X.K c i ts Wout D) (X.pn ++ pins) (fun e s₁ => wpAny (model X.prog X.w) X.A (noteFrame e X.env) (fun _ s₂ => wpAny (model X.prog X.w) X.A (setFlight e none) (fun _ s₃ =>
    wpAny (model X.prog X.w) X.A (handleBy e X.env [.ExceptHandler (some (.Name x np)) (some n) (b₀ :: suite) pos']) (SP X pins D) X.xe s₃) X.xe s₂) X.xe s₁) (fun u s' xx => ?_) PassesOwn.looking).run [] s σ H D (I.toTry _) h) (fun f s1 hsp => ?_) (fun e s1 he => he)
  · -- the catch
    obtain ⟨a, B, sI, pins', σ', H', cls, d, rfl, J', nb, up, sky, na, os, ag, b, hb1, hyes, hno⟩ := xx
    have nB : B.get? a = none := by
      rcases sky with z | z | z
      · exact z.2.1
      · exact z.2.1
      · exact z.2.1
    have J : Inv X pins σ' H' sI := J'.ofTry ok
    have sky' : Sky B (X.env :: X.outer) a (Zc cls d) X.env.locals s'.heap := by rw [← hs]; exact sky
    show wpAny (model X.prog X.w) X.A (noteFrame (.ref a) X.env) _ _ _
    refine Sky.land Zc.steady hfr hf sky' fun h3 fl3 up3 => ?_
    have J3 : Inv X pins σ' H' { s' with heap := h3 } := J.landed nb fl3.1 (up.trans up3) os ag
    obtain ⟨oe3, vs3, he3, hz3, hd3⟩ := fl3.there
    have notFr : ∀ {h : Heap} {o : Obj} {vs : Array Value}, h.FunFrames B (X.env :: X.outer) → h.get? a = some o → o.data = .fields vs → a ∉ frs (X.env :: X.outer) := fun {h o vs} ff e dd hm => by
      obtain ⟨_, o', e', hnf⟩ := ff.mem hm
      rw [e] at e'; cases e'
      exact hnf _ dd
    have nfr := notFr fl3.2.2.1 he3 hd3
    have nL : a ≠ X.env.locals := fun z => nfr (List.mem_filterMap.mpr ⟨X.env, List.mem_cons_self, by rw [hf, z]⟩)
    have nF : a ∉ X.fs := fun hm => by
      obtain ⟨e, he, q⟩ := List.mem_filterMap.mp hm
      exact nfr (List.mem_filterMap.mpr ⟨e, List.mem_cons_of_mem _ he, q⟩)
    have nsI : sI.heap.get? a = none := by
      cases q : sI.heap.get? a with
      | none => rfl
      | some o =>
        have z := nb a o q (by rw [hs]; exact nfr)
        rw [nB] at z
        cases z
    have n0 : X.s_0.heap.get? a = none := by
      cases q : X.s_0.heap.get? a with
      | none => rfl
      | some o =>
        obtain ⟨o', z⟩ := J.base.there a o q (by rw [hex]; simp)
        rw [nsI] at z
        cases z
    have nP : ∀ p ∈ X.pn ++ pins, p.1 ≠ a := fun p hp z => by
      have y := (J.pin p hp).1
      rw [z, nsI] at y
      cases y
    have nC : ∀ x c, X.env.cells.lookup x = some c → c ≠ a := fun x c hx z => by
      obtain ⟨v, y⟩ := J.cell x c hx
      obtain ⟨o, y1, _⟩ := y
      rw [z, nsI] at y1
      cases y1
    have S3 := J3.suite he3 hd3 na nL nF
    refine wpAny_handleBy_cons (codeAny_handlers_test ?_) (by intro q; cases q)
    have LT : PySem.W.Looks (model X.prog X.w) h3 (typeOf (.ref a)) cls := fun A Q E s k q => wpAny_typeOf_ref (k _ _ he3) (by rw [hz3.1]; exact q)
    have LM := PySem.W.exm_one (M := model X.prog X.w) (J3.kIn) LT hb1
    have test : ∀ {Q : Value → Shared → Prop} {E : Value → Shared → Prop}, Q c { s' with heap := h3 } → wpAny (model X.prog X.w) (X.A.mark (some (.ref a))) (eval (.Name x np) X.env) Q E { s' with heap := h3 } := fun {Q E} q => by
      obtain ⟨hg, hdbg, hm | ⟨hm, hv, hnn⟩⟩ := hc
      · exact ld_glob (X := X.suite a ((a, oe3) :: (X.pn ++ pins))) S3 hg hm q hdbg
      · exact ld_blt (X := X.suite a ((a, oe3) :: (X.pn ++ pins))) S3 hg hm hv q hnn hdbg
    refine test (LM.here ?_)
    cases b with
    | true =>
      refine codeAny_handlers_suite_as ?_
      obtain ⟨C, dd, ecls, edd, hys⟩ := hyes rfl
      subst ecls
      subst edd
      refine HandSPX.lands_againZ fl3 fun h4 fl4 up4 => ?_
      have J4 : Inv X pins σ' H' { s' with heap := h4 } := J.landed nb fl4.1 ((up.trans up3).trans up4) os ag
      obtain ⟨oe4, vs4, he4, hz4, hd4⟩ := fl4.there
      have S4 := J4.suite he4 hd4 na nL nF
      refine store_ok (X := X.suite a ((a, oe4) :: (X.pn ++ pins))) (v := .ref a) S4 hN hi hloc rfl (fun s5 S5 => ?_) (.inr hln)
      refine wpAny_mono ((hsu a oe4 _ _ (X.pn ++ pins) hz4 ⟨_, hd4⟩).run [] s5 _ H' _ S5 (hys a na)) (fun f s6 hsp => ?_) (fun _ _ z => False.elim z)
      have end_ : ∀ {σ6 : L2.St} {H6 : Hp} {Q : Shared → Prop}, Inv (X.suite a ((a, oe4) :: (X.pn ++ pins))) [] σ6 H6 s6 → (∀ s7, Inv X pins (σ6.set i none) H6 s7 → Q s7) →
          wpAny (model X.prog X.w) X.A (do bindName X.env n .none; unbindBehindTheSuite X.env n pos') (fun _ s7 => Q s7) X.xe s6 := fun {σ6 H6 Q} S6 hq => gone_ok (S6.unsuite ok) hN hi hln hq
      cases f with
      | next =>
        obtain ⟨σ6, H6, S6, q6⟩ := hsp
        obtain ⟨ha6, hn6, _⟩ := S6.pin (a, oe4) (List.mem_append_left _ List.mem_cons_self)
        have J6 : Inv X pins σ6 (upd H6 a (exk a C dd)) s6 := inv_track (S6.unsuite ok) hn6 n0 nL nC nP (exk_ok ha6 hz4.1 hz4.2 hd4)
        exact gone_ok J6 hN hi hln fun s7 J7 => ⟨_, _, J7, q6 hn6⟩
      | brk =>
        obtain ⟨σ6, H6, S6, q6⟩ := hsp
        exact end_ S6 fun s7 J7 => ⟨_, _, J7, q6⟩
      | cont =>
        obtain ⟨σ6, H6, S6, q6⟩ := hsp
        exact end_ S6 fun s7 J7 => ⟨_, _, J7, q6⟩
      | ret u =>
        obtain ⟨v6, σ6, H6, S6, r6, q6⟩ := hsp
        exact end_ S6 fun s7 J7 => ⟨_, _, _, J7, r6, q6⟩
    | false =>
      show wpAny _ X.A (handleBy (.ref a) X.env []) _ _ _
      refine wpAny_handleBy_nil ?_
      obtain ⟨k1, k2, k3, oe, vs, T, oT, ts', he, hz, hd, h1, hr⟩ := id fl3
      unfold PySem.passOn
      refine wpAny_bind (wpAny_field he hd h1 ?_)
      rw [if_neg (show ¬ ((Value.ref T == Value.none) = true) from by simp)]
      have fin : wpAny (model X.prog X.w) X.A (setFlight (.ref a) X.env.frame) (fun _ s4 => wpAny (model X.prog X.w) X.A (throw (.ref a) : Sem Flow) (SP X pins D) X.xe s4) X.xe { s' with heap := h3 } := by
        rw [hf]
        refine HandSPX.setFlight_upZ fl3 fun h4 hh4 up4 => wpAny_throw (tk _ _ ?_)
        exact ⟨a, B, sI, pins, σ', H', cls, d, rfl, J, nb, (up.trans up3).trans up4, .inr (.inr (by rw [hs]; exact hh4)), na, os, ag, hno rfl⟩
      first
        | exact wpAny_bind (wpAny_pure (wpAny_bind fin))
        | exact wpAny_bind fin
  · cases f with
    | next =>
      obtain ⟨σ', H', J', q⟩ := hsp
      exact wpAny_execs_nil ⟨σ', H', J'.ofTry ok, q⟩
    | brk =>
      obtain ⟨σ', H', J', q⟩ := hsp
      exact ⟨σ', H', J'.ofTry ok, q⟩
    | cont =>
      obtain ⟨σ', H', J', q⟩ := hsp
      exact ⟨σ', H', J'.ofTry ok, q⟩
    | ret u =>
      obtain ⟨v, σ', H', J', r, q⟩ := hsp
      exact ⟨v, σ', H', J'.ofTry ok, r, q⟩
end
end Gh
end
section
set_option Elab.async false
set_option linter.all false
set_option maxRecDepth 100000
set_option maxHeartbeats 4000000
namespace Gh
open PySem PySem.Spec PyProof.Rows L2
theorem law_callTsG {P : Program} {w : World} {K : PySem.W.Frag} {mg mb : Str → Option Value} {CX : CXT} {k : Nat} {fa a : Addr} {cs : List (Addr × Addr)} {fd : FuncData} {x : Str} {sp : Sp} {s₁ : Shared} {vs : List Value} {ns : List Int}
    (KX : K.In s₁.heap) (hns : s₁.heap.Ns mainGlobals mg) (hb : s₁.heap.Ns builtinsNs mb) (hbb : ∀ x : Str, x ≠ "__name__" → mb x = bootBuiltins x) (hlim : s₁.heap.NoLimit) (hg : s₁.gens = #[])
    (hT : ∀ p ∈ cs, s₁.heap.get? p.2 = some { cls := .none, data := .fields #[] }) (nT : ∀ p ∈ cs, K.lookup p.2 = none) (C : ∀ p ∈ cs, PySem.W.CodeHd s₁.heap p.1 p.2)
    (hbm : ∃ (bm : Addr) (ob : Obj), mg "__builtins__" = some (.ref bm) ∧ bm ≠ builtinsNs ∧ s₁.heap.get? bm = some ob ∧ ob.cls = .type "module" ∧ ob.dict = some builtinsNs ∧ ob.data = .plain)
    (ha : s₁.heap.get? a = some { cls := .type "list", data := .seq vs.toArray }) (hi : IntsAre vs ns) (hl : ns.length ≤ sizeLine) (hr : Room k callerA)
    (F : ∀ base : Heap, K.In base → base.Ns mainGlobals mg → (∀ p ∈ cs, LamX.TabB base mg p.1 p.2) → FnG P w K mg base CX k fa fd [x] sp) (hbind : ∀ (s : Shared) (u : Value), BindsTo s fd ⟨[u], []⟩ [(x, u)])
    (hsp : ∀ H : Hp, (∀ p ∈ cs, H p.2 = some (.tbl #[])) → SqL K H a (ns.map V.int) → sp [.ref a] H (fun v _ => v = .bl true) fun _ _ _ => False)
    (hCX : ∀ H e s', CX [] H s₁ (fun _ _ _ => False) e s' → False) :
    codeAny (model P w) callerA (.call (.ref fa) ⟨[.ref a], []⟩) (fun r s' => r = .ok (.ret (.bool true)) ∧ OldK s₁.heap s'.heap ∧ s'.os = s₁.os ∧ AllBare s'.gens) s₁ := by
  have rv := vals_ints hi
  have lenV := hi.length
  have isT : ∀ b : Addr, b ∈ cs.map (·.2) → s₁.heap.get? b = some { cls := .none, data := .fields #[] } := fun b hb => by
    obtain ⟨p, hp, e⟩ := List.mem_map.mp hb
    rw [← e]
    exact hT p hp
  have aT : a ∉ cs.map (·.2) := fun z => by
    have q := isT a z
    rw [ha] at q
    have z' : Data.seq vs.toArray _ = Data.fields #[] := congrArg Obj.data (Option.some.inj q)
    cases z'
  have memT : ∀ p ∈ cs, p.2 ∈ cs.map (·.2) := fun p hp => List.mem_map.mpr ⟨p, hp, rfl⟩
  -- from an abstract heap in which nothing but the script and the tables may be tracked
  have core : ∀ H : Hp, (∀ p ∈ cs, H p.2 = some (.tbl #[])) → (∀ b, H b = none ∨ b ∈ cs.map (·.2) ∨ ∃ o xs, H b = some (.frz o (.lst xs))) → SqL K H a (ns.map V.int) → HOk P w H s₁.heap → (∀ b, H b ≠ none → b = a ∨ b ∈ cs.map (·.2)) → (H a ≠ none → K.lookup a = none) →
      codeAny (model P w) callerA (.call (.ref fa) ⟨[.ref a], []⟩) (fun r s' => r = .ok (.ret (.bool true)) ∧ OldK s₁.heap s'.heap ∧ s'.os = s₁.os ∧ AllBare s'.gens) s₁ := by
    intro H hH hO hS hok hA hK
    have base_of : ∀ {b : Addr} {o : Obj}, s₁.heap.get? b = some o → H b = none → (hidT s₁.heap H).get? b = some o := fun e n => hidT_get e n
    have noD : ∀ {b : Addr} {o : Obj}, s₁.heap.get? b = some o → (∀ vs n, o.data ≠ .seq vs n) → o.data ≠ .fields #[] → H b = none := fun {b o} e h1 h2 => by
      cases q : H b with
      | none => rfl
      | some u =>
        rcases hA b (by rw [q]; simp) with e' | e'
        · rw [e', ha] at e
          cases e
          exact (h1 _ _ rfl).elim
        · rw [isT b e'] at e
          cases e
          exact (h2 rfl).elim
    have noA : ∀ {b : Addr} {o : Obj} {es : Array DictEntry} {ep : Nat}, s₁.heap.get? b = some o → o.data = .dict es ep → H b = none := fun {b o es ep} e d => by
      refine noD e (fun vs n z => ?_) fun z => ?_
      · rw [d] at z
        cases z
      · rw [d] at z
        cases z
    have nsK : ∀ {b : Addr} {m : Str → Option Value}, s₁.heap.Ns b m → (hidT s₁.heap H).Ns b m := fun {b m} ⟨o, es, ep, e, d, r⟩ => ⟨o, es, ep, base_of e (noA e d), d, r⟩
    have hKb : K.In (hidT s₁.heap H) := fun b o e => base_of (KX b o e) (by
      cases q : H b with
      | none => rfl
      | some u =>
        rcases hA b (by rw [q]; simp) with e' | e'
        · rw [e'] at e q
          rw [hK (by rw [q]; simp)] at e
          cases e
        · obtain ⟨p, hp, ep⟩ := List.mem_map.mp e'
          rw [← ep, nT p hp] at e
          cases e)
    have hM : L2.Mod K mg (hidT s₁.heap H) := ⟨hKb, nsK hns, ⟨mb, nsK hb, hbb⟩, let ⟨mc, h1, h2⟩ := hlim; ⟨mc, nsK h1, h2⟩⟩
    have TB : ∀ p ∈ cs, LamX.TabB (hidT s₁.heap H) mg p.1 p.2 := fun p hp => by
      have hTp := hT p hp
      refine ⟨?_, ?_, fun z => ?_⟩
      · obtain ⟨o, us, file, tf, flags, tg, inF, text, tt, e1, r1, r2, r3, r4, r5, r6, r7, r8, hne⟩ := C p hp
        refine ⟨o, us, file, tf, flags, tg, inF, text, tt, base_of e1 (noD e1 (fun vs n z => ?_) fun z => ?_), r1, r2, r3, r4, r5, r6, r7, r8, hne⟩
        · rw [r2] at z
          cases z
        · rw [r2] at z
          cases z
          simp at r3
      · obtain ⟨bm, ob, b1, b2, b3, b4, b5, b6⟩ := hbm
        have nG : bm ≠ mainGlobals := fun q => by
          obtain ⟨o, es, ep, e, hd, _⟩ := hns
          rw [q, e] at b3
          cases b3
          rw [hd] at b6
          cases b6
        have nP : bm ≠ p.2 := fun q => by
          rw [q, hTp] at b3
          cases b3
          cases b6
        refine ⟨bm, ob, b1, b2, nG, nP, base_of b3 (noD b3 (fun vs n z => ?_) fun z => ?_), b4, b5, b6⟩
        · rw [b6] at z
          cases z
        · rw [b6] at z
          cases z
      · obtain ⟨o, es, ep, e, hd, _⟩ := hns
        rw [z, hTp] at e
        cases e
        cases hd
    have e0 : Env0 P w K mg (hidT s₁.heap H) callerA [] s₁ H := ⟨rfl, hM, fun b o e => of_hidT e, Nat.le_of_eq (hidT_size _ _), trivial, fun b hb => absurd (show b ∈ ([] : List Addr) from hb) (by simp), hok, .of_eq hg⟩
    refine codeAny_mono ((F _ hKb (nsK hns) TB).run callerA [] s₁ H ⟨[.ref a], []⟩ [.ref a] [.ref a] _ _ hr rfl e0 (hbind s₁ (.ref a)) (.cons rfl .nil) (hsp H hH hS)) fun r s' h => ?_
    cases r with
    | error e => exact (hCX H e s' h).elim
    | ok fl =>
      cases fl with
      | next => exact False.elim h
      | brk => exact False.elim h
      | cont => exact False.elim h
      | ret u =>
        obtain ⟨v, H', os, bare, un, hok', r', q⟩ := h
        have q' : v = .bl true := q
        subst q'
        obtain rfl : u = Value.bool true := r'
        have key : ∀ b o, b ∉ cs.map (·.2) → s₁.heap.get? b = some o → s'.heap.get? b = some o := fun b o nb e => by
          cases q : H b with
          | none => exact un.keep b o e q (by intro z; exact absurd (show b ∈ ([] : List Addr) from z) (by simp)) (by simp)
          | some u =>
            rcases hO b with z | z | ⟨ob, xs, z⟩
            · rw [q] at z; cases z
            · exact absurd z nb
            · have z2 := un.frzs b ob _ z
              obtain ⟨e1, _⟩ := hok b _ z
              obtain ⟨e2, _⟩ := hok' b _ z2
              rw [e] at e1; cases e1
              exact e2
        have grown : ∀ p ∈ cs, ∃ more : Array Value, s'.heap.get? p.2 = some { cls := .none, data := .fields more } := fun p hp => by
          obtain ⟨more, z⟩ := un.tbls p.2 #[] (hH p hp)
          exact ⟨_, hok' p.2 _ z⟩
        refine ⟨rfl, ⟨fun b o e => ?_, fun b o e => ?_⟩, os, bare⟩
        · by_cases hb : b ∈ cs.map (·.2)
          · obtain ⟨p, hp, ep⟩ := List.mem_map.mp hb
            obtain ⟨more, hm⟩ := grown p hp
            rw [← ep] at e ⊢
            rw [hT p hp] at e
            cases e
            exact .inr (.inl ⟨((C p hp).tab (hT p hp)).isCodeTable, rfl, #[], more, rfl, by rw [Array.empty_append]; exact hm⟩)
          · exact .inl (key b o hb e)
        · by_cases hb : b ∈ cs.map (·.2)
          · obtain ⟨p, hp, ep⟩ := List.mem_map.mp hb
            obtain ⟨more, hm⟩ := grown p hp
            rw [← ep]
            exact ⟨_, hm⟩
          · exact ⟨o, key b o hb e⟩
  cases hk : K.lookup a with
  | some o =>
    have e := KX a o hk
    rw [ha] at e
    cases e
    refine core (fun b => if b ∈ cs.map (·.2) then some (.tbl #[]) else none) (fun p hp => if_pos (memT p hp)) (fun b => ?_) (.inr ⟨_, vs.toArray, _, hk, rfl, rfl, rfl, by rw [List.size_toArray, lenV]; exact hl, by simpa using rv⟩) (fun b u z => ?_) (fun b z => ?_) fun z => absurd (show (if a ∈ cs.map (·.2) then some (HO.tbl #[]) else none) = none from if_neg aT) z
    · by_cases hb : b ∈ cs.map (·.2)
      · exact .inr (.inl hb)
      · exact .inl (if_neg hb)
    · by_cases hb : b ∈ cs.map (·.2)
      · have z' := (if_pos hb).symm.trans z
        cases z'
        exact isT b hb
      · have z' := (if_neg hb).symm.trans z
        cases z'
    · by_cases hb : b ∈ cs.map (·.2)
      · exact .inr hb
      · exact absurd (if_neg hb) z
  | none =>
    refine core (fun b => if b = a then some (.frz { cls := .type "list", data := .seq vs.toArray } (.lst (ns.map V.int))) else if b ∈ cs.map (·.2) then some (.tbl #[]) else none) (fun p hp => (if_neg (show ¬ p.2 = a from fun z => aT (by rw [← z]; exact memT p hp))).trans (if_pos (memT p hp))) (fun b => ?_)
      (.inl (.inr ⟨{ cls := .type "list", data := .seq vs.toArray }, if_pos rfl⟩)) (fun b u z => ?_) (fun b z => ?_) fun _ => hk
    · by_cases hb : b = a
      · exact .inr (.inr ⟨_, _, if_pos hb⟩)
      · by_cases hb2 : b ∈ cs.map (·.2)
        · exact .inr (.inl hb2)
        · exact .inl ((if_neg hb).trans (if_neg hb2))
    · by_cases hb : b = a
      · have z' := (if_pos hb).symm.trans z
        cases z'
        rw [hb]
        exact ⟨ha, by rw [List.length_map]; exact hl, vs, _, rv, ha⟩
      · have z1 := (if_neg hb).symm.trans z
        by_cases hb2 : b ∈ cs.map (·.2)
        · have z' := (if_pos hb2).symm.trans z1
          cases z'
          exact isT b hb2
        · have z' := (if_neg hb2).symm.trans z1
          cases z'
    · by_cases hb : b = a
      · exact .inl hb
      · by_cases hb2 : b ∈ cs.map (·.2)
        · exact .inr hb2
        · exact absurd ((if_neg hb).trans (if_neg hb2)) z
theorem walk_ofTsG {l : PySem.W.OpenLaw} {n k : Nat} {q : Program} {loose : List Str} {XP : (Str → Option Value) → Heap → Prop} {YP : World → Heap → Prop} {d : DefRec} {CX : World → CXT} {x : Str}
    (hn : l.most = some n) (hn2 : n ≤ sizeLine) (hdf : d.params.defaults = []) (hr : Room k callerA)
    (F : ∀ (w : World) (mg : Str → Option Value) (fa : Addr) (h : Heap), YP w h → h.Ns mainGlobals mg → mg d.name = some (.ref fa) →
      ∃ (K : PySem.W.Frag) (fd : FuncData) (cs : List (Addr × Addr)) (sp : Sp), K.In h ∧ (∀ p ∈ cs, h.get? p.2 = some { cls := .none, data := .fields #[] }) ∧ (∀ p ∈ cs, K.lookup p.2 = none) ∧ (∀ p ∈ cs, PySem.W.CodeHd h p.1 p.2) ∧
        (∀ (s : Shared) (u : Value), BindsTo s fd ⟨[u], []⟩ [(x, u)]) ∧
        (∀ (H : Hp) (a : Addr) (ns : List Int), ns.length ≤ n → (∀ p ∈ cs, H p.2 = some (.tbl #[])) → SqL K H a (ns.map V.int) → sp [.ref a] H (fun v _ => v = .bl true) fun _ _ _ => False) ∧
        ∀ base : Heap, K.In base → base.Ns mainGlobals mg → (∀ p ∈ cs, LamX.TabB base mg p.1 p.2) → FnG l.prog w K mg base (CX w) k fa fd [x] sp)
    (hCX : ∀ (w : World) (H : Hp) (s : Shared) (e : Value) (s' : Shared), CX w [] H s (fun _ _ _ => False) e s' → False) :
    PySem.W.WalkO q loose XP YP l.row.toRowW d [] (fun f vs => PySem.call f vs) := by
  refine Att.attach_call hn hdf fun w s₀ s₁ mg mb fa o pm cd doc a vs ns G Y ho hd hcd hmg hobj hints hlen hg => ?_
  obtain ⟨K, fd, cs, sp, KX, hT, nT, C, hb, hsp, hF⟩ := F w mg fa _ Y G.T.g hmg
  exact law_callTsG KX G.T.g G.T.b G.T.builtins G.T.nolimit hg hT nT C G.T.bmain hobj hints (Nat.le_trans hlen hn2) hr hF hb (fun H hH hS => hsp H a ns hlen hH hS) fun H e s' => hCX w H s₁ e s'
end Gh
end
section
set_option Elab.async false
set_option linter.all false
set_option maxRecDepth 100000
set_option maxHeartbeats 4000000
namespace Gh
open PySem PySem.Spec PyProof.Rows L2
theorem fnO0 {P : Program} {w : World} {K : PySem.W.Frag} {mg : Str → Option Value} {base : Heap} {CX : CXT} {k : Nat} {f : Addr} {fd : FuncData} {ps : List Str} {sp : Sp} {dvs : List V} {x qual : Str} {params : Arguments} {body : List Stmt} {scope : Scope} {kws : List (Str × V)} {N : List Str}
    (F : FunD K x qual params body scope dvs kws f fd) (S : FnScope N ps scope) (len : ∀ vs H Q E, sp vs H Q E → vs.length = ps.length)
    (hbody : ∀ (cdv : Value) (A : Around) (outer : List Env) (s : Shared) (H : Hp) (vs : List V) (Q : VK) (E : XK), Room k (A.deeper (envOfC qual scope s.heap.objs.size f cdv)) → sp vs H Q E →
      ∃ t, PSs (cxOf CX P w K mg base N qual scope f cdv A outer s H E).nox body t ∧ t { nx := fun _ H' => Q .non H', rt := Q } (start N vs) H) : FnOk P w K mg base CX (k + 1) f fd ps sp :=
  F.ok S len fun cdv A outer s H vs Q E hr h => by
    obtain ⟨t, ht, q⟩ := hbody cdv A outer s H vs Q E hr h
    exact ⟨t, PSs.nox ht, q⟩
section
variable {X : Cx} {CX : CXT} {k : Nat} {f g C : Addr} {sp : Sp} {dvs : List V} {E : XK} {m : Str} {pos : Pos} {o : Expr} {ta : TE}
theorem PromO.make (M : Mk X.K C f) (F : PromOX X CX k f dvs sp) (hr : Room (k + 1) X.A) (hx : Passes CX X E) : CallR X (.ref C) (rMk C sp dvs E) := by
  intro pins s σ H vs us Q I r h
  unfold rMk at h
  obtain ⟨fd, ps, ds, G, b, hd⟩ := F
  exact run_make M G hr b hd hx I r h
theorem pe_po {pp : Addr} (he : PE X o ta) (c : Cls X.K C) (hp : PropOf X.K C m pp g) (F : PromOX X CX k g dvs sp) (hr : Room (k + 1) X.A) (hx : Passes CX X.nox E)
    (hab : attributeBase o m X.env (eval o X.env) = eval o X.env := by rfl) : PE X (.Attribute o m pos) (tPr C sp dvs E ta) := by
  obtain ⟨fd, ps, ds, G, b, hd⟩ := F
  exact pe_prop he c hp G hr b hd hx hab
theorem pass_on (hs : X.stack = X.env :: X.outer) (hf : X.env.frame = some X.env.locals) (hex : X.ex = []) {E₁ : Value → Shared → Prop} (hx : X.xe = fun e s' => wpAny (model X.prog X.w) X.A (leaving X.env e) (fun _ s'' => L2.CX X.prog X.w X.outer X.H_0 X.s_0 E e s'') E₁ s') : Passes (L2.CX X.prog X.w) X E :=
  passes_call (takes_of hs hf hex hx) fun _ _ _ _ h => h
end
theorem oexB_ok {x : Str} {K : PySem.W.Frag} (h : oexB x K = true) : OexC K (gd x K) := by
  obtain ⟨h1, h⟩ := He.ba h
  obtain ⟨h2, h⟩ := He.ba h
  obtain ⟨h3, h⟩ := He.ba h
  obtain ⟨h4, h5⟩ := He.ba h
  refine ⟨?_, He.eqO_ok h2, of_decide_eq_true h3, of_decide_eq_true h4, h5⟩
  split at h1
  · rename_i c dd nm bs m bm ns qn hd sn sb ab col dl k0 k1 k2 k3 n k5 e
    obtain ⟨z1, h1⟩ := He.ba h1
    obtain ⟨z2, h1⟩ := He.ba h1
    obtain ⟨z3, h1⟩ := He.ba h1
    obtain ⟨z4, h1⟩ := He.ba h1
    obtain ⟨z5, z6⟩ := He.ba h1
    have y1 := of_decide_eq_true z1
    have y2 := of_decide_eq_true z2
    have y6 := of_decide_eq_true z6
    have y5 : dl = false := by simpa using z5
    subst y1 y6 y5 z4
    refine ⟨nm, qn, ns, bs, bm, sn, sb, ab, col, dd, k0, k1, k2, k3, k5, ?_, z3⟩
    rw [e, y2]
  · cases h1
def spErr1 (C : Addr) (f : Str) : Sp := fun vs H Q _ => ∃ (a : Addr) (v : V), vs = [.ref a, v] ∧ H a = some (exo a C none) ∧ ∀ d, H d = none → d ≠ a → Q .non (upd (upd H d (exd d [(f, v)])) a (exo a C (some d)))
theorem mk_err1 {C : Addr} {f : Str} {v : V} {H : Hp} {Q : XK} (h : ∀ d H', L2.Same H H' → H d = none → H' d = some (.xd [(f, v)]) → Q (.ref C) (some d) H') :
    ([v] : List V).length ≤ 1000 ∧ ∀ a, H a = none → spErr1 C f (.ref a :: ([v] ++ [])) (upd H a (exo a C none)) (fun u H2 => u = .non ∧ ∃ (d : Addr) (fs : List (Str × V)), H2 a = some (exo a C (some d)) ∧ H2 d = some (exd d fs) ∧ H d = none ∧ Q (.ref C) (some d) (upd (del H2 a) d (.xd fs))) (fun _ _ _ => False) := by
  refine ⟨by show 1 ≤ 1000; decide, fun a na => ⟨a, v, rfl, upd_same, fun d nd ne => ⟨rfl, d, [(f, v)], upd_same, ?_, ?_, ?_⟩⟩⟩
  · rw [upd_ne ne, upd_same]
  · rw [upd_ne ne] at nd
    exact nd
  · have nd0 : H d = none := by
      rw [upd_ne ne] at nd
      exact nd
    refine h d _ (fun b u e => ?_) nd0 upd_same
    have hb : b ≠ a := ne_of_none e na
    have hd : b ≠ d := ne_of_none e nd0
    rw [upd_ne hd, del_ne hb, upd_ne hb, upd_ne hd, upd_ne hb]
    exact e
end Gh
end
section
set_option Elab.async false
set_option linter.all false
set_option maxRecDepth 100000
set_option maxHeartbeats 4000000
namespace Gh
open PySem PySem.Spec PyProof.Rows L2
@[irreducible] def rShow (K : PySem.W.Frag) : List V → Hp → VK → Prop := fun xs H Q => ∃ v t, xs = [v] ∧ Shw K H v t ∧ Q (.str t) H
theorem rShow_of {K : PySem.W.Frag} {v : V} {t : Str} {H : Hp} {Q : VK} (h : Shw K H v t) (q : Q (.str t) H) : rShow K [v] H Q := by
  unfold rShow
  exact ⟨v, t, rfl, h, q⟩
section
variable {X : Cx} {K : PySem.W.Frag}
theorem call_show (hK : X.K = K) (hu : X.A.units + 102 < cLine) (hg : X.A.guards = some []) : CallR X (.builtin "repr") (rShow K) := by
  subst hK
  intro pins s σ H xs us Q I r h
  unfold rShow at h
  obtain ⟨v, t, rfl, hs, q⟩ := h
  obtain ⟨u, rfl, ru⟩ := vals1 r
  cases hs with
  | non =>
    cases (show u = Value.none from ru)
    exact PySem.P.repr_of_none ⟨.str _, H, I.tok _, ⟨_, rfl⟩, q⟩
  | bl b =>
    cases (show u = Value.bool b from ru)
    exact PySem.P.repr_of_bool ⟨.str _, H, I.tok _, ⟨_, rfl⟩, q⟩
  | int i h =>
    obtain ⟨t, rfl⟩ := ru
    exact PySem.P.repr_of_int h ⟨.str _, H, I.tok _, ⟨_, rfl⟩, q⟩
  | str x h =>
    obtain ⟨t, rfl⟩ := ru
    exact PySem.P.repr_of_str ⟨.str _, H, I.tok _, ⟨_, rfl⟩, q⟩ (hsz := h)
  | dp hd h1 h2 h3 h4 =>
    rename_i a d
    cases (show u = Value.ref a from ru)
    obtain ⟨as, rd⟩ := Dp.reads I d _ _ hd rfl
    exact repr_of_reads' rd h1 (fun z => by rw [h2] at z; cases z) hg (by omega) (fun _ _ e => e) (fun h' u tk k => ⟨.str d.shown, H, I.kept k, ⟨u, rfl⟩, q⟩) h4
variable {CX : CXT} {x : Str} {C fI : Addr} {k : Nat} {sp : Sp} {dvs : List V} {e : Expr} {es : List Expr} {ta : TA} {p pos : Pos}
theorem passF : Passes (L2.CX X.prog X.w) X (fun _ _ _ => False) := fun _ _ _ _ _ _ _ h => by
  obtain ⟨_, _, _, _, _, _, _, _, _, _, _, _, z⟩ := h
  exact z.elim
theorem pmk_po (T : OexC X.K C) (iC : PySem.W.findIn X.K (.ref C) "__init__" = some (some (.ref fI))) (tI : PySem.W.typeIn X.K (.ref fI) = some (.type "function")) (F : PromOX X CX k fI dvs sp) (hr : Room (k + 1) X.A) (hx : Passes CX X (fun _ _ _ => False)) (hm : X.mg x = some (.ref C)) (ha : PA X (e :: es) ta) (hg : Gl X x := by rfl)
    (hdb : (x == ("__debug__" : Str)) = false := by decide) (he : starEach (e :: es) X.env = (false, eval e X.env) :: starEach es X.env := by rfl) (hpl : (backTo pos (starEach es X.env)).any (·.1) = false := by rfl) : PMk X (.Call (.Name x p) (e :: es) [] pos) (tMkO C sp dvs ta) := by
  obtain ⟨fd, ps, ds, G, b, hd⟩ := F
  exact pmk_oex T iC tI G hr b hd hx hg hm ha hdb he hpl
end
structure IniT (K : PySem.W.Frag) (C f : Addr) : Prop where
  iC : PySem.W.findIn K (.ref C) "__init__" = some (some (.ref f))
  tI : PySem.W.typeIn K (.ref f) = some (.type "function")
theorem iniB_ok {x : Str} {K : PySem.W.Frag} (h : iniB x K = true) : IniT K (gd x K) (md x "__init__" K) := by
  obtain ⟨h1, h2⟩ := He.ba h
  exact ⟨He.eqO_ok h1, of_decide_eq_true h2⟩
theorem PromO.raw {P : Program} {w : World} {K : PySem.W.Frag} {mg : Str → Option Value} {base : Heap} {CX : CXT} {k : Nat} {f : Addr} {sp : Sp} (F : PromO P w K mg base CX k f [] sp) : FnR P w K mg base CX k f sp := by
  obtain ⟨fd, ps, ds, G, b, hd⟩ := F
  have z := G.raw b hd
  intro A outer s H us vs Q E hr e0 r hs
  exact z A outer s H us vs Q E hr e0 r (show sp (vs ++ []) H Q E by rw [List.append_nil]; exact hs)
end Gh
end
section
set_option Elab.async false
set_option linter.all false
set_option maxRecDepth 100000
set_option maxHeartbeats 4000000
namespace Gh
open PySem PySem.Spec PyProof.Rows L2
theorem meets_enumerate_newT (l : Addr) (items : Array Value) (n : Nat) (dct : Option Addr) (sl : Array (Option Value)) :
    Meets (Builtin.«enumerate.__new__» ⟨[.type "enumerate", .ref l], []⟩) (fun _ R s => s.heap.get? l = some { cls := .type "tuple", dict := dct, data := .seq items n, slots := sl } ∧
      R (.ok (.ret (.ref (s.heap.push { cls := .type "tuple_iterator", data := .fields #[.ref l, .int 0 0] }).objs.size)))
        { s with heap := (s.heap.push { cls := .type "tuple_iterator", data := .fields #[.ref l, .int 0 0] }).push { cls := .type "enumerate", data := .fields #[.none, .bool false, .ref s.heap.objs.size, rawInt 0, .none, .none] } }) :=
  .of_wp fun prog w A R s h => by
    obtain ⟨hp, g, d, tk, os⟩ := s; obtain ⟨hl, h⟩ := h
    have hsub := sub_enumerate
    have hL : Heap.IsTuple (Shared.heap ⟨hp, g, d, tk, os⟩) l items := ⟨_, hl, rfl, n, rfl⟩
    wp_walk using wpAny_loadPart' hl
    refine wpAny_stack_any fun st => wpAny_pure ?_
    split
    · rename_i c _ _ _ _ _
      cases (c == Value.type "enumerate")
      · wp_walk using wpAny_loadPart' hl, wpAny_pyIter_tuple hL
        exact ⟨_, rfl, h⟩
      · wp_walk using wpAny_loadPart' hl, wpAny_pyIter_tuple hL
        exact ⟨_, rfl, h⟩
    · wp_walk using wpAny_loadPart' hl, wpAny_pyIter_tuple hL
      exact ⟨_, rfl, h⟩
section
variable {prog : Program} {w : World} {A : Around} {E : Value → Shared → Prop} {s : Shared}
theorem call_enumerate_tup {l : Addr} {items : Array Value} {Q : Value → Shared → Prop} (hL : s.heap.IsTuple l items)
    (h : ∀ h', IsEnum h' (s.heap.objs.size + 1) s.heap.objs.size 0 .none → h'.IsTupleIter s.heap.objs.size l 0 → h'.objs.size = s.heap.objs.size + 2 →
      (∀ b o, s.heap.get? b = some o → h'.get? b = some o) → Q (.ref (s.heap.objs.size + 1)) { s with heap := h' }) :
    wpAny (model prog w) A (call (.type "enumerate") [.ref l]) Q E s := by
  obtain ⟨⟨c, dct, dt, sl⟩, hl, hc, n, hd⟩ := hL
  replace hc : c = .type "tuple" := hc
  replace hd : dt = .seq items n := hd
  subst hc hd
  refine callType_new F.called_enumerate (by decide) (F.typeCall_enumerate_1 _) (F.newCall_enumerate_1 _) (fun obj => F.args_object_init_2 obj _) F.entry_enumerate_new
    (meets_enumerate_newT l items n dct sl) ⟨hl, ?_⟩
  have hz : (s.heap.push { cls := .type "tuple_iterator", data := .fields #[.ref l, .int 0 0] }).objs.size = s.heap.objs.size + 1 := Heap.size_push ..
  show _ ∧ _
  rw [hz]
  have he : IsEnum ((s.heap.push { cls := .type "tuple_iterator", data := .fields #[.ref l, .int 0 0] }).push
      { cls := .type "enumerate", data := .fields #[.none, .bool false, .ref s.heap.objs.size, rawInt 0, .none, .none] }) (s.heap.objs.size + 1) s.heap.objs.size 0 .none := by
    have := Heap.get?_push_size (s.heap.push { cls := .type "tuple_iterator", data := .fields #[.ref l, .int 0 0] })
      (o := { cls := .type "enumerate", data := .fields #[.none, .bool false, .ref s.heap.objs.size, rawInt 0, .none, .none] }) rfl
    rw [hz] at this; exact this
  refine ⟨⟨_, he, rfl⟩, h _ he ⟨_, Heap.get?_push_of_some _ (Heap.get?_push_size _ rfl), rfl, rfl⟩ (by rw [Heap.size_push, hz]) fun b o x => Heap.get?_push_of_some _ (Heap.get?_push_of_some _ x)⟩
end
def Itu (K : PySem.W.Frag) (a : Addr) : It :=
  ⟨fun i H => ∃ (xs : List V) (x : V), SqT K H a xs ∧ xs[i]? = some x, fun i H v H' => ∃ T x, v = .ref T ∧ H T = none ∧ H' = upd H T (.tup [.int (i : Nat), x]) ∧ ∀ xs, SqT K H a xs → xs[i]? = some x, fun i H => ∃ xs : List V, SqT K H a xs ∧ xs.length = i⟩
theorem turn_enumT {P : Program} {w : World} {K : PySem.W.Frag} {elts : List Expr} {kk : Nat} {tpos : Pos} (a e it : Addr) :
    Turn P w K (.Tuple elts kk tpos) (Itu K a) [e, it] e (fun i h => (∃ old, IsEnum h e it ((i : Nat) : Int) old) ∧ h.IsTupleIter it a i ∧ e ≠ it ∧ a ≠ it ∧ e ≠ a) where
  mem := by simp
  obj := fun i h st b hb => by
    obtain ⟨⟨old, he⟩, ⟨o, ho, hc, hd⟩, _⟩ := st
    have e' : b = e ∨ b = it := by simpa using hb
    rcases e' with z | z
    · rw [z]; exact ⟨_, he, fun v q => nomatch q⟩
    · rw [z]; exact ⟨o, ho, fun v q => by rw [hd] at q; cases q⟩
  keep := fun i h h' st k => let ⟨⟨old, he⟩, hi, hne⟩ := st; ⟨⟨old, k e (by simp) _ he⟩, hi.at fun o q => k it (by simp) o q, hne⟩
  item := by
    intro X hP hw hK hc i pins s σ H E I hf st hg
    subst hP hw hK
    obtain ⟨⟨old, he⟩, hit, hne, hai, hea⟩ := st
    obtain ⟨xs, x, hq, hx⟩ := hg
    obtain ⟨its, rv, p, hz⟩ := I.tuple hq
    obtain ⟨u, hu, ru⟩ := rv.get hx
    have hel : e < s.heap.objs.size := Heap.lt_size he
    have hil : it < s.heap.objs.size := by obtain ⟨_, q, _⟩ := hit; exact Heap.lt_size q
    have hlt : i < its.toArray.size := by
      obtain ⟨z, _⟩ := List.getElem?_eq_some_iff.mp hu
      simpa using z
    refine wpAny_pyNext_enum_itemD (Draws.tuple (A := X.A.in1) (show X.A.in1.handled = none from I.ok.hd hc) it a hai its.toArray) he ⟨hit, p⟩ hlt hne (by simp; exact ⟨hne, hea⟩) fun u' h' tk pu ho hit' hT hsz hk => ?_
    have eu : u' = u := by
      have z : its.toArray[i]? = some u := by simpa using hu
      rw [z] at pu
      exact (Option.some.inj pu).symm
    subst eu
    refine ⟨_, rfl, wpAny_letOwnedTupleGo_enum (s := { s with heap := h', toks := tk + 1 }) ho fun h'' he' sb => ?_⟩
    have hT2 : h''.get? s.heap.objs.size = some { cls := .type "tuple", data := .seq #[.int i tk, u'] } := (sb.2 _ (Nat.ne_of_gt hel)).trans hT
    have new : ObjOk X.prog X.w (upd H s.heap.objs.size (.tup [.int (i : Nat), x])) h'' s.heap.objs.size (.tup [.int (i : Nat), x]) :=
      ⟨by show 2 ≤ sizeLine; decide, [.int i tk, u'], .cons ⟨_, rfl⟩ (.cons ru .nil), ⟨_, hT2, rfl, _, rfl⟩⟩
    have I1 : Inv X pins σ (upd H s.heap.objs.size (.tup [.int (i : Nat), x])) { s with heap := h'', toks := tk + 1 } :=
      I.turnedNew (ch := [e, it]) (fun b ob hb q => (sb.2 b (fun z => hb (by simp [z]))).trans (hk b ob (fun z => hb (by simp [z])) (fun z => hb (by simp [z])) q)) hf (Nat.le_refl _) new
    refine ⟨.ref s.heap.objs.size, _, I1, rfl, ⟨_, x, rfl, I.hok.fresh (Nat.le_refl _), rfl, fun ys hy => by rw [I.tuple_inj hy hq]; exact hx⟩, ⟨⟨u', ?_⟩, hit'.1.at fun o q => (sb.2 it (Ne.symm hne)).trans q, hne, hai, hea⟩, fun b hb => ?_⟩
    · have e1 : ((i + 1 : Nat) : Int) = (i : Int) + 1 := by omega
      rw [e1]; exact he'
    · have hb' : b < s.heap.objs.size := by
        have e' : b = e ∨ b = it := by simpa using hb
        rcases e' with z | z
        · rw [z]; exact hel
        · rw [z]; exact hil
      rw [upd_ne (Nat.ne_of_lt hb')]
      exact (hf b hb).1
  done := by
    intro X hP hw hK hc i pins s σ H E I hf st hg
    subst hP hw hK
    obtain ⟨⟨old, he⟩, hit, hne, hai, hea⟩ := st
    obtain ⟨xs, hq, hx⟩ := hg
    obtain ⟨its, rv, p, hz⟩ := I.tuple hq
    obtain ⟨f0, f1, f2, f3, f4, f5⟩ := hf it (by simp)
    have hl := rv.length
    have en : its.toArray.size = i := by
      rw [List.size_toArray]
      omega
    refine wpAny_pyNext_enum_endD (Draws.tuple (A := X.A.in1) (show X.A.in1.handled = none from I.ok.hd hc) it a hai its.toArray) he ⟨by rw [en]; exact hit, p⟩ fun h' eb => ⟨rfl, I.turned (t' := s.toks) (fun b o hb q => eb b o hb q) f0 f1 f3 f4 f5⟩
  self := fun A i s Q E st h => let ⟨⟨_, he⟩, _⟩ := st; wpAny_pyIter_enum he h
end Gh
end
section
set_option Elab.async false
set_option linter.all false
set_option maxRecDepth 100000
set_option maxHeartbeats 4000000
namespace Gh
open PySem PySem.Spec PyProof.Rows L2
section
variable {X : Cx} {C f : Addr} {r : List V → Hp → VK → Prop}
@[irreducible] def rSetO (C : Addr) (r : List V → Hp → VK → Prop) : TSet := fun o i v H Q => ∃ a dx fs, o = .ref a ∧ H a = some (.ins C dx fs) ∧ r [o, i, v] H fun _ H' => Q H'
@[irreducible] def rIxO (C : Addr) (sp : Sp) (E : XK) : R2 := fun x y H Q => ∃ a dx fs, x = .ref a ∧ H a = some (.ins C dx fs) ∧ sp [x, y] H Q E
end
end Gh
end
section
set_option Elab.async false
set_option linter.all false
set_option maxRecDepth 100000
set_option maxHeartbeats 4000000
namespace Gh
open PySem PySem.Spec PyProof.Rows L2
theorem fnG1 {P : Program} {w : World} {K : PySem.W.Frag} {mg : Str → Option Value} {base : Heap} {CX : CXT} {k : Nat} {f : Addr} {fd : FuncData} {ps : List Str} {sp : Sp} {dvs : List V} {x qual : Str} {params : Arguments} {body : List Stmt} {scope : Scope} {kws : List (Str × V)} {N : List Str}
    (F : FunD K x qual params body scope dvs kws f fd) (S : FnScope N ps scope) (len : ∀ vs H Q E, sp vs H Q E → vs.length = ps.length)
    (hbody : ∀ (cdv : Value) (A : Around) (outer : List Env) (s : Shared) (H : Hp) (vs : List V) (Q : VK) (E : XK), cdv = fd.code → Room k (A.deeper (envOfC qual scope s.heap.objs.size f cdv)) → (A.deeper (envOfC qual scope s.heap.objs.size f cdv)).guards = some [] → sp vs H Q E →
      ∃ t, PSs (cxOf CX P w K mg base N qual scope f cdv A outer s H E).nox body t ∧ t { nx := fun _ H' => Q .non H', rt := Q } (start N vs) H) : FnG P w K mg base CX (k + 1) f fd ps sp := by
  obtain ⟨oc, od, dV, kV, doc, pm, an, cdv, ct, osl, rfl, lk, hcd, _, _⟩ := F.ex
  refine ⟨len, fun A outer s H args us vs Q E hr hg e0 hb r hsp => ?_⟩
  refine LamX.run_ofS (N := N) (ps := ps) lk hcd S hr e0 hb r (len _ _ _ _ hsp) fun hr' => ?_
  obtain ⟨t, ht, q⟩ := hbody cdv A outer s H vs Q E rfl hr' hg hsp
  exact ⟨t, PSs.nox ht, q⟩
theorem codeOf_fn {K : PySem.W.Frag} {x qual : Str} {params : Arguments} {body : List Stmt} {scope : Scope} {dvs : List V} {kws : List (Str × V)} {fd : FuncData} {p : Str × Option Str} (F : FunD K x qual params body scope dvs kws (He.fAd K p) fd) : fd.code = .ref (He.codeOf K p) := by
  obtain ⟨oc, od, dV, kV, doc, pm, an, cdv, ct, osl, rfl, lk, hcd, _, _⟩ := F.ex
  obtain ⟨c, rfl⟩ := He.codeIn_ref hcd
  exact (congrArg Value.ref (He.codeOf_eq lk rfl)).symm
section
variable {K : PySem.W.Frag} {H H' : Hp}
theorem sqL_extN {a : Addr} {xs : List V} (h : SqL K H a xs) (s : LamX.ExtN H H') : SqL K H' a xs := by
  rcases h with (h | ⟨o, h⟩) | h
  · exact .inl (.inl (s _ _ h (fun _ z => by cases z)))
  · exact .inl (.inr ⟨o, s _ _ h (fun _ z => by cases z)⟩)
  · exact .inr h
theorem sqT_extN {a : Addr} {xs : List V} (h : SqT K H a xs) (s : LamX.ExtN H H') : SqT K H' a xs := by
  rcases h with (h | ⟨o, h⟩) | h
  · exact .inl (.inl (s _ _ h (fun _ z => by cases z)))
  · exact .inl (.inr ⟨o, s _ _ h (fun _ z => by cases z)⟩)
  · exact .inr h
mutual
theorem dp_extN (s : LamX.ExtN H H') : ∀ {v : V} {d : PyData}, Dp K H v d → Dp K H' v d
  | _, _, .non => .non
  | _, _, .bl b => .bl b
  | _, _, .int i => .int i
  | _, _, .str x => .str x
  | _, _, .lst h a => .lst (sqL_extN h s) (dpAll_extN s a)
  | _, _, .tup h a => .tup (sqT_extN h s) (dpAll_extN s a)
theorem dpAll_extN (s : LamX.ExtN H H') : ∀ {vs : List V} {ds : List PyData}, DpAll K H vs ds → DpAll K H' vs ds
  | _, _, .nil => .nil
  | _, _, .cons a r => .cons (dp_extN s a) (dpAll_extN s r)
end
theorem Shw.extN {v : V} {t : Str} (h : Shw K H v t) (s : LamX.ExtN H H') : Shw K H' v t := by
  cases h with
  | non => exact .non
  | bl b => exact .bl b
  | int i h => exact .int i h
  | str x h => exact .str x h
  | dp a b c d e => exact .dp (dp_extN s a) b c d e
theorem Kd.extN {v : V} (k : Kd H v) (s : LamX.ExtN H H') : Kd H' v := by
  cases k with
  | non => exact .non
  | bl b => exact .bl b
  | int i => exact .int i
  | str x => exact .str x
  | lst h => exact .lst (s _ _ h (fun _ z => by cases z))
  | tup h => exact .tup (s _ _ h (fun _ z => by cases z))
  | dK h => exact .dK (s _ _ h (fun _ z => by cases z))
theorem PenAt.extN {p : Addr} {b : Nat} (h : PenAt H p b) (s : LamX.ExtN H H') : PenAt H' p b := by
  obtain ⟨c, ns, i, z, h1, h2, r⟩ := h
  exact ⟨c, ns, i, z, s _ _ h1 (fun _ z => by cases z), s _ _ h2 (fun _ z => by cases z), r⟩
end
end Gh
end
section
set_option Elab.async false
set_option linter.all false
set_option maxRecDepth 100000
set_option maxHeartbeats 4000000
namespace Gh
open PySem PySem.Spec PyProof.Rows L2
section
variable {H H' : Hp} {p a l : Addr} {o u : HO}
theorem nw_upd (n : H p = none) : Nw H (upd H p o) p o := ⟨n, same_new n, upd_same⟩
theorem mu_upd : Mu H (upd H p o) p o := ⟨Keep.refl.put, upd_same⟩
theorem same_up (n : L2.Same H H') (h : H a = some u) : H' a = some u := n _ _ h
theorem keep_up (n : Keep H H' p) (e : a ≠ p) (h : H a = some u) : H' a = some u := n _ _ h e
end
section
variable {H H' : Hp} {p c a l : Addr} {o u : HO} {b k : Nat} {xs : List V} {C dx : Addr} {fs : List (Str × V)}
theorem Pen.le (h : Pen H p c b) (q : k ≤ b) : Pen H p c k := by
  obtain ⟨ns, i, z, h1, h2, h3, h4, h5, h6⟩ := h
  exact ⟨ns, i, z, h1, h2, h3, h4, by omega, h6⟩
theorem Pen.nw (n : Nw H H' l o) (h : Pen H p c b) : Pen H' p c b := h.same n.same
theorem Pen.mu (n : Mu H H' l o) (e1 : l ≠ p) (e2 : l ≠ c) (h : Pen H p c b) : Pen H' p c b := by
  obtain ⟨ns, i, z, h1, h2, h3⟩ := h
  exact ⟨ns, i, z, n.up e1.symm h1, n.up e2.symm h2, h3⟩
theorem nw_pen (n : Nw H H' l o) (h : Pen H p c b) : l ≠ p := by
  obtain ⟨ns, i, z, h1, h2, h3⟩ := h
  exact n.ne h1
theorem nw_cell (n : Nw H H' l o) (h : Pen H p c b) : l ≠ c := by
  obtain ⟨ns, i, z, h1, h2, h3⟩ := h
  exact n.ne h2
theorem tup_pen (n : H a = some (.tup xs)) (h : Pen H p c b) : a ≠ p := by
  obtain ⟨ns, i, z, h1, h2, h3⟩ := h
  exact ne_of n h1 (by intro e; cases e)
theorem tup_cell (n : H a = some (.tup xs)) (h : Pen H p c b) : a ≠ c := by
  obtain ⟨ns, i, z, h1, h2, h3⟩ := h
  exact ne_of n h2 (by intro e; cases e)
theorem ins_pen (n : H a = some (.ins C dx fs)) (h : Pen H p c b) : a ≠ p := by
  obtain ⟨ns, i, z, h1, h2, h3⟩ := h
  exact ne_of n h1 (by intro e; cases e)
theorem ins_cell (n : H a = some (.ins C dx fs)) (h : Pen H p c b) : a ≠ c := by
  obtain ⟨ns, i, z, h1, h2, h3⟩ := h
  exact ne_of n h2 (by intro e; cases e)
end
section
variable {H H' : Hp} {a t l : Addr} {o u : HO} {xs ys : List V} {C dx : Addr} {fs : List (Str × V)}
theorem ins_lst (h : H a = some (.ins C dx fs)) (k : H t = some (.lst xs)) : a ≠ t := ne_of h k (by intro e; cases e)
theorem ins_tup (h : H a = some (.ins C dx fs)) (k : H t = some (.tup xs)) : a ≠ t := ne_of h k (by intro e; cases e)
theorem tup_lst (h : H a = some (.tup ys)) (k : H t = some (.lst xs)) : a ≠ t := ne_of h k (by intro e; cases e)
theorem nw_ne (n : Nw H H' l o) (h : H a = some u) : l ≠ a := n.ne h
end
def spDr : Sp := fun vs H Q _ => ∃ (p c : Addr) (b : Nat) (m : Int), vs = [.ref p, .int m] ∧ 0 < m ∧ m.natAbs.log2 < 9000 ∧ Pen H p c (b + 1) ∧
  ∀ (d : Int) (H' : Hp), 0 ≤ d → d < m → Pen H' p c b → Keep H H' p → Q (.int d) H'
def spPn (K : PySem.W.Frag) : Sp := fun vs H Q _ => ∃ (a : Addr) (ns : List Int), vs = [.ref a] ∧ SqL K H a (ns.map V.int) ∧ ns.length ≤ 63 ∧ ∀ (p c : Addr) (H' : Hp), H p = none → Pen H' p c 1000000 → L2.Same H H' → Q (.ref p) H'
section
variable {H : Hp} {E : XK} {Q : VK} {p c l : Addr} {b : Nat} {m : Int} {xs : List V}
theorem log_of (h0 : 0 < m) (h : m < 10 ^ 100) : m.natAbs.log2 < 9000 := by
  have h2 : m.natAbs < 2 ^ 9000 := Nat.lt_of_lt_of_le (show m.natAbs < 10 ^ 100 by omega) (by decide)
  exact (Nat.log2_lt (by omega)).mpr h2
end
@[irreducible] def rLn (K : PySem.W.Frag) : List V → Hp → VK → Prop := fun xs H Q => ∃ x n, xs = [x] ∧ LenV K x H n ∧ Q (.int n) H
@[irreducible] def rListOf (K : PySem.W.Frag) : List V → Hp → VK → Prop := fun xs H Q => ∃ p ys, xs = [.ref p] ∧ (SqL K H p ys ∨ SqT K H p ys) ∧ ∀ l, H l = none → Q (.ref l) (upd H l (.lst ys))
@[irreducible] def rTupOf (K : PySem.W.Frag) : List V → Hp → VK → Prop := fun xs H Q => ∃ p ys, xs = [.ref p] ∧ ((SqL K H p ys ∧ ∀ l, H l = none → Q (.ref l) (upd H l (.tup ys))) ∨ (SqT K H p ys ∧ Q (.ref p) H))
@[irreducible] def rInt : List V → Hp → VK → Prop := rInt1
@[irreducible] def rAbs : List V → Hp → VK → Prop := fun xs H Q => ∃ i, xs = [.int i] ∧ Q (.int (if i < 0 then -i else i)) H
@[irreducible] def rStrI : List V → Hp → VK → Prop := fun xs H Q => ∃ i, xs = [.int i] ∧ i.natAbs.log2 < 1920 ∧ Q (.str (toString i)) H
@[irreducible] def rIsN : R2 := fun x y H Q => y = .non ∧ Q (.bl (decide (x = .non))) H
@[irreducible] def rNotN : R2 := fun x y H Q => y = .non ∧ Q (.bl (!decide (x = .non))) H
section
variable {X : Cx} {K : PySem.W.Frag}
theorem cr_len (h : X.K = K) : CallR X (.builtin "len") (rLn K) := by unfold rLn; exact h ▸ call_len
theorem cr_listOf (h : X.K = K) : CallR X (.type "list") (rListOf K) := by unfold rListOf; exact h ▸ call_list_of
theorem cr_tupOf (h : X.K = K) : CallR X (.type "tuple") (rTupOf K) := by unfold rTupOf; exact h ▸ call_tuple_of
theorem cr_int : CallR X (.type "int") rInt := by unfold rInt; exact call_int1
theorem cr_abs : CallR X (.builtin "abs") rAbs := by unfold rAbs; exact call_abs
theorem cr_strI : CallR X (.type "str") rStrI := by unfold rStrI; exact call_str_int
theorem or_isN : OpR X (compareOp .Is) rIsN := by unfold rIsN; exact op_isN
theorem or_notN : OpR X (compareOp .IsNot) rNotN := by unfold rNotN; exact op_notN
theorem sl_listK (h : X.K = K) : SlR X (rSlL K) := h ▸ sl_list
theorem op_neDK (h : X.K = K) (hu : X.A.units + 64 < cLine) : OpR X (compareOp .NotEq) (rNeD K) := h ▸ op_neD hu
theorem call_isiTK {X : Cx} {K : PySem.W.Frag} (h : X.K = K) : CallR X (.builtin "isinstance") (rIsiT K) := h ▸ call_isiT
@[irreducible] def rFld (C : Addr) (f : Str) : V → Hp → VK → Prop := fun x H Q => ∃ a dx fs v, x = .ref a ∧ H a = some (.ins C dx fs) ∧ fs.lookup f = some v ∧ Q v H
theorem pe_f {C : Addr} {e : Expr} {f : Str} {pos : Pos} {ta : TE} (he : PE X e ta) (c : Cls X.K C) (n : NoAttr X.K C f) (hb : attributeBase e f X.env (eval e X.env) = eval e X.env := by rfl) : PE X (.Attribute e f pos) (tUn (rFld C f) ta) := by
  refine ⟨fun pins s σ H Q I h => ?_⟩
  refine attr_of hb (thn (he.run pins s σ H _ I h) fun u s1 ⟨x, H1, I1, rx, q0⟩ => ?_)
  unfold rFld at q0
  obtain ⟨a, dx, fs, v, ex, ea, l, q⟩ := q0
  subst ex
  obtain rfl : u = Value.ref a := rx
  exact getattr_ok I1 ea c n l fun u' s2 I2 ru => ⟨v, H1, I2, ru, q⟩
@[irreducible] def sF (C : Addr) (ta tv : TE) (f : Str) : TS := fun D σ H => tv σ H fun y H1 => ta σ H1 fun x H2 => ∃ a dx fs, x = .ref a ∧ H2 a = some (.ins C dx fs) ∧ fs.length < 1000 ∧ D.nx σ (upd H2 a (.ins C dx (putF f y fs)))
theorem ps_f {C : Addr} {o value : Expr} {f : Str} {pos pos' : Pos} {ta tv : TE} (ha : PE X o ta) (hv : PE X value tv) (c : Cls X.K C) (n : NoAttr X.K C f) (hs : swapsWith value (some (.Attribute o f pos')) pos.line X.env = pure false := by rfl) : PS X (.Assign [.Attribute o f pos'] value pos) (sF C ta tv f) := by
  refine ⟨fun pins s σ H D I h => ?_⟩
  unfold sF at h
  refine plainObj_wpAny_Assign_Attribute (thn (hv.run pins s σ H _ I h) fun u s1 ⟨y, H1, I1, ry, q⟩ => thn (ha.run pins s1 σ H1 _ I1 q) fun ov s2 ⟨x, H2, I2, rx, a, dx, fs, ex, ea, l, q2⟩ => ?_) hs
  subst ex
  obtain rfl : ov = Value.ref a := rx
  exact setattr_ok I2 ea c n l ry fun s3 I3 => ⟨σ, _, I3, q2⟩
@[irreducible] def rConst (C : Addr) (f : Str) (v : V) : V → Hp → VK → Prop := fun x H Q => ∃ a dx fs, x = .ref a ∧ H a = some (.ins C dx fs) ∧ fs.lookup f = none ∧ Q v H
end
theorem len_ok {n : Nat} (h : n ≤ 100000) : n ≤ sizeLine := Nat.le_trans h (by decide)
@[irreducible] def rPowK (r : Int) : R2 := fun x y H Q => ∃ i j, x = .int i ∧ y = .int j ∧ CPow i j ∧ i ^ j.toNat = r ∧ Q (.int r) H
theorem op_powK {X : Cx} (r : Int) : OpR X (binaryOp .Pow) (rPowK r) := by
  intro pins s σ H x y v u Q I rx ry h
  unfold rPowK at h
  obtain ⟨i, j, h1, h2, h3, h4, q⟩ := h
  exact op_pow pins s σ H x y v u Q I rx ry ⟨i, j, h1, h2, h3, by show Q (.int (i ^ j.toNat)) H; rw [h4]; exact q⟩
section
variable {K : PySem.W.Frag} {H : Hp} {σ : L2.St} {Q : VK} {D : Ends} {i j n : Int} {x y v : V} {ta tb tc te tf : TE} {t u : TS} {c d : TT} {k : Bool} {a l p C dx : Addr} {xs ys : List V} {A B : Prop}
theorem st_seq (h : t { D with nx := u D } σ H) : tSeq t u D σ H := h
theorem st_nx (h : D.nx σ H) : tNext D σ H := h
theorem st_asg {g : TG} (h : te σ H fun x H1 => g x σ H1 D.nx) : tAsg te g D σ H := h
theorem st_name {m : Nat} {Q : L2.St → Hp → Prop} (h : Q (σ.set m (some v)) H) : gName m v σ H Q := h
theorem st_drop (h : te σ H fun _ H1 => D.nx σ H1) : tDrop te D σ H := h
theorem st_ret (h : te σ H D.rt) : tRet te D σ H := h
theorem st_retN (h : D.rt .non H) : tRetN D σ H := h
theorem st_ifS (h : c σ H fun b H1 => if b = true then t D σ H1 else u D σ H1) : tIfS c t u D σ H := h
theorem st_brk (h : D.bk σ H) : tBreak D σ H := h
theorem st_cnt (h : D.ct σ H) : tCont D σ H := h
theorem st_par {m m' : Nat} {t : TA} (h : t σ H fun vs H1 => ∃ v w, vs = [v, w] ∧ D.nx ((σ.set m (some v)).set m' (some w)) H1) : tPar m m' t D σ H := h
theorem st_par2 {P : V → V → Prop} (h : P x y) : ∃ v w, [x, y] = [v, w] ∧ P v w := ⟨x, y, rfl, h⟩
theorem st_aug {m : Nat} {ti : TIp} (e : σ[m]? = some (some x)) (h : te σ H fun y H1 => ti x y H1 fun z H2 => D.nx (σ.set m (some z)) H2) : tAug m te ti D σ H := ⟨x, e, h⟩
theorem st_var {m : Nat} (e : σ[m]? = some (some v)) (h : Q v H) : tVar m σ H Q := ⟨v, e, h⟩
theorem st_c (h : Q v H) : tC v σ H Q := h
theorem st_op {r : R2} (h : ta σ H fun x H1 => tb σ H1 fun y H2 => r x y H2 Q) : tOp r ta tb σ H Q := h
theorem st_un {r : V → Hp → VK → Prop} (h : ta σ H fun x H1 => r x H1 Q) : tUn r ta σ H Q := h
theorem st_rI0 {g : Int → Int → V} (h : Q (g i j) H) : rI0 g (.int i) (.int j) H Q := ⟨i, j, rfl, rfl, h⟩
theorem st_rI {g : Int → Int → V} {R : Int → Int → Prop} (hc : R i j) (h : Q (g i j) H) : rI R g (.int i) (.int j) H Q := ⟨i, j, rfl, rfl, hc, h⟩
theorem st_rU {g : Int → V} (h : Q (g i) H) : rU g (.int i) H Q := ⟨i, rfl, h⟩
theorem st_rAdd (h : Q (.int (i + j)) H) : rAdd (.int i) (.int j) H Q := ⟨i, j, rfl, rfl, h⟩
theorem st_rSub (h : Q (.int (i - j)) H) : rSub (.int i) (.int j) H Q := ⟨i, j, rfl, rfl, h⟩
theorem st_eq (e : scal x y = true) (h : Q (.bl (decide (x = y))) H) : rEq x y H Q := ⟨e, h⟩
theorem st_ne (e : scal x y = true) (h : Q (.bl (!decide (x = y))) H) : rNe x y H Q := ⟨e, h⟩
theorem st_isN (h : Q (.bl (decide (x = .non))) H) : rIsN x .non H Q := by unfold rIsN; exact ⟨rfl, h⟩
theorem st_notN (h : Q (.bl (!decide (x = .non))) H) : rNotN x .non H Q := by unfold rNotN; exact ⟨rfl, h⟩
theorem st_test {Q : Bool → Hp → Prop} (h : te σ H fun x H' => ∃ k, x = .bl k ∧ Q k H') : tTest te σ H Q := h
theorem st_tB {Q : Bool → Hp → Prop} (h : te σ H fun x H' => ∃ k, x = .bl k ∧ Q k H') : tB te σ H Q := h
theorem st_ebl {P : Bool → Prop} (h : P k) : ∃ k', V.bl k = .bl k' ∧ P k' := ⟨k, rfl, h⟩
theorem st_eint {P : Int → Prop} (h : P i) : ∃ k', V.int i = .int k' ∧ P k' := ⟨i, rfl, h⟩
theorem st_and {Q : Bool → Hp → Prop} (h : c σ H fun k H1 => if k = true then d σ H1 Q else Q false H1) : tAnd c d σ H Q := h
theorem st_or {Q : Bool → Hp → Prop} (h : c σ H fun k H1 => if k = true then Q true H1 else d σ H1 Q) : tOr c d σ H Q := h
theorem st_not {Q : Bool → Hp → Prop} (h : c σ H fun k H1 => Q (!k) H1) : tNot c σ H Q := h
theorem st_andV (h : ta σ H fun x H1 => ∃ c, x = .bl c ∧ if c = true then tb σ H1 Q else Q (.bl false) H1) : tAndV ta tb σ H Q := h
theorem st_orV (h : ta σ H fun x H1 => ∃ c, x = .bl c ∧ if c = true then Q (.bl true) H1 else tb σ H1 Q) : tOrV ta tb σ H Q := h
theorem st_notV (h : ta σ H fun x H1 => ∃ c, x = .bl c ∧ Q (.bl (!c)) H1) : tNotV ta σ H Q := h
theorem st_ifE (h : c σ H fun k H1 => if k = true then ta σ H1 Q else tb σ H1 Q) : tIf c ta tb σ H Q := h
theorem st_chain {r r' : R2} (h : ta σ H fun x H1 => tb σ H1 fun y H2 => r x y H2 fun z H3 => ∃ k, z = .bl k ∧ if k = true then tc σ H3 fun w H4 => r' y w H4 Q else Q (.bl false) H3) : tChain r r' ta tb tc σ H Q := h
theorem st_if1 (e : k = true) (h : A) : if k = true then A else B := by rw [if_pos e]; exact h
theorem st_if0 (e : k = false) (h : B) : if k = true then A else B := by rw [e, if_neg (by decide)]; exact h
theorem st_nil {Q : List V → Hp → Prop} (h : Q [] H) : tNil σ H Q := h
theorem st_cons {t : TA} {Q : List V → Hp → Prop} (h : ta σ H fun x H1 => t σ H1 fun xs H2 => Q (x :: xs) H2) : tCons ta t σ H Q := h
theorem st_cl {r : List V → Hp → VK → Prop} {t : TA} (h : t σ H fun vs H1 => r vs H1 Q) : tCl r t σ H Q := h
theorem st_cb {r : List V → Hp → VK → Prop} {t : TA} (h : t σ H fun vs H1 => r vs H1 Q) : tCB r t σ H Q := h
theorem st_mt {m : Str} {r : List V → Hp → VK → Prop} {t : TA} (h : ta σ H fun x H1 => ∃ a dx fs, x = .ref a ∧ H1 a = some (.ins C dx fs) ∧ fs.lookup m = none ∧ t σ H1 fun vs H2 => r (x :: vs) H2 Q) : tMt C m r ta t σ H Q := h
theorem st_emt {m : Str} {fs : List (Str × V)} {P : Prop} (h : H a = some (.ins C dx fs)) (e : fs.lookup m = none) (q : P) : ∃ a' dx fs, V.ref a = .ref a' ∧ H a' = some (.ins C dx fs) ∧ fs.lookup m = none ∧ P := ⟨a, dx, fs, rfl, h, e, q⟩
theorem st_pr {sp : Sp} {dvs : List V} {E : XK} (h : ta σ H fun x H1 => ∃ a dx fs, x = .ref a ∧ H1 a = some (.ins C dx fs) ∧ sp (.ref a :: dvs) H1 Q E) : tPr C sp dvs E ta σ H Q := h
theorem st_epr {fs : List (Str × V)} {sp : Sp} {dvs : List V} {E : XK} (h : H a = some (.ins C dx fs)) (q : rSp sp dvs E [.ref a] H Q) : ∃ a' dx fs, V.ref a = .ref a' ∧ H a' = some (.ins C dx fs) ∧ sp (.ref a' :: dvs) H Q E := ⟨a, dx, fs, rfl, h, q⟩
theorem st_fld {f : Str} {fs : List (Str × V)} (h : H a = some (.ins C dx fs)) (e : fs.lookup f = some v) (q : Q v H) : rFld C f (.ref a) H Q := by unfold rFld; exact ⟨a, dx, fs, v, rfl, h, e, q⟩
theorem st_const {f : Str} {fs : List (Str × V)} (h : H a = some (.ins C dx fs)) (e : fs.lookup f = none) (q : Q v H) : rConst C f v (.ref a) H Q := by unfold rConst; exact ⟨a, dx, fs, rfl, h, e, q⟩
def rSetF (C : Addr) (f : Str) (y x : V) (H : Hp) (P : Hp → Prop) : Prop := ∃ a dx fs, x = .ref a ∧ H a = some (.ins C dx fs) ∧ fs.length < 1000 ∧ P (upd H a (.ins C dx (putF f y fs)))
theorem st_sF {f : Str} (h : te σ H fun y H1 => ta σ H1 fun x H2 => rSetF C f y x H2 fun H3 => D.nx σ H3) : sF C ta te f D σ H := by unfold sF; exact h
theorem st_setF {f : Str} {fs : List (Str × V)} {P : Hp → Prop} (h : H a = some (.ins C dx fs)) (e : fs.length < 1000) (q : ∀ H', Mu H H' a (.ins C dx (putF f y fs)) → P H') : rSetF C f y (.ref a) H P := ⟨a, dx, fs, rfl, h, e, q _ mu_upd⟩
theorem st_powK {r : Int} (h1 : CPow i j) (h2 : i ^ j.toNat = r) (q : Q (.int r) H) : rPowK r (.int i) (.int j) H Q := by unfold rPowK; exact ⟨i, j, rfl, rfl, h1, h2, q⟩
def rNewL (xs : List V) (H : Hp) (Q : VK) : Prop := xs.length ≤ sizeLine ∧ ∀ p, H p = none → Q (.ref p) (upd H p (.lst xs))
def rNewT (xs : List V) (H : Hp) (Q : VK) : Prop := xs.length ≤ sizeLine ∧ ∀ p, H p = none → Q (.ref p) (upd H p (.tup xs))
theorem st_lst {t : TA} (h : t σ H fun xs H1 => rNewL xs H1 Q) : tLst t σ H Q := h
theorem st_tup {t : TA} (h : t σ H fun xs H1 => rNewT xs H1 Q) : tTup t σ H Q := h
theorem st_newL (e : xs.length ≤ sizeLine) (h : ∀ p H', Nw H H' p (.lst xs) → Q (.ref p) H') : rNewL xs H Q := ⟨e, fun p np => h p _ (nw_upd np)⟩
theorem st_newT (e : xs.length ≤ sizeLine) (h : ∀ p H', Nw H H' p (.tup xs) → Q (.ref p) H') : rNewT xs H Q := ⟨e, fun p np => h p _ (nw_upd np)⟩
theorem new_of {o : HO} (h : ∀ p H', Nw H H' p o → Q (.ref p) H') : ∀ p, H p = none → Q (.ref p) (upd H p o) := fun p np => h p _ (nw_upd np)
theorem st_ixL (h : H p = some (.lst xs)) (e : atI xs i = some v) (q : Q v H) : rIxL K (.ref p) (.int i) H Q := ⟨p, xs, i, v, rfl, rfl, SqL.of h, e, q⟩
theorem st_ixLs (h : SqL K H p xs) (e : atI xs i = some v) (q : Q v H) : rIxL K (.ref p) (.int i) H Q := ⟨p, xs, i, v, rfl, rfl, h, e, q⟩
theorem st_ixT (h : H p = some (.tup xs)) (e : atI xs i = some v) (q : Q v H) : rIxT K (.ref p) (.int i) H Q := ⟨p, xs, i, v, rfl, rfl, SqT.of h, e, q⟩
theorem st_ixTs (h : SqT K H p xs) (e : atI xs i = some v) (q : Q v H) : rIxT K (.ref p) (.int i) H Q := ⟨p, xs, i, v, rfl, rfl, h, e, q⟩
theorem st_lenL (h : H p = some (.lst xs)) (q : Q (.int xs.length) H) : rLn K [.ref p] H Q := by unfold rLn; exact ⟨_, _, rfl, .inl ⟨xs, SqL.of h, rfl⟩, q⟩
theorem st_lenT (h : H p = some (.tup xs)) (q : Q (.int xs.length) H) : rLn K [.ref p] H Q := by unfold rLn; exact ⟨_, _, rfl, .inr ⟨xs, SqT.of h, rfl⟩, q⟩
theorem st_lenS {z : Str} (e : z.length ≤ sizeLine) (q : Q (.int z.length) H) : rLn K [.str z] H Q := by unfold rLn; exact ⟨_, _, rfl, ⟨e, rfl⟩, q⟩
theorem st_listL (h : H p = some (.lst xs)) (q : ∀ l H', Nw H H' l (.lst xs) → Q (.ref l) H') : rListOf K [.ref p] H Q := by unfold rListOf; exact ⟨p, xs, rfl, .inl (SqL.of h), new_of q⟩
theorem st_listT (h : H p = some (.tup xs)) (q : ∀ l H', Nw H H' l (.lst xs) → Q (.ref l) H') : rListOf K [.ref p] H Q := by unfold rListOf; exact ⟨p, xs, rfl, .inr (SqT.of h), new_of q⟩
theorem st_tupL (h : H p = some (.lst xs)) (q : ∀ l H', Nw H H' l (.tup xs) → Q (.ref l) H') : rTupOf K [.ref p] H Q := by unfold rTupOf; exact ⟨p, xs, rfl, .inl ⟨SqL.of h, new_of q⟩⟩
theorem st_tupT (h : H p = some (.tup xs)) (q : Q (.ref p) H) : rTupOf K [.ref p] H Q := by unfold rTupOf; exact ⟨p, xs, rfl, .inr ⟨SqT.of h, q⟩⟩
theorem st_int (q : Q (.int i) H) : rInt [.int i] H Q := by unfold rInt; exact .inl ⟨i, rfl, q⟩
theorem st_intB (q : Q (.int (if k = true then 1 else 0)) H) : rInt [.bl k] H Q := by unfold rInt; exact .inr ⟨k, rfl, q⟩
theorem st_abs (q : Q (.int (if i < 0 then -i else i)) H) : rAbs [.int i] H Q := by unfold rAbs; exact ⟨i, rfl, q⟩
theorem st_strI (e : i.natAbs.log2 < 1920) (q : Q (.str (toString i)) H) : rStrI [.int i] H Q := by unfold rStrI; exact ⟨i, rfl, e, q⟩
theorem st_sl {r : V → Option Int → Option Int → Hp → VK → Prop} {tl th : TO} (h : te σ H fun x H1 => tl σ H1 fun l H2 => th σ H2 fun u H3 => r x l u H3 Q) : tSl r te tl th σ H Q := h
theorem st_part {Q : Option Int → Hp → Prop} (h : te σ H fun x H1 => ∃ i, x = .int i ∧ Q (some i) H1) : tPart te σ H Q := h
theorem st_nopart {Q : Option Int → Hp → Prop} (h : Q none H) : tNoPart σ H Q := h
theorem st_slL {lo hi : Option Int} (h : H p = some (.lst xs)) (q : ∀ l H', Nw H H' l (.lst (cutV xs lo hi)) → Q (.ref l) H') : rSlL K (.ref p) lo hi H Q := ⟨p, xs, rfl, SqL.of h, new_of q⟩
theorem st_slLs {lo hi : Option Int} (h : SqL K H p xs) (q : ∀ l H', Nw H H' l (.lst (cutV xs lo hi)) → Q (.ref l) H') : rSlL K (.ref p) lo hi H Q := ⟨p, xs, rfl, h, new_of q⟩
theorem st_cat (h : H l = some (.lst xs)) (h' : H p = some (.lst ys)) (e : xs.length + ys.length ≤ sizeLine) (q : ∀ a H', Nw H H' a (.lst (xs ++ ys)) → Q (.ref a) H') : rCat (.ref l) (.ref p) H Q := ⟨l, p, xs, ys, rfl, rfl, h, h', e, new_of q⟩
theorem st_bm {T : String} {r : V → List V → Hp → VK → Prop} {t : TA} (h : te σ H fun x H1 => tyV K T x H1 ∧ t σ H1 fun xs H2 => r x xs H2 Q) : tBM K T r te t σ H Q := h
theorem st_bm0 {T : String} {r : V → List V → Hp → VK → Prop} (h : te σ H fun x H1 => tyV K T x H1 ∧ r x [] H1 Q) : tBM0 K T r te σ H Q := h
theorem st_tyL {P : Prop} (h : H p = some (.lst xs)) (q : P) : tyV K "list" (.ref p) H ∧ P := ⟨.inl ⟨rfl, xs, SqL.of h⟩, q⟩
theorem st_tyS {z : Str} {P : Prop} (q : P) : tyV K "str" (.str z) H ∧ P := ⟨rfl, q⟩
theorem st_gsub {to ti : TE} {ts : TSet} {Q : L2.St → Hp → Prop} (h : to σ H fun o H1 => ti σ H1 fun i H2 => ts o i v H2 fun H3 => Q σ H3) : gSub to ti ts v σ H Q := h
theorem st_setL {m : Nat} {Q : Hp → Prop} (h : H p = some (.lst xs)) (e : ixN xs.length i = some m) (q : ∀ H', Mu H H' p (.lst (xs.set m v)) → Q H') : rSetL (.ref p) (.int i) v H Q := ⟨p, xs, i, m, rfl, rfl, h, e, q _ mu_upd⟩
theorem st_neD {d e : PyData} (h1 : Dp K H x d) (h2 : Dp K H y e) (h3 : SeqAt.shaped d = true) (h4 : SeqAt.shaped e = true) (q : Q (.bl (!PyData.eqv d e)) H) : rNeD K x y H Q := ⟨d, e, h1, h2, h3, h4, q⟩
theorem st_gtup {m : Nat} {g : TGs} {Q : L2.St → Hp → Prop} (h : H a = some (.tup xs)) (e : xs.length = m) (q : g xs σ H Q) : gTup K m g (.ref a) σ H Q := ⟨a, xs, rfl, SqT.of h, e, q⟩
theorem st_gcons {g : TG} {gs : TGs} {Q : L2.St → Hp → Prop} (h : g v σ H fun σ' H' => gs xs σ' H' Q) : gCons g gs (v :: xs) σ H Q := ⟨v, xs, rfl, h⟩
theorem st_gnil {Q : L2.St → Hp → Prop} (h : Q σ H) : gNil [] σ H Q := ⟨rfl, h⟩
theorem st_list {R : It → Hp → Prop} (h : te σ H fun x H1 => ∃ a, x = .ref a ∧ (∃ xs, SqL K H1 a xs) ∧ R (Itl K a) H1) : iList K te σ H R := h
theorem st_elist {P : Addr → Prop} (h : H a = some (.lst xs)) (q : P a) : ∃ a', V.ref a = .ref a' ∧ (∃ xs, SqL K H a' xs) ∧ P a' := ⟨a, rfl, ⟨xs, SqL.of h⟩, q⟩
theorem st_itup {R : It → Hp → Prop} (h : te σ H fun x H1 => ∃ a, x = .ref a ∧ (∃ xs, SqT K H1 a xs) ∧ R (Itt K a) H1) : iTup K te σ H R := h
theorem st_eitup {P : Addr → Prop} (h : H a = some (.tup xs)) (q : P a) : ∃ a', V.ref a = .ref a' ∧ (∃ xs, SqT K H a' xs) ∧ P a' := ⟨a, rfl, ⟨xs, SqT.of h⟩, q⟩
end
end Gh
end
section
set_option Elab.async false
set_option linter.all false
set_option maxRecDepth 100000
set_option maxHeartbeats 4000000
namespace Gh
open PySem PySem.Spec PyProof.Rows L2
section
variable {X : Cx} {a b c d : Expr} {ta tb tc td : TE} {pos : Pos}
def tChain3 (r r' r2 : R2) (ta tb tc td : TE) : TE := fun σ H Q => ta σ H fun x H1 => tb σ H1 fun y H2 => r x y H2 fun z H3 => ∃ k, z = .bl k ∧
  (if k = true then tc σ H3 fun w H4 => r' y w H4 fun z' H5 => ∃ k', z' = .bl k' ∧ (if k' = true then td σ H5 fun v H6 => r2 w v H6 Q else Q (.bl false) H5) else Q (.bl false) H3)
theorem st_chain3 {σ : L2.St} {H : Hp} {Q : VK} {r r' r2 : R2} (h : ta σ H fun x H1 => tb σ H1 fun y H2 => r x y H2 fun z H3 => ∃ k, z = .bl k ∧
  (if k = true then tc σ H3 fun w H4 => r' y w H4 fun z' H5 => ∃ k', z' = .bl k' ∧ (if k' = true then td σ H5 fun v H6 => r2 w v H6 Q else Q (.bl false) H5) else Q (.bl false) H3)) : tChain3 r r' r2 ta tb tc td σ H Q := h
def gSl (to tl th : TE) : TG := fun v σ H Q => to σ H fun x H1 => tl σ H1 fun lo H2 => th σ H2 fun hi H3 => ∃ (l m : Addr) (i j : Int) (xs ys : List V), x = .ref l ∧ v = .ref m ∧ lo = .int i ∧ hi = .int j ∧ H3 l = some (.lst xs) ∧ H3 m = some (.lst ys) ∧ l ≠ m ∧ 0 ≤ i ∧ i ≤ j ∧ j ≤ xs.length ∧ xs.length + ys.length ≤ sizeLine ∧
  Q σ (upd H3 l (.lst (xs.take i.toNat ++ ys ++ xs.drop j.toNat)))
def rSlS (v x lo hi : V) (H : Hp) (P : Hp → Prop) : Prop := ∃ (l m : Addr) (i j : Int) (xs ys : List V), x = .ref l ∧ v = .ref m ∧ lo = .int i ∧ hi = .int j ∧ H l = some (.lst xs) ∧ H m = some (.lst ys) ∧ l ≠ m ∧ 0 ≤ i ∧ i ≤ j ∧ j ≤ xs.length ∧ xs.length + ys.length ≤ sizeLine ∧ P (upd H l (.lst (xs.take i.toNat ++ ys ++ xs.drop j.toNat)))
theorem st_gsl {σ : L2.St} {H : Hp} {v : V} {Q : L2.St → Hp → Prop} {to tl th : TE} (h : to σ H fun x H1 => tl σ H1 fun lo H2 => th σ H2 fun hi H3 => rSlS v x lo hi H3 fun H4 => Q σ H4) : gSl to tl th v σ H Q := h
end
section
variable {K : PySem.W.Frag} {x qual : Str} {params : Arguments} {body : List Stmt} {scope : Scope} {dvs : List V} {kws : List (Str × V)} {f : Addr} {fd : FuncData} {ps : List Str}
end
section
variable {X : Cx} {CX : CXT} {k n : Nat} {f C : Addr} {ks : List Str} {sp : Sp} {E : XK} {x m : Str} {p pos apos : Pos} {e o : Expr} {es : List Expr} {kws : List Keyword} {t tk : TA} {ta : TE} {gV : List V → List V → List V} {r : List V → List V → Hp → VK → Prop}
def rMkK (C : Addr) (n m : Nat) (gV : List V → List V → List V) (sp : Sp) (E : XK) : List V → List V → Hp → VK → Prop := fun vs zs H Q => vs.length = n ∧ zs.length = m ∧ rMk C (fun us H Q E => sp us H Q E) [] E (gV vs zs) H Q
theorem PromK.make (M : Mk X.K C f) (F : PromK X.prog X.w X.K X.mg X.base CX k f (n + 1) ks (fun vs zs => vs ++ gV [] zs) sp) (hr : Room (k + 1) X.A) (hx : Passes CX X E) : CallK X (.ref C) ks (rMkK C n ks.length (fun vs zs => vs ++ gV [] zs) sp E) := by
  intro pins s σ H vs zs us ws Q I rv rz ⟨l1, l2, h⟩
  obtain ⟨fd, ps, g, G, b⟩ := F
  refine run_makeN M G hr b hx I rv rz l1 l2 fun x dx nx ndx ne => ?_
  unfold rMk at h
  have z := h x dx nx ndx ne
  rw [List.append_nil] at z
  exact z
def tClK (r : List V → List V → Hp → VK → Prop) (t tk : TA) : TE := fun σ H Q => t σ H fun vs H1 => tk σ H1 fun zs H2 => r vs zs H2 Q
def tMtK (C : Addr) (m : Str) (r : List V → List V → Hp → VK → Prop) (ta : TE) (t tk : TA) : TE := fun σ H Q => ta σ H fun x H1 => ∃ a dx fs, x = .ref a ∧ H1 a = some (.ins C dx fs) ∧ fs.lookup m = none ∧ t σ H1 fun vs H2 => tk σ H2 fun zs H3 => r (x :: vs) zs H3 Q
end
section
variable {H : Hp} {σ : L2.St} {Q : VK} {ta : TE} {t tk : TA} {r : List V → List V → Hp → VK → Prop} {C : Addr} {m : Str} {n k : Nat} {gV : List V → List V → List V} {sp : Sp} {E : XK} {vs zs : List V}
theorem st_clK (h : t σ H fun vs H1 => tk σ H1 fun zs H2 => r vs zs H2 Q) : tClK r t tk σ H Q := h
theorem st_mtK (h : ta σ H fun x H1 => ∃ a dx fs, x = .ref a ∧ H1 a = some (.ins C dx fs) ∧ fs.lookup m = none ∧ t σ H1 fun vs H2 => tk σ H2 fun zs H3 => r (x :: vs) zs H3 Q) : tMtK C m r ta t tk σ H Q := h
theorem st_spK (h1 : vs.length = n) (h2 : zs.length = k) (h : rSp sp [] E (gV vs zs) H Q) : rSpK n k gV sp E vs zs H Q := ⟨h1, h2, by
  unfold rSp at h
  rw [List.append_nil] at h
  exact h⟩
end
end Gh
end
section
set_option Elab.async false
set_option linter.all false
set_option maxRecDepth 100000
set_option maxHeartbeats 4000000
namespace Gh
open PySem PySem.Spec PyProof.Rows L2
theorem Fn.le {d : PyData} {n b n' b' : Nat} (h : Fn d n b) (h1 : n ≤ n') (h2 : b ≤ b') : Fn d n' b' := ⟨h.cl, h.sh, h.nd, h.ls, Nat.le_trans h.dp h1, Nat.le_trans h.bk h2⟩
theorem FnAll.each {n b : Nat} : ∀ {ds : List PyData}, (∀ d ∈ ds, Fn d n b) → FnAll ds n ((b + 1) * ds.length)
  | [], _ => FnAll.nil
  | d :: r, h => by
    have z := FnAll.cons (h d List.mem_cons_self) (FnAll.each fun e he => h e (List.mem_cons_of_mem _ he))
    have e : b + 1 + (b + 1) * r.length = (b + 1) * (d :: r).length := by
      rw [List.length_cons, Nat.mul_add, Nat.mul_one, Nat.add_comm]
    rw [e] at z
    exact z
theorem FnAll.ints {ns : List Int} (h : ∀ n ∈ ns, -(10 ^ 100) < n ∧ n < 10 ^ 100) : FnAll (ns.map PyData.int) 0 ns.length := by
  have z := FnAll.each (n := 0) (b := 0) (ds := ns.map PyData.int) fun d hd => by
    obtain ⟨n, hn, rfl⟩ := List.mem_map.mp hd
    exact Fn.int (h n hn).1 (h n hn).2
  rw [List.length_map, Nat.zero_add, Nat.one_mul] at z
  exact z
section
variable {K : PySem.W.Frag} {H : Hp} {a : Addr} {ns : List Int}
end
section
variable {H H' : Hp} {a l p c : Addr} {u : HO} {b : Nat}
theorem none_ne (n : H l = none) (h : H a = some u) : l ≠ a := fun e => by
  rw [← e, n] at h
  cases h
theorem none_pen (n : H l = none) (h : Pen H p c b) : l ≠ p := by
  obtain ⟨ns, i, z, h1, h2, h3⟩ := h
  exact none_ne n h1
theorem none_cell (n : H l = none) (h : Pen H p c b) : l ≠ c := by
  obtain ⟨ns, i, z, h1, h2, h3⟩ := h
  exact none_ne n h2
def Keep2 (H H' : Hp) (p t : Addr) : Prop := ∀ a o, H a = some o → a ≠ p → a ≠ t → H' a = some o
theorem keep2_up {t : Addr} (n : Keep2 H H' p t) (e : a ≠ p) (e' : a ≠ t) (h : H a = some u) : H' a = some u := n _ _ h e e'
theorem st_setO {C dx : Addr} {fs : List (Str × V)} {r : List V → Hp → VK → Prop} {i v : V} {Q : Hp → Prop} (h : H a = some (.ins C dx fs)) (q : r [.ref a, i, v] H fun _ H' => Q H') : rSetO C r (.ref a) i v H Q := by
  unfold rSetO
  exact ⟨a, dx, fs, rfl, h, q⟩
theorem st_ixO {C dx : Addr} {fs : List (Str × V)} {sp : Sp} {E : XK} {y : V} {Q : VK} (h : H a = some (.ins C dx fs)) (q : rSp sp [] E [.ref a, y] H Q) : rIxO C sp E (.ref a) y H Q := by
  unfold rIxO
  exact ⟨a, dx, fs, rfl, h, q⟩
end
section
variable {K : PySem.W.Frag} {H : Hp} {σ : L2.St} {Q : VK} {m : Nat} {tt : TT} {te tl : TE} {vs : List Nat} {t : TA} {a : Addr} {xs : List V}
def rLc (J : It) (m : Nat) (tt : TT) (te : TE) (vs : List Nat) (σ : L2.St) (H : Hp) (Q : VK) : Prop := ∀ D, H D = none → ∃ W : Nat → Nat → Hp → Prop, (∃ k, W 0 k (upd H D (.lst []))) ∧ ∀ i k H, W i k H →
  (J.stop i H ∧ Q (.ref D) H) ∨ (J.go i H ∧ ∃ Nx : Hp → Prop, (∀ H', Nx H' → ∃ k', k' < k ∧ W (i + 1) k' H') ∧ ∀ x H', J.yld i H x H' → gName m x (wipe σ vs) H' fun σ2 H2 => wipe σ2 vs = wipe σ vs ∧ tt σ2 H2 fun b H3 =>
    if b = true then te σ2 H3 fun y H4 => ∃ acc, H4 D = some (.lst acc) ∧ acc.length < sizeLine ∧ Nx (upd H4 D (.lst (acc ++ [y]))) else Nx H3)
theorem st_lcR1 (h : t σ H fun us H1 => ∃ j : Int, us = [.int j] ∧ -(2 ^ 62) ≤ j ∧ j < 2 ^ 62 ∧ rLc (Itr 0 j.toNat) m tt te vs σ H1 Q) : tLc (iRng1 t) (gName m) tt te vs σ H Q := h
theorem st_lcR2 (h : t σ H fun us H1 => ∃ i j : Int, us = [.int i, .int j] ∧ (-(2 ^ 62) ≤ i ∧ i < 2 ^ 62 ∧ -(2 ^ 62) ≤ j ∧ j < 2 ^ 62) ∧ rLc (Itr i (j - i).toNat) m tt te vs σ H1 Q) : tLc (iRng2 t) (gName m) tt te vs σ H Q := h
theorem st_lcL (h : tl σ H fun x H1 => ∃ a, x = .ref a ∧ (∃ xs, SqL K H1 a xs) ∧ rLc (Itl K a) m tt te vs σ H1 Q) : tLc (iList K tl) (gName m) tt te vs σ H Q := h
theorem st_lcT (h : tl σ H fun x H1 => ∃ a, x = .ref a ∧ (∃ xs, SqT K H1 a xs) ∧ rLc (Itt K a) m tt te vs σ H1 Q) : tLc (iTup K tl) (gName m) tt te vs σ H Q := h
theorem st_eR1 {j : Int} {P : Int → Prop} (h0 : -(2 ^ 62) ≤ j) (h1 : j < 2 ^ 62) (h : P j) : ∃ j', [V.int j] = [.int j'] ∧ -(2 ^ 62) ≤ j' ∧ j' < 2 ^ 62 ∧ P j' := ⟨j, rfl, h0, h1, h⟩
theorem st_eR2 {i j : Int} {P : Int → Int → Prop} (h0 : -(2 ^ 62) ≤ i ∧ i < 2 ^ 62 ∧ -(2 ^ 62) ≤ j ∧ j < 2 ^ 62) (h : P i j) : ∃ i' j', [V.int i, V.int j] = [.int i', .int j'] ∧ (-(2 ^ 62) ≤ i' ∧ i' < 2 ^ 62 ∧ -(2 ^ 62) ≤ j' ∧ j' < 2 ^ 62) ∧ P i' j' := ⟨i, j, rfl, h0, h⟩
theorem st_yes {Q : Bool → Hp → Prop} (h : Q true H) : tYes σ H Q := h
end
section
variable {H H' : Hp} {a l p c : Addr} {u : HO} {b : Nat}
theorem nw_pen' {H0 : Hp} {b0 : Nat} {o : HO} (_ : Pen H0 p c b0) (n : Nw H H' l o) (h : Pen H p c b) : l ≠ p := nw_pen n h
theorem nw_cell' {H0 : Hp} {b0 : Nat} {o : HO} (_ : Pen H0 p c b0) (n : Nw H H' l o) (h : Pen H p c b) : l ≠ c := nw_cell n h
theorem none_pen' {H0 : Hp} {b0 : Nat} (_ : Pen H0 p c b0) (n : H l = none) (h : Pen H p c b) : l ≠ p := none_pen n h
theorem none_cell' {H0 : Hp} {b0 : Nat} (_ : Pen H0 p c b0) (n : H l = none) (h : Pen H p c b) : l ≠ c := none_cell n h
theorem tup_pen' {H0 : Hp} {b0 : Nat} {xs : List V} (_ : Pen H0 p c b0) (n : H l = some (.tup xs)) (h : Pen H p c b) : l ≠ p := tup_pen n h
theorem tup_cell' {H0 : Hp} {b0 : Nat} {xs : List V} (_ : Pen H0 p c b0) (n : H l = some (.tup xs)) (h : Pen H p c b) : l ≠ c := tup_cell n h
theorem ins_pen' {H0 : Hp} {b0 : Nat} {C dx : Addr} {fs : List (Str × V)} (_ : Pen H0 p c b0) (n : H l = some (.ins C dx fs)) (h : Pen H p c b) : l ≠ p := ins_pen n h
theorem ins_cell' {H0 : Hp} {b0 : Nat} {C dx : Addr} {fs : List (Str × V)} (_ : Pen H0 p c b0) (n : H l = some (.ins C dx fs)) (h : Pen H p c b) : l ≠ c := ins_cell n h
end
section
variable {K : PySem.W.Frag} {H : Hp} {σ : L2.St} {D : Ends} {m : Nat} {g : TG} {tb : TS} {tl : TE} {t : TA} {a : Addr} {xs : List V}
def rFor (J : It) (g : TG) (tb : TS) (D : Ends) (σ : L2.St) (H : Hp) : Prop := ∃ W : Nat → Nat → L2.St → Hp → Prop, (∃ m, W 0 m σ H) ∧ ∀ i m σ H, W i m σ H →
  (J.stop i H ∧ D.nx σ H) ∨ (J.go i H ∧ ∃ N : L2.St → Hp → Prop, (∀ σ' H', N σ' H' → ∃ m', m' < m ∧ W (i + 1) m' σ' H') ∧ ∀ x H', J.yld i H x H' → g x σ H' fun σ2 H2 => tb { D with nx := N, ct := N, bk := D.nx } σ2 H2)
theorem st_forR1 (h : t σ H fun us H1 => ∃ j : Int, us = [.int j] ∧ -(2 ^ 62) ≤ j ∧ j < 2 ^ 62 ∧ rFor (Itr 0 j.toNat) g tb D σ H1) : tFor (iRng1 t) g tb D σ H := h
theorem st_forR2 (h : t σ H fun us H1 => ∃ i j : Int, us = [.int i, .int j] ∧ (-(2 ^ 62) ≤ i ∧ i < 2 ^ 62 ∧ -(2 ^ 62) ≤ j ∧ j < 2 ^ 62) ∧ rFor (Itr i (j - i).toNat) g tb D σ H1) : tFor (iRng2 t) g tb D σ H := h
theorem st_forL (h : tl σ H fun x H1 => ∃ a, x = .ref a ∧ (∃ xs, SqL K H1 a xs) ∧ rFor (Itl K a) g tb D σ H1) : tFor (iList K tl) g tb D σ H := h
theorem st_forT (h : tl σ H fun x H1 => ∃ a, x = .ref a ∧ (∃ xs, SqT K H1 a xs) ∧ rFor (Itt K a) g tb D σ H1) : tFor (iTup K tl) g tb D σ H := h
theorem st_forE (h : t σ H fun us H1 => ∃ a xs, us = [.ref a] ∧ SqL K H1 a xs ∧ rFor (Ite K a) g tb D σ H1) : tFor (iEnum K t) g tb D σ H := h
theorem st_eE {P : Addr → Prop} (h : H a = some (.lst xs)) (q : P a) : ∃ a' xs, [V.ref a] = [.ref a'] ∧ SqL K H a' xs ∧ P a' := ⟨a, xs, rfl, SqL.of h, q⟩
end
section
end
end Gh
end
section
set_option Elab.async false
set_option linter.all false
set_option maxRecDepth 100000
set_option maxHeartbeats 4000000
namespace Gh
open PySem PySem.Spec PyProof.Rows L2
section
variable {H H' : Hp} {a l p c t : Addr} {o u : HO} {b : Nat} {xs : List V} {T : List (Addr × Str)} {C dx : Addr} {fs : List (Str × V)}
theorem Pen.extN (n : LamX.ExtN H H') (h : Pen H p c b) : Pen H' p c b := by
  obtain ⟨ns, i, z, h1, h2, h3⟩ := h
  exact ⟨ns, i, z, n _ _ h1 (fun _ z => by cases z), n _ _ h2 (fun _ z => by cases z), h3⟩
theorem tabs_of (h : LamX.Tabs T H) (k1 : ∀ a ps, H a = some (.tbl ps) → H' a = some (.tbl ps)) (k2 : ∀ a c q, H a = some (LamX.CodeO c q) → H' a = some (LamX.CodeO c q)) : LamX.Tabs T H' := fun q hq => by
  obtain ⟨ps, h1, h2, h3⟩ := h q hq
  refine ⟨ps, k1 _ _ h1, h2, fun pos cv hc => ?_⟩
  obtain ⟨c', e1, e2⟩ := h3 pos cv hc
  exact ⟨c', e1, k2 _ _ _ e2⟩
theorem tabs_keepL (n : Keep H H' l) (e : H l = some (.lst xs)) (h : LamX.Tabs T H) : LamX.Tabs T H' :=
  tabs_of h (fun a ps q => n _ _ q (ne_of q e (by intro z; cases z))) (fun a c q z => n _ _ z (ne_of z e (by intro y; unfold LamX.CodeO at y; cases y)))
theorem tabs_keepP (n : Keep H H' p) (pn : Pen H p c b) (h : LamX.Tabs T H) : LamX.Tabs T H' := by
  obtain ⟨ns, i, z, h1, h2, h3⟩ := pn
  exact tabs_keepL n h1 h
theorem tabs_muI (n : Mu H H' l o) (e : H l = some (.ins C dx fs)) (h : LamX.Tabs T H) : LamX.Tabs T H' :=
  tabs_of h (fun a ps q => n.up (ne_of q e (by intro z; cases z)) q) (fun a c q z => n.up (ne_of z e (by intro y; unfold LamX.CodeO at y; cases y)) z)
theorem keep_fr (n : Keep H H' p) : Fr H H' p := fun a o h e _ => n a o h e
theorem ext_fr (n : LamX.ExtN H H') : Fr H H' p := fun a o h _ z => n a o h z
end
section
variable {X : Cx} {H : Hp} {σ : L2.St} {Q : VK} {T : List (Addr × Str)} {TT : (XK → Hp → VK → Prop) → Hp → VK → Prop} {t : XK → TE}
def tAct (f c' : Addr) (q : Str) (tl : Hp → VK → Prop) : TE := fun σ H Q => σ[0]? = some (some (.ref f)) ∧ H c' = some (LamX.CodeO c' q) ∧ tl H Q
theorem takes_len {W : WX} (t : Takes X W) : Takes X (fun c d σ H => σ.length = X.N.length → W c d σ H) := fun u s' ⟨a, B, sI, pins, σ, H, cls, d, e, I, nb, up, sky, na, os, ag, w⟩ =>
  t u s' ⟨a, B, sI, pins, σ, H, cls, d, e, I, nb, up, sky, na, os, ag, w I.len⟩
def tTry (n : Nat) (body : XK → TS) : WX → TS := fun W D σ H => ∃ E : XK, (∀ cls d σ' H', E cls d H' → σ'.length = n → W cls d σ' H') ∧ body E D σ H
theorem try_act {W : WX} {st : List Stmt} {body : XK → TS} (n : Nat) (hn : X.N.length = n) (tk : Takes X W) (h : ∀ E : XK, (∃ W' : WX, Takes X W' ∧ ∀ cls d σ' H', E cls d H' → W' cls d σ' H') → PSs X st (body E)) : PSs X st (tTry n body W) := by
  refine ⟨fun pins s σ H D I h' => ?_⟩
  obtain ⟨E, hW, h1⟩ := h'
  refine (h E ⟨_, takes_len tk, fun cls d σ' H' e l => hW cls d σ' H' e (l.trans hn)⟩).run pins s σ H D I h1
end
end Gh
end
section
set_option Elab.async false
set_option linter.all false
set_option maxRecDepth 100000
set_option maxHeartbeats 4000000
namespace Gp
open PySem PySem.Spec PyProof.Rows L2 Gh
section
variable {α β γ : Type}
def nox : Tr α → Tr α
  | .ok a => .ok a
  | .ex _ _ => .bad
  | .bad => .bad
  | .draw m f => .draw m fun d => nox (f d)
theorem bd_bd (m : Tr α) (k : α → Tr β) (l : β → Tr γ) : bd (bd m k) l = bd m fun a => bd (k a) l := by
  induction m with
  | draw m f ih =>
    show Tr.draw m _ = Tr.draw m _
    congr 1
    funext d
    exact ih d
  | _ => rfl
theorem al_bd {P : β → Nat → Prop} {E : Str → Fs → Nat → Prop} {m : Tr α} {k : α → Tr β} {b : Nat} : Al P E (bd m k) b ↔ Al (fun a b1 => Al P E (k a) b1) E m b := by
  induction m generalizing b with
  | draw m f ih =>
    constructor
    · rintro ⟨b', e, h1, h2, h3⟩
      exact ⟨b', e, h1, h2, fun d d0 d1 => (ih d).mp (h3 d d0 d1)⟩
    · rintro ⟨b', e, h1, h2, h3⟩
      exact ⟨b', e, h1, h2, fun d d0 d1 => (ih d).mpr (h3 d d0 d1)⟩
  | _ => exact Iff.rfl
theorem al_nox {P : α → Nat → Prop} {E E' : Str → Fs → Nat → Prop} {m : Tr α} {b : Nat} (h : Al P E (nox m) b) : Al P E' m b := by
  induction m generalizing b with
  | ok a => exact h
  | ex c fs => exact h.elim
  | bad => exact h
  | draw m f ih =>
    obtain ⟨b', e, h1, h2, h3⟩ := h
    exact ⟨b', e, h1, h2, fun d d0 d1 => ih d (h3 d d0 d1)⟩
end
section
variable {g : Gw} {U U' : Addr → Prop} {H H' : Hp}
theorem DenL.take : ∀ {vs : List V} {ds : List D} (n : Nat), DenL g U H vs ds → DenL g U H (vs.take n) (ds.take n)
  | _, _, 0, _ => .nil
  | _, _, _ + 1, .nil => .nil
  | _, _, n + 1, .cons a r => .cons a (DenL.take n r)
theorem DenL.drop : ∀ {vs : List V} {ds : List D} (n : Nat), DenL g U H vs ds → DenL g U H (vs.drop n) (ds.drop n)
  | _, _, 0, r => r
  | _, _, _ + 1, .nil => .nil
  | _, _, n + 1, .cons a r => DenL.drop n r
theorem DenL.ints : ∀ ns : List Int, DenL g U H (ns.map V.int) (ns.map D.int)
  | [] => .nil
  | n :: r => .cons (.int n) (DenL.ints r)
theorem DenF.look0 : ∀ {vs : List (Str × V)} {ds : List (Str × D)} {n : Str}, DenF g U H vs ds → ds.lookup n = none → vs.lookup n = none
  | _, _, _, .nil, _ => rfl
  | _, _, n, .cons (n := m) a r, e => by
    simp only [List.lookup] at e ⊢
    cases q : (n == m) with
    | true => rw [q] at e; cases e
    | false => rw [q] at e; exact DenF.look0 r e
def putD (f : Str) (v : D) : List (Str × D) → List (Str × D)
  | [] => [(f, v)]
  | (g, x) :: r => if g = f then (g, v) :: r else (g, x) :: putD f v r
theorem DenF.put {f : Str} {v : V} {d : D} (h : Den g U H v d) : ∀ {vs : List (Str × V)} {ds : List (Str × D)}, DenF g U H vs ds → DenF g U H (putF f v vs) (putD f d ds)
  | _, _, .nil => .cons h .nil
  | _, _, .cons (n := m) a r => by
    unfold putF putD
    split
    · exact .cons h r
    · exact .cons a (DenF.put h r)
end
section
variable {g : Gw} {U U' : Addr → Prop} {H H' H1 H2 : Hp} {b : Nat}
theorem fr_same (s : L2.Same H H') {p : Addr} : Fr H H' p := fun a o h _ _ => s a o h
theorem UOk.new (u : UOk g U H) {a : Addr} (h : H a = none) : ¬ U a := fun z => by
  obtain ⟨o, e, _⟩ := u.al a z
  rw [h] at e
  cases e
end
instance : Coe (List D) Ow := ⟨.l⟩
theorem OwR.nt {g : Gw} {U : Addr → Prop} {H : Hp} {o : HO} {x : Ow} (h : OwR g U H o x) : Nt o := ⟨h.tbl, fun ps e => by
  rcases h.no with ⟨vs, z⟩ | ⟨vs, z⟩ | ⟨vs, z⟩ <;> (rw [e] at z; cases z)⟩
section
variable {g : Gw} {U U' : Addr → Prop} {H H' H1 H2 : Hp} {b : Nat} {σ : L2.St} {ε : Env}
mutual
theorem Den.grow {x : Addr} (n : H x = none) : ∀ {v : V} {d : D}, Den g U H v d → Den g (fun a => U a ∨ a = x) H v d
  | _, _, .non => .non
  | _, _, .bl b => .bl b
  | _, _, .int i => .int i
  | _, _, .str x h => .str x h
  | _, _, .tup h k l r => .tup h (fun z => z.elim k (ne_of_none h n)) l (DenL.grow n r)
  | _, _, .tupW h l r nk => .tupW h l (DenL.grow n r) nk
  | _, _, .lst h k l r => .lst h (fun z => z.elim k (ne_of_none h n)) l (DenL.grow n r)
  | _, _, .obj h k r => .obj h (fun z => z.elim k (ne_of_none h n)) (DenF.grow n r)
  | _, _, .err h k h2 k2 r => .err h (fun z => z.elim k (ne_of_none h n)) h2 (fun z => z.elim k2 (ne_of_none h2 n)) (DenF.grow n r)
  | _, _, .pen => .pen
  | _, _, .cls c => .cls c
  | _, _, .dct h k => .dct h (fun z => z.elim k (ne_of_none h n))
  | _, _, .dic h k l r => .dic h (fun z => z.elim k (ne_of_none h n)) l (DenL.grow n r)
  | _, _, .dit h k l r => .dit h (fun z => z.elim k (ne_of_none h n)) l (DenL.grow n r)
  | _, _, .dik h k l r => .dik h (fun z => z.elim k (ne_of_none h n)) l (DenL.grow n r)
theorem DenL.grow {x : Addr} (n : H x = none) : ∀ {vs : List V} {ds : List D}, DenL g U H vs ds → DenL g (fun a => U a ∨ a = x) H vs ds
  | _, _, .nil => .nil
  | _, _, .cons a r => .cons (Den.grow n a) (DenL.grow n r)
theorem DenF.grow {x : Addr} (n : H x = none) : ∀ {vs : List (Str × V)} {ds : List (Str × D)}, DenF g U H vs ds → DenF g (fun a => U a ∨ a = x) H vs ds
  | _, _, .nil => .nil
  | _, _, .cons a r => .cons (Den.grow n a) (DenF.grow n r)
end
theorem SlR.grow {x : Addr} (n : H x = none) {o : Option V} : ∀ {s : Sl}, SlR g U H o s → SlR g (fun a => U a ∨ a = x) H o s
  | .no, _ => trivial
  | .fz d, ⟨v, e, h⟩ => ⟨v, e, h.grow n⟩
  | .ow ds, ⟨a, vs, e, h, k, ua, n1, n2⟩ => ⟨a, vs, e, h, k.map (fun q => q.grow n), .inl ua, n1, n2⟩
  | .oi c fs, ⟨a, dx, fvs, e, h, k, ua, n1, n2⟩ => ⟨a, dx, fvs, e, h, k.grow n, .inl ua, n1, n2⟩
theorem Rel.grow {x : Addr} (r : Rel g U H σ ε) (n : H x = none) : Rel g (fun a => U a ∨ a = x) H σ ε := ⟨r.len, fun i s e => by
  obtain ⟨o, h1, h2⟩ := r.at_ i s e
  exact ⟨o, h1, h2.grow n⟩, r.apart⟩
def okL (g : Gw) (U : Addr → Prop) (H : Hp) (Q : List V → Hp → Prop) : List D → Nat → Prop := fun d b => ∀ v H', DenL g U H' v d → Wd g H' b → Fr H H' g.p → Q v H'
def okB (g : Gw) (U : Addr → Prop) (H : Hp) (Q : Bool → Hp → Prop) : Bool → Nat → Prop := fun d b => ∀ H', Wd g H' b → Fr H H' g.p → Q d H'
def SE (g : Gw) (E : XK) (ε : Env) (t : TE) (m : Tr D) : Prop := ∀ U σ H b Q, Rel g U H σ ε → Wd g H b → UOk g U H → Al (okP g U H Q) (exP g U E H) m b → t σ H Q
def SA (g : Gw) (E : XK) (ε : Env) (t : TA) (m : Tr (List D)) : Prop := ∀ U σ H b Q, Rel g U H σ ε → Wd g H b → UOk g U H → Al (okL g U H Q) (exP g U E H) m b → t σ H Q
def ST (g : Gw) (E : XK) (ε : Env) (t : TT) (m : Tr Bool) : Prop := ∀ U σ H b Q, Rel g U H σ ε → Wd g H b → UOk g U H → Al (okB g U H Q) (exP g U E H) m b → t σ H Q
def SR1 (g : Gw) (E : XK) (r : V → Hp → VK → Prop) (f : D → Tr D) : Prop := ∀ U H b x dx Q, Den g U H x dx → Wd g H b → UOk g U H → Al (okP g U H Q) (exP g U E H) (f dx) b → r x H Q
def SR2 (g : Gw) (E : XK) (r : R2) (f : D → D → Tr D) : Prop := ∀ U H b x y dx dy Q, Den g U H x dx → Den g U H y dy → Wd g H b → UOk g U H → Al (okP g U H Q) (exP g U E H) (f dx dy) b → r x y H Q
def SRL (g : Gw) (E : XK) (r : List V → Hp → VK → Prop) (f : List D → Tr D) : Prop := ∀ U H b xs dxs Q, DenL g U H xs dxs → Wd g H b → UOk g U H → Al (okP g U H Q) (exP g U E H) (f dxs) b → r xs H Q
theorem al_frX {α : Type} {E : XK} {P : α → Nat → Prop} {m : Tr α} (f : Fr H H1 g.p) (h : Al P (exP g U E H) m b) : Al P (exP g U E H1) m b := h.mono (fun _ _ h => h) (fun _ _ _ h => h.fr f)
variable {E : XK} {ta tb tc : TE} {ma mb : Tr D}
theorem SE.step {α : Type} {k : D → Tr α} {P : α → Nat → Prop} {Q : VK} (ha : SE g E ε ta ma) (R : Rel g U H σ ε) (W : Wd g H b) (u : UOk g U H) (h : Al P (exP g U E H) (bd ma k) b)
    (hk : ∀ v d H1 b1, Den g U H1 v d → Wd g H1 b1 → Fr H H1 g.p → Rel g U H1 σ ε → UOk g U H1 → Al P (exP g U E H1) (k d) b1 → Q v H1) : ta σ H Q :=
  ha U σ H b Q R W u ((al_bd.mp h).mono (fun d b1 h1 v H1 d1 w1 f1 => hk v d H1 b1 d1 w1 f1 (R.fr u f1) (u.fr f1 w1) (al_frX f1 h1)) (fun _ _ _ h => h))
theorem SA.step {α : Type} {t : TA} {m : Tr (List D)} {k : List D → Tr α} {P : α → Nat → Prop} {Q : List V → Hp → Prop} (ha : SA g E ε t m) (R : Rel g U H σ ε) (W : Wd g H b) (u : UOk g U H) (h : Al P (exP g U E H) (bd m k) b)
    (hk : ∀ v d H1 b1, DenL g U H1 v d → Wd g H1 b1 → Fr H H1 g.p → Rel g U H1 σ ε → UOk g U H1 → Al P (exP g U E H1) (k d) b1 → Q v H1) : t σ H Q :=
  ha U σ H b Q R W u ((al_bd.mp h).mono (fun d b1 h1 v H1 d1 w1 f1 => hk v d H1 b1 d1 w1 f1 (R.fr u f1) (u.fr f1 w1) (al_frX f1 h1)) (fun _ _ _ h => h))
theorem ST.step {α : Type} {t : TT} {m : Tr Bool} {k : Bool → Tr α} {P : α → Nat → Prop} {Q : Bool → Hp → Prop} (ha : ST g E ε t m) (R : Rel g U H σ ε) (W : Wd g H b) (u : UOk g U H) (h : Al P (exP g U E H) (bd m k) b)
    (hk : ∀ d H1 b1, Wd g H1 b1 → Fr H H1 g.p → Rel g U H1 σ ε → UOk g U H1 → Al P (exP g U E H1) (k d) b1 → Q d H1) : t σ H Q :=
  ha U σ H b Q R W u ((al_bd.mp h).mono (fun d b1 h1 H1 w1 f1 => hk d H1 b1 w1 f1 (R.fr u f1) (u.fr f1 w1) (al_frX f1 h1)) (fun _ _ _ h => h))
theorem se_var {i : Nat} {d : D} (h : ε[i]? = some (.fz d) := by rfl) : SE g E ε (tVar i) (.ok d) := fun U σ H b Q R W u q => by
  obtain ⟨o, e, v, rfl, dn⟩ := R.at_ i _ h
  exact ⟨v, e, okP.here q W dn⟩
theorem se_c {v : V} {d : D} (h : ∀ U H, Den g U H v d) : SE g E ε (tC v) (.ok d) := fun U σ H b Q R W u q => okP.here q W (h U H)
theorem se_int {i : Int} : SE g E ε (tC (.int i)) (.ok (.int i)) := se_c fun _ _ => .int i
theorem se_bl {i : Bool} : SE g E ε (tC (.bl i)) (.ok (.bl i)) := se_c fun _ _ => .bl i
theorem se_non : SE g E ε (tC .non) (.ok .non) := se_c fun _ _ => .non
theorem se_str {x : Str} (h : x.length ≤ sizeLine) : SE g E ε (tC (.str x)) (.ok (.str x)) := se_c fun _ _ => .str x h
theorem se_op {r : R2} {f : D → D → Tr D} (hr : SR2 g E r f) (ha : SE g E ε ta ma) (hb : SE g E ε tb mb) : SE g E ε (tOp r ta tb) (bd ma fun x => bd mb fun y => f x y) := fun U σ H b Q R W u q =>
  ha.step R W u q fun v d H1 b1 d1 w1 f1 R1 u1 q1 => hb.step R1 w1 u1 q1 fun v2 e H2 b2 d2 w2 f2 R2 u2 q2 => hr U H2 b2 v v2 d e Q (d1.fr u1 f2) d2 w2 u2 (q2.mono (fun _ _ h => h.fr (f1.trans f2)) (fun _ _ _ h => h))
theorem se_un {r : V → Hp → VK → Prop} {f : D → Tr D} (hr : SR1 g E r f) (ha : SE g E ε ta ma) : SE g E ε (tUn r ta) (bd ma f) := fun U σ H b Q R W u q =>
  ha.step R W u q fun v d H1 b1 d1 w1 f1 R1 u1 q1 => hr U H1 b1 v d Q d1 w1 u1 (q1.mono (fun _ _ h => h.fr f1) (fun _ _ _ h => h))
theorem sa_nil : SA g E ε tNil (.ok []) := fun U σ H b Q R W u q => q [] H .nil W Fr.refl
theorem sa_cons {t : TA} {m : Tr (List D)} (ha : SE g E ε ta ma) (hb : SA g E ε t m) : SA g E ε (tCons ta t) (bd ma fun x => bd m fun xs => .ok (x :: xs)) := fun U σ H b Q R W u q =>
  ha.step R W u q fun v d H1 b1 d1 w1 f1 R1 u1 q1 => hb.step R1 w1 u1 q1 fun v2 e H2 b2 d2 w2 f2 R2 u2 q2 => q2 (v :: v2) H2 (.cons (d1.fr u1 f2) d2) w2 (f1.trans f2)
theorem se_cl {r : List V → Hp → VK → Prop} {f : List D → Tr D} {t : TA} {m : Tr (List D)} (hr : SRL g E r f) (ha : SA g E ε t m) : SE g E ε (tCl r t) (bd m f) := fun U σ H b Q R W u q =>
  ha.step R W u q fun v d H1 b1 d1 w1 f1 R1 u1 q1 => hr U H1 b1 v d Q d1 w1 u1 (q1.mono (fun _ _ h => h.fr f1) (fun _ _ _ h => h))
theorem se_cb {r : List V → Hp → VK → Prop} {f : List D → Tr D} {t : TA} {m : Tr (List D)} (hr : SRL g E r f) (ha : SA g E ε t m) : SE g E ε (tCB r t) (bd m f) := se_cl hr ha
def asB : D → Tr Bool
  | .bl b => .ok b
  | _ => .bad
theorem al_asB {P : Bool → Nat → Prop} {X : Str → Fs → Nat → Prop} {d : D} (h : Al P X (asB d) b) : ∃ k, d = .bl k ∧ P k b := by
  cases d with
  | bl k => exact ⟨k, rfl, h⟩
  | _ => exact h.elim
theorem al_asBk {α : Type} {P : α → Nat → Prop} {X : Str → Fs → Nat → Prop} {d : D} {k : Bool → Tr α} (h : Al P X (bd (asB d) k) b) : ∃ c, d = .bl c ∧ Al P X (k c) b := al_asB (al_bd.mp h)
theorem den_bl {v : V} {k : Bool} (h : Den g U H v (.bl k)) : v = .bl k := by cases h; rfl
theorem sb_tst (ha : SE g E ε ta ma) : ST g E ε (tTest ta) (bd ma asB) := fun U σ H b Q R W u q =>
  ha.step R W u q fun v d H1 b1 d1 w1 f1 R1 u1 q1 => by
    obtain ⟨k, rfl, q2⟩ := al_asB q1
    exact ⟨k, den_bl d1, q2 H1 w1 f1⟩
theorem sb_tb (ha : SE g E ε ta ma) : ST g E ε (tB ta) (bd ma asB) := sb_tst ha
theorem sb_or {c d : TT} {m n : Tr Bool} (ha : ST g E ε c m) (hb : ST g E ε d n) : ST g E ε (tOr c d) (bd m fun k => if k = true then .ok true else n) := fun U σ H b Q R W u q =>
  ha.step R W u q fun k H1 b1 w1 f1 R1 u1 q1 => by
    cases k with
    | false => exact hb U σ H1 b1 Q R1 w1 u1 (q1.mono (fun _ _ h H' w f => h H' w (f1.trans f)) (fun _ _ _ h => h))
    | true => exact q1 H1 w1 f1
theorem sb_not {c : TT} {m : Tr Bool} (ha : ST g E ε c m) : ST g E ε (tNot c) (bd m fun k => .ok (!k)) := fun U σ H b Q R W u q =>
  ha.step R W u q fun k H1 b1 w1 f1 R1 u1 q1 => q1 H1 w1 f1
theorem se_if {c : TT} {m : Tr Bool} (hc : ST g E ε c m) (ha : SE g E ε ta ma) (hb : SE g E ε tb mb) : SE g E ε (tIf c ta tb) (bd m fun k => if k = true then ma else mb) := fun U σ H b Q R W u q =>
  hc.step R W u q fun k H1 b1 w1 f1 R1 u1 q1 => by
    have q2 := q1.mono (P' := okP g U H1 Q) (fun _ _ h => okP.fr f1 h) (fun _ _ _ h => h)
    cases k with
    | true => exact ha U σ H1 b1 Q R1 w1 u1 q2
    | false => exact hb U σ H1 b1 Q R1 w1 u1 q2
theorem se_andV (ha : SE g E ε ta ma) (hb : SE g E ε tb mb) : SE g E ε (tAndV ta tb) (bd (bd ma asB) fun k => if k = true then mb else .ok (.bl false)) := fun U σ H b Q R W u q => by
  rw [bd_bd] at q
  refine ha.step R W u q fun v d H1 b1 d1 w1 f1 R1 u1 q1 => ?_
  obtain ⟨k, rfl, q2⟩ := al_asBk q1
  refine ⟨k, den_bl d1, ?_⟩
  replace q2 := q2.mono (P' := okP g U H1 Q) (fun _ _ h => okP.fr f1 h) (fun _ _ _ h => h)
  cases k with
  | true => exact hb U σ H1 b1 Q R1 w1 u1 q2
  | false => exact okP.here q2 w1 (.bl false)
theorem se_notV (ha : SE g E ε ta ma) : SE g E ε (tNotV ta) (bd (bd ma asB) fun k => .ok (.bl (!k))) := fun U σ H b Q R W u q => by
  rw [bd_bd] at q
  refine ha.step R W u q fun v d H1 b1 d1 w1 f1 R1 u1 q1 => ?_
  obtain ⟨k, rfl, q2⟩ := al_asBk q1
  exact ⟨k, den_bl d1, q2 _ H1 (.bl (!k)) w1 f1⟩
theorem se_chain {r r' : R2} {f f' : D → D → Tr D} {mc : Tr D} (hr : SR2 g E r f) (hr' : SR2 g E r' f') (ha : SE g E ε ta ma) (hb : SE g E ε tb mb) (hc : SE g E ε tc mc) :
    SE g E ε (tChain r r' ta tb tc) (bd ma fun x => bd mb fun y => bd (bd (f x y) asB) fun k => if k = true then bd mc fun z => f' y z else .ok (.bl false)) := fun U σ H b Q R W u q =>
  ha.step R W u q fun v d H1 b1 d1 w1 f1 R1 u1 q1 => hb.step R1 w1 u1 q1 fun v2 e H2 b2 d2 w2 f2 R2 u2 q2 => by
    rw [bd_bd] at q2
    refine hr U H2 b2 v v2 d e _ (d1.fr u1 f2) d2 w2 u2 ((al_bd.mp q2).mono (fun z b3 h3 v3 H3 d3 w3 f3 => ?_) (fun _ _ _ h => h))
    obtain ⟨k, rfl, q3⟩ := al_asBk h3
    refine ⟨k, den_bl d3, ?_⟩
    have q4 := q3.mono (P' := okP g U H3 Q) (E' := exP g U E H3) (fun _ _ h => okP.fr ((f1.trans f2).trans f3) h) (fun _ _ _ h => h.fr f3)
    cases k with
    | false => exact okP.here q4 w3 (.bl false)
    | true =>
      refine hc.step (R2.fr u2 f3) w3 (u2.fr f3 w3) q4 fun v4 z H4 b4 d4 w4 f4 R4 u4 q5 => ?_
      exact hr' U H4 b4 v2 v4 e z Q (d2.fr u2 (f3.trans f4)) d4 w4 u4 (q5.mono (fun _ _ h => h.fr f4) (fun _ _ _ h => h))
theorem se_lst {t : TA} {m : Tr (List D)} (ha : SA g E ε t m) : SE g E ε (tLst t) (bd m fun ds => if ds.length ≤ sizeLine then .ok (.lst ds) else .bad) := fun U σ H b Q R W u q =>
  ha.step R W u q fun v d H1 b1 d1 w1 f1 R1 u1 q1 => by
    by_cases hl : d.length ≤ sizeLine
    · rw [if_pos hl] at q1
      have hl' : v.length ≤ sizeLine := by rw [d1.length]; exact hl
      refine ⟨hl', fun p np => ?_⟩
      have s := same_new (o := .lst v) np
      exact q1 _ _ (.lst upd_same (u1.new np) hl' (d1.ext (u1.extU (fr_same s)))) (w1.same s) (f1.trans (fr_same s))
    · rw [if_neg hl] at q1
      exact q1.elim
theorem se_tup {t : TA} {m : Tr (List D)} (ha : SA g E ε t m) : SE g E ε (tTup t) (bd m fun ds => if ds.length ≤ sizeLine then .ok (.tup ds) else .bad) := fun U σ H b Q R W u q =>
  ha.step R W u q fun v d H1 b1 d1 w1 f1 R1 u1 q1 => by
    by_cases hl : d.length ≤ sizeLine
    · rw [if_pos hl] at q1
      have hl' : v.length ≤ sizeLine := by rw [d1.length]; exact hl
      refine ⟨hl', fun p np => ?_⟩
      have s := same_new (o := .tup v) np
      exact q1 _ _ (.tup upd_same (u1.new np) hl' (d1.ext (u1.extU (fr_same s)))) (w1.same s) (f1.trans (fr_same s))
    · rw [if_neg hl] at q1
      exact q1.elim
theorem se_nox (ha : SE g (fun _ _ _ => False) ε ta ma) : SE g E ε ta (nox ma) := fun U σ H b Q R W u q => ha U σ H b Q R W u (al_nox q)
end
end Gp
end
section
set_option Elab.async false
set_option linter.all false
set_option maxRecDepth 100000
set_option maxHeartbeats 4000000
namespace Gp
open PySem PySem.Spec PyProof.Rows L2 Gh
section
variable {g : Gw} {Mt U0 U U' : Addr → Prop} {H0 H H' H1 H2 : Hp} {b b1 : Nat} {σ : L2.St} {ε ε' : Env} {E : XK} {W L W' : Type}
theorem UOk.ev (u : UOk g U H) (f : Fr H H' g.p) : Ev U H U H' := ⟨fun a o e n t => f a o e (fun z => n (z ▸ u.p)) t, fun _ _ _ n _ => n⟩
mutual
theorem Den.ev (e : Ev U H U' H') : ∀ {v : V} {d : D}, Den g U H v d → Den g U' H' v d
  | _, _, .non => .non
  | _, _, .bl b => .bl b
  | _, _, .int i => .int i
  | _, _, .str x h => .str x h
  | _, _, .tup h n l k => .tup (e.keep _ _ h n (fun _ z => by cases z)) (e.out _ _ h n (fun _ z => by cases z)) l (DenL.ev e k)
  | _, _, .tupW h l k nk => .tupW h l (DenL.ev e k) nk
  | _, _, .lst h n l k => .lst (e.keep _ _ h n (fun _ z => by cases z)) (e.out _ _ h n (fun _ z => by cases z)) l (DenL.ev e k)
  | _, _, .obj h n k => .obj (e.keep _ _ h n (fun _ z => by cases z)) (e.out _ _ h n (fun _ z => by cases z)) (DenF.ev e k)
  | _, _, .err h n h2 n2 k => .err (e.keep _ _ h n (fun _ z => by unfold exk at z; cases z)) (e.out _ _ h n (fun _ z => by unfold exk at z; cases z)) (e.keep _ _ h2 n2 (fun _ z => by cases z)) (e.out _ _ h2 n2 (fun _ z => by cases z)) (DenF.ev e k)
  | _, _, .pen => .pen
  | _, _, .cls c => .cls c
  | _, _, .dct h n => .dct (e.keep _ _ h n (fun _ z => by cases z)) (e.out _ _ h n (fun _ z => by cases z))
  | _, _, .dic h n l k => .dic (e.keep _ _ h n (fun _ z => by cases z)) (e.out _ _ h n (fun _ z => by cases z)) l (DenL.ev e k)
  | _, _, .dit h n l k => .dit (e.keep _ _ h n (fun _ z => by cases z)) (e.out _ _ h n (fun _ z => by cases z)) l (DenL.ev e k)
  | _, _, .dik h n l k => .dik (e.keep _ _ h n (fun _ z => by cases z)) (e.out _ _ h n (fun _ z => by cases z)) l (DenL.ev e k)
theorem DenL.ev (e : Ev U H U' H') : ∀ {vs : List V} {ds : List D}, DenL g U H vs ds → DenL g U' H' vs ds
  | _, _, .nil => .nil
  | _, _, .cons a r => .cons (Den.ev e a) (DenL.ev e r)
theorem DenF.ev (e : Ev U H U' H') : ∀ {vs : List (Str × V)} {ds : List (Str × D)}, DenF g U H vs ds → DenF g U' H' vs ds
  | _, _, .nil => .nil
  | _, _, .cons a r => .cons (Den.ev e a) (DenF.ev e r)
end
theorem flP.ev {U1 : Addr → Prop} {H1 : Hp} {D : Ends} {env : W → Env} {envL : L → Env} (e : Ev U H U1 H1) : ∀ {f : Fl W L}, flP g Mt U0 H0 U H D env envL f b → flP g Mt U0 H0 U1 H1 D env envL f b
  | .nx w, h => fun U' σ' H' e1 => h U' σ' H' (e.trans e1)
  | .rt d, h => h
  | .bk w, h => fun U' σ' H' e1 => h U' σ' H' (e.trans e1)
  | .ct w, h => fun U' σ' H' e1 => h U' σ' H' (e.trans e1)
def SS (g : Gw) (E : XK) (ε : Env) (t : TS) (env : W → Env) (envL : L → Env) (m : Tr (Fl W L)) : Prop := ∀ Mt U0 H0 U D σ H b, Stt g Mt U0 H0 U σ H b ε → Al (flP g Mt U0 H0 U H D env envL) (exS g Mt U0 H0 E) m b → t D σ H
theorem SE.sstep {t : TE} {m : Tr D} {k : D → Tr (Fl W L)} {Ds : Ends} {env : W → Env} {envL : L → Env} {Q : VK} (he : SE g E ε t m) (s : Stt g Mt U0 H0 U σ H b ε) (h : Al (flP g Mt U0 H0 U H Ds env envL) (exS g Mt U0 H0 E) (bd m k) b)
    (hk : ∀ v d H1 b1, Den g U H1 v d → Stt g Mt U0 H0 U σ H1 b1 ε → Al (flP g Mt U0 H0 U H1 Ds env envL) (exS g Mt U0 H0 E) (k d) b1 → Q v H1) : t σ H Q :=
  he U σ H b Q s.rel s.wd s.uok ((al_bd.mp h).mono (fun d b1 h1 v H1 d1 w1 f1 => hk v d H1 b1 d1 (s.fr f1 w1) (h1.mono (fun _ _ z => z.ev (s.uok.ev f1)) (fun _ _ _ z => z))) (fun _ _ _ h => exS.exP s h))
theorem SA.sstep {t : TA} {m : Tr (List D)} {k : (List D) → Tr (Fl W L)} {Ds : Ends} {env : W → Env} {envL : L → Env} {Q : List V → Hp → Prop} (he : SA g E ε t m) (s : Stt g Mt U0 H0 U σ H b ε) (h : Al (flP g Mt U0 H0 U H Ds env envL) (exS g Mt U0 H0 E) (bd m k) b)
    (hk : ∀ v d H1 b1, DenL g U H1 v d → Stt g Mt U0 H0 U σ H1 b1 ε → Al (flP g Mt U0 H0 U H1 Ds env envL) (exS g Mt U0 H0 E) (k d) b1 → Q v H1) : t σ H Q :=
  he U σ H b Q s.rel s.wd s.uok ((al_bd.mp h).mono (fun d b1 h1 v H1 d1 w1 f1 => hk v d H1 b1 d1 (s.fr f1 w1) (h1.mono (fun _ _ z => z.ev (s.uok.ev f1)) (fun _ _ _ z => z))) (fun _ _ _ h => exS.exP s h))
theorem ST.sstep {t : TT} {m : Tr Bool} {k : Bool → Tr (Fl W L)} {Ds : Ends} {env : W → Env} {envL : L → Env} {Q : Bool → Hp → Prop} (he : ST g E ε t m) (s : Stt g Mt U0 H0 U σ H b ε) (h : Al (flP g Mt U0 H0 U H Ds env envL) (exS g Mt U0 H0 E) (bd m k) b)
    (hk : ∀ d H1 b1,  Stt g Mt U0 H0 U σ H1 b1 ε → Al (flP g Mt U0 H0 U H1 Ds env envL) (exS g Mt U0 H0 E) (k d) b1 → Q d H1) : t σ H Q :=
  he U σ H b Q s.rel s.wd s.uok ((al_bd.mp h).mono (fun d b1 h1 H1 w1 f1 => hk d H1 b1 (s.fr f1 w1) (h1.mono (fun _ _ z => z.ev (s.uok.ev f1)) (fun _ _ _ z => z))) (fun _ _ _ h => exS.exP s h))
theorem ownAt_le (l : Le ε' ε) {i : Nat} {a : Addr} (h : OwnAt σ ε' i a) : OwnAt σ ε i a := by
  obtain ⟨h1, h2⟩ := h
  refine ⟨h1, ?_⟩
  rcases h2 with ⟨ds, h2⟩ | ⟨c, fs, h2⟩
  · rcases l.get h2 with ⟨z, _⟩ | z
    · cases z
    · exact .inl ⟨ds, z⟩
  · rcases l.get h2 with ⟨z, _⟩ | z
    · cases z
    · exact .inr ⟨c, fs, z⟩
theorem Stt.le (s : Stt g Mt U0 H0 U σ H b ε) (l : Le ε' ε) : Stt g Mt U0 H0 U σ H b ε' :=
  ⟨⟨s.rel.len.trans l.len.symm, fun i x e => by
    rcases l.get e with ⟨rfl, z, h⟩ | h
    · obtain ⟨o, h1, _⟩ := s.rel.at_ i z h
      exact ⟨o, h1, trivial⟩
    · exact s.rel.at_ i x h, fun i j a n h1 h2 => s.rel.apart i j a n (ownAt_le l h1) (ownAt_le l h2)⟩, s.wd, s.uok, s.sub, fun i a o => s.own i a (ownAt_le l o), s.ext, fun i ds a e1 e2 => (by
    rcases l.get e1 with ⟨z, _⟩ | z
    · cases z
    · exact s.nu0 i ds a z e2), fun i c fs a j0 e1 e2 => by
    rcases l.get e1 with ⟨z, _⟩ | z
    · cases z
    · exact s.oim i c fs a j0 z e2⟩
variable {env : W → Env} {envL : L → Env} {env' : W' → Env} {u ta tb : TS} {te : TE} {me : Tr D}
theorem ss_nx {w : W} (l : Le (env w) ε) : SS g E ε tNext env envL (.ok (.nx w)) := fun Mt U0 H0 U D σ H b s q => q U σ H Ev.refl (s.le l)
theorem ss_asg {i : Nat} {k : D → Tr (Fl W L)} (he : SE g E ε te me) (hk : ∀ d, SS g E (ε.set i (.fz d)) u env envL (k d)) : SS g E ε (tSeq (tAsg te (gName i)) u) env envL (bd me k) := fun Mt U0 H0 U D σ H b s q =>
  he.sstep s q fun v d H1 b1 d1 s1 q1 => hk d Mt U0 H0 U D _ H1 b1 (s1.set i d1) q1
theorem ss_ret (he : SE g E ε te me) : SS g E ε (tSeq (tRet te) u) env envL (bd me fun d => .ok (.rt d)) := fun Mt U0 H0 U D σ H b s q =>
  he.sstep s q fun v d H1 b1 d1 s1 q1 => q1 v H1 (d1.sub fun a _ z => s1.sub a z) s1.wd s1.ext
theorem ss_drop {k : Tr (Fl W L)} (he : SE g E ε te me) (hk : SS g E ε u env envL k) : SS g E ε (tSeq (tDrop te) u) env envL (bd me fun _ => k) := fun Mt U0 H0 U D σ H b s q =>
  he.sstep s q fun v d H1 b1 d1 s1 q1 => hk Mt U0 H0 U D σ H1 b1 s1 q1
theorem ss_never : SS g E ε (tSeq tNever u) env envL .bad := fun Mt U0 H0 U D σ H b s q => q.elim
def ul0 {α : Type} (k : Tr α) (ds : List D) : Tr α := match ds with
  | [] => k
  | _ => .bad
def ul1 {α : Type} (k : D → Tr α) (ds : List D) : Tr α := match ds with
  | [x] => k x
  | _ => .bad
def ul2 {α : Type} (k : D → D → Tr α) (ds : List D) : Tr α := match ds with
  | [x, y] => k x y
  | _ => .bad
def ul3 {α : Type} (k : D → D → D → Tr α) (ds : List D) : Tr α := match ds with
  | [x, y, z] => k x y z
  | _ => .bad
def ul4 {α : Type} (k : D → D → D → D → Tr α) (ds : List D) : Tr α := match ds with
  | [x, y, z, w] => k x y z w
  | _ => .bad
section
variable {α : Type} {P : α → Nat → Prop} {X : Str → Fs → Nat → Prop} {ds : List D}
theorem al_ul1 {k : D → Tr α} (h : Al P X (ul1 k ds) b) : ∃ x, ds = [x] ∧ Al P X (k x) b := by
  unfold ul1 at h; split at h
  · exact ⟨_, rfl, h⟩
  · exact h.elim
theorem al_ul2 {k : D → D → Tr α} (h : Al P X (ul2 k ds) b) : ∃ x y, ds = [x, y] ∧ Al P X (k x y) b := by
  unfold ul2 at h; split at h
  · exact ⟨_, _, rfl, h⟩
  · exact h.elim
theorem al_ul3 {k : D → D → D → Tr α} (h : Al P X (ul3 k ds) b) : ∃ x y z, ds = [x, y, z] ∧ Al P X (k x y z) b := by
  unfold ul3 at h; split at h
  · exact ⟨_, _, _, rfl, h⟩
  · exact h.elim
theorem al_ul4 {k : D → D → D → D → Tr α} (h : Al P X (ul4 k ds) b) : ∃ x y z w, ds = [x, y, z, w] ∧ Al P X (k x y z w) b := by
  unfold ul4 at h; split at h
  · exact ⟨_, _, _, _, rfl, h⟩
  · exact h.elim
end
theorem denL_nil {vs : List V} (h : DenL g U H vs []) : vs = [] := by cases h; rfl
theorem denL_cons {vs : List V} {d : D} {ds : List D} (h : DenL g U H vs (d :: ds)) : ∃ v r, vs = v :: r ∧ Den g U H v d ∧ DenL g U H r ds := by
  cases h with
  | cons a r => exact ⟨_, _, rfl, a, r⟩
theorem denL_1 {vs : List V} {x : D} (h : DenL g U H vs [x]) : ∃ v, vs = [v] ∧ Den g U H v x := by
  obtain ⟨v, r, rfl, h1, h2⟩ := denL_cons h
  cases denL_nil h2
  exact ⟨v, rfl, h1⟩
theorem denL_2 {vs : List V} {x y : D} (h : DenL g U H vs [x, y]) : ∃ v w, vs = [v, w] ∧ Den g U H v x ∧ Den g U H w y := by
  obtain ⟨v, r, rfl, h1, h2⟩ := denL_cons h
  obtain ⟨w, rfl, h3⟩ := denL_1 h2
  exact ⟨v, w, rfl, h1, h3⟩
def bdF (m : Tr (Fl W' L)) (k : W' → Tr (Fl W L)) : Tr (Fl W L) := bd m fun f => match f with
  | .nx w => k w
  | .rt d => .ok (.rt d)
  | .bk l => .ok (.bk l)
  | .ct l => .ok (.ct l)
theorem SS.seq {m : Tr (Fl W' L)} {k : W' → Tr (Fl W L)} (h1 : SS g E ε ta env' envL m) (h2 : ∀ w, SS g E (env' w) u env envL (k w)) : SS g E ε (tSeq ta u) env envL (bdF m k) := fun Mt U0 H0 U D σ H b s q => by
  refine h1 Mt U0 H0 U { D with nx := u D } σ H b s ((al_bd.mp q).mono (fun f b1 h => ?_) (fun _ _ _ h => h))
  cases f with
  | nx w => exact fun U1 σ1 H1 e1 s1 => h2 w Mt U0 H0 U1 D σ1 H1 b1 s1 (Al.mono (fun _ _ z => z.ev e1) (fun _ _ _ z => z) h)
  | rt d => exact h
  | bk l => exact h
  | ct l => exact h
theorem ss_if0 {c : TT} {mc : Tr Bool} {m n : Tr (Fl W' L)} (hc : ST g E ε c mc) (ha : SS g E ε ta env' envL m) (hb : SS g E ε tb env' envL n) : SS g E ε (tIfS c ta tb) env' envL (bd mc fun k => if k = true then m else n) := fun Mt U0 H0 U D σ H b s q =>
  hc.sstep s q fun k H1 b1 s1 q1 => by
    cases k with
    | true => exact ha Mt U0 H0 U D σ H1 b1 s1 q1
    | false => exact hb Mt U0 H0 U D σ H1 b1 s1 q1
theorem ss_if {c : TT} {mc : Tr Bool} {m n : Tr (Fl W' L)} {k : W' → Tr (Fl W L)} (env' : W' → Env) (hc : ST g E ε c mc) (ha : SS g E ε ta env' envL m) (hb : SS g E ε tb env' envL n) (hk : ∀ w, SS g E (env' w) u env envL (k w)) :
    SS g E ε (tSeq (tIfS c ta tb) u) env envL (bdF (bd mc fun k => if k = true then m else n) k) := (ss_if0 hc ha hb).seq hk
theorem sx_name {i : Nat} {d : D} {m : Tr (Fl W L)} (h : SS g E (ε.set i (.fz d)) tb env envL m) : SX g E ε d (gName i) tb env envL m := fun Mt U0 H0 U D σ H b v s dn q => h Mt U0 H0 U D _ H b (s.set i dn) q
def un2 {α : Type} (d : D) (k : D → D → Tr α) : Tr α := match d with
  | .tup [x, y] => k x y
  | _ => .bad
def un3 {α : Type} (d : D) (k : D → D → D → Tr α) : Tr α := match d with
  | .tup [x, y, z] => k x y z
  | _ => .bad
theorem den_tup {v : V} {ds : List D} (h : Den g U H v (.tup ds)) : ∃ a vs, v = .ref a ∧ SqT g.K H a vs ∧ vs.length ≤ sizeLine ∧ DenL g U H vs ds := by
  cases h with
  | tup h n l k => exact ⟨_, _, rfl, SqT.of h, l, k⟩
  | tupW h l k _ => exact ⟨_, _, rfl, h H, l, k⟩
theorem al_un2 {α : Type} {P : α → Nat → Prop} {X : Str → Fs → Nat → Prop} {d : D} {k : D → D → Tr α} (h : Al P X (un2 d k) b) : ∃ x y, d = .tup [x, y] ∧ Al P X (k x y) b := by
  unfold un2 at h
  split at h
  · exact ⟨_, _, rfl, h⟩
  · exact h.elim
theorem sx_tup2 {i j : Nat} {d : D} {m : D → D → Tr (Fl W L)} (h : ∀ x y, SS g E ((ε.set i (.fz x)).set j (.fz y)) tb env envL (m x y)) : SX g E ε d (gTup g.K 2 (gCons (gName i) (gCons (gName j) gNil))) tb env envL (un2 d m) := fun Mt U0 H0 U D σ H b v s dn q => by
  obtain ⟨x, y, rfl, q1⟩ := al_un2 q
  obtain ⟨a, vs, rfl, sq, _, k⟩ := den_tup dn
  obtain ⟨v1, v2, rfl, e1, e2⟩ := denL_2 k
  exact ⟨a, [v1, v2], rfl, sq, rfl, v1, [v2], rfl, v2, [], rfl, rfl, h x y Mt U0 H0 U D _ H b ((s.set i e1).set j e2) q1⟩
theorem ss_unp {gt : TG} {k : D → Tr (Fl W L)} (he : SE g E ε te me) (hk : ∀ d, SX g E ε d gt u env envL (k d)) : SS g E ε (tSeq (tAsg te gt) u) env envL (bd me k) := fun Mt U0 H0 U D σ H b s q =>
  he.sstep s q fun v d H1 b1 d1 s1 q1 => hk d Mt U0 H0 U D σ H1 b1 v s1 d1 q1
def ItD (g : Gw) (U : Addr → Prop) (H : Hp) (J : It) (ds : List D) : Prop := ∀ i U1 H1 b, Ev U H U1 H1 → Wd g H1 b → UOk g U1 H1 →
  (∀ d, ds[i]? = some d → J.go i H1 ∧ ∀ x H2, J.yld i H1 x H2 → Den g U1 H2 x d ∧ L2.Same H1 H2) ∧ (ds.length = i → J.stop i H1)
def okI (g : Gw) (U : Addr → Prop) (H : Hp) (R : It → Hp → Prop) : List D → Nat → Prop := fun ds b => ∀ J H', ds.length ≤ sizeLine → ItD g U H' J ds → Wd g H' b → Fr H H' g.p → R J H'
def SI (g : Gw) (E : XK) (ε : Env) (wi : TI) (m : Tr (List D)) : Prop := ∀ U σ H b R, Rel g U H σ ε → Wd g H b → UOk g U H → Al (okI g U H R) (exP g U E H) m b → wi σ H R
def forF (f : D → W → Tr (Fl W W)) : List D → W → Tr (Fl W L)
  | [], w => .ok (.nx w)
  | x :: xs, w => bd (f x w) fun r => match r with
    | .nx w' => forF f xs w'
    | .ct w' => forF f xs w'
    | .bk w' => .ok (.nx w')
    | .rt d => .ok (.rt d)
theorem forF_nil (f : D → W → Tr (Fl W W)) (w : W) : forF (L := L) f [] w = .ok (.nx w) := rfl
theorem forF_cons (f : D → W → Tr (Fl W W)) (x : D) (xs : List D) (w : W) : forF (L := L) f (x :: xs) w = bd (f x w) fun r => match r with
    | .nx w' => forF f xs w'
    | .ct w' => forF f xs w'
    | .bk w' => .ok (.nx w')
    | .rt d => .ok (.rt d) := rfl
theorem ss_for0 {wi : TI} {gt : TG} {mi : Tr (List D)} {f : D → W → Tr (Fl W W)} {w0 : W} {tb : TS} (hi : SI g E ε wi mi) (l : Le (env w0) ε) (hb : ∀ d w, SX g E (env w) d gt tb env env (f d w)) : SS g E ε (tFor wi gt tb) env envL (bd mi fun ds => forF f ds w0) := fun Mt U0 H0 U D σ H b s q => by
  refine hi U σ H b _ s.rel s.wd s.uok ((al_bd.mp q).mono (fun ds b1 h1 J H1 hsz it w1 f1 => ?_) (fun _ _ _ h => exS.exP s h))
  refine ⟨fun i m σ' H' => ∃ b' w U', m = ds.length - i ∧ i ≤ ds.length ∧ Stt g Mt U0 H0 U' σ' H' b' (env w) ∧ Ev U H1 U' H' ∧ Al (flP g Mt U0 H0 U' H' D env envL) (exS g Mt U0 H0 E) (forF f (ds.drop i) w) b',
    ⟨ds.length, b1, w0, U, by simp, Nat.zero_le _, (s.fr f1 w1).le l, Ev.refl, Al.mono (fun _ _ z => z.ev (s.uok.ev f1)) (fun _ _ _ z => z) h1⟩, ?_⟩
  rintro i m σ' H' ⟨b', w, U', rfl, hle, s', e', q'⟩
  obtain ⟨it1, it2⟩ := it i U' H' b' e' s'.wd s'.uok
  by_cases hlt : i < ds.length
  · have ei : ds[i]? = some ds[i] := List.getElem?_eq_getElem hlt
    obtain ⟨go, y⟩ := it1 _ ei
    rw [List.drop_eq_getElem_cons hlt, forF_cons] at q'
    refine .inr ⟨go, fun σ2 H2 => ∃ b' w U2, Stt g Mt U0 H0 U2 σ2 H2 b' (env w) ∧ Ev U H1 U2 H2 ∧ Al (flP g Mt U0 H0 U2 H2 D env envL) (exS g Mt U0 H0 E) (forF f (ds.drop (i + 1)) w) b', ?_, ?_⟩
    · rintro σ2 H2 ⟨b2, w2, U2, s2, e2, q2⟩
      exact ⟨ds.length - (i + 1), by omega, b2, w2, U2, rfl, hlt, s2, e2, q2⟩
    · intro x H2 hy
      obtain ⟨dn, sm⟩ := y x H2 hy
      have s2 := s'.fr (fr_same sm) (s'.wd.same sm)
      have ev2 : Ev U' H' U' H2 := s'.uok.ev (fr_same sm)
      refine hb _ w Mt U0 H0 U' _ σ' H2 b' x s2 dn ((al_bd.mp q').mono (fun r b2 h2 => ?_) (fun _ _ _ z => z))
      cases r with
      | nx w' => exact fun U3 σ3 H3 e3 s3 => ⟨b2, w', U3, s3, e'.trans (ev2.trans e3), Al.mono (fun _ _ z => z.ev (ev2.trans e3)) (fun _ _ _ z => z) h2⟩
      | ct w' => exact fun U3 σ3 H3 e3 s3 => ⟨b2, w', U3, s3, e'.trans (ev2.trans e3), Al.mono (fun _ _ z => z.ev (ev2.trans e3)) (fun _ _ _ z => z) h2⟩
      | bk w' => exact fun U3 σ3 H3 e3 s3 => h2 U3 σ3 H3 (ev2.trans e3) s3
      | rt d => exact h2
  · have e : i = ds.length := by omega
    subst e
    rw [List.drop_length] at q'
    exact .inl ⟨it2 (rfl), q' U' σ' H' Ev.refl s'⟩
end
end Gp
end
section
set_option Elab.async false
set_option linter.all false
set_option maxRecDepth 100000
set_option maxHeartbeats 4000000
namespace Gp
open PySem PySem.Spec PyProof.Rows L2 Gh
section
variable {g : Gw} {Mt U0 U U' : Addr → Prop} {H0 H H' H1 H2 : Hp} {b b1 : Nat} {σ : L2.St} {ε ε' : Env} {E : XK} {W L W' : Type}
variable {env : W → Env} {envL : L → Env} {env' : W' → Env} {u ta tb : TS} {te : TE} {me : Tr D}
theorem ss_for {wi : TI} {gt : TG} {mi : Tr (List D)} {f : D → W' → Tr (Fl W' W')} {w0 : W'} {tb : TS} {k : W' → Tr (Fl W L)} (env' : W' → Env) (hi : SI g E ε wi mi) (l : Le (env' w0) ε) (hb : ∀ d w, SX g E (env' w) d gt tb env' env' (f d w)) (hk : ∀ w, SS g E (env' w) u env envL (k w)) :
    SS g E ε (tSeq (tFor wi gt tb) u) env envL (bdF (bd mi fun ds => forF f ds w0) k) := (ss_for0 hi l hb).seq hk
def itD : D → Tr (List D)
  | .lst ds => .ok ds
  | .tup ds => .ok ds
  | .str x => .ok (x.cps.toList.map fun c => .str ⟨#[c]⟩)
  | _ => .bad
theorem den_lst {v : V} {ds : List D} (h : Den g U H v (.lst ds)) : ∃ a vs, v = .ref a ∧ H a = some (.lst vs) ∧ ¬ U a ∧ vs.length ≤ sizeLine ∧ DenL g U H vs ds := by
  cases h with
  | lst h n l k => exact ⟨_, _, rfl, h, n, l, k⟩
theorem den_str {v : V} {x : Str} (h : Den g U H v (.str x)) : v = .str x ∧ x.length ≤ sizeLine := by
  cases h with
  | str x h => exact ⟨rfl, h⟩
theorem den_int {v : V} {i : Int} (h : Den g U H v (.int i)) : v = .int i := by cases h; rfl
theorem den1 {c : Nat} : Den g U H (.str ⟨#[c]⟩) (.str ⟨#[c]⟩) := .str _ (by show 1 ≤ sizeLine; decide)
theorem itd_lst {a : Addr} {vs : List V} {ds : List D} (h : H a = some (.lst vs)) (n : ¬ U a) (k : DenL g U H vs ds) : ItD g U H (Itl g.K a) ds := fun i U1 H1 b e w u => by
  have h1 : H1 a = some (.lst vs) := e.keep _ _ h n (fun _ z => by cases z)
  refine ⟨fun d hd => ?_, fun hl => ⟨vs, SqL.of h1, by rw [k.length]; exact Nat.le_of_eq hl⟩⟩
  obtain ⟨v, hv, dn⟩ := k.getD hd
  refine ⟨⟨vs, v, SqL.of h1, hv⟩, ?_⟩
  rintro x H2 ⟨rfl, hx⟩
  have e2 := hx vs (SqL.of h1)
  rw [hv] at e2
  cases e2
  exact ⟨dn.ev e, fun _ _ z => z⟩
theorem itd_tup {a : Addr} {vs : List V} {ds : List D} (h : ∀ U1 H1, Ev U H U1 H1 → SqT g.K H1 a vs) (k : DenL g U H vs ds) : ItD g U H (Itt g.K a) ds := fun i U1 H1 b e w u => by
  have h1 := h U1 H1 e
  refine ⟨fun d hd => ?_, fun hl => ⟨vs, h1, by rw [k.length]; exact Nat.le_of_eq hl⟩⟩
  obtain ⟨v, hv, dn⟩ := k.getD hd
  refine ⟨⟨vs, v, h1, hv⟩, ?_⟩
  rintro x H2 ⟨rfl, hx⟩
  have e2 := hx vs h1
  rw [hv] at e2
  cases e2
  exact ⟨dn.ev e, fun _ _ z => z⟩
theorem den_tupE {v : V} {ds : List D} (h : Den g U H v (.tup ds)) : ∃ a vs, v = .ref a ∧ (∀ U1 H1, Ev U H U1 H1 → SqT g.K H1 a vs) ∧ vs.length ≤ sizeLine ∧ DenL g U H vs ds := by
  cases h with
  | tup h n l k => exact ⟨_, _, rfl, fun U1 H1 e => SqT.of (e.keep _ _ h n (fun _ z => by cases z)), l, k⟩
  | tupW h l k _ => exact ⟨_, _, rfl, fun U1 H1 e => h H1, l, k⟩
theorem itd_str (x : Str) : ItD g U H (Its x) (x.cps.toList.map fun c => .str ⟨#[c]⟩) := fun i U1 H1 b e w u => by
  refine ⟨fun d hd => ?_, fun hl => by rw [List.length_map, Array.length_toList] at hl; exact Nat.le_of_eq hl⟩
  rw [List.getElem?_map] at hd
  cases q : x.cps.toList[i]? with
  | none => rw [q] at hd; cases hd
  | some c =>
    rw [q] at hd
    cases hd
    have hi : i < x.cps.size := by
      have := (List.getElem?_eq_some_iff.mp q).1
      rw [Array.length_toList] at this
      exact this
    refine ⟨hi, ?_⟩
    rintro y H2 ⟨rfl, c', hc, rfl⟩
    rw [Array.getElem?_toList] at q
    rw [q] at hc
    cases hc
    exact ⟨den1, fun _ _ z => z⟩
def iSeq (K : PySem.W.Frag) (te : TE) : TI := fun σ H R => te σ H fun x H1 => (∃ a, x = .ref a ∧ (∃ xs, SqL K H1 a xs) ∧ R (Itl K a) H1) ∨ (∃ a, x = .ref a ∧ (∃ xs, SqT K H1 a xs) ∧ R (Itt K a) H1) ∨ ∃ z, x = .str z ∧ R (Its z) H1
theorem pi_seq {X : Cx} {K : PySem.W.Frag} {tg e : Expr} {te : TE} (hK : X.K = K) (he : PE X e te) : PI X tg e (iSeq K te) := by
  subst hK
  refine ⟨fun pins s σ H R I h => ?_⟩
  refine thn (he.run pins s σ H _ I h) fun v s1 ⟨x, H1, I1, r1, q1⟩ => ?_
  rcases q1 with ⟨a, e, ⟨xs, hq⟩, q⟩ | ⟨a, e, ⟨xs, hq⟩, q⟩ | ⟨z, ex, q⟩
  · subst e
    cases r1
    obtain ⟨its, rv, p, hz⟩ := I1.list hq
    refine wpAny_pyIter_list p.isList ?_
    refine ⟨s1.heap.objs.size, [s1.heap.objs.size], _, _, H1, rfl, I1.kept (t' := s1.toks) fun b o e => Heap.get?_push_of_some _ e, turn_list a _, ⟨_, Heap.get?_push_size _ rfl, rfl, rfl⟩, fun b hb => ?_, q⟩
    have e : b = s1.heap.objs.size := by simpa using hb
    subst e
    exact I1.fpOk (Nat.le_refl _) (I1.hok.fresh (Nat.le_refl _))
  · subst e
    cases r1
    obtain ⟨its, rv, p, hz⟩ := I1.tuple hq
    refine wpAny_pyIter_tuple (show s1.heap.IsTuple a its.toArray from p) ?_
    refine ⟨s1.heap.objs.size, [s1.heap.objs.size], _, _, H1, rfl, I1.kept (t' := s1.toks) fun b o e => Heap.get?_push_of_some _ e, turn_tuple a _, ⟨_, Heap.get?_push_size _ rfl, rfl, rfl⟩, fun b hb => ?_, q⟩
    have e : b = s1.heap.objs.size := by simpa using hb
    subst e
    exact I1.fpOk (Nat.le_refl _) (I1.hok.fresh (Nat.le_refl _))
  · subst ex
    obtain ⟨t, rfl⟩ := r1
    cases ha : z.cps.all (· < 128)
    · exact wpAny_pyIter_wide ha (pi_one (tk := s1.toks) I1 _ (turn_str _ z t "str_iterator" (.inr rfl)) ⟨_, Heap.get?_push_size _ rfl, rfl, rfl⟩ q)
    · exact wpAny_pyIter_ascii ha (pi_one (tk := s1.toks) I1 _ (turn_str _ z t "str_ascii_iterator" (.inl rfl)) ⟨_, Heap.get?_push_size _ rfl, rfl, rfl⟩ q)
theorem si_seq (he : SE g E ε te me) : SI g E ε (iSeq g.K te) (bd me itD) := fun U σ H b R rl wd u q =>
  he.step rl wd u q fun v d H1 b1 d1 w1 f1 R1 u1 q1 => by
    cases d with
    | lst ds =>
      obtain ⟨a, vs, rfl, h, n, l, k⟩ := den_lst d1
      exact .inl ⟨a, rfl, ⟨vs, SqL.of h⟩, q1 _ H1 (by rw [← k.length]; exact l) (itd_lst h n k) w1 f1⟩
    | tup ds =>
      obtain ⟨a, vs, rfl, h, l, k⟩ := den_tupE d1
      exact .inr (.inl ⟨a, rfl, ⟨vs, h U H1 Ev.refl⟩, q1 _ H1 (by rw [← k.length]; exact l) (itd_tup h k) w1 f1⟩)
    | str x =>
      obtain ⟨rfl, l⟩ := den_str d1
      exact .inr (.inr ⟨x, rfl, q1 _ H1 (by rw [List.length_map, Array.length_toList]; exact l) (itd_str x) w1 f1⟩)
    | _ => exact q1.elim
def rgD (lo : Int) (n : Nat) : List D := (List.range n).map fun i => .int (lo + (i : Nat))
theorem itd_rg (lo : Int) (n : Nat) : ItD g U H (Itr lo n) (rgD lo n) := fun i U1 H1 b e w u => by
  refine ⟨fun d hd => ?_, fun hl => by unfold rgD at hl; rw [List.length_map, List.length_range] at hl; exact Nat.le_of_eq hl⟩
  unfold rgD at hd
  rw [List.getElem?_map] at hd
  have hi : i < n := by
    cases q : (List.range n)[i]? with
    | none => rw [q] at hd; cases hd
    | some c =>
      have := (List.getElem?_eq_some_iff.mp q).1
      rwa [List.length_range] at this
  rw [List.getElem?_range hi] at hd
  cases hd
  refine ⟨hi, ?_⟩
  rintro y H2 ⟨rfl, rfl⟩
  exact ⟨.int _, fun _ _ z => z⟩
def rg1 (x : D) : Tr (List D) := match x with
  | .int j => if -(2 ^ 62) ≤ j ∧ j ≤ 16777216 then .ok (rgD 0 j.toNat) else .bad
  | _ => .bad
theorem si_rg1 {t : TA} {m : Tr (List D)} (ha : SA g E ε t m) : SI g E ε (iRng1 t) (bd m (ul1 rg1)) := fun U σ H b R rl wd u q =>
  ha.step rl wd u q fun v d H1 b1 d1 w1 f1 R1 u1 q1 => by
    obtain ⟨x, rfl, q2⟩ := al_ul1 q1
    obtain ⟨v, rfl, e1⟩ := denL_1 d1
    cases x with
    | int j =>
      cases den_int e1
      unfold rg1 at q2
      dsimp only at q2
      split at q2
      · rename_i hj
        exact ⟨j, rfl, hj.1, by omega, q2 _ H1 (by unfold rgD; rw [List.length_map, List.length_range, sizeLine_eq]; omega) (itd_rg 0 _) w1 f1⟩
      · exact q2.elim
    | _ => exact q2.elim
def lcF (f : D → Tr (Option D)) : List D → Tr (List D)
  | [] => .ok []
  | x :: xs => bd (f x) fun o => bd (lcF f xs) fun r => .ok (match o with | some y => y :: r | none => r)
theorem lcF_nil (f : D → Tr (Option D)) : lcF f [] = .ok [] := rfl
theorem lcF_cons (f : D → Tr (Option D)) (x : D) (xs : List D) : lcF f (x :: xs) = bd (f x) fun o => bd (lcF f xs) fun r => .ok (match o with | some y => y :: r | none => r) := rfl
def okO (g : Gw) (U : Addr → Prop) (H : Hp) (Q : Option V → Hp → Prop) : Option D → Nat → Prop
  | some y, b => ∀ w H', Den g U H' w y → Wd g H' b → Fr H H' g.p → Q (some w) H'
  | none, b => ∀ H', Wd g H' b → Fr H H' g.p → Q none H'
def SC (g : Gw) (ε : Env) (d : D) (gt : TG) (tt : TT) (te : TE) (vs : List Nat) (m : Tr (Option D)) : Prop := ∀ U σ H b v (Q : Option V → Hp → Prop), Rel g U H σ ε → Wd g H b → UOk g U H → Den g U H v d → Al (okO g U H Q) (fun _ _ _ => False) m b →
  gt v (wipe σ vs) H fun σ2 H2 => wipe σ2 vs = wipe σ vs ∧ tt σ2 H2 fun k H3 => if k = true then te σ2 H3 (fun y H4 => Q (some y) H4) else Q none H3
theorem al_noX {α : Type} {P : α → Nat → Prop} {X : Str → Fs → Nat → Prop} {m : Tr α} (h : Al P X (nox m) b) : Al P (fun _ _ _ => False) m b := al_nox h
theorem se_lc {wi : TI} {gt : TG} {tt : TT} {vs : List Nat} {mi : Tr (List D)} {f : D → Tr (Option D)} (hi : SI g E ε wi mi) (hf : ∀ d, SC g ε d gt tt te vs (f d)) : SE g E ε (tLc wi gt tt te vs) (bd mi fun ds => bd (lcF (fun d => nox (f d)) ds) fun r => .ok (.lst r)) := fun U σ H b Q rl wd u q => by
  refine hi U σ H b _ rl wd u ((al_bd.mp q).mono (fun ds b1 h1 J H1 hsz it w1 f1 => ?_) (fun _ _ _ h => h))
  intro A nA
  have u1 := u.fr f1 w1
  have nUA : ¬ U A := u1.new nA
  have hp : A ≠ g.p := fun z => nUA (z ▸ u.p)
  have hc : A ≠ g.c := fun z => nUA (z ▸ u.c)
  have rl1 := (rl.fr u f1).grow nA
  generalize hV : (fun a => U a ∨ a = A) = V at rl1
  have VA : V A := by rw [← hV]; exact .inr rfl
  have VU : ∀ a, U a → V a := fun a z => by rw [← hV]; exact .inl z
  have VO : ∀ a o, H1 a = some o → ¬ U a → ¬ V a := fun a o e n => by
    rw [← hV]
    rintro (z | z)
    · exact n z
    · exact ne_of_none e nA z
  have uv : ∀ {H' : Hp} {b : Nat} {o : List L2.V}, Fr H1 H' g.p → Wd g H' b → H' A = some (.lst o) → UOk g V H' := fun f w h => ⟨VU _ u.p, VU _ u.c, fun a ha => by
    rw [← hV] at ha
    rcases ha with ha | rfl
    · exact (u1.fr f w).al a ha
    · exact ⟨_, h, (fun _ z => by cases z), (fun _ z => by cases z)⟩⟩
  refine ⟨fun i m H' => ∃ b' accV accD, m = ds.length - i ∧ i ≤ ds.length ∧ accV.length ≤ i ∧ H' A = some (.lst accV) ∧ DenL g V H' accV accD ∧ Wd g H' b' ∧ Fr H1 H' g.p ∧ Al (fun r b => okP g U H Q (.lst (accD ++ r)) b) (exP g U E H) (lcF (fun d => nox (f d)) (ds.drop i)) b', ?_, ?_⟩
  · refine ⟨ds.length, b1, [], [], by simp, Nat.zero_le _, Nat.zero_le _, upd_same, .nil, w1.same (same_new nA), fr_same (same_new nA), ?_⟩
    exact (al_bd.mp h1).mono (fun r b h => h) (fun _ _ _ h => h)
  · rintro i m H' ⟨b', accV, accD, rfl, hle, hla, hA, dA, w', f', q'⟩
    have u' := uv f' w' hA
    have ev' : Ev U H1 V H' := ⟨fun a o e n t => f' a o e (fun z => n (z ▸ u.p)) t, fun a o e n _ => VO a o e n⟩
    obtain ⟨it1, it2⟩ := it i V H' b' ev' w' u'
    by_cases hlt : i < ds.length
    · have ei : ds[i]? = some ds[i] := List.getElem?_eq_getElem hlt
      obtain ⟨go, y⟩ := it1 _ ei
      rw [List.drop_eq_getElem_cons hlt, lcF_cons] at q'
      refine .inr ⟨go, fun H' => ∃ b' accV accD, accV.length ≤ i + 1 ∧ H' A = some (.lst accV) ∧ DenL g V H' accV accD ∧ Wd g H' b' ∧ Fr H1 H' g.p ∧ Al (fun r b => okP g U H Q (.lst (accD ++ r)) b) (exP g U E H) (lcF (fun d => nox (f d)) (ds.drop (i + 1))) b', ?_, ?_⟩
      · rintro H2 ⟨b2, av, ad, h1, h2⟩
        exact ⟨ds.length - (i + 1), by omega, b2, av, ad, rfl, hlt, h1, h2⟩
      · intro x H2 hy
        obtain ⟨dn, sm⟩ := y x H2 hy
        have w2 := w'.same sm
        have f2 : Fr H1 H2 g.p := f'.trans (fr_same sm)
        have hA2 := sm _ _ hA
        refine hf ds[i] V σ H2 b' x (fun o H4 => match o with
          | some y => ∃ acc, H4 A = some (.lst acc) ∧ acc.length < sizeLine ∧ ∃ b' accV accD, accV.length ≤ i + 1 ∧ (upd H4 A (.lst (acc ++ [y]))) A = some (.lst accV) ∧ DenL g V (upd H4 A (.lst (acc ++ [y]))) accV accD ∧ Wd g (upd H4 A (.lst (acc ++ [y]))) b' ∧ Fr H1 (upd H4 A (.lst (acc ++ [y]))) g.p ∧ Al (fun r b => okP g U H Q (.lst (accD ++ r)) b) (exP g U E H) (lcF (fun d => nox (f d)) (ds.drop (i + 1))) b'
          | none => ∃ b' accV accD, accV.length ≤ i + 1 ∧ H4 A = some (.lst accV) ∧ DenL g V H4 accV accD ∧ Wd g H4 b' ∧ Fr H1 H4 g.p ∧ Al (fun r b => okP g U H Q (.lst (accD ++ r)) b) (exP g U E H) (lcF (fun d => nox (f d)) (ds.drop (i + 1))) b')
          (rl1.frp (VU _ u.p) f2) w2 (uv f2 w2 hA2) dn ((al_noX (al_bd.mp q')).mono (fun o b2 h2 => ?_) (fun _ _ _ z => z))
        have h3 := al_bd.mp h2
        cases o with
        | some y =>
          intro w H4 dw w4 f4
          have hA4 := f4 _ _ hA2 hp (fun _ z => by cases z)
          have e4 : ExtU V H4 (upd H4 A (.lst (accV ++ [w]))) := fun a o e n _ => by
            rw [upd_ne (fun z => n (by rw [z]; exact VA))]
            exact e
          have k4 : Keep H4 (upd H4 A (.lst (accV ++ [w]))) A := fun a o e n => by rw [upd_ne n]; exact e
          refine ⟨accV, hA4, Nat.lt_of_le_of_lt hla (Nat.lt_of_lt_of_le hlt hsz), b2, accV ++ [w], accD ++ [y], ?_, upd_same, ?_, ?_, ?_, ?_⟩
          · rw [List.length_append]
            exact Nat.add_le_add_right hla 1
          · exact DenL.append ((dA.ext (extU_of (VU _ u.p) ((fr_same sm).trans f4))).ext e4) (.cons (dw.ext e4) .nil)
          · exact ⟨w4.pen.keep k4 hp hc, tabs_keepL k4 hA4 w4.tabs⟩
          · intro a o e n t
            rw [upd_ne (ne_of_none e nA)]
            exact f4 _ _ (f2 a o e n t) n t
          · exact h3.mono (fun r b h => by
              have : okP g U H Q (.lst (accD ++ (y :: r))) b := h
              rw [List.append_cons] at this
              exact this) (fun _ _ _ z => z)
        | none =>
          intro H4 w4 f4
          exact ⟨b2, accV, accD, Nat.le_succ_of_le hla, f4 _ _ hA2 hp (fun _ z => by cases z), dA.ext (extU_of (VU _ u.p) ((fr_same sm).trans f4)), w4, f2.trans f4, h3.mono (fun r b h => h) (fun _ _ _ z => z)⟩
    · have e : i = ds.length := by omega
      subst e
      rw [List.drop_length, lcF_nil] at q'
      refine .inl ⟨it2 (rfl), ?_⟩
      have q2 : okP g U H Q (.lst (accD ++ [])) b' := q'
      rw [List.append_nil] at q2
      exact q2 _ H' (.lst hA nUA (Nat.le_trans hla hsz) (dA.sub fun a _ z => VU a z)) w' (f1.trans f')
end
end Gp
end
section
set_option Elab.async false
set_option linter.all false
set_option maxRecDepth 100000
set_option maxHeartbeats 4000000
namespace Gp
open PySem PySem.Spec PyProof.Rows L2 Gh
section
variable {g : Gw} {Mt U0 U U' : Addr → Prop} {H0 H H' H1 H2 : Hp} {b b1 : Nat} {σ : L2.St} {ε ε' : Env} {E : XK} {W L W' : Type}
variable {env : W → Env} {envL : L → Env} {env' : W' → Env} {u ta tb : TS} {te : TE} {me : Tr D}
theorem sc_map {i : Nat} {d : D} (he : SE g EF (ε.set i (.fz d)) te me) : SC g ε d (gName i) tYes te [i] (bd me fun y => .ok (some y)) := fun U σ H b v Q rl wd u dn q => by
  have e1 : wipe σ [i] = σ.set i none := rfl
  rw [e1]
  show wipe ((σ.set i none).set i (some v)) [i] = _ ∧ _
  rw [List.set_set]
  refine ⟨?_, ?_⟩
  · show (σ.set i (some v)).set i none = _
    rw [List.set_set]
  · show te (σ.set i (some v)) H fun y H4 => Q (some y) H4
    refine he.step (rl.set i dn) wd u (q.mono (fun _ _ z => z) (fun _ _ _ z => exP.F z)) fun y e H2 b2 d2 w2 f2 R2 u2 q2 => ?_
    exact q2 y H2 d2 w2 f2
theorem ownAt_setO {i j : Nat} {v : V} {ds : Ow} {a : Addr} (h : OwnAt (σ.set i (some v)) (ε.set i (.ow ds)) j a) : (i = j ∧ v = .ref a) ∨ (i ≠ j ∧ OwnAt σ ε j a) := by
  obtain ⟨h1, h2⟩ := h
  by_cases e : i = j
  · subst e
    rw [List.getElem?_set_self'] at h1
    cases q : σ[i]? with
    | none => rw [q] at h1; cases h1
    | some z => rw [q] at h1; cases h1; exact .inl ⟨rfl, rfl⟩
  · rw [List.getElem?_set_ne e] at h1 h2
    exact .inr ⟨e, h1, h2⟩
end
end Gp
end
section
set_option Elab.async false
set_option linter.all false
set_option maxRecDepth 100000
set_option maxHeartbeats 4000000
namespace Gp
open PySem PySem.Spec PyProof.Rows L2 Gh
section
variable {g : Gw} {Mt U0 U U' : Addr → Prop} {H0 H H' H1 H2 : Hp} {b b1 : Nat} {σ : L2.St} {ε ε' : Env} {E : XK} {W L W' : Type}
variable {env : W → Env} {envL : L → Env} {env' : W' → Env} {u ta tb : TS} {te : TE} {me : Tr D}
def spF (K : PySem.W.Frag) (T : List (Addr × Str)) (F : List D → Tr D) : Sp := fun vs H Q E => ∃ p c U ds b, DenL ⟨K, T, p, c⟩ U H vs ds ∧ Wd ⟨K, T, p, c⟩ H b ∧ UOk ⟨K, T, p, c⟩ U H ∧ Al (okP ⟨K, T, p, c⟩ U H Q) (exP ⟨K, T, p, c⟩ U E H) (F ds) b
def envE : Empty → Env := fun e => nomatch e
theorem rel_start {N : List Str} {vs : List V} {ds : List D} (h : DenL g U H vs ds) : Rel g U H (L2.start N vs) (ds.map Sl.fz ++ List.replicate (N.length - ds.length) Sl.no) := by
  have no : ∀ i a, ¬ OwnAt (L2.start N vs) (ds.map Sl.fz ++ List.replicate (N.length - ds.length) Sl.no) i a := fun i a ⟨_, z⟩ => by
    have : ∀ s : Sl, (ds.map Sl.fz ++ List.replicate (N.length - ds.length) Sl.no)[i]? = some s → (∃ d, s = .fz d) ∨ s = .no := fun s e => by
      have m := List.mem_of_getElem? e
      rcases List.mem_append.mp m with m | m
      · obtain ⟨d, _, e⟩ := List.mem_map.mp m
        exact .inl ⟨d, e.symm⟩
      · exact .inr (List.mem_replicate.mp m).2
    rcases z with ⟨x, z⟩ | ⟨x, y, z⟩
    · rcases this _ z with ⟨d, e⟩ | e <;> cases e
    · rcases this _ z with ⟨d, e⟩ | e <;> cases e
  have hl := h.length
  refine ⟨?_, fun i s e => ?_, fun i j a _ h1 _ => (no i a h1).elim⟩
  · unfold L2.start
    simp only [List.length_append, List.length_map, List.length_replicate, hl]
  · unfold L2.start
    by_cases q : i < ds.length
    · rw [List.getElem?_append_left (by rw [List.length_map]; exact q), List.getElem?_map] at e
      rw [List.getElem?_append_left (by rw [List.length_map, hl]; exact q), List.getElem?_map]
      cases z : ds[i]? with
      | none => rw [z] at e; cases e
      | some d =>
        rw [z] at e
        cases e
        obtain ⟨v, hv, dn⟩ := h.getD z
        rw [hv]
        exact ⟨some v, rfl, v, rfl, dn⟩
    · rw [List.getElem?_append_right (by rw [List.length_map]; omega), List.length_map] at e
      rw [List.getElem?_append_right (by rw [List.length_map, hl]; omega), List.length_map, hl]
      have m := List.mem_of_getElem? e
      obtain ⟨n0, rfl⟩ := List.mem_replicate.mp m
      have i1 := (List.getElem?_eq_some_iff.mp e).1
      rw [List.length_replicate] at i1
      exact ⟨none, by rw [List.getElem?_replicate, if_pos i1], trivial⟩
theorem fn_of {K : PySem.W.Frag} {T : List (Addr × Str)} {N : List Str} {F : List D → Tr D} {vs : List V} {Q : VK} {t : TS} {envU : Unit → Env} (h : spF K T F vs H Q E)
    (hs : ∀ p c ds, (∃ (P : D → Nat → Prop) (X : Str → Fs → Nat → Prop) (b : Nat), Al P X (F ds) b) → ∃ m, F ds = fin m ∧ SS ⟨K, T, p, c⟩ E (ds.map Sl.fz ++ List.replicate (N.length - ds.length) Sl.no) t envU envE m) : t { nx := fun _ H' => Q .non H', rt := Q } (L2.start N vs) H := by
  obtain ⟨p, c, U, ds, b, dn, wd, u, al⟩ := h
  obtain ⟨m, e, ss⟩ := hs p c ds ⟨_, _, _, al⟩
  rw [e] at al
  have nn : ∀ i a, ¬ OwnAt (L2.start N vs) (ds.map Sl.fz ++ List.replicate (N.length - ds.length) Sl.no) i a := fun i a ⟨_, z⟩ => by
    have : ∀ s : Sl, (ds.map Sl.fz ++ List.replicate (N.length - ds.length) Sl.no)[i]? = some s → (∃ d, s = .fz d) ∨ s = .no := fun s e => by
      have m := List.mem_of_getElem? e
      rcases List.mem_append.mp m with m | m
      · obtain ⟨d, _, e⟩ := List.mem_map.mp m
        exact .inl ⟨d, e.symm⟩
      · exact .inr (List.mem_replicate.mp m).2
    rcases z with ⟨x, z⟩ | ⟨x, y, z⟩
    · rcases this _ z with ⟨d, e⟩ | e <;> cases e
    · rcases this _ z with ⟨d, e⟩ | e <;> cases e
  refine ss (fun _ => False) U H U _ _ H b ⟨rel_start dn, wd, u, fun _ z => z, fun i a z => (nn i a z).elim, fun _ _ z _ _ _ => z, fun i ds' a z1 z2 => (nn i a ⟨z2, .inl ⟨ds', z1⟩⟩).elim, fun i c fs a _ z1 z2 => (nn i a ⟨z2, .inr ⟨c, fs, z1⟩⟩).elim⟩ ((al_bd.mp al).mono (fun f b1 h1 => ?_) (fun c fs b1 h1 => ?_))
  · cases f with
    | nx w => exact fun U' σ' H' e s => h1 .non H' .non s.wd fun a o z1 z2 z3 => s.ext a o z1 z2 (fun z => z) z3
    | rt d => exact fun v H' dn w f => h1 v H' dn w fun a o z1 z2 z3 => f a o z1 z2 (fun z => z) z3
    | bk e => exact nomatch e
    | ct e => exact nomatch e
  · exact fun dd fvs H' z1 z2 z3 z4 z5 => h1 dd fvs H' z1 z2 z3 z4 fun a o y1 y2 y3 => z5 a o y1 y2 (fun z => z) y3
theorem le_no : ∀ (ε : Env) {n : Nat}, ε.length = n → Le (List.replicate n Sl.no) ε
  | [], _, rfl => .nil
  | x :: r, _, rfl => by
    show Le (List.replicate (r.length + 1) Sl.no) (x :: r)
    rw [List.replicate_succ]
    exact .n (le_no r rfl)
theorem fn_of1 {K : PySem.W.Frag} {T : List (Addr × Str)} {N : List Str} {F : D → Tr D} {vs : List V} {Q : VK} {t : TS} {envU : Unit → Env} {m : D → Tr (Fl Unit Empty)} (h : spF K T (ul1 F) vs H Q E) (hF : ∀ x, F x = fin (m x)) (hs : ∀ p c x, SS ⟨K, T, p, c⟩ E ([x].map Sl.fz ++ List.replicate (N.length - 1) Sl.no) t envU envE (m x)) : t { nx := fun _ H' => Q .non H', rt := Q } (L2.start N vs) H :=
  fn_of h fun p c ds ⟨_, _, _, al⟩ => by
    obtain ⟨x, rfl, _⟩ := al_ul1 al
    exact ⟨m x, hF x, hs p c x⟩
theorem fn_of2 {K : PySem.W.Frag} {T : List (Addr × Str)} {N : List Str} {F : D → D → Tr D} {vs : List V} {Q : VK} {t : TS} {envU : Unit → Env} {m : D → D → Tr (Fl Unit Empty)} (h : spF K T (ul2 F) vs H Q E) (hF : ∀ x y, F x y = fin (m x y)) (hs : ∀ p c x y, SS ⟨K, T, p, c⟩ E ([x, y].map Sl.fz ++ List.replicate (N.length - 2) Sl.no) t envU envE (m x y)) : t { nx := fun _ H' => Q .non H', rt := Q } (L2.start N vs) H :=
  fn_of h fun p c ds ⟨_, _, _, al⟩ => by
    obtain ⟨x, y, rfl, _⟩ := al_ul2 al
    exact ⟨m x y, hF x y, hs p c x y⟩
theorem fn_of3 {K : PySem.W.Frag} {T : List (Addr × Str)} {N : List Str} {F : D → D → D → Tr D} {vs : List V} {Q : VK} {t : TS} {envU : Unit → Env} {m : D → D → D → Tr (Fl Unit Empty)} (h : spF K T (ul3 F) vs H Q E) (hF : ∀ x y z, F x y z = fin (m x y z)) (hs : ∀ p c x y z, SS ⟨K, T, p, c⟩ E ([x, y, z].map Sl.fz ++ List.replicate (N.length - 3) Sl.no) t envU envE (m x y z)) : t { nx := fun _ H' => Q .non H', rt := Q } (L2.start N vs) H :=
  fn_of h fun p c ds ⟨_, _, _, al⟩ => by
    obtain ⟨x, y, z, rfl, _⟩ := al_ul3 al
    exact ⟨m x y z, hF x y z, hs p c x y z⟩
theorem fn_of4 {K : PySem.W.Frag} {T : List (Addr × Str)} {N : List Str} {F : D → D → D → D → Tr D} {vs : List V} {Q : VK} {t : TS} {envU : Unit → Env} {m : D → D → D → D → Tr (Fl Unit Empty)} (h : spF K T (ul4 F) vs H Q E) (hF : ∀ x y z w, F x y z w = fin (m x y z w)) (hs : ∀ p c x y z w, SS ⟨K, T, p, c⟩ E ([x, y, z, w].map Sl.fz ++ List.replicate (N.length - 4) Sl.no) t envU envE (m x y z w)) : t { nx := fun _ H' => Q .non H', rt := Q } (L2.start N vs) H :=
  fn_of h fun p c ds ⟨_, _, _, al⟩ => by
    obtain ⟨x, y, z, w, rfl, _⟩ := al_ul4 al
    exact ⟨m x y z w, hF x y z w, hs p c x y z w⟩
theorem spF_len {K : PySem.W.Frag} {T : List (Addr × Str)} {F : List D → Tr D} {n : Nat} (hn : ∀ (P : D → Nat → Prop) (X : Str → Fs → Nat → Prop) ds b, Al P X (F ds) b → ds.length = n) {vs : List V} {Q : VK} (h : spF K T F vs H Q E) : vs.length = n := by
  obtain ⟨p, c, U, ds, b, dn, wd, u, al⟩ := h
  rw [dn.length]
  exact hn _ _ _ _ al
theorem len1 {F : D → Tr D} (P : D → Nat → Prop) (X : Str → Fs → Nat → Prop) (ds : List D) (b : Nat) (h : Al P X (ul1 F ds) b) : ds.length = 1 := by obtain ⟨_, rfl, _⟩ := al_ul1 h; rfl
theorem len2 {F : D → D → Tr D} (P : D → Nat → Prop) (X : Str → Fs → Nat → Prop) (ds : List D) (b : Nat) (h : Al P X (ul2 F ds) b) : ds.length = 2 := by obtain ⟨_, _, rfl, _⟩ := al_ul2 h; rfl
theorem len3 {F : D → D → D → Tr D} (P : D → Nat → Prop) (X : Str → Fs → Nat → Prop) (ds : List D) (b : Nat) (h : Al P X (ul3 F ds) b) : ds.length = 3 := by obtain ⟨_, _, _, rfl, _⟩ := al_ul3 h; rfl
theorem len4 {F : D → D → D → D → Tr D} (P : D → Nat → Prop) (X : Str → Fs → Nat → Prop) (ds : List D) (b : Nat) (h : Al P X (ul4 F ds) b) : ds.length = 4 := by obtain ⟨_, _, _, _, rfl, _⟩ := al_ul4 h; rfl
theorem srl_sp0 {F : List D → Tr D} : SRL g E (rSp (spF g.K g.T F) [] E) F := fun U H b xs dxs Q dn wd u q =>
  ⟨g.p, g.c, U, dxs, b, by rw [List.append_nil]; exact dn, wd, u, q⟩
theorem al_isO {α : Type} {P : α → Nat → Prop} {X : Str → Fs → Nat → Prop} {c : Str} {o : D} {k : Fs → Tr α} (h : Al P X (isO c o k) b) : ∃ fs, o = .obj c fs ∧ Al P X (k fs) b := by
  unfold isO at h
  split at h
  · split at h
    · rename_i e
      subst e
      exact ⟨_, rfl, h⟩
    · exact h.elim
  · exact h.elim
theorem den_obj {v : V} {c : Str} {fs : Fs} (h : Den g U H v (.obj c fs)) : ∃ a dx fvs, v = .ref a ∧ H a = some (.ins (gd c g.K) dx fvs) ∧ ¬ U a ∧ DenF g U H fvs fs := by
  cases h with
  | obj h n k => exact ⟨_, _, _, rfl, h, n, k⟩
theorem se_mt {c m : Str} {r : List V → Hp → VK → Prop} {f : List D → Tr D} {ta : TE} {ma : Tr D} {t : TA} {mt : Tr (List D)} (hr : SRL g E r f) (ha : SE g E ε ta ma) (ht : SA g E ε t mt) :
    SE g E ε (tMt (gd c g.K) m r ta t) (bd ma fun o => isO c o fun fs => if fs.lookup m = none then bd mt fun ds => f (o :: ds) else .bad) := fun U σ H b Q R W u q =>
  ha.step R W u q fun v d H1 b1 d1 w1 f1 R1 u1 q1 => by
    obtain ⟨fs, rfl, q2⟩ := al_isO q1
    obtain ⟨a, dx, fvs, rfl, ea, na, df⟩ := den_obj d1
    by_cases hl : fs.lookup m = none
    · rw [if_pos hl] at q2
      refine ⟨a, dx, fvs, rfl, ea, df.look0 hl, ?_⟩
      refine ht.step R1 w1 u1 q2 fun vs ds H2 b2 d2 w2 f2 R2 u2 q3 => ?_
      exact hr U H2 b2 _ _ Q (.cons (d1.fr u1 f2) d2) w2 u2 (q3.mono (fun _ _ h => h.fr (f1.trans f2)) (fun _ _ _ h => h))
    · rw [if_neg hl] at q2
      exact q2.elim
theorem se_pr {c : Str} {F : List D → Tr D} {ta : TE} {ma : Tr D} (ha : SE g EF ε ta ma) : SE g EF ε (tPr (gd c g.K) (spF g.K g.T F) [] EF ta) (bd ma fun o => isO c o fun _ => F [o]) := fun U σ H b Q R W u q =>
  ha.step R W u q fun v d H1 b1 d1 w1 f1 R1 u1 q1 => by
    obtain ⟨fs, rfl, q2⟩ := al_isO q1
    obtain ⟨a, dx, fvs, rfl, ea, na, df⟩ := den_obj d1
    exact ⟨a, dx, fvs, rfl, ea, g.p, g.c, U, [.obj c fs], b1, .cons d1 .nil, w1, u1, q2.mono (fun _ _ h => h.fr f1) (fun _ _ _ h => h)⟩
theorem sr_fld {c f : Str} : SR1 g E (rFld (gd c g.K) f) (fldD c f) := fun U H b x dx Q dn wd u q => by
  obtain ⟨fs, rfl, q2⟩ := al_isO q
  obtain ⟨a, dx, fvs, rfl, ea, na, df⟩ := den_obj dn
  cases e : fs.lookup f with
  | none => rw [e] at q2; exact q2.elim
  | some d =>
    rw [e] at q2
    obtain ⟨v, hv, d1⟩ := df.look e
    exact st_fld ea hv (okP.here q2 wd d1)
def spI (K : PySem.W.Frag) (T : List (Addr × Str)) (cn : Str) (F : Fs → List D → Tr Fs) : Sp := fun vs H Q E => ∃ p c U ds b x dx fvs fs rest, vs = .ref x :: rest ∧ H x = some (.ins (gd cn K) dx fvs) ∧ DenF ⟨K, T, p, c⟩ U H fvs fs ∧ U x ∧ x ≠ p ∧ x ≠ c ∧ DenL ⟨K, T, p, c⟩ U H rest ds ∧
  Wd ⟨K, T, p, c⟩ H b ∧ UOk ⟨K, T, p, c⟩ U H ∧ Al (fun fs' b' => ∀ dx' fvs' H', H' x = some (.ins (gd cn K) dx' fvs') → DenF ⟨K, T, p, c⟩ U H' fvs' fs' → Wd ⟨K, T, p, c⟩ H' b' → FrM ⟨K, T, p, c⟩ (· = x) H H' → Q .non H')
    (fun cn fs b => ∀ dd fvs H', H' dd = some (.xd fvs) → ¬ U dd → DenF ⟨K, T, p, c⟩ U H' fvs fs → Wd ⟨K, T, p, c⟩ H' b → FrM ⟨K, T, p, c⟩ (· = x) H H' → E (.ref (gd cn K)) (some dd) H') (F fs ds) b
theorem srl_mk {cn : Str} {F : Fs → List D → Tr Fs} {dvs : List V} {dds : List D} (hd : ∀ U H, DenL g U H dvs dds) : SRL g E (rMk (gd cn g.K) (spI g.K g.T cn F) dvs E) (fun ds => bd (F [] (ds ++ dds)) fun fs => .ok (.obj cn fs)) := fun U H b xs dxs Q dn wd u q => by
  unfold rMk
  intro x dx nx ndx ne
  have s1 : L2.Same H (upd (upd H dx (.own x)) x (.ins (gd cn g.K) dx [])) := fun a o e => by
    rw [upd_ne (ne_of_none e nx), upd_ne (ne_of_none e ndx)]
    exact e
  have nU : ¬ U x := u.new nx
  have hp : x ≠ g.p := fun z => nU (z ▸ u.p)
  have hc : x ≠ g.c := fun z => nU (z ▸ u.c)
  have sx : ∀ a, (∃ o, H a = some o) → (U a ∨ a = x) → U a := fun a ⟨o, e⟩ z => z.elim (fun z => z) (fun z => (ne_of_none e nx z).elim)
  have k1 : DenL g (fun a => U a ∨ a = x) (upd (upd H dx (.own x)) x (.ins (gd cn g.K) dx [])) (xs ++ dvs) (dxs ++ dds) := ((dn.append (hd U H)).grow nx).ext (fun a o e _ _ => s1 a o e)
  have k2 : UOk g (fun a => U a ∨ a = x) (upd (upd H dx (.own x)) x (.ins (gd cn g.K) dx [])) := ⟨.inl u.p, .inl u.c, fun a ha => by
    rcases ha with ha | rfl
    · obtain ⟨o, e, t⟩ := u.al a ha
      exact ⟨o, s1 a o e, t⟩
    · exact ⟨_, upd_same, (fun _ z => by cases z), (fun _ z => by cases z)⟩⟩
  have fr : ∀ {H' : Hp}, FrM g (· = x) (upd (upd H dx (.own x)) x (.ins (gd cn g.K) dx [])) H' → Fr H H' g.p := fun f1 a o e n t => f1 a o (s1 a o e) n (fun z => ne_of_none e nx z) t
  exact ⟨g.p, g.c, fun a => U a ∨ a = x, dxs ++ dds, b, x, dx, [], [], xs ++ dvs, rfl, upd_same, .nil, .inr rfl, hp, hc, k1, wd.same s1, k2,
    (al_bd.mp q).mono (fun fs b1 h1 dx' fvs' H' e1 d1 w1 f1 => ⟨rfl, h1 _ H' (.obj e1 nU (d1.sub fun a _ z => .inl z)) w1 (fr f1)⟩) (fun c fs b1 h1 dd fvs H' e1 n1 d1 w1 f1 => h1 dd fvs H' e1 (fun z => n1 (.inl z)) (d1.sub fun a _ z => .inl z) w1 (fr f1))⟩
theorem srl_mk0 {cn : Str} {F : Fs → List D → Tr Fs} : SRL g E (rMk (gd cn g.K) (spI g.K g.T cn F) [] E) (fun ds => bd (F [] ds) fun fs => .ok (.obj cn fs)) := by
  have h := srl_mk (g := g) (E := E) (cn := cn) (F := F) (dvs := []) (dds := []) (fun _ _ => .nil)
  intro U H b xs dxs Q dn wd u q
  refine h U H b xs dxs Q dn wd u ?_
  show Al _ _ (bd (F [] (dxs ++ [])) _) b
  rw [List.append_nil]
  exact q
def finI (m : Tr (Fl Fs Empty)) : Tr Fs := bd m fun f => match f with
  | .nx fs => .ok fs
  | .rt _ => .bad
  | .bk e => nomatch e
  | .ct e => nomatch e
theorem ini_of {K : PySem.W.Frag} {T : List (Addr × Str)} {N : List Str} {cn : Str} {F : Fs → List D → Tr Fs} {vs : List V} {Q : VK} {t : TS} {envI : Fs → Env} (h : spI K T cn F vs H Q E)
    (hs : ∀ p c fs ds, (∃ (P : Fs → Nat → Prop) (X : Str → Fs → Nat → Prop) (b : Nat), Al P X (F fs ds) b) → ∃ m, F fs ds = finI m ∧ SS ⟨K, T, p, c⟩ E (.oi cn fs :: (ds.map Sl.fz ++ List.replicate (N.length - (ds.length + 1)) Sl.no)) t envI envE m)
    (he : ∀ fs, (envI fs)[0]? = some (.oi cn fs)) : t { nx := fun _ H' => Q .non H', rt := Q } (L2.start N vs) H := by
  obtain ⟨p, c, U, ds, b, x, dx, fvs, fs, rest, rfl, hx, df, ux, np, nc, dn, wd, u, al⟩ := h
  obtain ⟨m, e, ss⟩ := hs p c fs ds ⟨_, _, _, al⟩
  rw [e] at al
  have st0 : L2.start N (.ref x :: rest) = some (.ref x) :: (rest.map some ++ List.replicate (N.length - (rest.length + 1)) none) := rfl
  have r1 : Rel ⟨K, T, p, c⟩ U H (rest.map some ++ List.replicate (N.length - (rest.length + 1)) none) (ds.map Sl.fz ++ List.replicate (N.length - (ds.length + 1)) Sl.no) := by
    have z := rel_start (g := ⟨K, T, p, c⟩) (N := N.drop 1) dn
    unfold L2.start at z
    rw [List.length_drop, Nat.sub_sub, Nat.sub_sub, Nat.add_comm 1, Nat.add_comm 1] at z
    exact z
  have nn : ∀ i a, ¬ OwnAt (rest.map some ++ List.replicate (N.length - (rest.length + 1)) none) (ds.map Sl.fz ++ List.replicate (N.length - (ds.length + 1)) Sl.no) i a := fun i a ⟨_, z⟩ => by
    have : ∀ s : Sl, (ds.map Sl.fz ++ List.replicate (N.length - (ds.length + 1)) Sl.no)[i]? = some s → (∃ d, s = .fz d) ∨ s = .no := fun s e => by
      have m := List.mem_of_getElem? e
      rcases List.mem_append.mp m with m | m
      · obtain ⟨d, _, e⟩ := List.mem_map.mp m
        exact .inl ⟨d, e.symm⟩
      · exact .inr (List.mem_replicate.mp m).2
    rcases z with ⟨x, z⟩ | ⟨x, y, z⟩
    · rcases this _ z with ⟨d, e⟩ | e <;> cases e
    · rcases this _ z with ⟨d, e⟩ | e <;> cases e
  have own : ∀ i a, OwnAt (L2.start N (.ref x :: rest)) (.oi cn fs :: (ds.map Sl.fz ++ List.replicate (N.length - (ds.length + 1)) Sl.no)) i a → i = 0 ∧ a = x := fun i a z => by
    rw [st0] at z
    obtain ⟨z1, z2⟩ := z
    cases i with
    | zero =>
      rw [List.getElem?_cons_zero] at z1
      cases z1
      exact ⟨rfl, rfl⟩
    | succ i =>
      rw [List.getElem?_cons_succ] at z1
      rw [List.getElem?_cons_succ] at z2
      exact (nn i a ⟨z1, z2⟩).elim
  refine ss (· = x) U H U _ _ H b ⟨⟨?_, fun i s e => ?_, fun i j a ne h1 h2 => ?_⟩, wd, u, fun _ z => z, fun i a z => .inl (own i a z).2, fun _ _ z _ _ _ => z, fun i ds' a z1 z2 => ?_, fun i c' fs' a _ z1 z2 => (own i a ⟨z2, .inr ⟨c', fs', z1⟩⟩).2⟩ ((al_bd.mp al).mono (fun f b1 h1 => ?_) (fun c fs b1 h1 => ?_))
  · rw [st0, List.length_cons, List.length_cons, r1.len]
  · rw [st0]
    cases i with
    | zero =>
      rw [List.getElem?_cons_zero] at e
      cases e
      exact ⟨_, rfl, x, dx, fvs, rfl, hx, df, ux, np, nc⟩
    | succ i =>
      rw [List.getElem?_cons_succ] at e
      rw [List.getElem?_cons_succ]
      exact r1.at_ i s e
  · exact ne ((own _ _ h1).1.trans (own _ _ h2).1.symm)
  · obtain ⟨rfl, _⟩ := own i a ⟨z2, .inl ⟨ds', z1⟩⟩
    cases z1
  · cases f with
    | nx w =>
      intro U' σ' H' ev s
      obtain ⟨o, e1, a, dx', fvs', rfl, ha, da, ua, _, _⟩ := s.rel.at_ 0 _ (he w)
      have ea := s.oim 0 cn w a rfl (he w) e1
      subst ea
      exact h1 dx' fvs' H' ha (da.sub fun z _ y => s.sub z y) s.wd s.ext
    | rt d => exact h1.elim
    | bk e => exact nomatch e
    | ct e => exact nomatch e
  · exact fun dd fvs H' z1 z2 z3 z4 z5 => h1 dd fvs H' z1 z2 z3 z4 z5
end
end Gp
end
section
set_option Elab.async false
set_option linter.all false
set_option maxRecDepth 100000
set_option maxHeartbeats 4000000
namespace Gp
open PySem PySem.Spec PyProof.Rows L2 Gh
section
variable {g : Gw} {U : Addr → Prop} {H H' H1 : Hp} {b : Nat} {E : XK} {Q : VK}
theorem denL_dp {K : PySem.W.Frag} : ∀ {vs : List V} {ds : List D} {es : List PyData}, DenL g U H vs ds → (∀ d ∈ ds, ∀ v e, Den g U H v d → toPy d = some e → Dp g.K H v e) → toPyL ds = some es → DpAll g.K H vs es
  | _, _, _, .nil, _, h => by cases h; exact .nil
  | _, d :: ds, es, .cons a r, ih, h => by
    unfold toPyL at h
    cases e1 : toPy d with
    | none => rw [e1] at h; cases h
    | some e =>
      cases e2 : toPyL ds with
      | none => rw [e1, e2] at h; cases h
      | some es' =>
        rw [e1, e2] at h
        cases h
        exact .cons (ih d List.mem_cons_self _ _ a e1) (denL_dp (K := K) r (fun d hd => ih d (List.mem_cons_of_mem _ hd)) e2)
theorem den_dp : ∀ (d : D) {v : V} {e : PyData}, Den g U H v d → toPy d = some e → Dp g.K H v e
  | .non, _, _, h, z => by cases h; cases z; exact .non
  | .bl b, _, _, h, z => by cases h; cases z; exact .bl b
  | .int i, _, _, h, z => by cases h; cases z; exact .int i
  | .str x, _, _, h, z => by cases h; cases z; exact .str x
  | .tup ds, v, e, h, z => by
    unfold toPy at z
    cases q : toPyL ds with
    | none => rw [q] at z; cases z
    | some es =>
      rw [q] at z
      cases z
      obtain ⟨a, vs, rfl, sq, _, k⟩ := den_tup h
      exact .tup sq (denL_dp (K := g.K) k (fun d hd v e h1 h2 => den_dp d h1 h2) q)
  | .lst ds, v, e, h, z => by
    unfold toPy at z
    cases q : toPyL ds with
    | none => rw [q] at z; cases z
    | some es =>
      rw [q] at z
      cases z
      obtain ⟨a, vs, rfl, hh, _, _, k⟩ := den_lst h
      exact .lst (SqL.of hh) (denL_dp (K := g.K) k (fun d hd v e h1 h2 => den_dp d h1 h2) q)
  | .obj _ _, _, _, _, z => by cases z
  | .err _ _, _, _, _, z => by cases z
  | .pen, _, _, _, z => by cases z
theorem new_lst {vs : List V} {ds : List D} (q : okP g U H Q (.lst ds) b) (w : Wd g H b) (u : UOk g U H) (l : vs.length ≤ sizeLine) (dn : DenL g U H vs ds) : ∀ p, H p = none → Q (.ref p) (upd H p (.lst vs)) := fun p np =>
  q _ _ (.lst upd_same (u.new np) l (dn.ext (fun a o e _ _ => same_new np a o e))) (w.same (same_new np)) (fr_same (same_new np))
theorem new_tup {vs : List V} {ds : List D} (q : okP g U H Q (.tup ds) b) (w : Wd g H b) (u : UOk g U H) (l : vs.length ≤ sizeLine) (dn : DenL g U H vs ds) : ∀ p, H p = none → Q (.ref p) (upd H p (.tup vs)) := fun p np =>
  q _ _ (.tup upd_same (u.new np) l (dn.ext (fun a o e _ _ => same_new np a o e))) (w.same (same_new np)) (fr_same (same_new np))
def iiD (f : Int → Int → D) (x y : D) : Tr D := match x, y with
  | .int i, .int j => .ok (f i j)
  | _, _ => .bad
def iicD (c : Int → Int → Prop) [∀ i j, Decidable (c i j)] (f : Int → Int → D) (x y : D) : Tr D := match x, y with
  | .int i, .int j => if c i j then .ok (f i j) else .bad
  | _, _ => .bad
theorem al_ii {P : D → Nat → Prop} {X : Str → Fs → Nat → Prop} {f : Int → Int → D} {x y : D} (h : Al P X (iiD f x y) b) : ∃ i j, x = .int i ∧ y = .int j ∧ P (f i j) b := by
  unfold iiD at h
  split at h
  · exact ⟨_, _, rfl, rfl, h⟩
  · exact h.elim
theorem al_iic {P : D → Nat → Prop} {X : Str → Fs → Nat → Prop} {c : Int → Int → Prop} [∀ i j, Decidable (c i j)] {f : Int → Int → D} {x y : D} (h : Al P X (iicD c f x y) b) : ∃ i j, x = .int i ∧ y = .int j ∧ c i j ∧ P (f i j) b := by
  unfold iicD at h
  split at h
  · split at h
    · exact ⟨_, _, rfl, rfl, by assumption, h⟩
    · exact h.elim
  · exact h.elim
theorem sr_ii {f : Int → Int → D} {f' : Int → Int → V} (hf : ∀ i j U H, Den g U H (f' i j) (f i j)) : SR2 g E (rI0 f') (iiD f) := fun U H b x y dx dy Q d1 d2 w u q => by
  obtain ⟨i, j, rfl, rfl, q1⟩ := al_ii q
  cases den_int d1
  cases den_int d2
  exact ⟨i, j, rfl, rfl, okP.here q1 w (hf i j U H)⟩
theorem sr_iic {c : Int → Int → Prop} [∀ i j, Decidable (c i j)] {c' : Int → Int → Prop} {f : Int → Int → D} {f' : Int → Int → V} (hc : ∀ i j, c i j → c' i j) (hf : ∀ i j U H, Den g U H (f' i j) (f i j)) : SR2 g E (rI c' f') (iicD c f) := fun U H b x y dx dy Q d1 d2 w u q => by
  obtain ⟨i, j, rfl, rfl, hij, q1⟩ := al_iic q
  cases den_int d1
  cases den_int d2
  exact ⟨i, j, rfl, rfl, hc i j hij, okP.here q1 w (hf i j U H)⟩
def ltD : D → D → Tr D := iiD fun i j => .bl (decide (i < j))
def leD : D → D → Tr D := iiD fun i j => .bl (decide (i ≤ j))
def gtD : D → D → Tr D := iiD fun i j => .bl (decide (j < i))
def geD : D → D → Tr D := iiD fun i j => .bl (decide (j ≤ i))
def subD : D → D → Tr D := iiD fun i j => .int (i - j)
def modD : D → D → Tr D := iicD (fun _ j => 0 < j) fun i j => .int (i % j)
def divD : D → D → Tr D := iicD (fun _ j => 0 < j ∧ j < 10 ^ 100) fun i j => .int (i / j)
theorem sr_lt : SR2 g E (rI0 fun i j => .bl (decide (i < j))) ltD := sr_ii fun _ _ _ _ => .bl _
theorem sr_le : SR2 g E (rI0 fun i j => .bl (decide (i ≤ j))) leD := sr_ii fun _ _ _ _ => .bl _
theorem sr_gt : SR2 g E (rI0 fun i j => .bl (decide (j < i))) gtD := sr_ii fun _ _ _ _ => .bl _
theorem sr_sub : SR2 g E (rI0 fun i j => .int (i - j)) subD := sr_ii fun _ _ _ _ => .int _
theorem sr_mod : SR2 g E (rI (fun _ j => 0 < j) fun i j => .int (i % j)) modD := sr_iic (fun _ _ h => h) fun _ _ _ _ => .int _
theorem sr_div : SR2 g E (rI CDivW fun i j => .int (i / j)) divD := sr_iic (fun _ _ h => ⟨h.1, log_of h.1 h.2⟩) fun _ _ _ _ => .int _
def negD (x : D) : Tr D := match x with
  | .int i => .ok (.int (-i))
  | _ => .bad
theorem sr_neg : SR1 g E (rU fun i => .int (-i)) negD := fun U H b x dx Q d1 w u q => by
  cases dx with
  | int i =>
    cases den_int d1
    exact ⟨i, rfl, okP.here q w (.int _)⟩
  | _ => exact q.elim
def addD (x y : D) : Tr D := match x, y with
  | .int i, .int j => .ok (.int (i + j))
  | .str a, .str b => if a.length + b.length ≤ sizeLine then .ok (.str (a ++ b)) else .bad
  | .lst a, .lst b => if a.length + b.length ≤ sizeLine then .ok (.lst (a ++ b)) else .bad
  | .tup a, .tup b => if a.length + b.length ≤ sizeLine then .ok (.tup (a ++ b)) else .bad
  | _, _ => .bad
def rAddA (K : PySem.W.Frag) : R2 := fun x y H Q => rI0 (fun i j => .int (i + j)) x y H Q ∨ (∃ i j, x = .str i ∧ y = .str j ∧ i.length + j.length ≤ sizeLine ∧ Q (.str (i ++ j)) H) ∨ rCat x y H Q ∨ rCatA K x y H Q
theorem op_addA {X : Cx} {K : PySem.W.Frag} (h : X.K = K) : OpR X (binaryOp .Add) (rAddA K) := h ▸ op_add.or (op_add_str.or (op_cat.or op_catA))
theorem str_app_len (a b : Str) : (a ++ b).length = a.length + b.length := by
  show (a.cps ++ b.cps).size = _
  rw [Array.size_append]
  rfl
theorem sr_add : SR2 g E (rAddA g.K) addD := fun U H b x y dx dy Q d1 d2 w u q => by
  unfold addD at q
  split at q
  · rename_i i j
    cases den_int d1
    cases den_int d2
    exact .inl ⟨i, j, rfl, rfl, okP.here q w (.int _)⟩
  · rename_i a c
    split at q
    · rename_i h
      obtain ⟨rfl, l1⟩ := den_str d1
      obtain ⟨rfl, l2⟩ := den_str d2
      exact .inr (.inl ⟨a, c, rfl, rfl, h, okP.here q w (.str _ (by rw [str_app_len]; exact h))⟩)
    · exact q.elim
  · rename_i a c
    split at q
    · rename_i h
      obtain ⟨p1, v1, rfl, h1, n1, l1, k1⟩ := den_lst d1
      obtain ⟨p2, v2, rfl, h2, n2, l2, k2⟩ := den_lst d2
      have hl : v1.length + v2.length ≤ sizeLine := by rw [k1.length, k2.length]; exact h
      exact .inr (.inr (.inl ⟨p1, p2, v1, v2, rfl, rfl, h1, h2, hl, new_lst q w u (by rw [List.length_append]; exact hl) (k1.append k2)⟩))
    · exact q.elim
  · rename_i a c
    split at q
    · rename_i h
      obtain ⟨p1, v1, rfl, h1, l1, k1⟩ := den_tup d1
      obtain ⟨p2, v2, rfl, h2, l2, k2⟩ := den_tup d2
      have hl : v1.length + v2.length ≤ sizeLine := by rw [k1.length, k2.length]; exact h
      refine .inr (.inr (.inr ⟨p1, p2, v1, v2, rfl, rfl, h1, h2, hl, fun e => ?_, fun _ e => ?_, fun _ _ => new_tup q w u (by rw [List.length_append]; exact hl) (k1.append k2)⟩))
      · subst e
        cases k1
        exact okP.here q w d2
      · subst e
        cases k2
        rw [List.append_nil] at q
        exact okP.here q w d1
    · exact q.elim
  · exact q.elim
def mulD (x y : D) : Tr D := match x, y with
  | .int i, .int j => if (-(2 ^ 64) < i ∧ i < 2 ^ 64) ∨ (-(2 ^ 64) < j ∧ j < 2 ^ 64) then .ok (.int (i * j)) else .bad
  | .lst a, .int k => if -(2 ^ 63) ≤ k ∧ k < 2 ^ 63 ∧ a.length * k.toNat ≤ sizeLine then .ok (.lst (List.replicate k.toNat a).flatten) else .bad
  | _, _ => .bad
def rMulA : R2 := fun x y H Q => rI CMul (fun i j => .int (i * j)) x y H Q ∨ rRep x y H Q
theorem op_mulA {X : Cx} : OpR X (binaryOp .Mult) rMulA := op_mul.or op_rep
theorem denL_rep {vs : List V} {ds : List D} (h : DenL g U H vs ds) : ∀ n : Nat, DenL g U H (List.replicate n vs).flatten (List.replicate n ds).flatten
  | 0 => .nil
  | n + 1 => by
    rw [List.replicate_succ, List.replicate_succ, List.flatten_cons, List.flatten_cons]
    exact h.append (denL_rep h n)
theorem sr_mul : SR2 g E rMulA mulD := fun U H b x y dx dy Q d1 d2 w u q => by
  unfold mulD at q
  split at q
  · rename_i i j
    split at q
    · rename_i h
      cases den_int d1
      cases den_int d2
      exact .inl ⟨i, j, rfl, rfl, h, okP.here q w (.int _)⟩
    · exact q.elim
  · rename_i a k
    split at q
    · rename_i h
      obtain ⟨p1, v1, rfl, h1, n1, l1, k1⟩ := den_lst d1
      cases den_int d2
      have e : v1.length * k.toNat ≤ sizeLine := by rw [k1.length]; exact h.2.2
      refine .inr ⟨p1, k, v1, rfl, rfl, h1, h.1, h.2.1, e, new_lst q w u ?_ (denL_rep k1 _)⟩
      rw [(denL_rep k1 k.toNat).length, List.length_flatten, List.map_replicate, List.sum_replicate_nat, Nat.mul_comm]
      exact h.2.2
    · exact q.elim
  · exact q.elim
def rEqA (K : PySem.W.Frag) : R2 := fun x y H Q => rEq x y H Q ∨ rEqD K x y H Q
def rNeA (K : PySem.W.Frag) : R2 := fun x y H Q => rNe x y H Q ∨ rNeD K x y H Q
theorem op_eqA {X : Cx} {K : PySem.W.Frag} (h : X.K = K) (hu : X.A.units + 64 < cLine) : OpR X (compareOp .Eq) (rEqA K) := h ▸ op_eq.or (op_eqD hu)
theorem op_neA {X : Cx} {K : PySem.W.Frag} (h : X.K = K) (hu : X.A.units + 64 < cLine) : OpR X (compareOp .NotEq) (rNeA K) := h ▸ op_ne.or (op_neD hu)
theorem eqS_scal {x y : D} {v w : V} {k : Bool} (h : eqS x y = some k) (d1 : Den g U H v x) (d2 : Den g U H w y) : scal v w = true ∧ decide (v = w) = k := by
  cases x <;> cases y <;> first
    | (cases h; done)
    | (cases d1; cases d2; cases h; exact ⟨rfl, by simp⟩)
theorem al_eqB {P : Bool → Nat → Prop} {X : Str → Fs → Nat → Prop} {x y : D} (h : Al P X (eqB x y) b) : (∃ k, eqS x y = some k ∧ P k b) ∨ ∃ a c, toPy x = some a ∧ toPy y = some c ∧ SeqAt.shaped a = true ∧ SeqAt.shaped c = true ∧ P (PyData.eqv a c) b := by
  unfold eqB at h
  split at h
  · exact .inl ⟨_, by assumption, h⟩
  · split at h
    · split at h
      · rename_i e1 e2 z
        exact .inr ⟨_, _, e1, e2, z.1, z.2, h⟩
      · exact h.elim
    · exact h.elim
theorem sr_eq : SR2 g E (rEqA g.K) eqD := fun U H b x y dx dy Q d1 d2 w u q => by
  rcases al_eqB (al_bd.mp q) with ⟨k, e, q1⟩ | ⟨a, c, e1, e2, s1, s2, q1⟩
  · obtain ⟨h1, h2⟩ := eqS_scal e d1 d2
    refine .inl ⟨h1, ?_⟩
    rw [h2]
    exact okP.here q1 w (.bl _)
  · exact .inr ⟨a, c, den_dp dx d1 e1, den_dp dy d2 e2, s1, s2, okP.here q1 w (.bl _)⟩
theorem sr_ne : SR2 g E (rNeA g.K) neD := fun U H b x y dx dy Q d1 d2 w u q => by
  rcases al_eqB (al_bd.mp q) with ⟨k, e, q1⟩ | ⟨a, c, e1, e2, s1, s2, q1⟩
  · obtain ⟨h1, h2⟩ := eqS_scal e d1 d2
    refine .inl ⟨h1, ?_⟩
    rw [h2]
    exact okP.here q1 w (.bl _)
  · exact .inr ⟨a, c, den_dp dx d1 e1, den_dp dy d2 e2, s1, s2, okP.here q1 w (.bl _)⟩
def isN (x : D) : Bool := match x with
  | .non => true
  | _ => false
theorem den_non {v : V} {d : D} (h : Den g U H v d) : decide (v = .non) = isN d := by
  cases h <;> simp [isN]
theorem sr_isN : SR2 g E rIsN (fun x y => match y with | .non => .ok (.bl (isN x)) | _ => .bad) := fun U H b x y dx dy Q d1 d2 w u q => by
  cases dy with
  | non =>
    cases d2
    refine st_isN ?_
    rw [den_non d1]
    exact okP.here q w (.bl _)
  | _ => exact q.elim
theorem sr_notN : SR2 g E rNotN (fun x y => match y with | .non => .ok (.bl (!isN x)) | _ => .bad) := fun U H b x y dx dy Q d1 d2 w u q => by
  cases dy with
  | non =>
    cases d2
    refine st_notN ?_
    rw [den_non d1]
    exact okP.here q w (.bl _)
  | _ => exact q.elim
def ixD (x y : D) : Tr D := match x, y with
  | .lst ds, .int i => match atI ds i with | some d => .ok d | none => .bad
  | .tup ds, .int i => match atI ds i with | some d => .ok d | none => .bad
  | .str z, .int i => match atI z.cps.toList i with | some c => .ok (.str ⟨#[c]⟩) | none => .bad
  | _, _ => .bad
theorem ix_seqK {X : Cx} {K : PySem.W.Frag} (h : X.K = K) : IxR X (rIx K) := h ▸ ix_seq
theorem denL_at {vs : List V} {ds : List D} {i : Int} {d : D} (h : DenL g U H vs ds) (e : atI ds i = some d) : ∃ v, atI vs i = some v ∧ Den g U H v d := by
  unfold atI at e ⊢
  rw [h.length]
  cases q : ixN ds.length i with
  | none => rw [q] at e; cases e
  | some j =>
    rw [q] at e
    exact h.getD e
theorem sr_ix : SR2 g E (rIx g.K) ixD := fun U H b x y dx dy Q d1 d2 w u q => by
  unfold ixD at q
  split at q
  · rename_i ds i
    split at q
    · rename_i d e
      obtain ⟨p, vs, rfl, h, n, l, k⟩ := den_lst d1
      cases den_int d2
      obtain ⟨v, hv, dv⟩ := denL_at k e
      exact .inl ⟨p, vs, i, v, rfl, rfl, SqL.of h, hv, okP.here q w dv⟩
    · exact q.elim
  · rename_i ds i
    split at q
    · rename_i d e
      obtain ⟨p, vs, rfl, h, l, k⟩ := den_tup d1
      cases den_int d2
      obtain ⟨v, hv, dv⟩ := denL_at k e
      exact .inr (.inl ⟨p, vs, i, v, rfl, rfl, h, hv, okP.here q w dv⟩)
    · exact q.elim
  · rename_i z i
    split at q
    · rename_i c e
      obtain ⟨rfl, l⟩ := den_str d1
      cases den_int d2
      exact .inr (.inr ⟨z, i, c, rfl, rfl, l, e, okP.here q w den1⟩)
    · exact q.elim
  · exact q.elim
def lenD (x : D) : Tr D := match x with
  | .lst ds => .ok (.int ds.length)
  | .tup ds => .ok (.int ds.length)
  | .str z => .ok (.int z.length)
  | _ => .bad
theorem srl_len : SRL g E (rLn g.K) (ul1 lenD) := fun U H b xs dxs Q dn w u q => by
  obtain ⟨x, rfl, q1⟩ := al_ul1 q
  obtain ⟨v, rfl, d1⟩ := denL_1 dn
  cases x with
  | lst ds =>
    obtain ⟨p, vs, rfl, h, n, l, k⟩ := den_lst d1
    refine st_lenL h ?_
    rw [k.length]
    exact okP.here q1 w (.int _)
  | tup ds =>
    obtain ⟨p, vs, rfl, h, l, k⟩ := den_tup d1
    unfold rLn
    exact ⟨_, _, rfl, .inr ⟨vs, h, rfl⟩, by rw [k.length]; exact okP.here q1 w (.int _)⟩
  | str z =>
    obtain ⟨rfl, l⟩ := den_str d1
    exact st_lenS l (okP.here q1 w (.int _))
  | _ => exact q1.elim
def tupD (x : D) : Tr D := match x with
  | .lst ds => .ok (.tup ds)
  | .tup ds => .ok (.tup ds)
  | _ => .bad
theorem srl_tup : SRL g E (rTupOf g.K) (ul1 tupD) := fun U H b xs dxs Q dn w u q => by
  obtain ⟨x, rfl, q1⟩ := al_ul1 q
  obtain ⟨v, rfl, d1⟩ := denL_1 dn
  unfold rTupOf
  cases x with
  | lst ds =>
    obtain ⟨p, vs, rfl, h, n, l, k⟩ := den_lst d1
    exact ⟨p, vs, rfl, .inl ⟨SqL.of h, new_tup q1 w u l k⟩⟩
  | tup ds =>
    obtain ⟨p, vs, rfl, h, l, k⟩ := den_tup d1
    exact ⟨p, vs, rfl, .inr ⟨h, okP.here q1 w d1⟩⟩
  | _ => exact q1.elim
def intD (x : D) : Tr D := match x with
  | .int i => .ok (.int i)
  | .bl k => .ok (.int (if k = true then 1 else 0))
  | _ => .bad
theorem srl_int : SRL g E rInt (ul1 intD) := fun U H b xs dxs Q dn w u q => by
  obtain ⟨x, rfl, q1⟩ := al_ul1 q
  obtain ⟨v, rfl, d1⟩ := denL_1 dn
  cases x with
  | int i => cases d1; exact st_int (okP.here q1 w (.int _))
  | bl k => cases d1; exact st_intB (okP.here q1 w (.int _))
  | _ => exact q1.elim
def absD (x : D) : Tr D := match x with
  | .int i => .ok (.int (if i < 0 then -i else i))
  | _ => .bad
end
end Gp
end
section
set_option Elab.async false
set_option linter.all false
set_option maxRecDepth 100000
set_option maxHeartbeats 4000000
namespace Gp
open PySem PySem.Spec PyProof.Rows L2 Gh
section
variable {g : Gw} {Mt U0 U U' : Addr → Prop} {H0 H H' H1 H2 : Hp} {b b1 : Nat} {σ : L2.St} {ε ε' : Env} {E : XK} {Q : VK} {W L W' : Type}
variable {env : W → Env} {envL : L → Env} {env' : W' → Env} {u ta tb : TS} {te : TE} {me : Tr D}
def flatD : D → Bool
  | .non => true
  | .bl _ => true
  | .int _ => true
  | .str _ => true
  | _ => false
def eqF : D → D → Bool
  | .non, .non => true
  | .bl a, .bl b => a == b
  | .bl a, .int b => (if a then 1 else 0) == b
  | .int a, .bl b => a == (if b then 1 else 0)
  | .int a, .int b => a == b
  | .str a, .str b => a == b
  | _, _ => false
theorem flat_den {v : V} {d : D} (h : Den g U H v d) (f : flatD d = true) : flatV v = true := by
  cases h <;> first
    | rfl
    | cases f
theorem eqF_den {v w : V} {d e : D} (h : Den g U H v d) (k : Den g U H w e) : eqF d e = eqV v w := by
  cases h <;> cases k <;> rfl
def inD (x : D) (ds : List D) : Bool := ds.any fun y => eqF y x
theorem inD_den {v : V} {d : D} (h : Den g U H v d) : ∀ {vs : List V} {ds : List D}, DenL g U H vs ds → inD d ds = inV v vs
  | _, _, .nil => rfl
  | _, _, .cons a r => by
    have := inD_den h r
    unfold inD inV at this ⊢
    rw [List.any_cons, List.any_cons, eqF_den a h, this]
theorem flats_den : ∀ {vs : List V} {ds : List D}, DenL g U H vs ds → ds.all flatD = true → vs.all flatV = true
  | _, _, .nil, _ => rfl
  | _, _, .cons a r, f => by
    rw [List.all_cons, Bool.and_eq_true] at f ⊢
    exact ⟨flat_den a f.1, flats_den r f.2⟩
def inB (x y : D) : Tr Bool := match y with
  | .lst ds => if flatD x = true ∧ ds.all flatD = true then .ok (inD x ds) else .bad
  | .tup ds => if flatD x = true ∧ ds.all flatD = true then .ok (inD x ds) else .bad
  | .str j => match x with
    | .str i => .ok (!(Builtin.Str.occurrences j i 0 j.length 1).isEmpty)
    | _ => .bad
  | _ => .bad
def notinD (x y : D) : Tr D := bd (inB x y) fun k => .ok (.bl (!k))
def rNotInA (K : PySem.W.Frag) : R2 := fun x y H Q => rIn K true x y H Q ∨ ∃ i j, x = .str i ∧ y = .str j ∧ Q (.bl (!(!(Builtin.Str.occurrences j i 0 j.length 1).isEmpty))) H
theorem op_notinA {X : Cx} {K : PySem.W.Frag} (h : X.K = K) : OpR X (compareOp .NotIn) (rNotInA K) := h ▸ op_notIn_seq.or op_notin_str
theorem al_inB {P : Bool → Nat → Prop} {Z : Str → Fs → Nat → Prop} {x y : D} {v w : V} (d1 : Den g U H v x) (d2 : Den g U H w y) (h : Al P Z (inB x y) b) :
    (∃ p vs, w = .ref p ∧ (SqL g.K H p vs ∨ SqT g.K H p vs) ∧ flatV v = true ∧ vs.all flatV = true ∧ P (inV v vs) b) ∨ ∃ i j, v = .str i ∧ w = .str j ∧ P (!(Builtin.Str.occurrences j i 0 j.length 1).isEmpty) b := by
  unfold inB at h
  split at h
  · split at h
    · rename_i z
      obtain ⟨p, vs, rfl, hh, _, _, k⟩ := den_lst d2
      rw [inD_den d1 k] at h
      exact .inl ⟨p, vs, rfl, .inl (SqL.of hh), flat_den d1 z.1, flats_den k z.2, h⟩
    · exact h.elim
  · split at h
    · rename_i z
      obtain ⟨p, vs, rfl, hh, _, k⟩ := den_tup d2
      rw [inD_den d1 k] at h
      exact .inl ⟨p, vs, rfl, .inr hh, flat_den d1 z.1, flats_den k z.2, h⟩
    · exact h.elim
  · split at h
    · obtain ⟨rfl, _⟩ := den_str d1
      obtain ⟨rfl, _⟩ := den_str d2
      exact .inr ⟨_, _, rfl, rfl, h⟩
    · exact h.elim
  · exact h.elim
theorem sr_notin : SR2 g E (rNotInA g.K) notinD := fun U H b x y dx dy Q d1 d2 w u q => by
  rcases al_inB d1 d2 (al_bd.mp q) with ⟨p, vs, rfl, h1, h2, h3, h4⟩ | ⟨i, j, rfl, rfl, h⟩
  · exact .inl ⟨p, vs, rfl, h1, h2, h3, okP.here h4 w (.bl _)⟩
  · exact .inr ⟨i, j, rfl, rfl, okP.here h w (.bl _)⟩
def SO (g : Gw) (E : XK) (ε : Env) (t : TO) (m : Tr (Option Int)) : Prop := ∀ U σ H b (Q : Option Int → Hp → Prop), Rel g U H σ ε → Wd g H b → UOk g U H → Al (fun o b' => ∀ H', Wd g H' b' → Fr H H' g.p → Q o H') (exP g U E H) m b → t σ H Q
def asI (d : D) : Tr (Option Int) := match d with
  | .int i => .ok (some i)
  | _ => .bad
theorem SO.step {α : Type} {t : TO} {m : Tr (Option Int)} {k : Option Int → Tr α} {P : α → Nat → Prop} {Q : Option Int → Hp → Prop} (ha : SO g E ε t m) (R : Rel g U H σ ε) (W : Wd g H b) (u : UOk g U H) (h : Al P (exP g U E H) (bd m k) b)
    (hk : ∀ d H1 b1, Wd g H1 b1 → Fr H H1 g.p → Rel g U H1 σ ε → UOk g U H1 → Al P (exP g U E H1) (k d) b1 → Q d H1) : t σ H Q :=
  ha U σ H b Q R W u ((al_bd.mp h).mono (fun d b1 h1 H1 w1 f1 => hk d H1 b1 w1 f1 (R.fr u f1) (u.fr f1 w1) (al_frX f1 h1)) (fun _ _ _ h => h))
def SRg (g : Gw) (E : XK) (ε : Env) (t : L2.St → Hp → (Int → Int → Hp → Prop) → Prop) (m : Tr (Int × Int)) : Prop := ∀ U σ H b (Q : Int → Int → Hp → Prop), Rel g U H σ ε → Wd g H b → UOk g U H → Al (fun o b' => ∀ H', Wd g H' b' → Fr H H' g.p → Q o.1 o.2 H') (exP g U E H) m b → t σ H Q
def rgA1 (d : D) : Tr (Int × Int) := match d with
  | .int n => .ok (0, n)
  | _ => .bad
theorem srg_1 (he : SE g E ε te me) : SRg g E ε (tRg1 te) (bd me rgA1) := fun U σ H b Q R W u q =>
  he.step R W u q fun v d H1 b1 d1 w1 f1 R1 u1 q1 => by
    cases d with
    | int i =>
      cases den_int d1
      exact ⟨i, rfl, q1 H1 w1 f1⟩
    | _ => exact q1.elim
def rgOk (a b : Int) : Prop := -(2 ^ 62) ≤ a ∧ a < 2 ^ 62 ∧ -(2 ^ 62) ≤ b ∧ b < 2 ^ 62 ∧ b - a ≤ 16777216
instance (a b : Int) : Decidable (rgOk a b) := by unfold rgOk; infer_instance
theorem denL_rg (a b : Int) : DenL g U H (rgV a b) (rgD a (b - a).toNat) := by
  have e : ∀ ns : List Nat, DenL g U H (ns.map fun i => V.int (a + (i : Nat))) (ns.map fun i => D.int (a + (i : Nat))) := fun ns => by
    induction ns with
    | nil => exact .nil
    | cons n r ih => exact .cons (.int _) ih
  exact e _
theorem rgV_ok {a b : Int} (h : rgOk a b) : (rgV a b).length ≤ sizeLine := by
  rw [rgV_length, sizeLine_eq]
  have := h.2.2.2.2
  omega
theorem se_lstRg {t : L2.St → Hp → (Int → Int → Hp → Prop) → Prop} {m : Tr (Int × Int)} (he : SRg g E ε t m) : SE g E ε (tLstRg t) (bd m fun r => if rgOk r.1 r.2 then .ok (.lst (rgD r.1 (r.2 - r.1).toNat)) else .bad) := fun U σ H b Q R W u q =>
  he U σ H b _ R W u ((al_bd.mp q).mono (fun r b1 h1 H1 w1 f1 => by
    by_cases h : rgOk r.1 r.2
    · rw [if_pos h] at h1
      exact ⟨⟨h.1, h.2.1, h.2.2.1, h.2.2.2.1, by have := h.2.2.2.2; omega⟩, new_lst (okP.fr f1 h1) w1 (u.fr f1 w1) (rgV_ok h) (denL_rg _ _)⟩
    · rw [if_neg h] at h1
      exact h1.elim) (fun _ _ _ h => h))
def IsT (g : Gw) (u : Value) (f : D → Option Bool) : Prop := ∀ U H v d k, Den g U H v d → f d = some k → (∃ t, TyX g.K H v t ∧ PySem.W.kitOne g.K t u = some k) ∨ ∃ a C dd fvs, v = .ref a ∧ H a = some (exk a C dd) ∧ H dd = some (.xd fvs) ∧ ErrT g.K C ∧ PySem.W.kitOne g.K (.ref C) u = some k
def opt {α : Type} (o : Option α) : Tr α := match o with
  | some a => .ok a
  | none => .bad
theorem se_isi {cv : V} {u : Value} {f : D → Option Bool} (hc : ClsV cv u) (hT : IsT g u f) (he : SE g E ε te me) : SE g E ε (tCB (rIsiZ g.K) (tCons te (tCons (tC cv) tNil))) (bd me fun d => bd (opt (f d)) fun k => .ok (.bl k)) := fun U σ H b Q R W uo q =>
  he.step R W uo q fun v d H1 b1 d1 w1 f1 R1 u1 q1 => by
    cases e : f d with
    | none => rw [e] at q1; exact q1.elim
    | some k =>
      rw [e] at q1
      have q2 := okP.here (okP.fr f1 q1) w1 (.bl k)
      rcases hT U H1 v d k d1 e with ⟨t, h1, h2⟩ | ⟨a, C, dd, fvs, rfl, h1, h2, h3, h4⟩
      · exact .inl ⟨v, cv, t, u, k, rfl, hc, h1, h2, q2⟩
      · exact .inr ⟨a, C, dd, fvs, cv, u, k, rfl, hc, h1, h2, h3, h4, q2⟩
def kdN : D → Option String
  | .non => some "NoneType"
  | .bl _ => some "bool"
  | .int _ => some "int"
  | .str _ => some "str"
  | .lst _ => some "list"
  | .tup _ => some "tuple"
  | .dct => some "dict"
  | .dic _ => some "dict"
  | _ => none
theorem kd_ty {v : V} {d : D} {n : String} (h : Den g U H v d) (e : kdN d = some n) : TyX g.K H v (.type n) := by
  cases h with
  | non => cases e; exact .base .non
  | bl b => cases e; exact .base (.bl b)
  | int i => cases e; exact .base (.int i)
  | str x _ => cases e; exact .base (.str x)
  | tup h _ _ _ => cases e; exact .base (.tup h)
  | tupW h _ _ _ =>
    cases e
    rcases h (fun _ => none) with (z | ⟨o, z⟩) | ⟨o, its, n, z1, z2, _⟩
    · cases z
    · cases z
    · exact .kTuple z1 z2
  | lst h _ _ _ => cases e; exact .base (.lst h)
  | obj _ _ _ => cases e
  | err _ _ _ _ _ => cases e
  | pen => cases e
  | cls _ => cases e
  | dct h _ => cases e; exact .base (.dK h)
  | dic h _ _ _ => cases e; exact .base (.dK h)
  | dit _ _ _ _ => cases e
  | dik _ _ _ _ => cases e
def isF (kb : String → Option Bool) (tab etab : List (Str × Bool)) (d : D) : Option Bool := match d with
  | .obj c _ => tab.lookup c
  | .err c _ => etab.lookup c
  | d => (kdN d).bind kb
theorem isT_of {u : Value} {kb : String → Option Bool} {tab etab : List (Str × Bool)} (h1 : ∀ n k, kb n = some k → PySem.W.kitOne g.K (.type n) u = some k) (h2 : ∀ c k, tab.lookup c = some k → Cls g.K (gd c g.K) ∧ InsT g.K (gd c g.K) ∧ PySem.W.kitOne g.K (.ref (gd c g.K)) u = some k)
    (h3 : ∀ c k, etab.lookup c = some k → ErrT g.K (gd c g.K) ∧ PySem.W.kitOne g.K (.ref (gd c g.K)) u = some k) : IsT g u (isF kb tab etab) := fun U H v d k dn e => by
  have base : ∀ d, Den g U H v d → (kdN d).bind kb = some k → ∃ t, TyX g.K H v t ∧ PySem.W.kitOne g.K t u = some k := fun d dn e => by
    cases q : kdN d with
    | none => rw [q] at e; cases e
    | some n =>
      rw [q] at e
      exact ⟨_, kd_ty dn q, h1 n k e⟩
  cases d with
  | obj c fs =>
    obtain ⟨a, dx, fvs, rfl, ea, _, _⟩ := den_obj dn
    obtain ⟨z1, z2, z3⟩ := h2 c k e
    exact .inl ⟨_, z2.ty z1 ea, z3⟩
  | err c fs =>
    cases dn with
    | err ha _ hd _ _ =>
      obtain ⟨z1, z2⟩ := h3 c k e
      exact .inr ⟨_, _, _, _, rfl, ha, hd, z1, z2⟩
  | non => exact .inl (base _ dn e)
  | bl b => exact .inl (base _ dn e)
  | int i => exact .inl (base _ dn e)
  | str x => exact .inl (base _ dn e)
  | lst ds => exact .inl (base _ dn e)
  | tup ds => exact .inl (base _ dn e)
  | pen => exact .inl (base _ dn e)
  | cls c => exact .inl (base _ dn e)
  | dct => exact .inl (base _ dn e)
  | dic ps => exact .inl (base _ dn e)
  | dit ps => exact .inl (base _ dn e)
  | dik ps => exact .inl (base _ dn e)
theorem den_shw {v : V} {d : D} {x : Str} (h : Den g U H v d) (e : shwD d = some x) : Shw g.K H v x := by
  have cmp : ∀ {a : Addr}, v = .ref a → (match toPy d with
    | some e => if e.showable = true ∧ e.hasDict = false ∧ e.depth ≤ 100 ∧ e.shown.length ≤ sizeLine then some e.shown else none
    | none => none) = some x → Shw g.K H v x := fun {a} ev e => by
    subst ev
    split at e
    · split at e
      · rename_i q z
        cases e
        exact .dp (den_dp d h q) z.1 z.2.1 z.2.2.1 z.2.2.2
      · cases e
    · cases e
  cases d with
  | non => cases h; cases e; exact .non
  | bl b => cases h; cases e; exact .bl b
  | int i =>
    cases h
    unfold shwD at e
    dsimp only at e
    split at e
    · cases e; exact .int i (by assumption)
    · cases e
  | str y =>
    cases h
    unfold shwD at e
    dsimp only at e
    split at e
    · cases e; exact .str y (by assumption)
    · cases e
  | tup ds =>
    obtain ⟨a, _, rfl, _⟩ := den_tup h
    exact cmp rfl e
  | lst ds =>
    obtain ⟨a, _, rfl, _⟩ := den_lst h
    exact cmp rfl e
  | obj c fs => cases e
  | dic ps => cases e
  | dit ps => cases e
  | dik ps => cases e
  | err c fs => cases e
  | pen => cases e
  | cls c => cases e
  | dct => cases e
theorem srl_repr : SRL g E (rShow g.K) (ul1 reprD) := fun U H b xs dxs Q dn w u q => by
  obtain ⟨x, rfl, q1⟩ := al_ul1 q
  obtain ⟨v, rfl, d1⟩ := denL_1 dn
  unfold reprD at q1
  split at q1
  · rename_i z e
    split at q1
    · exact rShow_of (den_shw d1 e) (okP.here q1 w (.str _ (by assumption)))
    · exact q1.elim
  · exact q1.elim
def strD (d : D) : Tr D := match d with
  | .int i => if i.natAbs.log2 < 1920 ∧ (Str.ofString (toString i)).length ≤ sizeLine then .ok (.str (toString i)) else .bad
  | _ => .bad
theorem srl_str : SRL g E rStrI (ul1 strD) := fun U H b xs dxs Q dn w u q => by
  obtain ⟨x, rfl, q1⟩ := al_ul1 q
  obtain ⟨v, rfl, d1⟩ := denL_1 dn
  unfold strD at q1
  split at q1
  · split at q1
    · rename_i z
      cases den_int d1
      exact st_strI z.1 (okP.here q1 w (.str _ z.2))
    · exact q1.elim
  · exact q1.elim
theorem ss_setf {c f : Str} {fs : Fs} {k : D → Tr (Fl W L)} (he : SE g E ε te me) (hk : ∀ d, SS g E (ε.set 0 (.oi c (putD f d fs))) u env envL (k d)) (hi : ε[0]? = some (.oi c fs) := by rfl) :
    SS g E ε (tSeq (sF (gd c g.K) (tVar 0) te f) u) env envL (bd me fun d => if fs.length < 900 then k d else .bad) := fun Mt U0 H0 U Ds σ H b s q => by
  refine st_sF ?_
  refine he.sstep s q fun y d H1 b1 dy s1 q1 => ?_
  by_cases hl : fs.length < 900
  · rw [if_pos hl] at q1
    obtain ⟨o, eo, a, dx, fvs, rfl, ha, df, ua, n1, n2⟩ := s1.rel.at_ 0 _ hi
    refine ⟨.ref a, eo, st_setF ha (by rw [df.length]; omega) fun H2 m2 => ?_⟩
    have kp := m2.keep
    have xt : ExtU U H1 H2 := fun x o e ne _ => kp x o e (fun z => ne (z ▸ ua))
    have il : 0 < ε.length := (List.getElem?_eq_some_iff.mp hi).1
    have ow : ∀ j x, OwnAt σ (ε.set 0 (.oi c (putD f d fs))) j x → OwnAt σ ε j x := fun j x z => by
      obtain ⟨z1, z2⟩ := z
      by_cases q : 0 = j
      · subst q
        exact ⟨z1, .inr ⟨c, fs, hi⟩⟩
      · rw [List.getElem?_set_ne q] at z2
        exact ⟨z1, z2⟩
    have apart : ∀ j x, 0 ≠ j → OwnAt σ ε j x → x ≠ a := fun j x ne z e => by
      subst e
      exact s1.rel.apart 0 j x ne ⟨eo, .inr ⟨c, fs, hi⟩⟩ z
    have hmt := s1.oim 0 c fs a rfl hi eo
    have ev : Ev U H1 U H2 := ⟨xt, fun _ _ _ n _ => n⟩
    refine hk d Mt U0 H0 U Ds σ H2 b1 ⟨⟨by rw [List.length_set]; exact s1.rel.len, fun j x e => ?_, fun j k x ne z1 z2 => s1.rel.apart j k x ne (ow _ _ z1) (ow _ _ z2)⟩, ⟨s1.wd.pen.keep kp n1 n2, tabs_muI m2 ha s1.wd.tabs⟩, ⟨s1.uok.p, s1.uok.c, fun x hx => ?_⟩, s1.sub, fun j x z => s1.own j x (ow _ _ z), fun x o e m1 m2 m3 => ?_, fun j xs x e1 e2 => ?_, fun j c' fs' x j0 e1 e2 => ?_⟩ (q1.mono (fun _ _ z => z.ev ev) (fun _ _ _ z => z))
    · by_cases q : 0 = j
      · subst q
        rw [List.getElem?_set_self il] at e
        cases e
        exact ⟨_, eo, a, dx, _, rfl, m2.at_, (df.put dy).ext xt, ua, n1, n2⟩
      · rw [List.getElem?_set_ne q] at e
        obtain ⟨o, e1, e2⟩ := s1.rel.at_ j x e
        refine ⟨o, e1, ?_⟩
        cases x with
        | no => trivial
        | fz d =>
          obtain ⟨v, e3, e4⟩ := e2
          exact ⟨v, e3, e4.ext xt⟩
        | ow ds2 =>
          obtain ⟨a2, v2, rfl, h2, d2, u2, m1, m2⟩ := e2
          have ne := apart j a2 q ⟨e1, .inl ⟨ds2, e⟩⟩
          exact ⟨a2, v2, rfl, kp _ _ h2 ne, d2.map (fun q => q.ext xt), u2, m1, m2⟩
        | oi c fs =>
          obtain ⟨a2, dx, v2, rfl, h2, d2, u2, m1, m2⟩ := e2
          have ne := apart j a2 q ⟨e1, .inr ⟨c, fs, e⟩⟩
          exact ⟨a2, dx, v2, rfl, kp _ _ h2 ne, d2.ext xt, u2, m1, m2⟩
    · by_cases q : x = a
      · subst q
        exact ⟨_, m2.at_, (fun _ z => by cases z), (fun _ z => by cases z)⟩
      · obtain ⟨o, e, t⟩ := s1.uok.al x hx
        exact ⟨o, kp x o e q, t⟩
    · exact kp x o (s1.ext x o e m1 m2 m3) (fun z => m2 (z ▸ hmt))
    · by_cases q : 0 = j
      · subst q
        rw [List.getElem?_set_self il] at e1
        cases e1
      · rw [List.getElem?_set_ne q] at e1
        exact s1.nu0 j xs x e1 e2
    · by_cases q : 0 = j
      · subst q
        exact s1.oim 0 c fs x rfl hi e2
      · rw [List.getElem?_set_ne q] at e1
        exact s1.oim j c' fs' x j0 e1 e2
  · rw [if_neg hl] at q1
    exact q1.elim
theorem ss_raise1 {c f : Str} (he : SE g E ε te me) : SS g E ε (tSeq (fun _ σ H => tMkO (gd c g.K) (spErr1 (gd c g.K) f) [] (tCons te tNil) σ H (fun cls d H' => E cls d H')) u) env envL (bd me fun d => .ex c [(f, d)]) := fun Mt U0 H0 U Ds σ H b s q => by
  show te σ H _
  refine he.sstep s q fun v d H1 b1 dv s1 q1 => ?_
  refine mk_err1 fun dd H2 sm nd hd => ?_
  have q2 : exS g Mt U0 H0 E c [(f, d)] b1 := q1
  exact q2 dd _ H2 hd (fun z => s1.uok.new nd (s1.sub _ z)) (.cons ((dv.ext (fun a o e _ _ => sm a o e)).sub fun a _ z => s1.sub a z) .nil) (s1.wd.same sm) (s1.ext.trans (fr_same sm))
end
end Gp
end
section
set_option Elab.async false
set_option linter.all false
set_option maxRecDepth 100000
set_option maxHeartbeats 4000000
namespace Gp
open PySem PySem.Spec PyProof.Rows L2 Gh
section
variable {g : Gw} {Mt U0 U U' : Addr → Prop} {H0 H H' H1 H2 : Hp} {b b1 : Nat} {σ : L2.St} {ε ε' : Env} {E : XK} {Q : VK} {W L W' : Type}
variable {env : W → Env} {envL : L → Env} {env' : W' → Env} {u ta tb : TS} {te : TE} {me : Tr D}
theorem se_powK {a c r : Int} (h1 : 0 ≤ c ∧ c ≤ 1000) (h2 : -(2 ^ 60) < a ∧ a < 2 ^ 60) (h3 : a ^ c.toNat = r) : SE g E ε (tOp (rPowK r) (tC (.int a)) (tC (.int c))) (.ok (.int r)) := fun U σ H b Q R W u q =>
  st_powK ⟨h1.1, by omega, by omega⟩ h3 (okP.here q W (.int _))
theorem passA {X : Cx} {E : XK} : Passes CX0 X E := fun _ _ _ _ _ _ _ h => h.elim
def IsA (g : Gw) (us : List Value) (f : D → Option Bool) : Prop := ∀ U H v d k, Den g U H v d → f d = some k → ∃ t, TyX g.K H v t ∧ PySem.W.kitAny g.K t us = some k
theorem tyX_new {K : PySem.W.Frag} {v : V} {t : Value} {p : Addr} {o : HO} (np : H p = none) (h : TyX K H v t) : TyX K (upd H p o) v t := by
  have s := same_new (o := o) np
  cases h with
  | base h =>
    cases h with
    | non => exact .base .non
    | bl x => exact .base (.bl x)
    | int i => exact .base (.int i)
    | str x => exact .base (.str x)
    | flt x => exact .base (.flt x)
    | lst e => exact .base (.lst (s _ _ e))
    | frz e => exact .base (.frz (s _ _ e))
    | tup e => exact .base (.tup (s _ _ e))
    | dK e => exact .base (.dK (s _ _ e))
    | dT e => exact .base (.dT (s _ _ e))
    | ins e cl ha hn htk hm => exact .base (.ins (s _ _ e) cl ha hn htk hm)
  | byt b => exact .byt b
  | set e => exact .set (s _ _ e)
  | kList e c => exact .kList e c
  | kTuple e c => exact .kTuple e c
  | kDict e c => exact .kDict e c
  | fTuple e => exact .fTuple (s _ _ e)
  | fDict e => exact .fDict (s _ _ e)
theorem se_isiT {n1 n2 : String} {f : D → Option Bool} (hT : IsA g [.type n1, .type n2] f) (he : SE g E ε te me) : SE g E ε (tCB (rIsiT g.K) (tCons te (tCons (tTup (tCons (tC (.ty n1)) (tCons (tC (.ty n2)) tNil))) tNil))) (bd me fun d => bd (opt (f d)) fun k => .ok (.bl k)) := fun U σ H b Q R W uo q =>
  he.step R W uo q fun v d H1 b1 d1 w1 f1 R1 u1 q1 => by
    refine ⟨by show 2 ≤ sizeLine; decide, fun p np => ?_⟩
    cases e : f d with
    | none => rw [e] at q1; exact q1.elim
    | some k =>
      rw [e] at q1
      obtain ⟨t, h1, h2⟩ := hT U H1 v d k d1 e
      have s := same_new (o := .tup [V.ty n1, V.ty n2]) np
      exact ⟨v, p, _, t, _, k, rfl, upd_same, .cons (.ty _) (.cons (.ty _) .nil), tyX_new np h1, h2, q1 _ _ (.bl k) (w1.same s) (f1.trans (fr_same s))⟩
theorem isA_of {us : List Value} {kb : String → Option Bool} {tab : List (Str × Bool)} (h1 : ∀ n k, kb n = some k → PySem.W.kitAny g.K (.type n) us = some k) (h2 : ∀ c k, tab.lookup c = some k → Cls g.K (gd c g.K) ∧ InsT g.K (gd c g.K) ∧ PySem.W.kitAny g.K (.ref (gd c g.K)) us = some k) : IsA g us (isF kb tab []) := fun U H v d k dn e => by
  have base : ∀ d, Den g U H v d → (kdN d).bind kb = some k → ∃ t, TyX g.K H v t ∧ PySem.W.kitAny g.K t us = some k := fun d dn e => by
    cases q : kdN d with
    | none => rw [q] at e; cases e
    | some n =>
      rw [q] at e
      exact ⟨_, kd_ty dn q, h1 n k e⟩
  cases d with
  | obj c fs =>
    obtain ⟨a, dx, fvs, rfl, ea, _, _⟩ := den_obj dn
    obtain ⟨z1, z2, z3⟩ := h2 c k e
    exact ⟨_, z2.ty z1 ea, z3⟩
  | err c fs => cases e
  | non => exact base _ dn e
  | bl b => exact base _ dn e
  | int i => exact base _ dn e
  | str x => exact base _ dn e
  | lst ds => exact base _ dn e
  | tup ds => exact base _ dn e
  | pen => exact base _ dn e
  | cls c => exact base _ dn e
  | dct => exact base _ dn e
  | dic ps => exact base _ dn e
  | dit ps => exact base _ dn e
  | dik ps => exact base _ dn e
theorem spI_len {K : PySem.W.Frag} {T : List (Addr × Str)} {cn : Str} {F : Fs → List D → Tr Fs} {n : Nat} (hn : ∀ fs (P : Fs → Nat → Prop) (X : Str → Fs → Nat → Prop) ds b, Al P X (F fs ds) b → ds.length = n) {vs : List V} (h : spI K T cn F vs H Q E) : vs.length = n + 1 := by
  obtain ⟨p, c, U, ds, b, x, dx, fvs, fs, rest, rfl, hx, df, ux, np, nc, dn, wd, u, al⟩ := h
  rw [List.length_cons, dn.length, hn _ _ _ _ _ al]
theorem lenI1 {F : Fs → D → Tr Fs} (fs : Fs) (P : Fs → Nat → Prop) (X : Str → Fs → Nat → Prop) (ds : List D) (b : Nat) (h : Al P X (ul1 (F fs) ds) b) : ds.length = 1 := by obtain ⟨_, rfl, _⟩ := al_ul1 h; rfl
theorem lenI4 {F : Fs → D → D → D → D → Tr Fs} (fs : Fs) (P : Fs → Nat → Prop) (X : Str → Fs → Nat → Prop) (ds : List D) (b : Nat) (h : Al P X (ul4 (F fs) ds) b) : ds.length = 4 := by obtain ⟨_, _, _, _, rfl, _⟩ := al_ul4 h; rfl
section
variable {K : PySem.W.Frag} {T : List (Addr × Str)} {N : List Str} {cn : Str} {vs : List V} {t : TS} {envI : Fs → Env}
theorem ini_of1 {F : Fs → D → Tr Fs} {m : Fs → D → Tr (Fl Fs Empty)} (h : spI K T cn (fun fs => ul1 (F fs)) vs H Q E) (hF : ∀ fs x, F fs x = finI (m fs x)) (hs : ∀ p c fs x, SS ⟨K, T, p, c⟩ E (.oi cn fs :: ([x].map Sl.fz ++ List.replicate (N.length - (1 + 1)) Sl.no)) t envI envE (m fs x)) (he : ∀ fs, (envI fs)[0]? = some (.oi cn fs) := by intro _; rfl) : t { nx := fun _ H' => Q .non H', rt := Q } (L2.start N vs) H :=
  ini_of h (fun p c fs ds ⟨_, _, _, al⟩ => by
    obtain ⟨x, rfl, _⟩ := al_ul1 al
    exact ⟨m fs x, hF fs x, hs p c fs x⟩) he
theorem ini_of4 {F : Fs → D → D → D → D → Tr Fs} {m : Fs → D → D → D → D → Tr (Fl Fs Empty)} (h : spI K T cn (fun fs => ul4 (F fs)) vs H Q E) (hF : ∀ fs x y z w, F fs x y z w = finI (m fs x y z w)) (hs : ∀ p c fs x y z w, SS ⟨K, T, p, c⟩ E (.oi cn fs :: ([x, y, z, w].map Sl.fz ++ List.replicate (N.length - (4 + 1)) Sl.no)) t envI envE (m fs x y z w)) (he : ∀ fs, (envI fs)[0]? = some (.oi cn fs) := by intro _; rfl) : t { nx := fun _ H' => Q .non H', rt := Q } (L2.start N vs) H :=
  ini_of h (fun p c fs ds ⟨_, _, _, al⟩ => by
    obtain ⟨x, y, z, w, rfl, _⟩ := al_ul4 al
    exact ⟨m fs x y z w, hF fs x y z w, hs p c fs x y z w⟩) he
end
def spLaw (K : PySem.W.Frag) (T : List (Addr × Str)) : Sp := fun vs H Q _ => ∃ (a : Addr) (ns : List Int), vs = [.ref a] ∧ SqL K H a (ns.map V.int) ∧ ns.length ≤ 63 ∧ LamX.Tabs T H ∧ ∀ H', Q (.bl true) H'
theorem spLaw_len {K : PySem.W.Frag} {T : List (Addr × Str)} {vs : List V} (h : spLaw K T vs H Q E) : vs.length = 1 := by
  obtain ⟨a, ns, rfl, _⟩ := h
  rfl
theorem law_of {K : PySem.W.Frag} {T : List (Addr × Str)} {N : List Str} {i n : Nat} {F : Tr D} {m : Tr (Fl Unit Empty)} {vs : List V} {t : TS} {envU : Unit → Env} (yes : Yes F) (h : spLaw K T vs H Q E) (hN : N.length = n + 1) (hi : i < n + 1) (h0 : i ≠ 0) (hF : F = fin m)
    (hs : ∀ p c, SS ⟨K, T, p, c⟩ EF ((List.replicate (n + 1) Sl.no).set i (.fz .pen)) t envU envE m) : tSeq (tAsg (tCl (rSp (spPn K) [] E) (tCons (tVar 0) tNil)) (gName i)) t { nx := fun _ H' => Q .non H', rt := Q } (L2.start N vs) H := by
  obtain ⟨a, ns, rfl, hS, hl, hT, q⟩ := h
  have st0 : L2.start N [V.ref a] = some (.ref a) :: List.replicate n none := by
    unfold L2.start
    rw [List.length_singleton, hN]
    rfl
  rw [st0]
  refine ⟨.ref a, rfl, ?_⟩
  refine ⟨a, ns, rfl, hS, hl, fun p c H1 np pn s => ?_⟩
  obtain ⟨ns', i', z', h1, h2, _⟩ := id pn
  have wd : Wd ⟨K, T, p, c⟩ H1 1000000 := ⟨pn, hT.ext s⟩
  have u : UOk ⟨K, T, p, c⟩ (fun x => x = p ∨ x = c) H1 := ⟨.inl rfl, .inr rfl, fun x hx => by
    rcases hx with rfl | rfl
    · exact ⟨_, h1, (fun _ z => by cases z), (fun _ z => by cases z)⟩
    · exact ⟨_, h2, (fun _ z => by cases z), (fun _ z => by cases z)⟩⟩
  have own : ∀ j x, ¬ OwnAt ((some (V.ref a) :: List.replicate n none).set i (some (.ref p))) ((List.replicate (n + 1) Sl.no).set i (.fz .pen)) j x := fun j x z => by
    obtain ⟨_, z2⟩ := ownAt_set z
    rcases z2.2 with ⟨ds, e⟩ | ⟨c, fs, e⟩
    · cases (List.mem_replicate.mp (List.mem_of_getElem? e)).2
    · cases (List.mem_replicate.mp (List.mem_of_getElem? e)).2
  have rl0 : Rel ⟨K, T, p, c⟩ (fun x => x = p ∨ x = c) H1 (some (V.ref a) :: List.replicate n none) (List.replicate (n + 1) Sl.no) := by
    refine ⟨by rw [List.length_cons, List.length_replicate, List.length_replicate], fun j s e => ?_, fun j k x ne z1 z2 => ?_⟩
    · have hj := (List.getElem?_eq_some_iff.mp e).1
      rw [List.length_replicate] at hj
      obtain ⟨_, rfl⟩ := List.mem_replicate.mp (List.mem_of_getElem? e)
      have hl2 : j < (some (V.ref a) :: List.replicate n (none : Option V)).length := by rw [List.length_cons, List.length_replicate]; exact hj
      exact ⟨_, List.getElem?_eq_getElem hl2, trivial⟩
    · rcases z1.2 with ⟨ds, e⟩ | ⟨c, fs, e⟩
      · cases (List.mem_replicate.mp (List.mem_of_getElem? e)).2
      · cases (List.mem_replicate.mp (List.mem_of_getElem? e)).2
  have rl := rl0.set i (v := .ref p) (d := .pen) .pen
  have yes' : Al (fun d _ => d = .bl true) (fun _ _ _ => False) (fin m) 1000000 := hF ▸ yes
  refine hs p c (fun _ => False) (fun x => x = p ∨ x = c) H1 (fun x => x = p ∨ x = c) _ _ H1 1000000 ⟨rl, wd, u, fun _ z => z, fun j x z => (own j x z).elim, fun _ _ z _ _ _ => z, fun j ds x z1 z2 => (own j x ⟨z2, .inl ⟨ds, z1⟩⟩).elim, fun j cc fs x _ z1 z2 => (own j x ⟨z2, .inr ⟨cc, fs, z1⟩⟩).elim⟩ ((al_bd.mp yes').mono (fun f b h => ?_) (fun _ _ _ z => z.elim))
  cases f with
  | nx w => cases (show D.non = .bl true from h)
  | rt d =>
    have h' : d = .bl true := h
    subst h'
    intro v H2 dn _ _
    cases dn
    exact q H2
  | bk e => exact nomatch e
  | ct e => exact nomatch e
end
end Gp
namespace Gp
open PySem PySem.Spec PyProof.Rows L2 Gh
section
variable {g : Gw}
theorem kitAny2 {K : PySem.W.Frag} {n a c : String} {k : Bool} (h : ((kitB n a).bind fun x => (kitB n c).map fun y => x || y) = some k) : PySem.W.kitAny K (.type n) [.type a, .type c] = some k := by
  cases e1 : kitB n a with
  | none => rw [e1] at h; cases h
  | some x =>
    cases e2 : kitB n c with
    | none => rw [e1, e2] at h; cases h
    | some y =>
      rw [e1, e2] at h
      cases h
      cases x with
      | true => exact kitAny_cons (kit_ty e1) (fun z => by cases z) (fun _ => rfl)
      | false =>
        refine kitAny_cons (kit_ty e1) (fun _ => ?_) (fun z => by cases z)
        cases y with
        | true => exact kitAny_cons (kit_ty e2) (fun z => by cases z) (fun _ => rfl)
        | false => exact kitAny_cons (kit_ty e2) (fun _ => rfl) (fun z => by cases z)
end
end Gp
namespace Gp
open PySem PySem.Spec PyProof.Rows L2 Gh
theorem fnOk_weak {P : Program} {w : World} {K : PySem.W.Frag} {mg : Str → Option Value} {base : Heap} {CX : CXT} {k : Nat} {f : Addr} {fd : FuncData} {ps : List Str} {sp sp' : Sp} (F : FnOk P w K mg base CX k f fd ps sp) (h : ∀ vs H Q E, sp' vs H Q E → sp vs H Q E) : FnOk P w K mg base CX k f fd ps sp' :=
  ⟨fun vs H Q E z => F.len vs H Q E (h _ _ _ _ z), fun A o s H a us vs Q E hr e0 hb r z => F.run A o s H a us vs Q E hr e0 hb r (h _ _ _ _ z)⟩
def F_draw (x y : D) : Tr D := match x, y with
  | .pen, .int m => .draw m fun d => .ok (.int d)
  | _, _ => .bad
theorem draw_of {K : PySem.W.Frag} {T : List (Addr × Str)} {vs : List V} {H : Hp} {Q : VK} {E : XK} (h : spF K T (ul2 F_draw) vs H Q E) : spDr vs H Q E := by
  obtain ⟨p, c, U, ds, b, dn, wd, u, al⟩ := h
  obtain ⟨x, y, rfl, al2⟩ := al_ul2 al
  obtain ⟨v, w, rfl, d1, d2⟩ := denL_2 dn
  unfold F_draw at al2
  split at al2
  · rename_i m
    cases d1
    cases d2
    obtain ⟨b', rfl, h0, h1, h2⟩ := al2
    refine ⟨p, c, b', m, rfl, h0, log_of h0 h1, wd.pen, fun d H' d0 d1 pn k => ?_⟩
    exact h2 d d0 d1 (.int d) H' (.int d) ⟨pn, tabs_keepP k wd.pen wd.tabs⟩ (keep_fr k)
  · exact al2.elim
end Gp
end
section
set_option Elab.async false
set_option linter.all false
set_option maxRecDepth 100000
set_option maxHeartbeats 4000000
namespace Gp
open PySem PySem.Spec PyProof.Rows L2 Gh
def intsD : List D → Option (List Int)
  | [] => some []
  | .int i :: r => (intsD r).map (i :: ·)
  | _ => none
def blsD : List D → Option (List Bool)
  | [] => some []
  | .bl i :: r => (blsD r).map (i :: ·)
  | _ => none
theorem intsD_map (ns : List Int) : intsD (ns.map D.int) = some ns := by
  induction ns with
  | nil => rfl
  | cons n r ih => show (intsD (r.map D.int)).map (n :: ·) = _; rw [ih]; rfl
section
variable {g : Gw} {U : Addr → Prop} {H : Hp} {b : Nat} {E : XK} {Q : VK} {ε : Env} {te : TE} {me : Tr D}
theorem ints_den : ∀ {vs : List V} {ds : List D} {ns : List Int}, DenL g U H vs ds → intsD ds = some ns → vs = ns.map V.int
  | _, _, _, .nil, h => by cases h; rfl
  | _, d :: ds, ns, .cons a r, h => by
    cases d with
    | int i =>
      cases q : intsD ds with
      | none => unfold intsD at h; rw [q] at h; cases h
      | some z =>
        unfold intsD at h
        rw [q] at h
        cases h
        rw [den_int a, ints_den r q]
        rfl
    | _ => cases h
theorem bls_den : ∀ {vs : List V} {ds : List D} {ns : List Bool}, DenL g U H vs ds → blsD ds = some ns → vs = ns.map V.bl
  | _, _, _, .nil, h => by cases h; rfl
  | _, d :: ds, ns, .cons a r, h => by
    cases d with
    | bl i =>
      cases q : blsD ds with
      | none => unfold blsD at h; rw [q] at h; cases h
      | some z =>
        unfold blsD at h
        rw [q] at h
        cases h
        rw [den_bl a, bls_den r q]
        rfl
    | _ => cases h
def lsI (x : D) (k : List Int → Tr D) : Tr D := match x with
  | .lst ds => match intsD ds with
    | some ns => k ns
    | none => .bad
  | _ => .bad
theorem al_lsI {P : D → Nat → Prop} {X : Str → Fs → Nat → Prop} {x : D} {k : List Int → Tr D} {v : V} (dn : Den g U H v x) (h : Al P X (lsI x k) b) : ∃ a ns, v = .ref a ∧ SqL g.K H a (ns.map V.int) ∧ x = .lst (ns.map D.int) ∧ ns.length ≤ sizeLine ∧ Al P X (k ns) b := by
  unfold lsI at h
  split at h
  · rename_i ds
    split at h
    · rename_i ns e
      obtain ⟨a, vs, rfl, hh, _, l, kk⟩ := den_lst dn
      have e2 := ints_den kk e
      subst e2
      refine ⟨a, ns, rfl, SqL.of hh, ?_, by rw [List.length_map] at l; exact l, h⟩
      congr 1
      clear kk l hh dn h
      induction ds generalizing ns with
      | nil => cases e; rfl
      | cons d r ih =>
        cases d with
        | int i =>
          unfold intsD at e
          cases q : intsD r with
          | none => rw [q] at e; cases e
          | some z =>
            rw [q] at e
            cases e
            rw [List.map_cons, ← ih z q]
        | _ => cases e
    · exact h.elim
  · exact h.elim
theorem insI_perm (a : Int) : ∀ l : List Int, (insI a l).Perm (a :: l)
  | [] => .refl _
  | b :: r => by
    unfold insI
    split
    · exact .refl _
    · exact ((insI_perm a r).cons b).trans (.swap a b r)
theorem insI_sorted (a : Int) : ∀ l : List Int, l.Pairwise (· ≤ ·) → (insI a l).Pairwise (· ≤ ·)
  | [], _ => List.pairwise_singleton _ _
  | b :: r, h => by
    unfold insI
    split
    · rename_i hab
      refine List.pairwise_cons.mpr ⟨fun y hy => ?_, h⟩
      rcases List.mem_cons.mp hy with rfl | hy
      · exact hab
      · exact Int.le_trans hab ((List.pairwise_cons.mp h).1 y hy)
    · rename_i hab
      refine List.pairwise_cons.mpr ⟨fun y hy => ?_, insI_sorted a r (List.pairwise_cons.mp h).2⟩
      rcases List.mem_cons.mp ((insI_perm a r).mem_iff.mp hy) with rfl | hy
      · omega
      · exact (List.pairwise_cons.mp h).1 y hy
theorem sortI_perm : ∀ l : List Int, (sortI l).Perm l
  | [] => .refl _
  | a :: r => (insI_perm a _).trans ((sortI_perm r).cons a)
theorem sortI_sorted : ∀ l : List Int, (sortI l).Pairwise (· ≤ ·)
  | [] => .nil
  | a :: r => insI_sorted a _ (sortI_sorted r)
theorem sorted_eq : ∀ {l m : List Int}, l.Perm m → l.Pairwise (· ≤ ·) → m.Pairwise (· ≤ ·) → l = m
  | [], m, p, _, _ => (List.nil_perm.mp p).symm
  | a :: r, [], p, _, _ => by cases List.perm_nil.mp p
  | a :: r, c :: s, p, h1, h2 => by
    have e : a = c := by
      have m1 : c ∈ a :: r := p.mem_iff.mpr List.mem_cons_self
      have m2 : a ∈ c :: s := p.mem_iff.mp List.mem_cons_self
      rcases List.mem_cons.mp m1 with e | e
      · exact e.symm
      · rcases List.mem_cons.mp m2 with e2 | e2
        · exact e2
        · exact Int.le_antisymm ((List.pairwise_cons.mp h1).1 c e) ((List.pairwise_cons.mp h2).1 a e2)
    subst e
    rw [sorted_eq (List.perm_cons a |>.mp p) (List.pairwise_cons.mp h1).2 (List.pairwise_cons.mp h2).2]
def sortD (x : D) : Tr D := lsI x fun ns => .ok (.lst ((sortI ns).map .int))
theorem cr_sortedK {X : Cx} {K : PySem.W.Frag} (h : X.K = K) : CallR X (.builtin "sorted") (rSortedI K) := h ▸ cr_sortedI
theorem srl_sorted : SRL g E (rSortedI g.K) (ul1 sortD) := fun U H b xs dxs Q dn w u q => by
  obtain ⟨x, rfl, q1⟩ := al_ul1 q
  obtain ⟨v, rfl, d1⟩ := denL_1 dn
  obtain ⟨a, ns, rfl, h1, _, l, q2⟩ := al_lsI d1 q1
  refine ⟨a, ns, rfl, h1, fun ns' p pm srt np => ?_⟩
  have e : ns' = sortI ns := sorted_eq (pm.trans (sortI_perm ns).symm) srt (sortI_sorted ns)
  subst e
  refine new_lst q2 w u ?_ (DenL.ints _) p np
  rw [List.length_map, (sortI_perm ns).length_eq]
  exact l
def lsB (x : D) (k : List Bool → Tr D) : Tr D := match x with
  | .lst ds => match blsD ds with
    | some ns => k ns
    | none => .bad
  | _ => .bad
def allD (x : D) : Tr D := lsB x fun ns => .ok (.bl (ns.all id))
theorem cr_allK {X : Cx} {K : PySem.W.Frag} (h : X.K = K) (hc : X.calm = true) : CallR X (.builtin "all") (rAll K) := h ▸ cr_all hc
theorem al_lsB {P : D → Nat → Prop} {X : Str → Fs → Nat → Prop} {x : D} {k : List Bool → Tr D} {v : V} (dn : Den g U H v x) (h : Al P X (lsB x k) b) : ∃ a ns, v = .ref a ∧ SqL g.K H a (ns.map V.bl) ∧ Al P X (k ns) b := by
  unfold lsB at h
  split at h
  · split at h
    · rename_i ns e
      obtain ⟨a, vs, rfl, hh, _, l, kk⟩ := den_lst dn
      have e2 := bls_den kk e
      subst e2
      exact ⟨a, ns, rfl, SqL.of hh, h⟩
    · exact h.elim
  · exact h.elim
theorem srl_all : SRL g E (rAll g.K) (ul1 allD) := fun U H b xs dxs Q dn w u q => by
  obtain ⟨x, rfl, q1⟩ := al_ul1 q
  obtain ⟨v, rfl, d1⟩ := denL_1 dn
  obtain ⟨a, ns, rfl, h1, q2⟩ := al_lsB d1 q1
  exact ⟨a, ns, rfl, h1, okP.here q2 w (.bl _)⟩
end
end Gp
end
section
set_option Elab.async false
set_option linter.all false
set_option maxRecDepth 100000
set_option maxHeartbeats 4000000
namespace Gp
open PySem PySem.Spec PyProof.Rows L2 Gh
def tryT {α β : Type} : Tr α → (α → Tr β) → (Str → Fs → Tr β) → Tr β
  | .ok a, k, _ => k a
  | .ex c fs, _, x => x c fs
  | .bad, _, _ => .bad
  | .draw m f, k, x => .draw m fun d => tryT (f d) k x
theorem tryT_ex {α β : Type} (c : Str) (fs : Fs) (k : α → Tr β) (x : Str → Fs → Tr β) : tryT (.ex c fs) k x = x c fs := rfl
theorem al_try {α β : Type} {P : β → Nat → Prop} {E : Str → Fs → Nat → Prop} {m : Tr α} {k : α → Tr β} {x : Str → Fs → Tr β} {b : Nat} : Al P E (tryT m k x) b ↔ Al (fun a b1 => Al P E (k a) b1) (fun c fs b1 => Al P E (x c fs) b1) m b := by
  induction m generalizing b with
  | draw m f ih =>
    constructor
    · rintro ⟨b', e, h1, h2, h3⟩
      exact ⟨b', e, h1, h2, fun d d0 d1 => (ih d).mp (h3 d d0 d1)⟩
    · rintro ⟨b', e, h1, h2, h3⟩
      exact ⟨b', e, h1, h2, fun d d0 d1 => (ih d).mpr (h3 d d0 d1)⟩
  | _ => exact Iff.rfl
def THd (K : PySem.W.Frag) (T : List (Addr × Str)) (FH : Tr D → Tr D) : (XK → Hp → VK → Prop) → Hp → VK → Prop := fun tl H Q => ∃ p c U b m, Wd ⟨K, T, p, c⟩ H b ∧ UOk ⟨K, T, p, c⟩ U H ∧
  (∀ (E : XK) H' b' Q', Fr H H' p → Wd ⟨K, T, p, c⟩ H' b' → Al (okP ⟨K, T, p, c⟩ U H' Q') (exP ⟨K, T, p, c⟩ U E H') m b' → tl E H' Q') ∧ Al (okP ⟨K, T, p, c⟩ U H Q) (fun _ _ _ => False) (FH m) b
section
variable {g : Gw} {Mt U0 U U' : Addr → Prop} {H0 H H' H1 H2 : Hp} {b b1 : Nat} {σ : L2.St} {ε ε' : Env} {E : XK} {W L W' : Type}
variable {env : W → Env} {envL : L → Env} {env' : W' → Env} {u ta tb : TS} {te : TE} {me : Tr D}
theorem UOk.extN (u : UOk g U H) (n : LamX.ExtN H H') : UOk g U H' := ⟨u.p, u.c, fun a ha => by
  obtain ⟨o, h, z⟩ := u.al a ha
  exact ⟨o, n a o h z.tbl, z⟩⟩
theorem se_lam {FH : Tr D → Tr D} {t : XK → TE} {m : Tr D} (h : ∀ E, SE g E ε (t E) m) : SE g E ε (LamX.tLam g.T (THd g.K g.T FH) t) (nox (FH m)) := fun U σ H b Q R W u q => by
  refine ⟨W.tabs, fun H1 n t1 => ⟨g.p, g.c, U, b, m, ⟨W.pen.extN n, t1⟩, u.extN n, fun E H' b' Q' f w' a' => ?_, ?_⟩⟩
  · have f1 : Fr H H' g.p := (ext_fr n).trans f
    exact h E U σ H' b' Q' (R.fr u f1) w' (u.fr f1 w') a'
  · exact Al.mono (fun _ _ z => okP.fr (ext_fr n) z) (fun _ _ _ z => z) (al_nox (E' := fun _ _ _ => False) q)
theorem rel_err {n i j : Nat} {a dd : Addr} {cl : Str} {fvs : List (Str × V)} {fs : Fs} (hl : σ.length = n) (hi : i < n) (hj : j < n) (hij : i ≠ j) (ha : H a = some (exk a (gd cl g.K) dd)) (na : ¬ U a) (hd : H dd = some (.xd fvs)) (nd : ¬ U dd) (df : DenF g U H fvs fs) :
    Rel g U H (((σ.set i (some (.ref a))).set j (some (.ref a))).set i none) ((List.replicate n Sl.no).set j (.fz (.err cl fs))) := by
  have no : ∀ k x, ¬ OwnAt (((σ.set i (some (.ref a))).set j (some (.ref a))).set i none) ((List.replicate n Sl.no).set j (.fz (.err cl fs))) k x := fun k x ⟨_, z⟩ => by
    have : ∀ s : Sl, ((List.replicate n Sl.no).set j (.fz (.err cl fs)))[k]? = some s → (∃ d, s = .fz d) ∨ s = .no := fun s e => by
      have m := List.mem_of_getElem? e
      rcases List.mem_or_eq_of_mem_set m with m | m
      · exact .inr (List.mem_replicate.mp m).2
      · exact .inl ⟨_, m⟩
    rcases z with ⟨x, z⟩ | ⟨x, y, z⟩
    · rcases this _ z with ⟨d, e⟩ | e <;> cases e
    · rcases this _ z with ⟨d, e⟩ | e <;> cases e
  refine ⟨by simp only [List.length_set, List.length_replicate]; exact hl, fun k s e => ?_, fun _ _ x _ h1 _ => (no _ x h1).elim⟩
  by_cases q : j = k
  · subst q
    rw [List.getElem?_set_self (by rw [List.length_replicate]; exact hj)] at e
    cases e
    refine ⟨some (.ref a), ?_, _, rfl, .err ha na hd nd df⟩
    rw [List.getElem?_set_ne hij, List.getElem?_set_self (by rw [List.length_set, hl]; exact hj)]
  · rw [List.getElem?_set_ne q, List.getElem?_replicate] at e
    split at e
    · rename_i hk
      cases e
      refine ⟨_, List.getElem?_eq_getElem (by simp only [List.length_set]; rw [hl]; exact hk), trivial⟩
    · cases e
theorem fin_al {P : D → Nat → Prop} {X : Str → Fs → Nat → Prop} {m : Tr (Fl Unit Empty)} (h : Al P X (fin m) b) : Al (fun f b => match f with | .nx _ => P .non b | .rt d => P d b | .bk e => nomatch e | .ct e => nomatch e) X m b := by
  refine (al_bd.mp h).mono (fun f b h => ?_) (fun _ _ _ h => h)
  cases f with
  | nx w => exact h
  | rt d => exact h
  | bk e => exact nomatch e
  | ct e => exact nomatch e
theorem run_rest {t : TS} {envU : Unit → Env} {m : Tr (Fl Unit Empty)} {Q : VK} (ss : SS g EF ε t envU envE m) (R : Rel g U H1 σ ε) (no : ∀ i a, ¬ OwnAt σ ε i a) (w : Wd g H1 b) (u : UOk g U H1) (f : Fr H H1 g.p) (al : Al (okP g U H Q) (fun _ _ _ => False) (fin m) b) :
    t { nx := fun _ H' => Q .non H', rt := Q } σ H1 := by
  refine ss (fun _ => False) U H U _ _ H1 b ⟨R, w, u, fun _ z => z, fun i a z => (no i a z).elim, fun a o z1 z2 _ z3 => f a o z1 z2 z3, fun i ds' a z1 z2 => (no i a ⟨z2, .inl ⟨ds', z1⟩⟩).elim, fun i c fs a _ z1 z2 => (no i a ⟨z2, .inr ⟨c, fs, z1⟩⟩).elim⟩ ((fin_al al).mono (fun f b1 h1 => ?_) (fun c fs b1 h1 => h1.elim))
  cases f with
  | nx w => exact fun U' σ' H' e s => h1 .non H' .non s.wd fun a o z1 z2 z3 => s.ext a o z1 z2 (fun z => z) z3
  | rt d => exact fun v H' dn w f => h1 v H' dn w fun a o z1 z2 z3 => f a o z1 z2 (fun z => z) z3
  | bk e => exact nomatch e
  | ct e => exact nomatch e
theorem no_err {n j : Nat} {d : D} : ∀ i a, ¬ OwnAt σ ((List.replicate n Sl.no).set j (.fz d)) i a := fun k x ⟨_, z⟩ => by
  have : ∀ s : Sl, ((List.replicate n Sl.no).set j (.fz d))[k]? = some s → (∃ d, s = .fz d) ∨ s = .no := fun s e => by
    have m := List.mem_of_getElem? e
    rcases List.mem_or_eq_of_mem_set m with m | m
    · exact .inr (List.mem_replicate.mp m).2
    · exact .inl ⟨_, m⟩
  rcases z with ⟨x, z⟩ | ⟨x, y, z⟩
  · rcases this _ z with ⟨d, e⟩ | e <;> cases e
  · rcases this _ z with ⟨d, e⟩ | e <;> cases e
def ExH (g : Gw) (U : Addr → Prop) (H : Hp) (Q : VK) (x : Str → Fs → Tr D) : XK := fun cls d H' => ∃ cl fs b1 dd fvs, cls = .ref (gd cl g.K) ∧ d = some dd ∧ H' dd = some (.xd fvs) ∧ ¬ U dd ∧ DenF g U H' fvs fs ∧ Wd g H' b1 ∧ Fr H H' g.p ∧ Al (okP g U H Q) (fun _ _ _ => False) (x cl fs) b1
theorem clause {n i j : Nat} {trest : TS} {mrest : D → Tr (Fl Unit Empty)} {envU : Unit → Env} {xh : Str → Bool} {HE : Addr} {Wout : WX} {Q : VK} (hi : i < n) (hj : j < n) (hij : i ≠ j)
    (hx : ∀ cl, xh cl = true → PySem.W.exmOne g.K (.ref (gd cl g.K)) (.ref HE) = some true)
    (hs : ∀ cl fs, SS g EF ((List.replicate n Sl.no).set j (.fz (.err cl fs))) trest envU envE (mrest (.err cl fs))) (u : UOk g U H) :
    ∀ cls d σ' H', ExH g U H Q (fun cl fs => if xh cl = true then nox (fin (mrest (.err cl fs))) else .bad) cls d H' → σ'.length = n → wAsK g.K (.ref HE) i (fun a cls d => tAsg (tVar i) (gName j)) Wout { nx := trest { nx := fun _ H' => Q .non H', rt := Q }, rt := Q } cls d σ' H' := by
  rintro cls d σ' H' ⟨cl, fs, b1, dd, fvs, rfl, rfl, hd, nd, df, wd, f, al⟩ hl
  dsimp only at al
  by_cases hxc : xh cl = true
  · rw [if_pos hxc] at al
    refine ⟨true, hx cl hxc, fun _ => ⟨_, dd, rfl, rfl, fun a na => ?_⟩, fun z => by cases z⟩
    refine ⟨.ref a, List.getElem?_set_self (by rw [hl]; exact hi), fun na' => ?_⟩
    have s1 : L2.Same H' (upd H' a (exk a (gd cl g.K) dd)) := same_new na
    have u' := u.fr f wd
    have nU : ¬ U a := u'.new na
    exact run_rest (hs cl fs) (rel_err hl hi hj hij upd_same nU (s1 _ _ hd) nd (df.ext (u'.extU (fr_same s1)))) no_err (wd.same s1) (u'.fr (fr_same s1) (wd.same s1)) (f.trans (fr_same s1)) (al_nox al)
  · rw [if_neg hxc] at al
    exact al.elim
theorem heardA {N : List Str} {f : Addr} {m : Tr D} {n i j : Nat} {trest : TS} {mrest : D → Tr (Fl Unit Empty)} {envU : Unit → Env} {xh : Str → Bool} {HE : Addr} {Wout : WX} {Q : VK} {tR : XK → TE} {kR : D → Tr D} (hn : (L2.start N [V.ref f]).length = n) (hi : i < n) (hj : j < n) (hij : i ≠ j) (hj0 : j ≠ 0)
    (hx : ∀ cl, xh cl = true → PySem.W.exmOne g.K (.ref (gd cl g.K)) (.ref HE) = some true)
    (hs : ∀ cl fs, SS g EF ((List.replicate n Sl.no).set j (.fz (.err cl fs))) trest envU envE (mrest (.err cl fs)))
    (hR : ∀ (E : XK) (σ : L2.St) H' b' Q', σ[0]? = some (some (.ref f)) → Fr H H' g.p → Wd g H' b' → UOk g U H' → Al (okP g U H' Q') (exP g U E H') (bd m kR) b' → tR E σ H' Q')
    (wd : Wd g H b) (u : UOk g U H) (al : Al (okP g U H Q) (fun _ _ _ => False) (tryT (bd m kR) .ok (fun cl fs => if xh cl = true then nox (fin (mrest (.err cl fs))) else .bad)) b) :
    tSeq (tAsg (tC .non) (gName j)) (tSeq (fun D σ H => tTry n (fun E => tRet (tR E)) (wAsK g.K (.ref HE) i (fun a cls d => tAsg (tVar i) (gName j)) Wout D) D σ H) trest) { nx := fun _ H' => Q .non H', rt := Q } (L2.start N [.ref f]) H := by
  refine ⟨ExH g U H Q (fun cl fs => if xh cl = true then nox (fin (mrest (.err cl fs))) else .bad), clause hi hj hij hx hs u, ?_⟩
  refine hR _ _ H b Q ?_ Fr.refl wd u ((al_try.mp al).mono (fun d b1 h => h) (fun cl fs b1 h dd fvs H' e1 e2 e3 e4 e5 => ⟨cl, fs, b1, dd, fvs, rfl, rfl, e1, e2, e3, e4, e5, h⟩))
  rw [List.getElem?_set_ne hj0]
  rfl
theorem act_tup {f c' : Addr} {q : Str} {tl : XK → Hp → VK → Prop} {m : Tr D} {x : Str} (hx : x.length ≤ sizeLine) (hc : H c' = some (LamX.CodeO c' q)) (cp : c' ≠ g.p)
    (ha : ∀ (E : XK) H' b' Q', Fr H H' g.p → Wd g H' b' → Al (okP g U H' Q') (exP g U E H') m b' → tl E H' Q') :
    ∀ (E : XK) (σ : L2.St) H' b' Q', σ[0]? = some (some (.ref f)) → Fr H H' g.p → Wd g H' b' → UOk g U H' → Al (okP g U H' Q') (exP g U E H') (bd m fun d => .ok (.tup [.str x, d])) b' → tTup (tCons (tC (.str x)) (tCons (tAct f c' q (tl E)) tNil)) σ H' Q' :=
  fun E σ H' b' Q' e fr wd u al => ⟨e, fr _ _ hc cp (fun _ z => LamX.codeO_ne _ z), ha E H' b' _ fr wd ((al_bd.mp al).mono (fun d b1 h v H1 dn w1 f1 => ⟨by show 2 ≤ sizeLine; decide, fun p np => (by
    have s := same_new (o := .tup [.str x, v]) np
    have u1 := u.fr f1 w1
    exact h _ _ (.tup upd_same (u1.new np) (by show 2 ≤ sizeLine; decide) (.cons (.str x hx) (.cons (dn.ext (u1.extU (fr_same s))) .nil))) (w1.same s) (f1.trans (fr_same s)))⟩) (fun _ _ _ h => h))⟩
theorem code_np {p c c' : Addr} {K : PySem.W.Frag} {T : List (Addr × Str)} {q : Str} (w : Wd ⟨K, T, p, c⟩ H b) (hc : H c' = some (LamX.CodeO c' q)) : c' ≠ p := fun z => by
  obtain ⟨ns, i, y, h1, _⟩ := w.pen
  subst z
  rw [hc] at h1
  unfold LamX.CodeO at h1
  cases h1
def xaD (tab : List Str) (f : Str) (o : D) : Tr D := match o with
  | .err c fs => if c ∈ tab then (match fs.lookup f with | some d => .ok d | none => .bad) else .bad
  | _ => .bad
theorem se_xa {tab : List Str} {f : Str} (hT : ∀ c ∈ tab, ErrT g.K (gd c g.K) ∧ PySem.W.findIn g.K (.ref (gd c g.K)) f = some none) (he : SE g E ε te me) : SE g E ε (tXa g.K f te) (bd me (xaD tab f)) := fun U σ H b Q R W u q =>
  he.step R W u q fun v d H1 b1 d1 w1 f1 R1 u1 q1 => by
    cases d1 with
    | err ha na hd nd df =>
      rename_i a dd c fvs fs
      change Al _ _ (if c ∈ tab then (match fs.lookup f with | some d => .ok d | none => .bad) else .bad) b1 at q1
      split at q1
      · rename_i hm
        cases e : fs.lookup f with
        | none => rw [e] at q1; exact q1.elim
        | some d =>
          rw [e] at q1
          obtain ⟨v, hv, d2⟩ := df.look e
          exact ⟨a, _, dd, fvs, v, rfl, ha, (hT c hm).1, (hT c hm).2, hd, hv, q1 _ _ d2 w1 f1⟩
      · exact q1.elim
    | _ => exact q1.elim
end
end Gp
end
section
set_option Elab.async false
set_option linter.all false
set_option maxRecDepth 100000
set_option maxHeartbeats 4000000
namespace Gp
open PySem PySem.Spec PyProof.Rows L2 Gh
section
variable {g : Gw} {Mt U0 U U' : Addr → Prop} {H0 H H' H1 H2 : Hp} {b b1 b2 : Nat} {σ : L2.St} {ε ε' : Env} {E : XK} {W L W' : Type}
variable {env : W → Env} {envL : L → Env} {env' : W' → Env} {u ta tb : TS} {te : TE} {me : Tr D}
end
section
variable {K : PySem.W.Frag} {x qual file : Str} {params : Arguments} {body : List Stmt} {scope : Scope} {dvs : List V} {f B : Addr} {fd : FuncData} {ps : List Str}
theorem SupF.bindsN (F : SupF K x qual params body scope [] f B file fd)
    (h : ∀ (cl : List (Str × Addr)) (kV doc pm : Value) (an : Option Addr) (cdv ct : Value) (us : List Value), us.length = ps.length → bindArgs (PySem.W.fnX x qual params body scope cl .none kV doc pm an cdv ct) ⟨us, []⟩ = pure (ps.zip us)) : Binds K fd ps [] := by
  obtain ⟨oc, od, dV, kV, doc, pm, an, cda, ct, osl, cc, rfl, lk, hcd, hD, _⟩ := F.ex
  rcases hD with ⟨_, rfl⟩ | ⟨e, _⟩
  · exact .all (h _ kV doc pm an _ ct)
  · exact absurd rfl e
end
end Gp
end
section
set_option Elab.async false
set_option linter.all false
set_option maxRecDepth 100000
set_option maxHeartbeats 4000000
namespace Gp
open PySem PySem.Spec PyProof.Rows L2 Gh
def iEnA (K : PySem.W.Frag) (ta : TA) : TI := fun σ H R => ta σ H fun vs H1 => (∃ a xs, vs = [.ref a] ∧ SqL K H1 a xs ∧ R (Ite K a) H1) ∨ ∃ a xs, vs = [.ref a] ∧ SqT K H1 a xs ∧ R (Itu K a) H1
def enD : D → Tr (List D)
  | .lst ds => .ok (ds.mapIdx fun i d => .tup [.int i, d])
  | .tup ds => .ok (ds.mapIdx fun i d => .tup [.int i, d])
  | _ => .bad
section
variable {g : Gw} {Mt U0 U U' : Addr → Prop} {H0 H H' H1 H2 : Hp} {b b1 b2 : Nat} {σ : L2.St} {ε ε' : Env} {E : XK}
theorem pi_enumA {X : Cx} {K : PySem.W.Frag} {e : Expr} {ta : TA} {p pos tpos : Pos} {elts : List Expr} {kk : Nat} (hK : X.K = K) (hg : Gl X "enumerate") (hm : X.mg "enumerate" = none) (ha : PA X [e] ta) (hs : starEach [e] X.env = [(false, eval e X.env)] := by rfl) :
    PI X (.Tuple elts kk tpos) (.Call (.Name "enumerate" p) [e] [] pos) (iEnA K ta) := by
  subst hK
  refine ⟨fun pins s σ H R I h => ?_⟩
  refine Call_ (ld_blt I hg hm boot_enumerate (PyProof.Rows.callWith_type1 (thn (ha.run pos pins s σ H _ I h) fun us s1 ⟨vs, H1, I1, r1, q1⟩ => ?_) hs rfl))
  have fp : ∀ b ∈ [s1.heap.objs.size + 1, s1.heap.objs.size], FpOk X pins H1 b := fun b hb => by
    have e' : b = s1.heap.objs.size + 1 ∨ b = s1.heap.objs.size := by simpa using hb
    have hle : s1.heap.objs.size ≤ b := by
      rcases e' with z | z
      · rw [z]; exact Nat.le_add_right _ _
      · rw [z]; exact Nat.le_refl _
    exact I1.fpOk hle (I1.hok.fresh hle)
  rcases q1 with ⟨a, xs, ex, hq, q⟩ | ⟨a, xs, ex, hq, q⟩
  · subst ex
    cases r1 with
    | cons r rr =>
      cases rr
      cases r
      obtain ⟨its, rv, p', hz⟩ := I1.list hq
      refine call_enumerate_list p'.isList fun h' he hit hsz hk => wpAny_pyIter_enum he ?_
      have I2 : Inv X pins σ H1 { s1 with heap := h' } := I1.kept (t' := s1.toks) hk
      exact ⟨s1.heap.objs.size + 1, [s1.heap.objs.size + 1, s1.heap.objs.size], _, _, H1, rfl, I2, turn_enum a (s1.heap.objs.size + 1) s1.heap.objs.size, ⟨⟨.none, he⟩, hit, Nat.succ_ne_self _⟩, fp, q⟩
  · subst ex
    cases r1 with
    | cons r rr =>
      cases rr
      cases r
      obtain ⟨its, rv, p', hz⟩ := I1.tuple hq
      have hal : a < s1.heap.objs.size := by obtain ⟨_, z, _⟩ := p'; exact Heap.lt_size z
      refine call_enumerate_tup p' fun h' he hit hsz hk => wpAny_pyIter_enum he ?_
      have I2 : Inv X pins σ H1 { s1 with heap := h' } := I1.kept (t' := s1.toks) hk
      exact ⟨s1.heap.objs.size + 1, [s1.heap.objs.size + 1, s1.heap.objs.size], _, _, H1, rfl, I2, turn_enumT a (s1.heap.objs.size + 1) s1.heap.objs.size, ⟨⟨.none, he⟩, hit, Nat.succ_ne_self _, Nat.ne_of_lt hal, Nat.ne_of_gt (Nat.lt_succ_of_lt hal)⟩, fp, q⟩
theorem den_pair {x : V} {d : D} {T : Addr} (i : Nat) (u : UOk g U H1) (n : H1 T = none) (h : Den g U H1 x d) : Den g U (upd H1 T (.tup [.int i, x])) (.ref T) (.tup [.int i, d]) := by
  have s := same_new (o := .tup [.int i, x]) n
  exact .tup upd_same (u.new n) (by show 2 ≤ sizeLine; decide) (.cons (.int _) (.cons (h.ext (u.extU (fr_same s))) .nil))
theorem itd_enL {a : Addr} {vs : List V} {ds : List D} (h : H a = some (.lst vs)) (n : ¬ U a) (k : DenL g U H vs ds) : ItD g U H (Ite g.K a) (ds.mapIdx fun i d => .tup [.int i, d]) := fun i U1 H1 b e w u => by
  have h1 : H1 a = some (.lst vs) := e.keep _ _ h n (fun _ z => by cases z)
  refine ⟨fun d hd => ?_, fun hl => ⟨vs, SqL.of h1, by rw [k.length]; rw [List.length_mapIdx] at hl; exact Nat.le_of_eq hl⟩⟩
  rw [List.getElem?_mapIdx] at hd
  cases q : ds[i]? with
  | none => rw [q] at hd; cases hd
  | some d0 =>
    rw [q] at hd
    cases hd
    obtain ⟨v, hv, dn⟩ := k.getD q
    refine ⟨⟨vs, v, SqL.of h1, hv⟩, ?_⟩
    rintro x H2 ⟨T, y, rfl, nT, rfl, hy⟩
    have e2 := hy vs (SqL.of h1)
    rw [hv] at e2
    cases e2
    exact ⟨den_pair i u nT (dn.ev e), same_new nT⟩
theorem itd_enT {a : Addr} {vs : List V} {ds : List D} (h : ∀ U1 H1, Ev U H U1 H1 → SqT g.K H1 a vs) (k : DenL g U H vs ds) : ItD g U H (Itu g.K a) (ds.mapIdx fun i d => .tup [.int i, d]) := fun i U1 H1 b e w u => by
  have h1 := h U1 H1 e
  refine ⟨fun d hd => ?_, fun hl => ⟨vs, h1, by rw [k.length]; rw [List.length_mapIdx] at hl; exact hl⟩⟩
  rw [List.getElem?_mapIdx] at hd
  cases q : ds[i]? with
  | none => rw [q] at hd; cases hd
  | some d0 =>
    rw [q] at hd
    cases hd
    obtain ⟨v, hv, dn⟩ := k.getD q
    refine ⟨⟨vs, v, h1, hv⟩, ?_⟩
    rintro x H2 ⟨T, y, rfl, nT, rfl, hy⟩
    have e2 := hy vs h1
    rw [hv] at e2
    cases e2
    exact ⟨den_pair i u nT (dn.ev e), same_new nT⟩
theorem si_enum {t : TA} {m : Tr (List D)} (ha : SA g E ε t m) : SI g E ε (iEnA g.K t) (bd m (ul1 enD)) := fun U σ H b R rl wd u q =>
  ha.step rl wd u q fun v d H1 b1 d1 w1 f1 R1 u1 q1 => by
    obtain ⟨x, rfl, q2⟩ := al_ul1 q1
    obtain ⟨v, rfl, e1⟩ := denL_1 d1
    cases x with
    | lst ds =>
      obtain ⟨a, vs, rfl, h, n, l, k⟩ := den_lst e1
      exact .inl ⟨a, vs, rfl, SqL.of h, q2 _ H1 (by rw [List.length_mapIdx, ← k.length]; exact l) (itd_enL h n k) w1 f1⟩
    | tup ds =>
      obtain ⟨a, vs, rfl, h, l, k⟩ := den_tupE e1
      exact .inr ⟨a, vs, rfl, h U H1 Ev.refl, q2 _ H1 (by rw [List.length_mapIdx, ← k.length]; exact l) (itd_enT h k) w1 f1⟩
    | _ => exact q2.elim
variable {W L : Type} {env : W → Env} {envL : L → Env} {a r : TS} {t : TS} {m : Tr (Fl W L)}
end
end Gp
end
section
set_option Elab.async false
set_option linter.all false
set_option maxRecDepth 100000
set_option maxHeartbeats 4000000
namespace Gp
open PySem PySem.Spec PyProof.Rows L2 Gh
theorem obsL_eq {as : List Addr} {ex : List (PySem.W.Frag → Bool)} {fn : List Df} {tf : List He.Defn} {fs : List Ds} {file : Str} {g : Addr → Option Obj} {s : Shared} (h : ∀ a, g a = s.heap.get? a) : obsL as ex fn tf fs file g = (hookL as ex fn tf fs file).obs s := by
  have e : g = s.heap.get? := funext h
  rw [e] <;> rfl
end Gp
end
section
set_option Elab.async false
set_option linter.all false
set_option maxRecDepth 100000
set_option maxHeartbeats 4000000
namespace Gp
open PySem PySem.Spec PyProof.Rows L2 Gh
def insS (a : Int) : List Int → List Int
  | [] => [a]
  | b :: r => if a < b then a :: b :: r else if a = b then b :: r else b :: insS a r
def setI : List Int → List Int
  | [] => []
  | a :: r => insS a (setI r)
theorem mem_insS {x a : Int} : ∀ {l : List Int}, x ∈ insS a l ↔ x = a ∨ x ∈ l
  | [] => by simp [insS]
  | b :: r => by
    unfold insS
    split
    · simp
    · split
      · rename_i h
        subst h
        simp
      · rw [List.mem_cons, mem_insS, List.mem_cons]
        constructor
        · rintro (h | h | h)
          · exact .inr (.inl h)
          · exact .inl h
          · exact .inr (.inr h)
        · rintro (h | h | h)
          · exact .inr (.inl h)
          · exact .inl h
          · exact .inr (.inr h)
theorem mem_setI {x : Int} : ∀ {l : List Int}, x ∈ setI l ↔ x ∈ l
  | [] => Iff.rfl
  | a :: r => by
    unfold setI
    rw [mem_insS, mem_setI, List.mem_cons]
theorem ris_insS {a : Int} : ∀ {l : List Int}, l.Pairwise (· < ·) → (insS a l).Pairwise (· < ·)
  | [], _ => List.pairwise_singleton _ _
  | b :: r, h => by
    obtain ⟨h1, h2⟩ := List.pairwise_cons.mp h
    unfold insS
    split
    · rename_i q
      refine List.pairwise_cons.mpr ⟨fun x hx => ?_, h⟩
      rcases List.mem_cons.mp hx with rfl | hx
      · exact q
      · exact Int.lt_trans q (h1 x hx)
    · split
      · exact h
      · rename_i q1 q2
        refine List.pairwise_cons.mpr ⟨fun x hx => ?_, ris_insS h2⟩
        rcases mem_insS.mp hx with rfl | hx
        · omega
        · exact h1 x hx
theorem ris_setI : ∀ l : List Int, (setI l).Pairwise (· < ·)
  | [] => List.Pairwise.nil
  | a :: r => ris_insS (ris_setI r)
theorem ris_eq : ∀ {l m : List Int}, l.Pairwise (· < ·) → m.Pairwise (· < ·) → (∀ x, x ∈ l ↔ x ∈ m) → l = m
  | [], [], _, _, _ => rfl
  | [], b :: m, _, _, h => absurd ((h b).mpr List.mem_cons_self) (by simp)
  | a :: l, [], _, _, h => absurd ((h a).mp List.mem_cons_self) (by simp)
  | a :: l, b :: m, h1, h2, h => by
    obtain ⟨p1, p2⟩ := List.pairwise_cons.mp h1
    obtain ⟨q1, q2⟩ := List.pairwise_cons.mp h2
    have e : a = b := by
      rcases List.mem_cons.mp ((h a).mp List.mem_cons_self) with e | e
      · exact e
      · rcases List.mem_cons.mp ((h b).mpr List.mem_cons_self) with e2 | e2
        · exact e2.symm
        · have := q1 a e
          have := p1 b e2
          omega
    subst e
    congr 1
    refine ris_eq p2 q2 fun x => ⟨fun hx => ?_, fun hx => ?_⟩
    · rcases List.mem_cons.mp ((h x).mp (List.mem_cons_of_mem _ hx)) with rfl | z
      · exact absurd (p1 x hx) (Int.lt_irrefl _)
      · exact z
    · rcases List.mem_cons.mp ((h x).mpr (List.mem_cons_of_mem _ hx)) with rfl | z
      · exact absurd (q1 x hx) (Int.lt_irrefl _)
      · exact z
theorem nodup_setI (l : List Int) : (setI l).Nodup := (ris_setI l).imp fun h => Int.ne_of_lt h
theorem len_of_mem {l m : List Int} (h1 : l.Nodup) (h2 : m.Nodup) (h : ∀ x, x ∈ l ↔ x ∈ m) : l.length = m.length :=
  ((List.perm_ext_iff_of_nodup h1 h2).mpr h).length_eq
theorem len_insS {a : Int} : ∀ {l : List Int}, (insS a l).length ≤ l.length + 1
  | [] => Nat.le_refl _
  | b :: r => by
    unfold insS
    split
    · exact Nat.le_refl _
    · split
      · exact Nat.le_succ _
      · exact Nat.succ_le_succ len_insS
theorem len_setI : ∀ l : List Int, (setI l).length ≤ l.length
  | [] => Nat.le_refl _
  | a :: r => Nat.le_trans len_insS (Nat.succ_le_succ (len_setI r))
end Gp
namespace Gp
open PySem PySem.Spec PyProof.Rows L2 Gh
section
variable {P : Program} {w : World} {A : Around} {E : Value → Shared → Prop} {s : Shared}
abbrev eSet (w : World) : Obj := { cls := .type "set", dict := none, data := .set #[] 0 (.fresh 0 0 (!w.params.followText "set-order")) }
set_option maxHeartbeats 3200000 in
theorem call_set_lstI {l : Addr} {items : Array Value} (ns : List Int) {Q : Value → Shared → Prop} (hh : A.handled = none) (hl : s.heap.IsList l items) (zit : IntsAre items.toList ns) (hb : ns.length + 1 < scanBound)
    (h : ∀ (h' : Heap) (tk c : Nat), SetR w h' s.heap.objs.size (fun j => decide (j ∈ ns)) c → c ≤ ns.length → (∀ b o, s.heap.get? b = some o → h'.get? b = some o) → Q (.ref s.heap.objs.size) { s with heap := h', toks := tk }) :
    wpAny (model P w) A (call (.type "set") [.ref l]) Q E s := by
  have zisz : items.size = ns.length := by
    have q := IntsAre.length zit
    rw [Array.length_toList] at q
    exact q
  obtain ⟨c, tl, zmro⟩ := F.called_set.mro
  have zmade := F.called_set.made
  have zsub := F.called_set.sub
  refine wpAny_call (codeAny_of_tree ?_)
  show wpAny _ _ (callAny (.type "set") _) _ _ _
  refine wpAny_pure ⟨Code.quiet_builtin _ (by decide +kernel), codeAny_builtin F.entry_type_call ?_⟩
  rw [Around.under_plain (weight_type_call_type "set" [.ref l] []) rfl]
  have z1 := F.called_set.notType
  have z2 := F.called_set.canCreate
  have zct := F.typeCall_set_1 (.ref l)
  repeat (any_goals (first | assumption | wp_step))

  refine codeAny_mono (code_set_led1 (.ref l) (E := E) (Q₁ := fun ob t₁ => ob = .ref s.heap.objs.size ∧ t₁ = { s with heap := s.heap.push (eSet w) }) ⟨rfl, rfl⟩) fun r t₁ zr => ?_
  cases r with
  | error e => exact zr
  | ok g₁ =>
    cases g₁ with
    | ret ob =>
      obtain ⟨rfl, rfl⟩ := zr
      have zS : (s.heap.push (eSet w)).get? s.heap.objs.size = some (eSet w) := Heap.get?_push_size _ rfl
      have zT : Shared.TypeIs { s with heap := s.heap.push (eSet w) } (.ref s.heap.objs.size) "set" := ⟨_, zS, rfl⟩
      have zli := F.called_set.init.lookup
      have zbi := F.called_set.init.bind (.ref s.heap.objs.size)
      repeat (any_goals (first | assumption | wp_step))

      refine codeAny_mono (codeAny_call_builtin (R := wants (fun r t₂ => r = .none ∧ ∃ h' tk c, t₂ = { s with heap := h', toks := tk } ∧ SetR w h' s.heap.objs.size (fun j => decide (j ∈ ns)) c ∧ c ≤ ns.length ∧
          (∀ b o, s.heap.get? b = some o → h'.get? b = some o)) E) F.called_set.init.plain F.entry_set_init (check_set_init_1 zT ?_)) fun y₂ t₂ zr₂ => ?_
      · obtain ⟨zo, zol, zcl, zn, zdl⟩ := hl
        obtain ⟨kcls, kdict, kdata, kslots⟩ := zo
        simp only at zcl zdl
        subst zcl; subst zdl
        have zol' : (s.heap.push (eSet w)).get? l = some { cls := .type "list", dict := kdict, data := .seq items zn, slots := kslots } := Heap.get?_push_of_some _ zol
        have zsls := F.sub_list_set
        have zslf := F.sub_list_frozenset
        have zne : (Value.type "list" == Value.type "dict") = false := by decide
        have zl1 : (s.heap.push (eSet w)).IsList l items := ⟨_, zol', rfl, zn, rfl⟩
        unfold Builtin.«set.__init__» noKeywords Builtin.Frozenset.updateFrom
        generalize hPI : pyIter = PI
        wp_walk
        subst hPI

        refine wpAny_pyIter_list zl1 ?_
        refine wpAny_bind (wpAny_runValue ?_)
        have zlS : l < s.heap.objs.size := Heap.lt_size zol
        have zh3 : A.in1.in1.in1.handled = none := by simp [hh]
        have zz1 : (s.heap.push (eSet w)).objs.size = s.heap.objs.size + 1 := Heap.size_push ..
        have zneI : l ≠ (s.heap.push (eSet w)).objs.size := by
          rw [Heap.size_push]; exact Nat.ne_of_lt (Nat.lt_succ_of_lt zlS)
        have zSf : s.heap.objs.size ∉ [(s.heap.push (eSet w)).objs.size, l] := by
          rw [Heap.size_push]; simp only [List.mem_cons, List.mem_singleton, List.not_mem_nil, or_false, not_or]
          exact ⟨Nat.ne_of_lt (Nat.lt_succ_self _), Nat.ne_of_gt zlS⟩
        have zval : ∀ (i : Nat) (v : Value), items[i]? = some v → ∃ k t, ns[i]? = some k ∧ v = .int k t := fun i v hv => by
          have hi : i < ns.length := by rw [← zisz]; exact (Array.getElem?_eq_some_iff.mp hv).1
          obtain ⟨t, e⟩ := PyProof.Rows.IntsAre.int_at zit i v (by rw [Array.getElem?_toList]; exact hv)
          refine ⟨ns[i], t, List.getElem?_eq_getElem hi, ?_⟩
          rw [e, List.getD_eq_getElem?_getD, List.getElem?_eq_getElem hi] <;> rfl
        refine set_update_ints ((Walks.list zh3 _ l zneI items).toS) s.heap.objs.size
          zSf ns zisz hb zval (items.size - 0) 0 _ (by omega) (Nat.zero_le _)
          ⟨⟨_, Heap.get?_push_size _ rfl, rfl, rfl⟩, (zl1.push _)⟩ ?hS0 ?hR
        case hS0 =>
          have zget : ((s.heap.push (eSet w)).push { cls := .type "list_iterator", data := .fields #[.ref l, .int 0 0] }).get? s.heap.objs.size
              = some (eSet w) := Heap.get?_push_of_some _ zS
          exact ⟨0, Nat.le_refl 0, setR_new_at zget⟩
        case hR =>
          intro s' c' zm zc' zS'
          obtain ⟨h', g2, d', tk', os'⟩ := s'
          have zeg : g2 = s.gens := zm.gens
          have zed : d' = s.drawn := zm.drawn
          have zeo : os' = s.os := zm.os
          subst zeg; subst zed; subst zeo
          show wpAny _ _ _ _ _ _
          refine wpAny_pure ?_
          show wpAny _ _ (ret Value.none) _ _ _
          rw [zisz] at zc'
          refine wpAny_pure ⟨rfl, h', tk', c', rfl, zS', zc', fun b o e => ?_⟩
          have zb0 : b < s.heap.objs.size := Heap.lt_size e
          have zb1 : b ≠ s.heap.objs.size := Nat.ne_of_lt zb0
          have zb2 : b ≠ (s.heap.push (eSet w)).objs.size := by
            rw [Heap.size_push]; exact Nat.ne_of_lt (Nat.lt_succ_of_lt zb0)
          exact zm.heap b o (by simp only [List.mem_cons, List.mem_singleton, List.not_mem_nil, or_false, not_or]; exact ⟨zb1, zb2⟩) (Heap.get?_push_of_some _ (Heap.get?_push_of_some _ e))

      · cases y₂ with
        | error e => exact zr₂
        | ok g₂ =>
          cases g₂ with
          | ret r =>
            obtain ⟨rfl, h', tk, c', rfl, zS', zc', zk'⟩ := zr₂
            repeat (any_goals (first | assumption | wp_step))
            exact h _ _ _ zS' zc' zk'
          | _ => exact zr₂.elim
    | _ => exact zr.elim
end
end Gp
end
section
set_option Elab.async false
set_option linter.all false
set_option maxRecDepth 100000
set_option maxHeartbeats 4000000
namespace Gp
open PySem PySem.Spec PyProof.Rows L2 Gh
def rSetI (K : PySem.W.Frag) (w : World) : List V → Hp → VK → Prop := fun xs H Q => ∃ (l : Addr) (ns : List Int), xs = [.ref l] ∧ SqL K H l (ns.map V.int) ∧ ns.length ≤ 4000 ∧
  ∀ p, H p = none → Q (.ref p) (upd H p (SetO w p (fun j => decide (j ∈ ns)) (setI ns).length))
theorem setR_len {w : World} {h : Heap} {a : Addr} {ns : List Int} {c : Nat} (R : SetR w h a (fun j => decide (j ∈ ns)) c) : c = (setI ns).length := by
  obtain ⟨o, es, ep, t, ho, hx, hd, g, nd, hm, hb, hf, hn, _⟩ := R
  have e : (es.toList.map keyOf).length = (setI ns).length := len_of_mem nd (nodup_setI ns) fun x => by
    rw [mem_setI, ← hm x]
    exact decide_eq_true_iff
  rw [← e, List.length_map, Array.length_toList]
  exact hn.symm
theorem cr_setI {X : Cx} {K : PySem.W.Frag} (h : X.K = K) (hc : X.calm = true) : CallR X (.type "set") (rSetI K X.w) := by
  subst h
  intro pins s σ H xs us Q I r h
  obtain ⟨l, ns, rfl, hq, hl, q⟩ := h
  rw [Vals.ref1 r]
  obtain ⟨its, rv, p, hz⟩ := I.list hq
  refine call_set_lstI ns (I.ok.hd hc) p.isList (by simpa using RZ.intsAre_vals rv) (by unfold scanBound; omega) fun h' tk c hS hle hk => ?_
  have e := setR_len hS
  subst e
  exact ⟨.ref _, upd H s.heap.objs.size (SetO X.w s.heap.objs.size (fun j => decide (j ∈ ns)) (setI ns).length), I.laid (t' := tk) hk (Nat.le_refl _) (setO_new hS), rfl, q _ (I.hok.fresh (Nat.le_refl _))⟩
def rLnSet (w : World) : List V → Hp → VK → Prop := fun xs H Q => ∃ (a : Addr) (S : Int → Bool) (n : Nat), xs = [.ref a] ∧ H a = some (SetO w a S n) ∧ n ≤ 4000 ∧ Q (.int n) H
theorem cr_lnSet {X : Cx} : CallR X (.builtin "len") (rLnSet X.w) := by
  intro pins s σ H xs us Q I r h
  obtain ⟨a, S, n, rfl, ha, hn, q⟩ := h
  rw [Vals.ref1 r]
  obtain ⟨o, es, ep, t, ho, hx, hd, _, _, _, hb, hf, e, _⟩ := setO_get I ha
  exact call_len_set ho hx hd hf (by rw [e] <;> omega) ⟨.int n, H, I.tok _, ⟨_, by rw [e]⟩, q⟩
section
variable {g : Gw} {E : XK} {ε : Env} {te : TE} {me : Tr D} {w : World}
def rLS (K : PySem.W.Frag) (w : World) (te : TE) : TE := tCB (rLnSet w) (tCons (tCB (rSetI K w) (tCons te tNil)) tNil)
def lenSD (x : D) : Tr D := lsI x fun ns => if ns.length ≤ 4000 then .ok (.int (setI ns).length) else .bad
theorem se_lenS (he : SE g E ε te me) : SE g E ε (rLS g.K w te) (bd me lenSD) := fun U σ H b Q R W u q =>
  he.step R W u q fun v d H1 b1 d1 w1 f1 R1 u1 q1 => by
    obtain ⟨a, ns, rfl, h1, _, hl, q2⟩ := al_lsI d1 q1
    split at q2
    · rename_i h4
      refine ⟨a, ns, rfl, h1, h4, fun p np => ?_⟩
      have s1 := same_new (o := SetO w p (fun j => decide (j ∈ ns)) (setI ns).length) np
      exact ⟨p, _, _, rfl, upd_same, Nat.le_trans (len_setI ns) h4, q2 _ _ (.int _) (w1.same s1) (f1.trans (fr_same s1))⟩
    · exact q2.elim
end
end Gp
end
section
set_option Elab.async false
set_option linter.all false
set_option maxRecDepth 100000
set_option maxHeartbeats 4000000
namespace Gp
open PySem PySem.Spec PyProof.Rows L2 Gh
section
variable {g : Gw} {Mt U0 U U' : Addr → Prop} {H0 H H' H1 H2 : Hp} {b b1 : Nat} {σ : L2.St} {ε ε' : Env} {W L W' : Type} {yd : List D}
variable {env : W → Env} {envL : L → Env} {env' : W' → Env} {u ta tb : TGn} {te : TE} {me : Tr D}
def gflP (g : Gw) (Mt U0 : Addr → Prop) (H0 : Hp) (U : Addr → Prop) (H : Hp) (D : GEnds) (env : W → Env) (envL : L → Env) : List Gp.D × Fl W L → Nat → Prop
  | (zs, .nx w), b => ∀ U' σ' H' ys', Ev U H U' H' → Stt g Mt U0 H0 U' σ' H' b (env w) → DenL g U' H' ys' zs → D.nx ys' σ' H'
  | (_, .rt _), _ => False
  | (zs, .bk w), b => ∀ U' σ' H' ys', Ev U H U' H' → Stt g Mt U0 H0 U' σ' H' b (envL w) → DenL g U' H' ys' zs → D.bk ys' σ' H'
  | (zs, .ct w), b => ∀ U' σ' H' ys', Ev U H U' H' → Stt g Mt U0 H0 U' σ' H' b (envL w) → DenL g U' H' ys' zs → D.ct ys' σ' H'
theorem gflP.ev {U1 : Addr → Prop} {H1 : Hp} {D : GEnds} {env : W → Env} {envL : L → Env} (e : Ev U H U1 H1) : ∀ {f : List Gp.D × Fl W L}, gflP g Mt U0 H0 U H D env envL f b → gflP g Mt U0 H0 U1 H1 D env envL f b
  | (_, .nx w), h => fun U' σ' H' ys' e1 => h U' σ' H' ys' (e.trans e1)
  | (_, .rt d), h => h
  | (_, .bk w), h => fun U' σ' H' ys' e1 => h U' σ' H' ys' (e.trans e1)
  | (_, .ct w), h => fun U' σ' H' ys' e1 => h U' σ' H' ys' (e.trans e1)
def SG (g : Gw) (ε : Env) (t : TGn) (env : W → Env) (envL : L → Env) (m : List D → Tr (List D × Fl W L)) : Prop := ∀ Mt U0 H0 U D ys yd σ H b, Stt g Mt U0 H0 U σ H b ε → DenL g U H ys yd → Al (gflP g Mt U0 H0 U H D env envL) (fun _ _ _ => False) (m yd) b → t D ys σ H
def bdG (m : Tr (List D × Fl W' L)) (k : W' → List D → Tr (List D × Fl W L)) : Tr (List D × Fl W L) := bd m fun r => match r with
  | (zs, .nx w) => k w zs
  | (zs, .rt d) => .ok (zs, .rt d)
  | (zs, .bk l) => .ok (zs, .bk l)
  | (zs, .ct l) => .ok (zs, .ct l)
theorem SG.seq {m : List D → Tr (List D × Fl W' L)} {k : W' → List D → Tr (List D × Fl W L)} (h1 : SG g ε ta env' envL m) (h2 : ∀ w, SG g (env' w) u env envL (k w)) : SG g ε (tGThen ta u) env envL (fun yd => bdG (m yd) k) := fun Mt U0 H0 U D ys yd σ H b s dn q => by
  refine h1 Mt U0 H0 U { D with nx := fun ys' σ' H' => u D ys' σ' H' } ys yd σ H b s dn ((al_bd.mp q).mono (fun r b1 h => ?_) (fun _ _ _ z => z))
  obtain ⟨zs, f⟩ := r
  cases f with
  | nx w => exact fun U1 σ1 H1 ys1 e1 s1 d1 => h2 w Mt U0 H0 U1 D ys1 zs σ1 H1 b1 s1 d1 (Al.mono (fun _ _ z => z.ev e1) (fun _ _ _ z => z) h)
  | rt d => exact h.elim
  | bk l => exact h
  | ct l => exact h
end
section
variable {P : Program} {w : World} {K : PySem.W.Frag} {mg : Str → Option Value} {base : Heap}
end
end Gp
end
section
set_option Elab.async false
set_option linter.all false
set_option maxRecDepth 100000
set_option maxHeartbeats 4000000
namespace Gp
open PySem PySem.Spec PyProof.Rows L2 Gh
structure ClmT (K : PySem.W.Frag) (C : Addr) (m : Str) (p g : Addr) : Prop where
  r : ClX.CRead K C (.type "type")
  c : ClX.CMet K C (.type "type") m p g
theorem clmB_ok {x m : Str} {K : PySem.W.Frag} (h : clmB x m K = true) : ClmT K (gd x K) m (He.ma K (He.ga K x) m) (clsG x m K) := by
  obtain ⟨h1, h⟩ := He.ba h
  obtain ⟨h2, h⟩ := He.ba h
  obtain ⟨h3, h⟩ := He.ba h
  obtain ⟨h4, h5⟩ := He.ba h
  refine ⟨⟨h1, He.eqO_ok h2⟩, ⟨?_, ?_, h5⟩⟩
  · split at h3
    · rename_i b p C e
      obtain ⟨z1, z⟩ := He.ba h3
      obtain ⟨z2, z3⟩ := He.ba z
      rw [e, of_decide_eq_true z1, of_decide_eq_true z2, of_decide_eq_true z3]
    · cases h3
  · unfold clsG
    split at h4
    · rename_i g r e
      rw [e]
      exact ⟨r, rfl⟩
    · cases h4
theorem pe_cm {X : Cx} {CX : CXT} {k : Nat} {p q C : Addr} {sp : Sp} {E : XK} {m : Str} {apos pos : Pos} {o e : Expr} {es : List Expr} {ta : TE} {t : TA} {pl : Sem Bool} (he : PE X o ta) (c : ClmT X.K C m p q) (F : PromOX X CX k q [] sp) (hr : Room k X.A) (hx : Passes CX X E) (ha : PA X (e :: es) t)
    (hst : starEach (e :: es) X.env = (false, eval e X.env) :: starEach es X.env := by rfl) (hpl : (backTo pos (starEach es X.env)).any (·.1) = false := by rfl)
    (ht : eval (.Call (.Attribute o m apos) (e :: es) [] pos) X.env = (do
      let ov ← eval o X.env
      standAt apos.atName
      let (f, first) ← holding [ov] (getMethod ov m pl)
      callWith pos f first (backTo pos (starEach (e :: es) X.env)) (backToKw pos (keywordEach [] X.env))) := by rfl) : PE X (.Call (.Attribute o m apos) (e :: es) [] pos) (ClX.tCMeth C sp E ta t) :=
  ClX.pe_cmeth (pl := pl) he c.r c.c (PromO.raw F) hr hx ha hst hpl ht
def spK (K : PySem.W.Frag) (T : List (Addr × Str)) (cn : Str) (F : List D → Tr D) : Sp := fun vs H Q E => ∃ rest, vs = .ref (gd cn K) :: rest ∧ spF K T F rest H Q E
section
variable {g : Gw} {U : Addr → Prop} {H : Hp} {σ : L2.St} {ε : Env} {E : XK} {Q : VK}
theorem se_cm {c : Str} {F : List D → Tr D} {t : TA} {mt : Tr (List D)} (ht : SA g E ε t mt) : SE g E ε (ClX.tCMeth (gd c g.K) (spK g.K g.T c F) E (tC (.ref (gd c g.K))) t) (bd mt F) := fun U σ H b Q R W u q =>
  ⟨rfl, ht.step R W u q fun vs ds H2 b2 dv w2 f2 R2 u2 q2 => ⟨vs, rfl, g.p, g.c, U, ds, b2, dv, w2, u2, q2.mono (fun _ _ h => h.fr f2) (fun _ _ _ h => h)⟩⟩
theorem Rel.cons0 {v : V} {d : D} (dn : Den g U H v d) (r : Rel g U H σ ε) : Rel g U H (some v :: σ) (.fz d :: ε) := by
  have ow : ∀ i a, OwnAt (some v :: σ) (.fz d :: ε) i a → ∃ j, i = j + 1 ∧ OwnAt σ ε j a := fun i a ⟨z1, z2⟩ => by
    cases i with
    | zero => rcases z2 with ⟨ds, e⟩ | ⟨c, fs, e⟩ <;> cases e
    | succ j => exact ⟨j, rfl, z1, z2⟩
  refine ⟨congrArg (· + 1) r.len, fun i s e => ?_, fun i j a n h1 h2 => ?_⟩
  · cases i with
    | zero =>
      cases e
      exact ⟨some v, rfl, v, rfl, dn⟩
    | succ j => exact r.at_ j s e
  · obtain ⟨i', rfl, k1⟩ := ow i a h1
    obtain ⟨j', rfl, k2⟩ := ow j a h2
    exact r.apart i' j' a (fun z => n (by rw [z])) k1 k2
theorem fn_ofK {K : PySem.W.Frag} {T : List (Addr × Str)} {cn : Str} {n0 : Str} {N : List Str} {F : List D → Tr D} {vs : List V} {t : TS} {envU : Unit → Env} (h : spK K T cn F vs H Q E)
    (hs : ∀ p c ds, (∃ (P : D → Nat → Prop) (X : Str → Fs → Nat → Prop) (b : Nat), Al P X (F ds) b) → ∃ m, F ds = fin m ∧ SS ⟨K, T, p, c⟩ E (.fz (.cls cn) :: (ds.map Sl.fz ++ List.replicate (N.length - ds.length) Sl.no)) t envU envE m) : t { nx := fun _ H' => Q .non H', rt := Q } (L2.start (n0 :: N) vs) H := by
  obtain ⟨rest, rfl, p, c, U, ds, b, dn, wd, u, al⟩ := h
  obtain ⟨m, e, ss⟩ := hs p c ds ⟨_, _, _, al⟩
  have es : L2.start (n0 :: N) (.ref (gd cn K) :: rest) = some (.ref (gd cn K)) :: L2.start N rest := by
    unfold L2.start
    simp
  rw [es]
  have nn : ∀ i a, ¬ OwnAt (some (.ref (gd cn K)) :: L2.start N rest) (.fz (.cls cn) :: (ds.map Sl.fz ++ List.replicate (N.length - ds.length) Sl.no)) i a := fun i a ⟨_, z⟩ => by
    have : ∀ s : Sl, (Sl.fz (.cls cn) :: (ds.map Sl.fz ++ List.replicate (N.length - ds.length) Sl.no))[i]? = some s → (∃ d, s = .fz d) ∨ s = .no := fun s e => by
      rcases List.mem_cons.mp (List.mem_of_getElem? e) with m | m
      · exact .inl ⟨_, m⟩
      · rcases List.mem_append.mp m with m | m
        · obtain ⟨d, _, e⟩ := List.mem_map.mp m
          exact .inl ⟨d, e.symm⟩
        · exact .inr (List.mem_replicate.mp m).2
    rcases z with ⟨x, z⟩ | ⟨x, y, z⟩
    · rcases this _ z with ⟨d, e⟩ | e <;> cases e
    · rcases this _ z with ⟨d, e⟩ | e <;> cases e
  rw [e] at al
  refine ss (fun _ => False) U H U _ _ H b ⟨(rel_start dn).cons0 (.cls cn), wd, u, fun _ z => z, fun i a z => (nn i a z).elim, fun _ _ z _ _ _ => z, fun i ds' a z1 z2 => (nn i a ⟨z2, .inl ⟨ds', z1⟩⟩).elim, fun i c fs a _ z1 z2 => (nn i a ⟨z2, .inr ⟨c, fs, z1⟩⟩).elim⟩ ((al_bd.mp al).mono (fun f b1 h1 => ?_) (fun c fs b1 h1 => ?_))
  · cases f with
    | nx w => exact fun U' σ' H' e s => h1 .non H' .non s.wd fun a o z1 z2 z3 => s.ext a o z1 z2 (fun z => z) z3
    | rt d => exact fun v H' dn w f => h1 v H' dn w fun a o z1 z2 z3 => f a o z1 z2 (fun z => z) z3
    | bk e => exact nomatch e
    | ct e => exact nomatch e
  · exact fun dd fvs H' z1 z2 z3 z4 z5 => h1 dd fvs H' z1 z2 z3 z4 fun a o y1 y2 y3 => z5 a o y1 y2 (fun z => z) y3
theorem fn_ofK1 {K : PySem.W.Frag} {T : List (Addr × Str)} {cn : Str} {n0 : Str} {N : List Str} {F : D → Tr D} {vs : List V} {t : TS} {envU : Unit → Env} {m : D → Tr (Fl Unit Empty)} (h : spK K T cn (ul1 F) vs H Q E) (hF : ∀ x, F x = fin (m x))
    (hs : ∀ p c x, SS ⟨K, T, p, c⟩ E (.fz (.cls cn) :: ([x].map Sl.fz ++ List.replicate (N.length - 1) Sl.no)) t envU envE (m x)) : t { nx := fun _ H' => Q .non H', rt := Q } (L2.start (n0 :: N) vs) H :=
  fn_ofK h fun p c ds ⟨_, _, _, al⟩ => by
    obtain ⟨x, rfl, _⟩ := al_ul1 al
    exact ⟨m x, hF x, hs p c x⟩
theorem spK_len {K : PySem.W.Frag} {T : List (Addr × Str)} {cn : Str} {F : List D → Tr D} {n : Nat} (hn : ∀ (P : D → Nat → Prop) (X : Str → Fs → Nat → Prop) ds b, Al P X (F ds) b → ds.length = n) {vs : List V} (h : spK K T cn F vs H Q E) : vs.length = n + 1 := by
  obtain ⟨rest, rfl, h⟩ := h
  rw [List.length_cons, spF_len hn h]
end
end Gp
end
section
set_option Elab.async false
set_option linter.all false
set_option maxRecDepth 100000
set_option maxHeartbeats 4000000
namespace Gp
open PySem PySem.Spec PyProof.Rows L2 Gh
section
variable {g : Gw} {Mt U0 U U' : Addr → Prop} {H0 H H' H1 H2 : Hp} {b b1 : Nat} {σ : L2.St} {ε ε' : Env} {E : XK} {W L W' : Type}
variable {env : W → Env} {envL : L → Env} {u : TS}
def CstD (v : V) (d : D) : Prop := ∀ (g : Gw) (U : Addr → Prop) (H : Hp), Den g U H v d
theorem cst_int (i : Int) : CstD (.int i) (.int i) := fun _ _ _ => .int i
end
end Gp
end
section
set_option Elab.async false
set_option linter.all false
set_option maxRecDepth 100000
set_option maxHeartbeats 4000000
namespace Gp
open PySem PySem.Spec PyProof.Rows L2 Gh
section
variable {g : Gw} {Mt U0 U U' : Addr → Prop} {H0 H H' H1 H2 : Hp} {b b1 : Nat} {σ : L2.St} {ε ε' : Env} {E : XK} {W L W' : Type}
variable {env : W → Env} {envL : L → Env} {env' : W' → Env} {u ta tb : TS} {te ti : TE} {me mi : Tr D}
theorem own_sig (s : Stt g Mt U0 H0 U σ H b ε) {j : Nat} {a : Addr} (h : OwnAt σ ε j a) : ∃ o, H a = some o := by
  obtain ⟨h1, ⟨ds, h2⟩ | ⟨c, fs, h2⟩⟩ := h
  · obtain ⟨o, e, a', vs, e2, h, _⟩ := s.rel.at_ j _ h2
    rw [h1] at e
    cases e
    cases e2
    exact ⟨_, h⟩
  · obtain ⟨o, e, a', dx, fvs, e2, h, _⟩ := s.rel.at_ j _ h2
    rw [h1] at e
    cases e
    cases e2
    exact ⟨_, h⟩
def SQ (g : Gw) (E : XK) (ε : Env) (n : Nat) (t : TA) (m : Tr (List D)) : Prop := ∀ Mt U0 H0 U σ H b Q, Stt g Mt U0 H0 U σ H b ε →
  Al (fun ds b' => ∀ vs U' H', QR g Mt U0 H0 U' σ H' ε n vs ds → Ev U H U' H' → Stt g Mt U0 H0 U' σ H' b' ε → Q vs H') (exS g Mt U0 H0 E) m b → t σ H Q
theorem SQ.sstep {n : Nat} {t : TA} {m : Tr (List D)} {k : List D → Tr (Fl W L)} {Ds : Ends} {Q : List V → Hp → Prop} (he : SQ g E ε n t m) (s : Stt g Mt U0 H0 U σ H b ε) (h : Al (flP g Mt U0 H0 U H Ds env envL) (exS g Mt U0 H0 E) (bd m k) b)
    (hk : ∀ vs ds U' H1 b1, QR g Mt U0 H0 U' σ H1 ε n vs ds → Stt g Mt U0 H0 U' σ H1 b1 ε → Al (flP g Mt U0 H0 U' H1 Ds env envL) (exS g Mt U0 H0 E) (k ds) b1 → Q vs H1) : t σ H Q :=
  he Mt U0 H0 U σ H b Q s ((al_bd.mp h).mono (fun ds b1 h1 vs U' H' qr ev s1 => hk vs ds U' H' b1 qr s1 (h1.mono (fun _ _ z => z.ev ev) (fun _ _ _ z => z))) (fun _ _ _ h => h))
end
end Gp
end
section
set_option Elab.async false
set_option linter.all false
set_option maxRecDepth 100000
set_option maxHeartbeats 4000000
namespace Gp
open PySem PySem.Spec PyProof.Rows L2 Gh
abbrev TSF : Type := Addr → Value → Option Addr → TS
section
variable {X : Cx} {body : List Stmt} {h₀ : ExceptHandler} {hds : List ExceptHandler} {l : List (Value × Option Nat × TSF)} {pos : Pos} {tb : WX → TS} {Wout : WX}
end
end Gp
end
section
set_option Elab.async false
set_option linter.all false
set_option maxRecDepth 100000
set_option maxHeartbeats 4000000
namespace Gp
open PySem PySem.Spec PyProof.Rows L2 Gh
def ItH.te (a : Addr) (cls : Value) (d : Option Addr) (C : Addr) (i : Nat) : ItH → TE
  | .s x => tC (.str x)
  | .n k => tC (.int k)
  | .f x => tXf a cls d C x (tVar i)
section
variable {g : Gw} {U : Addr → Prop} {H H' : Hp} {b : Nat} {σ : L2.St} {ε : Env}
end
def HrdP (K : PySem.W.Frag) (d : Df) (ps : List Str) : Prop := ∃ fd, FnA K d fd ∧ L2.Binds K fd ps []
def qlOf (d : Df) (K : PySem.W.Frag) : Str := (envOfC d.qual (defScope d.st) 0 (d.adr K) .none).qual ++ "<lambda>"
structure LamD (base : Heap) (mg : Str → Option Value) (K : PySem.W.Frag) (Tb : List (Addr × Str)) (d : Df) (pn : He.Defn) : Prop where
  tb : LamX.TabB base mg (He.cT K pn).1 (He.cT K pn).2
  mem : ((He.cT K pn).2, qlOf d K) ∈ Tb
  hu : ∀ p ∈ Tb, p.1 = (He.cT K pn).2 → p.2 = qlOf d K
end Gp
end
section
set_option Elab.async false
set_option linter.all false
set_option maxRecDepth 100000
set_option maxHeartbeats 4000000
namespace Gp
open PySem PySem.Spec PyProof.Rows L2 Gh
mutual
def noLst : D → Bool
  | .lst _ => false
  | .tup ds => noLstL ds
  | .obj _ fs => noLstF fs
  | .err _ fs => noLstF fs
  | .dic _ => false
  | .dit _ => false
  | .dik _ => false
  | _ => true
def noLstL : List D → Bool
  | [] => true
  | d :: ds => noLst d && noLstL ds
def noLstF : List (Str × D) → Bool
  | [] => true
  | (_, d) :: ds => noLst d && noLstF ds
end
def pk : Tr D → Tr D
  | .ok d => if noLst d = true then .ok d else .bad
  | .ex c fs => if noLstF fs = true then .ex c fs else .bad
  | .bad => .bad
  | .draw m k => .draw m fun d => pk (k d)
section
variable {g : Gw} {U : Addr → Prop} {H : Hp} {a : Addr} {vs : List V}
end
section
variable {g : Gw} {U : Addr → Prop} {H : Hp} {b : Nat} {σ : L2.St} {ε : Env} {E : XK} {te : TE} {m : Tr D}
end
end Gp
end
section
set_option Elab.async false
set_option linter.all false
set_option maxRecDepth 100000
set_option maxHeartbeats 4000000
namespace Gp
open PySem PySem.Spec PyProof.Rows L2 Gh
section
variable {g : Gw} {U : Addr → Prop} {H : Hp} {ε : Env} {E : XK}
def keyD : D → Option Key
  | .int i => some (.inl i)
  | .str x => some (.inr x)
  | _ => none
end
end Gp
end
section
set_option Elab.async false
set_option linter.all false
set_option maxRecDepth 100000
set_option maxHeartbeats 4000000
namespace Gz
open PySem PySem.Spec PyProof.Rows L2 GenW Gh
variable {X : Cx}
abbrev TQ (T : Type) := Pro T → QE T → Nat → T → L2.St → Hp → Prop
abbrev GpZ := List (Nat × GenState) → Prop
section
variable {T : Type} {Z : GpZ} {st : Stmt} {rest : List Stmt} {pos : Pos}
def tQThen (t u : TQ T) : TQ T := fun P D n γ σ H => t P { D with nx := fun n' γ' σ' H' => u P D n' γ' σ' H' } n γ σ H
end
end Gz
end
section
set_option Elab.async false
set_option linter.all false
set_option maxRecDepth 100000
set_option maxHeartbeats 4000000
namespace Gz
open PySem PySem.Spec PyProof.Rows L2 GenW Gh
section
variable {X : Cx} {ip : List (Addr × Obj)} {σ : L2.St} {H : Hp} {s : Shared}
end
section
variable {T : Type} {X : Cx} {st : Stmt} {rest : List Stmt}
end
abbrev SpQ := (T : Type) → Pro T → Nat → T → Prop
abbrev SpH := Hp → SpQ
end Gz
end
section
set_option Elab.async false
set_option linter.all false
set_option maxRecDepth 100000
set_option maxHeartbeats 4000000
namespace Gz
open PySem PySem.Spec PyProof.Rows L2 GenW Gh
section
variable {P : Program} {w : World} {A : Around} {E : Value → Shared → Prop} {s : Shared}
end
abbrev TQG := L2.St → Hp → (SpH → Hp → Prop) → Prop
section
variable {X : Cx} {k : Nat} {f C : Addr} {fd : FuncData} {ps : List Str} {sp : List V → Hp → XK → SpQ} {dvs : List V} {ds : List Value} {x m : Str} {p pos pos' apos : Pos} {o : Expr} {ta : TE}
end
end Gz
end
section
set_option Elab.async false
set_option linter.all false
set_option maxRecDepth 100000
set_option maxHeartbeats 4000000
namespace Gp
open PySem PySem.Spec PyProof.Rows L2 Gh Gz
structure GT (α : Type) where
  out : List D
  res : Tr α
section
variable {W W' L : Type}
def gbF (m : GT (Fl W' L)) (k : W' → GT (Fl W L)) : GT (Fl W L) := match m.res with
  | .ok (.nx w) => ⟨m.out ++ (k w).out, (k w).res⟩
  | .ok (.rt d) => ⟨m.out, .ok (.rt d)⟩
  | .ok (.bk l) => ⟨m.out, .ok (.bk l)⟩
  | .ok (.ct l) => ⟨m.out, .ok (.ct l)⟩
  | _ => ⟨m.out, .bad⟩
end
structure PY (g : Gw) (all : List D) (N : Nat) {T : Type} (P : Pro T) where
  U : T → Addr → Prop
  B : T → Nat
  ok : Prop
  out : ∀ n γ x H1 d, n + 1 ≤ N → all[N - (n + 1)]? = some d → Den g (U γ) H1 x d → Wd g H1 (B γ) → Fr (P.hp γ) H1 g.p → P.out n γ x H1
  lk : ∀ n γ H1 γ', P.lk n γ H1 γ' → 0 < n ∧ Ev (U γ) H1 (U γ') (P.hp γ') ∧ UOk g (U γ') (P.hp γ') ∧ Wd g (P.hp γ') (B γ')
  fin : ∀ n γ H1, ok → n + all.length = N → Wd g H1 (B γ) → Fr (P.hp γ) H1 g.p → P.fin n γ H1
abbrev TQA := (T : Type) → TQ T
abbrev NoM : Addr → Prop := fun _ => False
section
variable {g : Gw} {T : Type} {P : Pro T} {all : List D} {N : Nat} {W W' L : Type}
def gqP (Y : PY g all N P) (D : QE T) (env : W → Env) (envL : L → Env) (n : Nat) (U : Addr → Prop) (H : Hp) : Fl W L → Prop
  | .nx w => ∀ γ' U' σ' H', Ev U H U' H' → Stt g NoM (Y.U γ') (P.hp γ') U' σ' H' (Y.B γ') (env w) → D.nx n γ' σ' H'
  | .rt _ => False
  | .bk w => ∀ γ' U' σ' H', Ev U H U' H' → Stt g NoM (Y.U γ') (P.hp γ') U' σ' H' (Y.B γ') (envL w) → D.bk n γ' σ' H'
  | .ct w => ∀ γ' U' σ' H', Ev U H U' H' → Stt g NoM (Y.U γ') (P.hp γ') U' σ' H' (Y.B γ') (envL w) → D.ct n γ' σ' H'
theorem gqP.ev {Y : PY g all N P} {D : QE T} {env : W → Env} {envL : L → Env} {n : Nat} {U U1 : Addr → Prop} {H H1 : Hp} (e : Ev U H U1 H1) : ∀ {f : Fl W L}, gqP Y D env envL n U H f → gqP Y D env envL n U1 H1 f
  | .nx w, h => fun γ' U' σ' H' e1 => h γ' U' σ' H' (e.trans e1)
  | .rt _, h => h
  | .bk w, h => fun γ' U' σ' H' e1 => h γ' U' σ' H' (e.trans e1)
  | .ct w, h => fun γ' U' σ' H' e1 => h γ' U' σ' H' (e.trans e1)
def okQ {α : Type} (m : Tr α) (R : α → Prop) : Prop := match m with
  | .ok f => R f
  | _ => False
end
def YS {W L : Type} (g : Gw) (ε : Env) (t : TQA) (env : W → Env) (envL : L → Env) (m : GT (Fl W L)) : Prop := ∀ (T : Type) (P : Pro T) (all : List D) (N : Nat) (Y : PY g all N P) (D : QE T) γ U σ H n pre post,
  Stt g NoM (Y.U γ) (P.hp γ) U σ H (Y.B γ) ε → all = pre ++ (m.out ++ post) → n + pre.length = N → m.out.length ≤ n → ((m.out = [] ∨ m.out.length < n) → okQ m.res (gqP Y D env envL (n - m.out.length) U H)) → t T P D n γ σ H
section
variable {g : Gw} {W W' L : Type} {ε : Env} {env : W → Env} {envL : L → Env} {env' : W' → Env} {u ta tb : TQA} {te : TE} {me : Tr D}
theorem gbF_nx {m : GT (Fl W' L)} {k : W' → GT (Fl W L)} {w : W'} (e : m.res = .ok (.nx w)) : gbF m k = ⟨m.out ++ (k w).out, (k w).res⟩ := by unfold gbF; rw [e]
theorem YS.seq {m : GT (Fl W' L)} {k : W' → GT (Fl W L)} (h1 : YS g ε ta env' envL m) (h2 : ∀ w, YS g (env' w) u env envL (k w)) : YS g ε (fun T => tQThen (ta T) (u T)) env envL (gbF m k) := fun T P all N Y D γ U σ H n pre post s ha hn hl q => by
  have run : ∀ (R : List Gp.D), all = pre ++ (m.out ++ R) → m.out.length ≤ n → ((m.out = [] ∨ m.out.length < n) → okQ m.res (gqP Y { D with nx := fun n' γ' σ' H' => u T P D n' γ' σ' H' } env' envL (n - m.out.length) U H)) → tQThen (ta T) (u T) P D n γ σ H :=
    fun R hR hl' hq => h1 T P all N Y _ γ U σ H n pre R s hR hn hl' hq
  cases e : m.res with
  | ok f =>
    cases f with
    | nx w =>
      rw [gbF_nx e] at ha hl q
      have ha' : all = pre ++ (m.out ++ ((k w).out ++ post)) := by rw [ha]; simp [List.append_assoc]
      have hl' : m.out.length + (k w).out.length ≤ n := by rw [← List.length_append]; exact hl
      refine run _ ha' (by omega) fun hc => ?_
      rw [e]
      intro γ' U' σ' H' ev s'
      refine h2 w T P all N Y D γ' U' σ' H' (n - m.out.length) (pre ++ m.out) post s' (by rw [ha']; simp [List.append_assoc]) (by rw [List.length_append]; omega) (by omega) fun hc2 => ?_
      have z := q (by
        rcases hc2 with z | z
        · rw [z, List.append_nil]; exact hc
        · exact .inr (by show (m.out ++ (k w).out).length < n; rw [List.length_append]; omega))
      have e3 : n - (m.out ++ (k w).out).length = n - m.out.length - (k w).out.length := by rw [List.length_append]; omega
      change okQ (k w).res (gqP Y D env envL (n - (m.out ++ (k w).out).length) U H) at z
      rw [e3] at z
      cases e4 : (k w).res with
      | ok f2 => rw [e4] at z; exact gqP.ev ev z
      | ex c fs => rw [e4] at z; exact z.elim
      | bad => rw [e4] at z; exact z.elim
      | draw _ _ => rw [e4] at z; exact z.elim
    | rt d =>
      have e2 : gbF m k = ⟨m.out, .ok (.rt d)⟩ := by unfold gbF; rw [e]
      rw [e2] at ha hl q
      exact run post ha hl fun hc => by rw [e]; exact q hc
    | bk l =>
      have e2 : gbF m k = ⟨m.out, .ok (.bk l)⟩ := by unfold gbF; rw [e]
      rw [e2] at ha hl q
      exact run post ha hl fun hc => by rw [e]; exact q hc
    | ct l =>
      have e2 : gbF m k = ⟨m.out, .ok (.ct l)⟩ := by unfold gbF; rw [e]
      rw [e2] at ha hl q
      exact run post ha hl fun hc => by rw [e]; exact q hc
  | ex c fs =>
    have e2 : gbF m k = ⟨m.out, .bad⟩ := by unfold gbF; rw [e]
    rw [e2] at ha hl q
    exact run post ha hl fun hc => (q hc).elim
  | bad =>
    have e2 : gbF m k = ⟨m.out, .bad⟩ := by unfold gbF; rw [e]
    rw [e2] at ha hl q
    exact run post ha hl fun hc => (q hc).elim
  | draw _ _ =>
    have e2 : gbF m k = ⟨m.out, .bad⟩ := by unfold gbF; rw [e]
    rw [e2] at ha hl q
    exact run post ha hl fun hc => (q hc).elim
end
end Gp
end
section
set_option Elab.async false
set_option linter.all false
set_option maxRecDepth 100000
set_option maxHeartbeats 4000000
namespace Gp
open PySem PySem.Spec PyProof.Rows L2 Gh
def rIsiX (K : PySem.W.Frag) (a : Addr) (cls : Value) (d : Option Addr) : List V → Hp → VK → Prop := fun xs H Q => ∃ (C dd : Addr) (fs : List (Str × V)) (c : V) (u : Value) (b : Bool), xs = [.ref a, c] ∧ ClsV c u ∧ cls = .ref C ∧ d = some dd ∧ H dd = some (.xd fs) ∧ ErrT K C ∧ PySem.W.kitOne K (.ref C) u = some b ∧ Q (.bl b) H
def BX.te (K : PySem.W.Frag) (a : Addr) (cls : Value) (d : Option Addr) (i : Nat) : BX → TE
  | .lit b => tC (.bl b)
  | .own x => tCB (rIsiX K a cls d) (tCons (tVar i) (tCons (tC (.ref (gd x K))) tNil))
  | .ty x => tCB (rIsiX K a cls d) (tCons (tVar i) (tCons (tC (.ty x)) tNil))
  | .and p q => tAndV (p.te K a cls d i) (q.te K a cls d i)
section
variable {g : Gw} {U : Addr → Prop} {H H' : Hp} {b : Nat} {σ : L2.St} {ε : Env}
end
end Gp
end
section
set_option Elab.async false
set_option linter.all false
set_option maxRecDepth 100000
set_option maxHeartbeats 4000000
namespace Gp
open PySem PySem.Spec PyProof.Rows L2 Gh
def IX.te (K : PySem.W.Frag) (a : Addr) (cls : Value) (d : Option Addr) (i : Nat) : IX → TE
  | .s x => tC (.str x)
  | .n k => tC (.int k)
  | .f cn x => tXf a cls d (gd cn K) x (tVar i)
def ixTs (K : PySem.W.Frag) (a : Addr) (cls : Value) (d : Option Addr) (i : Nat) : List IX → TA
  | [] => tNil
  | x :: r => tCons (x.te K a cls d i) (ixTs K a cls d i r)
def TX.tt (K : PySem.W.Frag) (a : Addr) (cls : Value) (d : Option Addr) (i : Nat) : TX → TT
  | .own x => tB (tCB (rIsiX K a cls d) (tCons (tVar i) (tCons (tC (.ref (gd x K))) tNil)))
  | .not p => tNot (p.tt K a cls d i)
  | .and p q => tAnd (p.tt K a cls d i) (q.tt K a cls d i)
def VX.te (K : PySem.W.Frag) (a : Addr) (cls : Value) (d : Option Addr) (i : Nat) : VX → TE
  | .one x => x.te K a cls d i
  | .lst l => tLst (ixTs K a cls d i l)
def S1X.ts (K : PySem.W.Frag) (a : Addr) (cls : Value) (d : Option Addr) (i j : Nat) : S1X → TS
  | .set v => tAsg (v.te K a cls d i) (gName j)
  | .sel t v u => tAsg (tIf (t.tt K a cls d i) (v.te K a cls d i) (u.te K a cls d i)) (gName j)
section
variable {g : Gw} {U : Addr → Prop} {H : Hp} {b : Nat} {σ : L2.St}
variable {a dd : Addr} {cl : Str} {i j n : Nat} {fvs : List (Str × V)} {fs : Fs} {ki : Str → Str → Option Bool}
end
end Gp
end
section
set_option Elab.async false
set_option linter.all false
set_option maxRecDepth 100000
set_option maxHeartbeats 4000000
namespace Gp
open PySem PySem.Spec PyProof.Rows L2 Gh
def tt1 {α : Type} (_ : α) : Bool := true
section
variable {g : Gw} {U U' : Addr → Prop} {H : Hp}
end
section
variable {g : Gw} {Mt U0 U U' : Addr → Prop} {H0 H H' H1 H2 : Hp} {b b1 b2 : Nat} {σ : L2.St} {ε ε' : Env} {E : XK} {W L W' : Type}
variable {env : W → Env} {envL : L → Env} {env' : W' → Env} {u ta tb : TS} {te : TE} {me : Tr D}
end
end Gp
end
section
set_option Elab.async false
set_option linter.all false
set_option maxRecDepth 100000
set_option maxHeartbeats 4000000
namespace Gp
open PySem PySem.Spec PyProof.Rows L2 Gh
def isS {α : Type} (x : D) (k : Str → Tr α) : Tr α := match x with
  | .str a => k a
  | _ => .bad
theorem isS_str {α : Type} (a : Str) (k : Str → Tr α) : isS (.str a) k = k a := rfl
section
variable {g : Gw} {U : Addr → Prop} {H : Hp} {b : Nat} {E : XK} {Q : VK} {ε : Env} {to te : TE} {mo me : Tr D}
end
section
variable {X : Cx} {e f : Expr} {te tf : TE} {es : List Expr} {ta : TA} {pos p : Pos}
end
end Gp
end
section
set_option Elab.async false
set_option linter.all false
set_option maxRecDepth 100000
set_option maxHeartbeats 4000000
namespace Gp
open PySem PySem.Spec PyProof.Rows L2 Gh
section
variable {g : Gw} {E : XK} {ε : Env} {U : Addr → Prop} {H : Hp} {b : Nat} {W L : Type} {tb : TS} {env : W → Env} {envL : L → Env}
def un4 {α : Type} (d : D) (k : D → D → D → D → Tr α) : Tr α := match d with
  | .tup [x, y, z, w] => k x y z w
  | _ => .bad
end
end Gp
end
section
set_option Elab.async false
set_option linter.all false
set_option maxRecDepth 100000
set_option maxHeartbeats 4000000
namespace Gp
open PySem PySem.Spec PyProof.Rows L2 Gh
section
variable {g : Gw} {Mt U0 U U' : Addr → Prop} {H0 H H' H1 H2 : Hp} {b b1 b2 : Nat} {σ : L2.St} {ε ε' : Env} {E : XK} {W L W' : Type}
variable {env : W → Env} {envL : L → Env} {env' : W' → Env} {u ta tb : TS} {te : TE} {me : Tr D}
def KeepJ (js : List Nat) (σ σ' : L2.St) : Prop := ∀ j ∈ js, σ'[j]? = σ[j]?
def flJ (js : List Nat) (σ0 : L2.St) (g : Gw) (Mt U0 : Addr → Prop) (H0 : Hp) (U : Addr → Prop) (H : Hp) (D : Ends) (env : W → Env) (envL : L → Env) : Fl W L → Nat → Prop
  | .nx w, b => ∀ U' σ' H', Ev U H U' H' → Stt g Mt U0 H0 U' σ' H' b (env w) → KeepJ js σ0 σ' → D.nx σ' H'
  | .rt d, b => ∀ v H, Den g U0 H v d → Wd g H b → FrM g Mt H0 H → D.rt v H
  | .bk w, b => ∀ U' σ' H', Ev U H U' H' → Stt g Mt U0 H0 U' σ' H' b (envL w) → KeepJ js σ0 σ' → D.bk σ' H'
  | .ct w, b => ∀ U' σ' H', Ev U H U' H' → Stt g Mt U0 H0 U' σ' H' b (envL w) → KeepJ js σ0 σ' → D.ct σ' H'
theorem flJ.ev {js : List Nat} {σ0 : L2.St} {U1 : Addr → Prop} {H1 : Hp} {D : Ends} {env : W → Env} {envL : L → Env} (e : Ev U H U1 H1) : ∀ {f : Fl W L}, flJ js σ0 g Mt U0 H0 U H D env envL f b → flJ js σ0 g Mt U0 H0 U1 H1 D env envL f b
  | .nx w, h => fun U' σ' H' e1 => h U' σ' H' (e.trans e1)
  | .rt d, h => h
  | .bk w, h => fun U' σ' H' e1 => h U' σ' H' (e.trans e1)
  | .ct w, h => fun U' σ' H' e1 => h U' σ' H' (e.trans e1)
end
end Gp
end
section
set_option Elab.async false
set_option linter.all false
set_option maxRecDepth 100000
set_option maxHeartbeats 4000000
namespace Gp
open PySem PySem.Spec PyProof.Rows L2 Gh
def tFz (t : TE) : TE := fun σ H Q => t σ H fun v H1 => ∃ a u, v = .ref a ∧ H1 a = some u ∧ Mut (some u) ∧ ∀ od, Q v (upd H1 a (.frz od u))
def tLk (i : Nat) (t : TS) : TS := fun D σ H => ∃ a u, σ[i]? = some (some (.ref a)) ∧ H a = some u ∧ Mut (some u) ∧ ∀ od, t D σ (upd H a (.frz od u))
section
variable {X : Cx}
theorem pe_fz {e : Expr} {t : TE} (h : PE X e t) : PE X e (tFz t) := by
  refine ⟨fun pins s σ H Q I hw => ?_⟩
  refine thn (h.run pins s σ _ _ I hw) fun v s1 ⟨x, H1, I1, r, a, u, e, ha, mu, q⟩ => ?_
  obtain ⟨od, I2⟩ := I1.lock ha mu
  exact ⟨x, _, I2, r, q od⟩
theorem ps_lk {st : Stmt} {t : TS} (i : Nat) (h : PS X st t) : PS X st (tLk i t) := by
  refine ⟨fun pins s σ H D I hw => ?_⟩
  obtain ⟨a, u, _, ha, mu, hw⟩ := hw
  obtain ⟨od, I1⟩ := I.lock ha mu
  exact h.run pins s σ _ D I1 (hw od)
end
section
variable {κ : Type} [DecidableEq κ] {α : Type}
end
def key2 : D → Option (List Key)
  | .tup [.int a, .int b] => some [.inl a, .inl b]
  | _ => none
section
variable {κ : Type} [DecidableEq κ] {g : Gw} {U : Addr → Prop} {H : Hp}
theorem den_look : ∀ {kvs : List (κ × V)} {ps : List (κ × D)} (k : κ), kvs.map (·.1) = ps.map (·.1) → DenL g U H (kvs.map (·.2)) (ps.map (·.2)) → (valV kvs k = none ∧ lookP ps k = none) ∨ ∃ v d, valV kvs k = some v ∧ lookP ps k = some d ∧ Den g U H v d
  | [], [], _, _, _ => .inl ⟨rfl, rfl⟩
  | [], _ :: _, _, e, _ => by cases e
  | _ :: _, [], _, e, _ => by cases e
  | (a, v) :: r, (c, d) :: s, k, e, l => by
    simp only [List.map_cons, List.cons.injEq] at e
    obtain ⟨e1, e2⟩ := e
    subst e1
    cases l with
    | cons h t =>
      by_cases z : a = k
      · exact .inr ⟨v, d, by simp [valV, List.find?_cons, z], by simp [lookP, List.find?_cons, z], h⟩
      · have q1 : valV ((a, v) :: r) k = valV r k := by simp [valV, List.find?_cons, z]
        have q2 : lookP ((a, d) :: s) k = lookP s k := by simp [lookP, List.find?_cons, z]
        rw [q1, q2]
        exact den_look k e2 t
theorem any_keys {kvs : List (κ × V)} {ps : List (κ × D)} (k : κ) (e : kvs.map (·.1) = ps.map (·.1)) : (kvs.any fun kv => decide (kv.1 = k)) = ps.any fun kv => decide (kv.1 = k) := by
  have h1 : (kvs.any fun kv => decide (kv.1 = k)) = (kvs.map (·.1)).any fun x => decide (x = k) := by rw [List.any_map]; rfl
  have h2 : (ps.any fun kv => decide (kv.1 = k)) = (ps.map (·.1)).any fun x => decide (x = k) := by rw [List.any_map]; rfl
  rw [h1, h2, e]
theorem den_repl {v : V} {d : D} (k : κ) (hv : Den g U H v d) : ∀ {kvs : List (κ × V)} {ps : List (κ × D)}, kvs.map (·.1) = ps.map (·.1) → DenL g U H (kvs.map (·.2)) (ps.map (·.2)) →
    (kvs.map (fun kv => if kv.1 = k then (kv.1, v) else kv)).map (·.1) = (ps.map (fun kv => if kv.1 = k then (kv.1, d) else kv)).map (·.1) ∧ DenL g U H ((kvs.map (fun kv => if kv.1 = k then (kv.1, v) else kv)).map (·.2)) ((ps.map (fun kv => if kv.1 = k then (kv.1, d) else kv)).map (·.2))
  | [], [], _, _ => ⟨rfl, .nil⟩
  | [], _ :: _, e, _ => by cases e
  | _ :: _, [], e, _ => by cases e
  | (a, w) :: r, (c, x) :: s, e, l => by
    simp only [List.map_cons, List.cons.injEq] at e
    obtain ⟨e1, e2⟩ := e
    subst e1
    cases l with
    | cons h t =>
      obtain ⟨z1, z2⟩ := den_repl k hv e2 t
      by_cases z : a = k
      · simp only [List.map_cons, z, if_true]
        exact ⟨congrArg _ z1, .cons hv z2⟩
      · simp only [List.map_cons, if_neg z]
        exact ⟨congrArg _ z1, .cons h z2⟩
theorem den_put {v : V} {d : D} (k : κ) (hv : Den g U H v d) {kvs : List (κ × V)} {ps : List (κ × D)} (e : kvs.map (·.1) = ps.map (·.1)) (l : DenL g U H (kvs.map (·.2)) (ps.map (·.2))) :
    (putK kvs k v).map (·.1) = (putP ps k d).map (·.1) ∧ DenL g U H ((putK kvs k v).map (·.2)) ((putP ps k d).map (·.2)) := by
  unfold putK putP
  rw [any_keys k e]
  split
  · exact den_repl k hv e l
  · rw [List.map_append, List.map_append, List.map_append, List.map_append, e]
    exact ⟨rfl, l.append (.cons hv .nil)⟩
theorem len_keys {kvs : List (κ × V)} {ps : List (κ × D)} (e : kvs.map (·.1) = ps.map (·.1)) : kvs.length = ps.length := by
  have := congrArg List.length e
  simpa using this
end
section
variable {g : Gw} {Mt U0 U U' : Addr → Prop} {H0 H H' H1 H2 : Hp} {b b1 : Nat} {σ : L2.St} {ε ε' : Env} {E : XK} {W L W' : Type}
variable {env : W → Env} {envL : L → Env} {env' : W' → Env} {u ta tb : TS} {te td ty tv : TE} {me : Tr D}
theorem key_v {v : V} {d : D} {k : Key} (h : Den g U H v d) (e : keyD d = some k) : v = kV k := by
  cases h with
  | int i => cases e; rfl
  | str x _ => cases e; rfl
  | _ => cases e
theorem key_2 {v : V} {d : D} {k : List Key} (h : Den g U H v d) (e : key2 d = some k) : ∃ p, v = .ref p ∧ H p = some (.tup (k.map kV)) ∧ ¬ U p := by
  cases h with
  | tup ha hn l dl =>
    unfold key2 at e
    split at e
    · rename_i z
      cases z
      cases e
      cases dl with
      | cons h1 t =>
        cases h1
        cases t with
        | cons h2 t2 =>
          cases h2
          cases t2
          exact ⟨_, rfl, ha, hn⟩
    · cases e
  | tupW ha l dl np =>
    unfold key2 at e
    split at e
    · rename_i z
      cases z
      cases np
    · cases e
  | _ => cases e
theorem own_newG {A : Addr} {o : HO} {x : Ow} {i : Nat} (s : Stt g Mt U0 H0 U σ H b ε) (n : H A = none) (r : OwR g U H o x) :
    Stt g Mt U0 H0 (fun a => U a ∨ a = A) (σ.set i (some (.ref A))) (upd H A o) b (ε.set i (.ow x)) ∧ Ev U H (fun a => U a ∨ a = A) (upd H A o) := by
  have sm := same_new (o := o) n
  have nU : ¬ U A := s.uok.new n
  have hp : A ≠ g.p := fun z => nU (z ▸ s.uok.p)
  have hc : A ≠ g.c := fun z => nU (z ▸ s.uok.c)
  have r1 : Rel g (fun a => U a ∨ a = A) (upd H A o) σ ε := (s.rel.grow n).frp (.inl s.uok.p) (fr_same sm)
  refine ⟨⟨⟨by rw [List.length_set, List.length_set]; exact r1.len, fun j x e => ?_, fun j k a ne h1 h2 => ?_⟩, s.wd.same sm, ⟨.inl s.uok.p, .inl s.uok.c, fun a ha => ?_⟩, fun a z => .inl (s.sub a z), fun j a h => ?_, s.ext.trans (fr_same sm), fun j xs a e1 e2 => ?_, fun j c fs a j0 e1 e2 => ?_⟩, fun a o e _ _ => sm a o e, fun a o e n1 _ => ?_⟩
  · by_cases q : i = j
    · subst q
      have hl : i < ε.length := by
        cases z : ε[i]? with
        | none => rw [List.getElem?_set_self', z] at e; cases e
        | some w => exact (List.getElem?_eq_some_iff.mp z).1
      rw [List.getElem?_set_self hl] at e
      cases e
      exact ⟨_, List.getElem?_set_self (by rw [r1.len]; exact hl), A, _, rfl, upd_same, r.map (fun q => (q.grow n).ext (fun a o e _ _ => sm a o e)), .inr rfl, hp, hc⟩
    · rw [List.getElem?_set_ne q] at e ⊢
      exact r1.at_ j x e
  · rcases ownAt_setO h1 with ⟨rfl, z1⟩ | ⟨n1, z1⟩ <;> rcases ownAt_setO h2 with ⟨rfl, z2⟩ | ⟨n2, z2⟩
    · exact ne rfl
    · cases z1
      obtain ⟨o, e⟩ := own_sig s z2
      rw [n] at e
      cases e
    · cases z2
      obtain ⟨o, e⟩ := own_sig s z1
      rw [n] at e
      cases e
    · exact s.rel.apart j k a ne z1 z2
  · rcases ha with ha | rfl
    · obtain ⟨o, e, t⟩ := s.uok.al a ha
      exact ⟨o, sm a o e, t⟩
    · exact ⟨_, upd_same, r.nt⟩
  · rcases ownAt_setO h with ⟨rfl, z⟩ | ⟨_, z⟩
    · cases z
      by_cases m : Mt A
      · exact .inl m
      · refine .inr fun o q => ?_
        by_cases t : ∃ ps, o = .tbl ps
        · exact t
        · have := s.ext A o q hp m (fun ps z => t ⟨ps, z⟩)
          rw [n] at this
          cases this
    · exact s.own j a z
  · by_cases q : i = j
    · subst q
      rw [List.getElem?_set_self'] at e2
      cases z : σ[i]? with
      | none => rw [z] at e2; cases e2
      | some w =>
        rw [z] at e2
        cases e2
        exact fun h => nU (s.sub _ h)
    · rw [List.getElem?_set_ne q] at e1 e2
      exact s.nu0 j xs a e1 e2
  · by_cases q : i = j
    · subst q
      cases z : ε[i]? with
      | none => rw [List.getElem?_set_self', z] at e1; cases e1
      | some w => rw [List.getElem?_set_self', z] at e1; cases e1
    · rw [List.getElem?_set_ne q] at e1 e2
      exact s.oim j c fs a j0 e1 e2
  · rintro (z | z)
    · exact n1 z
    · exact ne_of_none e n z
theorem OwR.mut {o : HO} {x : Ow} (h : OwR g U H o x) : Mut (some o) := by
  rcases h.no with ⟨vs, z⟩ | ⟨vs, z⟩ | ⟨vs, z⟩ <;> (rw [z]; trivial)
theorem tabs_keepO {T : List (Addr × Str)} {a : Addr} {o : HO} {x : Ow} (n : Gh.Keep H H' a) (e : H a = some o) (r : OwR g U H o x) (h : LamX.Tabs T H) : LamX.Tabs T H' :=
  tabs_of h (fun c ps q => n _ _ q (ne_of q e (fun z => r.tbl ps z.symm))) (fun c k q z => n _ _ z (ne_of z e (r.code _ _)))
theorem own_mutG {x : Ow} {i : Nat} (s : Stt g Mt U0 H0 U σ H b ε) (hi : ε[i]? = some (.ow x)) : ∃ a o, σ[i]? = some (some (.ref a)) ∧ H a = some o ∧ OwR g U H o x ∧ U a ∧ a ≠ g.p ∧ a ≠ g.c ∧
    ∀ (o' : HO) (x' : Ow), OwR g U H o' x' → Stt g Mt U0 H0 U σ (upd H a o') b (ε.set i (.ow x')) ∧ Ev U H U (upd H a o') := by
  obtain ⟨_, eo, a, o, rfl, h, r, ua, n1, n2⟩ := s.rel.at_ i _ hi
  refine ⟨a, o, eo, h, r, ua, n1, n2, fun o' x' r' => ?_⟩
  have kp : Gh.Keep H (upd H a o') a := fun x o e ne => by rw [upd_ne ne]; exact e
  have xt : ExtU U H (upd H a o') := fun x o e ne _ => kp x o e (fun z => ne (z ▸ ua))
  have il : i < ε.length := (List.getElem?_eq_some_iff.mp hi).1
  have ow : ∀ j x, OwnAt σ (ε.set i (.ow x')) j x → OwnAt σ ε j x := fun j y z => by
    obtain ⟨z1, z2⟩ := z
    by_cases q : i = j
    · subst q
      exact ⟨z1, .inl ⟨x, hi⟩⟩
    · rw [List.getElem?_set_ne q] at z2
      exact ⟨z1, z2⟩
  have apart : ∀ j x, i ≠ j → OwnAt σ ε j x → x ≠ a := fun j y ne z e => by
    subst e
    exact s.rel.apart i j y ne ⟨eo, .inl ⟨x, hi⟩⟩ z
  refine ⟨⟨⟨by rw [List.length_set]; exact s.rel.len, fun j x e => ?_, fun j k x ne z1 z2 => s.rel.apart j k x ne (ow _ _ z1) (ow _ _ z2)⟩, ⟨s.wd.pen.keep kp n1 n2, tabs_keepO kp h r s.wd.tabs⟩, ⟨s.uok.p, s.uok.c, fun x hx => ?_⟩, s.sub, fun j x z => s.own j x (ow _ _ z), fun x o e m1 m2 m3 => ?_, fun j xs x e1 e2 => ?_, fun j c fs x j0 e1 e2 => ?_⟩, xt, fun _ _ _ n _ => n⟩
  · by_cases q : i = j
    · subst q
      rw [List.getElem?_set_self il] at e
      cases e
      exact ⟨_, eo, a, _, rfl, upd_same, r'.map (fun q => q.ext xt), ua, n1, n2⟩
    · rw [List.getElem?_set_ne q] at e
      obtain ⟨o, e1, e2⟩ := s.rel.at_ j x e
      refine ⟨o, e1, ?_⟩
      cases x with
      | no => trivial
      | fz d =>
        obtain ⟨v, e3, e4⟩ := e2
        exact ⟨v, e3, e4.ext xt⟩
      | ow ds2 =>
        obtain ⟨a2, v2, rfl, h2, d2, u2, m1, m2⟩ := e2
        have ne := apart j a2 q ⟨e1, .inl ⟨ds2, e⟩⟩
        exact ⟨a2, v2, rfl, kp _ _ h2 ne, d2.map (fun q => q.ext xt), u2, m1, m2⟩
      | oi c fs =>
        obtain ⟨a2, dx, v2, rfl, h2, d2, u2, m1, m2⟩ := e2
        have ne := apart j a2 q ⟨e1, .inr ⟨c, fs, e⟩⟩
        exact ⟨a2, dx, v2, rfl, kp _ _ h2 ne, d2.ext xt, u2, m1, m2⟩
  · by_cases q : x = a
    · subst q
      exact ⟨_, upd_same, r'.nt⟩
    · obtain ⟨o, e, t⟩ := s.uok.al x hx
      exact ⟨o, kp x o e q, t⟩
  · have q : x ≠ a := fun z => by
      subst z
      rcases s.own i x ⟨eo, .inl ⟨_, hi⟩⟩ with w | w
      · exact m2 w
      · obtain ⟨ps, z⟩ := w o e
        exact m3 ps z
    exact kp x o (s.ext x o e m1 m2 m3) q
  · by_cases q : i = j
    · subst q
      exact s.nu0 i _ x hi e2
    · rw [List.getElem?_set_ne q] at e1
      exact s.nu0 j xs x e1 e2
  · by_cases q : i = j
    · subst q
      rw [List.getElem?_set_self il] at e1
      cases e1
    · rw [List.getElem?_set_ne q] at e1
      exact s.oim j c fs x j0 e1 e2
theorem ss_dnewK {i : Nat} {m : Tr (Fl W L)} (hk : SS g E (ε.set i (.ow (.d (.dik [])))) u env envL m) : SS g E ε (tSeq (tAsg tDNewK (gName i)) u) env envL m := fun Mt U0 H0 U D σ H b s q => by
  intro p np
  obtain ⟨s1, e1⟩ := own_newG (i := i) (x := .d (.dik [])) s np (.k (kvs := []) (ps := []) rfl .nil)
  exact hk Mt U0 H0 _ D _ _ b s1 (q.mono (fun _ _ z => z.ev e1) (fun _ _ _ z => z))
theorem ss_par2K {i j : Nat} {v : V} {d : D} {m : Tr (Fl W L)} (c : CstD v d) (hk : SS g E ((ε.set i (.ow (.d (.dik [])))).set j (.fz d)) u env envL m) :
    SS g E ε (tSeq (tPar i j (tCons tDNewK (tCons (tC v) tNil))) u) env envL m := fun Mt U0 H0 U D σ H b s q => by
  intro p np
  obtain ⟨s1, e1⟩ := own_newG (i := i) (x := .d (.dik [])) s np (.k (kvs := []) (ps := []) rfl .nil)
  exact ⟨_, _, rfl, hk Mt U0 H0 _ D _ _ b (s1.set j (c _ _ _)) (q.mono (fun _ _ z => z.ev e1) (fun _ _ _ z => z))⟩
def dputD (x k v : D) : Option D := match x with
  | .dik ps => match keyD k with
    | some y => if ps.length < sizeLine then some (.dik (putP ps y v)) else none
    | none => none
  | .dit ps => match key2 k with
    | some y => if ps.length < sizeLine then some (.dit (putP ps y v)) else none
    | none => none
  | _ => none
theorem ss_dput {i : Nat} {x : D} {mk mv : Tr D} {k : D → Tr (Fl W L)} (hv : SE g E ε tv mv) (hy : SE g E ε ty mk) (hk : ∀ x' : D, SS g E (ε.set i (.ow (.d x'))) u env envL (k x')) (hi : ε[i]? = some (.ow (.d x)) := by rfl) :
    SS g E ε (tSeq (sDPut (tVar i) ty tv) u) env envL (bd mv fun v => bd mk fun y => match dputD x y v with | some x' => k x' | none => .bad) := fun Mt U0 H0 U D σ H b s q => by
  refine hv.sstep s q fun v d H1 b1 dv s1 q1 => ?_
  obtain ⟨a, o, e1, _, _, _, _, _, _⟩ := own_mutG s1 hi
  refine ⟨.ref a, e1, ?_⟩
  obtain ⟨o2, e2⟩ : ∃ m : Tr (Fl W L), m = bd mk fun y => match dputD x y d with | some x' => k x' | none => .bad := ⟨_, rfl⟩
  refine hy U σ H1 b1 _ s1.rel s1.wd s1.uok ((al_bd.mp q1).mono (fun y b2 h2 w H2 dy w2 f2 => ?_) (fun _ _ _ h => exS.exP s1 h))
  have s2 := s1.fr f2 w2
  have dv2 := dv.fr s1.uok f2
  obtain ⟨a', o', e1', ha, r, ua, n1, n2, mt⟩ := own_mutG s2 hi
  rw [e1] at e1'
  cases e1'
  cases z : dputD x y d with
  | none => rw [z] at h2; exact h2.elim
  | some x' =>
    rw [z] at h2
    have fin : ∀ o2, OwR g U H2 o2 (.d x') → DPut H2 a w v (upd H2 a o2) → ∃ a' H4, V.ref a = .ref a' ∧ DPut H2 a' w v H4 ∧ u D σ H4 := fun o2 r2 dp => by
      obtain ⟨s3, ev⟩ := mt o2 (.d x') r2
      refine ⟨a, _, rfl, dp, hk x' Mt U0 H0 U D σ _ b2 s3 (h2.mono (fun _ _ z => z.ev ((s1.uok.ev f2).trans ev)) (fun _ _ _ z => z))⟩
    unfold dputD at z
    cases r with
    | k ek dl =>
      simp only at z
      cases zk : keyD y with
      | none => rw [zk] at z; cases z
      | some y' =>
        rw [zk] at z
        simp only at z
        split at z
        · rename_i hl
          cases z
          cases key_v dy zk
          obtain ⟨p1, p2⟩ := den_put y' dv2 ek dl
          exact fin _ (.k p1 p2) (.k ha (by rw [len_keys ek]; exact hl))
        · cases z
    | t ek dl =>
      simp only at z
      cases zk : key2 y with
      | none => rw [zk] at z; cases z
      | some y' =>
        rw [zk] at z
        simp only at z
        split at z
        · rename_i hl
          cases z
          obtain ⟨p, rfl, hp, _⟩ := key_2 dy zk
          obtain ⟨p1, p2⟩ := den_put y' dv2 ek dl
          exact fin _ (.t p1 p2) (.t ha hp (by rw [len_keys ek]; exact hl))
        · cases z
end
end Gp
end
section
set_option Elab.async false
set_option linter.all false
set_option maxRecDepth 100000
set_option maxHeartbeats 4000000
namespace Gp
open PySem PySem.Spec PyProof.Rows L2 Gh
section
variable {g : Gw} {Mt U0 U U' : Addr → Prop} {H0 H H' H1 H2 : Hp} {b b1 : Nat} {σ : L2.St} {ε ε' : Env} {E : XK} {W L W' : Type}
variable {env : W → Env} {envL : L → Env} {env' : W' → Env} {u ta tb : TS} {te td ty tv tx : TE} {me md my mz : Tr D}
theorem ss_lk {i : Nat} {x : D} {t : TS} {m : Tr (Fl W L)} (h : SS g E (ε.set i (.fz x)) (tSeq t u) env envL m) (hi : ε[i]? = some (.ow (.d x)) := by rfl) : SS g E ε (tSeq (tLk i t) u) env envL m := fun Mt U0 H0 U D σ H b s q => by
  obtain ⟨a, o, e1, ha, r, ua, n1, n2, _⟩ := own_mutG s hi
  refine ⟨a, o, e1, ha, r.mut, fun od => ?_⟩
  have il : i < ε.length := (List.getElem?_eq_some_iff.mp hi).1
  have kp : Gh.Keep H (upd H a (.frz od o)) a := fun x o e ne => by rw [upd_ne ne]; exact e
  have xt : ExtU U H (upd H a (.frz od o)) := fun x o e ne _ => kp x o e (fun z => ne (z ▸ ua))
  have sub : ∀ x, (∃ o', (upd H a (.frz od o)) x = some o') → (U x ∧ x ≠ a) → U x := fun x _ z => z.1
  have ow : ∀ j y, OwnAt σ (ε.set i (.fz x)) j y → i ≠ j ∧ OwnAt σ ε j y := fun j y z => by
    obtain ⟨z1, z2⟩ := z
    by_cases q : i = j
    · subst q
      exfalso
      rcases z2 with ⟨y, z2⟩ | ⟨y1, y2, z2⟩
      · rw [List.getElem?_set_self il] at z2
        cases z2
      · rw [List.getElem?_set_self il] at z2
        cases z2
    · rw [List.getElem?_set_ne q] at z2
      exact ⟨q, z1, z2⟩
  have apart : ∀ j y, i ≠ j → OwnAt σ ε j y → y ≠ a := fun j y ne z e => by
    subst e
    exact s.rel.apart i j y ne ⟨e1, .inl ⟨_, hi⟩⟩ z
  have dn : Den g (fun x => U x ∧ x ≠ a) (upd H a (.frz od o)) (.ref a) x := by
    cases r with
    | k ek dl => exact .dik upd_same (fun z => z.2 rfl) ek ((dl.ext xt).sub sub)
    | t ek dl => exact .dit upd_same (fun z => z.2 rfl) ek ((dl.ext xt).sub sub)
  have ev : Ev U H (fun x => U x ∧ x ≠ a) (upd H a (.frz od o)) := ⟨fun x o e n _ => kp x o e (fun z => n (z ▸ ua)), fun _ _ _ n _ z => n z.1⟩
  refine h Mt U0 H0 (fun x => U x ∧ x ≠ a) D σ _ b ⟨⟨by rw [List.length_set]; exact s.rel.len, fun j x e => ?_, fun j k x ne z1 z2 => s.rel.apart j k x ne (ow _ _ z1).2 (ow _ _ z2).2⟩, ⟨s.wd.pen.keep kp n1 n2, tabs_keepO kp ha r s.wd.tabs⟩, ⟨⟨s.uok.p, n1.symm⟩, ⟨s.uok.c, n2.symm⟩, fun x hx => ?_⟩, fun x z => ⟨s.sub x z, fun e => s.nu0 i _ x hi (by rw [e1, e]) z⟩, fun j x z => s.own j x (ow _ _ z).2, fun x o' e m1 m2 m3 => ?_, fun j xs x z1 z2 => ?_, fun j c fs x j0 z1 z2 => ?_⟩ (q.mono (fun _ _ z => z.ev ev) (fun _ _ _ z => z))
  · by_cases q : i = j
    · subst q
      rw [List.getElem?_set_self il] at e
      cases e
      exact ⟨_, e1, _, rfl, dn⟩
    · rw [List.getElem?_set_ne q] at e
      obtain ⟨o', e3, e2⟩ := s.rel.at_ j x e
      refine ⟨o', e3, ?_⟩
      cases x with
      | no => trivial
      | fz d =>
        obtain ⟨v, e4, e5⟩ := e2
        exact ⟨v, e4, (e5.ext xt).sub sub⟩
      | ow ds2 =>
        obtain ⟨a2, v2, rfl, h2, d2, u2, m1, m2⟩ := e2
        have ne := apart j a2 q ⟨e3, .inl ⟨ds2, e⟩⟩
        exact ⟨a2, v2, rfl, kp _ _ h2 ne, d2.map (fun q => (q.ext xt).sub sub), ⟨u2, ne⟩, m1, m2⟩
      | oi c fs =>
        obtain ⟨a2, dx, v2, rfl, h2, d2, u2, m1, m2⟩ := e2
        have ne := apart j a2 q ⟨e3, .inr ⟨c, fs, e⟩⟩
        exact ⟨a2, dx, v2, rfl, kp _ _ h2 ne, (d2.ext xt).sub sub, ⟨u2, ne⟩, m1, m2⟩
  · obtain ⟨o', e, t⟩ := s.uok.al x hx.1
    exact ⟨o', kp x o' e hx.2, t⟩
  · have q : x ≠ a := fun z => by
      subst z
      rcases s.own i x ⟨e1, .inl ⟨_, hi⟩⟩ with w | w
      · exact m2 w
      · obtain ⟨ps, z⟩ := w o' e
        exact m3 ps z
    exact kp x o' (s.ext x o' e m1 m2 m3) q
  · obtain ⟨q, _, z3⟩ := ow j x ⟨z2, .inl ⟨xs, z1⟩⟩
    rw [List.getElem?_set_ne q] at z1
    exact s.nu0 j xs x z1 z2
  · by_cases q : i = j
    · subst q
      rw [List.getElem?_set_self il] at z1
      cases z1
    · rw [List.getElem?_set_ne q] at z1
      exact s.oim j c fs x j0 z1 z2
def gdK (x y : D) : Option (Option D) := match x with
  | .dik ps => match keyD y with
    | some k => some (lookP ps k)
    | none => none
  | .dit ps => match key2 y with
    | some k => some (lookP ps k)
    | none => none
  | _ => none
def getKD (x y : D) : Tr D := match gdK x y with
  | some (some d) => .ok d
  | _ => .bad
def getK2D (x y z : D) : Tr D := match gdK x y with
  | some o => .ok (o.getD z)
  | none => .bad
def isDk (x : D) : Bool := match x with
  | .dik _ => true
  | .dit _ => true
  | _ => false
theorem dget_of {x y : D} {v w : V} {o : Option D} (dx : Den g U H v x) (dy : Den g U H w y) (h : gdK x y = some o) : ∃ a r, v = .ref a ∧ DGet H a w r ∧ ((r = none ∧ o = none) ∨ ∃ v' d, r = some v' ∧ o = some d ∧ Den g U H v' d) := by
  unfold gdK at h
  cases dx with
  | dik ha nu ek dl =>
    simp only at h
    cases zk : keyD y with
    | none => rw [zk] at h; cases h
    | some k =>
      rw [zk] at h
      cases h
      cases key_v dy zk
      refine ⟨_, _, rfl, .inl ⟨_, k, .inr ⟨_, ha⟩, rfl, rfl⟩, ?_⟩
      rcases den_look k ek dl with ⟨z1, z2⟩ | ⟨v', d, z1, z2, z3⟩
      · exact .inl ⟨z1, z2⟩
      · exact .inr ⟨v', d, z1, z2, z3⟩
  | dit ha nu ek dl =>
    simp only at h
    cases zk : key2 y with
    | none => rw [zk] at h; cases h
    | some k =>
      rw [zk] at h
      cases h
      obtain ⟨p, rfl, hp, _⟩ := key_2 dy zk
      refine ⟨_, _, rfl, .inr ⟨_, k, p, .inr ⟨_, ha⟩, rfl, hp, rfl⟩, ?_⟩
      rcases den_look k ek dl with ⟨z1, z2⟩ | ⟨v', d, z1, z2, z3⟩
      · exact .inl ⟨z1, z2⟩
      · exact .inr ⟨v', d, z1, z2, z3⟩
  | _ => cases h
theorem isDk_d {x : D} {v : V} (dx : Den g U H v x) (h : isDk x = true) : ∃ a, v = .ref a ∧ IsD H a := by
  cases dx with
  | dik ha nu ek dl => exact ⟨_, rfl, .inl ⟨_, .inr ⟨_, ha⟩⟩⟩
  | dit ha nu ek dl => exact ⟨_, rfl, .inr ⟨_, .inr ⟨_, ha⟩⟩⟩
  | _ => cases h
theorem se_dgetT (hx : SE g E ε td md) (hy : SE g E ε ty my) : SE g E ε (tDGet td ty) (bd md fun x => bd my fun y => getKD x y) := fun U σ H b Q R W u q =>
  hx.step R W u q fun v d H1 b1 d1 w1 f1 R1 u1 q1 => hy.step R1 w1 u1 q1 fun v2 e H2 b2 d2 w2 f2 R2 u2 q2 => by
    unfold getKD at q2
    cases z : gdK d e with
    | none => rw [z] at q2; exact q2.elim
    | some o =>
      cases o with
      | none => rw [z] at q2; exact q2.elim
      | some x =>
        rw [z] at q2
        obtain ⟨a, r, rfl, dg, ⟨z1, z2⟩ | ⟨v', d', rfl, z2, z3⟩⟩ := dget_of (d1.fr u1 f2) d2 z
        · cases z2
        · cases z2
          exact ⟨a, v', rfl, dg, q2 v' H2 z3 w2 (f1.trans f2)⟩
theorem se_dget2 (hx : SE g E ε td md) (hy : SE g E ε ty my) (hz : SE g E ε tx mz) : SE g E ε (tDGet2 td ty tx) (bd md fun x => if isDk x = true then bd my fun y => bd mz fun z => getK2D x y z else .bad) := fun U σ H b Q R W u q =>
  hx.step R W u q fun v d H1 b1 d1 w1 f1 R1 u1 q1 => by
    by_cases hd : isDk d = true
    · rw [if_pos hd] at q1
      obtain ⟨a, rfl, ia⟩ := isDk_d d1 hd
      refine ⟨a, rfl, ia, ?_⟩
      refine hy.step R1 w1 u1 q1 fun v2 e H2 b2 d2 w2 f2 R2 u2 q2 => hz.step R2 w2 u2 q2 fun v3 e3 H3 b3 d3 w3 f3 R3 u3 q3 => ?_
      unfold getK2D at q3
      cases z : gdK d e with
      | none => rw [z] at q3; exact q3.elim
      | some o =>
        rw [z] at q3
        obtain ⟨a', r, e0, dg, h⟩ := dget_of (d1.fr u1 (f2.trans f3)) (d2.fr u2 f3) z
        cases e0
        refine ⟨r, dg, ?_⟩
        rcases h with ⟨rfl, rfl⟩ | ⟨v', d', rfl, rfl, z3⟩
        · exact q3 v3 H3 d3 w3 ((f1.trans f2).trans f3)
        · exact q3 v' H3 z3 w3 ((f1.trans f2).trans f3)
    · rw [if_neg hd] at q1
      exact q1.elim
def rLenD : List V → Hp → VK → Prop := fun xs H Q => ∃ p, xs = [.ref p] ∧ ((∃ kvs : List (Key × V), Rd H p (.dK kvs) ∧ Q (.int ((kvs.length : Nat) : Int)) H) ∨ ∃ kvs : List (List Key × V), Rd H p (.dT kvs) ∧ Q (.int ((kvs.length : Nat) : Int)) H)
theorem call_lenD {X : Cx} : CallR X (.builtin "len") rLenD := by
  intro pins s σ H xs us Q I r h
  obtain ⟨p, rfl, h⟩ := h
  obtain ⟨u, rfl, rx⟩ := r.one
  obtain rfl : u = .ref p := rx
  rcases h with ⟨kvs, hp, q⟩ | ⟨kvs, hp, q⟩
  · exact d_len I hp fun t s' I' => ⟨.int ((kvs.length : Nat) : Int), H, I', ⟨_, rfl⟩, q⟩
  · obtain ⟨z, hd, ys, rel, dd⟩ := dt_rd I.hok hp
    have hl : kvs.length = ys.length := Paired.length rel
    refine call_len_dictH hd dd (by rw [← hl]; rw [sizeLine_eq] at z; omega) ?_
    rw [← hl]
    exact ⟨.int ((kvs.length : Nat) : Int), H, I.tok _, ⟨_, rfl⟩, q⟩
def lenKD (x : D) : Tr D := match x with
  | .dik ps => .ok (.int ((ps.length : Nat) : Int))
  | .dit ps => .ok (.int ((ps.length : Nat) : Int))
  | _ => .bad
theorem srl_lenD : SRL g E rLenD (ul1 lenKD) := fun U H b xs dxs Q dl W u q => by
  cases dl with
  | nil => exact q.elim
  | cons h t =>
    cases t with
    | cons h2 t2 => exact q.elim
    | nil =>
      cases h with
      | dik ha nu ek dl => exact ⟨_, rfl, .inl ⟨_, .inr ⟨_, ha⟩, by rw [len_keys ek]; exact q _ H (.int _) W Fr.refl⟩⟩
      | dit ha nu ek dl => exact ⟨_, rfl, .inr ⟨_, .inr ⟨_, ha⟩, by rw [len_keys ek]; exact q _ H (.int _) W Fr.refl⟩⟩
      | _ => exact q.elim
def kyT : List Key → Option D
  | [.inl a, .inl b] => some (.tup [.int a, .int b])
  | _ => none
def kyI : Key → Option D
  | .inl a => some (.int a)
  | .inr _ => none
def keysD {κ : Type} (f : κ → Option D) : List (κ × D) → Option (List D)
  | [] => some []
  | p :: r => match f p.1, keysD f r with
    | some d, some ds => some (d :: ds)
    | _, _ => none
def itKD (x : D) : Tr (List D) := match x with
  | .dit ps => match keysD kyT ps with
    | some ds => if ds.length ≤ sizeLine then .ok ds else .bad
    | none => .bad
  | .dik ps => match keysD kyI ps with
    | some ds => if ds.length ≤ sizeLine then .ok ds else .bad
    | none => .bad
  | _ => .bad
theorem keysD_len {κ : Type} {f : κ → Option D} : ∀ {ps : List (κ × D)} {ds : List D}, keysD f ps = some ds → ds.length = ps.length
  | [], ds, e => by cases e; rfl
  | p :: r, ds, e => by
    simp only [keysD] at e
    cases e1 : f p.1 with
    | none => rw [e1] at e; cases e
    | some d =>
      cases e2 : keysD f r with
      | none => rw [e1, e2] at e; cases e
      | some es =>
        rw [e1, e2] at e
        cases e
        exact congrArg (· + 1) (keysD_len e2)
theorem keysD_at {κ : Type} {f : κ → Option D} : ∀ {ps : List (κ × D)} {ds : List D} {i : Nat} {d : D}, keysD f ps = some ds → ds[i]? = some d → ∃ p, ps[i]? = some p ∧ f p.1 = some d
  | [], ds, i, d, e, h => by cases e; simp at h
  | p :: r, ds, i, d, e, h => by
    simp only [keysD] at e
    cases e1 : f p.1 with
    | none => rw [e1] at e; cases e
    | some x =>
      cases e2 : keysD f r with
      | none => rw [e1, e2] at e; cases e
      | some es =>
        rw [e1, e2] at e
        cases e
        cases i with
        | zero => simp at h; subst h; exact ⟨p, rfl, e1⟩
        | succ i =>
          obtain ⟨p', h1, h2⟩ := keysD_at (i := i) (d := d) e2 (by simpa using h)
          exact ⟨p', by simpa using h1, h2⟩
theorem keyAt {κ : Type} {kvs : List (κ × V)} {ps : List (κ × D)} (e : kvs.map (·.1) = ps.map (·.1)) {i : Nat} {p : κ × D} (h : ps[i]? = some p) {k : κ} {v : V} (hk : kvs[i]? = some (k, v)) : k = p.1 := by
  have h1 : (kvs.map (·.1))[i]? = some k := by rw [List.getElem?_map, hk]; rfl
  have h2 : (ps.map (·.1))[i]? = some p.1 := by rw [List.getElem?_map, h]; rfl
  rw [e, h2] at h1
  exact (Option.some.inj h1).symm
theorem itd_keysT {a : Addr} {ob : Obj} {kvs : List (List Key × V)} {ps : List (List Key × D)} {ds : List D} (ha : H a = some (.frz ob (.dT kvs))) (nu : ¬ U a) (ek : kvs.map (·.1) = ps.map (·.1)) (e : keysD kyT ps = some ds) : ItD g U H (Itkt a ob kvs) ds := fun i U1 H1 b ev w u => by
  have h1 : H1 a = some (.frz ob (.dT kvs)) := ev.keep _ _ ha nu (fun _ z => by cases z)
  have ln := len_keys ek
  have ld := keysD_len e
  refine ⟨fun d hd => ?_, fun hl => ⟨h1, by omega⟩⟩
  obtain ⟨p, hp, hf⟩ := keysD_at e hd
  have il : i < ps.length := (List.getElem?_eq_some_iff.mp hp).1
  refine ⟨⟨h1, by omega⟩, ?_⟩
  rintro x H2 ⟨rfl, k, v, q, hk, rfl, hq⟩
  refine ⟨?_, fun _ _ z => z⟩
  have hkp := keyAt ek hp hk
  have nq : ¬ U1 q := fun z => by
    obtain ⟨o, ho, nt⟩ := u.al q z
    rw [hq] at ho
    cases ho
    exact nt.tup _ rfl
  rw [hkp] at hq
  unfold kyT at hf
  split at hf
  · rename_i x y hxy
    cases hf
    rw [hxy] at hq
    exact .tup hq nq (by show 2 ≤ sizeLine; decide) (.cons (.int x) (.cons (.int y) .nil))
  · cases hf
theorem itd_keysK {a : Addr} {ob : Obj} {kvs : List (Key × V)} {ps : List (Key × D)} {ds : List D} (ha : H a = some (.frz ob (.dK kvs))) (nu : ¬ U a) (ek : kvs.map (·.1) = ps.map (·.1)) (e : keysD kyI ps = some ds) : ItD g U H (Itk a ob kvs) ds := fun i U1 H1 b ev w u => by
  have h1 : H1 a = some (.frz ob (.dK kvs)) := ev.keep _ _ ha nu (fun _ z => by cases z)
  have ln := len_keys ek
  have ld := keysD_len e
  refine ⟨fun d hd => ?_, fun hl => ⟨h1, by omega⟩⟩
  obtain ⟨p, hp, hf⟩ := keysD_at e hd
  have il : i < ps.length := (List.getElem?_eq_some_iff.mp hp).1
  refine ⟨⟨h1, by omega⟩, ?_⟩
  rintro x H2 ⟨rfl, k, v, hk, rfl⟩
  refine ⟨?_, fun _ _ z => z⟩
  have hkp := keyAt ek hp hk
  subst hkp
  unfold kyI at hf
  split at hf
  · rename_i x hxy
    cases hf
    rw [hxy]
    exact .int x
  · cases hf
theorem si_keys (hx : SE g E ε td md) : SI g E ε (iKeys td) (bd md itKD) := fun U σ H b R rl wd u q =>
  hx.step rl wd u q fun v d H1 b1 d1 w1 f1 R1 u1 q1 => by
    unfold itKD at q1
    cases d1 with
    | dit ha nu ek dl =>
      simp only at q1
      split at q1
      · rename_i ds e
        by_cases hl : ds.length ≤ sizeLine
        · rw [if_pos hl] at q1
          exact ⟨_, _, rfl, .inr ⟨_, ha, q1 _ H1 hl (itd_keysT ha nu ek e) w1 f1⟩⟩
        · rw [if_neg hl] at q1
          exact q1.elim
      · exact q1.elim
    | dik ha nu ek dl =>
      simp only at q1
      split at q1
      · rename_i ds e
        by_cases hl : ds.length ≤ sizeLine
        · rw [if_pos hl] at q1
          exact ⟨_, _, rfl, .inl ⟨_, ha, q1 _ H1 hl (itd_keysK ha nu ek e) w1 f1⟩⟩
        · rw [if_neg hl] at q1
          exact q1.elim
      · exact q1.elim
    | _ => exact q1.elim
end
end Gp
end
section
set_option Elab.async false
set_option linter.all false
set_option maxRecDepth 100000
set_option maxHeartbeats 4000000
namespace DcX
open PySem PySem.Spec PyProof.Rows L2
theorem d_dictSetT {X : Cx} {pins : List (Addr × Obj)} {σ : L2.St} {H : Hp} {s : Shared} {A : Around} {E : Value → Shared → Prop} {D b : Addr} {kvs : List (List Key × V)} {k : List Key} {v : V} {u r : Value} {Q : Unit → Shared → Prop} (hu : A.units + 1 < cLine) (I : Inv X pins σ H s) (hD : H D = some (.dT kvs)) (eb : H b = some (.tup (k.map kV))) (hz : kvs.length < sizeLine)
    (ry : RelV (.ref b) u) (rv : RelV v r) (h : ∀ s', Inv X pins σ (upd H D (.dT (putK kvs k v))) s' → Q () s') : wpAny (model X.prog X.w) A (dictSet D u r) Q E s := by
  cases (show u = Value.ref b from ry)
  obtain ⟨z, hd, xs, rel, dd⟩ := dt_of I.hok hD
  have hzv : xs.length ≤ sizeLine := by rw [← Paired.length rel]; exact z
  have hl : (putK kvs k v).length ≤ sizeLine := by have := length_putK kvs k v; omega
  refine wpAny_dictSet_heap (hsz := hzv) (Nat.lt_of_succ_lt hu) (key_of I.hok eb) dd fun h' dd' hs => h _ ?_
  obtain ⟨q, es, ep, hq, h2, h3, h4, _, h5⟩ := dd'
  refine d_write I (by rw [hD]; exact True.intro) hs ⟨q, hq⟩ ⟨hl, hd, _, (rel.put k eb rv).keeps fun c ys ec => ?_, q, es, ep, hq, h2, h3, h4, h5⟩
  rw [upd_ne (ne_of ec hD (fun z => nomatch z))]
  exact ec
theorem compTurn2_outD (kx vx t0 i0 t1 i1 : Expr) (ifs0 ifs1 : List Expr) (scope : Scope) (pos : Pos) (it : Value) (D : Addr) (env : Env) :
    compTurn (.DictComp kx vx [⟨t0, i0, ifs0, 0⟩, ⟨t1, i1, ifs1, 0⟩] scope pos) 0 it (.ref D) env = (do
      standAt i0.pos
      match ← pyNext it with
      | none => pure (.done .next)
      | some v =>
        letOwnedTupleGo t0 it v
        assign t0 env v
        let mut ok := true
        for c in ifs0 do
          if ok then ok ← isTrue c env (eval c env)
        if ok then
          let x ← eval i1 env
          standAt i1.pos
          let x ← foldedSetIterable i1 env x
          let _ ← runOwn (.compStart (.DictComp kx vx [⟨t0, i0, ifs0, 0⟩, ⟨t1, i1, ifs1, 0⟩] scope pos) 1 (← holding [x] (pyIter x)) (.ref D) env) env
        again (.compLoop (.DictComp kx vx [⟨t0, i0, ifs0, 0⟩, ⟨t1, i1, ifs1, 0⟩] scope pos) 0 it (.ref D) env)) := by rfl
theorem compTurn2_inD (kx vx t0 i0 t1 i1 : Expr) (ifs0 ifs1 : List Expr) (scope : Scope) (pos : Pos) (it : Value) (D : Addr) (env : Env) :
    compTurn (.DictComp kx vx [⟨t0, i0, ifs0, 0⟩, ⟨t1, i1, ifs1, 0⟩] scope pos) 1 it (.ref D) env = (do
      standAt i1.pos
      match ← pyNext it with
      | none => pure (.done .next)
      | some v =>
        letOwnedTupleGo t1 it v
        assign t1 env v
        let mut ok := true
        for c in ifs1 do
          if ok then ok ← isTrue c env (eval c env)
        if ok then
          (do
            let kv ← eval kx env
            let vv ← holding [kv] (eval vx env)
            standAt { kx.pos with endLine := vx.pos.endLine, endCol := vx.pos.endCol }
            holding [kv, vv] (dictSet D kv vv))
        again (.compLoop (.DictComp kx vx [⟨t0, i0, ifs0, 0⟩, ⟨t1, i1, ifs1, 0⟩] scope pos) 1 it (.ref D) env)) := by rfl
section
variable {prog : Program} {w : World} {A : Around} {R : Result → Shared → Prop} {s : Shared} {kx vx t0 i0 t1 i1 : Expr} {ifs0 ifs1 : List Expr} {scope : Scope} {pos : Pos} {it : Value} {D : Addr} {env : Env}
theorem compLoop2_outD (hs : ∀ x, foldedSetIterable i1 env x = pure x) (I : Nat → Shared → Prop)
    (turn : ∀ n s, I n s → wpAny (model prog w) A (pyNext it) (fun r s₁ => match r with
      | none => R (.ok .next) s₁
      | some v => wpAny (model prog w) A (letOwnedTupleGo t0 it v) (fun _ s₁' => wpAny (model prog w) A (assign t0 env v) (fun _ s₂ =>
          wpAny (model prog w) A (forIn ifs0 true fun c r => if r = true then do let ok ← isTrue c env (eval c env); pure (ForInStep.yield ok) else pure (ForInStep.yield r)) (fun ok s₃ =>
            if ok = true then wpAny (model prog w) A (eval i1 env) (fun x s₄ => wpAny (model prog w) A (pyIter x) (fun it1 s₅ =>
              codeAny (model prog w) A (.compStart (.DictComp kx vx [⟨t0, i0, ifs0, 0⟩, ⟨t1, i1, ifs1, 0⟩] scope pos) 1 it1 (.ref D) env) (fun r s' => match r with
                | .ok _ => ∃ m, m < n ∧ I m s'
                | .error _ => False) s₅) (notedBy (model prog w) A env fun e s' => R (.error e) s') s₄) (notedBy (model prog w) A env fun e s' => R (.error e) s') s₃
            else ∃ m, m < n ∧ I m s₃) (notedBy (model prog w) A env fun e s' => R (.error e) s') s₂) (notedBy (model prog w) A env fun e s' => R (.error e) s') s₁') (notedBy (model prog w) A env fun e s' => R (.error e) s') s₁) (notedBy (model prog w) A env fun e s' => R (.error e) s') s)
    (n : Nat) (h : I n s) :
    codeAny (model prog w) A (.compLoop (.DictComp kx vx [⟨t0, i0, ifs0, 0⟩, ⟨t1, i1, ifs1, 0⟩] scope pos) 0 it (.ref D) env) R s := by
  refine codeAny_loop rfl I (fun n s hI => ?_) n h
  show wpAny _ A ((compTurn (.DictComp kx vx [⟨t0, i0, ifs0, 0⟩, ⟨t1, i1, ifs1, 0⟩] scope pos) 0 it (.ref D) env).onRaise (fun x => do noteFrame x env; theTreesLotGoes x)) _ _ s
  refine wpAny_noted ?_
  rw [compTurn2_outD]
  refine wpAny_bind (wpAny_standAt (wpAny_bind (wpAny_mono (turn n s hI) (fun r s₁ h₁ => ?_) fun _ _ h' => h')))
  cases r with
  | none => exact wpAny_pure h₁
  | some v =>
    refine wpAny_bind (wpAny_mono h₁ (fun _ s₁' h₁' => ?_) fun _ _ h' => h')
    refine wpAny_bind (wpAny_mono h₁' (fun _ s₂ h₂ => wpAny_bind (wpAny_mono h₂ (fun ok s₃ h₃ => ?_) fun _ _ h' => h')) fun _ _ h' => h')
    cases ok with
    | false => exact wpAny_pure ⟨rfl, h₃⟩
    | true =>
      refine wpAny_bind (wpAny_mono h₃ (fun x s₄ h₄ => ?_) fun _ _ h' => h')
      refine wpAny_bind (wpAny_standAt (wpAny_bind (wpAny_of_eq (hs x) (wpAny_bind (wpAny_holding (wpAny_mono h₄ (fun it1 s₅ h₅ => ?_) fun _ _ h' => h'))))))
      refine wpAny_bind (wpAny_runOwn ?_)
      rw [Around.mark_none]
      refine codeAny_mono h₅ fun r s' hr => ?_
      cases r with
      | ok f =>
        first
          | exact wpAny_pure ⟨rfl, hr⟩
          | exact wpAny_bind (wpAny_pure (wpAny_pure ⟨rfl, hr⟩))
      | error e => exact hr.elim
theorem compLoop2_inD (I : Nat → Shared → Prop)
    (turn : ∀ n s, I n s → wpAny (model prog w) A (pyNext it) (fun r s₁ => match r with
      | none => R (.ok .next) s₁
      | some v => wpAny (model prog w) A (letOwnedTupleGo t1 it v) (fun _ s₁' => wpAny (model prog w) A (assign t1 env v) (fun _ s₂ =>
          wpAny (model prog w) A (forIn ifs1 true fun c r => if r = true then do let ok ← isTrue c env (eval c env); pure (ForInStep.yield ok) else pure (ForInStep.yield r)) (fun ok s₃ =>
            if ok = true then wpAny (model prog w) A (eval kx env) (fun kv s₄ => wpAny (model prog w) A (eval vx env) (fun vv s₅ =>
              wpAny (model prog w) A (dictSet D kv vv) (fun _ s₆ => ∃ m, m < n ∧ I m s₆) (notedBy (model prog w) A env fun e s' => R (.error e) s') s₅) (notedBy (model prog w) A env fun e s' => R (.error e) s') s₄) (notedBy (model prog w) A env fun e s' => R (.error e) s') s₃
            else ∃ m, m < n ∧ I m s₃) (notedBy (model prog w) A env fun e s' => R (.error e) s') s₂) (notedBy (model prog w) A env fun e s' => R (.error e) s') s₁') (notedBy (model prog w) A env fun e s' => R (.error e) s') s₁) (notedBy (model prog w) A env fun e s' => R (.error e) s') s)
    (n : Nat) (h : I n s) :
    codeAny (model prog w) A (.compLoop (.DictComp kx vx [⟨t0, i0, ifs0, 0⟩, ⟨t1, i1, ifs1, 0⟩] scope pos) 1 it (.ref D) env) R s := by
  refine codeAny_loop rfl I (fun n s hI => ?_) n h
  show wpAny _ A ((compTurn (.DictComp kx vx [⟨t0, i0, ifs0, 0⟩, ⟨t1, i1, ifs1, 0⟩] scope pos) 1 it (.ref D) env).onRaise (fun x => do noteFrame x env; theTreesLotGoes x)) _ _ s
  refine wpAny_noted ?_
  rw [compTurn2_inD]
  refine wpAny_bind (wpAny_standAt (wpAny_bind (wpAny_mono (turn n s hI) (fun r s₁ h₁ => ?_) fun _ _ h' => h')))
  cases r with
  | none => exact wpAny_pure h₁
  | some v =>
    refine wpAny_bind (wpAny_mono h₁ (fun _ s₁' h₁' => ?_) fun _ _ h' => h')
    refine wpAny_bind (wpAny_mono h₁' (fun _ s₂ h₂ => wpAny_bind (wpAny_mono h₂ (fun ok s₃ h₃ => ?_) fun _ _ h' => h')) fun _ _ h' => h')
    cases ok with
    | false => exact wpAny_pure ⟨rfl, h₃⟩
    | true =>
      exact wpAny_bind (wpAny_bind (wpAny_mono h₃ (fun kv s₄ h₄ => wpAny_bind (wpAny_holding (wpAny_mono h₄ (fun vv s₅ h₅ => wpAny_bind (wpAny_standAt (wpAny_holding (wpAny_mono h₅ (fun _ s₆ h₆ => wpAny_pure ⟨rfl, h₆⟩) fun _ _ h' => h')))) fun _ _ h' => h'))) fun _ _ h' => h'))
theorem compStart1_okD (h0 : codeAny (model prog w) A (.compLoop (.DictComp kx vx [⟨t0, i0, ifs0, 0⟩, ⟨t1, i1, ifs1, 0⟩] scope pos) 1 it (.ref D) env) R s)
    (h : wpAny (model prog w) A (pyIter it) (fun it' s' => codeAny (model prog w) A (.compLoop (.DictComp kx vx [⟨t0, i0, ifs0, 0⟩, ⟨t1, i1, ifs1, 0⟩] scope pos) 1 it' (.ref D) env) R s')
      (notedBy (model prog w) A env fun x s' => R (.error x) s') s) :
    codeAny (model prog w) A (.compStart (.DictComp kx vx [⟨t0, i0, ifs0, 0⟩, ⟨t1, i1, ifs1, 0⟩] scope pos) 1 it (.ref D) env) R s := by
  refine codeAny_of_tree ?_
  show wpAny _ _ ((compStart (.DictComp kx vx [⟨t0, i0, ifs0, 0⟩, ⟨t1, i1, ifs1, 0⟩] scope pos) 1 it (.ref D) env).onRaise (fun x => do noteFrame x env; standAt theWindowsPlace)) _ _ s
  refine wpAny_notedAt ?_
  unfold compStart
  show wpAny _ _ (ask >>= _) _ _ s
  refine wpAny_bind (wpAny_askSetting (wpAny_ite ?_))
  split
  · first
      | exact wpAny_bind (wpAny_pure (wpAny_pure (And.intro rfl h0)))
      | exact wpAny_pure (And.intro rfl h0)
  · first
      | exact wpAny_bind (wpAny_rule (wpAny_bind (wpAny_standAt (wpAny_bind (wpAny_mono h (fun it' s' h' => wpAny_pure (And.intro rfl h')) fun _ _ x => x)))))
      | (refine wpAny_bind (wpAny_rule ?_); show wpAny _ _ (standAt i1.pos >>= _) _ _ s; exact wpAny_bind (wpAny_standAt (wpAny_bind (wpAny_mono h (fun it' s' h' => wpAny_pure (And.intro rfl h')) fun _ _ x => x))))
end
section
variable {X : Cx}
def tDc2 (wi : TI) (g : TG) (tt : TT) (wi1 : TI) (g1 : TG) (tt1 : TT) (tk tv : TE) (vs vs1 : List Nat) : TE := fun σ H Q => wi σ H fun J H1 => ∀ D, H1 D = none → ∃ W : Nat → Nat → Hp → Prop, (∃ m, W 0 m (upd H1 D (.dT []))) ∧ ∀ i m H, W i m H →
  (J.stop i H ∧ Q (.ref D) H) ∨ (J.go i H ∧ ∃ Nx : Hp → Prop, (∀ H', Nx H' → ∃ m', m' < m ∧ W (i + 1) m' H') ∧ ∀ x H', J.yld i H x H' → g x (wipe σ vs) H' fun σ2 H2 => wipe σ2 vs = wipe σ vs ∧ tt σ2 H2 fun b H3 =>
    if b = true then wi1 σ2 H3 fun J1 H4 => ∃ W1 : Nat → Nat → Hp → Prop, (∃ m, W1 0 m H4) ∧ ∀ j k H, W1 j k H →
      (J1.stop j H ∧ Nx H) ∨ (J1.go j H ∧ ∃ Nx1 : Hp → Prop, (∀ H', Nx1 H' → ∃ k', k' < k ∧ W1 (j + 1) k' H') ∧ ∀ x H', J1.yld j H x H' → g1 x (wipe σ2 vs1) H' fun σ3 H5 => wipe σ3 vs1 = wipe σ2 vs1 ∧ tt1 σ3 H5 fun b H6 =>
        if b = true then tk σ3 H6 fun y H7 => tv σ3 H7 fun z H8 => ∃ p kvs k, y = .ref p ∧ H8 p = some (.tup (k.map kV)) ∧ H8 D = some (.dT kvs) ∧ kvs.length < sizeLine ∧ Nx1 (upd H8 D (.dT (putK kvs k z))) else Nx1 H6)
    else Nx H3)
theorem dc2_core (hu : X.A.units + 1 < cLine) {pins : List (Addr × Obj)} {s : Shared} {σ : L2.St} {H : Hp} {Q : VK} {kx vx tg iter tg1 iter1 : Expr} {ifs ifs1 : List Expr} {scope : Scope} {own : List (Str × Nat)} {vs1 : List Nat} {pos pos' : Pos} {wi wi1 : TI} {g g1 : TG} {tt tt1 : TT} {tk tv : TE} {use : Option (Value → Sem Unit)} {Qf : Value → Shared → Prop}
    (hc : X.calm = true) (hN : X.N.Nodup) (I : Inv X pins σ H s) (hi : PI X tg iter wi) (ok : BlkOk X.N X.env.scope scope own) (hv : ∀ i ∈ vs1, i ∈ own.map (·.2))
    (hg : ∀ (s : Shared) (H : Hp) (C : Addr) (cl : List (Str × Addr)) (fp : List Addr), PG (X.blk s H scope (compEnvC scope cl C X.env) fp) tg g) (ht : ∀ (s : Shared) (H : Hp) (C : Addr) (cl : List (Str × Addr)) (fp : List Addr), PTs (X.blk s H scope (compEnvC scope cl C X.env) fp) ifs tt)
    (hk : ∀ (s : Shared) (H : Hp) (C : Addr) (cl : List (Str × Addr)) (fp : List Addr), PE (X.blk s H scope (compEnvC scope cl C X.env) fp) kx tk)
    (he : ∀ (s : Shared) (H : Hp) (C : Addr) (cl : List (Str × Addr)) (fp : List Addr), PE (X.blk s H scope (compEnvC scope cl C X.env) fp) vx tv) (hs : ∀ x, foldedSetIterable iter X.env x = pure x)
    (hi1 : ∀ (s : Shared) (H : Hp) (C : Addr) (cl : List (Str × Addr)) (fp : List Addr), PI (X.blk s H scope (compEnvC scope cl C X.env) fp) tg1 iter1 wi1)
    (hg1 : ∀ (s : Shared) (H : Hp) (C : Addr) (cl : List (Str × Addr)) (fp : List Addr), PG (X.blk s H scope (compEnvC scope cl C X.env) fp) tg1 g1)
    (ht1 : ∀ (s : Shared) (H : Hp) (C : Addr) (cl : List (Str × Addr)) (fp : List Addr), PTs (X.blk s H scope (compEnvC scope cl C X.env) fp) ifs1 tt1)
    (hs1 : ∀ env x, foldedSetIterable iter1 env x = pure x)
    (h : tDc2 wi g tt wi1 g1 tt1 tk tv (own.map (·.2)) vs1 σ H Q)
    (hRR : ∀ D C s' m H', Inv X pins σ H' s' → Q (.ref D) H' → s'.heap.Ns C m → FpOk X pins H' C → compPost (model X.prog X.w) X.A X.xe use Qf (.ref D) C (.ok .next) s') :
    wpAny (model X.prog X.w) X.A (comprehension (.DictComp kx vx [⟨tg, iter, ifs, 0⟩, ⟨tg1, iter1, ifs1, 0⟩] scope pos) scope X.env pos' (newDict) false (eval iter X.env) use) Qf X.xe s := by
  have hfree : ∀ y ∈ scope.names, y.2 = .free → ∃ c, X.env.cells.lookup y.1 = some c := fun y hy e => by
    rcases ok.free y hy e with k | k
    · exact I.ok.has _ (.inl k)
    · exact I.ok.has _ (.inr k)
  refine wpAny_comprehension_free (use := use) rfl hs (closure_ok hfree) ok.kind (fun y hy e => by rw [ok.uniq y hy, e])
    (thn (hi.run pins s σ H _ I h) fun xv s1 hx => thn hx fun itv s2 h2 => ?_)
  obtain ⟨it, fp, tn, J, H2, e, I2, T, st2, f2, q⟩ := h2
  subst e
  refine wpAny_newObj_type (newEnv_comp ?_)
  generalize hD : s2.heap.objs.size = D
  have hDn : H2 D = none := I2.hok.fresh (Nat.le_of_eq hD)
  obtain ⟨W, ⟨m0, w0⟩, turn⟩ := q D hDn
  -- the new list
  generalize hs3 : ({ s2 with heap := s2.heap.push { cls := .type "dict", data := .dict #[] } } : Shared) = s3
  have I3 : Inv X pins σ (upd H2 D (.dT [])) s3 := by
    rw [← hs3]
    refine I2.laid (t' := s2.toks) (fun b o e => Heap.get?_push_of_some _ e) (Nat.le_of_eq hD) ?_
    rw [← hD]
    exact dt_empty s2.heap I2.big
  have h3 : s3.heap = s2.heap.push { cls := .type "dict", data := .dict #[] } := by rw [← hs3]
  have sz : ∀ b ∈ fp, b < s2.heap.objs.size := fun b hb => by
    obtain ⟨o, e, _⟩ := T.obj _ _ st2 b hb
    exact Heap.lt_size e
  have f3 : ∀ b ∈ fp, FpOk X pins (upd H2 D (.dT [])) b ∧ b < s3.heap.objs.size := fun b hb => by
    have hlt := sz b hb
    refine ⟨⟨?_, (f2 b hb).2⟩, by rw [h3, Heap.size_push]; exact Nat.lt_succ_of_lt hlt⟩
    rw [upd_ne (by rw [← hD]; exact Nat.ne_of_lt hlt)]
    exact (f2 b hb).1
  have st3 : tn 0 s3.heap := T.keep _ _ _ st2 fun b _ o e => by rw [h3]; exact Heap.get?_push_of_some _ e
  have I4 := block_start I3 ok hN f3
  have pg := hg s3 (upd H2 D (.dT [])) s3.heap.objs.size (cellsFrom (s3.heap.objs.size + 1) scope.names (cloFrom X.env.cells scope.names [])) fp
  have pt := ht s3 (upd H2 D (.dT [])) s3.heap.objs.size (cellsFrom (s3.heap.objs.size + 1) scope.names (cloFrom X.env.cells scope.names [])) fp
  have pe := he s3 (upd H2 D (.dT [])) s3.heap.objs.size (cellsFrom (s3.heap.objs.size + 1) scope.names (cloFrom X.env.cells scope.names [])) fp
  have pk := hk s3 (upd H2 D (.dT [])) s3.heap.objs.size (cellsFrom (s3.heap.objs.size + 1) scope.names (cloFrom X.env.cells scope.names [])) fp
  have pi1 := hi1 s3 (upd H2 D (.dT [])) s3.heap.objs.size (cellsFrom (s3.heap.objs.size + 1) scope.names (cloFrom X.env.cells scope.names [])) fp
  have pg1 := hg1 s3 (upd H2 D (.dT [])) s3.heap.objs.size (cellsFrom (s3.heap.objs.size + 1) scope.names (cloFrom X.env.cells scope.names [])) fp
  have pt1 := ht1 s3 (upd H2 D (.dT [])) s3.heap.objs.size (cellsFrom (s3.heap.objs.size + 1) scope.names (cloFrom X.env.cells scope.names [])) fp
  show codeAny _ _ (.compStart (.DictComp kx vx [⟨tg, iter, ifs, 0⟩, ⟨tg1, iter1, ifs1, 0⟩] scope pos) 0 (.ref it) (.ref D) (compEnvC scope (cellsFrom (s3.heap.objs.size + 1) scope.names (cloFrom X.env.cells scope.names [])) s3.heap.objs.size X.env)) (compPost (model X.prog X.w) X.A X.xe use Qf (.ref D) s3.heap.objs.size) { s3 with heap := pushCells (s3.heap.push { cls := .type "dict", data := .dict #[] }) scope.names }
  have nfp : ∀ b ∈ fp, (upd H2 D (.dT [])) b = none := fun b hb => (f3 b hb).1.1
  generalize hce : compEnvC scope (cellsFrom (s3.heap.objs.size + 1) scope.names (cloFrom X.env.cells scope.names [])) s3.heap.objs.size X.env = ce at I4 pg pt pk pe pi1 pg1 pt1 ⊢
  have cL : ce.locals = s3.heap.objs.size := by subst hce; rfl
  generalize hH3 : upd H2 D (.dT []) = H3 at I3 I4 pg pt pk pe pi1 pg1 pt1 w0 nfp f3
  generalize hs4 : ({ s3 with heap := pushCells (s3.heap.push { cls := .type "dict", data := .dict #[] }) scope.names } : Shared) = s4 at I4 ⊢
  have st4 : tn 0 s4.heap := T.keep _ _ _ st3 fun b _ o e => by rw [← hs4]; exact pushCells_keeps _ _ _ _ (Heap.get?_push_of_some _ e)
  have stat : ∀ {σ' : L2.St} {H' : Hp} {s' : Shared}, Inv (X.blk s3 H3 scope ce fp) [] σ' H' s' → (∀ b ∈ fp, H' b = none) → ∀ b ∈ fp, FpOk (X.blk s3 H3 scope ce fp) [] H' b := fun {σ' H' s'} I' hn b hb =>
    ⟨hn b hb, (I'.ok.exf b hb).1, I'.ok.exfs b hb, .inl hb, fun x c e => (I'.ok.exf b hb).2 x c e, fun p hp => absurd (show p ∈ ([] : List (Addr × Obj)) ++ [] from hp) (by simp)⟩
  have loop : codeAny (model X.prog X.w) X.A (.compLoop (.DictComp kx vx [⟨tg, iter, ifs, 0⟩, ⟨tg1, iter1, ifs1, 0⟩] scope pos) 0 (.ref it) (.ref D) ce) (compPost (model X.prog X.w) X.A X.xe use Qf (.ref D) s3.heap.objs.size) s4 := by
    refine compLoop2_outD (hs1 ce) (fun n s' => ∃ i H', Inv (X.blk s3 H3 scope ce fp) [] (wipe σ (own.map (·.2))) H' s' ∧ tn i s'.heap ∧ (∀ b ∈ fp, H' b = none) ∧ W i n H') ?_ m0 ⟨0, H3, I4, st4, nfp, w0⟩
    rintro n s5 ⟨i, H5, I5, st5, n5, w5⟩
    rcases turn i n H5 w5 with ⟨stop, qq⟩ | ⟨go, Nx, hNx, step⟩
    · have td := T.done (X.blk s3 H3 scope ce fp) rfl rfl rfl hc i [] s5 _ H5 (fun _ _ => False) I5 (stat I5 n5) st5 stop
      refine thnF td fun r s6 ⟨hr, I6⟩ => ?_
      subst hr
      -- back in the def's context
      have I7 : Inv X pins σ H5 s6 := I3.call' (ch := fp) I6.os I6.base I6.hok I6.bare fun b hb => ⟨(f3 b hb).1.2.2.2.1, (f3 b hb).1.2.1, (f3 b hb).1.2.2.2.2.1, (f3 b hb).1.2.2.2.2.2⟩
      have nC : H5 s3.heap.objs.size = none := by
        have z : H5 ce.locals = none := I6.free
        rw [cL] at z
        exact z
      obtain ⟨m, hn, _⟩ := I6.loc
      have hn : s6.heap.Ns ce.locals m := hn
      rw [cL] at hn
      exact hRR D s3.heap.objs.size s6 m H5 I7 qq hn (I3.fpOk (Nat.le_refl _) nC)
    · have ti := T.item (X.blk s3 H3 scope ce fp) rfl rfl rfl hc i [] s5 _ H5 (fun _ _ => False) I5 (stat I5 n5) st5 go
      refine thnF ti fun r s6 ⟨u, hr, h6⟩ => ?_
      subst hr
      refine thnF h6 fun _ s7 ⟨x, H7, I7, r7, y7, st7, n7⟩ => ?_
      have I7' := I7.pinned (stat I7 n7) (T.obj _ _ st7)
      refine thnF (pg.run _ s7 _ H7 x u _ I7' r7 (step x H7 y7)) fun _ s8 ⟨σ8, H8, I8, hw8, q8⟩ => ?_
      refine thnF (pt.run _ s8 σ8 H8 _ I8 q8) fun b s9 ⟨H9, I9, q9⟩ => ?_
      -- the turn's end, from any slots that know what the block knew at its start
      have fin : ∀ {σ9 : L2.St} {s' : Shared} {H' : Hp}, Inv (X.blk s3 H3 scope ce fp) ([] ++ pinsAt fp s7.heap) σ9 H' s' → (wipe σ (own.map (·.2))).length = σ9.length → (∀ (j : Nat) v, (wipe σ (own.map (·.2)))[j]? = some (some v) → σ9[j]? = some (some v)) → Nx H' →
          ∃ m, m < n ∧ ∃ i H', Inv (X.blk s3 H3 scope ce fp) [] (wipe σ (own.map (·.2))) H' s' ∧ tn i s'.heap ∧ (∀ b ∈ fp, H' b = none) ∧ W i m H' := fun {σ9 s' H'} I' hl hk nx => by
        obtain ⟨m', hm, w'⟩ := hNx H' nx
        have pin' : ∀ b ∈ fp, ∀ o, s7.heap.get? b = some o → s'.heap.get? b = some o ∧ H' b = none := fun b hb o e =>
          let z := I'.pin (b, o) (List.mem_append_right _ (List.mem_append_right _ (mem_pinsAt hb e)))
          ⟨z.1, z.2.1⟩
        refine ⟨m', hm, i + 1, H', (I'.unpinned (pins := [])).weak hl hk, T.keep _ _ _ st7 fun b hb o e => (pin' b hb o e).1, fun b hb => ?_, w'⟩
        obtain ⟨o, e, _⟩ := T.obj _ _ st7 b hb
        exact (pin' b hb o e).2
      have hl8 : (wipe σ (own.map (·.2))).length = σ8.length := by rw [← hw8, wipe_length]
      have hk8 : ∀ (j : Nat) v, (wipe σ (own.map (·.2)))[j]? = some (some v) → σ8[j]? = some (some v) := fun j v e => by
        rw [← hw8] at e
        exact (wipe_some e).1
      have hk9 : ∀ (j : Nat) v, (wipe σ (own.map (·.2)))[j]? = some (some v) → (wipe σ8 vs1)[j]? = some (some v) := fun j v e => by
        rw [← hw8] at e
        obtain ⟨e1, e2⟩ := wipe_some e
        rw [wipe_out fun z => e2 (hv j z)]
        exact e1
      cases b with
      | false =>
        simp only [Bool.false_eq_true, if_false] at q9 ⊢
        exact fin I9 hl8 hk8 q9
      | true =>
        simp only [if_true] at q9 ⊢
        refine thnF (pi1.run _ s9 σ8 H9 _ I9 q9) fun xv s10 hx => thnF hx fun itv s11 h11 => ?_
        obtain ⟨it1, fp1, tn1, J1, H11, e1, I11, T1, st11, f11, W1, ⟨m1, w1⟩, turn1⟩ := h11
        subst e1
        -- the inner loop
        have stat1 : ∀ {H' : Hp}, (∀ b ∈ fp1, H' b = none) → ∀ b ∈ fp1, FpOk (X.blk s3 H3 scope ce fp) ([] ++ pinsAt fp s7.heap) H' b := fun hn b hb => ⟨hn b hb, (f11 b hb).2⟩
        have loop1 : codeAny (model X.prog X.w) X.A (.compLoop (.DictComp kx vx [⟨tg, iter, ifs, 0⟩, ⟨tg1, iter1, ifs1, 0⟩] scope pos) 1 (.ref it1) (.ref D) ce)
            (fun r s' => match r with
              | .ok _ => ∃ m, m < n ∧ ∃ i H', Inv (X.blk s3 H3 scope ce fp) [] (wipe σ (own.map (·.2))) H' s' ∧ tn i s'.heap ∧ (∀ b ∈ fp, H' b = none) ∧ W i m H'
              | .error _ => False) s11 := by
          refine compLoop2_inD (fun k s' => ∃ j H', Inv (X.blk s3 H3 scope ce fp) ([] ++ pinsAt fp s7.heap) (wipe σ8 vs1) H' s' ∧ tn1 j s'.heap ∧ (∀ b ∈ fp1, H' b = none) ∧ W1 j k H') ?_ m1 ⟨0, H11, I11.weak (wipe_length _ _) (fun j v e => (wipe_some e).1), st11, fun b hb => (f11 b hb).1, w1⟩
          rintro k s12 ⟨j, H12, I12, st12, n12, w12⟩
          rcases turn1 j k H12 w12 with ⟨stop1, nx1⟩ | ⟨go1, Nx1, hNx1, step1⟩
          · refine thnF (T1.done (X.blk s3 H3 scope ce fp) rfl rfl rfl hc j _ s12 (wipe σ8 vs1) H12 (fun _ _ => False) I12 (stat1 n12) st12 stop1) fun r s13 ⟨hr, I13⟩ => ?_
            subst hr
            exact fin I13 (hl8.trans (wipe_length σ8 vs1).symm) hk9 nx1
          · refine thnF (T1.item (X.blk s3 H3 scope ce fp) rfl rfl rfl hc j _ s12 (wipe σ8 vs1) H12 (fun _ _ => False) I12 (stat1 n12) st12 go1) fun r s13 ⟨u1, hr, h13⟩ => ?_
            subst hr
            refine thnF h13 fun _ s14 ⟨x1, H14, I14, r14, y14, st14, n14⟩ => ?_
            have I14' := I14.pinned (stat1 n14) (T1.obj _ _ st14)
            refine thnF (pg1.run _ s14 (wipe σ8 vs1) H14 x1 u1 _ I14' r14 (step1 x1 H14 y14)) fun _ s15 ⟨σ15, H15, I15, hw15, q15⟩ => ?_
            refine thnF (pt1.run _ s15 σ15 H15 _ I15 q15) fun b1 s16 ⟨H16, I16, q16⟩ => ?_
            have fin1 : ∀ {s' : Shared} {H' : Hp}, Inv (X.blk s3 H3 scope ce fp) (([] ++ pinsAt fp s7.heap) ++ pinsAt fp1 s14.heap) σ15 H' s' → Nx1 H' → ∃ m, m < k ∧ ∃ j H', Inv (X.blk s3 H3 scope ce fp) ([] ++ pinsAt fp s7.heap) (wipe σ8 vs1) H' s' ∧ tn1 j s'.heap ∧ (∀ b ∈ fp1, H' b = none) ∧ W1 j m H' := fun {s' H'} I' nx => by
              obtain ⟨m', hm, w'⟩ := hNx1 H' nx
              have pin' : ∀ b ∈ fp1, ∀ o, s14.heap.get? b = some o → s'.heap.get? b = some o ∧ H' b = none := fun b hb o e =>
                let z := I'.pin (b, o) (List.mem_append_right _ (List.mem_append_right _ (mem_pinsAt hb e)))
                ⟨z.1, z.2.1⟩
              refine ⟨m', hm, j + 1, H', I'.unpinned.weak (by rw [← hw15, wipe_length]) (fun j v e => by rw [← hw15] at e; exact (wipe_some e).1), T1.keep _ _ _ st14 fun b hb o e => (pin' b hb o e).1, fun b hb => ?_, w'⟩
              obtain ⟨o, e, _⟩ := T1.obj _ _ st14 b hb
              exact (pin' b hb o e).2
            cases b1 with
            | false =>
              simp only [Bool.false_eq_true, if_false] at q16 ⊢
              exact fin1 I16 q16
            | true =>
              simp only [if_true] at q16 ⊢
              refine thnF (pk.run _ s16 σ15 H16 _ I16 q16) fun zk s17 ⟨yk, H17, I17, r17, q17⟩ => ?_
              refine thnF (pe.run _ s17 σ15 H17 _ I17 q17) fun z s18 ⟨yv, H18, I18, r18, p, kvs, k, ek, hp18, hD18, hz18, nx⟩ => ?_
              subst ek
              exact d_dictSetT (X := X.blk s3 H3 scope ce fp) hu I18 hD18 hp18 hz18 r17 r18 fun s19 I19 => fin1 I19 nx
        exact compStart1_okD loop1 (T1.self X.A 0 _ _ _ st11 loop1)
  exact codeAny_compStart_dict loop (T.self X.A 0 _ _ _ st4 loop)
theorem pe_dc2 (hu : X.A.units + 1 < cLine) {kx vx tg iter tg1 iter1 : Expr} {ifs ifs1 : List Expr} {scope : Scope} {own : List (Str × Nat)} {vs1 : List Nat} {pos : Pos} {wi wi1 : TI} {g g1 : TG} {tt tt1 : TT} {tk tv : TE} (hc : X.calm = true) (hN : X.N.Nodup) (hi : PI X tg iter wi) (ok : BlkOk X.N X.env.scope scope own) (hv : ∀ i ∈ vs1, i ∈ own.map (·.2))
    (hg : ∀ (s : Shared) (H : Hp) (C : Addr) (cl : List (Str × Addr)) (fp : List Addr), PG (X.blk s H scope (compEnvC scope cl C X.env) fp) tg g) (ht : ∀ (s : Shared) (H : Hp) (C : Addr) (cl : List (Str × Addr)) (fp : List Addr), PTs (X.blk s H scope (compEnvC scope cl C X.env) fp) ifs tt)
    (hi1 : ∀ (s : Shared) (H : Hp) (C : Addr) (cl : List (Str × Addr)) (fp : List Addr), PI (X.blk s H scope (compEnvC scope cl C X.env) fp) tg1 iter1 wi1)
    (hg1 : ∀ (s : Shared) (H : Hp) (C : Addr) (cl : List (Str × Addr)) (fp : List Addr), PG (X.blk s H scope (compEnvC scope cl C X.env) fp) tg1 g1) (ht1 : ∀ (s : Shared) (H : Hp) (C : Addr) (cl : List (Str × Addr)) (fp : List Addr), PTs (X.blk s H scope (compEnvC scope cl C X.env) fp) ifs1 tt1)
    (hk : ∀ (s : Shared) (H : Hp) (C : Addr) (cl : List (Str × Addr)) (fp : List Addr), PE (X.blk s H scope (compEnvC scope cl C X.env) fp) kx tk)
    (he : ∀ (s : Shared) (H : Hp) (C : Addr) (cl : List (Str × Addr)) (fp : List Addr), PE (X.blk s H scope (compEnvC scope cl C X.env) fp) vx tv) (hs : ∀ x, foldedSetIterable iter X.env x = pure x := by intro _; rfl) (hs1 : ∀ env x, foldedSetIterable iter1 env x = pure x := by intro _ _; rfl) :
    PE X (.DictComp kx vx [⟨tg, iter, ifs, 0⟩, ⟨tg1, iter1, ifs1, 0⟩] scope pos) (tDc2 wi g tt wi1 g1 tt1 tk tv (own.map (·.2)) vs1) := by
  refine ⟨fun pins s σ H Q I h => ?_⟩
  rw [arm_eval_DictComp]
  refine dc2_core hu hc hN I hi ok hv hg ht hk he hs hi1 hg1 ht1 hs1 h fun D C s' m H' I' q hn f => ⟨m, hn, fun h'' sb => ?_⟩
  obtain ⟨f0, f1, f2, f3, f4, f5⟩ := f
  exact ⟨.ref D, H', I'.turned (t' := s'.toks) (fun b o hb e => (sb.2 b hb).trans e) f0 f1 f3 f4 f5, rfl, q⟩
end
end DcX
end
section
set_option Elab.async false
set_option linter.all false
set_option maxRecDepth 100000
set_option maxHeartbeats 4000000
namespace Gp
open PySem PySem.Spec PyProof.Rows L2 Gh DcX
abbrev KP := List (List Key × D)
def dcIn (mk mv : D → D → Tr D) : List D → KP → Tr KP
  | [], ps => .ok ps
  | d :: ds, ps => un2 d fun x y => bd (nox (mk x y)) fun a => bd (nox (mv x y)) fun c => match key2 a with
    | some kk => if ps.length < sizeLine then dcIn mk mv ds (putP ps kk c) else .bad
    | none => .bad
def dcOut (fi : D → D → Tr (List D)) (mk mv : D → D → D → D → Tr D) : List D → KP → Tr KP
  | [], ps => .ok ps
  | d :: ds, ps => un2 d fun q r => bd (nox (fi q r)) fun rs => bd (dcIn (mk q r) (mv q r) rs ps) fun ps' => dcOut fi mk mv ds ps'
theorem wipe_get {σ : L2.St} {j : Nat} : ∀ {vs : List Nat}, (wipe σ vs)[j]? = if j ∈ vs then (σ[j]?).map (fun _ => none) else σ[j]?
  | [] => by simp [wipe]
  | v :: vs => by
    unfold wipe
    by_cases e : v = j
    · subst e
      rw [if_pos List.mem_cons_self]
      cases h : (wipe σ vs)[v]? with
      | none =>
        rw [List.getElem?_set_self', h]
        have h2 := h
        rw [wipe_get] at h2
        split at h2
        · cases q : σ[v]? with
          | none => rfl
          | some w => rw [q] at h2; cases h2
        · rw [h2]; rfl
      | some w =>
        rw [List.getElem?_set_self', h]
        have h2 := h
        rw [wipe_get] at h2
        split at h2
        · cases q : σ[v]? with
          | none => rw [q] at h2; cases h2
          | some w => rfl
        · rw [h2]; rfl
    · rw [List.getElem?_set_ne e, wipe_get]
      by_cases m : j ∈ vs
      · rw [if_pos m, if_pos (List.mem_cons_of_mem _ m)]
      · rw [if_neg m, if_neg (fun z => (List.mem_cons.mp z).elim (fun z => e z.symm) m)]
theorem wipe_set {σ : L2.St} {i : Nat} {x : Option V} {vs : List Nat} (h : i ∈ vs) : wipe (σ.set i x) vs = wipe σ vs := by
  apply List.ext_getElem?
  intro j
  rw [wipe_get, wipe_get]
  by_cases m : j ∈ vs
  · rw [if_pos m, if_pos m]
    by_cases e : i = j
    · subst e
      rw [List.getElem?_set_self']
      cases σ[i]? <;> rfl
    · rw [List.getElem?_set_ne e]
  · have ne : i ≠ j := fun z => m (by subst z; exact h)
    rw [if_neg m, if_neg m, List.getElem?_set_ne ne]
theorem wipe_wipe {σ : L2.St} {vs : List Nat} : wipe (wipe σ vs) vs = wipe σ vs := by
  apply List.ext_getElem?
  intro j
  rw [wipe_get, wipe_get]
  by_cases m : j ∈ vs
  · rw [if_pos m, if_pos m, Option.map_map]
    rfl
  · rw [if_neg m, if_neg m]
theorem yes_t {σ : L2.St} {H : Hp} {P Q : Hp → Prop} (h : P H) : tYes σ H fun b H3 => if b = true then P H3 else Q H3 := by
  show (if true = true then P H else Q H)
  rw [if_pos rfl]
  exact h
section
variable {g : Gw} {U : Addr → Prop} {H : Hp} {b : Nat} {σ : L2.St} {ε : Env} {E : XK}
theorem rel_setN {j : Nat} {v : Option V} (r : Rel g U H σ ε) (hj : ε[j]? = some .no) : Rel g U H (σ.set j v) ε := by
  have hl : j < ε.length := (List.getElem?_eq_some_iff.mp hj).1
  have hs : j < σ.length := by rw [r.len]; exact hl
  have up : ∀ k a, OwnAt (σ.set j v) ε k a → OwnAt σ ε k a := fun k a ⟨z1, z2⟩ => by
    by_cases e : j = k
    · subst e
      rcases z2 with ⟨ds, z⟩ | ⟨c, fs, z⟩
      · rw [hj] at z; cases z
      · rw [hj] at z; cases z
    · rw [List.getElem?_set_ne e] at z1
      exact ⟨z1, z2⟩
  refine ⟨by rw [List.length_set]; exact r.len, fun k y e => ?_, fun k l a ne h1 h2 => r.apart k l a ne (up _ _ h1) (up _ _ h2)⟩
  by_cases ej : j = k
  · subst ej
    rw [hj] at e
    cases e
    exact ⟨v, by rw [List.getElem?_set_self hs], trivial⟩
  · rw [List.getElem?_set_ne ej]
    exact r.at_ k y e
theorem rel_wipe : ∀ {vs : List Nat}, Rel g U H σ ε → (∀ z ∈ vs, ε[z]? = some .no) → Rel g U H (wipe σ vs) ε
  | [], r, _ => r
  | v :: vs, r, h => rel_setN (rel_wipe r fun z hz => h z (List.mem_cons_of_mem _ hz)) (h v List.mem_cons_self)
theorem se_dc2 {wi wi1 : TI} {tk tv : TE} {i j k l : Nat} {vs : List Nat} {mi : Tr (List D)} {fi : D → D → Tr (List D)} {mk mv : D → D → D → D → Tr D}
    (hi : SI g E ε wi mi) (hin : ∀ q r, SI g EF ((ε.set i (.fz q)).set j (.fz r)) wi1 (fi q r))
    (hk : ∀ q r x y, SE g EF ((((ε.set i (.fz q)).set j (.fz r)).set k (.fz x)).set l (.fz y)) tk (mk q r x y)) (hv : ∀ q r x y, SE g EF ((((ε.set i (.fz q)).set j (.fz r)).set k (.fz x)).set l (.fz y)) tv (mv q r x y))
    (hno : ∀ z ∈ vs, ε[z]? = some .no) (iv : i ∈ vs := by decide) (jv : j ∈ vs := by decide) (kv : k ∈ vs := by decide) (lv : l ∈ vs := by decide) (ki : i ≠ k := by decide) (kj : j ≠ k := by decide) (li : i ≠ l := by decide) (lj : j ≠ l := by decide) :
    SE g E ε (tFz (tDc2 wi (gTup g.K 2 (gCons (gName i) (gCons (gName j) gNil))) tYes wi1 (gTup g.K 2 (gCons (gName k) (gCons (gName l) gNil))) tYes tk tv vs [k, l])) (bd mi fun ds => bd (dcOut fi mk mv ds []) fun ps => .ok (.dit ps)) := fun U σ H b Q rl wd u q => by
  refine hi U σ H b _ rl wd u ((al_bd.mp q).mono (fun ds b1 h1 J H1 hsz it w1 f1 => ?_) (fun _ _ _ h => h))
  intro A nA
  have u1 := u.fr f1 w1
  have nUA : ¬ U A := u1.new nA
  have hp : A ≠ g.p := fun z => nUA (z ▸ u.p)
  have hc : A ≠ g.c := fun z => nUA (z ▸ u.c)
  have rl1 := (rl.fr u f1).grow nA
  generalize hV : (fun a => U a ∨ a = A) = V at rl1
  have VA : V A := by rw [← hV]; exact .inr rfl
  have VU : ∀ a, U a → V a := fun a z => by rw [← hV]; exact .inl z
  have VO : ∀ a o, H1 a = some o → ¬ U a → ¬ V a := fun a o e n => by
    rw [← hV]
    rintro (z | z)
    · exact n z
    · exact ne_of_none e nA z
  have uv : ∀ {H' : Hp} {b : Nat} {o : List (List Key × L2.V)}, Fr H1 H' g.p → Wd g H' b → H' A = some (.dT o) → UOk g V H' := fun f w h => ⟨VU _ u.p, VU _ u.c, fun a ha => by
    rw [← hV] at ha
    rcases ha with ha | rfl
    · exact (u1.fr f w).al a ha
    · exact ⟨_, h, (fun _ z => by cases z), (fun _ z => by cases z)⟩⟩
  have rw0 : ∀ {H' : Hp}, Fr H1 H' g.p → Rel g V H' (wipe σ vs) ε := fun f => rel_wipe (rl1.frp (VU _ u.p) f) hno
  refine ⟨fun i' m H' => ∃ (b' : Nat) (ps : KP) (kvs : List (List Key × L2.V)), m = ds.length - i' ∧ i' ≤ ds.length ∧ H' A = some (.dT kvs) ∧ kvs.map (·.1) = ps.map (·.1) ∧ DenL g V H' (kvs.map (·.2)) (ps.map (·.2)) ∧ Wd g H' b' ∧ Fr H1 H' g.p ∧ Al (fun r b => okP g U H Q (.dit r) b) (exP g U E H) (dcOut fi mk mv (ds.drop i') ps) b',
    ⟨ds.length, b1, [], [], by simp, Nat.zero_le _, upd_same, rfl, .nil, w1.same (same_new nA), fr_same (same_new nA), (al_bd.mp h1).mono (fun r b h => h) (fun _ _ _ h => h)⟩, ?_⟩
  rintro i' m H' ⟨b', ps, kvs, rfl, hle, hA, ek, dl, w', f', q'⟩
  have u' := uv f' w' hA
  have ev' : Ev U H1 V H' := ⟨fun a o e n t => f' a o e (fun z => n (z ▸ u.p)) t, fun a o e n _ => VO a o e n⟩
  obtain ⟨it1, it2⟩ := it i' V H' b' ev' w' u'
  by_cases hlt : i' < ds.length
  · have ei : ds[i']? = some ds[i'] := List.getElem?_eq_getElem hlt
    obtain ⟨go, y⟩ := it1 _ ei
    rw [List.drop_eq_getElem_cons hlt, dcOut] at q'
    refine .inr ⟨go, fun H' => ∃ (b' : Nat) (ps : KP) (kvs : List (List Key × L2.V)), H' A = some (.dT kvs) ∧ kvs.map (·.1) = ps.map (·.1) ∧ DenL g V H' (kvs.map (·.2)) (ps.map (·.2)) ∧ Wd g H' b' ∧ Fr H1 H' g.p ∧ Al (fun r b => okP g U H Q (.dit r) b) (exP g U E H) (dcOut fi mk mv (ds.drop (i' + 1)) ps) b', ?_, ?_⟩
    · rintro H2 ⟨b2, ps2, kvs2, h⟩
      exact ⟨ds.length - (i' + 1), by omega, b2, ps2, kvs2, rfl, hlt, h⟩
    · intro x H2 hy
      obtain ⟨dn, sm⟩ := y x H2 hy
      have w2 := w'.same sm
      have f2 : Fr H1 H2 g.p := f'.trans (fr_same sm)
      have hA2 := sm _ _ hA
      obtain ⟨qd, rd, edr, q1⟩ := al_un2 q'
      rw [edr] at dn
      obtain ⟨a, xs, rfl, sq, _, kk⟩ := den_tup dn
      obtain ⟨v1, v2, rfl, e1, e2⟩ := denL_2 kk
      refine ⟨a, [v1, v2], rfl, sq, rfl, v1, [v2], rfl, v2, [], rfl, rfl, ?_, ?_⟩
      · rw [wipe_set jv, wipe_set iv, wipe_wipe]
      · refine yes_t ?_
        have rl2 : Rel g V H2 (((wipe σ vs).set i (some v1)).set j (some v2)) ((ε.set i (.fz qd)).set j (.fz rd)) := ((rw0 f2).set i e1).set j e2
        refine hin qd rd V _ H2 b' _ rl2 w2 (uv f2 w2 hA2) ((al_noX (al_bd.mp q1)).mono (fun rs b2 h2 J1 H4 hsz1 jt w4 f4 => ?_) (fun _ _ _ z => exP.F z))
        have hA4 : H4 A = some (.dT kvs) := f4 _ _ hA2 hp (fun _ z => by cases z)
        have x24 : ExtU V H2 H4 := extU_of (VU _ u.p) f4
        have dl4 : DenL g V H4 (kvs.map (·.2)) (ps.map (·.2)) := dl.ext (extU_of (VU _ u.p) ((fr_same sm).trans f4))
        refine ⟨fun jj m H' => ∃ (b' : Nat) (ps : KP) (kvs : List (List Key × L2.V)), m = rs.length - jj ∧ jj ≤ rs.length ∧ H' A = some (.dT kvs) ∧ kvs.map (·.1) = ps.map (·.1) ∧ DenL g V H' (kvs.map (·.2)) (ps.map (·.2)) ∧ Wd g H' b' ∧ Fr H1 H' g.p ∧ Ev V H4 V H' ∧ Al (fun ps' b => Al (fun r b => okP g U H Q (.dit r) b) (exP g U E H) (dcOut fi mk mv (ds.drop (i' + 1)) ps') b) (exP g U E H) (dcIn (mk qd rd) (mv qd rd) (rs.drop jj) ps) b',
          ⟨rs.length, b2, ps, kvs, by simp, Nat.zero_le _, hA4, ek, dl4, w4, f2.trans f4, Ev.refl, al_bd.mp h2⟩, ?_⟩
        rintro jj m H5 ⟨b5, ps5, kvs5, rfl, hle5, hA5, ek5, dl5, w5, f5, ev5, q5⟩
        have u5 := uv f5 w5 hA5
        obtain ⟨jt1, jt2⟩ := jt jj V H5 b5 ev5 w5 u5
        by_cases hlt5 : jj < rs.length
        · have ej : rs[jj]? = some rs[jj] := List.getElem?_eq_getElem hlt5
          obtain ⟨go5, y5⟩ := jt1 _ ej
          rw [List.drop_eq_getElem_cons hlt5, dcIn] at q5
          refine .inr ⟨go5, fun H' => ∃ (b' : Nat) (ps : KP) (kvs : List (List Key × L2.V)), H' A = some (.dT kvs) ∧ kvs.map (·.1) = ps.map (·.1) ∧ DenL g V H' (kvs.map (·.2)) (ps.map (·.2)) ∧ Wd g H' b' ∧ Fr H1 H' g.p ∧ Ev V H4 V H' ∧ Al (fun ps' b => Al (fun r b => okP g U H Q (.dit r) b) (exP g U E H) (dcOut fi mk mv (ds.drop (i' + 1)) ps') b) (exP g U E H) (dcIn (mk qd rd) (mv qd rd) (rs.drop (jj + 1)) ps) b', ?_, ?_⟩
          · rintro H6 ⟨b6, ps6, kvs6, h⟩
            exact ⟨rs.length - (jj + 1), by omega, b6, ps6, kvs6, rfl, hlt5, h⟩
          · intro x6 H6 hy6
            obtain ⟨dn6, sm6⟩ := y5 x6 H6 hy6
            have w6 := w5.same sm6
            have f6 : Fr H1 H6 g.p := f5.trans (fr_same sm6)
            have hA6 := sm6 _ _ hA5
            have u6 := uv f6 w6 hA6
            have x26 : ExtU V H2 H6 := fun a o e n t => sm6 _ _ (ev5.keep a o (x24 a o e n t) n t)
            obtain ⟨xd, yd, exy, q6⟩ := al_un2 q5
            rw [exy] at dn6
            obtain ⟨a6, xs6, rfl, sq6, _, kk6⟩ := den_tup dn6
            obtain ⟨v3, v4, rfl, e3, e4⟩ := denL_2 kk6
            refine ⟨a6, [v3, v4], rfl, sq6, rfl, v3, [v4], rfl, v4, [], rfl, rfl, ?_, ?_⟩
            · rw [wipe_set (by simp), wipe_set (by simp), wipe_wipe]
            · refine yes_t ?_
              have rl26 : Rel g V H6 (((wipe σ vs).set i (some v1)).set j (some v2)) ((ε.set i (.fz qd)).set j (.fz rd)) := ((rw0 f6).set i (e1.ext x26)).set j (e2.ext x26)
              have hno2 : ∀ z ∈ [k, l], ((ε.set i (.fz qd)).set j (.fz rd))[z]? = some .no := fun z hz => by
                rcases List.mem_cons.mp hz with rfl | hz
                · rw [List.getElem?_set_ne kj, List.getElem?_set_ne ki]; exact hno _ kv
                · rw [List.mem_singleton.mp hz, List.getElem?_set_ne lj, List.getElem?_set_ne li]; exact hno _ lv
              have rl6 : Rel g V H6 (((wipe (((wipe σ vs).set i (some v1)).set j (some v2)) [k, l]).set k (some v3)).set l (some v4)) ((((ε.set i (.fz qd)).set j (.fz rd)).set k (.fz xd)).set l (.fz yd)) := ((rel_wipe rl26 hno2).set k e3).set l e4
              refine hk qd rd xd yd V _ H6 b5 _ rl6 w6 u6 ((al_noX (al_bd.mp q6)).mono (fun ad b7 h7 v7 H7 d7 w7 f7 => ?_) (fun _ _ _ z => exP.F z))
              have u7 := u6.fr f7 w7
              refine hv qd rd xd yd V _ H7 b7 _ (rl6.frp (VU _ u.p) f7) w7 u7 ((al_noX (al_bd.mp h7)).mono (fun cd b8 h8 v8 H8 d8 w8 f8 => ?_) (fun _ _ _ z => exP.F z))
              cases zk : key2 ad with
              | none => rw [zk] at h8; exact h8.elim
              | some kk =>
                rw [zk] at h8
                dsimp only at h8
                split at h8
                · rename_i hl
                  obtain ⟨p, rfl, hp7, np⟩ := key_2 d7 zk
                  have hp8 : H8 p = some (.tup (kk.map kV)) := f8 _ _ hp7 (fun z => np (z ▸ VU _ u.p)) (fun _ z => by cases z)
                  have f68 : Fr H6 H8 g.p := f7.trans f8
                  have hA8 : H8 A = some (.dT kvs5) := f68 _ _ hA6 hp (fun _ z => by cases z)
                  have dl8 : DenL g V H8 (kvs5.map (·.2)) (ps5.map (·.2)) := dl5.ext (extU_of (VU _ u.p) ((fr_same sm6).trans f68))
                  obtain ⟨p1, p2⟩ := den_put kk d8 ek5 dl8
                  have x8 : ExtU V H8 (upd H8 A (.dT (putK kvs5 kk v8))) := fun a o e n _ => by
                    rw [upd_ne (fun z => n (by rw [z]; exact VA))]
                    exact e
                  have k8 : Gh.Keep H8 (upd H8 A (.dT (putK kvs5 kk v8))) A := fun a o e n => by rw [upd_ne n]; exact e
                  have ow : OwR g V H8 (.dT kvs5) (.d (.dit ps5)) := .t ek5 dl8
                  refine ⟨p, kvs5, kk, rfl, hp8, hA8, by rw [len_keys ek5]; exact hl, b8, putP ps5 kk cd, putK kvs5 kk v8, upd_same, p1, p2.ext x8, ⟨w8.pen.keep k8 hp hc, tabs_keepO k8 hA8 ow w8.tabs⟩, fun a o e n t => ?_, ⟨fun a o e n t => ?_, fun a o e n t => n⟩, h8⟩
                  · rw [upd_ne (ne_of_none e nA)]
                    exact f68 _ _ (f6 a o e n t) n t
                  · rw [upd_ne (fun z => n (by rw [z]; exact VA))]
                    exact f68 _ _ (sm6 _ _ (ev5.keep a o e n t)) (fun z => n (z ▸ VU _ u.p)) t
                · exact h8.elim
        · have e5 : jj = rs.length := by omega
          subst e5
          rw [List.drop_length] at q5
          exact .inl ⟨jt2 rfl, b5, ps5, kvs5, hA5, ek5, dl5, w5, f5, q5⟩
  · have e : i' = ds.length := by omega
    subst e
    rw [List.drop_length] at q'
    refine .inl ⟨it2 rfl, A, _, rfl, hA, trivial, fun od => ?_⟩
    have q2 : okP g U H Q (.dit ps) b' := q'
    have kp : Gh.Keep H' (upd H' A (.frz od (.dT kvs))) A := fun a o e n => by rw [upd_ne n]; exact e
    have xt : ExtU V H' (upd H' A (.frz od (.dT kvs))) := fun a o e n _ => kp a o e (fun z => n (by rw [z]; exact VA))
    have ow : OwR g V H' (.dT kvs) (.d (.dit ps)) := .t ek dl
    refine q2 _ _ (.dit upd_same nUA ek ((dl.ext xt).sub fun a _ z => VU a z)) ⟨w'.pen.keep kp hp hc, tabs_keepO kp hA ow w'.tabs⟩ fun a o e n t => ?_
    have h' := (f1.trans f') a o e n t
    by_cases z : a = A
    · subst z
      have := f1 _ _ e n t
      rw [nA] at this
      cases this
    · exact kp a o h' z
end
end Gp
end
section
set_option Elab.async false
set_option linter.all false
set_option maxRecDepth 100000
set_option maxHeartbeats 4000000
namespace Gp
open PySem PySem.Spec PyProof.Rows L2 Gh
variable {g : Gw} {E : XK}
def isBD (x y : D) : Tr D := match x, y with
  | .bl a, .bl b => .ok (.bl (decide (a = b)))
  | _, _ => .bad
theorem sr_isB : SR2 g E rIsB isBD := fun U H b x y dx dy Q d1 d2 w u q => by
  cases dx with
  | bl a =>
    cases dy with
    | bl c =>
      cases d1
      cases d2
      exact ⟨a, c, rfl, rfl, okP.here q w (.bl _)⟩
    | _ => exact q.elim
  | _ => exact q.elim
end Gp
end
section
set_option Elab.async false
set_option linter.all false
set_option maxRecDepth 100000
set_option maxHeartbeats 0
namespace Lw
open PySem PySem.Spec PyProof.Rows L2 Gh Gp
theorem ob_eq (s : PySem.W.SharedT) : ob s = hk.obs s.abs := Gp.obsL_eq (HandSHeadRun.getT_eq s)
structure Tx (K : PySem.W.Frag) (mg : Str → Option Value) : Prop where
  f_abs : mg "abs" = none
  f_all : mg "all" = none
  f_bool : mg "bool" = none
  f_enumerate : mg "enumerate" = none
  f_int : mg "int" = none
  f_isinstance : mg "isinstance" = none
  f_len : mg "len" = none
  f_list : mg "list" = none
  f_range : mg "range" = none
  f_repr : mg "repr" = none
  f_set : mg "set" = none
  f_sorted : mg "sorted" = none
  f_str : mg "str" = none
  f_tuple : mg "tuple" = none
  g__law_pen : mg "_law_pen" = some (.ref (gd "_law_pen" K))
  k__law_pen : PySem.W.keepIn K (.ref (gd "_law_pen" K)) = true
  g__law_draw : mg "_law_draw" = some (.ref (gd "_law_draw" K))
  k__law_draw : PySem.W.keepIn K (.ref (gd "_law_draw" K)) = true
  g_is_integer : mg "is_integer" = some (.ref (gd "is_integer" K))
  k_is_integer : PySem.W.keepIn K (.ref (gd "is_integer" K)) = true
  g_is_within : mg "is_within" = some (.ref (gd "is_within" K))
  k_is_within : PySem.W.keepIn K (.ref (gd "is_within" K)) = true
  g_is_length : mg "is_length" = some (.ref (gd "is_length" K))
  k_is_length : PySem.W.keepIn K (.ref (gd "is_length" K)) = true
  g_need_length : mg "need_length" = some (.ref (gd "need_length" K))
  k_need_length : PySem.W.keepIn K (.ref (gd "need_length" K)) = true
  g_need_place : mg "need_place" = some (.ref (gd "need_place" K))
  k_need_place : PySem.W.keepIn K (.ref (gd "need_place" K)) = true
  g_is_rest : mg "is_rest" = some (.ref (gd "is_rest" K))
  k_is_rest : PySem.W.keepIn K (.ref (gd "is_rest" K)) = true
  g_need_rest : mg "need_rest" = some (.ref (gd "need_rest" K))
  k_need_rest : PySem.W.keepIn K (.ref (gd "need_rest" K)) = true
  g_seat_at : mg "seat_at" = some (.ref (gd "seat_at" K))
  k_seat_at : PySem.W.keepIn K (.ref (gd "seat_at" K)) = true
  g_place_at : mg "place_at" = some (.ref (gd "place_at" K))
  k_place_at : PySem.W.keepIn K (.ref (gd "place_at" K)) = true
  g_is_offset : mg "is_offset" = some (.ref (gd "is_offset" K))
  k_is_offset : PySem.W.keepIn K (.ref (gd "is_offset" K)) = true
  g_is_pair_row : mg "is_pair_row" = some (.ref (gd "is_pair_row" K))
  k_is_pair_row : PySem.W.keepIn K (.ref (gd "is_pair_row" K)) = true
  g_is_mark_row : mg "is_mark_row" = some (.ref (gd "is_mark_row" K))
  k_is_mark_row : PySem.W.keepIn K (.ref (gd "is_mark_row" K)) = true
  g_are_marks : mg "are_marks" = some (.ref (gd "are_marks" K))
  k_are_marks : PySem.W.keepIn K (.ref (gd "are_marks" K)) = true
  g_is_shift : mg "is_shift" = some (.ref (gd "is_shift" K))
  k_is_shift : PySem.W.keepIn K (.ref (gd "is_shift" K)) = true
  g_place_behind : mg "place_behind" = some (.ref (gd "place_behind" K))
  k_place_behind : PySem.W.keepIn K (.ref (gd "place_behind" K)) = true
  g__law_pick : mg "_law_pick" = some (.ref (gd "_law_pick" K))
  k__law_pick : PySem.W.keepIn K (.ref (gd "_law_pick" K)) = true
  g__law_row : mg "_law_row" = some (.ref (gd "_law_row" K))
  k__law_row : PySem.W.keepIn K (.ref (gd "_law_row" K)) = true
  g__law_parts : mg "_law_parts" = some (.ref (gd "_law_parts" K))
  k__law_parts : PySem.W.keepIn K (.ref (gd "_law_parts" K)) = true
  g__law_form : mg "_law_form" = some (.ref (gd "_law_form" K))
  k__law_form : PySem.W.keepIn K (.ref (gd "_law_form" K)) = true
  g__law_seat : mg "_law_seat" = some (.ref (gd "_law_seat" K))
  k__law_seat : PySem.W.keepIn K (.ref (gd "_law_seat" K)) = true
  g__law_place : mg "_law_place" = some (.ref (gd "_law_place" K))
  k__law_place : PySem.W.keepIn K (.ref (gd "_law_place" K)) = true
  g__law_marked : mg "_law_marked" = some (.ref (gd "_law_marked" K))
  k__law_marked : PySem.W.keepIn K (.ref (gd "_law_marked" K)) = true
  g__law_brought : mg "_law_brought" = some (.ref (gd "_law_brought" K))
  k__law_brought : PySem.W.keepIn K (.ref (gd "_law_brought" K)) = true
  g__law_heard : mg "_law_heard" = some (.ref (gd "_law_heard" K))
  k__law_heard : PySem.W.keepIn K (.ref (gd "_law_heard" K)) = true
  g__law_small_right : mg "_law_small_right" = some (.ref (gd "_law_small_right" K))
  k__law_small_right : PySem.W.keepIn K (.ref (gd "_law_small_right" K)) = true
  g__law_far_right : mg "_law_far_right" = some (.ref (gd "_law_far_right" K))
  k__law_far_right : PySem.W.keepIn K (.ref (gd "_law_far_right" K)) = true
  g_BadLength : mg "BadLength" = some (.ref (gd "BadLength" K))
  k_BadLength : PySem.W.keepIn K (.ref (gd "BadLength" K)) = true
  g_BadPlace : mg "BadPlace" = some (.ref (gd "BadPlace" K))
  k_BadPlace : PySem.W.keepIn K (.ref (gd "BadPlace" K)) = true
  g_Overlap : mg "Overlap" = some (.ref (gd "Overlap" K))
  k_Overlap : PySem.W.keepIn K (.ref (gd "Overlap" K)) = true
  g_Marks : mg "Marks" = some (.ref (gd "Marks" K))
  k_Marks : PySem.W.keepIn K (.ref (gd "Marks" K)) = true
  g_Shape : mg "Shape" = some (.ref (gd "Shape" K))
  k_Shape : PySem.W.keepIn K (.ref (gd "Shape" K)) = true
  g_Form : mg "Form" = some (.ref (gd "Form" K))
  k_Form : PySem.W.keepIn K (.ref (gd "Form" K)) = true
  g_HuntError : mg "HuntError" = some (.ref (gd "HuntError" K))
  k_HuntError : PySem.W.keepIn K (.ref (gd "HuntError" K)) = true
  m_CLASSES : ∃ t, mg "CLASSES" = some (.int 4 t)
  m_GREATEST_LENGTH : ∃ t, mg "GREATEST_LENGTH" = some (.int 10000000000000000000000000000000000000000 t)
  n_BadLength_value : NoAttr K (gd "BadLength" K) "value"
  er_BadLength : ErrT K (gd "BadLength" K)
  ox_BadLength : OexC K (gd "BadLength" K)
  in_BadLength : IniT K (gd "BadLength" K) (md "BadLength" "__init__" K)
  xh_BadLength : PySem.W.exmOne K (.ref (gd "BadLength" K)) (.ref (gd "HuntError" K)) = some true
  n_BadPlace_value : NoAttr K (gd "BadPlace" K) "value"
  er_BadPlace : ErrT K (gd "BadPlace" K)
  ox_BadPlace : OexC K (gd "BadPlace" K)
  in_BadPlace : IniT K (gd "BadPlace" K) (md "BadPlace" "__init__" K)
  xh_BadPlace : PySem.W.exmOne K (.ref (gd "BadPlace" K)) (.ref (gd "HuntError" K)) = some true
  n_Overlap_length : NoAttr K (gd "Overlap" K) "length"
  er_Overlap : ErrT K (gd "Overlap" K)
  ox_Overlap : OexC K (gd "Overlap" K)
  in_Overlap : IniT K (gd "Overlap" K) (md "Overlap" "__init__" K)
  xh_Overlap : PySem.W.exmOne K (.ref (gd "Overlap" K)) (.ref (gd "HuntError" K)) = some true
  cl_Marks : Cls K (gd "Marks" K)
  ty_Marks : InsT K (gd "Marks" K)
  n_Marks_table : NoAttr K (gd "Marks" K) "table"
  mk_Marks : Mk K (gd "Marks" K) (md "Marks" "__init__" K)
  cl_Shape : Cls K (gd "Shape" K)
  ty_Shape : InsT K (gd "Shape" K)
  n_Shape_class_rest : NoAttr K (gd "Shape" K) "class_rest"
  n_Shape_way : NoAttr K (gd "Shape" K) "way"
  n_Shape_shift_by : NoAttr K (gd "Shape" K) "shift_by"
  n_Shape_marks_behind : NoAttr K (gd "Shape" K) "marks_behind"
  mk_Shape : Mk K (gd "Shape" K) (md "Shape" "__init__" K)
  mt_Shape_seat_ahead : Meth K (gd "Shape" K) "seat_ahead" (md "Shape" "seat_ahead" K)
  mt_Shape_marked_seats : Meth K (gd "Shape" K) "marked_seats" (md "Shape" "marked_seats" K)
  cl_Form : Cls K (gd "Form" K)
  ty_Form : InsT K (gd "Form" K)
  n_Form_shape_told : NoAttr K (gd "Form" K) "shape_told"
  mk_Form : Mk K (gd "Form" K) (md "Form" "__init__" K)
  pr_Form_rest : PropOf K (gd "Form" K) "rest" (He.ma K (He.ga K "Form") "rest") (propG "Form" "rest" K)
  mt_Form_need_own_length : Meth K (gd "Form" K) "need_own_length" (md "Form" "need_own_length" K)
  mt_Form_is_usable : Meth K (gd "Form" K) "is_usable" (md "Form" "is_usable" K)
  mt_Form_to : Meth K (gd "Form" K) "to" (md "Form" "to" K)
  g_QUARTERS : mg "QUARTERS" = some (.ref (gd "QUARTERS" K))
  tu_QUARTERS : ∀ H : Hp, SqT K H (gd "QUARTERS" K) [.int 0, .int 1, .int 2, .int 3]
  cm_Marks_of : ClmT K (gd "Marks" K) "of" (He.ma K (He.ga K "Marks") "of") (clsG "Marks" "of" K)
  tn__law_small_right_law : (He.cT K ("_law_small_right", none)).2 ≠ (He.cT K ("law", none)).2
  ki_BadLength_BadLength : PySem.W.kitOne K (.ref (gd "BadLength" K)) (.ref (gd "BadLength" K)) = some true
  ki_BadPlace_BadLength : PySem.W.kitOne K (.ref (gd "BadPlace" K)) (.ref (gd "BadLength" K)) = some false
  ki_Overlap_BadLength : PySem.W.kitOne K (.ref (gd "Overlap" K)) (.ref (gd "BadLength" K)) = some false
  ki_BadLength_BadPlace : PySem.W.kitOne K (.ref (gd "BadLength" K)) (.ref (gd "BadPlace" K)) = some false
  ki_BadPlace_BadPlace : PySem.W.kitOne K (.ref (gd "BadPlace" K)) (.ref (gd "BadPlace" K)) = some true
  ki_Overlap_BadPlace : PySem.W.kitOne K (.ref (gd "Overlap" K)) (.ref (gd "BadPlace" K)) = some false
  ki_BadLength_Overlap : PySem.W.kitOne K (.ref (gd "BadLength" K)) (.ref (gd "Overlap" K)) = some false
  ki_BadPlace_Overlap : PySem.W.kitOne K (.ref (gd "BadPlace" K)) (.ref (gd "Overlap" K)) = some false
  ki_Overlap_Overlap : PySem.W.kitOne K (.ref (gd "Overlap" K)) (.ref (gd "Overlap" K)) = some true
theorem tx_of {K : PySem.W.Frag} {h : Heap} {mg : Str → Option Value} (X : K.In h) (G : h.Ns mainGlobals mg) (c : Says exs fns K) : Tx K mg :=
  ⟨(He.free_ok X G (c.fact 0 rfl)), (He.free_ok X G (c.fact 1 rfl)), (He.free_ok X G (c.fact 2 rfl)), (He.free_ok X G (c.fact 3 rfl)), (He.free_ok X G (c.fact 4 rfl)), (He.free_ok X G (c.fact 5 rfl)), (He.free_ok X G (c.fact 6 rfl)), (He.free_ok X G (c.fact 7 rfl)), (He.free_ok X G (c.fact 8 rfl)), (He.free_ok X G (c.fact 9 rfl)), (He.free_ok X G (c.fact 10 rfl)), (He.free_ok X G (c.fact 11 rfl)), (He.free_ok X G (c.fact 12 rfl)), (He.free_ok X G (c.fact 13 rfl)), (He.glo_ok X G (c.fact 14 rfl)), ((c.fact 15 rfl)), (He.glo_ok X G (c.fact 16 rfl)), ((c.fact 17 rfl)), (He.glo_ok X G (c.fact 18 rfl)), ((c.fact 19 rfl)), (He.glo_ok X G (c.fact 20 rfl)), ((c.fact 21 rfl)), (He.glo_ok X G (c.fact 22 rfl)), ((c.fact 23 rfl)), (He.glo_ok X G (c.fact 24 rfl)), ((c.fact 25 rfl)), (He.glo_ok X G (c.fact 26 rfl)), ((c.fact 27 rfl)), (He.glo_ok X G (c.fact 28 rfl)), ((c.fact 29 rfl)), (He.glo_ok X G (c.fact 30 rfl)), ((c.fact 31 rfl)), (He.glo_ok X G (c.fact 32 rfl)), ((c.fact 33 rfl)), (He.glo_ok X G (c.fact 34 rfl)), ((c.fact 35 rfl)), (He.glo_ok X G (c.fact 36 rfl)), ((c.fact 37 rfl)), (He.glo_ok X G (c.fact 38 rfl)), ((c.fact 39 rfl)), (He.glo_ok X G (c.fact 40 rfl)), ((c.fact 41 rfl)), (He.glo_ok X G (c.fact 42 rfl)), ((c.fact 43 rfl)), (He.glo_ok X G (c.fact 44 rfl)), ((c.fact 45 rfl)), (He.glo_ok X G (c.fact 46 rfl)), ((c.fact 47 rfl)), (He.glo_ok X G (c.fact 48 rfl)), ((c.fact 49 rfl)), (He.glo_ok X G (c.fact 50 rfl)), ((c.fact 51 rfl)), (He.glo_ok X G (c.fact 52 rfl)), ((c.fact 53 rfl)), (He.glo_ok X G (c.fact 54 rfl)), ((c.fact 55 rfl)), (He.glo_ok X G (c.fact 56 rfl)), ((c.fact 57 rfl)), (He.glo_ok X G (c.fact 58 rfl)), ((c.fact 59 rfl)), (He.glo_ok X G (c.fact 60 rfl)), ((c.fact 61 rfl)), (He.glo_ok X G (c.fact 62 rfl)), ((c.fact 63 rfl)), (He.glo_ok X G (c.fact 64 rfl)), ((c.fact 65 rfl)), (He.glo_ok X G (c.fact 66 rfl)), ((c.fact 67 rfl)), (He.glo_ok X G (c.fact 68 rfl)), ((c.fact 69 rfl)), (He.glo_ok X G (c.fact 70 rfl)), ((c.fact 71 rfl)), (He.glo_ok X G (c.fact 72 rfl)), ((c.fact 73 rfl)), (He.glo_ok X G (c.fact 74 rfl)), ((c.fact 75 rfl)), (He.glo_ok X G (c.fact 76 rfl)), ((c.fact 77 rfl)), (He.glo_ok X G (c.fact 78 rfl)), ((c.fact 79 rfl)), (He.glo_ok X G (c.fact 80 rfl)), ((c.fact 81 rfl)), (He.glo_ok X G (c.fact 82 rfl)), ((c.fact 83 rfl)), (He.int_ok X G (c.fact 84 rfl)), (He.int_ok X G (c.fact 85 rfl)), (He.eqO_ok (c.fact 86 rfl)), (errB_ok (c.fact 87 rfl)), (oexB_ok (c.fact 88 rfl)), (iniB_ok (c.fact 89 rfl)), (of_decide_eq_true (c.fact 90 rfl)), (He.eqO_ok (c.fact 91 rfl)), (errB_ok (c.fact 92 rfl)), (oexB_ok (c.fact 93 rfl)), (iniB_ok (c.fact 94 rfl)), (of_decide_eq_true (c.fact 95 rfl)), (He.eqO_ok (c.fact 96 rfl)), (errB_ok (c.fact 97 rfl)), (oexB_ok (c.fact 98 rfl)), (iniB_ok (c.fact 99 rfl)), (of_decide_eq_true (c.fact 100 rfl)), (He.cls_ok (c.fact 101 rfl)), (insB_ok (c.fact 102 rfl)), (He.eqO_ok (c.fact 103 rfl)), (He.mkr_ok (c.fact 104 rfl)), (He.cls_ok (c.fact 105 rfl)), (insB_ok (c.fact 106 rfl)), (He.eqO_ok (c.fact 107 rfl)), (He.eqO_ok (c.fact 108 rfl)), (He.eqO_ok (c.fact 109 rfl)), (He.eqO_ok (c.fact 110 rfl)), (He.mkr_ok (c.fact 111 rfl)), (He.meth_ok (c.fact 112 rfl)), (He.meth_ok (c.fact 113 rfl)), (He.cls_ok (c.fact 114 rfl)), (insB_ok (c.fact 115 rfl)), (He.eqO_ok (c.fact 116 rfl)), (He.mkr_ok (c.fact 117 rfl)), (propB_ok (c.fact 118 rfl)), (He.meth_ok (c.fact 119 rfl)), (He.meth_ok (c.fact 120 rfl)), (He.meth_ok (c.fact 121 rfl)), (He.glo_ok X G (c.fact 122 rfl)), (fun H => He.tupB_ok (c.fact 123 rfl) H), (clmB_ok (c.fact 124 rfl)), (of_decide_eq_true (c.fact 125 rfl)), (of_decide_eq_true (c.fact 126 rfl)), (of_decide_eq_true (c.fact 127 rfl)), (of_decide_eq_true (c.fact 128 rfl)), (of_decide_eq_true (c.fact 129 rfl)), (of_decide_eq_true (c.fact 130 rfl)), (of_decide_eq_true (c.fact 131 rfl)), (of_decide_eq_true (c.fact 132 rfl)), (of_decide_eq_true (c.fact 133 rfl)), (of_decide_eq_true (c.fact 134 rfl))⟩
section
variable {K : PySem.W.Frag} {mg : Str → Option Value} {Tb : List (Addr × Str)} {p c : Addr}
theorem xt_length (T : Tx K mg) : ∀ c ∈ (["Overlap"] : List Str), ErrT K (gd c K) ∧ PySem.W.findIn K (.ref (gd c K)) "length" = some none := by
  intro c h
  simp only [List.mem_cons, List.mem_nil_iff, or_false] at h
  rcases h with rfl
  · exact ⟨T.er_Overlap, T.n_Overlap_length⟩
theorem xt_value (T : Tx K mg) : ∀ c ∈ (["BadLength", "BadPlace"] : List Str), ErrT K (gd c K) ∧ PySem.W.findIn K (.ref (gd c K)) "value" = some none := by
  intro c h
  simp only [List.mem_cons, List.mem_nil_iff, or_false] at h
  rcases h with rfl | rfl
  · exact ⟨T.er_BadLength, T.n_BadLength_value⟩
  · exact ⟨T.er_BadPlace, T.n_BadPlace_value⟩
def isi_int : D → Option Bool := isF (fun n => kitB n "int") [("Marks", false), ("Shape", false), ("Form", false)] []
theorem isT_int (T : Tx K mg) : IsT ⟨K, Tb, p, c⟩ (.type "int") isi_int := isT_of (fun n k h => kit_ty h) (fun c k h => (look_cons h).elim (fun e => by obtain ⟨rfl, rfl⟩ := e; exact ⟨T.cl_Marks, T.ty_Marks, T.ty_Marks.out _ (by decide)⟩) (fun h => (look_cons h).elim (fun e => by obtain ⟨rfl, rfl⟩ := e; exact ⟨T.cl_Shape, T.ty_Shape, T.ty_Shape.out _ (by decide)⟩) (fun h => (look_cons h).elim (fun e => by obtain ⟨rfl, rfl⟩ := e; exact ⟨T.cl_Form, T.ty_Form, T.ty_Form.out _ (by decide)⟩) (fun h => nomatch h)))) (fun c k h => nomatch h)
def isi_bool : D → Option Bool := isF (fun n => kitB n "bool") [("Marks", false), ("Shape", false), ("Form", false)] []
theorem isT_bool (T : Tx K mg) : IsT ⟨K, Tb, p, c⟩ (.type "bool") isi_bool := isT_of (fun n k h => kit_ty h) (fun c k h => (look_cons h).elim (fun e => by obtain ⟨rfl, rfl⟩ := e; exact ⟨T.cl_Marks, T.ty_Marks, T.ty_Marks.out _ (by decide)⟩) (fun h => (look_cons h).elim (fun e => by obtain ⟨rfl, rfl⟩ := e; exact ⟨T.cl_Shape, T.ty_Shape, T.ty_Shape.out _ (by decide)⟩) (fun h => (look_cons h).elim (fun e => by obtain ⟨rfl, rfl⟩ := e; exact ⟨T.cl_Form, T.ty_Form, T.ty_Form.out _ (by decide)⟩) (fun h => nomatch h)))) (fun c k h => nomatch h)
def isi_list_tuple : D → Option Bool := isF (fun n => (kitB n "list").bind fun a => (kitB n "tuple").map fun b => a || b) [("Marks", false), ("Shape", false), ("Form", false)] []
theorem isT_list_tuple (T : Tx K mg) : IsA ⟨K, Tb, p, c⟩ [.type "list", .type "tuple"] isi_list_tuple := isA_of (fun n k h => kitAny2 h) (fun c k h => (look_cons h).elim (fun e => by obtain ⟨rfl, rfl⟩ := e; exact ⟨T.cl_Marks, T.ty_Marks, kitAny_cons (T.ty_Marks.out _ (by decide)) (fun _ => kitAny_cons (T.ty_Marks.out _ (by decide)) (fun _ => rfl) (fun z => by cases z)) (fun z => by cases z)⟩) (fun h => (look_cons h).elim (fun e => by obtain ⟨rfl, rfl⟩ := e; exact ⟨T.cl_Shape, T.ty_Shape, kitAny_cons (T.ty_Shape.out _ (by decide)) (fun _ => kitAny_cons (T.ty_Shape.out _ (by decide)) (fun _ => rfl) (fun z => by cases z)) (fun z => by cases z)⟩) (fun h => (look_cons h).elim (fun e => by obtain ⟨rfl, rfl⟩ := e; exact ⟨T.cl_Form, T.ty_Form, kitAny_cons (T.ty_Form.out _ (by decide)) (fun _ => kitAny_cons (T.ty_Form.out _ (by decide)) (fun _ => rfl) (fun z => by cases z)) (fun z => by cases z)⟩) (fun h => nomatch h))))
def isi_tuple : D → Option Bool := isF (fun n => kitB n "tuple") [("Marks", false), ("Shape", false), ("Form", false)] []
theorem isT_tuple (T : Tx K mg) : IsT ⟨K, Tb, p, c⟩ (.type "tuple") isi_tuple := isT_of (fun n k h => kit_ty h) (fun c k h => (look_cons h).elim (fun e => by obtain ⟨rfl, rfl⟩ := e; exact ⟨T.cl_Marks, T.ty_Marks, T.ty_Marks.out _ (by decide)⟩) (fun h => (look_cons h).elim (fun e => by obtain ⟨rfl, rfl⟩ := e; exact ⟨T.cl_Shape, T.ty_Shape, T.ty_Shape.out _ (by decide)⟩) (fun h => (look_cons h).elim (fun e => by obtain ⟨rfl, rfl⟩ := e; exact ⟨T.cl_Form, T.ty_Form, T.ty_Form.out _ (by decide)⟩) (fun h => nomatch h)))) (fun c k h => nomatch h)
def isi_BadLength : D → Option Bool := isF (fun _ => none) [] [("BadLength", true), ("BadPlace", false), ("Overlap", false)]
theorem isT_BadLength (T : Tx K mg) : IsT ⟨K, Tb, p, c⟩ (.ref (gd "BadLength" K)) isi_BadLength := isT_of (fun n k h => nomatch h) (fun c k h => nomatch h) (fun c k h => (look_cons h).elim (fun e => by obtain ⟨rfl, rfl⟩ := e; exact ⟨T.er_BadLength, T.ki_BadLength_BadLength⟩) (fun h => (look_cons h).elim (fun e => by obtain ⟨rfl, rfl⟩ := e; exact ⟨T.er_BadPlace, T.ki_BadPlace_BadLength⟩) (fun h => (look_cons h).elim (fun e => by obtain ⟨rfl, rfl⟩ := e; exact ⟨T.er_Overlap, T.ki_Overlap_BadLength⟩) (fun h => nomatch h))))
def isi_BadPlace : D → Option Bool := isF (fun _ => none) [] [("BadLength", false), ("BadPlace", true), ("Overlap", false)]
theorem isT_BadPlace (T : Tx K mg) : IsT ⟨K, Tb, p, c⟩ (.ref (gd "BadPlace" K)) isi_BadPlace := isT_of (fun n k h => nomatch h) (fun c k h => nomatch h) (fun c k h => (look_cons h).elim (fun e => by obtain ⟨rfl, rfl⟩ := e; exact ⟨T.er_BadLength, T.ki_BadLength_BadPlace⟩) (fun h => (look_cons h).elim (fun e => by obtain ⟨rfl, rfl⟩ := e; exact ⟨T.er_BadPlace, T.ki_BadPlace_BadPlace⟩) (fun h => (look_cons h).elim (fun e => by obtain ⟨rfl, rfl⟩ := e; exact ⟨T.er_Overlap, T.ki_Overlap_BadPlace⟩) (fun h => nomatch h))))
def isi_Overlap : D → Option Bool := isF (fun _ => none) [] [("BadLength", false), ("BadPlace", false), ("Overlap", true)]
theorem isT_Overlap (T : Tx K mg) : IsT ⟨K, Tb, p, c⟩ (.ref (gd "Overlap" K)) isi_Overlap := isT_of (fun n k h => nomatch h) (fun c k h => nomatch h) (fun c k h => (look_cons h).elim (fun e => by obtain ⟨rfl, rfl⟩ := e; exact ⟨T.er_BadLength, T.ki_BadLength_Overlap⟩) (fun h => (look_cons h).elim (fun e => by obtain ⟨rfl, rfl⟩ := e; exact ⟨T.er_BadPlace, T.ki_BadPlace_Overlap⟩) (fun h => (look_cons h).elim (fun e => by obtain ⟨rfl, rfl⟩ := e; exact ⟨T.er_Overlap, T.ki_Overlap_Overlap⟩) (fun h => nomatch h))))
end
end Lw
end
section
set_option Elab.async false
set_option linter.all false
set_option maxRecDepth 100000
set_option maxHeartbeats 4000000
set_option pp.maxSteps 600
namespace Lw
open PySem PySem.Spec PyProof.Rows L2 Gh
local macro_rules | `(tactic| nofun) => `(tactic| (first | assumption | exact Ne.symm (by assumption) | (apply nw_pen'; (· assumption); (· assumption); (· ac_rfl)) | (apply Ne.symm; apply nw_pen'; (· assumption); (· assumption); (· ac_rfl)) | (apply nw_cell'; (· assumption); (· assumption); (· ac_rfl)) | (apply Ne.symm; apply nw_cell'; (· assumption); (· assumption); (· ac_rfl)) | (apply none_pen'; (· assumption); (· assumption); (· ac_rfl)) | (apply Ne.symm; apply none_pen'; (· assumption); (· assumption); (· ac_rfl)) | (apply none_cell'; (· assumption); (· assumption); (· ac_rfl)) | (apply Ne.symm; apply none_cell'; (· assumption); (· assumption); (· ac_rfl)) | (apply tup_pen'; (· assumption); (· assumption); (· ac_rfl)) | (apply Ne.symm; apply tup_pen'; (· assumption); (· assumption); (· ac_rfl)) | (apply tup_cell'; (· assumption); (· assumption); (· ac_rfl)) | (apply Ne.symm; apply tup_cell'; (· assumption); (· assumption); (· ac_rfl)) | (apply ins_pen'; (· assumption); (· assumption); (· ac_rfl)) | (apply Ne.symm; apply ins_pen'; (· assumption); (· assumption); (· ac_rfl)) | (apply ins_cell'; (· assumption); (· assumption); (· ac_rfl)) | (apply Ne.symm; apply ins_cell'; (· assumption); (· assumption); (· ac_rfl)) | (apply ins_lst; (· assumption); (· infer_instance)) | (apply Ne.symm; apply ins_lst; (· assumption); (· infer_instance)) | (apply ins_tup; (· assumption); (· infer_instance)) | (apply Ne.symm; apply ins_tup; (· assumption); (· infer_instance)) | (apply tup_lst; (· assumption); (· infer_instance)) | (apply Ne.symm; apply tup_lst; (· assumption); (· infer_instance)) | (apply nw_ne; (· assumption); (· infer_instance)) | (apply Ne.symm; apply nw_ne; (· assumption); (· infer_instance)) | (apply none_ne; (· assumption); (· infer_instance)) | (apply Ne.symm; apply none_ne; (· assumption); (· infer_instance))))
local macro_rules | `(tactic| ac_rfl) => `(tactic| ((repeat (first | assumption | (apply Pen.nw; (focus assumption)) | (apply Pen.same; (focus assumption)) | (apply Pen.mu; (focus assumption); (focus nofun); (focus nofun)) | (apply Pen.keep; (focus assumption); (focus nofun); (focus nofun)))); done))
local macro_rules | `(tactic| infer_instance) => `(tactic| ((repeat (first | assumption | (apply Nw.at_; assumption) | (apply Mu.at_; assumption) | (apply Nw.up; (focus assumption)) | (apply same_up; (focus assumption)) | (apply Mu.up; (focus assumption); (focus nofun)) | (apply keep_up; (focus assumption); (focus nofun)) | (apply keep2_up; (focus assumption); (focus nofun); (focus nofun)))); done))
local macro_rules | `(tactic| symm_saturate) => `(tactic| (repeat (first | with_reducible refine st_seq ?_ | with_reducible refine st_asg ?_ | with_reducible refine st_name ?_ | with_reducible refine st_ret ?_ | with_reducible refine st_drop ?_ | with_reducible refine st_ifS ?_ | with_reducible refine st_nx ?_ | with_reducible refine st_brk ?_ | with_reducible refine st_cnt ?_ | with_reducible refine st_c ?_ | with_reducible refine st_op ?_ | with_reducible refine st_un ?_ | with_reducible refine st_rI0 ?_ | with_reducible refine st_cons ?_ | with_reducible refine st_nil ?_ | with_reducible refine st_cl ?_ | with_reducible refine st_cb ?_ | with_reducible refine st_mt ?_ | with_reducible refine st_pr ?_ | with_reducible refine st_test ?_ | with_reducible refine st_ebl ?_ | with_reducible refine st_eint ?_ | with_reducible refine st_par ?_ | with_reducible refine st_par2 ?_ | with_reducible refine st_and ?_ | with_reducible refine st_or ?_ | with_reducible refine st_not ?_ | with_reducible refine st_andV ?_ | with_reducible refine st_orV ?_ | with_reducible refine st_notV ?_ | with_reducible refine st_ifE ?_ | with_reducible refine st_chain ?_ | with_reducible refine st_lst ?_ | with_reducible refine st_tup ?_ | with_reducible refine st_retN ?_ | with_reducible refine st_rU ?_ | with_reducible refine st_rAdd ?_ | with_reducible refine st_rSub ?_ | with_reducible refine st_isN ?_ | with_reducible refine st_notN ?_ | with_reducible refine st_sF ?_ | with_reducible refine st_int ?_ | with_reducible refine st_intB ?_ | with_reducible refine st_abs ?_ | with_reducible refine st_sl ?_ | with_reducible refine st_part ?_ | with_reducible refine st_nopart ?_ | with_reducible refine st_bm ?_ | with_reducible refine st_bm0 ?_ | with_reducible refine st_tyS ?_ | with_reducible refine st_gsub ?_ | with_reducible refine st_gcons ?_ | with_reducible refine st_gnil ?_ | with_reducible refine st_chain3 ?_ | with_reducible refine st_gsl ?_ | with_reducible refine st_clK ?_ | with_reducible refine st_mtK ?_ | with_reducible refine st_lcR1 ?_ | with_reducible refine st_lcR2 ?_ | with_reducible refine st_lcL ?_ | with_reducible refine st_lcT ?_ | with_reducible refine st_yes ?_ | with_reducible refine st_forR1 ?_ | with_reducible refine st_forR2 ?_ | with_reducible refine st_forL ?_ | with_reducible refine st_forT ?_ | with_reducible refine st_forE ?_ | with_reducible refine st_list ?_ | with_reducible refine st_itup ?_ | with_reducible refine st_tB ?_ | ((with_reducible apply st_var); exact rfl) | ((with_reducible apply st_aug); exact rfl) | ((with_reducible apply st_eq); exact rfl) | ((with_reducible apply st_ne); exact rfl) | ((with_reducible apply st_spK); (focus exact rfl); (focus exact rfl)) | ((with_reducible apply st_rI); (first | decide | (refine Or.inl ⟨?_, ?_⟩ <;> omega) | (refine Or.inr ⟨?_, ?_⟩ <;> omega) | (show (0 : Int) < _; omega) | exact ⟨by omega, log_of (by omega) (by omega)⟩ | exact ⟨by decide, by decide, by decide⟩)) | ((with_reducible apply st_powK); (focus exact ⟨by decide, by decide, by decide⟩); (focus decide)) | ((with_reducible apply st_eR1); (focus omega); (focus omega)) | ((with_reducible apply st_eR2); (focus omega)) | ((with_reducible apply st_if1); (first | with_reducible rfl | assumption | exact rfl | decide | (simp only [decide_eq_true_eq, decide_eq_false_iff_not, Bool.not_eq_true', Bool.not_eq_false', Bool.not_true, Bool.not_false, Bool.true_and, Bool.and_true, Bool.false_and, Bool.and_false, V.int.injEq, V.str.injEq, V.bl.injEq, V.ref.injEq, reduceCtorEq, not_true, not_false_eq_true, decide_true, decide_false, Int.not_lt, Int.not_le, ne_eq, List.length_cons, List.length_nil, List.length_map, List.length_append, List.length_set, List.length_take, List.length_drop] <;> omega))) | ((with_reducible apply st_if0); (first | with_reducible rfl | assumption | exact rfl | decide | (simp only [decide_eq_true_eq, decide_eq_false_iff_not, Bool.not_eq_true', Bool.not_eq_false', Bool.not_true, Bool.not_false, Bool.true_and, Bool.and_true, Bool.false_and, Bool.and_false, V.int.injEq, V.str.injEq, V.bl.injEq, V.ref.injEq, reduceCtorEq, not_true, not_false_eq_true, decide_true, decide_false, Int.not_lt, Int.not_le, ne_eq, List.length_cons, List.length_nil, List.length_map, List.length_append, List.length_set, List.length_take, List.length_drop] <;> omega))) | ((with_reducible apply st_lenL); (focus infer_instance)) | ((with_reducible apply st_lenT); (focus infer_instance)) | ((with_reducible apply st_tupT); (focus infer_instance)) | ((with_reducible apply st_tyL); (focus infer_instance)) | ((with_reducible apply st_elist); (focus infer_instance)) | ((with_reducible apply st_eitup); (focus infer_instance)) | ((with_reducible apply st_eE); (focus infer_instance)) | ((with_reducible apply st_epr); (focus infer_instance)) | ((with_reducible apply st_setO); (focus infer_instance)) | ((with_reducible apply st_ixO); (focus infer_instance)) | ((with_reducible apply st_ixLs); (focus assumption); (focus (first | exact rfl | exact atI_nat (by assumption)))) | ((with_reducible apply st_ixTs); (focus assumption); (focus (first | exact rfl | exact atI_nat (by assumption)))) | ((with_reducible apply st_fld); (focus infer_instance); (focus exact rfl)) | ((with_reducible apply st_const); (focus infer_instance); (focus exact rfl)) | ((with_reducible apply st_emt); (focus infer_instance); (focus exact rfl)) | ((with_reducible apply st_ixL); (focus infer_instance); (focus (first | exact rfl | exact atI_nat (by assumption)))) | ((with_reducible apply st_ixT); (focus infer_instance); (focus (first | exact rfl | exact atI_nat (by assumption)))) | ((with_reducible apply st_gtup); (focus infer_instance); (focus (first | exact rfl | exact atI_nat (by assumption)))))))
local macro_rules | `(tactic| subst_eqs) => `(tactic| (repeat (first | with_reducible refine st_seq ?_ | with_reducible refine st_asg ?_ | with_reducible refine st_name ?_ | with_reducible refine st_ret ?_ | with_reducible refine st_drop ?_ | with_reducible refine st_ifS ?_ | with_reducible refine st_nx ?_ | with_reducible refine st_brk ?_ | with_reducible refine st_cnt ?_ | with_reducible refine st_c ?_ | with_reducible refine st_op ?_ | with_reducible refine st_un ?_ | with_reducible refine st_rI0 ?_ | with_reducible refine st_cons ?_ | with_reducible refine st_nil ?_ | with_reducible refine st_cl ?_ | with_reducible refine st_cb ?_ | with_reducible refine st_mt ?_ | with_reducible refine st_pr ?_ | with_reducible refine st_test ?_ | with_reducible refine st_ebl ?_ | with_reducible refine st_eint ?_ | with_reducible refine st_par ?_ | with_reducible refine st_par2 ?_ | with_reducible refine st_and ?_ | with_reducible refine st_or ?_ | with_reducible refine st_not ?_ | with_reducible refine st_andV ?_ | with_reducible refine st_orV ?_ | with_reducible refine st_notV ?_ | with_reducible refine st_ifE ?_ | with_reducible refine st_chain ?_ | with_reducible refine st_lst ?_ | with_reducible refine st_tup ?_ | with_reducible refine st_retN ?_ | with_reducible refine st_rU ?_ | with_reducible refine st_rAdd ?_ | with_reducible refine st_rSub ?_ | with_reducible refine st_isN ?_ | with_reducible refine st_notN ?_ | with_reducible refine st_sF ?_ | with_reducible refine st_int ?_ | with_reducible refine st_intB ?_ | with_reducible refine st_abs ?_ | with_reducible refine st_sl ?_ | with_reducible refine st_part ?_ | with_reducible refine st_nopart ?_ | with_reducible refine st_bm ?_ | with_reducible refine st_bm0 ?_ | with_reducible refine st_tyS ?_ | with_reducible refine st_gsub ?_ | with_reducible refine st_gcons ?_ | with_reducible refine st_gnil ?_ | with_reducible refine st_chain3 ?_ | with_reducible refine st_gsl ?_ | with_reducible refine st_clK ?_ | with_reducible refine st_mtK ?_ | with_reducible refine st_lcR1 ?_ | with_reducible refine st_lcR2 ?_ | with_reducible refine st_lcL ?_ | with_reducible refine st_lcT ?_ | with_reducible refine st_yes ?_ | with_reducible refine st_forR1 ?_ | with_reducible refine st_forR2 ?_ | with_reducible refine st_forL ?_ | with_reducible refine st_forT ?_ | with_reducible refine st_forE ?_ | with_reducible refine st_list ?_ | with_reducible refine st_itup ?_ | with_reducible refine st_tB ?_ | ((with_reducible apply st_var); exact rfl) | ((with_reducible apply st_aug); exact rfl) | ((with_reducible apply st_eq); exact rfl) | ((with_reducible apply st_ne); exact rfl) | ((with_reducible apply st_spK); (focus exact rfl); (focus exact rfl)) | ((with_reducible apply st_rI); (first | decide | (refine Or.inl ⟨?_, ?_⟩ <;> omega) | (refine Or.inr ⟨?_, ?_⟩ <;> omega) | (show (0 : Int) < _; omega) | exact ⟨by omega, log_of (by omega) (by omega)⟩ | exact ⟨by decide, by decide, by decide⟩)) | ((with_reducible apply st_powK); (focus exact ⟨by decide, by decide, by decide⟩); (focus decide)) | ((with_reducible apply st_eR1); (focus omega); (focus omega)) | ((with_reducible apply st_eR2); (focus omega)) | ((with_reducible apply st_if1); (first | with_reducible rfl | assumption | exact rfl | decide | (simp only [decide_eq_true_eq, decide_eq_false_iff_not, Bool.not_eq_true', Bool.not_eq_false', Bool.not_true, Bool.not_false, Bool.true_and, Bool.and_true, Bool.false_and, Bool.and_false, V.int.injEq, V.str.injEq, V.bl.injEq, V.ref.injEq, reduceCtorEq, not_true, not_false_eq_true, decide_true, decide_false, Int.not_lt, Int.not_le, ne_eq, List.length_cons, List.length_nil, List.length_map, List.length_append, List.length_set, List.length_take, List.length_drop] <;> omega))) | ((with_reducible apply st_if0); (first | with_reducible rfl | assumption | exact rfl | decide | (simp only [decide_eq_true_eq, decide_eq_false_iff_not, Bool.not_eq_true', Bool.not_eq_false', Bool.not_true, Bool.not_false, Bool.true_and, Bool.and_true, Bool.false_and, Bool.and_false, V.int.injEq, V.str.injEq, V.bl.injEq, V.ref.injEq, reduceCtorEq, not_true, not_false_eq_true, decide_true, decide_false, Int.not_lt, Int.not_le, ne_eq, List.length_cons, List.length_nil, List.length_map, List.length_append, List.length_set, List.length_take, List.length_drop] <;> omega))) | ((with_reducible apply st_lenL); (focus infer_instance)) | ((with_reducible apply st_lenT); (focus infer_instance)) | ((with_reducible apply st_tupT); (focus infer_instance)) | ((with_reducible apply st_tyL); (focus infer_instance)) | ((with_reducible apply st_elist); (focus infer_instance)) | ((with_reducible apply st_eitup); (focus infer_instance)) | ((with_reducible apply st_eE); (focus infer_instance)) | ((with_reducible apply st_epr); (focus infer_instance)) | ((with_reducible apply st_setO); (focus infer_instance)) | ((with_reducible apply st_ixO); (focus infer_instance)) | ((with_reducible apply st_ixLs); (focus assumption); (focus (first | exact rfl | exact atI_nat (by assumption)))) | ((with_reducible apply st_ixTs); (focus assumption); (focus (first | exact rfl | exact atI_nat (by assumption)))) | ((with_reducible apply st_fld); (focus infer_instance); (focus exact rfl)) | ((with_reducible apply st_const); (focus infer_instance); (focus exact rfl)) | ((with_reducible apply st_emt); (focus infer_instance); (focus exact rfl)) | ((with_reducible apply st_ixL); (focus infer_instance); (focus (first | exact rfl | exact atI_nat (by assumption)))) | ((with_reducible apply st_ixT); (focus infer_instance); (focus (first | exact rfl | exact atI_nat (by assumption)))) | ((with_reducible apply st_gtup); (focus infer_instance); (focus (first | exact rfl | exact atI_nat (by assumption)))) | ((with_reducible apply st_newL); (focus (refine len_ok ?_; simp only [List.length_cons, List.length_nil, List.length_append, List.length_map, List.length_set, List.length_take, List.length_drop]; omega)); intro l Hn nw) | ((with_reducible apply st_newT); (focus (refine len_ok ?_; simp only [List.length_cons, List.length_nil, List.length_append, List.length_map, List.length_set, List.length_take, List.length_drop]; omega)); intro l Hn nw) | ((with_reducible apply st_listL); (focus infer_instance); intro l Hn nw) | ((with_reducible apply st_listT); (focus infer_instance); intro l Hn nw) | ((with_reducible apply st_tupL); (focus infer_instance); intro l Hn nw) | ((with_reducible apply st_slL); (focus infer_instance); intro l Hn nw) | ((with_reducible apply st_cat); (focus infer_instance); (focus infer_instance); (focus (refine len_ok ?_; simp only [List.length_cons, List.length_nil, List.length_append, List.length_map, List.length_set, List.length_take, List.length_drop]; omega)); intro l Hn nw))))
section
variable {P : Program} {w : World} {K : PySem.W.Frag} {mg : Str → Option Value} {base : Heap} {f : Addr} {fd : FuncData} {Tb : List (Addr × Str)}
abbrev N__law_pen : List Str := ["_law_script"]
theorem sc__law_pen : FnScope N__law_pen ["_law_script"] (defScope s__law_pen) := ⟨rfl, rfl, rfl, by decide +kernel, rfl, by decide +kernel, by decide +kernel⟩
theorem ok0__law_pen (F : FnA K d__law_pen fd) (T : Tx K mg) : FnOk P w K mg base CX0 1 (d__law_pen.adr K) fd ["_law_script"] (spPn K) := by
  refine fnO0 F sc__law_pen (fun vs H Q E h => by (repeat (first | (obtain ⟨rfl, _⟩ := h; rfl) | (obtain ⟨_, h⟩ := h)))) (fun cdv A outer s H vs Q E hr h => ?_)
  refine ⟨_, (pss_one (ps_ret (pe_lst (pa_cons (pe_callTy (cr_listOf (K := K) rfl) (by rfl) T.f_list (by decide +kernel) (pa_cons (pe_slice (sl_listK (K := K) rfl) (pv 0) po_none (po_some pe_int)) pa_nil)) (pa_cons pe_int (pa_cons pe_int pa_nil)))))), ?_⟩
  obtain ⟨a, ns, rfl, hS, hl, q⟩ := h
  have ec : cutV (ns.map V.int) none (some 63) = ns.map V.int := cut_all (by rw [List.length_map]; exact hl)
  symm_saturate
  refine st_slLs hS fun c H1 n1 => ?_
  rw [ec] at n1
  symm_saturate
  refine st_listL (by infer_instance) fun e H2 n2 => ?_
  symm_saturate
  refine st_newL (by (refine len_ok ?_; simp only [List.length_cons, List.length_nil, List.length_append, List.length_map, List.length_set, List.length_take, List.length_drop]; omega)) fun p H3 n3 => ?_
  refine q p e _ (n1.same.free (n2.same.free n3.no)) ⟨ns, 0, 0, by infer_instance, by infer_instance, hl, Int.le_refl _, by decide, Int.le_refl _⟩ (n1.same.trans (n2.same.trans n3.same))
abbrev N__law_draw : List Str := ["_law_pen_here", "_law_many", "_law_at", "_law_cell", "_law_mixed", "_law_digit", "_law_great"]
theorem sc__law_draw : FnScope N__law_draw ["_law_pen_here", "_law_many"] (defScope s__law_draw) := ⟨rfl, rfl, rfl, by decide +kernel, rfl, by decide +kernel, by decide +kernel⟩
theorem ok0__law_draw (F : FnA K d__law_draw fd) (T : Tx K mg) : FnOk P w K mg base CX0 1 (d__law_draw.adr K) fd ["_law_pen_here", "_law_many"] spDr := by
  refine fnO0 F sc__law_draw (fun vs H Q E h => by (repeat (first | (obtain ⟨rfl, _⟩ := h; rfl) | (obtain ⟨_, h⟩ := h)))) (fun cdv A outer s H vs Q E hr h => ?_)
  refine ⟨_, (pss_cons (ps_if (pt_cmpR op_gt (pe_ix (ix_listK (K := K) rfl) (pv 0) pe_int (fun _ _ => rfl)) pe_int (nomark _))
      (pss_cons (ps_set (i := 5) sc__law_draw.nd rfl (.inl rfl) (pe_op op_mod (pe_callTy cr_int (by rfl) T.f_int (by decide +kernel) (pa_cons (pe_ix (ix_listK (K := K) rfl) (pv 0) pe_int (fun _ _ => rfl)) pa_nil)) (pv 1)))
      (pss_cons (ps_asg (pe_op op_fdivW (pe_callTy cr_int (by rfl) T.f_int (by decide +kernel) (pa_cons (pe_ix (ix_listK (K := K) rfl) (pv 0) pe_int (fun _ _ => rfl)) pa_nil)) (pv 1)) (pg_sub (pv 0) pe_int set_list))
      (pss_one (ps_ret (pv 5))))) pss_nil)
      (pss_cons (ps_set (i := 2) sc__law_draw.nd rfl (.inl rfl) (pe_ix (ix_listK (K := K) rfl) (pv 0) pe_int (fun _ _ => rfl)))
      (pss_cons (ps_asg (pe_op op_add (pv 2) pe_int) (pg_sub (pv 0) pe_int set_list))
      (pss_cons (ps_set (i := 3) sc__law_draw.nd rfl (.inl rfl) (pe_op op_add (pe_op op_mul pe_int (pv 2)) pe_int))
      (pss_cut (ps_if (pt_cmpR (op_neDK (K := K) rfl hr.units) (pe_ix (ix_listK (K := K) rfl) (pv 0) pe_int (fun _ _ => rfl)) (pe_lst pa_nil) (nomark _))
      (pss_one (ps_set (i := 3) sc__law_draw.nd rfl (.inl rfl) (pe_ix (ix_listK (K := K) rfl) (pe_ix (ix_listK (K := K) rfl) (pv 0) pe_int (fun _ _ => rfl)) (pe_op op_mod (pe_callTy cr_int (by rfl) T.f_int (by decide +kernel) (pa_cons (pv 2) pa_nil)) (pe_callB (cr_len (K := K) rfl) (by rfl) T.f_len (by decide +kernel) (pa_cons (pe_ix (ix_listK (K := K) rfl) (pv 0) pe_int (fun _ _ => rfl)) pa_nil))) (fun _ _ => rfl)))) pss_nil)
      (pss_cut (ps_if (PW.pt (pw_and (pt_cmpR op_lt (pv 2) (pe_callB (cr_len (K := K) rfl) (by rfl) T.f_len (by decide +kernel) (pa_cons (pe_ix (ix_listK (K := K) rfl) (pv 0) pe_int (fun _ _ => rfl)) pa_nil)) (nomark _)) (pw_and1 (pt_cmpR op_ge (pe_callB cr_abs (by rfl) T.f_abs (by decide +kernel) (pa_cons (pv 3) pa_nil)) (pe_op (op_powK 1000000000000000000) pe_int pe_int) (nomark _)))))
      (pss_cons (ps_set (i := 6) sc__law_draw.nd rfl (.inl rfl) (pe_op op_add (pe_op op_mul pe_int (pe_op op_sub (pe_callB cr_abs (by rfl) T.f_abs (by decide +kernel) (pa_cons (pv 3) pa_nil)) (pe_op (op_powK 1000000000000000000) pe_int pe_int))) (pe_callTy cr_int (by rfl) T.f_int (by decide +kernel) (pa_cons (pe_cmpR op_lt (pv 3) pe_int (nomark _)) pa_nil))))
      (pss_cons (ps_asg (pe_op op_fdivW (pe_callTy cr_int (by rfl) T.f_int (by decide +kernel) (pa_cons (pv 6) pa_nil)) (pv 1)) (pg_sub (pv 0) pe_int set_list))
      (pss_one (ps_ret (pe_op op_mod (pe_callTy cr_int (by rfl) T.f_int (by decide +kernel) (pa_cons (pv 6) pa_nil)) (pv 1)))))) pss_nil)
      (pss_cons (ps_set (i := 4) sc__law_draw.nd rfl (.inl rfl) (pe_op op_mod (pe_callTy cr_int (by rfl) T.f_int (by decide +kernel) (pa_cons (pe_op op_pow (pe_op op_add (pe_op op_add (pe_op op_mod (pe_callTy cr_int (by rfl) T.f_int (by decide +kernel) (pa_cons (pv 3) pa_nil)) pe_int) (pe_op op_mul pe_int (pv 2))) pe_int) pe_int) pa_nil)) pe_int))
      (pss_cons (ps_set (i := 4) sc__law_draw.nd rfl (.inl rfl) (pe_op op_mod (pe_callTy cr_int (by rfl) T.f_int (by decide +kernel) (pa_cons (pe_op op_pow (pe_op op_add (pe_op op_add (pe_op op_mul (pv 4) (pe_op op_add (pe_op op_mul pe_int (pv 2)) pe_int)) (pe_op op_mul (pe_op op_mul pe_int (pv 2)) (pv 2))) pe_int) pe_int) pa_nil)) pe_int))
      (pss_one (ps_ret (pe_op op_mod (pe_callTy cr_int (by rfl) T.f_int (by decide +kernel) (pa_cons (pe_op op_fdivW (pv 4) pe_int) pa_nil)) (pv 1)))))))))))), ?_⟩
  obtain ⟨p, c, b, m, rfl, hm, hlog, ⟨ns, i, z, hp, hc, hl, hi, hb, hz⟩, q⟩ := h
  have ncp : c ≠ p := pen_ne hp hc
  have mm := fun x : Int => mod_lt x hm
  have hdiv : ∀ x, CDivW x m := fun _ => ⟨hm, hlog⟩
  symm_saturate
  refine ite2 (fun h1 => ?_) (fun h1 => ?_)
  · symm_saturate
    refine st_rI (hdiv _) ?_
    symm_saturate
    refine st_setL hp rfl fun H1 n1 => ?_
    symm_saturate
    exact q _ _ (mm z).1 (mm z).2 ⟨ns, i, z / m, by infer_instance, by infer_instance, hl, hi, by omega, Int.ediv_nonneg hz (by omega)⟩ n1.keep
  · have z0 : z = 0 := by
      have : ¬ (z > 0) := by simpa using h1
      omega
    subst z0
    symm_saturate
    refine st_setL hp rfl fun H2 n2 => ?_
    have hp2 : H2 p = some (.lst [.ref c, .int (i + 1), .int 0]) := n2.at_
    have hc2 : H2 c = some (.lst (ns.map V.int)) := by infer_instance
    have k2 := n2.keep
    clear n2
    symm_saturate
    refine ⟨fun σ' H' => ∃ cell : Int, σ' = [some (.ref p), some (.int m), some (.int i), some (.int cell), none, none, none] ∧ H' p = some (.lst [.ref c, .int (i + 1), .int 0]) ∧ H' c = some (.lst (ns.map V.int)) ∧ Keep H H' p, ?_, ?_⟩
    · -- if the cells are not empty
      symm_saturate
      refine st_newL (by (refine len_ok ?_; simp only [List.length_cons, List.length_nil, List.length_append, List.length_map, List.length_set, List.length_take, List.length_drop]; omega)) fun e H3 n3 => ?_
      have hp3 : H3 p = some (.lst [.ref c, .int (i + 1), .int 0]) := by infer_instance
      have hc3 : H3 c = some (.lst (ns.map V.int)) := by infer_instance
      have k3 : Keep H H3 p := fun a o h1 h2 => n3.up (k2 _ _ h1 h2)
      refine st_neD (.lst (SqL.of hc3) (dp_ints K _ ns)) (.lst (SqL.of n3.at_) .nil) (PySem.W.ke_shaped_ints ns) (by decide +kernel) ?_
      clear n3
      symm_saturate
      refine ite2 (fun h2 => ?_) (fun h2 => ?_)
      · have hne : 0 < ns.length := by
          rw [eqv_nil] at h2
          cases ns with
          | nil => cases h2
          | cons a r => exact Nat.succ_pos _
        have hlen : (0 : Int) < ((ns.map V.int).length : Int) := by rw [List.length_map]; omega
        have mi := mod_lt i hlen
        obtain ⟨v, ev, _⟩ := atI_int (ns := ns) (i := i % ((ns.map V.int).length : Int)) mi.1 (by have := mi.2; rw [List.length_map] at this ⊢; exact this)
        symm_saturate
        refine st_ixL hc3 ev ?_
        symm_saturate
        exact ⟨v, rfl, hp3, hc3, k3⟩
      · symm_saturate
        exact ⟨_, rfl, hp3, hc3, k3⟩
    · rintro σ' H' ⟨cell, rfl, hp3, hc3, k3⟩
      -- a great cell?
      refine ⟨fun σ1 H1 => σ1 = [some (.ref p), some (.int m), some (.int i), some (.int cell), none, none, none] ∧ H1 = H', ?_, ?_⟩
      · symm_saturate
        refine ite2 (fun _ => ?_) (fun _ => ?_)
        · symm_saturate
          refine ite2 (fun h3 => ?_) (fun _ => ?_)
          · have hab : 1000000000000000000 ≤ (if cell < 0 then -cell else cell) := by simpa using h3
            symm_saturate
            have hgr : 0 ≤ 2 * ((if cell < 0 then -cell else cell) - 1000000000000000000) + (if decide (cell < 0) = true then 1 else 0) := by
              have : (0 : Int) ≤ (if decide (cell < 0) = true then 1 else 0) := by split <;> decide
              omega
            refine st_rI (hdiv _) ?_
            symm_saturate
            refine st_setL hp3 rfl fun H4 n4 => ?_
            symm_saturate
            refine q _ _ (mm _).1 (mm _).2 ⟨ns, i + 1, _, n4.at_, by infer_instance, hl, by omega, by omega, Int.ediv_nonneg hgr (by omega)⟩ (k3.trans n4.keep)
          · symm_saturate
            exact ⟨rfl, rfl⟩
        · symm_saturate
          exact ⟨rfl, rfl⟩
      · rintro σ1 H1 ⟨rfl, rfl⟩
        have hi2 : i ≤ 1000000 := by omega
        -- the first mix
        symm_saturate
        refine st_rI ⟨by decide, by decide, ?_⟩ ?_
        · refine pow_lt ?_ ?_ <;> omega
        have hx := mod_lt ((cell % 2147483587 + 46231 * i + 253) ^ (5 : Int).toNat) (show (0 : Int) < 2147483549 by decide)
        -- the second one
        symm_saturate
        refine st_rI ⟨by decide, by decide, ?_⟩ ?_
        · exact mix_ok hx.1 (Int.lt_trans hx.2 (by decide)) hi hi2 ⟨by decide, by decide⟩ ⟨by decide, by decide⟩ ⟨by decide, by decide⟩
        symm_saturate
        exact q _ _ (mm _).1 (mm _).2 ⟨ns, i + 1, 0, hp3, hc3, hl, by omega, by omega, Int.le_refl _⟩ k3
theorem ok__law_pen (F : FnA K d__law_pen fd) (T : Tx K mg) : FnOk P w K mg base CX0 1 (d__law_pen.adr K) fd ["_law_script"] (spPn K) := ok0__law_pen F T
theorem ok__law_draw (F : FnA K d__law_draw fd) (T : Tx K mg) : FnOk P w K mg base CX0 1 (d__law_draw.adr K) fd ["_law_pen_here", "_law_many"] (Gp.spF K Tb (Gp.ul2 Gp.F_draw)) := Gp.fnOk_weak (ok0__law_draw F T) fun _ _ _ _ => Gp.draw_of
end
end Lw
end
section
set_option Elab.async false
set_option linter.all false
set_option maxRecDepth 100000
set_option maxHeartbeats 4000000
set_option pp.maxSteps 600
namespace Lw
open PySem PySem.Spec PyProof.Rows L2 Gh Gp Gz
section
variable {P : Program} {w : World} {K : PySem.W.Frag} {mg : Str → Option Value} {base : Heap} {f : Addr} {fd : FuncData} {Tb : List (Addr × Str)}
abbrev N_BadLength___init__ : List Str := ["self", "value"]
theorem sc_BadLength___init__ : FnScope N_BadLength___init__ ["self", "value"] (defScope s_BadLength___init__) := ⟨rfl, rfl, rfl, by decide +kernel, rfl, by decide +kernel, by decide +kernel⟩
theorem ok_BadLength___init__ (F : FnA K d_BadLength___init__ fd) (T : Tx K mg) : FnOk P w K mg base CX0 1 (d_BadLength___init__.adr K) fd ["self", "value"] (spErr1 (gd "BadLength" K) "value") := by
  refine fnO0 F sc_BadLength___init__ (fun vs H Q E h => ?_) (fun cdv A outer s H vs Q E hr h => ?_)
  · obtain ⟨a, v, rfl, _⟩ := h
    rfl
  · obtain ⟨a, v, rfl, ha, q⟩ := h
    refine ⟨_, pss_one (ps_ost (pv 0) (pv 1)), ?_⟩
    exact ⟨_, rfl, _, rfl, a, _, rfl, T.ox_BadLength, T.n_BadLength_value, .inl ⟨ha, q⟩⟩
abbrev N_BadPlace___init__ : List Str := ["self", "value"]
theorem sc_BadPlace___init__ : FnScope N_BadPlace___init__ ["self", "value"] (defScope s_BadPlace___init__) := ⟨rfl, rfl, rfl, by decide +kernel, rfl, by decide +kernel, by decide +kernel⟩
theorem ok_BadPlace___init__ (F : FnA K d_BadPlace___init__ fd) (T : Tx K mg) : FnOk P w K mg base CX0 1 (d_BadPlace___init__.adr K) fd ["self", "value"] (spErr1 (gd "BadPlace" K) "value") := by
  refine fnO0 F sc_BadPlace___init__ (fun vs H Q E h => ?_) (fun cdv A outer s H vs Q E hr h => ?_)
  · obtain ⟨a, v, rfl, _⟩ := h
    rfl
  · obtain ⟨a, v, rfl, ha, q⟩ := h
    refine ⟨_, pss_one (ps_ost (pv 0) (pv 1)), ?_⟩
    exact ⟨_, rfl, _, rfl, a, _, rfl, T.ox_BadPlace, T.n_BadPlace_value, .inl ⟨ha, q⟩⟩
abbrev N_Overlap___init__ : List Str := ["self", "length"]
theorem sc_Overlap___init__ : FnScope N_Overlap___init__ ["self", "length"] (defScope s_Overlap___init__) := ⟨rfl, rfl, rfl, by decide +kernel, rfl, by decide +kernel, by decide +kernel⟩
theorem ok_Overlap___init__ (F : FnA K d_Overlap___init__ fd) (T : Tx K mg) : FnOk P w K mg base CX0 1 (d_Overlap___init__.adr K) fd ["self", "length"] (spErr1 (gd "Overlap" K) "length") := by
  refine fnO0 F sc_Overlap___init__ (fun vs H Q E h => ?_) (fun cdv A outer s H vs Q E hr h => ?_)
  · obtain ⟨a, v, rfl, _⟩ := h
    rfl
  · obtain ⟨a, v, rfl, ha, q⟩ := h
    refine ⟨_, pss_one (ps_ost (pv 0) (pv 1)), ?_⟩
    exact ⟨_, rfl, _, rfl, a, _, rfl, T.ox_Overlap, T.n_Overlap_length, .inl ⟨ha, q⟩⟩
abbrev N_is_integer : List Str := ["value"]
theorem sc_is_integer : FnScope N_is_integer ["value"] (defScope s_is_integer) := ⟨rfl, rfl, rfl, by decide +kernel, rfl, by decide +kernel, by decide +kernel⟩
def F_is_integer (value : D) : Tr D :=
  fin (bd (bd (bd (bd (.ok value) fun d => bd (opt (isi_int d)) fun k => .ok (.bl k)) asB) fun k => if k = true then (bd (bd (bd (.ok value) fun d => bd (opt (isi_bool d)) fun k => .ok (.bl k)) asB) fun k => .ok (.bl (!k))) else .ok (.bl false)) fun d => .ok (.rt d))
theorem ok_is_integer (F : FnA K d_is_integer fd) (T : Tx K mg)  : FnOk P w K mg base CX0 1 (d_is_integer.adr K) fd ["value"] (spF K Tb (ul1 F_is_integer)) := by
  refine fnO0 F sc_is_integer (fun vs H Q E h => spF_len len1 h) (fun cdv A outer s H vs Q E hr h => ?_)
  refine ⟨_, (pss_cons (ps_ret (pe_and (pe_callB (call_isiZ (K := K) rfl) (by rfl) T.f_isinstance (by decide +kernel) (pa_cons (pv 0) (pa_cons (pe_bltn (v := .ty "int") (by rfl) T.f_int (by decide +kernel) rfl) pa_nil))) (pe_one (pe_not (pe_callB (call_isiZ (K := K) rfl) (by rfl) T.f_isinstance (by decide +kernel) (pa_cons (pv 0) (pa_cons (pe_bltn (v := .ty "bool") (by rfl) T.f_bool (by decide +kernel) rfl) pa_nil))))))) pss_nil), ?_⟩
  exact fn_of1 (F := F_is_integer) (envU := fun _ => List.replicate 1 .no) h (fun value => rfl) (fun p c value => (ss_ret (se_andV (se_isi (.ty _) (isT_int T) se_var) (se_notV (se_isi (.ty _) (isT_bool T) se_var)))))
abbrev N_is_within : List Str := ["value", "least", "most"]
theorem sc_is_within : FnScope N_is_within ["value", "least", "most"] (defScope s_is_within) := ⟨rfl, rfl, rfl, by decide +kernel, rfl, by decide +kernel, by decide +kernel⟩
def F_is_within (value least most : D) : Tr D :=
  fin (bd (bd (bd (bd (bd (.ok value) fun v1 => (bd (.ok []) fun r2 => .ok (v1 :: r2))) (ul1 F_is_integer)) asB) fun k => if k = true then (bd (.ok least) fun v3 => (bd (.ok value) fun v4 => (bd (bd (leD v3 v4) asB) fun k => if k = true then (bd (.ok most) fun v5 => leD v4 v5) else .ok (.bl false)))) else .ok (.bl false)) fun d => .ok (.rt d))
theorem ok_is_within (F : FnA K d_is_within fd) (T : Tx K mg) (G_is_integer : PromO P w K mg base CX0 1 (gd "is_integer" K) [] (spF K Tb (ul1 F_is_integer))) : FnOk P w K mg base CX0 2 (d_is_within.adr K) fd ["value", "least", "most"] (spF K Tb (ul3 F_is_within)) := by
  refine fnO0 F sc_is_within (fun vs H Q E h => spF_len len3 h) (fun cdv A outer s H vs Q E hr h => ?_)
  refine ⟨_, (pss_cons (ps_ret (pe_and (pe_g (PromO.call G_is_integer (hr.mono (by decide)) (passA (E := E))) (by rfl) T.g_is_integer T.k_is_integer (pa_cons (pv 0) pa_nil)) (pe_one (pe_chain op_le op_le (pv 1) (pv 0) (pv 2))))) pss_nil), ?_⟩
  exact fn_of3 (F := F_is_within) (envU := fun _ => List.replicate 3 .no) h (fun value least most => rfl) (fun p c value least most => (ss_ret (se_andV (se_cl srl_sp0 (sa_cons se_var sa_nil)) (se_chain sr_le sr_le se_var se_var se_var))))
abbrev N_is_length : List Str := ["value"]
theorem sc_is_length : FnScope N_is_length ["value"] (defScope s_is_length) := ⟨rfl, rfl, rfl, by decide +kernel, rfl, by decide +kernel, by decide +kernel⟩
def F_is_length (value : D) : Tr D :=
  fin (bd (bd (bd (.ok value) fun v5 => (bd (bd (.ok (.int 1)) fun v3 => (bd (bd (.ok (.int 10000000000000000000000000000000000000000)) fun v1 => (bd (.ok []) fun r2 => .ok (v1 :: r2))) fun r4 => .ok (v3 :: r4))) fun r6 => .ok (v5 :: r6))) (ul3 F_is_within)) fun d => .ok (.rt d))
theorem ok_is_length (F : FnA K d_is_length fd) (T : Tx K mg) (G_is_within : PromO P w K mg base CX0 2 (gd "is_within" K) [] (spF K Tb (ul3 F_is_within))) : FnOk P w K mg base CX0 3 (d_is_length.adr K) fd ["value"] (spF K Tb (ul1 F_is_length)) := by
  refine fnO0 F sc_is_length (fun vs H Q E h => spF_len len1 h) (fun cdv A outer s H vs Q E hr h => ?_)
  refine ⟨_, (pss_cons (ps_ret (pe_g (PromO.call G_is_within (hr.mono (by decide)) (passA (E := E))) (by rfl) T.g_is_within T.k_is_within (pa_cons (pv 0) (pa_cons pe_int (pa_cons (pe_gi T.m_GREATEST_LENGTH (by rfl)) pa_nil))))) pss_nil), ?_⟩
  exact fn_of1 (F := F_is_length) (envU := fun _ => List.replicate 1 .no) h (fun value => rfl) (fun p c value => (ss_ret (se_cl srl_sp0 (sa_cons se_var (sa_cons se_int (sa_cons se_int sa_nil))))))
abbrev N_need_length : List Str := ["value"]
theorem sc_need_length : FnScope N_need_length ["value"] (defScope s_need_length) := ⟨rfl, rfl, rfl, by decide +kernel, rfl, by decide +kernel, by decide +kernel⟩
def F_need_length (value : D) : Tr D :=
  fin (bdF (W' := Unit) (bd (bd (bd (bd (bd (.ok value) fun v1 => (bd (.ok []) fun r2 => .ok (v1 :: r2))) (ul1 F_is_length)) asB) fun k => .ok (!k)) fun k => if k = true then (bd (.ok value) fun d => .ex "BadLength" [("value", d)]) else (.ok (.nx ()))) fun (w3 : Unit) => (.ok (.nx ())))
theorem ok_need_length (F : FnA K d_need_length fd) (T : Tx K mg) (G_is_length : PromO P w K mg base CX0 3 (gd "is_length" K) [] (spF K Tb (ul1 F_is_length))) (G_BadLength___init__ : PromO P w K mg base CX0 1 (md "BadLength" "__init__" K) [] (spErr1 (gd "BadLength" K) "value")) : FnOk P w K mg base (L2.CX P w) 4 (d_need_length.adr K) fd ["value"] (spF K Tb (ul1 F_need_length)) := by
  refine F.ok sc_need_length (fun vs H Q E h => spF_len len1 h) (fun cdv A outer s H vs Q E hr h => ?_)
  refine ⟨_, (pss_cons (ps_if (pt_not (pt_val (pe_g (PromO.call G_is_length (hr.mono (by decide)) (passA (E := E))) (by rfl) T.g_is_length T.k_is_length (pa_cons (pv 0) pa_nil))))
      (pss_cons (ps_raise rfl (takes_of rfl rfl rfl rfl) (pmk_po T.ox_BadLength T.in_BadLength.iC T.in_BadLength.tI G_BadLength___init__ (hr.mono (by decide)) pass0 T.g_BadLength (pa_cons (pv 0) pa_nil))) pss_nil) pss_nil)
      pss_nil), ?_⟩
  exact fn_of1 (F := F_need_length) (envU := fun _ => List.replicate 1 .no) h (fun value => rfl) (fun p c value => (ss_if (fun (w3 : Unit) => [.fz value]) (sb_not (sb_tb (se_cl srl_sp0 (sa_cons se_var sa_nil)))) (ss_raise1 se_var) (ss_nx (.s .nil)) (fun (w3 : Unit) => (ss_nx (le_no _ rfl)))))
abbrev N_need_place : List Str := ["n", "value"]
theorem sc_need_place : FnScope N_need_place ["n", "value"] (defScope s_need_place) := ⟨rfl, rfl, rfl, by decide +kernel, rfl, by decide +kernel, by decide +kernel⟩
def F_need_place (n value : D) : Tr D :=
  fin (bd (bd (bd (.ok n) fun v1 => (bd (.ok []) fun r2 => .ok (v1 :: r2))) (ul1 F_need_length)) fun _ => (bdF (W' := Unit) (bd (bd (bd (bd (bd (.ok value) fun v9 => (bd (bd (.ok (.int 0)) fun v7 => (bd (bd (bd (.ok n) fun v3 => (bd (.ok (.int 1)) fun v4 => subD v3 v4)) fun v5 => (bd (.ok []) fun r6 => .ok (v5 :: r6))) fun r8 => .ok (v7 :: r8))) fun r10 => .ok (v9 :: r10))) (ul3 F_is_within)) asB) fun k => .ok (!k)) fun k => if k = true then (bd (.ok value) fun d => .ex "BadPlace" [("value", d)]) else (.ok (.nx ()))) fun (w11 : Unit) => (.ok (.nx ()))))
theorem ok_need_place (F : FnA K d_need_place fd) (T : Tx K mg) (G_need_length : PromO P w K mg base (L2.CX P w) 4 (gd "need_length" K) [] (spF K Tb (ul1 F_need_length))) (G_is_within : PromO P w K mg base CX0 2 (gd "is_within" K) [] (spF K Tb (ul3 F_is_within))) (G_BadPlace___init__ : PromO P w K mg base CX0 1 (md "BadPlace" "__init__" K) [] (spErr1 (gd "BadPlace" K) "value")) : FnOk P w K mg base (L2.CX P w) 5 (d_need_place.adr K) fd ["n", "value"] (spF K Tb (ul2 F_need_place)) := by
  refine F.ok sc_need_place (fun vs H Q E h => spF_len len2 h) (fun cdv A outer s H vs Q E hr h => ?_)
  refine ⟨_, (pss_cons (ps_expr (pe_g (PromO.call G_need_length (hr.mono (by decide)) (pass_on rfl rfl rfl rfl)) (by rfl) T.g_need_length T.k_need_length (pa_cons (pv 0) pa_nil)))
      (pss_cons (ps_if (pt_not (pt_val (pe_g (PromO.call G_is_within (hr.mono (by decide)) (passA (E := E))) (by rfl) T.g_is_within T.k_is_within (pa_cons (pv 1) (pa_cons pe_int (pa_cons (pe_op op_sub (pv 0) pe_int) pa_nil))))))
      (pss_cons (ps_raise rfl (takes_of rfl rfl rfl rfl) (pmk_po T.ox_BadPlace T.in_BadPlace.iC T.in_BadPlace.tI G_BadPlace___init__ (hr.mono (by decide)) pass0 T.g_BadPlace (pa_cons (pv 1) pa_nil))) pss_nil) pss_nil)
      pss_nil)), ?_⟩
  exact fn_of2 (F := F_need_place) (envU := fun _ => List.replicate 2 .no) h (fun n value => rfl) (fun p c n value => (ss_drop (se_cl srl_sp0 (sa_cons se_var sa_nil)) (ss_if (fun (w11 : Unit) => [.fz n, .fz value]) (sb_not (sb_tb (se_cl srl_sp0 (sa_cons se_var (sa_cons se_int (sa_cons (se_op sr_sub se_var se_int) sa_nil)))))) (ss_raise1 se_var) (ss_nx (.s (.s .nil))) (fun (w11 : Unit) => (ss_nx (le_no _ rfl))))))
abbrev N_is_rest : List Str := ["value"]
theorem sc_is_rest : FnScope N_is_rest ["value"] (defScope s_is_rest) := ⟨rfl, rfl, rfl, by decide +kernel, rfl, by decide +kernel, by decide +kernel⟩
def F_is_rest (value : D) : Tr D :=
  fin (bd (bd (bd (.ok value) fun v5 => (bd (bd (.ok (.int 0)) fun v3 => (bd (bd (.ok (.int 3)) fun v1 => (bd (.ok []) fun r2 => .ok (v1 :: r2))) fun r4 => .ok (v3 :: r4))) fun r6 => .ok (v5 :: r6))) (ul3 F_is_within)) fun d => .ok (.rt d))
theorem ok_is_rest (F : FnA K d_is_rest fd) (T : Tx K mg) (G_is_within : PromO P w K mg base CX0 2 (gd "is_within" K) [] (spF K Tb (ul3 F_is_within))) : FnOk P w K mg base CX0 3 (d_is_rest.adr K) fd ["value"] (spF K Tb (ul1 F_is_rest)) := by
  refine fnO0 F sc_is_rest (fun vs H Q E h => spF_len len1 h) (fun cdv A outer s H vs Q E hr h => ?_)
  refine ⟨_, (pss_cons (ps_ret (pe_g (PromO.call G_is_within (hr.mono (by decide)) (passA (E := E))) (by rfl) T.g_is_within T.k_is_within (pa_cons (pv 0) (pa_cons pe_int (pa_cons pe_int pa_nil))))) pss_nil), ?_⟩
  exact fn_of1 (F := F_is_rest) (envU := fun _ => List.replicate 1 .no) h (fun value => rfl) (fun p c value => (ss_ret (se_cl srl_sp0 (sa_cons se_var (sa_cons se_int (sa_cons se_int sa_nil))))))
abbrev N_need_rest : List Str := ["value"]
theorem sc_need_rest : FnScope N_need_rest ["value"] (defScope s_need_rest) := ⟨rfl, rfl, rfl, by decide +kernel, rfl, by decide +kernel, by decide +kernel⟩
def F_need_rest (value : D) : Tr D :=
  fin (bdF (W' := Unit) (bd (bd (bd (bd (bd (.ok value) fun v1 => (bd (.ok []) fun r2 => .ok (v1 :: r2))) (ul1 F_is_rest)) asB) fun k => .ok (!k)) fun k => if k = true then .bad else (.ok (.nx ()))) fun (w3 : Unit) => (.ok (.nx ())))
theorem ok_need_rest (F : FnA K d_need_rest fd) (T : Tx K mg) (G_is_rest : PromO P w K mg base CX0 3 (gd "is_rest" K) [] (spF K Tb (ul1 F_is_rest))) : FnOk P w K mg base CX0 4 (d_need_rest.adr K) fd ["value"] (spF K Tb (ul1 F_need_rest)) := by
  refine fnO0 F sc_need_rest (fun vs H Q E h => spF_len len1 h) (fun cdv A outer s H vs Q E hr h => ?_)
  refine ⟨_, (pss_cons (ps_if (pt_not (pt_val (pe_g (PromO.call G_is_rest (hr.mono (by decide)) (passA (E := E))) (by rfl) T.g_is_rest T.k_is_rest (pa_cons (pv 0) pa_nil))))
      (pss_cons ps_never pss_nil) pss_nil)
      pss_nil), ?_⟩
  exact fn_of1 (F := F_need_rest) (envU := fun _ => List.replicate 1 .no) h (fun value => rfl) (fun p c value => (ss_if (fun (w3 : Unit) => [.fz value]) (sb_not (sb_tb (se_cl srl_sp0 (sa_cons se_var sa_nil)))) ss_never (ss_nx (.s .nil)) (fun (w3 : Unit) => (ss_nx (le_no _ rfl)))))
abbrev N_seat_at : List Str := ["n", "place"]
theorem sc_seat_at : FnScope N_seat_at ["n", "place"] (defScope s_seat_at) := ⟨rfl, rfl, rfl, by decide +kernel, rfl, by decide +kernel, by decide +kernel⟩
def F_seat_at (n place : D) : Tr D :=
  fin (bd (bd (bd (bd (bd (.ok place) fun v1 => (bd (.ok (.int 2)) fun v2 => modD v1 v2)) fun v3 => (bd (.ok (.int 0)) fun v4 => eqD v3 v4)) asB) fun k => if k = true then (bd (.ok place) fun v5 => (bd (.ok (.int 2)) fun v6 => divD v5 v6)) else (bd (bd (.ok n) fun v11 => (bd (bd (bd (.ok place) fun v7 => (bd (.ok (.int 1)) fun v8 => addD v7 v8)) fun v9 => (bd (.ok (.int 2)) fun v10 => divD v9 v10)) fun v12 => subD v11 v12)) fun v13 => (bd (.ok n) fun v14 => modD v13 v14))) fun d => .ok (.rt d))
theorem ok_seat_at (F : FnA K d_seat_at fd) (T : Tx K mg)  : FnOk P w K mg base CX0 1 (d_seat_at.adr K) fd ["n", "place"] (spF K Tb (ul2 F_seat_at)) := by
  refine fnO0 F sc_seat_at (fun vs H Q E h => spF_len len2 h) (fun cdv A outer s H vs Q E hr h => ?_)
  refine ⟨_, (pss_cons (ps_ret (pe_ifExp (pt_cmpR (op_eqA (K := K) rfl hr.units) (pe_op op_mod (pv 1) pe_int) pe_int (nomark _)) (pe_op op_fdivW (pv 1) pe_int) (pe_op op_mod (pe_op op_sub (pv 0) (pe_op op_fdivW (pe_op (op_addA (K := K) rfl) (pv 1) pe_int) pe_int)) (pv 0)))) pss_nil), ?_⟩
  exact fn_of2 (F := F_seat_at) (envU := fun _ => List.replicate 2 .no) h (fun n place => rfl) (fun p c n place => (ss_ret (se_if (sb_tst (se_op sr_eq (se_op sr_mod se_var se_int) se_int)) (se_op sr_div se_var se_int) (se_op sr_mod (se_op sr_sub se_var (se_op sr_div (se_op sr_add se_var se_int) se_int)) se_var))))
abbrev N_place_at : List Str := ["n", "seat"]
theorem sc_place_at : FnScope N_place_at ["n", "seat"] (defScope s_place_at) := ⟨rfl, rfl, rfl, by decide +kernel, rfl, by decide +kernel, by decide +kernel⟩
def F_place_at (n seat : D) : Tr D :=
  fin (bd (bd (bd (bd (bd (.ok (.int 2)) fun v1 => (bd (.ok seat) fun v2 => mulD v1 v2)) fun v3 => (bd (.ok n) fun v4 => ltD v3 v4)) asB) fun k => if k = true then (bd (.ok (.int 2)) fun v5 => (bd (.ok seat) fun v6 => mulD v5 v6)) else (bd (bd (.ok (.int 2)) fun v9 => (bd (bd (.ok n) fun v7 => (bd (.ok seat) fun v8 => subD v7 v8)) fun v10 => mulD v9 v10)) fun v11 => (bd (.ok (.int 1)) fun v12 => subD v11 v12))) fun d => .ok (.rt d))
theorem ok_place_at (F : FnA K d_place_at fd) (T : Tx K mg)  : FnOk P w K mg base CX0 1 (d_place_at.adr K) fd ["n", "seat"] (spF K Tb (ul2 F_place_at)) := by
  refine fnO0 F sc_place_at (fun vs H Q E h => spF_len len2 h) (fun cdv A outer s H vs Q E hr h => ?_)
  refine ⟨_, (pss_cons (ps_ret (pe_ifExp (pt_cmpR op_lt (pe_op op_mulA pe_int (pv 1)) (pv 0) (nomark _)) (pe_op op_mulA pe_int (pv 1)) (pe_op op_sub (pe_op op_mulA pe_int (pe_op op_sub (pv 0) (pv 1))) pe_int))) pss_nil), ?_⟩
  exact fn_of2 (F := F_place_at) (envU := fun _ => List.replicate 2 .no) h (fun n seat => rfl) (fun p c n seat => (ss_ret (se_if (sb_tst (se_op sr_lt (se_op sr_mul se_int se_var) se_var)) (se_op sr_mul se_int se_var) (se_op sr_sub (se_op sr_mul se_int (se_op sr_sub se_var se_var)) se_int))))
abbrev N_is_offset : List Str := ["value"]
theorem sc_is_offset : FnScope N_is_offset ["value"] (defScope s_is_offset) := ⟨rfl, rfl, rfl, by decide +kernel, rfl, by decide +kernel, by decide +kernel⟩
def F_is_offset (value : D) : Tr D :=
  fin (bd (bd (bd (.ok value) fun v9 => (bd (bd (bd (.ok (.int 1)) fun v1 => (bd (.ok (.int 1000000000000000000000000000000000000000000000000000000000000)) fun v2 => subD v1 v2)) fun v7 => (bd (bd (bd (.ok (.int 1000000000000000000000000000000000000000000000000000000000000)) fun v3 => (bd (.ok (.int 1)) fun v4 => subD v3 v4)) fun v5 => (bd (.ok []) fun r6 => .ok (v5 :: r6))) fun r8 => .ok (v7 :: r8))) fun r10 => .ok (v9 :: r10))) (ul3 F_is_within)) fun d => .ok (.rt d))
theorem ok_is_offset (F : FnA K d_is_offset fd) (T : Tx K mg) (G_is_within : PromO P w K mg base CX0 2 (gd "is_within" K) [] (spF K Tb (ul3 F_is_within))) : FnOk P w K mg base CX0 3 (d_is_offset.adr K) fd ["value"] (spF K Tb (ul1 F_is_offset)) := by
  refine fnO0 F sc_is_offset (fun vs H Q E h => spF_len len1 h) (fun cdv A outer s H vs Q E hr h => ?_)
  refine ⟨_, (pss_cons (ps_ret (pe_g (PromO.call G_is_within (hr.mono (by decide)) (passA (E := E))) (by rfl) T.g_is_within T.k_is_within (pa_cons (pv 0) (pa_cons (pe_op op_sub pe_int (pe_op (op_powK 1000000000000000000000000000000000000000000000000000000000000) pe_int pe_int)) (pa_cons (pe_op op_sub (pe_op (op_powK 1000000000000000000000000000000000000000000000000000000000000) pe_int pe_int) pe_int) pa_nil))))) pss_nil), ?_⟩
  exact fn_of1 (F := F_is_offset) (envU := fun _ => List.replicate 1 .no) h (fun value => rfl) (fun p c value => (ss_ret (se_cl srl_sp0 (sa_cons se_var (sa_cons (se_op sr_sub se_int (se_powK (by decide) (by decide) (by decide))) (sa_cons (se_op sr_sub (se_powK (by decide) (by decide) (by decide)) se_int) sa_nil))))))
abbrev N_is_pair_row : List Str := ["value", "pair"]
theorem sc_is_pair_row : FnScope N_is_pair_row ["value"] (defScope s_is_pair_row) := ⟨rfl, rfl, rfl, by decide +kernel, rfl, by decide +kernel, by decide +kernel⟩
def F_is_pair_row (value : D) : Tr D :=
  fin (bdF (W' := Unit) (bd (bd (bd (bd (.ok value) fun d => bd (opt (isi_list_tuple d)) fun k => .ok (.bl k)) asB) fun k => .ok (!k)) fun k => if k = true then (bd (.ok (.bl false)) fun d => .ok (.rt d)) else (.ok (.nx ()))) fun (w1 : Unit) => (bdF (bd (bd (.ok value) itD) fun ds => forF (fun (d3 : D) (w2 : Unit) => (bdF (W' := Unit) (bd (bd (bd (bd (bd (.ok d3) fun d => bd (opt (isi_tuple d)) fun k => .ok (.bl k)) asB) fun k => .ok (!k)) fun k => if k = true then .ok true else (bd (bd (bd (bd (bd (.ok d3) fun v5 => (bd (.ok []) fun r6 => .ok (v5 :: r6))) (ul1 lenD)) fun v7 => (bd (.ok (.int 2)) fun v8 => neD v7 v8)) asB) fun k => if k = true then .ok true else (bd (bd (bd (bd (bd (bd (.ok d3) fun v9 => (bd (.ok (.int 0)) fun v10 => ixD v9 v10)) fun v11 => (bd (.ok []) fun r12 => .ok (v11 :: r12))) (ul1 F_is_offset)) asB) fun k => .ok (!k)) fun k => if k = true then .ok true else (bd (bd (bd (bd (bd (.ok d3) fun v13 => (bd (.ok (.int 1)) fun v14 => ixD v13 v14)) fun v15 => (bd (.ok []) fun r16 => .ok (v15 :: r16))) (ul1 F_is_offset)) asB) fun k => .ok (!k))))) fun k => if k = true then (bd (.ok (.bl false)) fun d => .ok (.rt d)) else (.ok (.nx ()))) fun (w17 : Unit) => (bdF (W' := Unit) (bd (bd (bd (bd (.ok d3) fun v18 => (bd (.ok (.int 0)) fun v19 => ixD v18 v19)) fun v22 => (bd (bd (.ok d3) fun v20 => (bd (.ok (.int 1)) fun v21 => ixD v20 v21)) fun v23 => eqD v22 v23)) asB) fun k => if k = true then (bd (.ok (.bl false)) fun d => .ok (.rt d)) else (.ok (.nx ()))) fun (w24 : Unit) => (.ok (.nx ()))))) ds ()) fun (w2 : Unit) => (bd (.ok (.bl true)) fun d => .ok (.rt d))))
theorem ok_is_pair_row (F : FnA K d_is_pair_row fd) (T : Tx K mg) (G_is_offset : PromO P w K mg base CX0 3 (gd "is_offset" K) [] (spF K Tb (ul1 F_is_offset))) : FnOk P w K mg base CX0 4 (d_is_pair_row.adr K) fd ["value"] (spF K Tb (ul1 F_is_pair_row)) := by
  refine fnO0 F sc_is_pair_row (fun vs H Q E h => spF_len len1 h) (fun cdv A outer s H vs Q E hr h => ?_)
  refine ⟨_, (pss_cons (ps_if (pt_not (pt_val (pe_callB (call_isiTK (K := K) rfl) (by rfl) T.f_isinstance (by decide +kernel) (pa_cons (pv 0) (pa_cons (pe_tup (pa_cons (pe_bltn (v := .ty "list") (by rfl) T.f_list (by decide +kernel) rfl) (pa_cons (pe_bltn (v := .ty "tuple") (by rfl) T.f_tuple (by decide +kernel) rfl) pa_nil))) pa_nil)))))
      (pss_cons (ps_ret pe_bl) pss_nil) pss_nil)
      (pss_cons (ps_for PassesOwn.never rfl (pi_seq (K := K) rfl (pv 0)) (pg_name (i := 1) sc_is_pair_row.nd rfl (.inl rfl))
      (pss_cons (ps_if (PW.pt (pw_or (pt_not (pt_val (pe_callB (call_isiZ (K := K) rfl) (by rfl) T.f_isinstance (by decide +kernel) (pa_cons (pv 1) (pa_cons (pe_bltn (v := .ty "tuple") (by rfl) T.f_tuple (by decide +kernel) rfl) pa_nil))))) (pw_or (pt_cmpR (op_neA (K := K) rfl hr.units) (pe_callB (cr_len (K := K) rfl) (by rfl) T.f_len (by decide +kernel) (pa_cons (pv 1) pa_nil)) pe_int (nomark _)) (pw_or (pt_not (pt_val (pe_g (PromO.call G_is_offset (hr.mono (by decide)) (passA (E := E))) (by rfl) T.g_is_offset T.k_is_offset (pa_cons (pe_ix (ix_seqK (K := K) rfl) (pv 1) pe_int (fun _ _ => rfl)) pa_nil)))) (pw_or1 (pt_not (pt_val (pe_g (PromO.call G_is_offset (hr.mono (by decide)) (passA (E := E))) (by rfl) T.g_is_offset T.k_is_offset (pa_cons (pe_ix (ix_seqK (K := K) rfl) (pv 1) pe_int (fun _ _ => rfl)) pa_nil)))))))))
      (pss_cons (ps_ret pe_bl) pss_nil) pss_nil)
      (pss_cons (ps_if (pt_cmpR (op_eqA (K := K) rfl hr.units) (pe_ix (ix_seqK (K := K) rfl) (pv 1) pe_int (fun _ _ => rfl)) (pe_ix (ix_seqK (K := K) rfl) (pv 1) pe_int (fun _ _ => rfl)) (nomark _))
      (pss_cons (ps_ret pe_bl) pss_nil) pss_nil)
      pss_nil)))
      (pss_cons (ps_ret pe_bl) pss_nil))), ?_⟩
  exact fn_of1 (F := F_is_pair_row) (envU := fun _ => List.replicate 2 .no) h (fun value => rfl) (fun p c value => (ss_if (fun (w1 : Unit) => [.fz value, .no]) (sb_not (sb_tb (se_isiT (isT_list_tuple T) se_var))) (ss_ret se_bl) (ss_nx (.s (.s .nil))) (fun (w1 : Unit) => (ss_for (fun (w2 : Unit) => [.fz value, .no]) (si_seq se_var) (.s (.s .nil)) (fun (d3 : D) (w2 : Unit) => (sx_name (ss_if (fun (w17 : Unit) => [.fz value, .fz d3]) (sb_or (sb_not (sb_tb (se_isi (.ty _) (isT_tuple T) se_var))) (sb_or (sb_tst (se_op sr_ne (se_cb srl_len (sa_cons se_var sa_nil)) se_int)) (sb_or (sb_not (sb_tb (se_cl srl_sp0 (sa_cons (se_op sr_ix se_var se_int) sa_nil)))) (sb_not (sb_tb (se_cl srl_sp0 (sa_cons (se_op sr_ix se_var se_int) sa_nil))))))) (ss_ret se_bl) (ss_nx (.s (.s .nil))) (fun (w17 : Unit) => (ss_if (fun (w24 : Unit) => [.fz value, .fz d3]) (sb_tst (se_op sr_eq (se_op sr_ix se_var se_int) (se_op sr_ix se_var se_int))) (ss_ret se_bl) (ss_nx (.s (.s .nil))) (fun (w24 : Unit) => (ss_nx (.s (.n .nil))))))))) (fun (w2 : Unit) => (ss_ret se_bl))))))
abbrev N_is_mark_row : List Str := ["value", "firsts", "seconds", "pair"]
theorem sc_is_mark_row : FnScope N_is_mark_row ["value"] (defScope s_is_mark_row) := ⟨rfl, rfl, rfl, by decide +kernel, rfl, by decide +kernel, by decide +kernel⟩
def F_is_mark_row (value : D) : Tr D :=
  fin (bdF (W' := Unit) (bd (bd (bd (bd (bd (.ok value) fun v1 => (bd (.ok []) fun r2 => .ok (v1 :: r2))) (ul1 F_is_pair_row)) asB) fun k => .ok (!k)) fun k => if k = true then (bd (.ok (.bl false)) fun d => .ok (.rt d)) else (.ok (.nx ()))) fun (w3 : Unit) => (bd (bd (bd (bd (bd (.ok value) itD) fun ds => bd (lcF (fun pair4 => nox (bd (bd (bd (bd (.ok pair4) fun v6 => (bd (.ok (.int 0)) fun v7 => ixD v6 v7)) fun v8 => (bd (.ok []) fun r9 => .ok (v8 :: r9))) (ul1 intD)) fun y => .ok (some y))) ds) fun r => .ok (.lst r)) fun v10 => (bd (.ok []) fun r11 => .ok (v10 :: r11))) (ul1 sortD)) fun firsts3 => (bd (bd (bd (bd (bd (.ok value) itD) fun ds => bd (lcF (fun pair12 => nox (bd (bd (bd (bd (.ok pair12) fun v14 => (bd (.ok (.int 1)) fun v15 => ixD v14 v15)) fun v16 => (bd (.ok []) fun r17 => .ok (v16 :: r17))) (ul1 intD)) fun y => .ok (some y))) ds) fun r => .ok (.lst r)) fun v18 => (bd (.ok []) fun r19 => .ok (v18 :: r19))) (ul1 sortD)) fun seconds11 => (bd (bd (bd (bd (.ok firsts3) fun v20 => (bd (.ok seconds11) fun v21 => eqD v20 v21)) asB) fun k => if k = true then (bd (bd (.ok firsts3) lenSD) fun v24 => (bd (bd (bd (.ok firsts3) fun v22 => (bd (.ok []) fun r23 => .ok (v22 :: r23))) (ul1 lenD)) fun v25 => eqD v24 v25)) else .ok (.bl false)) fun d => .ok (.rt d)))))
theorem ok_is_mark_row (F : FnA K d_is_mark_row fd) (T : Tx K mg) (G_is_pair_row : PromO P w K mg base CX0 4 (gd "is_pair_row" K) [] (spF K Tb (ul1 F_is_pair_row))) : FnOk P w K mg base CX0 5 (d_is_mark_row.adr K) fd ["value"] (spF K Tb (ul1 F_is_mark_row)) := by
  refine fnO0 F sc_is_mark_row (fun vs H Q E h => spF_len len1 h) (fun cdv A outer s H vs Q E hr h => ?_)
  refine ⟨_, (pss_cons (ps_if (pt_not (pt_val (pe_g (PromO.call G_is_pair_row (hr.mono (by decide)) (passA (E := E))) (by rfl) T.g_is_pair_row T.k_is_pair_row (pa_cons (pv 0) pa_nil))))
      (pss_cons (ps_ret pe_bl) pss_nil) pss_nil)
      (pss_cons (ps_set (i := 1) sc_is_mark_row.nd rfl (.inl rfl) (pe_callB (cr_sortedK (K := K) rfl) (by rfl) T.f_sorted (by decide +kernel) (pa_cons (pe_lc (own := [("pair", 3)]) (g := gName 3) (by rfl) sc_is_mark_row.nd (pi_seq (K := K) rfl (pv 0)) (blkOk_by (own := [("pair", 3)]) (N := N_is_mark_row) (sc := defScope s_is_mark_row) (by decide +kernel)) (fun _ _ _ _ _ => pg_name (i := 3) sc_is_mark_row.nd rfl (Or.inl rfl)) (fun _ _ _ _ _ => pts_nil) (fun _ _ _ _ _ => (pe_callTy cr_int (by rfl) T.f_int (by decide +kernel) (pa_cons (pe_ix (ix_seqK (K := K) rfl) (pv 3) pe_int (fun _ _ => rfl)) pa_nil)))) pa_nil)))
      (pss_cons (ps_set (i := 2) sc_is_mark_row.nd rfl (.inl rfl) (pe_callB (cr_sortedK (K := K) rfl) (by rfl) T.f_sorted (by decide +kernel) (pa_cons (pe_lc (own := [("pair", 3)]) (g := gName 3) (by rfl) sc_is_mark_row.nd (pi_seq (K := K) rfl (pv 0)) (blkOk_by (own := [("pair", 3)]) (N := N_is_mark_row) (sc := defScope s_is_mark_row) (by decide +kernel)) (fun _ _ _ _ _ => pg_name (i := 3) sc_is_mark_row.nd rfl (Or.inl rfl)) (fun _ _ _ _ _ => pts_nil) (fun _ _ _ _ _ => (pe_callTy cr_int (by rfl) T.f_int (by decide +kernel) (pa_cons (pe_ix (ix_seqK (K := K) rfl) (pv 3) pe_int (fun _ _ => rfl)) pa_nil)))) pa_nil)))
      (pss_cons (ps_ret (pe_and (pe_cmpR (op_eqA (K := K) rfl hr.units) (pv 1) (pv 2) (nomark _)) (pe_one (pe_cmpR (op_eqA (K := K) rfl hr.units) (pe_callB cr_lnSet (by rfl) T.f_len (by decide +kernel) (pa_cons (pe_callTy (cr_setI (K := K) rfl rfl) (by rfl) T.f_set (by decide +kernel) (pa_cons (pv 1) pa_nil)) pa_nil)) (pe_callB (cr_len (K := K) rfl) (by rfl) T.f_len (by decide +kernel) (pa_cons (pv 1) pa_nil)) (nomark _))))) pss_nil)))), ?_⟩
  exact fn_of1 (F := F_is_mark_row) (envU := fun _ => List.replicate 4 .no) h (fun value => rfl) (fun p c value => (ss_if (fun (w3 : Unit) => [.fz value, .no, .no, .no]) (sb_not (sb_tb (se_cl srl_sp0 (sa_cons se_var sa_nil)))) (ss_ret se_bl) (ss_nx (.s (.s (.s (.s .nil))))) (fun (w3 : Unit) => (ss_asg (se_cb srl_sorted (sa_cons (se_lc (si_seq se_var) (fun pair4 => (sc_map (se_cb srl_int (sa_cons (se_op sr_ix se_var se_int) sa_nil))))) sa_nil)) (fun firsts3 => (ss_asg (se_cb srl_sorted (sa_cons (se_lc (si_seq se_var) (fun pair12 => (sc_map (se_cb srl_int (sa_cons (se_op sr_ix se_var se_int) sa_nil))))) sa_nil)) (fun seconds11 => (ss_ret (se_andV (se_op sr_eq se_var se_var) (se_op sr_eq (se_lenS se_var) (se_cb srl_len (sa_cons se_var sa_nil))))))))))))
abbrev N_are_marks : List Str := ["value", "row"]
theorem sc_are_marks : FnScope N_are_marks ["value"] (defScope s_are_marks) := ⟨rfl, rfl, rfl, by decide +kernel, rfl, by decide +kernel, by decide +kernel⟩
def F_are_marks (value : D) : Tr D :=
  fin (bd (bd (bd (bd (.ok value) fun d => bd (opt (isi_list_tuple d)) fun k => .ok (.bl k)) asB) fun k => if k = true then (bd (bd (bd (bd (bd (.ok value) fun v1 => (bd (.ok []) fun r2 => .ok (v1 :: r2))) (ul1 lenD)) fun v5 => (bd (bd (bd (.ok (.tup [.int 0, .int 1, .int 2, .int 3])) fun v3 => (bd (.ok []) fun r4 => .ok (v3 :: r4))) (ul1 lenD)) fun v6 => eqD v5 v6)) asB) fun k => if k = true then (bd (bd (bd (bd (.ok value) itD) fun ds => bd (lcF (fun row6 => nox (bd (bd (bd (.ok row6) fun v8 => (bd (.ok []) fun r9 => .ok (v8 :: r9))) (ul1 F_is_mark_row)) fun y => .ok (some y))) ds) fun r => .ok (.lst r)) fun v10 => (bd (.ok []) fun r11 => .ok (v10 :: r11))) (ul1 allD)) else .ok (.bl false)) else .ok (.bl false)) fun d => .ok (.rt d))
theorem ok_are_marks (F : FnA K d_are_marks fd) (T : Tx K mg) (G_is_mark_row : PromO P w K mg base CX0 5 (gd "is_mark_row" K) [] (spF K Tb (ul1 F_is_mark_row))) : FnOk P w K mg base CX0 6 (d_are_marks.adr K) fd ["value"] (spF K Tb (ul1 F_are_marks)) := by
  refine fnO0 F sc_are_marks (fun vs H Q E h => spF_len len1 h) (fun cdv A outer s H vs Q E hr h => ?_)
  refine ⟨_, (pss_cons (ps_ret (pe_and (pe_callB (call_isiTK (K := K) rfl) (by rfl) T.f_isinstance (by decide +kernel) (pa_cons (pv 0) (pa_cons (pe_tup (pa_cons (pe_bltn (v := .ty "list") (by rfl) T.f_list (by decide +kernel) rfl) (pa_cons (pe_bltn (v := .ty "tuple") (by rfl) T.f_tuple (by decide +kernel) rfl) pa_nil))) pa_nil))) (pe_and (pe_cmpR (op_eqA (K := K) rfl hr.units) (pe_callB (cr_len (K := K) rfl) (by rfl) T.f_len (by decide +kernel) (pa_cons (pv 0) pa_nil)) (pe_callB (cr_len (K := K) rfl) (by rfl) T.f_len (by decide +kernel) (pa_cons (pe_glob (v := .ref (gd "QUARTERS" K)) rfl T.g_QUARTERS rfl) pa_nil)) (nomark _)) (pe_one (pe_callB (cr_allK (K := K) rfl rfl) (by rfl) T.f_all (by decide +kernel) (pa_cons (pe_lc (own := [("row", 1)]) (g := gName 1) (by rfl) sc_are_marks.nd (pi_seq (K := K) rfl (pv 0)) (blkOk_by (own := [("row", 1)]) (N := N_are_marks) (sc := defScope s_are_marks) (by decide +kernel)) (fun _ _ _ _ _ => pg_name (i := 1) sc_are_marks.nd rfl (Or.inl rfl)) (fun _ _ _ _ _ => pts_nil) (fun _ _ _ _ _ => (pe_g (PromO.call G_is_mark_row (hr.mono (by decide)) (passA (E := EF))) (by rfl) T.g_is_mark_row T.k_is_mark_row (pa_cons (pv 1) pa_nil)))) pa_nil)))))) pss_nil), ?_⟩
  exact fn_of1 (F := F_are_marks) (envU := fun _ => List.replicate 2 .no) h (fun value => rfl) (fun p c value => (ss_ret (se_andV (se_isiT (isT_list_tuple T) se_var) (se_andV (se_op sr_eq (se_cb srl_len (sa_cons se_var sa_nil)) (se_cb srl_len (sa_cons (se_c fun _ _ => .tupW (vs := [.int 0, .int 1, .int 2, .int 3]) T.tu_QUARTERS (by decide) (.cons (.int _) (.cons (.int _) (.cons (.int _) (.cons (.int _) .nil)))) rfl) sa_nil))) (se_cb srl_all (sa_cons (se_lc (si_seq se_var) (fun row6 => (sc_map (se_cl srl_sp0 (sa_cons se_var sa_nil))))) sa_nil))))))
end
end Lw
end
section
set_option Elab.async false
set_option linter.all false
set_option maxRecDepth 100000
set_option maxHeartbeats 4000000
set_option pp.maxSteps 600
namespace Lw
open PySem PySem.Spec PyProof.Rows L2 Gh Gp Gz
section
variable {P : Program} {w : World} {K : PySem.W.Frag} {mg : Str → Option Value} {base : Heap} {f : Addr} {fd : FuncData} {Tb : List (Addr × Str)}
abbrev N_Marks___init__ : List Str := ["self", "table"]
theorem sc_Marks___init__ : FnScope N_Marks___init__ ["self", "table"] (defScope s_Marks___init__) := ⟨rfl, rfl, rfl, by decide +kernel, rfl, by decide +kernel, by decide +kernel⟩
def F_Marks___init__ (fs : Fs) (table : D) : Tr Fs :=
  finI (bd (.ok table) fun table1 => if fs.length < 900 then (.ok (.nx (putD "table" table1 fs))) else .bad)
theorem ok_Marks___init__ (F : FnA K d_Marks___init__ fd) (T : Tx K mg)  : FnOk P w K mg base CX0 1 (d_Marks___init__.adr K) fd ["self", "table"] (spI K Tb "Marks" (fun fs => ul1 (F_Marks___init__ fs))) := by
  refine fnO0 F sc_Marks___init__ (fun vs H Q E h => spI_len lenI1 h) (fun cdv A outer s H vs Q E hr h => ?_)
  refine ⟨_, (pss_cons (ps_f (pv 0) (pv 1) T.cl_Marks T.n_Marks_table)
      pss_nil), ?_⟩
  exact ini_of1 (F := F_Marks___init__) (envI := fun fs => .oi "Marks" fs :: List.replicate 1 .no) h (fun fs table => rfl) (fun p c fs table => (ss_setf se_var (fun table1 => (ss_nx (.s (le_no _ rfl))))))
abbrev N_Marks_of : List Str := ["cls", "rows", "quarter", "row", "first", "second"]
theorem sc_Marks_of : FnScope N_Marks_of ["cls", "rows"] (defScope s_Marks_of) := ⟨rfl, rfl, rfl, by decide +kernel, rfl, by decide +kernel, by decide +kernel⟩
def F_Marks_of (rows : D) : Tr D :=
  fin (bd (bd (bd (bd (bd (bd (.ok rows) fun v1 => (bd (.ok []) fun r2 => .ok (v1 :: r2))) (ul1 enD)) fun ds => bd (dcOut (fun quarter2 row2 => (bd (.ok row2) itD)) (fun quarter2 row2 first2 second2 => (bd (bd (.ok quarter2) fun v6 => (bd (bd (.ok first2) fun v4 => (bd (.ok []) fun r5 => .ok (v4 :: r5))) fun r7 => .ok (v6 :: r7))) fun ds => if ds.length ≤ sizeLine then .ok (.tup ds) else .bad)) (fun quarter2 row2 first2 second2 => (.ok second2)) ds []) fun ps => .ok (.dit ps)) fun v8 => (bd (.ok []) fun r9 => .ok (v8 :: r9))) (fun ds => bd ((fun fs => ul1 (F_Marks___init__ fs)) [] ds) fun fs => .ok (.obj "Marks" fs))) fun d => .ok (.rt d))
theorem ok_Marks_of (F : FnA K d_Marks_of fd) (T : Tx K mg) (G_Marks___init__ : PromO P w K mg base CX0 1 (md "Marks" "__init__" K) [] (spI K Tb "Marks" (fun fs => ul1 (F_Marks___init__ fs)))) : FnOk P w K mg base CX0 3 (d_Marks_of.adr K) fd ["cls", "rows"] (spK K Tb "Marks" (ul1 F_Marks_of)) := by
  refine fnO0 F sc_Marks_of (fun vs H Q E h => spK_len len1 h) (fun cdv A outer s H vs Q E hr h => ?_)
  refine ⟨_, (pss_cons (ps_ret (pe_g (PromO.make T.mk_Marks G_Marks___init__ (hr.mono (by decide)) (passA (E := E))) (by rfl) T.g_Marks T.k_Marks (pa_cons (pe_fz (DcX.pe_dc2 (Nat.lt_of_le_of_lt (Nat.add_le_add_left (show 1 ≤ 64 by decide) _) hr.units) (own := [("quarter", 2), ("row", 3), ("first", 4), ("second", 5)]) (vs1 := [4, 5]) (g := gTup _ 2 (gCons (gName 2) (gCons (gName 3) gNil))) (g1 := gTup _ 2 (gCons (gName 4) (gCons (gName 5) gNil))) (by rfl) sc_Marks_of.nd (pi_enumA (K := K) rfl (by rfl) T.f_enumerate (pa_cons (pv 1) pa_nil)) (blkOk_by (own := [("quarter", 2), ("row", 3), ("first", 4), ("second", 5)]) (N := N_Marks_of) (sc := defScope s_Marks_of) (by decide +kernel)) (by decide) (fun _ _ _ _ _ => (pg_tup rfl (pgs_cons (pg_name (i := 2) sc_Marks_of.nd rfl (Or.inl rfl)) (pgs_cons (pg_name (i := 3) sc_Marks_of.nd rfl (Or.inl rfl)) pgs_nil)))) (fun _ _ _ _ _ => pts_nil) (fun _ _ _ _ _ => (pi_seq (K := K) rfl (pv 3))) (fun _ _ _ _ _ => (pg_tup rfl (pgs_cons (pg_name (i := 4) sc_Marks_of.nd rfl (Or.inl rfl)) (pgs_cons (pg_name (i := 5) sc_Marks_of.nd rfl (Or.inl rfl)) pgs_nil)))) (fun _ _ _ _ _ => pts_nil) (fun _ _ _ _ _ => (pe_tup (pa_cons (pv 2) (pa_cons (pv 4) pa_nil)))) (fun _ _ _ _ _ => (pv 5)))) pa_nil))) pss_nil), ?_⟩
  exact fn_ofK1 (F := F_Marks_of) (envU := fun _ => List.replicate 6 .no) h (fun rows => rfl) (fun p c rows => (ss_ret (se_cl srl_mk0 (sa_cons (se_dc2 (si_enum (sa_cons se_var sa_nil)) (fun quarter2 row2 => (si_seq se_var)) (fun quarter2 row2 first2 second2 => (se_tup (sa_cons se_var (sa_cons se_var sa_nil)))) (fun quarter2 row2 first2 second2 => se_var) (fun z hz => by have hz : z ∈ [2, 3, 4, 5] := hz; simp only [List.mem_cons, List.mem_nil_iff, or_false] at hz; rcases hz with rfl | rfl | rfl | rfl <;> rfl)) sa_nil))))
end
end Lw
end
section
set_option Elab.async false
set_option linter.all false
set_option maxRecDepth 100000
set_option maxHeartbeats 4000000
set_option pp.maxSteps 600
namespace Lw
open PySem PySem.Spec PyProof.Rows L2 Gh Gp Gz
section
variable {P : Program} {w : World} {K : PySem.W.Frag} {mg : Str → Option Value} {base : Heap} {f : Addr} {fd : FuncData} {Tb : List (Addr × Str)}
abbrev N_Shape___init__ : List Str := ["self", "rest", "sign", "shift", "marks"]
theorem sc_Shape___init__ : FnScope N_Shape___init__ ["self", "rest", "sign", "shift", "marks"] (defScope s_Shape___init__) := ⟨rfl, rfl, rfl, by decide +kernel, rfl, by decide +kernel, by decide +kernel⟩
def F_Shape___init__ (fs : Fs) (rest sign shift marks : D) : Tr Fs :=
  finI (bd (.ok rest) fun class_rest1 => if fs.length < 900 then (bd (.ok sign) fun way2 => if (putD "class_rest" class_rest1 fs).length < 900 then (bd (.ok shift) fun shift_by3 => if (putD "way" way2 (putD "class_rest" class_rest1 fs)).length < 900 then (bd (.ok marks) fun marks_behind4 => if (putD "shift_by" shift_by3 (putD "way" way2 (putD "class_rest" class_rest1 fs))).length < 900 then (.ok (.nx (putD "marks_behind" marks_behind4 (putD "shift_by" shift_by3 (putD "way" way2 (putD "class_rest" class_rest1 fs)))))) else .bad) else .bad) else .bad) else .bad)
theorem ok_Shape___init__ (F : FnA K d_Shape___init__ fd) (T : Tx K mg)  : FnOk P w K mg base CX0 1 (d_Shape___init__.adr K) fd ["self", "rest", "sign", "shift", "marks"] (spI K Tb "Shape" (fun fs => ul4 (F_Shape___init__ fs))) := by
  refine fnO0 F sc_Shape___init__ (fun vs H Q E h => spI_len lenI4 h) (fun cdv A outer s H vs Q E hr h => ?_)
  refine ⟨_, (pss_cons (ps_f (pv 0) (pv 1) T.cl_Shape T.n_Shape_class_rest)
      (pss_cons (ps_f (pv 0) (pv 2) T.cl_Shape T.n_Shape_way)
      (pss_cons (ps_f (pv 0) (pv 3) T.cl_Shape T.n_Shape_shift_by)
      (pss_cons (ps_f (pv 0) (pv 4) T.cl_Shape T.n_Shape_marks_behind)
      pss_nil)))), ?_⟩
  exact ini_of4 (F := F_Shape___init__) (envI := fun fs => .oi "Shape" fs :: List.replicate 4 .no) h (fun fs rest sign shift marks => rfl) (fun p c fs rest sign shift marks => (ss_setf se_var (fun class_rest1 => (ss_setf se_var (fun way2 => (ss_setf se_var (fun shift_by3 => (ss_setf se_var (fun marks_behind4 => (ss_nx (.s (le_no _ rfl))))))))))))
abbrev N_Shape_seat_ahead : List Str := ["self", "n", "seat", "quarters", "offset"]
theorem sc_Shape_seat_ahead : FnScope N_Shape_seat_ahead ["self", "n", "seat"] (defScope s_Shape_seat_ahead) := ⟨rfl, rfl, rfl, by decide +kernel, rfl, by decide +kernel, by decide +kernel⟩
def F_Shape_seat_ahead (self n seat : D) : Tr D :=
  fin (bd (bd (.ok self) (fldD "Shape" "shift_by")) fun d2 => un2 d2 fun quarters0 offset0 => (bd (bd (bd (bd (bd (bd (.ok self) (fldD "Shape" "way")) fun v3 => (bd (.ok seat) fun v4 => mulD v3 v4)) fun v9 => (bd (bd (.ok quarters0) fun v7 => (bd (bd (.ok n) fun v5 => (bd (.ok (.int 4)) fun v6 => divD v5 v6)) fun v8 => mulD v7 v8)) fun v10 => addD v9 v10)) fun v11 => (bd (.ok offset0) fun v12 => addD v11 v12)) fun v13 => (bd (.ok n) fun v14 => modD v13 v14)) fun d => .ok (.rt d)))
theorem ok_Shape_seat_ahead (F : FnA K d_Shape_seat_ahead fd) (T : Tx K mg)  : FnOk P w K mg base CX0 1 (d_Shape_seat_ahead.adr K) fd ["self", "n", "seat"] (spF K Tb (ul3 F_Shape_seat_ahead)) := by
  refine fnO0 F sc_Shape_seat_ahead (fun vs H Q E h => spF_len len3 h) (fun cdv A outer s H vs Q E hr h => ?_)
  refine ⟨_, (pss_cons (ps_asg (pe_f (pv 0) T.cl_Shape T.n_Shape_shift_by) (pg_tup rfl (pgs_cons (pg_name (i := 3) sc_Shape_seat_ahead.nd rfl (.inl rfl)) (pgs_cons (pg_name (i := 4) sc_Shape_seat_ahead.nd rfl (.inl rfl)) pgs_nil))))
      (pss_cons (ps_ret (pe_op op_mod (pe_op (op_addA (K := K) rfl) (pe_op (op_addA (K := K) rfl) (pe_op op_mulA (pe_f (pv 0) T.cl_Shape T.n_Shape_way) (pv 2)) (pe_op op_mulA (pv 3) (pe_op op_fdivW (pv 1) (pe_gi T.m_CLASSES (by rfl))))) (pv 4)) (pv 1))) pss_nil)), ?_⟩
  exact fn_of3 (F := F_Shape_seat_ahead) (envU := fun _ => List.replicate 5 .no) h (fun self n seat => rfl) (fun p c self n seat => (ss_unp (se_un sr_fld se_var) (fun d2 => sx_tup2 (fun quarters0 offset0 => (ss_ret (se_op sr_mod (se_op sr_add (se_op sr_add (se_op sr_mul (se_un sr_fld se_var) se_var) (se_op sr_mul se_var (se_op sr_div se_var se_int))) se_var) se_var))))))
abbrev N_Shape_marked_seats : List Str := ["self", "n", "found", "table", "quarter", "first", "begin"]
theorem sc_Shape_marked_seats : FnScope N_Shape_marked_seats ["self", "n"] (defScope s_Shape_marked_seats) := ⟨rfl, rfl, rfl, by decide +kernel, rfl, by decide +kernel, by decide +kernel⟩
def F_Shape_marked_seats (self n : D) : Tr D :=
  fin (bd (bd (bd (.ok self) (fldD "Shape" "marks_behind")) (fldD "Marks" "table")) fun table0 => (bdF (bd (bd (.ok table0) itKD) fun ds => forF (fun (d3 : D) (w2 : D) => (un2 d3 fun quarter3 first3 => (bd (bd (.ok quarter3) fun v8 => (bd (bd (.ok n) fun v6 => (bd (.ok (.int 4)) fun v7 => divD v6 v7)) fun v9 => mulD v8 v9)) fun begin4 => (bd (bd (bd (.ok begin4) fun v16 => (bd (bd (.ok table0) fun v10 => (bd (bd (bd (.ok quarter3) fun v14 => (bd (bd (.ok first3) fun v12 => (bd (.ok []) fun r13 => .ok (v12 :: r13))) fun r15 => .ok (v14 :: r15))) fun ds => if ds.length ≤ sizeLine then .ok (.tup ds) else .bad) fun v11 => getKD v10 v11)) fun v17 => addD v16 v17)) fun v18 => (bd (.ok n) fun v19 => modD v18 v19)) fun v24 => bd (bd (bd (.ok begin4) fun v20 => (bd (.ok first3) fun v21 => addD v20 v21)) fun v22 => (bd (.ok n) fun v23 => modD v22 v23)) fun v25 => match dputD w2 v25 v24 with | Option.some found25 => (.ok (.nx found25)) | Option.none => .bad)))) ds (.dik [])) fun (w2 : D) => (bd (bd (bd (bd (bd (bd (.ok w2) fun v27 => (bd (.ok []) fun r28 => .ok (v27 :: r28))) (ul1 lenKD)) fun v31 => (bd (bd (bd (.ok table0) fun v29 => (bd (.ok []) fun r30 => .ok (v29 :: r30))) (ul1 lenKD)) fun v32 => eqD v31 v32)) asB) fun k => if k = true then (.ok w2) else (.ok .non)) fun d => .ok (.rt d))))
theorem ok_Shape_marked_seats (F : FnA K d_Shape_marked_seats fd) (T : Tx K mg)  : FnOk P w K mg base CX0 1 (d_Shape_marked_seats.adr K) fd ["self", "n"] (spF K Tb (ul2 F_Shape_marked_seats)) := by
  refine fnO0 F sc_Shape_marked_seats (fun vs H Q E h => spF_len len2 h) (fun cdv A outer s H vs Q E hr h => ?_)
  refine ⟨_, (pss_cons (ps_set (i := 2) sc_Shape_marked_seats.nd rfl (.inl rfl) pe_dnewK)
      (pss_cons (ps_set (i := 3) sc_Shape_marked_seats.nd rfl (.inl rfl) (pe_f (pe_f (pv 0) T.cl_Shape T.n_Shape_marks_behind) T.cl_Marks T.n_Marks_table))
      (pss_cons (ps_for PassesOwn.never rfl (pi_keys (pv 3)) (pg_tup rfl (pgs_cons (pg_name (i := 4) sc_Shape_marked_seats.nd rfl (.inl rfl)) (pgs_cons (pg_name (i := 5) sc_Shape_marked_seats.nd rfl (.inl rfl)) pgs_nil)))
      (pss_cons (ps_set (i := 6) sc_Shape_marked_seats.nd rfl (.inl rfl) (pe_op op_mulA (pv 4) (pe_op op_fdivW (pv 1) (pe_gi T.m_CLASSES (by rfl)))))
      (pss_cons (ps_dput (Nat.lt_of_le_of_lt (Nat.add_le_add_left (show 1 ≤ 64 by decide) _) hr.units) (pv 2) (pe_op op_mod (pe_op (op_addA (K := K) rfl) (pv 6) (pv 5)) (pv 1)) (pe_op op_mod (pe_op (op_addA (K := K) rfl) (pv 6) (pe_dget (Nat.lt_of_le_of_lt (Nat.add_le_add_left (show 1 ≤ 64 by decide) _) hr.units) (pv 3) (pe_tup (pa_cons (pv 4) (pa_cons (pv 5) pa_nil))) (fun _ _ => rfl))) (pv 1)) (by rfl))
      pss_nil)))
      (pss_cons (ps_lk 2 (ps_ret (pe_ifExp (pt_cmpR (op_eqA (K := K) rfl hr.units) (pe_callB Gp.call_lenD (by rfl) T.f_len (by decide +kernel) (pa_cons (pv 2) pa_nil)) (pe_callB Gp.call_lenD (by rfl) T.f_len (by decide +kernel) (pa_cons (pv 3) pa_nil)) (nomark _)) (pv 2) pe_non))) pss_nil)))), ?_⟩
  exact fn_of2 (F := F_Shape_marked_seats) (envU := fun _ => List.replicate 7 .no) h (fun self n => rfl) (fun p c self n => (ss_dnewK (ss_asg (se_un sr_fld (se_un sr_fld se_var)) (fun table0 => (ss_for (fun (w2 : D) => [.fz self, .fz n, .ow (.d w2), .fz table0, .no, .no, .no]) (si_keys se_var) (.s (.s (.s (.s (.s (.s (.s .nil))))))) (fun (d3 : D) (w2 : D) => (sx_tup2 (fun quarter3 first3 => (ss_asg (se_op sr_mul se_var (se_op sr_div se_var se_int)) (fun begin4 => (ss_dput (i := 2) (se_op sr_mod (se_op sr_add se_var (se_dgetT se_var (se_tup (sa_cons se_var (sa_cons se_var sa_nil))))) se_var) (se_op sr_mod (se_op sr_add se_var se_var) se_var) (fun found25 => (ss_nx (.s (.s (.s (.s (.n (.n (.n .nil))))))))))))))) (fun (w2 : D) => (ss_lk (i := 2) (ss_ret (se_if (sb_tst (se_op sr_eq (se_cb srl_lenD (sa_cons se_var sa_nil)) (se_cb srl_lenD (sa_cons se_var sa_nil)))) se_var se_non)))))))))
abbrev N_is_shift : List Str := ["value"]
theorem sc_is_shift : FnScope N_is_shift ["value"] (defScope s_is_shift) := ⟨rfl, rfl, rfl, by decide +kernel, rfl, by decide +kernel, by decide +kernel⟩
def F_is_shift (value : D) : Tr D :=
  fin (bdF (W' := Unit) (bd (bd (bd (bd (bd (.ok value) fun d => bd (opt (isi_tuple d)) fun k => .ok (.bl k)) asB) fun k => .ok (!k)) fun k => if k = true then .ok true else (bd (bd (bd (bd (.ok value) fun v1 => (bd (.ok []) fun r2 => .ok (v1 :: r2))) (ul1 lenD)) fun v3 => (bd (.ok (.int 2)) fun v4 => neD v3 v4)) asB)) fun k => if k = true then (bd (.ok (.bl false)) fun d => .ok (.rt d)) else (.ok (.nx ()))) fun (w5 : Unit) => (bd (bd (bd (bd (bd (bd (.ok value) fun v6 => (bd (.ok (.int 0)) fun v7 => ixD v6 v7)) fun v16 => (bd (bd (.ok (.int 0)) fun v14 => (bd (bd (bd (bd (bd (.ok (.tup [.int 0, .int 1, .int 2, .int 3])) fun v8 => (bd (.ok []) fun r9 => .ok (v8 :: r9))) (ul1 lenD)) fun v10 => (bd (.ok (.int 1)) fun v11 => subD v10 v11)) fun v12 => (bd (.ok []) fun r13 => .ok (v12 :: r13))) fun r15 => .ok (v14 :: r15))) fun r17 => .ok (v16 :: r17))) (ul3 F_is_within)) asB) fun k => if k = true then (bd (bd (bd (.ok value) fun v18 => (bd (.ok (.int 1)) fun v19 => ixD v18 v19)) fun v20 => (bd (.ok []) fun r21 => .ok (v20 :: r21))) (ul1 F_is_offset)) else .ok (.bl false)) fun d => .ok (.rt d)))
theorem ok_is_shift (F : FnA K d_is_shift fd) (T : Tx K mg) (G_is_within : PromO P w K mg base CX0 2 (gd "is_within" K) [] (spF K Tb (ul3 F_is_within))) (G_is_offset : PromO P w K mg base CX0 3 (gd "is_offset" K) [] (spF K Tb (ul1 F_is_offset))) : FnOk P w K mg base CX0 4 (d_is_shift.adr K) fd ["value"] (spF K Tb (ul1 F_is_shift)) := by
  refine fnO0 F sc_is_shift (fun vs H Q E h => spF_len len1 h) (fun cdv A outer s H vs Q E hr h => ?_)
  refine ⟨_, (pss_cons (ps_if (PW.pt (pw_or (pt_not (pt_val (pe_callB (call_isiZ (K := K) rfl) (by rfl) T.f_isinstance (by decide +kernel) (pa_cons (pv 0) (pa_cons (pe_bltn (v := .ty "tuple") (by rfl) T.f_tuple (by decide +kernel) rfl) pa_nil))))) (pw_or1 (pt_cmpR (op_neA (K := K) rfl hr.units) (pe_callB (cr_len (K := K) rfl) (by rfl) T.f_len (by decide +kernel) (pa_cons (pv 0) pa_nil)) pe_int (nomark _)))))
      (pss_cons (ps_ret pe_bl) pss_nil) pss_nil)
      (pss_cons (ps_ret (pe_and (pe_g (PromO.call G_is_within (hr.mono (by decide)) (passA (E := E))) (by rfl) T.g_is_within T.k_is_within (pa_cons (pe_ix (ix_seqK (K := K) rfl) (pv 0) pe_int (fun _ _ => rfl)) (pa_cons pe_int (pa_cons (pe_op op_sub (pe_callB (cr_len (K := K) rfl) (by rfl) T.f_len (by decide +kernel) (pa_cons (pe_glob (v := .ref (gd "QUARTERS" K)) rfl T.g_QUARTERS rfl) pa_nil)) pe_int) pa_nil)))) (pe_one (pe_g (PromO.call G_is_offset (hr.mono (by decide)) (passA (E := E))) (by rfl) T.g_is_offset T.k_is_offset (pa_cons (pe_ix (ix_seqK (K := K) rfl) (pv 0) pe_int (fun _ _ => rfl)) pa_nil))))) pss_nil)), ?_⟩
  exact fn_of1 (F := F_is_shift) (envU := fun _ => List.replicate 1 .no) h (fun value => rfl) (fun p c value => (ss_if (fun (w5 : Unit) => [.fz value]) (sb_or (sb_not (sb_tb (se_isi (.ty _) (isT_tuple T) se_var))) (sb_tst (se_op sr_ne (se_cb srl_len (sa_cons se_var sa_nil)) se_int))) (ss_ret se_bl) (ss_nx (.s .nil)) (fun (w5 : Unit) => (ss_ret (se_andV (se_cl srl_sp0 (sa_cons (se_op sr_ix se_var se_int) (sa_cons se_int (sa_cons (se_op sr_sub (se_cb srl_len (sa_cons (se_c fun _ _ => .tupW (vs := [.int 0, .int 1, .int 2, .int 3]) T.tu_QUARTERS (by decide) (.cons (.int _) (.cons (.int _) (.cons (.int _) (.cons (.int _) .nil)))) rfl) sa_nil)) se_int) sa_nil)))) (se_cl srl_sp0 (sa_cons (se_op sr_ix se_var se_int) sa_nil)))))))
abbrev N_Form___init__ : List Str := ["self", "rest", "sign", "shift", "marks"]
theorem sc_Form___init__ : FnScope N_Form___init__ ["self", "rest", "sign", "shift", "marks"] (defScope s_Form___init__) := ⟨rfl, rfl, rfl, by decide +kernel, rfl, by decide +kernel, by decide +kernel⟩
def F_Form___init__ (fs : Fs) (rest sign shift marks : D) : Tr Fs :=
  finI (bd (bd (bd (.ok rest) fun v1 => (bd (.ok []) fun r2 => .ok (v1 :: r2))) (ul1 F_need_rest)) fun _ => (bdF (W' := Unit) (bd (bd (bd (bd (bd (bd (.ok sign) fun v3 => (bd (.ok []) fun r4 => .ok (v3 :: r4))) (ul1 F_is_integer)) asB) fun k => .ok (!k)) fun k => if k = true then .ok true else (bd (bd (.ok sign) fun v9 => (bd (bd (bd (.ok (.int 1)) fun v7 => (bd (bd (bd (.ok (.int 1)) negD) fun v5 => (bd (.ok []) fun r6 => .ok (v5 :: r6))) fun r8 => .ok (v7 :: r8))) fun ds => if ds.length ≤ sizeLine then .ok (.tup ds) else .bad) fun v10 => notinD v9 v10)) asB)) fun k => if k = true then .bad else (.ok (.nx ()))) fun (w11 : Unit) => (bdF (W' := Unit) (bd (bd (bd (bd (bd (.ok shift) fun v12 => (bd (.ok []) fun r13 => .ok (v12 :: r13))) (ul1 F_is_shift)) asB) fun k => .ok (!k)) fun k => if k = true then .bad else (.ok (.nx ()))) fun (w14 : Unit) => (bdF (W' := Unit) (bd (bd (bd (bd (bd (.ok marks) fun v15 => (bd (.ok []) fun r16 => .ok (v15 :: r16))) (ul1 F_are_marks)) asB) fun k => .ok (!k)) fun k => if k = true then .bad else (.ok (.nx ()))) fun (w17 : Unit) => (bd (bd (bd (.ok rest) fun v26 => (bd (bd (.ok sign) fun v24 => (bd (bd (.ok shift) fun v22 => (bd (bd (bd (bd (.ok marks) fun v18 => (bd (.ok []) fun r19 => .ok (v18 :: r19))) (ul1 F_Marks_of)) fun v20 => (bd (.ok []) fun r21 => .ok (v20 :: r21))) fun r23 => .ok (v22 :: r23))) fun r25 => .ok (v24 :: r25))) fun r27 => .ok (v26 :: r27))) (fun ds => bd ((fun fs => ul4 (F_Shape___init__ fs)) [] ds) fun fs => .ok (.obj "Shape" fs))) fun shape_told28 => if fs.length < 900 then (.ok (.nx (putD "shape_told" shape_told28 fs))) else .bad)))))
theorem ok_Form___init__ (F : FnA K d_Form___init__ fd) (T : Tx K mg) (G_need_rest : PromO P w K mg base CX0 4 (gd "need_rest" K) [] (spF K Tb (ul1 F_need_rest))) (G_is_integer : PromO P w K mg base CX0 1 (gd "is_integer" K) [] (spF K Tb (ul1 F_is_integer))) (G_is_shift : PromO P w K mg base CX0 4 (gd "is_shift" K) [] (spF K Tb (ul1 F_is_shift))) (G_are_marks : PromO P w K mg base CX0 6 (gd "are_marks" K) [] (spF K Tb (ul1 F_are_marks))) (G_Shape___init__ : PromO P w K mg base CX0 1 (md "Shape" "__init__" K) [] (spI K Tb "Shape" (fun fs => ul4 (F_Shape___init__ fs)))) (G_Marks_of : PromO P w K mg base CX0 3 (clsG "Marks" "of" K) [] (spK K Tb "Marks" (ul1 F_Marks_of))) : FnOk P w K mg base CX0 7 (d_Form___init__.adr K) fd ["self", "rest", "sign", "shift", "marks"] (spI K Tb "Form" (fun fs => ul4 (F_Form___init__ fs))) := by
  refine fnO0 F sc_Form___init__ (fun vs H Q E h => spI_len lenI4 h) (fun cdv A outer s H vs Q E hr h => ?_)
  refine ⟨_, (pss_cons (ps_expr (pe_g (PromO.call G_need_rest (hr.mono (by decide)) (passA (E := E))) (by rfl) T.g_need_rest T.k_need_rest (pa_cons (pv 1) pa_nil)))
      (pss_cons (ps_if (PW.pt (pw_or (pt_not (pt_val (pe_g (PromO.call G_is_integer (hr.mono (by decide)) (passA (E := E))) (by rfl) T.g_is_integer T.k_is_integer (pa_cons (pv 2) pa_nil)))) (pw_or1 (pt_cmpR (op_notinA (K := K) rfl) (pv 2) (pe_tup (pa_cons pe_int (pa_cons (pe_un un_neg pe_int) pa_nil))) (by rfl)))))
      (pss_cons ps_never pss_nil) pss_nil)
      (pss_cons (ps_if (pt_not (pt_val (pe_g (PromO.call G_is_shift (hr.mono (by decide)) (passA (E := E))) (by rfl) T.g_is_shift T.k_is_shift (pa_cons (pv 3) pa_nil))))
      (pss_cons ps_never pss_nil) pss_nil)
      (pss_cons (ps_if (pt_not (pt_val (pe_g (PromO.call G_are_marks (hr.mono (by decide)) (passA (E := E))) (by rfl) T.g_are_marks T.k_are_marks (pa_cons (pv 4) pa_nil))))
      (pss_cons ps_never pss_nil) pss_nil)
      (pss_cons (ps_f (pv 0) (pe_g (PromO.make T.mk_Shape G_Shape___init__ (hr.mono (by decide)) (passA (E := E))) (by rfl) T.g_Shape T.k_Shape (pa_cons (pv 1) (pa_cons (pv 2) (pa_cons (pv 3) (pa_cons (pe_cm (pe_glob (v := .ref _) rfl T.g_Marks rfl) T.cm_Marks_of G_Marks_of (hr.mono (by decide)) (passA (E := E)) (pa_cons (pv 4) pa_nil)) pa_nil))))) T.cl_Form T.n_Form_shape_told)
      pss_nil))))), ?_⟩
  exact ini_of4 (F := F_Form___init__) (envI := fun fs => .oi "Form" fs :: List.replicate 4 .no) h (fun fs rest sign shift marks => rfl) (fun p c fs rest sign shift marks => (ss_drop (se_cl srl_sp0 (sa_cons se_var sa_nil)) (ss_if (fun (w11 : Unit) => [.oi "Form" fs, .fz rest, .fz sign, .fz shift, .fz marks]) (sb_or (sb_not (sb_tb (se_cl srl_sp0 (sa_cons se_var sa_nil)))) (sb_tst (se_op sr_notin se_var (se_tup (sa_cons se_int (sa_cons (se_un sr_neg se_int) sa_nil)))))) ss_never (ss_nx (.s (.s (.s (.s (.s .nil)))))) (fun (w11 : Unit) => (ss_if (fun (w14 : Unit) => [.oi "Form" fs, .fz rest, .fz sign, .fz shift, .fz marks]) (sb_not (sb_tb (se_cl srl_sp0 (sa_cons se_var sa_nil)))) ss_never (ss_nx (.s (.s (.s (.s (.s .nil)))))) (fun (w14 : Unit) => (ss_if (fun (w17 : Unit) => [.oi "Form" fs, .fz rest, .fz sign, .fz shift, .fz marks]) (sb_not (sb_tb (se_cl srl_sp0 (sa_cons se_var sa_nil)))) ss_never (ss_nx (.s (.s (.s (.s (.s .nil)))))) (fun (w17 : Unit) => (ss_setf (se_cl srl_mk0 (sa_cons se_var (sa_cons se_var (sa_cons se_var (sa_cons (se_cm (sa_cons se_var sa_nil)) sa_nil))))) (fun shape_told28 => (ss_nx (.s (le_no _ rfl)))))))))))))
abbrev N_Form_rest : List Str := ["self"]
theorem sc_Form_rest : FnScope N_Form_rest ["self"] (defScope s_Form_rest) := ⟨rfl, rfl, rfl, by decide +kernel, rfl, by decide +kernel, by decide +kernel⟩
def F_Form_rest (self : D) : Tr D :=
  fin (bd (bd (bd (.ok self) (fldD "Form" "shape_told")) (fldD "Shape" "class_rest")) fun d => .ok (.rt d))
theorem ok_Form_rest (F : FnA K d_Form_rest fd) (T : Tx K mg)  : FnOk P w K mg base CX0 1 (d_Form_rest.adr K) fd ["self"] (spF K Tb (ul1 F_Form_rest)) := by
  refine fnO0 F sc_Form_rest (fun vs H Q E h => spF_len len1 h) (fun cdv A outer s H vs Q E hr h => ?_)
  refine ⟨_, (pss_cons (ps_ret (pe_f (pe_f (pv 0) T.cl_Form T.n_Form_shape_told) T.cl_Shape T.n_Shape_class_rest)) pss_nil), ?_⟩
  exact fn_of1 (F := F_Form_rest) (envU := fun _ => List.replicate 1 .no) h (fun self => rfl) (fun p c self => (ss_ret (se_un sr_fld (se_un sr_fld se_var))))
abbrev N_Form_need_own_length : List Str := ["self", "n"]
theorem sc_Form_need_own_length : FnScope N_Form_need_own_length ["self", "n"] (defScope s_Form_need_own_length) := ⟨rfl, rfl, rfl, by decide +kernel, rfl, by decide +kernel, by decide +kernel⟩
def F_Form_need_own_length (self n : D) : Tr D :=
  fin (bd (bd (bd (.ok n) fun v1 => (bd (.ok []) fun r2 => .ok (v1 :: r2))) (ul1 F_need_length)) fun _ => (bdF (W' := Unit) (bd (bd (bd (bd (.ok n) fun v3 => (bd (.ok (.int 4)) fun v4 => modD v3 v4)) fun v6 => (bd (nox (bd (.ok self) fun o5 => (isO "Form" o5 fun _ => (ul1 F_Form_rest) [o5]))) fun v7 => neD v6 v7)) asB) fun k => if k = true then (bd (.ok n) fun d => .ex "BadLength" [("value", d)]) else (.ok (.nx ()))) fun (w8 : Unit) => (.ok (.nx ()))))
theorem ok_Form_need_own_length (F : FnA K d_Form_need_own_length fd) (T : Tx K mg) (G_need_length : PromO P w K mg base (L2.CX P w) 4 (gd "need_length" K) [] (spF K Tb (ul1 F_need_length))) (G_Form_rest : PromO P w K mg base CX0 1 (propG "Form" "rest" K) [] (spF K Tb (ul1 F_Form_rest))) (G_BadLength___init__ : PromO P w K mg base CX0 1 (md "BadLength" "__init__" K) [] (spErr1 (gd "BadLength" K) "value")) : FnOk P w K mg base (L2.CX P w) 5 (d_Form_need_own_length.adr K) fd ["self", "n"] (spF K Tb (ul2 F_Form_need_own_length)) := by
  refine F.ok sc_Form_need_own_length (fun vs H Q E h => spF_len len2 h) (fun cdv A outer s H vs Q E hr h => ?_)
  refine ⟨_, (pss_cons (ps_expr (pe_g (PromO.call G_need_length (hr.mono (by decide)) (pass_on rfl rfl rfl rfl)) (by rfl) T.g_need_length T.k_need_length (pa_cons (pv 1) pa_nil)))
      (pss_cons (ps_if (pt_cmpR (op_neA (K := K) rfl hr.units) (pe_op op_mod (pv 1) (pe_gi T.m_CLASSES (by rfl))) (pe_po (pv 0) T.cl_Form T.pr_Form_rest G_Form_rest (hr.mono (by decide)) (passA (E := EF))) (nomark _))
      (pss_cons (ps_raise rfl (takes_of rfl rfl rfl rfl) (pmk_po T.ox_BadLength T.in_BadLength.iC T.in_BadLength.tI G_BadLength___init__ (hr.mono (by decide)) pass0 T.g_BadLength (pa_cons (pv 1) pa_nil))) pss_nil) pss_nil)
      pss_nil)), ?_⟩
  exact fn_of2 (F := F_Form_need_own_length) (envU := fun _ => List.replicate 2 .no) h (fun self n => rfl) (fun p c self n => (ss_drop (se_cl srl_sp0 (sa_cons se_var sa_nil)) (ss_if (fun (w8 : Unit) => [.fz self, .fz n]) (sb_tst (se_op sr_ne (se_op sr_mod se_var se_int) (se_nox (se_pr se_var)))) (ss_raise1 se_var) (ss_nx (.s (.s .nil))) (fun (w8 : Unit) => (ss_nx (le_no _ rfl))))))
abbrev N_Form_is_usable : List Str := ["self", "n"]
theorem sc_Form_is_usable : FnScope N_Form_is_usable ["self", "n"] (defScope s_Form_is_usable) := ⟨rfl, rfl, rfl, by decide +kernel, rfl, by decide +kernel, by decide +kernel⟩
def F_Form_is_usable (self n : D) : Tr D :=
  fin (bd (bd (.ok self) fun o3 => (isO "Form" o3 fun fs => if fs.lookup ("need_own_length" : Str) = none then bd (bd (.ok n) fun v1 => (bd (.ok []) fun r2 => .ok (v1 :: r2))) fun ds => (ul2 F_Form_need_own_length) (o3 :: ds) else .bad)) fun _ => (bd (bd (bd (bd (.ok self) (fldD "Form" "shape_told")) fun o6 => (isO "Shape" o6 fun fs => if fs.lookup ("marked_seats" : Str) = none then bd (bd (.ok n) fun v4 => (bd (.ok []) fun r5 => .ok (v4 :: r5))) fun ds => (ul2 F_Shape_marked_seats) (o6 :: ds) else .bad)) fun (v7 : D) => (bd (.ok .non) fun (v8 : D) => (match v8 with | .non => .ok (.bl (!isN v7)) | _ => .bad))) fun d => .ok (.rt d)))
theorem ok_Form_is_usable (F : FnA K d_Form_is_usable fd) (T : Tx K mg) (G_Form_need_own_length : PromO P w K mg base (L2.CX P w) 5 (md "Form" "need_own_length" K) [] (spF K Tb (ul2 F_Form_need_own_length))) (G_Shape_marked_seats : PromO P w K mg base CX0 1 (md "Shape" "marked_seats" K) [] (spF K Tb (ul2 F_Shape_marked_seats))) : FnOk P w K mg base (L2.CX P w) 6 (d_Form_is_usable.adr K) fd ["self", "n"] (spF K Tb (ul2 F_Form_is_usable)) := by
  refine F.ok sc_Form_is_usable (fun vs H Q E h => spF_len len2 h) (fun cdv A outer s H vs Q E hr h => ?_)
  refine ⟨_, (pss_cons (ps_expr (pe_m (pv 0) T.cl_Form T.mt_Form_need_own_length (PromO.call G_Form_need_own_length (hr.mono (by decide)) (pass_on rfl rfl rfl rfl)) (pa_cons (pv 1) pa_nil)))
      (pss_cons (ps_ret (pe_cmpR or_notN (pe_m (pe_f (pv 0) T.cl_Form T.n_Form_shape_told) T.cl_Shape T.mt_Shape_marked_seats (PromO.call G_Shape_marked_seats (hr.mono (by decide)) (passA (E := E))) (pa_cons (pv 1) pa_nil)) pe_non (nomark _))) pss_nil)), ?_⟩
  exact fn_of2 (F := F_Form_is_usable) (envU := fun _ => List.replicate 2 .no) h (fun self n => rfl) (fun p c self n => (ss_drop (se_mt srl_sp0 se_var (sa_cons se_var sa_nil)) (ss_ret (se_op sr_notN (se_mt srl_sp0 (se_un sr_fld se_var) (sa_cons se_var sa_nil)) se_non))))
abbrev N_place_behind : List Str := ["shape", "marked", "n", "place", "seat"]
theorem sc_place_behind : FnScope N_place_behind ["shape", "marked", "n", "place"] (defScope s_place_behind) := ⟨rfl, rfl, rfl, by decide +kernel, rfl, by decide +kernel, by decide +kernel⟩
def F_place_behind (shape marked n place : D) : Tr D :=
  fin (bd (bd (.ok shape) fun o10 => (isO "Shape" o10 fun fs => if fs.lookup ("seat_ahead" : Str) = none then bd (bd (.ok n) fun v8 => (bd (bd (bd (bd (.ok n) fun v4 => (bd (bd (.ok place) fun v2 => (bd (.ok []) fun r3 => .ok (v2 :: r3))) fun r5 => .ok (v4 :: r5))) (ul2 F_seat_at)) fun v6 => (bd (.ok []) fun r7 => .ok (v6 :: r7))) fun r9 => .ok (v8 :: r9))) fun ds => (ul3 F_Shape_seat_ahead) (o10 :: ds) else .bad)) fun seat0 => (bd (bd (bd (.ok n) fun v16 => (bd (bd (bd (.ok marked) fun v11 => if isDk v11 = true then (bd (.ok seat0) fun v12 => (bd (.ok seat0) fun v13 => getK2D v11 v12 v13)) else .bad) fun v14 => (bd (.ok []) fun r15 => .ok (v14 :: r15))) fun r17 => .ok (v16 :: r17))) (ul2 F_place_at)) fun d => .ok (.rt d)))
theorem ok_place_behind (F : FnA K d_place_behind fd) (T : Tx K mg) (G_Shape_seat_ahead : PromO P w K mg base CX0 1 (md "Shape" "seat_ahead" K) [] (spF K Tb (ul3 F_Shape_seat_ahead))) (G_seat_at : PromO P w K mg base CX0 1 (gd "seat_at" K) [] (spF K Tb (ul2 F_seat_at))) (G_place_at : PromO P w K mg base CX0 1 (gd "place_at" K) [] (spF K Tb (ul2 F_place_at))) : FnOk P w K mg base CX0 2 (d_place_behind.adr K) fd ["shape", "marked", "n", "place"] (spF K Tb (ul4 F_place_behind)) := by
  refine fnO0 F sc_place_behind (fun vs H Q E h => spF_len len4 h) (fun cdv A outer s H vs Q E hr h => ?_)
  refine ⟨_, (pss_cons (ps_set (i := 4) sc_place_behind.nd rfl (.inl rfl) (pe_m (pv 0) T.cl_Shape T.mt_Shape_seat_ahead (PromO.call G_Shape_seat_ahead (hr.mono (by decide)) (passA (E := E))) (pa_cons (pv 2) (pa_cons (pe_g (PromO.call G_seat_at (hr.mono (by decide)) (passA (E := E))) (by rfl) T.g_seat_at T.k_seat_at (pa_cons (pv 2) (pa_cons (pv 3) pa_nil))) pa_nil))))
      (pss_cons (ps_ret (pe_g (PromO.call G_place_at (hr.mono (by decide)) (passA (E := E))) (by rfl) T.g_place_at T.k_place_at (pa_cons (pv 2) (pa_cons (pe_dget2 (Nat.lt_of_le_of_lt (Nat.add_le_add_left (show 1 ≤ 64 by decide) _) hr.units) (pv 1) (pv 4) (pv 4) ⟨rfl, rfl, rfl, rfl⟩) pa_nil)))) pss_nil)), ?_⟩
  exact fn_of4 (F := F_place_behind) (envU := fun _ => List.replicate 5 .no) h (fun shape marked n place => rfl) (fun p c shape marked n place => (ss_asg (se_mt srl_sp0 se_var (sa_cons se_var (sa_cons (se_cl srl_sp0 (sa_cons se_var (sa_cons se_var sa_nil))) sa_nil))) (fun seat0 => (ss_ret (se_cl srl_sp0 (sa_cons se_var (sa_cons (se_dget2 se_var se_var se_var) sa_nil)))))))
abbrev N_Form_to : List Str := ["self", "n", "place", "marked"]
theorem sc_Form_to : FnScope N_Form_to ["self", "n", "place"] (defScope s_Form_to) := ⟨rfl, rfl, rfl, by decide +kernel, rfl, by decide +kernel, by decide +kernel⟩
def F_Form_to (self n place : D) : Tr D :=
  fin (bd (bd (.ok self) fun o3 => (isO "Form" o3 fun fs => if fs.lookup ("need_own_length" : Str) = none then bd (bd (.ok n) fun v1 => (bd (.ok []) fun r2 => .ok (v1 :: r2))) fun ds => (ul2 F_Form_need_own_length) (o3 :: ds) else .bad)) fun _ => (bd (bd (bd (.ok n) fun v6 => (bd (bd (.ok place) fun v4 => (bd (.ok []) fun r5 => .ok (v4 :: r5))) fun r7 => .ok (v6 :: r7))) (ul2 F_need_place)) fun _ => (bd (bd (bd (.ok self) (fldD "Form" "shape_told")) fun o11 => (isO "Shape" o11 fun fs => if fs.lookup ("marked_seats" : Str) = none then bd (bd (.ok n) fun v9 => (bd (.ok []) fun r10 => .ok (v9 :: r10))) fun ds => (ul2 F_Shape_marked_seats) (o11 :: ds) else .bad)) fun marked7 => (bdF (W' := Unit) (bd (bd (bd (.ok marked7) fun (v12 : D) => (bd (.ok .non) fun (v13 : D) => (match v13 with | .non => .ok (.bl (isN v12)) | _ => .bad))) asB) fun k => if k = true then (bd (.ok n) fun d => .ex "Overlap" [("length", d)]) else (.ok (.nx ()))) fun (w14 : Unit) => (bd (bd (bd (bd (.ok self) (fldD "Form" "shape_told")) fun v23 => (bd (bd (.ok marked7) fun v21 => (bd (bd (.ok n) fun v19 => (bd (bd (.ok place) fun v17 => (bd (.ok []) fun r18 => .ok (v17 :: r18))) fun r20 => .ok (v19 :: r20))) fun r22 => .ok (v21 :: r22))) fun r24 => .ok (v23 :: r24))) (ul4 F_place_behind)) fun d => .ok (.rt d))))))
theorem ok_Form_to (F : FnA K d_Form_to fd) (T : Tx K mg) (G_Form_need_own_length : PromO P w K mg base (L2.CX P w) 5 (md "Form" "need_own_length" K) [] (spF K Tb (ul2 F_Form_need_own_length))) (G_need_place : PromO P w K mg base (L2.CX P w) 5 (gd "need_place" K) [] (spF K Tb (ul2 F_need_place))) (G_Shape_marked_seats : PromO P w K mg base CX0 1 (md "Shape" "marked_seats" K) [] (spF K Tb (ul2 F_Shape_marked_seats))) (G_Overlap___init__ : PromO P w K mg base CX0 1 (md "Overlap" "__init__" K) [] (spErr1 (gd "Overlap" K) "length")) (G_place_behind : PromO P w K mg base CX0 2 (gd "place_behind" K) [] (spF K Tb (ul4 F_place_behind))) : FnOk P w K mg base (L2.CX P w) 6 (d_Form_to.adr K) fd ["self", "n", "place"] (spF K Tb (ul3 F_Form_to)) := by
  refine F.ok sc_Form_to (fun vs H Q E h => spF_len len3 h) (fun cdv A outer s H vs Q E hr h => ?_)
  refine ⟨_, (pss_cons (ps_expr (pe_m (pv 0) T.cl_Form T.mt_Form_need_own_length (PromO.call G_Form_need_own_length (hr.mono (by decide)) (pass_on rfl rfl rfl rfl)) (pa_cons (pv 1) pa_nil)))
      (pss_cons (ps_expr (pe_g (PromO.call G_need_place (hr.mono (by decide)) (pass_on rfl rfl rfl rfl)) (by rfl) T.g_need_place T.k_need_place (pa_cons (pv 1) (pa_cons (pv 2) pa_nil))))
      (pss_cons (ps_set (i := 3) sc_Form_to.nd rfl (.inl rfl) (pe_m (pe_f (pv 0) T.cl_Form T.n_Form_shape_told) T.cl_Shape T.mt_Shape_marked_seats (PromO.call G_Shape_marked_seats (hr.mono (by decide)) (passA (E := E))) (pa_cons (pv 1) pa_nil)))
      (pss_cons (ps_if (pt_cmpR or_isN (pv 3) pe_non (nomark _))
      (pss_cons (ps_raise rfl (takes_of rfl rfl rfl rfl) (pmk_po T.ox_Overlap T.in_Overlap.iC T.in_Overlap.tI G_Overlap___init__ (hr.mono (by decide)) pass0 T.g_Overlap (pa_cons (pv 1) pa_nil))) pss_nil) pss_nil)
      (pss_cons (ps_ret (pe_g (PromO.call G_place_behind (hr.mono (by decide)) (passA (E := E))) (by rfl) T.g_place_behind T.k_place_behind (pa_cons (pe_f (pv 0) T.cl_Form T.n_Form_shape_told) (pa_cons (pv 3) (pa_cons (pv 1) (pa_cons (pv 2) pa_nil)))))) pss_nil))))), ?_⟩
  exact fn_of3 (F := F_Form_to) (envU := fun _ => List.replicate 4 .no) h (fun self n place => rfl) (fun p c self n place => (ss_drop (se_mt srl_sp0 se_var (sa_cons se_var sa_nil)) (ss_drop (se_cl srl_sp0 (sa_cons se_var (sa_cons se_var sa_nil))) (ss_asg (se_mt srl_sp0 (se_un sr_fld se_var) (sa_cons se_var sa_nil)) (fun marked7 => (ss_if (fun (w14 : Unit) => [.fz self, .fz n, .fz place, .fz marked7]) (sb_tst (se_op sr_isN se_var se_non)) (ss_raise1 se_var) (ss_nx (.s (.s (.s (.s .nil))))) (fun (w14 : Unit) => (ss_ret (se_cl srl_sp0 (sa_cons (se_un sr_fld se_var) (sa_cons se_var (sa_cons se_var (sa_cons se_var sa_nil)))))))))))))
end
end Lw
end
section
set_option Elab.async false
set_option linter.all false
set_option maxRecDepth 100000
set_option maxHeartbeats 4000000
set_option pp.maxSteps 600
namespace Lw
open PySem PySem.Spec PyProof.Rows L2 Gh Gp Gz
section
variable {P : Program} {w : World} {K : PySem.W.Frag} {mg : Str → Option Value} {base : Heap} {f : Addr} {fd : FuncData} {Tb : List (Addr × Str)}
abbrev N__law_pick : List Str := ["_law_pen_here", "_law_some"]
theorem sc__law_pick : FnScope N__law_pick ["_law_pen_here", "_law_some"] (defScope s__law_pick) := ⟨rfl, rfl, rfl, by decide +kernel, rfl, by decide +kernel, by decide +kernel⟩
def F__law_pick (l_pen_here l_some : D) : Tr D :=
  fin (bd (bd (.ok l_some) fun v1 => (bd (bd (bd (.ok l_pen_here) fun v7 => (bd (bd (bd (bd (.ok l_some) fun v3 => (bd (.ok []) fun r4 => .ok (v3 :: r4))) (ul1 lenD)) fun v5 => (bd (.ok []) fun r6 => .ok (v5 :: r6))) fun r8 => .ok (v7 :: r8))) (ul2 F_draw)) fun v2 => ixD v1 v2)) fun d => .ok (.rt d))
theorem ok__law_pick (F : FnA K d__law_pick fd) (T : Tx K mg) (G__law_draw : PromO P w K mg base CX0 1 (gd "_law_draw" K) [] (spF K Tb (ul2 F_draw))) : FnOk P w K mg base CX0 2 (d__law_pick.adr K) fd ["_law_pen_here", "_law_some"] (spF K Tb (ul2 F__law_pick)) := by
  refine fnO0 F sc__law_pick (fun vs H Q E h => spF_len len2 h) (fun cdv A outer s H vs Q E hr h => ?_)
  refine ⟨_, (pss_cons (ps_ret (pe_ix (ix_seqK (K := K) rfl) (pv 1) (pe_g (PromO.call G__law_draw (hr.mono (by decide)) (passA (E := E))) (by rfl) T.g__law_draw T.k__law_draw (pa_cons (pv 0) (pa_cons (pe_callB (cr_len (K := K) rfl) (by rfl) T.f_len (by decide +kernel) (pa_cons (pv 1) pa_nil)) pa_nil))) (fun _ _ => rfl))) pss_nil), ?_⟩
  exact fn_of2 (F := F__law_pick) (envU := fun _ => List.replicate 2 .no) h (fun l_pen_here l_some => rfl) (fun p c l_pen_here l_some => (ss_ret (se_op sr_ix se_var (se_cl srl_sp0 (sa_cons se_var (sa_cons (se_cb srl_len (sa_cons se_var sa_nil)) sa_nil))))))
abbrev N__law_row : List Str := ["_law_pen_here", "_law_some", "_law_turn", "_law_many", "_law_begin", "_law_k", "_law_number"]
theorem sc__law_row : FnScope N__law_row ["_law_pen_here"] (defScope s__law_row) := ⟨rfl, rfl, rfl, by decide +kernel, rfl, by decide +kernel, by decide +kernel⟩
def F__law_row (l_pen_here : D) : Tr D :=
  fin (bd (bd (bd (bd (bd (.ok l_pen_here) fun v15 => (bd (bd (bd (bd (.ok (.int 0)) fun v11 => (bd (bd (.ok (.int 0)) fun v9 => (bd (bd (.ok (.int 0)) fun v7 => (bd (bd (.ok (.int 2)) fun v5 => (bd (bd (.ok (.int 2)) fun v3 => (bd (bd (.ok (.int 3)) fun v1 => (bd (.ok []) fun r2 => .ok (v1 :: r2))) fun r4 => .ok (v3 :: r4))) fun r6 => .ok (v5 :: r6))) fun r8 => .ok (v7 :: r8))) fun r10 => .ok (v9 :: r10))) fun r12 => .ok (v11 :: r12))) fun ds => if ds.length ≤ sizeLine then .ok (.lst ds) else .bad) fun v13 => (bd (.ok []) fun r14 => .ok (v13 :: r14))) fun r16 => .ok (v15 :: r16))) (ul2 F__law_pick)) fun v25 => (bd (bd (bd (bd (bd (.ok l_pen_here) fun v19 => (bd (bd (.ok (.int 9)) fun v17 => (bd (.ok []) fun r18 => .ok (v17 :: r18))) fun r20 => .ok (v19 :: r20))) (ul2 F_draw)) fun v21 => (bd (.ok (.int 6)) fun v22 => subD v21 v22)) fun v23 => (bd (.ok []) fun r24 => .ok (v23 :: r24))) fun r26 => .ok (v25 :: r26))) fun ds => if ds.length ≤ sizeLine then .ok (.tup ds) else .bad) fun d28 => un2 d28 fun l_many26 l_begin26 => (bd (bd (bd (bd (.ok l_many26) fun v30 => (bd (.ok []) fun r31 => .ok (v30 :: r31))) (ul1 rg1)) fun ds => bd (lcF (fun l_k31 => nox (bd (bd (.ok l_begin26) fun v33 => (bd (.ok l_k31) fun v34 => addD v33 v34)) fun y => .ok (some y))) ds) fun r => .ok (.lst r)) fun l_some28 => (bd (bd (bd (.ok l_some28) itD) fun ds => bd (lcF (fun l_number35 => nox (bd (bd (.ok l_number35) fun v57 => (bd (bd (bd (bd (.ok l_pen_here) fun v45 => (bd (bd (bd (bd (.ok (.int 0)) fun v41 => (bd (bd (.ok (.int 10)) fun v39 => (bd (bd (.ok (.int 20)) fun v37 => (bd (.ok []) fun r38 => .ok (v37 :: r38))) fun r40 => .ok (v39 :: r40))) fun r42 => .ok (v41 :: r42))) fun ds => if ds.length ≤ sizeLine then .ok (.lst ds) else .bad) fun v43 => (bd (.ok []) fun r44 => .ok (v43 :: r44))) fun r46 => .ok (v45 :: r46))) (ul2 F__law_pick)) fun v55 => (bd (bd (bd (bd (bd (bd (.ok l_pen_here) fun v49 => (bd (bd (.ok (.int 4)) fun v47 => (bd (.ok []) fun r48 => .ok (v47 :: r48))) fun r50 => .ok (v49 :: r50))) (ul2 F_draw)) fun v51 => (bd (.ok (.int 0)) fun v52 => eqD v51 v52)) fun v53 => (bd (.ok []) fun r54 => .ok (v53 :: r54))) (ul1 intD)) fun v56 => mulD v55 v56)) fun v58 => addD v57 v58)) fun y => .ok (some y))) ds) fun r => .ok (.lst r)) fun l_some34 => (bdF (W' := D) (bd (bd (bd (bd (bd (bd (.ok l_some34) itD) fun ds => bd (lcF (fun l_number58 => nox (bd (bd (bd (.ok l_number58) fun v60 => (bd (.ok []) fun r61 => .ok (v60 :: r61))) (ul1 intD)) fun y => .ok (some y))) ds) fun r => .ok (.lst r)) lenSD) fun v62 => (bd (.ok l_many26) fun v63 => ltD v62 v63)) asB) fun k => if k = true then (bd (bd (bd (bd (.ok l_many26) fun v66 => (bd (.ok []) fun r67 => .ok (v66 :: r67))) (ul1 rg1)) fun ds => bd (lcF (fun l_k67 => nox (bd (bd (.ok l_begin26) fun v71 => (bd (bd (.ok (.int 2)) fun v69 => (bd (.ok l_k67) fun v70 => mulD v69 v70)) fun v72 => addD v71 v72)) fun y => .ok (some y))) ds) fun r => .ok (.lst r)) fun l_some64 => (.ok (.nx l_some64))) else (.ok (.nx l_some34))) fun (w64 : D) => (bd (bd (bd (bd (bd (.ok w64) itD) fun ds => bd (lcF (fun l_number73 => nox (bd (bd (bd (.ok l_number73) fun v75 => (bd (.ok []) fun r76 => .ok (v75 :: r76))) (ul1 intD)) fun y => .ok (some y))) ds) fun r => .ok (.lst r)) fun v77 => (bd (.ok []) fun r78 => .ok (v77 :: r78))) (ul1 sortD)) fun l_some72 => (bd (bd (bd (bd (.ok l_many26) fun v80 => (bd (.ok (.int 1)) fun v81 => gtD v80 v81)) asB) fun k => if k = true then (bd (.ok (.int 1)) fun v88 => (bd (bd (bd (.ok l_pen_here) fun v86 => (bd (bd (bd (.ok l_many26) fun v82 => (bd (.ok (.int 1)) fun v83 => subD v82 v83)) fun v84 => (bd (.ok []) fun r85 => .ok (v84 :: r85))) fun r87 => .ok (v86 :: r87))) (ul2 F_draw)) fun v89 => addD v88 v89)) else (.ok (.int 0))) fun l_turn78 => (bd (bd (bd (bd (bd (bd (.ok l_many26) fun v90 => (bd (.ok []) fun r91 => .ok (v90 :: r91))) (ul1 rg1)) fun ds => bd (lcF (fun l_k91 => nox (bd (bd (bd (bd (.ok l_some72) fun v93 => (bd (.ok l_k91) fun v94 => ixD v93 v94)) fun v105 => (bd (bd (bd (.ok l_some72) fun v95 => (bd (bd (bd (bd (bd (.ok l_k91) fun v97 => (bd (.ok l_turn78) fun v98 => addD v97 v98)) fun v99 => (bd (.ok []) fun r100 => .ok (v99 :: r100))) (ul1 intD)) fun v101 => (bd (.ok l_many26) fun v102 => modD v101 v102)) fun v96 => ixD v95 v96)) fun v103 => (bd (.ok []) fun r104 => .ok (v103 :: r104))) fun r106 => .ok (v105 :: r106))) fun ds => if ds.length ≤ sizeLine then .ok (.tup ds) else .bad) fun y => .ok (some y))) ds) fun r => .ok (.lst r)) fun v107 => (bd (.ok []) fun r108 => .ok (v107 :: r108))) (ul1 tupD)) fun d => .ok (.rt d))))))))
theorem ok__law_row (F : FnA K d__law_row fd) (T : Tx K mg) (G__law_pick : PromO P w K mg base CX0 2 (gd "_law_pick" K) [] (spF K Tb (ul2 F__law_pick))) (G__law_draw : PromO P w K mg base CX0 1 (gd "_law_draw" K) [] (spF K Tb (ul2 F_draw))) : FnOk P w K mg base CX0 3 (d__law_row.adr K) fd ["_law_pen_here"] (spF K Tb (ul1 F__law_row)) := by
  refine fnO0 F sc__law_row (fun vs H Q E h => spF_len len1 h) (fun cdv A outer s H vs Q E hr h => ?_)
  refine ⟨_, (pss_cons (ps_asg (pe_tup (pa_cons (pe_g (PromO.call G__law_pick (hr.mono (by decide)) (passA (E := E))) (by rfl) T.g__law_pick T.k__law_pick (pa_cons (pv 0) (pa_cons (pe_lst (pa_cons pe_int (pa_cons pe_int (pa_cons pe_int (pa_cons pe_int (pa_cons pe_int (pa_cons pe_int pa_nil))))))) pa_nil))) (pa_cons (pe_op op_sub (pe_g (PromO.call G__law_draw (hr.mono (by decide)) (passA (E := E))) (by rfl) T.g__law_draw T.k__law_draw (pa_cons (pv 0) (pa_cons pe_int pa_nil))) pe_int) pa_nil))) (pg_tup rfl (pgs_cons (pg_name (i := 3) sc__law_row.nd rfl (.inr rfl)) (pgs_cons (pg_name (i := 4) sc__law_row.nd rfl (.inr rfl)) pgs_nil))))
      (pss_cons (ps_set (i := 1) sc__law_row.nd rfl (.inr rfl) (pe_lc (own := [("_law_k", 5)]) (g := gName 5) (by rfl) sc__law_row.nd (pi_range1 (by rfl) T.f_range (pa_cons (pv 3) pa_nil)) (blkOk_by (own := [("_law_k", 5)]) (N := N__law_row) (sc := defScope s__law_row) (by decide +kernel)) (fun _ _ _ _ _ => pg_name (i := 5) sc__law_row.nd rfl (Or.inl rfl)) (fun _ _ _ _ _ => pts_nil) (fun _ _ _ _ _ => (pe_op (op_addA (K := K) rfl) (pv 4) (pv 5)))))
      (pss_cons (ps_set (i := 1) sc__law_row.nd rfl (.inr rfl) (pe_lc (own := [("_law_number", 6)]) (g := gName 6) (by rfl) sc__law_row.nd (pi_seq (K := K) rfl (pv 1)) (blkOk_by (own := [("_law_number", 6)]) (N := N__law_row) (sc := defScope s__law_row) (by decide +kernel)) (fun _ _ _ _ _ => pg_name (i := 6) sc__law_row.nd rfl (Or.inl rfl)) (fun _ _ _ _ _ => pts_nil) (fun _ _ _ _ _ => (pe_op (op_addA (K := K) rfl) (pv 6) (pe_op op_mulA (pe_g (PromO.call G__law_pick (hr.mono (by decide)) (passA (E := EF))) (by rfl) T.g__law_pick T.k__law_pick (pa_cons (pv 0) (pa_cons (pe_lst (pa_cons pe_int (pa_cons pe_int (pa_cons pe_int pa_nil)))) pa_nil))) (pe_callTy cr_int (by rfl) T.f_int (by decide +kernel) (pa_cons (pe_cmpR (op_eqA (K := K) rfl hr.units) (pe_g (PromO.call G__law_draw (hr.mono (by decide)) (passA (E := EF))) (by rfl) T.g__law_draw T.k__law_draw (pa_cons (pv 0) (pa_cons pe_int pa_nil))) pe_int (nomark _)) pa_nil)))))))
      (pss_cons (ps_if (pt_cmpR op_lt (pe_callB cr_lnSet (by rfl) T.f_len (by decide +kernel) (pa_cons (pe_callTy (cr_setI (K := K) rfl rfl) (by rfl) T.f_set (by decide +kernel) (pa_cons (pe_lc (own := [("_law_number", 6)]) (g := gName 6) (by rfl) sc__law_row.nd (pi_seq (K := K) rfl (pv 1)) (blkOk_by (own := [("_law_number", 6)]) (N := N__law_row) (sc := defScope s__law_row) (by decide +kernel)) (fun _ _ _ _ _ => pg_name (i := 6) sc__law_row.nd rfl (Or.inl rfl)) (fun _ _ _ _ _ => pts_nil) (fun _ _ _ _ _ => (pe_callTy cr_int (by rfl) T.f_int (by decide +kernel) (pa_cons (pv 6) pa_nil)))) pa_nil)) pa_nil)) (pv 3) (nomark _))
      (pss_cons (ps_set (i := 1) sc__law_row.nd rfl (.inr rfl) (pe_lc (own := [("_law_k", 5)]) (g := gName 5) (by rfl) sc__law_row.nd (pi_range1 (by rfl) T.f_range (pa_cons (pv 3) pa_nil)) (blkOk_by (own := [("_law_k", 5)]) (N := N__law_row) (sc := defScope s__law_row) (by decide +kernel)) (fun _ _ _ _ _ => pg_name (i := 5) sc__law_row.nd rfl (Or.inl rfl)) (fun _ _ _ _ _ => pts_nil) (fun _ _ _ _ _ => (pe_op (op_addA (K := K) rfl) (pv 4) (pe_op op_mulA pe_int (pv 5))))))
      pss_nil) pss_nil)
      (pss_cons (ps_set (i := 1) sc__law_row.nd rfl (.inr rfl) (pe_callB (cr_sortedK (K := K) rfl) (by rfl) T.f_sorted (by decide +kernel) (pa_cons (pe_lc (own := [("_law_number", 6)]) (g := gName 6) (by rfl) sc__law_row.nd (pi_seq (K := K) rfl (pv 1)) (blkOk_by (own := [("_law_number", 6)]) (N := N__law_row) (sc := defScope s__law_row) (by decide +kernel)) (fun _ _ _ _ _ => pg_name (i := 6) sc__law_row.nd rfl (Or.inl rfl)) (fun _ _ _ _ _ => pts_nil) (fun _ _ _ _ _ => (pe_callTy cr_int (by rfl) T.f_int (by decide +kernel) (pa_cons (pv 6) pa_nil)))) pa_nil)))
      (pss_cons (ps_set (i := 2) sc__law_row.nd rfl (.inr rfl) (pe_ifExp (pt_cmpR op_gt (pv 3) pe_int (nomark _)) (pe_op (op_addA (K := K) rfl) pe_int (pe_g (PromO.call G__law_draw (hr.mono (by decide)) (passA (E := E))) (by rfl) T.g__law_draw T.k__law_draw (pa_cons (pv 0) (pa_cons (pe_op op_sub (pv 3) pe_int) pa_nil)))) pe_int))
      (pss_cons (ps_ret (pe_callTy (cr_tupOf (K := K) rfl) (by rfl) T.f_tuple (by decide +kernel) (pa_cons (pe_lc (own := [("_law_k", 5)]) (g := gName 5) (by rfl) sc__law_row.nd (pi_range1 (by rfl) T.f_range (pa_cons (pv 3) pa_nil)) (blkOk_by (own := [("_law_k", 5)]) (N := N__law_row) (sc := defScope s__law_row) (by decide +kernel)) (fun _ _ _ _ _ => pg_name (i := 5) sc__law_row.nd rfl (Or.inl rfl)) (fun _ _ _ _ _ => pts_nil) (fun _ _ _ _ _ => (pe_tup (pa_cons (pe_ix (ix_seqK (K := K) rfl) (pv 1) (pv 5) (fun _ _ => rfl)) (pa_cons (pe_ix (ix_seqK (K := K) rfl) (pv 1) (pe_op op_mod (pe_callTy cr_int (by rfl) T.f_int (by decide +kernel) (pa_cons (pe_op (op_addA (K := K) rfl) (pv 5) (pv 2)) pa_nil)) (pv 3)) (fun _ _ => rfl)) pa_nil))))) pa_nil))) pss_nil))))))), ?_⟩
  exact fn_of1 (F := F__law_row) (envU := fun _ => List.replicate 7 .no) h (fun l_pen_here => rfl) (fun p c l_pen_here => (ss_unp (se_tup (sa_cons (se_cl srl_sp0 (sa_cons se_var (sa_cons (se_lst (sa_cons se_int (sa_cons se_int (sa_cons se_int (sa_cons se_int (sa_cons se_int (sa_cons se_int sa_nil))))))) sa_nil))) (sa_cons (se_op sr_sub (se_cl srl_sp0 (sa_cons se_var (sa_cons se_int sa_nil))) se_int) sa_nil))) (fun d28 => sx_tup2 (fun l_many26 l_begin26 => (ss_asg (se_lc (si_rg1 (sa_cons se_var sa_nil)) (fun l_k31 => (sc_map (se_op sr_add se_var se_var)))) (fun l_some28 => (ss_asg (se_lc (si_seq se_var) (fun l_number35 => (sc_map (se_op sr_add se_var (se_op sr_mul (se_cl srl_sp0 (sa_cons se_var (sa_cons (se_lst (sa_cons se_int (sa_cons se_int (sa_cons se_int sa_nil)))) sa_nil))) (se_cb srl_int (sa_cons (se_op sr_eq (se_cl srl_sp0 (sa_cons se_var (sa_cons se_int sa_nil))) se_int) sa_nil))))))) (fun l_some34 => (ss_if (fun (w64 : D) => [.fz l_pen_here, .fz w64, .no, .fz l_many26, .fz l_begin26, .no, .no]) (sb_tst (se_op sr_lt (se_lenS (se_lc (si_seq se_var) (fun l_number58 => (sc_map (se_cb srl_int (sa_cons se_var sa_nil)))))) se_var)) (ss_asg (se_lc (si_rg1 (sa_cons se_var sa_nil)) (fun l_k67 => (sc_map (se_op sr_add se_var (se_op sr_mul se_int se_var))))) (fun l_some64 => (ss_nx (.s (.s (.s (.s (.s (.s (.s .nil)))))))))) (ss_nx (.s (.s (.s (.s (.s (.s (.s .nil)))))))) (fun (w64 : D) => (ss_asg (se_cb srl_sorted (sa_cons (se_lc (si_seq se_var) (fun l_number73 => (sc_map (se_cb srl_int (sa_cons se_var sa_nil))))) sa_nil)) (fun l_some72 => (ss_asg (se_if (sb_tst (se_op sr_gt se_var se_int)) (se_op sr_add se_int (se_cl srl_sp0 (sa_cons se_var (sa_cons (se_op sr_sub se_var se_int) sa_nil)))) se_int) (fun l_turn78 => (ss_ret (se_cb srl_tup (sa_cons (se_lc (si_rg1 (sa_cons se_var sa_nil)) (fun l_k91 => (sc_map (se_tup (sa_cons (se_op sr_ix se_var se_var) (sa_cons (se_op sr_ix se_var (se_op sr_mod (se_cb srl_int (sa_cons (se_op sr_add se_var se_var) sa_nil)) se_var)) sa_nil)))))) sa_nil)))))))))))))))))
abbrev N__law_parts : List Str := ["_law_pen_here", "_law_shift", "_law_marks", "_law_quarter"]
theorem sc__law_parts : FnScope N__law_parts ["_law_pen_here"] (defScope s__law_parts) := ⟨rfl, rfl, rfl, by decide +kernel, rfl, by decide +kernel, by decide +kernel⟩
def F__law_parts (l_pen_here : D) : Tr D :=
  fin (bd (bd (bd (bd (bd (.ok l_pen_here) fun v4 => (bd (bd (.ok (.int 4)) fun v2 => (bd (.ok []) fun r3 => .ok (v2 :: r3))) fun r5 => .ok (v4 :: r5))) (ul2 F_draw)) fun v14 => (bd (bd (bd (bd (bd (.ok l_pen_here) fun v8 => (bd (bd (.ok (.int 13)) fun v6 => (bd (.ok []) fun r7 => .ok (v6 :: r7))) fun r9 => .ok (v8 :: r9))) (ul2 F_draw)) fun v10 => (bd (.ok (.int 6)) fun v11 => subD v10 v11)) fun v12 => (bd (.ok []) fun r13 => .ok (v12 :: r13))) fun r15 => .ok (v14 :: r15))) fun ds => if ds.length ≤ sizeLine then .ok (.tup ds) else .bad) fun l_shift0 => (bd (bd (bd (bd (bd (bd (.ok (.int 4)) fun v17 => (bd (.ok []) fun r18 => .ok (v17 :: r18))) (ul1 rg1)) fun ds => bd (lcF (fun l_quarter18 => nox (bd (bd (bd (.ok l_pen_here) fun v20 => (bd (.ok []) fun r21 => .ok (v20 :: r21))) (ul1 F__law_row)) fun y => .ok (some y))) ds) fun r => .ok (.lst r)) fun v22 => (bd (.ok []) fun r23 => .ok (v22 :: r23))) (ul1 tupD)) fun l_marks15 => (bd (bd (bd (bd (bd (.ok l_pen_here) fun v26 => (bd (bd (.ok (.int 4)) fun v24 => (bd (.ok []) fun r25 => .ok (v24 :: r25))) fun r27 => .ok (v26 :: r27))) (ul2 F_draw)) fun v44 => (bd (bd (bd (bd (.ok l_pen_here) fun v36 => (bd (bd (bd (bd (.ok (.int 1)) fun v32 => (bd (bd (.ok (.int 1)) fun v30 => (bd (bd (bd (.ok (.int 1)) negD) fun v28 => (bd (.ok []) fun r29 => .ok (v28 :: r29))) fun r31 => .ok (v30 :: r31))) fun r33 => .ok (v32 :: r33))) fun ds => if ds.length ≤ sizeLine then .ok (.lst ds) else .bad) fun v34 => (bd (.ok []) fun r35 => .ok (v34 :: r35))) fun r37 => .ok (v36 :: r37))) (ul2 F__law_pick)) fun v42 => (bd (bd (.ok l_shift0) fun v40 => (bd (bd (.ok l_marks15) fun v38 => (bd (.ok []) fun r39 => .ok (v38 :: r39))) fun r41 => .ok (v40 :: r41))) fun r43 => .ok (v42 :: r43))) fun r45 => .ok (v44 :: r45))) fun ds => if ds.length ≤ sizeLine then .ok (.tup ds) else .bad) fun d => .ok (.rt d))))
theorem ok__law_parts (F : FnA K d__law_parts fd) (T : Tx K mg) (G__law_draw : PromO P w K mg base CX0 1 (gd "_law_draw" K) [] (spF K Tb (ul2 F_draw))) (G__law_row : PromO P w K mg base CX0 3 (gd "_law_row" K) [] (spF K Tb (ul1 F__law_row))) (G__law_pick : PromO P w K mg base CX0 2 (gd "_law_pick" K) [] (spF K Tb (ul2 F__law_pick))) : FnOk P w K mg base CX0 4 (d__law_parts.adr K) fd ["_law_pen_here"] (spF K Tb (ul1 F__law_parts)) := by
  refine fnO0 F sc__law_parts (fun vs H Q E h => spF_len len1 h) (fun cdv A outer s H vs Q E hr h => ?_)
  refine ⟨_, (pss_cons (ps_set (i := 1) sc__law_parts.nd rfl (.inl rfl) (pe_tup (pa_cons (pe_g (PromO.call G__law_draw (hr.mono (by decide)) (passA (E := E))) (by rfl) T.g__law_draw T.k__law_draw (pa_cons (pv 0) (pa_cons pe_int pa_nil))) (pa_cons (pe_op op_sub (pe_g (PromO.call G__law_draw (hr.mono (by decide)) (passA (E := E))) (by rfl) T.g__law_draw T.k__law_draw (pa_cons (pv 0) (pa_cons pe_int pa_nil))) pe_int) pa_nil))))
      (pss_cons (ps_set (i := 2) sc__law_parts.nd rfl (.inl rfl) (pe_callTy (cr_tupOf (K := K) rfl) (by rfl) T.f_tuple (by decide +kernel) (pa_cons (pe_lc (own := [("_law_quarter", 3)]) (g := gName 3) (by rfl) sc__law_parts.nd (pi_range1 (by rfl) T.f_range (pa_cons pe_int pa_nil)) (blkOk_by (own := [("_law_quarter", 3)]) (N := N__law_parts) (sc := defScope s__law_parts) (by decide +kernel)) (fun _ _ _ _ _ => pg_name (i := 3) sc__law_parts.nd rfl (Or.inl rfl)) (fun _ _ _ _ _ => pts_nil) (fun _ _ _ _ _ => (pe_g (PromO.call G__law_row (hr.mono (by decide)) (passA (E := EF))) (by rfl) T.g__law_row T.k__law_row (pa_cons (pv 0) pa_nil)))) pa_nil)))
      (pss_cons (ps_ret (pe_tup (pa_cons (pe_g (PromO.call G__law_draw (hr.mono (by decide)) (passA (E := E))) (by rfl) T.g__law_draw T.k__law_draw (pa_cons (pv 0) (pa_cons pe_int pa_nil))) (pa_cons (pe_g (PromO.call G__law_pick (hr.mono (by decide)) (passA (E := E))) (by rfl) T.g__law_pick T.k__law_pick (pa_cons (pv 0) (pa_cons (pe_lst (pa_cons pe_int (pa_cons pe_int (pa_cons (pe_un un_neg pe_int) pa_nil)))) pa_nil))) (pa_cons (pv 1) (pa_cons (pv 2) pa_nil)))))) pss_nil))), ?_⟩
  exact fn_of1 (F := F__law_parts) (envU := fun _ => List.replicate 4 .no) h (fun l_pen_here => rfl) (fun p c l_pen_here => (ss_asg (se_tup (sa_cons (se_cl srl_sp0 (sa_cons se_var (sa_cons se_int sa_nil))) (sa_cons (se_op sr_sub (se_cl srl_sp0 (sa_cons se_var (sa_cons se_int sa_nil))) se_int) sa_nil))) (fun l_shift0 => (ss_asg (se_cb srl_tup (sa_cons (se_lc (si_rg1 (sa_cons se_int sa_nil)) (fun l_quarter18 => (sc_map (se_cl srl_sp0 (sa_cons se_var sa_nil))))) sa_nil)) (fun l_marks15 => (ss_ret (se_tup (sa_cons (se_cl srl_sp0 (sa_cons se_var (sa_cons se_int sa_nil))) (sa_cons (se_cl srl_sp0 (sa_cons se_var (sa_cons (se_lst (sa_cons se_int (sa_cons se_int (sa_cons (se_un sr_neg se_int) sa_nil)))) sa_nil))) (sa_cons se_var (sa_cons se_var sa_nil)))))))))))
abbrev N__law_form : List Str := ["_law_parts_here"]
theorem sc__law_form : FnScope N__law_form ["_law_parts_here"] (defScope s__law_form) := ⟨rfl, rfl, rfl, by decide +kernel, rfl, by decide +kernel, by decide +kernel⟩
def F__law_form (l_parts_here : D) : Tr D :=
  fin (bd (bd (bd (bd (.ok l_parts_here) fun v1 => (bd (.ok (.int 0)) fun v2 => ixD v1 v2)) fun v15 => (bd (bd (bd (.ok l_parts_here) fun v3 => (bd (.ok (.int 1)) fun v4 => ixD v3 v4)) fun v13 => (bd (bd (bd (.ok l_parts_here) fun v5 => (bd (.ok (.int 2)) fun v6 => ixD v5 v6)) fun v11 => (bd (bd (bd (.ok l_parts_here) fun v7 => (bd (.ok (.int 3)) fun v8 => ixD v7 v8)) fun v9 => (bd (.ok []) fun r10 => .ok (v9 :: r10))) fun r12 => .ok (v11 :: r12))) fun r14 => .ok (v13 :: r14))) fun r16 => .ok (v15 :: r16))) (fun ds => bd ((fun fs => ul4 (F_Form___init__ fs)) [] ds) fun fs => .ok (.obj "Form" fs))) fun d => .ok (.rt d))
theorem ok__law_form (F : FnA K d__law_form fd) (T : Tx K mg) (G_Form___init__ : PromO P w K mg base CX0 7 (md "Form" "__init__" K) [] (spI K Tb "Form" (fun fs => ul4 (F_Form___init__ fs)))) : FnOk P w K mg base CX0 9 (d__law_form.adr K) fd ["_law_parts_here"] (spF K Tb (ul1 F__law_form)) := by
  refine fnO0 F sc__law_form (fun vs H Q E h => spF_len len1 h) (fun cdv A outer s H vs Q E hr h => ?_)
  refine ⟨_, (pss_cons (ps_ret (pe_g (PromO.make T.mk_Form G_Form___init__ (hr.mono (by decide)) (passA (E := E))) (by rfl) T.g_Form T.k_Form (pa_cons (pe_ix (ix_seqK (K := K) rfl) (pv 0) pe_int (fun _ _ => rfl)) (pa_cons (pe_ix (ix_seqK (K := K) rfl) (pv 0) pe_int (fun _ _ => rfl)) (pa_cons (pe_ix (ix_seqK (K := K) rfl) (pv 0) pe_int (fun _ _ => rfl)) (pa_cons (pe_ix (ix_seqK (K := K) rfl) (pv 0) pe_int (fun _ _ => rfl)) pa_nil)))))) pss_nil), ?_⟩
  exact fn_of1 (F := F__law_form) (envU := fun _ => List.replicate 1 .no) h (fun l_parts_here => rfl) (fun p c l_parts_here => (ss_ret (se_cl srl_mk0 (sa_cons (se_op sr_ix se_var se_int) (sa_cons (se_op sr_ix se_var se_int) (sa_cons (se_op sr_ix se_var se_int) (sa_cons (se_op sr_ix se_var se_int) sa_nil)))))))
abbrev N__law_seat : List Str := ["_law_n", "_law_place_here"]
theorem sc__law_seat : FnScope N__law_seat ["_law_n", "_law_place_here"] (defScope s__law_seat) := ⟨rfl, rfl, rfl, by decide +kernel, rfl, by decide +kernel, by decide +kernel⟩
def F__law_seat (l_n l_place_here : D) : Tr D :=
  fin (bd (bd (bd (bd (bd (bd (bd (.ok l_place_here) fun v1 => (bd (.ok []) fun r2 => .ok (v1 :: r2))) (ul1 intD)) fun v3 => (bd (.ok (.int 2)) fun v4 => modD v3 v4)) fun v5 => (bd (.ok (.int 0)) fun v6 => eqD v5 v6)) asB) fun k => if k = true then (bd (.ok l_place_here) fun v7 => (bd (.ok (.int 2)) fun v8 => divD v7 v8)) else (bd (bd (bd (bd (.ok l_n) fun v13 => (bd (bd (bd (.ok l_place_here) fun v9 => (bd (.ok (.int 1)) fun v10 => addD v9 v10)) fun v11 => (bd (.ok (.int 2)) fun v12 => divD v11 v12)) fun v14 => subD v13 v14)) fun v15 => (bd (.ok []) fun r16 => .ok (v15 :: r16))) (ul1 intD)) fun v17 => (bd (.ok l_n) fun v18 => modD v17 v18))) fun d => .ok (.rt d))
theorem ok__law_seat (F : FnA K d__law_seat fd) (T : Tx K mg)  : FnOk P w K mg base CX0 1 (d__law_seat.adr K) fd ["_law_n", "_law_place_here"] (spF K Tb (ul2 F__law_seat)) := by
  refine fnO0 F sc__law_seat (fun vs H Q E h => spF_len len2 h) (fun cdv A outer s H vs Q E hr h => ?_)
  refine ⟨_, (pss_cons (ps_ret (pe_ifExp (pt_cmpR (op_eqA (K := K) rfl hr.units) (pe_op op_mod (pe_callTy cr_int (by rfl) T.f_int (by decide +kernel) (pa_cons (pv 1) pa_nil)) pe_int) pe_int (nomark _)) (pe_op op_fdivW (pv 1) pe_int) (pe_op op_mod (pe_callTy cr_int (by rfl) T.f_int (by decide +kernel) (pa_cons (pe_op op_sub (pv 0) (pe_op op_fdivW (pe_op (op_addA (K := K) rfl) (pv 1) pe_int) pe_int)) pa_nil)) (pv 0)))) pss_nil), ?_⟩
  exact fn_of2 (F := F__law_seat) (envU := fun _ => List.replicate 2 .no) h (fun l_n l_place_here => rfl) (fun p c l_n l_place_here => (ss_ret (se_if (sb_tst (se_op sr_eq (se_op sr_mod (se_cb srl_int (sa_cons se_var sa_nil)) se_int) se_int)) (se_op sr_div se_var se_int) (se_op sr_mod (se_cb srl_int (sa_cons (se_op sr_sub se_var (se_op sr_div (se_op sr_add se_var se_int) se_int)) sa_nil)) se_var))))
abbrev N__law_place : List Str := ["_law_n", "_law_seat_here"]
theorem sc__law_place : FnScope N__law_place ["_law_n", "_law_seat_here"] (defScope s__law_place) := ⟨rfl, rfl, rfl, by decide +kernel, rfl, by decide +kernel, by decide +kernel⟩
def F__law_place (l_n l_seat_here : D) : Tr D :=
  fin (bd (bd (bd (bd (.ok l_seat_here) fun v2 => (bd (.ok []) fun r3 => .ok (v2 :: r3))) (ul1 intD)) fun v4 => (bd (.ok l_n) fun v5 => modD v4 v5)) fun l_seat_here0 => (bd (bd (bd (bd (bd (.ok (.int 2)) fun v6 => (bd (.ok l_seat_here0) fun v7 => mulD v6 v7)) fun v8 => (bd (.ok l_n) fun v9 => ltD v8 v9)) asB) fun k => if k = true then (bd (.ok (.int 2)) fun v10 => (bd (.ok l_seat_here0) fun v11 => mulD v10 v11)) else (bd (bd (.ok (.int 2)) fun v14 => (bd (bd (.ok l_n) fun v12 => (bd (.ok l_seat_here0) fun v13 => subD v12 v13)) fun v15 => mulD v14 v15)) fun v16 => (bd (.ok (.int 1)) fun v17 => subD v16 v17))) fun d => .ok (.rt d)))
theorem ok__law_place (F : FnA K d__law_place fd) (T : Tx K mg)  : FnOk P w K mg base CX0 1 (d__law_place.adr K) fd ["_law_n", "_law_seat_here"] (spF K Tb (ul2 F__law_place)) := by
  refine fnO0 F sc__law_place (fun vs H Q E h => spF_len len2 h) (fun cdv A outer s H vs Q E hr h => ?_)
  refine ⟨_, (pss_cons (ps_set (i := 1) sc__law_place.nd rfl (.inl rfl) (pe_op op_mod (pe_callTy cr_int (by rfl) T.f_int (by decide +kernel) (pa_cons (pv 1) pa_nil)) (pv 0)))
      (pss_cons (ps_ret (pe_ifExp (pt_cmpR op_lt (pe_op op_mulA pe_int (pv 1)) (pv 0) (nomark _)) (pe_op op_mulA pe_int (pv 1)) (pe_op op_sub (pe_op op_mulA pe_int (pe_op op_sub (pv 0) (pv 1))) pe_int))) pss_nil)), ?_⟩
  exact fn_of2 (F := F__law_place) (envU := fun _ => List.replicate 2 .no) h (fun l_n l_seat_here => rfl) (fun p c l_n l_seat_here => (ss_asg (se_op sr_mod (se_cb srl_int (sa_cons se_var sa_nil)) se_var) (fun l_seat_here0 => (ss_ret (se_if (sb_tst (se_op sr_lt (se_op sr_mul se_int se_var) se_var)) (se_op sr_mul se_int se_var) (se_op sr_sub (se_op sr_mul se_int (se_op sr_sub se_var se_var)) se_int))))))
abbrev N__law_marked : List Str := ["_law_parts_here", "_law_n", "_law_quarter", "_law_found", "_law_count", "_law_begin", "_law_first", "_law_second"]
theorem sc__law_marked : FnScope N__law_marked ["_law_parts_here", "_law_n"] (defScope s__law_marked) := ⟨rfl, rfl, rfl, by decide +kernel, rfl, by decide +kernel, by decide +kernel⟩
def F__law_marked (l_parts_here l_n : D) : Tr D :=
  fin (bdF (bd (bd (bd (.ok (.int 4)) fun v1 => (bd (.ok []) fun r2 => .ok (v1 :: r2))) (ul1 rg1)) fun ds => forF (fun (d4 : D) (w3 : D × D) => (bd (bd (.ok d4) fun v9 => (bd (bd (.ok l_n) fun v7 => (bd (.ok (.int 4)) fun v8 => divD v7 v8)) fun v10 => mulD v9 v10)) fun l_begin5 => (bdF (bd (bd (bd (bd (.ok l_parts_here) fun v11 => (bd (.ok (.int 3)) fun v12 => ixD v11 v12)) fun v13 => (bd (.ok d4) fun v14 => ixD v13 v14)) itD) fun ds => forF (fun (d16 : D) (w15 : D × D) => (un2 d16 fun l_first16 l_second16 => (bd (bd (bd (bd (bd (.ok l_begin5) fun v18 => (bd (.ok l_second16) fun v19 => addD v18 v19)) fun v20 => (bd (.ok []) fun r21 => .ok (v20 :: r21))) (ul1 intD)) fun v22 => (bd (.ok l_n) fun v23 => modD v22 v23)) fun v30 => bd (bd (bd (bd (bd (.ok l_begin5) fun v24 => (bd (.ok l_first16) fun v25 => addD v24 v25)) fun v26 => (bd (.ok []) fun r27 => .ok (v26 :: r27))) (ul1 intD)) fun v28 => (bd (.ok l_n) fun v29 => modD v28 v29)) fun v31 => match dputD w15.1 v31 v30 with | Option.some l_found31 => (bd (bd (.ok w15.2) fun v34 => (bd (.ok (.int 1)) fun v35 => addD v34 v35)) fun l_count32 => (.ok (.nx (l_found31, l_count32)))) | Option.none => .bad))) ds (w3.1, w3.2)) fun (w15 : D × D) => (.ok (.nx (w15.1, w15.2)))))) ds ((.dik []), (.int 0))) fun (w3 : D × D) => (bd (bd (bd (bd (bd (bd (.ok w3.1) fun v36 => (bd (.ok []) fun r37 => .ok (v36 :: r37))) (ul1 lenKD)) fun v38 => (bd (.ok w3.2) fun v39 => eqD v38 v39)) asB) fun k => if k = true then (.ok w3.1) else (.ok .non)) fun d => .ok (.rt d)))
theorem ok__law_marked (F : FnA K d__law_marked fd) (T : Tx K mg)  : FnOk P w K mg base CX0 1 (d__law_marked.adr K) fd ["_law_parts_here", "_law_n"] (spF K Tb (ul2 F__law_marked)) := by
  refine fnO0 F sc__law_marked (fun vs H Q E h => spF_len len2 h) (fun cdv A outer s H vs Q E hr h => ?_)
  refine ⟨_, (pss_cons (ps_par (i := 3) (j := 4) (by rfl) sc__law_marked.nd rfl rfl (by decide) rfl rfl (pa_cons pe_dnewK (pa_cons pe_int pa_nil)) (by rfl))
      (pss_cons (ps_for PassesOwn.never rfl (pi_range1 (by rfl) T.f_range (pa_cons pe_int pa_nil)) (pg_name (i := 2) sc__law_marked.nd rfl (.inl rfl))
      (pss_cons (ps_set (i := 5) sc__law_marked.nd rfl (.inl rfl) (pe_op op_mulA (pv 2) (pe_op op_fdivW (pv 1) pe_int)))
      (pss_cons (ps_for PassesOwn.never rfl (pi_seq (K := K) rfl (pe_ix (ix_seqK (K := K) rfl) (pe_ix (ix_seqK (K := K) rfl) (pv 0) pe_int (fun _ _ => rfl)) (pv 2) (fun _ _ => rfl))) (pg_tup rfl (pgs_cons (pg_name (i := 6) sc__law_marked.nd rfl (.inl rfl)) (pgs_cons (pg_name (i := 7) sc__law_marked.nd rfl (.inl rfl)) pgs_nil)))
      (pss_cons (ps_dput (Nat.lt_of_le_of_lt (Nat.add_le_add_left (show 1 ≤ 64 by decide) _) hr.units) (pv 3) (pe_op op_mod (pe_callTy cr_int (by rfl) T.f_int (by decide +kernel) (pa_cons (pe_op (op_addA (K := K) rfl) (pv 5) (pv 6)) pa_nil)) (pv 1)) (pe_op op_mod (pe_callTy cr_int (by rfl) T.f_int (by decide +kernel) (pa_cons (pe_op (op_addA (K := K) rfl) (pv 5) (pv 7)) pa_nil)) (pv 1)) (by rfl))
      (pss_cons (ps_set (i := 4) sc__law_marked.nd rfl (.inl rfl) (pe_op (op_addA (K := K) rfl) (pv 4) pe_int))
      pss_nil)))
      pss_nil)))
      (pss_cons (ps_lk 3 (ps_ret (pe_ifExp (pt_cmpR (op_eqA (K := K) rfl hr.units) (pe_callB Gp.call_lenD (by rfl) T.f_len (by decide +kernel) (pa_cons (pv 3) pa_nil)) (pv 4) (nomark _)) (pv 3) pe_non))) pss_nil))), ?_⟩
  exact fn_of2 (F := F__law_marked) (envU := fun _ => List.replicate 8 .no) h (fun l_parts_here l_n => rfl) (fun p c l_parts_here l_n => (ss_par2K (cst_int _) (ss_for (fun (w3 : D × D) => [.fz l_parts_here, .fz l_n, .no, .ow (.d w3.1), .fz w3.2, .no, .no, .no]) (si_rg1 (sa_cons se_int sa_nil)) (.s (.s (.s (.s (.s (.s (.s (.s .nil)))))))) (fun (d4 : D) (w3 : D × D) => (sx_name (ss_asg (se_op sr_mul se_var (se_op sr_div se_var se_int)) (fun l_begin5 => (ss_for (fun (w15 : D × D) => [.fz l_parts_here, .fz l_n, .fz d4, .ow (.d w15.1), .fz w15.2, .fz l_begin5, .no, .no]) (si_seq (se_op sr_ix (se_op sr_ix se_var se_int) se_var)) (.s (.s (.s (.s (.s (.s (.s (.s .nil)))))))) (fun (d16 : D) (w15 : D × D) => (sx_tup2 (fun l_first16 l_second16 => (ss_dput (i := 3) (se_op sr_mod (se_cb srl_int (sa_cons (se_op sr_add se_var se_var) sa_nil)) se_var) (se_op sr_mod (se_cb srl_int (sa_cons (se_op sr_add se_var se_var) sa_nil)) se_var) (fun l_found31 => (ss_asg (se_op sr_add se_var se_int) (fun l_count32 => (ss_nx (.s (.s (.s (.s (.s (.s (.n (.n .nil)))))))))))))))) (fun (w15 : D × D) => (ss_nx (.s (.s (.n (.s (.s (.n (.s (.s .nil))))))))))))))) (fun (w3 : D × D) => (ss_lk (i := 3) (ss_ret (se_if (sb_tst (se_op sr_eq (se_cb srl_lenD (sa_cons se_var sa_nil)) se_var)) se_var se_non)))))))
abbrev N__law_brought : List Str := ["_law_parts_here", "_law_n", "_law_place_here", "_law_seat_here"]
theorem sc__law_brought : FnScope N__law_brought ["_law_parts_here", "_law_n", "_law_place_here"] (defScope s__law_brought) := ⟨rfl, rfl, rfl, by decide +kernel, rfl, by decide +kernel, by decide +kernel⟩
def F__law_brought (l_parts_here l_n l_place_here : D) : Tr D :=
  fin (bd (bd (bd (bd (bd (bd (bd (bd (.ok l_parts_here) fun v2 => (bd (.ok (.int 1)) fun v3 => ixD v2 v3)) fun v8 => (bd (bd (bd (.ok l_n) fun v6 => (bd (bd (.ok l_place_here) fun v4 => (bd (.ok []) fun r5 => .ok (v4 :: r5))) fun r7 => .ok (v6 :: r7))) (ul2 F__law_seat)) fun v9 => mulD v8 v9)) fun v18 => (bd (bd (bd (bd (.ok l_parts_here) fun v10 => (bd (.ok (.int 2)) fun v11 => ixD v10 v11)) fun v12 => (bd (.ok (.int 0)) fun v13 => ixD v12 v13)) fun v16 => (bd (bd (.ok l_n) fun v14 => (bd (.ok (.int 4)) fun v15 => divD v14 v15)) fun v17 => mulD v16 v17)) fun v19 => addD v18 v19)) fun v24 => (bd (bd (bd (.ok l_parts_here) fun v20 => (bd (.ok (.int 2)) fun v21 => ixD v20 v21)) fun v22 => (bd (.ok (.int 1)) fun v23 => ixD v22 v23)) fun v25 => addD v24 v25)) fun v26 => (bd (.ok []) fun r27 => .ok (v26 :: r27))) (ul1 intD)) fun v28 => (bd (.ok l_n) fun v29 => modD v28 v29)) fun l_seat_here0 => (bd (bd (bd (.ok l_n) fun v39 => (bd (bd (bd (bd (bd (.ok l_parts_here) fun v32 => (bd (bd (.ok l_n) fun v30 => (bd (.ok []) fun r31 => .ok (v30 :: r31))) fun r33 => .ok (v32 :: r33))) (ul2 F__law_marked)) fun v34 => if isDk v34 = true then (bd (.ok l_seat_here0) fun v35 => (bd (.ok l_seat_here0) fun v36 => getK2D v34 v35 v36)) else .bad) fun v37 => (bd (.ok []) fun r38 => .ok (v37 :: r38))) fun r40 => .ok (v39 :: r40))) (ul2 F__law_place)) fun d => .ok (.rt d)))
theorem ok__law_brought (F : FnA K d__law_brought fd) (T : Tx K mg) (G__law_seat : PromO P w K mg base CX0 1 (gd "_law_seat" K) [] (spF K Tb (ul2 F__law_seat))) (G__law_place : PromO P w K mg base CX0 1 (gd "_law_place" K) [] (spF K Tb (ul2 F__law_place))) (G__law_marked : PromO P w K mg base CX0 1 (gd "_law_marked" K) [] (spF K Tb (ul2 F__law_marked))) : FnOk P w K mg base CX0 2 (d__law_brought.adr K) fd ["_law_parts_here", "_law_n", "_law_place_here"] (spF K Tb (ul3 F__law_brought)) := by
  refine fnO0 F sc__law_brought (fun vs H Q E h => spF_len len3 h) (fun cdv A outer s H vs Q E hr h => ?_)
  refine ⟨_, (pss_cons (ps_set (i := 3) sc__law_brought.nd rfl (.inl rfl) (pe_op op_mod (pe_callTy cr_int (by rfl) T.f_int (by decide +kernel) (pa_cons (pe_op (op_addA (K := K) rfl) (pe_op (op_addA (K := K) rfl) (pe_op op_mulA (pe_ix (ix_seqK (K := K) rfl) (pv 0) pe_int (fun _ _ => rfl)) (pe_g (PromO.call G__law_seat (hr.mono (by decide)) (passA (E := E))) (by rfl) T.g__law_seat T.k__law_seat (pa_cons (pv 1) (pa_cons (pv 2) pa_nil)))) (pe_op op_mulA (pe_ix (ix_seqK (K := K) rfl) (pe_ix (ix_seqK (K := K) rfl) (pv 0) pe_int (fun _ _ => rfl)) pe_int (fun _ _ => rfl)) (pe_op op_fdivW (pv 1) pe_int))) (pe_ix (ix_seqK (K := K) rfl) (pe_ix (ix_seqK (K := K) rfl) (pv 0) pe_int (fun _ _ => rfl)) pe_int (fun _ _ => rfl))) pa_nil)) (pv 1)))
      (pss_cons (ps_ret (pe_g (PromO.call G__law_place (hr.mono (by decide)) (passA (E := E))) (by rfl) T.g__law_place T.k__law_place (pa_cons (pv 1) (pa_cons (pe_dget2 (Nat.lt_of_le_of_lt (Nat.add_le_add_left (show 1 ≤ 64 by decide) _) hr.units) (pe_g (PromO.call G__law_marked (hr.mono (by decide)) (passA (E := E))) (by rfl) T.g__law_marked T.k__law_marked (pa_cons (pv 0) (pa_cons (pv 1) pa_nil))) (pv 3) (pv 3) ⟨rfl, rfl, rfl, rfl⟩) pa_nil)))) pss_nil)), ?_⟩
  exact fn_of3 (F := F__law_brought) (envU := fun _ => List.replicate 4 .no) h (fun l_parts_here l_n l_place_here => rfl) (fun p c l_parts_here l_n l_place_here => (ss_asg (se_op sr_mod (se_cb srl_int (sa_cons (se_op sr_add (se_op sr_add (se_op sr_mul (se_op sr_ix se_var se_int) (se_cl srl_sp0 (sa_cons se_var (sa_cons se_var sa_nil)))) (se_op sr_mul (se_op sr_ix (se_op sr_ix se_var se_int) se_int) (se_op sr_div se_var se_int))) (se_op sr_ix (se_op sr_ix se_var se_int) se_int)) sa_nil)) se_var) (fun l_seat_here0 => (ss_ret (se_cl srl_sp0 (sa_cons se_var (sa_cons (se_dget2 (se_cl srl_sp0 (sa_cons se_var (sa_cons se_var sa_nil))) se_var se_var) sa_nil)))))))
abbrev N__law_heard : List Str := ["_law_ask", "_law_caught", "error"]
theorem sc__law_heard : FnScope N__law_heard ["_law_ask"] (defScope s__law_heard) := ⟨rfl, rfl, rfl, by decide +kernel, rfl, by decide +kernel, by decide +kernel⟩
def xh__law_heard (cl : Str) : Bool := decide (cl ∈ (["BadLength", "BadPlace", "Overlap"] : List Str))
theorem xhT__law_heard (T : Tx K mg) : ∀ cl, xh__law_heard cl = true → PySem.W.exmOne K (.ref (gd cl K)) (.ref (gd "HuntError" K)) = some true := by
  intro cl h
  unfold xh__law_heard at h
  simp only [decide_eq_true_eq, List.mem_cons, List.mem_nil_iff, or_false] at h
  rcases h with rfl | rfl | rfl
  · exact T.xh_BadLength
  · exact T.xh_BadPlace
  · exact T.xh_Overlap
def F__law_heard (m : Tr D) : Tr D := tryT (bd m fun d => .ok (.tup [.str "told", d])) .ok (fun cl fs => if xh__law_heard cl = true then nox (fin (bdF (W' := Unit) (bd (bd (bd (.ok (.err cl fs)) fun d => bd (opt (isi_BadLength d)) fun k => .ok (.bl k)) asB) fun k => if k = true then (bd (bd (bd (.ok (.str "length")) fun v6 => (bd (bd (bd (bd (bd (.ok (.err cl fs)) (xaD ["BadLength", "BadPlace"] "value")) fun v2 => (bd (.ok []) fun r3 => .ok (v2 :: r3))) (ul1 reprD)) fun v4 => (bd (.ok []) fun r5 => .ok (v4 :: r5))) fun r7 => .ok (v6 :: r7))) fun ds => if ds.length ≤ sizeLine then .ok (.tup ds) else .bad) fun d => .ok (.rt d)) else (.ok (.nx ()))) fun (w1 : Unit) => (bdF (W' := Unit) (bd (bd (bd (.ok (.err cl fs)) fun d => bd (opt (isi_BadPlace d)) fun k => .ok (.bl k)) asB) fun k => if k = true then (bd (bd (bd (.ok (.str "place")) fun v13 => (bd (bd (bd (bd (bd (.ok (.err cl fs)) (xaD ["BadLength", "BadPlace"] "value")) fun v9 => (bd (.ok []) fun r10 => .ok (v9 :: r10))) (ul1 reprD)) fun v11 => (bd (.ok []) fun r12 => .ok (v11 :: r12))) fun r14 => .ok (v13 :: r14))) fun ds => if ds.length ≤ sizeLine then .ok (.tup ds) else .bad) fun d => .ok (.rt d)) else (.ok (.nx ()))) fun (w8 : Unit) => (bd (bd (bd (bd (.ok (.err cl fs)) fun d => bd (opt (isi_Overlap d)) fun k => .ok (.bl k)) asB) fun k => if k = true then (bd (bd (.ok (.str "overlap")) fun v19 => (bd (bd (bd (bd (bd (.ok (.err cl fs)) (xaD ["Overlap"] "length")) fun v15 => (bd (.ok []) fun r16 => .ok (v15 :: r16))) (ul1 reprD)) fun v17 => (bd (.ok []) fun r18 => .ok (v17 :: r18))) fun r20 => .ok (v19 :: r20))) fun ds => if ds.length ≤ sizeLine then .ok (.tup ds) else .bad) else (.ok (.str "odd"))) fun d => .ok (.rt d))))) else .bad)
theorem ok__law_heard {X : Cx} {Tb : List (Addr × Str)} (T : Tx X.K X.mg) (hu105 : X.A.units + 105 < cLine) (hg : X.A.guards = some []) {g : Addr} {cdv : Value} {q : Str} : LamX.GivesTo X N__law_heard "_law_heard" (defScope s__law_heard) g cdv (defBody s__law_heard) "_law_ask" q (THd X.K Tb F__law_heard) := by
  intro f c' s H Q tl act hc h
  obtain ⟨p, c, U, b, m, wd, u, ha, al⟩ := h
  have hu100 : X.A.units + 3 + 102 < cLine := by omega
  have hu64 : X.A.units + 3 + 64 < cLine := by omega
  refine ⟨_, pss_cons (ps_set (i := 1) sc__law_heard.nd rfl (.inl rfl) pe_non) (pss_cons (ps_try_keep (X := (cxOf C8.CX0 X.prog X.w X.K X.mg X.base N__law_heard "_law_heard" (defScope s__law_heard) g cdv X.A X.stack s H C8.E0).nox) (i := 2) (c := .ref (gd "HuntError" X.K)) (Wout := fun _ _ _ _ => False) (tb := fun W => tTry 3 (fun E => tRet (tTup (tCons (tC (.str "told")) (tCons (tAct f c' q (tl E)) tNil)))) W) rfl rfl rfl sc__law_heard.nd rfl rfl ⟨rfl, by decide, .inl T.g_HuntError⟩ LamX.takes0 (fun W pn xe tk _ => try_act 3 rfl tk fun E ⟨W', tk', hW⟩ => pss_one (ps_ret (pe_tup (pa_cons pe_str (pa_cons (act W' pn xe E _ _ tk' hW) pa_nil))))) (fun a oe cls d pn _ _ => pss_one (ps_set (i := 1) sc__law_heard.nd rfl (.inl rfl) (pv 2))))
      (pss_cons (ps_if (pt_val (pe_callB (call_isiZ (K := X.K) rfl) (by rfl) T.f_isinstance (by decide +kernel) (pa_cons (pv 1) (pa_cons (pe_glob (v := .ref _) rfl T.g_BadLength rfl) pa_nil))))
      (pss_cons (ps_ret (pe_tup (pa_cons pe_str (pa_cons (pe_callB (call_show (K := X.K) rfl hu100 hg) (by rfl) T.f_repr (by decide +kernel) (pa_cons (pe_xa (K := X.K) rfl (pv 1)) pa_nil)) pa_nil)))) pss_nil) pss_nil)
      (pss_cons (ps_if (pt_val (pe_callB (call_isiZ (K := X.K) rfl) (by rfl) T.f_isinstance (by decide +kernel) (pa_cons (pv 1) (pa_cons (pe_glob (v := .ref _) rfl T.g_BadPlace rfl) pa_nil))))
      (pss_cons (ps_ret (pe_tup (pa_cons pe_str (pa_cons (pe_callB (call_show (K := X.K) rfl hu100 hg) (by rfl) T.f_repr (by decide +kernel) (pa_cons (pe_xa (K := X.K) rfl (pv 1)) pa_nil)) pa_nil)))) pss_nil) pss_nil)
      (pss_cons (ps_ret (pe_ifExp (pt_val (pe_callB (call_isiZ (K := X.K) rfl) (by rfl) T.f_isinstance (by decide +kernel) (pa_cons (pv 1) (pa_cons (pe_glob (v := .ref _) rfl T.g_Overlap rfl) pa_nil)))) (pe_tup (pa_cons pe_str (pa_cons (pe_callB (call_show (K := X.K) rfl hu100 hg) (by rfl) T.f_repr (by decide +kernel) (pa_cons (pe_xa (K := X.K) rfl (pv 1)) pa_nil)) pa_nil))) pe_str)) pss_nil)))), ?_⟩
  exact heardA (g := ⟨X.K, Tb, p, c⟩) (n := 3) (i := 2) (j := 1) (mrest := fun x => match x with | .err cl fs => (bdF (W' := Unit) (bd (bd (bd (.ok (.err cl fs)) fun d => bd (opt (isi_BadLength d)) fun k => .ok (.bl k)) asB) fun k => if k = true then (bd (bd (bd (.ok (.str "length")) fun v6 => (bd (bd (bd (bd (bd (.ok (.err cl fs)) (xaD ["BadLength", "BadPlace"] "value")) fun v2 => (bd (.ok []) fun r3 => .ok (v2 :: r3))) (ul1 reprD)) fun v4 => (bd (.ok []) fun r5 => .ok (v4 :: r5))) fun r7 => .ok (v6 :: r7))) fun ds => if ds.length ≤ sizeLine then .ok (.tup ds) else .bad) fun d => .ok (.rt d)) else (.ok (.nx ()))) fun (w1 : Unit) => (bdF (W' := Unit) (bd (bd (bd (.ok (.err cl fs)) fun d => bd (opt (isi_BadPlace d)) fun k => .ok (.bl k)) asB) fun k => if k = true then (bd (bd (bd (.ok (.str "place")) fun v13 => (bd (bd (bd (bd (bd (.ok (.err cl fs)) (xaD ["BadLength", "BadPlace"] "value")) fun v9 => (bd (.ok []) fun r10 => .ok (v9 :: r10))) (ul1 reprD)) fun v11 => (bd (.ok []) fun r12 => .ok (v11 :: r12))) fun r14 => .ok (v13 :: r14))) fun ds => if ds.length ≤ sizeLine then .ok (.tup ds) else .bad) fun d => .ok (.rt d)) else (.ok (.nx ()))) fun (w8 : Unit) => (bd (bd (bd (bd (.ok (.err cl fs)) fun d => bd (opt (isi_Overlap d)) fun k => .ok (.bl k)) asB) fun k => if k = true then (bd (bd (.ok (.str "overlap")) fun v19 => (bd (bd (bd (bd (bd (.ok (.err cl fs)) (xaD ["Overlap"] "length")) fun v15 => (bd (.ok []) fun r16 => .ok (v15 :: r16))) (ul1 reprD)) fun v17 => (bd (.ok []) fun r18 => .ok (v17 :: r18))) fun r20 => .ok (v19 :: r20))) fun ds => if ds.length ≤ sizeLine then .ok (.tup ds) else .bad) else (.ok (.str "odd"))) fun d => .ok (.rt d)))) | _ => .bad) (envU := fun _ => List.replicate 3 .no) (xh := xh__law_heard) (HE := gd "HuntError" X.K) rfl (by decide) (by decide) (by decide) (by decide) (xhT__law_heard T) (fun cl fs => (ss_if (fun (w1 : Unit) => [.no, .fz (.err cl fs), .no]) (sb_tb (se_isi (.own _) (isT_BadLength T) se_var)) (ss_ret (se_tup (sa_cons (se_str (by decide)) (sa_cons (se_cb srl_repr (sa_cons (se_xa (xt_value T) se_var) sa_nil)) sa_nil)))) (ss_nx (.s (.s (.s .nil)))) (fun (w1 : Unit) => (ss_if (fun (w8 : Unit) => [.no, .fz (.err cl fs), .no]) (sb_tb (se_isi (.own _) (isT_BadPlace T) se_var)) (ss_ret (se_tup (sa_cons (se_str (by decide)) (sa_cons (se_cb srl_repr (sa_cons (se_xa (xt_value T) se_var) sa_nil)) sa_nil)))) (ss_nx (.s (.s (.s .nil)))) (fun (w8 : Unit) => (ss_ret (se_if (sb_tb (se_isi (.own _) (isT_Overlap T) se_var)) (se_tup (sa_cons (se_str (by decide)) (sa_cons (se_cb srl_repr (sa_cons (se_xa (xt_length T) se_var) sa_nil)) sa_nil))) (se_str (by decide))))))))) (act_tup (by decide) hc (code_np wd hc) ha) wd u al
abbrev N__law_small_right : List Str := ["_law_form_here", "_law_parts_here", "_law_n", "_law_usable", "_law_told", "_law_due", "_law_place_here"]
theorem sc__law_small_right : FnScope N__law_small_right ["_law_form_here", "_law_parts_here", "_law_n"] (defScope s__law_small_right) := ⟨rfl, rfl, rfl, by decide +kernel, rfl, by decide +kernel, by decide +kernel⟩
def F__law_small_right (l_form_here l_parts_here l_n : D) : Tr D :=
  fin (bd (bd (bd (bd (.ok l_parts_here) fun v4 => (bd (bd (.ok l_n) fun v2 => (bd (.ok []) fun r3 => .ok (v2 :: r3))) fun r5 => .ok (v4 :: r5))) (ul2 F__law_marked)) fun (v6 : D) => (bd (.ok .non) fun (v7 : D) => (match v7 with | .non => .ok (.bl (!isN v6)) | _ => .bad))) fun l_usable0 => (bdF (W' := Unit) (bd (bd (bd (bd (bd (nox (bd (.ok l_form_here) fun o10 => (isO "Form" o10 fun fs => if fs.lookup ("is_usable" : Str) = none then bd (bd (.ok l_n) fun v8 => (bd (.ok []) fun r9 => .ok (v8 :: r9))) fun ds => (ul2 F_Form_is_usable) (o10 :: ds) else .bad))) fun v11 => (bd (.ok []) fun r12 => .ok (v11 :: r12))) (ul1 reprD)) fun v15 => (bd (bd (bd (.ok l_usable0) fun v13 => (bd (.ok []) fun r14 => .ok (v13 :: r14))) (ul1 reprD)) fun v16 => neD v15 v16)) asB) fun k => if k = true then (bd (.ok (.bl false)) fun d => .ok (.rt d)) else (.ok (.nx ()))) fun (w17 : Unit) => (bdF (W' := Unit) (bd (bd (bd (.ok l_usable0) asB) fun k => .ok (!k)) fun k => if k = true then (bd (bd (bd (bd (bd (.ok l_n) fun v19 => (bd (.ok []) fun r20 => .ok (v19 :: r20))) (ul1 rg1)) fun ds => bd (lcF (fun l_place_here20 => nox (bd (nox (F__law_heard (bd (.ok l_form_here) fun o26 => (isO "Form" o26 fun fs => if fs.lookup ("to" : Str) = none then bd (bd (.ok l_n) fun v24 => (bd (bd (.ok l_place_here20) fun v22 => (bd (.ok []) fun r23 => .ok (v22 :: r23))) fun r25 => .ok (v24 :: r25))) fun ds => (ul3 F_Form_to) (o26 :: ds) else .bad)))) fun y => .ok (some y))) ds) fun r => .ok (.lst r)) fun v37 => (bd (bd (bd (bd (bd (bd (.ok (.str "overlap")) fun v31 => (bd (bd (bd (bd (.ok l_n) fun v27 => (bd (.ok []) fun r28 => .ok (v27 :: r28))) (ul1 reprD)) fun v29 => (bd (.ok []) fun r30 => .ok (v29 :: r30))) fun r32 => .ok (v31 :: r32))) fun ds => if ds.length ≤ sizeLine then .ok (.tup ds) else .bad) fun v33 => (bd (.ok []) fun r34 => .ok (v33 :: r34))) fun ds => if ds.length ≤ sizeLine then .ok (.lst ds) else .bad) fun v35 => (bd (.ok l_n) fun v36 => mulD v35 v36)) fun v38 => eqD v37 v38)) fun d => .ok (.rt d)) else (.ok (.nx ()))) fun (w18 : Unit) => (bd (bd (bd (bd (.ok l_n) fun v40 => (bd (.ok []) fun r41 => .ok (v40 :: r41))) (ul1 rg1)) fun ds => bd (lcF (fun l_place_here41 => nox (bd (nox (bd (.ok l_form_here) fun o47 => (isO "Form" o47 fun fs => if fs.lookup ("to" : Str) = none then bd (bd (.ok l_n) fun v45 => (bd (bd (.ok l_place_here41) fun v43 => (bd (.ok []) fun r44 => .ok (v43 :: r44))) fun r46 => .ok (v45 :: r46))) fun ds => (ul3 F_Form_to) (o47 :: ds) else .bad))) fun y => .ok (some y))) ds) fun r => .ok (.lst r)) fun l_told38 => (bd (bd (bd (bd (.ok l_n) fun v49 => (bd (.ok []) fun r50 => .ok (v49 :: r50))) (ul1 rg1)) fun ds => bd (lcF (fun l_place_here50 => nox (bd (bd (bd (.ok l_parts_here) fun v56 => (bd (bd (.ok l_n) fun v54 => (bd (bd (.ok l_place_here50) fun v52 => (bd (.ok []) fun r53 => .ok (v52 :: r53))) fun r55 => .ok (v54 :: r55))) fun r57 => .ok (v56 :: r57))) (ul3 F__law_brought)) fun y => .ok (some y))) ds) fun r => .ok (.lst r)) fun l_due47 => (bd (bd (bd (bd (bd (bd (.ok l_told38) fun v58 => (bd (.ok []) fun r59 => .ok (v58 :: r59))) (ul1 reprD)) fun v62 => (bd (bd (bd (.ok l_due47) fun v60 => (bd (.ok []) fun r61 => .ok (v60 :: r61))) (ul1 reprD)) fun v63 => eqD v62 v63)) asB) fun k => if k = true then (bd (bd (bd (bd (bd (.ok l_told38) itD) fun ds => bd (lcF (fun l_place_here63 => nox (bd (bd (bd (.ok l_place_here63) fun v65 => (bd (.ok []) fun r66 => .ok (v65 :: r66))) (ul1 intD)) fun y => .ok (some y))) ds) fun r => .ok (.lst r)) fun v67 => (bd (.ok []) fun r68 => .ok (v67 :: r68))) (ul1 sortD)) fun v69 => (bd (bd (bd (.ok l_n) rgA1) fun r => if rgOk r.1 r.2 then .ok (.lst (rgD r.1 (r.2 - r.1).toNat)) else .bad) fun v70 => eqD v69 v70)) else .ok (.bl false)) fun d => .ok (.rt d)))))))
theorem ok__law_small_right (F : FnA K d__law_small_right fd) (T : Tx K mg) (G__law_marked : PromO P w K mg base CX0 1 (gd "_law_marked" K) [] (spF K Tb (ul2 F__law_marked))) (G_Form_is_usable : PromO P w K mg base (L2.CX P w) 6 (md "Form" "is_usable" K) [] (spF K Tb (ul2 F_Form_is_usable))) (GH__law_heard : HrdP K d__law_heard ["_law_ask"]) (LD__law_small_right : LamD base mg K Tb d__law_small_right ("_law_small_right", none)) (G_Form_to : PromO P w K mg base (L2.CX P w) 6 (md "Form" "to" K) [] (spF K Tb (ul3 F_Form_to))) (G__law_brought : PromO P w K mg base CX0 2 (gd "_law_brought" K) [] (spF K Tb (ul3 F__law_brought))) : FnG P w K mg base CX0 9 (d__law_small_right.adr K) fd ["_law_form_here", "_law_parts_here", "_law_n"] (spF K Tb (ul3 F__law_small_right)) := by
  obtain ⟨fdH, FH, hbH⟩ := GH__law_heard
  obtain ⟨ocH, odH, dVH, kVH, docH, pmH, anH, cdvH, ctH, oslH, rfl, lkH, hcH, _, _⟩ := FH.ex
  have ecode : fd.code = .ref (He.cT K ("_law_small_right", none)).1 := codeOf_fn (p := ("_law_small_right", none)) F
  refine fnG1 F sc__law_small_right (fun vs H Q E h => spF_len len3 h) (fun cdv A outer s H vs Q E hcdv hr hg h => ?_)
  have hcode : cdv = .ref (He.cT K ("_law_small_right", none)).1 := hcdv.trans ecode
  have hu100 := Nat.lt_of_le_of_lt (Nat.add_le_add_left (show 102 ≤ 16 * 8 + 200 by decide) _) (show _ + (16 * 8 + 200) < cLine from hr.un)
  refine ⟨_, (pss_cons (ps_set (i := 3) sc__law_small_right.nd rfl (.inl rfl) (pe_cmpR or_notN (pe_g (PromO.call G__law_marked (hr.mono (by decide)) (passA (E := E))) (by rfl) T.g__law_marked T.k__law_marked (pa_cons (pv 1) (pa_cons (pv 2) pa_nil))) pe_non (nomark _)))
      (pss_cons (ps_if (pt_cmpR (op_neA (K := K) rfl hr.units) (pe_callB (call_show (K := K) rfl hu100 hg) (by rfl) T.f_repr (by decide +kernel) (pa_cons (pe_m (pv 0) T.cl_Form T.mt_Form_is_usable (PromO.call G_Form_is_usable (hr.mono (by decide)) passF) (pa_cons (pv 2) pa_nil)) pa_nil)) (pe_callB (call_show (K := K) rfl hu100 hg) (by rfl) T.f_repr (by decide +kernel) (pa_cons (pv 3) pa_nil)) (nomark _))
      (pss_cons (ps_ret pe_bl) pss_nil) pss_nil)
      (pss_cons (ps_if (pt_not (pt_val (pv 3)))
      (pss_cons (ps_ret (pe_cmpR (op_eqA (K := K) rfl hr.units) (pe_lc (own := [("_law_place_here", 6)]) (g := gName 6) (by rfl) sc__law_small_right.nd (pi_range1 (by rfl) T.f_range (pa_cons (pv 2) pa_nil)) (blkOk_by (own := [("_law_place_here", 6)]) (N := N__law_small_right) (sc := defScope s__law_small_right) (by decide +kernel)) (fun _ _ _ _ _ => pg_name (i := 6) sc__law_small_right.nd rfl (Or.inr rfl)) (fun _ _ _ _ _ => pts_nil) (fun _ _ _ _ _ => (LamX.pe_lamcall (T := Tb) (TT := THd K Tb F__law_heard) (k := 6) (by rfl) T.g__law_heard T.k__law_heard lkH hcH hbH sc__law_heard rfl (.inl rfl) (ok__law_heard (Tb := Tb) T (Nat.lt_of_le_of_lt (Nat.add_le_add_left (show 105 ≤ 16 * 8 + 200 by decide) _) (show _ + (16 * 8 + 200) < cLine from hr.un)) hg) LD__law_small_right.tb hcode LD__law_small_right.mem LD__law_small_right.hu (hr.mono (by decide)) (LamX.lamS_by (by rfl)) rfl (fun _ _ _ _ _ => rfl) (fun A outer s H E f c' hr => (pe_m (pv 0) T.cl_Form T.mt_Form_to (PromO.call G_Form_to (hr.mono (by decide)) (pass_on rfl rfl rfl rfl)) (pa_cons (pv 2) (pa_cons (pv 6) pa_nil))))))) (pe_op op_mulA (pe_lst (pa_cons (pe_tup (pa_cons pe_str (pa_cons (pe_callB (call_show (K := K) rfl hu100 hg) (by rfl) T.f_repr (by decide +kernel) (pa_cons (pv 2) pa_nil)) pa_nil))) pa_nil)) (pv 2)) (nomark _))) pss_nil) pss_nil)
      (pss_cons (ps_setLc (i := 4) (own := [("_law_place_here", 6)]) (g := gName 6) (by rfl) sc__law_small_right.nd rfl rfl (sw_true rfl rfl rfl (by decide +kernel)) (pi_range1 (by rfl) T.f_range (pa_cons (pv 2) pa_nil)) (blkOk_by (own := [("_law_place_here", 6)]) (N := N__law_small_right) (sc := defScope s__law_small_right) (by decide +kernel)) (fun _ _ _ _ _ => pg_name (i := 6) sc__law_small_right.nd rfl (Or.inl rfl)) (fun _ _ _ _ _ => pts_nil) (fun _ _ _ _ _ => (pe_m (pv 0) T.cl_Form T.mt_Form_to (PromO.call G_Form_to (hr.mono (by decide)) passF) (pa_cons (pv 2) (pa_cons (pv 6) pa_nil)))))
      (pss_cons (ps_setLc (i := 5) (own := [("_law_place_here", 6)]) (g := gName 6) (by rfl) sc__law_small_right.nd rfl rfl (sw_true rfl rfl rfl (by decide +kernel)) (pi_range1 (by rfl) T.f_range (pa_cons (pv 2) pa_nil)) (blkOk_by (own := [("_law_place_here", 6)]) (N := N__law_small_right) (sc := defScope s__law_small_right) (by decide +kernel)) (fun _ _ _ _ _ => pg_name (i := 6) sc__law_small_right.nd rfl (Or.inl rfl)) (fun _ _ _ _ _ => pts_nil) (fun _ _ _ _ _ => (pe_g (PromO.call G__law_brought (hr.mono (by decide)) (passA (E := EF))) (by rfl) T.g__law_brought T.k__law_brought (pa_cons (pv 1) (pa_cons (pv 2) (pa_cons (pv 6) pa_nil))))))
      (pss_cons (ps_ret (pe_and (pe_cmpR (op_eqA (K := K) rfl hr.units) (pe_callB (call_show (K := K) rfl hu100 hg) (by rfl) T.f_repr (by decide +kernel) (pa_cons (pv 4) pa_nil)) (pe_callB (call_show (K := K) rfl hu100 hg) (by rfl) T.f_repr (by decide +kernel) (pa_cons (pv 5) pa_nil)) (nomark _)) (pe_one (pe_cmpR (op_eqA (K := K) rfl hr.units) (pe_callB (cr_sortedK (K := K) rfl) (by rfl) T.f_sorted (by decide +kernel) (pa_cons (pe_lc (own := [("_law_place_here", 6)]) (g := gName 6) (by rfl) sc__law_small_right.nd (pi_seq (K := K) rfl (pv 4)) (blkOk_by (own := [("_law_place_here", 6)]) (N := N__law_small_right) (sc := defScope s__law_small_right) (by decide +kernel)) (fun _ _ _ _ _ => pg_name (i := 6) sc__law_small_right.nd rfl (Or.inl rfl)) (fun _ _ _ _ _ => pts_nil) (fun _ _ _ _ _ => (pe_callTy cr_int (by rfl) T.f_int (by decide +kernel) (pa_cons (pv 6) pa_nil)))) pa_nil)) (pe_listRg rfl (by rfl) T.f_list (prg_1 (by rfl) T.f_range (pv 2))) (nomark _))))) pss_nil)))))), ?_⟩
  exact fn_of3 (F := F__law_small_right) (envU := fun _ => List.replicate 7 .no) h (fun l_form_here l_parts_here l_n => rfl) (fun p c l_form_here l_parts_here l_n => (ss_asg (se_op sr_notN (se_cl srl_sp0 (sa_cons se_var (sa_cons se_var sa_nil))) se_non) (fun l_usable0 => (ss_if (fun (w17 : Unit) => [.fz l_form_here, .fz l_parts_here, .fz l_n, .fz l_usable0, .no, .no, .no]) (sb_tst (se_op sr_ne (se_cb srl_repr (sa_cons (se_nox (se_mt srl_sp0 se_var (sa_cons se_var sa_nil))) sa_nil)) (se_cb srl_repr (sa_cons se_var sa_nil)))) (ss_ret se_bl) (ss_nx (.s (.s (.s (.s (.s (.s (.s .nil)))))))) (fun (w17 : Unit) => (ss_if (fun (w18 : Unit) => [.fz l_form_here, .fz l_parts_here, .fz l_n, .fz l_usable0, .no, .no, .no]) (sb_not (sb_tb se_var)) (ss_ret (se_op sr_eq (se_lc (si_rg1 (sa_cons se_var sa_nil)) (fun l_place_here20 => (sc_map (se_lam fun E => (se_mt srl_sp0 se_var (sa_cons se_var (sa_cons se_var sa_nil))))))) (se_op sr_mul (se_lst (sa_cons (se_tup (sa_cons (se_str (by decide)) (sa_cons (se_cb srl_repr (sa_cons se_var sa_nil)) sa_nil))) sa_nil)) se_var))) (ss_nx (.s (.s (.s (.s (.s (.s (.s .nil)))))))) (fun (w18 : Unit) => (ss_asg (se_lc (si_rg1 (sa_cons se_var sa_nil)) (fun l_place_here41 => (sc_map (se_nox (se_mt srl_sp0 se_var (sa_cons se_var (sa_cons se_var sa_nil))))))) (fun l_told38 => (ss_asg (se_lc (si_rg1 (sa_cons se_var sa_nil)) (fun l_place_here50 => (sc_map (se_cl srl_sp0 (sa_cons se_var (sa_cons se_var (sa_cons se_var sa_nil))))))) (fun l_due47 => (ss_ret (se_andV (se_op sr_eq (se_cb srl_repr (sa_cons se_var sa_nil)) (se_cb srl_repr (sa_cons se_var sa_nil))) (se_op sr_eq (se_cb srl_sorted (sa_cons (se_lc (si_seq se_var) (fun l_place_here63 => (sc_map (se_cb srl_int (sa_cons se_var sa_nil))))) sa_nil)) (se_lstRg (srg_1 se_var))))))))))))))))
abbrev N__law_far_right : List Str := ["_law_pen_here", "_law_form_here", "_law_parts_here", "_law_n", "_law_places", "_law_place_here"]
theorem sc__law_far_right : FnScope N__law_far_right ["_law_pen_here", "_law_form_here", "_law_parts_here"] (defScope s__law_far_right) := ⟨rfl, rfl, rfl, by decide +kernel, rfl, by decide +kernel, by decide +kernel⟩
def F__law_far_right (l_pen_here l_form_here l_parts_here : D) : Tr D :=
  fin (bd (bd (bd (bd (.ok (.int 4)) fun v2 => (bd (.ok (.int 1000000000000000000000000000000000000000)) fun v3 => mulD v2 v3)) fun v10 => (bd (bd (.ok (.int 4)) fun v8 => (bd (bd (bd (.ok l_pen_here) fun v6 => (bd (bd (.ok (.int 100000000000000000000)) fun v4 => (bd (.ok []) fun r5 => .ok (v4 :: r5))) fun r7 => .ok (v6 :: r7))) (ul2 F_draw)) fun v9 => mulD v8 v9)) fun v11 => addD v10 v11)) fun v14 => (bd (bd (.ok l_parts_here) fun v12 => (bd (.ok (.int 0)) fun v13 => ixD v12 v13)) fun v15 => addD v14 v15)) fun l_n0 => (bd (bd (bd (bd (bd (.ok l_pen_here) fun v19 => (bd (bd (.ok (.int 60)) fun v17 => (bd (.ok []) fun r18 => .ok (v17 :: r18))) fun r20 => .ok (v19 :: r20))) (ul2 F_draw)) fun v33 => (bd (bd (bd (bd (bd (.ok l_n0) fun v21 => (bd (.ok (.int 2)) fun v22 => divD v21 v22)) fun v23 => (bd (.ok (.int 30)) fun v24 => subD v23 v24)) fun v29 => (bd (bd (bd (.ok l_pen_here) fun v27 => (bd (bd (.ok (.int 60)) fun v25 => (bd (.ok []) fun r26 => .ok (v25 :: r26))) fun r28 => .ok (v27 :: r28))) (ul2 F_draw)) fun v30 => addD v29 v30)) fun v31 => (bd (.ok []) fun r32 => .ok (v31 :: r32))) fun r34 => .ok (v33 :: r34))) fun ds => if ds.length ≤ sizeLine then .ok (.lst ds) else .bad) fun l_places15 => (bdF (bd (bd (bd (.ok l_places15) fun v51 => (bd (bd (bd (bd (bd (.ok l_n0) fun v35 => (bd (.ok (.int 1)) fun v36 => subD v35 v36)) fun v41 => (bd (bd (bd (.ok l_pen_here) fun v39 => (bd (bd (.ok (.int 60)) fun v37 => (bd (.ok []) fun r38 => .ok (v37 :: r38))) fun r40 => .ok (v39 :: r40))) (ul2 F_draw)) fun v42 => subD v41 v42)) fun v49 => (bd (bd (bd (bd (.ok l_pen_here) fun v45 => (bd (bd (.ok l_n0) fun v43 => (bd (.ok []) fun r44 => .ok (v43 :: r44))) fun r46 => .ok (v45 :: r46))) (ul2 F_draw)) fun v47 => (bd (.ok []) fun r48 => .ok (v47 :: r48))) fun r50 => .ok (v49 :: r50))) fun ds => if ds.length ≤ sizeLine then .ok (.lst ds) else .bad) fun v52 => addD v51 v52)) itD) fun ds => forF (fun (d54 : D) (w53 : Unit) => (bdF (W' := Unit) (bd (bd (bd (bd (bd (nox (bd (.ok l_form_here) fun o60 => (isO "Form" o60 fun fs => if fs.lookup ("to" : Str) = none then bd (bd (.ok l_n0) fun v58 => (bd (bd (.ok d54) fun v56 => (bd (.ok []) fun r57 => .ok (v56 :: r57))) fun r59 => .ok (v58 :: r59))) fun ds => (ul3 F_Form_to) (o60 :: ds) else .bad))) fun v61 => (bd (.ok []) fun r62 => .ok (v61 :: r62))) (ul1 reprD)) fun v71 => (bd (bd (bd (bd (bd (.ok l_parts_here) fun v67 => (bd (bd (.ok l_n0) fun v65 => (bd (bd (.ok d54) fun v63 => (bd (.ok []) fun r64 => .ok (v63 :: r64))) fun r66 => .ok (v65 :: r66))) fun r68 => .ok (v67 :: r68))) (ul3 F__law_brought)) fun v69 => (bd (.ok []) fun r70 => .ok (v69 :: r70))) (ul1 reprD)) fun v72 => neD v71 v72)) asB) fun k => if k = true then (bd (.ok (.bl false)) fun d => .ok (.rt d)) else (.ok (.nx ()))) fun (w73 : Unit) => (.ok (.nx ())))) ds ()) fun (w53 : Unit) => (bd (bd (nox (bd (.ok l_form_here) fun o76 => (isO "Form" o76 fun fs => if fs.lookup ("is_usable" : Str) = none then bd (bd (.ok l_n0) fun v74 => (bd (.ok []) fun r75 => .ok (v74 :: r75))) fun ds => (ul2 F_Form_is_usable) (o76 :: ds) else .bad))) fun v77 => (bd (.ok (.bl true)) fun v78 => isBD v77 v78)) fun d => .ok (.rt d)))))
theorem ok__law_far_right (F : FnA K d__law_far_right fd) (T : Tx K mg) (G__law_draw : PromO P w K mg base CX0 1 (gd "_law_draw" K) [] (spF K Tb (ul2 F_draw))) (G_Form_to : PromO P w K mg base (L2.CX P w) 6 (md "Form" "to" K) [] (spF K Tb (ul3 F_Form_to))) (G__law_brought : PromO P w K mg base CX0 2 (gd "_law_brought" K) [] (spF K Tb (ul3 F__law_brought))) (G_Form_is_usable : PromO P w K mg base (L2.CX P w) 6 (md "Form" "is_usable" K) [] (spF K Tb (ul2 F_Form_is_usable))) : FnG P w K mg base CX0 7 (d__law_far_right.adr K) fd ["_law_pen_here", "_law_form_here", "_law_parts_here"] (spF K Tb (ul3 F__law_far_right)) := by
  refine fnG0 F sc__law_far_right (fun vs H Q E h => spF_len len3 h) (fun cdv A outer s H vs Q E hr hg h => ?_)
  have hu100 := Nat.lt_of_le_of_lt (Nat.add_le_add_left (show 102 ≤ 16 * 6 + 200 by decide) _) (show _ + (16 * 6 + 200) < cLine from hr.un)
  refine ⟨_, (pss_cons (ps_set (i := 3) sc__law_far_right.nd rfl (.inl rfl) (pe_op (op_addA (K := K) rfl) (pe_op (op_addA (K := K) rfl) (pe_op op_mulA pe_int (pe_op (op_powK 1000000000000000000000000000000000000000) pe_int pe_int)) (pe_op op_mulA pe_int (pe_g (PromO.call G__law_draw (hr.mono (by decide)) (passA (E := E))) (by rfl) T.g__law_draw T.k__law_draw (pa_cons (pv 0) (pa_cons (pe_op (op_powK 100000000000000000000) pe_int pe_int) pa_nil))))) (pe_ix (ix_seqK (K := K) rfl) (pv 2) pe_int (fun _ _ => rfl))))
      (pss_cons (ps_set (i := 4) sc__law_far_right.nd rfl (.inl rfl) (pe_lst (pa_cons (pe_g (PromO.call G__law_draw (hr.mono (by decide)) (passA (E := E))) (by rfl) T.g__law_draw T.k__law_draw (pa_cons (pv 0) (pa_cons pe_int pa_nil))) (pa_cons (pe_op (op_addA (K := K) rfl) (pe_op op_sub (pe_op op_fdivW (pv 3) pe_int) pe_int) (pe_g (PromO.call G__law_draw (hr.mono (by decide)) (passA (E := E))) (by rfl) T.g__law_draw T.k__law_draw (pa_cons (pv 0) (pa_cons pe_int pa_nil)))) pa_nil))))
      (pss_cons (ps_for PassesOwn.never rfl (pi_seq (K := K) rfl (pe_op (op_addA (K := K) rfl) (pv 4) (pe_lst (pa_cons (pe_op op_sub (pe_op op_sub (pv 3) pe_int) (pe_g (PromO.call G__law_draw (hr.mono (by decide)) (passA (E := E))) (by rfl) T.g__law_draw T.k__law_draw (pa_cons (pv 0) (pa_cons pe_int pa_nil)))) (pa_cons (pe_g (PromO.call G__law_draw (hr.mono (by decide)) (passA (E := E))) (by rfl) T.g__law_draw T.k__law_draw (pa_cons (pv 0) (pa_cons (pv 3) pa_nil))) pa_nil))))) (pg_name (i := 5) sc__law_far_right.nd rfl (.inl rfl))
      (pss_cons (ps_if (pt_cmpR (op_neA (K := K) rfl hr.units) (pe_callB (call_show (K := K) rfl hu100 hg) (by rfl) T.f_repr (by decide +kernel) (pa_cons (pe_m (pv 1) T.cl_Form T.mt_Form_to (PromO.call G_Form_to (hr.mono (by decide)) passF) (pa_cons (pv 3) (pa_cons (pv 5) pa_nil))) pa_nil)) (pe_callB (call_show (K := K) rfl hu100 hg) (by rfl) T.f_repr (by decide +kernel) (pa_cons (pe_g (PromO.call G__law_brought (hr.mono (by decide)) (passA (E := E))) (by rfl) T.g__law_brought T.k__law_brought (pa_cons (pv 2) (pa_cons (pv 3) (pa_cons (pv 5) pa_nil)))) pa_nil)) (nomark _))
      (pss_cons (ps_ret pe_bl) pss_nil) pss_nil)
      pss_nil))
      (pss_cons (ps_ret (pe_cmpR op_isBl (pe_m (pv 1) T.cl_Form T.mt_Form_is_usable (PromO.call G_Form_is_usable (hr.mono (by decide)) passF) (pa_cons (pv 3) pa_nil)) pe_bl (nomark _))) pss_nil)))), ?_⟩
  exact fn_of3 (F := F__law_far_right) (envU := fun _ => List.replicate 6 .no) h (fun l_pen_here l_form_here l_parts_here => rfl) (fun p c l_pen_here l_form_here l_parts_here => (ss_asg (se_op sr_add (se_op sr_add (se_op sr_mul se_int (se_powK (by decide) (by decide) (by decide))) (se_op sr_mul se_int (se_cl srl_sp0 (sa_cons se_var (sa_cons (se_powK (by decide) (by decide) (by decide)) sa_nil))))) (se_op sr_ix se_var se_int)) (fun l_n0 => (ss_asg (se_lst (sa_cons (se_cl srl_sp0 (sa_cons se_var (sa_cons se_int sa_nil))) (sa_cons (se_op sr_add (se_op sr_sub (se_op sr_div se_var se_int) se_int) (se_cl srl_sp0 (sa_cons se_var (sa_cons se_int sa_nil)))) sa_nil))) (fun l_places15 => (ss_for (fun (w53 : Unit) => [.fz l_pen_here, .fz l_form_here, .fz l_parts_here, .fz l_n0, .fz l_places15, .no]) (si_seq (se_op sr_add se_var (se_lst (sa_cons (se_op sr_sub (se_op sr_sub se_var se_int) (se_cl srl_sp0 (sa_cons se_var (sa_cons se_int sa_nil)))) (sa_cons (se_cl srl_sp0 (sa_cons se_var (sa_cons se_var sa_nil))) sa_nil))))) (.s (.s (.s (.s (.s (.s .nil)))))) (fun (d54 : D) (w53 : Unit) => (sx_name (ss_if (fun (w73 : Unit) => [.fz l_pen_here, .fz l_form_here, .fz l_parts_here, .fz l_n0, .fz l_places15, .fz d54]) (sb_tst (se_op sr_ne (se_cb srl_repr (sa_cons (se_nox (se_mt srl_sp0 se_var (sa_cons se_var (sa_cons se_var sa_nil)))) sa_nil)) (se_cb srl_repr (sa_cons (se_cl srl_sp0 (sa_cons se_var (sa_cons se_var (sa_cons se_var sa_nil)))) sa_nil)))) (ss_ret se_bl) (ss_nx (.s (.s (.s (.s (.s (.s .nil))))))) (fun (w73 : Unit) => (ss_nx (.s (.s (.s (.s (.s (.n .nil))))))))))) (fun (w53 : Unit) => (ss_ret (se_op sr_isB (se_nox (se_mt srl_sp0 se_var (sa_cons se_var sa_nil))) se_bl)))))))))
abbrev N_law : List Str := ["_law_script", "_law_pen_here", "_law_turn", "_law_parts_here", "_law_n", "_law_odd", "_law_least", "_law_form_here", "_law_rest", "_law_due"]
theorem sc_law : FnScope N_law ["_law_script"] (defScope s_law) := ⟨rfl, rfl, rfl, by decide +kernel, rfl, by decide +kernel, by decide +kernel⟩
def F_law : Tr D :=
  fin (bdF (bd (bd (bd (.ok (.int 4)) fun v1 => (bd (.ok []) fun r2 => .ok (v1 :: r2))) (ul1 rg1)) fun ds => forF (fun (d4 : D) (w3 : Unit) => (bd (bd (bd (.ok .pen) fun v7 => (bd (.ok []) fun r8 => .ok (v7 :: r8))) (ul1 F__law_parts)) fun l_parts_here5 => (bd (bd (bd (bd (bd (.ok l_parts_here5) fun v9 => (bd (.ok []) fun r10 => .ok (v9 :: r10))) (ul1 F__law_form)) fun v15 => (bd (bd (bd (.ok l_parts_here5) fun v11 => (bd (.ok (.int 0)) fun v12 => ixD v11 v12)) fun v13 => (bd (.ok []) fun r14 => .ok (v13 :: r14))) fun r16 => .ok (v15 :: r16))) fun ds => if ds.length ≤ sizeLine then .ok (.tup ds) else .bad) fun d18 => un2 d18 fun l_form_here16 l_rest16 => (bdF (bd (bd (bd (bd (bd (.ok l_rest16) fun v25 => (bd (bd (.ok (.int 4)) fun v23 => (bd (bd (bd (bd (.ok l_rest16) fun v19 => (bd (.ok (.int 0)) fun v20 => eqD v19 v20)) fun v21 => (bd (.ok []) fun r22 => .ok (v21 :: r22))) (ul1 intD)) fun v24 => mulD v23 v24)) fun v26 => addD v25 v26)) fun v47 => (bd (bd (bd (.ok l_rest16) fun v27 => (bd (.ok (.int 4)) fun v28 => addD v27 v28)) fun v45 => (bd (bd (bd (.ok l_rest16) fun v29 => (bd (.ok (.int 8)) fun v30 => addD v29 v30)) fun v43 => (bd (bd (bd (.ok l_rest16) fun v39 => (bd (bd (.ok (.int 4)) fun v37 => (bd (bd (.ok (.int 3)) fun v35 => (bd (bd (bd (.ok .pen) fun v33 => (bd (bd (.ok (.int 12)) fun v31 => (bd (.ok []) fun r32 => .ok (v31 :: r32))) fun r34 => .ok (v33 :: r34))) (ul2 F_draw)) fun v36 => addD v35 v36)) fun v38 => mulD v37 v38)) fun v40 => addD v39 v40)) fun v41 => (bd (.ok []) fun r42 => .ok (v41 :: r42))) fun r44 => .ok (v43 :: r44))) fun r46 => .ok (v45 :: r46))) fun r48 => .ok (v47 :: r48))) fun ds => if ds.length ≤ sizeLine then .ok (.lst ds) else .bad) itD) fun ds => forF (fun (d50 : D) (w49 : Unit) => (bdF (W' := Unit) (bd (bd (bd (bd (bd (.ok l_form_here16) fun v56 => (bd (bd (.ok l_parts_here5) fun v54 => (bd (bd (.ok d50) fun v52 => (bd (.ok []) fun r53 => .ok (v52 :: r53))) fun r55 => .ok (v54 :: r55))) fun r57 => .ok (v56 :: r57))) (ul3 F__law_small_right)) asB) fun k => .ok (!k)) fun k => if k = true then (bd (.ok (.bl false)) fun d => .ok (.rt d)) else (.ok (.nx ()))) fun (w58 : Unit) => (.ok (.nx ())))) ds ()) fun (w49 : Unit) => (bdF (W' := Unit) (bd (bd (bd (bd (bd (.ok .pen) fun v63 => (bd (bd (.ok l_form_here16) fun v61 => (bd (bd (.ok l_parts_here5) fun v59 => (bd (.ok []) fun r60 => .ok (v59 :: r60))) fun r62 => .ok (v61 :: r62))) fun r64 => .ok (v63 :: r64))) (ul3 F__law_far_right)) asB) fun k => .ok (!k)) fun k => if k = true then (bd (.ok (.bl false)) fun d => .ok (.rt d)) else (.ok (.nx ()))) fun (w65 : Unit) => (bd (bd (.ok l_rest16) fun v67 => (bd (.ok (.int 40)) fun v68 => addD v67 v68)) fun l_n65 => (bdF (bd (bd (bd (bd (bd (.ok l_n65) fun v69 => (bd (.ok (.int 1)) fun v70 => addD v69 v70)) fun v97 => (bd (bd (bd (.ok l_n65) fun v71 => (bd (.ok (.int 2)) fun v72 => subD v71 v72)) fun v95 => (bd (bd (.ok (.int 0)) fun v93 => (bd (bd (bd (.ok (.int 4)) negD) fun v91 => (bd (bd (.ok .non) fun v89 => (bd (bd (.ok (.bl true)) fun v87 => (bd (bd (bd (bd (.ok l_n65) fun v73 => (bd (.ok []) fun r74 => .ok (v73 :: r74))) (ul1 strD)) fun v85 => (bd (bd (bd (bd (.ok l_n65) fun v75 => (bd (.ok []) fun r76 => .ok (v75 :: r76))) fun ds => if ds.length ≤ sizeLine then .ok (.tup ds) else .bad) fun v83 => (bd (bd (bd (bd (.ok (.int 4)) fun v77 => (bd (.ok (.int 10000000000000000000000000000000000000000)) fun v78 => mulD v77 v78)) fun v79 => (bd (.ok l_rest16) fun v80 => addD v79 v80)) fun v81 => (bd (.ok []) fun r82 => .ok (v81 :: r82))) fun r84 => .ok (v83 :: r84))) fun r86 => .ok (v85 :: r86))) fun r88 => .ok (v87 :: r88))) fun r90 => .ok (v89 :: r90))) fun r92 => .ok (v91 :: r92))) fun r94 => .ok (v93 :: r94))) fun r96 => .ok (v95 :: r96))) fun r98 => .ok (v97 :: r98))) fun ds => if ds.length ≤ sizeLine then .ok (.lst ds) else .bad) itD) fun ds => forF (fun (d100 : D) (w99 : Unit) => (bd (bd (bd (.ok (.str "length")) fun v107 => (bd (bd (bd (bd (.ok d100) fun v103 => (bd (.ok []) fun r104 => .ok (v103 :: r104))) (ul1 reprD)) fun v105 => (bd (.ok []) fun r106 => .ok (v105 :: r106))) fun r108 => .ok (v107 :: r108))) fun ds => if ds.length ≤ sizeLine then .ok (.tup ds) else .bad) fun l_due101 => (bdF (W' := Unit) (bd (bd (bd (nox (F__law_heard (bd (.ok l_form_here16) fun o113 => (isO "Form" o113 fun fs => if fs.lookup ("to" : Str) = none then bd (bd (.ok d100) fun v111 => (bd (bd (.ok (.int 0)) fun v109 => (bd (.ok []) fun r110 => .ok (v109 :: r110))) fun r112 => .ok (v111 :: r112))) fun ds => (ul3 F_Form_to) (o113 :: ds) else .bad)))) fun v114 => (bd (.ok l_due101) fun v115 => neD v114 v115)) asB) fun k => if k = true then (bd (.ok (.bl false)) fun d => .ok (.rt d)) else (.ok (.nx ()))) fun (w116 : Unit) => (bdF (W' := Unit) (bd (bd (bd (nox (F__law_heard (bd (.ok l_form_here16) fun o119 => (isO "Form" o119 fun fs => if fs.lookup ("is_usable" : Str) = none then bd (bd (.ok d100) fun v117 => (bd (.ok []) fun r118 => .ok (v117 :: r118))) fun ds => (ul2 F_Form_is_usable) (o119 :: ds) else .bad)))) fun v120 => (bd (.ok l_due101) fun v121 => neD v120 v121)) asB) fun k => if k = true then (bd (.ok (.bl false)) fun d => .ok (.rt d)) else (.ok (.nx ()))) fun (w122 : Unit) => (bdF (W' := Unit) (bd (bd (bd (nox (F__law_heard (bd (.ok l_form_here16) fun o127 => (isO "Form" o127 fun fs => if fs.lookup ("to" : Str) = none then bd (bd (.ok d100) fun v125 => (bd (bd (bd (.ok (.int 1)) negD) fun v123 => (bd (.ok []) fun r124 => .ok (v123 :: r124))) fun r126 => .ok (v125 :: r126))) fun ds => (ul3 F_Form_to) (o127 :: ds) else .bad)))) fun v128 => (bd (.ok l_due101) fun v129 => neD v128 v129)) asB) fun k => if k = true then (bd (.ok (.bl false)) fun d => .ok (.rt d)) else (.ok (.nx ()))) fun (w130 : Unit) => (.ok (.nx ()))))))) ds ()) fun (w99 : Unit) => (bd (bd (.ok l_rest16) fun v138 => (bd (bd (.ok (.int 4)) fun v136 => (bd (bd (bd (bd (.ok l_rest16) fun v132 => (bd (.ok (.int 0)) fun v133 => eqD v132 v133)) fun v134 => (bd (.ok []) fun r135 => .ok (v134 :: r135))) (ul1 intD)) fun v137 => mulD v136 v137)) fun v139 => addD v138 v139)) fun l_least130 => (bdF (bd (bd (bd (bd (.ok l_least130) fun v152 => (bd (bd (bd (.ok (.int 1)) negD) fun v150 => (bd (bd (.ok .non) fun v148 => (bd (bd (.ok (.bl true)) fun v146 => (bd (bd (.ok (.str "0")) fun v144 => (bd (bd (bd (bd (.ok (.int 0)) fun v140 => (bd (.ok []) fun r141 => .ok (v140 :: r141))) fun ds => if ds.length ≤ sizeLine then .ok (.tup ds) else .bad) fun v142 => (bd (.ok []) fun r143 => .ok (v142 :: r143))) fun r145 => .ok (v144 :: r145))) fun r147 => .ok (v146 :: r147))) fun r149 => .ok (v148 :: r149))) fun r151 => .ok (v150 :: r151))) fun r153 => .ok (v152 :: r153))) fun ds => if ds.length ≤ sizeLine then .ok (.lst ds) else .bad) itD) fun ds => forF (fun (d155 : D) (w154 : Unit) => (bdF (W' := Unit) (bd (bd (bd (nox (F__law_heard (bd (.ok l_form_here16) fun o161 => (isO "Form" o161 fun fs => if fs.lookup ("to" : Str) = none then bd (bd (.ok l_least130) fun v159 => (bd (bd (.ok d155) fun v157 => (bd (.ok []) fun r158 => .ok (v157 :: r158))) fun r160 => .ok (v159 :: r160))) fun ds => (ul3 F_Form_to) (o161 :: ds) else .bad)))) fun v168 => (bd (bd (bd (.ok (.str "place")) fun v166 => (bd (bd (bd (bd (.ok d155) fun v162 => (bd (.ok []) fun r163 => .ok (v162 :: r163))) (ul1 reprD)) fun v164 => (bd (.ok []) fun r165 => .ok (v164 :: r165))) fun r167 => .ok (v166 :: r167))) fun ds => if ds.length ≤ sizeLine then .ok (.tup ds) else .bad) fun v169 => neD v168 v169)) asB) fun k => if k = true then (bd (.ok (.bl false)) fun d => .ok (.rt d)) else (.ok (.nx ()))) fun (w170 : Unit) => (.ok (.nx ())))) ds ()) fun (w154 : Unit) => (.ok (.nx ()))))))))))) ds ()) fun (w3 : Unit) => (bd (.ok (.bl true)) fun d => .ok (.rt d)))
theorem ok_law (F : FnA K d_law fd) (T : Tx K mg) (hyes : Yes F_law) (G__law_pen : PromO P w K mg base CX0 1 (gd "_law_pen" K) [] (spPn K)) (G__law_parts : PromO P w K mg base CX0 4 (gd "_law_parts" K) [] (spF K Tb (ul1 F__law_parts))) (G__law_form : PromO P w K mg base CX0 9 (gd "_law_form" K) [] (spF K Tb (ul1 F__law_form))) (G__law_draw : PromO P w K mg base CX0 1 (gd "_law_draw" K) [] (spF K Tb (ul2 F_draw))) (G__law_small_right : Prom P w K mg base CX0 9 (gd "_law_small_right" K) [] (spF K Tb (ul3 F__law_small_right))) (G__law_far_right : Prom P w K mg base CX0 7 (gd "_law_far_right" K) [] (spF K Tb (ul3 F__law_far_right))) (GH__law_heard : HrdP K d__law_heard ["_law_ask"]) (LD_law : LamD base mg K Tb d_law ("law", none)) (G_Form_to : PromO P w K mg base (L2.CX P w) 6 (md "Form" "to" K) [] (spF K Tb (ul3 F_Form_to))) (G_Form_is_usable : PromO P w K mg base (L2.CX P w) 6 (md "Form" "is_usable" K) [] (spF K Tb (ul2 F_Form_is_usable))) : FnG P w K mg base CX0 10 (d_law.adr K) fd ["_law_script"] (spLaw K Tb) := by
  obtain ⟨fdH, FH, hbH⟩ := GH__law_heard
  obtain ⟨ocH, odH, dVH, kVH, docH, pmH, anH, cdvH, ctH, oslH, rfl, lkH, hcH, _, _⟩ := FH.ex
  have ecode : fd.code = .ref (He.cT K ("law", none)).1 := codeOf_fn (p := ("law", none)) F
  refine fnG1 F sc_law (fun vs H Q E h => spLaw_len h) (fun cdv A outer s H vs Q E hcdv hr hg h => ?_)
  have hcode : cdv = .ref (He.cT K ("law", none)).1 := hcdv.trans ecode
  have hu100 := Nat.lt_of_le_of_lt (Nat.add_le_add_left (show 102 ≤ 16 * 9 + 200 by decide) _) (show _ + (16 * 9 + 200) < cLine from hr.un)
  refine ⟨_, pss_cons (ps_set (i := 1) sc_law.nd rfl (.inl rfl) (pe_g (PromO.call G__law_pen (hr.mono (by decide)) (passA (E := E))) (by rfl) T.g__law_pen T.k__law_pen (pa_cons (pv 0) pa_nil)))
      (pss_cons (ps_for PassesOwn.never rfl (pi_range1 (by rfl) T.f_range (pa_cons pe_int pa_nil)) (pg_name (i := 2) sc_law.nd rfl (.inl rfl))
      (pss_cons (ps_set (i := 3) sc_law.nd rfl (.inl rfl) (pe_g (PromO.call G__law_parts (hr.mono (by decide)) (passA (E := EF))) (by rfl) T.g__law_parts T.k__law_parts (pa_cons (pv 1) pa_nil)))
      (pss_cons (ps_asg (pe_tup (pa_cons (pe_g (PromO.call G__law_form (hr.mono (by decide)) (passA (E := EF))) (by rfl) T.g__law_form T.k__law_form (pa_cons (pv 3) pa_nil)) (pa_cons (pe_ix (ix_seqK (K := K) rfl) (pv 3) pe_int (fun _ _ => rfl)) pa_nil))) (pg_tup rfl (pgs_cons (pg_name (i := 7) sc_law.nd rfl (.inr rfl)) (pgs_cons (pg_name (i := 8) sc_law.nd rfl (.inl rfl)) pgs_nil))))
      (pss_cons (ps_for PassesOwn.never rfl (pi_seq (K := K) rfl (pe_lst (pa_cons (pe_op (op_addA (K := K) rfl) (pv 8) (pe_op op_mulA pe_int (pe_callTy cr_int (by rfl) T.f_int (by decide +kernel) (pa_cons (pe_cmpR (op_eqA (K := K) rfl hr.units) (pv 8) pe_int (nomark _)) pa_nil)))) (pa_cons (pe_op (op_addA (K := K) rfl) (pv 8) pe_int) (pa_cons (pe_op (op_addA (K := K) rfl) (pv 8) pe_int) (pa_cons (pe_op (op_addA (K := K) rfl) (pv 8) (pe_op op_mulA pe_int (pe_op (op_addA (K := K) rfl) pe_int (pe_g (PromO.call G__law_draw (hr.mono (by decide)) (passA (E := EF))) (by rfl) T.g__law_draw T.k__law_draw (pa_cons (pv 1) (pa_cons pe_int pa_nil)))))) pa_nil)))))) (pg_name (i := 4) sc_law.nd rfl (.inl rfl))
      (pss_cons (ps_if (pt_not (pt_val (pe_g (Prom.call G__law_small_right (hr.mono (by decide)) hg (passA (E := EF))) (by rfl) T.g__law_small_right T.k__law_small_right (pa_cons (pv 7) (pa_cons (pv 3) (pa_cons (pv 4) pa_nil))))))
      (pss_cons (ps_ret pe_bl) pss_nil) pss_nil)
      pss_nil))
      (pss_cons (ps_if (pt_not (pt_val (pe_g (Prom.call G__law_far_right (hr.mono (by decide)) hg (passA (E := EF))) (by rfl) T.g__law_far_right T.k__law_far_right (pa_cons (pv 1) (pa_cons (pv 7) (pa_cons (pv 3) pa_nil))))))
      (pss_cons (ps_ret pe_bl) pss_nil) pss_nil)
      (pss_cons (ps_set (i := 4) sc_law.nd rfl (.inl rfl) (pe_op (op_addA (K := K) rfl) (pv 8) pe_int))
      (pss_cons (ps_for PassesOwn.never rfl (pi_seq (K := K) rfl (pe_lst (pa_cons (pe_op (op_addA (K := K) rfl) (pv 4) pe_int) (pa_cons (pe_op op_sub (pv 4) pe_int) (pa_cons pe_int (pa_cons (pe_un un_neg pe_int) (pa_cons pe_non (pa_cons pe_bl (pa_cons (pe_callTy cr_strI (by rfl) T.f_str (by decide +kernel) (pa_cons (pv 4) pa_nil)) (pa_cons (pe_tup (pa_cons (pv 4) pa_nil)) (pa_cons (pe_op (op_addA (K := K) rfl) (pe_op op_mulA pe_int (pe_op (op_powK 10000000000000000000000000000000000000000) pe_int pe_int)) (pv 8)) pa_nil))))))))))) (pg_name (i := 5) sc_law.nd rfl (.inr rfl))
      (pss_cons (ps_set (i := 9) sc_law.nd rfl (.inl rfl) (pe_tup (pa_cons pe_str (pa_cons (pe_callB (call_show (K := K) rfl hu100 hg) (by rfl) T.f_repr (by decide +kernel) (pa_cons (pv 5) pa_nil)) pa_nil))))
      (pss_cons (ps_if (pt_cmpR (op_neA (K := K) rfl hr.units) (LamX.pe_lamcall (T := Tb) (k := 7) (by rfl) T.g__law_heard T.k__law_heard lkH hcH hbH sc__law_heard rfl (.inl rfl) (ok__law_heard (Tb := Tb) T (Nat.lt_of_le_of_lt (Nat.add_le_add_left (show 105 ≤ 16 * 9 + 200 by decide) _) (show _ + (16 * 9 + 200) < cLine from hr.un)) hg) LD_law.tb hcode LD_law.mem LD_law.hu (hr.mono (by decide)) (LamX.lamS_by (by show LamX.lamSB (defScope s_law) _ = true; decide +kernel)) rfl (fun _ _ _ _ _ => rfl) (fun A outer s H E f c' hr => (pe_m (pv 7) T.cl_Form T.mt_Form_to (PromO.call G_Form_to (hr.mono (by decide)) (pass_on rfl rfl rfl rfl)) (pa_cons (pv 5) (pa_cons pe_int pa_nil))))) (pv 9) (nomark _))
      (pss_cons (ps_ret pe_bl) pss_nil) pss_nil)
      (pss_cons (ps_if (pt_cmpR (op_neA (K := K) rfl hr.units) (LamX.pe_lamcall (T := Tb) (k := 7) (by rfl) T.g__law_heard T.k__law_heard lkH hcH hbH sc__law_heard rfl (.inl rfl) (ok__law_heard (Tb := Tb) T (Nat.lt_of_le_of_lt (Nat.add_le_add_left (show 105 ≤ 16 * 9 + 200 by decide) _) (show _ + (16 * 9 + 200) < cLine from hr.un)) hg) LD_law.tb hcode LD_law.mem LD_law.hu (hr.mono (by decide)) (LamX.lamS_by (by show LamX.lamSB (defScope s_law) _ = true; decide +kernel)) rfl (fun _ _ _ _ _ => rfl) (fun A outer s H E f c' hr => (pe_m (pv 7) T.cl_Form T.mt_Form_is_usable (PromO.call G_Form_is_usable (hr.mono (by decide)) (pass_on rfl rfl rfl rfl)) (pa_cons (pv 5) pa_nil)))) (pv 9) (nomark _))
      (pss_cons (ps_ret pe_bl) pss_nil) pss_nil)
      (pss_cons (ps_if (pt_cmpR (op_neA (K := K) rfl hr.units) (LamX.pe_lamcall (T := Tb) (k := 7) (by rfl) T.g__law_heard T.k__law_heard lkH hcH hbH sc__law_heard rfl (.inl rfl) (ok__law_heard (Tb := Tb) T (Nat.lt_of_le_of_lt (Nat.add_le_add_left (show 105 ≤ 16 * 9 + 200 by decide) _) (show _ + (16 * 9 + 200) < cLine from hr.un)) hg) LD_law.tb hcode LD_law.mem LD_law.hu (hr.mono (by decide)) (LamX.lamS_by (by show LamX.lamSB (defScope s_law) _ = true; decide +kernel)) rfl (fun _ _ _ _ _ => rfl) (fun A outer s H E f c' hr => (pe_m (pv 7) T.cl_Form T.mt_Form_to (PromO.call G_Form_to (hr.mono (by decide)) (pass_on rfl rfl rfl rfl)) (pa_cons (pv 5) (pa_cons (pe_un un_neg pe_int) pa_nil))))) (pv 9) (nomark _))
      (pss_cons (ps_ret pe_bl) pss_nil) pss_nil)
      pss_nil)))))
      (pss_cons (ps_set (i := 6) sc_law.nd rfl (.inr rfl) (pe_op (op_addA (K := K) rfl) (pv 8) (pe_op op_mulA pe_int (pe_callTy cr_int (by rfl) T.f_int (by decide +kernel) (pa_cons (pe_cmpR (op_eqA (K := K) rfl hr.units) (pv 8) pe_int (nomark _)) pa_nil)))))
      (pss_cons (ps_for PassesOwn.never rfl (pi_seq (K := K) rfl (pe_lst (pa_cons (pv 6) (pa_cons (pe_un un_neg pe_int) (pa_cons pe_non (pa_cons pe_bl (pa_cons pe_str (pa_cons (pe_tup (pa_cons pe_int pa_nil)) pa_nil)))))))) (pg_name (i := 5) sc_law.nd rfl (.inr rfl))
      (pss_cons (ps_if (pt_cmpR (op_neA (K := K) rfl hr.units) (LamX.pe_lamcall (T := Tb) (k := 7) (by rfl) T.g__law_heard T.k__law_heard lkH hcH hbH sc__law_heard rfl (.inl rfl) (ok__law_heard (Tb := Tb) T (Nat.lt_of_le_of_lt (Nat.add_le_add_left (show 105 ≤ 16 * 9 + 200 by decide) _) (show _ + (16 * 9 + 200) < cLine from hr.un)) hg) LD_law.tb hcode LD_law.mem LD_law.hu (hr.mono (by decide)) (LamX.lamS_by (by show LamX.lamSB (defScope s_law) _ = true; decide +kernel)) rfl (fun _ _ _ _ _ => rfl) (fun A outer s H E f c' hr => (pe_m (pv 7) T.cl_Form T.mt_Form_to (PromO.call G_Form_to (hr.mono (by decide)) (pass_on rfl rfl rfl rfl)) (pa_cons (pv 6) (pa_cons (pv 5) pa_nil))))) (pe_tup (pa_cons pe_str (pa_cons (pe_callB (call_show (K := K) rfl hu100 hg) (by rfl) T.f_repr (by decide +kernel) (pa_cons (pv 5) pa_nil)) pa_nil))) (nomark _))
      (pss_cons (ps_ret pe_bl) pss_nil) pss_nil)
      pss_nil))
      pss_nil)))))))))
      (pss_cons (ps_ret pe_bl) pss_nil)), ?_⟩
  exact law_of (N := N_law) (i := 1) (n := 9) (F := F_law) (envU := fun _ => List.replicate 10 .no) hyes h rfl (by decide) (by decide) rfl (fun p c => (ss_for (fun (w3 : Unit) => [.no, .fz .pen, .no, .no, .no, .no, .no, .no, .no, .no]) (si_rg1 (sa_cons se_int sa_nil)) (.s (.s (.s (.s (.s (.s (.s (.s (.s (.s .nil)))))))))) (fun (d4 : D) (w3 : Unit) => (sx_name (ss_asg (se_cl srl_sp0 (sa_cons se_var sa_nil)) (fun l_parts_here5 => (ss_unp (se_tup (sa_cons (se_cl srl_sp0 (sa_cons se_var sa_nil)) (sa_cons (se_op sr_ix se_var se_int) sa_nil))) (fun d18 => sx_tup2 (fun l_form_here16 l_rest16 => (ss_for (fun (w49 : Unit) => [.no, .fz .pen, .fz d4, .fz l_parts_here5, .no, .no, .no, .fz l_form_here16, .fz l_rest16, .no]) (si_seq (se_lst (sa_cons (se_op sr_add se_var (se_op sr_mul se_int (se_cb srl_int (sa_cons (se_op sr_eq se_var se_int) sa_nil)))) (sa_cons (se_op sr_add se_var se_int) (sa_cons (se_op sr_add se_var se_int) (sa_cons (se_op sr_add se_var (se_op sr_mul se_int (se_op sr_add se_int (se_cl srl_sp0 (sa_cons se_var (sa_cons se_int sa_nil)))))) sa_nil)))))) (.s (.s (.s (.s (.s (.s (.s (.s (.s (.s .nil)))))))))) (fun (d50 : D) (w49 : Unit) => (sx_name (ss_if (fun (w58 : Unit) => [.no, .fz .pen, .fz d4, .fz l_parts_here5, .fz d50, .no, .no, .fz l_form_here16, .fz l_rest16, .no]) (sb_not (sb_tb (se_cl srl_sp0 (sa_cons se_var (sa_cons se_var (sa_cons se_var sa_nil)))))) (ss_ret se_bl) (ss_nx (.s (.s (.s (.s (.s (.s (.s (.s (.s (.s .nil))))))))))) (fun (w58 : Unit) => (ss_nx (.s (.s (.s (.s (.n (.s (.s (.s (.s (.s .nil))))))))))))))) (fun (w49 : Unit) => (ss_if (fun (w65 : Unit) => [.no, .fz .pen, .fz d4, .fz l_parts_here5, .no, .no, .no, .fz l_form_here16, .fz l_rest16, .no]) (sb_not (sb_tb (se_cl srl_sp0 (sa_cons se_var (sa_cons se_var (sa_cons se_var sa_nil)))))) (ss_ret se_bl) (ss_nx (.s (.s (.s (.s (.s (.s (.s (.s (.s (.s .nil))))))))))) (fun (w65 : Unit) => (ss_asg (se_op sr_add se_var se_int) (fun l_n65 => (ss_for (fun (w99 : Unit) => [.no, .fz .pen, .fz d4, .fz l_parts_here5, .fz l_n65, .no, .no, .fz l_form_here16, .fz l_rest16, .no]) (si_seq (se_lst (sa_cons (se_op sr_add se_var se_int) (sa_cons (se_op sr_sub se_var se_int) (sa_cons se_int (sa_cons (se_un sr_neg se_int) (sa_cons se_non (sa_cons se_bl (sa_cons (se_cb srl_str (sa_cons se_var sa_nil)) (sa_cons (se_tup (sa_cons se_var sa_nil)) (sa_cons (se_op sr_add (se_op sr_mul se_int (se_powK (by decide) (by decide) (by decide))) se_var) sa_nil))))))))))) (.s (.s (.s (.s (.s (.s (.s (.s (.s (.s .nil)))))))))) (fun (d100 : D) (w99 : Unit) => (sx_name (ss_asg (se_tup (sa_cons (se_str (by decide)) (sa_cons (se_cb srl_repr (sa_cons se_var sa_nil)) sa_nil))) (fun l_due101 => (ss_if (fun (w116 : Unit) => [.no, .fz .pen, .fz d4, .fz l_parts_here5, .fz l_n65, .fz d100, .no, .fz l_form_here16, .fz l_rest16, .fz l_due101]) (sb_tst (se_op sr_ne (se_lam fun E => (se_mt srl_sp0 se_var (sa_cons se_var (sa_cons se_int sa_nil)))) se_var)) (ss_ret se_bl) (ss_nx (.s (.s (.s (.s (.s (.s (.s (.s (.s (.s .nil))))))))))) (fun (w116 : Unit) => (ss_if (fun (w122 : Unit) => [.no, .fz .pen, .fz d4, .fz l_parts_here5, .fz l_n65, .fz d100, .no, .fz l_form_here16, .fz l_rest16, .fz l_due101]) (sb_tst (se_op sr_ne (se_lam fun E => (se_mt srl_sp0 se_var (sa_cons se_var sa_nil))) se_var)) (ss_ret se_bl) (ss_nx (.s (.s (.s (.s (.s (.s (.s (.s (.s (.s .nil))))))))))) (fun (w122 : Unit) => (ss_if (fun (w130 : Unit) => [.no, .fz .pen, .fz d4, .fz l_parts_here5, .fz l_n65, .fz d100, .no, .fz l_form_here16, .fz l_rest16, .fz l_due101]) (sb_tst (se_op sr_ne (se_lam fun E => (se_mt srl_sp0 se_var (sa_cons se_var (sa_cons (se_un sr_neg se_int) sa_nil)))) se_var)) (ss_ret se_bl) (ss_nx (.s (.s (.s (.s (.s (.s (.s (.s (.s (.s .nil))))))))))) (fun (w130 : Unit) => (ss_nx (.s (.s (.s (.s (.s (.n (.s (.s (.s (.n .nil))))))))))))))))))))) (fun (w99 : Unit) => (ss_asg (se_op sr_add se_var (se_op sr_mul se_int (se_cb srl_int (sa_cons (se_op sr_eq se_var se_int) sa_nil)))) (fun l_least130 => (ss_for (fun (w154 : Unit) => [.no, .fz .pen, .fz d4, .fz l_parts_here5, .fz l_n65, .no, .fz l_least130, .fz l_form_here16, .fz l_rest16, .no]) (si_seq (se_lst (sa_cons se_var (sa_cons (se_un sr_neg se_int) (sa_cons se_non (sa_cons se_bl (sa_cons (se_str (by decide)) (sa_cons (se_tup (sa_cons se_int sa_nil)) sa_nil)))))))) (.s (.s (.s (.s (.s (.s (.s (.s (.s (.s .nil)))))))))) (fun (d155 : D) (w154 : Unit) => (sx_name (ss_if (fun (w170 : Unit) => [.no, .fz .pen, .fz d4, .fz l_parts_here5, .fz l_n65, .fz d155, .fz l_least130, .fz l_form_here16, .fz l_rest16, .no]) (sb_tst (se_op sr_ne (se_lam fun E => (se_mt srl_sp0 se_var (sa_cons se_var (sa_cons se_var sa_nil)))) (se_tup (sa_cons (se_str (by decide)) (sa_cons (se_cb srl_repr (sa_cons se_var sa_nil)) sa_nil))))) (ss_ret se_bl) (ss_nx (.s (.s (.s (.s (.s (.s (.s (.s (.s (.s .nil))))))))))) (fun (w170 : Unit) => (ss_nx (.s (.s (.s (.s (.s (.n (.s (.s (.s (.s .nil))))))))))))))) (fun (w154 : Unit) => (ss_nx (.s (.s (.n (.n (.n (.s (.n (.n (.n (.s .nil)))))))))))))))))))))))))))))) (fun (w3 : Unit) => (ss_ret se_bl))))
end
end Lw
end
section
set_option linter.all false
set_option maxRecDepth 100000
namespace Gp
open PySem
section
variable {α β γ : Type}
def Bo (P : α → Prop) : Tr α → Nat → Prop
  | .ok a, _ => P a
  | .ex _ _, _ => False
  | .bad, _ => False
  | .draw m k, n => ∃ n', n = n' + 1 ∧ 0 < m ∧ m < 10 ^ 100 ∧ ∀ d, 0 ≤ d → d < m → Bo P (k d) n'
theorem Bo.mono {P Q : α → Prop} (h : ∀ a, P a → Q a) : ∀ {m : Tr α} {n k : Nat}, n ≤ k → Bo P m n → Bo Q m k
  | .ok a, _, _, _, z => h a z
  | .ex _ _, _, _, _, z => z
  | .bad, _, _, _, z => z
  | .draw m f, n, k, l, ⟨n', e, h1, h2, h3⟩ => ⟨k - 1, by omega, h1, h2, fun d d0 d1 => Bo.mono h (m := f d) (n := n') (by omega) (h3 d d0 d1)⟩
theorem Bo.bd {P : α → Prop} {Q : β → Prop} {k : α → Tr β} {b : Nat} : ∀ {m : Tr α} {a : Nat}, Bo P m a → (∀ x, P x → Bo Q (k x) b) → Bo Q (bd m k) (a + b)
  | .ok x, a, h, hk => (hk x h).mono (fun _ z => z) (Nat.le_add_left _ _)
  | .ex _ _, _, h, _ => h
  | .bad, _, h, _ => h
  | .draw m f, a, ⟨n', e, h1, h2, h3⟩, hk => ⟨n' + b, by omega, h1, h2, fun d d0 d1 => Bo.bd (m := f d) (h3 d d0 d1) hk⟩
theorem Bo.al {P : α → Prop} {Q : α → Nat → Prop} {E : Str → Fs → Nat → Prop} (h : ∀ a b, P a → Q a b) : ∀ {m : Tr α} {n : Nat}, Bo P m n → Al Q E m n
  | .ok a, _, z => h a _ z
  | .ex _ _, _, z => z.elim
  | .bad, _, z => z
  | .draw m f, n, ⟨n', e, h1, h2, h3⟩ => ⟨n', e, h1, h2, fun d d0 d1 => Bo.al (m := f d) h (h3 d d0 d1)⟩
theorem Bo.yes {F : Tr D} {n : Nat} (hn : n ≤ 1000000) (h : Bo (fun d => d = .bl true) F n) : Yes F :=
  Bo.al (fun _ _ z => z) (h.mono (fun _ z => z) hn)
theorem bo_ok {P : α → Prop} {a : α} {n : Nat} (h : P a) : Bo P (.ok a) n := h
theorem bo_draw {P : α → Prop} {m : Int} {k : Int → Tr α} {n : Nat} (h1 : 0 < m) (h2 : m < 10 ^ 100) (h : ∀ d, 0 ≤ d → d < m → Bo P (k d) n) : Bo P (.draw m k) (n + 1) := ⟨n, rfl, h1, h2, h⟩
theorem bo_nox {P : α → Prop} : ∀ {m : Tr α} {n : Nat}, Bo P m n → Bo P (nox m) n
  | .ok a, _, z => z
  | .ex _ _, _, z => z
  | .bad, _, z => z
  | .draw m f, n, ⟨n', e, h1, h2, h3⟩ => ⟨n', e, h1, h2, fun d d0 d1 => bo_nox (m := f d) (h3 d d0 d1)⟩
variable {W L : Type}
theorem forF_unit {f : D → Unit → Tr (Fl Unit Unit)} : ∀ {ds : List D}, (∀ d ∈ ds, f d () = .ok (.nx ())) → forF (L := L) f ds () = .ok (.nx ())
  | [], _ => rfl
  | d :: ds, h => by
    rw [forF_cons, h d List.mem_cons_self]
    exact forF_unit fun x hx => h x (List.mem_cons_of_mem _ hx)
end
end Gp
end
section
set_option linter.all false
set_option maxRecDepth 100000
set_option maxHeartbeats 4000000
namespace Gp
open PySem
@[simp] theorem s_bd {α β : Type} (a : α) (k : α → Tr β) : bd (.ok a) k = k a := rfl
@[simp] theorem s_bdx {α β : Type} (c : Str) (fs : Fs) (k : α → Tr β) : bd (.ex c fs) k = .ex c fs := rfl
@[simp] theorem s_bdd {α β : Type} (m : Int) (f : Int → Tr α) (k : α → Tr β) : bd (.draw m f) k = .draw m fun d => bd (f d) k := rfl
@[simp] theorem s_nox {α : Type} (a : α) : nox (.ok a) = .ok a := rfl
@[simp] theorem s_bdF {W W' L : Type} (w : W') (k : W' → Tr (Fl W L)) : bdF (.ok (.nx w)) k = k w := rfl
@[simp] theorem s_bdFr {W W' L : Type} (d : D) (k : W' → Tr (Fl W L)) : bdF (.ok (.rt d)) k = .ok (.rt d) := rfl
@[simp] theorem s_finr (d : D) : fin (.ok (.rt d)) = .ok d := rfl
@[simp] theorem s_finn (w : Unit) : fin (.ok (.nx w)) = .ok .non := rfl
@[simp] theorem s_finI (fs : Fs) : finI (.ok (.nx fs)) = .ok fs := rfl
@[simp] theorem s_asB (b : Bool) : asB (.bl b) = .ok b := rfl
@[simp] theorem s_ul0 {α : Type} (k : Tr α) : ul0 k [] = k := rfl
@[simp] theorem s_ul1 {α : Type} (k : D → Tr α) (x : D) : ul1 k [x] = k x := rfl
@[simp] theorem s_ul2 {α : Type} (k : D → D → Tr α) (x y : D) : ul2 k [x, y] = k x y := rfl
@[simp] theorem s_ul3 {α : Type} (k : D → D → D → Tr α) (x y z : D) : ul3 k [x, y, z] = k x y z := rfl
@[simp] theorem s_ul4 {α : Type} (k : D → D → D → D → Tr α) (x y z w : D) : ul4 k [x, y, z, w] = k x y z w := rfl
@[simp] theorem s_isO {α : Type} (c : Str) (fs : Fs) (k : Fs → Tr α) : isO c (.obj c fs) k = k fs := by unfold isO; simp
@[simp] theorem s_lt (i j : Int) : ltD (.int i) (.int j) = .ok (.bl (decide (i < j))) := rfl
@[simp] theorem s_le (i j : Int) : leD (.int i) (.int j) = .ok (.bl (decide (i ≤ j))) := rfl
@[simp] theorem s_gt (i j : Int) : gtD (.int i) (.int j) = .ok (.bl (decide (j < i))) := rfl
@[simp] theorem s_ge (i j : Int) : geD (.int i) (.int j) = .ok (.bl (decide (j ≤ i))) := rfl
@[simp] theorem s_sub (i j : Int) : subD (.int i) (.int j) = .ok (.int (i - j)) := rfl
@[simp] theorem s_add (i j : Int) : addD (.int i) (.int j) = .ok (.int (i + j)) := rfl
@[simp] theorem s_neg (i : Int) : negD (.int i) = .ok (.int (-i)) := rfl
@[simp] theorem s_eq (i j : Int) : eqD (.int i) (.int j) = .ok (.bl (decide (i = j))) := rfl
@[simp] theorem s_eqs (i j : Str) : eqD (.str i) (.str j) = .ok (.bl (decide (i = j))) := rfl
@[simp] theorem s_eqb (i j : Bool) : eqD (.bl i) (.bl j) = .ok (.bl (decide (i = j))) := rfl
@[simp] theorem s_len (ds : List D) : lenD (.lst ds) = .ok (.int ds.length) := rfl
@[simp] theorem s_itl (ds : List D) : itD (.lst ds) = .ok ds := rfl
@[simp] theorem s_itt (ds : List D) : itD (.tup ds) = .ok ds := rfl
@[simp] theorem s_int (i : Int) : intD (.int i) = .ok (.int i) := rfl
@[simp] theorem s_intb (k : Bool) : intD (.bl k) = .ok (.int (if k = true then 1 else 0)) := rfl
@[simp] theorem s_abs (i : Int) : absD (.int i) = .ok (.int (if i < 0 then -i else i)) := rfl
@[simp] theorem s_opt {α : Type} (a : α) : opt (some a) = .ok a := rfl
theorem s_mod {i j : Int} (h : 0 < j) : modD (.int i) (.int j) = .ok (.int (i % j)) := if_pos h
@[simp] theorem s_mod2 (i : Int) : modD (.int i) (.int 2) = .ok (.int (i % 2)) := rfl
@[simp] theorem s_div2 (i : Int) : divD (.int i) (.int 2) = .ok (.int (i / 2)) := rfl
theorem s_mul {i j : Int} (h : (-(2 ^ 64) < i ∧ i < 2 ^ 64) ∨ (-(2 ^ 64) < j ∧ j < 2 ^ 64)) : mulD (.int i) (.int j) = .ok (.int (i * j)) := if_pos h
end Gp
namespace Gp
open PySem PyProof.Rows L2
theorem toPyL_ints : ∀ l : List Int, toPyL (l.map D.int) = some (l.map PyData.int)
  | [] => rfl
  | a :: r => by
    rw [List.map_cons]
    unfold toPyL
    rw [toPyL_ints r]
    rfl
theorem eqv_ints : ∀ l m : List Int, PyData.eqvAll (l.map PyData.int) (m.map PyData.int) = decide (l = m)
  | [], [] => by simp [PyData.eqvAll]
  | [], _ :: _ => by simp [PyData.eqvAll]
  | _ :: _, [] => by simp [PyData.eqvAll]
  | a :: r, b :: s => by
    simp only [List.map_cons, PyData.eqvAll, PyData.eqv, eqv_ints r s]
    by_cases h : a = b <;> by_cases h' : r = s <;> simp [h, h']
theorem canLayAll_ints : ∀ ns : List Int, PyData.canLayAll0 (ns.map PyData.int) = true
  | [] => rfl
  | _ :: r => by simp [PyData.canLayAll0, PyData.canLay0, canLayAll_ints r]
theorem depthAll_ints : ∀ ns : List Int, PyData.depthAll (ns.map PyData.int) = 0
  | [] => rfl
  | _ :: r => by simp [PyData.depthAll, PyData.depth, depthAll_ints r]
theorem shaped_ints (ns : List Int) : SeqAt.shaped (.list (ns.map PyData.int)) = true := by
  simp [SeqAt.shaped, PyData.canLay0, PyData.depth, canLayAll_ints, depthAll_ints]
theorem s_eq_ints (l m : List Int) : eqD (.lst (l.map D.int)) (.lst (m.map D.int)) = .ok (.bl (decide (l = m))) := by
  have e : ∀ l : List Int, toPy (.lst (l.map D.int)) = some (.list (l.map PyData.int)) := fun l => by
    unfold toPy
    rw [toPyL_ints]
    rfl
  have e2 : eqB (.lst (l.map D.int)) (.lst (m.map D.int)) = .ok (decide (l = m)) := by
    unfold eqB
    rw [show eqS (.lst (l.map D.int)) (.lst (m.map D.int)) = none from rfl]
    dsimp only
    rw [e l, e m]
    dsimp only
    rw [if_pos ⟨shaped_ints l, shaped_ints m⟩]
    unfold PyData.eqv
    rw [eqv_ints]
  unfold eqD
  rw [e2]
  rfl
@[simp] theorem s_find (m : Int) (f : Int → Tr (Fl Unit Empty)) : fin (.draw m f) = .draw m fun d => fin (f d) := rfl
@[simp] theorem s_bdFd {W W' L : Type} (m : Int) (f : Int → Tr (Fl W' L)) (k : W' → Tr (Fl W L)) : bdF (.draw m f) k = .draw m fun d => bdF (f d) k := rfl
theorem bd_ok_id {α : Type} (m : Tr α) : bd m .ok = m := by
  induction m with
  | draw m f ih => show Tr.draw m _ = _; congr 1; funext d; exact ih d
  | _ => rfl
@[simp] theorem s_bdbd {α β γ : Type} (m : Tr α) (k : α → Tr β) (l : β → Tr γ) : bd (bd m k) l = bd m fun a => bd (k a) l := bd_bd ..
@[simp] theorem s_finbd {α : Type} (m : Tr α) (k : α → Tr (Fl Unit Empty)) : fin (bd m k) = bd m fun a => fin (k a) := bd_bd ..
@[simp] theorem s_bdFbd {α W W' L : Type} (m : Tr α) (f : α → Tr (Fl W' L)) (k : W' → Tr (Fl W L)) : bdF (bd m f) k = bd m fun a => bdF (f a) k := bd_bd ..
@[simp] theorem s_finIbd {α : Type} (m : Tr α) (k : α → Tr (Fl Fs Empty)) : finI (bd m k) = bd m fun a => finI (k a) := bd_bd ..
@[simp] theorem s_bdok {α : Type} (m : Tr α) : bd m (fun a => .ok a) = m := bd_ok_id m
@[simp] theorem s_ne (i j : Int) : neD (.int i) (.int j) = .ok (.bl (!decide (i = j))) := rfl
@[simp] theorem s_nes (i j : Str) : neD (.str i) (.str j) = .ok (.bl (!decide (i = j))) := rfl
theorem s_ixL {ds : List D} {i : Int} {d : D} (h0 : 0 ≤ i) (h : ds[i.toNat]? = some d) : ixD (.lst ds) (.int i) = .ok d := by
  have hl := (List.getElem?_eq_some_iff.mp h).1
  have e : atI ds i = some d := by
    unfold atI ixN
    rw [if_pos h0, if_pos (by omega)]
    exact h
  unfold ixD
  dsimp only
  rw [e]
theorem bo_pick {P : D → Prop} {ds : List D} (h0 : 0 < ds.length) (h1 : ds.length ≤ 100000) (h : ∀ d ∈ ds, P d) : Bo P (.draw ds.length fun i => ixD (.lst ds) (.int i)) 1 := by
  refine bo_draw (n := 0) (by omega) (by omega) fun d d0 d1 => ?_
  have hl : d.toNat < ds.length := by omega
  rw [s_ixL d0 (List.getElem?_eq_getElem hl)]
  exact h _ (List.getElem_mem hl)
end Gp
end
section
namespace Gp
def seatZ (n p : Int) : Int := if p % 2 = 0 then p / 2 else (n - (p + 1) / 2) % n
def placeZ (n s : Int) : Int := if 2 * s < n then 2 * s else 2 * (n - s) - 1
theorem modn {x y n : Int} (k : Int) (h0 : 0 ≤ y) (h1 : y < n) (e : x = y + n * k) : x % n = y := by
  rw [e, Int.add_mul_emod_self_left]
  exact Int.emod_eq_of_lt h0 h1
theorem seatZ_rng {n p : Int} (h0 : 0 ≤ p) (h1 : p < n) : 0 ≤ seatZ n p ∧ seatZ n p < n := by
  unfold seatZ
  split
  · omega
  · exact ⟨Int.emod_nonneg _ (by omega), Int.emod_lt_of_pos _ (by omega)⟩
theorem seatZ_odd {n p : Int} (h0 : 0 ≤ p) (h1 : p < n) (h : p % 2 = 1) : seatZ n p = n - (p + 1) / 2 := by
  unfold seatZ
  rw [if_neg (by omega)]
  exact modn 0 (by omega) (by omega) (by omega)
theorem placeZ_rng {n s : Int} (h0 : 0 ≤ s) (h1 : s < n) : 0 ≤ placeZ n s ∧ placeZ n s < n := by
  unfold placeZ
  split <;> omega
theorem place_seat {n p : Int} (h0 : 0 ≤ p) (h1 : p < n) : placeZ n (seatZ n p) = p := by
  by_cases h : p % 2 = 0
  · unfold seatZ placeZ
    rw [if_pos h]
    split <;> omega
  · rw [seatZ_odd h0 h1 (by omega)]
    unfold placeZ
    split <;> omega
theorem seat_place {n s : Int} (h0 : 0 ≤ s) (h1 : s < n) : seatZ n (placeZ n s) = s := by
  unfold placeZ
  split
  · unfold seatZ
    rw [if_pos (by omega)]
    omega
  · rw [seatZ_odd (by omega) (by omega) (by omega)]
    omega
end Gp
end
section
set_option linter.all false
set_option maxRecDepth 100000
set_option maxHeartbeats 400000
namespace Gp
structure Near (ts : List Int) (lo0 hi0 p lo hi : Int) : Prop where
  l0 : lo0 ≤ lo
  l1 : lo ≤ p
  l2 : lo = lo0 ∨ lo - 1 ∈ ts
  h0 : hi ≤ hi0
  h1 : p ≤ hi
  h2 : hi = hi0 ∨ hi + 1 ∈ ts
  no : ∀ t ∈ ts, t < lo ∨ hi < t
theorem Near.uniq {ts : List Int} {lo0 hi0 p a b c d : Int} (hx : Near ts lo0 hi0 p a b) (hy : Near ts lo0 hi0 p c d) : a = c ∧ b = d := by
  obtain ⟨x1, x2, x3, x4, x5, x6, x7⟩ := hx
  obtain ⟨y1, y2, y3, y4, y5, y6, y7⟩ := hy
  constructor
  · rcases x3 with x3 | x3
    · rcases y3 with y3 | y3
      · omega
      · have := x7 _ y3
        omega
    · have := y7 _ x3
      rcases y3 with y3 | y3
      · omega
      · have := x7 _ y3
        omega
  · rcases x6 with x6 | x6
    · rcases y6 with y6 | y6
      · omega
      · have := x7 _ y6
        omega
    · have := y7 _ x6
      rcases y6 with y6 | y6
      · omega
      · have := x7 _ y6
        omega
end Gp
end
section
set_option linter.all false
set_option maxRecDepth 100000
set_option maxHeartbeats 400000
namespace Gp
open PySem PyProof.Rows L2 Gh
structure Sh (d : D) (n b : Nat) : Prop where
  ex : ∃ e, toPy d = some e ∧ Fn e n b
structure ShL (ds : List D) (n b : Nat) : Prop where
  ex : ∃ es, toPyL ds = some es ∧ FnAll es n b
theorem Sh.le {d : D} {n b n' b' : Nat} (h : Sh d n b) (h1 : n ≤ n') (h2 : b ≤ b') : Sh d n' b' := by
  obtain ⟨e, h3, h4⟩ := h.ex
  exact ⟨e, h3, h4.le h1 h2⟩
theorem Sh.int {i : Int} (h1 : -(10 ^ 100) < i) (h2 : i < 10 ^ 100) : Sh (.int i) 0 0 := ⟨_, rfl, .int h1 h2⟩
theorem Sh.bl (b : Bool) : Sh (.bl b) 0 0 := ⟨_, rfl, .bool b⟩
theorem Sh.non : Sh .non 0 0 := ⟨_, rfl, .none⟩
theorem Sh.str {x : Str} (h0 : (PyData.str x).canLay0 = true) (h : (x.cps.toList.all fun c => decide (c < 16 ^ 8)) = true) : Sh (.str x) 0 x.cps.size := ⟨_, rfl, .str h0 h⟩
theorem ShL.nil {n b : Nat} : ShL [] n b := ⟨_, rfl, .nil⟩
theorem ShL.cons {d : D} {ds : List D} {n b c : Nat} (h : Sh d n b) (k : ShL ds n c) : ShL (d :: ds) n (b + 1 + c) := by
  obtain ⟨e, h3, h4⟩ := h.ex
  obtain ⟨es, h5, h6⟩ := k.ex
  refine ⟨e :: es, ?_, .cons h4 h6⟩
  unfold toPyL
  rw [h3, h5]
theorem ShL.each {n b : Nat} : ∀ {ds : List D}, (∀ d ∈ ds, Sh d n b) → ShL ds n ((b + 1) * ds.length)
  | [], _ => ShL.nil
  | d :: r, h => by
    have z := ShL.cons (h d List.mem_cons_self) (ShL.each fun e he => h e (List.mem_cons_of_mem _ he))
    have e : b + 1 + (b + 1) * r.length = (b + 1) * (d :: r).length := by
      rw [List.length_cons, Nat.mul_add, Nat.mul_one, Nat.add_comm]
    rw [e] at z
    exact z
theorem ShL.ints {ns : List Int} (h : ∀ n ∈ ns, -(10 ^ 100) < n ∧ n < 10 ^ 100) : ShL (ns.map D.int) 0 (1 * ns.length) := by
  have z := ShL.each (n := 0) (b := 0) (ds := ns.map D.int) fun d hd => by
    obtain ⟨n, hn, rfl⟩ := List.mem_map.mp hd
    exact Sh.int (h n hn).1 (h n hn).2
  rwa [List.length_map] at z
theorem ShL.le {ds : List D} {n b n' b' : Nat} (h : ShL ds n b) (h1 : n ≤ n') (h2 : b ≤ b') : ShL ds n' b' := by
  obtain ⟨e, h3, h4⟩ := h.ex
  exact ⟨e, h3, h4.cl, h4.sh, h4.nd, h4.ls, Nat.le_trans h4.dp h1, Nat.le_trans h4.bk h2⟩
theorem Sh.lst {ds : List D} {n b : Nat} (h : ShL ds n b) : Sh (.lst ds) (n + 1) b := by
  obtain ⟨es, h3, h4⟩ := h.ex
  refine ⟨.list es, ?_, .list h4⟩
  unfold toPy
  rw [h3]
  rfl
theorem Sh.tup {ds : List D} {n b : Nat} (h : ShL ds n b) : Sh (.tup ds) (n + 1) b := by
  obtain ⟨es, h3, h4⟩ := h.ex
  refine ⟨.tuple es, ?_, .tuple h4⟩
  unfold toPy
  rw [h3]
  rfl
theorem fn_len {e : PyData} {n b : Nat} (f : Fn e n b) (hb : b ≤ 80000) : e.shown.length ≤ sizeLine := by
  have z := PyData.shown_le_bulk 200 (by decide) e f.ls
  have := f.bk
  rw [sizeLine_eq]
  omega
theorem Sh.repr {d : D} {n b : Nat} (h : Sh d n b) (hn : n ≤ 100) (hb : b ≤ 80000) : ∃ x, reprD d = .ok (.str x) := by
  obtain ⟨e, h1, f⟩ := h.ex
  have l := fn_len f hb
  have key : ∀ {x : Str}, shwD d = some x → x.length ≤ sizeLine → ∃ x, reprD d = .ok (.str x) := fun {x} e1 e2 => ⟨x, by
    unfold reprD
    rw [e1]
    dsimp only
    rw [if_pos e2]⟩
  have big : (∀ i, d ≠ .int i) → (∀ x, d ≠ .str x) → (∀ x, d ≠ .bl x) → d ≠ .non → ∃ x, reprD d = .ok (.str x) := fun n1 n2 n3 n4 => by
    refine key (x := e.shown) ?_ l
    have g : (if e.showable = true ∧ e.hasDict = false ∧ e.depth ≤ 100 ∧ e.shown.length ≤ sizeLine then some e.shown else none) = some e.shown := if_pos ⟨f.sh, f.nd, Nat.le_trans f.dp hn, l⟩
    cases d with
    | int i => exact absurd rfl (n1 i)
    | str x => exact absurd rfl (n2 x)
    | bl x => exact absurd rfl (n3 x)
    | non => exact absurd rfl n4
    | tup ds => unfold shwD; dsimp only; rw [h1]; exact g
    | lst ds => unfold shwD; dsimp only; rw [h1]; exact g
    | obj c fs => unfold toPy at h1; cases h1
    | err c fs => unfold toPy at h1; cases h1
    | pen => unfold toPy at h1; cases h1
    | cls c => unfold toPy at h1; cases h1
    | dct => unfold toPy at h1; cases h1
    | dic ps => unfold toPy at h1; cases h1
    | dit ps => unfold toPy at h1; cases h1
    | dik ps => unfold toPy at h1; cases h1
  cases d with
  | non => exact ⟨_, rfl⟩
  | bl b => cases b <;> exact ⟨_, rfl⟩
  | int i =>
    unfold toPy at h1
    cases h1
    have h2 : i.natAbs.log2 < 1920 := of_decide_eq_true f.sh
    refine key (x := Str.ofString (toString i)) ?_ l
    unfold shwD
    dsimp only
    rw [if_pos h2]
  | str x =>
    unfold toPy at h1
    cases h1
    have l2 : (reprText x).length ≤ sizeLine := l
    refine key (x := reprText x) ?_ l2
    unfold shwD
    dsimp only
    rw [if_pos l2]
  | tup ds => exact big (fun _ z => by cases z) (fun _ z => by cases z) (fun _ z => by cases z) (fun z => by cases z)
  | lst ds => exact big (fun _ z => by cases z) (fun _ z => by cases z) (fun _ z => by cases z) (fun z => by cases z)
  | obj c fs => unfold toPy at h1; cases h1
  | err c fs => unfold toPy at h1; cases h1
  | pen => unfold toPy at h1; cases h1
  | cls c => unfold toPy at h1; cases h1
  | dct => unfold toPy at h1; cases h1
  | dic ps => unfold toPy at h1; cases h1
  | dit ps => unfold toPy at h1; cases h1
  | dik ps => unfold toPy at h1; cases h1
end Gp
end
section
set_option linter.all false
set_option maxRecDepth 100000
set_option maxHeartbeats 400000
namespace Gp
open PySem
theorem bo_then {α β : Type} {P : α → Prop} {Q : β → Prop} {m : Tr α} {k : α → Tr β} {a b n : Nat} (h : Bo P m a) (hk : ∀ x, P x → Bo Q (k x) b) (l : a + b ≤ n) : Bo Q (bd m k) n := (h.bd hk).mono (fun _ z => z) l
theorem bo_le {α : Type} {P : α → Prop} {m : Tr α} {a n : Nat} (h : Bo P m a) (l : a ≤ n) : Bo P m n := h.mono (fun _ z => z) l
theorem bo_forU {L : Type} {f : D → Unit → Tr (Fl Unit Unit)} {c : Nat} : ∀ {ds : List D}, (∀ d ∈ ds, Bo (fun r : Fl Unit Unit => r = .nx ()) (f d ()) c) → Bo (fun r : Fl Unit L => r = .nx ()) (forF f ds ()) (c * ds.length)
  | [], _ => bo_ok rfl
  | d :: ds, h => by
    rw [forF_cons]
    refine bo_then (b := c * ds.length) (h d List.mem_cons_self) (fun r hr => ?_) (by rw [List.length_cons, Nat.mul_succ]; omega)
    subst hr
    exact bo_forU fun x hx => h x (List.mem_cons_of_mem _ hx)
end Gp
end
section
set_option Elab.async false
set_option linter.all false
set_option maxRecDepth 100000
set_option maxHeartbeats 400000
namespace Gp
open PySem
@[irreducible] def Bx {α : Type} (P : α → Prop) (m : Tr α) (n : Nat) : Prop := Bo P m n
theorem Bx.bo {α : Type} {P : α → Prop} {m : Tr α} {n : Nat} (h : Bx P m n) : Bo P m n := by
  unfold Bx at h
  exact h
theorem bx_of {α : Type} {P : α → Prop} {m : Tr α} {n : Nat} (h : Bo P m n) : Bx P m n := by
  unfold Bx
  exact h
theorem bx_draw {α : Type} {P : α → Prop} {m : Int} {k : Int → Tr α} {n : Nat} (h1 : 0 < m) (h2 : m < 10 ^ 100) (h : ∀ d, 0 ≤ d → d < m → Bx P (k d) n) : Bx P (.draw m k) (n + 1) := bx_of (bo_draw h1 h2 fun d a b => (h d a b).bo)
theorem bx_then {α β : Type} {P : α → Prop} {Q : β → Prop} {m : Tr α} {k : α → Tr β} {a b n : Nat} (h : Bo P m a) (hk : ∀ x, P x → Bx Q (k x) b) (l : a + b ≤ n) : Bx Q (bd m k) n := bx_of (bo_then h (fun x z => (hk x z).bo) l)
theorem bx_ok {α : Type} {P : α → Prop} {a : α} {n : Nat} (h : P a) : Bx P (.ok a) n := bx_of (bo_ok h)
theorem bx_loopU {f : D → Unit → Tr (Fl Unit Unit)} {ds : List D} {K : Unit → Tr (Fl Unit Empty)} {Q : D → Prop} {c b n : Nat} (h : ∀ d ∈ ds, Bx (fun r : Fl Unit Unit => r = .nx ()) (f d ()) c) (hk : Bx Q (fin (K ())) b) (l : c * ds.length + b ≤ n) : Bx Q (fin (bdF (forF f ds ()) K)) n := by
  refine bx_of ?_
  unfold fin bdF
  rw [bd_bd]
  refine bo_then (b := b) (bo_forU fun d hd => (h d hd).bo) (fun r hr => ?_) l
  subst hr
  exact hk.bo
theorem bx_le {α : Type} {P : α → Prop} {m : Tr α} {a n : Nat} (h : Bx P m a) (l : a ≤ n) : Bx P m n := bx_of (bo_le h.bo l)
theorem bx_thenX {α β : Type} {P : α → Prop} {Q : β → Prop} {m : Tr α} {k : α → Tr β} {a b n : Nat} (h : Bx P m a) (hk : ∀ x, P x → Bx Q (k x) b) (l : a + b ≤ n) : Bx Q (bd m k) n := bx_then h.bo hk l
end Gp
end
section
set_option Elab.async false
set_option linter.all false
set_option maxRecDepth 100000
set_option maxHeartbeats 400000
namespace Gp
open PySem
theorem s_neI (i j : Int) : neD (.int i) (.int j) = .ok (.bl (!decide (i = j))) := rfl
end Gp
end
section
set_option linter.all false
namespace Gp
open PySem
inductive Dp {α : Type} (a : α) : Type
  | u
def bdk {α β : Type} (x : Tr α) (f : α → Tr β) (u : Dp f := .u) : Tr β := bd x f
def bdFk {W W' L : Type} (x : Tr (Fl W' L)) (k : W' → Tr (Fl W L)) (u : Dp k := .u) : Tr (Fl W L) := bdF x k
def forFk {W L : Type} (f : D → W → Tr (Fl W W)) (ds : List D) (w : W) (u : Dp f := .u) : Tr (Fl W L) := forF f ds w
theorem k_bd {α β : Type} (a : α) (k : α → Tr β) (u : Dp k) : bdk (.ok a) k u = k a := rfl
theorem k_bdx {α β : Type} (c : Str) (fs : Fs) (k : α → Tr β) (u : Dp k) : bdk (.ex c fs) k u = .ex c fs := rfl
theorem k_bdd {α β : Type} (m : Int) (f : Int → Tr α) (k : α → Tr β) (u : Dp k) : bdk (.draw m f) k u = .draw m fun d => bdk (f d) k := rfl
theorem k_bdF {W W' L : Type} (w : W') (k : W' → Tr (Fl W L)) (u : Dp k) : bdFk (.ok (.nx w)) k u = k w := rfl
theorem k_bdFr {W W' L : Type} (d : D) (k : W' → Tr (Fl W L)) (u : Dp k) : bdFk (.ok (.rt d)) k u = .ok (.rt d) := rfl
theorem k_bdFx {W W' L : Type} (c : Str) (fs : Fs) (k : W' → Tr (Fl W L)) (u : Dp k) : bdFk (.ex c fs) k u = .ex c fs := rfl
theorem k_bdFd {W W' L : Type} (m : Int) (f : Int → Tr (Fl W' L)) (k : W' → Tr (Fl W L)) (u : Dp k) : bdFk (.draw m f) k u = .draw m fun d => bdFk (f d) k := rfl
theorem k_bdbd {α β γ : Type} (m : Tr α) (k : α → Tr β) (u : Dp k) (l : β → Tr γ) (v : Dp l) : bdk (bdk m k u) l v = bdk m fun a => bdk (k a) l := bd_bd ..
theorem k_finbd {α : Type} (m : Tr α) (k : α → Tr (Fl Unit Empty)) (u : Dp k) : fin (bdk m k u) = bdk m fun a => fin (k a) := bd_bd ..
theorem k_bdFbd {α W W' L : Type} (m : Tr α) (f : α → Tr (Fl W' L)) (u : Dp f) (k : W' → Tr (Fl W L)) (v : Dp k) : bdFk (bdk m f u) k v = bdk m fun a => bdFk (f a) k := bd_bd ..
theorem bk_then {α β : Type} {P : α → Prop} {Q : β → Prop} {m : Tr α} {k : α → Tr β} {u : Dp k} {a b n : Nat} (h : Bx P m a) (hk : ∀ x, P x → Bx Q (k x) b) (l : a + b ≤ n) : Bx Q (bdk m k u) n := bx_thenX h hk l
theorem bk_thenB {α β : Type} {P : α → Prop} {Q : β → Prop} {m : Tr α} {k : α → Tr β} {u : Dp k} {a b n : Nat} (h : Bo P m a) (hk : ∀ x, P x → Bx Q (k x) b) (l : a + b ≤ n) : Bx Q (bdk m k u) n := bx_then h hk l
theorem bk_loopU {f : D → Unit → Tr (Fl Unit Unit)} {u : Dp f} {ds : List D} {K : Unit → Tr (Fl Unit Empty)} {v : Dp K} {Q : D → Prop} {c b n : Nat} (h : ∀ d ∈ ds, Bx (fun r : Fl Unit Unit => r = .nx ()) (f d ()) c) (hk : Bx Q (fin (K ())) b) (l : c * ds.length + b ≤ n) : Bx Q (fin (bdFk (forFk f ds () u) K v)) n := bx_loopU h hk l
end Gp
end
section
set_option Elab.async false
set_option linter.all false
set_option maxRecDepth 100000
set_option maxHeartbeats 1000000
namespace Gp
open PySem PyProof.Rows L2
theorem z0L : (0 ≤ sizeLine) = True := eq_true (by decide)
theorem z1L : (1 ≤ sizeLine) = True := eq_true (by decide)
theorem z2L : (2 ≤ sizeLine) = True := eq_true (by decide)
theorem z3L : (3 ≤ sizeLine) = True := eq_true (by decide)
theorem z4L : (4 ≤ sizeLine) = True := eq_true (by decide)
theorem z5L : (5 ≤ sizeLine) = True := eq_true (by decide)
theorem z6L : (6 ≤ sizeLine) = True := eq_true (by decide)
theorem z7L : (7 ≤ sizeLine) = True := eq_true (by decide)
theorem z8L : (8 ≤ sizeLine) = True := eq_true (by decide)
theorem z9L : (9 ≤ sizeLine) = True := eq_true (by decide)
theorem z10L : (10 ≤ sizeLine) = True := eq_true (by decide)
theorem z11L : (11 ≤ sizeLine) = True := eq_true (by decide)
theorem z12L : (12 ≤ sizeLine) = True := eq_true (by decide)
theorem z0l : (0 < sizeLine) = True := eq_true (by decide)
theorem z1l : (1 < sizeLine) = True := eq_true (by decide)
theorem z2l : (2 < sizeLine) = True := eq_true (by decide)
theorem z3l : (3 < sizeLine) = True := eq_true (by decide)
theorem z4l : (4 < sizeLine) = True := eq_true (by decide)
theorem l_finx (c : Str) (fs : Fs) : fin (.ex c fs) = .ex c fs := rfl
theorem l_finIx (c : Str) (fs : Fs) : finI (.ex c fs) = .ex c fs := rfl
theorem l_finI (fs : Fs) : finI (.ok (.nx fs)) = .ok fs := rfl
theorem l_asI (d : Int) : asI (.int d) = .ok (some d) := rfl
theorem l_un2 {α : Type} (x y : D) (k : D → D → Tr α) : un2 (.tup [x, y]) k = k x y := rfl
theorem l_un3 {α : Type} (x y z : D) (k : D → D → D → Tr α) : un3 (.tup [x, y, z]) k = k x y z := rfl
theorem l_un4 {α : Type} (x y z w : D) (k : D → D → D → D → Tr α) : un4 (.tup [x, y, z, w]) k = k x y z w := rfl
theorem l_ne (i j : Int) : neD (.int i) (.int j) = .ok (.bl (!decide (i = j))) := rfl
theorem l_nes (i j : Str) : neD (.str i) (.str j) = .ok (.bl (!decide (i = j))) := rfl
theorem l_neb (i j : Bool) : neD (.bl i) (.bl j) = .ok (.bl (!decide (i = j))) := rfl
theorem l_gt (i j : Int) : gtD (.int i) (.int j) = .ok (.bl (decide (j < i))) := rfl
theorem l_at {ds : List D} {n : Nat} {a : D} (h : ds[n]? = some a) : atI ds (n : Int) = some a := by
  have hn : n < ds.length := by
    rcases Nat.lt_or_ge n ds.length with h1 | h1
    · exact h1
    · rw [List.getElem?_eq_none h1] at h
      cases h
  unfold atI ixN
  rw [if_pos (Int.natCast_nonneg n), if_pos (by omega)]
  exact h
theorem l_ixl {ds : List D} {n : Nat} {a : D} (h : ds[n]? = some a) : ixD (.lst ds) (.int (n : Int)) = .ok a := by
  unfold ixD
  dsimp only
  rw [l_at h]
theorem l_ixt {ds : List D} {n : Nat} {a : D} (h : ds[n]? = some a) : ixD (.tup ds) (.int (n : Int)) = .ok a := by
  unfold ixD
  dsimp only
  rw [l_at h]
theorem l_ix0 (a : D) (r : List D) : ixD (.lst (a :: r)) (.int 0) = .ok a := l_ixl (n := 0) rfl
theorem l_ix1 (a b : D) (r : List D) : ixD (.lst (a :: b :: r)) (.int 1) = .ok b := l_ixl (n := 1) rfl
theorem l_ix2 (a b c : D) (r : List D) : ixD (.lst (a :: b :: c :: r)) (.int 2) = .ok c := l_ixl (n := 2) rfl
theorem l_ix3 (a b c d : D) (r : List D) : ixD (.lst (a :: b :: c :: d :: r)) (.int 3) = .ok d := l_ixl (n := 3) rfl
theorem l_it0 (a : D) (r : List D) : ixD (.tup (a :: r)) (.int 0) = .ok a := l_ixt (n := 0) rfl
theorem l_it1 (a b : D) (r : List D) : ixD (.tup (a :: b :: r)) (.int 1) = .ok b := l_ixt (n := 1) rfl
theorem l_it2 (a b c : D) (r : List D) : ixD (.tup (a :: b :: c :: r)) (.int 2) = .ok c := l_ixt (n := 2) rfl
theorem l_it3 (a b c d : D) (r : List D) : ixD (.tup (a :: b :: c :: d :: r)) (.int 3) = .ok d := l_ixt (n := 3) rfl
theorem l_neq {a b : D} (h : eqD a b = .ok (.bl true)) : neD a b = .ok (.bl false) := by
  unfold eqD at h
  unfold neD
  cases e : eqB a b with
  | ok k =>
    rw [e] at h
    injection h with h
    injection h with h
    subst h
    rfl
  | ex c fs => rw [e] at h; cases h
  | bad => rw [e] at h; cases h
  | draw m f => rw [e] at h; cases h
end Gp
end
section
set_option Elab.async false
set_option linter.all false
set_option maxRecDepth 100000
set_option maxHeartbeats 1000000
namespace Gp
open PySem
end Gp
namespace Gp
open PySem
end Gp
namespace Gp
open PySem
theorem bx_forX {W L : Type} {f : D → W → Tr (Fl W W)} {I : Nat → W → Prop} {c : Nat} : ∀ {ds : List D} {i : Nat} {w : W}, (∀ j d, ds[j]? = some d → ∀ w, I (i + j) w → Bx (fun r => ∃ w', r = .nx w' ∧ I (i + j + 1) w') (f d w) c) → I i w → Bx (fun r : Fl W L => ∃ w', r = .nx w' ∧ I (i + ds.length) w') (forF f ds w) (c * ds.length)
  | [], i, w, _, h => bx_ok ⟨w, rfl, h⟩
  | d :: r, i, w, h, hw => by
    rw [forF_cons]
    refine bx_thenX (b := c * r.length) (h 0 d rfl w hw) (fun x hx => ?_) (by rw [List.length_cons, Nat.mul_succ]; omega)
    obtain ⟨v, rfl, hv⟩ := hx
    rw [List.length_cons, show i + (r.length + 1) = i + 1 + r.length by omega]
    exact bx_forX (I := I) (i := i + 1) (fun j y hy w hw => by
      have z := h (j + 1) y hy w (by rw [show i + (j + 1) = i + 1 + j by omega]; exact hw)
      rw [show i + (j + 1) + 1 = i + 1 + j + 1 by omega] at z
      exact z) hv
theorem bk_loopX {W W2 L : Type} {f : D → W → Tr (Fl W W)} {u : Dp f} {ds : List D} {w : W} {K : W → Tr (Fl W2 L)} {v : Dp K} {I : Nat → W → Prop} {Q : Fl W2 L → Prop} {c b n : Nat} (h : ∀ j d, ds[j]? = some d → ∀ w, I j w → Bx (fun r => ∃ w', r = .nx w' ∧ I (j + 1) w') (f d w) c) (hw : I 0 w) (hk : ∀ w, I ds.length w → Bx Q (K w) b) (l : c * ds.length + b ≤ n) : Bx Q (bdFk (forFk f ds w u) K v) n := by
  unfold bdFk forFk bdF
  refine bx_thenX (bx_forX (I := I) (i := 0) (fun j d hd w hw => by
    rw [Nat.zero_add] at hw ⊢
    exact h j d hd w hw) hw) (fun r hr => ?_) l
  obtain ⟨w', rfl, hw'⟩ := hr
  rw [Nat.zero_add] at hw'
  exact hk w' hw'
end Gp
end
section
set_option linter.all false
set_option maxRecDepth 100000
namespace Lw
open PySem Gp
def L_Form_is_usable (self n : D) : Tr D :=
  fin (bdk (bdk (.ok self) fun o3 => (isO "Form" o3 fun fs => if fs.lookup ("need_own_length" : Str) = none then bdk (bdk (.ok n) fun v1 => (bdk (.ok []) fun r2 => .ok (v1 :: r2))) fun ds => (ul2 F_Form_need_own_length) (o3 :: ds) else .bad)) fun _ => (bdk (bdk (bdk (bdk (.ok self) (fldD "Form" "shape_told")) fun o6 => (isO "Shape" o6 fun fs => if fs.lookup ("marked_seats" : Str) = none then bdk (bdk (.ok n) fun v4 => (bdk (.ok []) fun r5 => .ok (v4 :: r5))) fun ds => (ul2 F_Shape_marked_seats) (o6 :: ds) else .bad)) fun (v7 : D) => (bdk (.ok .non) fun (v8 : D) => (match v8 with | .non => .ok (.bl (!isN v7)) | _ => .bad))) fun d => .ok (.rt d)))
theorem lz_Form_is_usable : F_Form_is_usable = L_Form_is_usable := rfl
def L_Form_to (self n place : D) : Tr D :=
  fin (bdk (bdk (.ok self) fun o3 => (isO "Form" o3 fun fs => if fs.lookup ("need_own_length" : Str) = none then bdk (bdk (.ok n) fun v1 => (bdk (.ok []) fun r2 => .ok (v1 :: r2))) fun ds => (ul2 F_Form_need_own_length) (o3 :: ds) else .bad)) fun _ => (bdk (bdk (bdk (.ok n) fun v6 => (bdk (bdk (.ok place) fun v4 => (bdk (.ok []) fun r5 => .ok (v4 :: r5))) fun r7 => .ok (v6 :: r7))) (ul2 F_need_place)) fun _ => (bdk (bdk (bdk (.ok self) (fldD "Form" "shape_told")) fun o11 => (isO "Shape" o11 fun fs => if fs.lookup ("marked_seats" : Str) = none then bdk (bdk (.ok n) fun v9 => (bdk (.ok []) fun r10 => .ok (v9 :: r10))) fun ds => (ul2 F_Shape_marked_seats) (o11 :: ds) else .bad)) fun marked7 => (bdFk (W' := Unit) (bdk (bdk (bdk (.ok marked7) fun (v12 : D) => (bdk (.ok .non) fun (v13 : D) => (match v13 with | .non => .ok (.bl (isN v12)) | _ => .bad))) asB) fun k => if k = true then (bdk (.ok n) fun d => .ex "Overlap" [("length", d)]) else (.ok (.nx ()))) fun (w14 : Unit) => (bdk (bdk (bdk (bdk (.ok self) (fldD "Form" "shape_told")) fun v23 => (bdk (bdk (.ok marked7) fun v21 => (bdk (bdk (.ok n) fun v19 => (bdk (bdk (.ok place) fun v17 => (bdk (.ok []) fun r18 => .ok (v17 :: r18))) fun r20 => .ok (v19 :: r20))) fun r22 => .ok (v21 :: r22))) fun r24 => .ok (v23 :: r24))) (ul4 F_place_behind)) fun d => .ok (.rt d))))))
theorem lz_Form_to : F_Form_to = L_Form_to := rfl
def L__law_row (l_pen_here : D) : Tr D :=
  fin (bdk (bdk (bdk (bdk (bdk (.ok l_pen_here) fun v15 => (bdk (bdk (bdk (bdk (.ok (.int 0)) fun v11 => (bdk (bdk (.ok (.int 0)) fun v9 => (bdk (bdk (.ok (.int 0)) fun v7 => (bdk (bdk (.ok (.int 2)) fun v5 => (bdk (bdk (.ok (.int 2)) fun v3 => (bdk (bdk (.ok (.int 3)) fun v1 => (bdk (.ok []) fun r2 => .ok (v1 :: r2))) fun r4 => .ok (v3 :: r4))) fun r6 => .ok (v5 :: r6))) fun r8 => .ok (v7 :: r8))) fun r10 => .ok (v9 :: r10))) fun r12 => .ok (v11 :: r12))) fun ds => if ds.length ≤ sizeLine then .ok (.lst ds) else .bad) fun v13 => (bdk (.ok []) fun r14 => .ok (v13 :: r14))) fun r16 => .ok (v15 :: r16))) (ul2 F__law_pick)) fun v25 => (bdk (bdk (bdk (bdk (bdk (.ok l_pen_here) fun v19 => (bdk (bdk (.ok (.int 9)) fun v17 => (bdk (.ok []) fun r18 => .ok (v17 :: r18))) fun r20 => .ok (v19 :: r20))) (ul2 F_draw)) fun v21 => (bdk (.ok (.int 6)) fun v22 => subD v21 v22)) fun v23 => (bdk (.ok []) fun r24 => .ok (v23 :: r24))) fun r26 => .ok (v25 :: r26))) fun ds => if ds.length ≤ sizeLine then .ok (.tup ds) else .bad) fun d28 => un2 d28 fun l_many26 l_begin26 => (bdk (bdk (bdk (bdk (.ok l_many26) fun v30 => (bdk (.ok []) fun r31 => .ok (v30 :: r31))) (ul1 rg1)) fun ds => bdk (lcF (fun l_k31 => nox (bdk (bdk (.ok l_begin26) fun v33 => (bdk (.ok l_k31) fun v34 => addD v33 v34)) fun y => .ok (some y))) ds) fun r => .ok (.lst r)) fun l_some28 => (bdk (bdk (bdk (.ok l_some28) itD) fun ds => bdk (lcF (fun l_number35 => nox (bdk (bdk (.ok l_number35) fun v57 => (bdk (bdk (bdk (bdk (.ok l_pen_here) fun v45 => (bdk (bdk (bdk (bdk (.ok (.int 0)) fun v41 => (bdk (bdk (.ok (.int 10)) fun v39 => (bdk (bdk (.ok (.int 20)) fun v37 => (bdk (.ok []) fun r38 => .ok (v37 :: r38))) fun r40 => .ok (v39 :: r40))) fun r42 => .ok (v41 :: r42))) fun ds => if ds.length ≤ sizeLine then .ok (.lst ds) else .bad) fun v43 => (bdk (.ok []) fun r44 => .ok (v43 :: r44))) fun r46 => .ok (v45 :: r46))) (ul2 F__law_pick)) fun v55 => (bdk (bdk (bdk (bdk (bdk (bdk (.ok l_pen_here) fun v49 => (bdk (bdk (.ok (.int 4)) fun v47 => (bdk (.ok []) fun r48 => .ok (v47 :: r48))) fun r50 => .ok (v49 :: r50))) (ul2 F_draw)) fun v51 => (bdk (.ok (.int 0)) fun v52 => eqD v51 v52)) fun v53 => (bdk (.ok []) fun r54 => .ok (v53 :: r54))) (ul1 intD)) fun v56 => mulD v55 v56)) fun v58 => addD v57 v58)) fun y => .ok (some y))) ds) fun r => .ok (.lst r)) fun l_some34 => (bdFk (W' := D) (bdk (bdk (bdk (bdk (bdk (bdk (.ok l_some34) itD) fun ds => bdk (lcF (fun l_number58 => nox (bdk (bdk (bdk (.ok l_number58) fun v60 => (bdk (.ok []) fun r61 => .ok (v60 :: r61))) (ul1 intD)) fun y => .ok (some y))) ds) fun r => .ok (.lst r)) lenSD) fun v62 => (bdk (.ok l_many26) fun v63 => ltD v62 v63)) asB) fun k => if k = true then (bdk (bdk (bdk (bdk (.ok l_many26) fun v66 => (bdk (.ok []) fun r67 => .ok (v66 :: r67))) (ul1 rg1)) fun ds => bdk (lcF (fun l_k67 => nox (bdk (bdk (.ok l_begin26) fun v71 => (bdk (bdk (.ok (.int 2)) fun v69 => (bdk (.ok l_k67) fun v70 => mulD v69 v70)) fun v72 => addD v71 v72)) fun y => .ok (some y))) ds) fun r => .ok (.lst r)) fun l_some64 => (.ok (.nx l_some64))) else (.ok (.nx l_some34))) fun (w64 : D) => (bdk (bdk (bdk (bdk (bdk (.ok w64) itD) fun ds => bdk (lcF (fun l_number73 => nox (bdk (bdk (bdk (.ok l_number73) fun v75 => (bdk (.ok []) fun r76 => .ok (v75 :: r76))) (ul1 intD)) fun y => .ok (some y))) ds) fun r => .ok (.lst r)) fun v77 => (bdk (.ok []) fun r78 => .ok (v77 :: r78))) (ul1 sortD)) fun l_some72 => (bdk (bdk (bdk (bdk (.ok l_many26) fun v80 => (bdk (.ok (.int 1)) fun v81 => gtD v80 v81)) asB) fun k => if k = true then (bdk (.ok (.int 1)) fun v88 => (bdk (bdk (bdk (.ok l_pen_here) fun v86 => (bdk (bdk (bdk (.ok l_many26) fun v82 => (bdk (.ok (.int 1)) fun v83 => subD v82 v83)) fun v84 => (bdk (.ok []) fun r85 => .ok (v84 :: r85))) fun r87 => .ok (v86 :: r87))) (ul2 F_draw)) fun v89 => addD v88 v89)) else (.ok (.int 0))) fun l_turn78 => (bdk (bdk (bdk (bdk (bdk (bdk (.ok l_many26) fun v90 => (bdk (.ok []) fun r91 => .ok (v90 :: r91))) (ul1 rg1)) fun ds => bdk (lcF (fun l_k91 => nox (bdk (bdk (bdk (bdk (.ok l_some72) fun v93 => (bdk (.ok l_k91) fun v94 => ixD v93 v94)) fun v105 => (bdk (bdk (bdk (.ok l_some72) fun v95 => (bdk (bdk (bdk (bdk (bdk (.ok l_k91) fun v97 => (bdk (.ok l_turn78) fun v98 => addD v97 v98)) fun v99 => (bdk (.ok []) fun r100 => .ok (v99 :: r100))) (ul1 intD)) fun v101 => (bdk (.ok l_many26) fun v102 => modD v101 v102)) fun v96 => ixD v95 v96)) fun v103 => (bdk (.ok []) fun r104 => .ok (v103 :: r104))) fun r106 => .ok (v105 :: r106))) fun ds => if ds.length ≤ sizeLine then .ok (.tup ds) else .bad) fun y => .ok (some y))) ds) fun r => .ok (.lst r)) fun v107 => (bdk (.ok []) fun r108 => .ok (v107 :: r108))) (ul1 tupD)) fun d => .ok (.rt d))))))))
theorem lz__law_row : F__law_row = L__law_row := rfl
def L__law_parts (l_pen_here : D) : Tr D :=
  fin (bdk (bdk (bdk (bdk (bdk (.ok l_pen_here) fun v4 => (bdk (bdk (.ok (.int 4)) fun v2 => (bdk (.ok []) fun r3 => .ok (v2 :: r3))) fun r5 => .ok (v4 :: r5))) (ul2 F_draw)) fun v14 => (bdk (bdk (bdk (bdk (bdk (.ok l_pen_here) fun v8 => (bdk (bdk (.ok (.int 13)) fun v6 => (bdk (.ok []) fun r7 => .ok (v6 :: r7))) fun r9 => .ok (v8 :: r9))) (ul2 F_draw)) fun v10 => (bdk (.ok (.int 6)) fun v11 => subD v10 v11)) fun v12 => (bdk (.ok []) fun r13 => .ok (v12 :: r13))) fun r15 => .ok (v14 :: r15))) fun ds => if ds.length ≤ sizeLine then .ok (.tup ds) else .bad) fun l_shift0 => (bdk (bdk (bdk (bdk (bdk (bdk (.ok (.int 4)) fun v17 => (bdk (.ok []) fun r18 => .ok (v17 :: r18))) (ul1 rg1)) fun ds => bdk (lcF (fun l_quarter18 => nox (bdk (bdk (bdk (.ok l_pen_here) fun v20 => (bdk (.ok []) fun r21 => .ok (v20 :: r21))) (ul1 F__law_row)) fun y => .ok (some y))) ds) fun r => .ok (.lst r)) fun v22 => (bdk (.ok []) fun r23 => .ok (v22 :: r23))) (ul1 tupD)) fun l_marks15 => (bdk (bdk (bdk (bdk (bdk (.ok l_pen_here) fun v26 => (bdk (bdk (.ok (.int 4)) fun v24 => (bdk (.ok []) fun r25 => .ok (v24 :: r25))) fun r27 => .ok (v26 :: r27))) (ul2 F_draw)) fun v44 => (bdk (bdk (bdk (bdk (.ok l_pen_here) fun v36 => (bdk (bdk (bdk (bdk (.ok (.int 1)) fun v32 => (bdk (bdk (.ok (.int 1)) fun v30 => (bdk (bdk (bdk (.ok (.int 1)) negD) fun v28 => (bdk (.ok []) fun r29 => .ok (v28 :: r29))) fun r31 => .ok (v30 :: r31))) fun r33 => .ok (v32 :: r33))) fun ds => if ds.length ≤ sizeLine then .ok (.lst ds) else .bad) fun v34 => (bdk (.ok []) fun r35 => .ok (v34 :: r35))) fun r37 => .ok (v36 :: r37))) (ul2 F__law_pick)) fun v42 => (bdk (bdk (.ok l_shift0) fun v40 => (bdk (bdk (.ok l_marks15) fun v38 => (bdk (.ok []) fun r39 => .ok (v38 :: r39))) fun r41 => .ok (v40 :: r41))) fun r43 => .ok (v42 :: r43))) fun r45 => .ok (v44 :: r45))) fun ds => if ds.length ≤ sizeLine then .ok (.tup ds) else .bad) fun d => .ok (.rt d))))
theorem lz__law_parts : F__law_parts = L__law_parts := rfl
def L__law_form (l_parts_here : D) : Tr D :=
  fin (bdk (bdk (bdk (bdk (.ok l_parts_here) fun v1 => (bdk (.ok (.int 0)) fun v2 => ixD v1 v2)) fun v15 => (bdk (bdk (bdk (.ok l_parts_here) fun v3 => (bdk (.ok (.int 1)) fun v4 => ixD v3 v4)) fun v13 => (bdk (bdk (bdk (.ok l_parts_here) fun v5 => (bdk (.ok (.int 2)) fun v6 => ixD v5 v6)) fun v11 => (bdk (bdk (bdk (.ok l_parts_here) fun v7 => (bdk (.ok (.int 3)) fun v8 => ixD v7 v8)) fun v9 => (bdk (.ok []) fun r10 => .ok (v9 :: r10))) fun r12 => .ok (v11 :: r12))) fun r14 => .ok (v13 :: r14))) fun r16 => .ok (v15 :: r16))) (fun ds => bdk ((fun fs => ul4 (F_Form___init__ fs)) [] ds) fun fs => .ok (.obj "Form" fs))) fun d => .ok (.rt d))
theorem lz__law_form : F__law_form = L__law_form := rfl
def L__law_seat (l_n l_place_here : D) : Tr D :=
  fin (bdk (bdk (bdk (bdk (bdk (bdk (bdk (.ok l_place_here) fun v1 => (bdk (.ok []) fun r2 => .ok (v1 :: r2))) (ul1 intD)) fun v3 => (bdk (.ok (.int 2)) fun v4 => modD v3 v4)) fun v5 => (bdk (.ok (.int 0)) fun v6 => eqD v5 v6)) asB) fun k => if k = true then (bdk (.ok l_place_here) fun v7 => (bdk (.ok (.int 2)) fun v8 => divD v7 v8)) else (bdk (bdk (bdk (bdk (.ok l_n) fun v13 => (bdk (bdk (bdk (.ok l_place_here) fun v9 => (bdk (.ok (.int 1)) fun v10 => addD v9 v10)) fun v11 => (bdk (.ok (.int 2)) fun v12 => divD v11 v12)) fun v14 => subD v13 v14)) fun v15 => (bdk (.ok []) fun r16 => .ok (v15 :: r16))) (ul1 intD)) fun v17 => (bdk (.ok l_n) fun v18 => modD v17 v18))) fun d => .ok (.rt d))
theorem lz__law_seat : F__law_seat = L__law_seat := rfl
def L__law_place (l_n l_seat_here : D) : Tr D :=
  fin (bdk (bdk (bdk (bdk (.ok l_seat_here) fun v2 => (bdk (.ok []) fun r3 => .ok (v2 :: r3))) (ul1 intD)) fun v4 => (bdk (.ok l_n) fun v5 => modD v4 v5)) fun l_seat_here0 => (bdk (bdk (bdk (bdk (bdk (.ok (.int 2)) fun v6 => (bdk (.ok l_seat_here0) fun v7 => mulD v6 v7)) fun v8 => (bdk (.ok l_n) fun v9 => ltD v8 v9)) asB) fun k => if k = true then (bdk (.ok (.int 2)) fun v10 => (bdk (.ok l_seat_here0) fun v11 => mulD v10 v11)) else (bdk (bdk (.ok (.int 2)) fun v14 => (bdk (bdk (.ok l_n) fun v12 => (bdk (.ok l_seat_here0) fun v13 => subD v12 v13)) fun v15 => mulD v14 v15)) fun v16 => (bdk (.ok (.int 1)) fun v17 => subD v16 v17))) fun d => .ok (.rt d)))
theorem lz__law_place : F__law_place = L__law_place := rfl
def L__law_marked (l_parts_here l_n : D) : Tr D :=
  fin (bdFk (bdk (bdk (bdk (.ok (.int 4)) fun v1 => (bdk (.ok []) fun r2 => .ok (v1 :: r2))) (ul1 rg1)) fun ds => forFk (fun (d4 : D) (w3 : D × D) => (bdk (bdk (.ok d4) fun v9 => (bdk (bdk (.ok l_n) fun v7 => (bdk (.ok (.int 4)) fun v8 => divD v7 v8)) fun v10 => mulD v9 v10)) fun l_begin5 => (bdFk (bdk (bdk (bdk (bdk (.ok l_parts_here) fun v11 => (bdk (.ok (.int 3)) fun v12 => ixD v11 v12)) fun v13 => (bdk (.ok d4) fun v14 => ixD v13 v14)) itD) fun ds => forFk (fun (d16 : D) (w15 : D × D) => (un2 d16 fun l_first16 l_second16 => (bdk (bdk (bdk (bdk (bdk (.ok l_begin5) fun v18 => (bdk (.ok l_second16) fun v19 => addD v18 v19)) fun v20 => (bdk (.ok []) fun r21 => .ok (v20 :: r21))) (ul1 intD)) fun v22 => (bdk (.ok l_n) fun v23 => modD v22 v23)) fun v30 => bdk (bdk (bdk (bdk (bdk (.ok l_begin5) fun v24 => (bdk (.ok l_first16) fun v25 => addD v24 v25)) fun v26 => (bdk (.ok []) fun r27 => .ok (v26 :: r27))) (ul1 intD)) fun v28 => (bdk (.ok l_n) fun v29 => modD v28 v29)) fun v31 => match dputD w15.1 v31 v30 with | Option.some l_found31 => (bdk (bdk (.ok w15.2) fun v34 => (bdk (.ok (.int 1)) fun v35 => addD v34 v35)) fun l_count32 => (.ok (.nx (l_found31, l_count32)))) | Option.none => .bad))) ds (w3.1, w3.2)) fun (w15 : D × D) => (.ok (.nx (w15.1, w15.2)))))) ds ((.dik []), (.int 0))) fun (w3 : D × D) => (bdk (bdk (bdk (bdk (bdk (bdk (.ok w3.1) fun v36 => (bdk (.ok []) fun r37 => .ok (v36 :: r37))) (ul1 lenKD)) fun v38 => (bdk (.ok w3.2) fun v39 => eqD v38 v39)) asB) fun k => if k = true then (.ok w3.1) else (.ok .non)) fun d => .ok (.rt d)))
theorem lz__law_marked : F__law_marked = L__law_marked := rfl
def L__law_brought (l_parts_here l_n l_place_here : D) : Tr D :=
  fin (bdk (bdk (bdk (bdk (bdk (bdk (bdk (bdk (.ok l_parts_here) fun v2 => (bdk (.ok (.int 1)) fun v3 => ixD v2 v3)) fun v8 => (bdk (bdk (bdk (.ok l_n) fun v6 => (bdk (bdk (.ok l_place_here) fun v4 => (bdk (.ok []) fun r5 => .ok (v4 :: r5))) fun r7 => .ok (v6 :: r7))) (ul2 F__law_seat)) fun v9 => mulD v8 v9)) fun v18 => (bdk (bdk (bdk (bdk (.ok l_parts_here) fun v10 => (bdk (.ok (.int 2)) fun v11 => ixD v10 v11)) fun v12 => (bdk (.ok (.int 0)) fun v13 => ixD v12 v13)) fun v16 => (bdk (bdk (.ok l_n) fun v14 => (bdk (.ok (.int 4)) fun v15 => divD v14 v15)) fun v17 => mulD v16 v17)) fun v19 => addD v18 v19)) fun v24 => (bdk (bdk (bdk (.ok l_parts_here) fun v20 => (bdk (.ok (.int 2)) fun v21 => ixD v20 v21)) fun v22 => (bdk (.ok (.int 1)) fun v23 => ixD v22 v23)) fun v25 => addD v24 v25)) fun v26 => (bdk (.ok []) fun r27 => .ok (v26 :: r27))) (ul1 intD)) fun v28 => (bdk (.ok l_n) fun v29 => modD v28 v29)) fun l_seat_here0 => (bdk (bdk (bdk (.ok l_n) fun v39 => (bdk (bdk (bdk (bdk (bdk (.ok l_parts_here) fun v32 => (bdk (bdk (.ok l_n) fun v30 => (bdk (.ok []) fun r31 => .ok (v30 :: r31))) fun r33 => .ok (v32 :: r33))) (ul2 F__law_marked)) fun v34 => if isDk v34 = true then (bdk (.ok l_seat_here0) fun v35 => (bdk (.ok l_seat_here0) fun v36 => getK2D v34 v35 v36)) else .bad) fun v37 => (bdk (.ok []) fun r38 => .ok (v37 :: r38))) fun r40 => .ok (v39 :: r40))) (ul2 F__law_place)) fun d => .ok (.rt d)))
theorem lz__law_brought : F__law_brought = L__law_brought := rfl
def L__law_heard (m : Tr D) : Tr D := tryT (bdk m fun d => .ok (.tup [.str "told", d])) .ok (fun cl fs => if xh__law_heard cl = true then nox (fin (bdFk (W' := Unit) (bdk (bdk (bdk (.ok (.err cl fs)) fun d => bdk (opt (isi_BadLength d)) fun k => .ok (.bl k)) asB) fun k => if k = true then (bdk (bdk (bdk (.ok (.str "length")) fun v6 => (bdk (bdk (bdk (bdk (bdk (.ok (.err cl fs)) (xaD ["BadLength", "BadPlace"] "value")) fun v2 => (bdk (.ok []) fun r3 => .ok (v2 :: r3))) (ul1 reprD)) fun v4 => (bdk (.ok []) fun r5 => .ok (v4 :: r5))) fun r7 => .ok (v6 :: r7))) fun ds => if ds.length ≤ sizeLine then .ok (.tup ds) else .bad) fun d => .ok (.rt d)) else (.ok (.nx ()))) fun (w1 : Unit) => (bdFk (W' := Unit) (bdk (bdk (bdk (.ok (.err cl fs)) fun d => bdk (opt (isi_BadPlace d)) fun k => .ok (.bl k)) asB) fun k => if k = true then (bdk (bdk (bdk (.ok (.str "place")) fun v13 => (bdk (bdk (bdk (bdk (bdk (.ok (.err cl fs)) (xaD ["BadLength", "BadPlace"] "value")) fun v9 => (bdk (.ok []) fun r10 => .ok (v9 :: r10))) (ul1 reprD)) fun v11 => (bdk (.ok []) fun r12 => .ok (v11 :: r12))) fun r14 => .ok (v13 :: r14))) fun ds => if ds.length ≤ sizeLine then .ok (.tup ds) else .bad) fun d => .ok (.rt d)) else (.ok (.nx ()))) fun (w8 : Unit) => (bdk (bdk (bdk (bdk (.ok (.err cl fs)) fun d => bdk (opt (isi_Overlap d)) fun k => .ok (.bl k)) asB) fun k => if k = true then (bdk (bdk (.ok (.str "overlap")) fun v19 => (bdk (bdk (bdk (bdk (bdk (.ok (.err cl fs)) (xaD ["Overlap"] "length")) fun v15 => (bdk (.ok []) fun r16 => .ok (v15 :: r16))) (ul1 reprD)) fun v17 => (bdk (.ok []) fun r18 => .ok (v17 :: r18))) fun r20 => .ok (v19 :: r20))) fun ds => if ds.length ≤ sizeLine then .ok (.tup ds) else .bad) else (.ok (.str "odd"))) fun d => .ok (.rt d))))) else .bad)
theorem lz__law_heard : F__law_heard = L__law_heard := rfl
def L__law_small_right (l_form_here l_parts_here l_n : D) : Tr D :=
  fin (bdk (bdk (bdk (bdk (.ok l_parts_here) fun v4 => (bdk (bdk (.ok l_n) fun v2 => (bdk (.ok []) fun r3 => .ok (v2 :: r3))) fun r5 => .ok (v4 :: r5))) (ul2 F__law_marked)) fun (v6 : D) => (bdk (.ok .non) fun (v7 : D) => (match v7 with | .non => .ok (.bl (!isN v6)) | _ => .bad))) fun l_usable0 => (bdFk (W' := Unit) (bdk (bdk (bdk (bdk (bdk (nox (bdk (.ok l_form_here) fun o10 => (isO "Form" o10 fun fs => if fs.lookup ("is_usable" : Str) = none then bdk (bdk (.ok l_n) fun v8 => (bdk (.ok []) fun r9 => .ok (v8 :: r9))) fun ds => (ul2 F_Form_is_usable) (o10 :: ds) else .bad))) fun v11 => (bdk (.ok []) fun r12 => .ok (v11 :: r12))) (ul1 reprD)) fun v15 => (bdk (bdk (bdk (.ok l_usable0) fun v13 => (bdk (.ok []) fun r14 => .ok (v13 :: r14))) (ul1 reprD)) fun v16 => neD v15 v16)) asB) fun k => if k = true then (bdk (.ok (.bl false)) fun d => .ok (.rt d)) else (.ok (.nx ()))) fun (w17 : Unit) => (bdFk (W' := Unit) (bdk (bdk (bdk (.ok l_usable0) asB) fun k => .ok (!k)) fun k => if k = true then (bdk (bdk (bdk (bdk (bdk (.ok l_n) fun v19 => (bdk (.ok []) fun r20 => .ok (v19 :: r20))) (ul1 rg1)) fun ds => bdk (lcF (fun l_place_here20 => nox (bdk (nox (F__law_heard (bdk (.ok l_form_here) fun o26 => (isO "Form" o26 fun fs => if fs.lookup ("to" : Str) = none then bdk (bdk (.ok l_n) fun v24 => (bdk (bdk (.ok l_place_here20) fun v22 => (bdk (.ok []) fun r23 => .ok (v22 :: r23))) fun r25 => .ok (v24 :: r25))) fun ds => (ul3 F_Form_to) (o26 :: ds) else .bad)))) fun y => .ok (some y))) ds) fun r => .ok (.lst r)) fun v37 => (bdk (bdk (bdk (bdk (bdk (bdk (.ok (.str "overlap")) fun v31 => (bdk (bdk (bdk (bdk (.ok l_n) fun v27 => (bdk (.ok []) fun r28 => .ok (v27 :: r28))) (ul1 reprD)) fun v29 => (bdk (.ok []) fun r30 => .ok (v29 :: r30))) fun r32 => .ok (v31 :: r32))) fun ds => if ds.length ≤ sizeLine then .ok (.tup ds) else .bad) fun v33 => (bdk (.ok []) fun r34 => .ok (v33 :: r34))) fun ds => if ds.length ≤ sizeLine then .ok (.lst ds) else .bad) fun v35 => (bdk (.ok l_n) fun v36 => mulD v35 v36)) fun v38 => eqD v37 v38)) fun d => .ok (.rt d)) else (.ok (.nx ()))) fun (w18 : Unit) => (bdk (bdk (bdk (bdk (.ok l_n) fun v40 => (bdk (.ok []) fun r41 => .ok (v40 :: r41))) (ul1 rg1)) fun ds => bdk (lcF (fun l_place_here41 => nox (bdk (nox (bdk (.ok l_form_here) fun o47 => (isO "Form" o47 fun fs => if fs.lookup ("to" : Str) = none then bdk (bdk (.ok l_n) fun v45 => (bdk (bdk (.ok l_place_here41) fun v43 => (bdk (.ok []) fun r44 => .ok (v43 :: r44))) fun r46 => .ok (v45 :: r46))) fun ds => (ul3 F_Form_to) (o47 :: ds) else .bad))) fun y => .ok (some y))) ds) fun r => .ok (.lst r)) fun l_told38 => (bdk (bdk (bdk (bdk (.ok l_n) fun v49 => (bdk (.ok []) fun r50 => .ok (v49 :: r50))) (ul1 rg1)) fun ds => bdk (lcF (fun l_place_here50 => nox (bdk (bdk (bdk (.ok l_parts_here) fun v56 => (bdk (bdk (.ok l_n) fun v54 => (bdk (bdk (.ok l_place_here50) fun v52 => (bdk (.ok []) fun r53 => .ok (v52 :: r53))) fun r55 => .ok (v54 :: r55))) fun r57 => .ok (v56 :: r57))) (ul3 F__law_brought)) fun y => .ok (some y))) ds) fun r => .ok (.lst r)) fun l_due47 => (bdk (bdk (bdk (bdk (bdk (bdk (.ok l_told38) fun v58 => (bdk (.ok []) fun r59 => .ok (v58 :: r59))) (ul1 reprD)) fun v62 => (bdk (bdk (bdk (.ok l_due47) fun v60 => (bdk (.ok []) fun r61 => .ok (v60 :: r61))) (ul1 reprD)) fun v63 => eqD v62 v63)) asB) fun k => if k = true then (bdk (bdk (bdk (bdk (bdk (.ok l_told38) itD) fun ds => bdk (lcF (fun l_place_here63 => nox (bdk (bdk (bdk (.ok l_place_here63) fun v65 => (bdk (.ok []) fun r66 => .ok (v65 :: r66))) (ul1 intD)) fun y => .ok (some y))) ds) fun r => .ok (.lst r)) fun v67 => (bdk (.ok []) fun r68 => .ok (v67 :: r68))) (ul1 sortD)) fun v69 => (bdk (bdk (bdk (.ok l_n) rgA1) fun r => if rgOk r.1 r.2 then .ok (.lst (rgD r.1 (r.2 - r.1).toNat)) else .bad) fun v70 => eqD v69 v70)) else .ok (.bl false)) fun d => .ok (.rt d)))))))
theorem lz__law_small_right : F__law_small_right = L__law_small_right := rfl
def L__law_far_right (l_pen_here l_form_here l_parts_here : D) : Tr D :=
  fin (bdk (bdk (bdk (bdk (.ok (.int 4)) fun v2 => (bdk (.ok (.int 1000000000000000000000000000000000000000)) fun v3 => mulD v2 v3)) fun v10 => (bdk (bdk (.ok (.int 4)) fun v8 => (bdk (bdk (bdk (.ok l_pen_here) fun v6 => (bdk (bdk (.ok (.int 100000000000000000000)) fun v4 => (bdk (.ok []) fun r5 => .ok (v4 :: r5))) fun r7 => .ok (v6 :: r7))) (ul2 F_draw)) fun v9 => mulD v8 v9)) fun v11 => addD v10 v11)) fun v14 => (bdk (bdk (.ok l_parts_here) fun v12 => (bdk (.ok (.int 0)) fun v13 => ixD v12 v13)) fun v15 => addD v14 v15)) fun l_n0 => (bdk (bdk (bdk (bdk (bdk (.ok l_pen_here) fun v19 => (bdk (bdk (.ok (.int 60)) fun v17 => (bdk (.ok []) fun r18 => .ok (v17 :: r18))) fun r20 => .ok (v19 :: r20))) (ul2 F_draw)) fun v33 => (bdk (bdk (bdk (bdk (bdk (.ok l_n0) fun v21 => (bdk (.ok (.int 2)) fun v22 => divD v21 v22)) fun v23 => (bdk (.ok (.int 30)) fun v24 => subD v23 v24)) fun v29 => (bdk (bdk (bdk (.ok l_pen_here) fun v27 => (bdk (bdk (.ok (.int 60)) fun v25 => (bdk (.ok []) fun r26 => .ok (v25 :: r26))) fun r28 => .ok (v27 :: r28))) (ul2 F_draw)) fun v30 => addD v29 v30)) fun v31 => (bdk (.ok []) fun r32 => .ok (v31 :: r32))) fun r34 => .ok (v33 :: r34))) fun ds => if ds.length ≤ sizeLine then .ok (.lst ds) else .bad) fun l_places15 => (bdFk (bdk (bdk (bdk (.ok l_places15) fun v51 => (bdk (bdk (bdk (bdk (bdk (.ok l_n0) fun v35 => (bdk (.ok (.int 1)) fun v36 => subD v35 v36)) fun v41 => (bdk (bdk (bdk (.ok l_pen_here) fun v39 => (bdk (bdk (.ok (.int 60)) fun v37 => (bdk (.ok []) fun r38 => .ok (v37 :: r38))) fun r40 => .ok (v39 :: r40))) (ul2 F_draw)) fun v42 => subD v41 v42)) fun v49 => (bdk (bdk (bdk (bdk (.ok l_pen_here) fun v45 => (bdk (bdk (.ok l_n0) fun v43 => (bdk (.ok []) fun r44 => .ok (v43 :: r44))) fun r46 => .ok (v45 :: r46))) (ul2 F_draw)) fun v47 => (bdk (.ok []) fun r48 => .ok (v47 :: r48))) fun r50 => .ok (v49 :: r50))) fun ds => if ds.length ≤ sizeLine then .ok (.lst ds) else .bad) fun v52 => addD v51 v52)) itD) fun ds => forFk (fun (d54 : D) (w53 : Unit) => (bdFk (W' := Unit) (bdk (bdk (bdk (bdk (bdk (nox (bdk (.ok l_form_here) fun o60 => (isO "Form" o60 fun fs => if fs.lookup ("to" : Str) = none then bdk (bdk (.ok l_n0) fun v58 => (bdk (bdk (.ok d54) fun v56 => (bdk (.ok []) fun r57 => .ok (v56 :: r57))) fun r59 => .ok (v58 :: r59))) fun ds => (ul3 F_Form_to) (o60 :: ds) else .bad))) fun v61 => (bdk (.ok []) fun r62 => .ok (v61 :: r62))) (ul1 reprD)) fun v71 => (bdk (bdk (bdk (bdk (bdk (.ok l_parts_here) fun v67 => (bdk (bdk (.ok l_n0) fun v65 => (bdk (bdk (.ok d54) fun v63 => (bdk (.ok []) fun r64 => .ok (v63 :: r64))) fun r66 => .ok (v65 :: r66))) fun r68 => .ok (v67 :: r68))) (ul3 F__law_brought)) fun v69 => (bdk (.ok []) fun r70 => .ok (v69 :: r70))) (ul1 reprD)) fun v72 => neD v71 v72)) asB) fun k => if k = true then (bdk (.ok (.bl false)) fun d => .ok (.rt d)) else (.ok (.nx ()))) fun (w73 : Unit) => (.ok (.nx ())))) ds ()) fun (w53 : Unit) => (bdk (bdk (nox (bdk (.ok l_form_here) fun o76 => (isO "Form" o76 fun fs => if fs.lookup ("is_usable" : Str) = none then bdk (bdk (.ok l_n0) fun v74 => (bdk (.ok []) fun r75 => .ok (v74 :: r75))) fun ds => (ul2 F_Form_is_usable) (o76 :: ds) else .bad))) fun v77 => (bdk (.ok (.bl true)) fun v78 => isBD v77 v78)) fun d => .ok (.rt d)))))
theorem lz__law_far_right : F__law_far_right = L__law_far_right := rfl
def L_law : Tr D :=
  fin (bdFk (bdk (bdk (bdk (.ok (.int 4)) fun v1 => (bdk (.ok []) fun r2 => .ok (v1 :: r2))) (ul1 rg1)) fun ds => forFk (fun (d4 : D) (w3 : Unit) => (bdk (bdk (bdk (.ok .pen) fun v7 => (bdk (.ok []) fun r8 => .ok (v7 :: r8))) (ul1 F__law_parts)) fun l_parts_here5 => (bdk (bdk (bdk (bdk (bdk (.ok l_parts_here5) fun v9 => (bdk (.ok []) fun r10 => .ok (v9 :: r10))) (ul1 F__law_form)) fun v15 => (bdk (bdk (bdk (.ok l_parts_here5) fun v11 => (bdk (.ok (.int 0)) fun v12 => ixD v11 v12)) fun v13 => (bdk (.ok []) fun r14 => .ok (v13 :: r14))) fun r16 => .ok (v15 :: r16))) fun ds => if ds.length ≤ sizeLine then .ok (.tup ds) else .bad) fun d18 => un2 d18 fun l_form_here16 l_rest16 => (bdFk (bdk (bdk (bdk (bdk (bdk (.ok l_rest16) fun v25 => (bdk (bdk (.ok (.int 4)) fun v23 => (bdk (bdk (bdk (bdk (.ok l_rest16) fun v19 => (bdk (.ok (.int 0)) fun v20 => eqD v19 v20)) fun v21 => (bdk (.ok []) fun r22 => .ok (v21 :: r22))) (ul1 intD)) fun v24 => mulD v23 v24)) fun v26 => addD v25 v26)) fun v47 => (bdk (bdk (bdk (.ok l_rest16) fun v27 => (bdk (.ok (.int 4)) fun v28 => addD v27 v28)) fun v45 => (bdk (bdk (bdk (.ok l_rest16) fun v29 => (bdk (.ok (.int 8)) fun v30 => addD v29 v30)) fun v43 => (bdk (bdk (bdk (.ok l_rest16) fun v39 => (bdk (bdk (.ok (.int 4)) fun v37 => (bdk (bdk (.ok (.int 3)) fun v35 => (bdk (bdk (bdk (.ok .pen) fun v33 => (bdk (bdk (.ok (.int 12)) fun v31 => (bdk (.ok []) fun r32 => .ok (v31 :: r32))) fun r34 => .ok (v33 :: r34))) (ul2 F_draw)) fun v36 => addD v35 v36)) fun v38 => mulD v37 v38)) fun v40 => addD v39 v40)) fun v41 => (bdk (.ok []) fun r42 => .ok (v41 :: r42))) fun r44 => .ok (v43 :: r44))) fun r46 => .ok (v45 :: r46))) fun r48 => .ok (v47 :: r48))) fun ds => if ds.length ≤ sizeLine then .ok (.lst ds) else .bad) itD) fun ds => forFk (fun (d50 : D) (w49 : Unit) => (bdFk (W' := Unit) (bdk (bdk (bdk (bdk (bdk (.ok l_form_here16) fun v56 => (bdk (bdk (.ok l_parts_here5) fun v54 => (bdk (bdk (.ok d50) fun v52 => (bdk (.ok []) fun r53 => .ok (v52 :: r53))) fun r55 => .ok (v54 :: r55))) fun r57 => .ok (v56 :: r57))) (ul3 F__law_small_right)) asB) fun k => .ok (!k)) fun k => if k = true then (bdk (.ok (.bl false)) fun d => .ok (.rt d)) else (.ok (.nx ()))) fun (w58 : Unit) => (.ok (.nx ())))) ds ()) fun (w49 : Unit) => (bdFk (W' := Unit) (bdk (bdk (bdk (bdk (bdk (.ok .pen) fun v63 => (bdk (bdk (.ok l_form_here16) fun v61 => (bdk (bdk (.ok l_parts_here5) fun v59 => (bdk (.ok []) fun r60 => .ok (v59 :: r60))) fun r62 => .ok (v61 :: r62))) fun r64 => .ok (v63 :: r64))) (ul3 F__law_far_right)) asB) fun k => .ok (!k)) fun k => if k = true then (bdk (.ok (.bl false)) fun d => .ok (.rt d)) else (.ok (.nx ()))) fun (w65 : Unit) => (bdk (bdk (.ok l_rest16) fun v67 => (bdk (.ok (.int 40)) fun v68 => addD v67 v68)) fun l_n65 => (bdFk (bdk (bdk (bdk (bdk (bdk (.ok l_n65) fun v69 => (bdk (.ok (.int 1)) fun v70 => addD v69 v70)) fun v97 => (bdk (bdk (bdk (.ok l_n65) fun v71 => (bdk (.ok (.int 2)) fun v72 => subD v71 v72)) fun v95 => (bdk (bdk (.ok (.int 0)) fun v93 => (bdk (bdk (bdk (.ok (.int 4)) negD) fun v91 => (bdk (bdk (.ok .non) fun v89 => (bdk (bdk (.ok (.bl true)) fun v87 => (bdk (bdk (bdk (bdk (.ok l_n65) fun v73 => (bdk (.ok []) fun r74 => .ok (v73 :: r74))) (ul1 strD)) fun v85 => (bdk (bdk (bdk (bdk (.ok l_n65) fun v75 => (bdk (.ok []) fun r76 => .ok (v75 :: r76))) fun ds => if ds.length ≤ sizeLine then .ok (.tup ds) else .bad) fun v83 => (bdk (bdk (bdk (bdk (.ok (.int 4)) fun v77 => (bdk (.ok (.int 10000000000000000000000000000000000000000)) fun v78 => mulD v77 v78)) fun v79 => (bdk (.ok l_rest16) fun v80 => addD v79 v80)) fun v81 => (bdk (.ok []) fun r82 => .ok (v81 :: r82))) fun r84 => .ok (v83 :: r84))) fun r86 => .ok (v85 :: r86))) fun r88 => .ok (v87 :: r88))) fun r90 => .ok (v89 :: r90))) fun r92 => .ok (v91 :: r92))) fun r94 => .ok (v93 :: r94))) fun r96 => .ok (v95 :: r96))) fun r98 => .ok (v97 :: r98))) fun ds => if ds.length ≤ sizeLine then .ok (.lst ds) else .bad) itD) fun ds => forFk (fun (d100 : D) (w99 : Unit) => (bdk (bdk (bdk (.ok (.str "length")) fun v107 => (bdk (bdk (bdk (bdk (.ok d100) fun v103 => (bdk (.ok []) fun r104 => .ok (v103 :: r104))) (ul1 reprD)) fun v105 => (bdk (.ok []) fun r106 => .ok (v105 :: r106))) fun r108 => .ok (v107 :: r108))) fun ds => if ds.length ≤ sizeLine then .ok (.tup ds) else .bad) fun l_due101 => (bdFk (W' := Unit) (bdk (bdk (bdk (nox (F__law_heard (bdk (.ok l_form_here16) fun o113 => (isO "Form" o113 fun fs => if fs.lookup ("to" : Str) = none then bdk (bdk (.ok d100) fun v111 => (bdk (bdk (.ok (.int 0)) fun v109 => (bdk (.ok []) fun r110 => .ok (v109 :: r110))) fun r112 => .ok (v111 :: r112))) fun ds => (ul3 F_Form_to) (o113 :: ds) else .bad)))) fun v114 => (bdk (.ok l_due101) fun v115 => neD v114 v115)) asB) fun k => if k = true then (bdk (.ok (.bl false)) fun d => .ok (.rt d)) else (.ok (.nx ()))) fun (w116 : Unit) => (bdFk (W' := Unit) (bdk (bdk (bdk (nox (F__law_heard (bdk (.ok l_form_here16) fun o119 => (isO "Form" o119 fun fs => if fs.lookup ("is_usable" : Str) = none then bdk (bdk (.ok d100) fun v117 => (bdk (.ok []) fun r118 => .ok (v117 :: r118))) fun ds => (ul2 F_Form_is_usable) (o119 :: ds) else .bad)))) fun v120 => (bdk (.ok l_due101) fun v121 => neD v120 v121)) asB) fun k => if k = true then (bdk (.ok (.bl false)) fun d => .ok (.rt d)) else (.ok (.nx ()))) fun (w122 : Unit) => (bdFk (W' := Unit) (bdk (bdk (bdk (nox (F__law_heard (bdk (.ok l_form_here16) fun o127 => (isO "Form" o127 fun fs => if fs.lookup ("to" : Str) = none then bdk (bdk (.ok d100) fun v125 => (bdk (bdk (bdk (.ok (.int 1)) negD) fun v123 => (bdk (.ok []) fun r124 => .ok (v123 :: r124))) fun r126 => .ok (v125 :: r126))) fun ds => (ul3 F_Form_to) (o127 :: ds) else .bad)))) fun v128 => (bdk (.ok l_due101) fun v129 => neD v128 v129)) asB) fun k => if k = true then (bdk (.ok (.bl false)) fun d => .ok (.rt d)) else (.ok (.nx ()))) fun (w130 : Unit) => (.ok (.nx ()))))))) ds ()) fun (w99 : Unit) => (bdk (bdk (.ok l_rest16) fun v138 => (bdk (bdk (.ok (.int 4)) fun v136 => (bdk (bdk (bdk (bdk (.ok l_rest16) fun v132 => (bdk (.ok (.int 0)) fun v133 => eqD v132 v133)) fun v134 => (bdk (.ok []) fun r135 => .ok (v134 :: r135))) (ul1 intD)) fun v137 => mulD v136 v137)) fun v139 => addD v138 v139)) fun l_least130 => (bdFk (bdk (bdk (bdk (bdk (.ok l_least130) fun v152 => (bdk (bdk (bdk (.ok (.int 1)) negD) fun v150 => (bdk (bdk (.ok .non) fun v148 => (bdk (bdk (.ok (.bl true)) fun v146 => (bdk (bdk (.ok (.str "0")) fun v144 => (bdk (bdk (bdk (bdk (.ok (.int 0)) fun v140 => (bdk (.ok []) fun r141 => .ok (v140 :: r141))) fun ds => if ds.length ≤ sizeLine then .ok (.tup ds) else .bad) fun v142 => (bdk (.ok []) fun r143 => .ok (v142 :: r143))) fun r145 => .ok (v144 :: r145))) fun r147 => .ok (v146 :: r147))) fun r149 => .ok (v148 :: r149))) fun r151 => .ok (v150 :: r151))) fun r153 => .ok (v152 :: r153))) fun ds => if ds.length ≤ sizeLine then .ok (.lst ds) else .bad) itD) fun ds => forFk (fun (d155 : D) (w154 : Unit) => (bdFk (W' := Unit) (bdk (bdk (bdk (nox (F__law_heard (bdk (.ok l_form_here16) fun o161 => (isO "Form" o161 fun fs => if fs.lookup ("to" : Str) = none then bdk (bdk (.ok l_least130) fun v159 => (bdk (bdk (.ok d155) fun v157 => (bdk (.ok []) fun r158 => .ok (v157 :: r158))) fun r160 => .ok (v159 :: r160))) fun ds => (ul3 F_Form_to) (o161 :: ds) else .bad)))) fun v168 => (bdk (bdk (bdk (.ok (.str "place")) fun v166 => (bdk (bdk (bdk (bdk (.ok d155) fun v162 => (bdk (.ok []) fun r163 => .ok (v162 :: r163))) (ul1 reprD)) fun v164 => (bdk (.ok []) fun r165 => .ok (v164 :: r165))) fun r167 => .ok (v166 :: r167))) fun ds => if ds.length ≤ sizeLine then .ok (.tup ds) else .bad) fun v169 => neD v168 v169)) asB) fun k => if k = true then (bdk (.ok (.bl false)) fun d => .ok (.rt d)) else (.ok (.nx ()))) fun (w170 : Unit) => (.ok (.nx ())))) ds ()) fun (w154 : Unit) => (.ok (.nx ()))))))))))) ds ()) fun (w3 : Unit) => (bdk (.ok (.bl true)) fun d => .ok (.rt d)))
theorem lz_law : F_law = L_law := rfl
end Lw
end
section
set_option Elab.async false
set_option linter.all false
set_option maxRecDepth 100000
set_option maxHeartbeats 400000
namespace Gp
section
variable {κ : Type} [DecidableEq κ] {α ι : Type}
theorem lookP_nil (k : κ) : lookP ([] : List (κ × α)) k = none := rfl
theorem lookP_cons (e : κ × α) (r : List (κ × α)) (k : κ) : lookP (e :: r) k = if e.1 = k then some e.2 else lookP r k := by
  unfold lookP
  rw [List.find?_cons]
  by_cases h : e.1 = k
  · rw [if_pos h, decide_eq_true h]; rfl
  · rw [if_neg h, decide_eq_false h]
theorem lookP_none {t : List (κ × α)} {k : κ} : lookP t k = none ↔ k ∉ t.map (·.1) := by
  induction t with
  | nil => simp [lookP_nil]
  | cons e r ih =>
    rw [lookP_cons, List.map_cons, List.mem_cons]
    by_cases h : e.1 = k
    · rw [if_pos h]; constructor
      · intro z; cases z
      · intro z; exact absurd (Or.inl h.symm) z
    · rw [if_neg h, ih]; constructor
      · intro z y; rcases y with y | y
        · exact h y.symm
        · exact z y
      · intro z y; exact z (Or.inr y)
theorem lookP_of {t : List (κ × α)} (nd : (t.map (·.1)).Nodup) {k : κ} {v : α} (h : (k, v) ∈ t) : lookP t k = some v := by
  induction t with
  | nil => cases h
  | cons e r ih =>
    rw [lookP_cons]
    rw [List.map_cons, List.nodup_cons] at nd
    rcases List.mem_cons.mp h with h | h
    · rw [if_pos (by rw [← h]), ← h]
    · rw [if_neg (fun z : e.1 = k => nd.1 (by rw [z]; exact List.mem_map_of_mem (f := (·.1)) h))]
      exact ih nd.2 h
theorem lookP_map {t : List (κ × α)} (k k' : κ) (v : α) : lookP (t.map fun kv => if kv.1 = k then (kv.1, v) else kv) k' = if k = k' then (lookP t k').map fun _ => v else lookP t k' := by
  induction t with
  | nil => rw [List.map_nil, lookP_nil, Option.map_none, ite_self]
  | cons e r ih =>
    rw [List.map_cons, lookP_cons, lookP_cons, ih]
    by_cases h : e.1 = k
    · rw [if_pos h]
      by_cases h2 : e.1 = k'
      · rw [if_pos h2, if_pos h2, if_pos (h ▸ h2)]; rfl
      · rw [if_neg h2, if_neg h2]
    · rw [if_neg h]
      by_cases h2 : e.1 = k'
      · rw [if_pos h2, if_pos h2, if_neg fun z => h (h2.trans z.symm)]
      · rw [if_neg h2, if_neg h2]
theorem lookP_app {t u : List (κ × α)} (k : κ) : lookP (t ++ u) k = (lookP t k).or (lookP u k) := by
  induction t with
  | nil => rw [List.nil_append, lookP_nil, Option.none_or]
  | cons e r ih =>
    rw [List.cons_append, lookP_cons, lookP_cons, ih]
    by_cases h : e.1 = k
    · rw [if_pos h, if_pos h]; rfl
    · rw [if_neg h, if_neg h]
theorem any_key {t : List (κ × α)} {k : κ} : (t.any fun kv => decide (kv.1 = k)) = true ↔ k ∈ t.map (·.1) := by
  rw [List.any_eq_true, List.mem_map]
  constructor
  · intro ⟨x, h, e⟩; exact ⟨x, h, of_decide_eq_true e⟩
  · intro ⟨x, h, e⟩; exact ⟨x, h, decide_eq_true e⟩
theorem lookP_put (t : List (κ × α)) (k k' : κ) (v : α) : lookP (putP t k v) k' = if k = k' then some v else lookP t k' := by
  unfold putP
  by_cases h : k ∈ t.map (·.1)
  · rw [if_pos (any_key.mpr h), lookP_map]
    by_cases h2 : k = k'
    · rw [if_pos h2, if_pos h2]
      cases e : lookP t k' with
      | none => exact absurd (h2 ▸ h) (lookP_none.mp e)
      | some _ => rfl
    · rw [if_neg h2, if_neg h2]
  · rw [if_neg fun z => h (any_key.mp z), lookP_app, lookP_cons, lookP_nil]
    by_cases h2 : k = k'
    · rw [if_pos h2, if_pos h2, lookP_none.mpr (h2 ▸ h)]; rfl
    · rw [if_neg h2, if_neg h2, Option.or_none]
theorem keys_put (t : List (κ × α)) (k : κ) (v : α) : (putP t k v).map (·.1) = if k ∈ t.map (·.1) then t.map (·.1) else t.map (·.1) ++ [k] := by
  unfold putP
  by_cases h : k ∈ t.map (·.1)
  · rw [if_pos (any_key.mpr h), if_pos h, List.map_map]
    refine List.map_congr_left fun e _ => ?_
    show (if e.1 = k then (e.1, v) else e).1 = e.1
    split <;> rfl
  · rw [if_neg fun z => h (any_key.mp z), if_neg h, List.map_append]; rfl
theorem nodup_put {t : List (κ × α)} (nd : (t.map (·.1)).Nodup) (k : κ) (v : α) : ((putP t k v).map (·.1)).Nodup := by
  rw [keys_put]
  split
  · exact nd
  · rename_i h
    rw [List.nodup_append]
    exact ⟨nd, List.nodup_cons.mpr ⟨by simp, List.nodup_nil⟩, fun a ha b hb e => h (by rw [List.mem_singleton] at hb; rw [← hb, ← e]; exact ha)⟩
theorem len_put (t : List (κ × α)) (k : κ) (v : α) : (putP t k v).length ≤ t.length + 1 := by
  have h := congrArg List.length (keys_put t k v)
  rw [List.length_map] at h
  rw [h]
  split
  · rw [List.length_map]; omega
  · rw [List.length_append, List.length_map]; exact Nat.le_refl _
def putA (f : ι → κ) (g : ι → α) : List ι → List (κ × α) → List (κ × α)
  | [], t => t
  | i :: r, t => putA f g r (putP t (f i) (g i))
theorem look_putA {f : ι → κ} {g : ι → α} : ∀ {is : List ι} {t : List (κ × α)}, (∀ i ∈ is, ∀ j ∈ is, f i = f j → g i = g j) →
    (∀ i ∈ is, lookP (putA f g is t) (f i) = some (g i)) ∧ ∀ k, (∀ i ∈ is, f i ≠ k) → lookP (putA f g is t) k = lookP t k
  | [], t, _ => ⟨(fun i h => nomatch h), fun k _ => rfl⟩
  | i :: r, t, h => by
    obtain ⟨h1, h2⟩ := look_putA (is := r) (t := putP t (f i) (g i)) fun a ha b hb => h a (List.mem_cons_of_mem _ ha) b (List.mem_cons_of_mem _ hb)
    refine ⟨fun a ha => ?_, fun k hk => ?_⟩
    · rcases List.mem_cons.mp ha with rfl | ha
      · by_cases z : ∃ b ∈ r, f b = f a
        · obtain ⟨b, hb, e⟩ := z
          show lookP (putA f g r _) (f a) = _
          have y := h1 b hb
          rw [e, h b (List.mem_cons_of_mem _ hb) a List.mem_cons_self e] at y
          exact y
        · show lookP (putA f g r _) (f a) = _
          rw [h2 (f a) fun b hb e => z ⟨b, hb, e⟩, lookP_put, if_pos rfl]
      · exact h1 a ha
    · show lookP (putA f g r _) k = _
      rw [h2 k fun b hb => hk b (List.mem_cons_of_mem _ hb), lookP_put, if_neg (hk i List.mem_cons_self)]
theorem nodup_putA {f : ι → κ} {g : ι → α} : ∀ {is : List ι} {t : List (κ × α)}, (t.map (·.1)).Nodup → ((putA f g is t).map (·.1)).Nodup
  | [], _, h => h
  | _ :: r, _, h => nodup_putA (is := r) (nodup_put h _ _)
theorem len_putA {f : ι → κ} {g : ι → α} : ∀ {is : List ι} {t : List (κ × α)}, (putA f g is t).length ≤ t.length + is.length
  | [], _ => Nat.le_refl _
  | i :: r, t => by
    have h1 := len_putA (f := f) (g := g) (is := r) (t := putP t (f i) (g i))
    have h2 := len_put t (f i) (g i)
    rw [List.length_cons]
    show (putA f g r _).length ≤ _
    omega
end
end Gp
end
section
set_option Elab.async false
set_option linter.all false
set_option maxRecDepth 100000
set_option maxHeartbeats 400000
namespace Fo
open Gp
abbrev Pt := Int × Int
abbrev Tb := List (Pt × Int)
def NN (p : Pt) : Prop := 0 ≤ p.1 ∧ p.1 < 4
instance (p : Pt) : Decidable (NN p) := by unfold NN; infer_instance
def nrm (r : Int) (p : Pt) : Pt := (p.1 % 4, p.2 - p.1 / 4 * r)
theorem nrm_N (r : Int) (p : Pt) : NN (nrm r p) := by
  unfold NN nrm
  dsimp only
  omega
theorem nrm_id {r : Int} {p : Pt} (h : NN p) : nrm r p = p := by
  unfold NN at h
  unfold nrm
  rw [show p.1 / 4 = 0 by omega, show p.1 % 4 = p.1 by omega, Int.zero_mul, Int.sub_zero]
theorem nrm_sh (r a b k : Int) : nrm r (a + 4 * k, b + k * r) = nrm r (a, b) := by
  unfold nrm
  dsimp only
  rw [show (a + 4 * k) % 4 = a % 4 by omega, show (a + 4 * k) / 4 = a / 4 + k by omega, Int.add_mul]
  congr 1
  omega
theorem nrm_of {r : Int} {p p' : Pt} (k : Int) (h1 : p.1 = p'.1 + 4 * k) (h2 : p.2 = p'.2 + k * r) : nrm r p = nrm r p' := by
  have e : p = (p'.1 + 4 * k, p'.2 + k * r) := Prod.ext h1 h2
  rw [e, nrm_sh]
def lin (r w : Int) (s p : Pt) : Pt := nrm r (w * p.1 + s.1, w * p.2 + s.2)
theorem nrm_eq (r : Int) (p : Pt) : nrm r p = (p.1 + 4 * -(p.1 / 4), p.2 + -(p.1 / 4) * r) := by
  unfold nrm
  rw [Int.neg_mul]
  congr 1
  omega
theorem lin_nrm (r w : Int) (s p : Pt) : lin r w s (nrm r p) = lin r w s p := by
  rw [nrm_eq]
  unfold lin
  dsimp only
  refine nrm_of (w * -(p.1 / 4)) ?_ ?_
  · dsimp only
    rw [Int.mul_add, show w * (4 * -(p.1 / 4)) = 4 * (w * -(p.1 / 4)) by rw [← Int.mul_assoc, Int.mul_comm w 4, Int.mul_assoc]]
    omega
  · dsimp only
    rw [Int.mul_add, ← Int.mul_assoc]
    omega
theorem lin_s (r w : Int) (s p : Pt) : lin r w (nrm r s) p = lin r w s p := by
  rw [nrm_eq]
  unfold lin
  dsimp only
  exact nrm_of (-(s.1 / 4)) (by dsimp only; omega) (by dsimp only; omega)
theorem lin_lin (r w1 w2 : Int) (s1 s2 p : Pt) : lin r w2 s2 (lin r w1 s1 p) = lin r (w1 * w2) (nrm r (w2 * s1.1 + s2.1, w2 * s1.2 + s2.2)) p := by
  rw [lin_s]
  show lin r w2 s2 (nrm r _) = _
  rw [lin_nrm]
  unfold lin
  dsimp only
  have e : ∀ a b c : Int, w2 * (w1 * a + b) + c = w1 * w2 * a + (w2 * b + c) := fun a b c => by
    rw [Int.mul_add, ← Int.mul_assoc, Int.mul_comm w2 w1]
    omega
  rw [e, e]
theorem lin_N (r w : Int) (s p : Pt) : NN (lin r w s p) := nrm_N _ _
theorem lin_one {r : Int} {p : Pt} (h : NN p) : lin r 1 (0, 0) p = p := by
  unfold lin
  rw [show ((1 : Int) * p.1 + ((0, 0) : Pt).1, 1 * p.2 + ((0, 0) : Pt).2) = p from Prod.ext (by dsimp only; omega) (by dsimp only; omega), nrm_id h]
def bk (w : Int) (s : Pt) : Pt := (-w * s.1, -w * s.2)
theorem ww {w : Int} (h : w = 1 ∨ w = -1) : w * w = 1 := by rcases h with rfl | rfl <;> rfl
theorem lin_bk {r w : Int} {s p : Pt} (hw : w = 1 ∨ w = -1) (h : NN p) : lin r w s (lin r w (bk w s) p) = p := by
  rw [lin_lin, ww hw]
  have e : (w * (bk w s).1 + s.1, w * (bk w s).2 + s.2) = ((0, 0) : Pt) := by
    unfold bk
    rcases hw with rfl | rfl
    · exact Prod.ext (by dsimp only; omega) (by dsimp only; omega)
    · exact Prod.ext (by dsimp only; omega) (by dsimp only; omega)
  rw [e, lin_s]
  exact lin_one h
theorem bk_lin {r w : Int} {s p : Pt} (hw : w = 1 ∨ w = -1) (h : NN p) : lin r w (bk w s) (lin r w s p) = p := by
  rw [lin_lin, ww hw]
  have e : (w * s.1 + (bk w s).1, w * s.2 + (bk w s).2) = ((0, 0) : Pt) := by
    unfold bk
    rcases hw with rfl | rfl
    · exact Prod.ext (by dsimp only; omega) (by dsimp only; omega)
    · exact Prod.ext (by dsimp only; omega) (by dsimp only; omega)
  rw [e, lin_s]
  exact lin_one h
def cj (r w : Int) (s : Pt) (f : Pt → Pt) (p : Pt) : Pt := if NN p then lin r w s (f (lin r w (bk w s) p)) else p
structure Fr where
  r : Int
  w : Int
  s : Pt
  f : Pt → Pt
  g : Pt → Pt
structure Bj (f g : Pt → Pt) : Prop where
  gf : ∀ p, g (f p) = p
  fg : ∀ p, f (g p) = p
  q : ∀ p, (f p).1 = p.1
  n : ∀ p, ¬ NN p → f p = p
theorem Bj.qg {f g} (h : Bj f g) (p : Pt) : (g p).1 = p.1 := by rw [← h.q (g p), h.fg]
theorem Bj.ng {f g} (h : Bj f g) (p : Pt) (z : ¬ NN p) : g p = p := by
  have e := h.gf p
  rwa [h.n p z] at e
theorem Bj.symm {f g} (h : Bj f g) : Bj g f := ⟨h.fg, h.gf, h.qg, h.ng⟩
theorem Bj.N {f g} (h : Bj f g) {p : Pt} : NN (f p) ↔ NN p := by unfold NN; rw [h.q]
theorem Bj.inj {f g} (h : Bj f g) {p p' : Pt} (e : f p = f p') : p = p' := by rw [← h.gf p, e, h.gf]
theorem Bj.id : Bj id id := ⟨fun _ => rfl, fun _ => rfl, fun _ => rfl, fun _ _ => rfl⟩
theorem lin_f1 {f g} (h : Bj f g) {r w : Int} {s p : Pt} : (lin r w s (f p)).1 = (lin r w s p).1 := by
  unfold lin nrm
  dsimp only
  rw [h.q]
theorem Bj.cj {f g} (h : Bj f g) {r w : Int} {s : Pt} (hw : w = 1 ∨ w = -1) : Bj (cj r w s f) (cj r w s g) := by
  have key : ∀ {f g : Pt → Pt}, Bj f g → ∀ p, Fo.cj r w s g (Fo.cj r w s f p) = p := fun {f g} h p => by
    unfold Fo.cj
    by_cases z : NN p
    · rw [if_pos z, if_pos (lin_N _ _ _ _), bk_lin hw (h.N.mpr (lin_N _ _ _ _)), h.gf, lin_bk hw z]
    · rw [if_neg z, if_neg z]
  refine ⟨key h, key h.symm, fun p => ?_, fun p z => if_neg z⟩
  unfold Fo.cj
  split
  · rename_i z
    rw [lin_f1 h, lin_bk hw z]
  · rfl
theorem Bj.comp {f1 g1 f2 g2} (h1 : Bj f1 g1) (h2 : Bj f2 g2) : Bj (fun p => f2 (f1 p)) (fun p => g1 (g2 p)) :=
  ⟨fun p => by rw [h2.gf, h1.gf], fun p => by rw [h1.fg, h2.fg], fun p => by rw [h2.q, h1.q], fun p z => by rw [h1.n p z, h2.n p z]⟩
structure Fr.Ok (F : Fr) : Prop where
  r : 0 ≤ F.r ∧ F.r < 4
  w : F.w = 1 ∨ F.w = -1
  s : NN F.s
  b : Bj F.f F.g
def Fr.act (F : Fr) (p : Pt) : Pt := F.f (lin F.r F.w F.s p)
def Fr.inv (F : Fr) : Fr := ⟨F.r, F.w, nrm F.r (bk F.w F.s), cj F.r F.w (nrm F.r (bk F.w F.s)) F.g, cj F.r F.w (nrm F.r (bk F.w F.s)) F.f⟩
theorem Fr.Ok.inv {F : Fr} (h : F.Ok) : F.inv.Ok := ⟨h.r, h.w, nrm_N _ _, h.b.symm.cj h.w⟩
end Fo
end
section
set_option Elab.async false
set_option linter.all false
set_option maxRecDepth 100000
set_option maxHeartbeats 400000
namespace Fo
open Gp
structure Rep (t : Tb) (f : Pt → Pt) : Prop where
  nd : (t.map (·.1)).Nodup
  lk : ∀ p, lookP t p = if f p = p then none else some (f p).2
theorem Rep.none {t f} (h : Rep t f) {p : Pt} : lookP t p = none ↔ f p = p := by
  rw [h.lk]
  split <;> simp_all
theorem Rep.mem {t f} (h : Rep t f) {p : Pt} : p ∈ t.map (·.1) ↔ f p ≠ p := by
  have e := (lookP_none (t := t) (k := p)).symm.trans h.none
  exact ⟨fun z y => e.mpr y z, fun z => Classical.byContradiction fun y => z (e.mp y)⟩
theorem Rep.val {t f} (h : Rep t f) (p : Pt) : (lookP t p).getD p.2 = (f p).2 := by
  rw [h.lk]
  split
  · rename_i z; rw [z]; rfl
  · rfl
theorem Rep.look {t f} (h : Rep t f) {p : Pt} (z : p ∈ t.map (·.1)) : lookP t p = some (f p).2 := by rw [h.lk, if_neg (h.mem.mp z)]
theorem Rep.kN {t f g} (h : Rep t f) (b : Bj f g) {p : Pt} (z : p ∈ t.map (·.1)) : NN p := by
  by_cases y : NN p
  · exact y
  · exact absurd (b.n p y) (h.mem.mp z)
theorem Rep.nil : Rep [] id := ⟨List.nodup_nil, fun p => (if_pos rfl).symm⟩
theorem fq {f g} (b : Bj f g) (p : Pt) : (p.1, (f p).2) = f p := Prod.ext (b.q p).symm rfl
theorem ext2 {f g} (b : Bj f g) {p : Pt} (h : (f p).2 = p.2) : f p = p := Prod.ext (b.q p) h
theorem rep_putA {ι : Type} {is : List ι} {k : ι → Pt} {v : ι → Int} {f g} (b : Bj f g) (h1 : ∀ i ∈ is, f (k i) = ((k i).1, v i)) (h2 : ∀ i ∈ is, f (k i) ≠ k i) (h3 : ∀ p, f p ≠ p → ∃ i ∈ is, k i = p) : Rep (putA k v is []) f := by
  have e : ∀ i ∈ is, ∀ j ∈ is, k i = k j → v i = v j := fun i hi j hj z => by
    have x := h1 i hi
    rw [z, h1 j hj] at x
    injection x with _ x
    exact x.symm
  obtain ⟨l1, l2⟩ := look_putA (t := ([] : Tb)) e
  refine ⟨nodup_putA List.nodup_nil, fun p => ?_⟩
  split
  · rename_i z
    refine l2 p fun i hi y => ?_
    subst y
    exact h2 i hi z
  · rename_i z
    obtain ⟨i, hi, rfl⟩ := h3 p z
    rw [l1 i hi, h1 i hi]
def carT (r w : Int) (s : Pt) (t : Tb) : Tb := putA (fun k : Pt => lin r w s k) (fun k => (lin r w s (k.1, (lookP t k).getD k.2)).2) (t.map (·.1)) []
theorem Rep.car {t f g} (h : Rep t f) (b : Bj f g) {r w : Int} {s : Pt} (hw : w = 1 ∨ w = -1) : Rep (carT r w s t) (cj r w s f) := by
  refine rep_putA (b.cj hw) (fun i hi => ?_) (fun i hi => ?_) fun p z => ?_
  · rw [h.val, fq b]
    unfold cj
    rw [if_pos (lin_N _ _ _ _), bk_lin hw (h.kN b hi)]
    exact Prod.ext (lin_f1 b) rfl
  · unfold cj
    rw [if_pos (lin_N _ _ _ _), bk_lin hw (h.kN b hi)]
    intro y
    have y2 := congrArg (lin r w (bk w s)) y
    rw [bk_lin hw (b.N.mpr (h.kN b hi)), bk_lin hw (h.kN b hi)] at y2
    exact h.mem.mp hi y2
  · by_cases y : NN p
    · refine ⟨lin r w (bk w s) p, h.mem.mpr fun x => ?_, lin_bk hw y⟩
      refine z ?_
      unfold cj
      rw [if_pos y, x, lin_bk hw y]
    · exact absurd (if_neg y) z
def midT (t : Tb) (k : Pt) : Int := (lookP t k).getD k.2
def endT (t u : Tb) (k : Pt) : Int := midT u (k.1, midT t k)
def thenT (t u : Tb) : Tb := putA id (endT t u) ((t.map (·.1) ++ u.map (·.1)).filter fun k => decide (endT t u k ≠ k.2)) []
theorem Rep.endT {t u f1 g1 f2} (h : Rep t f1) (b : Bj f1 g1) (k : Rep u f2) (p : Pt) : endT t u p = (f2 (f1 p)).2 := by
  unfold Fo.endT midT
  rw [h.val, fq b]
  have e := k.val (f1 p)
  exact e
theorem Rep.thn {t u f1 g1 f2 g2} (h : Rep t f1) (b : Bj f1 g1) (k : Rep u f2) (c : Bj f2 g2) : Rep (thenT t u) (fun p => f2 (f1 p)) := by
  refine rep_putA (b.comp c) (fun i hi => ?_) (fun i hi => ?_) fun p z => ?_
  · rw [h.endT b k]
    exact (fq (b.comp c) i).symm
  · have y := of_decide_eq_true (List.mem_filter.mp hi).2
    rw [h.endT b k] at y
    exact fun x => y (congrArg Prod.snd x)
  · refine ⟨p, List.mem_filter.mpr ⟨?_, decide_eq_true ?_⟩, rfl⟩
    · rw [List.mem_append]
      by_cases y : f1 p = p
      · refine .inr (k.mem.mpr fun x => z ?_)
        show f2 (f1 p) = p
        rw [y, x]
      · exact .inl (h.mem.mpr y)
    · rw [h.endT b k]
      exact fun x => z (ext2 (b.comp c) x)
def bkT (t : Tb) : Tb := putA (fun k : Pt => (k.1, midT t k)) (fun k => k.2) (t.map (·.1)) []
theorem Rep.bk {t f g} (h : Rep t f) (b : Bj f g) : Rep (bkT t) g := by
  have e : ∀ k, ((k.1, midT t k) : Pt) = f k := fun k => by
    unfold midT
    rw [h.val, fq b]
  refine rep_putA b.symm (fun i hi => ?_) (fun i hi => ?_) fun p z => ?_
  · rw [e, b.gf]
    exact Prod.ext (by rw [b.q]) rfl
  · rw [e, b.gf]
    exact fun x => h.mem.mp hi x.symm
  · refine ⟨g p, h.mem.mpr fun x => z ?_, by rw [e, b.fg]⟩
    rw [b.fg] at x
    exact x.symm
def Far (B : Int) (f : Pt → Pt) : Prop := ∀ p, f p ≠ p → -B ≤ p.2 ∧ p.2 ≤ B
end Fo
end
section
set_option Elab.async false
set_option linter.all false
set_option maxRecDepth 100000
set_option maxHeartbeats 400000
namespace Fo
open Gp
theorem mem_insZ {x a : Int} : ∀ {l : List Int}, x ∈ insI a l ↔ x = a ∨ x ∈ l
  | [] => by simp [insI]
  | b :: r => by
    unfold insI
    split
    · rw [List.mem_cons]
    · rw [List.mem_cons, mem_insZ, List.mem_cons]
      constructor
      · rintro (h | h | h)
        · exact .inr (.inl h)
        · exact .inl h
        · exact .inr (.inr h)
      · rintro (h | h | h)
        · exact .inr (.inl h)
        · exact .inl h
        · exact .inr (.inr h)
theorem mem_sortZ {x : Int} : ∀ {l : List Int}, x ∈ sortI l ↔ x ∈ l
  | [] => Iff.rfl
  | a :: r => by
    unfold sortI
    rw [mem_insZ, mem_sortZ, List.mem_cons]
theorem asc_insZ {a : Int} : ∀ {l : List Int}, l.Pairwise (· < ·) → a ∉ l → (insI a l).Pairwise (· < ·)
  | [], _, _ => by simp [insI]
  | b :: r, h, hn => by
    obtain ⟨h1, h2⟩ := List.pairwise_cons.mp h
    unfold insI
    split
    · rename_i z
      refine List.pairwise_cons.mpr ⟨fun x hx => ?_, h⟩
      have ne : a ≠ b := fun e => hn (e ▸ List.mem_cons_self)
      rcases List.mem_cons.mp hx with rfl | hx
      · omega
      · have := h1 x hx
        omega
    · refine List.pairwise_cons.mpr ⟨fun x hx => ?_, asc_insZ h2 fun z => hn (List.mem_cons_of_mem _ z)⟩
      rcases mem_insZ.mp hx with rfl | hx
      · omega
      · exact h1 x hx
theorem asc_sortZ : ∀ {l : List Int}, l.Nodup → (sortI l).Pairwise (· < ·)
  | [], _ => List.Pairwise.nil
  | a :: r, h => by
    obtain ⟨h1, h2⟩ := List.nodup_cons.mp h
    exact asc_insZ (asc_sortZ h2) fun z => h1 (mem_sortZ.mp z)
theorem asc_eqZ : ∀ {l m : List Int}, l.Pairwise (· < ·) → m.Pairwise (· < ·) → (∀ x, x ∈ l ↔ x ∈ m) → l = m := @ris_eq
theorem nodup_ascZ {l : List Int} (h : l.Pairwise (· < ·)) : l.Nodup := h.imp fun z => Int.ne_of_lt z
def firstsT (t : Tb) (q : Int) : List Int := sortI ((t.filter fun e => decide (e.1.1 = q)).map (·.1.2))
def rowT (t : Tb) (q : Int) : List (Int × Int) := (firstsT t q).map fun x => (x, midT t (q, x))
theorem mem_firstsT {t : Tb} {q x : Int} : x ∈ firstsT t q ↔ (q, x) ∈ t.map (·.1) := by
  unfold firstsT
  rw [mem_sortZ, List.mem_map, List.mem_map]
  constructor
  · rintro ⟨e, he, rfl⟩
    obtain ⟨h1, h2⟩ := List.mem_filter.mp he
    exact ⟨e, h1, Prod.ext (of_decide_eq_true h2) rfl⟩
  · rintro ⟨e, he, h⟩
    exact ⟨e, List.mem_filter.mpr ⟨he, decide_eq_true (by rw [h])⟩, by rw [h]⟩
theorem nodup_fir {t : Tb} (nd : (t.map (·.1)).Nodup) (q : Int) : ((t.filter fun e => decide (e.1.1 = q)).map (·.1.2)).Nodup := by
  induction t with
  | nil => exact List.nodup_nil
  | cons e r ih =>
    rw [List.map_cons, List.nodup_cons] at nd
    by_cases h : e.1.1 = q
    · rw [List.filter_cons_of_pos (p := fun e : Pt × Int => decide (e.1.1 = q)) (decide_eq_true h), List.map_cons, List.nodup_cons]
      refine ⟨fun z => nd.1 ?_, ih nd.2⟩
      obtain ⟨e', he, h'⟩ := List.mem_map.mp z
      obtain ⟨k1, k2⟩ := List.mem_filter.mp he
      exact List.mem_map.mpr ⟨e', k1, Prod.ext ((of_decide_eq_true k2).trans h.symm) h'⟩
    · rw [List.filter_cons_of_neg (p := fun e : Pt × Int => decide (e.1.1 = q)) (by rw [decide_eq_false h]; decide)]
      exact ih nd.2
theorem firsts_asc {t : Tb} (nd : (t.map (·.1)).Nodup) (q : Int) : (firstsT t q).Pairwise (· < ·) := asc_sortZ (nodup_fir nd q)
structure RowOk (l : List (Int × Int)) : Prop where
  asc : (l.map (·.1)).Pairwise (· < ·)
  sn : (l.map (·.2)).Nodup
  mem : ∀ x, x ∈ l.map (·.2) ↔ x ∈ l.map (·.1)
  ne : ∀ e ∈ l, e.1 ≠ e.2
theorem RowOk.srt {l} (h : RowOk l) : sortI (l.map (·.2)) = l.map (·.1) := asc_eqZ (asc_sortZ h.sn) h.asc fun x => by rw [mem_sortZ, h.mem]
theorem RowOk.srf {l} (h : RowOk l) : sortI (l.map (·.1)) = l.map (·.1) := asc_eqZ (asc_sortZ (nodup_ascZ h.asc)) h.asc fun x => mem_sortZ
theorem RowOk.nil : RowOk [] := ⟨List.Pairwise.nil, List.nodup_nil, fun _ => Iff.rfl, fun e he => by cases he⟩
theorem row_ok {t : Tb} {f g} (h : Rep t f) (b : Bj f g) (q : Int) : RowOk (rowT t q) := by
  have m2 : ∀ x, midT t (q, x) = (f (q, x)).2 := fun x => by unfold midT; rw [h.val]
  have e1 : (rowT t q).map (·.1) = firstsT t q := by
    unfold rowT
    rw [List.map_map]
    exact List.map_id _
  have e2 : (rowT t q).map (·.2) = (firstsT t q).map fun x => (f (q, x)).2 := by
    unfold rowT
    rw [List.map_map]
    exact List.map_congr_left fun x _ => m2 x
  refine ⟨by rw [e1]; exact firsts_asc h.nd q, ?_, fun x => ?_, fun e he z => ?_⟩
  · rw [e2]
    unfold List.Nodup
    rw [List.pairwise_map]
    refine (nodup_ascZ (firsts_asc h.nd q)).imp fun {a c} ne z => ne ?_
    have y : f (q, a) = f (q, c) := Prod.ext (by rw [b.q, b.q]) z
    have y2 := b.inj y
    injection y2
  · rw [e1, e2, List.mem_map]
    constructor
    · rintro ⟨y, hy, rfl⟩
      rw [mem_firstsT, h.mem] at hy ⊢
      intro z
      have e : ((q, (f (q, y)).2) : Pt) = f (q, y) := Prod.ext (by rw [b.q]) rfl
      rw [e] at z
      exact hy (b.inj z)
    · intro hx
      rw [mem_firstsT, h.mem] at hx
      refine ⟨(g (q, x)).2, ?_, ?_⟩
      · rw [mem_firstsT, h.mem]
        have e : ((q, (g (q, x)).2) : Pt) = g (q, x) := Prod.ext (by rw [b.qg]) rfl
        rw [e, b.fg]
        intro z
        refine hx ?_
        have z2 := congrArg f z
        rw [b.fg] at z2
        exact z2
      · have e : ((q, (g (q, x)).2) : Pt) = g (q, x) := Prod.ext (by rw [b.qg]) rfl
        rw [e, b.fg]
  · obtain ⟨x, hx, rfl⟩ := List.mem_map.mp he
    rw [mem_firstsT, h.mem] at hx
    refine hx (ext2 b ?_)
    rw [← m2]
    exact z.symm
def rowF (l : List (Int × Int)) (x : Int) : Int := (lookP l x).getD x
def rowG (l : List (Int × Int)) (x : Int) : Int := (lookP (l.map fun e => (e.2, e.1)) x).getD x
theorem RowOk.in1 {l} (h : RowOk l) {x y : Int} (z : (x, y) ∈ l) : rowF l x = y := by
  unfold rowF
  rw [lookP_of (nodup_ascZ h.asc) z]
  rfl
theorem RowOk.in2 {l} (h : RowOk l) {x y : Int} (z : (x, y) ∈ l) : rowG l y = x := by
  unfold rowG
  rw [lookP_of (t := l.map fun e => (e.2, e.1)) (by rw [List.map_map]; exact h.sn) (List.mem_map.mpr ⟨(x, y), z, rfl⟩)]
  rfl
theorem RowOk.out1 {l} {x : Int} (z : x ∉ l.map (·.1)) : rowF l x = x := by
  unfold rowF
  rw [lookP_none.mpr z]
  rfl
theorem RowOk.out2 {l} (h : RowOk l) {x : Int} (z : x ∉ l.map (·.1)) : rowG l x = x := by
  unfold rowG
  rw [lookP_none.mpr (by rw [List.map_map]; exact fun y => z ((h.mem x).mp y))]
  rfl
theorem RowOk.gf {l} (h : RowOk l) (x : Int) : rowG l (rowF l x) = x := by
  by_cases z : x ∈ l.map (·.1)
  · obtain ⟨e, he, rfl⟩ := List.mem_map.mp z
    rw [h.in1 (y := e.2) he, h.in2 (x := e.1) he]
  · rw [RowOk.out1 z, h.out2 z]
theorem RowOk.fg {l} (h : RowOk l) (x : Int) : rowF l (rowG l x) = x := by
  by_cases z : x ∈ l.map (·.1)
  · obtain ⟨e, he, rfl⟩ := List.mem_map.mp ((h.mem x).mpr z)
    rw [h.in2 (x := e.1) he, h.in1 (y := e.2) he]
  · rw [h.out2 z, RowOk.out1 z]
theorem RowOk.mv {l} (h : RowOk l) (x : Int) : rowF l x = x ↔ x ∉ l.map (·.1) := by
  constructor
  · intro e z
    obtain ⟨p, hp, rfl⟩ := List.mem_map.mp z
    rw [h.in1 (y := p.2) hp] at e
    exact h.ne p hp e.symm
  · exact RowOk.out1
structure R4 where
  a : List (Int × Int)
  b : List (Int × Int)
  c : List (Int × Int)
  d : List (Int × Int)
def R4.at (R : R4) (q : Int) : List (Int × Int) := if q = 0 then R.a else if q = 1 then R.b else if q = 2 then R.c else if q = 3 then R.d else []
structure R4.Ok (R : R4) : Prop where
  a : RowOk R.a
  b : RowOk R.b
  c : RowOk R.c
  d : RowOk R.d
theorem R4.Ok.at {R : R4} (h : R.Ok) (q : Int) : RowOk (R.at q) := by
  unfold R4.at
  split
  · exact h.a
  · split
    · exact h.b
    · split
      · exact h.c
      · split
        · exact h.d
        · exact .nil
def R4.f (R : R4) (p : Pt) : Pt := (p.1, rowF (R.at p.1) p.2)
def R4.g (R : R4) (p : Pt) : Pt := (p.1, rowG (R.at p.1) p.2)
theorem R4.at_out {R : R4} {q : Int} (h : ¬ (0 ≤ q ∧ q < 4)) : R.at q = [] := by
  unfold R4.at
  rw [if_neg (by omega), if_neg (by omega), if_neg (by omega), if_neg (by omega)]
theorem R4.Ok.bj {R : R4} (h : R.Ok) : Bj R.f R.g := by
  refine ⟨fun p => Prod.ext rfl ((h.at p.1).gf p.2), fun p => Prod.ext rfl ((h.at p.1).fg p.2), fun p => rfl, fun p z => ?_⟩
  refine Prod.ext rfl ?_
  show rowF (R.at p.1) p.2 = p.2
  rw [R4.at_out z]
  rfl
def ofI (q : Int) (l : List (Int × Int)) : List (Pt × Int) := l.map fun e => ((q, e.1), e.2)
def R4.is (R : R4) : List (Pt × Int) := ofI 0 R.a ++ (ofI 1 R.b ++ (ofI 2 R.c ++ ofI 3 R.d))
def ofT (R : R4) : Tb := putA (·.1) (·.2) R.is []
theorem R4.mem_is {R : R4} {i : Pt × Int} : i ∈ R.is ↔ (i.1.2, i.2) ∈ R.at i.1.1 := by
  obtain ⟨⟨q, x⟩, y⟩ := i
  have k : ∀ (q' : Int) (l : List (Int × Int)), ((q, x), y) ∈ ofI q' l ↔ q = q' ∧ (x, y) ∈ l := fun q' l => by
    unfold ofI
    rw [List.mem_map]
    constructor
    · rintro ⟨e, he, z⟩
      injection z with z1 z2
      injection z1 with z1 z3
      subst z1 z2 z3
      exact ⟨rfl, he⟩
    · rintro ⟨rfl, h⟩
      exact ⟨(x, y), h, rfl⟩
  unfold R4.is
  rw [List.mem_append, List.mem_append, List.mem_append, k, k, k, k]
  show _ ↔ (x, y) ∈ R.at q
  unfold R4.at
  constructor
  · rintro (⟨rfl, h⟩ | ⟨rfl, h⟩ | ⟨rfl, h⟩ | ⟨rfl, h⟩) <;> simpa using h
  · split
    · exact fun h => .inl ⟨‹_›, h⟩
    · split
      · exact fun h => .inr (.inl ⟨‹_›, h⟩)
      · split
        · exact fun h => .inr (.inr (.inl ⟨‹_›, h⟩))
        · split
          · exact fun h => .inr (.inr (.inr ⟨‹_›, h⟩))
          · intro h; cases h
theorem R4.Ok.rep {R : R4} (h : R.Ok) : Rep (ofT R) R.f := by
  refine rep_putA h.bj (fun i hi => ?_) (fun i hi z => ?_) fun p z => ?_
  · exact Prod.ext rfl ((h.at i.1.1).in1 (R4.mem_is.mp hi))
  · have y := (h.at i.1.1).in1 (R4.mem_is.mp hi)
    have z2 : rowF (R.at i.1.1) i.1.2 = i.1.2 := congrArg Prod.snd z
    exact (h.at i.1.1).ne _ (R4.mem_is.mp hi) (by dsimp only; rw [← y, z2])
  · have y : p.2 ∈ (R.at p.1).map (·.1) := Classical.byContradiction fun y => z (Prod.ext rfl (((h.at p.1).mv p.2).mpr y))
    obtain ⟨e, he, y⟩ := List.mem_map.mp y
    exact ⟨(p, e.2), R4.mem_is.mpr (by dsimp only; rw [← y]; exact he), rfl⟩
def listT (t : Tb) : R4 := ⟨rowT t 0, rowT t 1, rowT t 2, rowT t 3⟩
theorem list_ok {t : Tb} {f g} (h : Rep t f) (b : Bj f g) : (listT t).Ok := ⟨row_ok h b 0, row_ok h b 1, row_ok h b 2, row_ok h b 3⟩
theorem f_list {t : Tb} {f g} (h : Rep t f) (b : Bj f g) (p : Pt) : (listT t).f p = f p := by
  have key : ∀ q, (listT t).at q = if 0 ≤ q ∧ q < 4 then rowT t q else [] := fun q => by
    unfold R4.at listT
    dsimp only
    split
    · rename_i z; subst z; rfl
    · split
      · rename_i z; subst z; rfl
      · split
        · rename_i z; subst z; rfl
        · split
          · rename_i z; subst z; rfl
          · rw [if_neg (by omega)]
  unfold R4.f
  rw [key]
  split
  · refine Prod.ext (b.q p).symm ?_
    dsimp only
    by_cases y : p.2 ∈ firstsT t p.1
    · have z : (p.2, midT t p) ∈ rowT t p.1 := List.mem_map.mpr ⟨p.2, y, rfl⟩
      rw [(row_ok h b p.1).in1 z]
      unfold midT
      rw [h.val]
    · have e1 : (rowT t p.1).map (·.1) = firstsT t p.1 := by
        unfold rowT
        rw [List.map_map]
        exact List.map_id _
      rw [RowOk.out1 (by rw [e1]; exact y)]
      rw [mem_firstsT, h.mem, Classical.not_not] at y
      rw [show ((p.1, p.2) : Pt) = p from rfl] at y
      rw [y]
  · rename_i z
    rw [b.n p z]
    rfl
theorem rep_list {t : Tb} {f g} (h : Rep t f) (b : Bj f g) : Rep (ofT (listT t)) f := by
  have e : (listT t).f = f := funext (f_list h b)
  have k := (list_ok h b).rep
  rwa [e] at k
end Fo
end
section
set_option Elab.async false
set_option linter.all false
set_option maxRecDepth 100000
set_option maxHeartbeats 400000
namespace Fo
open PySem Gp
open L2 (Key)
def key (p : Pt) : List Key := [.inl p.1, .inl p.2]
def tbL (t : Tb) : List (List Key × D) := t.map fun e => (key e.1, .int e.2)
def tbD (t : Tb) : D := .dit (tbL t)
def ptD (p : Pt) : D := .tup [.int p.1, .int p.2]
theorem key_inj {p p' : Pt} (h : key p = key p') : p = p' := by
  unfold key at h
  injection h with h1 h2
  injection h1 with h1
  injection h2 with h2 _
  injection h2 with h2
  exact Prod.ext h1 h2
theorem look_tb (t : Tb) (p : Pt) : lookP (tbL t) (key p) = (lookP t p).map D.int := by
  unfold tbL
  induction t with
  | nil => rfl
  | cons e r ih =>
    rw [List.map_cons, lookP_cons, lookP_cons, ih]
    by_cases h : e.1 = p
    · rw [if_pos (by rw [h]), if_pos h]; rfl
    · rw [if_neg fun z => h (key_inj z), if_neg h]
theorem keys_tb (t : Tb) : (tbL t).map (·.1) = (t.map (·.1)).map key := by
  unfold tbL
  rw [List.map_map, List.map_map]
  rfl
theorem put_tb (t : Tb) (p : Pt) (v : Int) : putP (tbL t) (key p) (.int v) = tbL (putP t p v) := by
  unfold putP
  by_cases h : p ∈ t.map (·.1)
  · rw [if_pos (any_key.mpr (by rw [keys_tb]; exact List.mem_map_of_mem h)), if_pos (any_key.mpr h)]
    unfold tbL
    rw [List.map_map, List.map_map]
    refine List.map_congr_left fun e _ => ?_
    show (if key e.1 = key p then (key e.1, D.int v) else (key e.1, D.int e.2)) = _
    show _ = (key (if e.1 = p then (e.1, v) else e).1, D.int (if e.1 = p then (e.1, v) else e).2)
    by_cases z : e.1 = p
    · rw [if_pos (by rw [z]), if_pos z]
    · rw [if_neg fun y => z (key_inj y), if_neg z]
  · rw [if_neg fun z => h (by
      have y := any_key.mp z
      rw [keys_tb] at y
      obtain ⟨k, hk, e⟩ := List.mem_map.mp y
      exact key_inj e ▸ hk), if_neg fun z => h (any_key.mp z)]
    unfold tbL
    rw [List.map_append]
    rfl
theorem keysD_tb (t : Tb) : keysD kyT (tbL t) = some ((t.map (·.1)).map ptD) := by
  unfold tbL
  induction t with
  | nil => rfl
  | cons e r ih =>
    rw [List.map_cons, List.map_cons, List.map_cons]
    unfold keysD
    rw [ih]
    rfl
theorem len_tbL (t : Tb) : (tbL t).length = t.length := List.length_map _
theorem s_itK {t : Tb} (h : t.length ≤ sizeLine) : itKD (tbD t) = .ok ((t.map (·.1)).map ptD) := by
  unfold itKD tbD
  dsimp only
  rw [keysD_tb]
  dsimp only
  rw [if_pos (by rw [List.length_map, List.length_map]; exact h)]
theorem gdK_tb (t : Tb) (a b : Int) : gdK (tbD t) (.tup [.int a, .int b]) = some ((lookP t (a, b)).map D.int) := by
  show some (lookP (tbL t) (key (a, b))) = _
  rw [look_tb]
theorem s_getK {t : Tb} {a b : Int} (h : (a, b) ∈ t.map (·.1)) : getKD (tbD t) (.tup [.int a, .int b]) = .ok (.int (midT t (a, b))) := by
  unfold getKD midT
  rw [gdK_tb]
  cases e : lookP t (a, b) with
  | none => exact absurd h (lookP_none.mp e)
  | some v => rfl
theorem s_lenK (t : Tb) : lenKD (tbD t) = .ok (.int t.length) := by
  show Tr.ok (D.int _) = _
  rw [len_tbL]
theorem lc_ge {α : Type} {f : D → Tr (Option D)} {h g : α → D} : ∀ {xs : List α}, (∀ x ∈ xs, f (h x) = .ok (some (g x))) → lcF f (xs.map h) = .ok (xs.map g)
  | [], _ => rfl
  | x :: r, hf => by
    rw [List.map_cons, lcF_cons, hf x List.mem_cons_self, s_bd, lc_ge fun y hy => hf y (List.mem_cons_of_mem _ hy)]
    rfl
theorem dc_in {mk mv : D → D → Tr D} {q : Int} {k : Int → D} (h1 : ∀ x y : Int, mk (.int x) (.int y) = .ok (.tup [.int q, .int x])) (h2 : ∀ x y : Int, mv (.int x) (.int y) = .ok (.int y)) :
    ∀ (l : List (Int × Int)) (t : Tb), t.length + l.length ≤ sizeLine → dcIn mk mv (l.map ptD) (tbL t) = .ok (tbL (putA (·.1) (·.2) (ofI q l) t))
  | [], t, _ => rfl
  | e :: r, t, hl => by
    rw [List.map_cons]
    unfold dcIn ptD
    show bd (nox (mk (.int e.1) (.int e.2))) _ = _
    rw [h1, s_nox, s_bd]
    show bd (nox (mv (.int e.1) (.int e.2))) _ = _
    rw [h2, s_nox, s_bd]
    show (if (tbL t).length < sizeLine then dcIn mk mv (r.map ptD) (putP (tbL t) (key (q, e.1)) (.int e.2)) else .bad) = _
    rw [List.length_cons] at hl
    rw [if_pos (by rw [len_tbL]; omega), put_tb, dc_in (k := k) h1 h2 r _ (by have := len_put t (q, e.1) e.2; omega)]
    rfl
def mkD (t : Tb) : D := .obj "Marks" [("table", tbD t)]
def shD (r w : Int) (s : Pt) (t : Tb) : D := .obj "Shape" [("class_rest", .int r), ("way", .int w), ("shift_by", .tup [.int s.1, .int s.2]), ("marks_behind", mkD t)]
def fmD (r w : Int) (s : Pt) (t : Tb) : D := .obj "Form" [("shape_told", shD r w s t)]
def rwD (l : List (Int × Int)) : D := .tup (l.map ptD)
def r4D (R : R4) : D := .tup [rwD R.a, rwD R.b, rwD R.c, rwD R.d]
theorem f_table (t : Tb) : fldD "Marks" "table" (mkD t) = .ok (tbD t) := rfl
theorem f_way (r w : Int) (s : Pt) (t : Tb) : fldD "Shape" "way" (shD r w s t) = .ok (.int w) := rfl
theorem f_shift (r w : Int) (s : Pt) (t : Tb) : fldD "Shape" "shift_by" (shD r w s t) = .ok (.tup [.int s.1, .int s.2]) := rfl
theorem f_marks (r w : Int) (s : Pt) (t : Tb) : fldD "Shape" "marks_behind" (shD r w s t) = .ok (mkD t) := rfl
theorem f_shape (r w : Int) (s : Pt) (t : Tb) : fldD "Form" "shape_told" (fmD r w s t) = .ok (shD r w s t) := rfl
end Fo
end
section
set_option Elab.async false
set_option linter.all false
set_option maxRecDepth 100000
set_option maxHeartbeats 400000
namespace Gp
open PySem PyProof.Rows L2
structure Tp (d : D) (p : PyData) (n : Nat) : Prop where
  e : toPy d = some p
  cl : p.canLay0 = true
  dp : p.depth ≤ n
theorem Tp.int (i : Int) (n : Nat) : Tp (.int i) (.int i) n := ⟨by unfold toPy; rfl, rfl, Nat.zero_le _⟩
theorem Tp.mono {d p n m} (h : Tp d p n) (l : n ≤ m) : Tp d p m := ⟨h.e, h.cl, Nat.le_trans h.dp l⟩
structure TpL (ds : List D) (ps : List PyData) (n : Nat) : Prop where
  e : toPyL ds = some ps
  cl : PyData.canLayAll0 ps = true
  dp : PyData.depthAll ps ≤ n
theorem TpL.nil (n : Nat) : TpL [] [] n := ⟨by unfold toPyL; rfl, rfl, Nat.zero_le _⟩
theorem TpL.cons {d ds p ps n} (h : Tp d p n) (k : TpL ds ps n) : TpL (d :: ds) (p :: ps) n := by
  refine ⟨?_, ?_, ?_⟩
  · unfold toPyL
    rw [h.e, k.e]
  · show (p.canLay0 && PyData.canLayAll0 ps) = true
    rw [h.cl, k.cl]
    rfl
  · show Nat.max p.depth (PyData.depthAll ps) ≤ n
    exact Nat.max_le.mpr ⟨h.dp, k.dp⟩
theorem TpL.map {α : Type} {g : α → D} {h : α → PyData} {n : Nat} : ∀ {l : List α}, (∀ x ∈ l, Tp (g x) (h x) n) → TpL (l.map g) (l.map h) n
  | [], _ => .nil n
  | x :: l, k => .cons (k x List.mem_cons_self) (TpL.map fun y hy => k y (List.mem_cons_of_mem _ hy))
theorem Tp.tup {ds ps n} (h : TpL ds ps n) : Tp (.tup ds) (.tuple ps) (n + 1) := by
  refine ⟨?_, h.cl, Nat.succ_le_succ h.dp⟩
  unfold toPy
  rw [h.e]
  rfl
theorem Tp.lst {ds ps n} (h : TpL ds ps n) : Tp (.lst ds) (.list ps) (n + 1) := by
  refine ⟨?_, h.cl, Nat.succ_le_succ h.dp⟩
  unfold toPy
  rw [h.e]
  rfl
theorem Tp.eq {d p n} (h : Tp d p n) (hn : n ≤ 64) (hs : eqS d d = none) : eqD d d = .ok (.bl true) := by
  have sh : SeqAt.shaped p = true := by
    unfold SeqAt.shaped
    rw [h.cl, decide_eq_true (Nat.le_trans h.dp hn)]
    rfl
  have e2 : eqB d d = .ok true := by
    unfold eqB
    rw [hs]
    dsimp only
    rw [h.e]
    dsimp only
    rw [if_pos ⟨sh, sh⟩, SeqAt.eqv_refl p h.cl]
  unfold eqD
  rw [e2]
  rfl
open Fo
end Gp
end
section
set_option Elab.async false
set_option linter.all false
set_option maxRecDepth 100000
set_option maxHeartbeats 400000
namespace Fo
open PySem Gp
open L2 (Key)
structure Fx (F : Fr) (t : Tb) (B : Int) (M : Nat) : Prop where
  ok : F.Ok
  rep : Rep t F.f
  far : Far B F.f
  sb : -B ≤ F.s.2 ∧ F.s.2 ≤ B
  len : t.length ≤ M
theorem mulr3 {k r : Int} (hk : -1 ≤ k ∧ k ≤ 1) (hr : 0 ≤ r ∧ r < 4) : -3 ≤ k * r ∧ k * r ≤ 3 := by
  rcases (show k = -1 ∨ k = 0 ∨ k = 1 by omega) with rfl | rfl | rfl <;> omega
theorem lin_far {r w : Int} {s p : Pt} {B C : Int} (hr : 0 ≤ r ∧ r < 4) (hw : w = 1 ∨ w = -1) (hs : NN s) (hp : NN p) (hB : -B ≤ p.2 ∧ p.2 ≤ B) (hC : -C ≤ s.2 ∧ s.2 ≤ C) : -(B + C + 3) ≤ (lin r w s p).2 ∧ (lin r w s p).2 ≤ B + C + 3 := by
  unfold NN at hs hp
  unfold lin nrm
  dsimp only
  have k : -1 ≤ (w * p.1 + s.1) / 4 ∧ (w * p.1 + s.1) / 4 ≤ 1 := by rcases hw with rfl | rfl <;> omega
  have m := mulr3 k hr
  generalize (w * p.1 + s.1) / 4 * r = z at m
  rcases hw with rfl | rfl <;> omega
theorem bkN_far {r w : Int} {s : Pt} {B : Int} (hr : 0 ≤ r ∧ r < 4) (hw : w = 1 ∨ w = -1) (hs : NN s) (hB : -B ≤ s.2 ∧ s.2 ≤ B) : -(B + 3) ≤ (nrm r (bk w s)).2 ∧ (nrm r (bk w s)).2 ≤ B + 3 := by
  unfold NN at hs
  unfold nrm bk
  dsimp only
  have k : -1 ≤ -w * s.1 / 4 ∧ -w * s.1 / 4 ≤ 1 := by rcases hw with rfl | rfl <;> omega
  have m := mulr3 k hr
  generalize -w * s.1 / 4 * r = z at m
  rcases hw with rfl | rfl <;> omega
theorem far_cj {r w : Int} {s : Pt} {f g} {B C : Int} (b : Bj f g) (hr : 0 ≤ r ∧ r < 4) (hw : w = 1 ∨ w = -1) (hs : NN s) (hB : Far B f) (hC : -C ≤ s.2 ∧ s.2 ≤ C) : Far (B + C + 3) (cj r w s f) := fun p z => by
  by_cases y : NN p
  · have e : f (lin r w (bk w s) p) ≠ lin r w (bk w s) p := fun e => z (by unfold cj; rw [if_pos y, e, lin_bk hw y])
    have l := lin_far (p := lin r w (bk w s) p) hr hw hs (lin_N _ _ _ _) (hB _ e) hC
    rw [lin_bk hw y] at l
    exact l
  · exact absurd (if_neg y) z
theorem len_car (r w : Int) (s : Pt) (t : Tb) : (carT r w s t).length ≤ t.length := by
  have := len_putA (f := fun k : Pt => lin r w s k) (g := fun k => (lin r w s (k.1, (lookP t k).getD k.2)).2) (is := t.map (·.1)) (t := ([] : Tb))
  rw [List.length_map, List.length_nil] at this
  unfold carT
  omega
theorem len_bk (t : Tb) : (bkT t).length ≤ t.length := by
  have := len_putA (f := fun k : Pt => ((k.1, midT t k) : Pt)) (g := fun k => k.2) (is := t.map (·.1)) (t := ([] : Tb))
  rw [List.length_map, List.length_nil] at this
  unfold bkT
  omega
theorem Fx.inv {F : Fr} {t : Tb} {B : Int} {M : Nat} (h : Fx F t B M) (hB : 0 ≤ B) : Fx F.inv (carT F.r F.w (nrm F.r (bk F.w F.s)) (bkT t)) (2 * B + 6) M := by
  have b3 := bkN_far h.ok.r h.ok.w h.ok.s h.sb
  refine ⟨h.ok.inv, (h.rep.bk h.ok.b).car h.ok.b.symm h.ok.w, fun p z => ?_, ?_, ?_⟩
  · have fg : Far B F.g := fun p z => h.far p fun e => z (by rw [← e, h.ok.b.gf, e])
    have := far_cj h.ok.b.symm h.ok.r h.ok.w (nrm_N _ _) fg b3 p z
    omega
  · show -(2 * B + 6) ≤ (nrm F.r (bk F.w F.s)).2 ∧ (nrm F.r (bk F.w F.s)).2 ≤ _
    omega
  · have := len_car F.r F.w (nrm F.r (bk F.w F.s)) (bkT t)
    have := len_bk t
    have := h.len
    omega
theorem len_list (t : Tb) : (listT t).is.length ≤ t.length := by
  have e : ∀ q, (rowT t q).length = (t.filter fun e => decide (e.1.1 = q)).length := fun q => by
    unfold rowT firstsT
    rw [List.length_map]
    have : ∀ l : List Int, (sortI l).length = l.length := fun l => by
      induction l with
      | nil => rfl
      | cons a r ih =>
        show (insI a (sortI r)).length = _
        rw [List.length_cons, ← ih]
        generalize sortI r = m
        induction m with
        | nil => rfl
        | cons b m ih2 =>
          unfold insI
          split
          · rfl
          · rw [List.length_cons, ih2, List.length_cons]
    rw [this, List.length_map]
  have l : (listT t).is.length = (rowT t 0).length + ((rowT t 1).length + ((rowT t 2).length + (rowT t 3).length)) := by
    unfold R4.is ofI listT
    simp only [List.length_append, List.length_map]
  rw [l, e, e, e, e]
  induction t with
  | nil => exact Nat.le_refl _
  | cons a r ih =>
    simp only [List.filter_cons, List.length_cons]
    have key : ∀ q : Int, (if decide (a.1.1 = q) = true then a :: r.filter (fun e => decide (e.1.1 = q)) else r.filter fun e => decide (e.1.1 = q)).length = (r.filter fun e => decide (e.1.1 = q)).length + (if a.1.1 = q then 1 else 0) := fun q => by
      by_cases z : a.1.1 = q
      · rw [if_pos (decide_eq_true z), if_pos z]; rfl
      · rw [if_neg (by simp [z]), if_neg z]; rfl
    rw [key, key, key, key]
    have ih' := ih (fun q => by
      unfold rowT firstsT
      rw [List.length_map]
      have : ∀ l : List Int, (sortI l).length = l.length := fun l => by
        induction l with
        | nil => rfl
        | cons a r ih =>
          show (insI a (sortI r)).length = _
          rw [List.length_cons, ← ih]
          generalize sortI r = m
          induction m with
          | nil => rfl
          | cons b m ih2 =>
            unfold insI
            split
            · rfl
            · rw [List.length_cons, ih2, List.length_cons]
      rw [this, List.length_map]) (by
      unfold R4.is ofI listT
      simp only [List.length_append, List.length_map])
    rcases Classical.em (a.1.1 = 0) with z | z
    · rw [if_pos z, if_neg (by omega), if_neg (by omega), if_neg (by omega)]; omega
    · rw [if_neg z]
      rcases Classical.em (a.1.1 = 1) with z | z
      · rw [if_pos z, if_neg (by omega), if_neg (by omega)]; omega
      · rw [if_neg z]
        rcases Classical.em (a.1.1 = 2) with z | z
        · rw [if_pos z, if_neg (by omega)]; omega
        · rw [if_neg z]
          split <;> omega
theorem len_ofT (R : R4) : (ofT R).length ≤ R.is.length := by
  have := len_putA (f := fun i : Pt × Int => i.1) (g := fun i => i.2) (is := R.is) (t := ([] : Tb))
  rw [List.length_nil] at this
  unfold ofT
  omega
theorem Fx.list {F : Fr} {t : Tb} {B : Int} {M : Nat} (h : Fx F t B M) : Fx F (ofT (listT t)) B M :=
  ⟨h.ok, rep_list h.rep h.ok.b, h.far, h.sb, by have := len_ofT (listT t); have := len_list t; have := h.len; omega⟩
theorem Fx.mono {F : Fr} {t : Tb} {B C : Int} {M N : Nat} (h : Fx F t B M) (hB : B ≤ C) (hM : M ≤ N) : Fx F t C N :=
  ⟨h.ok, h.rep, fun p z => by have := h.far p z; omega, by have := h.sb; omega, by have := h.len; omega⟩
def iter (f : Pt → Pt) : Nat → Pt → Pt
  | 0, p => p
  | k + 1, p => f (iter f k p)
end Fo
end
section
set_option Elab.async false
set_option linter.all false
set_option maxRecDepth 100000
set_option maxHeartbeats 400000
namespace Fo
open PySem Gp
open L2 (Key)
abbrev Sb := List (Int × Int)
def dkL (t : Sb) : List (Key × D) := t.map fun e => (.inl e.1, .int e.2)
def dkD (t : Sb) : D := .dik (dkL t)
theorem inl_inj {a b : Int} (h : (Sum.inl a : Key) = .inl b) : a = b := by injection h
theorem look_dk (t : Sb) (p : Int) : lookP (dkL t) (.inl p) = (lookP t p).map D.int := by
  unfold dkL
  induction t with
  | nil => rfl
  | cons e r ih =>
    rw [List.map_cons, lookP_cons, lookP_cons, ih]
    by_cases h : e.1 = p
    · rw [if_pos (by rw [h]), if_pos h]; rfl
    · rw [if_neg fun z => h (inl_inj z), if_neg h]
theorem keys_dk (t : Sb) : (dkL t).map (·.1) = (t.map (·.1)).map Sum.inl := by
  unfold dkL
  rw [List.map_map, List.map_map]
  rfl
theorem put_dk (t : Sb) (p v : Int) : putP (dkL t) (.inl p) (.int v) = dkL (putP t p v) := by
  unfold putP
  by_cases h : p ∈ t.map (·.1)
  · rw [if_pos (any_key.mpr (by rw [keys_dk]; exact List.mem_map_of_mem h)), if_pos (any_key.mpr h)]
    unfold dkL
    rw [List.map_map, List.map_map]
    refine List.map_congr_left fun e _ => ?_
    show (if (Sum.inl e.1 : Key) = .inl p then ((Sum.inl e.1 : Key), D.int v) else (.inl e.1, D.int e.2)) = _
    show _ = ((Sum.inl (if e.1 = p then (e.1, v) else e).1 : Key), D.int (if e.1 = p then (e.1, v) else e).2)
    by_cases z : e.1 = p
    · rw [if_pos (by rw [z]), if_pos z]
    · rw [if_neg fun y => z (inl_inj y), if_neg z]
  · rw [if_neg fun z => h (by
      have y := any_key.mp z
      rw [keys_dk] at y
      obtain ⟨k, hk, e⟩ := List.mem_map.mp y
      exact inl_inj e ▸ hk), if_neg fun z => h (any_key.mp z)]
    unfold dkL
    rw [List.map_append]
    rfl
theorem len_dkL (t : Sb) : (dkL t).length = t.length := List.length_map _
theorem s_dkget2 (t : Sb) (a z : Int) : getK2D (dkD t) (.int a) (.int z) = .ok (.int ((lookP t a).getD z)) := by
  have e : gdK (dkD t) (.int a) = some ((lookP t a).map D.int) := by
    show some (lookP (dkL t) (.inl a)) = _
    rw [look_dk]
  unfold getK2D
  rw [e]
  cases lookP t a <;> rfl
theorem s_dkput {t : Sb} (h : t.length < sizeLine) (a v : Int) : dputD (dkD t) (.int a) (.int v) = some (dkD (putP t a v)) := by
  show (if (dkL t).length < sizeLine then some (D.dik (putP (dkL t) (.inl a) (.int v))) else none) = _
  rw [if_pos (by rw [len_dkL]; exact h), put_dk]
  rfl
theorem s_dklen (t : Sb) : lenKD (dkD t) = .ok (.int t.length) := by
  show Tr.ok (D.int _) = _
  rw [len_dkL]
theorem s_dkis (t : Sb) : isDk (dkD t) = true := rfl
theorem for_dk {L ι : Type} {f : D → D → Tr (Fl D D)} {h : ι → D} {k : ι → Int} {v : ι → Int} : ∀ {is : List ι} {t : Sb}, (∀ i ∈ is, ∀ t : Sb, t.length < sizeLine → f (h i) (dkD t) = .ok (.nx (dkD (putP t (k i) (v i))))) → t.length + is.length ≤ sizeLine →
    forF (L := L) f (is.map h) (dkD t) = .ok (.nx (dkD (putA k v is t)))
  | [], t, _, _ => rfl
  | i :: r, t, hf, hl => by
    rw [List.map_cons, forF_cons, hf i List.mem_cons_self t (by rw [List.length_cons] at hl; omega), s_bd]
    dsimp only
    rw [for_dk (fun j hj => hf j (List.mem_cons_of_mem _ hj)) (by have := len_put t (k i) (v i); rw [List.length_cons] at hl; omega)]
    rfl
theorem fin_dk {ι : Type} {f : D → D → Tr (Fl D D)} {h : ι → D} {k : ι → Int} {v : ι → Int} {is : List ι} {K : D → Tr (Fl Unit Empty)} {R : Tr D} (hf : ∀ i ∈ is, ∀ t : Sb, t.length < sizeLine → f (h i) (dkD t) = .ok (.nx (dkD (putP t (k i) (v i))))) (hl : is.length ≤ sizeLine)
    (hK : fin (K (dkD (putA k v is []))) = R) : fin (bdF (forF f (is.map h) (.dik [])) K) = R := by
  have e := for_dk (L := Empty) (t := []) hf (by show 0 + _ ≤ _; omega)
  rw [show dkD [] = D.dik [] from rfl] at e
  rw [e, s_bdF]
  exact hK
def evS (n : Int) (p : Pt) : Int := (p.1 * (n / 4) + p.2) % n
def markT (n : Int) (t : Tb) : Sb := putA (evS n) (fun k => evS n (k.1, midT t k)) (t.map (·.1)) []
def Usab (n : Int) (t : Tb) : Prop := (markT n t).length = t.length
instance (n : Int) (t : Tb) : Decidable (Usab n t) := by unfold Usab; infer_instance
def markS (n : Int) (t : Tb) (z : Int) : Int := (lookP (markT n t) z).getD z
def aheadS (F : Fr) (n u : Int) : Int := (F.w * u + F.s.1 * (n / 4) + F.s.2) % n
def seatS (F : Fr) (t : Tb) (n u : Int) : Int := markS n t (aheadS F n u)
def toS (F : Fr) (t : Tb) (n p : Int) : Int := placeZ n (seatS F t n (seatZ n p))
theorem evS_rng {n : Int} (h : 0 < n) (p : Pt) : 0 ≤ evS n p ∧ evS n p < n := ⟨Int.emod_nonneg _ (by omega), Int.emod_lt_of_pos _ h⟩
theorem putA_len {κ α ι : Type} [DecidableEq κ] {f : ι → κ} {g : ι → α} : ∀ {is : List ι} {t : List (κ × α)}, (putA f g is t).length = t.length + is.length → (∀ i ∈ is, f i ∉ t.map (·.1)) ∧ is.Pairwise fun i j => f i ≠ f j
  | [], t, _ => ⟨(fun _ h => nomatch h), List.Pairwise.nil⟩
  | i :: r, t, h => by
    have l1 := len_putA (f := f) (g := g) (is := r) (t := putP t (f i) (g i))
    have l2 := len_put t (f i) (g i)
    rw [List.length_cons] at h
    have h' : (putA f g r (putP t (f i) (g i))).length = t.length + (r.length + 1) := h
    have k := congrArg List.length (keys_put t (f i) (g i))
    rw [List.length_map] at k
    have ni : f i ∉ t.map (·.1) := fun z => by
      rw [if_pos z, List.length_map] at k
      omega
    rw [if_neg ni, List.length_append, List.length_map, List.length_singleton] at k
    obtain ⟨h1, h2⟩ := putA_len (f := f) (g := g) (is := r) (t := putP t (f i) (g i)) (by omega)
    have e := keys_put t (f i) (g i)
    rw [if_neg ni] at e
    refine ⟨fun j hj => ?_, List.pairwise_cons.mpr ⟨fun j hj z => ?_, h2⟩⟩
    · rcases List.mem_cons.mp hj with rfl | hj
      · exact ni
      · intro z
        exact h1 j hj (by rw [e]; exact List.mem_append_left _ z)
    · exact h1 j hj (by rw [e, ← z]; exact List.mem_append_right _ List.mem_cons_self)
theorem len_putA_of {κ α ι : Type} [DecidableEq κ] {f : ι → κ} {g : ι → α} : ∀ {is : List ι} {t : List (κ × α)}, (∀ i ∈ is, f i ∉ t.map (·.1)) → (is.Pairwise fun i j => f i ≠ f j) → (putA f g is t).length = t.length + is.length
  | [], t, _, _ => rfl
  | i :: r, t, h1, h2 => by
    obtain ⟨h3, h4⟩ := List.pairwise_cons.mp h2
    have e := keys_put t (f i) (g i)
    rw [if_neg (h1 i List.mem_cons_self)] at e
    have k := congrArg List.length e
    rw [List.length_map, List.length_append, List.length_map, List.length_singleton] at k
    show (putA f g r _).length = _
    rw [len_putA_of (is := r) (fun j hj z => ?_) h4, k, List.length_cons]
    · omega
    · rw [e] at z
      rcases List.mem_append.mp z with z | z
      · exact h1 j (List.mem_cons_of_mem _ hj) z
      · rw [List.mem_singleton] at z
        exact h3 j hj z.symm
theorem usab_iff {t : Tb} (nd : (t.map (·.1)).Nodup) {n : Int} : Usab n t ↔ ∀ k ∈ t.map (·.1), ∀ k' ∈ t.map (·.1), evS n k = evS n k' → k = k' := by
  unfold Usab markT
  constructor
  · intro h k hk k' hk' e
    have h2 := (putA_len (t := ([] : Sb)) (f := evS n) (g := fun k => evS n (k.1, midT t k)) (is := t.map (·.1)) (by rw [h, List.length_map]; exact (Nat.zero_add _).symm)).2
    have h3 : (t.map (·.1)).Pairwise fun i j : Pt => i ≠ j → evS n i ≠ evS n j := h2.imp (fun {a b} (z : evS n a ≠ evS n b) (_ : a ≠ b) => z)
    have h4 : (t.map (·.1)).Pairwise (flip fun i j : Pt => i ≠ j → evS n i ≠ evS n j) := h2.imp (fun {a b} (z : evS n a ≠ evS n b) (_ : b ≠ a) (e : evS n b = evS n a) => z e.symm)
    exact Classical.byContradiction fun ne => (List.Pairwise.forall_of_forall_of_flip (fun _ _ z => absurd rfl z) h3 h4 hk hk') ne e
  · intro h
    rw [len_putA_of (t := ([] : Sb)) (fun _ _ z => nomatch z) (List.Pairwise.imp_of_mem (R := fun i j => i ≠ j) (fun {a b} ha hb ne e => ne (h a ha b hb e)) nd), List.length_map]
    exact Nat.zero_add _
theorem markS_in {t : Tb} {f g} (h : Rep t f) (b : Bj f g) {n : Int} (u : Usab n t) {k : Pt} (hk : f k ≠ k) : markS n t (evS n k) = evS n (f k) := by
  have hk' := h.mem.mpr hk
  have e := (look_putA (t := ([] : Sb)) (f := evS n) (g := fun k => evS n (k.1, midT t k)) (is := t.map (·.1)) fun i hi j hj z => by rw [(usab_iff h.nd).mp u i hi j hj z]).1 k hk'
  unfold markS markT
  rw [e]
  show evS n (k.1, midT t k) = _
  unfold midT
  rw [h.val, fq b]
theorem markS_out {t : Tb} {f} (h : Rep t f) {n : Int} (u : Usab n t) {z : Int} (hz : ∀ k, f k ≠ k → evS n k ≠ z) : markS n t z = z := by
  have e := (look_putA (t := ([] : Sb)) (f := evS n) (g := fun k => evS n (k.1, midT t k)) (is := t.map (·.1)) fun i hi j hj z => by rw [(usab_iff h.nd).mp u i hi j hj z]).2 z fun i hi => hz i (h.mem.mp hi)
  unfold markS markT
  rw [e]
  rfl
end Fo
end
section
set_option Elab.async false
set_option linter.all false
set_option maxRecDepth 100000
set_option maxHeartbeats 400000
namespace Fo
open PySem Gp
theorem ahead_inj {F : Fr} (hw : F.w = 1 ∨ F.w = -1) {n x y : Int} (hx : 0 ≤ x ∧ x < n) (hy : 0 ≤ y ∧ y < n) (e : aheadS F n x = aheadS F n y) : x = y := by
  unfold aheadS at e
  have d := Int.emod_emod_of_dvd (F.w * x + F.s.1 * (n / 4) + F.s.2 - (F.w * y + F.s.1 * (n / 4) + F.s.2)) (Int.dvd_refl n)
  have z : (F.w * x + F.s.1 * (n / 4) + F.s.2 - (F.w * y + F.s.1 * (n / 4) + F.s.2)) % n = 0 := by
    rw [Int.sub_emod, e, Int.sub_self]
    rfl
  obtain ⟨k, hk⟩ := Int.dvd_of_emod_eq_zero z
  have hd : F.w * x - F.w * y = n * k := by omega
  have hb : -n < n * k ∧ n * k < n := by rcases hw with w | w <;> rw [w] at hd <;> omega
  have k0 : k = 0 := by
    rcases Int.lt_trichotomy k 0 with h | h | h
    · have : n * k ≤ n * (-1) := Int.mul_le_mul_of_nonneg_left (by omega) (by omega)
      omega
    · exact h
    · have : n * 1 ≤ n * k := Int.mul_le_mul_of_nonneg_left (by omega) (by omega)
      omega
  rw [k0] at hd
  rcases hw with w | w <;> rw [w] at hd <;> omega
theorem usab_far {t : Tb} {f g} (h : Rep t f) (b : Bj f g) {B n : Int} (hB : 0 ≤ B) (hf : Far B f) (hn : 16 * B + 64 ≤ n) : Usab n t := by
  refine (usab_iff h.nd).mpr fun k hk k' hk' e => ?_
  have kN := h.kN b hk
  have kN' := h.kN b hk'
  have f1 := hf k (h.mem.mp hk)
  have f2 := hf k' (h.mem.mp hk')
  unfold NN at kN kN'
  unfold evS at e
  have d : (k.1 * (n / 4) + k.2 - (k'.1 * (n / 4) + k'.2)) % n = 0 := by
    rw [Int.sub_emod, e, Int.sub_self]
    rfl
  obtain ⟨c, hc⟩ := Int.dvd_of_emod_eq_zero d
  have m : 4 * (n / 4) ≤ n ∧ n ≤ 4 * (n / 4) + 3 := by omega
  have e1 : k.1 * (n / 4) - k'.1 * (n / 4) = (k.1 - k'.1) * (n / 4) := (Int.sub_mul _ _ _).symm
  generalize n / 4 = M at *
  have c0 : c = 0 ∧ k.1 = k'.1 := by
    rcases (show k.1 - k'.1 = -3 ∨ k.1 - k'.1 = -2 ∨ k.1 - k'.1 = -1 ∨ k.1 - k'.1 = 0 ∨ k.1 - k'.1 = 1 ∨ k.1 - k'.1 = 2 ∨ k.1 - k'.1 = 3 by omega) with z | z | z | z | z | z | z
    all_goals
      rw [z] at e1
      rcases Int.lt_trichotomy c 0 with y | y | y
      · have : n * c ≤ n * (-1) := Int.mul_le_mul_of_nonneg_left (by omega) (by omega)
        omega
      · rw [y] at hc
        omega
      · have : n * 1 ≤ n * c := Int.mul_le_mul_of_nonneg_left (by omega) (by omega)
        omega
  rw [c0.1, c0.2] at hc
  exact Prod.ext c0.2 (by omega)
end Fo
end
section
set_option linter.all false
set_option maxRecDepth 100000
set_option maxHeartbeats 4000000
namespace Lw
open PySem Gp
abbrev N40 : Int := 10000000000000000000000000000000000000000
@[simp] theorem isi_int_int (i : Int) : isi_int (.int i) = some true := rfl
@[simp] theorem isi_bool_int (i : Int) : isi_bool (.int i) = some false := rfl
@[simp] theorem isi_bool_bl (i : Bool) : isi_bool (.bl i) = some true := rfl
theorem q_is_integer (i : Int) : F_is_integer (.int i) = .ok (.bl true) := by simp [F_is_integer]
theorem q_is_within (i a b : Int) : F_is_within (.int i) (.int a) (.int b) = .ok (.bl (decide (a ≤ i ∧ i ≤ b))) := by
  simp only [F_is_within, s_bd, s_ul1, q_is_integer, s_asB, if_true, s_le, s_finr]
  by_cases h : a ≤ i <;> simp [h]
theorem q_need_length {n : Int} (h : 1 ≤ n ∧ n ≤ N40) : F_need_length (.int n) = .ok .non := by
  simp [F_need_length, F_is_length, q_is_within, h]
theorem q_need_place {n p : Int} (h : 1 ≤ n ∧ n ≤ N40) (hp : 0 ≤ p ∧ p < n) : F_need_place (.int n) (.int p) = .ok .non := by
  have e : 0 ≤ p ∧ p ≤ n - 1 := by omega
  simp [F_need_place, q_need_length h, q_is_within, e]
theorem q_seat_at {n p : Int} (h : 1 ≤ n) : F_seat_at (.int n) (.int p) = .ok (.int (seatZ n p)) := by
  have e : 0 < n := by omega
  simp only [F_seat_at, s_bd, s_mod2, s_eq, s_asB, s_div2, s_add, s_sub, s_mod e]
  unfold seatZ
  by_cases hp : p % 2 = 0 <;> simp [hp]
theorem q_place_at {n s : Int} (h0 : 0 ≤ s) (h1 : s < n) : F_place_at (.int n) (.int s) = .ok (.int (placeZ n s)) := by
  simp only [F_place_at, s_bd, s_mul (i := 2) (.inl (by decide)), s_lt, s_asB, s_sub]
  unfold placeZ
  by_cases hp : 2 * s < n <;> simp [hp]
def spanD (h m o : Int) : D := .obj "Span" [("own_parts", .tup [.int h, .int m, .int o])]
@[simp] theorem isO_span {α : Type} (h m o : Int) (k : Fs → Tr α) : isO "Span" (spanD h m o) k = k [("own_parts", .tup [.int h, .int m, .int o])] := s_isO _ _ _
def stfs (f : Int) (sp : D) (sd : Str) (late : Bool) : Fs := [("side", .str sd), ("first", .int f), ("span", sp), ("late", .bl late)]
def strD (f : Int) (sp : D) (sd : Str) (late : Bool) : D := .obj "Stretch" (stfs f sp sd late)
@[simp] theorem isO_str {α : Type} (f : Int) (sp : D) (sd : Str) (late : Bool) (k : Fs → Tr α) : isO "Stretch" (strD f sp sd late) k = k (stfs f sp sd late) := s_isO _ _ _
end Lw
end
section
set_option linter.all false
set_option maxRecDepth 100000
set_option maxHeartbeats 400000
namespace Gp
open PySem
@[simp] theorem s_lent (ds : List D) : lenD (.tup ds) = .ok (.int ds.length) := rfl
@[simp] theorem s_tupl (ds : List D) : tupD (.lst ds) = .ok (.tup ds) := rfl
@[simp] theorem s_tupt (ds : List D) : tupD (.tup ds) = .ok (.tup ds) := rfl
theorem s_lsI (ns : List Int) (k : List Int → Tr D) : lsI (.lst (ns.map D.int)) k = k ns := by
  unfold lsI
  dsimp only
  rw [intsD_map]
theorem lc_ints {f : D → Tr (Option D)} {g : Int → Int} : ∀ {ps : List Int}, (∀ p ∈ ps, f (.int p) = .ok (some (.int (g p)))) → lcF f (ps.map D.int) = .ok ((ps.map g).map D.int)
  | [], _ => rfl
  | p :: r, h => by
    rw [List.map_cons, lcF_cons, h p List.mem_cons_self, s_bd, lc_ints fun x hx => h x (List.mem_cons_of_mem _ hx)]
    rfl
theorem lc_id {f : D → Tr (Option D)} {ps : List Int} (h : ∀ p ∈ ps, f (.int p) = .ok (some (.int p))) : lcF f (ps.map D.int) = .ok (ps.map D.int) := by
  have := lc_ints (g := id) h
  rwa [List.map_id] at this
theorem s_lenS {ns : List Int} (h : ns.length ≤ 4000) : lenSD (.lst (ns.map D.int)) = .ok (.int (setI ns).length) := by
  unfold lenSD
  rw [s_lsI, if_pos h]
theorem s_sortD {ns : List Int} : sortD (.lst (ns.map D.int)) = .ok (.lst ((sortI ns).map D.int)) := by
  unfold sortD
  rw [s_lsI]
end Gp
namespace Lw
open PySem Gp
theorem setI_id {l : List Int} (h : l.Pairwise (· < ·)) : setI l = l := ris_eq (ris_setI l) h fun x => mem_setI
end Lw
end
section
set_option linter.all false
set_option maxRecDepth 100000
set_option maxHeartbeats 400000
namespace Gp
open PySem
end Gp
namespace Lw
open PySem Gp
@[simp] theorem s_draw (m : Int) : F_draw .pen (.int m) = .draw m fun d => .ok (.int d) := rfl
theorem q_pick (ds : List D) : F__law_pick .pen (.lst ds) = .draw ds.length fun i => ixD (.lst ds) (.int i) := by
  simp [F__law_pick]
theorem b_pick {P : D → Prop} {ds : List D} (h0 : 0 < ds.length) (h1 : ds.length ≤ 100000) (h : ∀ d ∈ ds, P d) : Bo P (F__law_pick .pen (.lst ds)) 1 := by
  rw [q_pick]
  exact bo_pick h0 h1 h
end Lw
end
section
set_option Elab.async false
set_option linter.all false
set_option maxRecDepth 100000
set_option maxHeartbeats 400000
namespace Gp
open PySem
theorem mem_insI {a x : Int} : ∀ {l : List Int}, x ∈ insI a l ↔ x = a ∨ x ∈ l
  | [] => by simp [insI]
  | b :: r => by
    unfold insI
    split
    · simp
    · rw [List.mem_cons, mem_insI, List.mem_cons]
      constructor
      · rintro (h | h | h) <;> simp [h]
      · rintro (h | h | h) <;> simp [h]
theorem len_insI {a : Int} : ∀ {l : List Int}, (insI a l).length = l.length + 1
  | [] => rfl
  | b :: r => by
    unfold insI
    split
    · rfl
    · rw [List.length_cons, len_insI, List.length_cons]
theorem mem_sortI {x : Int} : ∀ {l : List Int}, x ∈ sortI l ↔ x ∈ l
  | [] => Iff.rfl
  | a :: r => by
    show x ∈ insI a (sortI r) ↔ _
    rw [mem_insI, mem_sortI, List.mem_cons]
theorem len_sortI : ∀ {l : List Int}, (sortI l).length = l.length
  | [] => rfl
  | a :: r => by
    show (insI a (sortI r)).length = _
    rw [len_insI, len_sortI, List.length_cons]
theorem insI_asc {a : Int} : ∀ {l : List Int}, l.Pairwise (· < ·) → a ∉ l → (insI a l).Pairwise (· < ·)
  | [], _, _ => by simp [insI]
  | b :: r, h, hn => by
    obtain ⟨h1, h2⟩ := List.pairwise_cons.mp h
    have hb : a ≠ b := fun e => hn (e ▸ List.mem_cons_self)
    unfold insI
    split
    · rename_i q
      refine List.pairwise_cons.mpr ⟨fun x hx => ?_, h⟩
      rcases List.mem_cons.mp hx with rfl | hx
      · omega
      · have := h1 x hx; omega
    · rename_i q
      refine List.pairwise_cons.mpr ⟨fun x hx => ?_, insI_asc h2 fun z => hn (List.mem_cons_of_mem _ z)⟩
      rcases mem_insI.mp hx with rfl | hx
      · omega
      · exact h1 x hx
theorem sortI_asc : ∀ {l : List Int}, l.Nodup → (sortI l).Pairwise (· < ·)
  | [], _ => .nil
  | a :: r, h => by
    obtain ⟨h1, h2⟩ := List.nodup_cons.mp h
    exact insI_asc (sortI_asc h2) fun z => h1 (mem_sortI.mp z)
end Gp
namespace Lw
open PySem Gp
end Lw
end
section
set_option Elab.async false
set_option linter.all false
set_option maxRecDepth 100000
set_option maxHeartbeats 400000
namespace Lw
open PySem Gp
theorem q_need_rest {n : Int} (h : 0 ≤ n ∧ n ≤ 3) : F_need_rest (.int n) = .ok .non := by
  simp [F_need_rest, F_is_rest, q_is_within, h]
theorem repr_int {i : Int} (h1 : -(10 ^ 100) < i) (h2 : i < 10 ^ 100) : ∃ x, reprD (.int i) = .ok (.str x) := (Sh.int h1 h2).repr (by decide) (by decide)
end Lw
end
section
set_option Elab.async false
set_option linter.all false
set_option maxRecDepth 100000
set_option maxHeartbeats 1000000
namespace Lw
open PySem Gp Fo
theorem len_q4 : lenD (.tup [.int 0, .int 1, .int 2, .int 3]) = .ok (.int 4) := rfl
theorem tup2 (a b : D) : (if [a, b].length ≤ sizeLine then Tr.ok (D.tup [a, b]) else .bad) = .ok (.tup [a, b]) := if_pos (by show 2 ≤ sizeLine; decide)
theorem s_mod4 (i : Int) : modD (.int i) (.int 4) = .ok (.int (i % 4)) := rfl
theorem s_div4 (i : Int) : divD (.int i) (.int 4) = .ok (.int (i / 4)) := rfl
theorem s_mull {i j : Int} (h : 0 ≤ i ∧ i < 4) : mulD (.int i) (.int j) = .ok (.int (i * j)) := s_mul (.inl (by omega))
theorem s_mulw {i j : Int} (h : i = 1 ∨ i = -1) : mulD (.int i) (.int j) = .ok (.int (i * j)) := s_mul (.inl (by omega))
theorem q_marks (t : D) : F_Marks___init__ [] t = .ok [("table", t)] := rfl
theorem un_pt {α : Type} (p : Pt) (k : D → D → Tr α) : un2 (ptD p) k = k (.int p.1) (.int p.2) := rfl
theorem ix0_pt (p : Pt) : ixD (ptD p) (.int 0) = .ok (.int p.1) := rfl
theorem ix1_pt (p : Pt) : ixD (ptD p) (.int 1) = .ok (.int p.2) := rfl
theorem pt_eq (a b : Int) : D.tup [.int a, .int b] = ptD (a, b) := rfl
end Lw
end
section
set_option Elab.async false
set_option linter.all false
set_option maxRecDepth 100000
set_option maxHeartbeats 1000000
namespace Lw
open PySem Gp Fo
theorem s_neI (a b : Int) : neD (.int a) (.int b) = .ok (.bl (!decide (a = b))) := rfl
theorem lc4 {f : D → Tr (Option D)} {a b c d x y z u : D} (h1 : f a = .ok (some x)) (h2 : f b = .ok (some y)) (h3 : f c = .ok (some z)) (h4 : f d = .ok (some u)) : lcF f [a, b, c, d] = .ok [x, y, z, u] := by
  rw [lcF_cons, h1, s_bd, lcF_cons, h2, s_bd, lcF_cons, h3, s_bd, lcF_cons, h4, s_bd]
  rfl
theorem len_in0 {R : R4} : R.is.length = R.a.length + (R.b.length + (R.c.length + R.d.length)) := by
  unfold R4.is ofI
  simp only [List.length_append, List.length_map]
theorem putA_app {κ α ι : Type} [DecidableEq κ] (f : ι → κ) (g : ι → α) : ∀ (l m : List ι) (t : List (κ × α)), putA f g (l ++ m) t = putA f g m (putA f g l t)
  | [], _, _ => rfl
  | i :: r, m, t => putA_app f g r m _
theorem len_ofI (q : Int) (l : List (Int × Int)) : (ofI q l).length = l.length := List.length_map _
theorem en4 (a b c d : D) : enD (.tup [a, b, c, d]) = .ok [.tup [.int 0, a], .tup [.int 1, b], .tup [.int 2, c], .tup [.int 3, d]] := rfl
theorem dc_cons {fi : D → D → Tr (List D)} {mk mv : D → D → D → D → Tr D} {q : Int} {d : D} {ds : List D} {ps ps' : KP} {rs : List D} (h1 : fi (.int q) d = .ok rs) (h2 : dcIn (mk (.int q) d) (mv (.int q) d) rs ps = .ok ps') : dcOut fi mk mv (.tup [.int q, d] :: ds) ps = dcOut fi mk mv ds ps' := by
  show bd (nox (fi (.int q) d)) _ = _
  rw [h1, s_nox, s_bd, h2, s_bd]
theorem dc_nil {fi : D → D → Tr (List D)} {mk mv : D → D → D → D → Tr D} {ps : KP} : dcOut fi mk mv [] ps = .ok ps := rfl
theorem q_of {R : R4} (h : R.is.length ≤ sizeLine) : F_Marks_of (r4D R) = .ok (mkD (ofT R)) := by
  have l := len_in0 (R := R)
  simp only [F_Marks_of, s_bd, s_ul1, r4D, en4]
  have l1 := len_putA (f := (fun i : Pt × Int => i.1)) (g := (fun i => i.2)) (is := ofI 0 R.a) (t := ([] : Tb))
  have l2 := len_putA (f := (fun i : Pt × Int => i.1)) (g := (fun i => i.2)) (is := ofI 1 R.b) (t := putA (·.1) (·.2) (ofI 0 R.a) ([] : Tb))
  have l3 := len_putA (f := (fun i : Pt × Int => i.1)) (g := (fun i => i.2)) (is := ofI 2 R.c) (t := putA (·.1) (·.2) (ofI 1 R.b) (putA (·.1) (·.2) (ofI 0 R.a) ([] : Tb)))
  rw [len_ofI, List.length_nil] at l1
  rw [len_ofI] at l2 l3
  rw [dc_cons (ps := []) (rs := R.a.map ptD) (ps' := tbL (putA (·.1) (·.2) (ofI 0 R.a) ([] : Tb))) rfl (dc_in (k := D.int) (fun x y => rfl) (fun x y => rfl) R.a [] (by show 0 + _ ≤ _; omega)),
    dc_cons (rs := R.b.map ptD) rfl (dc_in (k := D.int) (fun x y => rfl) (fun x y => rfl) R.b _ (by omega)),
    dc_cons (rs := R.c.map ptD) rfl (dc_in (k := D.int) (fun x y => rfl) (fun x y => rfl) R.c _ (by omega)),
    dc_cons (rs := R.d.map ptD) rfl (dc_in (k := D.int) (fun x y => rfl) (fun x y => rfl) R.d _ (by omega)), dc_nil]
  simp only [s_bd, s_ul1, q_marks, s_finr]
  rw [← putA_app, ← putA_app, ← putA_app]
  rfl
end Lw
end
section
set_option Elab.async false
set_option linter.all false
set_option maxRecDepth 100000
set_option maxHeartbeats 1000000
namespace Lw
open PySem Gp Fo
def B60 (i : Int) : Prop := 1 - 10 ^ 60 ≤ i ∧ i ≤ 10 ^ 60 - 1
instance (i : Int) : Decidable (B60 i) := by unfold B60; infer_instance
theorem q_is_offset (i : Int) : F_is_offset (.int i) = .ok (.bl (decide (B60 i))) := by
  simp only [F_is_offset, s_bd, s_ul3, s_sub, q_is_within, s_finr]
  rfl
theorem isi_tup (p : Pt) : isi_tuple (ptD p) = some true := rfl
theorem len_pt (p : Pt) : lenD (ptD p) = .ok (.int 2) := rfl
theorem itd_rw (l : List (Int × Int)) : itD (rwD l) = .ok (l.map ptD) := rfl
def RB (l : List (Int × Int)) : Prop := ∀ e ∈ l, B60 e.1 ∧ B60 e.2
theorem q_pair_row {l : List (Int × Int)} (h : RowOk l) (hb : RB l) : F_is_pair_row (rwD l) = .ok (.bl true) := by
  have e0 : isi_list_tuple (rwD l) = some true := rfl
  simp only [F_is_pair_row, s_bd, e0, s_opt, s_asB, Bool.not_true, Bool.false_eq_true, if_false, s_bdF, itd_rw]
  rw [forF_unit]
  · simp only [s_bdF, s_bd, s_finr]
  · intro d hd
    obtain ⟨e, he, rfl⟩ := List.mem_map.mp hd
    have b1 := decide_eq_true (hb e he).1
    have b2 := decide_eq_true (hb e he).2
    simp only [isi_tup, s_bd, s_opt, s_asB, Bool.not_true, Bool.false_eq_true, if_false, s_ul1, len_pt, s_neI, decide_true, ix0_pt, ix1_pt, q_is_offset, b1, b2, s_bdF, s_eq, decide_eq_false (h.ne e he)]
theorem q_mark_row {l : List (Int × Int)} (h : RowOk l) (hb : RB l) (hl : l.length ≤ 4000) : F_is_mark_row (rwD l) = .ok (.bl true) := by
  simp only [F_is_mark_row, s_bd, s_ul1, q_pair_row h hb, s_asB, Bool.not_true, Bool.false_eq_true, if_false, s_bdF, itd_rw]
  rw [lc_ge (h := ptD) (g := fun e : Int × Int => .int e.1)]
  · rw [lc_ge (h := ptD) (g := fun e : Int × Int => .int e.2)]
    · have e1 : l.map (fun e : Int × Int => D.int e.1) = (l.map (·.1)).map D.int := by rw [List.map_map]; rfl
      have e2 : l.map (fun e : Int × Int => D.int e.2) = (l.map (·.2)).map D.int := by rw [List.map_map]; rfl
      have e3 : setI (l.map (·.1)) = l.map (·.1) := setI_id h.asc
      simp only [s_bd, s_ul1, e1, e2, s_sortD, h.srt, h.srf, s_eq_ints, decide_true, s_asB, if_true, s_lenS (show (l.map (·.1)).length ≤ 4000 by rw [List.length_map]; exact hl), e3, s_len, s_eq, List.length_map, s_finr]
    · intro e he
      simp only [s_bd, ix1_pt, s_ul1, s_int, s_nox]
  · intro e he
    simp only [s_bd, ix0_pt, s_ul1, s_int, s_nox]
structure R4.Let (R : R4) : Prop where
  ok : R.Ok
  b : RB R.a ∧ RB R.b ∧ RB R.c ∧ RB R.d
  l : R.a.length ≤ 4000 ∧ R.b.length ≤ 4000 ∧ R.c.length ≤ 4000 ∧ R.d.length ≤ 4000
theorem R4.Let.is {R : R4} (h : R4.Let R) : R.is.length ≤ 16000 := by
  have := h.l
  rw [len_in0]
  omega
theorem all4 : allD (.lst [.bl true, .bl true, .bl true, .bl true]) = .ok (.bl true) := rfl
theorem q_are_marks {R : R4} (h : R4.Let R) : F_are_marks (r4D R) = .ok (.bl true) := by
  have e0 : isi_list_tuple (r4D R) = some true := rfl
  have e1 : lenD (r4D R) = .ok (.int 4) := rfl
  have e2 : itD (r4D R) = .ok [rwD R.a, rwD R.b, rwD R.c, rwD R.d] := rfl
  simp only [F_are_marks, s_bd, e0, s_opt, s_asB, if_true, s_ul1, e1, len_q4, s_eq, decide_true, e2]
  rw [lc4 (x := .bl true) (y := .bl true) (z := .bl true) (u := .bl true)]
  · simp only [s_bd, s_ul1, all4, s_finr]
  · simp only [s_bd, s_ul1, q_mark_row h.ok.a h.b.1 h.l.1, s_nox]
  · simp only [s_bd, s_ul1, q_mark_row h.ok.b h.b.2.1 h.l.2.1, s_nox]
  · simp only [s_bd, s_ul1, q_mark_row h.ok.c h.b.2.2.1 h.l.2.2.1, s_nox]
  · simp only [s_bd, s_ul1, q_mark_row h.ok.d h.b.2.2.2 h.l.2.2.2, s_nox]
theorem q_is_shift {s : Pt} (h : NN s) (hb : B60 s.2) : F_is_shift (ptD s) = .ok (.bl true) := by
  have z : decide (0 ≤ s.1 ∧ s.1 ≤ 4 - 1) = true := decide_eq_true ⟨h.1, by have := h.2; omega⟩
  simp only [F_is_shift, isi_tup, s_bd, s_opt, s_asB, Bool.not_true, Bool.false_eq_true, if_false, s_ul1, len_pt, s_neI, decide_true, s_bdF, ix0_pt, ix1_pt, len_q4, s_sub, s_ul3, q_is_within, z, if_true, q_is_offset, decide_eq_true hb, s_finr]
theorem q_shape (r w s m : D) : F_Shape___init__ [] r w s m = .ok [("class_rest", r), ("way", w), ("shift_by", s), ("marks_behind", m)] := rfl
theorem notin_w {w : Int} (h : w = 1 ∨ w = -1) : notinD (.int w) (.tup [.int 1, .int (-1)]) = .ok (.bl false) := by
  rcases h with rfl | rfl <;> rfl
theorem q_form {r w : Int} {s : Pt} {R : R4} (hr : 0 ≤ r ∧ r < 4) (hw : w = 1 ∨ w = -1) (hs : NN s) (hb : B60 s.2) (h : R4.Let R) : F_Form___init__ [] (.int r) (.int w) (ptD s) (r4D R) = .ok [("shape_told", shD r w s (ofT R))] := by
  have l : R.is.length ≤ sizeLine := Nat.le_trans (R4.Let.is h) (by decide)
  simp only [F_Form___init__, s_bd, s_ul1, q_need_rest (show 0 ≤ r ∧ r ≤ 3 by omega), q_is_integer, s_asB, Bool.not_true, Bool.false_eq_true, if_false, s_neg, tup2, notin_w hw, s_bdF, q_is_shift hs hb, q_are_marks h, q_of l, s_ul4, q_shape]
  rfl
theorem q_new {r w : Int} {s : Pt} {R : R4} (hr : 0 ≤ r ∧ r < 4) (hw : w = 1 ∨ w = -1) (hs : NN s) (hb : B60 s.2) (h : R4.Let R) :
    bd (F_Form___init__ [] (.int r) (.int w) (ptD s) (r4D R)) (fun fs => .ok (.obj "Form" fs)) = .ok (fmD r w s (ofT R)) := by
  rw [q_form hr hw hs hb h]
  rfl
def R0 : R4 := ⟨[], [], [], []⟩
theorem r40 : D.tup [.tup [], .tup [], .tup [], .tup []] = r4D R0 := rfl
theorem q_rest (r w : Int) (s : Pt) (t : Tb) : F_Form_rest (fmD r w s t) = .ok (.int r) := rfl
theorem isO_fm {α : Type} (r w : Int) (s : Pt) (t : Tb) (k : Fs → Tr α) : isO "Form" (fmD r w s t) k = k [("shape_told", shD r w s t)] := s_isO ..
theorem isO_sh {α : Type} (r w : Int) (s : Pt) (t : Tb) (k : Fs → Tr α) : isO "Shape" (shD r w s t) k = k [("class_rest", .int r), ("way", .int w), ("shift_by", .tup [.int s.1, .int s.2]), ("marks_behind", mkD t)] := s_isO ..
end Lw
end
section
set_option Elab.async false
set_option linter.all false
set_option maxRecDepth 100000
set_option maxHeartbeats 1000000
namespace Lw
open PySem Gp Fo
def Tel (d : D) (F : Fr) (B : Int) (M : Nat) : Prop := ∃ t, d = fmD F.r F.w F.s t ∧ Fx F t B M
def Tsh (d : D) (F : Fr) (B : Int) (M : Nat) : Prop := ∃ t, d = shD F.r F.w F.s t ∧ Fx F t B M
theorem Tel.sh {d : D} {F : Fr} {B : Int} {M : Nat} (h : Tel d F B M) : ∃ x, fldD "Form" "shape_told" d = .ok x ∧ Tsh x F B M := by
  obtain ⟨t, rfl, h⟩ := h
  exact ⟨_, rfl, t, rfl, h⟩
theorem Tel.isO {α : Type} {d : D} {F : Fr} {B : Int} {M : Nat} (h : Tel d F B M) (f : Str) (hf : (f == ("shape_told" : Str)) = false) (k : Tr α) : isO "Form" d (fun fs => if fs.lookup f = none then k else .bad) = k := by
  obtain ⟨t, rfl, h⟩ := h
  rw [isO_fm]
  refine if_pos ?_
  rw [List.lookup_cons, hf]
  rfl
theorem Tsh.isO {α : Type} {d : D} {F : Fr} {B : Int} {M : Nat} (h : Tsh d F B M) (f : Str) (h1 : (f == ("class_rest" : Str)) = false) (h2 : (f == ("way" : Str)) = false) (h3 : (f == ("shift_by" : Str)) = false) (h4 : (f == ("marks_behind" : Str)) = false) (k : Tr α) : Gp.isO "Shape" d (fun fs => if fs.lookup f = none then k else .bad) = k := by
  obtain ⟨t, rfl, h⟩ := h
  rw [isO_sh]
  refine if_pos ?_
  rw [List.lookup_cons, h1]
  dsimp only
  rw [List.lookup_cons, h2]
  dsimp only
  rw [List.lookup_cons, h3]
  dsimp only
  rw [List.lookup_cons, h4]
  rfl
theorem len_rgD (a : Int) (n : Nat) : (rgD a n).length = n := by
  unfold rgD
  simp
end Lw
end
section
set_option Elab.async false
set_option linter.all false
set_option maxRecDepth 100000
set_option maxHeartbeats 1000000
namespace Lw
open PySem Gp Fo
theorem q_ahead {F : Fr} (h : F.Ok) (t : Tb) {n : Int} (hn : 0 < n) (u : Int) : F_Shape_seat_ahead (shD F.r F.w F.s t) (.int n) (.int u) = .ok (.int (aheadS F n u)) := by
  have hs : 0 ≤ F.s.1 ∧ F.s.1 < 4 := h.s
  simp only [F_Shape_seat_ahead, s_bd, f_shift, pt_eq, un_pt, f_way, s_mulw h.w, s_div4, s_mull hs, s_add, s_mod hn, s_finr]
  rfl
theorem q_marked {F : Fr} {t : Tb} {B : Int} {M : Nat} (h : Fx F t B M) (hM : M ≤ 16000) {n : Int} (hn : 0 < n) : F_Shape_marked_seats (shD F.r F.w F.s t) (.int n) = .ok (if Usab n t then dkD (markT n t) else .non) := by
  have hl : t.length ≤ sizeLine := Nat.le_trans h.len (Nat.le_trans hM (by decide))
  simp only [F_Shape_marked_seats, s_bd, f_marks, f_table, s_itK hl]
  refine fin_dk (h := ptD) (k := evS n) (v := fun k => evS n (k.1, midT t k)) (fun i hi u hu => ?_) (by rw [List.length_map]; exact hl) ?_
  · have iN := h.rep.kN h.ok.b hi
    have iN' : 0 ≤ i.1 ∧ i.1 < 4 := iN
    simp only [un_pt, s_bd, s_div4, s_mull iN', tup2, s_getK hi, s_add, s_mod hn, s_dkput hu]
    rfl
  · rw [show putA (evS n) (fun k => evS n (k.1, midT t k)) (t.map (·.1)) [] = markT n t from rfl]
    simp only [s_bd, s_ul1, s_dklen, s_lenK, s_eq, s_asB]
    by_cases z : Usab n t
    · rw [if_pos z, decide_eq_true (by unfold Usab at z; rw [z])]
      rfl
    · rw [if_neg z, decide_eq_false fun e => z (by unfold Usab; omega)]
      rfl
theorem markS_rng {F : Fr} {t : Tb} {B : Int} {M : Nat} (h : Fx F t B M) {n : Int} (hn : 0 < n) (u : Usab n t) {z : Int} (hz : 0 ≤ z ∧ z < n) : 0 ≤ markS n t z ∧ markS n t z < n := by
  by_cases y : ∃ k, F.f k ≠ k ∧ evS n k = z
  · obtain ⟨k, hk, rfl⟩ := y
    rw [markS_in h.rep h.ok.b u hk]
    exact evS_rng hn _
  · rw [markS_out h.rep u fun k hk e => y ⟨k, hk, e⟩]
    exact hz
theorem ahead_rng (F : Fr) {n : Int} (hn : 0 < n) (u : Int) : 0 ≤ aheadS F n u ∧ aheadS F n u < n := ⟨Int.emod_nonneg _ (by omega), Int.emod_lt_of_pos _ hn⟩
theorem q_behind {F : Fr} {t : Tb} {B : Int} {M : Nat} (h : Fx F t B M) {n : Int} (hn : 1 ≤ n) (u : Usab n t) (p : Int) : F_place_behind (shD F.r F.w F.s t) (dkD (markT n t)) (.int n) (.int p) = .ok (.int (toS F t n p)) := by
  have r := markS_rng h (by omega) u (ahead_rng F (by omega) (seatZ n p))
  simp only [F_place_behind, s_bd, isO_sh]
  rw [if_pos (by rfl)]
  simp only [s_ul2, q_seat_at hn, s_bd, s_ul3, q_ahead h.ok t (show 0 < n by omega), s_dkis, if_true, s_dkget2]
  rw [show (lookP (markT n t) (aheadS F n (seatZ n p))).getD (aheadS F n (seatZ n p)) = markS n t (aheadS F n (seatZ n p)) from rfl, q_place_at r.1 r.2]
  rfl
theorem q_own {F : Fr} (t : Tb) {n : Int} (hn : 1 ≤ n ∧ n ≤ N40) (e : n % 4 = F.r) : F_Form_need_own_length (fmD F.r F.w F.s t) (.int n) = .ok .non := by
  simp only [F_Form_need_own_length, s_bd, s_ul1, q_need_length hn, s_mod4, isO_fm, q_rest, s_nox, s_neI, decide_eq_true e, s_asB, Bool.not_true, Bool.false_eq_true, if_false, s_bdF, s_finn]
theorem q_fto {F : Fr} {t : Tb} {B : Int} {M : Nat} (h : Fx F t B M) (hM : M ≤ 16000) {n p : Int} (hn : 1 ≤ n ∧ n ≤ N40) (e : n % 4 = F.r) (hp : 0 ≤ p ∧ p < n) (u : Usab n t) : F_Form_to (fmD F.r F.w F.s t) (.int n) (.int p) = .ok (.int (toS F t n p)) := by
  simp only [F_Form_to, s_bd, isO_fm]
  rw [if_pos (by rfl)]
  simp only [s_bd, s_ul2, q_own t hn e, q_need_place hn hp, f_shape, isO_sh]
  rw [if_pos (by rfl)]
  simp only [s_bd, s_ul2, q_marked h hM (show 0 < n by omega), if_pos u, s_asB, s_ul4, q_behind h hn.1 u]
  rw [show isN (dkD (markT n t)) = false from rfl]
  rfl
end Lw
end
section
set_option Elab.async false
set_option linter.all false
set_option maxRecDepth 100000
set_option maxHeartbeats 1000000
namespace Lw
open PySem Gp Fo
theorem set_nd : ∀ {l : List Int}, (setI l).length = l.length → l.Nodup
  | [], _ => List.nodup_nil
  | a :: r, h => by
    rw [List.length_cons] at h
    have l1 := len_setI r
    have ni : a ∉ r := fun z => by
      have e := len_of_mem (nodup_setI (a :: r)) (nodup_setI r) fun x => by
        rw [mem_setI, mem_setI, List.mem_cons]
        exact ⟨fun y => y.elim (fun e => e ▸ z) id, .inr⟩
      omega
    have l2 : (setI (a :: r)).length ≤ (setI r).length + 1 := len_insS
    exact List.nodup_cons.mpr ⟨ni, set_nd (by omega)⟩
theorem bx_lcI {f : D → Tr (Option D)} {P : Int → Prop} {c : Nat} : ∀ {ds : List D}, (∀ d ∈ ds, Bx (fun o => ∃ i, o = some (.int i) ∧ P i) (f d) c) → Bx (fun r => ∃ ns : List Int, r = ns.map D.int ∧ ns.length = ds.length ∧ ∀ i ∈ ns, P i) (lcF f ds) (c * ds.length)
  | [], _ => bx_ok ⟨[], rfl, rfl, fun i h => nomatch h⟩
  | d :: r, h => by
    rw [lcF_cons]
    refine bx_thenX (b := c * r.length) (h d List.mem_cons_self) (fun o ho => ?_) (by rw [List.length_cons, Nat.mul_succ]; omega)
    obtain ⟨i, rfl, hi⟩ := ho
    refine bx_thenX (b := 0) (bx_lcI fun x hx => h x (List.mem_cons_of_mem _ hx)) (fun ys hy => bx_ok ?_) (Nat.le_refl _)
    obtain ⟨ns, rfl, hl, hn⟩ := hy
    exact ⟨i :: ns, rfl, by rw [List.length_cons, hl, List.length_cons], fun j hj => (List.mem_cons.mp hj).elim (fun e => e ▸ hi) (hn j)⟩
theorem rgD_mem {d : D} {n : Nat} (h : d ∈ rgD 0 n) : ∃ i : Nat, d = .int i ∧ i < n := by
  unfold rgD at h
  obtain ⟨i, hi, rfl⟩ := List.mem_map.mp h
  exact ⟨i, by rw [Int.zero_add], List.mem_range.mp hi⟩
def Rw3 (d : D) : Prop := ∃ l, d = rwD l ∧ RowOk l ∧ l.length ≤ 3 ∧ ∀ e ∈ l, (-100 ≤ e.1 ∧ e.1 ≤ 100) ∧ -100 ≤ e.2 ∧ e.2 ≤ 100
theorem row2 {a b : Int} (h : a < b) : RowOk [(a, b), (b, a)] := by
  refine ⟨by simpa using h, by simp; omega, fun x => by simp [or_comm], fun e he => ?_⟩
  rcases List.mem_cons.mp he with rfl | he
  · dsimp only; omega
  · rw [List.mem_singleton] at he
    subst he
    dsimp only
    omega
theorem row3 {a b c : Int} (h : a < b) (h2 : b < c) : RowOk [(a, b), (b, c), (c, a)] := by
  refine ⟨by simp; omega, by simp; omega, fun x => ?_, fun e he => ?_⟩
  · simp only [List.map_cons, List.map_nil, List.mem_cons, List.not_mem_nil, or_false]
    constructor
    · rintro (h | h | h) <;> simp [h]
    · rintro (h | h | h) <;> simp [h]
  · simp only [List.mem_cons, List.not_mem_nil, or_false] at he
    rcases he with rfl | rfl | rfl <;> dsimp only <;> omega
theorem row3' {a b c : Int} (h : a < b) (h2 : b < c) : RowOk [(a, c), (b, a), (c, b)] := by
  refine ⟨by simp; omega, by simp; omega, fun x => ?_, fun e he => ?_⟩
  · simp only [List.map_cons, List.map_nil, List.mem_cons, List.not_mem_nil, or_false]
    constructor
    · rintro (h | h | h) <;> simp [h]
    · rintro (h | h | h) <;> simp [h]
  · simp only [List.mem_cons, List.not_mem_nil, or_false] at he
    rcases he with rfl | rfl | rfl <;> dsimp only <;> omega
theorem bx_nox {α : Type} {P : α → Prop} {m : Tr α} {n : Nat} (h : Bx P m n) : Bx P (nox m) n := bx_of (bo_nox h.bo)
theorem rgm {m : Nat} (h : m ≤ 3) : rg1 (.int m) = .ok (rgD 0 m) := by
  unfold rg1
  dsimp only
  rw [if_pos (by omega)]
  rfl
theorem lc_int (ns : List Int) : lcF (fun d => nox (bdk (intD d) fun y => Tr.ok (some y))) (ns.map D.int) = .ok (ns.map D.int) := lc_id fun p hp => rfl
theorem bk_F {W' : Type} {X : Tr (Fl W' Empty)} {K : W' → Tr (Fl Unit Empty)} {u : Dp K} {P : W' → Prop} {Q : D → Prop} {n : Nat} (h : ∃ v, X = .ok (.nx v) ∧ P v) (hk : ∀ v, P v → Bx Q (fin (K v)) n) : Bx Q (fin (bdFk X K u)) n := by
  obtain ⟨v, rfl, hv⟩ := h
  exact hk v hv
theorem b_row : Bx Rw3 (F__law_row .pen) 10 := by
  rw [lz__law_row]
  unfold L__law_row
  simp -implicitDefEqProofs -dsimp only [implies_true, isS_str, s_bdx, s_bd, ↓k_bd, k_bd, k_bdx, k_bdd, s_nox, k_bdF, k_bdFr, k_bdFx, s_finr, s_finn, s_find, k_bdFd, ↓reduceIte, s_asB, s_ul1, s_ul2, s_ul3, s_sub, s_add, s_neg, s_eq, s_len, s_itl, s_itt, s_opt, List.length_cons, List.length_nil, decide_true, decide_false, Bool.not_true, Bool.not_false, if_true, if_false, Bool.false_eq_true, Nat.reduceAdd, z0L, z1L, z2L, z3L, z4L, z5L, z6L, z7L, z8L, z9L, z10L, z11L, z12L, z0l, z1l, z2l, z3l, z4l, l_asI, l_finx, l_finIx, l_finI, l_un2, l_un3, l_un4, l_ne, l_nes, l_neb, l_gt, l_ix0, l_ix1, l_ix2, l_ix3, l_it0, l_it1, l_it2, l_it3, s_draw, k_bdbd, k_bdFbd, k_finbd]
  refine bk_thenB (a := 1) (b := 9) (b_pick (P := fun d => ∃ m : Nat, d = .int m ∧ (m = 0 ∨ m = 2 ∨ m = 3)) (by decide) (by decide) ?_) (fun d hd => ?_) (by omega)
  · intro d hd
    simp only [List.mem_cons, List.not_mem_nil, or_false] at hd
    rcases hd with rfl | rfl | rfl | rfl | rfl | rfl
    · exact ⟨0, rfl, .inl rfl⟩
    · exact ⟨0, rfl, .inl rfl⟩
    · exact ⟨0, rfl, .inl rfl⟩
    · exact ⟨2, rfl, .inr (.inl rfl)⟩
    · exact ⟨2, rfl, .inr (.inl rfl)⟩
    · exact ⟨3, rfl, .inr (.inr rfl)⟩
  obtain ⟨m, rfl, hm⟩ := hd
  have hm3 : m ≤ 3 := by omega
  simp -implicitDefEqProofs -dsimp only [implies_true, isS_str, s_bdx, s_bd, ↓k_bd, k_bd, k_bdx, k_bdd, s_nox, k_bdF, k_bdFr, k_bdFx, s_finr, s_finn, s_find, k_bdFd, ↓reduceIte, s_asB, s_ul1, s_ul2, s_ul3, s_sub, s_add, s_neg, s_eq, s_len, s_itl, s_itt, s_opt, List.length_cons, List.length_nil, decide_true, decide_false, Bool.not_true, Bool.not_false, if_true, if_false, Bool.false_eq_true, Nat.reduceAdd, z0L, z1L, z2L, z3L, z4L, z5L, z6L, z7L, z8L, z9L, z10L, z11L, z12L, z0l, z1l, z2l, z3l, z4l, l_asI, l_finx, l_finIx, l_finI, l_un2, l_un3, l_un4, l_ne, l_nes, l_neb, l_gt, l_ix0, l_ix1, l_ix2, l_ix3, l_it0, l_it1, l_it2, l_it3, s_draw, k_bdbd, k_bdFbd, k_finbd, k_bdd]
  refine bx_draw (by decide) (by decide) fun b b0 b1 => ?_
  simp -implicitDefEqProofs -dsimp only [implies_true, isS_str, s_bdx, s_bd, ↓k_bd, k_bd, k_bdx, k_bdd, s_nox, k_bdF, k_bdFr, k_bdFx, s_finr, s_finn, s_find, k_bdFd, ↓reduceIte, s_asB, s_ul1, s_ul2, s_ul3, s_sub, s_add, s_neg, s_eq, s_len, s_itl, s_itt, s_opt, List.length_cons, List.length_nil, decide_true, decide_false, Bool.not_true, Bool.not_false, if_true, if_false, Bool.false_eq_true, Nat.reduceAdd, z0L, z1L, z2L, z3L, z4L, z5L, z6L, z7L, z8L, z9L, z10L, z11L, z12L, z0l, z1l, z2l, z3l, z4l, l_asI, l_finx, l_finIx, l_finI, l_un2, l_un3, l_un4, l_ne, l_nes, l_neb, l_gt, l_ix0, l_ix1, l_ix2, l_ix3, l_it0, l_it1, l_it2, l_it3, s_draw, k_bdbd, k_bdFbd, k_finbd, rgm hm3]
  refine bk_then (a := 0) (b := 8) (P := fun r => ∃ ns : List Int, r = ns.map D.int ∧ ns.length = m ∧ ∀ i ∈ ns, -6 ≤ i ∧ i ≤ 5) ?_ (fun r hr => ?_) (by omega)
  · refine bx_le (bx_lcI (P := fun i => -6 ≤ i ∧ i ≤ 5) (c := 0) fun d hd => ?_) (by omega) |>.bo.mono (fun r hr => ?_) (Nat.le_refl _) |> bx_of
    · obtain ⟨i, rfl, hi⟩ := rgD_mem hd
      simp -implicitDefEqProofs -dsimp only [implies_true, isS_str, s_bdx, s_bd, ↓k_bd, k_bd, k_bdx, k_bdd, s_nox, k_bdF, k_bdFr, k_bdFx, s_finr, s_finn, s_find, k_bdFd, ↓reduceIte, s_asB, s_ul1, s_ul2, s_ul3, s_sub, s_add, s_neg, s_eq, s_len, s_itl, s_itt, s_opt, List.length_cons, List.length_nil, decide_true, decide_false, Bool.not_true, Bool.not_false, if_true, if_false, Bool.false_eq_true, Nat.reduceAdd, z0L, z1L, z2L, z3L, z4L, z5L, z6L, z7L, z8L, z9L, z10L, z11L, z12L, z0l, z1l, z2l, z3l, z4l, l_asI, l_finx, l_finIx, l_finI, l_un2, l_un3, l_un4, l_ne, l_nes, l_neb, l_gt, l_ix0, l_ix1, l_ix2, l_ix3, l_it0, l_it1, l_it2, l_it3, s_draw, k_bdbd, k_bdFbd, k_finbd]
      exact bx_ok ⟨_, rfl, by omega⟩
    · rw [len_rgD] at hr
      exact hr
  obtain ⟨ns, rfl, hl, hn⟩ := hr
  simp -implicitDefEqProofs -dsimp only [implies_true, isS_str, s_bdx, s_bd, ↓k_bd, k_bd, k_bdx, k_bdd, s_nox, k_bdF, k_bdFr, k_bdFx, s_finr, s_finn, s_find, k_bdFd, ↓reduceIte, s_asB, s_ul1, s_ul2, s_ul3, s_sub, s_add, s_neg, s_eq, s_len, s_itl, s_itt, s_opt, List.length_cons, List.length_nil, decide_true, decide_false, Bool.not_true, Bool.not_false, if_true, if_false, Bool.false_eq_true, Nat.reduceAdd, z0L, z1L, z2L, z3L, z4L, z5L, z6L, z7L, z8L, z9L, z10L, z11L, z12L, z0l, z1l, z2l, z3l, z4l, l_asI, l_finx, l_finIx, l_finI, l_un2, l_un3, l_un4, l_ne, l_nes, l_neb, l_gt, l_ix0, l_ix1, l_ix2, l_ix3, l_it0, l_it1, l_it2, l_it3, s_draw, k_bdbd, k_bdFbd, k_finbd]
  refine bk_then (a := 6) (b := 2) (P := fun r => ∃ ns : List Int, r = ns.map D.int ∧ ns.length = m ∧ ∀ i ∈ ns, -6 ≤ i ∧ i ≤ 25) ?_ (fun r hr => ?_) (by omega)
  · refine (bx_le (bx_lcI (P := fun i => -6 ≤ i ∧ i ≤ 25) (c := 2) fun d hd => ?_) (by rw [List.length_map, hl]; omega)).bo.mono (fun r hr => ?_) (Nat.le_refl _) |> bx_of
    · obtain ⟨i, hi, rfl⟩ := List.mem_map.mp hd
      have bi := hn i hi
      refine bx_nox ?_
      refine bk_thenB (a := 1) (b := 1) (b_pick (P := fun d => ∃ m : Int, d = .int m ∧ 0 ≤ m ∧ m ≤ 20) (by decide) (by decide) ?_) (fun d hd => ?_) (by omega)
      · intro d hd
        simp only [List.mem_cons, List.not_mem_nil, or_false] at hd
        rcases hd with rfl | rfl | rfl
        · exact ⟨0, rfl, by decide, by decide⟩
        · exact ⟨10, rfl, by decide, by decide⟩
        · exact ⟨20, rfl, by decide, by decide⟩
      obtain ⟨k, rfl, k0, k1⟩ := hd
      simp -implicitDefEqProofs -dsimp only [implies_true, isS_str, s_bdx, s_bd, ↓k_bd, k_bd, k_bdx, k_bdd, s_nox, k_bdF, k_bdFr, k_bdFx, s_finr, s_finn, s_find, k_bdFd, ↓reduceIte, s_asB, s_ul1, s_ul2, s_ul3, s_sub, s_add, s_neg, s_eq, s_len, s_itl, s_itt, s_opt, List.length_cons, List.length_nil, decide_true, decide_false, Bool.not_true, Bool.not_false, if_true, if_false, Bool.false_eq_true, Nat.reduceAdd, z0L, z1L, z2L, z3L, z4L, z5L, z6L, z7L, z8L, z9L, z10L, z11L, z12L, z0l, z1l, z2l, z3l, z4l, l_asI, l_finx, l_finIx, l_finI, l_un2, l_un3, l_un4, l_ne, l_nes, l_neb, l_gt, l_ix0, l_ix1, l_ix2, l_ix3, l_it0, l_it1, l_it2, l_it3, s_draw, k_bdbd, k_bdFbd, k_finbd, k_bdd]
      refine bx_draw (by decide) (by decide) fun c c0 c1 => ?_
      simp -implicitDefEqProofs -dsimp only [implies_true, isS_str, s_bdx, s_bd, ↓k_bd, k_bd, k_bdx, k_bdd, s_nox, k_bdF, k_bdFr, k_bdFx, s_finr, s_finn, s_find, k_bdFd, ↓reduceIte, s_asB, s_ul1, s_ul2, s_ul3, s_sub, s_add, s_neg, s_eq, s_len, s_itl, s_itt, s_opt, List.length_cons, List.length_nil, decide_true, decide_false, Bool.not_true, Bool.not_false, if_true, if_false, Bool.false_eq_true, Nat.reduceAdd, z0L, z1L, z2L, z3L, z4L, z5L, z6L, z7L, z8L, z9L, z10L, z11L, z12L, z0l, z1l, z2l, z3l, z4l, l_asI, l_finx, l_finIx, l_finI, l_un2, l_un3, l_un4, l_ne, l_nes, l_neb, l_gt, l_ix0, l_ix1, l_ix2, l_ix3, l_it0, l_it1, l_it2, l_it3, s_draw, k_bdbd, k_bdFbd, k_finbd, s_intb, s_mul (i := k) (show (-(2 ^ 64) < k ∧ k < 2 ^ 64) ∨ _ from .inl (by omega))]
      refine bx_ok ⟨_, rfl, ?_⟩
      by_cases z : c = 0
      · rw [decide_eq_true z]
        simp only [if_true, Int.mul_one]
        omega
      · rw [decide_eq_false z]
        simp only [Bool.false_eq_true, if_false, Int.mul_zero]
        omega
    · rw [List.length_map, hl] at hr
      exact hr
  obtain ⟨ms, rfl, hl2, hn2⟩ := hr
  simp -implicitDefEqProofs -dsimp only [implies_true, isS_str, s_bdx, s_bd, ↓k_bd, k_bd, k_bdx, k_bdd, s_nox, k_bdF, k_bdFr, k_bdFx, s_finr, s_finn, s_find, k_bdFd, ↓reduceIte, s_asB, s_ul1, s_ul2, s_ul3, s_sub, s_add, s_neg, s_eq, s_len, s_itl, s_itt, s_opt, List.length_cons, List.length_nil, decide_true, decide_false, Bool.not_true, Bool.not_false, if_true, if_false, Bool.false_eq_true, Nat.reduceAdd, z0L, z1L, z2L, z3L, z4L, z5L, z6L, z7L, z8L, z9L, z10L, z11L, z12L, z0l, z1l, z2l, z3l, z4l, l_asI, l_finx, l_finIx, l_finI, l_un2, l_un3, l_un4, l_ne, l_nes, l_neb, l_gt, l_ix0, l_ix1, l_ix2, l_ix3, l_it0, l_it1, l_it2, l_it3, s_draw, k_bdbd, k_bdFbd, k_finbd, lc_int, s_lenS (show ms.length ≤ 4000 by omega), s_lt]
  refine bk_F (P := fun v => ∃ ns : List Int, v = .lst (ns.map D.int) ∧ ns.length = m ∧ ns.Nodup ∧ ∀ i ∈ ns, -6 ≤ i ∧ i ≤ 25) ?_ (fun v hv => ?_)
  · by_cases z : ((setI ms).length : Int) < m
    · simp -implicitDefEqProofs -dsimp only [implies_true, isS_str, s_bdx, s_bd, ↓k_bd, k_bd, k_bdx, k_bdd, s_nox, k_bdF, k_bdFr, k_bdFx, s_finr, s_finn, s_find, k_bdFd, ↓reduceIte, s_asB, s_ul1, s_ul2, s_ul3, s_sub, s_add, s_neg, s_eq, s_len, s_itl, s_itt, s_opt, List.length_cons, List.length_nil, decide_true, decide_false, Bool.not_true, Bool.not_false, if_true, if_false, Bool.false_eq_true, Nat.reduceAdd, z0L, z1L, z2L, z3L, z4L, z5L, z6L, z7L, z8L, z9L, z10L, z11L, z12L, z0l, z1l, z2l, z3l, z4l, l_asI, l_finx, l_finIx, l_finI, l_un2, l_un3, l_un4, l_ne, l_nes, l_neb, l_gt, l_ix0, l_ix1, l_ix2, l_ix3, l_it0, l_it1, l_it2, l_it3, s_draw, k_bdbd, k_bdFbd, k_finbd, decide_eq_true z, rgm hm3]
      obtain ⟨ks, ek, hk, hkn⟩ : ∃ ks : List Int, lcF (fun l_k67 => nox (bdk (mulD (.int 2) l_k67) fun a => bdk (addD (.int (b - 6)) a) fun y => .ok (some y))) (rgD 0 m) = .ok (ks.map D.int) ∧ ks.length = m ∧ ks.Nodup ∧ ∀ i ∈ ks, -6 ≤ i ∧ i ≤ 25 := by
        refine ⟨(List.range m).map fun i : Nat => b - 6 + 2 * (i : Int), ?_, by simp, ?_, fun i hi => ?_⟩
        · unfold rgD
          rw [lc_ge (h := fun i : Nat => D.int (0 + (i : Nat))) (g := fun i : Nat => .int (b - 6 + 2 * (i : Int))), List.map_map]
          · rfl
          · intro i hi
            rw [Int.zero_add, s_mul (.inl (by decide))]
            rfl
        · unfold List.Nodup
          rw [List.pairwise_map]
          exact List.nodup_range.imp fun {a c} ne e => ne (by omega)
        · obtain ⟨j, hj, rfl⟩ := List.mem_map.mp hi
          have := List.mem_range.mp hj
          omega
      simp -implicitDefEqProofs -dsimp only [implies_true, isS_str, s_bdx, s_bd, ↓k_bd, k_bd, k_bdx, k_bdd, s_nox, k_bdF, k_bdFr, k_bdFx, s_finr, s_finn, s_find, k_bdFd, ↓reduceIte, s_asB, s_ul1, s_ul2, s_ul3, s_sub, s_add, s_neg, s_eq, s_len, s_itl, s_itt, s_opt, List.length_cons, List.length_nil, decide_true, decide_false, Bool.not_true, Bool.not_false, if_true, if_false, Bool.false_eq_true, Nat.reduceAdd, z0L, z1L, z2L, z3L, z4L, z5L, z6L, z7L, z8L, z9L, z10L, z11L, z12L, z0l, z1l, z2l, z3l, z4l, l_asI, l_finx, l_finIx, l_finI, l_un2, l_un3, l_un4, l_ne, l_nes, l_neb, l_gt, l_ix0, l_ix1, l_ix2, l_ix3, l_it0, l_it1, l_it2, l_it3, s_draw, k_bdbd, k_bdFbd, k_finbd, ek]
      exact ⟨_, rfl, ks, rfl, hk, hkn⟩
    · simp -implicitDefEqProofs -dsimp only [implies_true, isS_str, s_bdx, s_bd, ↓k_bd, k_bd, k_bdx, k_bdd, s_nox, k_bdF, k_bdFr, k_bdFx, s_finr, s_finn, s_find, k_bdFd, ↓reduceIte, s_asB, s_ul1, s_ul2, s_ul3, s_sub, s_add, s_neg, s_eq, s_len, s_itl, s_itt, s_opt, List.length_cons, List.length_nil, decide_true, decide_false, Bool.not_true, Bool.not_false, if_true, if_false, Bool.false_eq_true, Nat.reduceAdd, z0L, z1L, z2L, z3L, z4L, z5L, z6L, z7L, z8L, z9L, z10L, z11L, z12L, z0l, z1l, z2l, z3l, z4l, l_asI, l_finx, l_finIx, l_finI, l_un2, l_un3, l_un4, l_ne, l_nes, l_neb, l_gt, l_ix0, l_ix1, l_ix2, l_ix3, l_it0, l_it1, l_it2, l_it3, s_draw, k_bdbd, k_bdFbd, k_finbd, decide_eq_false z]
      have l1 := len_setI ms
      exact ⟨_, rfl, ms, rfl, hl2, set_nd (by omega), hn2⟩
  obtain ⟨xs, rfl, hx, hxn, hxb⟩ := hv
  have asc := sortI_asc hxn
  have lx : (sortI xs).length = m := by rw [len_sortI, hx]
  have bx : ∀ i ∈ sortI xs, -6 ≤ i ∧ i ≤ 25 := fun i hi => hxb i (mem_sortI.mp hi)
  simp -implicitDefEqProofs -dsimp only [implies_true, isS_str, s_bdx, s_bd, ↓k_bd, k_bd, k_bdx, k_bdd, s_nox, k_bdF, k_bdFr, k_bdFx, s_finr, s_finn, s_find, k_bdFd, ↓reduceIte, s_asB, s_ul1, s_ul2, s_ul3, s_sub, s_add, s_neg, s_eq, s_len, s_itl, s_itt, s_opt, List.length_cons, List.length_nil, decide_true, decide_false, Bool.not_true, Bool.not_false, if_true, if_false, Bool.false_eq_true, Nat.reduceAdd, z0L, z1L, z2L, z3L, z4L, z5L, z6L, z7L, z8L, z9L, z10L, z11L, z12L, z0l, z1l, z2l, z3l, z4l, l_asI, l_finx, l_finIx, l_finI, l_un2, l_un3, l_un4, l_ne, l_nes, l_neb, l_gt, l_ix0, l_ix1, l_ix2, l_ix3, l_it0, l_it1, l_it2, l_it3, s_draw, k_bdbd, k_bdFbd, k_finbd, lc_int, s_sortD]
  generalize sortI xs = ys at asc lx bx
  have t1 : tupD (.lst []) = .ok (.tup []) := rfl
  have r2 : rgD 0 2 = [.int 0, .int 1] := rfl
  have r3 : rgD 0 3 = [.int 0, .int 1, .int 2] := rfl
  have m2 : ∀ i : Int, modD (.int i) (.int 2) = .ok (.int (i % 2)) := fun i => rfl
  have m3 : ∀ i : Int, modD (.int i) (.int 3) = .ok (.int (i % 3)) := fun i => rfl
  have g2 : rg1 (.int 2) = .ok (rgD 0 2) := rgm (m := 2) (by omega)
  have g3 : rg1 (.int 3) = .ok (rgD 0 3) := rgm (m := 3) (by omega)
  have tt : ∀ ds : List D, tupD (.lst ds) = .ok (.tup ds) := fun _ => rfl
  rcases hm with rfl | rfl | rfl
  · cases ys with
    | nil =>
      have r0 : rgD 0 0 = [] := rfl
      have d0 : decide (1 < ((0 : Nat) : Int)) = false := rfl
      simp -implicitDefEqProofs -dsimp only [implies_true, isS_str, s_bdx, s_bd, ↓k_bd, k_bd, k_bdx, k_bdd, s_nox, k_bdF, k_bdFr, k_bdFx, s_finr, s_finn, s_find, k_bdFd, ↓reduceIte, s_asB, s_ul1, s_ul2, s_ul3, s_sub, s_add, s_neg, s_eq, s_len, s_itl, s_itt, s_opt, List.length_cons, List.length_nil, decide_true, decide_false, Bool.not_true, Bool.not_false, if_true, if_false, Bool.false_eq_true, Nat.reduceAdd, z0L, z1L, z2L, z3L, z4L, z5L, z6L, z7L, z8L, z9L, z10L, z11L, z12L, z0l, z1l, z2l, z3l, z4l, l_asI, l_finx, l_finIx, l_finI, l_un2, l_un3, l_un4, l_ne, l_nes, l_neb, l_gt, l_ix0, l_ix1, l_ix2, l_ix3, l_it0, l_it1, l_it2, l_it3, s_draw, k_bdbd, k_bdFbd, k_finbd, d0, rgm (show 0 ≤ 3 by omega), r0, lcF_nil, tt]
      exact bx_ok ⟨[], rfl, .nil, by decide, fun e h => nomatch h⟩
    | cons _ _ => cases lx
  · match ys, lx with
    | [x, y], _ =>
      have xy : x < y := (List.pairwise_cons.mp asc).1 y List.mem_cons_self
      have d0 : decide (1 < ((2 : Nat) : Int)) = true := rfl
      have hb := bx x List.mem_cons_self
      have hc := bx y (List.mem_cons_of_mem _ List.mem_cons_self)
      simp -implicitDefEqProofs -dsimp only [implies_true, isS_str, s_bdx, s_bd, ↓k_bd, k_bd, k_bdx, k_bdd, s_nox, k_bdF, k_bdFr, k_bdFx, s_finr, s_finn, s_find, k_bdFd, ↓reduceIte, s_asB, s_ul1, s_ul2, s_ul3, s_sub, s_add, s_neg, s_eq, s_len, s_itl, s_itt, s_opt, List.length_cons, List.length_nil, decide_true, decide_false, Bool.not_true, Bool.not_false, if_true, if_false, Bool.false_eq_true, Nat.reduceAdd, z0L, z1L, z2L, z3L, z4L, z5L, z6L, z7L, z8L, z9L, z10L, z11L, z12L, z0l, z1l, z2l, z3l, z4l, l_asI, l_finx, l_finIx, l_finI, l_un2, l_un3, l_un4, l_ne, l_nes, l_neb, l_gt, l_ix0, l_ix1, l_ix2, l_ix3, l_it0, l_it1, l_it2, l_it3, s_draw, k_bdbd, k_bdFbd, k_finbd, d0, k_bdd]
      refine bx_draw (by decide) (by decide) fun d d0 d1 => ?_
      obtain rfl : d = 0 := by omega
      simp -implicitDefEqProofs -dsimp only [implies_true, isS_str, s_bdx, s_bd, ↓k_bd, k_bd, k_bdx, k_bdd, s_nox, k_bdF, k_bdFr, k_bdFx, s_finr, s_finn, s_find, k_bdFd, ↓reduceIte, s_asB, s_ul1, s_ul2, s_ul3, s_sub, s_add, s_neg, s_eq, s_len, s_itl, s_itt, s_opt, List.length_cons, List.length_nil, decide_true, decide_false, Bool.not_true, Bool.not_false, if_true, if_false, Bool.false_eq_true, Nat.reduceAdd, z0L, z1L, z2L, z3L, z4L, z5L, z6L, z7L, z8L, z9L, z10L, z11L, z12L, z0l, z1l, z2l, z3l, z4l, l_asI, l_finx, l_finIx, l_finI, l_un2, l_un3, l_un4, l_ne, l_nes, l_neb, l_gt, l_ix0, l_ix1, l_ix2, l_ix3, l_it0, l_it1, l_it2, l_it3, s_draw, k_bdbd, k_bdFbd, k_finbd, g2, r2, lcF_cons, lcF_nil, tt, List.map_cons, List.map_nil, m2, show ((2 : Nat) : Int) = 2 from rfl, Int.reduceAdd, Int.reduceMod]
      refine bx_ok ⟨[(x, y), (y, x)], rfl, row2 xy, Nat.le_succ 2, fun e he => ?_⟩
      simp only [List.mem_cons, List.not_mem_nil, or_false] at he
      rcases he with rfl | rfl <;> dsimp only <;> omega
  · match ys, lx with
    | [x, y, z], _ =>
      obtain ⟨p1, p2⟩ := List.pairwise_cons.mp asc
      have xy : x < y := p1 y List.mem_cons_self
      have yz : y < z := (List.pairwise_cons.mp p2).1 z List.mem_cons_self
      have d0 : decide (1 < ((3 : Nat) : Int)) = true := rfl
      have hb := bx x List.mem_cons_self
      have hc := bx y (List.mem_cons_of_mem _ List.mem_cons_self)
      have hd := bx z (List.mem_cons_of_mem _ (List.mem_cons_of_mem _ List.mem_cons_self))
      simp -implicitDefEqProofs -dsimp only [implies_true, isS_str, s_bdx, s_bd, ↓k_bd, k_bd, k_bdx, k_bdd, s_nox, k_bdF, k_bdFr, k_bdFx, s_finr, s_finn, s_find, k_bdFd, ↓reduceIte, s_asB, s_ul1, s_ul2, s_ul3, s_sub, s_add, s_neg, s_eq, s_len, s_itl, s_itt, s_opt, List.length_cons, List.length_nil, decide_true, decide_false, Bool.not_true, Bool.not_false, if_true, if_false, Bool.false_eq_true, Nat.reduceAdd, z0L, z1L, z2L, z3L, z4L, z5L, z6L, z7L, z8L, z9L, z10L, z11L, z12L, z0l, z1l, z2l, z3l, z4l, l_asI, l_finx, l_finIx, l_finI, l_un2, l_un3, l_un4, l_ne, l_nes, l_neb, l_gt, l_ix0, l_ix1, l_ix2, l_ix3, l_it0, l_it1, l_it2, l_it3, s_draw, k_bdbd, k_bdFbd, k_finbd, d0, k_bdd]
      refine bx_draw (by decide) (by decide) fun d d0 d1 => ?_
      obtain rfl | rfl : d = 0 ∨ d = 1 := by omega
      · simp -implicitDefEqProofs -dsimp only [implies_true, isS_str, s_bdx, s_bd, ↓k_bd, k_bd, k_bdx, k_bdd, s_nox, k_bdF, k_bdFr, k_bdFx, s_finr, s_finn, s_find, k_bdFd, ↓reduceIte, s_asB, s_ul1, s_ul2, s_ul3, s_sub, s_add, s_neg, s_eq, s_len, s_itl, s_itt, s_opt, List.length_cons, List.length_nil, decide_true, decide_false, Bool.not_true, Bool.not_false, if_true, if_false, Bool.false_eq_true, Nat.reduceAdd, z0L, z1L, z2L, z3L, z4L, z5L, z6L, z7L, z8L, z9L, z10L, z11L, z12L, z0l, z1l, z2l, z3l, z4l, l_asI, l_finx, l_finIx, l_finI, l_un2, l_un3, l_un4, l_ne, l_nes, l_neb, l_gt, l_ix0, l_ix1, l_ix2, l_ix3, l_it0, l_it1, l_it2, l_it3, s_draw, k_bdbd, k_bdFbd, k_finbd, g3, r3, lcF_cons, lcF_nil, tt, List.map_cons, List.map_nil, m3, show ((3 : Nat) : Int) = 3 from rfl, Int.reduceAdd, Int.reduceMod]
        refine bx_ok ⟨[(x, y), (y, z), (z, x)], rfl, row3 xy yz, Nat.le_refl 3, fun e he => ?_⟩
        simp only [List.mem_cons, List.not_mem_nil, or_false] at he
        rcases he with rfl | rfl | rfl <;> dsimp only <;> omega
      · simp -implicitDefEqProofs -dsimp only [implies_true, isS_str, s_bdx, s_bd, ↓k_bd, k_bd, k_bdx, k_bdd, s_nox, k_bdF, k_bdFr, k_bdFx, s_finr, s_finn, s_find, k_bdFd, ↓reduceIte, s_asB, s_ul1, s_ul2, s_ul3, s_sub, s_add, s_neg, s_eq, s_len, s_itl, s_itt, s_opt, List.length_cons, List.length_nil, decide_true, decide_false, Bool.not_true, Bool.not_false, if_true, if_false, Bool.false_eq_true, Nat.reduceAdd, z0L, z1L, z2L, z3L, z4L, z5L, z6L, z7L, z8L, z9L, z10L, z11L, z12L, z0l, z1l, z2l, z3l, z4l, l_asI, l_finx, l_finIx, l_finI, l_un2, l_un3, l_un4, l_ne, l_nes, l_neb, l_gt, l_ix0, l_ix1, l_ix2, l_ix3, l_it0, l_it1, l_it2, l_it3, s_draw, k_bdbd, k_bdFbd, k_finbd, g3, r3, lcF_cons, lcF_nil, tt, List.map_cons, List.map_nil, m3, show ((3 : Nat) : Int) = 3 from rfl, Int.reduceAdd, Int.reduceMod]
        refine bx_ok ⟨[(x, z), (y, x), (z, y)], rfl, row3' xy yz, Nat.le_refl 3, fun e he => ?_⟩
        simp only [List.mem_cons, List.not_mem_nil, or_false] at he
        rcases he with rfl | rfl | rfl <;> dsimp only <;> omega
end Lw
end
section
set_option Elab.async false
set_option linter.all false
set_option maxRecDepth 100000
set_option maxHeartbeats 1000000
namespace Lw
open PySem Gp Fo
structure Pts where
  r : Int
  w : Int
  s : Pt
  R : R4
structure Pts.Ok (P : Pts) : Prop where
  r : 0 ≤ P.r ∧ P.r < 4
  w : P.w = 1 ∨ P.w = -1
  s : NN P.s
  sb : -6 ≤ P.s.2 ∧ P.s.2 ≤ 6
  R : P.R.Ok
  l : P.R.a.length ≤ 3 ∧ P.R.b.length ≤ 3 ∧ P.R.c.length ≤ 3 ∧ P.R.d.length ≤ 3
  b : ∀ q, ∀ e ∈ P.R.at q, (-100 ≤ e.1 ∧ e.1 ≤ 100) ∧ -100 ≤ e.2 ∧ e.2 ≤ 100
def Pts.d (P : Pts) : D := .tup [.int P.r, .int P.w, ptD P.s, r4D P.R]
theorem bx_lcD {f : D → Tr (Option D)} {P : D → Prop} {c : Nat} : ∀ {ds : List D}, (∀ d ∈ ds, Bx (fun o => ∃ i, o = some i ∧ P i) (f d) c) → Bx (fun r => r.length = ds.length ∧ ∀ i ∈ r, P i) (lcF f ds) (c * ds.length)
  | [], _ => bx_ok ⟨rfl, fun i h => nomatch h⟩
  | d :: r, h => by
    rw [lcF_cons]
    refine bx_thenX (b := c * r.length) (h d List.mem_cons_self) (fun o ho => ?_) (by rw [List.length_cons, Nat.mul_succ]; omega)
    obtain ⟨i, rfl, hi⟩ := ho
    refine bx_thenX (b := 0) (bx_lcD fun x hx => h x (List.mem_cons_of_mem _ hx)) (fun ys hy => bx_ok ?_) (Nat.le_refl _)
    obtain ⟨hl, hn⟩ := hy
    exact ⟨by rw [List.length_cons, hl, List.length_cons], fun j hj => (List.mem_cons.mp hj).elim (fun e => e ▸ hi) (hn j)⟩
theorem b_parts : Bx (fun d => ∃ P : Pts, d = P.d ∧ P.Ok) (F__law_parts .pen) 50 := by
  rw [lz__law_parts]
  unfold L__law_parts
  simp -implicitDefEqProofs -dsimp only [implies_true, isS_str, s_bdx, s_bd, ↓k_bd, k_bd, k_bdx, k_bdd, s_nox, k_bdF, k_bdFr, k_bdFx, s_finr, s_finn, s_find, k_bdFd, ↓reduceIte, s_asB, s_ul1, s_ul2, s_ul3, s_sub, s_add, s_neg, s_eq, s_len, s_itl, s_itt, s_opt, List.length_cons, List.length_nil, decide_true, decide_false, Bool.not_true, Bool.not_false, if_true, if_false, Bool.false_eq_true, Nat.reduceAdd, z0L, z1L, z2L, z3L, z4L, z5L, z6L, z7L, z8L, z9L, z10L, z11L, z12L, z0l, z1l, z2l, z3l, z4l, l_asI, l_finx, l_finIx, l_finI, l_un2, l_un3, l_un4, l_ne, l_nes, l_neb, l_gt, l_ix0, l_ix1, l_ix2, l_ix3, l_it0, l_it1, l_it2, l_it3, s_draw, k_bdbd, k_bdFbd, k_finbd, k_bdd]
  refine bx_draw (n := 49) (by decide) (by decide) fun q q0 q1 => bx_draw (n := 48) (by decide) (by decide) fun o o0 o1 => ?_
  have g4 : rg1 (.int 4) = .ok [.int 0, .int 1, .int 2, .int 3] := rfl
  simp -implicitDefEqProofs -dsimp only [implies_true, isS_str, s_bdx, s_bd, ↓k_bd, k_bd, k_bdx, k_bdd, s_nox, k_bdF, k_bdFr, k_bdFx, s_finr, s_finn, s_find, k_bdFd, ↓reduceIte, s_asB, s_ul1, s_ul2, s_ul3, s_sub, s_add, s_neg, s_eq, s_len, s_itl, s_itt, s_opt, List.length_cons, List.length_nil, decide_true, decide_false, Bool.not_true, Bool.not_false, if_true, if_false, Bool.false_eq_true, Nat.reduceAdd, z0L, z1L, z2L, z3L, z4L, z5L, z6L, z7L, z8L, z9L, z10L, z11L, z12L, z0l, z1l, z2l, z3l, z4l, l_asI, l_finx, l_finIx, l_finI, l_un2, l_un3, l_un4, l_ne, l_nes, l_neb, l_gt, l_ix0, l_ix1, l_ix2, l_ix3, l_it0, l_it1, l_it2, l_it3, s_draw, k_bdbd, k_bdFbd, k_finbd, g4]
  refine bk_then (a := 40) (b := 8) (bx_lcD (P := Rw3) (c := 10) fun d hd => ?_) (fun ys hy => ?_) (by omega)
  · refine bx_nox (bk_then (a := 10) (b := 0) b_row (fun x hx => ?_) (by omega))
    exact bx_ok ⟨x, rfl, hx⟩
  obtain ⟨hl, hy⟩ := hy
  match ys, hl with
  | [x, y, z, u], _ =>
    obtain ⟨a, rfl, ha, la, ba⟩ := hy x (by simp)
    obtain ⟨b, rfl, hb, lb, bb⟩ := hy y (by simp)
    obtain ⟨c, rfl, hc, lc, bc⟩ := hy z (by simp)
    obtain ⟨d, rfl, hd, ld, bd⟩ := hy u (by simp)
    have tt : ∀ ds : List D, tupD (.lst ds) = .ok (.tup ds) := fun _ => rfl
    simp -implicitDefEqProofs -dsimp only [implies_true, isS_str, s_bdx, s_bd, ↓k_bd, k_bd, k_bdx, k_bdd, s_nox, k_bdF, k_bdFr, k_bdFx, s_finr, s_finn, s_find, k_bdFd, ↓reduceIte, s_asB, s_ul1, s_ul2, s_ul3, s_sub, s_add, s_neg, s_eq, s_len, s_itl, s_itt, s_opt, List.length_cons, List.length_nil, decide_true, decide_false, Bool.not_true, Bool.not_false, if_true, if_false, Bool.false_eq_true, Nat.reduceAdd, z0L, z1L, z2L, z3L, z4L, z5L, z6L, z7L, z8L, z9L, z10L, z11L, z12L, z0l, z1l, z2l, z3l, z4l, l_asI, l_finx, l_finIx, l_finI, l_un2, l_un3, l_un4, l_ne, l_nes, l_neb, l_gt, l_ix0, l_ix1, l_ix2, l_ix3, l_it0, l_it1, l_it2, l_it3, s_draw, k_bdbd, k_bdFbd, k_finbd, tt, k_bdd]
    refine bx_draw (n := 7) (by decide) (by decide) fun r r0 r1 => ?_
    refine bk_thenB (a := 1) (b := 0) (b_pick (P := fun d => ∃ w : Int, d = .int w ∧ (w = 1 ∨ w = -1)) (by decide) (by decide) ?_) (fun w hw => ?_) (by omega)
    · intro d hd
      simp only [List.mem_cons, List.not_mem_nil, or_false] at hd
      rcases hd with rfl | rfl | rfl
      · exact ⟨1, rfl, .inl rfl⟩
      · exact ⟨1, rfl, .inl rfl⟩
      · exact ⟨-1, rfl, .inr rfl⟩
    obtain ⟨w, rfl, hw⟩ := hw
    simp -implicitDefEqProofs -dsimp only [implies_true, isS_str, s_bdx, s_bd, ↓k_bd, k_bd, k_bdx, k_bdd, s_nox, k_bdF, k_bdFr, k_bdFx, s_finr, s_finn, s_find, k_bdFd, ↓reduceIte, s_asB, s_ul1, s_ul2, s_ul3, s_sub, s_add, s_neg, s_eq, s_len, s_itl, s_itt, s_opt, List.length_cons, List.length_nil, decide_true, decide_false, Bool.not_true, Bool.not_false, if_true, if_false, Bool.false_eq_true, Nat.reduceAdd, z0L, z1L, z2L, z3L, z4L, z5L, z6L, z7L, z8L, z9L, z10L, z11L, z12L, z0l, z1l, z2l, z3l, z4l, l_asI, l_finx, l_finIx, l_finI, l_un2, l_un3, l_un4, l_ne, l_nes, l_neb, l_gt, l_ix0, l_ix1, l_ix2, l_ix3, l_it0, l_it1, l_it2, l_it3, s_draw, k_bdbd, k_bdFbd, k_finbd]
    refine bx_ok ⟨⟨r, w, (q, o - 6), ⟨a, b, c, d⟩⟩, rfl, ⟨r0, r1⟩, hw, ⟨q0, q1⟩, ⟨?_, ?_⟩, ⟨ha, hb, hc, hd⟩, ⟨la, lb, lc, ld⟩, fun q e he => ?_⟩
    · dsimp only; omega
    · dsimp only; omega
    · unfold R4.at at he
      split at he
      · exact ba e he
      · split at he
        · exact bb e he
        · split at he
          · exact bc e he
          · split at he
            · exact bd e he
            · cases he
end Lw
end
section
set_option Elab.async false
set_option linter.all false
set_option maxRecDepth 100000
set_option maxHeartbeats 1000000
namespace Lw
open PySem Gp Fo
def Pts.F (P : Pts) : Fr := ⟨P.r, P.w, P.s, P.R.f, P.R.g⟩
theorem Pts.Ok.let {P : Pts} (h : P.Ok) : R4.Let P.R := by
  have hb : ∀ q, RB (P.R.at q) := fun q e he => by
    have := h.b q e he
    refine ⟨⟨?_, ?_⟩, ⟨?_, ?_⟩⟩ <;> omega
  have l := h.l
  refine ⟨h.R, ⟨hb 0, hb 1, hb 2, hb 3⟩, ?_⟩
  omega
theorem Pts.Ok.fx {P : Pts} (h : P.Ok) : Fx P.F (ofT P.R) 100 12 := by
  refine ⟨⟨h.r, h.w, h.s, h.R.bj⟩, h.R.rep, fun p z => ?_, by have := h.sb; show -100 ≤ P.s.2 ∧ P.s.2 ≤ 100; omega, ?_⟩
  · have y : p.2 ∈ (P.R.at p.1).map (·.1) := Classical.byContradiction fun y => z (Prod.ext rfl (((h.R.at p.1).mv p.2).mpr y))
    obtain ⟨e, he, y⟩ := List.mem_map.mp y
    have := (h.b p.1 e he).1
    omega
  · have l1 := len_ofT P.R
    have l2 := len_in0 (R := P.R)
    have l := h.l
    omega
end Lw
end
section
set_option Elab.async false
set_option linter.all false
set_option maxRecDepth 100000
set_option maxHeartbeats 1000000
namespace Lw
open PySem Gp Fo
theorem Tel.ok {d : D} {F : Fr} {B : Int} {M : Nat} (h : Tel d F B M) : F.Ok := by
  obtain ⟨t, _, z⟩ := h
  exact z.ok
theorem Tel.mono {d : D} {F : Fr} {B C : Int} {M N : Nat} (h : Tel d F B M) (hB : B ≤ C) (hM : M ≤ N) : Tel d F C N := by
  obtain ⟨t, e, z⟩ := h
  exact ⟨t, e, z.mono hB hM⟩
end Lw
end
section
set_option Elab.async false
set_option linter.all false
set_option maxRecDepth 100000
set_option maxHeartbeats 1000000
namespace Gp
open PySem PyProof.Rows L2
def rpT (m : Tr D) : Bool := match m with
  | .ok (.str x) => (PyData.str x).canLay0
  | _ => false
theorem rp_of {d : D} (h : rpT (reprD d) = true) : ∃ x, reprD d = .ok (.str x) ∧ (PyData.str x).canLay0 = true := by
  unfold rpT at h
  split at h
  · rename_i x e
    exact ⟨x, e, h⟩
  · cases h
theorem Tp.str {x : Str} (h : (PyData.str x).canLay0 = true) (n : Nat) : Tp (.str x) (.str x) n := ⟨by unfold toPy; rfl, h, Nat.zero_le _⟩
theorem Tp.ne {d p n} (h : Tp d p n) (hn : n ≤ 64) (hs : eqS d d = none) : neD d d = .ok (.bl false) := l_neq (h.eq hn hs)
theorem ne_two {x y : Str} (hx : (PyData.str x).canLay0 = true) (hy : (PyData.str y).canLay0 = true) : neD (.tup [.str x, .str y]) (.tup [.str x, .str y]) = .ok (.bl false) :=
  (Tp.tup (n := 0) (.cons (.str hx _) (.cons (.str hy _) (.nil _)))).ne (by decide) rfl
end Gp
namespace Lw
open PySem Gp Fo
end Lw
end
section
set_option Elab.async false
set_option linter.all false
set_option maxRecDepth 100000
set_option maxHeartbeats 1000000
namespace Lw
open PySem Gp Fo
theorem q_usable {F : Fr} {t : Tb} {B : Int} {M : Nat} (h : Fx F t B M) (hM : M ≤ 16000) {n : Int} (hn : 1 ≤ n ∧ n ≤ N40) (e : n % 4 = F.r) : F_Form_is_usable (fmD F.r F.w F.s t) (.int n) = .ok (.bl (decide (Usab n t))) := by
  have i1 : ∀ k : Tr D, isO "Form" (fmD F.r F.w F.s t) (fun fs => if fs.lookup ("need_own_length" : Str) = none then k else .bad) = k := fun k => Tel.isO ⟨t, rfl, h⟩ "need_own_length" (by decide) k
  have i2 : ∀ k : Tr D, isO "Shape" (shD F.r F.w F.s t) (fun fs => if fs.lookup ("marked_seats" : Str) = none then k else .bad) = k := fun k => Tsh.isO ⟨t, rfl, h⟩ "marked_seats" (by decide) (by decide) (by decide) (by decide) k
  rw [lz_Form_is_usable]
  unfold L_Form_is_usable
  simp -implicitDefEqProofs -dsimp only [implies_true, isS_str, s_bdx, s_bd, ↓k_bd, k_bd, k_bdx, k_bdd, s_nox, k_bdF, k_bdFr, k_bdFx, s_finr, s_finn, s_find, k_bdFd, ↓reduceIte, s_asB, s_ul1, s_ul2, s_ul3, s_sub, s_add, s_neg, s_eq, s_len, s_itl, s_itt, s_opt, List.length_cons, List.length_nil, decide_true, decide_false, Bool.not_true, Bool.not_false, if_true, if_false, Bool.false_eq_true, Nat.reduceAdd, z0L, z1L, z2L, z3L, z4L, z5L, z6L, z7L, z8L, z9L, z10L, z11L, z12L, z0l, z1l, z2l, z3l, z4l, l_asI, l_finx, l_finIx, l_finI, l_un2, l_un3, l_un4, l_ne, l_nes, l_neb, l_gt, l_ix0, l_ix1, l_ix2, l_ix3, l_it0, l_it1, l_it2, l_it3, s_draw, k_bdbd, k_bdFbd, k_finbd, i1, s_ul2, q_own t hn e, f_shape, i2, q_marked h hM (show 0 < n by omega)]
  by_cases z : Usab n t
  · rw [if_pos z, decide_eq_true z]
    rfl
  · rw [if_neg z, decide_eq_false z]
    rfl
end Lw
end
section
set_option Elab.async false
set_option linter.all false
set_option maxRecDepth 100000
set_option maxHeartbeats 1000000
namespace Lw
open PySem Gp Fo
theorem q_lseat {n p : Int} (h : 1 ≤ n) : F__law_seat (.int n) (.int p) = .ok (.int (seatZ n p)) := by
  have e : 0 < n := by omega
  rw [lz__law_seat]
  unfold L__law_seat
  simp -implicitDefEqProofs -dsimp only [implies_true, isS_str, s_bdx, s_bd, ↓k_bd, k_bd, k_bdx, k_bdd, s_nox, k_bdF, k_bdFr, k_bdFx, s_finr, s_finn, s_find, k_bdFd, ↓reduceIte, s_asB, s_ul1, s_ul2, s_ul3, s_sub, s_add, s_neg, s_eq, s_len, s_itl, s_itt, s_opt, List.length_cons, List.length_nil, decide_true, decide_false, Bool.not_true, Bool.not_false, if_true, if_false, Bool.false_eq_true, Nat.reduceAdd, z0L, z1L, z2L, z3L, z4L, z5L, z6L, z7L, z8L, z9L, z10L, z11L, z12L, z0l, z1l, z2l, z3l, z4l, l_asI, l_finx, l_finIx, l_finI, l_un2, l_un3, l_un4, l_ne, l_nes, l_neb, l_gt, l_ix0, l_ix1, l_ix2, l_ix3, l_it0, l_it1, l_it2, l_it3, s_draw, k_bdbd, k_bdFbd, k_finbd, s_int, s_mod2, s_div2, s_mod e]
  unfold seatZ
  by_cases hp : p % 2 = 0
  · rw [decide_eq_true hp, if_pos hp]
    rfl
  · rw [decide_eq_false hp, if_neg hp]
    rfl
end Lw
end
section
set_option Elab.async false
set_option linter.all false
set_option maxRecDepth 100000
set_option maxHeartbeats 1000000
namespace Fo
open Gp
theorem putA_new {κ α ι : Type} [DecidableEq κ] {f : ι → κ} {g : ι → α} : ∀ {is : List ι} {t : List (κ × α)}, (∀ i ∈ is, f i ∉ t.map (·.1)) → (is.Pairwise fun i j => f i ≠ f j) → putA f g is t = t ++ is.map fun i => (f i, g i)
  | [], t, _, _ => (List.append_nil t).symm
  | i :: r, t, h1, h2 => by
    obtain ⟨h3, h4⟩ := List.pairwise_cons.mp h2
    have ni := h1 i List.mem_cons_self
    have e : putP t (f i) (g i) = t ++ [(f i, g i)] := by
      unfold putP
      rw [if_neg fun z => ni (any_key.mp z)]
    show putA f g r _ = _
    rw [e, putA_new (fun j hj z => ?_) h4, List.append_assoc]
    · rfl
    · rw [List.map_append] at z
      rcases List.mem_append.mp z with z | z
      · exact h1 j (List.mem_cons_of_mem _ hj) z
      · simp only [List.map_cons, List.map_nil, List.mem_singleton] at z
        exact h3 j hj z.symm
theorem R4.Ok.isnd {R : R4} (h : R.Ok) : R.is.Pairwise fun i j => i.1 ≠ j.1 := by
  have one : ∀ (q : Int) {l : List (Int × Int)}, RowOk l → (ofI q l).Pairwise fun i j => i.1 ≠ j.1 := fun q l hl => by
    unfold ofI
    rw [List.pairwise_map]
    have a := hl.asc
    rw [List.pairwise_map] at a
    exact a.imp fun {x y} (z : x.1 < y.1) (e : ((q, x.1) : Pt) = (q, y.1)) => by
      injection e with _ e
      omega
  have q : ∀ {q : Int} {l : List (Int × Int)} {i : Pt × Int}, i ∈ ofI q l → i.1.1 = q := fun {q l i} hi => by
    obtain ⟨e, _, rfl⟩ := List.mem_map.mp hi
    rfl
  unfold R4.is
  rw [List.pairwise_append, List.pairwise_append, List.pairwise_append]
  refine ⟨one 0 h.a, ⟨one 1 h.b, ⟨one 2 h.c, one 3 h.d, fun i hi j hj e => ?_⟩, fun i hi j hj e => ?_⟩, fun i hi j hj e => ?_⟩
  · have a := q hi
    have b := q hj
    rw [e, b] at a
    cases a
  · have a := q hi
    rcases List.mem_append.mp hj with hj | hj
    · have b := q hj
      rw [e, b] at a
      cases a
    · have b := q hj
      rw [e, b] at a
      cases a
  · have a := q hi
    rcases List.mem_append.mp hj with hj | hj
    · have b := q hj
      rw [e, b] at a
      cases a
    · rcases List.mem_append.mp hj with hj | hj
      · have b := q hj
        rw [e, b] at a
        cases a
      · have b := q hj
        rw [e, b] at a
        cases a
theorem ofT_is {R : R4} (h : R.Ok) : ofT R = R.is := by
  unfold ofT
  rw [putA_new (t := ([] : Tb)) (fun _ _ z => nomatch z) h.isnd, List.nil_append]
  exact (List.map_congr_left fun i _ => rfl).trans (List.map_id _)
theorem putA_congr {κ α ι : Type} [DecidableEq κ] {f f' : ι → κ} {g g' : ι → α} : ∀ {is : List ι} {t : List (κ × α)}, (∀ i ∈ is, f i = f' i ∧ g i = g' i) → putA f g is t = putA f' g' is t
  | [], _, _ => rfl
  | i :: r, t, h => by
    obtain ⟨h1, h2⟩ := h i List.mem_cons_self
    show putA f g r (putP t (f i) (g i)) = putA f' g' r (putP t (f' i) (g' i))
    rw [h1, h2]
    exact putA_congr fun j hj => h j (List.mem_cons_of_mem _ hj)
theorem putA_map {κ α ι β : Type} [DecidableEq κ] {f : ι → κ} {g : ι → α} {m : β → ι} : ∀ {is : List β} {t : List (κ × α)}, putA f g (is.map m) t = putA (fun i => f (m i)) (fun i => g (m i)) is t
  | [], _ => rfl
  | i :: r, t => putA_map (is := r)
theorem mark_is {R : R4} (h : R.Ok) (n : Int) : markT n (ofT R) = putA (fun i : Pt × Int => evS n i.1) (fun i => evS n (i.1.1, i.2)) R.is [] := by
  unfold markT
  rw [ofT_is h]
  rw [putA_map]
  refine putA_congr fun i hi => ⟨rfl, ?_⟩
  have nd : (R.is.map (·.1)).Nodup := by
    unfold List.Nodup
    rw [List.pairwise_map]
    exact h.isnd
  unfold midT
  rw [lookP_of nd (k := i.1) (v := i.2) hi]
  rfl
end Fo
end
section
set_option Elab.async false
set_option linter.all false
set_option maxRecDepth 100000
set_option maxHeartbeats 1000000
namespace Lw
open PySem Gp Fo
theorem for_dk2 {L ι : Type} {f : D → D × D → Tr (Fl (D × D) (D × D))} {h : ι → D} {k : ι → Int} {v : ι → Int} : ∀ {is : List ι} {t : Sb} {c : Int}, (∀ i ∈ is, ∀ (t : Sb) (c : Int), t.length < sizeLine → f (h i) (dkD t, .int c) = .ok (.nx (dkD (putP t (k i) (v i)), .int (c + 1)))) → t.length + is.length ≤ sizeLine →
    forF (L := L) f (is.map h) (dkD t, .int c) = .ok (.nx (dkD (putA k v is t), .int (c + is.length)))
  | [], t, c, _, _ => by
    rw [List.map_nil, forF_nil, List.length_nil, show c + ((0 : Nat) : Int) = c by omega]
    rfl
  | i :: r, t, c, hf, hl => by
    rw [List.map_cons, forF_cons, hf i List.mem_cons_self t c (by rw [List.length_cons] at hl; omega), s_bd]
    dsimp only
    rw [for_dk2 (fun j hj => hf j (List.mem_cons_of_mem _ hj)) (by have := len_put t (k i) (v i); rw [List.length_cons] at hl; omega), List.length_cons, show c + 1 + (r.length : Int) = c + ((r.length + 1 : Nat) : Int) by omega]
    rfl
def kA (n : Int) (i : Pt × Int) : Int := evS n i.1
def vA (n : Int) (i : Pt × Int) : Int := evS n (i.1.1, i.2)
theorem for_4 {L : Type} {R : R4} {n : Int} {f : D → D × D → Tr (Fl (D × D) (D × D))} {u : Dp f} (hl : R.a.length ≤ 3 ∧ R.b.length ≤ 3 ∧ R.c.length ≤ 3 ∧ R.d.length ≤ 3)
    (hf : ∀ q : Int, 0 ≤ q → q < 4 → ∀ (t : Sb) (c : Int), t.length ≤ 12 → f (.int q) (dkD t, .int c) = .ok (.nx (dkD (putA (kA n) (vA n) (ofI q (R.at q)) t), .int (c + (R.at q).length)))) :
    forFk (L := L) f [.int 0, .int 1, .int 2, .int 3] (dkD [], .int 0) u = .ok (.nx (dkD (putA (kA n) (vA n) R.is []), .int R.is.length)) := by
  have la := len_putA (f := kA n) (g := vA n) (is := ofI 0 R.a) (t := ([] : Sb))
  have lb := len_putA (f := kA n) (g := vA n) (is := ofI 1 R.b) (t := putA (kA n) (vA n) (ofI 0 R.a) ([] : Sb))
  have lc := len_putA (f := kA n) (g := vA n) (is := ofI 2 R.c) (t := putA (kA n) (vA n) (ofI 1 R.b) (putA (kA n) (vA n) (ofI 0 R.a) ([] : Sb)))
  rw [len_ofI] at la lb lc
  rw [List.length_nil] at la
  unfold forFk
  rw [forF_cons, hf 0 (by decide) (by decide) [] 0 (by decide), s_bd]
  dsimp only
  rw [forF_cons, hf 1 (by decide) (by decide) _ _ (by rw [show R.at 0 = R.a from rfl]; omega), s_bd]
  dsimp only
  rw [show R.at 0 = R.a from rfl, show R.at 1 = R.b from rfl, forF_cons, hf 2 (by decide) (by decide) _ _ (by omega), s_bd]
  dsimp only
  rw [show R.at 2 = R.c from rfl, forF_cons, hf 3 (by decide) (by decide) _ _ (by omega), s_bd]
  dsimp only
  rw [show R.at 3 = R.d from rfl, forF_nil, ← putA_app, ← putA_app, ← putA_app]
  have e : ofI 0 R.a ++ (ofI 1 R.b ++ (ofI 2 R.c ++ ofI 3 R.d)) = R.is := rfl
  have l := len_in0 (R := R)
  rw [e, l]
  rw [show (0 : Int) + R.a.length + R.b.length + R.c.length + R.d.length = ((R.a.length + (R.b.length + (R.c.length + R.d.length)) : Nat) : Int) by omega]
theorem ix_row {P : Pts} {q : Int} (q0 : 0 ≤ q) (q1 : q < 4) : ixD (r4D P.R) (.int q) = .ok (rwD (P.R.at q)) := by
  rcases (show q = 0 ∨ q = 1 ∨ q = 2 ∨ q = 3 by omega) with rfl | rfl | rfl | rfl <;> rfl
theorem q_lmarked {P : Pts} (h : P.Ok) {n : Int} (hn : 0 < n) : F__law_marked P.d (.int n) = .ok (if Usab n (ofT P.R) then dkD (markT n (ofT P.R)) else .non) := by
  have g4 : rg1 (.int 4) = .ok [.int 0, .int 1, .int 2, .int 3] := rfl
  have hl := h.l
  have h3 : ixD P.d (.int 3) = .ok (r4D P.R) := rfl
  have em := mark_is h.R n
  have ei : (ofT P.R).length = P.R.is.length := by rw [ofT_is h.R]
  rw [lz__law_marked]
  unfold L__law_marked
  simp -implicitDefEqProofs -dsimp only [implies_true, isS_str, s_bdx, s_bd, ↓k_bd, k_bd, k_bdx, k_bdd, s_nox, k_bdF, k_bdFr, k_bdFx, s_finr, s_finn, s_find, k_bdFd, ↓reduceIte, s_asB, s_ul1, s_ul2, s_ul3, s_sub, s_add, s_neg, s_eq, s_len, s_itl, s_itt, s_opt, List.length_cons, List.length_nil, decide_true, decide_false, Bool.not_true, Bool.not_false, if_true, if_false, Bool.false_eq_true, Nat.reduceAdd, z0L, z1L, z2L, z3L, z4L, z5L, z6L, z7L, z8L, z9L, z10L, z11L, z12L, z0l, z1l, z2l, z3l, z4l, l_asI, l_finx, l_finIx, l_finI, l_un2, l_un3, l_un4, l_ne, l_nes, l_neb, l_gt, l_ix0, l_ix1, l_ix2, l_ix3, l_it0, l_it1, l_it2, l_it3, s_draw, k_bdbd, k_bdFbd, k_finbd, g4]
  rw [show (D.dik [], D.int 0) = (dkD [], D.int 0) from rfl, for_4 (R := P.R) (n := n) hl fun q q0 q1 t c lt => ?_]
  · have em' : markT n (ofT P.R) = putA (kA n) (vA n) P.R.is [] := em
    simp -implicitDefEqProofs -dsimp only [implies_true, isS_str, s_bdx, s_bd, ↓k_bd, k_bd, k_bdx, k_bdd, s_nox, k_bdF, k_bdFr, k_bdFx, s_finr, s_finn, s_find, k_bdFd, ↓reduceIte, s_asB, s_ul1, s_ul2, s_ul3, s_sub, s_add, s_neg, s_eq, s_len, s_itl, s_itt, s_opt, List.length_cons, List.length_nil, decide_true, decide_false, Bool.not_true, Bool.not_false, if_true, if_false, Bool.false_eq_true, Nat.reduceAdd, z0L, z1L, z2L, z3L, z4L, z5L, z6L, z7L, z8L, z9L, z10L, z11L, z12L, z0l, z1l, z2l, z3l, z4l, l_asI, l_finx, l_finIx, l_finI, l_un2, l_un3, l_un4, l_ne, l_nes, l_neb, l_gt, l_ix0, l_ix1, l_ix2, l_ix3, l_it0, l_it1, l_it2, l_it3, s_draw, k_bdbd, k_bdFbd, k_finbd, s_dklen]
    rw [← em', ← ei]
    by_cases z : Usab n (ofT P.R)
    · rw [if_pos z, decide_eq_true (by unfold Usab at z; rw [z])]
      rfl
    · rw [if_neg z, decide_eq_false fun e => z (by unfold Usab; omega)]
      rfl
  · have lq : (P.R.at q).length ≤ 3 := by
      rcases (show q = 0 ∨ q = 1 ∨ q = 2 ∨ q = 3 by omega) with rfl | rfl | rfl | rfl
      · exact hl.1
      · exact hl.2.1
      · exact hl.2.2.1
      · exact hl.2.2.2
    simp -implicitDefEqProofs -dsimp only [implies_true, isS_str, s_bdx, s_bd, ↓k_bd, k_bd, k_bdx, k_bdd, s_nox, k_bdF, k_bdFr, k_bdFx, s_finr, s_finn, s_find, k_bdFd, ↓reduceIte, s_asB, s_ul1, s_ul2, s_ul3, s_sub, s_add, s_neg, s_eq, s_len, s_itl, s_itt, s_opt, List.length_cons, List.length_nil, decide_true, decide_false, Bool.not_true, Bool.not_false, if_true, if_false, Bool.false_eq_true, Nat.reduceAdd, z0L, z1L, z2L, z3L, z4L, z5L, z6L, z7L, z8L, z9L, z10L, z11L, z12L, z0l, z1l, z2l, z3l, z4l, l_asI, l_finx, l_finIx, l_finI, l_un2, l_un3, l_un4, l_ne, l_nes, l_neb, l_gt, l_ix0, l_ix1, l_ix2, l_ix3, l_it0, l_it1, l_it2, l_it3, s_draw, k_bdbd, k_bdFbd, k_finbd, s_div4, s_mull ⟨q0, q1⟩, h3, ix_row q0 q1, itd_rw]
    unfold forFk
    rw [for_dk2 (h := ptD) (k := fun e : Int × Int => evS n (q, e.1)) (v := fun e => evS n (q, e.2)) (fun e he t c lt => ?_) (Nat.le_trans (m := 20) (by omega) (by decide))]
    · rw [k_bdF]
      unfold ofI
      rw [putA_map]
      rfl
    · simp -implicitDefEqProofs -dsimp only [implies_true, isS_str, s_bdx, s_bd, ↓k_bd, k_bd, k_bdx, k_bdd, s_nox, k_bdF, k_bdFr, k_bdFx, s_finr, s_finn, s_find, k_bdFd, ↓reduceIte, s_asB, s_ul1, s_ul2, s_ul3, s_sub, s_add, s_neg, s_eq, s_len, s_itl, s_itt, s_opt, List.length_cons, List.length_nil, decide_true, decide_false, Bool.not_true, Bool.not_false, if_true, if_false, Bool.false_eq_true, Nat.reduceAdd, z0L, z1L, z2L, z3L, z4L, z5L, z6L, z7L, z8L, z9L, z10L, z11L, z12L, z0l, z1l, z2l, z3l, z4l, l_asI, l_finx, l_finIx, l_finI, l_un2, l_un3, l_un4, l_ne, l_nes, l_neb, l_gt, l_ix0, l_ix1, l_ix2, l_ix3, l_it0, l_it1, l_it2, l_it3, s_draw, k_bdbd, k_bdFbd, k_finbd, un_pt, s_int, s_mod hn, s_dkput lt]
      rfl
end Lw
end
section
set_option Elab.async false
set_option linter.all false
set_option maxRecDepth 100000
set_option maxHeartbeats 1000000
namespace Fo
open Gp
theorem len_sub {α : Type} [DecidableEq α] : ∀ {l m : List α}, l.Nodup → (∀ x ∈ l, x ∈ m) → l.length ≤ m.length
  | [], _, _, _ => Nat.zero_le _
  | a :: r, m, h, hs => by
    obtain ⟨h1, h2⟩ := List.nodup_cons.mp h
    have ha := hs a List.mem_cons_self
    have k := len_sub (m := m.erase a) h2 fun x hx => (List.mem_erase_of_ne (fun e : x = a => h1 (by rw [← e]; exact hx))).mpr (hs x (List.mem_cons_of_mem _ hx))
    have e := List.length_erase_of_mem ha
    have p := List.length_pos_of_mem ha
    rw [List.length_cons]
    omega
theorem pigeon {l : List Int} {N : Nat} (nd : l.Nodup) (hl : l.length = N) (hr : ∀ x ∈ l, 0 ≤ x ∧ x < N) {x : Int} (x0 : 0 ≤ x) (x1 : x < N) : x ∈ l := by
  refine Classical.byContradiction fun nx => ?_
  let m : List Int := (List.range N).map Int.ofNat
  have ml : m.length = N := by
    show ((List.range N).map Int.ofNat).length = N
    rw [List.length_map, List.length_range]
  have hm : ∀ y : Int, 0 ≤ y → y < N → y ∈ m := fun y y0 y1 => List.mem_map.mpr ⟨y.toNat, List.mem_range.mpr (by omega), by
    show ((y.toNat : Nat) : Int) = y
    omega⟩
  have k := len_sub (m := m.erase x) nd fun y hy => (List.mem_erase_of_ne (fun e : y = x => nx (by rw [← e]; exact hy))).mpr (hm y (hr y hy).1 (hr y hy).2)
  have e := List.length_erase_of_mem (hm x x0 x1)
  have p := List.length_pos_of_mem (hm x x0 x1)
  omega
theorem markS_inj {F : Fr} {t : Tb} {B : Int} {M : Nat} (h : Fx F t B M) {n : Int} (u : Usab n t) {x y : Int} (e : markS n t x = markS n t y) : x = y := by
  have key := (usab_iff h.rep.nd).mp u
  have mv : ∀ k, F.f k ≠ k → F.f (F.f k) ≠ F.f k := fun k hk z => hk (h.ok.b.inj z)
  by_cases zx : ∃ k, F.f k ≠ k ∧ evS n k = x
  · obtain ⟨k, hk, rfl⟩ := zx
    rw [markS_in h.rep h.ok.b u hk] at e
    by_cases zy : ∃ k, F.f k ≠ k ∧ evS n k = y
    · obtain ⟨j, hj, rfl⟩ := zy
      rw [markS_in h.rep h.ok.b u hj] at e
      have z := key _ (h.rep.mem.mpr (mv k hk)) _ (h.rep.mem.mpr (mv j hj)) e
      rw [h.ok.b.inj z]
    · rw [markS_out h.rep u fun j hj z => zy ⟨j, hj, z⟩] at e
      exact absurd ⟨F.f k, mv k hk, e⟩ zy
  · rw [markS_out h.rep u fun j hj z => zx ⟨j, hj, z⟩] at e
    by_cases zy : ∃ k, F.f k ≠ k ∧ evS n k = y
    · obtain ⟨j, hj, rfl⟩ := zy
      rw [markS_in h.rep h.ok.b u hj] at e
      exact absurd ⟨F.f j, mv j hj, e.symm⟩ zx
    · rw [markS_out h.rep u fun j hj z => zy ⟨j, hj, z⟩] at e
      exact e
theorem markS_rn {F : Fr} {t : Tb} {B : Int} {M : Nat} (h : Fx F t B M) {n : Int} (hn : 0 < n) (u : Usab n t) {z : Int} (hz : 0 ≤ z ∧ z < n) : 0 ≤ markS n t z ∧ markS n t z < n := by
  by_cases y : ∃ k, F.f k ≠ k ∧ evS n k = z
  · obtain ⟨k, hk, rfl⟩ := y
    rw [markS_in h.rep h.ok.b u hk]
    exact evS_rng hn _
  · rw [markS_out h.rep u fun k hk e => y ⟨k, hk, e⟩]
    exact hz
theorem aheadS_rn (F : Fr) {n : Int} (hn : 0 < n) (u : Int) : 0 ≤ aheadS F n u ∧ aheadS F n u < n := ⟨Int.emod_nonneg _ (by omega), Int.emod_lt_of_pos _ hn⟩
theorem toS_inj {F : Fr} {t : Tb} {B : Int} {M : Nat} (h : Fx F t B M) {n : Int} (hn : 0 < n) (u : Usab n t) {x y : Int} (hx : 0 ≤ x ∧ x < n) (hy : 0 ≤ y ∧ y < n) (e : toS F t n x = toS F t n y) : x = y := by
  unfold toS at e
  have sx := markS_rn h hn u (aheadS_rn F hn (seatZ n x))
  have sy := markS_rn h hn u (aheadS_rn F hn (seatZ n y))
  have e2 := congrArg (seatZ n) e
  rw [seat_place (s := seatS F t n (seatZ n x)) sx.1 sx.2, seat_place (s := seatS F t n (seatZ n y)) sy.1 sy.2] at e2
  have e3 := markS_inj h u e2
  have zx := seatZ_rng hx.1 hx.2
  have zy := seatZ_rng hy.1 hy.2
  have e4 := ahead_inj h.ok.w zx zy e3
  rw [← place_seat hx.1 hx.2, e4, place_seat hy.1 hy.2]
def toldL (F : Fr) (t : Tb) (n : Int) : List Int := (List.range n.toNat).map fun i : Nat => toS F t n (i : Int)
theorem told_sort {F : Fr} {t : Tb} {B : Int} {M : Nat} (h : Fx F t B M) {n : Int} (hn : 0 < n) (u : Usab n t) : sortI (toldL F t n) = (List.range n.toNat).map fun i : Nat => (i : Int) := by
  have nd : (toldL F t n).Nodup := by
    unfold toldL List.Nodup
    rw [List.pairwise_map]
    refine List.Pairwise.imp_of_mem (R := fun a b => a ≠ b) (fun {a b} ha hb ne e => ne ?_) List.nodup_range
    have la := List.mem_range.mp ha
    have lb := List.mem_range.mp hb
    have := toS_inj h hn u (x := a) (y := b) ⟨by omega, by omega⟩ ⟨by omega, by omega⟩ e
    omega
  have rn : ∀ x ∈ toldL F t n, 0 ≤ x ∧ x < n.toNat := fun x hx => by
    obtain ⟨i, hi, rfl⟩ := List.mem_map.mp hx
    have s := markS_rn h hn u (aheadS_rn F hn (seatZ n i))
    have r := placeZ_rng s.1 s.2
    show 0 ≤ placeZ n (seatS F t n (seatZ n i)) ∧ placeZ n (seatS F t n (seatZ n i)) < _
    exact ⟨r.1, by have := r.2; unfold seatS; omega⟩
  have hl : (toldL F t n).length = n.toNat := by
    unfold toldL
    rw [List.length_map, List.length_range]
  refine asc_eqZ (asc_sortZ nd) ?_ fun x => ?_
  · rw [List.pairwise_map]
    refine List.pairwise_lt_range.imp fun {a b} z => ?_
    omega
  · rw [mem_sortZ, List.mem_map]
    constructor
    · intro hx
      have r := rn x hx
      exact ⟨x.toNat, List.mem_range.mpr (by omega), by omega⟩
    · rintro ⟨i, hi, rfl⟩
      have := List.mem_range.mp hi
      exact pigeon nd hl rn (by omega) (by omega)
end Fo
end
section
set_option Elab.async false
set_option linter.all false
set_option maxRecDepth 100000
set_option maxHeartbeats 1000000
namespace Lw
open PySem Gp Fo
theorem q_lform {P : Pts} (h : P.Ok) : F__law_form P.d = .ok (fmD P.r P.w P.s (ofT P.R)) := by
  have hb : B60 P.s.2 := by have := h.sb; exact ⟨by omega, by omega⟩
  rw [lz__law_form]
  unfold L__law_form Pts.d
  simp -implicitDefEqProofs -dsimp only [implies_true, isS_str, s_bdx, s_bd, ↓k_bd, k_bd, k_bdx, k_bdd, s_nox, k_bdF, k_bdFr, k_bdFx, s_finr, s_finn, s_find, k_bdFd, ↓reduceIte, s_asB, s_ul1, s_ul2, s_ul3, s_sub, s_add, s_neg, s_eq, s_len, s_itl, s_itt, s_opt, List.length_cons, List.length_nil, decide_true, decide_false, Bool.not_true, Bool.not_false, if_true, if_false, Bool.false_eq_true, Nat.reduceAdd, z0L, z1L, z2L, z3L, z4L, z5L, z6L, z7L, z8L, z9L, z10L, z11L, z12L, z0l, z1l, z2l, z3l, z4l, l_asI, l_finx, l_finIx, l_finI, l_un2, l_un3, l_un4, l_ne, l_nes, l_neb, l_gt, l_ix0, l_ix1, l_ix2, l_ix3, l_it0, l_it1, l_it2, l_it3, s_draw, k_bdbd, k_bdFbd, k_finbd, s_ul4, q_new h.r h.w h.s hb h.let]
  rw [q_form h.r h.w h.s hb h.let]
  rfl
theorem q_lplace {n s : Int} (h : 1 ≤ n) : F__law_place (.int n) (.int s) = .ok (.int (placeZ n (s % n))) := by
  have e : 0 < n := by omega
  have m2 : ∀ j : Int, mulD (.int 2) (.int j) = .ok (.int (2 * j)) := fun j => s_mul (.inl (by decide))
  rw [lz__law_place]
  unfold L__law_place
  simp -implicitDefEqProofs -dsimp only [implies_true, isS_str, s_bdx, s_bd, ↓k_bd, k_bd, k_bdx, k_bdd, s_nox, k_bdF, k_bdFr, k_bdFx, s_finr, s_finn, s_find, k_bdFd, ↓reduceIte, s_asB, s_ul1, s_ul2, s_ul3, s_sub, s_add, s_neg, s_eq, s_len, s_itl, s_itt, s_opt, List.length_cons, List.length_nil, decide_true, decide_false, Bool.not_true, Bool.not_false, if_true, if_false, Bool.false_eq_true, Nat.reduceAdd, z0L, z1L, z2L, z3L, z4L, z5L, z6L, z7L, z8L, z9L, z10L, z11L, z12L, z0l, z1l, z2l, z3l, z4l, l_asI, l_finx, l_finIx, l_finI, l_un2, l_un3, l_un4, l_ne, l_nes, l_neb, l_gt, l_ix0, l_ix1, l_ix2, l_ix3, l_it0, l_it1, l_it2, l_it3, s_draw, k_bdbd, k_bdFbd, k_finbd, s_int, s_mod e, m2, s_lt]
  unfold placeZ
  by_cases hp : 2 * (s % n) < n
  · rw [decide_eq_true hp, if_pos hp]
    rfl
  · rw [decide_eq_false hp, if_neg hp]
    simp -implicitDefEqProofs -dsimp only [implies_true, isS_str, s_bdx, s_bd, ↓k_bd, k_bd, k_bdx, k_bdd, s_nox, k_bdF, k_bdFr, k_bdFx, s_finr, s_finn, s_find, k_bdFd, ↓reduceIte, s_asB, s_ul1, s_ul2, s_ul3, s_sub, s_add, s_neg, s_eq, s_len, s_itl, s_itt, s_opt, List.length_cons, List.length_nil, decide_true, decide_false, Bool.not_true, Bool.not_false, if_true, if_false, Bool.false_eq_true, Nat.reduceAdd, z0L, z1L, z2L, z3L, z4L, z5L, z6L, z7L, z8L, z9L, z10L, z11L, z12L, z0l, z1l, z2l, z3l, z4l, l_asI, l_finx, l_finIx, l_finI, l_un2, l_un3, l_un4, l_ne, l_nes, l_neb, l_gt, l_ix0, l_ix1, l_ix2, l_ix3, l_it0, l_it1, l_it2, l_it3, s_draw, k_bdbd, k_bdFbd, k_finbd, m2]
theorem q_lbrought {P : Pts} (h : P.Ok) {n : Int} (hn : 1 ≤ n) (u : Usab n (ofT P.R)) (p : Int) : F__law_brought P.d (.int n) (.int p) = .ok (.int (toS P.F (ofT P.R) n p)) := by
  have hs : 0 ≤ P.s.1 ∧ P.s.1 < 4 := h.s
  have h1 : ixD P.d (.int 1) = .ok (.int P.w) := rfl
  have h2 : ixD P.d (.int 2) = .ok (ptD P.s) := rfl
  have ea : (P.w * seatZ n p + P.s.1 * (n / 4) + P.s.2) % n = aheadS P.F n (seatZ n p) := rfl
  have r := markS_rn h.fx (show 0 < n by omega) u (aheadS_rn P.F (show 0 < n by omega) (seatZ n p))
  have em : markS n (ofT P.R) (aheadS P.F n (seatZ n p)) % n = markS n (ofT P.R) (aheadS P.F n (seatZ n p)) := Int.emod_eq_of_lt r.1 r.2
  rw [lz__law_brought]
  unfold L__law_brought
  simp -implicitDefEqProofs -dsimp only [implies_true, isS_str, s_bdx, s_bd, ↓k_bd, k_bd, k_bdx, k_bdd, s_nox, k_bdF, k_bdFr, k_bdFx, s_finr, s_finn, s_find, k_bdFd, ↓reduceIte, s_asB, s_ul1, s_ul2, s_ul3, s_sub, s_add, s_neg, s_eq, s_len, s_itl, s_itt, s_opt, List.length_cons, List.length_nil, decide_true, decide_false, Bool.not_true, Bool.not_false, if_true, if_false, Bool.false_eq_true, Nat.reduceAdd, z0L, z1L, z2L, z3L, z4L, z5L, z6L, z7L, z8L, z9L, z10L, z11L, z12L, z0l, z1l, z2l, z3l, z4l, l_asI, l_finx, l_finIx, l_finI, l_un2, l_un3, l_un4, l_ne, l_nes, l_neb, l_gt, l_ix0, l_ix1, l_ix2, l_ix3, l_it0, l_it1, l_it2, l_it3, s_draw, k_bdbd, k_bdFbd, k_finbd, h1, h2, q_lseat hn, s_mulw h.w, ix0_pt, ix1_pt, s_div4, s_mull hs, s_int, s_mod (show 0 < n by omega), ea, q_lmarked h (show 0 < n by omega)]
  rw [if_pos u]
  simp -implicitDefEqProofs -dsimp only [implies_true, isS_str, s_bdx, s_bd, ↓k_bd, k_bd, k_bdx, k_bdd, s_nox, k_bdF, k_bdFr, k_bdFx, s_finr, s_finn, s_find, k_bdFd, ↓reduceIte, s_asB, s_ul1, s_ul2, s_ul3, s_sub, s_add, s_neg, s_eq, s_len, s_itl, s_itt, s_opt, List.length_cons, List.length_nil, decide_true, decide_false, Bool.not_true, Bool.not_false, if_true, if_false, Bool.false_eq_true, Nat.reduceAdd, z0L, z1L, z2L, z3L, z4L, z5L, z6L, z7L, z8L, z9L, z10L, z11L, z12L, z0l, z1l, z2l, z3l, z4l, l_asI, l_finx, l_finIx, l_finI, l_un2, l_un3, l_un4, l_ne, l_nes, l_neb, l_gt, l_ix0, l_ix1, l_ix2, l_ix3, l_it0, l_it1, l_it2, l_it3, s_draw, k_bdbd, k_bdFbd, k_finbd, s_dkis, s_dkget2, q_lplace hn]
  rw [show (lookP (markT n (ofT P.R)) (aheadS P.F n (seatZ n p))).getD (aheadS P.F n (seatZ n p)) = markS n (ofT P.R) (aheadS P.F n (seatZ n p)) from rfl, em]
  rfl
theorem lay_overlap : (PyData.str "overlap").canLay0 = true := by decide +kernel
theorem heard_overlap {n : Int} {x : Str} (h : reprD (.int n) = .ok (.str x)) : F__law_heard (.ex "Overlap" [("length", .int n)]) = .ok (.tup [.str "overlap", .str x]) := by
  have e1 : xh__law_heard "Overlap" = true := rfl
  have e2 : isi_BadLength (.err "Overlap" [("length", .int n)]) = some false := rfl
  have e3 : isi_BadPlace (.err "Overlap" [("length", .int n)]) = some false := rfl
  have e4 : isi_Overlap (.err "Overlap" [("length", .int n)]) = some true := rfl
  have e5 : xaD ["Overlap"] "length" (.err "Overlap" [("length", .int n)]) = .ok (.int n) := rfl
  rw [lz__law_heard]
  unfold L__law_heard
  simp -implicitDefEqProofs -dsimp only [implies_true, isS_str, s_bdx, s_bd, ↓k_bd, k_bd, k_bdx, k_bdd, s_nox, k_bdF, k_bdFr, k_bdFx, s_finr, s_finn, s_find, k_bdFd, ↓reduceIte, s_asB, s_ul1, s_ul2, s_ul3, s_sub, s_add, s_neg, s_eq, s_len, s_itl, s_itt, s_opt, List.length_cons, List.length_nil, decide_true, decide_false, Bool.not_true, Bool.not_false, if_true, if_false, Bool.false_eq_true, Nat.reduceAdd, z0L, z1L, z2L, z3L, z4L, z5L, z6L, z7L, z8L, z9L, z10L, z11L, z12L, z0l, z1l, z2l, z3l, z4l, l_asI, l_finx, l_finIx, l_finI, l_un2, l_un3, l_un4, l_ne, l_nes, l_neb, l_gt, l_ix0, l_ix1, l_ix2, l_ix3, l_it0, l_it1, l_it2, l_it3, s_draw, k_bdbd, k_bdFbd, k_finbd, tryT_ex, e1, e2, e3, e4, e5, h]
theorem to_overlap {F : Fr} {t : Tb} {B : Int} {M : Nat} (h : Fx F t B M) (hM : M ≤ 16000) {n p : Int} (hn : 1 ≤ n ∧ n ≤ N40) (e : n % 4 = F.r) (hp : 0 ≤ p ∧ p < n) (u : ¬ Usab n t) : F_Form_to (fmD F.r F.w F.s t) (.int n) (.int p) = .ex "Overlap" [("length", .int n)] := by
  have i1 : ∀ k : Tr D, isO "Form" (fmD F.r F.w F.s t) (fun fs => if fs.lookup ("need_own_length" : Str) = none then k else .bad) = k := fun k => Tel.isO ⟨t, rfl, h⟩ "need_own_length" (by decide) k
  have i2 : ∀ k : Tr D, isO "Shape" (shD F.r F.w F.s t) (fun fs => if fs.lookup ("marked_seats" : Str) = none then k else .bad) = k := fun k => Tsh.isO ⟨t, rfl, h⟩ "marked_seats" (by decide) (by decide) (by decide) (by decide) k
  have qm := q_marked h hM (show 0 < n by omega)
  rw [if_neg u] at qm
  have en : isN .non = true := rfl
  rw [lz_Form_to]
  unfold L_Form_to
  simp -implicitDefEqProofs -dsimp only [implies_true, isS_str, s_bdx, s_bd, ↓k_bd, k_bd, k_bdx, k_bdd, s_nox, k_bdF, k_bdFr, k_bdFx, s_finr, s_finn, s_find, k_bdFd, ↓reduceIte, s_asB, s_ul1, s_ul2, s_ul3, s_sub, s_add, s_neg, s_eq, s_len, s_itl, s_itt, s_opt, List.length_cons, List.length_nil, decide_true, decide_false, Bool.not_true, Bool.not_false, if_true, if_false, Bool.false_eq_true, Nat.reduceAdd, z0L, z1L, z2L, z3L, z4L, z5L, z6L, z7L, z8L, z9L, z10L, z11L, z12L, z0l, z1l, z2l, z3l, z4l, l_asI, l_finx, l_finIx, l_finI, l_un2, l_un3, l_un4, l_ne, l_nes, l_neb, l_gt, l_ix0, l_ix1, l_ix2, l_ix3, l_it0, l_it1, l_it2, l_it3, s_draw, k_bdbd, k_bdFbd, k_finbd, i1, s_ul2, q_own t hn e, q_need_place hn hp, f_shape, i2, qm, en]
theorem small_lay : ∀ n : Fin 61, rpT (reprD (.int (n.val : Int))) = true := by decide +kernel
theorem rep_n {n : Int} (h0 : 0 ≤ n) (h1 : n ≤ 60) : ∃ x, reprD (.int n) = .ok (.str x) ∧ (PyData.str x).canLay0 = true := by
  refine rp_of ?_
  have := small_lay ⟨n.toNat, by omega⟩
  rw [show (((⟨n.toNat, by omega⟩ : Fin 61).val : Nat) : Int) = n by show ((n.toNat : Nat) : Int) = n; omega] at this
  exact this
theorem repr_bl (b : Bool) : ∃ x, reprD (.bl b) = .ok (.str x) := by cases b <;> exact ⟨_, rfl⟩
theorem repr_ints {ns : List Int} (hl : ns.length ≤ 100) (h : ∀ x ∈ ns, -(10 ^ 90) < x ∧ x < 10 ^ 90) : ∃ x, reprD (.lst (ns.map D.int)) = .ok (.str x) :=
  (Sh.lst (ShL.ints (ns := ns) fun x hx => by have := h x hx; omega)).repr (by decide) (by omega)
end Lw
end
section
set_option Elab.async false
set_option linter.all false
set_option maxRecDepth 100000
set_option maxHeartbeats 1000000
namespace Lw
open PySem Gp Fo
theorem rgD_nat (n : Int) : rgD 0 n.toNat = (List.range n.toNat).map fun i : Nat => D.int (i : Int) := by
  unfold rgD
  exact List.map_congr_left fun i _ => by rw [Int.zero_add]
theorem q_small {P : Pts} (h : P.Ok) {n : Int} (hn : 1 ≤ n ∧ n ≤ 60) (e4 : n % 4 = P.r) : F__law_small_right (fmD P.r P.w P.s (ofT P.R)) P.d (.int n) = .ok (.bl true) := by
  have hN : N40 = 10 ^ 40 := by decide
  have hn40 : 1 ≤ n ∧ n ≤ N40 := by omega
  have g : rg1 (.int n) = .ok (rgD 0 n.toNat) := by
    unfold rg1
    dsimp only
    rw [if_pos (by omega)]
  have qm := q_lmarked h (show 0 < n by omega)
  have qu := q_usable (F := P.F) h.fx (by decide) hn40 e4
  have i1 : ∀ k : Tr D, isO "Form" (fmD P.r P.w P.s (ofT P.R)) (fun fs => if fs.lookup ("is_usable" : Str) = none then k else .bad) = k := fun k => Tel.isO (F := P.F) ⟨_, rfl, h.fx⟩ "is_usable" (by decide) k
  have i2 : ∀ k : Tr D, isO "Form" (fmD P.r P.w P.s (ofT P.R)) (fun fs => if fs.lookup ("to" : Str) = none then k else .bad) = k := fun k => Tel.isO (F := P.F) ⟨_, rfl, h.fx⟩ "to" (by decide) k
  have pf : fmD P.F.r P.F.w P.F.s (ofT P.R) = fmD P.r P.w P.s (ofT P.R) := rfl
  rw [pf] at qu
  rw [lz__law_small_right]
  unfold L__law_small_right
  by_cases u : Usab n (ofT P.R)
  · rw [if_pos u] at qm
    rw [decide_eq_true u] at qu
    have en : isN (dkD (markT n (ofT P.R))) = false := rfl
    have eb := repr_bl true
    obtain ⟨x, ex⟩ := eb
    have ex2 : reprD (.bl (!false)) = .ok (.str x) := ex
    simp -implicitDefEqProofs -dsimp only [implies_true, isS_str, s_bdx, s_bd, ↓k_bd, k_bd, k_bdx, k_bdd, s_nox, k_bdF, k_bdFr, k_bdFx, s_finr, s_finn, s_find, k_bdFd, ↓reduceIte, s_asB, s_ul1, s_ul2, s_ul3, s_sub, s_add, s_neg, s_eq, s_len, s_itl, s_itt, s_opt, List.length_cons, List.length_nil, decide_true, decide_false, Bool.not_true, Bool.not_false, if_true, if_false, Bool.false_eq_true, Nat.reduceAdd, z0L, z1L, z2L, z3L, z4L, z5L, z6L, z7L, z8L, z9L, z10L, z11L, z12L, z0l, z1l, z2l, z3l, z4l, l_asI, l_finx, l_finIx, l_finI, l_un2, l_un3, l_un4, l_ne, l_nes, l_neb, l_gt, l_ix0, l_ix1, l_ix2, l_ix3, l_it0, l_it1, l_it2, l_it3, s_draw, k_bdbd, k_bdFbd, k_finbd, qm, en, i1, s_ul2, qu, ex, ex2, g]
    have c1 : lcF (fun l_place => nox (bdk (nox (isO "Form" (fmD P.r P.w P.s (ofT P.R)) fun fs => if fs.lookup ("to" : Str) = none then F_Form_to (fmD P.r P.w P.s (ofT P.R)) (.int n) l_place else .bad)) fun y => .ok (some y))) (rgD 0 n.toNat) = .ok ((toldL P.F (ofT P.R) n).map D.int) := by
      rw [rgD_nat]
      unfold toldL
      rw [List.map_map, lc_ge (h := fun i : Nat => D.int (i : Int)) (g := fun i : Nat => D.int (toS P.F (ofT P.R) n (i : Int)))]
      · rfl
      · intro i hi
        have hi := List.mem_range.mp hi
        have q := q_fto h.fx (by decide) hn40 e4 (p := (i : Int)) ⟨by omega, by omega⟩ u
        rw [pf] at q
        rw [i2, q]
        rfl
    have c2 : lcF (fun l_place => nox (bdk (F__law_brought P.d (.int n) l_place) fun y => .ok (some y))) (rgD 0 n.toNat) = .ok ((toldL P.F (ofT P.R) n).map D.int) := by
      rw [rgD_nat]
      unfold toldL
      rw [List.map_map, lc_ge (h := fun i : Nat => D.int (i : Int)) (g := fun i : Nat => D.int (toS P.F (ofT P.R) n (i : Int)))]
      · rfl
      · intro i hi
        rw [q_lbrought h hn.1 u]
        rfl
    have rx := repr_ints (ns := toldL P.F (ofT P.R) n) (by unfold toldL; rw [List.length_map, List.length_range]; omega) fun x hx => by
      obtain ⟨i, hi, rfl⟩ := List.mem_map.mp hx
      have s := markS_rn h.fx (show 0 < n by omega) u (aheadS_rn P.F (show 0 < n by omega) (seatZ n i))
      have r := placeZ_rng s.1 s.2
      have e : toS P.F (ofT P.R) n (i : Int) = placeZ n (markS n (ofT P.R) (aheadS P.F n (seatZ n i))) := rfl
      rw [e]
      have b90 : (60 : Int) < 10 ^ 90 := by decide
      omega
    obtain ⟨y, ey⟩ := rx
    have ga : rgA1 (.int n) = .ok (0, n) := rfl
    have gb : rgOk 0 n := by unfold rgOk; omega
    have ts := told_sort h.fx (show 0 < n by omega) u
    have rr : rgD 0 n.toNat = ((List.range n.toNat).map fun i : Nat => (i : Int)).map D.int := by
      rw [rgD_nat, List.map_map]
      rfl
    rw [c1]
    simp -implicitDefEqProofs -dsimp only [implies_true, isS_str, s_bdx, s_bd, ↓k_bd, k_bd, k_bdx, k_bdd, s_nox, k_bdF, k_bdFr, k_bdFx, s_finr, s_finn, s_find, k_bdFd, ↓reduceIte, s_asB, s_ul1, s_ul2, s_ul3, s_sub, s_add, s_neg, s_eq, s_len, s_itl, s_itt, s_opt, List.length_cons, List.length_nil, decide_true, decide_false, Bool.not_true, Bool.not_false, if_true, if_false, Bool.false_eq_true, Nat.reduceAdd, z0L, z1L, z2L, z3L, z4L, z5L, z6L, z7L, z8L, z9L, z10L, z11L, z12L, z0l, z1l, z2l, z3l, z4l, l_asI, l_finx, l_finIx, l_finI, l_un2, l_un3, l_un4, l_ne, l_nes, l_neb, l_gt, l_ix0, l_ix1, l_ix2, l_ix3, l_it0, l_it1, l_it2, l_it3, s_draw, k_bdbd, k_bdFbd, k_finbd, g, c2, ey, s_eqs, lc_int, s_sortD, ts, ga, Int.sub_zero]
    rw [if_pos gb]
    simp -implicitDefEqProofs -dsimp only [implies_true, isS_str, s_bdx, s_bd, ↓k_bd, k_bd, k_bdx, k_bdd, s_nox, k_bdF, k_bdFr, k_bdFx, s_finr, s_finn, s_find, k_bdFd, ↓reduceIte, s_asB, s_ul1, s_ul2, s_ul3, s_sub, s_add, s_neg, s_eq, s_len, s_itl, s_itt, s_opt, List.length_cons, List.length_nil, decide_true, decide_false, Bool.not_true, Bool.not_false, if_true, if_false, Bool.false_eq_true, Nat.reduceAdd, z0L, z1L, z2L, z3L, z4L, z5L, z6L, z7L, z8L, z9L, z10L, z11L, z12L, z0l, z1l, z2l, z3l, z4l, l_asI, l_finx, l_finIx, l_finI, l_un2, l_un3, l_un4, l_ne, l_nes, l_neb, l_gt, l_ix0, l_ix1, l_ix2, l_ix3, l_it0, l_it1, l_it2, l_it3, s_draw, k_bdbd, k_bdFbd, k_finbd, rr, s_eq_ints]
  · rw [if_neg u] at qm
    rw [decide_eq_false u] at qu
    have en : isN .non = true := rfl
    have eb := repr_bl false
    obtain ⟨x, ex⟩ := eb
    have ex2 : reprD (.bl (!true)) = .ok (.str x) := ex
    have er := rep_n (show 0 ≤ n by omega) hn.2
    obtain ⟨z, ez, hz⟩ := er
    simp -implicitDefEqProofs -dsimp only [implies_true, isS_str, s_bdx, s_bd, ↓k_bd, k_bd, k_bdx, k_bdd, s_nox, k_bdF, k_bdFr, k_bdFx, s_finr, s_finn, s_find, k_bdFd, ↓reduceIte, s_asB, s_ul1, s_ul2, s_ul3, s_sub, s_add, s_neg, s_eq, s_len, s_itl, s_itt, s_opt, List.length_cons, List.length_nil, decide_true, decide_false, Bool.not_true, Bool.not_false, if_true, if_false, Bool.false_eq_true, Nat.reduceAdd, z0L, z1L, z2L, z3L, z4L, z5L, z6L, z7L, z8L, z9L, z10L, z11L, z12L, z0l, z1l, z2l, z3l, z4l, l_asI, l_finx, l_finIx, l_finI, l_un2, l_un3, l_un4, l_ne, l_nes, l_neb, l_gt, l_ix0, l_ix1, l_ix2, l_ix3, l_it0, l_it1, l_it2, l_it3, s_draw, k_bdbd, k_bdFbd, k_finbd, qm, en, i1, s_ul2, qu, ex, ex2, g, ez]
    have c3 : lcF (fun l_place => nox (bdk (nox (F__law_heard (isO "Form" (fmD P.r P.w P.s (ofT P.R)) fun fs => if fs.lookup ("to" : Str) = none then F_Form_to (fmD P.r P.w P.s (ofT P.R)) (.int n) l_place else .bad))) fun y => .ok (some y))) (rgD 0 n.toNat) = .ok ((List.range n.toNat).map fun _ => D.tup [.str "overlap", .str z]) := by
      rw [rgD_nat, lc_ge (h := fun i : Nat => D.int (i : Int)) (g := fun _ => D.tup [.str "overlap", .str z])]
      intro i hi
      have hi := List.mem_range.mp hi
      have q := to_overlap h.fx (by decide) hn40 e4 (p := (i : Int)) ⟨by omega, by omega⟩ u
      rw [pf] at q
      rw [i2, q, heard_overlap ez]
      rfl
    have ml : mulD (.lst [.tup [.str "overlap", .str z]]) (.int n) = .ok (.lst ((List.range n.toNat).map fun _ => D.tup [.str "overlap", .str z])) := by
      have e : (List.replicate n.toNat [D.tup [.str "overlap", .str z]]).flatten = (List.range n.toNat).map fun _ => D.tup [.str "overlap", .str z] := by
        generalize n.toNat = k
        induction k with
        | zero => rfl
        | succ k ih => rw [List.replicate_succ', List.flatten_append, ih, List.range_succ, List.map_append]; rfl
      rw [← e]
      refine if_pos ⟨by omega, by omega, ?_⟩
      show 1 * n.toNat ≤ sizeLine
      exact Nat.le_trans (m := 60) (by omega) (by decide)
    have tx : Tp (.tup [.str "overlap", .str z]) (.tuple [.str "overlap", .str z]) 1 := .tup (n := 0) (.cons (.str lay_overlap _) (.cons (.str hz _) (.nil _)))
    have eqx : eqD (.lst ((List.range n.toNat).map fun _ => D.tup [.str "overlap", .str z])) (.lst ((List.range n.toNat).map fun _ => D.tup [.str "overlap", .str z])) = .ok (.bl true) :=
      (Tp.lst (n := 1) (.map (g := fun _ : Nat => .tup [.str "overlap", .str z]) (h := fun _ => .tuple [.str "overlap", .str z]) fun _ _ => tx)).eq (by decide) rfl
    rw [c3]
    simp -implicitDefEqProofs -dsimp only [implies_true, isS_str, s_bdx, s_bd, ↓k_bd, k_bd, k_bdx, k_bdd, s_nox, k_bdF, k_bdFr, k_bdFx, s_finr, s_finn, s_find, k_bdFd, ↓reduceIte, s_asB, s_ul1, s_ul2, s_ul3, s_sub, s_add, s_neg, s_eq, s_len, s_itl, s_itt, s_opt, List.length_cons, List.length_nil, decide_true, decide_false, Bool.not_true, Bool.not_false, if_true, if_false, Bool.false_eq_true, Nat.reduceAdd, z0L, z1L, z2L, z3L, z4L, z5L, z6L, z7L, z8L, z9L, z10L, z11L, z12L, z0l, z1l, z2l, z3l, z4l, l_asI, l_finx, l_finIx, l_finI, l_un2, l_un3, l_un4, l_ne, l_nes, l_neb, l_gt, l_ix0, l_ix1, l_ix2, l_ix3, l_it0, l_it1, l_it2, l_it3, s_draw, k_bdbd, k_bdFbd, k_finbd, ez, ml, eqx]
end Lw
end
section
set_option Elab.async false
set_option linter.all false
set_option maxRecDepth 100000
set_option maxHeartbeats 1000000
namespace Lw
open PySem Gp Fo
theorem b_far {P : Pts} (h : P.Ok) : Bx (fun d => d = .bl true) (F__law_far_right .pen (fmD P.r P.w P.s (ofT P.R)) P.d) 5 := by
  have hN : N40 = 10 ^ 40 := by decide
  have m4 : ∀ j : Int, mulD (.int 4) (.int j) = .ok (.int (4 * j)) := fun j => s_mul (.inl (by decide))
  have hr := h.r
  have h0 : ixD P.d (.int 0) = .ok (.int P.r) := rfl
  have pf : fmD P.F.r P.F.w P.F.s (ofT P.R) = fmD P.r P.w P.s (ofT P.R) := rfl
  have i1 : ∀ k : Tr D, isO "Form" (fmD P.r P.w P.s (ofT P.R)) (fun fs => if fs.lookup ("is_usable" : Str) = none then k else .bad) = k := fun k => Tel.isO (F := P.F) ⟨_, rfl, h.fx⟩ "is_usable" (by decide) k
  have i2 : ∀ k : Tr D, isO "Form" (fmD P.r P.w P.s (ofT P.R)) (fun fs => if fs.lookup ("to" : Str) = none then k else .bad) = k := fun k => Tel.isO (F := P.F) ⟨_, rfl, h.fx⟩ "to" (by decide) k
  rw [lz__law_far_right]
  unfold L__law_far_right
  simp -implicitDefEqProofs -dsimp only [implies_true, isS_str, s_bdx, s_bd, ↓k_bd, k_bd, k_bdx, k_bdd, s_nox, k_bdF, k_bdFr, k_bdFx, s_finr, s_finn, s_find, k_bdFd, ↓reduceIte, s_asB, s_ul1, s_ul2, s_ul3, s_sub, s_add, s_neg, s_eq, s_len, s_itl, s_itt, s_opt, List.length_cons, List.length_nil, decide_true, decide_false, Bool.not_true, Bool.not_false, if_true, if_false, Bool.false_eq_true, Nat.reduceAdd, z0L, z1L, z2L, z3L, z4L, z5L, z6L, z7L, z8L, z9L, z10L, z11L, z12L, z0l, z1l, z2l, z3l, z4l, l_asI, l_finx, l_finIx, l_finI, l_un2, l_un3, l_un4, l_ne, l_nes, l_neb, l_gt, l_ix0, l_ix1, l_ix2, l_ix3, l_it0, l_it1, l_it2, l_it3, s_draw, k_bdbd, k_bdFbd, k_finbd, m4, k_bdd, h0]
  refine bx_draw (n := 4) (by decide) (by decide) fun c c0 c1 => ?_
  obtain ⟨n, en⟩ : ∃ n : Int, n = 4 * 1000000000000000000000000000000000000000 + 4 * c + P.r := ⟨_, rfl⟩
  have e4 : n % 4 = P.r := by omega
  have hn : 1 ≤ n ∧ n ≤ N40 := by omega
  try simp -implicitDefEqProofs -dsimp only [implies_true, isS_str, s_bdx, s_bd, ↓k_bd, k_bd, k_bdx, k_bdd, s_nox, k_bdF, k_bdFr, k_bdFx, s_finr, s_finn, s_find, k_bdFd, ↓reduceIte, s_asB, s_ul1, s_ul2, s_ul3, s_sub, s_add, s_neg, s_eq, s_len, s_itl, s_itt, s_opt, List.length_cons, List.length_nil, decide_true, decide_false, Bool.not_true, Bool.not_false, if_true, if_false, Bool.false_eq_true, Nat.reduceAdd, z0L, z1L, z2L, z3L, z4L, z5L, z6L, z7L, z8L, z9L, z10L, z11L, z12L, z0l, z1l, z2l, z3l, z4l, l_asI, l_finx, l_finIx, l_finI, l_un2, l_un3, l_un4, l_ne, l_nes, l_neb, l_gt, l_ix0, l_ix1, l_ix2, l_ix3, l_it0, l_it1, l_it2, l_it3, s_draw, k_bdbd, k_bdFbd, k_finbd, h0]
  rw [← en]
  simp -implicitDefEqProofs -dsimp only [implies_true, isS_str, s_bdx, s_bd, ↓k_bd, k_bd, k_bdx, k_bdd, s_nox, k_bdF, k_bdFr, k_bdFx, s_finr, s_finn, s_find, k_bdFd, ↓reduceIte, s_asB, s_ul1, s_ul2, s_ul3, s_sub, s_add, s_neg, s_eq, s_len, s_itl, s_itt, s_opt, List.length_cons, List.length_nil, decide_true, decide_false, Bool.not_true, Bool.not_false, if_true, if_false, Bool.false_eq_true, Nat.reduceAdd, z0L, z1L, z2L, z3L, z4L, z5L, z6L, z7L, z8L, z9L, z10L, z11L, z12L, z0l, z1l, z2l, z3l, z4l, l_asI, l_finx, l_finIx, l_finI, l_un2, l_un3, l_un4, l_ne, l_nes, l_neb, l_gt, l_ix0, l_ix1, l_ix2, l_ix3, l_it0, l_it1, l_it2, l_it3, s_draw, k_bdbd, k_bdFbd, k_finbd, k_bdd, s_div2]
  have hb : (10 : Int) ^ 40 < 10 ^ 100 := by decide
  refine bx_draw (n := 3) (by decide) (by decide) fun a a0 a1 => bx_draw (n := 2) (by decide) (by decide) fun b b0 b1 => ?_
  refine bx_draw (n := 1) (by decide) (by decide) fun k k0 k1 => bx_draw (n := 0) (by omega) (by omega) fun m m0 m1 => ?_
  have ad : ∀ a b c d : D, addD (.lst [a, b]) (.lst [c, d]) = .ok (.lst [a, b, c, d]) := fun a b c d => (if_pos (show 2 + 2 ≤ sizeLine by decide) : (if [a, b].length + [c, d].length ≤ sizeLine then Tr.ok (D.lst ([a, b] ++ [c, d])) else .bad) = _)
  have u := usab_far h.fx.rep h.fx.ok.b (by decide) h.fx.far (n := n) (by omega)
  have qu := q_usable (F := P.F) h.fx (by decide) hn e4
  rw [pf, decide_eq_true u] at qu
  have ib : isBD (.bl true) (.bl true) = .ok (.bl true) := rfl
  simp -implicitDefEqProofs -dsimp only [implies_true, isS_str, s_bdx, s_bd, ↓k_bd, k_bd, k_bdx, k_bdd, s_nox, k_bdF, k_bdFr, k_bdFx, s_finr, s_finn, s_find, k_bdFd, ↓reduceIte, s_asB, s_ul1, s_ul2, s_ul3, s_sub, s_add, s_neg, s_eq, s_len, s_itl, s_itt, s_opt, List.length_cons, List.length_nil, decide_true, decide_false, Bool.not_true, Bool.not_false, if_true, if_false, Bool.false_eq_true, Nat.reduceAdd, z0L, z1L, z2L, z3L, z4L, z5L, z6L, z7L, z8L, z9L, z10L, z11L, z12L, z0l, z1l, z2l, z3l, z4l, l_asI, l_finx, l_finIx, l_finI, l_un2, l_un3, l_un4, l_ne, l_nes, l_neb, l_gt, l_ix0, l_ix1, l_ix2, l_ix3, l_it0, l_it1, l_it2, l_it3, s_draw, k_bdbd, k_bdFbd, k_finbd, ad]
  refine bk_loopU (c := 0) (b := 0) (fun d hd => ?_) ?_ (by omega)
  · have hp : ∃ p : Int, d = .int p ∧ 0 ≤ p ∧ p < n := by
      simp only [List.mem_cons, List.not_mem_nil, or_false] at hd
      rcases hd with rfl | rfl | rfl | rfl
      · exact ⟨_, rfl, by omega, by omega⟩
      · exact ⟨_, rfl, by omega, by omega⟩
      · exact ⟨_, rfl, by omega, by omega⟩
      · exact ⟨_, rfl, by omega, by omega⟩
    obtain ⟨p, rfl, p0, p1⟩ := hp
    have q := q_fto h.fx (by decide) hn e4 ⟨p0, p1⟩ u
    rw [pf] at q
    have s := markS_rn h.fx (show 0 < n by omega) u (aheadS_rn P.F (show 0 < n by omega) (seatZ n p))
    have r := placeZ_rng s.1 s.2
    have e : toS P.F (ofT P.R) n p = placeZ n (markS n (ofT P.R) (aheadS P.F n (seatZ n p))) := rfl
    have rx := repr_int (i := toS P.F (ofT P.R) n p) (by rw [e]; omega) (by rw [e]; omega)
    obtain ⟨x, ex⟩ := rx
    simp -implicitDefEqProofs -dsimp only [implies_true, isS_str, s_bdx, s_bd, ↓k_bd, k_bd, k_bdx, k_bdd, s_nox, k_bdF, k_bdFr, k_bdFx, s_finr, s_finn, s_find, k_bdFd, ↓reduceIte, s_asB, s_ul1, s_ul2, s_ul3, s_sub, s_add, s_neg, s_eq, s_len, s_itl, s_itt, s_opt, List.length_cons, List.length_nil, decide_true, decide_false, Bool.not_true, Bool.not_false, if_true, if_false, Bool.false_eq_true, Nat.reduceAdd, z0L, z1L, z2L, z3L, z4L, z5L, z6L, z7L, z8L, z9L, z10L, z11L, z12L, z0l, z1l, z2l, z3l, z4l, l_asI, l_finx, l_finIx, l_finI, l_un2, l_un3, l_un4, l_ne, l_nes, l_neb, l_gt, l_ix0, l_ix1, l_ix2, l_ix3, l_it0, l_it1, l_it2, l_it3, s_draw, k_bdbd, k_bdFbd, k_finbd, i2, s_ul3, q, ex, q_lbrought h hn.1 u, l_nes]
    exact bx_ok rfl
  · simp -implicitDefEqProofs -dsimp only [implies_true, isS_str, s_bdx, s_bd, ↓k_bd, k_bd, k_bdx, k_bdd, s_nox, k_bdF, k_bdFr, k_bdFx, s_finr, s_finn, s_find, k_bdFd, ↓reduceIte, s_asB, s_ul1, s_ul2, s_ul3, s_sub, s_add, s_neg, s_eq, s_len, s_itl, s_itt, s_opt, List.length_cons, List.length_nil, decide_true, decide_false, Bool.not_true, Bool.not_false, if_true, if_false, Bool.false_eq_true, Nat.reduceAdd, z0L, z1L, z2L, z3L, z4L, z5L, z6L, z7L, z8L, z9L, z10L, z11L, z12L, z0l, z1l, z2l, z3l, z4l, l_asI, l_finx, l_finIx, l_finI, l_un2, l_un3, l_un4, l_ne, l_nes, l_neb, l_gt, l_ix0, l_ix1, l_ix2, l_ix3, l_it0, l_it1, l_it2, l_it3, s_draw, k_bdbd, k_bdFbd, k_finbd, i1, s_ul2, qu, ib]
    exact bx_ok rfl
def odL (r : Int) : List D := [.int (r + 40 + 1), .int (r + 40 - 2), .int 0, .int (-4), .non, .bl true, .str (if r = 0 then "40" else if r = 1 then "41" else if r = 2 then "42" else "43"), .tup [.int (r + 40)], .int (4 * 10000000000000000000000000000000000000000 + r)]
def leZ (r : Int) : Int := r + 4 * (if r = 0 then 1 else 0)
def plL (r : Int) : List D := [.int (leZ r), .int (-1), .non, .bl true, .str "0", .tup [.int 0]]
theorem od_own {r w : Int} {s : Pt} {t : Tb} (hr : 0 ≤ r ∧ r < 4) : ∀ d ∈ odL r, F_Form_need_own_length (fmD r w s t) d = .ex "BadLength" [("value", d)] := fun d hd => by
  rcases (show r = 0 ∨ r = 1 ∨ r = 2 ∨ r = 3 by omega) with rfl | rfl | rfl | rfl
  all_goals
    simp only [odL, List.mem_cons, List.not_mem_nil, or_false] at hd
    rcases hd with rfl | rfl | rfl | rfl | rfl | rfl | rfl | rfl | rfl <;> rfl
theorem od_rep {r : Int} (hr : 0 ≤ r ∧ r < 4) : ∀ d ∈ odL r, rpT (reprD d) = true := by
  rcases (show r = 0 ∨ r = 1 ∨ r = 2 ∨ r = 3 by omega) with rfl | rfl | rfl | rfl <;> decide +kernel
theorem pl_place {r : Int} (hr : 0 ≤ r ∧ r < 4) : ∀ d ∈ plL r, F_need_place (.int (leZ r)) d = .ex "BadPlace" [("value", d)] := fun d hd => by
  rcases (show r = 0 ∨ r = 1 ∨ r = 2 ∨ r = 3 by omega) with rfl | rfl | rfl | rfl
  all_goals
    simp only [plL, List.mem_cons, List.not_mem_nil, or_false] at hd
    rcases hd with rfl | rfl | rfl | rfl | rfl | rfl <;> rfl
theorem pl_rep {r : Int} (hr : 0 ≤ r ∧ r < 4) : ∀ d ∈ plL r, rpT (reprD d) = true := by
  rcases (show r = 0 ∨ r = 1 ∨ r = 2 ∨ r = 3 by omega) with rfl | rfl | rfl | rfl <;> decide +kernel
theorem od_str {r : Int} (hr : 0 ≤ r ∧ r < 4) : Gp.strD (.int (r + 40)) = .ok (.str (if r = 0 then "40" else if r = 1 then "41" else if r = 2 then "42" else "43")) := by
  rcases (show r = 0 ∨ r = 1 ∨ r = 2 ∨ r = 3 by omega) with rfl | rfl | rfl | rfl <;> rfl
end Lw
end
section
set_option Elab.async false
set_option linter.all false
set_option maxRecDepth 100000
set_option maxHeartbeats 1000000
namespace Lw
open PySem Gp Fo
theorem lay_length : (PyData.str "length").canLay0 = true := by decide +kernel
theorem lay_place : (PyData.str "place").canLay0 = true := by decide +kernel
theorem od_to {F : Fr} {t : Tb} {B : Int} {M : Nat} (h : Fx F t B M) {d p : D} {fs : Fs} {c : Str} (e : F_Form_need_own_length (fmD F.r F.w F.s t) d = .ex c fs) : F_Form_to (fmD F.r F.w F.s t) d p = .ex c fs := by
  have i1 : ∀ k : Tr D, isO "Form" (fmD F.r F.w F.s t) (fun fs => if fs.lookup ("need_own_length" : Str) = none then k else .bad) = k := fun k => Tel.isO ⟨t, rfl, h⟩ "need_own_length" (by decide) k
  rw [lz_Form_to]
  unfold L_Form_to
  simp -implicitDefEqProofs -dsimp only [implies_true, isS_str, s_bdx, s_bd, ↓k_bd, k_bd, k_bdx, k_bdd, s_nox, k_bdF, k_bdFr, k_bdFx, s_finr, s_finn, s_find, k_bdFd, ↓reduceIte, s_asB, s_ul1, s_ul2, s_ul3, s_sub, s_add, s_neg, s_eq, s_len, s_itl, s_itt, s_opt, List.length_cons, List.length_nil, decide_true, decide_false, Bool.not_true, Bool.not_false, if_true, if_false, Bool.false_eq_true, Nat.reduceAdd, z0L, z1L, z2L, z3L, z4L, z5L, z6L, z7L, z8L, z9L, z10L, z11L, z12L, z0l, z1l, z2l, z3l, z4l, l_asI, l_finx, l_finIx, l_finI, l_un2, l_un3, l_un4, l_ne, l_nes, l_neb, l_gt, l_ix0, l_ix1, l_ix2, l_ix3, l_it0, l_it1, l_it2, l_it3, s_draw, k_bdbd, k_bdFbd, k_finbd, i1, s_ul2, e]
theorem od_us {F : Fr} {t : Tb} {B : Int} {M : Nat} (h : Fx F t B M) {d : D} {fs : Fs} {c : Str} (e : F_Form_need_own_length (fmD F.r F.w F.s t) d = .ex c fs) : F_Form_is_usable (fmD F.r F.w F.s t) d = .ex c fs := by
  have i1 : ∀ k : Tr D, isO "Form" (fmD F.r F.w F.s t) (fun fs => if fs.lookup ("need_own_length" : Str) = none then k else .bad) = k := fun k => Tel.isO ⟨t, rfl, h⟩ "need_own_length" (by decide) k
  rw [lz_Form_is_usable]
  unfold L_Form_is_usable
  simp -implicitDefEqProofs -dsimp only [implies_true, isS_str, s_bdx, s_bd, ↓k_bd, k_bd, k_bdx, k_bdd, s_nox, k_bdF, k_bdFr, k_bdFx, s_finr, s_finn, s_find, k_bdFd, ↓reduceIte, s_asB, s_ul1, s_ul2, s_ul3, s_sub, s_add, s_neg, s_eq, s_len, s_itl, s_itt, s_opt, List.length_cons, List.length_nil, decide_true, decide_false, Bool.not_true, Bool.not_false, if_true, if_false, Bool.false_eq_true, Nat.reduceAdd, z0L, z1L, z2L, z3L, z4L, z5L, z6L, z7L, z8L, z9L, z10L, z11L, z12L, z0l, z1l, z2l, z3l, z4l, l_asI, l_finx, l_finIx, l_finI, l_un2, l_un3, l_un4, l_ne, l_nes, l_neb, l_gt, l_ix0, l_ix1, l_ix2, l_ix3, l_it0, l_it1, l_it2, l_it3, s_draw, k_bdbd, k_bdFbd, k_finbd, i1, s_ul2, e]
theorem pl_to {F : Fr} {t : Tb} {B : Int} {M : Nat} (h : Fx F t B M) {n : Int} (hn : 1 ≤ n ∧ n ≤ N40) (e4 : n % 4 = F.r) {p : D} {fs : Fs} {c : Str} (e : F_need_place (.int n) p = .ex c fs) : F_Form_to (fmD F.r F.w F.s t) (.int n) p = .ex c fs := by
  have i1 : ∀ k : Tr D, isO "Form" (fmD F.r F.w F.s t) (fun fs => if fs.lookup ("need_own_length" : Str) = none then k else .bad) = k := fun k => Tel.isO ⟨t, rfl, h⟩ "need_own_length" (by decide) k
  rw [lz_Form_to]
  unfold L_Form_to
  simp -implicitDefEqProofs -dsimp only [implies_true, isS_str, s_bdx, s_bd, ↓k_bd, k_bd, k_bdx, k_bdd, s_nox, k_bdF, k_bdFr, k_bdFx, s_finr, s_finn, s_find, k_bdFd, ↓reduceIte, s_asB, s_ul1, s_ul2, s_ul3, s_sub, s_add, s_neg, s_eq, s_len, s_itl, s_itt, s_opt, List.length_cons, List.length_nil, decide_true, decide_false, Bool.not_true, Bool.not_false, if_true, if_false, Bool.false_eq_true, Nat.reduceAdd, z0L, z1L, z2L, z3L, z4L, z5L, z6L, z7L, z8L, z9L, z10L, z11L, z12L, z0l, z1l, z2l, z3l, z4l, l_asI, l_finx, l_finIx, l_finI, l_un2, l_un3, l_un4, l_ne, l_nes, l_neb, l_gt, l_ix0, l_ix1, l_ix2, l_ix3, l_it0, l_it1, l_it2, l_it3, s_draw, k_bdbd, k_bdFbd, k_finbd, i1, s_ul2, q_own t hn e4, e]
theorem heard_len {d : D} {x : Str} (h : reprD d = .ok (.str x)) : F__law_heard (.ex "BadLength" [("value", d)]) = .ok (.tup [.str "length", .str x]) := by
  have e1 : xh__law_heard "BadLength" = true := rfl
  have e2 : isi_BadLength (.err "BadLength" [("value", d)]) = some true := rfl
  have e5 : xaD ["BadLength", "BadPlace"] "value" (.err "BadLength" [("value", d)]) = .ok d := rfl
  rw [lz__law_heard]
  unfold L__law_heard
  simp -implicitDefEqProofs -dsimp only [implies_true, isS_str, s_bdx, s_bd, ↓k_bd, k_bd, k_bdx, k_bdd, s_nox, k_bdF, k_bdFr, k_bdFx, s_finr, s_finn, s_find, k_bdFd, ↓reduceIte, s_asB, s_ul1, s_ul2, s_ul3, s_sub, s_add, s_neg, s_eq, s_len, s_itl, s_itt, s_opt, List.length_cons, List.length_nil, decide_true, decide_false, Bool.not_true, Bool.not_false, if_true, if_false, Bool.false_eq_true, Nat.reduceAdd, z0L, z1L, z2L, z3L, z4L, z5L, z6L, z7L, z8L, z9L, z10L, z11L, z12L, z0l, z1l, z2l, z3l, z4l, l_asI, l_finx, l_finIx, l_finI, l_un2, l_un3, l_un4, l_ne, l_nes, l_neb, l_gt, l_ix0, l_ix1, l_ix2, l_ix3, l_it0, l_it1, l_it2, l_it3, s_draw, k_bdbd, k_bdFbd, k_finbd, tryT_ex, e1, e2, e5, h]
theorem heard_place {d : D} {x : Str} (h : reprD d = .ok (.str x)) : F__law_heard (.ex "BadPlace" [("value", d)]) = .ok (.tup [.str "place", .str x]) := by
  have e1 : xh__law_heard "BadPlace" = true := rfl
  have e2 : isi_BadLength (.err "BadPlace" [("value", d)]) = some false := rfl
  have e3 : isi_BadPlace (.err "BadPlace" [("value", d)]) = some true := rfl
  have e5 : xaD ["BadLength", "BadPlace"] "value" (.err "BadPlace" [("value", d)]) = .ok d := rfl
  rw [lz__law_heard]
  unfold L__law_heard
  simp -implicitDefEqProofs -dsimp only [implies_true, isS_str, s_bdx, s_bd, ↓k_bd, k_bd, k_bdx, k_bdd, s_nox, k_bdF, k_bdFr, k_bdFx, s_finr, s_finn, s_find, k_bdFd, ↓reduceIte, s_asB, s_ul1, s_ul2, s_ul3, s_sub, s_add, s_neg, s_eq, s_len, s_itl, s_itt, s_opt, List.length_cons, List.length_nil, decide_true, decide_false, Bool.not_true, Bool.not_false, if_true, if_false, Bool.false_eq_true, Nat.reduceAdd, z0L, z1L, z2L, z3L, z4L, z5L, z6L, z7L, z8L, z9L, z10L, z11L, z12L, z0l, z1l, z2l, z3l, z4l, l_asI, l_finx, l_finIx, l_finI, l_un2, l_un3, l_un4, l_ne, l_nes, l_neb, l_gt, l_ix0, l_ix1, l_ix2, l_ix3, l_it0, l_it1, l_it2, l_it3, s_draw, k_bdbd, k_bdFbd, k_finbd, tryT_ex, e1, e2, e3, e5, h]
theorem law_yes : Yes F_law := by
  refine Bo.yes (n := 1000) (by decide) ?_
  refine Bx.bo ?_
  rw [lz_law]
  unfold L_law
  have g : rg1 (.int 4) = .ok (rgD 0 4) := rfl
  simp -implicitDefEqProofs -dsimp only [implies_true, isS_str, s_bdx, s_bd, ↓k_bd, k_bd, k_bdx, k_bdd, s_nox, k_bdF, k_bdFr, k_bdFx, s_finr, s_finn, s_find, k_bdFd, ↓reduceIte, s_asB, s_ul1, s_ul2, s_ul3, s_sub, s_add, s_neg, s_eq, s_len, s_itl, s_itt, s_opt, List.length_cons, List.length_nil, decide_true, decide_false, Bool.not_true, Bool.not_false, if_true, if_false, Bool.false_eq_true, Nat.reduceAdd, z0L, z1L, z2L, z3L, z4L, z5L, z6L, z7L, z8L, z9L, z10L, z11L, z12L, z0l, z1l, z2l, z3l, z4l, l_asI, l_finx, l_finIx, l_finI, l_un2, l_un3, l_un4, l_ne, l_nes, l_neb, l_gt, l_ix0, l_ix1, l_ix2, l_ix3, l_it0, l_it1, l_it2, l_it3, s_draw, k_bdbd, k_bdFbd, k_finbd, g]
  refine bk_loopU (c := 60) (b := 0) (fun d _ => ?_) (bx_ok rfl) (by rw [len_rgD]; omega)
  simp -implicitDefEqProofs -dsimp only [implies_true, isS_str, s_bdx, s_bd, ↓k_bd, k_bd, k_bdx, k_bdd, s_nox, k_bdF, k_bdFr, k_bdFx, s_finr, s_finn, s_find, k_bdFd, ↓reduceIte, s_asB, s_ul1, s_ul2, s_ul3, s_sub, s_add, s_neg, s_eq, s_len, s_itl, s_itt, s_opt, List.length_cons, List.length_nil, decide_true, decide_false, Bool.not_true, Bool.not_false, if_true, if_false, Bool.false_eq_true, Nat.reduceAdd, z0L, z1L, z2L, z3L, z4L, z5L, z6L, z7L, z8L, z9L, z10L, z11L, z12L, z0l, z1l, z2l, z3l, z4l, l_asI, l_finx, l_finIx, l_finI, l_un2, l_un3, l_un4, l_ne, l_nes, l_neb, l_gt, l_ix0, l_ix1, l_ix2, l_ix3, l_it0, l_it1, l_it2, l_it3, s_draw, k_bdbd, k_bdFbd, k_finbd]
  refine bk_then (a := 50) (b := 10) b_parts (fun x hx => ?_) (Nat.le_refl _)
  obtain ⟨P, rfl, h⟩ := hx
  have hr := h.r
  have h0 : ixD P.d (.int 0) = .ok (.int P.r) := rfl
  have m4 : ∀ j : Int, mulD (.int 4) (.int j) = .ok (.int (4 * j)) := fun j => s_mul (.inl (by decide))
  have lf := q_lform h
  simp -implicitDefEqProofs -dsimp only [implies_true, isS_str, s_bdx, s_bd, ↓k_bd, k_bd, k_bdx, k_bdd, s_nox, k_bdF, k_bdFr, k_bdFx, s_finr, s_finn, s_find, k_bdFd, ↓reduceIte, s_asB, s_ul1, s_ul2, s_ul3, s_sub, s_add, s_neg, s_eq, s_len, s_itl, s_itt, s_opt, List.length_cons, List.length_nil, decide_true, decide_false, Bool.not_true, Bool.not_false, if_true, if_false, Bool.false_eq_true, Nat.reduceAdd, z0L, z1L, z2L, z3L, z4L, z5L, z6L, z7L, z8L, z9L, z10L, z11L, z12L, z0l, z1l, z2l, z3l, z4l, l_asI, l_finx, l_finIx, l_finI, l_un2, l_un3, l_un4, l_ne, l_nes, l_neb, l_gt, l_ix0, l_ix1, l_ix2, l_ix3, l_it0, l_it1, l_it2, l_it3, s_draw, k_bdbd, k_bdFbd, k_finbd, lf, h0, s_intb, m4, k_bdd]
  refine bx_draw (n := 9) (by decide) (by decide) fun c c0 c1 => ?_
  have le : P.r + 4 * (if decide (P.r = 0) = true then 1 else 0) = leZ P.r := by
    unfold leZ
    by_cases z : P.r = 0
    · rw [decide_eq_true z, if_pos z, if_pos rfl]
    · rw [decide_eq_false z, if_neg z, if_neg (by decide)]
  have lr : 1 ≤ leZ P.r ∧ leZ P.r ≤ 4 ∧ leZ P.r % 4 = P.r := by
    unfold leZ
    split <;> omega
  have hN : N40 = 10 ^ 40 := by decide
  rw [le]
  have fr : fmD P.F.r P.F.w P.F.s (ofT P.R) = fmD P.r P.w P.s (ofT P.R) := rfl
  refine bk_loopX (I := fun _ _ => True) (c := 0) (b := 9) (fun j d hd w _ => ?_) trivial (fun _ _ => ?_) (by omega)
  · have hd := List.mem_of_getElem? hd
    have hn : ∃ n : Int, d = .int n ∧ (1 ≤ n ∧ n ≤ 60) ∧ n % 4 = P.r := by
      simp only [List.mem_cons, List.not_mem_nil, or_false] at hd
      rcases hd with rfl | rfl | rfl | rfl
      · exact ⟨_, rfl, by omega, lr.2.2⟩
      · exact ⟨_, rfl, by omega, by omega⟩
      · exact ⟨_, rfl, by omega, by omega⟩
      · exact ⟨_, rfl, by omega, by omega⟩
    obtain ⟨n, rfl, hn, e4⟩ := hn
    have qs := q_small h hn e4
    simp -implicitDefEqProofs -dsimp only [implies_true, isS_str, s_bdx, s_bd, ↓k_bd, k_bd, k_bdx, k_bdd, s_nox, k_bdF, k_bdFr, k_bdFx, s_finr, s_finn, s_find, k_bdFd, ↓reduceIte, s_asB, s_ul1, s_ul2, s_ul3, s_sub, s_add, s_neg, s_eq, s_len, s_itl, s_itt, s_opt, List.length_cons, List.length_nil, decide_true, decide_false, Bool.not_true, Bool.not_false, if_true, if_false, Bool.false_eq_true, Nat.reduceAdd, z0L, z1L, z2L, z3L, z4L, z5L, z6L, z7L, z8L, z9L, z10L, z11L, z12L, z0l, z1l, z2l, z3l, z4l, l_asI, l_finx, l_finIx, l_finI, l_un2, l_un3, l_un4, l_ne, l_nes, l_neb, l_gt, l_ix0, l_ix1, l_ix2, l_ix3, l_it0, l_it1, l_it2, l_it3, s_draw, k_bdbd, k_bdFbd, k_finbd, qs]
    exact bx_ok ⟨(), rfl, trivial⟩
  have bf := b_far h
  simp -implicitDefEqProofs -dsimp only [implies_true, isS_str, s_bdx, s_bd, ↓k_bd, k_bd, k_bdx, k_bdd, s_nox, k_bdF, k_bdFr, k_bdFx, s_finr, s_finn, s_find, k_bdFd, ↓reduceIte, s_asB, s_ul1, s_ul2, s_ul3, s_sub, s_add, s_neg, s_eq, s_len, s_itl, s_itt, s_opt, List.length_cons, List.length_nil, decide_true, decide_false, Bool.not_true, Bool.not_false, if_true, if_false, Bool.false_eq_true, Nat.reduceAdd, z0L, z1L, z2L, z3L, z4L, z5L, z6L, z7L, z8L, z9L, z10L, z11L, z12L, z0l, z1l, z2l, z3l, z4l, l_asI, l_finx, l_finIx, l_finI, l_un2, l_un3, l_un4, l_ne, l_nes, l_neb, l_gt, l_ix0, l_ix1, l_ix2, l_ix3, l_it0, l_it1, l_it2, l_it3, s_draw, k_bdbd, k_bdFbd, k_finbd]
  refine bk_then (a := 5) (b := 4) bf (fun x hx => ?_) (by decide)
  subst hx
  have os := od_str hr
  simp -implicitDefEqProofs -dsimp only [implies_true, isS_str, s_bdx, s_bd, ↓k_bd, k_bd, k_bdx, k_bdd, s_nox, k_bdF, k_bdFr, k_bdFx, s_finr, s_finn, s_find, k_bdFd, ↓reduceIte, s_asB, s_ul1, s_ul2, s_ul3, s_sub, s_add, s_neg, s_eq, s_len, s_itl, s_itt, s_opt, List.length_cons, List.length_nil, decide_true, decide_false, Bool.not_true, Bool.not_false, if_true, if_false, Bool.false_eq_true, Nat.reduceAdd, z0L, z1L, z2L, z3L, z4L, z5L, z6L, z7L, z8L, z9L, z10L, z11L, z12L, z0l, z1l, z2l, z3l, z4l, l_asI, l_finx, l_finIx, l_finI, l_un2, l_un3, l_un4, l_ne, l_nes, l_neb, l_gt, l_ix0, l_ix1, l_ix2, l_ix3, l_it0, l_it1, l_it2, l_it3, s_draw, k_bdbd, k_bdFbd, k_finbd, os, m4, z9L]
  refine bk_loopX (I := fun _ _ => True) (c := 0) (b := 0) (fun j d hd w _ => ?_) trivial (fun _ _ => ?_) (by omega)
  · have hd : d ∈ odL P.r := List.mem_of_getElem? hd
    have ho := od_own (w := P.w) (s := P.s) (t := ofT P.R) hr d hd
    have t0 := rp_of (od_rep hr d hd)
    obtain ⟨z, ez, hz⟩ := t0
    have nt : neD (.tup [.str "length", .str z]) (.tup [.str "length", .str z]) = .ok (.bl false) := ne_two lay_length hz
    have o1 := od_to (F := P.F) h.fx (p := .int 0) ho
    have o2 := od_us (F := P.F) h.fx ho
    have o3 := od_to (F := P.F) h.fx (p := .int (-1)) ho
    rw [fr] at o1 o2 o3
    have i1 : ∀ k : Tr D, isO "Form" (fmD P.r P.w P.s (ofT P.R)) (fun fs => if fs.lookup ("is_usable" : Str) = none then k else .bad) = k := fun k => Tel.isO (F := P.F) ⟨_, rfl, h.fx⟩ "is_usable" (by decide) k
    have i2 : ∀ k : Tr D, isO "Form" (fmD P.r P.w P.s (ofT P.R)) (fun fs => if fs.lookup ("to" : Str) = none then k else .bad) = k := fun k => Tel.isO (F := P.F) ⟨_, rfl, h.fx⟩ "to" (by decide) k
    simp -implicitDefEqProofs -dsimp only [implies_true, isS_str, s_bdx, s_bd, ↓k_bd, k_bd, k_bdx, k_bdd, s_nox, k_bdF, k_bdFr, k_bdFx, s_finr, s_finn, s_find, k_bdFd, ↓reduceIte, s_asB, s_ul1, s_ul2, s_ul3, s_sub, s_add, s_neg, s_eq, s_len, s_itl, s_itt, s_opt, List.length_cons, List.length_nil, decide_true, decide_false, Bool.not_true, Bool.not_false, if_true, if_false, Bool.false_eq_true, Nat.reduceAdd, z0L, z1L, z2L, z3L, z4L, z5L, z6L, z7L, z8L, z9L, z10L, z11L, z12L, z0l, z1l, z2l, z3l, z4l, l_asI, l_finx, l_finIx, l_finI, l_un2, l_un3, l_un4, l_ne, l_nes, l_neb, l_gt, l_ix0, l_ix1, l_ix2, l_ix3, l_it0, l_it1, l_it2, l_it3, s_draw, k_bdbd, k_bdFbd, k_finbd, ez, i1, i2, s_ul3, s_ul2, o1, o2, o3, heard_len ez, nt]
    exact bx_ok ⟨(), rfl, trivial⟩
  simp -implicitDefEqProofs -dsimp only [implies_true, isS_str, s_bdx, s_bd, ↓k_bd, k_bd, k_bdx, k_bdd, s_nox, k_bdF, k_bdFr, k_bdFx, s_finr, s_finn, s_find, k_bdFd, ↓reduceIte, s_asB, s_ul1, s_ul2, s_ul3, s_sub, s_add, s_neg, s_eq, s_len, s_itl, s_itt, s_opt, List.length_cons, List.length_nil, decide_true, decide_false, Bool.not_true, Bool.not_false, if_true, if_false, Bool.false_eq_true, Nat.reduceAdd, z0L, z1L, z2L, z3L, z4L, z5L, z6L, z7L, z8L, z9L, z10L, z11L, z12L, z0l, z1l, z2l, z3l, z4l, l_asI, l_finx, l_finIx, l_finI, l_un2, l_un3, l_un4, l_ne, l_nes, l_neb, l_gt, l_ix0, l_ix1, l_ix2, l_ix3, l_it0, l_it1, l_it2, l_it3, s_draw, k_bdbd, k_bdFbd, k_finbd, s_intb, m4]
  rw [le]
  refine bk_loopX (I := fun _ _ => True) (c := 0) (b := 0) (fun j d hd w _ => ?_) trivial (fun _ _ => ?_) (by omega)
  · have hd : d ∈ plL P.r := List.mem_of_getElem? hd
    have hp := pl_place hr d hd
    have t0 := rp_of (pl_rep hr d hd)
    obtain ⟨z, ez, hz⟩ := t0
    have nt : neD (.tup [.str "place", .str z]) (.tup [.str "place", .str z]) = .ok (.bl false) := ne_two lay_place hz
    have o1 := pl_to (F := P.F) h.fx (n := leZ P.r) (by omega) lr.2.2 hp
    rw [fr] at o1
    have i2 : ∀ k : Tr D, isO "Form" (fmD P.r P.w P.s (ofT P.R)) (fun fs => if fs.lookup ("to" : Str) = none then k else .bad) = k := fun k => Tel.isO (F := P.F) ⟨_, rfl, h.fx⟩ "to" (by decide) k
    simp -implicitDefEqProofs -dsimp only [implies_true, isS_str, s_bdx, s_bd, ↓k_bd, k_bd, k_bdx, k_bdd, s_nox, k_bdF, k_bdFr, k_bdFx, s_finr, s_finn, s_find, k_bdFd, ↓reduceIte, s_asB, s_ul1, s_ul2, s_ul3, s_sub, s_add, s_neg, s_eq, s_len, s_itl, s_itt, s_opt, List.length_cons, List.length_nil, decide_true, decide_false, Bool.not_true, Bool.not_false, if_true, if_false, Bool.false_eq_true, Nat.reduceAdd, z0L, z1L, z2L, z3L, z4L, z5L, z6L, z7L, z8L, z9L, z10L, z11L, z12L, z0l, z1l, z2l, z3l, z4l, l_asI, l_finx, l_finIx, l_finI, l_un2, l_un3, l_un4, l_ne, l_nes, l_neb, l_gt, l_ix0, l_ix1, l_ix2, l_ix3, l_it0, l_it1, l_it2, l_it3, s_draw, k_bdbd, k_bdFbd, k_finbd, ez, i2, s_ul3, o1, heard_place ez, nt]
    exact bx_ok ⟨(), rfl, trivial⟩
  exact bx_ok rfl
end Lw
end
section
set_option Elab.async false
set_option linter.all false
set_option maxRecDepth 100000
set_option maxHeartbeats 4000000
set_option pp.maxSteps 600
namespace Lw
open PySem PySem.Spec PyProof.Rows L2 Gh Gp Gz
theorem pm_PromO {P : Program} {w : World} {K : PySem.W.Frag} {mg : Str → Option Value} {base : Heap} {CX : CXT} {k : Nat} {f : Addr} {fd : FuncData} {ps : List Str} {sp : Sp} (G : FnOk P w K mg base CX k f fd ps sp) (b : Binds K fd ps []) : PromO P w K mg base CX k f [] sp := ⟨fd, ps, [], G, b, .nil⟩
theorem pm_Prom {P : Program} {w : World} {K : PySem.W.Frag} {mg : Str → Option Value} {base : Heap} {CX : CXT} {k : Nat} {f : Addr} {fd : FuncData} {ps : List Str} {sp : Sp} (G : FnG P w K mg base CX k f fd ps sp) (b : Binds K fd ps []) : Prom P w K mg base CX k f [] sp := ⟨fd, ps, [], G, b, .nil⟩
def TTl (K : PySem.W.Frag) : List (Addr × Str) := [((He.cT K ("_law_small_right", none)).2, Gp.qlOf d__law_small_right K), ((He.cT K ("law", none)).2, Gp.qlOf d_law K)]
theorem facts {P : Program} {w : World} {K : PySem.W.Frag} {h : Heap} {mg : Str → Option Value} {f : Addr} (X : K.In h) (G : h.Ns mainGlobals mg) (hfa : mg ("law" : Str) = some (.ref f)) (c2 : Gp.SaysS exs fns tfs sds pfile h K) (gl : (He.Fa.glo "law").ok K = true) (hP : ((P.main.file : Str) == pfile) = true ∧ (P.main.scope.names.lookup ("super" : Str)).isSome = false) :
    ∃ fd : FuncData, (∀ (s : Shared) (v : Value), BindsTo s fd ⟨[v], []⟩ [("_law_script", v)]) ∧ ∀ base : Heap, K.In base → base.Ns mainGlobals mg → (∀ p ∈ tfs.map (He.cT K), LamX.TabB base mg p.1 p.2) → FnG P w K mg base CX0 10 f fd ["_law_script"] (spLaw K (TTl K)) := by
  have c := c2.s.t
  have T : Tx K mg := tx_of X G c
  have e := hfa.symm.trans (He.glo_ok X G gl)
  cases e
  obtain ⟨f0, F0⟩ := c.def_ 0 (d := d_BadLength___init__) rfl
  obtain ⟨f1, F1⟩ := c.def_ 1 (d := d_BadPlace___init__) rfl
  obtain ⟨f2, F2⟩ := c.def_ 2 (d := d_Overlap___init__) rfl
  obtain ⟨f3, F3⟩ := c.def_ 3 (d := d__law_pen) rfl
  obtain ⟨f4, F4⟩ := c.def_ 4 (d := d__law_draw) rfl
  obtain ⟨f5, F5⟩ := c.def_ 5 (d := d_is_integer) rfl
  obtain ⟨f6, F6⟩ := c.def_ 6 (d := d_is_within) rfl
  obtain ⟨f7, F7⟩ := c.def_ 7 (d := d_is_length) rfl
  obtain ⟨f8, F8⟩ := c.def_ 8 (d := d_need_length) rfl
  obtain ⟨f9, F9⟩ := c.def_ 9 (d := d_need_place) rfl
  obtain ⟨f10, F10⟩ := c.def_ 10 (d := d_is_rest) rfl
  obtain ⟨f11, F11⟩ := c.def_ 11 (d := d_need_rest) rfl
  obtain ⟨f12, F12⟩ := c.def_ 12 (d := d_seat_at) rfl
  obtain ⟨f13, F13⟩ := c.def_ 13 (d := d_place_at) rfl
  obtain ⟨f14, F14⟩ := c.def_ 14 (d := d_is_offset) rfl
  obtain ⟨f15, F15⟩ := c.def_ 15 (d := d_is_pair_row) rfl
  obtain ⟨f16, F16⟩ := c.def_ 16 (d := d_is_mark_row) rfl
  obtain ⟨f17, F17⟩ := c.def_ 17 (d := d_are_marks) rfl
  obtain ⟨f18, F18⟩ := c.def_ 18 (d := d_Marks___init__) rfl
  obtain ⟨f19, F19⟩ := c.def_ 19 (d := d_Marks_of) rfl
  obtain ⟨f20, F20⟩ := c.def_ 20 (d := d_Shape___init__) rfl
  obtain ⟨f21, F21⟩ := c.def_ 21 (d := d_Shape_seat_ahead) rfl
  obtain ⟨f22, F22⟩ := c.def_ 22 (d := d_Shape_marked_seats) rfl
  obtain ⟨f23, F23⟩ := c.def_ 23 (d := d_is_shift) rfl
  obtain ⟨f24, F24⟩ := c.def_ 24 (d := d_Form___init__) rfl
  obtain ⟨f25, F25⟩ := c.def_ 25 (d := d_Form_rest) rfl
  obtain ⟨f26, F26⟩ := c.def_ 26 (d := d_Form_need_own_length) rfl
  obtain ⟨f27, F27⟩ := c.def_ 27 (d := d_Form_is_usable) rfl
  obtain ⟨f28, F28⟩ := c.def_ 28 (d := d_place_behind) rfl
  obtain ⟨f29, F29⟩ := c.def_ 29 (d := d_Form_to) rfl
  obtain ⟨f30, F30⟩ := c.def_ 30 (d := d__law_pick) rfl
  obtain ⟨f31, F31⟩ := c.def_ 31 (d := d__law_row) rfl
  obtain ⟨f32, F32⟩ := c.def_ 32 (d := d__law_parts) rfl
  obtain ⟨f33, F33⟩ := c.def_ 33 (d := d__law_form) rfl
  obtain ⟨f34, F34⟩ := c.def_ 34 (d := d__law_seat) rfl
  obtain ⟨f35, F35⟩ := c.def_ 35 (d := d__law_place) rfl
  obtain ⟨f36, F36⟩ := c.def_ 36 (d := d__law_marked) rfl
  obtain ⟨f37, F37⟩ := c.def_ 37 (d := d__law_brought) rfl
  obtain ⟨f38, F38⟩ := c.def_ 38 (d := d__law_heard) rfl
  obtain ⟨f39, F39⟩ := c.def_ 39 (d := d__law_small_right) rfl
  obtain ⟨f40, F40⟩ := c.def_ 40 (d := d__law_far_right) rfl
  obtain ⟨f41, F41⟩ := c.def_ 41 (d := d_law) rfl
  have b41 := FunD.bindsA (ps := ["_law_script"]) F41 fun _ _ _ _ _ _ us hl => match us, hl with | [_], _ => rfl
  refine ⟨f41, fun s v => b41 s [v] rfl, fun base _ _ TB => ?_⟩
  have lm__law_small_right : LamD base mg K (TTl K) d__law_small_right ("_law_small_right", none) := ⟨TB _ (List.mem_map.mpr ⟨_, by decide, rfl⟩), by simp only [TTl, List.mem_cons, true_or, or_true], fun p hp e => by
      simp only [TTl, List.mem_cons, List.mem_nil_iff, or_false] at hp
      rcases hp with rfl | rfl
      · rfl
      · exact absurd e (T.tn__law_small_right_law).symm⟩
  have lm_law : LamD base mg K (TTl K) d_law ("law", none) := ⟨TB _ (List.mem_map.mpr ⟨_, by decide, rfl⟩), by simp only [TTl, List.mem_cons, true_or, or_true], fun p hp e => by
      simp only [TTl, List.mem_cons, List.mem_nil_iff, or_false] at hp
      rcases hp with rfl | rfl
      · exact absurd e T.tn__law_small_right_law
      · rfl⟩
  have p0 : PromO P w K mg base CX0 1 (md "BadLength" "__init__" K) [] (spErr1 (gd "BadLength" K) "value") := pm_PromO (ok_BadLength___init__ F0 T ) (F0.bindsN fun _ _ _ _ _ _ us hl => match us, hl with | [_, _], _ => rfl)
  have p1 : PromO P w K mg base CX0 1 (md "BadPlace" "__init__" K) [] (spErr1 (gd "BadPlace" K) "value") := pm_PromO (ok_BadPlace___init__ F1 T ) (F1.bindsN fun _ _ _ _ _ _ us hl => match us, hl with | [_, _], _ => rfl)
  have p2 : PromO P w K mg base CX0 1 (md "Overlap" "__init__" K) [] (spErr1 (gd "Overlap" K) "length") := pm_PromO (ok_Overlap___init__ F2 T ) (F2.bindsN fun _ _ _ _ _ _ us hl => match us, hl with | [_, _], _ => rfl)
  have p3 : PromO P w K mg base CX0 1 (gd "_law_pen" K) [] (spPn K) := pm_PromO (ok__law_pen F3 T ) (F3.bindsN fun _ _ _ _ _ _ us hl => match us, hl with | [_], _ => rfl)
  have p4 : PromO P w K mg base CX0 1 (gd "_law_draw" K) [] (spF K (TTl K) (ul2 F_draw)) := pm_PromO (ok__law_draw (Tb := TTl K) F4 T ) (F4.bindsN fun _ _ _ _ _ _ us hl => match us, hl with | [_, _], _ => rfl)
  have p5 : PromO P w K mg base CX0 1 (gd "is_integer" K) [] (spF K (TTl K) (ul1 F_is_integer)) := pm_PromO (ok_is_integer (Tb := TTl K) F5 T ) (F5.bindsN fun _ _ _ _ _ _ us hl => match us, hl with | [_], _ => rfl)
  have p6 : PromO P w K mg base CX0 2 (gd "is_within" K) [] (spF K (TTl K) (ul3 F_is_within)) := pm_PromO (ok_is_within (Tb := TTl K) F6 T p5) (F6.bindsN fun _ _ _ _ _ _ us hl => match us, hl with | [_, _, _], _ => rfl)
  have p7 : PromO P w K mg base CX0 3 (gd "is_length" K) [] (spF K (TTl K) (ul1 F_is_length)) := pm_PromO (ok_is_length (Tb := TTl K) F7 T p6) (F7.bindsN fun _ _ _ _ _ _ us hl => match us, hl with | [_], _ => rfl)
  have p8 : PromO P w K mg base (L2.CX P w) 4 (gd "need_length" K) [] (spF K (TTl K) (ul1 F_need_length)) := pm_PromO (ok_need_length (Tb := TTl K) F8 T p7 p0) (F8.bindsN fun _ _ _ _ _ _ us hl => match us, hl with | [_], _ => rfl)
  have p9 : PromO P w K mg base (L2.CX P w) 5 (gd "need_place" K) [] (spF K (TTl K) (ul2 F_need_place)) := pm_PromO (ok_need_place (Tb := TTl K) F9 T p8 p6 p1) (F9.bindsN fun _ _ _ _ _ _ us hl => match us, hl with | [_, _], _ => rfl)
  have p10 : PromO P w K mg base CX0 3 (gd "is_rest" K) [] (spF K (TTl K) (ul1 F_is_rest)) := pm_PromO (ok_is_rest (Tb := TTl K) F10 T p6) (F10.bindsN fun _ _ _ _ _ _ us hl => match us, hl with | [_], _ => rfl)
  have p11 : PromO P w K mg base CX0 4 (gd "need_rest" K) [] (spF K (TTl K) (ul1 F_need_rest)) := pm_PromO (ok_need_rest (Tb := TTl K) F11 T p10) (F11.bindsN fun _ _ _ _ _ _ us hl => match us, hl with | [_], _ => rfl)
  have p12 : PromO P w K mg base CX0 1 (gd "seat_at" K) [] (spF K (TTl K) (ul2 F_seat_at)) := pm_PromO (ok_seat_at (Tb := TTl K) F12 T ) (F12.bindsN fun _ _ _ _ _ _ us hl => match us, hl with | [_, _], _ => rfl)
  have p13 : PromO P w K mg base CX0 1 (gd "place_at" K) [] (spF K (TTl K) (ul2 F_place_at)) := pm_PromO (ok_place_at (Tb := TTl K) F13 T ) (F13.bindsN fun _ _ _ _ _ _ us hl => match us, hl with | [_, _], _ => rfl)
  have p14 : PromO P w K mg base CX0 3 (gd "is_offset" K) [] (spF K (TTl K) (ul1 F_is_offset)) := pm_PromO (ok_is_offset (Tb := TTl K) F14 T p6) (F14.bindsN fun _ _ _ _ _ _ us hl => match us, hl with | [_], _ => rfl)
  have p15 : PromO P w K mg base CX0 4 (gd "is_pair_row" K) [] (spF K (TTl K) (ul1 F_is_pair_row)) := pm_PromO (ok_is_pair_row (Tb := TTl K) F15 T p14) (F15.bindsN fun _ _ _ _ _ _ us hl => match us, hl with | [_], _ => rfl)
  have p16 : PromO P w K mg base CX0 5 (gd "is_mark_row" K) [] (spF K (TTl K) (ul1 F_is_mark_row)) := pm_PromO (ok_is_mark_row (Tb := TTl K) F16 T p15) (F16.bindsN fun _ _ _ _ _ _ us hl => match us, hl with | [_], _ => rfl)
  have p17 : PromO P w K mg base CX0 6 (gd "are_marks" K) [] (spF K (TTl K) (ul1 F_are_marks)) := pm_PromO (ok_are_marks (Tb := TTl K) F17 T p16) (F17.bindsN fun _ _ _ _ _ _ us hl => match us, hl with | [_], _ => rfl)
  have p18 : PromO P w K mg base CX0 1 (md "Marks" "__init__" K) [] (spI K (TTl K) "Marks" (fun fs => ul1 (F_Marks___init__ fs))) := pm_PromO (ok_Marks___init__ (Tb := TTl K) F18 T ) (F18.bindsN fun _ _ _ _ _ _ us hl => match us, hl with | [_, _], _ => rfl)
  have p19 : PromO P w K mg base CX0 3 (clsG "Marks" "of" K) [] (spK K (TTl K) "Marks" (ul1 F_Marks_of)) := pm_PromO (ok_Marks_of (Tb := TTl K) F19 T p18) (F19.bindsN fun _ _ _ _ _ _ us hl => match us, hl with | [_, _], _ => rfl)
  have p20 : PromO P w K mg base CX0 1 (md "Shape" "__init__" K) [] (spI K (TTl K) "Shape" (fun fs => ul4 (F_Shape___init__ fs))) := pm_PromO (ok_Shape___init__ (Tb := TTl K) F20 T ) (F20.bindsN fun _ _ _ _ _ _ us hl => match us, hl with | [_, _, _, _, _], _ => rfl)
  have p21 : PromO P w K mg base CX0 1 (md "Shape" "seat_ahead" K) [] (spF K (TTl K) (ul3 F_Shape_seat_ahead)) := pm_PromO (ok_Shape_seat_ahead (Tb := TTl K) F21 T ) (F21.bindsN fun _ _ _ _ _ _ us hl => match us, hl with | [_, _, _], _ => rfl)
  have p22 : PromO P w K mg base CX0 1 (md "Shape" "marked_seats" K) [] (spF K (TTl K) (ul2 F_Shape_marked_seats)) := pm_PromO (ok_Shape_marked_seats (Tb := TTl K) F22 T ) (F22.bindsN fun _ _ _ _ _ _ us hl => match us, hl with | [_, _], _ => rfl)
  have p23 : PromO P w K mg base CX0 4 (gd "is_shift" K) [] (spF K (TTl K) (ul1 F_is_shift)) := pm_PromO (ok_is_shift (Tb := TTl K) F23 T p6 p14) (F23.bindsN fun _ _ _ _ _ _ us hl => match us, hl with | [_], _ => rfl)
  have p24 : PromO P w K mg base CX0 7 (md "Form" "__init__" K) [] (spI K (TTl K) "Form" (fun fs => ul4 (F_Form___init__ fs))) := pm_PromO (ok_Form___init__ (Tb := TTl K) F24 T p11 p5 p23 p17 p20 p19) (F24.bindsN fun _ _ _ _ _ _ us hl => match us, hl with | [_, _, _, _, _], _ => rfl)
  have p25 : PromO P w K mg base CX0 1 (propG "Form" "rest" K) [] (spF K (TTl K) (ul1 F_Form_rest)) := pm_PromO (ok_Form_rest (Tb := TTl K) F25 T ) (F25.bindsN fun _ _ _ _ _ _ us hl => match us, hl with | [_], _ => rfl)
  have p26 : PromO P w K mg base (L2.CX P w) 5 (md "Form" "need_own_length" K) [] (spF K (TTl K) (ul2 F_Form_need_own_length)) := pm_PromO (ok_Form_need_own_length (Tb := TTl K) F26 T p8 p25 p0) (F26.bindsN fun _ _ _ _ _ _ us hl => match us, hl with | [_, _], _ => rfl)
  have p27 : PromO P w K mg base (L2.CX P w) 6 (md "Form" "is_usable" K) [] (spF K (TTl K) (ul2 F_Form_is_usable)) := pm_PromO (ok_Form_is_usable (Tb := TTl K) F27 T p26 p22) (F27.bindsN fun _ _ _ _ _ _ us hl => match us, hl with | [_, _], _ => rfl)
  have p28 : PromO P w K mg base CX0 2 (gd "place_behind" K) [] (spF K (TTl K) (ul4 F_place_behind)) := pm_PromO (ok_place_behind (Tb := TTl K) F28 T p21 p12 p13) (F28.bindsN fun _ _ _ _ _ _ us hl => match us, hl with | [_, _, _, _], _ => rfl)
  have p29 : PromO P w K mg base (L2.CX P w) 6 (md "Form" "to" K) [] (spF K (TTl K) (ul3 F_Form_to)) := pm_PromO (ok_Form_to (Tb := TTl K) F29 T p26 p9 p22 p2 p28) (F29.bindsN fun _ _ _ _ _ _ us hl => match us, hl with | [_, _, _], _ => rfl)
  have p30 : PromO P w K mg base CX0 2 (gd "_law_pick" K) [] (spF K (TTl K) (ul2 F__law_pick)) := pm_PromO (ok__law_pick (Tb := TTl K) F30 T p4) (F30.bindsN fun _ _ _ _ _ _ us hl => match us, hl with | [_, _], _ => rfl)
  have p31 : PromO P w K mg base CX0 3 (gd "_law_row" K) [] (spF K (TTl K) (ul1 F__law_row)) := pm_PromO (ok__law_row (Tb := TTl K) F31 T p30 p4) (F31.bindsN fun _ _ _ _ _ _ us hl => match us, hl with | [_], _ => rfl)
  have p32 : PromO P w K mg base CX0 4 (gd "_law_parts" K) [] (spF K (TTl K) (ul1 F__law_parts)) := pm_PromO (ok__law_parts (Tb := TTl K) F32 T p4 p31 p30) (F32.bindsN fun _ _ _ _ _ _ us hl => match us, hl with | [_], _ => rfl)
  have p33 : PromO P w K mg base CX0 9 (gd "_law_form" K) [] (spF K (TTl K) (ul1 F__law_form)) := pm_PromO (ok__law_form (Tb := TTl K) F33 T p24) (F33.bindsN fun _ _ _ _ _ _ us hl => match us, hl with | [_], _ => rfl)
  have p34 : PromO P w K mg base CX0 1 (gd "_law_seat" K) [] (spF K (TTl K) (ul2 F__law_seat)) := pm_PromO (ok__law_seat (Tb := TTl K) F34 T ) (F34.bindsN fun _ _ _ _ _ _ us hl => match us, hl with | [_, _], _ => rfl)
  have p35 : PromO P w K mg base CX0 1 (gd "_law_place" K) [] (spF K (TTl K) (ul2 F__law_place)) := pm_PromO (ok__law_place (Tb := TTl K) F35 T ) (F35.bindsN fun _ _ _ _ _ _ us hl => match us, hl with | [_, _], _ => rfl)
  have p36 : PromO P w K mg base CX0 1 (gd "_law_marked" K) [] (spF K (TTl K) (ul2 F__law_marked)) := pm_PromO (ok__law_marked (Tb := TTl K) F36 T ) (F36.bindsN fun _ _ _ _ _ _ us hl => match us, hl with | [_, _], _ => rfl)
  have p37 : PromO P w K mg base CX0 2 (gd "_law_brought" K) [] (spF K (TTl K) (ul3 F__law_brought)) := pm_PromO (ok__law_brought (Tb := TTl K) F37 T p34 p35 p36) (F37.bindsN fun _ _ _ _ _ _ us hl => match us, hl with | [_, _, _], _ => rfl)
  have p38 : HrdP K d__law_heard ["_law_ask"] := ⟨f38, F38, F38.bindsN fun _ _ _ _ _ _ us hl => match us, hl with | [_], _ => rfl⟩
  have p39 : Prom P w K mg base CX0 9 (gd "_law_small_right" K) [] (spF K (TTl K) (ul3 F__law_small_right)) := pm_Prom (ok__law_small_right (Tb := TTl K) F39 T p36 p27 p38 lm__law_small_right p29 p37) (F39.bindsN fun _ _ _ _ _ _ us hl => match us, hl with | [_, _, _], _ => rfl)
  have p40 : Prom P w K mg base CX0 7 (gd "_law_far_right" K) [] (spF K (TTl K) (ul3 F__law_far_right)) := pm_Prom (ok__law_far_right (Tb := TTl K) F40 T p4 p29 p37 p27) (F40.bindsN fun _ _ _ _ _ _ us hl => match us, hl with | [_, _, _], _ => rfl)
  exact ok_law (Tb := TTl K) F41 T law_yes p3 p32 p33 p4 p39 p40 p38 lm_law p29 p27
end Lw
open PySem PySem.W PySem.Calls PyProof.Rows
set_option maxRecDepth 100000 in
set_option maxHeartbeats 0 in
theorem PySem.Challenge.cw_everyhunt_k42_forms_at_lengths_holds : PySem.Challenge.rw_everyhunt_k42_forms_at_lengths.Holds := by
  w_on; o_law
  refine HandSHeadRun.head_any (r := OpenLaw.row PySem.Challenge.rw_everyhunt_k42_forms_at_lengths) (q := view (OpenLaw.row PySem.Challenge.rw_everyhunt_k42_forms_at_lengths).prog [59]) (H := Lw.hk) (ob := Lw.ob) (M := 30000) (loose := Lw.loose) (d := HandSHeadRun.topDef (OpenLaw.row PySem.Challenge.rw_everyhunt_k42_forms_at_lengths).prog 59) (kwd := []) Lw.ob_eq
    (by kernel_rfl) (fun s => by kernel_rfl) Lw.run (by kernel_rfl) (by kernel_rfl) (by kernel_rfl) (by rfl) (by first | assumption | decide +kernel) (by decide +kernel) ⟨rfl, rfl, rfl, rfl, rfl, by decide +kernel⟩ ?hw ?hc
  case hw => w_witness2
  case hc =>
    refine Gh.walk_ofTsG (l := PySem.Challenge.rw_everyhunt_k42_forms_at_lengths) (n := 63) (k := 10) (x := "_law_script") (CX := fun _ => L2.CX0) rfl (by decide) (by kernel_rfl) ⟨rfl, by decide, by decide⟩ ?F (fun _ _ _ _ _ z => z)
    intro w mg fa h Y G hmg0
    obtain ⟨K, KX, c⟩ := Y
    have hmg : mg ("law" : PySem.Str) = some (.ref fa) := by
      have e : (HandSHeadRun.topDef (OpenLaw.row PySem.Challenge.rw_everyhunt_k42_forms_at_lengths).prog 59).name = ("law" : PySem.Str) := by kernel_rfl
      rw [← e]
      exact hmg0
    obtain ⟨fd, hb, hF⟩ := Lw.facts (P := (PySem.Challenge.rw_everyhunt_k42_forms_at_lengths).prog) (w := w) KX G hmg c (c.s.t.fact 135 rfl) ⟨by kernel_rfl, by kernel_rfl⟩
    refine ⟨K, fd, Lw.tfs.map (He.cT K), Gp.spLaw K (Lw.TTl K), KX, fun p hp => ?_, fun p hp => ?_, fun p hp => ?_, hb, fun H a ns hl hT hS => ⟨a, ns, rfl, hS, hl, fun p hp => ?_, fun _ => rfl⟩, fun base h1 h2 h3 => hF base h1 h2 h3⟩
    · obtain ⟨d, hd, rfl⟩ := List.mem_map.mp hp
      exact c.s.empty d hd
    · obtain ⟨d, hd, rfl⟩ := List.mem_map.mp hp
      exact c.s.out d hd
    · obtain ⟨d, hd, rfl⟩ := List.mem_map.mp hp
      exact PySem.W.codeHd_of_K KX (c.s.hd d hd)
    · have e : ∀ p ∈ Lw.TTl K, ∃ d ∈ Lw.tfs.map (He.cT K), p.1 = d.2 := fun p hp => by
        have z : (Lw.TTl K).map (·.1) = (Lw.tfs.map (He.cT K)).map (·.2) := rfl
        have m : p.1 ∈ (Lw.tfs.map (He.cT K)).map (·.2) := by rw [← z]; exact List.mem_map.mpr ⟨p, hp, rfl⟩
        obtain ⟨d, hd, e⟩ := List.mem_map.mp m
        exact ⟨d, hd, e.symm⟩
      obtain ⟨d, hd, ed⟩ := e p hp
      exact LamX.TabS.nil (by rw [ed]; exact hT d hd)
#print axioms PySem.Challenge.cw_everyhunt_k42_forms_at_lengths_holds
end
