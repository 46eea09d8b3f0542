import PyProof.Rows.All
import Wide.All
import OpenK.AllK
import Wide.FinOn
import KE.KStateDown
import KE.KOpsOwn
import HandS.ForMost
import HandS.More
import HandS.Exc
import HandS.WordsExc
import HandS.Defaults
import HandS.Property
import HandS.IsInst
import HandS.Wide
import HandS.Head0
import HandS.Head1
import HandS.Head2
import HandS.HeadEnd
import HandS.HeadHook1
import HandS.HeadHook2
import PyProof.ReprRoads
import HandS.ExcInit
import HandS.ExcField
import HandS.ExcIs
import KE.KExcIs
import HandS.EndTab
import HandS.HeadHook4
import HandS.Star
import HandS.ClsMeth
import HandS.Lambda
import HandS.RaiseMore
import HandS.Iter
import KE.GoesMore
import PyProof.EnumMake
import HandS.MakeKw
import KE.KCallOwn
import PyProof.InstNe
import HandS.GenList
import PyProof.GenComp
import HandS.TupAny
import HandS.SortInts
import HandS.OwnEq
import HandS.Style
import HandS.Conv
import KE.KSuper
import HandS.NestedK
import HandS.SetFor
import HandS.Strs
import HandS.Zip
import HandS.TryMany
import HandS.FStr
import HandS.TupLe
import HandS.NoneIn
import HandS.Text
import PyProof.EnumFor
import PyProof.Conv_bool
import PyProof.EqKinds
import PyProof.FactsAll.dict_1
import KE.LtData
import PyProof.Claim2Refuses
import HandS.ReplaceLit
import PyProof.NeKinds
import KE.KEqDict
import HandS.TupLen
import HandS.DictTup
import PySem.Challenge.RW_everyhunt_k13_changes_made
import KE.IntTextLaws
set_option Elab.async false
section
set_option Elab.async false
set_option linter.all false
set_option maxRecDepth 100000
namespace Gh
open PySem PySem.Spec PyProof.Rows L2
structure Df where
  adr : PySem.W.Frag → Addr
  name : Str
  qual : Str
  st : Stmt
  dfl : List He.Dv := []
def Df.val (d : Df) : He.FnW := some (d.name, d.qual, defArgs d.st, .stmts (defBody d.st), defScope d.st, mainGlobals, [], builtinsNs)
def Df.dvs (K : PySem.W.Frag) (d : Df) : List V := d.dfl.map (He.Dv.v K)
def fnAt (K : PySem.W.Frag) (a : Addr) : He.FnW := match K.lookup a with
  | some ⟨_, _, .func fd, _⟩ => some (fd.name, fd.qualname, fd.params, fd.body, fd.scope, fd.globals, fd.closure, fd.builtins)
  | _ => none
def Df.ok (K : PySem.W.Frag) (d : Df) : Bool := PySem.W.keepIn K (.ref (d.adr K)) && (match K.lookup (d.adr K) with
  | some ⟨_, _, .func fd, _⟩ => PySem.W.codeIn K fd.code d.qual && (He.dflB K fd.defaults (d.dvs K) && He.kwdB K fd.kwdefaults [])
  | _ => false)
abbrev Al : Type := Bool × List He.FnW
def obs (ex : List (PySem.W.Frag → Bool)) (fn : List Df) (K : PySem.W.Frag) : Al := ((ex.all fun f => f K) && fn.all fun d => d.ok K, fn.map fun d => fnAt K (d.adr K))
def val (fn : List Df) : Al := (true, fn.map Df.val)
def Says (ex : List (PySem.W.Frag → Bool)) (fn : List Df) (K : PySem.W.Frag) : Prop := obs ex fn K = val fn
def gd (x : Str) : PySem.W.Frag → Addr := fun K => He.ga K x
def md (x m : Str) : PySem.W.Frag → Addr := fun K => He.ma K (He.ga K x) m
def fa (f : He.Fa) : PySem.W.Frag → Bool := fun K => f.ok K
structure InsT (K : PySem.W.Frag) (C : Addr) : Prop where
  ha : PySem.W.findIn K (.ref C) "__class__" = some (some (.builtin "object.__class__"))
  hn : PySem.W.specialIn K (.builtin "object.__class__") "__get__" = some (some (.builtin "getset_descriptor.__get__"))
  htk : PySem.W.takesIn K (.builtin "object.__class__") = some true
  hm : PySem.W.mroIn K C (.type "object") = some true
  yes : PySem.W.kitOne K (.ref C) (.ref C) = some true
  no : ∀ n ∈ (["NoneType", "bool", "int", "str", "list", "tuple", "dict"] : List String), PySem.W.kitOne K (.type n) (.ref C) = some false
  out : ∀ n ∈ (["NoneType", "bool", "int", "str", "list", "tuple", "dict"] : List String), PySem.W.kitOne K (.ref C) (.type n) = some false
def insB (x : Str) (K : PySem.W.Frag) : Bool := He.eqO (PySem.W.findIn K (.ref (gd x K)) "__class__") (some (some (.builtin "object.__class__"))) &&
  (He.eqO (PySem.W.specialIn K (.builtin "object.__class__") "__get__") (some (some (.builtin "getset_descriptor.__get__"))) &&
  (decide (PySem.W.takesIn K (.builtin "object.__class__") = some true) && (decide (PySem.W.mroIn K (gd x K) (.type "object") = some true) &&
  (decide (PySem.W.kitOne K (.ref (gd x K)) (.ref (gd x K)) = some true) && (((["NoneType", "bool", "int", "str", "list", "tuple", "dict"] : List String).all fun n => decide (PySem.W.kitOne K (.type n) (.ref (gd x K)) = some false)) &&
  ((["NoneType", "bool", "int", "str", "list", "tuple", "dict"] : List String).all fun n => decide (PySem.W.kitOne K (.ref (gd x K)) (.type n) = some false)))))))
def ownB (x : Str) (K : PySem.W.Frag) : Bool := PySem.W.selfFirst K (gd x K) && (PySem.W.notFirst K (gd x K) (.ref (gd x K)) && decide (PySem.W.subIn K (.type "int") (.ref (gd x K)) = some false))
end Gh
end
section
set_option Elab.async false
set_option linter.all false
set_option maxRecDepth 100000
set_option maxHeartbeats 4000000
namespace Gh
open PySem PySem.Spec PyProof.Rows L2
structure FnG (P : Program) (w : World) (K : PySem.W.Frag) (mg : Str → Option Value) (base : Heap) (CX : CXT) (k : Nat) (f : Addr) (fd : FuncData) (ps : List Str) (sp : Sp) : Prop where
  len : ∀ vs H Q E, sp vs H Q E → vs.length = ps.length
  run : ∀ (A : Around) (outer : List Env) (s : Shared) (H : Hp) (args : Args) (us : List Value) (vs : List V) (Q : VK) (E : XK), Room k A → A.guards = some [] → Env0 P w K mg base A outer s H → BindsTo s fd args (ps.zip us) → Vals vs us → sp vs H Q E →
    codeAny (model P w) A (.call (.ref f) args) (CR CX outer P w H s Q E) s
def Prom (P : Program) (w : World) (K : PySem.W.Frag) (mg : Str → Option Value) (base : Heap) (CX : CXT) (k : Nat) (f : Addr) (dvs : List V) (sp : Sp) : Prop :=
  ∃ (fd : FuncData) (ps : List Str) (ds : List Value), FnG P w K mg base CX k f fd ps sp ∧ Binds K fd ps ds ∧ Vals dvs ds
section
variable {P : Program} {w : World} {K : PySem.W.Frag} {mg : Str → Option Value} {base : Heap} {CX : CXT} {j k : Nat} {f : Addr} {fd : FuncData} {ps : List Str} {sp : Sp} {dvs : List V}
theorem FnG.mono (F : FnG P w K mg base CX j f fd ps sp) (h : j ≤ k) : FnG P w K mg base CX k f fd ps sp := ⟨F.len, fun A o s H a us vs Q E hr => F.run A o s H a us vs Q E (hr.mono h)⟩
theorem Prom.mono (F : Prom P w K mg base CX j f dvs sp) (h : j ≤ k) : Prom P w K mg base CX k f dvs sp := by
  obtain ⟨fd, ps, ds, G, b, v⟩ := F
  exact ⟨fd, ps, ds, G.mono h, b, v⟩
end
section
variable {X : Cx} {CX : CXT} {k : Nat} {f g C : Addr} {sp : Sp} {dvs : List V} {E : XK} {x m : Str} {p pos apos : Pos} {e o : Expr} {es : List Expr} {ta tb : TE} {t : TA} {r : List V → Hp → VK → Prop}
abbrev PromX (X : Cx) (CX : CXT) (k : Nat) (f : Addr) (dvs : List V) (sp : Sp) : Prop := Prom X.prog X.w X.K X.mg X.base CX k f dvs sp
def rSp (sp : Sp) (dvs : List V) (E : XK) : List V → Hp → VK → Prop := fun xs H Q => sp (xs ++ dvs) H Q E
theorem Prom.call (F : PromX X CX k f dvs sp) (hr : Room k X.A) (hg : X.A.guards = some []) (hx : Passes CX X E) : CallR X (.ref f) (rSp sp dvs E) := by
  intro pins s σ H xs us Q I r h
  obtain ⟨fd, ps, ds, G, b, hd⟩ := F
  have r2 : Vals (xs ++ dvs) (us ++ ds) := r.append hd
  have hl : (us ++ ds).length = ps.length := by rw [← r2.length]; exact G.len _ _ _ _ h
  refine wpAny_call (codeAny_mono (G.run X.A X.stack s H ⟨us, []⟩ (us ++ ds) (xs ++ dvs) Q E hr hg I.env0 (b s us I.kIn hl) r2 h) fun r s' hq => ?_)
  cases r with
  | error e => exact hx pins σ H s e s' I hq
  | ok fl =>
    cases fl with
    | ret u => exact I.after hq
    | next => exact False.elim hq
    | brk => exact False.elim hq
    | cont => exact False.elim hq
theorem ins_look {pins : List (Addr × Obj)} {σ : L2.St} {H : Hp} {s : Shared} {a dx : Addr} {fs : List (Str × V)} (I : Inv X pins σ H s) (h : H a = some (.ins C dx fs)) : ∃ ox od, PySem.W.InstAt s.heap a ox C od := by
  obtain ⟨mA, O, _, _, _, _⟩ := ins_get I.hok h
  obtain ⟨od, J, _⟩ := O.look
  exact ⟨_, _, J⟩
end
end Gh
end
section
set_option Elab.async false
set_option linter.all false
set_option maxRecDepth 100000
set_option maxHeartbeats 4000000
namespace Gh
open PySem PySem.Spec PyProof.Rows L2
def Keep (H H' : Hp) (p : Addr) : Prop := ∀ a o, H a = some o → a ≠ p → H' a = some o
theorem Keep.refl {H : Hp} {p : Addr} : Keep H H p := fun _ _ h _ => h
theorem Keep.trans {H H' H'' : Hp} {p : Addr} (h : Keep H H' p) (k : Keep H' H'' p) : Keep H H'' p := fun a o e n => k a o (h a o e n) n
theorem Keep.new {H H' : Hp} {p q : Addr} {o : HO} (h : Keep H H' p) (n : H' q = none) : Keep H (upd H' q o) p := fun a u e ne => by
  rw [upd_ne (ne_of_none (h a u e ne) n)]
  exact h a u e ne
def PenAt (H : Hp) (p : Addr) (b : Nat) : Prop := ∃ (c : Addr) (ns : List Int) (i z : Int), H p = some (.lst [.ref c, .int i, .int z]) ∧ H c = some (.lst (ns.map V.int)) ∧ ns.length ≤ 63 ∧ 0 ≤ i ∧ i + b ≤ 1000000 ∧ 0 ≤ z
theorem pen_ne {H : Hp} {p c : Addr} {ns : List Int} {i z : Int} (h : H p = some (.lst [.ref c, .int i, .int z])) (k : H c = some (.lst (ns.map V.int))) : c ≠ p := by
  refine ne_of k h fun e => ?_
  have e2 : ns.map V.int = [.ref c, .int i, .int z] := HO.lst.inj e
  cases ns with
  | nil => cases e2
  | cons n r => cases (List.cons.inj e2).1
theorem PenAt.new {H : Hp} {p q : Addr} {b : Nat} {o : HO} (h : PenAt H p b) (n : H q = none) : PenAt (upd H q o) p b := by
  obtain ⟨c, ns, i, z, h1, h2, h3⟩ := h
  exact ⟨c, ns, i, z, by rw [upd_ne (ne_of_none h1 n)]; exact h1, by rw [upd_ne (ne_of_none h2 n)]; exact h2, h3⟩
theorem PenAt.same {H H' : Hp} {p : Addr} {b : Nat} (h : PenAt H p b) (n : L2.Same H H') : PenAt H' p b := by
  obtain ⟨c, ns, i, z, h1, h2, h3⟩ := h
  exact ⟨c, ns, i, z, n _ _ h1, n _ _ h2, h3⟩
theorem same_new {H : Hp} {q : Addr} {o : HO} (n : H q = none) : L2.Same H (upd H q o) := fun a u e => by
  rw [upd_ne (ne_of_none e n)]
  exact e
end Gh
end
section
set_option Elab.async false
set_option linter.all false
set_option maxRecDepth 100000
set_option maxHeartbeats 4000000
namespace Gh
open PySem PySem.Spec PyProof.Rows L2
theorem PenAt.ne {H : Hp} {p c : Addr} {b : Nat} (h : PenAt H p b) (n : H c = none) : c ≠ p := by
  obtain ⟨d, ns, i, z, h1, _⟩ := h
  exact (ne_of_none h1 n).symm
section
variable {X : Cx} {K : PySem.W.Frag}
end
end Gh
end
section
set_option Elab.async false
set_option linter.all false
set_option maxRecDepth 100000
set_option maxHeartbeats 4000000
namespace Gh
open PySem PySem.Spec PyProof.Rows L2
def exk (a C d : Addr) : HO := .ext fun h => ∃ (o : Obj) (vs : Array Value), h.get? a = some o ∧ o.cls = .ref C ∧ o.dict = some d ∧ o.data = .fields vs
def exk0 (a C : Addr) : HO := .ext fun h => ∃ (o : Obj) (vs : Array Value), h.get? a = some o ∧ o.cls = .ref C ∧ o.dict = none ∧ o.data = .fields vs
def errB (x : Str) (K : PySem.W.Frag) : Bool := He.eqO (PySem.W.findIn K (.ref (gd x K)) "__getattribute__") (some (some (.builtin "BaseException.__getattribute__"))) &&
  (He.eqO (PySem.W.findIn K (.ref (gd x K)) "__getattr__") (some none) && (decide (PySem.W.subIn K (.ref (gd x K)) (.type "BaseException") = some true) && (PySem.W.hasDictIn K (gd x K) &&
  (He.eqO (PySem.W.findIn K (.ref (gd x K)) "__class__") (some (some (.builtin "object.__class__"))) && (He.eqO (PySem.W.specialIn K (.builtin "object.__class__") "__get__") (some (some (.builtin "getset_descriptor.__get__"))) &&
  (decide (PySem.W.takesIn K (.builtin "object.__class__") = some true) && decide (PySem.W.mroIn K (gd x K) (.type "object") = some true)))))))
section
variable {X : Cx} {e : Expr} {te : TE} {pos : Pos} {n : Str}
end
section
variable {X : Cx} {x n : Str} {c : Value} {i : Nat} {body suite : List Stmt} {b₀ : Stmt} {np pos pos' : Pos} {tb : WX → TS} {ts : Addr → Value → Option Addr → TS} {Wout : WX}
end
end Gh
end
section
set_option Elab.async false
set_option linter.all false
set_option maxRecDepth 100000
set_option maxHeartbeats 4000000
namespace Gh
open PySem PySem.Spec PyProof.Rows L2
structure SaysT (ex : List (PySem.W.Frag → Bool)) (fn : List Df) (tf : List He.Defn) (h : Heap) (K : PySem.W.Frag) : Prop where
  t : Says ex fn K
  hd : ∀ p ∈ tf, PySem.W.codeHdIn K (He.cT K p).1 (He.cT K p).2 = true
  out : ∀ p ∈ tf, K.lookup (He.cT K p).2 = none
  empty : ∀ p ∈ tf, h.get? (He.cT K p).2 = some { cls := .none, data := .fields #[] }
abbrev AlT : Type := Al × Bool
end Gh
end
section
set_option Elab.async false
set_option linter.all false
set_option maxRecDepth 100000
set_option maxHeartbeats 4000000
namespace Gh
open PySem PySem.Spec PyProof.Rows L2
def PromO (P : Program) (w : World) (K : PySem.W.Frag) (mg : Str → Option Value) (base : Heap) (CX : CXT) (k : Nat) (f : Addr) (dvs : List V) (sp : Sp) : Prop :=
  ∃ (fd : FuncData) (ps : List Str) (ds : List Value), FnOk P w K mg base CX k f fd ps sp ∧ Binds K fd ps ds ∧ Vals dvs ds
section
variable {X : Cx} {CX : CXT} {k : Nat} {f g C : Addr} {sp : Sp} {dvs : List V} {E : XK} {m : Str} {pos : Pos} {o : Expr} {ta : TE}
abbrev PromOX (X : Cx) (CX : CXT) (k : Nat) (f : Addr) (dvs : List V) (sp : Sp) : Prop := PromO X.prog X.w X.K X.mg X.base CX k f dvs sp
theorem PromO.call (F : PromOX X CX k f dvs sp) (hr : Room k X.A) (hx : Passes CX X E) : CallR X (.ref f) (rSp sp dvs E) := by
  intro pins s σ H xs us Q I r h
  obtain ⟨fd, ps, ds, G, b, hd⟩ := F
  exact run_fn G hr b hd hx I r h
end
def oexB (x : Str) (K : PySem.W.Frag) : Bool := (match K.lookup (gd x K) with
  | some ⟨.type c, _, .cls ⟨_, _, .ref m :: bm, _, _, hd, _, _, _, _, dl⟩, ⟨[_, _, _, _, some (.builtin n), _]⟩⟩ => decide (c = "type") && (decide (m = gd x K) && (PySem.HandSPX.refsVE bm && (hd && (!dl && decide (n = "ValueError.__new__")))))
  | _ => false) && (He.eqO (PySem.W.findIn K (.ref (gd x K)) "__setattr__") (some (some (.builtin "object.__setattr__"))) && (decide (PySem.W.subIn K (.ref (gd x K)) (.type "BaseException") = some true) &&
  (decide (PySem.W.typeIn K (.ref (gd x K)) = some (.type "type")) && PySem.W.keepIn K (.ref (gd x K)))))
inductive Kd (H : Hp) : V → Prop
  | non : Kd H .non
  | bl (b : Bool) : Kd H (.bl b)
  | int (i : Int) : Kd H (.int i)
  | str (x : Str) : Kd H (.str x)
  | lst {a : Addr} {xs : List V} (h : H a = some (.lst xs)) : Kd H (.ref a)
  | tup {a : Addr} {xs : List V} (h : H a = some (.tup xs)) : Kd H (.ref a)
  | dK {a : Addr} {kvs : List (Key × V)} (h : H a = some (.dK kvs)) : Kd H (.ref a)
theorem Kd.ty {K : PySem.W.Frag} {H : Hp} {v : V} (k : Kd H v) : ∃ n : String, TyX K H v (.type n) ∧ ((∃ i, v = .int i) ∧ n = "int" ∨ (∃ b, v = .bl b) ∧ n = "bool" ∨ (∀ i, v ≠ .int i) ∧ (∀ b, v ≠ .bl b) ∧ n ∈ (["NoneType", "str", "list", "tuple", "dict"] : List String)) := by
  cases k with
  | non => exact ⟨_, .base .non, .inr (.inr ⟨fun _ => nofun, fun _ => nofun, by decide⟩)⟩
  | bl b => exact ⟨_, .base (.bl b), .inr (.inl ⟨⟨b, rfl⟩, rfl⟩)⟩
  | int i => exact ⟨_, .base (.int i), .inl ⟨⟨i, rfl⟩, rfl⟩⟩
  | str x => exact ⟨_, .base (.str x), .inr (.inr ⟨fun _ => nofun, fun _ => nofun, by decide⟩)⟩
  | lst h => exact ⟨_, .base (.lst h), .inr (.inr ⟨fun _ => nofun, fun _ => nofun, by decide⟩)⟩
  | tup h => exact ⟨_, .base (.tup h), .inr (.inr ⟨fun _ => nofun, fun _ => nofun, by decide⟩)⟩
  | dK h => exact ⟨_, .base (.dK h), .inr (.inr ⟨fun _ => nofun, fun _ => nofun, by decide⟩)⟩
theorem Kd.same {H H' : Hp} {v : V} (k : Kd H v) (s : L2.Same H H') : Kd H' v := by
  cases k with
  | non => exact .non
  | bl b => exact .bl b
  | int i => exact .int i
  | str x => exact .str x
  | lst h => exact .lst (s _ _ h)
  | tup h => exact .tup (s _ _ h)
  | dK h => exact .dK (s _ _ h)
end Gh
end
section
set_option Elab.async false
set_option linter.all false
set_option maxRecDepth 100000
set_option maxHeartbeats 4000000
namespace Gh
open PySem PySem.Spec PyProof.Rows L2
inductive Shw (K : PySem.W.Frag) (H : Hp) : V → Str → Prop
  | non : Shw K H .non "None"
  | bl (b : Bool) : Shw K H (.bl b) (if b then "True" else "False")
  | int (i : Int) : i.natAbs.log2 < 1920 → Shw K H (.int i) (toString i)
  | str (x : Str) : (reprText x).length ≤ sizeLine → Shw K H (.str x) (reprText x)
  | dp {a : Addr} {d : PyData} : Dp K H (.ref a) d → d.showable = true → d.hasDict = false → d.depth ≤ 100 → d.shown.length ≤ sizeLine → Shw K H (.ref a) d.shown
theorem sqL_same {K : PySem.W.Frag} {H H' : Hp} {a : Addr} {xs : List V} (h : SqL K H a xs) (s : L2.Same H H') : SqL K H' a xs := by
  rcases h with (h | ⟨o, h⟩) | h
  · exact .inl (.inl (s _ _ h))
  · exact .inl (.inr ⟨o, s _ _ h⟩)
  · exact .inr h
theorem sqT_same {K : PySem.W.Frag} {H H' : Hp} {a : Addr} {xs : List V} (h : SqT K H a xs) (s : L2.Same H H') : SqT K H' a xs := by
  rcases h with (h | ⟨o, h⟩) | h
  · exact .inl (.inl (s _ _ h))
  · exact .inl (.inr ⟨o, s _ _ h⟩)
  · exact .inr h
mutual
theorem dp_same {K : PySem.W.Frag} {H H' : Hp} (s : L2.Same H H') : ∀ {v : V} {d : PyData}, Dp K H v d → Dp K H' v d
  | _, _, .non => .non
  | _, _, .bl b => .bl b
  | _, _, .int i => .int i
  | _, _, .str x => .str x
  | _, _, .lst h a => .lst (sqL_same h s) (dpAll_same s a)
  | _, _, .tup h a => .tup (sqT_same h s) (dpAll_same s a)
theorem dpAll_same {K : PySem.W.Frag} {H H' : Hp} (s : L2.Same H H') : ∀ {vs : List V} {ds : List PyData}, DpAll K H vs ds → DpAll K H' vs ds
  | _, _, .nil => .nil
  | _, _, .cons a r => .cons (dp_same s a) (dpAll_same s r)
end
theorem Shw.same {K : PySem.W.Frag} {H H' : Hp} {v : V} {t : Str} (h : Shw K H v t) (s : L2.Same H H') : Shw K H' v t := by
  cases h with
  | non => exact .non
  | bl b => exact .bl b
  | int i h => exact .int i h
  | str x h => exact .str x h
  | dp a b c d e => exact .dp (dp_same s a) b c d e
section
variable {X : Cx} {K : PySem.W.Frag}
variable {CX : CXT} {x : Str} {C fI : Addr} {k : Nat} {sp : Sp} {dvs : List V} {e : Expr} {es : List Expr} {ta : TA} {p pos : Pos}
end
def iniB (x : Str) (K : PySem.W.Frag) : Bool := He.eqO (PySem.W.findIn K (.ref (gd x K)) "__init__") (some (some (.ref (md x "__init__" K)))) && decide (PySem.W.typeIn K (.ref (md x "__init__" K)) = some (.type "function"))
end Gh
end
section
set_option Elab.async false
set_option linter.all false
set_option maxRecDepth 100000
set_option maxHeartbeats 4000000
namespace Gh
open PySem PySem.Spec PyProof.Rows L2
structure Nw (H H' : Hp) (p : Addr) (o : HO) : Prop where
  no : H p = none
  same : L2.Same H H'
  at_ : H' p = some o
structure Mu (H H' : Hp) (p : Addr) (o : HO) : Prop where
  keep : Keep H H' p
  at_ : H' p = some o
section
variable {H H' : Hp} {p a l : Addr} {o u : HO}
theorem Nw.up (n : Nw H H' p o) (h : H a = some u) : H' a = some u := n.same _ _ h
theorem Mu.up (n : Mu H H' p o) (e : a ≠ p) (h : H a = some u) : H' a = some u := n.keep _ _ h e
theorem Mu.free (n : Mu H H' p o) (h : H' a = none) : H a = none := by
  cases e : H a with
  | none => rfl
  | some u =>
    by_cases q : a = p
    · subst q
      rw [n.at_] at h
      cases h
    · rw [n.up q e] at h
      cases h
theorem Nw.ne (n : Nw H H' l o) (h : H a = some u) : l ≠ a := fun e => by
  rw [← e, n.no] at h
  cases h
end
def Pen (H : Hp) (p c : Addr) (b : Nat) : Prop := ∃ (ns : List Int) (i z : Int), H p = some (.lst [.ref c, .int i, .int z]) ∧ H c = some (.lst (ns.map V.int)) ∧ ns.length ≤ 63 ∧ 0 ≤ i ∧ i + b ≤ 1000000 ∧ 0 ≤ z
section
variable {H H' : Hp} {p c a l : Addr} {o u : HO} {b k : Nat} {xs : List V} {C dx : Addr} {fs : List (Str × V)}
theorem Pen.same (n : L2.Same H H') (h : Pen H p c b) : Pen H' p c b := by
  obtain ⟨ns, i, z, h1, h2, h3⟩ := h
  exact ⟨ns, i, z, n _ _ h1, n _ _ h2, h3⟩
theorem Pen.keep (n : Keep H H' l) (e1 : l ≠ p) (e2 : l ≠ c) (h : Pen H p c b) : Pen H' p c b := by
  obtain ⟨ns, i, z, h1, h2, h3⟩ := h
  exact ⟨ns, i, z, n _ _ h1 e1.symm, n _ _ h2 e2.symm, h3⟩
theorem Pen.cells (h : Pen H p c b) : c ≠ p := by
  obtain ⟨ns, i, z, h1, h2, h3⟩ := h
  exact pen_ne h1 h2
end
section
variable {H H' : Hp} {a t l : Addr} {o u : HO} {xs ys : List V} {C dx : Addr} {fs : List (Str × V)}
end
section
variable {H : Hp} {E : XK} {Q : VK} {p c l : Addr} {b : Nat} {m : Int} {xs : List V}
end
section
variable {X : Cx} {K : PySem.W.Frag}
end
section
variable {K : PySem.W.Frag} {H : Hp} {σ : L2.St} {Q : VK} {D : Ends} {i j n : Int} {x y v : V} {ta tb tc te tf : TE} {t u : TS} {c d : TT} {k : Bool} {a l p C dx : Addr} {xs ys : List V} {A B : Prop}
end
end Gh
end
section
set_option Elab.async false
set_option linter.all false
set_option maxRecDepth 100000
set_option maxHeartbeats 4000000
namespace Gh
open PySem PySem.Spec PyProof.Rows L2
section
variable {X : Cx} {a b c d : Expr} {ta tb tc td : TE} {pos : Pos}
end
def CallK (X : Cx) (u : Value) (ks : List Str) (r : List V → List V → Hp → VK → Prop) : Prop := ∀ (pins : List (Addr × Obj)) (s : Shared) (σ : L2.St) (H : Hp) (vs zs : List V) (us ws : List Value) (Q : VK), Inv X pins σ H s → Vals vs us → Vals zs ws → r vs zs H Q → wpAny (model X.prog X.w) X.A (call u us (ks.zip ws)) (EP X pins σ Q) X.xe s
def PromK (P : Program) (w : World) (K : PySem.W.Frag) (mg : Str → Option Value) (base : Heap) (CX : CXT) (k : Nat) (f : Addr) (n : Nat) (ks : List Str) (gV : List V → List V → List V) (sp : Sp) : Prop :=
  ∃ (fd : FuncData) (ps : List Str) (g : List Value → List Value → List Value), FnOk P w K mg base CX k f fd ps sp ∧ KBn K fd ps n ks g gV
section
variable {K : PySem.W.Frag} {x qual : Str} {params : Arguments} {body : List Stmt} {scope : Scope} {dvs : List V} {kws : List (Str × V)} {f : Addr} {fd : FuncData} {ps : List Str}
end
section
variable {X : Cx} {CX : CXT} {k n : Nat} {f C : Addr} {ks : List Str} {sp : Sp} {E : XK} {x m : Str} {p pos apos : Pos} {e o : Expr} {es : List Expr} {kws : List Keyword} {t tk : TA} {ta : TE} {gV : List V → List V → List V} {r : List V → List V → Hp → VK → Prop}
def rSpK (n m : Nat) (gV : List V → List V → List V) (sp : Sp) (E : XK) : List V → List V → Hp → VK → Prop := fun vs zs H Q => vs.length = n ∧ zs.length = m ∧ sp (gV vs zs) H Q E
theorem PromK.call (F : PromK X.prog X.w X.K X.mg X.base CX k f n ks gV sp) (hr : Room k X.A) (hx : Passes CX X E) : CallK X (.ref f) ks (rSpK n ks.length gV sp E) := by
  intro pins s σ H vs zs us ws Q I rv rz ⟨l1, l2, h⟩
  obtain ⟨fd, ps, g, G, b⟩ := F
  exact run_fnN G hr b hx I rv rz l1 l2 h
end
section
variable {H : Hp} {σ : L2.St} {Q : VK} {ta : TE} {t tk : TA} {r : List V → List V → Hp → VK → Prop} {C : Addr} {m : Str} {n k : Nat} {gV : List V → List V → List V} {sp : Sp} {E : XK} {vs zs : List V}
end
end Gh
end
section
set_option Elab.async false
set_option linter.all false
set_option maxRecDepth 100000
set_option maxHeartbeats 4000000
namespace Gh
open PySem PySem.Spec PyProof.Rows L2
structure Fn (d : PyData) (n b : Nat) : Prop where
  cl : d.canLay0 = true
  sh : d.showable = true
  nd : d.hasDict = false
  ls : d.leavesShort 200 = true
  dp : d.depth ≤ n
  bk : d.bulk ≤ b
structure FnAll (ds : List PyData) (n b : Nat) : Prop where
  cl : PyData.canLayAll0 ds = true
  sh : PyData.showableAll ds = true
  nd : PyData.hasDictAll ds = false
  ls : PyData.leavesShortAll 200 ds = true
  dp : PyData.depthAll ds ≤ n
  bk : PyData.bulkAll ds ≤ b
theorem log_lt100 {i : Int} (h1 : -(10 ^ 100) < i) (h2 : i < 10 ^ 100) : i.natAbs.log2 < 1920 := by
  have h : i.natAbs < 2 ^ 1920 := Nat.lt_of_lt_of_le (show i.natAbs < 10 ^ 100 by omega) (by decide)
  by_cases h0 : i.natAbs = 0
  · rw [h0]
    decide
  · exact (Nat.log2_lt h0).mpr h
theorem Fn.int {i : Int} (h1 : -(10 ^ 100) < i) (h2 : i < 10 ^ 100) : Fn (.int i) 0 0 := by
  refine ⟨rfl, decide_eq_true (log_lt100 h1 h2), rfl, ?_, Nat.le_refl _, Nat.le_refl _⟩
  have e := int_text_length_le10 (a := i) (k := 100) (by decide) (by omega)
  refine decide_eq_true ?_
  show (Str.ofString (toString i)).length ≤ 200
  rw [PySem.ofString_length]
  omega
theorem Fn.bool (b : Bool) : Fn (.bool b) 0 0 := ⟨rfl, rfl, rfl, rfl, Nat.le_refl _, Nat.le_refl _⟩
theorem Fn.none : Fn .none 0 0 := ⟨rfl, rfl, rfl, rfl, Nat.le_refl _, Nat.le_refl _⟩
theorem Fn.str {x : Str} (h0 : (PyData.str x).canLay0 = true) (h : (x.cps.toList.all fun c => decide (c < 16 ^ 8)) = true) : Fn (.str x) 0 x.cps.size := ⟨h0, rfl, rfl, h, Nat.le_refl _, Nat.le_refl _⟩
theorem FnAll.nil {n b : Nat} : FnAll [] n b := ⟨rfl, rfl, rfl, rfl, Nat.zero_le _, Nat.zero_le _⟩
theorem FnAll.cons {d : PyData} {ds : List PyData} {n b c : Nat} (h : Fn d n b) (k : FnAll ds n c) : FnAll (d :: ds) n (b + 1 + c) := by
  refine ⟨?_, ?_, ?_, ?_, ?_, ?_⟩
  · show (d.canLay0 && _) = true
    rw [h.cl, k.cl] <;> rfl
  · show (d.showable && _) = true
    rw [h.sh, k.sh] <;> rfl
  · show (d.hasDict || _) = false
    rw [h.nd, k.nd] <;> rfl
  · show (d.leavesShort 200 && _) = true
    rw [h.ls, k.ls] <;> rfl
  · show max _ _ ≤ n
    exact Nat.max_le.mpr ⟨h.dp, k.dp⟩
  · show d.bulk + 1 + _ ≤ _
    have := h.bk
    have := k.bk
    omega
theorem Fn.list {ds : List PyData} {n b : Nat} (h : FnAll ds n b) : Fn (.list ds) (n + 1) b := ⟨h.cl, h.sh, h.nd, h.ls, Nat.succ_le_succ h.dp, h.bk⟩
theorem Fn.tuple {ds : List PyData} {n b : Nat} (h : FnAll ds n b) : Fn (.tuple ds) (n + 1) b := ⟨h.cl, h.sh, h.nd, h.ls, Nat.succ_le_succ h.dp, h.bk⟩
section
variable {K : PySem.W.Frag} {H : Hp} {a : Addr} {ns : List Int}
end
section
variable {H H' : Hp} {a l p c : Addr} {u : HO} {b : Nat}
end
section
variable {K : PySem.W.Frag} {H : Hp} {σ : L2.St} {Q : VK} {m : Nat} {tt : TT} {te tl : TE} {vs : List Nat} {t : TA} {a : Addr} {xs : List V}
end
section
variable {H H' : Hp} {a l p c : Addr} {u : HO} {b : Nat}
end
section
variable {K : PySem.W.Frag} {H : Hp} {σ : L2.St} {D : Ends} {m : Nat} {g : TG} {tb : TS} {tl : TE} {t : TA} {a : Addr} {xs : List V}
end
section
end
end Gh
end
section
set_option Elab.async false
set_option linter.all false
set_option maxRecDepth 100000
set_option maxHeartbeats 4000000
namespace Gh
open PySem PySem.Spec PyProof.Rows L2
section
variable {H H' : Hp} {a l p c t : Addr} {o u : HO} {b : Nat} {xs : List V} {T : List (Addr × Str)} {C dx : Addr} {fs : List (Str × V)}
theorem tabs_of (h : LamX.Tabs T H) (k1 : ∀ a ps, H a = some (.tbl ps) → H' a = some (.tbl ps)) (k2 : ∀ a c q, H a = some (LamX.CodeO c q) → H' a = some (LamX.CodeO c q)) : LamX.Tabs T H' := fun q hq => by
  obtain ⟨ps, h1, h2, h3⟩ := h q hq
  refine ⟨ps, k1 _ _ h1, h2, fun pos cv hc => ?_⟩
  obtain ⟨c', e1, e2⟩ := h3 pos cv hc
  exact ⟨c', e1, k2 _ _ _ e2⟩
theorem tabs_keepL (n : Keep H H' l) (e : H l = some (.lst xs)) (h : LamX.Tabs T H) : LamX.Tabs T H' :=
  tabs_of h (fun a ps q => n _ _ q (ne_of q e (by intro z; cases z))) (fun a c q z => n _ _ z (ne_of z e (by intro y; unfold LamX.CodeO at y; cases y)))
def Fr (H H' : Hp) (p : Addr) : Prop := ∀ a o, H a = some o → a ≠ p → (∀ ps, o ≠ .tbl ps) → H' a = some o
theorem Fr.refl : Fr H H p := fun _ _ h _ _ => h
theorem Fr.trans {H1 : Hp} (n : Fr H H1 p) (k : Fr H1 H' p) : Fr H H' p := fun a o h e z => k a o (n a o h e z) e z
end
section
variable {X : Cx} {H : Hp} {σ : L2.St} {Q : VK} {T : List (Addr × Str)} {TT : (XK → Hp → VK → Prop) → Hp → VK → Prop} {t : XK → TE}
end
end Gh
end
section
set_option Elab.async false
set_option linter.all false
set_option maxRecDepth 100000
set_option maxHeartbeats 4000000
namespace Gh
open PySem PySem.Spec PyProof.Rows L2
section
variable {X : Cx} {CX : CXT} {k : Nat} {C f : Addr} {sp : Sp} {E : XK} {r : List V → Hp → VK → Prop}
def nfB (x : Str) (K : PySem.W.Frag) : Bool := (["NoneType", "bool", "int", "str", "list", "tuple", "dict"] : List String).all fun n => PySem.W.notFirst K (gd x K) (.type n)
theorem InsT.ty {K : PySem.W.Frag} {H : Hp} {a C dx : Addr} {fs : List (Str × V)} (t : InsT K C) (c : Cls K C) (h : H a = some (.ins C dx fs)) : TyX K H (.ref a) (.ref C) := .base (.ins h c t.ha t.hn t.htk t.hm)
end
end Gh
end
section
set_option Elab.async false
set_option linter.all false
set_option maxRecDepth 100000
set_option maxHeartbeats 4000000
namespace Gh
open PySem PySem.Spec PyProof.Rows L2
section
variable {prog : Program} {w : World} {A : Around} {E : Value → Shared → Prop} {s : Shared} {K : PySem.W.Frag} {x C f L : Addr} {h₀ : Heap} {m : Str → Option Value} {ox : Obj} {od : Option Obj} {b tb : Value}
end
section
variable {X : Cx} {CX : CXT} {k : Nat} {C f : Addr} {sp : Sp} {E : XK}
def neB (x : Str) (K : PySem.W.Frag) : Bool := He.eqO (PySem.W.findIn K (.ref (gd x K)) "__ne__") (some (some (.builtin "object.__ne__"))) && decide (PySem.W.subIn K (.ref (gd x K)) (.type "object") = some true)
end
end Gh
end
section
set_option Elab.async false
set_option linter.all false
set_option maxRecDepth 100000
set_option maxHeartbeats 4000000
namespace Gp
open PySem PySem.Spec PyProof.Rows L2 Gh
inductive D where
  | non | bl (b : Bool) | int (i : Int) | str (x : Str) | tup (ds : List D) | lst (ds : List D)
  | obj (c : Str) (fs : List (Str × D)) | err (c : Str) (fs : List (Str × D)) | pen
  | cls (c : Str) | er0 (c : Str) | dct | dic (ps : List (Key × D)) | dit (ps : List (List Key × D)) | dik (ps : List (Key × D))
abbrev Fs := List (Str × D)
inductive Tr (α : Type) where
  | ok (a : α) | ex (c : Str) (fs : Fs) | bad | draw (m : Int) (k : Int → Tr α)
section
variable {α β γ : Type}
def bd : Tr α → (α → Tr β) → Tr β
  | .ok a, k => k a
  | .ex c fs, _ => .ex c fs
  | .bad, _ => .bad
  | .draw m f, k => .draw m fun d => bd (f d) k
def Al (P : α → Nat → Prop) (E : Str → Fs → Nat → Prop) : Tr α → Nat → Prop
  | .ok a, b => P a b
  | .ex c fs, b => E c fs b
  | .bad, _ => False
  | .draw m k, b => ∃ b', b = b' + 1 ∧ 0 < m ∧ m < 10 ^ 100 ∧ ∀ d, 0 ≤ d → d < m → Al P E (k d) b'
theorem al_bd {P : β → Nat → Prop} {E : Str → Fs → Nat → Prop} {m : Tr α} {k : α → Tr β} {b : Nat} : Al P E (bd m k) b ↔ Al (fun a b1 => Al P E (k a) b1) E m b := by
  induction m generalizing b with
  | draw m f ih =>
    constructor
    · rintro ⟨b', e, h1, h2, h3⟩
      exact ⟨b', e, h1, h2, fun d d0 d1 => (ih d).mp (h3 d d0 d1)⟩
    · rintro ⟨b', e, h1, h2, h3⟩
      exact ⟨b', e, h1, h2, fun d d0 d1 => (ih d).mpr (h3 d d0 d1)⟩
  | _ => exact Iff.rfl
theorem Al.mono {P P' : α → Nat → Prop} {E E' : Str → Fs → Nat → Prop} (hP : ∀ a b, P a b → P' a b) (hE : ∀ c fs b, E c fs b → E' c fs b) {m : Tr α} {b : Nat} (h : Al P E m b) : Al P' E' m b := by
  induction m generalizing b with
  | ok a => exact hP _ _ h
  | ex c fs => exact hE _ _ _ h
  | bad => exact h
  | draw m f ih =>
    obtain ⟨b', e, h1, h2, h3⟩ := h
    exact ⟨b', e, h1, h2, fun d d0 d1 => ih d (h3 d d0 d1)⟩
end
def pr2 : List D → Bool
  | [.int _, .int _] => true
  | _ => false
structure Gw where
  K : PySem.W.Frag
  T : List (Addr × Str)
  p : Addr
  c : Addr
mutual
inductive Den (g : Gw) (U : Addr → Prop) (H : Hp) : V → D → Prop
  | non : Den g U H .non .non
  | bl (b : Bool) : Den g U H (.bl b) (.bl b)
  | int (i : Int) : Den g U H (.int i) (.int i)
  | str (x : Str) : x.length ≤ sizeLine → Den g U H (.str x) (.str x)
  | tup {a : Addr} {vs : List V} {ds : List D} : H a = some (.tup vs) → ¬ U a → vs.length ≤ sizeLine → DenL g U H vs ds → Den g U H (.ref a) (.tup ds)
  | tupW {a : Addr} {vs : List V} {ds : List D} : (∀ H', SqT g.K H' a vs) → vs.length ≤ sizeLine → DenL g U H vs ds → pr2 ds = false → Den g U H (.ref a) (.tup ds)
  | lst {a : Addr} {vs : List V} {ds : List D} : H a = some (.lst vs) → ¬ U a → vs.length ≤ sizeLine → DenL g U H vs ds → Den g U H (.ref a) (.lst ds)
  | obj {a dx : Addr} {c : Str} {fvs : List (Str × V)} {fs : List (Str × D)} : H a = some (.ins (gd c g.K) dx fvs) → ¬ U a → DenF g U H fvs fs → Den g U H (.ref a) (.obj c fs)
  | err {a d : Addr} {c : Str} {fvs : List (Str × V)} {fs : List (Str × D)} : H a = some (exk a (gd c g.K) d) → ¬ U a → H d = some (.xd fvs) → ¬ U d → DenF g U H fvs fs → Den g U H (.ref a) (.err c fs)
  | pen : Den g U H (.ref g.p) .pen
  | cls (c : Str) : Den g U H (.ref (gd c g.K)) (.cls c)
  | er0 {a : Addr} {c : Str} : H a = some (exk0 a (gd c g.K)) → ¬ U a → Den g U H (.ref a) (.er0 c)
  | dct {a : Addr} : H a = some (.dK []) → ¬ U a → Den g U H (.ref a) .dct
  | dic {a : Addr} {kvs : List (Key × V)} {ps : List (Key × D)} : H a = some (.dK kvs) → ¬ U a → kvs.map (·.1) = ps.map (·.1) → DenL g U H (kvs.map (·.2)) (ps.map (·.2)) → Den g U H (.ref a) (.dic ps)
  | dit {a : Addr} {ob : Obj} {kvs : List (List Key × V)} {ps : List (List Key × D)} : H a = some (.frz ob (.dT kvs)) → ¬ U a → kvs.map (·.1) = ps.map (·.1) → DenL g U H (kvs.map (·.2)) (ps.map (·.2)) → Den g U H (.ref a) (.dit ps)
  | dik {a : Addr} {ob : Obj} {kvs : List (Key × V)} {ps : List (Key × D)} : H a = some (.frz ob (.dK kvs)) → ¬ U a → kvs.map (·.1) = ps.map (·.1) → DenL g U H (kvs.map (·.2)) (ps.map (·.2)) → Den g U H (.ref a) (.dik ps)
inductive DenL (g : Gw) (U : Addr → Prop) (H : Hp) : List V → List D → Prop
  | nil : DenL g U H [] []
  | cons {v : V} {vs : List V} {d : D} {ds : List D} : Den g U H v d → DenL g U H vs ds → DenL g U H (v :: vs) (d :: ds)
inductive DenF (g : Gw) (U : Addr → Prop) (H : Hp) : List (Str × V) → List (Str × D) → Prop
  | nil : DenF g U H [] []
  | cons {n : Str} {v : V} {vs : List (Str × V)} {d : D} {ds : List (Str × D)} : Den g U H v d → DenF g U H vs ds → DenF g U H ((n, v) :: vs) ((n, d) :: ds)
end
section
variable {g : Gw} {U U' : Addr → Prop} {H H' : Hp}
def ExtU (U : Addr → Prop) (H H' : Hp) : Prop := ∀ a o, H a = some o → ¬ U a → (∀ ps, o ≠ .tbl ps) → H' a = some o
mutual
theorem Den.ext (e : ExtU U H H') : ∀ {v : V} {d : D}, Den g U H v d → Den g U H' v d
  | _, _, .non => .non
  | _, _, .bl b => .bl b
  | _, _, .int i => .int i
  | _, _, .str x h => .str x h
  | _, _, .tup h n l k => .tup (e _ _ h n (fun _ z => by cases z)) n l (DenL.ext e k)
  | _, _, .tupW h l k nk => .tupW h l (DenL.ext e k) nk
  | _, _, .lst h n l k => .lst (e _ _ h n (fun _ z => by cases z)) n l (DenL.ext e k)
  | _, _, .obj h n k => .obj (e _ _ h n (fun _ z => by cases z)) n (DenF.ext e k)
  | _, _, .err h n h2 n2 k => .err (e _ _ h n (fun _ z => by unfold exk at z; cases z)) n (e _ _ h2 n2 (fun _ z => by cases z)) n2 (DenF.ext e k)
  | _, _, .pen => .pen
  | _, _, .cls c => .cls c
  | _, _, .er0 h n => .er0 (e _ _ h n (fun _ z => by unfold exk0 at z; cases z)) n
  | _, _, .dct h n => .dct (e _ _ h n (fun _ z => by cases z)) n
  | _, _, .dic h n l k => .dic (e _ _ h n (fun _ z => by cases z)) n l (DenL.ext e k)
  | _, _, .dit h n l k => .dit (e _ _ h n (fun _ z => by cases z)) n l (DenL.ext e k)
  | _, _, .dik h n l k => .dik (e _ _ h n (fun _ z => by cases z)) n l (DenL.ext e k)
theorem DenL.ext (e : ExtU U H H') : ∀ {vs : List V} {ds : List D}, DenL g U H vs ds → DenL g U H' vs ds
  | _, _, .nil => .nil
  | _, _, .cons a r => .cons (Den.ext e a) (DenL.ext e r)
theorem DenF.ext (e : ExtU U H H') : ∀ {vs : List (Str × V)} {ds : List (Str × D)}, DenF g U H vs ds → DenF g U H' vs ds
  | _, _, .nil => .nil
  | _, _, .cons a r => .cons (Den.ext e a) (DenF.ext e r)
end
mutual
theorem Den.sub (e : ∀ a, (∃ o, H a = some o) → U' a → U a) : ∀ {v : V} {d : D}, Den g U H v d → Den g U' H v d
  | _, _, .non => .non
  | _, _, .bl b => .bl b
  | _, _, .int i => .int i
  | _, _, .str x h => .str x h
  | _, _, .tup h n l k => .tup h (fun z => n (e _ ⟨_, h⟩ z)) l (DenL.sub e k)
  | _, _, .tupW h l k nk => .tupW h l (DenL.sub e k) nk
  | _, _, .lst h n l k => .lst h (fun z => n (e _ ⟨_, h⟩ z)) l (DenL.sub e k)
  | _, _, .obj h n k => .obj h (fun z => n (e _ ⟨_, h⟩ z)) (DenF.sub e k)
  | _, _, .err h n h2 n2 k => .err h (fun z => n (e _ ⟨_, h⟩ z)) h2 (fun z => n2 (e _ ⟨_, h2⟩ z)) (DenF.sub e k)
  | _, _, .pen => .pen
  | _, _, .cls c => .cls c
  | _, _, .er0 h n => .er0 h (fun z => n (e _ ⟨_, h⟩ z))
  | _, _, .dct h n => .dct h (fun z => n (e _ ⟨_, h⟩ z))
  | _, _, .dic h n l k => .dic h (fun z => n (e _ ⟨_, h⟩ z)) l (DenL.sub e k)
  | _, _, .dit h n l k => .dit h (fun z => n (e _ ⟨_, h⟩ z)) l (DenL.sub e k)
  | _, _, .dik h n l k => .dik h (fun z => n (e _ ⟨_, h⟩ z)) l (DenL.sub e k)
theorem DenL.sub (e : ∀ a, (∃ o, H a = some o) → U' a → U a) : ∀ {vs : List V} {ds : List D}, DenL g U H vs ds → DenL g U' H vs ds
  | _, _, .nil => .nil
  | _, _, .cons a r => .cons (Den.sub e a) (DenL.sub e r)
theorem DenF.sub (e : ∀ a, (∃ o, H a = some o) → U' a → U a) : ∀ {vs : List (Str × V)} {ds : List (Str × D)}, DenF g U H vs ds → DenF g U' H vs ds
  | _, _, .nil => .nil
  | _, _, .cons a r => .cons (Den.sub e a) (DenF.sub e r)
end
theorem DenL.length : ∀ {vs : List V} {ds : List D}, DenL g U H vs ds → vs.length = ds.length
  | _, _, .nil => rfl
  | _, _, .cons _ r => congrArg (· + 1) (DenL.length r)
theorem DenL.append : ∀ {vs ws : List V} {ds es : List D}, DenL g U H vs ds → DenL g U H ws es → DenL g U H (vs ++ ws) (ds ++ es)
  | _, _, _, _, .nil, k => k
  | _, _, _, _, .cons a r, k => .cons a (DenL.append r k)
theorem DenL.getD : ∀ {vs : List V} {ds : List D} {i : Nat} {d : D}, DenL g U H vs ds → ds[i]? = some d → ∃ v, vs[i]? = some v ∧ Den g U H v d
  | _, _, i, v, .nil, e => by simp at e
  | _, _, 0, v, .cons a r, e => by simp at e; subst e; exact ⟨_, rfl, a⟩
  | _, _, i + 1, v, .cons a r, e => by
    obtain ⟨d, h1, h2⟩ := DenL.getD (i := i) (d := v) r (by simpa using e)
    exact ⟨d, by simpa using h1, h2⟩
theorem DenL.set : ∀ {vs : List V} {ds : List D} (n : Nat) {v : V} {d : D}, Den g U H v d → DenL g U H vs ds → DenL g U H (vs.set n v) (ds.set n d)
  | _, _, _, _, _, _, .nil => .nil
  | _, _, 0, _, _, h, .cons _ r => .cons h r
  | _, _, n + 1, _, _, h, .cons a r => .cons a (DenL.set n h r)
theorem DenF.look : ∀ {vs : List (Str × V)} {ds : List (Str × D)} {n : Str} {d : D}, DenF g U H vs ds → ds.lookup n = some d → ∃ v, vs.lookup n = some v ∧ Den g U H v d
  | _, _, _, _, .nil, e => by cases e
  | _, _, n, d, .cons (n := m) a r, e => by
    simp only [List.lookup] at e ⊢
    cases q : (n == m) with
    | true => rw [q] at e; cases e; exact ⟨_, rfl, a⟩
    | false => rw [q] at e; exact DenF.look r e
theorem DenF.length : ∀ {vs : List (Str × V)} {ds : List (Str × D)}, DenF g U H vs ds → vs.length = ds.length
  | _, _, .nil => rfl
  | _, _, .cons _ r => congrArg (· + 1) (DenF.length r)
end
structure Wd (g : Gw) (H : Hp) (b : Nat) : Prop where
  pen : Pen H g.p g.c b
  tabs : LamX.Tabs g.T H
structure Nt (o : HO) : Prop where
  tbl : ∀ ps, o ≠ .tbl ps
  tup : ∀ xs, o ≠ .tup xs
structure UOk (g : Gw) (U : Addr → Prop) (H : Hp) : Prop where
  p : U g.p
  c : U g.c
  al : ∀ a, U a → ∃ o, H a = some o ∧ Nt o
section
variable {g : Gw} {U U' : Addr → Prop} {H H' H1 H2 : Hp} {b : Nat}
theorem UOk.extU (u : UOk g U H) (f : Fr H H' g.p) : ExtU U H H' := fun a o h n z => f a o h (fun e => n (e ▸ u.p)) z
theorem UOk.fr (u : UOk g U H) (f : Fr H H' g.p) (w : Wd g H' b) : UOk g U H' := ⟨u.p, u.c, fun a ha => by
  by_cases e : a = g.p
  · subst e
    obtain ⟨ns, i, z, h, _⟩ := w.pen
    exact ⟨_, h, (fun _ z => by cases z), (fun _ z => by cases z)⟩
  · obtain ⟨o, h, n⟩ := u.al a ha
    exact ⟨o, f a o h e n.tbl, n⟩⟩
theorem Den.fr (u : UOk g U H) (f : Fr H H' g.p) {v : V} {d : D} (h : Den g U H v d) : Den g U H' v d := h.ext (u.extU f)
theorem DenL.fr (u : UOk g U H) (f : Fr H H' g.p) {v : List V} {d : List D} (h : DenL g U H v d) : DenL g U H' v d := h.ext (u.extU f)
theorem Wd.same (w : Wd g H b) (s : L2.Same H H') : Wd g H' b := ⟨w.pen.same s, w.tabs.ext s⟩
theorem fr_same (s : L2.Same H H') {p : Addr} : Fr H H' p := fun a o h _ _ => s a o h
theorem UOk.new (u : UOk g U H) {a : Addr} (h : H a = none) : ¬ U a := fun z => by
  obtain ⟨o, e, _⟩ := u.al a z
  rw [h] at e
  cases e
end
inductive Ow where
  | l (ds : List D) | d (x : D)
inductive DcR (g : Gw) (U : Addr → Prop) (H : Hp) : HO → D → Prop
  | k {kvs : List (Key × V)} {ps : List (Key × D)} : kvs.map (·.1) = ps.map (·.1) → DenL g U H (kvs.map (·.2)) (ps.map (·.2)) → DcR g U H (.dK kvs) (.dik ps)
  | t {kvs : List (List Key × V)} {ps : List (List Key × D)} : kvs.map (·.1) = ps.map (·.1) → DenL g U H (kvs.map (·.2)) (ps.map (·.2)) → DcR g U H (.dT kvs) (.dit ps)
def OwR (g : Gw) (U : Addr → Prop) (H : Hp) (o : HO) : Ow → Prop
  | .l ds => ∃ vs, o = .lst vs ∧ vs.length ≤ sizeLine ∧ DenL g U H vs ds
  | .d x => DcR g U H o x
theorem OwR.map {g : Gw} {U U' : Addr → Prop} {H H' : Hp} {o : HO} (f : ∀ {vs : List V} {ds : List D}, DenL g U H vs ds → DenL g U' H' vs ds) : ∀ {x : Ow}, OwR g U H o x → OwR g U' H' o x
  | .l ds, ⟨vs, e, l, k⟩ => ⟨vs, e, l, f k⟩
  | .d x, h => by
    cases h with
    | k a b => exact .k a (f b)
    | t a b => exact .t a (f b)
theorem OwR.no {g : Gw} {U : Addr → Prop} {H : Hp} {o : HO} : ∀ {x : Ow}, OwR g U H o x → (∃ vs, o = .lst vs) ∨ (∃ ks, o = .dK ks) ∨ ∃ ks, o = .dT ks
  | .l ds, ⟨vs, e, l, k⟩ => .inl ⟨vs, e⟩
  | .d x, h => by
    cases h with
    | k a b => exact .inr (.inl ⟨_, rfl⟩)
    | t a b => exact .inr (.inr ⟨_, rfl⟩)
theorem OwR.tbl {g : Gw} {U : Addr → Prop} {H : Hp} {o : HO} {x : Ow} (h : OwR g U H o x) : ∀ ps, o ≠ .tbl ps := fun ps e => by
  rcases h.no with ⟨vs, z⟩ | ⟨vs, z⟩ | ⟨vs, z⟩ <;> (rw [e] at z; cases z)
inductive Sl where
  | no | fz (d : D) | ow (ds : Ow) | oi (c : Str) (fs : Fs)
abbrev Env := List Sl
def SlR (g : Gw) (U : Addr → Prop) (H : Hp) (o : Option V) : Sl → Prop
  | .no => True
  | .fz d => ∃ v, o = some v ∧ Den g U H v d
  | .ow ds => ∃ a u, o = some (.ref a) ∧ H a = some u ∧ OwR g U H u ds ∧ U a ∧ a ≠ g.p ∧ a ≠ g.c
  | .oi c fs => ∃ a dx fvs, o = some (.ref a) ∧ H a = some (.ins (gd c g.K) dx fvs) ∧ DenF g U H fvs fs ∧ U a ∧ a ≠ g.p ∧ a ≠ g.c
def OwnAt (σ : L2.St) (ε : Env) (i : Nat) (a : Addr) : Prop := σ[i]? = some (some (.ref a)) ∧ ((∃ ds, ε[i]? = some (.ow ds)) ∨ ∃ c fs, ε[i]? = some (.oi c fs))
structure Rel (g : Gw) (U : Addr → Prop) (H : Hp) (σ : L2.St) (ε : Env) : Prop where
  len : σ.length = ε.length
  at_ : ∀ (i : Nat) (s : Sl), ε[i]? = some s → ∃ o, σ[i]? = some o ∧ SlR g U H o s
  apart : ∀ (i j : Nat) (a : Addr), i ≠ j → OwnAt σ ε i a → OwnAt σ ε j a → False
section
variable {g : Gw} {U U' : Addr → Prop} {H H' H1 H2 : Hp} {b : Nat} {σ : L2.St} {ε : Env}
theorem extU_of (hp : U g.p) (f : Fr H H' g.p) : ExtU U H H' := fun a o h n z => f a o h (fun e => n (e ▸ hp)) z
theorem SlR.frp (hp : U g.p) (f : Fr H H' g.p) {o : Option V} : ∀ {s : Sl}, SlR g U H o s → SlR g U H' o s
  | .no, _ => trivial
  | .fz d, ⟨v, e, h⟩ => ⟨v, e, h.ext (extU_of hp f)⟩
  | .ow ds, ⟨a, vs, e, h, k, ua, n1, n2⟩ => ⟨a, vs, e, f _ _ h n1 k.tbl, k.map (fun q => q.ext (extU_of hp f)), ua, n1, n2⟩
  | .oi c fs, ⟨a, dx, fvs, e, h, k, ua, n1, n2⟩ => ⟨a, dx, fvs, e, f _ _ h n1 (fun _ z => by cases z), k.ext (extU_of hp f), ua, n1, n2⟩
theorem SlR.fr (u : UOk g U H) (f : Fr H H' g.p) {o : Option V} {s : Sl} (h : SlR g U H o s) : SlR g U H' o s := h.frp u.p f
theorem Rel.frp (r : Rel g U H σ ε) (hp : U g.p) (f : Fr H H' g.p) : Rel g U H' σ ε := ⟨r.len, fun i s e => by
  obtain ⟨o, h1, h2⟩ := r.at_ i s e
  exact ⟨o, h1, h2.frp hp f⟩, r.apart⟩
theorem Rel.fr (r : Rel g U H σ ε) (u : UOk g U H) (f : Fr H H' g.p) : Rel g U H' σ ε := ⟨r.len, fun i s e => by
  obtain ⟨o, h1, h2⟩ := r.at_ i s e
  exact ⟨o, h1, h2.fr u f⟩, r.apart⟩
mutual
theorem Den.grow {x : Addr} (n : H x = none) : ∀ {v : V} {d : D}, Den g U H v d → Den g (fun a => U a ∨ a = x) H v d
  | _, _, .non => .non
  | _, _, .bl b => .bl b
  | _, _, .int i => .int i
  | _, _, .str x h => .str x h
  | _, _, .tup h k l r => .tup h (fun z => z.elim k (ne_of_none h n)) l (DenL.grow n r)
  | _, _, .tupW h l r nk => .tupW h l (DenL.grow n r) nk
  | _, _, .lst h k l r => .lst h (fun z => z.elim k (ne_of_none h n)) l (DenL.grow n r)
  | _, _, .obj h k r => .obj h (fun z => z.elim k (ne_of_none h n)) (DenF.grow n r)
  | _, _, .err h k h2 k2 r => .err h (fun z => z.elim k (ne_of_none h n)) h2 (fun z => z.elim k2 (ne_of_none h2 n)) (DenF.grow n r)
  | _, _, .pen => .pen
  | _, _, .cls c => .cls c
  | _, _, .er0 h k => .er0 h (fun z => z.elim k (ne_of_none h n))
  | _, _, .dct h k => .dct h (fun z => z.elim k (ne_of_none h n))
  | _, _, .dic h k l r => .dic h (fun z => z.elim k (ne_of_none h n)) l (DenL.grow n r)
  | _, _, .dit h k l r => .dit h (fun z => z.elim k (ne_of_none h n)) l (DenL.grow n r)
  | _, _, .dik h k l r => .dik h (fun z => z.elim k (ne_of_none h n)) l (DenL.grow n r)
theorem DenL.grow {x : Addr} (n : H x = none) : ∀ {vs : List V} {ds : List D}, DenL g U H vs ds → DenL g (fun a => U a ∨ a = x) H vs ds
  | _, _, .nil => .nil
  | _, _, .cons a r => .cons (Den.grow n a) (DenL.grow n r)
theorem DenF.grow {x : Addr} (n : H x = none) : ∀ {vs : List (Str × V)} {ds : List (Str × D)}, DenF g U H vs ds → DenF g (fun a => U a ∨ a = x) H vs ds
  | _, _, .nil => .nil
  | _, _, .cons a r => .cons (Den.grow n a) (DenF.grow n r)
end
theorem SlR.grow {x : Addr} (n : H x = none) {o : Option V} : ∀ {s : Sl}, SlR g U H o s → SlR g (fun a => U a ∨ a = x) H o s
  | .no, _ => trivial
  | .fz d, ⟨v, e, h⟩ => ⟨v, e, h.grow n⟩
  | .ow ds, ⟨a, vs, e, h, k, ua, n1, n2⟩ => ⟨a, vs, e, h, k.map (fun q => q.grow n), .inl ua, n1, n2⟩
  | .oi c fs, ⟨a, dx, fvs, e, h, k, ua, n1, n2⟩ => ⟨a, dx, fvs, e, h, k.grow n, .inl ua, n1, n2⟩
theorem Rel.grow {x : Addr} (r : Rel g U H σ ε) (n : H x = none) : Rel g (fun a => U a ∨ a = x) H σ ε := ⟨r.len, fun i s e => by
  obtain ⟨o, h1, h2⟩ := r.at_ i s e
  exact ⟨o, h1, h2.grow n⟩, r.apart⟩
def okP (g : Gw) (U : Addr → Prop) (H : Hp) (Q : VK) : D → Nat → Prop := fun d b => ∀ v H', Den g U H' v d → Wd g H' b → Fr H H' g.p → Q v H'
def exP (g : Gw) (U : Addr → Prop) (E : XK) (H : Hp) : Str → Fs → Nat → Prop := fun c fs b => ∀ dd fvs H', H' dd = some (.xd fvs) → ¬ U dd → DenF g U H' fvs fs → Wd g H' b → Fr H H' g.p → E (.ref (gd c g.K)) (some dd) H'
theorem exP.fr {E : XK} {c : Str} {fs : Fs} (f : Fr H H1 g.p) (h : exP g U E H c fs b) : exP g U E H1 c fs b := fun dd fvs H' h1 h2 h3 h4 h5 => h dd fvs H' h1 h2 h3 h4 (f.trans h5)
theorem okP.fr {Q : VK} {d : D} (f : Fr H H1 g.p) (h : okP g U H Q d b) : okP g U H1 Q d b := fun v H' h1 h2 h3 => h v H' h1 h2 (f.trans h3)
theorem okP.here {Q : VK} {d : D} {v : V} (h : okP g U H Q d b) (w : Wd g H b) (dn : Den g U H v d) : Q v H := h v H dn w Fr.refl
variable {E : XK} {ta tb tc : TE} {ma mb : Tr D}
end
end Gp
end
section
set_option Elab.async false
set_option linter.all false
set_option maxRecDepth 100000
set_option maxHeartbeats 4000000
namespace Gp
open PySem PySem.Spec PyProof.Rows L2 Gh
inductive Fl (W L : Type) where
  | nx (w : W) | rt (d : D) | bk (l : L) | ct (l : L)
def FrM (g : Gw) (Mt : Addr → Prop) (H H' : Hp) : Prop := ∀ a o, H a = some o → a ≠ g.p → ¬ Mt a → (∀ ps, o ≠ .tbl ps) → H' a = some o
def OiM (Mt U0 : Addr → Prop) (i : Nat) (a : Addr) : Prop := (i = 0 → Mt a) ∧ (i ≠ 0 → ¬ U0 a)
structure Stt (g : Gw) (Mt U0 : Addr → Prop) (H0 : Hp) (U : Addr → Prop) (σ : L2.St) (H : Hp) (b : Nat) (ε : Env) : Prop where
  rel : Rel g U H σ ε
  wd : Wd g H b
  uok : UOk g U H
  sub : ∀ a, U0 a → U a
  own : ∀ i a, OwnAt σ ε i a → Mt a ∨ ∀ o, H0 a = some o → ∃ ps, o = .tbl ps
  ext : FrM g Mt H0 H
  nu0 : ∀ (i : Nat) (ds : Ow) (a : Addr), ε[i]? = some (.ow ds) → σ[i]? = some (some (.ref a)) → ¬ U0 a
  oim : ∀ (i : Nat) (c : Str) (fs : Fs) (a : Addr), True → ε[i]? = some (.oi c fs) → σ[i]? = some (some (.ref a)) → OiM Mt U0 i a
section
variable {g : Gw} {Mt U0 U U' : Addr → Prop} {H0 H H' H1 H2 : Hp} {b b1 : Nat} {σ : L2.St} {ε ε' : Env} {E : XK} {W L W' : Type}
structure Ev (U : Addr → Prop) (H : Hp) (U' : Addr → Prop) (H' : Hp) : Prop where
  keep : ∀ a o, H a = some o → ¬ U a → (∀ ps, o ≠ .tbl ps) → H' a = some o
  out : ∀ a o, H a = some o → ¬ U a → (∀ ps, o ≠ .tbl ps) → ¬ U' a
theorem Ev.refl : Ev U H U H := ⟨fun _ _ h _ _ => h, fun _ _ _ n _ => n⟩
theorem Ev.trans {U1 : Addr → Prop} {H1 : Hp} (h : Ev U H U1 H1) (k : Ev U1 H1 U' H') : Ev U H U' H' := ⟨fun a o e n t => k.keep a o (h.keep a o e n t) (h.out a o e n t) t, fun a o e n t => k.out a o (h.keep a o e n t) (h.out a o e n t) t⟩
theorem UOk.ev (u : UOk g U H) (f : Fr H H' g.p) : Ev U H U H' := ⟨fun a o e n t => f a o e (fun z => n (z ▸ u.p)) t, fun _ _ _ n _ => n⟩
mutual
theorem Den.ev (e : Ev U H U' H') : ∀ {v : V} {d : D}, Den g U H v d → Den g U' H' v d
  | _, _, .non => .non
  | _, _, .bl b => .bl b
  | _, _, .int i => .int i
  | _, _, .str x h => .str x h
  | _, _, .tup h n l k => .tup (e.keep _ _ h n (fun _ z => by cases z)) (e.out _ _ h n (fun _ z => by cases z)) l (DenL.ev e k)
  | _, _, .tupW h l k nk => .tupW h l (DenL.ev e k) nk
  | _, _, .lst h n l k => .lst (e.keep _ _ h n (fun _ z => by cases z)) (e.out _ _ h n (fun _ z => by cases z)) l (DenL.ev e k)
  | _, _, .obj h n k => .obj (e.keep _ _ h n (fun _ z => by cases z)) (e.out _ _ h n (fun _ z => by cases z)) (DenF.ev e k)
  | _, _, .err h n h2 n2 k => .err (e.keep _ _ h n (fun _ z => by unfold exk at z; cases z)) (e.out _ _ h n (fun _ z => by unfold exk at z; cases z)) (e.keep _ _ h2 n2 (fun _ z => by cases z)) (e.out _ _ h2 n2 (fun _ z => by cases z)) (DenF.ev e k)
  | _, _, .pen => .pen
  | _, _, .cls c => .cls c
  | _, _, .er0 h n => .er0 (e.keep _ _ h n (fun _ z => by unfold exk0 at z; cases z)) (e.out _ _ h n (fun _ z => by unfold exk0 at z; cases z))
  | _, _, .dct h n => .dct (e.keep _ _ h n (fun _ z => by cases z)) (e.out _ _ h n (fun _ z => by cases z))
  | _, _, .dic h n l k => .dic (e.keep _ _ h n (fun _ z => by cases z)) (e.out _ _ h n (fun _ z => by cases z)) l (DenL.ev e k)
  | _, _, .dit h n l k => .dit (e.keep _ _ h n (fun _ z => by cases z)) (e.out _ _ h n (fun _ z => by cases z)) l (DenL.ev e k)
  | _, _, .dik h n l k => .dik (e.keep _ _ h n (fun _ z => by cases z)) (e.out _ _ h n (fun _ z => by cases z)) l (DenL.ev e k)
theorem DenL.ev (e : Ev U H U' H') : ∀ {vs : List V} {ds : List D}, DenL g U H vs ds → DenL g U' H' vs ds
  | _, _, .nil => .nil
  | _, _, .cons a r => .cons (Den.ev e a) (DenL.ev e r)
theorem DenF.ev (e : Ev U H U' H') : ∀ {vs : List (Str × V)} {ds : List (Str × D)}, DenF g U H vs ds → DenF g U' H' vs ds
  | _, _, .nil => .nil
  | _, _, .cons a r => .cons (Den.ev e a) (DenF.ev e r)
end
theorem FrM.trans (h : FrM g Mt H0 H) (f : Fr H H' g.p) : FrM g Mt H0 H' := fun a o e n1 n2 n3 => f a o (h a o e n1 n2 n3) n1 n3
theorem Stt.fr (s : Stt g Mt U0 H0 U σ H b ε) (f : Fr H H' g.p) (w : Wd g H' b1) : Stt g Mt U0 H0 U σ H' b1 ε := ⟨s.rel.fr s.uok f, w, s.uok.fr f w, s.sub, s.own, s.ext.trans f, s.nu0, s.oim⟩
def flP (g : Gw) (Mt U0 : Addr → Prop) (H0 : Hp) (U : Addr → Prop) (H : Hp) (D : Ends) (env : W → Env) (envL : L → Env) : Fl W L → Nat → Prop
  | .nx w, b => ∀ U' σ' H', Ev U H U' H' → Stt g Mt U0 H0 U' σ' H' b (env w) → D.nx σ' H'
  | .rt d, b => ∀ v H, Den g U0 H v d → Wd g H b → FrM g Mt H0 H → D.rt v H
  | .bk w, b => ∀ U' σ' H', Ev U H U' H' → Stt g Mt U0 H0 U' σ' H' b (envL w) → D.bk σ' H'
  | .ct w, b => ∀ U' σ' H', Ev U H U' H' → Stt g Mt U0 H0 U' σ' H' b (envL w) → D.ct σ' H'
theorem flP.ev {U1 : Addr → Prop} {H1 : Hp} {D : Ends} {env : W → Env} {envL : L → Env} (e : Ev U H U1 H1) : ∀ {f : Fl W L}, flP g Mt U0 H0 U H D env envL f b → flP g Mt U0 H0 U1 H1 D env envL f b
  | .nx w, h => fun U' σ' H' e1 => h U' σ' H' (e.trans e1)
  | .rt d, h => h
  | .bk w, h => fun U' σ' H' e1 => h U' σ' H' (e.trans e1)
  | .ct w, h => fun U' σ' H' e1 => h U' σ' H' (e.trans e1)
def exS (g : Gw) (Mt U0 : Addr → Prop) (H0 : Hp) (E : XK) : Str → Fs → Nat → Prop := fun c fs b => ∀ dd fvs H, H dd = some (.xd fvs) → ¬ U0 dd → DenF g U0 H fvs fs → Wd g H b → FrM g Mt H0 H → E (.ref (gd c g.K)) (some dd) H
def SS (g : Gw) (E : XK) (ε : Env) (t : TS) (env : W → Env) (envL : L → Env) (m : Tr (Fl W L)) : Prop := ∀ Mt U0 H0 U D σ H b, Stt g Mt U0 H0 U σ H b ε → Al (flP g Mt U0 H0 U H D env envL) (exS g Mt U0 H0 E) m b → t D σ H
theorem exS.exP (s : Stt g Mt U0 H0 U σ H b ε) {c : Str} {fs : Fs} (h : exS g Mt U0 H0 E c fs b1) : exP g U E H c fs b1 := fun dd fvs H' h1 h2 h3 h4 h5 =>
  h dd fvs H' h1 (fun z => h2 (s.sub _ z)) (h3.sub fun a _ z => s.sub a z) h4 (s.ext.trans h5)
theorem ownAt_set {i j : Nat} {v : V} {d : D} {a : Addr} (h : OwnAt (σ.set i (some v)) (ε.set i (.fz d)) j a) : i ≠ j ∧ OwnAt σ ε j a := by
  obtain ⟨h1, h2⟩ := h
  by_cases e : i = j
  · subst e
    exfalso
    rcases h2 with ⟨ds, h2⟩ | ⟨c, fs, h2⟩
    · rw [List.getElem?_set_self' ] at h2
      cases q : ε[i]? with
      | none => rw [q] at h2; cases h2
      | some z => rw [q] at h2; cases h2
    · rw [List.getElem?_set_self'] at h2
      cases q : ε[i]? with
      | none => rw [q] at h2; cases h2
      | some z => rw [q] at h2; cases h2
  · rw [List.getElem?_set_ne e] at h1 h2
    exact ⟨e, h1, h2⟩
theorem Rel.set (r : Rel g U H σ ε) {v : V} {d : D} (i : Nat) (h : Den g U H v d) : Rel g U H (σ.set i (some v)) (ε.set i (.fz d)) := by
  refine ⟨by rw [List.length_set, List.length_set]; exact r.len, fun j s e => ?_, fun j k a n h1 h2 => r.apart j k a n (ownAt_set h1).2 (ownAt_set h2).2⟩
  by_cases q : i = j
  · subst q
    have hl : i < ε.length := by
      cases z : ε[i]? with
      | none => rw [List.getElem?_set_self', z] at e; cases e
      | some w => exact (List.getElem?_eq_some_iff.mp z).1
    rw [List.getElem?_set_self hl] at e
    cases e
    exact ⟨some v, List.getElem?_set_self (by rw [r.len]; exact hl), v, rfl, h⟩
  · rw [List.getElem?_set_ne q] at e ⊢
    exact r.at_ j s e
theorem Stt.set (s : Stt g Mt U0 H0 U σ H b ε) {v : V} {d : D} (i : Nat) (h : Den g U H v d) : Stt g Mt U0 H0 U (σ.set i (some v)) H b (ε.set i (.fz d)) :=
  ⟨s.rel.set i h, s.wd, s.uok, s.sub, fun j a o => s.own j a (ownAt_set o).2, s.ext, fun j ds a e1 e2 => (by
    obtain ⟨_, e3, e4⟩ := ownAt_set (a := a) (j := j) ⟨e2, .inl ⟨ds, e1⟩⟩
    rcases e4 with ⟨ds', e4⟩ | ⟨_, _, e4⟩
    · exact s.nu0 j ds' a e4 e3
    · by_cases q : i = j
      · subst q
        cases z : ε[i]? with
        | none => rw [List.getElem?_set_self', z] at e1; cases e1
        | some w => rw [List.getElem?_set_self', z] at e1; cases e1
      · rw [List.getElem?_set_ne q, e4] at e1
        cases e1), fun j c fs a j0 e1 e2 => by
    by_cases q : i = j
    · subst q
      cases z : ε[i]? with
      | none => rw [List.getElem?_set_self', z] at e1; cases e1
      | some w => rw [List.getElem?_set_self', z] at e1; cases e1
    · rw [List.getElem?_set_ne q] at e1 e2
      exact s.oim j c fs a j0 e1 e2⟩
inductive Le : Env → Env → Prop
  | nil : Le [] []
  | s {x : Sl} {a b : Env} : Le a b → Le (x :: a) (x :: b)
  | n {x : Sl} {a b : Env} : Le a b → Le (.no :: a) (x :: b)
theorem Le.refl : ∀ ε : Env, Le ε ε
  | [] => .nil
  | _ :: r => .s (Le.refl r)
theorem Le.len : ∀ {a b : Env}, Le a b → a.length = b.length
  | _, _, .nil => rfl
  | _, _, .s h => congrArg (· + 1) h.len
  | _, _, .n h => congrArg (· + 1) h.len
variable {env : W → Env} {envL : L → Env} {env' : W' → Env} {u ta tb : TS} {te : TE} {me : Tr D}
section
variable {α : Type} {P : α → Nat → Prop} {X : Str → Fs → Nat → Prop} {ds : List D}
end
def bdF (m : Tr (Fl W' L)) (k : W' → Tr (Fl W L)) : Tr (Fl W L) := bd m fun f => match f with
  | .nx w => k w
  | .rt d => .ok (.rt d)
  | .bk l => .ok (.bk l)
  | .ct l => .ok (.ct l)
theorem SS.seq {m : Tr (Fl W' L)} {k : W' → Tr (Fl W L)} (h1 : SS g E ε ta env' envL m) (h2 : ∀ w, SS g E (env' w) u env envL (k w)) : SS g E ε (tSeq ta u) env envL (bdF m k) := fun Mt U0 H0 U D σ H b s q => by
  refine h1 Mt U0 H0 U { D with nx := u D } σ H b s ((al_bd.mp q).mono (fun f b1 h => ?_) (fun _ _ _ h => h))
  cases f with
  | nx w => exact fun U1 σ1 H1 e1 s1 => h2 w Mt U0 H0 U1 D σ1 H1 b1 s1 (Al.mono (fun _ _ z => z.ev e1) (fun _ _ _ z => z) h)
  | rt d => exact h
  | bk l => exact h
  | ct l => exact h
def SX (g : Gw) (E : XK) (ε : Env) (d : D) (gt : TG) (tb : TS) (env : W → Env) (envL : L → Env) (m : Tr (Fl W L)) : Prop := ∀ Mt U0 H0 U D σ H b v, Stt g Mt U0 H0 U σ H b ε → Den g U H v d → Al (flP g Mt U0 H0 U H D env envL) (exS g Mt U0 H0 E) m b → gt v σ H fun σ2 H2 => tb D σ2 H2
end
end Gp
end
section
set_option Elab.async false
set_option linter.all false
set_option maxRecDepth 100000
set_option maxHeartbeats 4000000
namespace Gp
open PySem PySem.Spec PyProof.Rows L2 Gh
section
variable {g : Gw} {Mt U0 U U' : Addr → Prop} {H0 H H' H1 H2 : Hp} {b b1 : Nat} {σ : L2.St} {ε ε' : Env} {E : XK} {W L W' : Type}
variable {env : W → Env} {envL : L → Env} {env' : W' → Env} {u ta tb : TS} {te : TE} {me : Tr D}
abbrev EF : XK := fun _ _ _ => False
theorem exP.F {c : Str} {fs : Fs} (h : False) : exP g U EF H c fs b := h.elim
end
end Gp
end
section
set_option Elab.async false
set_option linter.all false
set_option maxRecDepth 100000
set_option maxHeartbeats 4000000
namespace Gp
open PySem PySem.Spec PyProof.Rows L2 Gh
section
variable {g : Gw} {Mt U0 U U' : Addr → Prop} {H0 H H' H1 H2 : Hp} {b b1 : Nat} {σ : L2.St} {ε ε' : Env} {E : XK} {W L W' : Type}
variable {env : W → Env} {envL : L → Env} {env' : W' → Env} {u ta tb : TS} {te : TE} {me : Tr D}
def fin (m : Tr (Fl Unit Empty)) : Tr D := bd m fun f => match f with
  | .nx _ => .ok .non
  | .rt d => .ok d
  | .bk e => nomatch e
  | .ct e => nomatch e
def isO {α : Type} (c : Str) (o : D) (k : Fs → Tr α) : Tr α := match o with
  | .obj c' fs => if c' = c then k fs else .bad
  | _ => .bad
end
end Gp
end
section
set_option Elab.async false
set_option linter.all false
set_option maxRecDepth 100000
set_option maxHeartbeats 4000000
namespace Gp
open PySem PySem.Spec PyProof.Rows L2 Gh
mutual
def toPy : D → Option PyData
  | .non => some .none
  | .bl b => some (.bool b)
  | .int i => some (.int i)
  | .str x => some (.str x)
  | .tup ds => (toPyL ds).map .tuple
  | .lst ds => (toPyL ds).map .list
  | .obj _ _ => none
  | .err _ _ => none
  | .pen => none
  | .cls _ => none
  | .er0 _ => none
  | .dct => none
  | .dic _ => none
  | .dit _ => none
  | .dik _ => none
def toPyL : List D → Option (List PyData)
  | [] => some []
  | d :: ds => match toPy d, toPyL ds with
    | some e, some es => some (e :: es)
    | _, _ => none
end
section
variable {g : Gw} {U : Addr → Prop} {H H' H1 : Hp} {b : Nat} {E : XK} {Q : VK}
end
end Gp
end
section
set_option Elab.async false
set_option linter.all false
set_option maxRecDepth 100000
set_option maxHeartbeats 4000000
namespace Gp
open PySem PySem.Spec PyProof.Rows L2 Gh
section
variable {g : Gw} {Mt U0 U U' : Addr → Prop} {H0 H H' H1 H2 : Hp} {b b1 : Nat} {σ : L2.St} {ε ε' : Env} {E : XK} {Q : VK} {W L W' : Type}
variable {env : W → Env} {envL : L → Env} {env' : W' → Env} {u ta tb : TS} {te : TE} {me : Tr D}
def shwD (d : D) : Option Str := match d with
  | .non => some "None"
  | .bl b => some (if b then "True" else "False")
  | .int i => if i.natAbs.log2 < 1920 then some (toString i) else none
  | .str x => if (reprText x).length ≤ sizeLine then some (reprText x) else none
  | d => match toPy d with
    | some e => if e.showable = true ∧ e.hasDict = false ∧ e.depth ≤ 100 ∧ e.shown.length ≤ sizeLine then some e.shown else none
    | none => none
def reprD (d : D) : Tr D := match shwD d with
  | some x => if x.length ≤ sizeLine then .ok (.str x) else .bad
  | none => .bad
end
end Gp
end
section
set_option Elab.async false
set_option linter.all false
set_option maxRecDepth 100000
set_option maxHeartbeats 4000000
namespace Gp
open PySem PySem.Spec PyProof.Rows L2 Gh
section
variable {g : Gw} {Mt U0 U U' : Addr → Prop} {H0 H H' H1 H2 : Hp} {b b1 : Nat} {σ : L2.St} {ε ε' : Env} {E : XK} {Q : VK} {W L W' : Type}
variable {env : W → Env} {envL : L → Env} {env' : W' → Env} {u ta tb : TS} {te : TE} {me : Tr D}
theorem look_cons {α : Type} {a c : Str} {x k : α} {r : List (Str × α)} (h : ((a, x) :: r).lookup c = some k) : (c = a ∧ k = x) ∨ r.lookup c = some k := by
  simp only [List.lookup] at h
  split at h
  · rename_i z
    cases h
    exact .inl ⟨beq_iff_eq.mp z, rfl⟩
  · exact .inr h
section
variable {K : PySem.W.Frag} {T : List (Addr × Str)} {N : List Str} {cn : Str} {vs : List V} {t : TS} {envI : Fs → Env}
end
def Yes (F : Tr D) : Prop := Al (fun d _ => d = .bl true) (fun _ _ _ => False) F 1000000
def eqO (c : Str) (f : D → Bool) (F : List D → Tr D) (x y : D) : Tr D := isO c x fun _ => if f y = true then F [x, y] else .bad
end
end Gp
namespace Gp
open PySem PySem.Spec PyProof.Rows L2 Gh
section
variable {g : Gw}
end
end Gp
namespace Gp
open PySem PySem.Spec PyProof.Rows L2 Gh
end Gp
end
section
set_option Elab.async false
set_option linter.all false
set_option maxRecDepth 100000
set_option maxHeartbeats 4000000
namespace Gp
open PySem PySem.Spec PyProof.Rows L2 Gh
structure SupX (X : Cx) (D f cda cc : Addr) (ar : Str) : Prop where
  fu : X.env.func = some f
  co : X.env.code = .ref cda
  lkf : ∃ oc od fd osl a, X.K.lookup f = some ⟨oc, od, .func fd, osl⟩ ∧ (fd.params.posonlyargs ++ fd.params.args).head? = some a ∧ a.arg = ar
  lkc : ∃ ccl cdd vs ccs file tf, X.K.lookup cda = some ⟨ccl, cdd, .fields vs, ccs⟩ ∧ vs[2]? = some (.str file tf) ∧ ((X.prog.main.file : Str) == file) = true
  top : (X.prog.main.scope.names.lookup ("super" : Str)).isSome = false
  ks : X.env.kindOf "super" = some .globalImplicit
  kc : X.env.kindOf "__class__" = some .free
  cell : X.env.cells.lookup ("__class__" : Str) = some cc
  lkl : ∃ cl cld csl, X.K.lookup cc = some ⟨cl, cld, .cell (some (.ref D)), csl⟩
  cD : ∃ cd, PySem.W.clsIn X.K D = some cd
  mg : X.mg "super" = none
  st : PySem.W.nsIn X.K cStatics "thirdparty.any" = some none
  n0 : X.N[0]? = some ar
  ka : X.env.kindOf ar = some .local
structure SupC (K : PySem.W.Frag) (C D : Addr) (m : Str) (f2 : Addr) : Prop where
  sub : PySem.W.mroIn K C (.ref D) = some true
  sup : PySem.W.ks_superIn K C D m = some (some (.ref f2))
  ty : PySem.W.typeIn K (.ref f2) = some (.type "function")
  fn : PySem.W.fnIn K f2 = true
theorem sup_run {X : Cx} {D f cda cc f2 : Addr} {ar m : Str} {body : List Stmt} {p0 p1 apos pos epos : Pos} {e : Expr} {es : List Expr} {ta : TA} {CX : CXT} {k : Nat} {dvs : List V} {sp : Sp} {E : XK} {pl : Sem Bool} {pins : List (Addr × Obj)} {s : Shared} {σ : L2.St} {H : Hp} {Dn : L2.St → Hp → Prop}
    (S : SupX X D f cda cc ar) (hm : (m == ("__class__" : Str)) = false) (ha : PA X (e :: es) ta) (G : PromOX X CX k f2 dvs sp) (hr : Room k X.A) (hx : Passes CX X E) (I : Inv X pins σ H s)
    (h : ∃ a C dx fs, σ[0]? = some (some (.ref a)) ∧ H a = some (.ins C dx fs) ∧ SupC X.K C D m f2 ∧ ta σ H fun vs H1 => sp (.ref a :: (vs ++ dvs)) H1 (fun _ H2 => Dn σ H2) E)
    (hst : starEach (e :: es) X.env = (false, eval e X.env) :: starEach es X.env := by rfl) (hpl : (backTo pos (starEach es X.env)).any (·.1) = false := by rfl)
    (he : eval (.Call (.Attribute (.Call (.Name "super" p0) [] [] p1) m apos) (e :: es) [] pos) X.env = (do
      let ov ← attributeBase (.Call (.Name "super" p0) [] [] p1) m X.env (eval (.Call (.Name "super" p0) [] [] p1) X.env)
      standAt apos.atName
      let (f, first) ← holding [ov] (getMethod ov m pl)
      callWith pos f first (backTo pos (starEach (e :: es) X.env)) []) := by rfl)
    (hsw : swapsWith (.Call (.Attribute (.Call (.Name "super" p0) [] [] p1) m apos) (e :: es) [] pos) none epos.line X.env = pure false := by rfl) :
    _root_.PySem.wpAt (model X.prog X.w) X.A (.func body X.env) (exec (.Expr (.Call (.Attribute (.Call (.Name "super" p0) [] [] p1) m apos) (e :: es) [] pos) epos) X.env) (fun fl s' => fl = .next ∧ ∃ H', Inv X pins σ H' s' ∧ Dn σ H') X.xe s := by
  obtain ⟨a, C, dx, fs, h0, hi, sc, q⟩ := h
  have KX := I.kIn
  obtain ⟨oc, od, fd, osl, ag, lkf, hp, rfl⟩ := S.lkf
  obtain ⟨ccl, cdd, vs, ccs, file, tf, lkc, hvs, hfile⟩ := S.lkc
  obtain ⟨cl, cld, csl, lkl⟩ := S.lkl
  obtain ⟨cdD, hD⟩ := S.cD
  obtain ⟨ox, od', J⟩ := ins_look I hi
  obtain ⟨oD, hD1, hD2⟩ : ∃ oD, s.heap.get? D = some oD ∧ oD.data = .cls cdD := by
    unfold PySem.W.clsIn at hD
    split at hD
    · rename_i ho
      cases hD
      exact ⟨_, KX _ _ ho, rfl⟩
    · cases hD
  have nc : ∀ c, ox.data ≠ .cls c := fun c e => by
    have := J.no
    unfold PySem.W.notCls at this
    rw [e] at this
    exact Bool.noConfusion this
  refine ks_wpAt_Expr_any (ks_wpAt_MethodCall (pl := pl) (ks_wpAt_super_base S.ks S.kc hm S.fu (KX _ _ lkf) rfl hp S.co (KX _ _ lkc) rfl hvs hfile S.top ?_) he) I.quiet hsw
  obtain ⟨mb, b1, b2⟩ := I.mod.blt
  refine PySem.W.ks_loadName_global I.ok.kind S.ks (Calls.loadGlobal_builtin (by rw [I.ok.glob]; exact I.mod.glob.keeps I.bk) S.mg (by rw [I.ok.blt]; exact b1.keeps I.bk) ((b2 "super" (by decide)).trans (show bootBuiltins "super" = some (.type "super") by decide +kernel)) ⟨rfl, ?_⟩)
  refine wpAny_loadName_free I.ok.kind S.kc S.cell ⟨_, KX _ _ lkl, rfl⟩ ?_
  obtain ⟨mm, hn, hl⟩ := I.loc
  obtain ⟨u, ru, hu⟩ := hl 0 ag.arg (.ref a) S.n0 h0 (.inl S.ka)
  have eu : u = Value.ref a := ru
  subst eu
  have hv : mm ag.arg = some (.ref a) := by
    rcases hu with z | ⟨z, _⟩
    · exact z.2
    · rcases z with z | z <;> rw [S.ka] at z <;> cases z
  refine wpAny_loadName_local I.ok.kind S.ka hn hv ?_
  obtain ⟨hh, g, d, t, os⟩ := s
  refine ks_wpAny_isType_cls hD1 hD2 ⟨rfl, ?_⟩
  refine ks_wpAny_call_super hD1 hD2 J.at_ J.cls nc (PySem.W.looks_mroIn KX sc.sub) (fun h1 e1 k1 => ?_)
  cases hcC : PySem.W.clsIn X.K C with
  | none =>
    have z := sc.sup
    unfold PySem.W.ks_superIn at z
    rw [hcC] at z
    cases z
  | some cdC =>
    have K1 : X.K.In h1 := KX.keeps k1
    obtain ⟨of, hof, hofc⟩ : ∃ of, h1.get? f2 = some of ∧ of.cls = .type "function" := by
      have ht' : (X.K.lookup f2).map (·.cls) = some (.type "function") := sc.ty
      cases z : X.K.lookup f2 with
      | none => rw [z] at ht'; cases ht'
      | some of => rw [z] at ht'; exact ⟨of, K1 _ _ z, Option.some.inj ht'⟩
    have hsup := sc.sup
    unfold PySem.W.ks_superIn at hsup
    rw [hcC] at hsup
    refine ks_wpAny_getMethod_super e1 (PySem.W.looks_opaque K1 S.st) (l₀ := cdC.mro) ?_ rfl K1 hsup hof hofc (PySem.W.ks_ne KX J hcC) hm ?_
    · exact fun A Q E s k q => wpAny_bind ((PySem.W.looks_clsIn K1 hcC) A _ E s k (wpAny_pure q))
    · have k2 : ∀ b o, hh.get? b = some o → (h1.push { cls := .type "method", data := .fields #[.ref f2, .ref a] }).get? b = some o := fun b o eb => Heap.get?_push_of_some _ (k1 b o eb)
      have I2 : Inv X pins σ H ⟨h1.push { cls := .type "method", data := .fields #[.ref f2, .ref a] }, g, d, t + 1, os⟩ := I.kept (t' := t + 1) k2
      have hsz : hh.objs.size ≤ h1.objs.size := by
        have := Heap.lt_size e1
        exact Nat.le_of_lt this
      have fp := I.fpOk (H' := H) (b := h1.objs.size) hsz (I.hok.fresh hsz)
      have hq1 : (h1.push { cls := .type "method", data := .fields #[.ref f2, .ref a] }).get? h1.objs.size = some (PySem.W.methodObj (.ref f2) (.ref a)) := Heap.get?_push_size _ rfl
      have I3 : Inv X ((h1.objs.size, PySem.W.methodObj (.ref f2) (.ref a)) :: pins) σ H ⟨h1.push { cls := .type "method", data := .fields #[.ref f2, .ref a] }, g, d, t + 1, os⟩ := I2.pins_of fun p hp => by
        rcases List.mem_cons.mp hp with rfl | hp
        · exact ⟨hq1, fp.1, fp.2.1, fp.2.2.1, fun v z => by cases z⟩
        · exact I2.pin p (List.mem_append_right _ hp)
      show wpAny _ _ (callWith pos (.ref h1.objs.size) [] (backTo pos (starEach (e :: es) X.env)) []) _ _ _
      rw [hst]
      refine PySem.W.callWith_of (P := PySem.W.MethP X.K h1.objs.size f2 (.ref a)) (by show ((false || (backTo pos (starEach es X.env)).any (·.1)) || false) = false; rw [hpl]; rfl) (PySem.W.keeps_M sc.fn) (PySem.Calls.evalArgs_plain ?_)
      show wpAny _ _ (spliced (backTo pos ((false, eval e X.env) :: starEach es X.env))) _ _ _
      rw [← hst]
      refine thn (ha.run pos _ _ σ H _ I3 q) fun us s3 ⟨ws, H1, I4, rv, q2⟩ => ?_
      have pq := (I4.pin (h1.objs.size, PySem.W.methodObj (.ref f2) (.ref a)) (List.mem_append_right _ List.mem_cons_self)).1
      refine ⟨⟨pq, I4.kIn⟩, ?_⟩
      have I5 : Inv X pins σ H1 s3 := I4.pins_of fun p hp => I4.pin p (List.mem_append_right _ (List.mem_cons_of_mem _ hp))
      obtain ⟨fd2, ps2, ds2, G2, b2', hd2⟩ := G
      have r2 : Vals (.ref a :: (ws ++ dvs)) (.ref a :: (us ++ ds2)) := .cons rfl (rv.append hd2)
      have hl2 : ((Value.ref a :: us) ++ ds2).length = ps2.length := by
        rw [← G2.len _ _ _ _ q2]
        exact r2.length.symm
      refine wpAny_call (ks_codeAny_call_bound pq (codeAny_mono (G2.run X.A X.stack s3 H1 ⟨.ref a :: us, []⟩ (.ref a :: (us ++ ds2)) (.ref a :: (ws ++ dvs)) _ E hr I5.env0 (b2' s3 (.ref a :: us) I5.kIn hl2) r2 q2) fun r s' hq => ?_))
      cases r with
      | error er => exact hx pins σ H1 s3 er s' I5 hq
      | ok fl =>
        cases fl with
        | ret u =>
          obtain ⟨v, H', I6, _, q3⟩ := I5.after hq
          exact ⟨rfl, H', I6, q3⟩
        | next => exact False.elim hq
        | brk => exact False.elim hq
        | cont => exact False.elim hq
end Gp
end
section
set_option Elab.async false
set_option linter.all false
set_option maxRecDepth 100000
set_option maxHeartbeats 4000000
namespace Gp
open PySem PySem.Spec PyProof.Rows L2 Gh
theorem execs_app (env : PySem.Env) (rest : List Stmt) : ∀ pre : List Stmt, execs (pre ++ rest) env = (execs pre env >>= fun f => match f with
  | .next => execs rest env
  | f => pure f)
  | [] => by
    show execs rest env = (pure Flow.next >>= _)
    rw [pure_bind]
  | st :: pre => by
    show execs (st :: (pre ++ rest)) env = _
    rw [execs_cons, execs_cons, bind_assoc]
    congr 1
    funext f
    cases f with
    | next => exact execs_app env rest pre
    | _ => rw [pure_bind]
theorem wpAt_app {M : Model} {A : Around} {c : Code} {env : PySem.Env} {pre rest : List Stmt} {Q : Flow → Shared → Prop} {E : Value → Shared → Prop} {s : Shared}
    (h : wpAny M A (execs pre env) (fun f s' => match f with
      | .next => _root_.PySem.wpAt M A c (execs rest env) Q E s'
      | f => Q f s') E s) : _root_.PySem.wpAt M A c (execs (pre ++ rest) env) Q E s := by
  rw [execs_app]
  refine _root_.PySem.wpAt_bind (_root_.PySem.wpAt_of_wpAny (wpAny_mono h (fun f s' hf => ?_) fun _ _ z => z))
  cases f with
  | next => exact hf
  | _ => exact _root_.PySem.wpAt_of_wpAny (wpAny_pure hf)
structure SupF (K : PySem.W.Frag) (x qual : Str) (params : Arguments) (body : List Stmt) (scope : Scope) (dvs : List V) (f D : Addr) (file : Str) (fd : FuncData) : Prop where
  ex : ∃ (oc : Value) (od : Option Addr) (dV kV doc pm : Value) (an : Option Addr) (cda : Addr) (ct : Value) (osl : Array (Option Value)) (cc : Addr),
    fd = PySem.W.fnX x qual params body scope [("__class__", cc)] dV kV doc pm an (.ref cda) ct ∧ K.lookup f = some ⟨oc, od, .func fd, osl⟩ ∧ PySem.W.codeIn K (.ref cda) qual = true ∧ DflV K dV dvs ∧
    (∃ cl cld csl, K.lookup cc = some ⟨cl, cld, .cell (some (.ref D)), csl⟩) ∧ ∃ ccl cdd vs ccs tf, K.lookup cda = some ⟨ccl, cdd, .fields vs, ccs⟩ ∧ vs[2]? = some (.str file tf)
  kp : PySem.W.keepIn K (.ref f) = true
structure SupT (K : PySem.W.Frag) (mg : Str → Option Value) (D : Addr) : Prop where
  cD : ∃ cd, PySem.W.clsIn K D = some cd
  mg : mg "super" = none
  st : PySem.W.nsIn K cStatics "thirdparty.any" = some none
section
variable {P : Program} {w : World} {K : PySem.W.Frag} {mg : Str → Option Value} {base : Heap} {CX : CXT} {k : Nat} {x qual file m ar : Str} {params : Arguments} {body : List Stmt} {scope : Scope} {dvs : List V} {f D : Addr} {fd : FuncData} {N ps : List Str} {sp : Sp}
abbrev scx (CX : CXT) (P : Program) (w : World) (K : PySem.W.Frag) (mg : Str → Option Value) (base : Heap) (N : List Str) (x qual : Str) (params : Arguments) (body : List Stmt) (scope : Scope) (cc cda f : Addr) (A : Around) (outer : List PySem.Env) (s : Shared) (H : Hp) (E : XK) : Cx :=
  NdefX.ncx CX P w K mg base N ⟨x, qual, params, body, scope, [("__class__", cc)], cda⟩ f A outer s H E
theorem SupF.ok {pre post : List Stmt} {p0 p1 apos pos epos : Pos} {e : Expr} {es : List Expr} (eb : body = pre ++ .Expr (.Call (.Attribute (.Call (.Name "super" p0) [] [] p1) m apos) (e :: es) [] pos) epos :: post) (F : SupF K x qual params body scope dvs f D file fd) (T : SupT K mg D) (S : NdefX.NScope N ps ["__class__"] scope)
    (len : ∀ vs H Q E, sp vs H Q E → vs.length = ps.length) (hfile : ((P.main.file : Str) == file) = true) (htop : (P.main.scope.names.lookup ("super" : Str)).isSome = false) (hm : (m == ("__class__" : Str)) = false) (hks : scope.names.lookup ("super" : Str) = some .globalImplicit)
    (har : ((params.posonlyargs ++ params.args).head?).map (·.arg) = some ar) (hn0 : N[0]? = some ar) (hka : scope.names.lookup ar = some .local)
    (hbody : ∀ (cc cda : Addr) (A : Around) (outer : List PySem.Env) (s : Shared) (H : Hp) (vs : List V) (Q : VK) (E : XK), Room k (scx CX P w K mg base N x qual params body scope cc cda f A outer s H E).A → sp vs H Q E →
      ∃ t1 ta t2 CX2 k2 f2 dvs2 sp2 E2, PSs (scx CX P w K mg base N x qual params body scope cc cda f A outer s H E) pre t1 ∧
        PA (scx CX P w K mg base N x qual params body scope cc cda f A outer s H E) (e :: es) ta ∧
        PSs (scx CX P w K mg base N x qual params body scope cc cda f A outer s H E) post t2 ∧
        PromO P w K mg base CX2 k2 f2 dvs2 sp2 ∧ k2 ≤ k ∧ Passes CX2 (scx CX P w K mg base N x qual params body scope cc cda f A outer s H E) E2 ∧
        t1 { nx := fun σ1 H1 => ∃ a C dx fs, σ1[0]? = some (some (.ref a)) ∧ H1 a = some (.ins C dx fs) ∧ SupC K C D m f2 ∧ ta σ1 H1 fun us H2 => sp2 (.ref a :: (us ++ dvs2)) H2 (fun _ H3 => t2 { nx := fun _ H' => Q .non H', rt := Q } σ1 H3) E2, rt := Q } (L2.start N vs) H)
    (hst : ∀ env : PySem.Env, starEach (e :: es) env = (false, eval e env) :: starEach es env := by intro _; rfl) (hpl : ∀ env : PySem.Env, (backTo pos (starEach es env)).any (·.1) = false := by intro _; rfl)
    (pl : PySem.Env → Sem Bool)
    (he : ∀ env : PySem.Env, eval (.Call (.Attribute (.Call (.Name "super" p0) [] [] p1) m apos) (e :: es) [] pos) env = (do
      let ov ← attributeBase (.Call (.Name "super" p0) [] [] p1) m env (eval (.Call (.Name "super" p0) [] [] p1) env)
      standAt apos.atName
      let (f, first) ← holding [ov] (getMethod ov m (pl env))
      callWith pos f first (backTo pos (starEach (e :: es) env)) []))
    (hsw : ∀ env : PySem.Env, swapsWith (.Call (.Attribute (.Call (.Name "super" p0) [] [] p1) m apos) (e :: es) [] pos) none epos.line env = pure false := by intro _; rfl) :
    FnOk P w K mg base CX (k + 1) f fd ps sp := by
  obtain ⟨oc, od, dV, kV, doc, pm, an, cda, ct, osl, cc, rfl, lk, hcd, _, ⟨cl, cld, csl, lkl⟩, ccl, cdd, vsc, ccs, tf, lkc, hvs⟩ := F.ex
  refine ⟨len, fun A outer s H args us vs Q E hr e0 hb r hsp => ?_⟩
  have KX : K.In s.heap := e0.mod.kin.keeps fun b o e => (e0.bs b o e).1
  have lim : s.heap.NoLimit := e0.mod.nolimit.keeps fun b o e => (e0.bs b o e).1
  have hl := len _ _ _ _ hsp
  have hpl2 : ps.length + 1 ≤ N.length := by
    have q := congrArg List.length S.pre
    rw [List.length_take, List.length_append] at q
    have : (["__class__"] : List Str).length = 1 := rfl
    omega
  refine ks_codeAny_call_defAt hr.depth (KX _ _ lk) rfl lim (PySem.W.codeRec_of KX hcd) rfl hb S.nocell (fun ⟨n, _⟩ hy => S.par n (List.of_mem_zip hy).1) (fun h₁ hns kp => ?_) S.co S.gen S.kind
  obtain ⟨t1, ta, t2, CX2, k2, f2, dvs2, sp2, E2, h1, h2, h3, G, hk2, hx2, hq⟩ := hbody cc cda A outer s H vs Q E (hr.deeper _) hsp
  have C : NdefX.CellsAt [(("__class__" : Str), cc)] ["__class__"] [none] s.heap H := by
    have hc : s.heap.get? cc = some ⟨cl, cld, .cell (some (.ref D)), csl⟩ := KX _ _ lkl
    have hH : H cc = none := by
      have hb : base.get? cc = some ⟨cl, cld, .cell (some (.ref D)), csl⟩ := e0.mod.kin _ _ lkl
      exact (e0.bs _ _ hb).2
    have one : ∀ (y : Str) (c : Addr), ([(("__class__" : Str), cc)] : List (Str × Addr)).lookup y = some c → y = "__class__" ∧ c = cc := fun y c hy => by
      rcases look_cons hy with ⟨e1, e2⟩ | z
      · exact ⟨e1, e2⟩
      · cases z
    refine ⟨rfl, fun y c hy => ?_, fun x y c hx hy => (one x c hx).1.trans (one y c hy).1.symm, fun i y hy => ?_⟩
    · obtain ⟨_, rfl⟩ := one y c hy
      exact ⟨hH, _, _, hc, rfl⟩
    · have e2 : y = "__class__" := by
        cases i with
        | zero => cases hy; rfl
        | succ i => cases hy
      subst e2
      refine ⟨cc, rfl, fun v hv => ?_⟩
      cases i with
      | zero => cases hv
      | succ i => cases hv
  have I := NdefX.inv_startN (CX := CX) (P := P) (w := w) (K := K) (mg := mg) (base := base) (N := N) (F := ⟨x, qual, params, body, scope, [("__class__", cc)], cda⟩) (f := f) (E := E) (tk := s.toks + (ps.zip us).length) S hr.hd e0 hl r C hns kp
  have est : NdefX.startF N vs [none] = L2.start N vs := by
    unfold NdefX.startF L2.start
    congr 1
    rw [List.length_singleton, ← List.singleton_append]
    have : N.length - vs.length = (N.length - vs.length - 1) + 1 := by omega
    rw [this, List.replicate_succ]
    rfl
  rw [est] at I
  have SX : SupX (scx CX P w K mg base N x qual params body scope cc cda f A outer s H E) D f cda cc ar := by
    refine ⟨rfl, rfl, ?_, ⟨ccl, cdd, vsc, ccs, file, tf, lkc, hvs, hfile⟩, htop, hks, S.frk _ (List.mem_singleton.mpr rfl), rfl, ⟨cl, cld, csl, lkl⟩, T.cD, T.mg, T.st, hn0, hka⟩
    cases z : (params.posonlyargs ++ params.args).head? with
    | none => rw [z] at har; cases har
    | some a =>
      rw [z] at har
      exact ⟨_, _, _, _, a, lk, z, Option.some.inj har⟩
  have fin : ∀ {s' : Shared} {σ' : L2.St} {H' : Hp} {v : V} {u : Value}, Inv (scx CX P w K mg base N x qual params body scope cc cda f A outer s H E) [] σ' H' s' → L2.RelV v u → Q v H' → CE outer P w H s Q u s' :=
    fun {s' σ' H' v u} J rv q => ⟨v, H', J.os, J.bare, J.base, J.hok, rv, q⟩
  have eb2 : execs body (scx CX P w K mg base N x qual params body scope cc cda f A outer s H E).env = execs (pre ++ .Expr (.Call (.Attribute (.Call (.Name "super" p0) [] [] p1) m apos) (e :: es) [] pos) epos :: post) (scx CX P w K mg base N x qual params body scope cc cda f A outer s H E).env := by rw [← eb]
  show _root_.PySem.wpAt _ _ _ (execs body _) _ _ _
  refine eb2 ▸ wpAt_app (wpAny_mono (h1.run [] _ (L2.start N vs) H _ I hq) (fun fl s' hs => ?_) fun _ _ z => z)
  cases fl with
  | ret u =>
    obtain ⟨v, σ', H', J, rv, q⟩ := hs
    exact fin J rv q
  | brk =>
    obtain ⟨_, _, _, q⟩ := hs
    exact False.elim q
  | cont =>
    obtain ⟨_, _, _, q⟩ := hs
    exact False.elim q
  | next =>
    obtain ⟨σ', H', J, q⟩ := hs
    refine ks_wpAt_execs_cons (_root_.PySem.wpAt_mono (sup_run (pl := pl _) SX hm h2 G ((hr.deeper _).mono hk2) hx2 J q (hst _) (hpl _) (he _) (hsw _)) (fun fl2 s2 hq2 => ?_) fun _ _ z => z)
    obtain ⟨rfl, H2, J2, q2⟩ := hq2
    refine _root_.PySem.wpAt_of_wpAny (wpAny_mono (h3.run [] s2 σ' H2 _ J2 q2) (fun fl s' hs => ?_) fun _ _ z => z)
    cases fl with
    | ret u =>
      obtain ⟨v, σ', H', J, rv, q⟩ := hs
      exact fin J rv q
    | next =>
      obtain ⟨σ', H', J, q⟩ := hs
      exact fin (v := V.non) (u := Value.none) J rfl q
    | brk =>
      obtain ⟨_, _, _, q⟩ := hs
      exact False.elim q
    | cont =>
      obtain ⟨_, _, _, q⟩ := hs
      exact False.elim q
end
end Gp
end
section
set_option Elab.async false
set_option linter.all false
set_option maxRecDepth 100000
set_option maxHeartbeats 4000000
namespace Gp
open PySem PySem.Spec PyProof.Rows L2 Gh
structure Ds where
  d : Df
  own : PySem.W.Frag → Addr
def fnAtS (K : PySem.W.Frag) (a : Addr) : He.FnW := match K.lookup a with
  | some ⟨_, _, .func fd, _⟩ => some (fd.name, fd.qualname, fd.params, fd.body, fd.scope, fd.globals, fd.closure.map (fun q => (q.1, 0)), fd.builtins)
  | _ => none
def Ds.val (d : Ds) : He.FnW := some (d.d.name, d.d.qual, defArgs d.d.st, .stmts (defBody d.d.st), defScope d.d.st, mainGlobals, [("__class__", 0)], builtinsNs)
def fileB (K : PySem.W.Frag) (file : Str) : Value → Bool
  | .ref c => (match K.lookup c with
    | some ⟨_, _, Data.fields vs, _⟩ => (match (vs[2]? : Option Value) with
      | some (Value.str f _) => decide (f = file)
      | _ => false)
    | _ => false)
  | _ => false
def cellB (K : PySem.W.Frag) (B : Addr) : List (Str × Addr) → Bool
  | [(_, c)] => (match K.lookup c with
    | some ⟨_, _, .cell (some (.ref b)), _⟩ => decide (b = B)
    | _ => false)
  | _ => false
def Ds.ok (file : Str) (K : PySem.W.Frag) (d : Ds) : Bool := PySem.W.keepIn K (.ref (d.d.adr K)) && (match K.lookup (d.d.adr K) with
  | some ⟨_, _, .func fd, _⟩ => PySem.W.codeIn K fd.code d.d.qual && (He.dflB K fd.defaults (d.d.dvs K) && (fileB K file fd.code && cellB K (d.own K) fd.closure))
  | _ => false)
structure SaysS (ex : List (PySem.W.Frag → Bool)) (fn : List Df) (tf : List He.Defn) (fs : List Ds) (file : Str) (h : Heap) (K : PySem.W.Frag) : Prop where
  s : SaysT ex fn tf h K
  o : (fs.all fun d => d.ok file K) = true
  v : (fs.map fun d => fnAtS K (d.d.adr K)) = fs.map Ds.val
abbrev AlS : Type := AlT × Bool × List He.FnW
def supCB (c b : Str) (m : Str) (f2 : PySem.W.Frag → Addr) (K : PySem.W.Frag) : Bool := decide (PySem.W.mroIn K (gd c K) (.ref (gd b K)) = some true) && (He.eqO (PySem.W.ks_superIn K (gd c K) (gd b K) m) (some (some (.ref (f2 K)))) && (decide (PySem.W.typeIn K (.ref (f2 K)) = some (.type "function")) && PySem.W.fnIn K (f2 K)))
end Gp
end
section
set_option Elab.async false
set_option linter.all false
set_option maxRecDepth 100000
set_option maxHeartbeats 4000000
namespace Gp
open PySem PySem.Spec PyProof.Rows L2 Gh
section
variable {P : Program} {w : World} {K : PySem.W.Frag} {mg : Str → Option Value} {base : Heap} {CX : CXT} {k : Nat} {x qual file m ar : Str} {params : Arguments} {body : List Stmt} {scope : Scope} {dvs : List V} {f D : Addr} {fd : FuncData} {N ps : List Str} {sp : Sp}
theorem SupF.run {A : Around} {outer : List PySem.Env} {s : Shared} {H : Hp} {args : Args} {Q : VK} {E : XK} {G : List V → Hp → Prop} {pre post : List Stmt} {p0 p1 apos pos epos : Pos} {e : Expr} {es : List Expr} (eb : body = pre ++ .Expr (.Call (.Attribute (.Call (.Name "super" p0) [] [] p1) m apos) (e :: es) [] pos) epos :: post) (F : SupF K x qual params body scope dvs f D file fd) (T : SupT K mg D) (S : NdefX.NScope N ps ["__class__"] scope)
    (hr : Room (k + 1) A) (e0 : Env0 P w K mg base A outer s H) (hb : StX.Bnd CX P w K mg base fd args ps A outer s H E G) (hfile : ((P.main.file : Str) == file) = true) (htop : (P.main.scope.names.lookup ("super" : Str)).isSome = false) (hm : (m == ("__class__" : Str)) = false) (hks : scope.names.lookup ("super" : Str) = some .globalImplicit)
    (har : ((params.posonlyargs ++ params.args).head?).map (·.arg) = some ar) (hn0 : N[0]? = some ar) (hka : scope.names.lookup ar = some .local)
    (hbody : ∀ (cc cda : Addr) (s : Shared) (H : Hp) (vs : List V), Room k (scx CX P w K mg base N x qual params body scope cc cda f A outer s H E).A → G vs H →
      ∃ t1 ta t2 CX2 k2 f2 dvs2 sp2 E2, PSs (scx CX P w K mg base N x qual params body scope cc cda f A outer s H E) pre t1 ∧
        PA (scx CX P w K mg base N x qual params body scope cc cda f A outer s H E) (e :: es) ta ∧
        PSs (scx CX P w K mg base N x qual params body scope cc cda f A outer s H E) post t2 ∧
        PromO P w K mg base CX2 k2 f2 dvs2 sp2 ∧ k2 ≤ k ∧ Passes CX2 (scx CX P w K mg base N x qual params body scope cc cda f A outer s H E) E2 ∧
        t1 { nx := fun σ1 H1 => ∃ a C dx fs, σ1[0]? = some (some (.ref a)) ∧ H1 a = some (.ins C dx fs) ∧ SupC K C D m f2 ∧ ta σ1 H1 fun us H2 => sp2 (.ref a :: (us ++ dvs2)) H2 (fun _ H3 => t2 { nx := fun _ H' => Q .non H', rt := Q } σ1 H3) E2, rt := Q } (L2.start N vs) H)
    (hst : ∀ env : PySem.Env, starEach (e :: es) env = (false, eval e env) :: starEach es env := by intro _; rfl) (hpl : ∀ env : PySem.Env, (backTo pos (starEach es env)).any (·.1) = false := by intro _; rfl)
    (pl : PySem.Env → Sem Bool)
    (he : ∀ env : PySem.Env, eval (.Call (.Attribute (.Call (.Name "super" p0) [] [] p1) m apos) (e :: es) [] pos) env = (do
      let ov ← attributeBase (.Call (.Name "super" p0) [] [] p1) m env (eval (.Call (.Name "super" p0) [] [] p1) env)
      standAt apos.atName
      let (f, first) ← holding [ov] (getMethod ov m (pl env))
      callWith pos f first (backTo pos (starEach (e :: es) env)) []))
    (hsw : ∀ env : PySem.Env, swapsWith (.Call (.Attribute (.Call (.Name "super" p0) [] [] p1) m apos) (e :: es) [] pos) none epos.line env = pure false := by intro _; rfl) :
    codeAny (model P w) A (.call (.ref f) args) (CR CX outer P w H s Q E) s := by
  obtain ⟨oc, od, dV, kV, doc, pm, an, cda, ct, osl, cc, rfl, lk, hcd, _, ⟨cl, cld, csl, lkl⟩, ccl, cdd, vsc, ccs, tf, lkc, hvs⟩ := F.ex
  have KX0 : K.In s.heap := e0.mod.kin.keeps fun b o e => (e0.bs b o e).1
  refine codeAny_call_function hr.depth (KX0 _ _ lk) rfl S.co S.gen rfl (PySem.W.codeRec_of KX0 hcd) ?_
  refine hb _ _ _ fun s2 H2 vs us e2 un ho hxx r hl gg => ?_
  have KX : K.In s2.heap := e0.mod.kin.keeps fun b o e => (e2.bs b o e).1
  have lim : s2.heap.NoLimit := e0.mod.nolimit.keeps fun b o e => (e2.bs b o e).1
  have hpl2 : ps.length + 1 ≤ N.length := by
    have q := congrArg List.length S.pre
    rw [List.length_take, List.length_append] at q
    have : (["__class__"] : List Str).length = 1 := rfl
    omega
  refine wpAny_newFunctionEnv S.nocell (fun ⟨n, _⟩ hy => S.par n (List.of_mem_zip hy).1) (fun h₁ hns hsb => ⟨lim.fresh _ hsb, ks_codeAny_funcAt ?_⟩) S.kind
  have kp : ∀ b o, s2.heap.get? b = some o → h₁.get? b = some o := fun b o e => hsb.extBut b o (Nat.ne_of_lt (Heap.lt_size e)) (Heap.get?_push_of_some _ e)
  refine _root_.PySem.wpAt_mono (Q := fun fl s' => CR CX outer P w H s Q E (.ok (.ret (match fl with | .ret v => v | _ => .none))) s') (E := (scx CX P w K mg base N x qual params body scope cc cda f A outer s2 H2 E).xe) ?_ (fun _ _ z => z) (fun e s' hs => wpAny_mono hs (fun _ s'' z => hxx e s'' z) fun e' s'' z => hxx e' s'' z)
  obtain ⟨t1, ta, t2, CX2, k2, f2, dvs2, sp2, E2, h1, h2, h3, G, hk2, hx2, hq⟩ := hbody cc cda s2 H2 vs (hr.deeper _) gg
  have C : NdefX.CellsAt [(("__class__" : Str), cc)] ["__class__"] [none] s2.heap H2 := by
    have hc : s2.heap.get? cc = some ⟨cl, cld, .cell (some (.ref D)), csl⟩ := KX _ _ lkl
    have hH : H2 cc = none := by
      have hb : base.get? cc = some ⟨cl, cld, .cell (some (.ref D)), csl⟩ := e0.mod.kin _ _ lkl
      exact (e2.bs _ _ hb).2
    have one : ∀ (y : Str) (c : Addr), ([(("__class__" : Str), cc)] : List (Str × Addr)).lookup y = some c → y = "__class__" ∧ c = cc := fun y c hy => by
      rcases look_cons hy with ⟨e1, e2⟩ | z
      · exact ⟨e1, e2⟩
      · cases z
    refine ⟨rfl, fun y c hy => ?_, fun x y c hx hy => (one x c hx).1.trans (one y c hy).1.symm, fun i y hy => ?_⟩
    · obtain ⟨_, rfl⟩ := one y c hy
      exact ⟨hH, _, _, hc, rfl⟩
    · have e2 : y = "__class__" := by
        cases i with
        | zero => cases hy; rfl
        | succ i => cases hy
      subst e2
      refine ⟨cc, rfl, fun v hv => ?_⟩
      cases i with
      | zero => cases hv
      | succ i => cases hv
  have I := NdefX.inv_startN (CX := CX) (P := P) (w := w) (K := K) (mg := mg) (base := base) (N := N) (F := ⟨x, qual, params, body, scope, [("__class__", cc)], cda⟩) (f := f) (E := E) (tk := s2.toks + (ps.zip us).length) S hr.hd e2 hl r C hns kp
  have est : NdefX.startF N vs [none] = L2.start N vs := by
    unfold NdefX.startF L2.start
    congr 1
    rw [List.length_singleton, ← List.singleton_append]
    have : N.length - vs.length = (N.length - vs.length - 1) + 1 := by omega
    rw [this, List.replicate_succ]
    rfl
  rw [est] at I
  have SX : SupX (scx CX P w K mg base N x qual params body scope cc cda f A outer s2 H2 E) D f cda cc ar := by
    refine ⟨rfl, rfl, ?_, ⟨ccl, cdd, vsc, ccs, file, tf, lkc, hvs, hfile⟩, htop, hks, S.frk _ (List.mem_singleton.mpr rfl), rfl, ⟨cl, cld, csl, lkl⟩, T.cD, T.mg, T.st, hn0, hka⟩
    cases z : (params.posonlyargs ++ params.args).head? with
    | none => rw [z] at har; cases har
    | some a =>
      rw [z] at har
      exact ⟨_, _, _, _, a, lk, z, Option.some.inj har⟩
  have fin : ∀ {s' : Shared} {σ' : L2.St} {H' : Hp} {v : V} {u : Value}, Inv (scx CX P w K mg base N x qual params body scope cc cda f A outer s2 H2 E) [] σ' H' s' → L2.RelV v u → Q v H' → CE outer P w H s Q u s' :=
    fun {s' σ' H' v u} J rv q => ⟨v, H', J.os.trans ho, J.bare, un.trans J.base, J.hok, rv, q⟩
  have eb2 : execs body (scx CX P w K mg base N x qual params body scope cc cda f A outer s2 H2 E).env = execs (pre ++ .Expr (.Call (.Attribute (.Call (.Name "super" p0) [] [] p1) m apos) (e :: es) [] pos) epos :: post) (scx CX P w K mg base N x qual params body scope cc cda f A outer s2 H2 E).env := by rw [← eb]
  show _root_.PySem.wpAt _ _ _ (execs body _) _ _ _
  refine eb2 ▸ wpAt_app (wpAny_mono (h1.run [] _ (L2.start N vs) H2 _ I hq) (fun fl s' hs => ?_) fun _ _ z => z)
  cases fl with
  | ret u =>
    obtain ⟨v, σ', H', J, rv, q⟩ := hs
    exact fin J rv q
  | brk =>
    obtain ⟨_, _, _, q⟩ := hs
    exact False.elim q
  | cont =>
    obtain ⟨_, _, _, q⟩ := hs
    exact False.elim q
  | next =>
    obtain ⟨σ', H', J, q⟩ := hs
    refine ks_wpAt_execs_cons (_root_.PySem.wpAt_mono (sup_run (pl := pl _) SX hm h2 G ((hr.deeper _).mono hk2) hx2 J q (hst _) (hpl _) (he _) (hsw _)) (fun fl2 s3 hq2 => ?_) fun _ _ z => z)
    obtain ⟨rfl, H3, J2, q2⟩ := hq2
    refine _root_.PySem.wpAt_of_wpAny (wpAny_mono (h3.run [] s3 σ' H3 _ J2 q2) (fun fl s' hs => ?_) fun _ _ z => z)
    cases fl with
    | ret u =>
      obtain ⟨v, σ', H', J, rv, q⟩ := hs
      exact fin J rv q
    | next =>
      obtain ⟨σ', H', J, q⟩ := hs
      exact fin (v := V.non) (u := Value.none) J rfl q
    | brk =>
      obtain ⟨_, _, _, q⟩ := hs
      exact False.elim q
    | cont =>
      obtain ⟨_, _, _, q⟩ := hs
      exact False.elim q
end
section
variable {g : Gw} {Mt U0 U U' : Addr → Prop} {H0 H H' H1 H2 : Hp} {b b1 b2 : Nat} {σ : L2.St} {ε ε' : Env} {E : XK}
end
end Gp
end
section
set_option Elab.async false
set_option linter.all false
set_option maxRecDepth 100000
set_option maxHeartbeats 4000000
namespace Gp
open PySem PySem.Spec PyProof.Rows L2 Gh
def cvB (c f : Str) (i : Int) (K : PySem.W.Frag) : Bool := PySem.W.readsIn K (gd c K) (.type "type") && (match PySem.W.findCls K (.ref (gd c K)) (.type "type") f with
  | some (.val (.int j _)) => decide (j = i)
  | _ => false)
section
variable {g : Gw} {Mt U0 U U' : Addr → Prop} {H0 H H' H1 H2 : Hp} {b b1 b2 : Nat} {σ : L2.St} {ε ε' : Env} {E : XK}
variable {W L : Type} {env : W → Env} {envL : L → Env} {a r : TS} {t : TS} {m : Tr (Fl W L)}
end
end Gp
end
section
set_option Elab.async false
set_option linter.all false
set_option maxRecDepth 100000
set_option maxHeartbeats 4000000
namespace Gp
open PySem PySem.Spec PyProof.Rows L2 Gh
def frL {α : Type} : List (Addr × Obj) → (List (Addr × Obj) → α) → α
  | [], k => k []
  | (a, o) :: r, k => frL r fun r' => k ((a, o) :: r')
theorem frL_eq {α : Type} : ∀ (l : List (Addr × Obj)) (k : List (Addr × Obj) → α), frL l k = k l
  | [], _ => rfl
  | (a, o) :: r, k => by
    show frL r (fun r' => k ((a, o) :: r')) = _
    rw [frL_eq r]
def obsK (ex : List (PySem.W.Frag → Bool)) (fn : List Df) (tf : List He.Defn) (fs : List Ds) (file : Str) (g : Addr → Option Obj) (K : PySem.W.Frag) : AlS :=
  ((obs ex fn K, He.tabsB g tf K), (fs.all fun d => d.ok file K), fs.map fun d => fnAtS K (d.d.adr K))
def obsL (as : List Addr) (ex : List (PySem.W.Frag → Bool)) (fn : List Df) (tf : List He.Defn) (fs : List Ds) (file : Str) (g : Addr → Option Obj) : AlS := frL (He.frT g as) fun K => obsK ex fn tf fs file g K
theorem saysL_of {as : List Addr} {ex : List (PySem.W.Frag → Bool)} {fn : List Df} {tf : List He.Defn} {h : Heap} (e1 : obs ex fn (He.frT h.get? as) = val fn) (e2 : He.tabsB h.get? tf (He.frT h.get? as) = true) : SaysT ex fn tf h (He.frT h.get? as) := by
  have key : ∀ p ∈ tf, PySem.W.codeHdIn (He.frT h.get? as) (He.cT (He.frT h.get? as) p).1 (He.cT (He.frT h.get? as) p).2 = true ∧ ∃ o, h.get? (He.cT (He.frT h.get? as) p).2 = some o ∧ He.emptyTab o = true := fun p hp => by
    obtain ⟨h3, h4⟩ := He.ba (List.all_eq_true.mp e2 p hp)
    refine ⟨h3, ?_⟩
    cases q : h.get? (He.cT (He.frT h.get? as) p).2 with
    | none =>
      rw [q] at h4
      cases h4
    | some o =>
      rw [q] at h4
      exact ⟨o, rfl, h4⟩
  exact ⟨e1, fun p hp => (key p hp).1, fun p hp => by
    obtain ⟨_, o, q, z⟩ := key p hp
    exact He.frT_none q z, fun p hp => by
    obtain ⟨_, o, q, z⟩ := key p hp
    rw [q, He.emptyTab_eq z]⟩
def hookL (as : List Addr) (ex : List (PySem.W.Frag → Bool)) (fn : List Df) (tf : List He.Defn) (fs : List Ds) (file : Str) : PySem.W.Hook where
  α := AlS
  obs := fun s => obsL as ex fn tf fs file s.heap.get?
  val := fun _ => ((Gh.val fn, true), true, fs.map Ds.val)
  says := fun _ h => ∃ K : PySem.W.Frag, K.In h ∧ SaysS ex fn tf fs file h K
  of := fun _ s e => by
    have e' : obsK ex fn tf fs file _ (He.frT _ as) = ((Gh.val fn, true), true, fs.map Ds.val) := (frL_eq _ _).symm.trans e
    exact ⟨_, He.frT_in, ⟨saysL_of (congrArg (fun z : AlS => z.1.1) e') (congrArg (fun z : AlS => z.1.2) e'), congrArg (fun z : AlS => z.2.1) e', congrArg (fun z : AlS => z.2.2) e'⟩⟩
  keeps := fun _ _ _ ⟨K, hK, c⟩ k => ⟨K, PySem.W.Frag.In.keeps hK k, ⟨⟨c.s.t, c.s.hd, c.s.out, fun p hp => k _ _ (c.s.empty p hp)⟩, c.o, c.v⟩⟩
end Gp
end
section
set_option Elab.async false
set_option linter.all false
set_option maxRecDepth 100000
set_option maxHeartbeats 4000000
namespace Gp
open PySem PySem.Spec PyProof.Rows L2 Gh
section
variable {g : Gw} {Mt U0 U U' : Addr → Prop} {H0 H H' H1 H2 : Hp} {b b1 : Nat} {σ : L2.St} {ε ε' : Env} {W L W' : Type} {yd : List D}
variable {env : W → Env} {envL : L → Env} {env' : W' → Env} {u ta tb : TGn} {te : TE} {me : Tr D}
def gflP (g : Gw) (Mt U0 : Addr → Prop) (H0 : Hp) (U : Addr → Prop) (H : Hp) (D : GEnds) (env : W → Env) (envL : L → Env) : List Gp.D × Fl W L → Nat → Prop
  | (zs, .nx w), b => ∀ U' σ' H' ys', Ev U H U' H' → Stt g Mt U0 H0 U' σ' H' b (env w) → DenL g U' H' ys' zs → D.nx ys' σ' H'
  | (_, .rt _), _ => False
  | (zs, .bk w), b => ∀ U' σ' H' ys', Ev U H U' H' → Stt g Mt U0 H0 U' σ' H' b (envL w) → DenL g U' H' ys' zs → D.bk ys' σ' H'
  | (zs, .ct w), b => ∀ U' σ' H' ys', Ev U H U' H' → Stt g Mt U0 H0 U' σ' H' b (envL w) → DenL g U' H' ys' zs → D.ct ys' σ' H'
theorem gflP.ev {U1 : Addr → Prop} {H1 : Hp} {D : GEnds} {env : W → Env} {envL : L → Env} (e : Ev U H U1 H1) : ∀ {f : List Gp.D × Fl W L}, gflP g Mt U0 H0 U H D env envL f b → gflP g Mt U0 H0 U1 H1 D env envL f b
  | (_, .nx w), h => fun U' σ' H' ys' e1 => h U' σ' H' ys' (e.trans e1)
  | (_, .rt d), h => h
  | (_, .bk w), h => fun U' σ' H' ys' e1 => h U' σ' H' ys' (e.trans e1)
  | (_, .ct w), h => fun U' σ' H' ys' e1 => h U' σ' H' ys' (e.trans e1)
def SG (g : Gw) (ε : Env) (t : TGn) (env : W → Env) (envL : L → Env) (m : List D → Tr (List D × Fl W L)) : Prop := ∀ Mt U0 H0 U D ys yd σ H b, Stt g Mt U0 H0 U σ H b ε → DenL g U H ys yd → Al (gflP g Mt U0 H0 U H D env envL) (fun _ _ _ => False) (m yd) b → t D ys σ H
def bdG (m : Tr (List D × Fl W' L)) (k : W' → List D → Tr (List D × Fl W L)) : Tr (List D × Fl W L) := bd m fun r => match r with
  | (zs, .nx w) => k w zs
  | (zs, .rt d) => .ok (zs, .rt d)
  | (zs, .bk l) => .ok (zs, .bk l)
  | (zs, .ct l) => .ok (zs, .ct l)
theorem SG.seq {m : List D → Tr (List D × Fl W' L)} {k : W' → List D → Tr (List D × Fl W L)} (h1 : SG g ε ta env' envL m) (h2 : ∀ w, SG g (env' w) u env envL (k w)) : SG g ε (tGThen ta u) env envL (fun yd => bdG (m yd) k) := fun Mt U0 H0 U D ys yd σ H b s dn q => by
  refine h1 Mt U0 H0 U { D with nx := fun ys' σ' H' => u D ys' σ' H' } ys yd σ H b s dn ((al_bd.mp q).mono (fun r b1 h => ?_) (fun _ _ _ z => z))
  obtain ⟨zs, f⟩ := r
  cases f with
  | nx w => exact fun U1 σ1 H1 ys1 e1 s1 d1 => h2 w Mt U0 H0 U1 D ys1 zs σ1 H1 b1 s1 d1 (Al.mono (fun _ _ z => z.ev e1) (fun _ _ _ z => z) h)
  | rt d => exact h.elim
  | bk l => exact h
  | ct l => exact h
end
section
variable {P : Program} {w : World} {K : PySem.W.Frag} {mg : Str → Option Value} {base : Heap}
end
end Gp
end
section
set_option Elab.async false
set_option linter.all false
set_option maxRecDepth 100000
set_option maxHeartbeats 4000000
namespace Gp
open PySem PySem.Spec PyProof.Rows L2 Gh
section
variable {g : Gw} {Mt U0 U U' : Addr → Prop} {H0 H H' H1 H2 : Hp} {b b1 : Nat} {σ : L2.St} {ε ε' : Env} {E : XK} {W L W' : Type}
variable {env : W → Env} {envL : L → Env} {env' : W' → Env} {u ta tb : TS} {te ti : TE} {me mi : Tr D}
structure Pnd (g : Gw) (Mt U0 : Addr → Prop) (H0 : Hp) (U : Addr → Prop) (σ : L2.St) (H : Hp) (ε : Env) (A : Addr) (ds : List D) : Prop where
  at_ : ∃ vs, H A = some (.lst vs) ∧ vs.length ≤ sizeLine ∧ DenL g U H vs ds
  u : U A
  np : A ≠ g.p
  nc : A ≠ g.c
  n0 : ¬ U0 A
  no : ∀ j, ¬ OwnAt σ ε j A
  mt : Mt A ∨ ∀ o, H0 A = some o → ∃ ps, o = .tbl ps
theorem Pnd.fr {A : Addr} {ds : List D} (uo : UOk g U H) (p : Pnd g Mt U0 H0 U σ H ε A ds) (f : Fr H H' g.p) : Pnd g Mt U0 H0 U σ H' ε A ds := by
  obtain ⟨⟨vs, hA, l, dn⟩, uA, hp, hc, n0, no, mt⟩ := p
  exact ⟨⟨vs, f _ _ hA hp (fun _ z => by cases z), l, dn.fr uo f⟩, uA, hp, hc, n0, no, mt⟩
theorem Pnd.set {A : Addr} {ds : List D} (p : Pnd g Mt U0 H0 U σ H ε A ds) (i : Nat) (v : V) (d : D) : Pnd g Mt U0 H0 U (σ.set i (some v)) H (ε.set i (.fz d)) A ds :=
  ⟨p.at_, p.u, p.np, p.nc, p.n0, fun j h => p.no j (ownAt_set h).2, p.mt⟩
inductive QR (g : Gw) (Mt U0 : Addr → Prop) (H0 : Hp) (U : Addr → Prop) (σ : L2.St) (H : Hp) (ε : Env) : Nat → List V → List D → Prop
  | here {A : Addr} {ds : List D} {vs : List V} {xs : List D} : Pnd g Mt U0 H0 U σ H ε A ds → DenL g U H vs xs → QR g Mt U0 H0 U σ H ε 0 (.ref A :: vs) (.lst ds :: xs)
  | next {n : Nat} {v : V} {d : D} {vs : List V} {ds : List D} : Den g U H v d → QR g Mt U0 H0 U σ H ε n vs ds → QR g Mt U0 H0 U σ H ε (n + 1) (v :: vs) (d :: ds)
theorem QR.length {n : Nat} : ∀ {vs : List V} {ds : List D}, QR g Mt U0 H0 U σ H ε n vs ds → vs.length = ds.length
  | _, _, .here _ k => congrArg (· + 1) k.length
  | _, _, .next _ r => congrArg (· + 1) r.length
end
end Gp
end
section
set_option Elab.async false
set_option linter.all false
set_option maxRecDepth 100000
set_option maxHeartbeats 4000000
namespace Gp
open PySem PySem.Spec PyProof.Rows L2 Gh
section
variable {prog : Program} {w : World} {M : Model} {A : Around} {E : Value → Shared → Prop} {s : Shared} {K : PySem.W.Frag} {x C C2 L f : Addr} {h₀ h : Heap} {m : Str → Option Value} {ox : Obj} {od : Option Obj} {nm : String}
end
def dtB (f : Str × Option Str) (i : Nat) (K : PySem.W.Frag) : Bool := match K.lookup (He.dflAt f i K) with
  | some o => (o.cls == .type "tuple") && (match o.data with
    | .seq its _ => its.toList.isEmpty
    | _ => false)
  | none => false
end Gp
end
section
set_option Elab.async false
set_option linter.all false
set_option maxRecDepth 100000
set_option maxHeartbeats 4000000
namespace Gp
open PySem PySem.Spec PyProof.Rows L2 Gh
inductive ItH where
  | s (x : Str) | n (i : Int) | f (x : Str)
def ItH.d (fs : Fs) : ItH → Option D
  | .s x => if x.length ≤ sizeLine then some (.str x) else none
  | .n k => some (.int k)
  | .f x => fs.lookup x
section
variable {g : Gw} {U : Addr → Prop} {H H' : Hp} {b : Nat} {σ : L2.St} {ε : Env}
def Fz (ε : Env) : Prop := ∀ s ∈ ε, (∃ d, s = .fz d) ∨ s = .no
theorem Fz.set {j : Nat} {d : D} (h : Fz ε) : Fz (ε.set j (.fz d)) := fun s m => by
  rcases List.mem_or_eq_of_mem_set m with m | m
  · exact h s m
  · exact .inl ⟨_, m⟩
theorem Fz.own (h : Fz ε) : ∀ i a, ¬ OwnAt σ ε i a := fun i a ⟨_, z⟩ => by
  rcases z with ⟨x, z⟩ | ⟨x, y, z⟩
  · rcases h _ (List.mem_of_getElem? z) with ⟨d, e⟩ | e <;> cases e
  · rcases h _ (List.mem_of_getElem? z) with ⟨d, e⟩ | e <;> cases e
end
end Gp
end
section
set_option Elab.async false
set_option linter.all false
set_option maxRecDepth 100000
set_option maxHeartbeats 4000000
namespace Gz
open PySem
open Sem (wp)
def pois : GenState → GenState
  | .suspended _ l c p fs cl => .suspended (fun _ => .unsupported "") l c p fs cl
  | x => x
def IsSusp (x : GenState) : Prop := ∃ k l c p fs cl, x = .suspended k l c p fs cl
def Fixd (x : GenState) : Prop := IsSusp x ∨ x = .running
abbrev Map := Nat → Option GenState
def rest (ρ : Map) (G : Array GenState) : Array GenState := G.mapIdx fun i x => (ρ i).getD x
structure Held (ρ : Map) (G : Array GenState) : Prop where
  at_ : ∀ i x, ρ i = some x → Fixd x ∧ G[i]? = some (pois x)
  fr : ∀ i k l c p fs cl, ρ i = none → G[i]? = some (.suspended k l c p fs cl) → ∀ g kk ll cc pp, Frame.gen g kk ll cc pp ∈ fs → ρ g = none
def FsOk (ρ : Map) (fs : List Frame) : Prop := ∀ g kk ll cc pp, Frame.gen g kk ll cc pp ∈ fs → ρ g = none
theorem rest_size (ρ : Map) (G : Array GenState) : (rest ρ G).size = G.size := by unfold rest; exact Array.size_mapIdx
theorem rest_get (ρ : Map) (G : Array GenState) (i : Nat) : (rest ρ G)[i]? = (G[i]?).map fun x => (ρ i).getD x := by
  unfold rest
  exact Array.getElem?_mapIdx
theorem Held.lt {ρ : Map} {G : Array GenState} (h : Held ρ G) {i : Nat} {x : GenState} (e : ρ i = some x) : i < G.size := by
  obtain ⟨_, q⟩ := h.at_ i x e
  exact (Array.getElem?_eq_some_iff.mp q).1
theorem Held.push {ρ : Map} {G : Array GenState} (h : Held ρ G) (c : Code) : Held ρ (G.push (.fresh c)) ∧ rest ρ (G.push (.fresh c)) = (rest ρ G).push (.fresh c) := by
  have hn : ρ G.size = none := by
    cases e : ρ G.size with
    | none => rfl
    | some x => exact absurd (h.lt e) (Nat.lt_irrefl _)
  refine ⟨⟨fun i x e => ?_, fun i k l c' p fs cl e q => ?_⟩, ?_⟩
  · obtain ⟨a, b⟩ := h.at_ i x e
    refine ⟨a, ?_⟩
    rw [Array.getElem?_push, if_neg (Nat.ne_of_lt (h.lt e))]
    exact b
  · rw [Array.getElem?_push] at q
    split at q
    · cases q
    · exact h.fr i k l c' p fs cl e q
  · apply Array.ext_getElem?
    intro i
    rw [rest_get, Array.getElem?_push, Array.getElem?_push, rest_size]
    by_cases e : i = G.size
    · rw [if_pos e, if_pos e, e, hn]
      rfl
    · rw [if_neg e, if_neg e, rest_get]
theorem Held.set {ρ : Map} {G : Array GenState} (h : Held ρ G) {g : Nat} (hg : ρ g = none) {y : GenState} (hy : ∀ k l c p fs cl, y = .suspended k l c p fs cl → FsOk ρ fs) :
    Held ρ (G.setIfInBounds g y) ∧ rest ρ (G.setIfInBounds g y) = (rest ρ G).setIfInBounds g y := by
  refine ⟨⟨fun i x e => ?_, fun i k l c p fs cl e q => ?_⟩, ?_⟩
  · obtain ⟨a, b⟩ := h.at_ i x e
    refine ⟨a, ?_⟩
    rw [Array.getElem?_setIfInBounds_ne (fun z => by rw [z, e] at hg; cases hg)]
    exact b
  · by_cases z : g = i
    · subst z
      rw [Array.getElem?_setIfInBounds_self] at q
      split at q
      · exact hy _ _ _ _ _ _ (Option.some.inj q)
      · cases q
    · rw [Array.getElem?_setIfInBounds_ne z] at q
      exact h.fr i k l c p fs cl e q
  · apply Array.ext_getElem?
    intro i
    rw [rest_get]
    by_cases z : g = i
    · subst z
      rw [Array.getElem?_setIfInBounds_self, Array.getElem?_setIfInBounds_self, rest_size, hg]
      split <;> rfl
    · rw [Array.getElem?_setIfInBounds_ne z, Array.getElem?_setIfInBounds_ne z, rest_get]
abbrev up (ρ : Map) (s : Shared) : Shared := { s with gens := rest ρ s.gens }
theorem Held.run {ρ : Map} {G : Array GenState} (h : Held ρ G) {g : Nat} (e : G[g]? = some .running) : (rest ρ G)[g]? = some .running := by
  rw [rest_get, e]
  cases q : ρ g with
  | none => rfl
  | some y =>
    obtain ⟨hy, b⟩ := h.at_ g y q
    rw [e] at b
    rcases hy with ⟨k, l, c, p, fs, cl, rfl⟩ | rfl
    · cases b
    · rfl
def Sleep (s s1 : Shared) : Prop := ∀ (i : Nat) (x : GenState), Fixd x → s.gens[i]? = some x → s1.gens[i]? = some x
theorem Sleep.refl {s : Shared} : Sleep s s := fun _ _ _ h => h
theorem Sleep.trans {a b c : Shared} (h : Sleep a b) (k : Sleep b c) : Sleep a c := fun i x hx e => k i x hx (h i x hx e)
end Gz
end
section
set_option Elab.async false
set_option linter.all false
set_option maxRecDepth 100000
set_option maxHeartbeats 4000000
namespace Gz
open PySem PySem.Spec PyProof.Rows L2 GenW Gh
abbrev EndI (ι : Type) := Nat → ι → Result → Shared → Prop
abbrev ProI (ι : Type) := Nat → ι → Value → Shared → (Resume → ι → Shared → Prop) → Prop
section
variable {ι : Type} {M : Model} {A : Around} {R : EndI ι} {Y : ProI ι} {n : Nat} {i : ι} {c : Code} {fs : List Frame} {s : Shared}
def endI (R : EndI ι) (Y : ProI ι) (n : Nat) (go : ι → Code → Sem PySem.Fin → List Frame → Shared → Prop) (i : ι) : End → Shared → Prop
  | .ret r, s' => R n i r s'
  | .susp v g l k c p fs, s' => (End.susp v g l k c p fs).quiet = true ∧ Y (n - 1) i v s' fun r j s'' => go j c (k r) fs s''
def GSeg (M : Model) (A : Around) (R : EndI ι) (Y : ProI ι) : Nat → ι → Code → Sem PySem.Fin → List Frame → Shared → Prop
  | 0, i, c, t, fs, s => ∀ Γ p, Γ.code = c → Γ.Woken A → ∃ e s', Runs M Γ p t fs s e s' ∧ endI R Y 0 (fun _ _ _ _ _ => False) i e s'
  | n + 1, i, c, t, fs, s => ∀ Γ p, Γ.code = c → Γ.Woken A → ∃ e s', Runs M Γ p t fs s e s' ∧ endI R Y (n + 1) (GSeg M A R Y n) i e s'
section
variable {α β : Type} {m : Sem α} {H : Value → Sem PySem.Fin} {gd : Bool → Bool} {lv : List Value → List Value}
end
section
variable {env : PySem.Env} {K : Flow → Sem PySem.Fin} {H : Value → Sem PySem.Fin} {gd : Bool → Bool} {lv : List Value → List Value}
end
section
variable {prog : Program} {w : World} {env : PySem.Env}
end
def GGoes (M : Model) (A : Around) (R : EndI ι) (Y : ProI ι) (n : Nat) (i : ι) : GenState → Resume → Shared → Prop
  | .fresh c, r, s => r = .send .none ∧ GSeg M A R Y n i c (M.den c) [] s
  | .suspended k _ c _ fs _, r, s => GSeg M A R Y n i c (k r) fs s
  | _, _, _ => False
end
end Gz
end
section
set_option Elab.async false
set_option linter.all false
set_option maxRecDepth 100000
set_option maxHeartbeats 4000000
namespace Gz
open PySem PySem.Spec PyProof.Rows L2 GenW Gh
variable {X : Cx}
def cut (h : Heap) (n : Nat) : Heap := { h with objs := h.objs.extract 0 n }
abbrev cutS (s : Shared) (n : Nat) : Shared := { s with heap := cut s.heap n }
abbrev reb (X : Cx) (s0 : Shared) (H0 : Hp) : Cx := { X with s_0 := s0, H_0 := H0, xe := fun _ _ => False }
def RunS (s s1 : Shared) : Prop := ∀ i : Nat, s.gens[i]? = some .running → s1.gens[i]? = some .running
theorem RunS.refl {s : Shared} : RunS s s := fun _ h => h
theorem RunS.trans {a b c : Shared} (h : RunS a b) (k : RunS b c) : RunS a c := fun i e => k i (h i e)
structure Pro (T : Type) where
  hp : T → Hp
  src : T → Shared → Shared
  out : Nat → T → V → Hp → Prop
  lk : Nat → T → Hp → T → Prop
  fin : Nat → T → Hp → Prop
structure QE (T : Type) where
  nx : Nat → T → L2.St → Hp → Prop
  rt : Nat → T → V → Hp → Prop
  bk : Nat → T → L2.St → Hp → Prop := fun _ _ _ _ => False
  ct : Nat → T → L2.St → Hp → Prop := fun _ _ _ _ => False
def QE.at {T : Type} (D : QE T) (n : Nat) (γ : T) : Ends := { nx := D.nx n γ, rt := D.rt n γ, bk := D.bk n γ, ct := D.ct n γ }
abbrev TQ (T : Type) := Pro T → QE T → Nat → T → L2.St → Hp → Prop
structure QI {T : Type} (X : Cx) (g n0 : Nat) (P : Pro T) (ip : List (Addr × Obj)) (gp : List (Nat × GenState)) (γ : T) (s₀ : Shared) (σ : L2.St) (H : Hp) (s : Shared) : Prop where
  inv : Inv (reb X (cutS (P.src γ s₀) n0) (P.hp γ)) ip σ H s
  run : s.gens[g]? = some .running
  sz : n0 ≤ (P.src γ s₀).heap.objs.size
  ips : ∀ p ∈ ip, n0 ≤ p.1
  slp : RunS s₀ s
  gpn : ∀ q ∈ gp, IsSusp q.2 ∧ s.gens[q.1]? = some q.2
def QY {T : Type} (X : Cx) (g n0 : Nat) (P : Pro T) : ProI (T × Shared) := fun n i v s kap =>
  ∃ σ ip gp x H, QI X g n0 P ip gp i.1 i.2 σ H s ∧ RelV x v ∧ P.out n i.1 x H ∧
    ∀ s' γ', QI X g n0 P ip gp γ' s' σ (P.hp γ') s' → P.lk n i.1 H γ' → kap (.send .none) (γ', s') s'
def QR {T : Type} (X : Cx) (g n0 : Nat) (P : Pro T) (N : Nat) (Er : Value → Shared → Prop) : EndI (T × Shared) := fun n i r s1 =>
  ((r = .ok (.ret .none) ∨ r = .ok .next) ∧ ∃ σ ip gp H, QI X g n0 P ip gp i.1 i.2 σ H s1 ∧ P.fin n i.1 H) ∨ ∃ e, r = .error e ∧ (n = N ∧ Er e s1)
section
variable {T : Type} {Z : GpZ} {st : Stmt} {rest : List Stmt} {pos : Pos}
def tQThen (t u : TQ T) : TQ T := fun P D n γ σ H => t P { D with nx := fun n' γ' σ' H' => u P D n' γ' σ' H' } n γ σ H
end
end Gz
end
section
set_option Elab.async false
set_option linter.all false
set_option maxRecDepth 100000
set_option maxHeartbeats 4000000
namespace Gz
open PySem PySem.Spec PyProof.Rows L2 GenW Gh
section
variable {X : Cx} {ip : List (Addr × Obj)} {σ : L2.St} {H : Hp} {s : Shared}
end
structure HxOk (n : Nat) (H H2 : Hp) : Prop where
  low : ∀ {b : Addr}, b < n → H2 b = H b
  ext : ∀ {b : Addr} {o : HO}, H b = some o → H2 b = some o
  tup : ∀ {b : Addr} {xs : List V}, H2 b = some (.tup xs) → H b = some (.tup xs)
  frz : ∀ {b : Addr} {od : Obj} {u : HO}, H2 b = some (.frz od u) → H b = some (.frz od u)
  tbl : ∀ {b : Addr} {ps : Array Value}, H2 b = some (.tbl ps) → H b = some (.tbl ps)
theorem HxOk.sub {n : Nat} {H H2 : Hp} (h : HxOk n H H2) {b : Addr} (e : H2 b = none) : H b = none := by
  cases q : H b with
  | none => rfl
  | some o =>
    rw [h.ext q] at e
    cases e
theorem HxOk.mono {n m : Nat} {H H2 : Hp} (h : HxOk n H H2) (l : m ≤ n) : HxOk m H H2 := ⟨fun q => h.low (Nat.lt_of_lt_of_le q l), h.ext, h.tup, h.frz, h.tbl⟩
theorem HxOk.same {n : Nat} {H H2 : Hp} (h : H2 = H) : HxOk n H H2 := by
  subst h
  exact ⟨fun _ => rfl, fun e => e, fun e => e, fun e => e, fun e => e⟩
theorem HxOk.trans {n : Nat} {H H2 H3 : Hp} (h : HxOk n H H2) (k : HxOk n H2 H3) : HxOk n H H3 :=
  ⟨fun q => (k.low q).trans (h.low q), fun e => k.ext (h.ext e), fun e => h.tup (k.tup e), fun e => h.frz (k.frz e), fun e => h.tbl (k.tbl e)⟩
theorem HxOk.one {n : Nat} {H H2 : Hp} (z : ∃ S o, n ≤ S ∧ H S = none ∧ (∀ xs, o ≠ .tup xs) ∧ (∀ od u, o ≠ .frz od u) ∧ (∀ ps, o ≠ .tbl ps) ∧ H2 = upd H S o) : HxOk n H H2 := by
  obtain ⟨S, o, h0, h1, h2, h3, h4, rfl⟩ := z
  refine ⟨fun l => ?_, fun e => ?_, fun {b xs} e => ?_, fun {b od u} e => ?_, fun {b ps} e => ?_⟩
  · rw [upd_ne (Nat.ne_of_lt (Nat.lt_of_lt_of_le l h0))]
  · rw [upd_ne (ne_of_none e h1)]; exact e
  · by_cases q : b = S
    · rw [q, upd_same] at e; cases e; exact absurd rfl (h2 _)
    · rwa [upd_ne q] at e
  · by_cases q : b = S
    · rw [q, upd_same] at e; cases e; exact absurd rfl (h3 _ _)
    · rwa [upd_ne q] at e
  · by_cases q : b = S
    · rw [q, upd_same] at e; cases e; exact absurd rfl (h4 _)
    · rwa [upd_ne q] at e
section
variable {T : Type} {X : Cx} {st : Stmt} {rest : List Stmt}
end
structure GX (X : Cx) (P : Program) (w : World) (base : Heap) (outer : List Env) (a : Addr) (g n0 : Nat) : Prop where
  prog : X.prog = P
  w : X.w = w
  base : X.base = base
  outer : X.outer = outer
  ex : X.ex = []
  cel : ∀ x c, X.env.cells.lookup x = some c → False
  gen : ∀ h : Heap, (∀ p ∈ X.pn, h.get? p.1 = some p.2) → h.IsGen a g
  loc : n0 ≤ X.env.locals
  pns : ∀ p ∈ X.pn, n0 ≤ p.1
end Gz
end
section
set_option Elab.async false
set_option linter.all false
set_option maxRecDepth 100000
set_option maxHeartbeats 4000000
namespace Gz
open PySem PySem.Spec PyProof.Rows L2 GenW Gh
def wrapP {T : Type} (P : Pro T) : Pro (T × Option Shared) := { hp := fun γ => P.hp γ.1, src := fun γ s => γ.2.getD s, out := fun n γ => P.out n γ.1, lk := fun n γ H γ' => P.lk n γ.1 H γ'.1, fin := fun n γ => P.fin n γ.1 }
section
variable {Xc X : Cx} {pins ip : List (Addr × Obj)} {σc σ : L2.St} {h1 h2 H1 : Hp} {s s' : Shared} {n0 : Nat}
end
structure SameC (X Y : Cx) : Prop where
  prog : Y.prog = X.prog
  w : Y.w = X.w
  base : Y.base = X.base
  stack : Y.stack = X.stack
theorem SameC.refl {X : Cx} : SameC X X := ⟨rfl, rfl, rfl, rfl⟩
structure Older (X XG : Cx) (pins : List (Addr × Obj)) (a : Addr) (g ns : Nat) : Prop where
  gx : GX XG X.prog X.w X.base X.stack a g ns
  s0 : X.s_0.heap.objs.size ≤ ns
  lo : X.env.locals < ns
  cl : ∀ x c, X.env.cells.lookup x = some c → c < ns
  pl : ∀ p ∈ X.pn ++ pins, p.1 < ns
  fs : ∀ b ∈ X.fs, b < ns
theorem Older.of {X XG : Cx} {pins : List (Addr × Obj)} {a : Addr} {g : Nat} {σ : L2.St} {H : Hp} {sc : Shared} (gx : GX XG X.prog X.w X.base X.stack a g sc.heap.objs.size) (I1 : Inv X pins σ H sc) : Older X XG pins a g sc.heap.objs.size :=
  ⟨gx, I1.sz, I1.lt, fun x c e => by
    obtain ⟨v, o, q, _⟩ := I1.cell x c e
    exact Heap.lt_size q, fun p hp => Heap.lt_size (I1.pin p hp).1, fun b hb => by
    obtain ⟨_, o, e, _⟩ := I1.ok.funs.mem hb
    exact Nat.lt_of_lt_of_le (Heap.lt_size e) I1.sz⟩
def Fst {T : Type} (X : Cx) (pins : List (Addr × Obj)) (P : Pro T) (ns : Nat) (γ : T × Option Shared) (σ : L2.St) : Prop :=
  ∀ s', γ.2 = some s' → s'.heap.objs.size = ns ∧ ∃ H1, Inv X pins σ H1 s' ∧ HxOk ns H1 (P.hp γ.1)
def Pulled {T : Type} (M : Model) (P : Pro T) (XG : Cx) (ns : Nat) (a : Addr) (g : Nat) (A : Around) (ER : Value → Shared → Prop) (N n : Nat) (γ : T × Option Shared) (s : Shared) : Prop :=
  s.heap.IsGen a g ∧ ∃ gs, s.gens[g]? = some gs ∧ GGoes M A.in1 (QR XG g ns (wrapP P) (N + 1) ER) (QY XG g ns (wrapP P)) (n + 1) (γ, s.setGen g .running) gs (.send .none) (s.setGen g .running)
section
variable {T : Type} {X XG : Cx} {pins : List (Addr × Obj)} {P : Pro T} {s s4 : Shared} {a : Addr} {g ns N n : Nat} {A : Around} {ER : Value → Shared → Prop} {σ σg : L2.St} {H4 : Hp} {γ : T × Option Shared} {ip : List (Addr × Obj)} {gp : List (Nat × GenState)} {gs' : GenState}
end
def PullS {T : Type} (X : Cx) (pins : List (Addr × Obj)) (P : Pro T) (I : Nat → T → L2.St → Prop) (sc : Shared) (XG : Cx) (a : Addr) (g : Nat) (A : Around) (H1 : Hp) (E : XK) (N n : Nat) (s : Shared) : Prop :=
  ∃ γ : T × Option Shared, ∃ σ, I n γ.1 σ ∧ Inv X pins σ (P.hp γ.1) s ∧ Fst X pins P sc.heap.objs.size γ σ ∧ Pulled (model X.prog X.w) P XG sc.heap.objs.size a g A (fun e s1 => CX X.prog X.w X.stack H1 sc E e s1 ∧ s1.heap.IsGen a g) N n γ s
section
variable {T : Type} {X XG : Cx} {pins : List (Addr × Obj)} {P : Pro T} {I : Nat → T → L2.St → Prop} {sc s : Shared} {a : Addr} {g N n : Nat} {A : Around} {H1 : Hp} {E : XK} {σ1 : L2.St}
theorem PullS.inv (h : PullS X pins P I sc XG a g A H1 E N n s) : ∃ γ σ, I n γ σ ∧ Inv X pins σ (P.hp γ) s := by
  obtain ⟨γ, σ, h1, h2, _⟩ := h
  exact ⟨γ.1, σ, h1, h2⟩
theorem PullS.gen (h : PullS X pins P I sc XG a g A H1 E N n s) : s.heap.IsGen a g := by
  obtain ⟨γ, _, _, _, _, h, _⟩ := h
  exact h
end
section
variable {X : Cx} {tg iter : Expr} {body : List Stmt} {tq : TQG} {gt : TG} {tb : TS} {pos : Pos} {k : Nat} {E : XK}
end
end Gz
end
section
set_option Elab.async false
set_option linter.all false
set_option maxRecDepth 100000
set_option maxHeartbeats 4000000
namespace Gp
open PySem PySem.Spec PyProof.Rows L2 Gh Gz
structure GT (α : Type) where
  out : List D
  res : Tr α
section
variable {W W' L : Type}
def gbF (m : GT (Fl W' L)) (k : W' → GT (Fl W L)) : GT (Fl W L) := match m.res with
  | .ok (.nx w) => ⟨m.out ++ (k w).out, (k w).res⟩
  | .ok (.rt d) => ⟨m.out, .ok (.rt d)⟩
  | .ok (.bk l) => ⟨m.out, .ok (.bk l)⟩
  | .ok (.ct l) => ⟨m.out, .ok (.ct l)⟩
  | _ => ⟨m.out, .bad⟩
end
structure PY (g : Gw) (all : List D) (N : Nat) {T : Type} (P : Pro T) where
  U : T → Addr → Prop
  B : T → Nat
  ok : Prop
  out : ∀ n γ x H1 d, n + 1 ≤ N → all[N - (n + 1)]? = some d → Den g (U γ) H1 x d → Wd g H1 (B γ) → Fr (P.hp γ) H1 g.p → P.out n γ x H1
  lk : ∀ n γ H1 γ', P.lk n γ H1 γ' → 0 < n ∧ Ev (U γ) H1 (U γ') (P.hp γ') ∧ UOk g (U γ') (P.hp γ') ∧ Wd g (P.hp γ') (B γ')
  fin : ∀ n γ H1, ok → n + all.length = N → Wd g H1 (B γ) → Fr (P.hp γ) H1 g.p → P.fin n γ H1
abbrev TQA := (T : Type) → TQ T
abbrev NoM : Addr → Prop := fun _ => False
section
variable {g : Gw} {T : Type} {P : Pro T} {all : List D} {N : Nat} {W W' L : Type}
def gqP (Y : PY g all N P) (D : QE T) (env : W → Env) (envL : L → Env) (n : Nat) (U : Addr → Prop) (H : Hp) : Fl W L → Prop
  | .nx w => ∀ γ' U' σ' H', Ev U H U' H' → Stt g NoM (Y.U γ') (P.hp γ') U' σ' H' (Y.B γ') (env w) → D.nx n γ' σ' H'
  | .rt _ => False
  | .bk w => ∀ γ' U' σ' H', Ev U H U' H' → Stt g NoM (Y.U γ') (P.hp γ') U' σ' H' (Y.B γ') (envL w) → D.bk n γ' σ' H'
  | .ct w => ∀ γ' U' σ' H', Ev U H U' H' → Stt g NoM (Y.U γ') (P.hp γ') U' σ' H' (Y.B γ') (envL w) → D.ct n γ' σ' H'
theorem gqP.ev {Y : PY g all N P} {D : QE T} {env : W → Env} {envL : L → Env} {n : Nat} {U U1 : Addr → Prop} {H H1 : Hp} (e : Ev U H U1 H1) : ∀ {f : Fl W L}, gqP Y D env envL n U H f → gqP Y D env envL n U1 H1 f
  | .nx w, h => fun γ' U' σ' H' e1 => h γ' U' σ' H' (e.trans e1)
  | .rt _, h => h
  | .bk w, h => fun γ' U' σ' H' e1 => h γ' U' σ' H' (e.trans e1)
  | .ct w, h => fun γ' U' σ' H' e1 => h γ' U' σ' H' (e.trans e1)
def okQ {α : Type} (m : Tr α) (R : α → Prop) : Prop := match m with
  | .ok f => R f
  | _ => False
end
theorem Ev.sup {U U1 U' : Addr → Prop} {H H' : Hp} (h : Ev U H U' H') (s : ∀ a, U a → U1 a) : Ev U1 H U' H' := ⟨fun a o e n t => h.keep a o e (fun z => n (s a z)) t, fun a o e n t => h.out a o e (fun z => n (s a z)) t⟩
def YS {W L : Type} (g : Gw) (ε : Env) (t : TQA) (env : W → Env) (envL : L → Env) (m : GT (Fl W L)) : Prop := ∀ (T : Type) (P : Pro T) (all : List D) (N : Nat) (Y : PY g all N P) (D : QE T) γ U σ H n pre post,
  Stt g NoM (Y.U γ) (P.hp γ) U σ H (Y.B γ) ε → all = pre ++ (m.out ++ post) → n + pre.length = N → m.out.length ≤ n → ((m.out = [] ∨ m.out.length < n) → okQ m.res (gqP Y D env envL (n - m.out.length) U H)) → t T P D n γ σ H
section
variable {g : Gw} {W W' L : Type} {ε : Env} {env : W → Env} {envL : L → Env} {env' : W' → Env} {u ta tb : TQA} {te : TE} {me : Tr D}
theorem gbF_nx {m : GT (Fl W' L)} {k : W' → GT (Fl W L)} {w : W'} (e : m.res = .ok (.nx w)) : gbF m k = ⟨m.out ++ (k w).out, (k w).res⟩ := by unfold gbF; rw [e]
theorem YS.seq {m : GT (Fl W' L)} {k : W' → GT (Fl W L)} (h1 : YS g ε ta env' envL m) (h2 : ∀ w, YS g (env' w) u env envL (k w)) : YS g ε (fun T => tQThen (ta T) (u T)) env envL (gbF m k) := fun T P all N Y D γ U σ H n pre post s ha hn hl q => by
  have run : ∀ (R : List Gp.D), all = pre ++ (m.out ++ R) → m.out.length ≤ n → ((m.out = [] ∨ m.out.length < n) → okQ m.res (gqP Y { D with nx := fun n' γ' σ' H' => u T P D n' γ' σ' H' } env' envL (n - m.out.length) U H)) → tQThen (ta T) (u T) P D n γ σ H :=
    fun R hR hl' hq => h1 T P all N Y _ γ U σ H n pre R s hR hn hl' hq
  cases e : m.res with
  | ok f =>
    cases f with
    | nx w =>
      rw [gbF_nx e] at ha hl q
      have ha' : all = pre ++ (m.out ++ ((k w).out ++ post)) := by rw [ha]; simp [List.append_assoc]
      have hl' : m.out.length + (k w).out.length ≤ n := by rw [← List.length_append]; exact hl
      refine run _ ha' (by omega) fun hc => ?_
      rw [e]
      intro γ' U' σ' H' ev s'
      refine h2 w T P all N Y D γ' U' σ' H' (n - m.out.length) (pre ++ m.out) post s' (by rw [ha']; simp [List.append_assoc]) (by rw [List.length_append]; omega) (by omega) fun hc2 => ?_
      have z := q (by
        rcases hc2 with z | z
        · rw [z, List.append_nil]; exact hc
        · exact .inr (by show (m.out ++ (k w).out).length < n; rw [List.length_append]; omega))
      have e3 : n - (m.out ++ (k w).out).length = n - m.out.length - (k w).out.length := by rw [List.length_append]; omega
      change okQ (k w).res (gqP Y D env envL (n - (m.out ++ (k w).out).length) U H) at z
      rw [e3] at z
      cases e4 : (k w).res with
      | ok f2 => rw [e4] at z; exact gqP.ev ev z
      | ex c fs => rw [e4] at z; exact z.elim
      | bad => rw [e4] at z; exact z.elim
      | draw _ _ => rw [e4] at z; exact z.elim
    | rt d =>
      have e2 : gbF m k = ⟨m.out, .ok (.rt d)⟩ := by unfold gbF; rw [e]
      rw [e2] at ha hl q
      exact run post ha hl fun hc => by rw [e]; exact q hc
    | bk l =>
      have e2 : gbF m k = ⟨m.out, .ok (.bk l)⟩ := by unfold gbF; rw [e]
      rw [e2] at ha hl q
      exact run post ha hl fun hc => by rw [e]; exact q hc
    | ct l =>
      have e2 : gbF m k = ⟨m.out, .ok (.ct l)⟩ := by unfold gbF; rw [e]
      rw [e2] at ha hl q
      exact run post ha hl fun hc => by rw [e]; exact q hc
  | ex c fs =>
    have e2 : gbF m k = ⟨m.out, .bad⟩ := by unfold gbF; rw [e]
    rw [e2] at ha hl q
    exact run post ha hl fun hc => (q hc).elim
  | bad =>
    have e2 : gbF m k = ⟨m.out, .bad⟩ := by unfold gbF; rw [e]
    rw [e2] at ha hl q
    exact run post ha hl fun hc => (q hc).elim
  | draw _ _ =>
    have e2 : gbF m k = ⟨m.out, .bad⟩ := by unfold gbF; rw [e]
    rw [e2] at ha hl q
    exact run post ha hl fun hc => (q hc).elim
end
end Gp
end
section
set_option Elab.async false
set_option linter.all false
set_option maxRecDepth 100000
set_option maxHeartbeats 4000000
namespace Gp
open PySem PySem.Spec PyProof.Rows L2 Gh
inductive BX where
  | lit (b : Bool) | own (x : Str) | ty (x : String) | and (p q : BX)
def BX.v : BX → Bool
  | .lit b => b
  | .own _ => true
  | .ty _ => true
  | .and p q => p.v && q.v
def BX.free : BX → Bool
  | .lit _ => true
  | .own _ => false
  | .ty _ => false
  | .and p q => p.free && q.free
section
variable {g : Gw} {U : Addr → Prop} {H H' : Hp} {b : Nat} {σ : L2.St} {ε : Env}
end
end Gp
end
section
set_option Elab.async false
set_option linter.all false
set_option maxRecDepth 100000
set_option maxHeartbeats 4000000
namespace Gp
open PySem PySem.Spec PyProof.Rows L2 Gh
section
variable {X : Cx} {pins : List (Addr × Obj)} {σ : L2.St} {H : Hp} {s : Shared} {g : Gw} {U : Addr → Prop}
end
def sysB (K : PySem.W.Frag) : Bool := (K.lookup sysModules).isSome
section
variable {X : Cx} {K : PySem.W.Frag}
end
section
variable {g : Gw} {E : XK}
end
end Gp
end
section
set_option Elab.async false
set_option linter.all false
set_option maxRecDepth 100000
set_option maxHeartbeats 4000000
namespace Gp
open PySem PySem.Spec PyProof.Rows L2 Gh
inductive IX where
  | s (x : Str) | n (i : Int) | f (cn x : Str)
def IX.d (cl : Str) (fs : Fs) : IX → Option D
  | .s x => if x.length ≤ sizeLine then some (.str x) else none
  | .n k => some (.int k)
  | .f cn x => if (cl == cn) = true then fs.lookup x else none
def ixDs (cl : Str) (fs : Fs) : List IX → Option (List D)
  | [] => some []
  | x :: r => match x.d cl fs, ixDs cl fs r with
    | some d, some ds => some (d :: ds)
    | _, _ => none
inductive TX where
  | own (x : Str) | not (p : TX) | and (p q : TX)
def TX.v (ki : Str → Str → Option Bool) (cl : Str) : TX → Option Bool
  | .own x => ki cl x
  | .not p => (p.v ki cl).map (!·)
  | .and p q => match p.v ki cl with
    | none => none
    | some false => some false
    | some true => q.v ki cl
inductive VX where
  | one (x : IX) | lst (l : List IX)
def VX.d (cl : Str) (fs : Fs) : VX → Option D
  | .one x => x.d cl fs
  | .lst l => match ixDs cl fs l with
    | some ds => if ds.length ≤ sizeLine then some (.lst ds) else none
    | none => none
inductive S1X where
  | set (v : VX) | sel (t : TX) (v u : VX)
def S1X.d (ki : Str → Str → Option Bool) (cl : Str) (fs : Fs) : S1X → Option D
  | .set v => v.d cl fs
  | .sel t v u => match t.v ki cl with
    | none => none
    | some true => v.d cl fs
    | some false => u.d cl fs
section
variable {g : Gw} {U : Addr → Prop} {H : Hp} {b : Nat} {σ : L2.St}
variable {a dd : Addr} {cl : Str} {i j n : Nat} {fvs : List (Str × V)} {fs : Fs} {ki : Str → Str → Option Bool}
end
end Gp
end
section
set_option Elab.async false
set_option linter.all false
set_option maxRecDepth 100000
set_option maxHeartbeats 4000000
namespace Gp
open PySem PySem.Spec PyProof.Rows L2 Gh
section
variable {g : Gw} {Mt U0 U U' : Addr → Prop} {H0 H H' H1 H2 : Hp} {b b1 b2 : Nat} {σ : L2.St} {ε ε' : Env} {E : XK} {W L W' : Type}
variable {env : W → Env} {envL : L → Env} {env' : W' → Env} {u ta tb : TS} {te : TE} {me : Tr D}
def frP (g : Gw) (U : Addr → Prop) (H : Hp) (c : Str) (Q : VK) : Fs → Nat → Prop := fun fs b' => ∀ x dx fvs H', (∀ o, H x = some o → ∃ ps, o = .tbl ps) → H' x = some (.ins (gd c g.K) dx fvs) → DenF g (fun a => U a ∨ a = x) H' fvs fs → Wd g H' b' → Fr H H' g.p → Q (.ref x) H'
theorem fresh_back {g : Gw} {H H' : Hp} {b : Nat} (w : Wd g H' b) (f : Fr H H' g.p) {x : Addr} (n : ∀ o, H' x = some o → ∃ ps, o = .tbl ps) : ∀ o, H x = some o → ∃ ps, o = .tbl ps := fun o e => by
  by_cases t : ∃ ps, o = .tbl ps
  · exact t
  · by_cases hp : x = g.p
    · subst hp
      obtain ⟨ns, i, z, h, _⟩ := w.pen
      obtain ⟨ps, q⟩ := n _ h
      cases q
    · exact n o (f x o e hp fun ps z => t ⟨ps, z⟩)
theorem frP.fr {c : Str} {Q : VK} {fs : Fs} (w : Wd g H1 b1) (f : Fr H H1 g.p) (h : frP g U H c Q fs b) : frP g U H1 c Q fs b := fun x dx fvs H' n hx df w' f' => h x dx fvs H' (fresh_back w f n) hx df w' (f.trans f')
end
end Gp
end
section
set_option Elab.async false
set_option linter.all false
set_option maxRecDepth 100000
set_option maxHeartbeats 4000000
namespace Gp
open PySem PySem.Spec PyProof.Rows L2 Gh
section
variable {g : Gw} {Mt U0 U U' : Addr → Prop} {H0 H H' H1 H2 : Hp} {b b1 b2 : Nat} {σ : L2.St} {ε ε' : Env} {E : XK} {W L W' : Type}
variable {env : W → Env} {envL : L → Env} {env' : W' → Env} {u ta tb : TS} {te : TE} {me : Tr D}
def KeepJ (js : List Nat) (σ σ' : L2.St) : Prop := ∀ j ∈ js, σ'[j]? = σ[j]?
def flJ (js : List Nat) (σ0 : L2.St) (g : Gw) (Mt U0 : Addr → Prop) (H0 : Hp) (U : Addr → Prop) (H : Hp) (D : Ends) (env : W → Env) (envL : L → Env) : Fl W L → Nat → Prop
  | .nx w, b => ∀ U' σ' H', Ev U H U' H' → Stt g Mt U0 H0 U' σ' H' b (env w) → KeepJ js σ0 σ' → D.nx σ' H'
  | .rt d, b => ∀ v H, Den g U0 H v d → Wd g H b → FrM g Mt H0 H → D.rt v H
  | .bk w, b => ∀ U' σ' H', Ev U H U' H' → Stt g Mt U0 H0 U' σ' H' b (envL w) → KeepJ js σ0 σ' → D.bk σ' H'
  | .ct w, b => ∀ U' σ' H', Ev U H U' H' → Stt g Mt U0 H0 U' σ' H' b (envL w) → KeepJ js σ0 σ' → D.ct σ' H'
theorem flJ.ev {js : List Nat} {σ0 : L2.St} {U1 : Addr → Prop} {H1 : Hp} {D : Ends} {env : W → Env} {envL : L → Env} (e : Ev U H U1 H1) : ∀ {f : Fl W L}, flJ js σ0 g Mt U0 H0 U H D env envL f b → flJ js σ0 g Mt U0 H0 U1 H1 D env envL f b
  | .nx w, h => fun U' σ' H' e1 => h U' σ' H' (e.trans e1)
  | .rt d, h => h
  | .bk w, h => fun U' σ' H' e1 => h U' σ' H' (e.trans e1)
  | .ct w, h => fun U' σ' H' e1 => h U' σ' H' (e.trans e1)
end
end Gp
end
section
set_option Elab.async false
set_option linter.all false
set_option maxRecDepth 100000
set_option maxHeartbeats 4000000
namespace Gp
open PySem PySem.Spec PyProof.Rows L2 Gh
section
variable {X : Cx}
end
section
variable {κ : Type} [DecidableEq κ] {α : Type}
end
section
variable {κ : Type} [DecidableEq κ] {g : Gw} {U : Addr → Prop} {H : Hp}
end
section
variable {g : Gw} {Mt U0 U U' : Addr → Prop} {H0 H H' H1 H2 : Hp} {b b1 : Nat} {σ : L2.St} {ε ε' : Env} {E : XK} {W L W' : Type}
variable {env : W → Env} {envL : L → Env} {env' : W' → Env} {u ta tb : TS} {te td ty tv : TE} {me : Tr D}
theorem OwR.code {o : HO} {x : Ow} (h : OwR g U H o x) (c q) : LamX.CodeO c q ≠ o := fun e => by
  unfold LamX.CodeO at e
  rcases h.no with ⟨vs, z⟩ | ⟨vs, z⟩ | ⟨vs, z⟩ <;> (rw [z] at e; cases e)
end
end Gp
end
section
set_option Elab.async false
set_option linter.all false
set_option maxRecDepth 100000
set_option maxHeartbeats 4000000
namespace Gp
open PySem PySem.Spec PyProof.Rows L2 Gh
structure Lo (g : Gw) (Mt U0 : Addr → Prop) (H0 : Hp) (U : Addr → Prop) (σ : L2.St) (ε : Env) (l : Addr) : Prop where
  u : U l
  p : l ≠ g.p
  c : l ≠ g.c
  ow : ∀ j, ¬ OwnAt σ ε j l
  h0 : Mt l ∨ ∀ o, H0 l = some o → ∃ ps, o = .tbl ps
  u0 : ¬ U0 l
section
variable {g : Gw} {Mt U0 U U' : Addr → Prop} {H0 H H' H1 H2 : Hp} {b b1 : Nat} {σ : L2.St} {ε ε' : Env} {E : XK} {W L W' : Type}
variable {env : W → Env} {envL : L → Env} {env' : W' → Env} {u ta tb : TS} {te : TE} {me : Tr D}
theorem own_there (s : Stt g Mt U0 H0 U σ H b ε) {j : Nat} {a : Addr} (h : OwnAt σ ε j a) : ∃ o, H a = some o := by
  obtain ⟨h1, ⟨ds, h2⟩ | ⟨c, fs, h2⟩⟩ := h
  · obtain ⟨o, e, a', vs, e2, h, _⟩ := s.rel.at_ j _ h2
    rw [h1] at e
    cases e
    cases e2
    exact ⟨_, h⟩
  · obtain ⟨o, e, a', dx, fvs, e2, h, _⟩ := s.rel.at_ j _ h2
    rw [h1] at e
    cases e
    cases e2
    exact ⟨_, h⟩
theorem lo_new {A : Addr} {vs : List V} (s : Stt g Mt U0 H0 U σ H b ε) (n : H A = none) :
    Stt g Mt U0 H0 (fun a => U a ∨ a = A) σ (upd H A (.lst vs)) b ε ∧ Lo g Mt U0 H0 (fun a => U a ∨ a = A) σ ε A ∧ Ev U H (fun a => U a ∨ a = A) (upd H A (.lst vs)) := by
  have sm := same_new (o := .lst vs) n
  have nU : ¬ U A := s.uok.new n
  have hp : A ≠ g.p := fun z => nU (z ▸ s.uok.p)
  have hc : A ≠ g.c := fun z => nU (z ▸ s.uok.c)
  have r1 : Rel g (fun a => U a ∨ a = A) (upd H A (.lst vs)) σ ε := (s.rel.grow n).frp (.inl s.uok.p) (fr_same sm)
  refine ⟨⟨r1, s.wd.same sm, ⟨.inl s.uok.p, .inl s.uok.c, fun a ha => ?_⟩, fun a z => .inl (s.sub a z), s.own, s.ext.trans (fr_same sm), s.nu0, s.oim⟩, ⟨.inr rfl, hp, hc, fun j h => ?_, ?_, fun h => nU (s.sub _ h)⟩, fun a o e _ _ => sm a o e, fun a o e n1 _ => ?_⟩
  · rcases ha with ha | rfl
    · obtain ⟨o, e, t⟩ := s.uok.al a ha
      exact ⟨o, sm a o e, t⟩
    · exact ⟨_, upd_same, (fun _ z => by cases z), (fun _ z => by cases z)⟩
  · obtain ⟨o, e⟩ := own_there s h
    rw [n] at e
    cases e
  · by_cases m : Mt A
    · exact .inl m
    · refine .inr fun o q => ?_
      by_cases t : ∃ ps, o = .tbl ps
      · exact t
      · have := s.ext A o q hp m (fun ps z => t ⟨ps, z⟩)
        rw [n] at this
        cases this
  · rintro (z | z)
    · exact n1 z
    · exact ne_of_none e n z
theorem lo_mut {l : Addr} {vs : List V} (s : Stt g Mt U0 H0 U σ H b ε) (lo : Lo g Mt U0 H0 U σ ε l) (h : H l = some (.lst vs)) (vs' : List V) :
    Stt g Mt U0 H0 U σ (upd H l (.lst vs')) b ε ∧ Ev U H U (upd H l (.lst vs')) := by
  have kp : Keep H (upd H l (.lst vs')) l := fun x o e ne => by rw [upd_ne ne]; exact e
  have xt : ExtU U H (upd H l (.lst vs')) := fun x o e ne _ => kp x o e (fun z => ne (z ▸ lo.u))
  have apart : ∀ j x, OwnAt σ ε j x → x ≠ l := fun j x z e => by
    subst e
    exact lo.ow j z
  refine ⟨⟨⟨s.rel.len, fun j x e => ?_, s.rel.apart⟩, ⟨s.wd.pen.keep kp lo.p lo.c, tabs_keepL kp h s.wd.tabs⟩, ⟨s.uok.p, s.uok.c, fun x hx => ?_⟩, s.sub, s.own, fun x o e m1 m2 m3 => ?_, s.nu0, s.oim⟩, xt, fun _ _ _ n _ => n⟩
  · obtain ⟨o, e1, e2⟩ := s.rel.at_ j x e
    refine ⟨o, e1, ?_⟩
    cases x with
    | no => trivial
    | fz d =>
      obtain ⟨v, e3, e4⟩ := e2
      exact ⟨v, e3, e4.ext xt⟩
    | ow ds2 =>
      obtain ⟨a2, v2, rfl, h2, d2, u2, m1, m2⟩ := e2
      have ne := apart j a2 ⟨e1, .inl ⟨ds2, e⟩⟩
      exact ⟨a2, v2, rfl, kp _ _ h2 ne, d2.map (fun q => q.ext xt), u2, m1, m2⟩
    | oi c fs =>
      obtain ⟨a2, dx, v2, rfl, h2, d2, u2, m1, m2⟩ := e2
      have ne := apart j a2 ⟨e1, .inr ⟨c, fs, e⟩⟩
      exact ⟨a2, dx, v2, rfl, kp _ _ h2 ne, d2.ext xt, u2, m1, m2⟩
  · by_cases q : x = l
    · subst q
      exact ⟨_, upd_same, (fun _ z => by cases z), (fun _ z => by cases z)⟩
    · obtain ⟨o, e, t⟩ := s.uok.al x hx
      exact ⟨o, kp x o e q, t⟩
  · have q : x ≠ l := fun z => by
      subst z
      rcases lo.h0 with w | w
      · exact m2 w
      · obtain ⟨ps, z⟩ := w o e
        exact m3 ps z
    exact kp x o (s.ext x o e m1 m2 m3) q
theorem lo_fz {l : Addr} (s : Stt g Mt U0 H0 U σ H b ε) (lo : Lo g Mt U0 H0 U σ ε l) :
    Stt g Mt U0 H0 (fun x => U x ∧ x ≠ l) σ H b ε ∧ Ev U H (fun x => U x ∧ x ≠ l) H := by
  have sub : ∀ x, (∃ o, H x = some o) → (U x ∧ x ≠ l) → U x := fun x _ z => z.1
  refine ⟨⟨⟨s.rel.len, fun j x e => ?_, s.rel.apart⟩, s.wd, ⟨⟨s.uok.p, lo.p.symm⟩, ⟨s.uok.c, lo.c.symm⟩, fun x hx => s.uok.al x hx.1⟩, fun x z => ⟨s.sub x z, fun e => lo.u0 (e ▸ z)⟩, s.own, s.ext, s.nu0, s.oim⟩, fun _ _ e _ _ => e, fun _ _ _ n _ z => n z.1⟩
  obtain ⟨o, e3, e2⟩ := s.rel.at_ j x e
  refine ⟨o, e3, ?_⟩
  cases x with
  | no => trivial
  | fz d =>
    obtain ⟨v, e4, e5⟩ := e2
    exact ⟨v, e4, e5.sub sub⟩
  | ow ds2 =>
    obtain ⟨a2, v2, rfl, h2, d2, u2, m1, m2⟩ := e2
    exact ⟨a2, v2, rfl, h2, d2.map (fun q => q.sub sub), ⟨u2, fun z => lo.ow j ⟨z ▸ e3, .inl ⟨ds2, e⟩⟩⟩, m1, m2⟩
  | oi c fs =>
    obtain ⟨a2, dx, v2, rfl, h2, d2, u2, m1, m2⟩ := e2
    exact ⟨a2, dx, v2, rfl, h2, d2.sub sub, ⟨u2, fun z => lo.ow j ⟨z ▸ e3, .inr ⟨c, fs, e⟩⟩⟩, m1, m2⟩
theorem Lo.grow {l A : Addr} (lo : Lo g Mt U0 H0 U σ ε l) : Lo g Mt U0 H0 (fun a => U a ∨ a = A) σ ε l := ⟨.inl lo.u, lo.p, lo.c, lo.ow, lo.h0, lo.u0⟩
theorem Lo.cut {l A : Addr} (lo : Lo g Mt U0 H0 U σ ε l) (n : l ≠ A) : Lo g Mt U0 H0 (fun a => U a ∧ a ≠ A) σ ε l := ⟨⟨lo.u, n⟩, lo.p, lo.c, lo.ow, lo.h0, lo.u0⟩
theorem Lo.keep {l : Addr} {σ' : L2.St} (lo : Lo g Mt U0 H0 U σ ε l) (h : ∀ j, OwnAt σ' ε' j l → OwnAt σ ε j l) : Lo g Mt U0 H0 U σ' ε' l := ⟨lo.u, lo.p, lo.c, fun j z => lo.ow j (h j z), lo.h0, lo.u0⟩
structure Grp (g : Gw) (Mt U0 : Addr → Prop) (H0 : Hp) (U : Addr → Prop) (σ : L2.St) (H : Hp) (b : Nat) (ε : Env) (i : Nat) (A l : Addr) (vs ws : List V) (a : List (List D)) (la : List D) : Prop where
  s : Stt g Mt U0 H0 U σ H b ε
  lA : Lo g Mt U0 H0 U σ ε A
  ll : Lo g Mt U0 H0 U σ ε l
  ne : A ≠ l
  at_ : σ[i]? = some (some (.ref A))
  hA : H A = some (.lst (vs ++ [.ref l]))
  hl : H l = some (.lst ws)
  dA : DenL g U H vs (a.map D.lst)
  dl : DenL g U H ws la
  zA : a.length + 1 ≤ sizeLine
  zl : la.length ≤ sizeLine
theorem Grp.fr {i : Nat} {A l : Addr} {vs ws : List V} {a : List (List D)} {la : List D} (G : Grp g Mt U0 H0 U σ H b ε i A l vs ws a la) (f : Fr H H' g.p) (w : Wd g H' b1) : Grp g Mt U0 H0 U σ H' b1 ε i A l vs ws a la :=
  ⟨G.s.fr f w, G.lA, G.ll, G.ne, G.at_, f _ _ G.hA G.lA.p (fun _ z => by cases z), f _ _ G.hl G.ll.p (fun _ z => by cases z), G.dA.fr G.s.uok f, G.dl.fr G.s.uok f, G.zA, G.zl⟩
theorem Grp.push {i : Nat} {A l l' : Addr} {vs ws : List V} {a : List (List D)} {la : List D} (G : Grp g Mt U0 H0 U σ H b ε i A l vs ws a la) (n : H l' = none) (z : a.length + 1 < sizeLine) :
    Grp g Mt U0 H0 (fun x => (U x ∨ x = l') ∧ x ≠ l) σ (upd (upd H l' (.lst [])) A (.lst ((vs ++ [.ref l]) ++ [.ref l']))) b ε i A l' (vs ++ [.ref l]) [] (a ++ [la]) [] ∧ Ev U H (fun x => (U x ∨ x = l') ∧ x ≠ l) (upd (upd H l' (.lst [])) A (.lst ((vs ++ [.ref l]) ++ [.ref l']))) := by
  obtain ⟨s1, lo1, e1⟩ := lo_new (vs := []) G.s n
  have nA : l' ≠ A := fun q => by
    rw [q, G.hA] at n
    cases n
  have nl : l' ≠ l := fun q => by
    rw [q, G.hl] at n
    cases n
  have hA1 : upd H l' (.lst []) A = some (.lst (vs ++ [.ref l])) := by rw [upd_ne nA.symm]; exact G.hA
  have hl1 : upd H l' (.lst []) l = some (.lst ws) := by rw [upd_ne nl.symm]; exact G.hl
  obtain ⟨s2, e2⟩ := lo_fz s1 (G.ll.grow (A := l'))
  have lA2 := (G.lA.grow (A := l')).cut G.ne
  have lo2 := lo1.cut nl
  obtain ⟨s3, e3⟩ := lo_mut s2 lA2 hA1 ((vs ++ [.ref l]) ++ [.ref l'])
  have ev := (e1.trans e2).trans e3
  have hl3 : upd (upd H l' (.lst [])) A (.lst ((vs ++ [.ref l]) ++ [.ref l'])) l = some (.lst ws) := by rw [upd_ne G.ne.symm]; exact hl1
  refine ⟨⟨s3, lA2, lo2, nA.symm, G.at_, upd_same, ?_, ?_, .nil, ?_, Nat.zero_le _⟩, ev⟩
  · rw [upd_ne nA]
    exact upd_same
  · rw [List.map_append]
    exact (G.dA.ev ev).append (.cons (.lst hl3 (fun q => q.2 rfl) (by rw [G.dl.length]; exact G.zl) (G.dl.ev ev)) .nil)
  · rw [List.length_append]
    exact z
end
section
variable {W L : Type} {g : Gw} {E : XK} {ε : Env} {tb : TS} {env : W → Env} {envL : L → Env}
end
end Gp
end
section
set_option Elab.async false
set_option linter.all false
set_option maxRecDepth 100000
set_option maxHeartbeats 4000000
namespace Gp
open PySem PySem.Spec PyProof.Rows L2 Gh
section
variable {g : Gw} {U U' : Addr → Prop} {H : Hp} {a : Addr} {vs : List V}
end
section
variable {g : Gw} {U U' : Addr → Prop} {H : Hp}
end
section
variable {g : Gw} {Mt U0 U U' : Addr → Prop} {H0 H H' H1 H2 : Hp} {b b1 : Nat} {σ : L2.St} {ε ε' : Env} {E : XK} {W L W' : Type}
variable {env : W → Env} {envL : L → Env} {env' : W' → Env} {u ta tb : TS} {te tc t1 t2 : TE} {me : Tr D}
def Lent (g : Gw) (Mt U0 : Addr → Prop) (H0 : Hp) (U : Addr → Prop) (σ : L2.St) (H : Hp) (ε : Env) (i n c : Nat) : Prop :=
  ∃ A vs, σ[i]? = some (some (.ref A)) ∧ Lo g Mt U0 H0 U σ ε A ∧ H A = some (.lst vs) ∧ vs.length = n ∧ ∀ (k : Nat) (v : V), vs[k]? = some v → ∃ l ws, v = .ref l ∧ l ≠ A ∧ Lo g Mt U0 H0 U σ ε l ∧ H l = some (.lst ws) ∧ ws.length + c ≤ sizeLine
theorem Lent.fr {i n c : Nat} (l : Lent g Mt U0 H0 U σ H ε i n c) (f : Fr H H' g.p) : Lent g Mt U0 H0 U σ H' ε i n c := by
  obtain ⟨A, vs, e, lA, hA, hn, ls⟩ := l
  refine ⟨A, vs, e, lA, f _ _ hA lA.p (fun _ z => by cases z), hn, fun k v hv => ?_⟩
  obtain ⟨l, ws, e1, e2, e3, e4, e5⟩ := ls k v hv
  exact ⟨l, ws, e1, e2, e3, f _ _ e4 e3.p (fun _ z => by cases z), e5⟩
end
end Gp
end
section
set_option Elab.async false
set_option linter.all false
set_option maxRecDepth 100000
set_option maxHeartbeats 0
namespace Lw
open PySem PySem.Spec PyProof.Rows L2 Gh Gp
def top (i : Nat) : Stmt := PySem.Challenge.pw_everyhunt_k13_changes_made.main.body.getD i (.Pass ⟨0, 0, 0, 0⟩)
abbrev s_BadChange___init__ : Stmt := inClass (top 5) 0
def d_BadChange___init__ : Df := ⟨md "BadChange" "__init__", "__init__", "BadChange.__init__", s_BadChange___init__, []⟩
abbrev s__law_pen : Stmt := top 32
def d__law_pen : Df := ⟨gd "_law_pen", "_law_pen", "_law_pen", s__law_pen, []⟩
abbrev s__law_draw : Stmt := top 33
def d__law_draw : Df := ⟨gd "_law_draw", "_law_draw", "_law_draw", s__law_draw, []⟩
abbrev s_is_integer : Stmt := top 9
def d_is_integer : Df := ⟨gd "is_integer", "is_integer", "is_integer", s_is_integer, []⟩
abbrev s_is_within : Stmt := top 10
def d_is_within : Df := ⟨gd "is_within", "is_within", "is_within", s_is_within, []⟩
abbrev s_are_told : Stmt := top 25
def d_are_told : Df := ⟨gd "are_told", "are_told", "are_told", s_are_told, []⟩
abbrev s_ascending : Stmt := top 26
def d_ascending : Df := ⟨gd "ascending", "ascending", "ascending", s_ascending, []⟩
abbrev s_Sided___init___at_Change : Stmt := inClass (top 16) 0
def d_Sided___init___at_Change : Df := ⟨md "Sided" "__init__", "__init__", "Sided.__init__", s_Sided___init___at_Change, []⟩
abbrev s_Change___init__ : Stmt := inClass (top 27) 2
def ds_Change___init__ : Gp.Ds := ⟨⟨md "Change" "__init__", "__init__", "Change.__init__", s_Change___init__, [.adr (He.dflAt ("Change", some "__init__") 0), .adr (He.dflAt ("Change", some "__init__") 1), .str "front"]⟩, gd "Change"⟩
abbrev s_Change___eq__ : Stmt := inClass (top 27) 17
def d_Change___eq__ : Df := ⟨md "Change" "__eq__", "__eq__", "Change.__eq__", s_Change___eq__, []⟩
abbrev s_Change___str__ : Stmt := inClass (top 27) 18
def d_Change___str__ : Df := ⟨md "Change" "__str__", "__str__", "Change.__str__", s_Change___str__, []⟩
abbrev s__law_pick : Stmt := top 34
def d__law_pick : Df := ⟨gd "_law_pick", "_law_pick", "_law_pick", s__law_pick, []⟩
abbrev s__law_places : Stmt := top 35
def d__law_places : Df := ⟨gd "_law_places", "_law_places", "_law_places", s__law_places, []⟩
abbrev s__law_part : Stmt := top 36
def d__law_part : Df := ⟨gd "_law_part", "_law_part", "_law_part", s__law_part, []⟩
abbrev s__law_heard : Stmt := top 38
def d__law_heard : Df := ⟨gd "_law_heard", "_law_heard", "_law_heard", s__law_heard, []⟩
abbrev s__law_odd_places : Stmt := top 39
def d__law_odd_places : Df := ⟨gd "_law_odd_places", "_law_odd_places", "_law_odd_places", s__law_odd_places, []⟩
abbrev s__law_refused_right : Stmt := top 40
def d__law_refused_right : Df := ⟨gd "_law_refused_right", "_law_refused_right", "_law_refused_right", s__law_refused_right, []⟩
abbrev s__law_told_right : Stmt := top 41
def d__law_told_right : Df := ⟨gd "_law_told_right", "_law_told_right", "_law_told_right", s__law_told_right, []⟩
abbrev s__law_equal_right : Stmt := top 42
def d__law_equal_right : Df := ⟨gd "_law_equal_right", "_law_equal_right", "_law_equal_right", s__law_equal_right, []⟩
abbrev s_law : Stmt := top 43
def d_law : Df := ⟨gd "law", "law", "law", s_law, []⟩
def fns : List Df := [d_BadChange___init__, d__law_pen, d__law_draw, d_is_integer, d_is_within, d_are_told, d_ascending, d_Sided___init___at_Change, d_Change___eq__, d_Change___str__, d__law_pick, d__law_places, d__law_part, d__law_heard, d__law_odd_places, d__law_refused_right, d__law_told_right, d__law_equal_right, d_law]
def sds : List Gp.Ds := [ds_Change___init__]
def pfile : Str := PySem.Challenge.pw_everyhunt_k13_changes_made.main.file
def exs : List (PySem.W.Frag → Bool) := [fa (.free "ValueError"), fa (.free "abs"), fa (.free "all"), fa (.free "bool"), fa (.free "int"), fa (.free "isinstance"), fa (.free "len"), fa (.free "list"), fa (.free "range"), fa (.free "repr"), fa (.free "set"), fa (.free "sorted"), fa (.free "str"), fa (.free "super"), fa (.free "tuple"), fa (.free "zip"), fa (.glo "_law_pen"), fa (.keep "_law_pen"), fa (.glo "_law_draw"), fa (.keep "_law_draw"), fa (.glo "is_integer"), fa (.keep "is_integer"), fa (.glo "is_within"), fa (.keep "is_within"), fa (.glo "are_told"), fa (.keep "are_told"), fa (.glo "ascending"), fa (.keep "ascending"), fa (.glo "_law_pick"), fa (.keep "_law_pick"),
  fa (.glo "_law_places"), fa (.keep "_law_places"), fa (.glo "_law_part"), fa (.keep "_law_part"), fa (.glo "_law_heard"), fa (.keep "_law_heard"), fa (.glo "_law_odd_places"), fa (.keep "_law_odd_places"), fa (.glo "_law_refused_right"), fa (.keep "_law_refused_right"), fa (.glo "_law_told_right"), fa (.keep "_law_told_right"), fa (.glo "_law_equal_right"), fa (.keep "_law_equal_right"), fa (.glo "BadChange"), fa (.keep "BadChange"), fa (.glo "Sided"), fa (.keep "Sided"), fa (.glo "Change"), fa (.keep "Change"), fa (.glo "HuntError"), fa (.keep "HuntError"), fa (.int "FARTHEST" 15), fa (.int "MOST_TOLD" 8), fa (.noat "BadChange" "part"), errB "BadChange", oexB "BadChange", iniB "BadChange", (fun K => decide (PySem.W.exmOne K (.ref (gd "BadChange" K)) (.ref (gd "HuntError" K)) = some true)), fa (.cls "Sided"),
  insB "Sided", fa (.cls "Change"), insB "Change", fa (.noat "Change" "side"), fa (.noat "Change" "front"), fa (.noat "Change" "back"), fa (.mkr "Change"), fa (.meth "Change" "__eq__"), ownB "Change", fa (.meth "Change" "__str__"), Gp.sysB, Gp.dtB ("Change", some "__init__") 0, Gp.dtB ("Change", some "__init__") 1, fa (.glo "SIDES"), (fun K => He.tupB K "SIDES" [.str "front", .str "back"]), cvB "Change" "FARTHEST" 15, cvB "Change" "MOST" 8, (fun K => He.eqO (PySem.W.nsIn K cStatics "thirdparty.any") (some none)), (fun K => (PySem.W.clsIn K (gd "Change" K)).isSome), supCB "Change" "Change" "__init__" (md "Sided" "__init__"), (fun K => decide (PySem.W.kitOne K (.ref (gd "BadChange" K)) (.ref (gd "BadChange" K)) = some true)), (fun K => decide (PySem.W.kitOne K (.ref (gd "BadChange" K)) (.type "ValueError") = some true)), nfB "Change", neB "Change", (fun K => PySem.W.notFirst K (gd "Change" K) (.ref (gd "Change" K))), fa (.glo "law")]
def loose0 : List Str := ["_wall", "__name__", "HuntError", "BadLength", "BadPlace", "BadChange", "BadText", "GREATEST_LENGTH", "is_integer", "is_within", "is_length", "need_length"]
def loose1 : List Str := ["need_place", "Step", "Sided", "number_in", "Words", "FARTHEST", "MOST_TOLD", "SIDES", "are_told", "ascending", "Change", "places_in"]
def loose2 : List Str := ["side_in", "change_in", "_law_pen", "_law_draw", "_law_pick", "_law_places", "_law_part", "_law_made", "_law_heard", "_law_odd_places", "_law_refused_right", "_law_told_right"]
def loose3 : List Str := ["_law_equal_right"]
def loose : List Str := loose0 ++ loose1 ++ loose2 ++ loose3
abbrev R : PySem.W.OpenRow := PySem.W.OpenLaw.row PySem.Challenge.rw_everyhunt_k13_changes_made
def tfs : List He.Defn := [("_law_refused_right", none)]
def adrs : List Addr := [1, 3, 31, 89, 117, 124, 179, 200, 272, 277, 282, 420, 450, 457, 464, 469, 476, 490, 497, 502, 507, 512, 519, 30, 88, 116, 123, 178, 199, 276, 281, 419, 449, 456, 463, 468, 475, 489, 496, 501, 506, 511, 518, 86, 197, 301, 412, 417, 85, 196, 300, 293, 286, 411, 416, 291, 292, 2]
abbrev hk : PySem.W.Hook := Gp.hookL adrs exs fns tfs sds pfile
def ob (s : PySem.W.SharedT) : Gp.AlS := Gp.obsL adrs exs fns tfs sds pfile (HandSHeadRun.getT s)
theorem run (w : World) : HandSHeadRun.RunEq R (PySem.W.view R.prog [43]) hk ob 20000 loose w := by
  intro os
  kernel_rfl
section
variable {K : PySem.W.Frag} {mg : Str → Option Value} {Tb : List (Addr × Str)} {p c : Addr}
end
end Lw
end
section
set_option Elab.async false
set_option linter.all false
set_option maxRecDepth 100000
namespace Gh
open PySem PySem.Spec PyProof.Rows L2
abbrev FnA (K : PySem.W.Frag) (d : Df) (fd : FuncData) : Prop := FunD K d.name d.qual (defArgs d.st) (defBody d.st) (defScope d.st) (d.dvs K) [] (d.adr K) fd
theorem Df.funD {K : PySem.W.Frag} {d : Df} (e : fnAt K (d.adr K) = d.val) (c : d.ok K = true) : ∃ fd, FnA K d fd := by
  obtain ⟨kp, c2⟩ := He.ba c
  unfold fnAt at e
  cases q : K.lookup (d.adr K) with
  | none =>
    rw [q] at c2
    cases c2
  | some o =>
    obtain ⟨oc, od, dt, osl⟩ := o
    rw [q] at c2 e
    cases dt with
    | func fd =>
      obtain ⟨n1, n2, n3, n4, n5, n6, n7, n8, n9, n10, n11, n12, n13, n14, n15⟩ := fd
      have e2 : (some (n1, n2, n3, n4, n5, n6, n7, n15) : He.FnW) = some (d.name, d.qual, defArgs d.st, .stmts (defBody d.st), defScope d.st, mainGlobals, [], builtinsNs) := e
      simp only [Option.some.injEq, Prod.mk.injEq] at e2
      obtain ⟨h1, h2, h3, h4, h5, h6, h7, h8⟩ := e2
      subst h1 h2 h3 h4 h5 h6 h7 h8
      have c3 : (PySem.W.codeIn K n13 d.qual && (He.dflB K n8 (d.dvs K) && He.kwdB K n9 [])) = true := c2
      obtain ⟨k1, k2⟩ := He.ba c3
      obtain ⟨k3, k4⟩ := He.ba k2
      exact ⟨_, ⟨oc, od, n8, n9, n10, n11, n12, n13, n14, osl, rfl, q, k1, He.dflB_ok k3, He.kwdB_ok k4⟩, kp⟩
    | _ => cases c2
theorem Says.fact {ex : List (PySem.W.Frag → Bool)} {fn : List Df} {K : PySem.W.Frag} (c : Says ex fn K) (i : Nat) {f : PySem.W.Frag → Bool} (h : ex[i]? = some f := by rfl) : f K = true := by
  have c1 := (He.ba (show ((ex.all fun f => f K) && fn.all fun d => d.ok K) = true from congrArg (fun z : Al => z.1) c)).1
  exact List.all_eq_true.mp c1 f (List.mem_of_getElem? h)
theorem Says.def_ {ex : List (PySem.W.Frag → Bool)} {fn : List Df} {K : PySem.W.Frag} (c : Says ex fn K) (i : Nat) {d : Df} (h : fn[i]? = some d := by rfl) : ∃ fd, FnA K d fd := by
  have c2 := (He.ba (show ((ex.all fun f => f K) && fn.all fun d => d.ok K) = true from congrArg (fun z : Al => z.1) c)).2
  have e : fn.map (fun d => fnAt K (d.adr K)) = fn.map Df.val := congrArg (fun z : Al => z.2) c
  have e2 : (fn.map fun d => fnAt K (d.adr K))[i]? = (fn.map Df.val)[i]? := by rw [e]
  rw [List.getElem?_map, List.getElem?_map, h] at e2
  exact Df.funD (Option.some.inj e2) (List.all_eq_true.mp c2 d (List.mem_of_getElem? h))
theorem insB_ok {x : Str} {K : PySem.W.Frag} (h : insB x K = true) : InsT K (gd x K) := by
  obtain ⟨h1, h⟩ := He.ba h
  obtain ⟨h2, h⟩ := He.ba h
  obtain ⟨h3, h⟩ := He.ba h
  obtain ⟨h4, h⟩ := He.ba h
  obtain ⟨h5, h⟩ := He.ba h
  obtain ⟨h6, h7⟩ := He.ba h
  exact ⟨He.eqO_ok h1, He.eqO_ok h2, of_decide_eq_true h3, of_decide_eq_true h4, of_decide_eq_true h5, fun n hn => of_decide_eq_true (List.all_eq_true.mp h6 n hn), fun n hn => of_decide_eq_true (List.all_eq_true.mp h7 n hn)⟩
structure OwnT (K : PySem.W.Frag) (C : Addr) : Prop where
  first : PySem.W.selfFirst K C = true
  nf : PySem.W.notFirst K C (.ref C) = true
  sub : PySem.W.subIn K (.type "int") (.ref C) = some false
theorem ownB_ok {x : Str} {K : PySem.W.Frag} (h : ownB x K = true) : OwnT K (gd x K) := by
  obtain ⟨h1, h⟩ := He.ba h
  obtain ⟨h2, h3⟩ := He.ba h
  exact ⟨h1, h2, of_decide_eq_true h3⟩
theorem pe_gi {X : Cx} {x : Str} {i : Int} {pos : Pos} (h : ∃ t, X.mg x = some (.int i t)) (hg : Gl X x) (hd : (x == ("__debug__" : Str)) = false := by decide) : PE X (.Name x pos) (tC (.int i)) := by
  obtain ⟨t, e⟩ := h
  exact pe_glob hg e ⟨t, rfl⟩ hd
end Gh
end
section
set_option Elab.async false
set_option linter.all false
set_option maxRecDepth 100000
set_option maxHeartbeats 4000000
namespace Gh
open PySem PySem.Spec PyProof.Rows L2
section
variable {P : Program} {w : World} {K : PySem.W.Frag} {mg : Str → Option Value} {base : Heap} {CX : CXT} {j k : Nat} {f : Addr} {fd : FuncData} {ps : List Str} {sp : Sp} {dvs : List V}
theorem fnG_of {x qual : Str} {params : Arguments} {body : List Stmt} {scope : Scope} {kws : List (Str × V)} {N : List Str} (F : FunD K x qual params body scope dvs kws f fd) (S : FnScope N ps scope) (len : ∀ vs H Q E, sp vs H Q E → vs.length = ps.length)
    (hbody : ∀ (cdv : Value) (A : Around) (outer : List Env) (s : Shared) (H : Hp) (vs : List V) (Q : VK) (E : XK), Room k (A.deeper (envOfC qual scope s.heap.objs.size f cdv)) → (A.deeper (envOfC qual scope s.heap.objs.size f cdv)).guards = some [] → sp vs H Q E →
      ∃ t, PSs (cxOf CX P w K mg base N qual scope f cdv A outer s H E) body t ∧ t { nx := fun _ H' => Q .non H', rt := Q } (start N vs) H) : FnG P w K mg base CX (k + 1) f fd ps sp := by
  obtain ⟨oc, od, dV, kV, doc, pm, an, cdv, ct, osl, rfl, lk, hcd, _, _⟩ := F.ex
  refine ⟨len, fun A outer s H args us vs Q E hr hg e0 hb r hsp => ?_⟩
  have hl := len _ _ _ _ hsp
  have KX : K.In s.heap := e0.mod.kin.keeps fun b o e => (e0.bs b o e).1
  have lim : s.heap.NoLimit := e0.mod.nolimit.keeps fun b o e => (e0.bs b o e).1
  have hkind : ∀ y ∈ ps.zip us, scope.names.lookup y.1 = some .local ∨ (scope.names.lookup y.1 = some .cell ∧ ((cellsFrom (s.heap.objs.size + 1) scope.names []).lookup y.1).isSome = true) := fun ⟨n, v⟩ hy => by
    rcases S.par n (List.of_mem_zip hy).1 with q | q
    · exact .inl q
    · exact .inr ⟨q, PySem.W.cellsFrom_some _ _ _ (.inl q)⟩
  refine codeAny_call_function hr.depth (KX _ _ lk) rfl S.co S.gen rfl (PySem.W.codeRec_of KX hcd) (hb _ _ _ _ ?_)
  refine wpAny_newFunctionEnv_cells S.kind hkind fun env he s1 x => ?_
  subst he
  refine ⟨lim.keeps x.toInCall.keep, codeAny_func ?_⟩
  obtain ⟨t, ht, hq⟩ := hbody cdv A outer s H vs Q E (hr.deeper _) hg hsp
  have I : Inv (cxOf CX P w K mg base N qual scope f cdv A outer s H E) [] (start N vs) H s1 := inv_start S hr.hd e0 hl r x
  refine wpAny_mono (ht.run [] s1 (start N vs) H _ I hq) (fun fl s' hs => ?_) fun e s' hs => hs
  cases fl with
  | ret u =>
    obtain ⟨v, σ', H', J, rv, q⟩ := hs
    exact ⟨v, H', J.os, J.bare, J.base, J.hok, rv, q⟩
  | next =>
    obtain ⟨σ', H', J, q⟩ := hs
    exact ⟨V.non, H', J.os, J.bare, J.base, J.hok, rfl, q⟩
  | brk =>
    obtain ⟨_, _, _, q⟩ := hs
    exact False.elim q
  | cont =>
    obtain ⟨_, _, _, q⟩ := hs
    exact False.elim q
end
section
variable {X : Cx} {CX : CXT} {k : Nat} {f g C : Addr} {sp : Sp} {dvs : List V} {E : XK} {x m : Str} {p pos apos : Pos} {e o : Expr} {es : List Expr} {ta tb : TE} {t : TA} {r : List V → Hp → VK → Prop}
@[irreducible] def rMk (C : Addr) (sp : Sp) (dvs : List V) (E : XK) : List V → Hp → VK → Prop := fun vs H Q =>
  ∀ x dx, H x = none → H dx = none → dx ≠ x → sp (.ref x :: (vs ++ dvs)) (upd (upd H dx (.own x)) x (.ins C dx [])) (fun v H2 => v = .non ∧ Q (.ref x) H2) E
theorem guards_make {A : Around} {us : List Value} {kw : List (Str × Value)} (h : A.guards = some []) : (A.under (.builtin "type.__call__" ⟨.ref C :: us, kw⟩)).guards = some [] := by
  show pushGuards (Code.guards (.builtin "type.__call__" ⟨.ref C :: us, kw⟩)) A.guards = some []
  have e : Code.guards (.builtin "type.__call__" ⟨.ref C :: us, kw⟩) = [] := by
    unfold Code.guards
    rw [if_neg (by show ¬ (guardIds.contains "type.__call__" = true); decide)]
  rw [e]
  exact h
theorem Prom.make (M : Mk X.K C f) (F : PromX X CX k f dvs sp) (hr : Room (k + 1) X.A) (hg : X.A.guards = some []) (hx : Passes CX X E) : CallR X (.ref C) (rMk C sp dvs E) := by
  intro pins s σ H vs us Q I r h
  unfold rMk at h
  obtain ⟨fd, ps, ds, G, b, hd⟩ := F
  have hq := h (s.heap.objs.size + 1) s.heap.objs.size (I.hok.fresh (Nat.le_succ _)) (I.hok.fresh (Nat.le_refl _)) (Nat.ne_of_lt (Nat.lt_succ_self _))
  have I2 := Inv.made (C := C) I
  have r2 : Vals (V.ref (s.heap.objs.size + 1) :: (vs ++ dvs)) (Value.ref (s.heap.objs.size + 1) :: (us ++ ds)) := .cons rfl (r.append hd)
  have hl : (Value.ref (s.heap.objs.size + 1) :: us ++ ds).length = ps.length := by
    have e := r2.length
    rw [G.len _ _ _ _ hq] at e
    exact e.symm
  refine wpAny_call (make_map (f := f) I.kIn M.makes M.init (beq_iff_eq.mp M.fn) (codeAny_mono (G.run _ X.stack _ _ ⟨Value.ref (s.heap.objs.size + 1) :: us, []⟩ (Value.ref (s.heap.objs.size + 1) :: (us ++ ds)) _ _ E (hr.make C us []) (guards_make hg)
    (I2.env0.make C us []) (b _ (Value.ref (s.heap.objs.size + 1) :: us) I2.kIn hl) r2 hq) fun r s' hq' => ?_))
  cases r with
  | error e => exact hx pins σ _ _ e s' I2 hq'
  | ok fl =>
    cases fl with
    | ret u =>
      obtain ⟨v, H', I3, rv, ev, q3⟩ := I2.after hq'
      subst ev
      exact ⟨rv, ⟨V.ref (s.heap.objs.size + 1), H', I3, rfl, q3⟩⟩
    | next => exact False.elim hq'
    | brk => exact False.elim hq'
    | cont => exact False.elim hq'
def tCl (r : List V → Hp → VK → Prop) (t : TA) : TE := fun σ H Q => t σ H fun vs H1 => r vs H1 Q
theorem pe_g (R : CallR X (.ref f) r) (hg : Gl X x) (hm : X.mg x = some (.ref f)) (hk : PySem.W.keepIn X.K (.ref f) = true)
    (ha : PA X (e :: es) t) (hdb : (x == ("__debug__" : Str)) = false := by decide) (he : starEach (e :: es) X.env = (false, eval e X.env) :: starEach es X.env := by rfl) (hpl : (backTo pos (starEach es X.env)).any (·.1) = false := by rfl) :
    PE X (.Call (.Name x p) (e :: es) [] pos) (tCl r t) := by
  refine ⟨fun pins s σ H Q I h => ?_⟩
  refine wpAny_Call_Name_kw (ld_glob I hg hm ?_ hdb)
  refine PySem.W.callWith_K (h₀ := X.base) I.ok.mod.kin hk (thn (ha.run pos pins s σ H _ I h) fun us s1 ⟨vs, H1, I1, r, q⟩ => ⟨I1.kIn, ?_⟩) he hpl
  exact R pins s1 σ H1 vs us Q I1 r q
theorem pe_g0 (R : CallR X (.ref f) r) (hg : Gl X x) (hm : X.mg x = some (.ref f)) (hk : PySem.W.keepIn X.K (.ref f) = true) (hdb : (x == ("__debug__" : Str)) = false := by decide) : PE X (.Call (.Name x p) [] [] pos) (tCl r tNil) := by
  refine ⟨fun pins s σ H Q I h => ?_⟩
  refine wpAny_Call_Name_kw (ld_glob I hg hm ?_ hdb)
  exact PySem.W.callWith_K0 I.kIn hk (R pins s σ H [] [] Q I .nil h)
def tMt (C : Addr) (m : Str) (r : List V → Hp → VK → Prop) (ta : TE) (t : TA) : TE := fun σ H Q => ta σ H fun x H1 => ∃ a dx fs, x = .ref a ∧ H1 a = some (.ins C dx fs) ∧ fs.lookup m = none ∧ t σ H1 fun vs H2 => r (x :: vs) H2 Q
def tPr (C : Addr) (sp : Sp) (dvs : List V) (E : XK) (ta : TE) : TE := fun σ H Q => ta σ H fun x H1 => ∃ a dx fs, x = .ref a ∧ H1 a = some (.ins C dx fs) ∧ sp (.ref a :: dvs) H1 Q E
theorem cmp_back {pins : List (Addr × Obj)} {σ : L2.St} {Q : VK} {u : Value} {s' : Shared} (h : EP X pins σ Q u s') : PySem.W.CmpBack (EP X pins σ Q) u s' := by
  obtain ⟨v, H', I', rv, q⟩ := h
  cases v with
  | non => cases (show u = Value.none from rv); exact ⟨.non, H', I', rfl, q⟩
  | bl b => cases (show u = Value.bool b from rv); exact ⟨.bl b, H', I', rfl, q⟩
  | int i => obtain ⟨t, z⟩ := (show ∃ t, u = Value.int i t from rv); subst z; exact ⟨.int i, H', I', ⟨t, rfl⟩, q⟩
  | str i => obtain ⟨t, z⟩ := (show ∃ t, u = Value.str i t from rv); subst z; exact ⟨.str i, H', I', ⟨t, rfl⟩, q⟩
  | byt i => obtain ⟨t, z⟩ := (show ∃ t, u = Value.bytes i t from rv); subst z; exact ⟨.byt i, H', I', ⟨t, rfl⟩, q⟩
  | flt i => obtain ⟨t, z⟩ := (show ∃ t, u = Value.float i t from rv); subst z; exact ⟨.flt i, H', I', ⟨t, rfl⟩, q⟩
  | ref a => cases (show u = Value.ref a from rv); exact ⟨.ref a, H', I', rfl, q⟩
  | ty n => cases (show u = Value.type n from rv); exact ⟨.ty n, H', I', rfl, q⟩
end
end Gh
end
section
set_option Elab.async false
set_option linter.all false
set_option maxRecDepth 100000
set_option maxHeartbeats 4000000
namespace Gh
open PySem PySem.Spec PyProof.Rows L2
theorem Keep.put {H H' : Hp} {p : Addr} {o : HO} (h : Keep H H' p) : Keep H (upd H' p o) p := fun a u e ne => by
  rw [upd_ne ne]
  exact h a u e ne
theorem PenAt.le {H : Hp} {p : Addr} {a b : Nat} (h : PenAt H p b) (k : a ≤ b) : PenAt H p a := by
  obtain ⟨c, ns, i, z, h1, h2, h3, h4, h5, h6⟩ := h
  exact ⟨c, ns, i, z, h1, h2, h3, h4, by omega, h6⟩
theorem dp_ints (K : PySem.W.Frag) (H : Hp) : ∀ ns : List Int, DpAll K H (ns.map V.int) (ns.map PyData.int)
  | [] => .nil
  | n :: r => .cons (.int n) (dp_ints K H r)
theorem eqv_nil (ds : List PyData) : PyData.eqv (.list ds) (.list []) = ds.isEmpty := by
  cases ds <;> rfl
theorem atI_int {ns : List Int} {i : Int} (h0 : 0 ≤ i) (h1 : i < ns.length) : ∃ v, atI (ns.map V.int) i = some (.int v) ∧ v ∈ ns := by
  obtain ⟨j, rfl⟩ : ∃ j : Nat, i = j := ⟨i.toNat, by omega⟩
  have hl : j < ns.length := by omega
  refine ⟨ns[j], atI_nat ?_, List.getElem_mem hl⟩
  rw [List.getElem?_map, List.getElem?_eq_getElem hl]
  rfl
theorem pow_lt {i : Int} (h0 : 0 ≤ i) (h1 : i < 18446744073709551616) : i.natAbs < 2 ^ 64 := by
  have e : (2 : Nat) ^ 64 = 18446744073709551616 := by decide
  rw [e]
  omega
theorem mix_ok {x i a b c : Int} (h0 : 0 ≤ x) (h1 : x < 4294967296) (h2 : 0 ≤ i) (h3 : i ≤ 1000000) (ha : 0 ≤ a ∧ a ≤ 1000000) (hb : 0 ≤ b ∧ b ≤ 1000000) (hc : 0 ≤ c ∧ c ≤ 1000000) : (x * (2 * i + a) + b * i * i + c).natAbs < 2 ^ 64 := by
  have hii : 0 ≤ i * i ∧ i * i ≤ 1000000 * 1000000 := ⟨Int.mul_nonneg h2 h2, Int.mul_le_mul h3 h3 h2 (by decide)⟩
  have hxi : 0 ≤ x * (2 * i + a) ∧ x * (2 * i + a) ≤ 4294967296 * 4000000 := ⟨Int.mul_nonneg h0 (by omega), Int.mul_le_mul (by omega) (by omega) (by omega) (by decide)⟩
  have hbi : 0 ≤ b * (i * i) ∧ b * (i * i) ≤ 1000000 * (1000000 * 1000000) := ⟨Int.mul_nonneg hb.1 hii.1, Int.mul_le_mul hb.2 hii.2 hii.1 (by decide)⟩
  have e : b * i * i = b * (i * i) := Int.mul_assoc _ _ _
  refine pow_lt ?_ ?_ <;> (rw [e]; omega)
theorem mod_lt (x : Int) {m : Int} (h : 0 < m) : 0 ≤ x % m ∧ x % m < m := ⟨Int.emod_nonneg _ (by omega), Int.emod_lt_of_pos _ h⟩
theorem cut_all {xs : List V} {n : Nat} (h : xs.length ≤ n) : cutV xs none (some (n : Int)) = xs := by
  unfold cutV
  rw [HT.sIx_none, HT.sIx_nat, Nat.min_eq_right h, List.drop_zero, Nat.sub_zero]
  exact List.take_length
abbrev rInt1 : List V → Hp → VK → Prop := fun xs H Q => (∃ i, xs = [V.int i] ∧ Q (V.int i) H) ∨ ∃ k, xs = [V.bl k] ∧ Q (V.int (if k = true then 1 else 0)) H
def tCut (t u : TS) : TS := fun D σ H => ∃ M : L2.St → Hp → Prop, t { D with nx := M } σ H ∧ ∀ σ' H', M σ' H' → u D σ' H'
theorem pss_cut {X : Cx} {st : Stmt} {rest : List Stmt} {t u : TS} (h1 : PS X st t) (h2 : PSs X rest u) : PSs X (st :: rest) (tCut t u) := by
  refine ⟨fun pins s σ H D I h => ?_⟩
  obtain ⟨M, hm, hu⟩ := h
  refine wpAny_execs_cons (thn (h1.run pins s σ H { D with nx := M } I hm) fun f s1 q => ?_)
  cases f with
  | next =>
    obtain ⟨σ1, H1, I1, q1⟩ := q
    exact h2.run pins s1 σ1 H1 D I1 (hu σ1 H1 q1)
  | ret v => exact q
  | brk => exact q
  | cont => exact q
end Gh
end
section
set_option Elab.async false
set_option linter.all false
set_option maxRecDepth 100000
set_option maxHeartbeats 4000000
namespace Gh
open PySem PySem.Spec PyProof.Rows L2
theorem fnG0 {P : Program} {w : World} {K : PySem.W.Frag} {mg : Str → Option Value} {base : Heap} {CX : CXT} {k : Nat} {f : Addr} {fd : FuncData} {ps : List Str} {sp : Sp} {dvs : List V} {x qual : Str} {params : Arguments} {body : List Stmt} {scope : Scope} {kws : List (Str × V)} {N : List Str}
    (F : FunD K x qual params body scope dvs kws f fd) (S : FnScope N ps scope) (len : ∀ vs H Q E, sp vs H Q E → vs.length = ps.length)
    (hbody : ∀ (cdv : Value) (A : Around) (outer : List Env) (s : Shared) (H : Hp) (vs : List V) (Q : VK) (E : XK), Room k (A.deeper (envOfC qual scope s.heap.objs.size f cdv)) → (A.deeper (envOfC qual scope s.heap.objs.size f cdv)).guards = some [] → sp vs H Q E →
      ∃ t, PSs (cxOf CX P w K mg base N qual scope f cdv A outer s H E).nox body t ∧ t { nx := fun _ H' => Q .non H', rt := Q } (start N vs) H) : FnG P w K mg base CX (k + 1) f fd ps sp :=
  fnG_of F S len fun cdv A outer s H vs Q E hr hg h => by
    obtain ⟨t, ht, q⟩ := hbody cdv A outer s H vs Q E hr hg h
    exact ⟨t, PSs.nox ht, q⟩
section
variable {X : Cx} {K : PySem.W.Frag}
theorem ix_listK (h : X.K = K) : IxR X (rIxL K) := h ▸ ix_list
end
end Gh
end
section
set_option Elab.async false
set_option linter.all false
set_option maxRecDepth 100000
set_option maxHeartbeats 4000000
namespace Gh
open PySem PySem.Spec PyProof.Rows L2
theorem exk_ok {P : Program} {w : World} {H : Hp} {h : Heap} {a C d : Addr} {o : Obj} {vs : Array Value} (h1 : h.get? a = some o) (h2 : o.cls = .ref C) (h3 : o.dict = some d) (h4 : o.data = .fields vs) : ObjOk P w H h a (exk a C d) :=
  ⟨⟨o, vs, h1, h2, h3, h4⟩, ⟨o, h1⟩, fun _ _ z k => by
    obtain ⟨o, vs, h1, h2, h3, h4⟩ := z
    exact ⟨o, vs, k _ h1, h2, h3, h4⟩⟩
theorem exk_at {P : Program} {w : World} {H : Hp} {h : Heap} {a C d : Addr} (hok : HOk P w H h) (e : H a = some (exk a C d)) : ∃ (o : Obj) (vs : Array Value), h.get? a = some o ∧ o.cls = .ref C ∧ o.dict = some d ∧ o.data = .fields vs :=
  (show ObjOk P w H h a (exk a C d) from hok a _ e).1
theorem exk0_at {P : Program} {w : World} {H : Hp} {h : Heap} {a C : Addr} (hok : HOk P w H h) (e : H a = some (exk0 a C)) : ∃ (o : Obj) (vs : Array Value), h.get? a = some o ∧ o.cls = .ref C ∧ o.dict = none ∧ o.data = .fields vs :=
  (show ObjOk P w H h a (exk0 a C) from hok a _ e).1
structure ErrT (K : PySem.W.Frag) (C : Addr) : Prop where
  hg : PySem.W.findIn K (.ref C) "__getattribute__" = some (some (.builtin "BaseException.__getattribute__"))
  hk : PySem.W.findIn K (.ref C) "__getattr__" = some none
  hs : PySem.W.subIn K (.ref C) (.type "BaseException") = some true
  hd : PySem.W.hasDictIn K C = true
  ha : PySem.W.findIn K (.ref C) "__class__" = some (some (.builtin "object.__class__"))
  hn : PySem.W.specialIn K (.builtin "object.__class__") "__get__" = some (some (.builtin "getset_descriptor.__get__"))
  htk : PySem.W.takesIn K (.builtin "object.__class__") = some true
  hm : PySem.W.mroIn K C (.type "object") = some true
theorem errB_ok {x : Str} {K : PySem.W.Frag} (h : errB x K = true) : ErrT K (gd x K) := by
  obtain ⟨h1, h⟩ := He.ba h
  obtain ⟨h2, h⟩ := He.ba h
  obtain ⟨h3, h⟩ := He.ba h
  obtain ⟨h4, h⟩ := He.ba h
  obtain ⟨h5, h⟩ := He.ba h
  obtain ⟨h6, h⟩ := He.ba h
  obtain ⟨h7, h8⟩ := He.ba h
  exact ⟨He.eqO_ok h1, He.eqO_ok h2, of_decide_eq_true h3, h4, He.eqO_ok h5, He.eqO_ok h6, of_decide_eq_true h7, of_decide_eq_true h8⟩
section
variable {X : Cx} {e : Expr} {te : TE} {pos : Pos} {n : Str}
theorem exk_inst {pins : List (Addr × Obj)} {σ : L2.St} {H : Hp} {s : Shared} {a C d : Addr} {fs : List (Str × V)} (I : Inv X pins σ H s) (h1 : H a = some (exk a C d)) (h2 : H d = some (.xd fs)) :
    ∃ o od mA, PySem.W.InstAt s.heap a o C (some od) ∧ s.heap.Ns1 d mA ∧ (∀ f, RelO (fs.lookup f) (mA f)) ∧ s.heap.get? d = some od := by
  obtain ⟨o, vs, k1, k2, k3, k4⟩ := exk_at I.hok h1
  obtain ⟨mA, hns, hr⟩ := (show ObjOk X.prog X.w H s.heap d (.xd fs) from I.hok d _ h2)
  obtain ⟨od, ho, hl⟩ := lookIn_ns hns
  exact ⟨o, od, mA, ⟨k1, k2, by unfold PySem.W.notCls; rw [k4] <;> rfl, by rw [k3]; exact ho⟩, hns, hr, ho⟩
def tXa (K : PySem.W.Frag) (n : Str) (te : TE) : TE := fun σ H Q => te σ H fun x H1 => ∃ (a C d : Addr) (fs : List (Str × V)) (v : V), x = .ref a ∧ H1 a = some (exk a C d) ∧ ErrT K C ∧ PySem.W.findIn K (.ref C) n = some none ∧ H1 d = some (.xd fs) ∧ fs.lookup n = some v ∧ Q v H1
theorem pe_xa {K : PySem.W.Frag} (hK : X.K = K) (he : PE X e te) (hb : attributeBase e n X.env (eval e X.env) = eval e X.env := by rfl) : PE X (.Attribute e n pos) (tXa K n te) := by
  subst hK
  refine ⟨fun pins s σ H Q I h => ?_⟩
  refine attr_of hb (thn (he.run pins s σ H _ I h) fun u s1 hh => ?_)
  obtain ⟨x, H1, I1, rx, a, C, d, fs, v, ex, ea, T, hno, ed, l, q⟩ := hh
  subst ex
  obtain rfl : u = Value.ref a := rx
  obtain ⟨o, vs, k1, k2, k3, k4⟩ := exk_at I1.hok ea
  obtain ⟨mA, hns, hr⟩ := (show ObjOk X.prog X.w H1 s1.heap d (.xd fs) from I1.hok d _ ed)
  obtain ⟨od, ho, hl⟩ := lookIn_ns hns
  obtain ⟨u, hu, ru⟩ := RelO.some_of (v := v) (o := mA n) (by rw [← l]; exact hr n)
  have J : PySem.W.InstAt s1.heap a o C (some od) := ⟨k1, k2, by unfold PySem.W.notCls; rw [k4] <;> rfl, by rw [k3]; exact ho⟩
  exact HandSPX.exc_get I1.kIn J T.hg T.hk T.hs (PySem.W.findObj_own T.hd hno rfl (by rw [hl, hu])) (handed_of ru) ⟨v, H1, I1.tok _, ru, q⟩
def rIsiZ (K : PySem.W.Frag) : List V → Hp → VK → Prop := fun xs H Q => rIsi K xs H Q ∨ (∃ (a C : Addr) (c : V) (u : Value) (b : Bool), xs = [.ref a, c] ∧ ClsV c u ∧ H a = some (exk0 a C) ∧ ErrT K C ∧ PySem.W.kitOne K (.ref C) u = some b ∧ Q (.bl b) H) ∨ ∃ (a C d : Addr) (fs : List (Str × V)) (c : V) (u : Value) (b : Bool), xs = [.ref a, c] ∧ ClsV c u ∧ H a = some (exk a C d) ∧ H d = some (.xd fs) ∧ ErrT K C ∧ PySem.W.kitOne K (.ref C) u = some b ∧ Q (.bl b) H
theorem call_isiZ {K : PySem.W.Frag} (hK : X.K = K) : CallR X (.builtin "isinstance") (rIsiZ K) := by
  subst hK
  intro pins s σ H xs us Q I r h
  rcases h with h | ⟨a, C, c, u, b, rfl, k, ea, T, e, q⟩ | ⟨a, C, d, fs, c, u, b, rfl, k, ea, ed, T, e, q⟩
  · exact call_isi pins s σ H xs us Q I r h
  · obtain ⟨u1, u2, rfl, r1, r2⟩ := vals2 r
    obtain rfl : u1 = Value.ref a := r1
    have e2 := k.eq r2
    subst e2
    obtain ⟨o, vs, k1, k2, k3, k4⟩ := exk0_at I.hok ea
    have J : PySem.W.InstAt s.heap a o C none := ⟨k1, k2, by unfold PySem.W.notCls; rw [k4] <;> rfl, by rw [k3]; exact True.intro⟩
    have hcl : (PySem.W.clsIn X.K C).isSome = true := by
      obtain ⟨cd, hc, _⟩ := PySem.W.any_some T.hd
      rw [hc]
      rfl
    exact PySem.W.kia_one (PySem.W.kitx_exc hcl T.hg T.hk T.hs T.ha T.hn T.htk T.hm) I.kIn J e (fun z => nomatch z) fun tk => ⟨.bl b, H, I.tok tk, rfl, q⟩
  · obtain ⟨u1, u2, rfl, r1, r2⟩ := vals2 r
    obtain rfl : u1 = Value.ref a := r1
    have e2 := k.eq r2
    subst e2
    obtain ⟨o, od, mA, J, _⟩ := exk_inst I ea ed
    have hcl : (PySem.W.clsIn X.K C).isSome = true := by
      obtain ⟨cd, hc, _⟩ := PySem.W.any_some T.hd
      rw [hc]
      rfl
    exact PySem.W.kia_one (PySem.W.kitx_exc hcl T.hg T.hk T.hs T.ha T.hn T.htk T.hm) I.kIn J e (fun z => nomatch z) fun tk => ⟨.bl b, H, I.tok tk, rfl, q⟩
end
theorem inv_track {X : Cx} {pins : List (Addr × Obj)} {σ : L2.St} {H : Hp} {s : Shared} {a : Addr} {o : HO} (I : Inv X pins σ H s) (hn : H a = none) (n0 : X.s_0.heap.get? a = none) (nL : a ≠ X.env.locals) (nC : ∀ x c, X.env.cells.lookup x = some c → c ≠ a) (nP : ∀ p ∈ X.pn ++ pins, p.1 ≠ a)
    (ok : ObjOk X.prog X.w (upd H a o) s.heap a o) : Inv X pins σ (upd H a o) s := by
  have ne : ∀ {b : Addr} {u : HO}, H b = some u → b ≠ a := fun e => ne_of_none e hn
  refine ⟨I.ok, I.os, I.bare, ⟨I.base.keep, I.base.slot, fun b u e n hx => ?_, I.base.there, fun b xs e => ?_, fun b u v e => ?_, fun b ps e => ?_⟩, I.loc, I.cell, ?_, fun x c e => ?_, fun p hp => ?_, fun b u e => ?_, I.len⟩
  · rw [upd_ne (fun z => by rw [z, n0] at e; cases e)]
    exact I.base.free b u e n hx
  · have z := I.base.tups b xs e
    rw [upd_ne (ne z)]
    exact z
  · have z := I.base.frzs b u v e
    rw [upd_ne (ne z)]
    exact z
  · obtain ⟨more, z⟩ := I.base.tbls b ps e
    exact ⟨more, by rw [upd_ne (ne z)]; exact z⟩
  · rw [upd_ne nL.symm]
    exact I.free
  · rw [upd_ne (nC x c e)]
    exact I.freeC x c e
  · obtain ⟨z1, z2, z3⟩ := I.pin p hp
    exact ⟨z1, by rw [upd_ne (nP p hp)]; exact z2, z3⟩
  · by_cases hb : b = a
    · subst hb
      rw [upd_same] at e
      cases e
      exact ok
    · rw [upd_ne hb] at e
      exact (I.hok b u e).stay (fun _ _ _ q => q) (fun c hc => by rw [upd_ne (ne hc)]; exact hc) (fun c xs hc => by rw [upd_ne (ne hc)]; exact hc)
def wAsK (K : PySem.W.Frag) (c : Value) (i : Nat) (ts : Addr → Value → Option Addr → TS) (Wout : WX) (D : Ends) : WX := fun cls d σ H =>
  ∃ b, PySem.W.exmOne K cls c = some b ∧ (b = true → ∃ C dd, cls = .ref C ∧ d = some dd ∧ ∀ a, H a = none → ts a cls d { nx := fun σ' H' => H' a = none → D.nx (σ'.set i none) (upd H' a (exk a C dd)), rt := D.rt, bk := fun σ' H' => D.bk (σ'.set i none) H', ct := fun σ' H' => D.ct (σ'.set i none) H' } (σ.set i (some (.ref a))) H) ∧
    (b = false → Wout cls d σ H)
section
variable {X : Cx} {x n : Str} {c : Value} {i : Nat} {body suite : List Stmt} {b₀ : Stmt} {np pos pos' : Pos} {tb : WX → TS} {ts : Addr → Value → Option Addr → TS} {Wout : WX}
theorem ps_try_keep (hex : X.ex = []) (hs : X.stack = X.env :: X.outer) (hf : X.env.frame = some X.env.locals) (hN : X.N.Nodup) (hi : X.N[i]? = some n) (hln : X.env.kindOf n = some .local) (hc : Names X x c) (tk : Takes X Wout)
    (hb : ∀ (W : WX) (pn : List (Addr × Obj)) (xe : Value → Shared → Prop), Takes (X.tr pn xe) W → PassesOwn (model X.prog X.w) X.A X.env xe → PSs (X.tr pn xe) body (tb W))
    (hsu : ∀ (a : Addr) (oe : Obj) (cls : Value) (d : Option Addr) (pn : List (Addr × Obj)), Zc cls d oe → (∃ vs, oe.data = .fields vs) → PSs (X.suite a ((a, oe) :: pn)) (b₀ :: suite) (ts a cls d)) :
    PS X (.Try body [.ExceptHandler (some (.Name x np)) (some n) (b₀ :: suite) pos'] [] [] pos) (fun D σ H => tb (wAsK X.K c i ts Wout D) D σ H) := by
  refine ⟨fun pins s σ H D I h => ?_⟩
  have ok := I.ok
  have hfr : X.A.frames = some (X.env :: X.outer) := by rw [ok.frames, hs]
  have hloc : Loc X.env.scope n := .inl hln
  refine wpAny_Try_except ?_
  refine wpAny_mono ((hb (wAsK X.K c i ts Wout D) (X.pn ++ pins) (fun e s₁ => wpAny (model X.prog X.w) X.A (noteFrame e X.env) (fun _ s₂ => wpAny (model X.prog X.w) X.A (setFlight e none) (fun _ s₃ =>
    wpAny (model X.prog X.w) X.A (handleBy e X.env [.ExceptHandler (some (.Name x np)) (some n) (b₀ :: suite) pos']) (SP X pins D) X.xe s₃) X.xe s₂) X.xe s₁) (fun u s' xx => ?_) PassesOwn.looking).run [] s σ H D (I.toTry _) h) (fun f s1 hsp => ?_) (fun e s1 he => he)
  · -- the catch
    obtain ⟨a, B, sI, pins', σ', H', cls, d, rfl, J', nb, up, sky, na, os, ag, b, hb1, hyes, hno⟩ := xx
    have nB : B.get? a = none := by
      rcases sky with z | z | z
      · exact z.2.1
      · exact z.2.1
      · exact z.2.1
    have J : Inv X pins σ' H' sI := J'.ofTry ok
    have sky' : Sky B (X.env :: X.outer) a (Zc cls d) X.env.locals s'.heap := by rw [← hs]; exact sky
    show wpAny (model X.prog X.w) X.A (noteFrame (.ref a) X.env) _ _ _
    refine Sky.land Zc.steady hfr hf sky' fun h3 fl3 up3 => ?_
    have J3 : Inv X pins σ' H' { s' with heap := h3 } := J.landed nb fl3.1 (up.trans up3) os ag
    obtain ⟨oe3, vs3, he3, hz3, hd3⟩ := fl3.there
    have notFr : ∀ {h : Heap} {o : Obj} {vs : Array Value}, h.FunFrames B (X.env :: X.outer) → h.get? a = some o → o.data = .fields vs → a ∉ frs (X.env :: X.outer) := fun {h o vs} ff e dd hm => by
      obtain ⟨_, o', e', hnf⟩ := ff.mem hm
      rw [e] at e'; cases e'
      exact hnf _ dd
    have nfr := notFr fl3.2.2.1 he3 hd3
    have nL : a ≠ X.env.locals := fun z => nfr (List.mem_filterMap.mpr ⟨X.env, List.mem_cons_self, by rw [hf, z]⟩)
    have nF : a ∉ X.fs := fun hm => by
      obtain ⟨e, he, q⟩ := List.mem_filterMap.mp hm
      exact nfr (List.mem_filterMap.mpr ⟨e, List.mem_cons_of_mem _ he, q⟩)
    have nsI : sI.heap.get? a = none := by
      cases q : sI.heap.get? a with
      | none => rfl
      | some o =>
        have z := nb a o q (by rw [hs]; exact nfr)
        rw [nB] at z
        cases z
    have n0 : X.s_0.heap.get? a = none := by
      cases q : X.s_0.heap.get? a with
      | none => rfl
      | some o =>
        obtain ⟨o', z⟩ := J.base.there a o q (by rw [hex]; simp)
        rw [nsI] at z
        cases z
    have nP : ∀ p ∈ X.pn ++ pins, p.1 ≠ a := fun p hp z => by
      have y := (J.pin p hp).1
      rw [z, nsI] at y
      cases y
    have nC : ∀ x c, X.env.cells.lookup x = some c → c ≠ a := fun x c hx z => by
      obtain ⟨v, y⟩ := J.cell x c hx
      obtain ⟨o, y1, _⟩ := y
      rw [z, nsI] at y1
      cases y1
    have S3 := J3.suite he3 hd3 na nL nF
    refine wpAny_handleBy_cons (codeAny_handlers_test ?_) (by intro q; cases q)
    have LT : PySem.W.Looks (model X.prog X.w) h3 (typeOf (.ref a)) cls := fun A Q E s k q => wpAny_typeOf_ref (k _ _ he3) (by rw [hz3.1]; exact q)
    have LM := PySem.W.exm_one (M := model X.prog X.w) (J3.kIn) LT hb1
    have test : ∀ {Q : Value → Shared → Prop} {E : Value → Shared → Prop}, Q c { s' with heap := h3 } → wpAny (model X.prog X.w) (X.A.mark (some (.ref a))) (eval (.Name x np) X.env) Q E { s' with heap := h3 } := fun {Q E} q => by
      obtain ⟨hg, hdbg, hm | ⟨hm, hv, hnn⟩⟩ := hc
      · exact ld_glob (X := X.suite a ((a, oe3) :: (X.pn ++ pins))) S3 hg hm q hdbg
      · exact ld_blt (X := X.suite a ((a, oe3) :: (X.pn ++ pins))) S3 hg hm hv q hnn hdbg
    refine test (LM.here ?_)
    cases b with
    | true =>
      refine codeAny_handlers_suite_as ?_
      obtain ⟨C, dd, ecls, edd, hys⟩ := hyes rfl
      subst ecls
      subst edd
      refine HandSPX.lands_againZ fl3 fun h4 fl4 up4 => ?_
      have J4 : Inv X pins σ' H' { s' with heap := h4 } := J.landed nb fl4.1 ((up.trans up3).trans up4) os ag
      obtain ⟨oe4, vs4, he4, hz4, hd4⟩ := fl4.there
      have S4 := J4.suite he4 hd4 na nL nF
      refine store_ok (X := X.suite a ((a, oe4) :: (X.pn ++ pins))) (v := .ref a) S4 hN hi hloc rfl (fun s5 S5 => ?_) (.inr hln)
      refine wpAny_mono ((hsu a oe4 _ _ (X.pn ++ pins) hz4 ⟨_, hd4⟩).run [] s5 _ H' _ S5 (hys a na)) (fun f s6 hsp => ?_) (fun _ _ z => False.elim z)
      have end_ : ∀ {σ6 : L2.St} {H6 : Hp} {Q : Shared → Prop}, Inv (X.suite a ((a, oe4) :: (X.pn ++ pins))) [] σ6 H6 s6 → (∀ s7, Inv X pins (σ6.set i none) H6 s7 → Q s7) →
          wpAny (model X.prog X.w) X.A (do bindName X.env n .none; unbindBehindTheSuite X.env n pos') (fun _ s7 => Q s7) X.xe s6 := fun {σ6 H6 Q} S6 hq => gone_ok (S6.unsuite ok) hN hi hln hq
      cases f with
      | next =>
        obtain ⟨σ6, H6, S6, q6⟩ := hsp
        obtain ⟨ha6, hn6, _⟩ := S6.pin (a, oe4) (List.mem_append_left _ List.mem_cons_self)
        have J6 : Inv X pins σ6 (upd H6 a (exk a C dd)) s6 := inv_track (S6.unsuite ok) hn6 n0 nL nC nP (exk_ok ha6 hz4.1 hz4.2 hd4)
        exact gone_ok J6 hN hi hln fun s7 J7 => ⟨_, _, J7, q6 hn6⟩
      | brk =>
        obtain ⟨σ6, H6, S6, q6⟩ := hsp
        exact end_ S6 fun s7 J7 => ⟨_, _, J7, q6⟩
      | cont =>
        obtain ⟨σ6, H6, S6, q6⟩ := hsp
        exact end_ S6 fun s7 J7 => ⟨_, _, J7, q6⟩
      | ret u =>
        obtain ⟨v6, σ6, H6, S6, r6, q6⟩ := hsp
        exact end_ S6 fun s7 J7 => ⟨_, _, _, J7, r6, q6⟩
    | false =>
      show wpAny _ X.A (handleBy (.ref a) X.env []) _ _ _
      refine wpAny_handleBy_nil ?_
      obtain ⟨k1, k2, k3, oe, vs, T, oT, ts', he, hz, hd, h1, hr⟩ := id fl3
      unfold PySem.passOn
      refine wpAny_bind (wpAny_field he hd h1 ?_)
      rw [if_neg (show ¬ ((Value.ref T == Value.none) = true) from by simp)]
      have fin : wpAny (model X.prog X.w) X.A (setFlight (.ref a) X.env.frame) (fun _ s4 => wpAny (model X.prog X.w) X.A (throw (.ref a) : Sem Flow) (SP X pins D) X.xe s4) X.xe { s' with heap := h3 } := by
        rw [hf]
        refine HandSPX.setFlight_upZ fl3 fun h4 hh4 up4 => wpAny_throw (tk _ _ ?_)
        exact ⟨a, B, sI, pins, σ', H', cls, d, rfl, J, nb, (up.trans up3).trans up4, .inr (.inr (by rw [hs]; exact hh4)), na, os, ag, hno rfl⟩
      first
        | exact wpAny_bind (wpAny_pure (wpAny_bind fin))
        | exact wpAny_bind fin
  · cases f with
    | next =>
      obtain ⟨σ', H', J', q⟩ := hsp
      exact wpAny_execs_nil ⟨σ', H', J'.ofTry ok, q⟩
    | brk =>
      obtain ⟨σ', H', J', q⟩ := hsp
      exact ⟨σ', H', J'.ofTry ok, q⟩
    | cont =>
      obtain ⟨σ', H', J', q⟩ := hsp
      exact ⟨σ', H', J'.ofTry ok, q⟩
    | ret u =>
      obtain ⟨v, σ', H', J', r, q⟩ := hsp
      exact ⟨v, σ', H', J'.ofTry ok, r, q⟩
end
end Gh
end
section
set_option Elab.async false
set_option linter.all false
set_option maxRecDepth 100000
set_option maxHeartbeats 4000000
namespace Gh
open PySem PySem.Spec PyProof.Rows L2
def asS (g : Addr → Option Obj) (n : Nat) : List Addr := He.asD g n ++ [cStatics]
theorem law_callTsG {P : Program} {w : World} {K : PySem.W.Frag} {mg mb : Str → Option Value} {CX : CXT} {k : Nat} {fa a : Addr} {cs : List (Addr × Addr)} {fd : FuncData} {x : Str} {sp : Sp} {s₁ : Shared} {vs : List Value} {ns : List Int}
    (KX : K.In s₁.heap) (hns : s₁.heap.Ns mainGlobals mg) (hb : s₁.heap.Ns builtinsNs mb) (hbb : ∀ x : Str, x ≠ "__name__" → mb x = bootBuiltins x) (hlim : s₁.heap.NoLimit) (hg : s₁.gens = #[])
    (hT : ∀ p ∈ cs, s₁.heap.get? p.2 = some { cls := .none, data := .fields #[] }) (nT : ∀ p ∈ cs, K.lookup p.2 = none) (C : ∀ p ∈ cs, PySem.W.CodeHd s₁.heap p.1 p.2)
    (hbm : ∃ (bm : Addr) (ob : Obj), mg "__builtins__" = some (.ref bm) ∧ bm ≠ builtinsNs ∧ s₁.heap.get? bm = some ob ∧ ob.cls = .type "module" ∧ ob.dict = some builtinsNs ∧ ob.data = .plain)
    (ha : s₁.heap.get? a = some { cls := .type "list", data := .seq vs.toArray }) (hi : IntsAre vs ns) (hl : ns.length ≤ sizeLine) (hr : Room k callerA)
    (F : ∀ base : Heap, K.In base → base.Ns mainGlobals mg → (∀ p ∈ cs, LamX.TabB base mg p.1 p.2) → FnG P w K mg base CX k fa fd [x] sp) (hbind : ∀ (s : Shared) (u : Value), BindsTo s fd ⟨[u], []⟩ [(x, u)])
    (hsp : ∀ H : Hp, (∀ p ∈ cs, H p.2 = some (.tbl #[])) → SqL K H a (ns.map V.int) → sp [.ref a] H (fun v _ => v = .bl true) fun _ _ _ => False)
    (hCX : ∀ H e s', CX [] H s₁ (fun _ _ _ => False) e s' → False) :
    codeAny (model P w) callerA (.call (.ref fa) ⟨[.ref a], []⟩) (fun r s' => r = .ok (.ret (.bool true)) ∧ OldK s₁.heap s'.heap ∧ s'.os = s₁.os ∧ AllBare s'.gens) s₁ := by
  have rv := vals_ints hi
  have lenV := hi.length
  have isT : ∀ b : Addr, b ∈ cs.map (·.2) → s₁.heap.get? b = some { cls := .none, data := .fields #[] } := fun b hb => by
    obtain ⟨p, hp, e⟩ := List.mem_map.mp hb
    rw [← e]
    exact hT p hp
  have aT : a ∉ cs.map (·.2) := fun z => by
    have q := isT a z
    rw [ha] at q
    have z' : Data.seq vs.toArray _ = Data.fields #[] := congrArg Obj.data (Option.some.inj q)
    cases z'
  have memT : ∀ p ∈ cs, p.2 ∈ cs.map (·.2) := fun p hp => List.mem_map.mpr ⟨p, hp, rfl⟩
  -- from an abstract heap in which nothing but the script and the tables may be tracked
  have core : ∀ H : Hp, (∀ p ∈ cs, H p.2 = some (.tbl #[])) → (∀ b, H b = none ∨ b ∈ cs.map (·.2) ∨ ∃ o xs, H b = some (.frz o (.lst xs))) → SqL K H a (ns.map V.int) → HOk P w H s₁.heap → (∀ b, H b ≠ none → b = a ∨ b ∈ cs.map (·.2)) → (H a ≠ none → K.lookup a = none) →
      codeAny (model P w) callerA (.call (.ref fa) ⟨[.ref a], []⟩) (fun r s' => r = .ok (.ret (.bool true)) ∧ OldK s₁.heap s'.heap ∧ s'.os = s₁.os ∧ AllBare s'.gens) s₁ := by
    intro H hH hO hS hok hA hK
    have base_of : ∀ {b : Addr} {o : Obj}, s₁.heap.get? b = some o → H b = none → (hidT s₁.heap H).get? b = some o := fun e n => hidT_get e n
    have noD : ∀ {b : Addr} {o : Obj}, s₁.heap.get? b = some o → (∀ vs n, o.data ≠ .seq vs n) → o.data ≠ .fields #[] → H b = none := fun {b o} e h1 h2 => by
      cases q : H b with
      | none => rfl
      | some u =>
        rcases hA b (by rw [q]; simp) with e' | e'
        · rw [e', ha] at e
          cases e
          exact (h1 _ _ rfl).elim
        · rw [isT b e'] at e
          cases e
          exact (h2 rfl).elim
    have noA : ∀ {b : Addr} {o : Obj} {es : Array DictEntry} {ep : Nat}, s₁.heap.get? b = some o → o.data = .dict es ep → H b = none := fun {b o es ep} e d => by
      refine noD e (fun vs n z => ?_) fun z => ?_
      · rw [d] at z
        cases z
      · rw [d] at z
        cases z
    have nsK : ∀ {b : Addr} {m : Str → Option Value}, s₁.heap.Ns b m → (hidT s₁.heap H).Ns b m := fun {b m} ⟨o, es, ep, e, d, r⟩ => ⟨o, es, ep, base_of e (noA e d), d, r⟩
    have hKb : K.In (hidT s₁.heap H) := fun b o e => base_of (KX b o e) (by
      cases q : H b with
      | none => rfl
      | some u =>
        rcases hA b (by rw [q]; simp) with e' | e'
        · rw [e'] at e q
          rw [hK (by rw [q]; simp)] at e
          cases e
        · obtain ⟨p, hp, ep⟩ := List.mem_map.mp e'
          rw [← ep, nT p hp] at e
          cases e)
    have hM : L2.Mod K mg (hidT s₁.heap H) := ⟨hKb, nsK hns, ⟨mb, nsK hb, hbb⟩, let ⟨mc, h1, h2⟩ := hlim; ⟨mc, nsK h1, h2⟩⟩
    have TB : ∀ p ∈ cs, LamX.TabB (hidT s₁.heap H) mg p.1 p.2 := fun p hp => by
      have hTp := hT p hp
      refine ⟨?_, ?_, fun z => ?_⟩
      · obtain ⟨o, us, file, tf, flags, tg, inF, text, tt, e1, r1, r2, r3, r4, r5, r6, r7, r8, hne⟩ := C p hp
        refine ⟨o, us, file, tf, flags, tg, inF, text, tt, base_of e1 (noD e1 (fun vs n z => ?_) fun z => ?_), r1, r2, r3, r4, r5, r6, r7, r8, hne⟩
        · rw [r2] at z
          cases z
        · rw [r2] at z
          cases z
          simp at r3
      · obtain ⟨bm, ob, b1, b2, b3, b4, b5, b6⟩ := hbm
        have nG : bm ≠ mainGlobals := fun q => by
          obtain ⟨o, es, ep, e, hd, _⟩ := hns
          rw [q, e] at b3
          cases b3
          rw [hd] at b6
          cases b6
        have nP : bm ≠ p.2 := fun q => by
          rw [q, hTp] at b3
          cases b3
          cases b6
        refine ⟨bm, ob, b1, b2, nG, nP, base_of b3 (noD b3 (fun vs n z => ?_) fun z => ?_), b4, b5, b6⟩
        · rw [b6] at z
          cases z
        · rw [b6] at z
          cases z
      · obtain ⟨o, es, ep, e, hd, _⟩ := hns
        rw [z, hTp] at e
        cases e
        cases hd
    have e0 : Env0 P w K mg (hidT s₁.heap H) callerA [] s₁ H := ⟨rfl, hM, fun b o e => of_hidT e, Nat.le_of_eq (hidT_size _ _), trivial, fun b hb => absurd (show b ∈ ([] : List Addr) from hb) (by simp), hok, .of_eq hg⟩
    refine codeAny_mono ((F _ hKb (nsK hns) TB).run callerA [] s₁ H ⟨[.ref a], []⟩ [.ref a] [.ref a] _ _ hr rfl e0 (hbind s₁ (.ref a)) (.cons rfl .nil) (hsp H hH hS)) fun r s' h => ?_
    cases r with
    | error e => exact (hCX H e s' h).elim
    | ok fl =>
      cases fl with
      | next => exact False.elim h
      | brk => exact False.elim h
      | cont => exact False.elim h
      | ret u =>
        obtain ⟨v, H', os, bare, un, hok', r', q⟩ := h
        have q' : v = .bl true := q
        subst q'
        obtain rfl : u = Value.bool true := r'
        have key : ∀ b o, b ∉ cs.map (·.2) → s₁.heap.get? b = some o → s'.heap.get? b = some o := fun b o nb e => by
          cases q : H b with
          | none => exact un.keep b o e q (by intro z; exact absurd (show b ∈ ([] : List Addr) from z) (by simp)) (by simp)
          | some u =>
            rcases hO b with z | z | ⟨ob, xs, z⟩
            · rw [q] at z; cases z
            · exact absurd z nb
            · have z2 := un.frzs b ob _ z
              obtain ⟨e1, _⟩ := hok b _ z
              obtain ⟨e2, _⟩ := hok' b _ z2
              rw [e] at e1; cases e1
              exact e2
        have grown : ∀ p ∈ cs, ∃ more : Array Value, s'.heap.get? p.2 = some { cls := .none, data := .fields more } := fun p hp => by
          obtain ⟨more, z⟩ := un.tbls p.2 #[] (hH p hp)
          exact ⟨_, hok' p.2 _ z⟩
        refine ⟨rfl, ⟨fun b o e => ?_, fun b o e => ?_⟩, os, bare⟩
        · by_cases hb : b ∈ cs.map (·.2)
          · obtain ⟨p, hp, ep⟩ := List.mem_map.mp hb
            obtain ⟨more, hm⟩ := grown p hp
            rw [← ep] at e ⊢
            rw [hT p hp] at e
            cases e
            exact .inr (.inl ⟨((C p hp).tab (hT p hp)).isCodeTable, rfl, #[], more, rfl, by rw [Array.empty_append]; exact hm⟩)
          · exact .inl (key b o hb e)
        · by_cases hb : b ∈ cs.map (·.2)
          · obtain ⟨p, hp, ep⟩ := List.mem_map.mp hb
            obtain ⟨more, hm⟩ := grown p hp
            rw [← ep]
            exact ⟨_, hm⟩
          · exact ⟨o, key b o hb e⟩
  cases hk : K.lookup a with
  | some o =>
    have e := KX a o hk
    rw [ha] at e
    cases e
    refine core (fun b => if b ∈ cs.map (·.2) then some (.tbl #[]) else none) (fun p hp => if_pos (memT p hp)) (fun b => ?_) (.inr ⟨_, vs.toArray, _, hk, rfl, rfl, rfl, by rw [List.size_toArray, lenV]; exact hl, by simpa using rv⟩) (fun b u z => ?_) (fun b z => ?_) fun z => absurd (show (if a ∈ cs.map (·.2) then some (HO.tbl #[]) else none) = none from if_neg aT) z
    · by_cases hb : b ∈ cs.map (·.2)
      · exact .inr (.inl hb)
      · exact .inl (if_neg hb)
    · by_cases hb : b ∈ cs.map (·.2)
      · have z' := (if_pos hb).symm.trans z
        cases z'
        exact isT b hb
      · have z' := (if_neg hb).symm.trans z
        cases z'
    · by_cases hb : b ∈ cs.map (·.2)
      · exact .inr hb
      · exact absurd (if_neg hb) z
  | none =>
    refine core (fun b => if b = a then some (.frz { cls := .type "list", data := .seq vs.toArray } (.lst (ns.map V.int))) else if b ∈ cs.map (·.2) then some (.tbl #[]) else none) (fun p hp => (if_neg (show ¬ p.2 = a from fun z => aT (by rw [← z]; exact memT p hp))).trans (if_pos (memT p hp))) (fun b => ?_)
      (.inl (.inr ⟨{ cls := .type "list", data := .seq vs.toArray }, if_pos rfl⟩)) (fun b u z => ?_) (fun b z => ?_) fun _ => hk
    · by_cases hb : b = a
      · exact .inr (.inr ⟨_, _, if_pos hb⟩)
      · by_cases hb2 : b ∈ cs.map (·.2)
        · exact .inr (.inl hb2)
        · exact .inl ((if_neg hb).trans (if_neg hb2))
    · by_cases hb : b = a
      · have z' := (if_pos hb).symm.trans z
        cases z'
        rw [hb]
        exact ⟨ha, by rw [List.length_map]; exact hl, vs, _, rv, ha⟩
      · have z1 := (if_neg hb).symm.trans z
        by_cases hb2 : b ∈ cs.map (·.2)
        · have z' := (if_pos hb2).symm.trans z1
          cases z'
          exact isT b hb2
        · have z' := (if_neg hb2).symm.trans z1
          cases z'
    · by_cases hb : b = a
      · exact .inl hb
      · by_cases hb2 : b ∈ cs.map (·.2)
        · exact .inr hb2
        · exact absurd ((if_neg hb).trans (if_neg hb2)) z
theorem walk_ofTsG {l : PySem.W.OpenLaw} {n k : Nat} {q : Program} {loose : List Str} {XP : (Str → Option Value) → Heap → Prop} {YP : World → Heap → Prop} {d : DefRec} {CX : World → CXT} {x : Str}
    (hn : l.most = some n) (hn2 : n ≤ sizeLine) (hdf : d.params.defaults = []) (hr : Room k callerA)
    (F : ∀ (w : World) (mg : Str → Option Value) (fa : Addr) (h : Heap), YP w h → h.Ns mainGlobals mg → mg d.name = some (.ref fa) →
      ∃ (K : PySem.W.Frag) (fd : FuncData) (cs : List (Addr × Addr)) (sp : Sp), K.In h ∧ (∀ p ∈ cs, h.get? p.2 = some { cls := .none, data := .fields #[] }) ∧ (∀ p ∈ cs, K.lookup p.2 = none) ∧ (∀ p ∈ cs, PySem.W.CodeHd h p.1 p.2) ∧
        (∀ (s : Shared) (u : Value), BindsTo s fd ⟨[u], []⟩ [(x, u)]) ∧
        (∀ (H : Hp) (a : Addr) (ns : List Int), ns.length ≤ n → (∀ p ∈ cs, H p.2 = some (.tbl #[])) → SqL K H a (ns.map V.int) → sp [.ref a] H (fun v _ => v = .bl true) fun _ _ _ => False) ∧
        ∀ base : Heap, K.In base → base.Ns mainGlobals mg → (∀ p ∈ cs, LamX.TabB base mg p.1 p.2) → FnG l.prog w K mg base (CX w) k fa fd [x] sp)
    (hCX : ∀ (w : World) (H : Hp) (s : Shared) (e : Value) (s' : Shared), CX w [] H s (fun _ _ _ => False) e s' → False) :
    PySem.W.WalkO q loose XP YP l.row.toRowW d [] (fun f vs => PySem.call f vs) := by
  refine Att.attach_call hn hdf fun w s₀ s₁ mg mb fa o pm cd doc a vs ns G Y ho hd hcd hmg hobj hints hlen hg => ?_
  obtain ⟨K, fd, cs, sp, KX, hT, nT, C, hb, hsp, hF⟩ := F w mg fa _ Y G.T.g hmg
  exact law_callTsG KX G.T.g G.T.b G.T.builtins G.T.nolimit hg hT nT C G.T.bmain hobj hints (Nat.le_trans hlen hn2) hr hF hb (fun H hH hS => hsp H a ns hlen hH hS) fun H e s' => hCX w H s₁ e s'
end Gh
end
section
set_option Elab.async false
set_option linter.all false
set_option maxRecDepth 100000
set_option maxHeartbeats 4000000
namespace Gh
open PySem PySem.Spec PyProof.Rows L2
theorem fnO0 {P : Program} {w : World} {K : PySem.W.Frag} {mg : Str → Option Value} {base : Heap} {CX : CXT} {k : Nat} {f : Addr} {fd : FuncData} {ps : List Str} {sp : Sp} {dvs : List V} {x qual : Str} {params : Arguments} {body : List Stmt} {scope : Scope} {kws : List (Str × V)} {N : List Str}
    (F : FunD K x qual params body scope dvs kws f fd) (S : FnScope N ps scope) (len : ∀ vs H Q E, sp vs H Q E → vs.length = ps.length)
    (hbody : ∀ (cdv : Value) (A : Around) (outer : List Env) (s : Shared) (H : Hp) (vs : List V) (Q : VK) (E : XK), Room k (A.deeper (envOfC qual scope s.heap.objs.size f cdv)) → sp vs H Q E →
      ∃ t, PSs (cxOf CX P w K mg base N qual scope f cdv A outer s H E).nox body t ∧ t { nx := fun _ H' => Q .non H', rt := Q } (start N vs) H) : FnOk P w K mg base CX (k + 1) f fd ps sp :=
  F.ok S len fun cdv A outer s H vs Q E hr h => by
    obtain ⟨t, ht, q⟩ := hbody cdv A outer s H vs Q E hr h
    exact ⟨t, PSs.nox ht, q⟩
section
variable {X : Cx} {CX : CXT} {k : Nat} {f g C : Addr} {sp : Sp} {dvs : List V} {E : XK} {m : Str} {pos : Pos} {o : Expr} {ta : TE}
theorem PromO.make (M : Mk X.K C f) (F : PromOX X CX k f dvs sp) (hr : Room (k + 1) X.A) (hx : Passes CX X E) : CallR X (.ref C) (rMk C sp dvs E) := by
  intro pins s σ H vs us Q I r h
  unfold rMk at h
  obtain ⟨fd, ps, ds, G, b, hd⟩ := F
  exact run_make M G hr b hd hx I r h
theorem pass_on (hs : X.stack = X.env :: X.outer) (hf : X.env.frame = some X.env.locals) (hex : X.ex = []) {E₁ : Value → Shared → Prop} (hx : X.xe = fun e s' => wpAny (model X.prog X.w) X.A (leaving X.env e) (fun _ s'' => L2.CX X.prog X.w X.outer X.H_0 X.s_0 E e s'') E₁ s') : Passes (L2.CX X.prog X.w) X E :=
  passes_call (takes_of hs hf hex hx) fun _ _ _ _ h => h
end
theorem oexB_ok {x : Str} {K : PySem.W.Frag} (h : oexB x K = true) : OexC K (gd x K) := by
  obtain ⟨h1, h⟩ := He.ba h
  obtain ⟨h2, h⟩ := He.ba h
  obtain ⟨h3, h⟩ := He.ba h
  obtain ⟨h4, h5⟩ := He.ba h
  refine ⟨?_, He.eqO_ok h2, of_decide_eq_true h3, of_decide_eq_true h4, h5⟩
  split at h1
  · rename_i c dd nm bs m bm ns qn hd sn sb ab col dl k0 k1 k2 k3 n k5 e
    obtain ⟨z1, h1⟩ := He.ba h1
    obtain ⟨z2, h1⟩ := He.ba h1
    obtain ⟨z3, h1⟩ := He.ba h1
    obtain ⟨z4, h1⟩ := He.ba h1
    obtain ⟨z5, z6⟩ := He.ba h1
    have y1 := of_decide_eq_true z1
    have y2 := of_decide_eq_true z2
    have y6 := of_decide_eq_true z6
    have y5 : dl = false := by simpa using z5
    subst y1 y6 y5 z4
    refine ⟨nm, qn, ns, bs, bm, sn, sb, ab, col, dd, k0, k1, k2, k3, k5, ?_, z3⟩
    rw [e, y2]
  · cases h1
def spErr1 (C : Addr) (f : Str) : Sp := fun vs H Q _ => ∃ (a : Addr) (v : V), vs = [.ref a, v] ∧ H a = some (exo a C none) ∧ ∀ d, H d = none → d ≠ a → Q .non (upd (upd H d (exd d [(f, v)])) a (exo a C (some d)))
theorem mk_err1 {C : Addr} {f : Str} {v : V} {H : Hp} {Q : XK} (h : ∀ d H', L2.Same H H' → H d = none → H' d = some (.xd [(f, v)]) → Q (.ref C) (some d) H') :
    ([v] : List V).length ≤ 1000 ∧ ∀ a, H a = none → spErr1 C f (.ref a :: ([v] ++ [])) (upd H a (exo a C none)) (fun u H2 => u = .non ∧ ∃ (d : Addr) (fs : List (Str × V)), H2 a = some (exo a C (some d)) ∧ H2 d = some (exd d fs) ∧ H d = none ∧ Q (.ref C) (some d) (upd (del H2 a) d (.xd fs))) (fun _ _ _ => False) := by
  refine ⟨by show 1 ≤ 1000; decide, fun a na => ⟨a, v, rfl, upd_same, fun d nd ne => ⟨rfl, d, [(f, v)], upd_same, ?_, ?_, ?_⟩⟩⟩
  · rw [upd_ne ne, upd_same]
  · rw [upd_ne ne] at nd
    exact nd
  · have nd0 : H d = none := by
      rw [upd_ne ne] at nd
      exact nd
    refine h d _ (fun b u e => ?_) nd0 upd_same
    have hb : b ≠ a := ne_of_none e na
    have hd : b ≠ d := ne_of_none e nd0
    rw [upd_ne hd, del_ne hb, upd_ne hb, upd_ne hd, upd_ne hb]
    exact e
end Gh
end
section
set_option Elab.async false
set_option linter.all false
set_option maxRecDepth 100000
set_option maxHeartbeats 4000000
namespace Gh
open PySem PySem.Spec PyProof.Rows L2
@[irreducible] def rShow (K : PySem.W.Frag) : List V → Hp → VK → Prop := fun xs H Q => ∃ v t, xs = [v] ∧ Shw K H v t ∧ Q (.str t) H
theorem rShow_of {K : PySem.W.Frag} {v : V} {t : Str} {H : Hp} {Q : VK} (h : Shw K H v t) (q : Q (.str t) H) : rShow K [v] H Q := by
  unfold rShow
  exact ⟨v, t, rfl, h, q⟩
section
variable {X : Cx} {K : PySem.W.Frag}
theorem call_show (hK : X.K = K) (hu : X.A.units + 102 < cLine) (hg : X.A.guards = some []) : CallR X (.builtin "repr") (rShow K) := by
  subst hK
  intro pins s σ H xs us Q I r h
  unfold rShow at h
  obtain ⟨v, t, rfl, hs, q⟩ := h
  obtain ⟨u, rfl, ru⟩ := vals1 r
  cases hs with
  | non =>
    cases (show u = Value.none from ru)
    exact PySem.P.repr_of_none ⟨.str _, H, I.tok _, ⟨_, rfl⟩, q⟩
  | bl b =>
    cases (show u = Value.bool b from ru)
    exact PySem.P.repr_of_bool ⟨.str _, H, I.tok _, ⟨_, rfl⟩, q⟩
  | int i h =>
    obtain ⟨t, rfl⟩ := ru
    exact PySem.P.repr_of_int h ⟨.str _, H, I.tok _, ⟨_, rfl⟩, q⟩
  | str x h =>
    obtain ⟨t, rfl⟩ := ru
    exact PySem.P.repr_of_str ⟨.str _, H, I.tok _, ⟨_, rfl⟩, q⟩ (hsz := h)
  | dp hd h1 h2 h3 h4 =>
    rename_i a d
    cases (show u = Value.ref a from ru)
    obtain ⟨as, rd⟩ := Dp.reads I d _ _ hd rfl
    exact repr_of_reads' rd h1 (fun z => by rw [h2] at z; cases z) hg (by omega) (fun _ _ e => e) (fun h' u tk k => ⟨.str d.shown, H, I.kept k, ⟨u, rfl⟩, q⟩) h4
variable {CX : CXT} {x : Str} {C fI : Addr} {k : Nat} {sp : Sp} {dvs : List V} {e : Expr} {es : List Expr} {ta : TA} {p pos : Pos}
theorem passF : Passes (L2.CX X.prog X.w) X (fun _ _ _ => False) := fun _ _ _ _ _ _ _ h => by
  obtain ⟨_, _, _, _, _, _, _, _, _, _, _, _, z⟩ := h
  exact z.elim
theorem pmk_po (T : OexC X.K C) (iC : PySem.W.findIn X.K (.ref C) "__init__" = some (some (.ref fI))) (tI : PySem.W.typeIn X.K (.ref fI) = some (.type "function")) (F : PromOX X CX k fI dvs sp) (hr : Room (k + 1) X.A) (hx : Passes CX X (fun _ _ _ => False)) (hm : X.mg x = some (.ref C)) (ha : PA X (e :: es) ta) (hg : Gl X x := by rfl)
    (hdb : (x == ("__debug__" : Str)) = false := by decide) (he : starEach (e :: es) X.env = (false, eval e X.env) :: starEach es X.env := by rfl) (hpl : (backTo pos (starEach es X.env)).any (·.1) = false := by rfl) : PMk X (.Call (.Name x p) (e :: es) [] pos) (tMkO C sp dvs ta) := by
  obtain ⟨fd, ps, ds, G, b, hd⟩ := F
  exact pmk_oex T iC tI G hr b hd hx hg hm ha hdb he hpl
end
structure IniT (K : PySem.W.Frag) (C f : Addr) : Prop where
  iC : PySem.W.findIn K (.ref C) "__init__" = some (some (.ref f))
  tI : PySem.W.typeIn K (.ref f) = some (.type "function")
theorem iniB_ok {x : Str} {K : PySem.W.Frag} (h : iniB x K = true) : IniT K (gd x K) (md x "__init__" K) := by
  obtain ⟨h1, h2⟩ := He.ba h
  exact ⟨He.eqO_ok h1, of_decide_eq_true h2⟩
theorem PromO.raw {P : Program} {w : World} {K : PySem.W.Frag} {mg : Str → Option Value} {base : Heap} {CX : CXT} {k : Nat} {f : Addr} {sp : Sp} (F : PromO P w K mg base CX k f [] sp) : FnR P w K mg base CX k f sp := by
  obtain ⟨fd, ps, ds, G, b, hd⟩ := F
  have z := G.raw b hd
  intro A outer s H us vs Q E hr e0 r hs
  exact z A outer s H us vs Q E hr e0 r (show sp (vs ++ []) H Q E by rw [List.append_nil]; exact hs)
end Gh
end
section
set_option Elab.async false
set_option linter.all false
set_option maxRecDepth 100000
set_option maxHeartbeats 4000000
namespace Gh
open PySem PySem.Spec PyProof.Rows L2
section
variable {prog : Program} {w : World} {A : Around} {E : Value → Shared → Prop} {s : Shared}
end
theorem PI.or {X : Cx} {tg iter : Expr} {w1 w2 : TI} (a : PI X tg iter w1) (b : PI X tg iter w2) : PI X tg iter (fun σ H R => w1 σ H R ∨ w2 σ H R) :=
  ⟨fun pins s σ H R I h => h.elim (a.run pins s σ H R I) (b.run pins s σ H R I)⟩
end Gh
end
section
set_option Elab.async false
set_option linter.all false
set_option maxRecDepth 100000
set_option maxHeartbeats 4000000
namespace Gh
open PySem PySem.Spec PyProof.Rows L2
section
variable {X : Cx} {C f : Addr} {r : List V → Hp → VK → Prop}
@[irreducible] def rSetO (C : Addr) (r : List V → Hp → VK → Prop) : TSet := fun o i v H Q => ∃ a dx fs, o = .ref a ∧ H a = some (.ins C dx fs) ∧ r [o, i, v] H fun _ H' => Q H'
@[irreducible] def rIxO (C : Addr) (sp : Sp) (E : XK) : R2 := fun x y H Q => ∃ a dx fs, x = .ref a ∧ H a = some (.ins C dx fs) ∧ sp [x, y] H Q E
end
end Gh
end
section
set_option Elab.async false
set_option linter.all false
set_option maxRecDepth 100000
set_option maxHeartbeats 4000000
namespace Gh
open PySem PySem.Spec PyProof.Rows L2
theorem codeOf_fn {K : PySem.W.Frag} {x qual : Str} {params : Arguments} {body : List Stmt} {scope : Scope} {dvs : List V} {kws : List (Str × V)} {fd : FuncData} {p : Str × Option Str} (F : FunD K x qual params body scope dvs kws (He.fAd K p) fd) : fd.code = .ref (He.codeOf K p) := by
  obtain ⟨oc, od, dV, kV, doc, pm, an, cdv, ct, osl, rfl, lk, hcd, _, _⟩ := F.ex
  obtain ⟨c, rfl⟩ := He.codeIn_ref hcd
  exact (congrArg Value.ref (He.codeOf_eq lk rfl)).symm
section
variable {K : PySem.W.Frag} {H H' : Hp}
theorem sqL_extN {a : Addr} {xs : List V} (h : SqL K H a xs) (s : LamX.ExtN H H') : SqL K H' a xs := by
  rcases h with (h | ⟨o, h⟩) | h
  · exact .inl (.inl (s _ _ h (fun _ z => by cases z)))
  · exact .inl (.inr ⟨o, s _ _ h (fun _ z => by cases z)⟩)
  · exact .inr h
theorem sqT_extN {a : Addr} {xs : List V} (h : SqT K H a xs) (s : LamX.ExtN H H') : SqT K H' a xs := by
  rcases h with (h | ⟨o, h⟩) | h
  · exact .inl (.inl (s _ _ h (fun _ z => by cases z)))
  · exact .inl (.inr ⟨o, s _ _ h (fun _ z => by cases z)⟩)
  · exact .inr h
mutual
theorem dp_extN (s : LamX.ExtN H H') : ∀ {v : V} {d : PyData}, Dp K H v d → Dp K H' v d
  | _, _, .non => .non
  | _, _, .bl b => .bl b
  | _, _, .int i => .int i
  | _, _, .str x => .str x
  | _, _, .lst h a => .lst (sqL_extN h s) (dpAll_extN s a)
  | _, _, .tup h a => .tup (sqT_extN h s) (dpAll_extN s a)
theorem dpAll_extN (s : LamX.ExtN H H') : ∀ {vs : List V} {ds : List PyData}, DpAll K H vs ds → DpAll K H' vs ds
  | _, _, .nil => .nil
  | _, _, .cons a r => .cons (dp_extN s a) (dpAll_extN s r)
end
theorem Shw.extN {v : V} {t : Str} (h : Shw K H v t) (s : LamX.ExtN H H') : Shw K H' v t := by
  cases h with
  | non => exact .non
  | bl b => exact .bl b
  | int i h => exact .int i h
  | str x h => exact .str x h
  | dp a b c d e => exact .dp (dp_extN s a) b c d e
theorem Kd.extN {v : V} (k : Kd H v) (s : LamX.ExtN H H') : Kd H' v := by
  cases k with
  | non => exact .non
  | bl b => exact .bl b
  | int i => exact .int i
  | str x => exact .str x
  | lst h => exact .lst (s _ _ h (fun _ z => by cases z))
  | tup h => exact .tup (s _ _ h (fun _ z => by cases z))
  | dK h => exact .dK (s _ _ h (fun _ z => by cases z))
theorem PenAt.extN {p : Addr} {b : Nat} (h : PenAt H p b) (s : LamX.ExtN H H') : PenAt H' p b := by
  obtain ⟨c, ns, i, z, h1, h2, r⟩ := h
  exact ⟨c, ns, i, z, s _ _ h1 (fun _ z => by cases z), s _ _ h2 (fun _ z => by cases z), r⟩
end
end Gh
end
section
set_option Elab.async false
set_option linter.all false
set_option maxRecDepth 100000
set_option maxHeartbeats 4000000
namespace Gh
open PySem PySem.Spec PyProof.Rows L2
section
variable {H H' : Hp} {p a l : Addr} {o u : HO}
theorem nw_upd (n : H p = none) : Nw H (upd H p o) p o := ⟨n, same_new n, upd_same⟩
theorem mu_upd : Mu H (upd H p o) p o := ⟨Keep.refl.put, upd_same⟩
theorem same_up (n : L2.Same H H') (h : H a = some u) : H' a = some u := n _ _ h
theorem keep_up (n : Keep H H' p) (e : a ≠ p) (h : H a = some u) : H' a = some u := n _ _ h e
end
section
variable {H H' : Hp} {p c a l : Addr} {o u : HO} {b k : Nat} {xs : List V} {C dx : Addr} {fs : List (Str × V)}
theorem Pen.le (h : Pen H p c b) (q : k ≤ b) : Pen H p c k := by
  obtain ⟨ns, i, z, h1, h2, h3, h4, h5, h6⟩ := h
  exact ⟨ns, i, z, h1, h2, h3, h4, by omega, h6⟩
theorem Pen.nw (n : Nw H H' l o) (h : Pen H p c b) : Pen H' p c b := h.same n.same
theorem Pen.mu (n : Mu H H' l o) (e1 : l ≠ p) (e2 : l ≠ c) (h : Pen H p c b) : Pen H' p c b := by
  obtain ⟨ns, i, z, h1, h2, h3⟩ := h
  exact ⟨ns, i, z, n.up e1.symm h1, n.up e2.symm h2, h3⟩
theorem nw_pen (n : Nw H H' l o) (h : Pen H p c b) : l ≠ p := by
  obtain ⟨ns, i, z, h1, h2, h3⟩ := h
  exact n.ne h1
theorem nw_cell (n : Nw H H' l o) (h : Pen H p c b) : l ≠ c := by
  obtain ⟨ns, i, z, h1, h2, h3⟩ := h
  exact n.ne h2
theorem tup_pen (n : H a = some (.tup xs)) (h : Pen H p c b) : a ≠ p := by
  obtain ⟨ns, i, z, h1, h2, h3⟩ := h
  exact ne_of n h1 (by intro e; cases e)
theorem tup_cell (n : H a = some (.tup xs)) (h : Pen H p c b) : a ≠ c := by
  obtain ⟨ns, i, z, h1, h2, h3⟩ := h
  exact ne_of n h2 (by intro e; cases e)
theorem ins_pen (n : H a = some (.ins C dx fs)) (h : Pen H p c b) : a ≠ p := by
  obtain ⟨ns, i, z, h1, h2, h3⟩ := h
  exact ne_of n h1 (by intro e; cases e)
theorem ins_cell (n : H a = some (.ins C dx fs)) (h : Pen H p c b) : a ≠ c := by
  obtain ⟨ns, i, z, h1, h2, h3⟩ := h
  exact ne_of n h2 (by intro e; cases e)
end
section
variable {H H' : Hp} {a t l : Addr} {o u : HO} {xs ys : List V} {C dx : Addr} {fs : List (Str × V)}
theorem ins_lst (h : H a = some (.ins C dx fs)) (k : H t = some (.lst xs)) : a ≠ t := ne_of h k (by intro e; cases e)
theorem ins_tup (h : H a = some (.ins C dx fs)) (k : H t = some (.tup xs)) : a ≠ t := ne_of h k (by intro e; cases e)
theorem tup_lst (h : H a = some (.tup ys)) (k : H t = some (.lst xs)) : a ≠ t := ne_of h k (by intro e; cases e)
theorem nw_ne (n : Nw H H' l o) (h : H a = some u) : l ≠ a := n.ne h
end
def spDr : Sp := fun vs H Q _ => ∃ (p c : Addr) (b : Nat) (m : Int), vs = [.ref p, .int m] ∧ 0 < m ∧ m.natAbs.log2 < 9000 ∧ Pen H p c (b + 1) ∧
  ∀ (d : Int) (H' : Hp), 0 ≤ d → d < m → Pen H' p c b → Keep H H' p → Q (.int d) H'
def spPn (K : PySem.W.Frag) : Sp := fun vs H Q _ => ∃ (a : Addr) (ns : List Int), vs = [.ref a] ∧ SqL K H a (ns.map V.int) ∧ ns.length ≤ 63 ∧ ∀ (p c : Addr) (H' : Hp), H p = none → Pen H' p c 1000000 → L2.Same H H' → Q (.ref p) H'
section
variable {H : Hp} {E : XK} {Q : VK} {p c l : Addr} {b : Nat} {m : Int} {xs : List V}
theorem log_of (h0 : 0 < m) (h : m < 10 ^ 100) : m.natAbs.log2 < 9000 := by
  have h2 : m.natAbs < 2 ^ 9000 := Nat.lt_of_lt_of_le (show m.natAbs < 10 ^ 100 by omega) (by decide)
  exact (Nat.log2_lt (by omega)).mpr h2
end
@[irreducible] def rLn (K : PySem.W.Frag) : List V → Hp → VK → Prop := fun xs H Q => ∃ x n, xs = [x] ∧ LenV K x H n ∧ Q (.int n) H
@[irreducible] def rListOf (K : PySem.W.Frag) : List V → Hp → VK → Prop := fun xs H Q => ∃ p ys, xs = [.ref p] ∧ (SqL K H p ys ∨ SqT K H p ys) ∧ ∀ l, H l = none → Q (.ref l) (upd H l (.lst ys))
@[irreducible] def rTupOf (K : PySem.W.Frag) : List V → Hp → VK → Prop := fun xs H Q => ∃ p ys, xs = [.ref p] ∧ ((SqL K H p ys ∧ ∀ l, H l = none → Q (.ref l) (upd H l (.tup ys))) ∨ (SqT K H p ys ∧ Q (.ref p) H))
@[irreducible] def rInt : List V → Hp → VK → Prop := rInt1
@[irreducible] def rAbs : List V → Hp → VK → Prop := fun xs H Q => ∃ i, xs = [.int i] ∧ Q (.int (if i < 0 then -i else i)) H
@[irreducible] def rStrI : List V → Hp → VK → Prop := fun xs H Q => ∃ i, xs = [.int i] ∧ i.natAbs.log2 < 1920 ∧ Q (.str (toString i)) H
@[irreducible] def rIsN : R2 := fun x y H Q => y = .non ∧ Q (.bl (decide (x = .non))) H
@[irreducible] def rNotN : R2 := fun x y H Q => y = .non ∧ Q (.bl (!decide (x = .non))) H
section
variable {X : Cx} {K : PySem.W.Frag}
theorem cr_len (h : X.K = K) : CallR X (.builtin "len") (rLn K) := by unfold rLn; exact h ▸ call_len
theorem cr_listOf (h : X.K = K) : CallR X (.type "list") (rListOf K) := by unfold rListOf; exact h ▸ call_list_of
theorem cr_tupOf (h : X.K = K) : CallR X (.type "tuple") (rTupOf K) := by unfold rTupOf; exact h ▸ call_tuple_of
theorem cr_int : CallR X (.type "int") rInt := by unfold rInt; exact call_int1
theorem cr_abs : CallR X (.builtin "abs") rAbs := by unfold rAbs; exact call_abs
theorem cr_strI : CallR X (.type "str") rStrI := by unfold rStrI; exact call_str_int
theorem or_isN : OpR X (compareOp .Is) rIsN := by unfold rIsN; exact op_isN
theorem sl_listK (h : X.K = K) : SlR X (rSlL K) := h ▸ sl_list
theorem op_neDK (h : X.K = K) (hu : X.A.units + 64 < cLine) : OpR X (compareOp .NotEq) (rNeD K) := h ▸ op_neD hu
theorem call_isiTK {X : Cx} {K : PySem.W.Frag} (h : X.K = K) : CallR X (.builtin "isinstance") (rIsiT K) := h ▸ call_isiT
@[irreducible] def rFld (C : Addr) (f : Str) : V → Hp → VK → Prop := fun x H Q => ∃ a dx fs v, x = .ref a ∧ H a = some (.ins C dx fs) ∧ fs.lookup f = some v ∧ Q v H
theorem pe_f {C : Addr} {e : Expr} {f : Str} {pos : Pos} {ta : TE} (he : PE X e ta) (c : Cls X.K C) (n : NoAttr X.K C f) (hb : attributeBase e f X.env (eval e X.env) = eval e X.env := by rfl) : PE X (.Attribute e f pos) (tUn (rFld C f) ta) := by
  refine ⟨fun pins s σ H Q I h => ?_⟩
  refine attr_of hb (thn (he.run pins s σ H _ I h) fun u s1 ⟨x, H1, I1, rx, q0⟩ => ?_)
  unfold rFld at q0
  obtain ⟨a, dx, fs, v, ex, ea, l, q⟩ := q0
  subst ex
  obtain rfl : u = Value.ref a := rx
  exact getattr_ok I1 ea c n l fun u' s2 I2 ru => ⟨v, H1, I2, ru, q⟩
@[irreducible] def sF (C : Addr) (ta tv : TE) (f : Str) : TS := fun D σ H => tv σ H fun y H1 => ta σ H1 fun x H2 => ∃ a dx fs, x = .ref a ∧ H2 a = some (.ins C dx fs) ∧ fs.length < 1000 ∧ D.nx σ (upd H2 a (.ins C dx (putF f y fs)))
theorem ps_f {C : Addr} {o value : Expr} {f : Str} {pos pos' : Pos} {ta tv : TE} (ha : PE X o ta) (hv : PE X value tv) (c : Cls X.K C) (n : NoAttr X.K C f) (hs : swapsWith value (some (.Attribute o f pos')) pos.line X.env = pure false := by rfl) : PS X (.Assign [.Attribute o f pos'] value pos) (sF C ta tv f) := by
  refine ⟨fun pins s σ H D I h => ?_⟩
  unfold sF at h
  refine plainObj_wpAny_Assign_Attribute (thn (hv.run pins s σ H _ I h) fun u s1 ⟨y, H1, I1, ry, q⟩ => thn (ha.run pins s1 σ H1 _ I1 q) fun ov s2 ⟨x, H2, I2, rx, a, dx, fs, ex, ea, l, q2⟩ => ?_) hs
  subst ex
  obtain rfl : ov = Value.ref a := rx
  exact setattr_ok I2 ea c n l ry fun s3 I3 => ⟨σ, _, I3, q2⟩
@[irreducible] def rConst (C : Addr) (f : Str) (v : V) : V → Hp → VK → Prop := fun x H Q => ∃ a dx fs, x = .ref a ∧ H a = some (.ins C dx fs) ∧ fs.lookup f = none ∧ Q v H
end
theorem len_ok {n : Nat} (h : n ≤ 100000) : n ≤ sizeLine := Nat.le_trans h (by decide)
@[irreducible] def rPowK (r : Int) : R2 := fun x y H Q => ∃ i j, x = .int i ∧ y = .int j ∧ CPow i j ∧ i ^ j.toNat = r ∧ Q (.int r) H
theorem op_powK {X : Cx} (r : Int) : OpR X (binaryOp .Pow) (rPowK r) := by
  intro pins s σ H x y v u Q I rx ry h
  unfold rPowK at h
  obtain ⟨i, j, h1, h2, h3, h4, q⟩ := h
  exact op_pow pins s σ H x y v u Q I rx ry ⟨i, j, h1, h2, h3, by show Q (.int (i ^ j.toNat)) H; rw [h4]; exact q⟩
section
variable {K : PySem.W.Frag} {H : Hp} {σ : L2.St} {Q : VK} {D : Ends} {i j n : Int} {x y v : V} {ta tb tc te tf : TE} {t u : TS} {c d : TT} {k : Bool} {a l p C dx : Addr} {xs ys : List V} {A B : Prop}
theorem st_seq (h : t { D with nx := u D } σ H) : tSeq t u D σ H := h
theorem st_nx (h : D.nx σ H) : tNext D σ H := h
theorem st_asg {g : TG} (h : te σ H fun x H1 => g x σ H1 D.nx) : tAsg te g D σ H := h
theorem st_name {m : Nat} {Q : L2.St → Hp → Prop} (h : Q (σ.set m (some v)) H) : gName m v σ H Q := h
theorem st_drop (h : te σ H fun _ H1 => D.nx σ H1) : tDrop te D σ H := h
theorem st_ret (h : te σ H D.rt) : tRet te D σ H := h
theorem st_retN (h : D.rt .non H) : tRetN D σ H := h
theorem st_ifS (h : c σ H fun b H1 => if b = true then t D σ H1 else u D σ H1) : tIfS c t u D σ H := h
theorem st_brk (h : D.bk σ H) : tBreak D σ H := h
theorem st_cnt (h : D.ct σ H) : tCont D σ H := h
theorem st_par {m m' : Nat} {t : TA} (h : t σ H fun vs H1 => ∃ v w, vs = [v, w] ∧ D.nx ((σ.set m (some v)).set m' (some w)) H1) : tPar m m' t D σ H := h
theorem st_par2 {P : V → V → Prop} (h : P x y) : ∃ v w, [x, y] = [v, w] ∧ P v w := ⟨x, y, rfl, h⟩
theorem st_aug {m : Nat} {ti : TIp} (e : σ[m]? = some (some x)) (h : te σ H fun y H1 => ti x y H1 fun z H2 => D.nx (σ.set m (some z)) H2) : tAug m te ti D σ H := ⟨x, e, h⟩
theorem st_var {m : Nat} (e : σ[m]? = some (some v)) (h : Q v H) : tVar m σ H Q := ⟨v, e, h⟩
theorem st_c (h : Q v H) : tC v σ H Q := h
theorem st_op {r : R2} (h : ta σ H fun x H1 => tb σ H1 fun y H2 => r x y H2 Q) : tOp r ta tb σ H Q := h
theorem st_un {r : V → Hp → VK → Prop} (h : ta σ H fun x H1 => r x H1 Q) : tUn r ta σ H Q := h
theorem st_rI0 {g : Int → Int → V} (h : Q (g i j) H) : rI0 g (.int i) (.int j) H Q := ⟨i, j, rfl, rfl, h⟩
theorem st_rI {g : Int → Int → V} {R : Int → Int → Prop} (hc : R i j) (h : Q (g i j) H) : rI R g (.int i) (.int j) H Q := ⟨i, j, rfl, rfl, hc, h⟩
theorem st_rU {g : Int → V} (h : Q (g i) H) : rU g (.int i) H Q := ⟨i, rfl, h⟩
theorem st_rAdd (h : Q (.int (i + j)) H) : rAdd (.int i) (.int j) H Q := ⟨i, j, rfl, rfl, h⟩
theorem st_rSub (h : Q (.int (i - j)) H) : rSub (.int i) (.int j) H Q := ⟨i, j, rfl, rfl, h⟩
theorem st_eq (e : scal x y = true) (h : Q (.bl (decide (x = y))) H) : rEq x y H Q := ⟨e, h⟩
theorem st_ne (e : scal x y = true) (h : Q (.bl (!decide (x = y))) H) : rNe x y H Q := ⟨e, h⟩
theorem st_isN (h : Q (.bl (decide (x = .non))) H) : rIsN x .non H Q := by unfold rIsN; exact ⟨rfl, h⟩
theorem st_notN (h : Q (.bl (!decide (x = .non))) H) : rNotN x .non H Q := by unfold rNotN; exact ⟨rfl, h⟩
theorem st_test {Q : Bool → Hp → Prop} (h : te σ H fun x H' => ∃ k, x = .bl k ∧ Q k H') : tTest te σ H Q := h
theorem st_tB {Q : Bool → Hp → Prop} (h : te σ H fun x H' => ∃ k, x = .bl k ∧ Q k H') : tB te σ H Q := h
theorem st_ebl {P : Bool → Prop} (h : P k) : ∃ k', V.bl k = .bl k' ∧ P k' := ⟨k, rfl, h⟩
theorem st_eint {P : Int → Prop} (h : P i) : ∃ k', V.int i = .int k' ∧ P k' := ⟨i, rfl, h⟩
theorem st_and {Q : Bool → Hp → Prop} (h : c σ H fun k H1 => if k = true then d σ H1 Q else Q false H1) : tAnd c d σ H Q := h
theorem st_or {Q : Bool → Hp → Prop} (h : c σ H fun k H1 => if k = true then Q true H1 else d σ H1 Q) : tOr c d σ H Q := h
theorem st_not {Q : Bool → Hp → Prop} (h : c σ H fun k H1 => Q (!k) H1) : tNot c σ H Q := h
theorem st_andV (h : ta σ H fun x H1 => ∃ c, x = .bl c ∧ if c = true then tb σ H1 Q else Q (.bl false) H1) : tAndV ta tb σ H Q := h
theorem st_orV (h : ta σ H fun x H1 => ∃ c, x = .bl c ∧ if c = true then Q (.bl true) H1 else tb σ H1 Q) : tOrV ta tb σ H Q := h
theorem st_notV (h : ta σ H fun x H1 => ∃ c, x = .bl c ∧ Q (.bl (!c)) H1) : tNotV ta σ H Q := h
theorem st_ifE (h : c σ H fun k H1 => if k = true then ta σ H1 Q else tb σ H1 Q) : tIf c ta tb σ H Q := h
theorem st_chain {r r' : R2} (h : ta σ H fun x H1 => tb σ H1 fun y H2 => r x y H2 fun z H3 => ∃ k, z = .bl k ∧ if k = true then tc σ H3 fun w H4 => r' y w H4 Q else Q (.bl false) H3) : tChain r r' ta tb tc σ H Q := h
theorem st_if1 (e : k = true) (h : A) : if k = true then A else B := by rw [if_pos e]; exact h
theorem st_if0 (e : k = false) (h : B) : if k = true then A else B := by rw [e, if_neg (by decide)]; exact h
theorem st_nil {Q : List V → Hp → Prop} (h : Q [] H) : tNil σ H Q := h
theorem st_cons {t : TA} {Q : List V → Hp → Prop} (h : ta σ H fun x H1 => t σ H1 fun xs H2 => Q (x :: xs) H2) : tCons ta t σ H Q := h
theorem st_cl {r : List V → Hp → VK → Prop} {t : TA} (h : t σ H fun vs H1 => r vs H1 Q) : tCl r t σ H Q := h
theorem st_cb {r : List V → Hp → VK → Prop} {t : TA} (h : t σ H fun vs H1 => r vs H1 Q) : tCB r t σ H Q := h
theorem st_mt {m : Str} {r : List V → Hp → VK → Prop} {t : TA} (h : ta σ H fun x H1 => ∃ a dx fs, x = .ref a ∧ H1 a = some (.ins C dx fs) ∧ fs.lookup m = none ∧ t σ H1 fun vs H2 => r (x :: vs) H2 Q) : tMt C m r ta t σ H Q := h
theorem st_emt {m : Str} {fs : List (Str × V)} {P : Prop} (h : H a = some (.ins C dx fs)) (e : fs.lookup m = none) (q : P) : ∃ a' dx fs, V.ref a = .ref a' ∧ H a' = some (.ins C dx fs) ∧ fs.lookup m = none ∧ P := ⟨a, dx, fs, rfl, h, e, q⟩
theorem st_pr {sp : Sp} {dvs : List V} {E : XK} (h : ta σ H fun x H1 => ∃ a dx fs, x = .ref a ∧ H1 a = some (.ins C dx fs) ∧ sp (.ref a :: dvs) H1 Q E) : tPr C sp dvs E ta σ H Q := h
theorem st_epr {fs : List (Str × V)} {sp : Sp} {dvs : List V} {E : XK} (h : H a = some (.ins C dx fs)) (q : rSp sp dvs E [.ref a] H Q) : ∃ a' dx fs, V.ref a = .ref a' ∧ H a' = some (.ins C dx fs) ∧ sp (.ref a' :: dvs) H Q E := ⟨a, dx, fs, rfl, h, q⟩
theorem st_fld {f : Str} {fs : List (Str × V)} (h : H a = some (.ins C dx fs)) (e : fs.lookup f = some v) (q : Q v H) : rFld C f (.ref a) H Q := by unfold rFld; exact ⟨a, dx, fs, v, rfl, h, e, q⟩
theorem st_const {f : Str} {fs : List (Str × V)} (h : H a = some (.ins C dx fs)) (e : fs.lookup f = none) (q : Q v H) : rConst C f v (.ref a) H Q := by unfold rConst; exact ⟨a, dx, fs, rfl, h, e, q⟩
def rSetF (C : Addr) (f : Str) (y x : V) (H : Hp) (P : Hp → Prop) : Prop := ∃ a dx fs, x = .ref a ∧ H a = some (.ins C dx fs) ∧ fs.length < 1000 ∧ P (upd H a (.ins C dx (putF f y fs)))
theorem st_sF {f : Str} (h : te σ H fun y H1 => ta σ H1 fun x H2 => rSetF C f y x H2 fun H3 => D.nx σ H3) : sF C ta te f D σ H := by unfold sF; exact h
theorem st_setF {f : Str} {fs : List (Str × V)} {P : Hp → Prop} (h : H a = some (.ins C dx fs)) (e : fs.length < 1000) (q : ∀ H', Mu H H' a (.ins C dx (putF f y fs)) → P H') : rSetF C f y (.ref a) H P := ⟨a, dx, fs, rfl, h, e, q _ mu_upd⟩
theorem st_powK {r : Int} (h1 : CPow i j) (h2 : i ^ j.toNat = r) (q : Q (.int r) H) : rPowK r (.int i) (.int j) H Q := by unfold rPowK; exact ⟨i, j, rfl, rfl, h1, h2, q⟩
def rNewL (xs : List V) (H : Hp) (Q : VK) : Prop := xs.length ≤ sizeLine ∧ ∀ p, H p = none → Q (.ref p) (upd H p (.lst xs))
def rNewT (xs : List V) (H : Hp) (Q : VK) : Prop := xs.length ≤ sizeLine ∧ ∀ p, H p = none → Q (.ref p) (upd H p (.tup xs))
theorem st_lst {t : TA} (h : t σ H fun xs H1 => rNewL xs H1 Q) : tLst t σ H Q := h
theorem st_tup {t : TA} (h : t σ H fun xs H1 => rNewT xs H1 Q) : tTup t σ H Q := h
theorem st_newL (e : xs.length ≤ sizeLine) (h : ∀ p H', Nw H H' p (.lst xs) → Q (.ref p) H') : rNewL xs H Q := ⟨e, fun p np => h p _ (nw_upd np)⟩
theorem st_newT (e : xs.length ≤ sizeLine) (h : ∀ p H', Nw H H' p (.tup xs) → Q (.ref p) H') : rNewT xs H Q := ⟨e, fun p np => h p _ (nw_upd np)⟩
theorem new_of {o : HO} (h : ∀ p H', Nw H H' p o → Q (.ref p) H') : ∀ p, H p = none → Q (.ref p) (upd H p o) := fun p np => h p _ (nw_upd np)
theorem st_ixL (h : H p = some (.lst xs)) (e : atI xs i = some v) (q : Q v H) : rIxL K (.ref p) (.int i) H Q := ⟨p, xs, i, v, rfl, rfl, SqL.of h, e, q⟩
theorem st_ixLs (h : SqL K H p xs) (e : atI xs i = some v) (q : Q v H) : rIxL K (.ref p) (.int i) H Q := ⟨p, xs, i, v, rfl, rfl, h, e, q⟩
theorem st_ixT (h : H p = some (.tup xs)) (e : atI xs i = some v) (q : Q v H) : rIxT K (.ref p) (.int i) H Q := ⟨p, xs, i, v, rfl, rfl, SqT.of h, e, q⟩
theorem st_ixTs (h : SqT K H p xs) (e : atI xs i = some v) (q : Q v H) : rIxT K (.ref p) (.int i) H Q := ⟨p, xs, i, v, rfl, rfl, h, e, q⟩
theorem st_lenL (h : H p = some (.lst xs)) (q : Q (.int xs.length) H) : rLn K [.ref p] H Q := by unfold rLn; exact ⟨_, _, rfl, .inl ⟨xs, SqL.of h, rfl⟩, q⟩
theorem st_lenT (h : H p = some (.tup xs)) (q : Q (.int xs.length) H) : rLn K [.ref p] H Q := by unfold rLn; exact ⟨_, _, rfl, .inr ⟨xs, SqT.of h, rfl⟩, q⟩
theorem st_lenS {z : Str} (e : z.length ≤ sizeLine) (q : Q (.int z.length) H) : rLn K [.str z] H Q := by unfold rLn; exact ⟨_, _, rfl, ⟨e, rfl⟩, q⟩
theorem st_listL (h : H p = some (.lst xs)) (q : ∀ l H', Nw H H' l (.lst xs) → Q (.ref l) H') : rListOf K [.ref p] H Q := by unfold rListOf; exact ⟨p, xs, rfl, .inl (SqL.of h), new_of q⟩
theorem st_listT (h : H p = some (.tup xs)) (q : ∀ l H', Nw H H' l (.lst xs) → Q (.ref l) H') : rListOf K [.ref p] H Q := by unfold rListOf; exact ⟨p, xs, rfl, .inr (SqT.of h), new_of q⟩
theorem st_tupL (h : H p = some (.lst xs)) (q : ∀ l H', Nw H H' l (.tup xs) → Q (.ref l) H') : rTupOf K [.ref p] H Q := by unfold rTupOf; exact ⟨p, xs, rfl, .inl ⟨SqL.of h, new_of q⟩⟩
theorem st_tupT (h : H p = some (.tup xs)) (q : Q (.ref p) H) : rTupOf K [.ref p] H Q := by unfold rTupOf; exact ⟨p, xs, rfl, .inr ⟨SqT.of h, q⟩⟩
theorem st_int (q : Q (.int i) H) : rInt [.int i] H Q := by unfold rInt; exact .inl ⟨i, rfl, q⟩
theorem st_intB (q : Q (.int (if k = true then 1 else 0)) H) : rInt [.bl k] H Q := by unfold rInt; exact .inr ⟨k, rfl, q⟩
theorem st_abs (q : Q (.int (if i < 0 then -i else i)) H) : rAbs [.int i] H Q := by unfold rAbs; exact ⟨i, rfl, q⟩
theorem st_strI (e : i.natAbs.log2 < 1920) (q : Q (.str (toString i)) H) : rStrI [.int i] H Q := by unfold rStrI; exact ⟨i, rfl, e, q⟩
theorem st_sl {r : V → Option Int → Option Int → Hp → VK → Prop} {tl th : TO} (h : te σ H fun x H1 => tl σ H1 fun l H2 => th σ H2 fun u H3 => r x l u H3 Q) : tSl r te tl th σ H Q := h
theorem st_part {Q : Option Int → Hp → Prop} (h : te σ H fun x H1 => ∃ i, x = .int i ∧ Q (some i) H1) : tPart te σ H Q := h
theorem st_nopart {Q : Option Int → Hp → Prop} (h : Q none H) : tNoPart σ H Q := h
theorem st_slL {lo hi : Option Int} (h : H p = some (.lst xs)) (q : ∀ l H', Nw H H' l (.lst (cutV xs lo hi)) → Q (.ref l) H') : rSlL K (.ref p) lo hi H Q := ⟨p, xs, rfl, SqL.of h, new_of q⟩
theorem st_slLs {lo hi : Option Int} (h : SqL K H p xs) (q : ∀ l H', Nw H H' l (.lst (cutV xs lo hi)) → Q (.ref l) H') : rSlL K (.ref p) lo hi H Q := ⟨p, xs, rfl, h, new_of q⟩
theorem st_cat (h : H l = some (.lst xs)) (h' : H p = some (.lst ys)) (e : xs.length + ys.length ≤ sizeLine) (q : ∀ a H', Nw H H' a (.lst (xs ++ ys)) → Q (.ref a) H') : rCat (.ref l) (.ref p) H Q := ⟨l, p, xs, ys, rfl, rfl, h, h', e, new_of q⟩
theorem st_bm {T : String} {r : V → List V → Hp → VK → Prop} {t : TA} (h : te σ H fun x H1 => tyV K T x H1 ∧ t σ H1 fun xs H2 => r x xs H2 Q) : tBM K T r te t σ H Q := h
theorem st_bm0 {T : String} {r : V → List V → Hp → VK → Prop} (h : te σ H fun x H1 => tyV K T x H1 ∧ r x [] H1 Q) : tBM0 K T r te σ H Q := h
theorem st_tyL {P : Prop} (h : H p = some (.lst xs)) (q : P) : tyV K "list" (.ref p) H ∧ P := ⟨.inl ⟨rfl, xs, SqL.of h⟩, q⟩
theorem st_tyS {z : Str} {P : Prop} (q : P) : tyV K "str" (.str z) H ∧ P := ⟨rfl, q⟩
theorem st_gsub {to ti : TE} {ts : TSet} {Q : L2.St → Hp → Prop} (h : to σ H fun o H1 => ti σ H1 fun i H2 => ts o i v H2 fun H3 => Q σ H3) : gSub to ti ts v σ H Q := h
theorem st_setL {m : Nat} {Q : Hp → Prop} (h : H p = some (.lst xs)) (e : ixN xs.length i = some m) (q : ∀ H', Mu H H' p (.lst (xs.set m v)) → Q H') : rSetL (.ref p) (.int i) v H Q := ⟨p, xs, i, m, rfl, rfl, h, e, q _ mu_upd⟩
theorem st_neD {d e : PyData} (h1 : Dp K H x d) (h2 : Dp K H y e) (h3 : SeqAt.shaped d = true) (h4 : SeqAt.shaped e = true) (q : Q (.bl (!PyData.eqv d e)) H) : rNeD K x y H Q := ⟨d, e, h1, h2, h3, h4, q⟩
theorem st_gtup {m : Nat} {g : TGs} {Q : L2.St → Hp → Prop} (h : H a = some (.tup xs)) (e : xs.length = m) (q : g xs σ H Q) : gTup K m g (.ref a) σ H Q := ⟨a, xs, rfl, SqT.of h, e, q⟩
theorem st_gcons {g : TG} {gs : TGs} {Q : L2.St → Hp → Prop} (h : g v σ H fun σ' H' => gs xs σ' H' Q) : gCons g gs (v :: xs) σ H Q := ⟨v, xs, rfl, h⟩
theorem st_gnil {Q : L2.St → Hp → Prop} (h : Q σ H) : gNil [] σ H Q := ⟨rfl, h⟩
theorem st_list {R : It → Hp → Prop} (h : te σ H fun x H1 => ∃ a, x = .ref a ∧ (∃ xs, SqL K H1 a xs) ∧ R (Itl K a) H1) : iList K te σ H R := h
theorem st_elist {P : Addr → Prop} (h : H a = some (.lst xs)) (q : P a) : ∃ a', V.ref a = .ref a' ∧ (∃ xs, SqL K H a' xs) ∧ P a' := ⟨a, rfl, ⟨xs, SqL.of h⟩, q⟩
theorem st_itup {R : It → Hp → Prop} (h : te σ H fun x H1 => ∃ a, x = .ref a ∧ (∃ xs, SqT K H1 a xs) ∧ R (Itt K a) H1) : iTup K te σ H R := h
theorem st_eitup {P : Addr → Prop} (h : H a = some (.tup xs)) (q : P a) : ∃ a', V.ref a = .ref a' ∧ (∃ xs, SqT K H a' xs) ∧ P a' := ⟨a, rfl, ⟨xs, SqT.of h⟩, q⟩
end
end Gh
end
section
set_option Elab.async false
set_option linter.all false
set_option maxRecDepth 100000
set_option maxHeartbeats 4000000
namespace Gh
open PySem PySem.Spec PyProof.Rows L2
section
variable {X : Cx} {a b c d : Expr} {ta tb tc td : TE} {pos : Pos}
def tChain3 (r r' r2 : R2) (ta tb tc td : TE) : TE := fun σ H Q => ta σ H fun x H1 => tb σ H1 fun y H2 => r x y H2 fun z H3 => ∃ k, z = .bl k ∧
  (if k = true then tc σ H3 fun w H4 => r' y w H4 fun z' H5 => ∃ k', z' = .bl k' ∧ (if k' = true then td σ H5 fun v H6 => r2 w v H6 Q else Q (.bl false) H5) else Q (.bl false) H3)
theorem st_chain3 {σ : L2.St} {H : Hp} {Q : VK} {r r' r2 : R2} (h : ta σ H fun x H1 => tb σ H1 fun y H2 => r x y H2 fun z H3 => ∃ k, z = .bl k ∧
  (if k = true then tc σ H3 fun w H4 => r' y w H4 fun z' H5 => ∃ k', z' = .bl k' ∧ (if k' = true then td σ H5 fun v H6 => r2 w v H6 Q else Q (.bl false) H5) else Q (.bl false) H3)) : tChain3 r r' r2 ta tb tc td σ H Q := h
def gSl (to tl th : TE) : TG := fun v σ H Q => to σ H fun x H1 => tl σ H1 fun lo H2 => th σ H2 fun hi H3 => ∃ (l m : Addr) (i j : Int) (xs ys : List V), x = .ref l ∧ v = .ref m ∧ lo = .int i ∧ hi = .int j ∧ H3 l = some (.lst xs) ∧ H3 m = some (.lst ys) ∧ l ≠ m ∧ 0 ≤ i ∧ i ≤ j ∧ j ≤ xs.length ∧ xs.length + ys.length ≤ sizeLine ∧
  Q σ (upd H3 l (.lst (xs.take i.toNat ++ ys ++ xs.drop j.toNat)))
def rSlS (v x lo hi : V) (H : Hp) (P : Hp → Prop) : Prop := ∃ (l m : Addr) (i j : Int) (xs ys : List V), x = .ref l ∧ v = .ref m ∧ lo = .int i ∧ hi = .int j ∧ H l = some (.lst xs) ∧ H m = some (.lst ys) ∧ l ≠ m ∧ 0 ≤ i ∧ i ≤ j ∧ j ≤ xs.length ∧ xs.length + ys.length ≤ sizeLine ∧ P (upd H l (.lst (xs.take i.toNat ++ ys ++ xs.drop j.toNat)))
theorem st_gsl {σ : L2.St} {H : Hp} {v : V} {Q : L2.St → Hp → Prop} {to tl th : TE} (h : to σ H fun x H1 => tl σ H1 fun lo H2 => th σ H2 fun hi H3 => rSlS v x lo hi H3 fun H4 => Q σ H4) : gSl to tl th v σ H Q := h
end
def picks {α : Type} (l : List (Nat ⊕ Nat)) (its ws : List α) : List α := l.filterMap fun z => match z with
  | .inl i => ws[i]?
  | .inr j => its[j]?
theorem Vals.getO {zs : List V} {ws : List Value} (r : Vals zs ws) (i : Nat) : (zs[i]? = none ∧ ws[i]? = none) ∨ ∃ x v, zs[i]? = some x ∧ ws[i]? = some v ∧ RelV x v := by
  induction r generalizing i with
  | nil => exact .inl ⟨rfl, rfl⟩
  | cons h t ih =>
    cases i with
    | zero => exact .inr ⟨_, _, rfl, rfl, h⟩
    | succ i => exact ih i
theorem picks_rel (l : List (Nat ⊕ Nat)) {ds zs : List V} {its ws : List Value} (r1 : Vals ds its) (r2 : Vals zs ws) : Vals (picks l ds zs) (picks l its ws) := by
  induction l with
  | nil => exact .nil
  | cons z r ih =>
    unfold picks at ih ⊢
    rw [List.filterMap_cons, List.filterMap_cons]
    cases z with
    | inl i =>
      rcases Vals.getO r2 i with ⟨e1, e2⟩ | ⟨x, v, e1, e2, rv⟩
      · simp only [e1, e2]
        exact ih
      · simp only [e1, e2]
        exact .cons rv ih
    | inr j =>
      rcases Vals.getO r1 j with ⟨e1, e2⟩ | ⟨x, v, e1, e2, rv⟩
      · simp only [e1, e2]
        exact ih
      · simp only [e1, e2]
        exact .cons rv ih
section
variable {K : PySem.W.Frag} {x qual : Str} {params : Arguments} {body : List Stmt} {scope : Scope} {dvs : List V} {kws : List (Str × V)} {f : Addr} {fd : FuncData} {ps : List Str}
theorem FunD.kbD (F : FunD K x qual params body scope dvs kws f fd) (n : Nat) (ks : List Str) (l : List (Nat ⊕ Nat)) (hd : dvs ≠ [])
    (h : ∀ (T : Addr) (kV doc pm : Value) (an : Option Addr) (cdv ct : Value) (us its ws : List Value), us.length = n → its.length = dvs.length → ws.length = ks.length →
      ∃ k, bindArgs (PySem.W.fnOf x qual params body scope (.ref T) kV doc pm an cdv ct) ⟨us, ks.zip ws⟩ = seqItems? (.ref T) >>= k ∧ k (some its.toArray) = pure (ps.zip (us ++ picks l its ws))) :
    ∃ g, KBn K fd ps n ks g (fun vs zs => vs ++ picks l dvs zs) := by
  obtain ⟨its, b⟩ := FunD.kbindsD F n ks (fun us its ws => us ++ picks l its ws) hd (fun r1 r2 r3 => r1.append (picks_rel l r2 r3)) h
  exact ⟨_, b⟩
end
section
variable {X : Cx} {CX : CXT} {k n : Nat} {f C : Addr} {ks : List Str} {sp : Sp} {E : XK} {x m : Str} {p pos apos : Pos} {e o : Expr} {es : List Expr} {kws : List Keyword} {t tk : TA} {ta : TE} {gV : List V → List V → List V} {r : List V → List V → Hp → VK → Prop}
def rMkK (C : Addr) (n m : Nat) (gV : List V → List V → List V) (sp : Sp) (E : XK) : List V → List V → Hp → VK → Prop := fun vs zs H Q => vs.length = n ∧ zs.length = m ∧ rMk C (fun us H Q E => sp us H Q E) [] E (gV vs zs) H Q
theorem PromK.make (M : Mk X.K C f) (F : PromK X.prog X.w X.K X.mg X.base CX k f (n + 1) ks (fun vs zs => vs ++ gV [] zs) sp) (hr : Room (k + 1) X.A) (hx : Passes CX X E) : CallK X (.ref C) ks (rMkK C n ks.length (fun vs zs => vs ++ gV [] zs) sp E) := by
  intro pins s σ H vs zs us ws Q I rv rz ⟨l1, l2, h⟩
  obtain ⟨fd, ps, g, G, b⟩ := F
  refine run_makeN M G hr b hx I rv rz l1 l2 fun x dx nx ndx ne => ?_
  unfold rMk at h
  have z := h x dx nx ndx ne
  rw [List.append_nil] at z
  exact z
def tClK (r : List V → List V → Hp → VK → Prop) (t tk : TA) : TE := fun σ H Q => t σ H fun vs H1 => tk σ H1 fun zs H2 => r vs zs H2 Q
theorem pe_gk0 (R : CallK X (.ref f) ks r) (hg : Gl X x) (hm : X.mg x = some (.ref f)) (hk : PySem.W.keepIn X.K (.ref f) = true) (hkw : PK X kws tk) (hall : (backToKw pos (keywordEach kws X.env)).all (·.1.isSome) = true := by rfl) (hks : (backToKw pos (keywordEach kws X.env)).filterMap (·.1) = ks := by rfl)
    (hdb : (x == ("__debug__" : Str)) = false := by decide)
    (hpl : ((backTo pos (starEach [] X.env)).any (·.1) || (backToKw pos (keywordEach kws X.env)).any (·.1.isNone)) = false := by rfl) : PE X (.Call (.Name x p) [] kws pos) (tClK r tNil tk) := by
  refine ⟨fun pins s σ H Q I h => ?_⟩
  refine wpAny_Call_Name_kw (ld_glob I hg hm ?_ hdb)
  refine PySem.W.callWith_KW0 (h₀ := X.base) I.ok.mod.kin hk hall (thn (hkw.run pos pins s σ H _ I h) fun ws s2 ⟨zs, H2, I2, rz, q2⟩ => ⟨I2.kIn, ?_⟩) hpl
  rw [hks]
  exact R pins s2 σ H2 [] zs [] ws Q I2 .nil rz q2
def tMtK (C : Addr) (m : Str) (r : List V → List V → Hp → VK → Prop) (ta : TE) (t tk : TA) : TE := fun σ H Q => ta σ H fun x H1 => ∃ a dx fs, x = .ref a ∧ H1 a = some (.ins C dx fs) ∧ fs.lookup m = none ∧ t σ H1 fun vs H2 => tk σ H2 fun zs H3 => r (x :: vs) zs H3 Q
end
section
variable {H : Hp} {σ : L2.St} {Q : VK} {ta : TE} {t tk : TA} {r : List V → List V → Hp → VK → Prop} {C : Addr} {m : Str} {n k : Nat} {gV : List V → List V → List V} {sp : Sp} {E : XK} {vs zs : List V}
theorem st_clK (h : t σ H fun vs H1 => tk σ H1 fun zs H2 => r vs zs H2 Q) : tClK r t tk σ H Q := h
theorem st_mtK (h : ta σ H fun x H1 => ∃ a dx fs, x = .ref a ∧ H1 a = some (.ins C dx fs) ∧ fs.lookup m = none ∧ t σ H1 fun vs H2 => tk σ H2 fun zs H3 => r (x :: vs) zs H3 Q) : tMtK C m r ta t tk σ H Q := h
theorem st_spK (h1 : vs.length = n) (h2 : zs.length = k) (h : rSp sp [] E (gV vs zs) H Q) : rSpK n k gV sp E vs zs H Q := ⟨h1, h2, by
  unfold rSp at h
  rw [List.append_nil] at h
  exact h⟩
end
end Gh
end
section
set_option Elab.async false
set_option linter.all false
set_option maxRecDepth 100000
set_option maxHeartbeats 4000000
namespace Gh
open PySem PySem.Spec PyProof.Rows L2
theorem Fn.le {d : PyData} {n b n' b' : Nat} (h : Fn d n b) (h1 : n ≤ n') (h2 : b ≤ b') : Fn d n' b' := ⟨h.cl, h.sh, h.nd, h.ls, Nat.le_trans h.dp h1, Nat.le_trans h.bk h2⟩
theorem FnAll.each {n b : Nat} : ∀ {ds : List PyData}, (∀ d ∈ ds, Fn d n b) → FnAll ds n ((b + 1) * ds.length)
  | [], _ => FnAll.nil
  | d :: r, h => by
    have z := FnAll.cons (h d List.mem_cons_self) (FnAll.each fun e he => h e (List.mem_cons_of_mem _ he))
    have e : b + 1 + (b + 1) * r.length = (b + 1) * (d :: r).length := by
      rw [List.length_cons, Nat.mul_add, Nat.mul_one, Nat.add_comm]
    rw [e] at z
    exact z
theorem FnAll.ints {ns : List Int} (h : ∀ n ∈ ns, -(10 ^ 100) < n ∧ n < 10 ^ 100) : FnAll (ns.map PyData.int) 0 ns.length := by
  have z := FnAll.each (n := 0) (b := 0) (ds := ns.map PyData.int) fun d hd => by
    obtain ⟨n, hn, rfl⟩ := List.mem_map.mp hd
    exact Fn.int (h n hn).1 (h n hn).2
  rw [List.length_map, Nat.zero_add, Nat.one_mul] at z
  exact z
theorem Fn.shaped {d : PyData} {n b : Nat} (h : Fn d n b) (hn : n ≤ 64) : SeqAt.shaped d = true := by
  unfold SeqAt.shaped
  rw [h.cl, decide_eq_true (Nat.le_trans h.dp hn)] <;> rfl
theorem Fn.eqv {d : PyData} {n b : Nat} (h : Fn d n b) : PyData.eqv d d = true := SeqAt.eqv_refl d h.cl
section
variable {K : PySem.W.Frag} {H : Hp} {a : Addr} {ns : List Int}
end
section
variable {H H' : Hp} {a l p c : Addr} {u : HO} {b : Nat}
theorem none_ne (n : H l = none) (h : H a = some u) : l ≠ a := fun e => by
  rw [← e, n] at h
  cases h
theorem none_pen (n : H l = none) (h : Pen H p c b) : l ≠ p := by
  obtain ⟨ns, i, z, h1, h2, h3⟩ := h
  exact none_ne n h1
theorem none_cell (n : H l = none) (h : Pen H p c b) : l ≠ c := by
  obtain ⟨ns, i, z, h1, h2, h3⟩ := h
  exact none_ne n h2
def Keep2 (H H' : Hp) (p t : Addr) : Prop := ∀ a o, H a = some o → a ≠ p → a ≠ t → H' a = some o
theorem keep2_up {t : Addr} (n : Keep2 H H' p t) (e : a ≠ p) (e' : a ≠ t) (h : H a = some u) : H' a = some u := n _ _ h e e'
theorem st_setO {C dx : Addr} {fs : List (Str × V)} {r : List V → Hp → VK → Prop} {i v : V} {Q : Hp → Prop} (h : H a = some (.ins C dx fs)) (q : r [.ref a, i, v] H fun _ H' => Q H') : rSetO C r (.ref a) i v H Q := by
  unfold rSetO
  exact ⟨a, dx, fs, rfl, h, q⟩
theorem st_ixO {C dx : Addr} {fs : List (Str × V)} {sp : Sp} {E : XK} {y : V} {Q : VK} (h : H a = some (.ins C dx fs)) (q : rSp sp [] E [.ref a, y] H Q) : rIxO C sp E (.ref a) y H Q := by
  unfold rIxO
  exact ⟨a, dx, fs, rfl, h, q⟩
end
section
variable {K : PySem.W.Frag} {H : Hp} {σ : L2.St} {Q : VK} {m : Nat} {tt : TT} {te tl : TE} {vs : List Nat} {t : TA} {a : Addr} {xs : List V}
def rLc (J : It) (m : Nat) (tt : TT) (te : TE) (vs : List Nat) (σ : L2.St) (H : Hp) (Q : VK) : Prop := ∀ D, H D = none → ∃ W : Nat → Nat → Hp → Prop, (∃ k, W 0 k (upd H D (.lst []))) ∧ ∀ i k H, W i k H →
  (J.stop i H ∧ Q (.ref D) H) ∨ (J.go i H ∧ ∃ Nx : Hp → Prop, (∀ H', Nx H' → ∃ k', k' < k ∧ W (i + 1) k' H') ∧ ∀ x H', J.yld i H x H' → gName m x (wipe σ vs) H' fun σ2 H2 => wipe σ2 vs = wipe σ vs ∧ tt σ2 H2 fun b H3 =>
    if b = true then te σ2 H3 fun y H4 => ∃ acc, H4 D = some (.lst acc) ∧ acc.length < sizeLine ∧ Nx (upd H4 D (.lst (acc ++ [y]))) else Nx H3)
theorem st_lcR1 (h : t σ H fun us H1 => ∃ j : Int, us = [.int j] ∧ -(2 ^ 62) ≤ j ∧ j < 2 ^ 62 ∧ rLc (Itr 0 j.toNat) m tt te vs σ H1 Q) : tLc (iRng1 t) (gName m) tt te vs σ H Q := h
theorem st_lcR2 (h : t σ H fun us H1 => ∃ i j : Int, us = [.int i, .int j] ∧ (-(2 ^ 62) ≤ i ∧ i < 2 ^ 62 ∧ -(2 ^ 62) ≤ j ∧ j < 2 ^ 62) ∧ rLc (Itr i (j - i).toNat) m tt te vs σ H1 Q) : tLc (iRng2 t) (gName m) tt te vs σ H Q := h
theorem st_lcL (h : tl σ H fun x H1 => ∃ a, x = .ref a ∧ (∃ xs, SqL K H1 a xs) ∧ rLc (Itl K a) m tt te vs σ H1 Q) : tLc (iList K tl) (gName m) tt te vs σ H Q := h
theorem st_lcT (h : tl σ H fun x H1 => ∃ a, x = .ref a ∧ (∃ xs, SqT K H1 a xs) ∧ rLc (Itt K a) m tt te vs σ H1 Q) : tLc (iTup K tl) (gName m) tt te vs σ H Q := h
theorem st_eR1 {j : Int} {P : Int → Prop} (h0 : -(2 ^ 62) ≤ j) (h1 : j < 2 ^ 62) (h : P j) : ∃ j', [V.int j] = [.int j'] ∧ -(2 ^ 62) ≤ j' ∧ j' < 2 ^ 62 ∧ P j' := ⟨j, rfl, h0, h1, h⟩
theorem st_eR2 {i j : Int} {P : Int → Int → Prop} (h0 : -(2 ^ 62) ≤ i ∧ i < 2 ^ 62 ∧ -(2 ^ 62) ≤ j ∧ j < 2 ^ 62) (h : P i j) : ∃ i' j', [V.int i, V.int j] = [.int i', .int j'] ∧ (-(2 ^ 62) ≤ i' ∧ i' < 2 ^ 62 ∧ -(2 ^ 62) ≤ j' ∧ j' < 2 ^ 62) ∧ P i' j' := ⟨i, j, rfl, h0, h⟩
theorem st_yes {Q : Bool → Hp → Prop} (h : Q true H) : tYes σ H Q := h
end
section
variable {H H' : Hp} {a l p c : Addr} {u : HO} {b : Nat}
theorem nw_pen' {H0 : Hp} {b0 : Nat} {o : HO} (_ : Pen H0 p c b0) (n : Nw H H' l o) (h : Pen H p c b) : l ≠ p := nw_pen n h
theorem nw_cell' {H0 : Hp} {b0 : Nat} {o : HO} (_ : Pen H0 p c b0) (n : Nw H H' l o) (h : Pen H p c b) : l ≠ c := nw_cell n h
theorem none_pen' {H0 : Hp} {b0 : Nat} (_ : Pen H0 p c b0) (n : H l = none) (h : Pen H p c b) : l ≠ p := none_pen n h
theorem none_cell' {H0 : Hp} {b0 : Nat} (_ : Pen H0 p c b0) (n : H l = none) (h : Pen H p c b) : l ≠ c := none_cell n h
theorem tup_pen' {H0 : Hp} {b0 : Nat} {xs : List V} (_ : Pen H0 p c b0) (n : H l = some (.tup xs)) (h : Pen H p c b) : l ≠ p := tup_pen n h
theorem tup_cell' {H0 : Hp} {b0 : Nat} {xs : List V} (_ : Pen H0 p c b0) (n : H l = some (.tup xs)) (h : Pen H p c b) : l ≠ c := tup_cell n h
theorem ins_pen' {H0 : Hp} {b0 : Nat} {C dx : Addr} {fs : List (Str × V)} (_ : Pen H0 p c b0) (n : H l = some (.ins C dx fs)) (h : Pen H p c b) : l ≠ p := ins_pen n h
theorem ins_cell' {H0 : Hp} {b0 : Nat} {C dx : Addr} {fs : List (Str × V)} (_ : Pen H0 p c b0) (n : H l = some (.ins C dx fs)) (h : Pen H p c b) : l ≠ c := ins_cell n h
end
section
variable {K : PySem.W.Frag} {H : Hp} {σ : L2.St} {D : Ends} {m : Nat} {g : TG} {tb : TS} {tl : TE} {t : TA} {a : Addr} {xs : List V}
def rFor (J : It) (g : TG) (tb : TS) (D : Ends) (σ : L2.St) (H : Hp) : Prop := ∃ W : Nat → Nat → L2.St → Hp → Prop, (∃ m, W 0 m σ H) ∧ ∀ i m σ H, W i m σ H →
  (J.stop i H ∧ D.nx σ H) ∨ (J.go i H ∧ ∃ N : L2.St → Hp → Prop, (∀ σ' H', N σ' H' → ∃ m', m' < m ∧ W (i + 1) m' σ' H') ∧ ∀ x H', J.yld i H x H' → g x σ H' fun σ2 H2 => tb { D with nx := N, ct := N, bk := D.nx } σ2 H2)
theorem st_forR1 (h : t σ H fun us H1 => ∃ j : Int, us = [.int j] ∧ -(2 ^ 62) ≤ j ∧ j < 2 ^ 62 ∧ rFor (Itr 0 j.toNat) g tb D σ H1) : tFor (iRng1 t) g tb D σ H := h
theorem st_forR2 (h : t σ H fun us H1 => ∃ i j : Int, us = [.int i, .int j] ∧ (-(2 ^ 62) ≤ i ∧ i < 2 ^ 62 ∧ -(2 ^ 62) ≤ j ∧ j < 2 ^ 62) ∧ rFor (Itr i (j - i).toNat) g tb D σ H1) : tFor (iRng2 t) g tb D σ H := h
theorem st_forL (h : tl σ H fun x H1 => ∃ a, x = .ref a ∧ (∃ xs, SqL K H1 a xs) ∧ rFor (Itl K a) g tb D σ H1) : tFor (iList K tl) g tb D σ H := h
theorem st_forT (h : tl σ H fun x H1 => ∃ a, x = .ref a ∧ (∃ xs, SqT K H1 a xs) ∧ rFor (Itt K a) g tb D σ H1) : tFor (iTup K tl) g tb D σ H := h
theorem st_forE (h : t σ H fun us H1 => ∃ a xs, us = [.ref a] ∧ SqL K H1 a xs ∧ rFor (Ite K a) g tb D σ H1) : tFor (iEnum K t) g tb D σ H := h
theorem st_eE {P : Addr → Prop} (h : H a = some (.lst xs)) (q : P a) : ∃ a' xs, [V.ref a] = [.ref a'] ∧ SqL K H a' xs ∧ P a' := ⟨a, xs, rfl, SqL.of h, q⟩
end
section
end
end Gh
end
section
set_option Elab.async false
set_option linter.all false
set_option maxRecDepth 100000
set_option maxHeartbeats 4000000
namespace Gh
open PySem PySem.Spec PyProof.Rows L2
section
variable {H H' : Hp} {a l p c t : Addr} {o u : HO} {b : Nat} {xs : List V} {T : List (Addr × Str)} {C dx : Addr} {fs : List (Str × V)}
theorem Pen.extN (n : LamX.ExtN H H') (h : Pen H p c b) : Pen H' p c b := by
  obtain ⟨ns, i, z, h1, h2, h3⟩ := h
  exact ⟨ns, i, z, n _ _ h1 (fun _ z => by cases z), n _ _ h2 (fun _ z => by cases z), h3⟩
theorem tabs_keepP (n : Keep H H' p) (pn : Pen H p c b) (h : LamX.Tabs T H) : LamX.Tabs T H' := by
  obtain ⟨ns, i, z, h1, h2, h3⟩ := pn
  exact tabs_keepL n h1 h
theorem tabs_muI (n : Mu H H' l o) (e : H l = some (.ins C dx fs)) (h : LamX.Tabs T H) : LamX.Tabs T H' :=
  tabs_of h (fun a ps q => n.up (ne_of q e (by intro z; cases z)) q) (fun a c q z => n.up (ne_of z e (by intro y; unfold LamX.CodeO at y; cases y)) z)
theorem keep_fr (n : Keep H H' p) : Fr H H' p := fun a o h e _ => n a o h e
theorem ext_fr (n : LamX.ExtN H H') : Fr H H' p := fun a o h _ z => n a o h z
end
section
variable {X : Cx} {H : Hp} {σ : L2.St} {Q : VK} {T : List (Addr × Str)} {TT : (XK → Hp → VK → Prop) → Hp → VK → Prop} {t : XK → TE}
def tAct (f c' : Addr) (q : Str) (tl : Hp → VK → Prop) : TE := fun σ H Q => σ[0]? = some (some (.ref f)) ∧ H c' = some (LamX.CodeO c' q) ∧ tl H Q
theorem takes_len {W : WX} (t : Takes X W) : Takes X (fun c d σ H => σ.length = X.N.length → W c d σ H) := fun u s' ⟨a, B, sI, pins, σ, H, cls, d, e, I, nb, up, sky, na, os, ag, w⟩ =>
  t u s' ⟨a, B, sI, pins, σ, H, cls, d, e, I, nb, up, sky, na, os, ag, w I.len⟩
def tTry (n : Nat) (body : XK → TS) : WX → TS := fun W D σ H => ∃ E : XK, (∀ cls d σ' H', E cls d H' → σ'.length = n → W cls d σ' H') ∧ body E D σ H
theorem try_act {W : WX} {st : List Stmt} {body : XK → TS} (n : Nat) (hn : X.N.length = n) (tk : Takes X W) (h : ∀ E : XK, (∃ W' : WX, Takes X W' ∧ ∀ cls d σ' H', E cls d H' → W' cls d σ' H') → PSs X st (body E)) : PSs X st (tTry n body W) := by
  refine ⟨fun pins s σ H D I h' => ?_⟩
  obtain ⟨E, hW, h1⟩ := h'
  refine (h E ⟨_, takes_len tk, fun cls d σ' H' e l => hW cls d σ' H' e (l.trans hn)⟩).run pins s σ H D I h1
end
end Gh
end
section
set_option Elab.async false
set_option linter.all false
set_option maxRecDepth 100000
set_option maxHeartbeats 4000000
namespace Gh
open PySem PySem.Spec PyProof.Rows L2
section
variable {X : Cx} {CX : CXT} {k : Nat} {C f : Addr} {sp : Sp} {E : XK} {r : List V → Hp → VK → Prop}
theorem promO_in1 {pins : List (Addr × Obj)} {s : Shared} {σ : L2.St} {H : Hp} {vs : List V} {us : List Value} {Q : VK} (F : PromOX X CX k f [] sp) (hr : Room (k + 1) X.A) (hx : Passes CX X E) (I : Inv X pins σ H s) (rv : Vals vs us) (h : sp vs H Q E) :
    wpAny (model X.prog X.w) X.A.in1 (call (.ref f) us) (EP X pins σ Q) X.xe s := by
  refine wpAny_call (codeAny_mono ((PromO.raw F) X.A.in1 X.stack s H us vs Q E hr.in1 I.env0.in1 rv h) fun r s' hq => ?_)
  cases r with
  | error e => exact hx pins σ H s e s' I hq
  | ok fl =>
    cases fl with
    | ret u => exact I.after hq
    | next => exact False.elim hq
    | brk => exact False.elim hq
    | cont => exact False.elim hq
@[irreducible] def rStrO (C : Addr) (sp : Sp) (E : XK) : List V → Hp → VK → Prop := fun xs H Q => ∃ a dx fs, xs = [.ref a] ∧ H a = some (.ins C dx fs) ∧ sp [.ref a] H (fun v H' => ∃ z, v = .str z ∧ Q (.str z) H') E
theorem cr_strO (hm : Meth X.K C "__str__" f) (F : PromOX X CX k f [] sp) (hr : Room (k + 2) X.A) (hx : Passes CX X E) : CallR X (.type "str") (rStrO C sp E) := by
  intro pins s σ H xs us Q I rv h
  unfold rStrO at h
  obtain ⟨a, dx, fs, rfl, ha, q⟩ := h
  obtain ⟨u, rfl, ru⟩ := vals1 rv
  cases (show u = Value.ref a from ru)
  obtain ⟨ox, od, J⟩ := ins_look I ha
  have hu : X.A.in1.in1.units < cLine := (hr.in1.in1).units0
  refine PySem.W.kso_call hu I.kIn J hm.at_ hm.fn ?_
  refine wpAny_call (codeAny_mono ((PromO.raw F) X.A.in1.in1 X.stack s H [.ref a] [.ref a] _ E hr.in1.in1 I.env0.in1.in1 (.cons rfl .nil) q) fun r s' hq => ?_)
  cases r with
  | error e => exact hx pins σ H s e s' I hq
  | ok fl =>
    cases fl with
    | ret u =>
      obtain ⟨v, H', I', rv', z, rfl, q'⟩ := I.after hq
      obtain ⟨t, rfl⟩ := rv'
      exact ⟨.str z, H', I', ⟨t, rfl⟩, q'⟩
    | next => exact False.elim hq
    | brk => exact False.elim hq
    | cont => exact False.elim hq
@[irreducible] def rEqO (K : PySem.W.Frag) (C : Addr) (r : List V → Hp → VK → Prop) : R2 := fun x y H Q => ∃ a dx fs tb, x = .ref a ∧ H a = some (.ins C dx fs) ∧ TyX K H y tb ∧ PySem.W.notFirst K C tb = true ∧ r [x, y] H Q
theorem op_eqO {K : PySem.W.Frag} (hK : X.K = K) (hm : Meth X.K C "__eq__" f) (hu : X.A.units < cLine) (R : CallR X (.ref f) r) : OpR X (compareOp .Eq) (rEqO K C r) := by
  subst hK
  intro pins s σ H x y v u Q I rx ry h
  unfold rEqO at h
  obtain ⟨a, dx, fs, tb, rfl, ha, ty, hn, q⟩ := h
  cases (show v = Value.ref a from rx)
  obtain ⟨ox, od, J⟩ := ins_look I ha
  obtain ⟨m, hF⟩ := I.fr
  obtain ⟨P, Z, p, hx⟩ := kit_of I ry ty
  refine PySem.W.cmp_K (op := .Eq) (tb := tb) hu hF I.ok.mod.kin J (Z.ty _ _ I.kIn p) hn hm.at_ hm.fn ?_
  exact wpAny_mono (R pins s σ H [.ref a, y] [.ref a, u] Q I (.cons rfl (.cons ry .nil)) q) (fun w s' z => cmp_back z) fun _ _ x => x
structure NfT (K : PySem.W.Frag) (C : Addr) : Prop where
  ok : ∀ n ∈ (["NoneType", "bool", "int", "str", "list", "tuple", "dict"] : List String), PySem.W.notFirst K C (.type n) = true
  me : PySem.W.notFirst K C (.ref C) = true
theorem nfB_ok {x : Str} {K : PySem.W.Frag} (h : nfB x K = true) : NfT K (gd x K) := ⟨fun n hn => List.all_eq_true.mp h n hn, by
  unfold PySem.W.notFirst
  simp⟩
end
end Gh
end
section
set_option Elab.async false
set_option linter.all false
set_option maxRecDepth 100000
set_option maxHeartbeats 4000000
namespace Gh
open PySem PySem.Spec PyProof.Rows L2
section
variable {prog : Program} {w : World} {A : Around} {E : Value → Shared → Prop} {s : Shared} {K : PySem.W.Frag} {x C f L : Addr} {h₀ : Heap} {m : Str → Option Value} {ox : Obj} {od : Option Obj} {b tb : Value}
open PySem.W in
theorem ifBoundB_K {M : Model} {name : Str} {id : String} {args : List Value} {Q : Option Value → Shared → Prop} (X : K.In s.heap) (I : InstAt s.heap x ox C od) (hs : findIn K (.ref C) name = some (some (.builtin id))) (hb : ∀ self, bindSpecial (.builtin id) self = pure (.builtin id, [self]))
    (h : wpAny M A (call (.builtin id) (.ref x :: args)) (fun v => Q (some v)) E s) : wpAny M A (callSpecialIfBound? (.ref x) name args) Q E s := by
  simp only [callSpecialIfBound?, bindSpecialIfBound?]
  refine wpAny_holding (wpAny_bind (wpAny_bind (wpAny_bind (I.type.here ((looks_findIn X hs).here ?_)))))
  refine wpAny_bind (wpAny_askSetting (wpAny_ite ?_))
  have fin : wpAny M A (call (.builtin id) ([.ref x] ++ args) >>= fun v => pure (some v)) Q E s := wpAny_bind (wpAny_mono h (fun v s' h' => wpAny_pure h') fun _ _ h' => h')
  simp only [hb]
  split
  · exact wpAny_bind (wpAny_pure (wpAny_pure fin))
  · exact wpAny_tryCatch (wpAny_bind (wpAny_pure (wpAny_pure fin)))
open PySem.W in
theorem ne_K {Q : Value → Shared → Prop} (hu : A.units + 1 < cLine) (F : PyProof.Rows.Fr h₀ L s.heap m) (X₀ : K.In h₀) (I : InstAt s.heap x ox C od) (hb : Looks (model prog w) s.heap (typeOf b) tb) (hn : notFirst K C tb = true)
    (h1 : findIn K (.ref C) "__ne__" = some (some (.builtin "object.__ne__"))) (ho : subIn K (.ref C) (.type "object") = some true) (h2 : findIn K (.ref C) "__eq__" = some (some (.ref f))) (hf : isFn K (.ref f) = true)
    (h : wpAny (model prog w) A.in1 (call (.ref f) [.ref x, b]) (fun v s' => ∃ k, v = .bool k ∧ Q (.bool (!k)) s') E s) : wpAny (model prog w) A (richCompare .NotEq (.ref x) b) Q E s := by
  have X := X₀.keeps F.keep
  have one : wpAny (model prog w) A (tryCompare (.ref x) "__ne__" b) (fun r s' => ∃ v, r = some v ∧ Q v s') E s := by
    simp only [tryCompare]
    refine wpAny_bind (ifBoundB_K X I h1 (fun _ => rfl) (wpAny_call (codeAny_call_builtin (by decide +kernel) PySem.F.cmpEntry_ne
      (@check_slot (model prog w) _ _ s "object.__ne__" "object" "__ne__" (.ref x) [b] [] _ PySem.F.cmpKind_ne PySem.F.cmpSplit_ne (I.type.andThen (looks_subIn X ho)) (PySem.F.cmpArgs_ne _ _) ?_))))
    unfold Builtin.«object.__ne__»
    refine wpAny_bind (m := slotArgs "__ne__" 1 _) (wpAny_pure ?_)
    refine wpAny_bind (wpAny_cRoomFor (show A.in1.units < cLine by show A.units + 1 < cLine; exact hu) ?_)
    refine wpAny_bind (ifBound_K X I h2 hf (wpAny_mono h (fun v s' hv => ?_) fun _ _ e => e))
    obtain ⟨k, rfl, hq⟩ := hv
    exact wpAny_bind (wpAny_truthy_bool (wpAny_pure (wpAny_pure ⟨_, rfl, hq⟩)))
  unfold richCompare
  simp only [oneThing_ref]
  refine wpAny_holding (wpAny_bind (wpAny_cRoomFor (Nat.lt_of_succ_lt hu) ?_))
  refine wpAny_bind (I.type.here (wpAny_bind (hb.here ?_)))
  split
  · rename_i q
    have e : subIn K tb (.ref C) = some false := by
      rcases Bool.or_eq_true_iff.mp hn with e | e
      · rw [beq_iff_eq.mp e] at q; simp at q
      · exact beq_iff_eq.mp e
    refine wpAny_bind ((looks_subIn X e).here ?_)
    simp only [Bool.false_eq_true, if_false]
    refine wpAny_bind (wpAny_mono one (fun r s' z => ?_) fun _ _ e => e)
    obtain ⟨v, rfl, hq⟩ := z
    exact wpAny_pure hq
  · refine wpAny_bind (wpAny_pure ?_)
    simp only [Bool.false_eq_true, if_false]
    refine wpAny_bind (wpAny_mono one (fun r s' z => ?_) fun _ _ e => e)
    obtain ⟨v, rfl, hq⟩ := z
    exact wpAny_pure hq
end
section
variable {X : Cx} {CX : CXT} {k : Nat} {C f : Addr} {sp : Sp} {E : XK}
structure NeT (K : PySem.W.Frag) (C : Addr) : Prop where
  ne : PySem.W.findIn K (.ref C) "__ne__" = some (some (.builtin "object.__ne__"))
  ob : PySem.W.subIn K (.ref C) (.type "object") = some true
theorem neB_ok {x : Str} {K : PySem.W.Frag} (h : neB x K = true) : NeT K (gd x K) := by
  obtain ⟨h1, h2⟩ := He.ba h
  exact ⟨He.eqO_ok h1, of_decide_eq_true h2⟩
@[irreducible] def rNeO (K : PySem.W.Frag) (C : Addr) (sp : Sp) (E : XK) : R2 := fun x y H Q => ∃ a dx fs tb, x = .ref a ∧ H a = some (.ins C dx fs) ∧ TyX K H y tb ∧ PySem.W.notFirst K C tb = true ∧ sp [x, y] H (fun v H' => ∃ b, v = .bl b ∧ Q (.bl (!b)) H') E
theorem op_neO {K : PySem.W.Frag} (hK : X.K = K) (hm : Meth X.K C "__eq__" f) (hn : NeT X.K C) (F : PromOX X CX k f [] sp) (hr : Room (k + 1) X.A) (hx : Passes CX X E) : OpR X (compareOp .NotEq) (rNeO K C sp E) := by
  subst hK
  intro pins s σ H x y v u Q I rx ry h
  unfold rNeO at h
  obtain ⟨a, dx, fs, tb, rfl, ha, ty, nf, q⟩ := h
  cases (show v = Value.ref a from rx)
  obtain ⟨ox, od, J⟩ := ins_look I ha
  obtain ⟨m, hF⟩ := I.fr
  obtain ⟨P, Z, p, hx'⟩ := kit_of I ry ty
  refine ne_K (b := u) (tb := tb) (by have := hr.un; omega) hF I.ok.mod.kin J (Z.ty _ _ I.kIn p) nf hn.ne hn.ob hm.at_ hm.fn (wpAny_mono (promO_in1 (vs := [.ref a, y]) F hr hx I (.cons rfl (.cons ry .nil)) q) (fun w s' z => ?_) fun _ _ x => x)
  obtain ⟨v', H', I', rv', b, rfl, q'⟩ := z
  cases (show w = Value.bool b from rv')
  exact ⟨b, rfl, .bl (!b), H', I', rfl, q'⟩
end
end Gh
end
section
set_option Elab.async false
set_option linter.all false
set_option maxRecDepth 100000
set_option maxHeartbeats 4000000
namespace Gh
open PySem PySem.Spec PyProof.Rows L2
section
variable {K : PySem.W.Frag} {H : Hp} {Q : VK} {a C dx : Addr} {fs : List (Str × V)} {sp : Sp} {E : XK} {r : List V → Hp → VK → Prop} {x y : V} {tb : Value}
theorem st_strO (h : H a = some (.ins C dx fs)) (q : rSp sp [] E [.ref a] H (fun v H' => ∃ z, v = .str z ∧ Q (.str z) H')) : rStrO C sp E [.ref a] H Q := by
  unfold rStrO
  exact ⟨a, dx, fs, rfl, h, q⟩
theorem st_eqO (h : H a = some (.ins C dx fs)) (ty : TyX K H y tb) (nf : PySem.W.notFirst K C tb = true) (q : r [.ref a, y] H Q) : rEqO K C r (.ref a) y H Q := by
  unfold rEqO
  exact ⟨a, dx, fs, tb, rfl, h, ty, nf, q⟩
theorem st_neO (h : H a = some (.ins C dx fs)) (ty : TyX K H y tb) (nf : PySem.W.notFirst K C tb = true) (q : rSp sp [] E [.ref a, y] H (fun v H' => ∃ b, v = .bl b ∧ Q (.bl (!b)) H')) : rNeO K C sp E (.ref a) y H Q := by
  unfold rNeO
  exact ⟨a, dx, fs, tb, rfl, h, ty, nf, q⟩
end
end Gh
end
section
set_option Elab.async false
set_option linter.all false
set_option maxRecDepth 100000
set_option maxHeartbeats 4000000
namespace Gp
open PySem PySem.Spec PyProof.Rows L2 Gh
section
variable {α β γ : Type}
def nox : Tr α → Tr α
  | .ok a => .ok a
  | .ex _ _ => .bad
  | .bad => .bad
  | .draw m f => .draw m fun d => nox (f d)
theorem bd_bd (m : Tr α) (k : α → Tr β) (l : β → Tr γ) : bd (bd m k) l = bd m fun a => bd (k a) l := by
  induction m with
  | draw m f ih =>
    show Tr.draw m _ = Tr.draw m _
    congr 1
    funext d
    exact ih d
  | _ => rfl
theorem al_nox {P : α → Nat → Prop} {E E' : Str → Fs → Nat → Prop} {m : Tr α} {b : Nat} (h : Al P E (nox m) b) : Al P E' m b := by
  induction m generalizing b with
  | ok a => exact h
  | ex c fs => exact h.elim
  | bad => exact h
  | draw m f ih =>
    obtain ⟨b', e, h1, h2, h3⟩ := h
    exact ⟨b', e, h1, h2, fun d d0 d1 => ih d (h3 d d0 d1)⟩
end
section
variable {g : Gw} {U U' : Addr → Prop} {H H' : Hp}
theorem DenL.get : ∀ {vs : List V} {ds : List D} {i : Nat} {v : V}, DenL g U H vs ds → vs[i]? = some v → ∃ d, ds[i]? = some d ∧ Den g U H v d
  | _, _, i, v, .nil, e => by simp at e
  | _, _, 0, v, .cons a r, e => by simp at e; subst e; exact ⟨_, rfl, a⟩
  | _, _, i + 1, v, .cons a r, e => by
    obtain ⟨d, h1, h2⟩ := DenL.get (i := i) (v := v) r (by simpa using e)
    exact ⟨d, by simpa using h1, h2⟩
theorem DenL.take : ∀ {vs : List V} {ds : List D} (n : Nat), DenL g U H vs ds → DenL g U H (vs.take n) (ds.take n)
  | _, _, 0, _ => .nil
  | _, _, _ + 1, .nil => .nil
  | _, _, n + 1, .cons a r => .cons a (DenL.take n r)
theorem DenL.drop : ∀ {vs : List V} {ds : List D} (n : Nat), DenL g U H vs ds → DenL g U H (vs.drop n) (ds.drop n)
  | _, _, 0, r => r
  | _, _, _ + 1, .nil => .nil
  | _, _, n + 1, .cons a r => DenL.drop n r
theorem DenL.ints : ∀ ns : List Int, DenL g U H (ns.map V.int) (ns.map D.int)
  | [] => .nil
  | n :: r => .cons (.int n) (DenL.ints r)
def putD (f : Str) (v : D) : List (Str × D) → List (Str × D)
  | [] => [(f, v)]
  | (g, x) :: r => if g = f then (g, v) :: r else (g, x) :: putD f v r
theorem DenF.put {f : Str} {v : V} {d : D} (h : Den g U H v d) : ∀ {vs : List (Str × V)} {ds : List (Str × D)}, DenF g U H vs ds → DenF g U H (putF f v vs) (putD f d ds)
  | _, _, .nil => .cons h .nil
  | _, _, .cons (n := m) a r => by
    unfold putF putD
    split
    · exact .cons h r
    · exact .cons a (DenF.put h r)
end
section
variable {g : Gw} {U U' : Addr → Prop} {H H' H1 H2 : Hp} {b : Nat}
end
instance : Coe (List D) Ow := ⟨.l⟩
section
variable {g : Gw} {U U' : Addr → Prop} {H H' H1 H2 : Hp} {b : Nat} {σ : L2.St} {ε : Env}
def okL (g : Gw) (U : Addr → Prop) (H : Hp) (Q : List V → Hp → Prop) : List D → Nat → Prop := fun d b => ∀ v H', DenL g U H' v d → Wd g H' b → Fr H H' g.p → Q v H'
def okB (g : Gw) (U : Addr → Prop) (H : Hp) (Q : Bool → Hp → Prop) : Bool → Nat → Prop := fun d b => ∀ H', Wd g H' b → Fr H H' g.p → Q d H'
def SE (g : Gw) (E : XK) (ε : Env) (t : TE) (m : Tr D) : Prop := ∀ U σ H b Q, Rel g U H σ ε → Wd g H b → UOk g U H → Al (okP g U H Q) (exP g U E H) m b → t σ H Q
def SA (g : Gw) (E : XK) (ε : Env) (t : TA) (m : Tr (List D)) : Prop := ∀ U σ H b Q, Rel g U H σ ε → Wd g H b → UOk g U H → Al (okL g U H Q) (exP g U E H) m b → t σ H Q
def ST (g : Gw) (E : XK) (ε : Env) (t : TT) (m : Tr Bool) : Prop := ∀ U σ H b Q, Rel g U H σ ε → Wd g H b → UOk g U H → Al (okB g U H Q) (exP g U E H) m b → t σ H Q
def SR1 (g : Gw) (E : XK) (r : V → Hp → VK → Prop) (f : D → Tr D) : Prop := ∀ U H b x dx Q, Den g U H x dx → Wd g H b → UOk g U H → Al (okP g U H Q) (exP g U E H) (f dx) b → r x H Q
def SR2 (g : Gw) (E : XK) (r : R2) (f : D → D → Tr D) : Prop := ∀ U H b x y dx dy Q, Den g U H x dx → Den g U H y dy → Wd g H b → UOk g U H → Al (okP g U H Q) (exP g U E H) (f dx dy) b → r x y H Q
def SRL (g : Gw) (E : XK) (r : List V → Hp → VK → Prop) (f : List D → Tr D) : Prop := ∀ U H b xs dxs Q, DenL g U H xs dxs → Wd g H b → UOk g U H → Al (okP g U H Q) (exP g U E H) (f dxs) b → r xs H Q
theorem al_frX {α : Type} {E : XK} {P : α → Nat → Prop} {m : Tr α} (f : Fr H H1 g.p) (h : Al P (exP g U E H) m b) : Al P (exP g U E H1) m b := h.mono (fun _ _ h => h) (fun _ _ _ h => h.fr f)
variable {E : XK} {ta tb tc : TE} {ma mb : Tr D}
theorem SE.step {α : Type} {k : D → Tr α} {P : α → Nat → Prop} {Q : VK} (ha : SE g E ε ta ma) (R : Rel g U H σ ε) (W : Wd g H b) (u : UOk g U H) (h : Al P (exP g U E H) (bd ma k) b)
    (hk : ∀ v d H1 b1, Den g U H1 v d → Wd g H1 b1 → Fr H H1 g.p → Rel g U H1 σ ε → UOk g U H1 → Al P (exP g U E H1) (k d) b1 → Q v H1) : ta σ H Q :=
  ha U σ H b Q R W u ((al_bd.mp h).mono (fun d b1 h1 v H1 d1 w1 f1 => hk v d H1 b1 d1 w1 f1 (R.fr u f1) (u.fr f1 w1) (al_frX f1 h1)) (fun _ _ _ h => h))
theorem SA.step {α : Type} {t : TA} {m : Tr (List D)} {k : List D → Tr α} {P : α → Nat → Prop} {Q : List V → Hp → Prop} (ha : SA g E ε t m) (R : Rel g U H σ ε) (W : Wd g H b) (u : UOk g U H) (h : Al P (exP g U E H) (bd m k) b)
    (hk : ∀ v d H1 b1, DenL g U H1 v d → Wd g H1 b1 → Fr H H1 g.p → Rel g U H1 σ ε → UOk g U H1 → Al P (exP g U E H1) (k d) b1 → Q v H1) : t σ H Q :=
  ha U σ H b Q R W u ((al_bd.mp h).mono (fun d b1 h1 v H1 d1 w1 f1 => hk v d H1 b1 d1 w1 f1 (R.fr u f1) (u.fr f1 w1) (al_frX f1 h1)) (fun _ _ _ h => h))
theorem ST.step {α : Type} {t : TT} {m : Tr Bool} {k : Bool → Tr α} {P : α → Nat → Prop} {Q : Bool → Hp → Prop} (ha : ST g E ε t m) (R : Rel g U H σ ε) (W : Wd g H b) (u : UOk g U H) (h : Al P (exP g U E H) (bd m k) b)
    (hk : ∀ d H1 b1, Wd g H1 b1 → Fr H H1 g.p → Rel g U H1 σ ε → UOk g U H1 → Al P (exP g U E H1) (k d) b1 → Q d H1) : t σ H Q :=
  ha U σ H b Q R W u ((al_bd.mp h).mono (fun d b1 h1 H1 w1 f1 => hk d H1 b1 w1 f1 (R.fr u f1) (u.fr f1 w1) (al_frX f1 h1)) (fun _ _ _ h => h))
theorem se_var {i : Nat} {d : D} (h : ε[i]? = some (.fz d) := by rfl) : SE g E ε (tVar i) (.ok d) := fun U σ H b Q R W u q => by
  obtain ⟨o, e, v, rfl, dn⟩ := R.at_ i _ h
  exact ⟨v, e, okP.here q W dn⟩
theorem se_c {v : V} {d : D} (h : ∀ U H, Den g U H v d) : SE g E ε (tC v) (.ok d) := fun U σ H b Q R W u q => okP.here q W (h U H)
theorem se_int {i : Int} : SE g E ε (tC (.int i)) (.ok (.int i)) := se_c fun _ _ => .int i
theorem se_bl {i : Bool} : SE g E ε (tC (.bl i)) (.ok (.bl i)) := se_c fun _ _ => .bl i
theorem se_non : SE g E ε (tC .non) (.ok .non) := se_c fun _ _ => .non
theorem se_str {x : Str} (h : x.length ≤ sizeLine) : SE g E ε (tC (.str x)) (.ok (.str x)) := se_c fun _ _ => .str x h
theorem se_op {r : R2} {f : D → D → Tr D} (hr : SR2 g E r f) (ha : SE g E ε ta ma) (hb : SE g E ε tb mb) : SE g E ε (tOp r ta tb) (bd ma fun x => bd mb fun y => f x y) := fun U σ H b Q R W u q =>
  ha.step R W u q fun v d H1 b1 d1 w1 f1 R1 u1 q1 => hb.step R1 w1 u1 q1 fun v2 e H2 b2 d2 w2 f2 R2 u2 q2 => hr U H2 b2 v v2 d e Q (d1.fr u1 f2) d2 w2 u2 (q2.mono (fun _ _ h => h.fr (f1.trans f2)) (fun _ _ _ h => h))
theorem se_un {r : V → Hp → VK → Prop} {f : D → Tr D} (hr : SR1 g E r f) (ha : SE g E ε ta ma) : SE g E ε (tUn r ta) (bd ma f) := fun U σ H b Q R W u q =>
  ha.step R W u q fun v d H1 b1 d1 w1 f1 R1 u1 q1 => hr U H1 b1 v d Q d1 w1 u1 (q1.mono (fun _ _ h => h.fr f1) (fun _ _ _ h => h))
theorem sa_nil : SA g E ε tNil (.ok []) := fun U σ H b Q R W u q => q [] H .nil W Fr.refl
theorem sa_cons {t : TA} {m : Tr (List D)} (ha : SE g E ε ta ma) (hb : SA g E ε t m) : SA g E ε (tCons ta t) (bd ma fun x => bd m fun xs => .ok (x :: xs)) := fun U σ H b Q R W u q =>
  ha.step R W u q fun v d H1 b1 d1 w1 f1 R1 u1 q1 => hb.step R1 w1 u1 q1 fun v2 e H2 b2 d2 w2 f2 R2 u2 q2 => q2 (v :: v2) H2 (.cons (d1.fr u1 f2) d2) w2 (f1.trans f2)
theorem se_cl {r : List V → Hp → VK → Prop} {f : List D → Tr D} {t : TA} {m : Tr (List D)} (hr : SRL g E r f) (ha : SA g E ε t m) : SE g E ε (tCl r t) (bd m f) := fun U σ H b Q R W u q =>
  ha.step R W u q fun v d H1 b1 d1 w1 f1 R1 u1 q1 => hr U H1 b1 v d Q d1 w1 u1 (q1.mono (fun _ _ h => h.fr f1) (fun _ _ _ h => h))
theorem se_cb {r : List V → Hp → VK → Prop} {f : List D → Tr D} {t : TA} {m : Tr (List D)} (hr : SRL g E r f) (ha : SA g E ε t m) : SE g E ε (tCB r t) (bd m f) := se_cl hr ha
def asB : D → Tr Bool
  | .bl b => .ok b
  | _ => .bad
theorem al_asB {P : Bool → Nat → Prop} {X : Str → Fs → Nat → Prop} {d : D} (h : Al P X (asB d) b) : ∃ k, d = .bl k ∧ P k b := by
  cases d with
  | bl k => exact ⟨k, rfl, h⟩
  | _ => exact h.elim
theorem al_asBk {α : Type} {P : α → Nat → Prop} {X : Str → Fs → Nat → Prop} {d : D} {k : Bool → Tr α} (h : Al P X (bd (asB d) k) b) : ∃ c, d = .bl c ∧ Al P X (k c) b := al_asB (al_bd.mp h)
theorem den_bl {v : V} {k : Bool} (h : Den g U H v (.bl k)) : v = .bl k := by cases h; rfl
theorem sb_tst (ha : SE g E ε ta ma) : ST g E ε (tTest ta) (bd ma asB) := fun U σ H b Q R W u q =>
  ha.step R W u q fun v d H1 b1 d1 w1 f1 R1 u1 q1 => by
    obtain ⟨k, rfl, q2⟩ := al_asB q1
    exact ⟨k, den_bl d1, q2 H1 w1 f1⟩
theorem sb_tb (ha : SE g E ε ta ma) : ST g E ε (tB ta) (bd ma asB) := sb_tst ha
theorem sb_and {c d : TT} {m n : Tr Bool} (ha : ST g E ε c m) (hb : ST g E ε d n) : ST g E ε (tAnd c d) (bd m fun k => if k = true then n else .ok false) := fun U σ H b Q R W u q =>
  ha.step R W u q fun k H1 b1 w1 f1 R1 u1 q1 => by
    cases k with
    | true => exact hb U σ H1 b1 Q R1 w1 u1 (q1.mono (fun _ _ h H' w f => h H' w (f1.trans f)) (fun _ _ _ h => h))
    | false => exact q1 H1 w1 f1
theorem sb_or {c d : TT} {m n : Tr Bool} (ha : ST g E ε c m) (hb : ST g E ε d n) : ST g E ε (tOr c d) (bd m fun k => if k = true then .ok true else n) := fun U σ H b Q R W u q =>
  ha.step R W u q fun k H1 b1 w1 f1 R1 u1 q1 => by
    cases k with
    | false => exact hb U σ H1 b1 Q R1 w1 u1 (q1.mono (fun _ _ h H' w f => h H' w (f1.trans f)) (fun _ _ _ h => h))
    | true => exact q1 H1 w1 f1
theorem sb_not {c : TT} {m : Tr Bool} (ha : ST g E ε c m) : ST g E ε (tNot c) (bd m fun k => .ok (!k)) := fun U σ H b Q R W u q =>
  ha.step R W u q fun k H1 b1 w1 f1 R1 u1 q1 => q1 H1 w1 f1
theorem se_if {c : TT} {m : Tr Bool} (hc : ST g E ε c m) (ha : SE g E ε ta ma) (hb : SE g E ε tb mb) : SE g E ε (tIf c ta tb) (bd m fun k => if k = true then ma else mb) := fun U σ H b Q R W u q =>
  hc.step R W u q fun k H1 b1 w1 f1 R1 u1 q1 => by
    have q2 := q1.mono (P' := okP g U H1 Q) (fun _ _ h => okP.fr f1 h) (fun _ _ _ h => h)
    cases k with
    | true => exact ha U σ H1 b1 Q R1 w1 u1 q2
    | false => exact hb U σ H1 b1 Q R1 w1 u1 q2
theorem se_andV (ha : SE g E ε ta ma) (hb : SE g E ε tb mb) : SE g E ε (tAndV ta tb) (bd (bd ma asB) fun k => if k = true then mb else .ok (.bl false)) := fun U σ H b Q R W u q => by
  rw [bd_bd] at q
  refine ha.step R W u q fun v d H1 b1 d1 w1 f1 R1 u1 q1 => ?_
  obtain ⟨k, rfl, q2⟩ := al_asBk q1
  refine ⟨k, den_bl d1, ?_⟩
  replace q2 := q2.mono (P' := okP g U H1 Q) (fun _ _ h => okP.fr f1 h) (fun _ _ _ h => h)
  cases k with
  | true => exact hb U σ H1 b1 Q R1 w1 u1 q2
  | false => exact okP.here q2 w1 (.bl false)
theorem se_notV (ha : SE g E ε ta ma) : SE g E ε (tNotV ta) (bd (bd ma asB) fun k => .ok (.bl (!k))) := fun U σ H b Q R W u q => by
  rw [bd_bd] at q
  refine ha.step R W u q fun v d H1 b1 d1 w1 f1 R1 u1 q1 => ?_
  obtain ⟨k, rfl, q2⟩ := al_asBk q1
  exact ⟨k, den_bl d1, q2 _ H1 (.bl (!k)) w1 f1⟩
theorem se_chain {r r' : R2} {f f' : D → D → Tr D} {mc : Tr D} (hr : SR2 g E r f) (hr' : SR2 g E r' f') (ha : SE g E ε ta ma) (hb : SE g E ε tb mb) (hc : SE g E ε tc mc) :
    SE g E ε (tChain r r' ta tb tc) (bd ma fun x => bd mb fun y => bd (bd (f x y) asB) fun k => if k = true then bd mc fun z => f' y z else .ok (.bl false)) := fun U σ H b Q R W u q =>
  ha.step R W u q fun v d H1 b1 d1 w1 f1 R1 u1 q1 => hb.step R1 w1 u1 q1 fun v2 e H2 b2 d2 w2 f2 R2 u2 q2 => by
    rw [bd_bd] at q2
    refine hr U H2 b2 v v2 d e _ (d1.fr u1 f2) d2 w2 u2 ((al_bd.mp q2).mono (fun z b3 h3 v3 H3 d3 w3 f3 => ?_) (fun _ _ _ h => h))
    obtain ⟨k, rfl, q3⟩ := al_asBk h3
    refine ⟨k, den_bl d3, ?_⟩
    have q4 := q3.mono (P' := okP g U H3 Q) (E' := exP g U E H3) (fun _ _ h => okP.fr ((f1.trans f2).trans f3) h) (fun _ _ _ h => h.fr f3)
    cases k with
    | false => exact okP.here q4 w3 (.bl false)
    | true =>
      refine hc.step (R2.fr u2 f3) w3 (u2.fr f3 w3) q4 fun v4 z H4 b4 d4 w4 f4 R4 u4 q5 => ?_
      exact hr' U H4 b4 v2 v4 e z Q (d2.fr u2 (f3.trans f4)) d4 w4 u4 (q5.mono (fun _ _ h => h.fr f4) (fun _ _ _ h => h))
theorem se_lst {t : TA} {m : Tr (List D)} (ha : SA g E ε t m) : SE g E ε (tLst t) (bd m fun ds => if ds.length ≤ sizeLine then .ok (.lst ds) else .bad) := fun U σ H b Q R W u q =>
  ha.step R W u q fun v d H1 b1 d1 w1 f1 R1 u1 q1 => by
    by_cases hl : d.length ≤ sizeLine
    · rw [if_pos hl] at q1
      have hl' : v.length ≤ sizeLine := by rw [d1.length]; exact hl
      refine ⟨hl', fun p np => ?_⟩
      have s := same_new (o := .lst v) np
      exact q1 _ _ (.lst upd_same (u1.new np) hl' (d1.ext (u1.extU (fr_same s)))) (w1.same s) (f1.trans (fr_same s))
    · rw [if_neg hl] at q1
      exact q1.elim
theorem se_tup {t : TA} {m : Tr (List D)} (ha : SA g E ε t m) : SE g E ε (tTup t) (bd m fun ds => if ds.length ≤ sizeLine then .ok (.tup ds) else .bad) := fun U σ H b Q R W u q =>
  ha.step R W u q fun v d H1 b1 d1 w1 f1 R1 u1 q1 => by
    by_cases hl : d.length ≤ sizeLine
    · rw [if_pos hl] at q1
      have hl' : v.length ≤ sizeLine := by rw [d1.length]; exact hl
      refine ⟨hl', fun p np => ?_⟩
      have s := same_new (o := .tup v) np
      exact q1 _ _ (.tup upd_same (u1.new np) hl' (d1.ext (u1.extU (fr_same s)))) (w1.same s) (f1.trans (fr_same s))
    · rw [if_neg hl] at q1
      exact q1.elim
theorem se_nox (ha : SE g (fun _ _ _ => False) ε ta ma) : SE g E ε ta (nox ma) := fun U σ H b Q R W u q => ha U σ H b Q R W u (al_nox q)
end
end Gp
end
section
set_option Elab.async false
set_option linter.all false
set_option maxRecDepth 100000
set_option maxHeartbeats 4000000
namespace Gp
open PySem PySem.Spec PyProof.Rows L2 Gh
section
variable {g : Gw} {Mt U0 U U' : Addr → Prop} {H0 H H' H1 H2 : Hp} {b b1 : Nat} {σ : L2.St} {ε ε' : Env} {E : XK} {W L W' : Type}
theorem SE.sstep {t : TE} {m : Tr D} {k : D → Tr (Fl W L)} {Ds : Ends} {env : W → Env} {envL : L → Env} {Q : VK} (he : SE g E ε t m) (s : Stt g Mt U0 H0 U σ H b ε) (h : Al (flP g Mt U0 H0 U H Ds env envL) (exS g Mt U0 H0 E) (bd m k) b)
    (hk : ∀ v d H1 b1, Den g U H1 v d → Stt g Mt U0 H0 U σ H1 b1 ε → Al (flP g Mt U0 H0 U H1 Ds env envL) (exS g Mt U0 H0 E) (k d) b1 → Q v H1) : t σ H Q :=
  he U σ H b Q s.rel s.wd s.uok ((al_bd.mp h).mono (fun d b1 h1 v H1 d1 w1 f1 => hk v d H1 b1 d1 (s.fr f1 w1) (h1.mono (fun _ _ z => z.ev (s.uok.ev f1)) (fun _ _ _ z => z))) (fun _ _ _ h => exS.exP s h))
theorem SA.sstep {t : TA} {m : Tr (List D)} {k : (List D) → Tr (Fl W L)} {Ds : Ends} {env : W → Env} {envL : L → Env} {Q : List V → Hp → Prop} (he : SA g E ε t m) (s : Stt g Mt U0 H0 U σ H b ε) (h : Al (flP g Mt U0 H0 U H Ds env envL) (exS g Mt U0 H0 E) (bd m k) b)
    (hk : ∀ v d H1 b1, DenL g U H1 v d → Stt g Mt U0 H0 U σ H1 b1 ε → Al (flP g Mt U0 H0 U H1 Ds env envL) (exS g Mt U0 H0 E) (k d) b1 → Q v H1) : t σ H Q :=
  he U σ H b Q s.rel s.wd s.uok ((al_bd.mp h).mono (fun d b1 h1 v H1 d1 w1 f1 => hk v d H1 b1 d1 (s.fr f1 w1) (h1.mono (fun _ _ z => z.ev (s.uok.ev f1)) (fun _ _ _ z => z))) (fun _ _ _ h => exS.exP s h))
theorem ST.sstep {t : TT} {m : Tr Bool} {k : Bool → Tr (Fl W L)} {Ds : Ends} {env : W → Env} {envL : L → Env} {Q : Bool → Hp → Prop} (he : ST g E ε t m) (s : Stt g Mt U0 H0 U σ H b ε) (h : Al (flP g Mt U0 H0 U H Ds env envL) (exS g Mt U0 H0 E) (bd m k) b)
    (hk : ∀ d H1 b1,  Stt g Mt U0 H0 U σ H1 b1 ε → Al (flP g Mt U0 H0 U H1 Ds env envL) (exS g Mt U0 H0 E) (k d) b1 → Q d H1) : t σ H Q :=
  he U σ H b Q s.rel s.wd s.uok ((al_bd.mp h).mono (fun d b1 h1 H1 w1 f1 => hk d H1 b1 (s.fr f1 w1) (h1.mono (fun _ _ z => z.ev (s.uok.ev f1)) (fun _ _ _ z => z))) (fun _ _ _ h => exS.exP s h))
theorem Le.get : ∀ {a b : Env}, Le a b → ∀ {i : Nat} {s : Sl}, a[i]? = some s → s = .no ∧ (∃ z, b[i]? = some z) ∨ b[i]? = some s
  | _, _, .nil, _, _, e => by simp at e
  | _, _, .s h, 0, _, e => .inr e
  | _, _, .n h, 0, _, e => by simp at e; exact .inl ⟨e.symm, _, rfl⟩
  | _, _, .s h, i + 1, z, e => by simpa using h.get (i := i) (s := z) (by simpa using e)
  | _, _, .n h, i + 1, z, e => by simpa using h.get (i := i) (s := z) (by simpa using e)
theorem ownAt_le (l : Le ε' ε) {i : Nat} {a : Addr} (h : OwnAt σ ε' i a) : OwnAt σ ε i a := by
  obtain ⟨h1, h2⟩ := h
  refine ⟨h1, ?_⟩
  rcases h2 with ⟨ds, h2⟩ | ⟨c, fs, h2⟩
  · rcases l.get h2 with ⟨z, _⟩ | z
    · cases z
    · exact .inl ⟨ds, z⟩
  · rcases l.get h2 with ⟨z, _⟩ | z
    · cases z
    · exact .inr ⟨c, fs, z⟩
theorem Stt.le (s : Stt g Mt U0 H0 U σ H b ε) (l : Le ε' ε) : Stt g Mt U0 H0 U σ H b ε' :=
  ⟨⟨s.rel.len.trans l.len.symm, fun i x e => by
    rcases l.get e with ⟨rfl, z, h⟩ | h
    · obtain ⟨o, h1, _⟩ := s.rel.at_ i z h
      exact ⟨o, h1, trivial⟩
    · exact s.rel.at_ i x h, fun i j a n h1 h2 => s.rel.apart i j a n (ownAt_le l h1) (ownAt_le l h2)⟩, s.wd, s.uok, s.sub, fun i a o => s.own i a (ownAt_le l o), s.ext, fun i ds a e1 e2 => (by
    rcases l.get e1 with ⟨z, _⟩ | z
    · cases z
    · exact s.nu0 i ds a z e2), fun i c fs a j0 e1 e2 => by
    rcases l.get e1 with ⟨z, _⟩ | z
    · cases z
    · exact s.oim i c fs a j0 z e2⟩
variable {env : W → Env} {envL : L → Env} {env' : W' → Env} {u ta tb : TS} {te : TE} {me : Tr D}
theorem ss_nx {w : W} (l : Le (env w) ε) : SS g E ε tNext env envL (.ok (.nx w)) := fun Mt U0 H0 U D σ H b s q => q U σ H Ev.refl (s.le l)
theorem ss_asg {i : Nat} {k : D → Tr (Fl W L)} (he : SE g E ε te me) (hk : ∀ d, SS g E (ε.set i (.fz d)) u env envL (k d)) : SS g E ε (tSeq (tAsg te (gName i)) u) env envL (bd me k) := fun Mt U0 H0 U D σ H b s q =>
  he.sstep s q fun v d H1 b1 d1 s1 q1 => hk d Mt U0 H0 U D _ H1 b1 (s1.set i d1) q1
theorem ss_ret (he : SE g E ε te me) : SS g E ε (tSeq (tRet te) u) env envL (bd me fun d => .ok (.rt d)) := fun Mt U0 H0 U D σ H b s q =>
  he.sstep s q fun v d H1 b1 d1 s1 q1 => q1 v H1 (d1.sub fun a _ z => s1.sub a z) s1.wd s1.ext
def ul0 {α : Type} (k : Tr α) (ds : List D) : Tr α := match ds with
  | [] => k
  | _ => .bad
def ul1 {α : Type} (k : D → Tr α) (ds : List D) : Tr α := match ds with
  | [x] => k x
  | _ => .bad
def ul2 {α : Type} (k : D → D → Tr α) (ds : List D) : Tr α := match ds with
  | [x, y] => k x y
  | _ => .bad
def ul3 {α : Type} (k : D → D → D → Tr α) (ds : List D) : Tr α := match ds with
  | [x, y, z] => k x y z
  | _ => .bad
def ul4 {α : Type} (k : D → D → D → D → Tr α) (ds : List D) : Tr α := match ds with
  | [x, y, z, w] => k x y z w
  | _ => .bad
section
variable {α : Type} {P : α → Nat → Prop} {X : Str → Fs → Nat → Prop} {ds : List D}
theorem al_ul1 {k : D → Tr α} (h : Al P X (ul1 k ds) b) : ∃ x, ds = [x] ∧ Al P X (k x) b := by
  unfold ul1 at h; split at h
  · exact ⟨_, rfl, h⟩
  · exact h.elim
theorem al_ul2 {k : D → D → Tr α} (h : Al P X (ul2 k ds) b) : ∃ x y, ds = [x, y] ∧ Al P X (k x y) b := by
  unfold ul2 at h; split at h
  · exact ⟨_, _, rfl, h⟩
  · exact h.elim
theorem al_ul3 {k : D → D → D → Tr α} (h : Al P X (ul3 k ds) b) : ∃ x y z, ds = [x, y, z] ∧ Al P X (k x y z) b := by
  unfold ul3 at h; split at h
  · exact ⟨_, _, _, rfl, h⟩
  · exact h.elim
end
theorem denL_nil {vs : List V} (h : DenL g U H vs []) : vs = [] := by cases h; rfl
theorem denL_cons {vs : List V} {d : D} {ds : List D} (h : DenL g U H vs (d :: ds)) : ∃ v r, vs = v :: r ∧ Den g U H v d ∧ DenL g U H r ds := by
  cases h with
  | cons a r => exact ⟨_, _, rfl, a, r⟩
theorem denL_1 {vs : List V} {x : D} (h : DenL g U H vs [x]) : ∃ v, vs = [v] ∧ Den g U H v x := by
  obtain ⟨v, r, rfl, h1, h2⟩ := denL_cons h
  cases denL_nil h2
  exact ⟨v, rfl, h1⟩
theorem denL_2 {vs : List V} {x y : D} (h : DenL g U H vs [x, y]) : ∃ v w, vs = [v, w] ∧ Den g U H v x ∧ Den g U H w y := by
  obtain ⟨v, r, rfl, h1, h2⟩ := denL_cons h
  obtain ⟨w, rfl, h3⟩ := denL_1 h2
  exact ⟨v, w, rfl, h1, h3⟩
theorem denL_3 {vs : List V} {x y z : D} (h : DenL g U H vs [x, y, z]) : ∃ v w t, vs = [v, w, t] ∧ Den g U H v x ∧ Den g U H w y ∧ Den g U H t z := by
  obtain ⟨v, r, rfl, h1, h2⟩ := denL_cons h
  obtain ⟨w, t, rfl, h3, h4⟩ := denL_2 h2
  exact ⟨v, w, t, rfl, h1, h3, h4⟩
theorem ss_if0 {c : TT} {mc : Tr Bool} {m n : Tr (Fl W' L)} (hc : ST g E ε c mc) (ha : SS g E ε ta env' envL m) (hb : SS g E ε tb env' envL n) : SS g E ε (tIfS c ta tb) env' envL (bd mc fun k => if k = true then m else n) := fun Mt U0 H0 U D σ H b s q =>
  hc.sstep s q fun k H1 b1 s1 q1 => by
    cases k with
    | true => exact ha Mt U0 H0 U D σ H1 b1 s1 q1
    | false => exact hb Mt U0 H0 U D σ H1 b1 s1 q1
theorem ss_if {c : TT} {mc : Tr Bool} {m n : Tr (Fl W' L)} {k : W' → Tr (Fl W L)} (env' : W' → Env) (hc : ST g E ε c mc) (ha : SS g E ε ta env' envL m) (hb : SS g E ε tb env' envL n) (hk : ∀ w, SS g E (env' w) u env envL (k w)) :
    SS g E ε (tSeq (tIfS c ta tb) u) env envL (bdF (bd mc fun k => if k = true then m else n) k) := (ss_if0 hc ha hb).seq hk
theorem sx_name {i : Nat} {d : D} {m : Tr (Fl W L)} (h : SS g E (ε.set i (.fz d)) tb env envL m) : SX g E ε d (gName i) tb env envL m := fun Mt U0 H0 U D σ H b v s dn q => h Mt U0 H0 U D _ H b (s.set i dn) q
def un2 {α : Type} (d : D) (k : D → D → Tr α) : Tr α := match d with
  | .tup [x, y] => k x y
  | _ => .bad
def un3 {α : Type} (d : D) (k : D → D → D → Tr α) : Tr α := match d with
  | .tup [x, y, z] => k x y z
  | _ => .bad
theorem den_tup {v : V} {ds : List D} (h : Den g U H v (.tup ds)) : ∃ a vs, v = .ref a ∧ SqT g.K H a vs ∧ vs.length ≤ sizeLine ∧ DenL g U H vs ds := by
  cases h with
  | tup h n l k => exact ⟨_, _, rfl, SqT.of h, l, k⟩
  | tupW h l k _ => exact ⟨_, _, rfl, h H, l, k⟩
theorem al_un2 {α : Type} {P : α → Nat → Prop} {X : Str → Fs → Nat → Prop} {d : D} {k : D → D → Tr α} (h : Al P X (un2 d k) b) : ∃ x y, d = .tup [x, y] ∧ Al P X (k x y) b := by
  unfold un2 at h
  split at h
  · exact ⟨_, _, rfl, h⟩
  · exact h.elim
theorem al_un3 {α : Type} {P : α → Nat → Prop} {X : Str → Fs → Nat → Prop} {d : D} {k : D → D → D → Tr α} (h : Al P X (un3 d k) b) : ∃ x y z, d = .tup [x, y, z] ∧ Al P X (k x y z) b := by
  unfold un3 at h
  split at h
  · exact ⟨_, _, _, rfl, h⟩
  · exact h.elim
theorem sx_tup2 {i j : Nat} {d : D} {m : D → D → Tr (Fl W L)} (h : ∀ x y, SS g E ((ε.set i (.fz x)).set j (.fz y)) tb env envL (m x y)) : SX g E ε d (gTup g.K 2 (gCons (gName i) (gCons (gName j) gNil))) tb env envL (un2 d m) := fun Mt U0 H0 U D σ H b v s dn q => by
  obtain ⟨x, y, rfl, q1⟩ := al_un2 q
  obtain ⟨a, vs, rfl, sq, _, k⟩ := den_tup dn
  obtain ⟨v1, v2, rfl, e1, e2⟩ := denL_2 k
  exact ⟨a, [v1, v2], rfl, sq, rfl, v1, [v2], rfl, v2, [], rfl, rfl, h x y Mt U0 H0 U D _ H b ((s.set i e1).set j e2) q1⟩
theorem sx_tup3 {i j l : Nat} {d : D} {m : D → D → D → Tr (Fl W L)} (h : ∀ x y z, SS g E (((ε.set i (.fz x)).set j (.fz y)).set l (.fz z)) tb env envL (m x y z)) : SX g E ε d (gTup g.K 3 (gCons (gName i) (gCons (gName j) (gCons (gName l) gNil)))) tb env envL (un3 d m) := fun Mt U0 H0 U D σ H b v s dn q => by
  obtain ⟨x, y, z, rfl, q1⟩ := al_un3 q
  obtain ⟨a, vs, rfl, sq, _, k⟩ := den_tup dn
  obtain ⟨v1, v2, v3, rfl, e1, e2, e3⟩ := denL_3 k
  exact ⟨a, [v1, v2, v3], rfl, sq, rfl, v1, [v2, v3], rfl, v2, [v3], rfl, v3, [], rfl, rfl, h x y z Mt U0 H0 U D _ H b (((s.set i e1).set j e2).set l e3) q1⟩
theorem ss_unp {gt : TG} {k : D → Tr (Fl W L)} (he : SE g E ε te me) (hk : ∀ d, SX g E ε d gt u env envL (k d)) : SS g E ε (tSeq (tAsg te gt) u) env envL (bd me k) := fun Mt U0 H0 U D σ H b s q =>
  he.sstep s q fun v d H1 b1 d1 s1 q1 => hk d Mt U0 H0 U D σ H1 b1 v s1 d1 q1
def ItD (g : Gw) (U : Addr → Prop) (H : Hp) (J : It) (ds : List D) : Prop := ∀ i U1 H1 b, Ev U H U1 H1 → Wd g H1 b → UOk g U1 H1 →
  (∀ d, ds[i]? = some d → J.go i H1 ∧ ∀ x H2, J.yld i H1 x H2 → Den g U1 H2 x d ∧ L2.Same H1 H2) ∧ (ds.length = i → J.stop i H1)
def okI (g : Gw) (U : Addr → Prop) (H : Hp) (R : It → Hp → Prop) : List D → Nat → Prop := fun ds b => ∀ J H', ds.length ≤ sizeLine → ItD g U H' J ds → Wd g H' b → Fr H H' g.p → R J H'
def SI (g : Gw) (E : XK) (ε : Env) (wi : TI) (m : Tr (List D)) : Prop := ∀ U σ H b R, Rel g U H σ ε → Wd g H b → UOk g U H → Al (okI g U H R) (exP g U E H) m b → wi σ H R
def forF (f : D → W → Tr (Fl W W)) : List D → W → Tr (Fl W L)
  | [], w => .ok (.nx w)
  | x :: xs, w => bd (f x w) fun r => match r with
    | .nx w' => forF f xs w'
    | .ct w' => forF f xs w'
    | .bk w' => .ok (.nx w')
    | .rt d => .ok (.rt d)
theorem forF_cons (f : D → W → Tr (Fl W W)) (x : D) (xs : List D) (w : W) : forF (L := L) f (x :: xs) w = bd (f x w) fun r => match r with
    | .nx w' => forF f xs w'
    | .ct w' => forF f xs w'
    | .bk w' => .ok (.nx w')
    | .rt d => .ok (.rt d) := rfl
theorem ss_for0 {wi : TI} {gt : TG} {mi : Tr (List D)} {f : D → W → Tr (Fl W W)} {w0 : W} {tb : TS} (hi : SI g E ε wi mi) (l : Le (env w0) ε) (hb : ∀ d w, SX g E (env w) d gt tb env env (f d w)) : SS g E ε (tFor wi gt tb) env envL (bd mi fun ds => forF f ds w0) := fun Mt U0 H0 U D σ H b s q => by
  refine hi U σ H b _ s.rel s.wd s.uok ((al_bd.mp q).mono (fun ds b1 h1 J H1 hsz it w1 f1 => ?_) (fun _ _ _ h => exS.exP s h))
  refine ⟨fun i m σ' H' => ∃ b' w U', m = ds.length - i ∧ i ≤ ds.length ∧ Stt g Mt U0 H0 U' σ' H' b' (env w) ∧ Ev U H1 U' H' ∧ Al (flP g Mt U0 H0 U' H' D env envL) (exS g Mt U0 H0 E) (forF f (ds.drop i) w) b',
    ⟨ds.length, b1, w0, U, by simp, Nat.zero_le _, (s.fr f1 w1).le l, Ev.refl, Al.mono (fun _ _ z => z.ev (s.uok.ev f1)) (fun _ _ _ z => z) h1⟩, ?_⟩
  rintro i m σ' H' ⟨b', w, U', rfl, hle, s', e', q'⟩
  obtain ⟨it1, it2⟩ := it i U' H' b' e' s'.wd s'.uok
  by_cases hlt : i < ds.length
  · have ei : ds[i]? = some ds[i] := List.getElem?_eq_getElem hlt
    obtain ⟨go, y⟩ := it1 _ ei
    rw [List.drop_eq_getElem_cons hlt, forF_cons] at q'
    refine .inr ⟨go, fun σ2 H2 => ∃ b' w U2, Stt g Mt U0 H0 U2 σ2 H2 b' (env w) ∧ Ev U H1 U2 H2 ∧ Al (flP g Mt U0 H0 U2 H2 D env envL) (exS g Mt U0 H0 E) (forF f (ds.drop (i + 1)) w) b', ?_, ?_⟩
    · rintro σ2 H2 ⟨b2, w2, U2, s2, e2, q2⟩
      exact ⟨ds.length - (i + 1), by omega, b2, w2, U2, rfl, hlt, s2, e2, q2⟩
    · intro x H2 hy
      obtain ⟨dn, sm⟩ := y x H2 hy
      have s2 := s'.fr (fr_same sm) (s'.wd.same sm)
      have ev2 : Ev U' H' U' H2 := s'.uok.ev (fr_same sm)
      refine hb _ w Mt U0 H0 U' _ σ' H2 b' x s2 dn ((al_bd.mp q').mono (fun r b2 h2 => ?_) (fun _ _ _ z => z))
      cases r with
      | nx w' => exact fun U3 σ3 H3 e3 s3 => ⟨b2, w', U3, s3, e'.trans (ev2.trans e3), Al.mono (fun _ _ z => z.ev (ev2.trans e3)) (fun _ _ _ z => z) h2⟩
      | ct w' => exact fun U3 σ3 H3 e3 s3 => ⟨b2, w', U3, s3, e'.trans (ev2.trans e3), Al.mono (fun _ _ z => z.ev (ev2.trans e3)) (fun _ _ _ z => z) h2⟩
      | bk w' => exact fun U3 σ3 H3 e3 s3 => h2 U3 σ3 H3 (ev2.trans e3) s3
      | rt d => exact h2
  · have e : i = ds.length := by omega
    subst e
    rw [List.drop_length] at q'
    exact .inl ⟨it2 (rfl), q' U' σ' H' Ev.refl s'⟩
end
end Gp
end
section
set_option Elab.async false
set_option linter.all false
set_option maxRecDepth 100000
set_option maxHeartbeats 4000000
namespace Gp
open PySem PySem.Spec PyProof.Rows L2 Gh
section
variable {g : Gw} {Mt U0 U U' : Addr → Prop} {H0 H H' H1 H2 : Hp} {b b1 : Nat} {σ : L2.St} {ε ε' : Env} {E : XK} {W L W' : Type}
variable {env : W → Env} {envL : L → Env} {env' : W' → Env} {u ta tb : TS} {te : TE} {me : Tr D}
theorem ss_for {wi : TI} {gt : TG} {mi : Tr (List D)} {f : D → W' → Tr (Fl W' W')} {w0 : W'} {tb : TS} {k : W' → Tr (Fl W L)} (env' : W' → Env) (hi : SI g E ε wi mi) (l : Le (env' w0) ε) (hb : ∀ d w, SX g E (env' w) d gt tb env' env' (f d w)) (hk : ∀ w, SS g E (env' w) u env envL (k w)) :
    SS g E ε (tSeq (tFor wi gt tb) u) env envL (bdF (bd mi fun ds => forF f ds w0) k) := (ss_for0 hi l hb).seq hk
def itD : D → Tr (List D)
  | .lst ds => .ok ds
  | .tup ds => .ok ds
  | .str x => .ok (x.cps.toList.map fun c => .str ⟨#[c]⟩)
  | _ => .bad
theorem den_lst {v : V} {ds : List D} (h : Den g U H v (.lst ds)) : ∃ a vs, v = .ref a ∧ H a = some (.lst vs) ∧ ¬ U a ∧ vs.length ≤ sizeLine ∧ DenL g U H vs ds := by
  cases h with
  | lst h n l k => exact ⟨_, _, rfl, h, n, l, k⟩
theorem den_str {v : V} {x : Str} (h : Den g U H v (.str x)) : v = .str x ∧ x.length ≤ sizeLine := by
  cases h with
  | str x h => exact ⟨rfl, h⟩
theorem den_int {v : V} {i : Int} (h : Den g U H v (.int i)) : v = .int i := by cases h; rfl
theorem den1 {c : Nat} : Den g U H (.str ⟨#[c]⟩) (.str ⟨#[c]⟩) := .str _ (by show 1 ≤ sizeLine; decide)
theorem itd_lst {a : Addr} {vs : List V} {ds : List D} (h : H a = some (.lst vs)) (n : ¬ U a) (k : DenL g U H vs ds) : ItD g U H (Itl g.K a) ds := fun i U1 H1 b e w u => by
  have h1 : H1 a = some (.lst vs) := e.keep _ _ h n (fun _ z => by cases z)
  refine ⟨fun d hd => ?_, fun hl => ⟨vs, SqL.of h1, by rw [k.length]; exact Nat.le_of_eq hl⟩⟩
  obtain ⟨v, hv, dn⟩ := k.getD hd
  refine ⟨⟨vs, v, SqL.of h1, hv⟩, ?_⟩
  rintro x H2 ⟨rfl, hx⟩
  have e2 := hx vs (SqL.of h1)
  rw [hv] at e2
  cases e2
  exact ⟨dn.ev e, fun _ _ z => z⟩
theorem itd_tup {a : Addr} {vs : List V} {ds : List D} (h : ∀ U1 H1, Ev U H U1 H1 → SqT g.K H1 a vs) (k : DenL g U H vs ds) : ItD g U H (Itt g.K a) ds := fun i U1 H1 b e w u => by
  have h1 := h U1 H1 e
  refine ⟨fun d hd => ?_, fun hl => ⟨vs, h1, by rw [k.length]; exact Nat.le_of_eq hl⟩⟩
  obtain ⟨v, hv, dn⟩ := k.getD hd
  refine ⟨⟨vs, v, h1, hv⟩, ?_⟩
  rintro x H2 ⟨rfl, hx⟩
  have e2 := hx vs h1
  rw [hv] at e2
  cases e2
  exact ⟨dn.ev e, fun _ _ z => z⟩
theorem den_tupE {v : V} {ds : List D} (h : Den g U H v (.tup ds)) : ∃ a vs, v = .ref a ∧ (∀ U1 H1, Ev U H U1 H1 → SqT g.K H1 a vs) ∧ vs.length ≤ sizeLine ∧ DenL g U H vs ds := by
  cases h with
  | tup h n l k => exact ⟨_, _, rfl, fun U1 H1 e => SqT.of (e.keep _ _ h n (fun _ z => by cases z)), l, k⟩
  | tupW h l k _ => exact ⟨_, _, rfl, fun U1 H1 e => h H1, l, k⟩
theorem itd_str (x : Str) : ItD g U H (Its x) (x.cps.toList.map fun c => .str ⟨#[c]⟩) := fun i U1 H1 b e w u => by
  refine ⟨fun d hd => ?_, fun hl => by rw [List.length_map, Array.length_toList] at hl; exact Nat.le_of_eq hl⟩
  rw [List.getElem?_map] at hd
  cases q : x.cps.toList[i]? with
  | none => rw [q] at hd; cases hd
  | some c =>
    rw [q] at hd
    cases hd
    have hi : i < x.cps.size := by
      have := (List.getElem?_eq_some_iff.mp q).1
      rw [Array.length_toList] at this
      exact this
    refine ⟨hi, ?_⟩
    rintro y H2 ⟨rfl, c', hc, rfl⟩
    rw [Array.getElem?_toList] at q
    rw [q] at hc
    cases hc
    exact ⟨den1, fun _ _ z => z⟩
def iSeq (K : PySem.W.Frag) (te : TE) : TI := fun σ H R => te σ H fun x H1 => (∃ a, x = .ref a ∧ (∃ xs, SqL K H1 a xs) ∧ R (Itl K a) H1) ∨ (∃ a, x = .ref a ∧ (∃ xs, SqT K H1 a xs) ∧ R (Itt K a) H1) ∨ ∃ z, x = .str z ∧ R (Its z) H1
theorem pi_seq {X : Cx} {K : PySem.W.Frag} {tg e : Expr} {te : TE} (hK : X.K = K) (he : PE X e te) : PI X tg e (iSeq K te) := by
  subst hK
  refine ⟨fun pins s σ H R I h => ?_⟩
  refine thn (he.run pins s σ H _ I h) fun v s1 ⟨x, H1, I1, r1, q1⟩ => ?_
  rcases q1 with ⟨a, e, ⟨xs, hq⟩, q⟩ | ⟨a, e, ⟨xs, hq⟩, q⟩ | ⟨z, ex, q⟩
  · subst e
    cases r1
    obtain ⟨its, rv, p, hz⟩ := I1.list hq
    refine wpAny_pyIter_list p.isList ?_
    refine ⟨s1.heap.objs.size, [s1.heap.objs.size], _, _, H1, rfl, I1.kept (t' := s1.toks) fun b o e => Heap.get?_push_of_some _ e, turn_list a _, ⟨_, Heap.get?_push_size _ rfl, rfl, rfl⟩, fun b hb => ?_, q⟩
    have e : b = s1.heap.objs.size := by simpa using hb
    subst e
    exact I1.fpOk (Nat.le_refl _) (I1.hok.fresh (Nat.le_refl _))
  · subst e
    cases r1
    obtain ⟨its, rv, p, hz⟩ := I1.tuple hq
    refine wpAny_pyIter_tuple (show s1.heap.IsTuple a its.toArray from p) ?_
    refine ⟨s1.heap.objs.size, [s1.heap.objs.size], _, _, H1, rfl, I1.kept (t' := s1.toks) fun b o e => Heap.get?_push_of_some _ e, turn_tuple a _, ⟨_, Heap.get?_push_size _ rfl, rfl, rfl⟩, fun b hb => ?_, q⟩
    have e : b = s1.heap.objs.size := by simpa using hb
    subst e
    exact I1.fpOk (Nat.le_refl _) (I1.hok.fresh (Nat.le_refl _))
  · subst ex
    obtain ⟨t, rfl⟩ := r1
    cases ha : z.cps.all (· < 128)
    · exact wpAny_pyIter_wide ha (pi_one (tk := s1.toks) I1 _ (turn_str _ z t "str_iterator" (.inr rfl)) ⟨_, Heap.get?_push_size _ rfl, rfl, rfl⟩ q)
    · exact wpAny_pyIter_ascii ha (pi_one (tk := s1.toks) I1 _ (turn_str _ z t "str_ascii_iterator" (.inl rfl)) ⟨_, Heap.get?_push_size _ rfl, rfl, rfl⟩ q)
theorem si_seq (he : SE g E ε te me) : SI g E ε (iSeq g.K te) (bd me itD) := fun U σ H b R rl wd u q =>
  he.step rl wd u q fun v d H1 b1 d1 w1 f1 R1 u1 q1 => by
    cases d with
    | lst ds =>
      obtain ⟨a, vs, rfl, h, n, l, k⟩ := den_lst d1
      exact .inl ⟨a, rfl, ⟨vs, SqL.of h⟩, q1 _ H1 (by rw [← k.length]; exact l) (itd_lst h n k) w1 f1⟩
    | tup ds =>
      obtain ⟨a, vs, rfl, h, l, k⟩ := den_tupE d1
      exact .inr (.inl ⟨a, rfl, ⟨vs, h U H1 Ev.refl⟩, q1 _ H1 (by rw [← k.length]; exact l) (itd_tup h k) w1 f1⟩)
    | str x =>
      obtain ⟨rfl, l⟩ := den_str d1
      exact .inr (.inr ⟨x, rfl, q1 _ H1 (by rw [List.length_map, Array.length_toList]; exact l) (itd_str x) w1 f1⟩)
    | _ => exact q1.elim
def rgD (lo : Int) (n : Nat) : List D := (List.range n).map fun i => .int (lo + (i : Nat))
theorem itd_rg (lo : Int) (n : Nat) : ItD g U H (Itr lo n) (rgD lo n) := fun i U1 H1 b e w u => by
  refine ⟨fun d hd => ?_, fun hl => by unfold rgD at hl; rw [List.length_map, List.length_range] at hl; exact Nat.le_of_eq hl⟩
  unfold rgD at hd
  rw [List.getElem?_map] at hd
  have hi : i < n := by
    cases q : (List.range n)[i]? with
    | none => rw [q] at hd; cases hd
    | some c =>
      have := (List.getElem?_eq_some_iff.mp q).1
      rwa [List.length_range] at this
  rw [List.getElem?_range hi] at hd
  cases hd
  refine ⟨hi, ?_⟩
  rintro y H2 ⟨rfl, rfl⟩
  exact ⟨.int _, fun _ _ z => z⟩
def rg1 (x : D) : Tr (List D) := match x with
  | .int j => if -(2 ^ 62) ≤ j ∧ j ≤ 16777216 then .ok (rgD 0 j.toNat) else .bad
  | _ => .bad
theorem si_rg1 {t : TA} {m : Tr (List D)} (ha : SA g E ε t m) : SI g E ε (iRng1 t) (bd m (ul1 rg1)) := fun U σ H b R rl wd u q =>
  ha.step rl wd u q fun v d H1 b1 d1 w1 f1 R1 u1 q1 => by
    obtain ⟨x, rfl, q2⟩ := al_ul1 q1
    obtain ⟨v, rfl, e1⟩ := denL_1 d1
    cases x with
    | int j =>
      cases den_int e1
      unfold rg1 at q2
      dsimp only at q2
      split at q2
      · rename_i hj
        exact ⟨j, rfl, hj.1, by omega, q2 _ H1 (by unfold rgD; rw [List.length_map, List.length_range, sizeLine_eq]; omega) (itd_rg 0 _) w1 f1⟩
      · exact q2.elim
    | _ => exact q2.elim
def lcF (f : D → Tr (Option D)) : List D → Tr (List D)
  | [] => .ok []
  | x :: xs => bd (f x) fun o => bd (lcF f xs) fun r => .ok (match o with | some y => y :: r | none => r)
theorem lcF_nil (f : D → Tr (Option D)) : lcF f [] = .ok [] := rfl
theorem lcF_cons (f : D → Tr (Option D)) (x : D) (xs : List D) : lcF f (x :: xs) = bd (f x) fun o => bd (lcF f xs) fun r => .ok (match o with | some y => y :: r | none => r) := rfl
def okO (g : Gw) (U : Addr → Prop) (H : Hp) (Q : Option V → Hp → Prop) : Option D → Nat → Prop
  | some y, b => ∀ w H', Den g U H' w y → Wd g H' b → Fr H H' g.p → Q (some w) H'
  | none, b => ∀ H', Wd g H' b → Fr H H' g.p → Q none H'
def SC (g : Gw) (ε : Env) (d : D) (gt : TG) (tt : TT) (te : TE) (vs : List Nat) (m : Tr (Option D)) : Prop := ∀ U σ H b v (Q : Option V → Hp → Prop), Rel g U H σ ε → Wd g H b → UOk g U H → Den g U H v d → Al (okO g U H Q) (fun _ _ _ => False) m b →
  gt v (wipe σ vs) H fun σ2 H2 => wipe σ2 vs = wipe σ vs ∧ tt σ2 H2 fun k H3 => if k = true then te σ2 H3 (fun y H4 => Q (some y) H4) else Q none H3
theorem al_noX {α : Type} {P : α → Nat → Prop} {X : Str → Fs → Nat → Prop} {m : Tr α} (h : Al P X (nox m) b) : Al P (fun _ _ _ => False) m b := al_nox h
theorem se_lc {wi : TI} {gt : TG} {tt : TT} {vs : List Nat} {mi : Tr (List D)} {f : D → Tr (Option D)} (hi : SI g E ε wi mi) (hf : ∀ d, SC g ε d gt tt te vs (f d)) : SE g E ε (tLc wi gt tt te vs) (bd mi fun ds => bd (lcF (fun d => nox (f d)) ds) fun r => .ok (.lst r)) := fun U σ H b Q rl wd u q => by
  refine hi U σ H b _ rl wd u ((al_bd.mp q).mono (fun ds b1 h1 J H1 hsz it w1 f1 => ?_) (fun _ _ _ h => h))
  intro A nA
  have u1 := u.fr f1 w1
  have nUA : ¬ U A := u1.new nA
  have hp : A ≠ g.p := fun z => nUA (z ▸ u.p)
  have hc : A ≠ g.c := fun z => nUA (z ▸ u.c)
  have rl1 := (rl.fr u f1).grow nA
  generalize hV : (fun a => U a ∨ a = A) = V at rl1
  have VA : V A := by rw [← hV]; exact .inr rfl
  have VU : ∀ a, U a → V a := fun a z => by rw [← hV]; exact .inl z
  have VO : ∀ a o, H1 a = some o → ¬ U a → ¬ V a := fun a o e n => by
    rw [← hV]
    rintro (z | z)
    · exact n z
    · exact ne_of_none e nA z
  have uv : ∀ {H' : Hp} {b : Nat} {o : List L2.V}, Fr H1 H' g.p → Wd g H' b → H' A = some (.lst o) → UOk g V H' := fun f w h => ⟨VU _ u.p, VU _ u.c, fun a ha => by
    rw [← hV] at ha
    rcases ha with ha | rfl
    · exact (u1.fr f w).al a ha
    · exact ⟨_, h, (fun _ z => by cases z), (fun _ z => by cases z)⟩⟩
  refine ⟨fun i m H' => ∃ b' accV accD, m = ds.length - i ∧ i ≤ ds.length ∧ accV.length ≤ i ∧ H' A = some (.lst accV) ∧ DenL g V H' accV accD ∧ Wd g H' b' ∧ Fr H1 H' g.p ∧ Al (fun r b => okP g U H Q (.lst (accD ++ r)) b) (exP g U E H) (lcF (fun d => nox (f d)) (ds.drop i)) b', ?_, ?_⟩
  · refine ⟨ds.length, b1, [], [], by simp, Nat.zero_le _, Nat.zero_le _, upd_same, .nil, w1.same (same_new nA), fr_same (same_new nA), ?_⟩
    exact (al_bd.mp h1).mono (fun r b h => h) (fun _ _ _ h => h)
  · rintro i m H' ⟨b', accV, accD, rfl, hle, hla, hA, dA, w', f', q'⟩
    have u' := uv f' w' hA
    have ev' : Ev U H1 V H' := ⟨fun a o e n t => f' a o e (fun z => n (z ▸ u.p)) t, fun a o e n _ => VO a o e n⟩
    obtain ⟨it1, it2⟩ := it i V H' b' ev' w' u'
    by_cases hlt : i < ds.length
    · have ei : ds[i]? = some ds[i] := List.getElem?_eq_getElem hlt
      obtain ⟨go, y⟩ := it1 _ ei
      rw [List.drop_eq_getElem_cons hlt, lcF_cons] at q'
      refine .inr ⟨go, fun H' => ∃ b' accV accD, accV.length ≤ i + 1 ∧ H' A = some (.lst accV) ∧ DenL g V H' accV accD ∧ Wd g H' b' ∧ Fr H1 H' g.p ∧ Al (fun r b => okP g U H Q (.lst (accD ++ r)) b) (exP g U E H) (lcF (fun d => nox (f d)) (ds.drop (i + 1))) b', ?_, ?_⟩
      · rintro H2 ⟨b2, av, ad, h1, h2⟩
        exact ⟨ds.length - (i + 1), by omega, b2, av, ad, rfl, hlt, h1, h2⟩
      · intro x H2 hy
        obtain ⟨dn, sm⟩ := y x H2 hy
        have w2 := w'.same sm
        have f2 : Fr H1 H2 g.p := f'.trans (fr_same sm)
        have hA2 := sm _ _ hA
        refine hf ds[i] V σ H2 b' x (fun o H4 => match o with
          | some y => ∃ acc, H4 A = some (.lst acc) ∧ acc.length < sizeLine ∧ ∃ b' accV accD, accV.length ≤ i + 1 ∧ (upd H4 A (.lst (acc ++ [y]))) A = some (.lst accV) ∧ DenL g V (upd H4 A (.lst (acc ++ [y]))) accV accD ∧ Wd g (upd H4 A (.lst (acc ++ [y]))) b' ∧ Fr H1 (upd H4 A (.lst (acc ++ [y]))) g.p ∧ Al (fun r b => okP g U H Q (.lst (accD ++ r)) b) (exP g U E H) (lcF (fun d => nox (f d)) (ds.drop (i + 1))) b'
          | none => ∃ b' accV accD, accV.length ≤ i + 1 ∧ H4 A = some (.lst accV) ∧ DenL g V H4 accV accD ∧ Wd g H4 b' ∧ Fr H1 H4 g.p ∧ Al (fun r b => okP g U H Q (.lst (accD ++ r)) b) (exP g U E H) (lcF (fun d => nox (f d)) (ds.drop (i + 1))) b')
          (rl1.frp (VU _ u.p) f2) w2 (uv f2 w2 hA2) dn ((al_noX (al_bd.mp q')).mono (fun o b2 h2 => ?_) (fun _ _ _ z => z))
        have h3 := al_bd.mp h2
        cases o with
        | some y =>
          intro w H4 dw w4 f4
          have hA4 := f4 _ _ hA2 hp (fun _ z => by cases z)
          have e4 : ExtU V H4 (upd H4 A (.lst (accV ++ [w]))) := fun a o e n _ => by
            rw [upd_ne (fun z => n (by rw [z]; exact VA))]
            exact e
          have k4 : Keep H4 (upd H4 A (.lst (accV ++ [w]))) A := fun a o e n => by rw [upd_ne n]; exact e
          refine ⟨accV, hA4, Nat.lt_of_le_of_lt hla (Nat.lt_of_lt_of_le hlt hsz), b2, accV ++ [w], accD ++ [y], ?_, upd_same, ?_, ?_, ?_, ?_⟩
          · rw [List.length_append]
            exact Nat.add_le_add_right hla 1
          · exact DenL.append ((dA.ext (extU_of (VU _ u.p) ((fr_same sm).trans f4))).ext e4) (.cons (dw.ext e4) .nil)
          · exact ⟨w4.pen.keep k4 hp hc, tabs_keepL k4 hA4 w4.tabs⟩
          · intro a o e n t
            rw [upd_ne (ne_of_none e nA)]
            exact f4 _ _ (f2 a o e n t) n t
          · exact h3.mono (fun r b h => by
              have : okP g U H Q (.lst (accD ++ (y :: r))) b := h
              rw [List.append_cons] at this
              exact this) (fun _ _ _ z => z)
        | none =>
          intro H4 w4 f4
          exact ⟨b2, accV, accD, Nat.le_succ_of_le hla, f4 _ _ hA2 hp (fun _ z => by cases z), dA.ext (extU_of (VU _ u.p) ((fr_same sm).trans f4)), w4, f2.trans f4, h3.mono (fun r b h => h) (fun _ _ _ z => z)⟩
    · have e : i = ds.length := by omega
      subst e
      rw [List.drop_length, lcF_nil] at q'
      refine .inl ⟨it2 (rfl), ?_⟩
      have q2 : okP g U H Q (.lst (accD ++ [])) b' := q'
      rw [List.append_nil] at q2
      exact q2 _ H' (.lst hA nUA (Nat.le_trans hla hsz) (dA.sub fun a _ z => VU a z)) w' (f1.trans f')
end
end Gp
end
section
set_option Elab.async false
set_option linter.all false
set_option maxRecDepth 100000
set_option maxHeartbeats 4000000
namespace Gp
open PySem PySem.Spec PyProof.Rows L2 Gh
section
variable {g : Gw} {Mt U0 U U' : Addr → Prop} {H0 H H' H1 H2 : Hp} {b b1 : Nat} {σ : L2.St} {ε ε' : Env} {E : XK} {W L W' : Type}
variable {env : W → Env} {envL : L → Env} {env' : W' → Env} {u ta tb : TS} {te : TE} {me : Tr D}
theorem sc_name {i : Nat} {d : D} {tt : TT} {mt : Tr Bool} (ht : ST g EF (ε.set i (.fz d)) tt mt) (he : SE g EF (ε.set i (.fz d)) te me) : SC g ε d (gName i) tt te [i] (bd mt fun k => if k = true then bd me fun y => .ok (some y) else .ok none) := fun U σ H b v Q rl wd u dn q => by
  have e1 : wipe σ [i] = σ.set i none := rfl
  rw [e1]
  show wipe ((σ.set i none).set i (some v)) [i] = _ ∧ _
  rw [List.set_set]
  refine ⟨?_, ?_⟩
  · show (σ.set i (some v)).set i none = _
    rw [List.set_set]
  · refine ht.step (rl.set i dn) wd u (q.mono (fun _ _ z => z) (fun _ _ _ z => exP.F z)) fun k H1 b1 w1 f1 R1 u1 q1 => ?_
    cases k with
    | true =>
      refine he.step R1 w1 u1 q1 fun y e H2 b2 d2 w2 f2 R2 u2 q2 => ?_
      exact q2 y H2 d2 w2 (f1.trans f2)
    | false => exact q1 H1 w1 f1
theorem sc_map {i : Nat} {d : D} (he : SE g EF (ε.set i (.fz d)) te me) : SC g ε d (gName i) tYes te [i] (bd me fun y => .ok (some y)) := fun U σ H b v Q rl wd u dn q => by
  have e1 : wipe σ [i] = σ.set i none := rfl
  rw [e1]
  show wipe ((σ.set i none).set i (some v)) [i] = _ ∧ _
  rw [List.set_set]
  refine ⟨?_, ?_⟩
  · show (σ.set i (some v)).set i none = _
    rw [List.set_set]
  · show te (σ.set i (some v)) H fun y H4 => Q (some y) H4
    refine he.step (rl.set i dn) wd u (q.mono (fun _ _ z => z) (fun _ _ _ z => exP.F z)) fun y e H2 b2 d2 w2 f2 R2 u2 q2 => ?_
    exact q2 y H2 d2 w2 f2
theorem wipe2 {i j : Nat} (n : i ≠ j) (v w : V) : wipe ((((σ.set j none).set i none).set i (some v)).set j (some w)) [i, j] = (σ.set j none).set i none := by
  show ((((((σ.set j none).set i none).set i (some v)).set j (some w)).set j none).set i none) = _
  rw [List.set_set, List.set_set, List.set_comm _ _ n, List.set_set, List.set_set]
theorem set2 {α : Type} {l : List α} {i j : Nat} (n : i ≠ j) (x y v w : α) : (((l.set j x).set i y).set i v).set j w = (l.set i v).set j w := by
  rw [List.set_set, List.set_comm _ _ n.symm, List.set_set]
theorem sc_tup2 {i j : Nat} {d : D} {tt : TT} {mt : D → D → Tr Bool} {me : D → D → Tr D} (n : i ≠ j) (ht : ∀ x y, ST g EF ((ε.set i (.fz x)).set j (.fz y)) tt (mt x y)) (he : ∀ x y, SE g EF ((ε.set i (.fz x)).set j (.fz y)) te (me x y)) :
    SC g ε d (gTup g.K 2 (gCons (gName i) (gCons (gName j) gNil))) tt te [i, j] (un2 d fun x y => bd (mt x y) fun k => if k = true then bd (me x y) fun y => .ok (some y) else .ok none) := fun U σ H b v Q rl wd u dn q => by
  obtain ⟨x, y, rfl, q1⟩ := al_un2 q
  obtain ⟨a, vs, rfl, sq, _, k⟩ := den_tup dn
  obtain ⟨v1, v2, rfl, e1, e2⟩ := denL_2 k
  refine ⟨a, [v1, v2], rfl, sq, rfl, v1, [v2], rfl, v2, [], rfl, rfl, ?_, ?_⟩
  · exact wipe2 n v1 v2
  · show tt ((((σ.set j none).set i none).set i (some v1)).set j (some v2)) H fun k H3 => if k = true then te ((((σ.set j none).set i none).set i (some v1)).set j (some v2)) H3 (fun y H4 => Q (some y) H4) else Q none H3
    rw [set2 n]
    refine (ht x y).step ((rl.set i e1).set j e2) wd u (q1.mono (fun _ _ z => z) (fun _ _ _ z => exP.F z)) fun k H1 b1 w1 f1 R1 u1 q1 => ?_
    cases k with
    | true =>
      refine (he x y).step R1 w1 u1 q1 fun y e H2 b2 d2 w2 f2 R2 u2 q2 => ?_
      exact q2 y H2 d2 w2 (f1.trans f2)
    | false => exact q1 H1 w1 f1
theorem ownAt_setO {i j : Nat} {v : V} {ds : Ow} {a : Addr} (h : OwnAt (σ.set i (some v)) (ε.set i (.ow ds)) j a) : (i = j ∧ v = .ref a) ∨ (i ≠ j ∧ OwnAt σ ε j a) := by
  obtain ⟨h1, h2⟩ := h
  by_cases e : i = j
  · subst e
    rw [List.getElem?_set_self'] at h1
    cases q : σ[i]? with
    | none => rw [q] at h1; cases h1
    | some z => rw [q] at h1; cases h1; exact .inl ⟨rfl, rfl⟩
  · rw [List.getElem?_set_ne e] at h1 h2
    exact .inr ⟨e, h1, h2⟩
theorem own_new {A : Addr} {vs : List V} {ds : List D} {i : Nat} (s : Stt g Mt U0 H0 U σ H b ε) (n : H A = none) (l : vs.length ≤ sizeLine) (dn : DenL g U H vs ds) (hA : A ≠ 0 ∨ True := .inr trivial) :
    Stt g Mt U0 H0 (fun a => U a ∨ a = A) (σ.set i (some (.ref A))) (upd H A (.lst vs)) b (ε.set i (.ow ds)) ∧ Ev U H (fun a => U a ∨ a = A) (upd H A (.lst vs)) := by
  have sm := same_new (o := .lst vs) n
  have nU : ¬ U A := s.uok.new n
  have hp : A ≠ g.p := fun z => nU (z ▸ s.uok.p)
  have hc : A ≠ g.c := fun z => nU (z ▸ s.uok.c)
  have r1 : Rel g (fun a => U a ∨ a = A) (upd H A (.lst vs)) σ ε := (s.rel.grow n).frp (.inl s.uok.p) (fr_same sm)
  have sig : ∀ j a, OwnAt σ ε j a → ∃ o, H a = some o := fun j a h => by
    obtain ⟨h1, ⟨ds, h2⟩ | ⟨c, fs, h2⟩⟩ := h
    · obtain ⟨o, e, a', vs, e2, h, _⟩ := s.rel.at_ j _ h2
      rw [h1] at e
      cases e
      cases e2
      exact ⟨_, h⟩
    · obtain ⟨o, e, a', dx, fvs, e2, h, _⟩ := s.rel.at_ j _ h2
      rw [h1] at e
      cases e
      cases e2
      exact ⟨_, h⟩
  refine ⟨⟨⟨by rw [List.length_set, List.length_set]; exact r1.len, fun j x e => ?_, fun j k a ne h1 h2 => ?_⟩, s.wd.same sm, ⟨.inl s.uok.p, .inl s.uok.c, fun a ha => ?_⟩, fun a z => .inl (s.sub a z), fun j a h => ?_, s.ext.trans (fr_same sm), fun j xs a e1 e2 => ?_, fun j c fs a j0 e1 e2 => ?_⟩, fun a o e _ _ => sm a o e, fun a o e n1 _ => ?_⟩
  · by_cases q : i = j
    · subst q
      have hl : i < ε.length := by
        cases z : ε[i]? with
        | none => rw [List.getElem?_set_self', z] at e; cases e
        | some w => exact (List.getElem?_eq_some_iff.mp z).1
      rw [List.getElem?_set_self hl] at e
      cases e
      exact ⟨_, List.getElem?_set_self (by rw [r1.len]; exact hl), A, _, rfl, upd_same, ⟨vs, rfl, l, (dn.grow n).ext (fun a o e _ _ => sm a o e)⟩, .inr rfl, hp, hc⟩
    · rw [List.getElem?_set_ne q] at e ⊢
      exact r1.at_ j x e
  · rcases ownAt_setO h1 with ⟨rfl, z1⟩ | ⟨n1, z1⟩ <;> rcases ownAt_setO h2 with ⟨rfl, z2⟩ | ⟨n2, z2⟩
    · exact ne rfl
    · cases z1
      obtain ⟨o, e⟩ := sig _ _ z2
      rw [n] at e
      cases e
    · cases z2
      obtain ⟨o, e⟩ := sig _ _ z1
      rw [n] at e
      cases e
    · exact s.rel.apart j k a ne z1 z2
  · rcases ha with ha | rfl
    · obtain ⟨o, e, t⟩ := s.uok.al a ha
      exact ⟨o, sm a o e, t⟩
    · exact ⟨_, upd_same, (fun _ z => by cases z), (fun _ z => by cases z)⟩
  · rcases ownAt_setO h with ⟨rfl, z⟩ | ⟨_, z⟩
    · cases z
      by_cases m : Mt A
      · exact .inl m
      · refine .inr fun o q => ?_
        by_cases t : ∃ ps, o = .tbl ps
        · exact t
        · have := s.ext A o q hp m (fun ps z => t ⟨ps, z⟩)
          rw [n] at this
          cases this
    · exact s.own j a z
  · by_cases q : i = j
    · subst q
      rw [List.getElem?_set_self'] at e2
      cases z : σ[i]? with
      | none => rw [z] at e2; cases e2
      | some w =>
        rw [z] at e2
        cases e2
        exact fun h => nU (s.sub _ h)
    · rw [List.getElem?_set_ne q] at e1 e2
      exact s.nu0 j xs a e1 e2
  · by_cases q : i = j
    · subst q
      cases z : ε[i]? with
      | none => rw [List.getElem?_set_self', z] at e1; cases e1
      | some w => rw [List.getElem?_set_self', z] at e1; cases e1
    · rw [List.getElem?_set_ne q] at e1 e2
      exact s.oim j c fs a j0 e1 e2
  · rintro (z | z)
    · exact n1 z
    · exact ne_of_none e n z
def okN (g : Gw) (U : Addr → Prop) (H : Hp) (Q : VK) : List D → Nat → Prop := fun ds b => ∀ A vs H1, H1 A = none → vs.length ≤ sizeLine → DenL g U H1 vs ds → Wd g H1 b → Fr H H1 g.p → Q (.ref A) (upd H1 A (.lst vs))
def SN (g : Gw) (E : XK) (ε : Env) (t : TE) (m : Tr (List D)) : Prop := ∀ U σ H b Q, Rel g U H σ ε → Wd g H b → UOk g U H → Al (okN g U H Q) (exP g U E H) m b → t σ H Q
theorem sn_lst {t : TA} {m : Tr (List D)} (ha : SA g E ε t m) : SN g E ε (tLst t) (bd m fun ds => if ds.length ≤ sizeLine then .ok ds else .bad) := fun U σ H b Q R W u q =>
  ha.step R W u q fun v d H1 b1 d1 w1 f1 R1 u1 q1 => by
    by_cases hl : d.length ≤ sizeLine
    · rw [if_pos hl] at q1
      have hl' : v.length ≤ sizeLine := by rw [d1.length]; exact hl
      exact ⟨hl', fun p np => q1 p v H1 np hl' d1 w1 f1⟩
    · rw [if_neg hl] at q1
      exact q1.elim
theorem ss_own {i : Nat} {t : TE} {m : Tr (List D)} {k : List D → Tr (Fl W L)} (he : SN g E ε t m) (hk : ∀ ds : List D, SS g E (ε.set i (.ow ds)) u env envL (k ds)) : SS g E ε (tSeq (tAsg t (gName i)) u) env envL (bd m k) := fun Mt U0 H0 U D σ H b s q =>
  he U σ H b _ s.rel s.wd s.uok ((al_bd.mp q).mono (fun ds b1 h1 A vs H1 n l dn w f => by
    obtain ⟨s1, e1⟩ := own_new (i := i) (s.fr f w) n l dn
    exact hk ds Mt U0 H0 _ D _ _ b1 s1 (h1.mono (fun _ _ z => z.ev ((s.uok.ev f).trans e1)) (fun _ _ _ z => z))) (fun _ _ _ h => exS.exP s h))
theorem own_mut {vs' : List V} {ds ds' : List D} {i : Nat} (s : Stt g Mt U0 H0 U σ H b ε) (hi : ε[i]? = some (.ow ds)) : ∃ a vs, σ[i]? = some (some (.ref a)) ∧ H a = some (.lst vs) ∧ vs.length ≤ sizeLine ∧ DenL g U H vs ds ∧ U a ∧ a ≠ g.p ∧ a ≠ g.c ∧
    ∀ (vs' : List V) (ds' : List D), vs'.length ≤ sizeLine → DenL g U H vs' ds' → Stt g Mt U0 H0 U σ (upd H a (.lst vs')) b (ε.set i (.ow ds')) ∧ Ev U H U (upd H a (.lst vs')) := by
  obtain ⟨o, eo, a, u0, rfl, h, ⟨vs, rfl, l, dn⟩, ua, n1, n2⟩ := s.rel.at_ i _ hi
  refine ⟨a, vs, eo, h, l, dn, ua, n1, n2, fun vs' ds' l' dn' => ?_⟩
  have kp : Keep H (upd H a (.lst vs')) a := fun x o e ne => by rw [upd_ne ne]; exact e
  have xt : ExtU U H (upd H a (.lst vs')) := fun x o e ne _ => kp x o e (fun z => ne (z ▸ ua))
  have il : i < ε.length := (List.getElem?_eq_some_iff.mp hi).1
  have ow : ∀ j x, OwnAt σ (ε.set i (.ow ds')) j x → OwnAt σ ε j x := fun j x z => by
    obtain ⟨z1, z2⟩ := z
    by_cases q : i = j
    · subst q
      exact ⟨z1, .inl ⟨ds, hi⟩⟩
    · rw [List.getElem?_set_ne q] at z2
      exact ⟨z1, z2⟩
  have apart : ∀ j x, i ≠ j → OwnAt σ ε j x → x ≠ a := fun j x ne z e => by
    subst e
    exact s.rel.apart i j x ne ⟨eo, .inl ⟨ds, hi⟩⟩ z
  refine ⟨⟨⟨by rw [List.length_set]; exact s.rel.len, fun j x e => ?_, fun j k x ne z1 z2 => s.rel.apart j k x ne (ow _ _ z1) (ow _ _ z2)⟩, ⟨s.wd.pen.keep kp n1 n2, tabs_keepL kp h s.wd.tabs⟩, ⟨s.uok.p, s.uok.c, fun x hx => ?_⟩, s.sub, fun j x z => s.own j x (ow _ _ z), fun x o e m1 m2 m3 => ?_, fun j xs x e1 e2 => ?_, fun j c fs x j0 e1 e2 => ?_⟩, xt, fun _ _ _ n _ => n⟩
  · by_cases q : i = j
    · subst q
      rw [List.getElem?_set_self il] at e
      cases e
      exact ⟨_, eo, a, _, rfl, upd_same, ⟨vs', rfl, l', dn'.ext xt⟩, ua, n1, n2⟩
    · rw [List.getElem?_set_ne q] at e
      obtain ⟨o, e1, e2⟩ := s.rel.at_ j x e
      refine ⟨o, e1, ?_⟩
      cases x with
      | no => trivial
      | fz d =>
        obtain ⟨v, e3, e4⟩ := e2
        exact ⟨v, e3, e4.ext xt⟩
      | ow ds2 =>
        obtain ⟨a2, v2, rfl, h2, d2, u2, m1, m2⟩ := e2
        have ne := apart j a2 q ⟨e1, .inl ⟨ds2, e⟩⟩
        exact ⟨a2, v2, rfl, kp _ _ h2 ne, d2.map (fun q => q.ext xt), u2, m1, m2⟩
      | oi c fs =>
        obtain ⟨a2, dx, v2, rfl, h2, d2, u2, m1, m2⟩ := e2
        have ne := apart j a2 q ⟨e1, .inr ⟨c, fs, e⟩⟩
        exact ⟨a2, dx, v2, rfl, kp _ _ h2 ne, d2.ext xt, u2, m1, m2⟩
  · by_cases q : x = a
    · subst q
      exact ⟨_, upd_same, (fun _ z => by cases z), (fun _ z => by cases z)⟩
    · obtain ⟨o, e, t⟩ := s.uok.al x hx
      exact ⟨o, kp x o e q, t⟩
  · have q : x ≠ a := fun z => by
      subst z
      rcases s.own i x ⟨eo, .inl ⟨ds, hi⟩⟩ with w | w
      · exact m2 w
      · obtain ⟨ps, z⟩ := w o e
        exact m3 ps z
    exact kp x o (s.ext x o e m1 m2 m3) q
  · by_cases q : i = j
    · subst q
      exact s.nu0 i ds x hi e2
    · rw [List.getElem?_set_ne q] at e1
      exact s.nu0 j xs x e1 e2
  · by_cases q : i = j
    · subst q
      rw [List.getElem?_set_self il] at e1
      cases e1
    · rw [List.getElem?_set_ne q] at e1
      exact s.oim j c fs x j0 e1 e2
theorem ss_fz {i : Nat} {ds : List D} {m : Tr (Fl W L)} (hi : ε[i]? = some (.ow ds)) (h : SS g E (ε.set i (.fz (.lst ds))) u env envL m) : SS g E ε u env envL m := fun Mt U0 H0 U D σ H b s q => by
  obtain ⟨a, vs, e1, h1, l1, d1, ua, n1, n2, _⟩ := own_mut (vs' := []) (ds' := []) s hi
  have il : i < ε.length := (List.getElem?_eq_some_iff.mp hi).1
  have sub : ∀ x, (∃ o, H x = some o) → (U x ∧ x ≠ a) → U x := fun x _ z => z.1
  have ow : ∀ j x, OwnAt σ (ε.set i (.fz (.lst ds))) j x → i ≠ j ∧ OwnAt σ ε j x := fun j x z => by
    obtain ⟨z1, z2⟩ := z
    by_cases q : i = j
    · subst q
      exfalso
      rcases z2 with ⟨y, z2⟩ | ⟨y1, y2, z2⟩
      · rw [List.getElem?_set_self il] at z2
        cases z2
      · rw [List.getElem?_set_self il] at z2
        cases z2
    · rw [List.getElem?_set_ne q] at z2
      exact ⟨q, z1, z2⟩
  have apart : ∀ j x, i ≠ j → OwnAt σ ε j x → x ≠ a := fun j x ne z e => by
    subst e
    exact s.rel.apart i j x ne ⟨e1, .inl ⟨ds, hi⟩⟩ z
  have ev : Ev U H (fun x => U x ∧ x ≠ a) H := ⟨fun _ _ e _ _ => e, fun _ _ _ n _ z => n z.1⟩
  refine h Mt U0 H0 (fun x => U x ∧ x ≠ a) D σ H b ⟨⟨by rw [List.length_set]; exact s.rel.len, fun j x e => ?_, fun j k x ne z1 z2 => s.rel.apart j k x ne (ow _ _ z1).2 (ow _ _ z2).2⟩, s.wd, ⟨⟨s.uok.p, n1.symm⟩, ⟨s.uok.c, n2.symm⟩, fun x hx => s.uok.al x hx.1⟩, fun x z => ⟨s.sub x z, fun e => s.nu0 i ds x hi (by rw [e1, e]) z⟩, fun j x z => s.own j x (ow _ _ z).2, s.ext, fun j xs x z1 z2 => ?_, fun j c fs x j0 z1 z2 => ?_⟩ (q.mono (fun _ _ z => z.ev ev) (fun _ _ _ z => z))
  · by_cases q : i = j
    · subst q
      rw [List.getElem?_set_self il] at e
      cases e
      exact ⟨_, e1, _, rfl, .lst h1 (fun z => z.2 rfl) l1 (d1.sub sub)⟩
    · rw [List.getElem?_set_ne q] at e
      obtain ⟨o, e3, e2⟩ := s.rel.at_ j x e
      refine ⟨o, e3, ?_⟩
      cases x with
      | no => trivial
      | fz d =>
        obtain ⟨v, e4, e5⟩ := e2
        exact ⟨v, e4, e5.sub sub⟩
      | ow ds2 =>
        obtain ⟨a2, v2, rfl, h2, d2, u2, m1, m2⟩ := e2
        have ne := apart j a2 q ⟨e3, .inl ⟨ds2, e⟩⟩
        exact ⟨a2, v2, rfl, h2, d2.map (fun q => q.sub sub), ⟨u2, ne⟩, m1, m2⟩
      | oi c fs =>
        obtain ⟨a2, dx, v2, rfl, h2, d2, u2, m1, m2⟩ := e2
        have ne := apart j a2 q ⟨e3, .inr ⟨c, fs, e⟩⟩
        exact ⟨a2, dx, v2, rfl, h2, d2.sub sub, ⟨u2, ne⟩, m1, m2⟩
  · obtain ⟨q, _, z3⟩ := ow j x ⟨z2, .inl ⟨xs, z1⟩⟩
    rw [List.getElem?_set_ne q] at z1
    exact s.nu0 j xs x z1 z2
  · by_cases q : i = j
    · subst q
      rw [List.getElem?_set_self il] at z1
      cases z1
    · rw [List.getElem?_set_ne q] at z1
      exact s.oim j c fs x j0 z1 z2
end
end Gp
end
section
set_option Elab.async false
set_option linter.all false
set_option maxRecDepth 100000
set_option maxHeartbeats 4000000
namespace Gp
open PySem PySem.Spec PyProof.Rows L2 Gh
section
variable {g : Gw} {Mt U0 U U' : Addr → Prop} {H0 H H' H1 H2 : Hp} {b b1 : Nat} {σ : L2.St} {ε ε' : Env} {E : XK} {W L W' : Type}
variable {env : W → Env} {envL : L → Env} {env' : W' → Env} {u ta tb : TS} {te : TE} {me : Tr D}
def spF (K : PySem.W.Frag) (T : List (Addr × Str)) (F : List D → Tr D) : Sp := fun vs H Q E => ∃ p c U ds b, DenL ⟨K, T, p, c⟩ U H vs ds ∧ Wd ⟨K, T, p, c⟩ H b ∧ UOk ⟨K, T, p, c⟩ U H ∧ Al (okP ⟨K, T, p, c⟩ U H Q) (exP ⟨K, T, p, c⟩ U E H) (F ds) b
def envE : Empty → Env := fun e => nomatch e
theorem rel_start {N : List Str} {vs : List V} {ds : List D} (h : DenL g U H vs ds) : Rel g U H (L2.start N vs) (ds.map Sl.fz ++ List.replicate (N.length - ds.length) Sl.no) := by
  have no : ∀ i a, ¬ OwnAt (L2.start N vs) (ds.map Sl.fz ++ List.replicate (N.length - ds.length) Sl.no) i a := fun i a ⟨_, z⟩ => by
    have : ∀ s : Sl, (ds.map Sl.fz ++ List.replicate (N.length - ds.length) Sl.no)[i]? = some s → (∃ d, s = .fz d) ∨ s = .no := fun s e => by
      have m := List.mem_of_getElem? e
      rcases List.mem_append.mp m with m | m
      · obtain ⟨d, _, e⟩ := List.mem_map.mp m
        exact .inl ⟨d, e.symm⟩
      · exact .inr (List.mem_replicate.mp m).2
    rcases z with ⟨x, z⟩ | ⟨x, y, z⟩
    · rcases this _ z with ⟨d, e⟩ | e <;> cases e
    · rcases this _ z with ⟨d, e⟩ | e <;> cases e
  have hl := h.length
  refine ⟨?_, fun i s e => ?_, fun i j a _ h1 _ => (no i a h1).elim⟩
  · unfold L2.start
    simp only [List.length_append, List.length_map, List.length_replicate, hl]
  · unfold L2.start
    by_cases q : i < ds.length
    · rw [List.getElem?_append_left (by rw [List.length_map]; exact q), List.getElem?_map] at e
      rw [List.getElem?_append_left (by rw [List.length_map, hl]; exact q), List.getElem?_map]
      cases z : ds[i]? with
      | none => rw [z] at e; cases e
      | some d =>
        rw [z] at e
        cases e
        obtain ⟨v, hv, dn⟩ := h.getD z
        rw [hv]
        exact ⟨some v, rfl, v, rfl, dn⟩
    · rw [List.getElem?_append_right (by rw [List.length_map]; omega), List.length_map] at e
      rw [List.getElem?_append_right (by rw [List.length_map, hl]; omega), List.length_map, hl]
      have m := List.mem_of_getElem? e
      obtain ⟨n0, rfl⟩ := List.mem_replicate.mp m
      have i1 := (List.getElem?_eq_some_iff.mp e).1
      rw [List.length_replicate] at i1
      exact ⟨none, by rw [List.getElem?_replicate, if_pos i1], trivial⟩
theorem fn_of {K : PySem.W.Frag} {T : List (Addr × Str)} {N : List Str} {F : List D → Tr D} {vs : List V} {Q : VK} {t : TS} {envU : Unit → Env} (h : spF K T F vs H Q E)
    (hs : ∀ p c ds, (∃ (P : D → Nat → Prop) (X : Str → Fs → Nat → Prop) (b : Nat), Al P X (F ds) b) → ∃ m, F ds = fin m ∧ SS ⟨K, T, p, c⟩ E (ds.map Sl.fz ++ List.replicate (N.length - ds.length) Sl.no) t envU envE m) : t { nx := fun _ H' => Q .non H', rt := Q } (L2.start N vs) H := by
  obtain ⟨p, c, U, ds, b, dn, wd, u, al⟩ := h
  obtain ⟨m, e, ss⟩ := hs p c ds ⟨_, _, _, al⟩
  rw [e] at al
  have nn : ∀ i a, ¬ OwnAt (L2.start N vs) (ds.map Sl.fz ++ List.replicate (N.length - ds.length) Sl.no) i a := fun i a ⟨_, z⟩ => by
    have : ∀ s : Sl, (ds.map Sl.fz ++ List.replicate (N.length - ds.length) Sl.no)[i]? = some s → (∃ d, s = .fz d) ∨ s = .no := fun s e => by
      have m := List.mem_of_getElem? e
      rcases List.mem_append.mp m with m | m
      · obtain ⟨d, _, e⟩ := List.mem_map.mp m
        exact .inl ⟨d, e.symm⟩
      · exact .inr (List.mem_replicate.mp m).2
    rcases z with ⟨x, z⟩ | ⟨x, y, z⟩
    · rcases this _ z with ⟨d, e⟩ | e <;> cases e
    · rcases this _ z with ⟨d, e⟩ | e <;> cases e
  refine ss (fun _ => False) U H U _ _ H b ⟨rel_start dn, wd, u, fun _ z => z, fun i a z => (nn i a z).elim, fun _ _ z _ _ _ => z, fun i ds' a z1 z2 => (nn i a ⟨z2, .inl ⟨ds', z1⟩⟩).elim, fun i c fs a _ z1 z2 => (nn i a ⟨z2, .inr ⟨c, fs, z1⟩⟩).elim⟩ ((al_bd.mp al).mono (fun f b1 h1 => ?_) (fun c fs b1 h1 => ?_))
  · cases f with
    | nx w => exact fun U' σ' H' e s => h1 .non H' .non s.wd fun a o z1 z2 z3 => s.ext a o z1 z2 (fun z => z) z3
    | rt d => exact fun v H' dn w f => h1 v H' dn w fun a o z1 z2 z3 => f a o z1 z2 (fun z => z) z3
    | bk e => exact nomatch e
    | ct e => exact nomatch e
  · exact fun dd fvs H' z1 z2 z3 z4 z5 => h1 dd fvs H' z1 z2 z3 z4 fun a o y1 y2 y3 => z5 a o y1 y2 (fun z => z) y3
theorem le_no : ∀ (ε : Env) {n : Nat}, ε.length = n → Le (List.replicate n Sl.no) ε
  | [], _, rfl => .nil
  | x :: r, _, rfl => by
    show Le (List.replicate (r.length + 1) Sl.no) (x :: r)
    rw [List.replicate_succ]
    exact .n (le_no r rfl)
theorem fn_of1 {K : PySem.W.Frag} {T : List (Addr × Str)} {N : List Str} {F : D → Tr D} {vs : List V} {Q : VK} {t : TS} {envU : Unit → Env} {m : D → Tr (Fl Unit Empty)} (h : spF K T (ul1 F) vs H Q E) (hF : ∀ x, F x = fin (m x)) (hs : ∀ p c x, SS ⟨K, T, p, c⟩ E ([x].map Sl.fz ++ List.replicate (N.length - 1) Sl.no) t envU envE (m x)) : t { nx := fun _ H' => Q .non H', rt := Q } (L2.start N vs) H :=
  fn_of h fun p c ds ⟨_, _, _, al⟩ => by
    obtain ⟨x, rfl, _⟩ := al_ul1 al
    exact ⟨m x, hF x, hs p c x⟩
theorem fn_of2 {K : PySem.W.Frag} {T : List (Addr × Str)} {N : List Str} {F : D → D → Tr D} {vs : List V} {Q : VK} {t : TS} {envU : Unit → Env} {m : D → D → Tr (Fl Unit Empty)} (h : spF K T (ul2 F) vs H Q E) (hF : ∀ x y, F x y = fin (m x y)) (hs : ∀ p c x y, SS ⟨K, T, p, c⟩ E ([x, y].map Sl.fz ++ List.replicate (N.length - 2) Sl.no) t envU envE (m x y)) : t { nx := fun _ H' => Q .non H', rt := Q } (L2.start N vs) H :=
  fn_of h fun p c ds ⟨_, _, _, al⟩ => by
    obtain ⟨x, y, rfl, _⟩ := al_ul2 al
    exact ⟨m x y, hF x y, hs p c x y⟩
theorem fn_of3 {K : PySem.W.Frag} {T : List (Addr × Str)} {N : List Str} {F : D → D → D → Tr D} {vs : List V} {Q : VK} {t : TS} {envU : Unit → Env} {m : D → D → D → Tr (Fl Unit Empty)} (h : spF K T (ul3 F) vs H Q E) (hF : ∀ x y z, F x y z = fin (m x y z)) (hs : ∀ p c x y z, SS ⟨K, T, p, c⟩ E ([x, y, z].map Sl.fz ++ List.replicate (N.length - 3) Sl.no) t envU envE (m x y z)) : t { nx := fun _ H' => Q .non H', rt := Q } (L2.start N vs) H :=
  fn_of h fun p c ds ⟨_, _, _, al⟩ => by
    obtain ⟨x, y, z, rfl, _⟩ := al_ul3 al
    exact ⟨m x y z, hF x y z, hs p c x y z⟩
theorem spF_len {K : PySem.W.Frag} {T : List (Addr × Str)} {F : List D → Tr D} {n : Nat} (hn : ∀ (P : D → Nat → Prop) (X : Str → Fs → Nat → Prop) ds b, Al P X (F ds) b → ds.length = n) {vs : List V} {Q : VK} (h : spF K T F vs H Q E) : vs.length = n := by
  obtain ⟨p, c, U, ds, b, dn, wd, u, al⟩ := h
  rw [dn.length]
  exact hn _ _ _ _ al
theorem len1 {F : D → Tr D} (P : D → Nat → Prop) (X : Str → Fs → Nat → Prop) (ds : List D) (b : Nat) (h : Al P X (ul1 F ds) b) : ds.length = 1 := by obtain ⟨_, rfl, _⟩ := al_ul1 h; rfl
theorem len2 {F : D → D → Tr D} (P : D → Nat → Prop) (X : Str → Fs → Nat → Prop) (ds : List D) (b : Nat) (h : Al P X (ul2 F ds) b) : ds.length = 2 := by obtain ⟨_, _, rfl, _⟩ := al_ul2 h; rfl
theorem len3 {F : D → D → D → Tr D} (P : D → Nat → Prop) (X : Str → Fs → Nat → Prop) (ds : List D) (b : Nat) (h : Al P X (ul3 F ds) b) : ds.length = 3 := by obtain ⟨_, _, _, rfl, _⟩ := al_ul3 h; rfl
theorem srl_sp0 {F : List D → Tr D} : SRL g E (rSp (spF g.K g.T F) [] E) F := fun U H b xs dxs Q dn wd u q =>
  ⟨g.p, g.c, U, dxs, b, by rw [List.append_nil]; exact dn, wd, u, q⟩
theorem al_isO {α : Type} {P : α → Nat → Prop} {X : Str → Fs → Nat → Prop} {c : Str} {o : D} {k : Fs → Tr α} (h : Al P X (isO c o k) b) : ∃ fs, o = .obj c fs ∧ Al P X (k fs) b := by
  unfold isO at h
  split at h
  · split at h
    · rename_i e
      subst e
      exact ⟨_, rfl, h⟩
    · exact h.elim
  · exact h.elim
theorem den_obj {v : V} {c : Str} {fs : Fs} (h : Den g U H v (.obj c fs)) : ∃ a dx fvs, v = .ref a ∧ H a = some (.ins (gd c g.K) dx fvs) ∧ ¬ U a ∧ DenF g U H fvs fs := by
  cases h with
  | obj h n k => exact ⟨_, _, _, rfl, h, n, k⟩
def fldD (c f : Str) (o : D) : Tr D := isO c o fun fs => match fs.lookup f with
  | some d => .ok d
  | none => .bad
theorem sr_fld {c f : Str} : SR1 g E (rFld (gd c g.K) f) (fldD c f) := fun U H b x dx Q dn wd u q => by
  obtain ⟨fs, rfl, q2⟩ := al_isO q
  obtain ⟨a, dx, fvs, rfl, ea, na, df⟩ := den_obj dn
  cases e : fs.lookup f with
  | none => rw [e] at q2; exact q2.elim
  | some d =>
    rw [e] at q2
    obtain ⟨v, hv, d1⟩ := df.look e
    exact st_fld ea hv (okP.here q2 wd d1)
def spI (K : PySem.W.Frag) (T : List (Addr × Str)) (cn : Str) (F : Fs → List D → Tr Fs) : Sp := fun vs H Q E => ∃ p c U ds b x dx fvs fs rest, vs = .ref x :: rest ∧ H x = some (.ins (gd cn K) dx fvs) ∧ DenF ⟨K, T, p, c⟩ U H fvs fs ∧ U x ∧ x ≠ p ∧ x ≠ c ∧ DenL ⟨K, T, p, c⟩ U H rest ds ∧
  Wd ⟨K, T, p, c⟩ H b ∧ UOk ⟨K, T, p, c⟩ U H ∧ Al (fun fs' b' => ∀ dx' fvs' H', H' x = some (.ins (gd cn K) dx' fvs') → DenF ⟨K, T, p, c⟩ U H' fvs' fs' → Wd ⟨K, T, p, c⟩ H' b' → FrM ⟨K, T, p, c⟩ (· = x) H H' → Q .non H')
    (fun cn fs b => ∀ dd fvs H', H' dd = some (.xd fvs) → ¬ U dd → DenF ⟨K, T, p, c⟩ U H' fvs fs → Wd ⟨K, T, p, c⟩ H' b → FrM ⟨K, T, p, c⟩ (· = x) H H' → E (.ref (gd cn K)) (some dd) H') (F fs ds) b
theorem srl_mk {cn : Str} {F : Fs → List D → Tr Fs} {dvs : List V} {dds : List D} (hd : ∀ U H, DenL g U H dvs dds) : SRL g E (rMk (gd cn g.K) (spI g.K g.T cn F) dvs E) (fun ds => bd (F [] (ds ++ dds)) fun fs => .ok (.obj cn fs)) := fun U H b xs dxs Q dn wd u q => by
  unfold rMk
  intro x dx nx ndx ne
  have s1 : L2.Same H (upd (upd H dx (.own x)) x (.ins (gd cn g.K) dx [])) := fun a o e => by
    rw [upd_ne (ne_of_none e nx), upd_ne (ne_of_none e ndx)]
    exact e
  have nU : ¬ U x := u.new nx
  have hp : x ≠ g.p := fun z => nU (z ▸ u.p)
  have hc : x ≠ g.c := fun z => nU (z ▸ u.c)
  have sx : ∀ a, (∃ o, H a = some o) → (U a ∨ a = x) → U a := fun a ⟨o, e⟩ z => z.elim (fun z => z) (fun z => (ne_of_none e nx z).elim)
  have k1 : DenL g (fun a => U a ∨ a = x) (upd (upd H dx (.own x)) x (.ins (gd cn g.K) dx [])) (xs ++ dvs) (dxs ++ dds) := ((dn.append (hd U H)).grow nx).ext (fun a o e _ _ => s1 a o e)
  have k2 : UOk g (fun a => U a ∨ a = x) (upd (upd H dx (.own x)) x (.ins (gd cn g.K) dx [])) := ⟨.inl u.p, .inl u.c, fun a ha => by
    rcases ha with ha | rfl
    · obtain ⟨o, e, t⟩ := u.al a ha
      exact ⟨o, s1 a o e, t⟩
    · exact ⟨_, upd_same, (fun _ z => by cases z), (fun _ z => by cases z)⟩⟩
  have fr : ∀ {H' : Hp}, FrM g (· = x) (upd (upd H dx (.own x)) x (.ins (gd cn g.K) dx [])) H' → Fr H H' g.p := fun f1 a o e n t => f1 a o (s1 a o e) n (fun z => ne_of_none e nx z) t
  exact ⟨g.p, g.c, fun a => U a ∨ a = x, dxs ++ dds, b, x, dx, [], [], xs ++ dvs, rfl, upd_same, .nil, .inr rfl, hp, hc, k1, wd.same s1, k2,
    (al_bd.mp q).mono (fun fs b1 h1 dx' fvs' H' e1 d1 w1 f1 => ⟨rfl, h1 _ H' (.obj e1 nU (d1.sub fun a _ z => .inl z)) w1 (fr f1)⟩) (fun c fs b1 h1 dd fvs H' e1 n1 d1 w1 f1 => h1 dd fvs H' e1 (fun z => n1 (.inl z)) (d1.sub fun a _ z => .inl z) w1 (fr f1))⟩
theorem srl_mk0 {cn : Str} {F : Fs → List D → Tr Fs} : SRL g E (rMk (gd cn g.K) (spI g.K g.T cn F) [] E) (fun ds => bd (F [] ds) fun fs => .ok (.obj cn fs)) := by
  have h := srl_mk (g := g) (E := E) (cn := cn) (F := F) (dvs := []) (dds := []) (fun _ _ => .nil)
  intro U H b xs dxs Q dn wd u q
  refine h U H b xs dxs Q dn wd u ?_
  show Al _ _ (bd (F [] (dxs ++ [])) _) b
  rw [List.append_nil]
  exact q
def finI (m : Tr (Fl Fs Empty)) : Tr Fs := bd m fun f => match f with
  | .nx fs => .ok fs
  | .rt _ => .bad
  | .bk e => nomatch e
  | .ct e => nomatch e
theorem ini_of {K : PySem.W.Frag} {T : List (Addr × Str)} {N : List Str} {cn : Str} {F : Fs → List D → Tr Fs} {vs : List V} {Q : VK} {t : TS} {envI : Fs → Env} (h : spI K T cn F vs H Q E)
    (hs : ∀ p c fs ds, (∃ (P : Fs → Nat → Prop) (X : Str → Fs → Nat → Prop) (b : Nat), Al P X (F fs ds) b) → ∃ m, F fs ds = finI m ∧ SS ⟨K, T, p, c⟩ E (.oi cn fs :: (ds.map Sl.fz ++ List.replicate (N.length - (ds.length + 1)) Sl.no)) t envI envE m)
    (he : ∀ fs, (envI fs)[0]? = some (.oi cn fs)) : t { nx := fun _ H' => Q .non H', rt := Q } (L2.start N vs) H := by
  obtain ⟨p, c, U, ds, b, x, dx, fvs, fs, rest, rfl, hx, df, ux, np, nc, dn, wd, u, al⟩ := h
  obtain ⟨m, e, ss⟩ := hs p c fs ds ⟨_, _, _, al⟩
  rw [e] at al
  have st0 : L2.start N (.ref x :: rest) = some (.ref x) :: (rest.map some ++ List.replicate (N.length - (rest.length + 1)) none) := rfl
  have r1 : Rel ⟨K, T, p, c⟩ U H (rest.map some ++ List.replicate (N.length - (rest.length + 1)) none) (ds.map Sl.fz ++ List.replicate (N.length - (ds.length + 1)) Sl.no) := by
    have z := rel_start (g := ⟨K, T, p, c⟩) (N := N.drop 1) dn
    unfold L2.start at z
    rw [List.length_drop, Nat.sub_sub, Nat.sub_sub, Nat.add_comm 1, Nat.add_comm 1] at z
    exact z
  have nn : ∀ i a, ¬ OwnAt (rest.map some ++ List.replicate (N.length - (rest.length + 1)) none) (ds.map Sl.fz ++ List.replicate (N.length - (ds.length + 1)) Sl.no) i a := fun i a ⟨_, z⟩ => by
    have : ∀ s : Sl, (ds.map Sl.fz ++ List.replicate (N.length - (ds.length + 1)) Sl.no)[i]? = some s → (∃ d, s = .fz d) ∨ s = .no := fun s e => by
      have m := List.mem_of_getElem? e
      rcases List.mem_append.mp m with m | m
      · obtain ⟨d, _, e⟩ := List.mem_map.mp m
        exact .inl ⟨d, e.symm⟩
      · exact .inr (List.mem_replicate.mp m).2
    rcases z with ⟨x, z⟩ | ⟨x, y, z⟩
    · rcases this _ z with ⟨d, e⟩ | e <;> cases e
    · rcases this _ z with ⟨d, e⟩ | e <;> cases e
  have own : ∀ i a, OwnAt (L2.start N (.ref x :: rest)) (.oi cn fs :: (ds.map Sl.fz ++ List.replicate (N.length - (ds.length + 1)) Sl.no)) i a → i = 0 ∧ a = x := fun i a z => by
    rw [st0] at z
    obtain ⟨z1, z2⟩ := z
    cases i with
    | zero =>
      rw [List.getElem?_cons_zero] at z1
      cases z1
      exact ⟨rfl, rfl⟩
    | succ i =>
      rw [List.getElem?_cons_succ] at z1
      rw [List.getElem?_cons_succ] at z2
      exact (nn i a ⟨z1, z2⟩).elim
  refine ss (· = x) U H U _ _ H b ⟨⟨?_, fun i s e => ?_, fun i j a ne h1 h2 => ?_⟩, wd, u, fun _ z => z, fun i a z => .inl (own i a z).2, fun _ _ z _ _ _ => z, fun i ds' a z1 z2 => ?_, fun i c' fs' a _ z1 z2 => ⟨fun _ => (own i a ⟨z2, .inr ⟨c', fs', z1⟩⟩).2, fun n => absurd (own i a ⟨z2, .inr ⟨c', fs', z1⟩⟩).1 n⟩⟩ ((al_bd.mp al).mono (fun f b1 h1 => ?_) (fun c fs b1 h1 => ?_))
  · rw [st0, List.length_cons, List.length_cons, r1.len]
  · rw [st0]
    cases i with
    | zero =>
      rw [List.getElem?_cons_zero] at e
      cases e
      exact ⟨_, rfl, x, dx, fvs, rfl, hx, df, ux, np, nc⟩
    | succ i =>
      rw [List.getElem?_cons_succ] at e
      rw [List.getElem?_cons_succ]
      exact r1.at_ i s e
  · exact ne ((own _ _ h1).1.trans (own _ _ h2).1.symm)
  · obtain ⟨rfl, _⟩ := own i a ⟨z2, .inl ⟨ds', z1⟩⟩
    cases z1
  · cases f with
    | nx w =>
      intro U' σ' H' ev s
      obtain ⟨o, e1, a, dx', fvs', rfl, ha, da, ua, _, _⟩ := s.rel.at_ 0 _ (he w)
      have ea := (s.oim 0 cn w a trivial (he w) e1).1 rfl
      subst ea
      exact h1 dx' fvs' H' ha (da.sub fun z _ y => s.sub z y) s.wd s.ext
    | rt d => exact h1.elim
    | bk e => exact nomatch e
    | ct e => exact nomatch e
  · exact fun dd fvs H' z1 z2 z3 z4 z5 => h1 dd fvs H' z1 z2 z3 z4 z5
end
end Gp
end
section
set_option Elab.async false
set_option linter.all false
set_option maxRecDepth 100000
set_option maxHeartbeats 4000000
namespace Gp
open PySem PySem.Spec PyProof.Rows L2 Gh
section
variable {g : Gw} {U : Addr → Prop} {H H' H1 : Hp} {b : Nat} {E : XK} {Q : VK}
theorem denL_dp {K : PySem.W.Frag} : ∀ {vs : List V} {ds : List D} {es : List PyData}, DenL g U H vs ds → (∀ d ∈ ds, ∀ v e, Den g U H v d → toPy d = some e → Dp g.K H v e) → toPyL ds = some es → DpAll g.K H vs es
  | _, _, _, .nil, _, h => by cases h; exact .nil
  | _, d :: ds, es, .cons a r, ih, h => by
    unfold toPyL at h
    cases e1 : toPy d with
    | none => rw [e1] at h; cases h
    | some e =>
      cases e2 : toPyL ds with
      | none => rw [e1, e2] at h; cases h
      | some es' =>
        rw [e1, e2] at h
        cases h
        exact .cons (ih d List.mem_cons_self _ _ a e1) (denL_dp (K := K) r (fun d hd => ih d (List.mem_cons_of_mem _ hd)) e2)
theorem den_dp : ∀ (d : D) {v : V} {e : PyData}, Den g U H v d → toPy d = some e → Dp g.K H v e
  | .non, _, _, h, z => by cases h; cases z; exact .non
  | .bl b, _, _, h, z => by cases h; cases z; exact .bl b
  | .int i, _, _, h, z => by cases h; cases z; exact .int i
  | .str x, _, _, h, z => by cases h; cases z; exact .str x
  | .tup ds, v, e, h, z => by
    unfold toPy at z
    cases q : toPyL ds with
    | none => rw [q] at z; cases z
    | some es =>
      rw [q] at z
      cases z
      obtain ⟨a, vs, rfl, sq, _, k⟩ := den_tup h
      exact .tup sq (denL_dp (K := g.K) k (fun d hd v e h1 h2 => den_dp d h1 h2) q)
  | .lst ds, v, e, h, z => by
    unfold toPy at z
    cases q : toPyL ds with
    | none => rw [q] at z; cases z
    | some es =>
      rw [q] at z
      cases z
      obtain ⟨a, vs, rfl, hh, _, _, k⟩ := den_lst h
      exact .lst (SqL.of hh) (denL_dp (K := g.K) k (fun d hd v e h1 h2 => den_dp d h1 h2) q)
  | .obj _ _, _, _, _, z => by cases z
  | .err _ _, _, _, _, z => by cases z
  | .pen, _, _, _, z => by cases z
theorem new_lst {vs : List V} {ds : List D} (q : okP g U H Q (.lst ds) b) (w : Wd g H b) (u : UOk g U H) (l : vs.length ≤ sizeLine) (dn : DenL g U H vs ds) : ∀ p, H p = none → Q (.ref p) (upd H p (.lst vs)) := fun p np =>
  q _ _ (.lst upd_same (u.new np) l (dn.ext (fun a o e _ _ => same_new np a o e))) (w.same (same_new np)) (fr_same (same_new np))
theorem new_tup {vs : List V} {ds : List D} (q : okP g U H Q (.tup ds) b) (w : Wd g H b) (u : UOk g U H) (l : vs.length ≤ sizeLine) (dn : DenL g U H vs ds) : ∀ p, H p = none → Q (.ref p) (upd H p (.tup vs)) := fun p np =>
  q _ _ (.tup upd_same (u.new np) l (dn.ext (fun a o e _ _ => same_new np a o e))) (w.same (same_new np)) (fr_same (same_new np))
def iiD (f : Int → Int → D) (x y : D) : Tr D := match x, y with
  | .int i, .int j => .ok (f i j)
  | _, _ => .bad
def iicD (c : Int → Int → Prop) [∀ i j, Decidable (c i j)] (f : Int → Int → D) (x y : D) : Tr D := match x, y with
  | .int i, .int j => if c i j then .ok (f i j) else .bad
  | _, _ => .bad
theorem al_ii {P : D → Nat → Prop} {X : Str → Fs → Nat → Prop} {f : Int → Int → D} {x y : D} (h : Al P X (iiD f x y) b) : ∃ i j, x = .int i ∧ y = .int j ∧ P (f i j) b := by
  unfold iiD at h
  split at h
  · exact ⟨_, _, rfl, rfl, h⟩
  · exact h.elim
theorem sr_ii {f : Int → Int → D} {f' : Int → Int → V} (hf : ∀ i j U H, Den g U H (f' i j) (f i j)) : SR2 g E (rI0 f') (iiD f) := fun U H b x y dx dy Q d1 d2 w u q => by
  obtain ⟨i, j, rfl, rfl, q1⟩ := al_ii q
  cases den_int d1
  cases den_int d2
  exact ⟨i, j, rfl, rfl, okP.here q1 w (hf i j U H)⟩
def ltD : D → D → Tr D := iiD fun i j => .bl (decide (i < j))
def leD : D → D → Tr D := iiD fun i j => .bl (decide (i ≤ j))
def gtD : D → D → Tr D := iiD fun i j => .bl (decide (j < i))
def geD : D → D → Tr D := iiD fun i j => .bl (decide (j ≤ i))
def subD : D → D → Tr D := iiD fun i j => .int (i - j)
def modD : D → D → Tr D := iicD (fun _ j => 0 < j) fun i j => .int (i % j)
def divD : D → D → Tr D := iicD (fun _ j => 0 < j ∧ j < 10 ^ 100) fun i j => .int (i / j)
theorem sr_lt : SR2 g E (rI0 fun i j => .bl (decide (i < j))) ltD := sr_ii fun _ _ _ _ => .bl _
theorem sr_le : SR2 g E (rI0 fun i j => .bl (decide (i ≤ j))) leD := sr_ii fun _ _ _ _ => .bl _
theorem sr_gt : SR2 g E (rI0 fun i j => .bl (decide (j < i))) gtD := sr_ii fun _ _ _ _ => .bl _
def negD (x : D) : Tr D := match x with
  | .int i => .ok (.int (-i))
  | _ => .bad
theorem sr_neg : SR1 g E (rU fun i => .int (-i)) negD := fun U H b x dx Q d1 w u q => by
  cases dx with
  | int i =>
    cases den_int d1
    exact ⟨i, rfl, okP.here q w (.int _)⟩
  | _ => exact q.elim
def addD (x y : D) : Tr D := match x, y with
  | .int i, .int j => .ok (.int (i + j))
  | .str a, .str b => if a.length + b.length ≤ sizeLine then .ok (.str (a ++ b)) else .bad
  | .lst a, .lst b => if a.length + b.length ≤ sizeLine then .ok (.lst (a ++ b)) else .bad
  | .tup a, .tup b => if a.length + b.length ≤ sizeLine then .ok (.tup (a ++ b)) else .bad
  | _, _ => .bad
def rAddA (K : PySem.W.Frag) : R2 := fun x y H Q => rI0 (fun i j => .int (i + j)) x y H Q ∨ (∃ i j, x = .str i ∧ y = .str j ∧ i.length + j.length ≤ sizeLine ∧ Q (.str (i ++ j)) H) ∨ rCat x y H Q ∨ rCatA K x y H Q
theorem op_addA {X : Cx} {K : PySem.W.Frag} (h : X.K = K) : OpR X (binaryOp .Add) (rAddA K) := h ▸ op_add.or (op_add_str.or (op_cat.or op_catA))
theorem str_app_len (a b : Str) : (a ++ b).length = a.length + b.length := by
  show (a.cps ++ b.cps).size = _
  rw [Array.size_append]
  rfl
theorem sr_add : SR2 g E (rAddA g.K) addD := fun U H b x y dx dy Q d1 d2 w u q => by
  unfold addD at q
  split at q
  · rename_i i j
    cases den_int d1
    cases den_int d2
    exact .inl ⟨i, j, rfl, rfl, okP.here q w (.int _)⟩
  · rename_i a c
    split at q
    · rename_i h
      obtain ⟨rfl, l1⟩ := den_str d1
      obtain ⟨rfl, l2⟩ := den_str d2
      exact .inr (.inl ⟨a, c, rfl, rfl, h, okP.here q w (.str _ (by rw [str_app_len]; exact h))⟩)
    · exact q.elim
  · rename_i a c
    split at q
    · rename_i h
      obtain ⟨p1, v1, rfl, h1, n1, l1, k1⟩ := den_lst d1
      obtain ⟨p2, v2, rfl, h2, n2, l2, k2⟩ := den_lst d2
      have hl : v1.length + v2.length ≤ sizeLine := by rw [k1.length, k2.length]; exact h
      exact .inr (.inr (.inl ⟨p1, p2, v1, v2, rfl, rfl, h1, h2, hl, new_lst q w u (by rw [List.length_append]; exact hl) (k1.append k2)⟩))
    · exact q.elim
  · rename_i a c
    split at q
    · rename_i h
      obtain ⟨p1, v1, rfl, h1, l1, k1⟩ := den_tup d1
      obtain ⟨p2, v2, rfl, h2, l2, k2⟩ := den_tup d2
      have hl : v1.length + v2.length ≤ sizeLine := by rw [k1.length, k2.length]; exact h
      refine .inr (.inr (.inr ⟨p1, p2, v1, v2, rfl, rfl, h1, h2, hl, fun e => ?_, fun _ e => ?_, fun _ _ => new_tup q w u (by rw [List.length_append]; exact hl) (k1.append k2)⟩))
      · subst e
        cases k1
        exact okP.here q w d2
      · subst e
        cases k2
        rw [List.append_nil] at q
        exact okP.here q w d1
    · exact q.elim
  · exact q.elim
def eqS : D → D → Option Bool
  | .non, .non => some true | .non, .int _ => some false | .int _, .non => some false | .non, .bl _ => some false | .bl _, .non => some false | .non, .str _ => some false | .str _, .non => some false
  | .int i, .int j => some (decide (i = j)) | .bl a, .bl c => some (decide (a = c)) | .str a, .str c => some (decide (a = c))
  | .int _, .str _ => some false | .str _, .int _ => some false | .bl _, .str _ => some false | .str _, .bl _ => some false
  | _, _ => none
def eqB (x y : D) : Tr Bool := match eqS x y with
  | some b => .ok b
  | none => match toPy x, toPy y with
    | some a, some c => if SeqAt.shaped a = true ∧ SeqAt.shaped c = true then .ok (PyData.eqv a c) else .bad
    | _, _ => .bad
def eqD (x y : D) : Tr D := bd (eqB x y) fun k => .ok (.bl k)
def neD (x y : D) : Tr D := bd (eqB x y) fun k => .ok (.bl (!k))
def rEqA (K : PySem.W.Frag) : R2 := fun x y H Q => rEq x y H Q ∨ rEqD K x y H Q
def rNeA (K : PySem.W.Frag) : R2 := fun x y H Q => rNe x y H Q ∨ rNeD K x y H Q
theorem op_eqA {X : Cx} {K : PySem.W.Frag} (h : X.K = K) (hu : X.A.units + 64 < cLine) : OpR X (compareOp .Eq) (rEqA K) := h ▸ op_eq.or (op_eqD hu)
theorem op_neA {X : Cx} {K : PySem.W.Frag} (h : X.K = K) (hu : X.A.units + 64 < cLine) : OpR X (compareOp .NotEq) (rNeA K) := h ▸ op_ne.or (op_neD hu)
theorem eqS_scal {x y : D} {v w : V} {k : Bool} (h : eqS x y = some k) (d1 : Den g U H v x) (d2 : Den g U H w y) : scal v w = true ∧ decide (v = w) = k := by
  cases x <;> cases y <;> first
    | (cases h; done)
    | (cases d1; cases d2; cases h; exact ⟨rfl, by simp⟩)
theorem al_eqB {P : Bool → Nat → Prop} {X : Str → Fs → Nat → Prop} {x y : D} (h : Al P X (eqB x y) b) : (∃ k, eqS x y = some k ∧ P k b) ∨ ∃ a c, toPy x = some a ∧ toPy y = some c ∧ SeqAt.shaped a = true ∧ SeqAt.shaped c = true ∧ P (PyData.eqv a c) b := by
  unfold eqB at h
  split at h
  · exact .inl ⟨_, by assumption, h⟩
  · split at h
    · split at h
      · rename_i e1 e2 z
        exact .inr ⟨_, _, e1, e2, z.1, z.2, h⟩
      · exact h.elim
    · exact h.elim
theorem sr_eq : SR2 g E (rEqA g.K) eqD := fun U H b x y dx dy Q d1 d2 w u q => by
  rcases al_eqB (al_bd.mp q) with ⟨k, e, q1⟩ | ⟨a, c, e1, e2, s1, s2, q1⟩
  · obtain ⟨h1, h2⟩ := eqS_scal e d1 d2
    refine .inl ⟨h1, ?_⟩
    rw [h2]
    exact okP.here q1 w (.bl _)
  · exact .inr ⟨a, c, den_dp dx d1 e1, den_dp dy d2 e2, s1, s2, okP.here q1 w (.bl _)⟩
theorem sr_ne : SR2 g E (rNeA g.K) neD := fun U H b x y dx dy Q d1 d2 w u q => by
  rcases al_eqB (al_bd.mp q) with ⟨k, e, q1⟩ | ⟨a, c, e1, e2, s1, s2, q1⟩
  · obtain ⟨h1, h2⟩ := eqS_scal e d1 d2
    refine .inl ⟨h1, ?_⟩
    rw [h2]
    exact okP.here q1 w (.bl _)
  · exact .inr ⟨a, c, den_dp dx d1 e1, den_dp dy d2 e2, s1, s2, okP.here q1 w (.bl _)⟩
def isN (x : D) : Bool := match x with
  | .non => true
  | _ => false
theorem den_non {v : V} {d : D} (h : Den g U H v d) : decide (v = .non) = isN d := by
  cases h <;> simp [isN]
theorem sr_isN : SR2 g E rIsN (fun x y => match y with | .non => .ok (.bl (isN x)) | _ => .bad) := fun U H b x y dx dy Q d1 d2 w u q => by
  cases dy with
  | non =>
    cases d2
    refine st_isN ?_
    rw [den_non d1]
    exact okP.here q w (.bl _)
  | _ => exact q.elim
def ixD (x y : D) : Tr D := match x, y with
  | .lst ds, .int i => match atI ds i with | some d => .ok d | none => .bad
  | .tup ds, .int i => match atI ds i with | some d => .ok d | none => .bad
  | .str z, .int i => match atI z.cps.toList i with | some c => .ok (.str ⟨#[c]⟩) | none => .bad
  | _, _ => .bad
theorem ix_seqK {X : Cx} {K : PySem.W.Frag} (h : X.K = K) : IxR X (rIx K) := h ▸ ix_seq
theorem denL_at {vs : List V} {ds : List D} {i : Int} {d : D} (h : DenL g U H vs ds) (e : atI ds i = some d) : ∃ v, atI vs i = some v ∧ Den g U H v d := by
  unfold atI at e ⊢
  rw [h.length]
  cases q : ixN ds.length i with
  | none => rw [q] at e; cases e
  | some j =>
    rw [q] at e
    exact h.getD e
theorem sr_ix : SR2 g E (rIx g.K) ixD := fun U H b x y dx dy Q d1 d2 w u q => by
  unfold ixD at q
  split at q
  · rename_i ds i
    split at q
    · rename_i d e
      obtain ⟨p, vs, rfl, h, n, l, k⟩ := den_lst d1
      cases den_int d2
      obtain ⟨v, hv, dv⟩ := denL_at k e
      exact .inl ⟨p, vs, i, v, rfl, rfl, SqL.of h, hv, okP.here q w dv⟩
    · exact q.elim
  · rename_i ds i
    split at q
    · rename_i d e
      obtain ⟨p, vs, rfl, h, l, k⟩ := den_tup d1
      cases den_int d2
      obtain ⟨v, hv, dv⟩ := denL_at k e
      exact .inr (.inl ⟨p, vs, i, v, rfl, rfl, h, hv, okP.here q w dv⟩)
    · exact q.elim
  · rename_i z i
    split at q
    · rename_i c e
      obtain ⟨rfl, l⟩ := den_str d1
      cases den_int d2
      exact .inr (.inr ⟨z, i, c, rfl, rfl, l, e, okP.here q w den1⟩)
    · exact q.elim
  · exact q.elim
def lenD (x : D) : Tr D := match x with
  | .lst ds => .ok (.int ds.length)
  | .tup ds => .ok (.int ds.length)
  | .str z => .ok (.int z.length)
  | _ => .bad
theorem srl_len : SRL g E (rLn g.K) (ul1 lenD) := fun U H b xs dxs Q dn w u q => by
  obtain ⟨x, rfl, q1⟩ := al_ul1 q
  obtain ⟨v, rfl, d1⟩ := denL_1 dn
  cases x with
  | lst ds =>
    obtain ⟨p, vs, rfl, h, n, l, k⟩ := den_lst d1
    refine st_lenL h ?_
    rw [k.length]
    exact okP.here q1 w (.int _)
  | tup ds =>
    obtain ⟨p, vs, rfl, h, l, k⟩ := den_tup d1
    unfold rLn
    exact ⟨_, _, rfl, .inr ⟨vs, h, rfl⟩, by rw [k.length]; exact okP.here q1 w (.int _)⟩
  | str z =>
    obtain ⟨rfl, l⟩ := den_str d1
    exact st_lenS l (okP.here q1 w (.int _))
  | _ => exact q1.elim
def listD (x : D) : Tr D := match x with
  | .lst ds => .ok (.lst ds)
  | .tup ds => .ok (.lst ds)
  | _ => .bad
theorem srl_list : SRL g E (rListOf g.K) (ul1 listD) := fun U H b xs dxs Q dn w u q => by
  obtain ⟨x, rfl, q1⟩ := al_ul1 q
  obtain ⟨v, rfl, d1⟩ := denL_1 dn
  unfold rListOf
  cases x with
  | lst ds =>
    obtain ⟨p, vs, rfl, h, n, l, k⟩ := den_lst d1
    exact ⟨p, vs, rfl, .inl (SqL.of h), new_lst q1 w u l k⟩
  | tup ds =>
    obtain ⟨p, vs, rfl, h, l, k⟩ := den_tup d1
    exact ⟨p, vs, rfl, .inr h, new_lst q1 w u l k⟩
  | _ => exact q1.elim
def tupD (x : D) : Tr D := match x with
  | .lst ds => .ok (.tup ds)
  | .tup ds => .ok (.tup ds)
  | _ => .bad
theorem srl_tup : SRL g E (rTupOf g.K) (ul1 tupD) := fun U H b xs dxs Q dn w u q => by
  obtain ⟨x, rfl, q1⟩ := al_ul1 q
  obtain ⟨v, rfl, d1⟩ := denL_1 dn
  unfold rTupOf
  cases x with
  | lst ds =>
    obtain ⟨p, vs, rfl, h, n, l, k⟩ := den_lst d1
    exact ⟨p, vs, rfl, .inl ⟨SqL.of h, new_tup q1 w u l k⟩⟩
  | tup ds =>
    obtain ⟨p, vs, rfl, h, l, k⟩ := den_tup d1
    exact ⟨p, vs, rfl, .inr ⟨h, okP.here q1 w d1⟩⟩
  | _ => exact q1.elim
def intD (x : D) : Tr D := match x with
  | .int i => .ok (.int i)
  | .bl k => .ok (.int (if k = true then 1 else 0))
  | _ => .bad
theorem srl_int : SRL g E rInt (ul1 intD) := fun U H b xs dxs Q dn w u q => by
  obtain ⟨x, rfl, q1⟩ := al_ul1 q
  obtain ⟨v, rfl, d1⟩ := denL_1 dn
  cases x with
  | int i => cases d1; exact st_int (okP.here q1 w (.int _))
  | bl k => cases d1; exact st_intB (okP.here q1 w (.int _))
  | _ => exact q1.elim
def absD (x : D) : Tr D := match x with
  | .int i => .ok (.int (if i < 0 then -i else i))
  | _ => .bad
end
end Gp
end
section
set_option Elab.async false
set_option linter.all false
set_option maxRecDepth 100000
set_option maxHeartbeats 4000000
namespace Gp
open PySem PySem.Spec PyProof.Rows L2 Gh
section
variable {g : Gw} {Mt U0 U U' : Addr → Prop} {H0 H H' H1 H2 : Hp} {b b1 : Nat} {σ : L2.St} {ε ε' : Env} {E : XK} {Q : VK} {W L W' : Type}
variable {env : W → Env} {envL : L → Env} {env' : W' → Env} {u ta tb : TS} {te : TE} {me : Tr D}
def flatD : D → Bool
  | .non => true
  | .bl _ => true
  | .int _ => true
  | .str _ => true
  | _ => false
def eqF : D → D → Bool
  | .non, .non => true
  | .bl a, .bl b => a == b
  | .bl a, .int b => (if a then 1 else 0) == b
  | .int a, .bl b => a == (if b then 1 else 0)
  | .int a, .int b => a == b
  | .str a, .str b => a == b
  | _, _ => false
theorem flat_den {v : V} {d : D} (h : Den g U H v d) (f : flatD d = true) : flatV v = true := by
  cases h <;> first
    | rfl
    | cases f
theorem eqF_den {v w : V} {d e : D} (h : Den g U H v d) (k : Den g U H w e) : eqF d e = eqV v w := by
  cases h <;> cases k <;> rfl
def inD (x : D) (ds : List D) : Bool := ds.any fun y => eqF y x
theorem inD_den {v : V} {d : D} (h : Den g U H v d) : ∀ {vs : List V} {ds : List D}, DenL g U H vs ds → inD d ds = inV v vs
  | _, _, .nil => rfl
  | _, _, .cons a r => by
    have := inD_den h r
    unfold inD inV at this ⊢
    rw [List.any_cons, List.any_cons, eqF_den a h, this]
theorem flats_den : ∀ {vs : List V} {ds : List D}, DenL g U H vs ds → ds.all flatD = true → vs.all flatV = true
  | _, _, .nil, _ => rfl
  | _, _, .cons a r, f => by
    rw [List.all_cons, Bool.and_eq_true] at f ⊢
    exact ⟨flat_den a f.1, flats_den r f.2⟩
def inB (x y : D) : Tr Bool := match y with
  | .lst ds => if flatD x = true ∧ ds.all flatD = true then .ok (inD x ds) else .bad
  | .tup ds => if flatD x = true ∧ ds.all flatD = true then .ok (inD x ds) else .bad
  | .str j => match x with
    | .str i => .ok (!(Builtin.Str.occurrences j i 0 j.length 1).isEmpty)
    | _ => .bad
  | _ => .bad
def notinD (x y : D) : Tr D := bd (inB x y) fun k => .ok (.bl (!k))
def rNotInA (K : PySem.W.Frag) : R2 := fun x y H Q => rIn K true x y H Q ∨ ∃ i j, x = .str i ∧ y = .str j ∧ Q (.bl (!(!(Builtin.Str.occurrences j i 0 j.length 1).isEmpty))) H
theorem op_notinA {X : Cx} {K : PySem.W.Frag} (h : X.K = K) : OpR X (compareOp .NotIn) (rNotInA K) := h ▸ op_notIn_seq.or op_notin_str
theorem al_inB {P : Bool → Nat → Prop} {Z : Str → Fs → Nat → Prop} {x y : D} {v w : V} (d1 : Den g U H v x) (d2 : Den g U H w y) (h : Al P Z (inB x y) b) :
    (∃ p vs, w = .ref p ∧ (SqL g.K H p vs ∨ SqT g.K H p vs) ∧ flatV v = true ∧ vs.all flatV = true ∧ P (inV v vs) b) ∨ ∃ i j, v = .str i ∧ w = .str j ∧ P (!(Builtin.Str.occurrences j i 0 j.length 1).isEmpty) b := by
  unfold inB at h
  split at h
  · split at h
    · rename_i z
      obtain ⟨p, vs, rfl, hh, _, _, k⟩ := den_lst d2
      rw [inD_den d1 k] at h
      exact .inl ⟨p, vs, rfl, .inl (SqL.of hh), flat_den d1 z.1, flats_den k z.2, h⟩
    · exact h.elim
  · split at h
    · rename_i z
      obtain ⟨p, vs, rfl, hh, _, k⟩ := den_tup d2
      rw [inD_den d1 k] at h
      exact .inl ⟨p, vs, rfl, .inr hh, flat_den d1 z.1, flats_den k z.2, h⟩
    · exact h.elim
  · split at h
    · obtain ⟨rfl, _⟩ := den_str d1
      obtain ⟨rfl, _⟩ := den_str d2
      exact .inr ⟨_, _, rfl, rfl, h⟩
    · exact h.elim
  · exact h.elim
theorem sr_notin : SR2 g E (rNotInA g.K) notinD := fun U H b x y dx dy Q d1 d2 w u q => by
  rcases al_inB d1 d2 (al_bd.mp q) with ⟨p, vs, rfl, h1, h2, h3, h4⟩ | ⟨i, j, rfl, rfl, h⟩
  · exact .inl ⟨p, vs, rfl, h1, h2, h3, okP.here h4 w (.bl _)⟩
  · exact .inr ⟨i, j, rfl, rfl, okP.here h w (.bl _)⟩
def SO (g : Gw) (E : XK) (ε : Env) (t : TO) (m : Tr (Option Int)) : Prop := ∀ U σ H b (Q : Option Int → Hp → Prop), Rel g U H σ ε → Wd g H b → UOk g U H → Al (fun o b' => ∀ H', Wd g H' b' → Fr H H' g.p → Q o H') (exP g U E H) m b → t σ H Q
theorem so_none : SO g E ε tNoPart (.ok none) := fun U σ H b Q R W u q => q H W Fr.refl
def asI (d : D) : Tr (Option Int) := match d with
  | .int i => .ok (some i)
  | _ => .bad
theorem so_some (he : SE g E ε te me) : SO g E ε (tPart te) (bd me asI) := fun U σ H b Q R W u q =>
  he.step R W u q fun v d H1 b1 d1 w1 f1 R1 u1 q1 => by
    cases d with
    | int i =>
      cases den_int d1
      exact ⟨i, rfl, q1 H1 w1 f1⟩
    | _ => exact q1.elim
theorem SO.step {α : Type} {t : TO} {m : Tr (Option Int)} {k : Option Int → Tr α} {P : α → Nat → Prop} {Q : Option Int → Hp → Prop} (ha : SO g E ε t m) (R : Rel g U H σ ε) (W : Wd g H b) (u : UOk g U H) (h : Al P (exP g U E H) (bd m k) b)
    (hk : ∀ d H1 b1, Wd g H1 b1 → Fr H H1 g.p → Rel g U H1 σ ε → UOk g U H1 → Al P (exP g U E H1) (k d) b1 → Q d H1) : t σ H Q :=
  ha U σ H b Q R W u ((al_bd.mp h).mono (fun d b1 h1 H1 w1 f1 => hk d H1 b1 w1 f1 (R.fr u f1) (u.fr f1 w1) (al_frX f1 h1)) (fun _ _ _ h => h))
def cutG {α : Type} (xs : List α) (lo hi : Option Int) : List α := (xs.drop (HT.sIx xs.length 0 lo)).take (HT.sIx xs.length xs.length hi - HT.sIx xs.length 0 lo)
def slD (x : D) (lo hi : Option Int) : Tr D := match x with
  | .lst ds => .ok (.lst (cutG ds lo hi))
  | .tup ds => .ok (.tup (cutG ds lo hi))
  | .str z => if (cutS z lo hi).length ≤ sizeLine then .ok (.str (cutS z lo hi)) else .bad
  | _ => .bad
def rSlAll (K : PySem.W.Frag) : V → Option Int → Option Int → Hp → VK → Prop := fun x lo hi H Q => rSlL K x lo hi H Q ∨ rSlA K x lo hi H Q ∨ L2.rSlS x lo hi H Q
theorem sl_all {X : Cx} {K : PySem.W.Frag} (h : X.K = K) : L2.SlR X (rSlAll K) := h ▸ sl_list.or (sl_tupA.or sl_str)
theorem denL_cut {vs : List V} {ds : List D} (k : DenL g U H vs ds) (lo hi : Option Int) : DenL g U H (cutV vs lo hi) (cutG ds lo hi) := by
  unfold cutV cutG
  rw [k.length]
  exact (k.drop _).take _
theorem se_sl {tl th : TO} {ml mh : Tr (Option Int)} (he : SE g E ε te me) (hl : SO g E ε tl ml) (hh : SO g E ε th mh) : SE g E ε (tSl (rSlAll g.K) te tl th) (bd me fun x => bd ml fun lo => bd mh fun hi => slD x lo hi) := fun U σ H b Q R W u q =>
  he.step R W u q fun v d H1 b1 d1 w1 f1 R1 u1 q1 => hl.step R1 w1 u1 q1 fun lo H2 b2 w2 f2 R2 u2 q2 => hh.step R2 w2 u2 q2 fun hi H3 b3 w3 f3 R3 u3 q3 => by
    have d3 := d1.fr u1 (f2.trans f3)
    have q4 := q3.mono (P' := okP g U H3 Q) (fun _ _ h => okP.fr ((f1.trans f2).trans f3) h) (fun _ _ _ h => h)
    cases d with
    | lst ds =>
      obtain ⟨p, vs, rfl, h, n, l, k⟩ := den_lst d3
      exact .inl ⟨p, vs, rfl, SqL.of h, new_lst q4 w3 u3 (Nat.le_trans (cutV_length _ _ _) l) (denL_cut k lo hi)⟩
    | tup ds =>
      obtain ⟨p, vs, rfl, h, l, k⟩ := den_tup d3
      refine .inr (.inl ⟨p, vs, rfl, h, fun e => ?_, fun _ => new_tup q4 w3 u3 (Nat.le_trans (cutV_length _ _ _) l) (denL_cut k lo hi)⟩)
      have e2 : cutG ds lo hi = ds := by
        unfold cutG
        rw [← k.length, e.1, e.2, List.drop_zero, Nat.sub_zero, k.length]
        exact List.take_length
      have q5 : okP g U H3 Q (.tup (cutG ds lo hi)) b3 := q4
      rw [e2] at q5
      exact okP.here q5 w3 d3
    | str z =>
      obtain ⟨rfl, l⟩ := den_str d3
      by_cases hz : (cutS z lo hi).length ≤ sizeLine
      · have q5 : Al (okP g U H3 Q) (exP g U E H3) (if (cutS z lo hi).length ≤ sizeLine then .ok (.str (cutS z lo hi)) else .bad) b3 := q4
        rw [if_pos hz] at q5
        exact .inr (.inr ⟨z, rfl, l, okP.here q5 w3 (.str _ hz)⟩)
      · have q5 : Al (okP g U H3 Q) (exP g U E H3) (if (cutS z lo hi).length ≤ sizeLine then .ok (.str (cutS z lo hi)) else .bad) b3 := q4
        rw [if_neg hz] at q5
        exact q5.elim
    | _ => exact q4.elim
theorem DenL.reverse : ∀ {vs : List V} {ds : List D}, DenL g U H vs ds → DenL g U H vs.reverse ds.reverse
  | _, _, .nil => .nil
  | _, _, .cons a r => by
    rw [List.reverse_cons, List.reverse_cons]
    exact (DenL.reverse r).append (.cons a .nil)
def SRg (g : Gw) (E : XK) (ε : Env) (t : L2.St → Hp → (Int → Int → Hp → Prop) → Prop) (m : Tr (Int × Int)) : Prop := ∀ U σ H b (Q : Int → Int → Hp → Prop), Rel g U H σ ε → Wd g H b → UOk g U H → Al (fun o b' => ∀ H', Wd g H' b' → Fr H H' g.p → Q o.1 o.2 H') (exP g U E H) m b → t σ H Q
def rgA1 (d : D) : Tr (Int × Int) := match d with
  | .int n => .ok (0, n)
  | _ => .bad
theorem srg_1 (he : SE g E ε te me) : SRg g E ε (tRg1 te) (bd me rgA1) := fun U σ H b Q R W u q =>
  he.step R W u q fun v d H1 b1 d1 w1 f1 R1 u1 q1 => by
    cases d with
    | int i =>
      cases den_int d1
      exact ⟨i, rfl, q1 H1 w1 f1⟩
    | _ => exact q1.elim
def rgOk (a b : Int) : Prop := -(2 ^ 62) ≤ a ∧ a < 2 ^ 62 ∧ -(2 ^ 62) ≤ b ∧ b < 2 ^ 62 ∧ b - a ≤ 16777216
instance (a b : Int) : Decidable (rgOk a b) := by unfold rgOk; infer_instance
theorem denL_rg (a b : Int) : DenL g U H (rgV a b) (rgD a (b - a).toNat) := by
  have e : ∀ ns : List Nat, DenL g U H (ns.map fun i => V.int (a + (i : Nat))) (ns.map fun i => D.int (a + (i : Nat))) := fun ns => by
    induction ns with
    | nil => exact .nil
    | cons n r ih => exact .cons (.int _) ih
  exact e _
theorem rgV_ok {a b : Int} (h : rgOk a b) : (rgV a b).length ≤ sizeLine := by
  rw [rgV_length, sizeLine_eq]
  have := h.2.2.2.2
  omega
theorem se_lstRg {t : L2.St → Hp → (Int → Int → Hp → Prop) → Prop} {m : Tr (Int × Int)} (he : SRg g E ε t m) : SE g E ε (tLstRg t) (bd m fun r => if rgOk r.1 r.2 then .ok (.lst (rgD r.1 (r.2 - r.1).toNat)) else .bad) := fun U σ H b Q R W u q =>
  he U σ H b _ R W u ((al_bd.mp q).mono (fun r b1 h1 H1 w1 f1 => by
    by_cases h : rgOk r.1 r.2
    · rw [if_pos h] at h1
      exact ⟨⟨h.1, h.2.1, h.2.2.1, h.2.2.2.1, by have := h.2.2.2.2; omega⟩, new_lst (okP.fr f1 h1) w1 (u.fr f1 w1) (rgV_ok h) (denL_rg _ _)⟩
    · rw [if_neg h] at h1
      exact h1.elim) (fun _ _ _ h => h))
theorem se_tupRg {t : L2.St → Hp → (Int → Int → Hp → Prop) → Prop} {m : Tr (Int × Int)} (he : SRg g E ε t m) : SE g E ε (tTupRg t) (bd m fun r => if rgOk r.1 r.2 then .ok (.tup (rgD r.1 (r.2 - r.1).toNat)) else .bad) := fun U σ H b Q R W u q =>
  he U σ H b _ R W u ((al_bd.mp q).mono (fun r b1 h1 H1 w1 f1 => by
    by_cases h : rgOk r.1 r.2
    · rw [if_pos h] at h1
      exact ⟨⟨h.1, h.2.1, h.2.2.1, h.2.2.2.1, by have := h.2.2.2.2; omega⟩, new_tup (okP.fr f1 h1) w1 (u.fr f1 w1) (rgV_ok h) (denL_rg _ _)⟩
    · rw [if_neg h] at h1
      exact h1.elim) (fun _ _ _ h => h))
def IsT (g : Gw) (u : Value) (f : D → Option Bool) : Prop := ∀ U H v d k, Den g U H v d → f d = some k → (∃ t, TyX g.K H v t ∧ PySem.W.kitOne g.K t u = some k) ∨ (∃ a C, v = .ref a ∧ H a = some (exk0 a C) ∧ ErrT g.K C ∧ PySem.W.kitOne g.K (.ref C) u = some k) ∨ ∃ a C dd fvs, v = .ref a ∧ H a = some (exk a C dd) ∧ H dd = some (.xd fvs) ∧ ErrT g.K C ∧ PySem.W.kitOne g.K (.ref C) u = some k
def opt {α : Type} (o : Option α) : Tr α := match o with
  | some a => .ok a
  | none => .bad
theorem se_isi {cv : V} {u : Value} {f : D → Option Bool} (hc : ClsV cv u) (hT : IsT g u f) (he : SE g E ε te me) : SE g E ε (tCB (rIsiZ g.K) (tCons te (tCons (tC cv) tNil))) (bd me fun d => bd (opt (f d)) fun k => .ok (.bl k)) := fun U σ H b Q R W uo q =>
  he.step R W uo q fun v d H1 b1 d1 w1 f1 R1 u1 q1 => by
    cases e : f d with
    | none => rw [e] at q1; exact q1.elim
    | some k =>
      rw [e] at q1
      have q2 := okP.here (okP.fr f1 q1) w1 (.bl k)
      rcases hT U H1 v d k d1 e with ⟨t, h1, h2⟩ | ⟨a, C, rfl, h1, h3, h4⟩ | ⟨a, C, dd, fvs, rfl, h1, h2, h3, h4⟩
      · exact .inl ⟨v, cv, t, u, k, rfl, hc, h1, h2, q2⟩
      · exact .inr (.inl ⟨a, C, cv, u, k, rfl, hc, h1, h3, h4, q2⟩)
      · exact .inr (.inr ⟨a, C, dd, fvs, cv, u, k, rfl, hc, h1, h2, h3, h4, q2⟩)
def kdN : D → Option String
  | .non => some "NoneType"
  | .bl _ => some "bool"
  | .int _ => some "int"
  | .str _ => some "str"
  | .lst _ => some "list"
  | .tup _ => some "tuple"
  | .dct => some "dict"
  | .dic _ => some "dict"
  | _ => none
theorem kd_ty {v : V} {d : D} {n : String} (h : Den g U H v d) (e : kdN d = some n) : TyX g.K H v (.type n) := by
  cases h with
  | non => cases e; exact .base .non
  | bl b => cases e; exact .base (.bl b)
  | int i => cases e; exact .base (.int i)
  | str x _ => cases e; exact .base (.str x)
  | tup h _ _ _ => cases e; exact .base (.tup h)
  | tupW h _ _ _ =>
    cases e
    rcases h (fun _ => none) with (z | ⟨o, z⟩) | ⟨o, its, n, z1, z2, _⟩
    · cases z
    · cases z
    · exact .kTuple z1 z2
  | lst h _ _ _ => cases e; exact .base (.lst h)
  | obj _ _ _ => cases e
  | err _ _ _ _ _ => cases e
  | pen => cases e
  | cls _ => cases e
  | er0 _ _ => cases e
  | dct h _ => cases e; exact .base (.dK h)
  | dic h _ _ _ => cases e; exact .base (.dK h)
  | dit _ _ _ _ => cases e
  | dik _ _ _ _ => cases e
def isF (kb : String → Option Bool) (tab etab : List (Str × Bool)) (d : D) : Option Bool := match d with
  | .obj c _ => tab.lookup c
  | .err c _ => etab.lookup c
  | .er0 c => etab.lookup c
  | d => (kdN d).bind kb
theorem isT_of {u : Value} {kb : String → Option Bool} {tab etab : List (Str × Bool)} (h1 : ∀ n k, kb n = some k → PySem.W.kitOne g.K (.type n) u = some k) (h2 : ∀ c k, tab.lookup c = some k → Cls g.K (gd c g.K) ∧ InsT g.K (gd c g.K) ∧ PySem.W.kitOne g.K (.ref (gd c g.K)) u = some k)
    (h3 : ∀ c k, etab.lookup c = some k → ErrT g.K (gd c g.K) ∧ PySem.W.kitOne g.K (.ref (gd c g.K)) u = some k) : IsT g u (isF kb tab etab) := fun U H v d k dn e => by
  have base : ∀ d, Den g U H v d → (kdN d).bind kb = some k → ∃ t, TyX g.K H v t ∧ PySem.W.kitOne g.K t u = some k := fun d dn e => by
    cases q : kdN d with
    | none => rw [q] at e; cases e
    | some n =>
      rw [q] at e
      exact ⟨_, kd_ty dn q, h1 n k e⟩
  cases d with
  | obj c fs =>
    obtain ⟨a, dx, fvs, rfl, ea, _, _⟩ := den_obj dn
    obtain ⟨z1, z2, z3⟩ := h2 c k e
    exact .inl ⟨_, z2.ty z1 ea, z3⟩
  | err c fs =>
    cases dn with
    | err ha _ hd _ _ =>
      obtain ⟨z1, z2⟩ := h3 c k e
      exact .inr (.inr ⟨_, _, _, _, rfl, ha, hd, z1, z2⟩)
  | non => exact .inl (base _ dn e)
  | bl b => exact .inl (base _ dn e)
  | int i => exact .inl (base _ dn e)
  | str x => exact .inl (base _ dn e)
  | lst ds => exact .inl (base _ dn e)
  | tup ds => exact .inl (base _ dn e)
  | pen => exact .inl (base _ dn e)
  | cls c => exact .inl (base _ dn e)
  | er0 c =>
    cases dn with
    | er0 ha _ =>
      obtain ⟨z1, z2⟩ := h3 c k e
      exact .inr (.inl ⟨_, _, rfl, ha, z1, z2⟩)
  | dct => exact .inl (base _ dn e)
  | dic ps => exact .inl (base _ dn e)
  | dit ps => exact .inl (base _ dn e)
  | dik ps => exact .inl (base _ dn e)
theorem den_shw {v : V} {d : D} {x : Str} (h : Den g U H v d) (e : shwD d = some x) : Shw g.K H v x := by
  have cmp : ∀ {a : Addr}, v = .ref a → (match toPy d with
    | some e => if e.showable = true ∧ e.hasDict = false ∧ e.depth ≤ 100 ∧ e.shown.length ≤ sizeLine then some e.shown else none
    | none => none) = some x → Shw g.K H v x := fun {a} ev e => by
    subst ev
    split at e
    · split at e
      · rename_i q z
        cases e
        exact .dp (den_dp d h q) z.1 z.2.1 z.2.2.1 z.2.2.2
      · cases e
    · cases e
  cases d with
  | non => cases h; cases e; exact .non
  | bl b => cases h; cases e; exact .bl b
  | int i =>
    cases h
    unfold shwD at e
    dsimp only at e
    split at e
    · cases e; exact .int i (by assumption)
    · cases e
  | str y =>
    cases h
    unfold shwD at e
    dsimp only at e
    split at e
    · cases e; exact .str y (by assumption)
    · cases e
  | tup ds =>
    obtain ⟨a, _, rfl, _⟩ := den_tup h
    exact cmp rfl e
  | lst ds =>
    obtain ⟨a, _, rfl, _⟩ := den_lst h
    exact cmp rfl e
  | obj c fs => cases e
  | dic ps => cases e
  | dit ps => cases e
  | dik ps => cases e
  | err c fs => cases e
  | pen => cases e
  | cls c => cases e
  | er0 c => cases e
  | dct => cases e
theorem srl_repr : SRL g E (rShow g.K) (ul1 reprD) := fun U H b xs dxs Q dn w u q => by
  obtain ⟨x, rfl, q1⟩ := al_ul1 q
  obtain ⟨v, rfl, d1⟩ := denL_1 dn
  unfold reprD at q1
  split at q1
  · rename_i z e
    split at q1
    · exact rShow_of (den_shw d1 e) (okP.here q1 w (.str _ (by assumption)))
    · exact q1.elim
  · exact q1.elim
def strD (d : D) : Tr D := match d with
  | .int i => if i.natAbs.log2 < 1920 ∧ (Str.ofString (toString i)).length ≤ sizeLine then .ok (.str (toString i)) else .bad
  | _ => .bad
theorem srl_str : SRL g E rStrI (ul1 strD) := fun U H b xs dxs Q dn w u q => by
  obtain ⟨x, rfl, q1⟩ := al_ul1 q
  obtain ⟨v, rfl, d1⟩ := denL_1 dn
  unfold strD at q1
  split at q1
  · split at q1
    · rename_i z
      cases den_int d1
      exact st_strI z.1 (okP.here q1 w (.str _ z.2))
    · exact q1.elim
  · exact q1.elim
theorem ss_setf {c f : Str} {fs : Fs} {k : D → Tr (Fl W L)} (he : SE g E ε te me) (hk : ∀ d, SS g E (ε.set 0 (.oi c (putD f d fs))) u env envL (k d)) (hi : ε[0]? = some (.oi c fs) := by rfl) :
    SS g E ε (tSeq (sF (gd c g.K) (tVar 0) te f) u) env envL (bd me fun d => if fs.length < 900 then k d else .bad) := fun Mt U0 H0 U Ds σ H b s q => by
  refine st_sF ?_
  refine he.sstep s q fun y d H1 b1 dy s1 q1 => ?_
  by_cases hl : fs.length < 900
  · rw [if_pos hl] at q1
    obtain ⟨o, eo, a, dx, fvs, rfl, ha, df, ua, n1, n2⟩ := s1.rel.at_ 0 _ hi
    refine ⟨.ref a, eo, st_setF ha (by rw [df.length]; omega) fun H2 m2 => ?_⟩
    have kp := m2.keep
    have xt : ExtU U H1 H2 := fun x o e ne _ => kp x o e (fun z => ne (z ▸ ua))
    have il : 0 < ε.length := (List.getElem?_eq_some_iff.mp hi).1
    have ow : ∀ j x, OwnAt σ (ε.set 0 (.oi c (putD f d fs))) j x → OwnAt σ ε j x := fun j x z => by
      obtain ⟨z1, z2⟩ := z
      by_cases q : 0 = j
      · subst q
        exact ⟨z1, .inr ⟨c, fs, hi⟩⟩
      · rw [List.getElem?_set_ne q] at z2
        exact ⟨z1, z2⟩
    have apart : ∀ j x, 0 ≠ j → OwnAt σ ε j x → x ≠ a := fun j x ne z e => by
      subst e
      exact s1.rel.apart 0 j x ne ⟨eo, .inr ⟨c, fs, hi⟩⟩ z
    have hmt := (s1.oim 0 c fs a trivial hi eo).1 rfl
    have ev : Ev U H1 U H2 := ⟨xt, fun _ _ _ n _ => n⟩
    refine hk d Mt U0 H0 U Ds σ H2 b1 ⟨⟨by rw [List.length_set]; exact s1.rel.len, fun j x e => ?_, fun j k x ne z1 z2 => s1.rel.apart j k x ne (ow _ _ z1) (ow _ _ z2)⟩, ⟨s1.wd.pen.keep kp n1 n2, tabs_muI m2 ha s1.wd.tabs⟩, ⟨s1.uok.p, s1.uok.c, fun x hx => ?_⟩, s1.sub, fun j x z => s1.own j x (ow _ _ z), fun x o e m1 m2 m3 => ?_, fun j xs x e1 e2 => ?_, fun j c' fs' x j0 e1 e2 => ?_⟩ (q1.mono (fun _ _ z => z.ev ev) (fun _ _ _ z => z))
    · by_cases q : 0 = j
      · subst q
        rw [List.getElem?_set_self il] at e
        cases e
        exact ⟨_, eo, a, dx, _, rfl, m2.at_, (df.put dy).ext xt, ua, n1, n2⟩
      · rw [List.getElem?_set_ne q] at e
        obtain ⟨o, e1, e2⟩ := s1.rel.at_ j x e
        refine ⟨o, e1, ?_⟩
        cases x with
        | no => trivial
        | fz d =>
          obtain ⟨v, e3, e4⟩ := e2
          exact ⟨v, e3, e4.ext xt⟩
        | ow ds2 =>
          obtain ⟨a2, v2, rfl, h2, d2, u2, m1, m2⟩ := e2
          have ne := apart j a2 q ⟨e1, .inl ⟨ds2, e⟩⟩
          exact ⟨a2, v2, rfl, kp _ _ h2 ne, d2.map (fun q => q.ext xt), u2, m1, m2⟩
        | oi c fs =>
          obtain ⟨a2, dx, v2, rfl, h2, d2, u2, m1, m2⟩ := e2
          have ne := apart j a2 q ⟨e1, .inr ⟨c, fs, e⟩⟩
          exact ⟨a2, dx, v2, rfl, kp _ _ h2 ne, d2.ext xt, u2, m1, m2⟩
    · by_cases q : x = a
      · subst q
        exact ⟨_, m2.at_, (fun _ z => by cases z), (fun _ z => by cases z)⟩
      · obtain ⟨o, e, t⟩ := s1.uok.al x hx
        exact ⟨o, kp x o e q, t⟩
    · exact kp x o (s1.ext x o e m1 m2 m3) (fun z => m2 (z ▸ hmt))
    · by_cases q : 0 = j
      · subst q
        rw [List.getElem?_set_self il] at e1
        cases e1
      · rw [List.getElem?_set_ne q] at e1
        exact s1.nu0 j xs x e1 e2
    · by_cases q : 0 = j
      · subst q
        exact s1.oim 0 c fs x trivial hi e2
      · rw [List.getElem?_set_ne q] at e1
        exact s1.oim j c' fs' x j0 e1 e2
  · rw [if_neg hl] at q1
    exact q1.elim
theorem ss_raise1 {c f : Str} (he : SE g E ε te me) : SS g E ε (tSeq (fun _ σ H => tMkO (gd c g.K) (spErr1 (gd c g.K) f) [] (tCons te tNil) σ H (fun cls d H' => E cls d H')) u) env envL (bd me fun d => .ex c [(f, d)]) := fun Mt U0 H0 U Ds σ H b s q => by
  show te σ H _
  refine he.sstep s q fun v d H1 b1 dv s1 q1 => ?_
  refine mk_err1 fun dd H2 sm nd hd => ?_
  have q2 : exS g Mt U0 H0 E c [(f, d)] b1 := q1
  exact q2 dd _ H2 hd (fun z => s1.uok.new nd (s1.sub _ z)) (.cons ((dv.ext (fun a o e _ _ => sm a o e)).sub fun a _ z => s1.sub a z) .nil) (s1.wd.same sm) (s1.ext.trans (fr_same sm))
end
end Gp
end
section
set_option Elab.async false
set_option linter.all false
set_option maxRecDepth 100000
set_option maxHeartbeats 4000000
namespace Gp
open PySem PySem.Spec PyProof.Rows L2 Gh
section
variable {g : Gw} {Mt U0 U U' : Addr → Prop} {H0 H H' H1 H2 : Hp} {b b1 : Nat} {σ : L2.St} {ε ε' : Env} {E : XK} {Q : VK} {W L W' : Type}
variable {env : W → Env} {envL : L → Env} {env' : W' → Env} {u ta tb : TS} {te : TE} {me : Tr D}
theorem se_powK {a c r : Int} (h1 : 0 ≤ c ∧ c ≤ 1000) (h2 : -(2 ^ 60) < a ∧ a < 2 ^ 60) (h3 : a ^ c.toNat = r) : SE g E ε (tOp (rPowK r) (tC (.int a)) (tC (.int c))) (.ok (.int r)) := fun U σ H b Q R W u q =>
  st_powK ⟨h1.1, by omega, by omega⟩ h3 (okP.here q W (.int _))
theorem passA {X : Cx} {E : XK} : Passes CX0 X E := fun _ _ _ _ _ _ _ h => h.elim
theorem PE.or {X : Cx} {e : Expr} {t1 t2 : TE} (a : PE X e t1) (c : PE X e t2) : PE X e (fun σ H Q => t1 σ H Q ∨ t2 σ H Q) := ⟨fun pins s σ H Q I h => h.elim (a.run pins s σ H Q I) (c.run pins s σ H Q I)⟩
def IsA (g : Gw) (us : List Value) (f : D → Option Bool) : Prop := ∀ U H v d k, Den g U H v d → f d = some k → ∃ t, TyX g.K H v t ∧ PySem.W.kitAny g.K t us = some k
theorem tyX_new {K : PySem.W.Frag} {v : V} {t : Value} {p : Addr} {o : HO} (np : H p = none) (h : TyX K H v t) : TyX K (upd H p o) v t := by
  have s := same_new (o := o) np
  cases h with
  | base h =>
    cases h with
    | non => exact .base .non
    | bl x => exact .base (.bl x)
    | int i => exact .base (.int i)
    | str x => exact .base (.str x)
    | flt x => exact .base (.flt x)
    | lst e => exact .base (.lst (s _ _ e))
    | frz e => exact .base (.frz (s _ _ e))
    | tup e => exact .base (.tup (s _ _ e))
    | dK e => exact .base (.dK (s _ _ e))
    | dT e => exact .base (.dT (s _ _ e))
    | ins e cl ha hn htk hm => exact .base (.ins (s _ _ e) cl ha hn htk hm)
  | byt b => exact .byt b
  | set e => exact .set (s _ _ e)
  | kList e c => exact .kList e c
  | kTuple e c => exact .kTuple e c
  | kDict e c => exact .kDict e c
  | fTuple e => exact .fTuple (s _ _ e)
  | fDict e => exact .fDict (s _ _ e)
theorem se_isiT {n1 n2 : String} {f : D → Option Bool} (hT : IsA g [.type n1, .type n2] f) (he : SE g E ε te me) : SE g E ε (tCB (rIsiT g.K) (tCons te (tCons (tTup (tCons (tC (.ty n1)) (tCons (tC (.ty n2)) tNil))) tNil))) (bd me fun d => bd (opt (f d)) fun k => .ok (.bl k)) := fun U σ H b Q R W uo q =>
  he.step R W uo q fun v d H1 b1 d1 w1 f1 R1 u1 q1 => by
    refine ⟨by show 2 ≤ sizeLine; decide, fun p np => ?_⟩
    cases e : f d with
    | none => rw [e] at q1; exact q1.elim
    | some k =>
      rw [e] at q1
      obtain ⟨t, h1, h2⟩ := hT U H1 v d k d1 e
      have s := same_new (o := .tup [V.ty n1, V.ty n2]) np
      exact ⟨v, p, _, t, _, k, rfl, upd_same, .cons (.ty _) (.cons (.ty _) .nil), tyX_new np h1, h2, q1 _ _ (.bl k) (w1.same s) (f1.trans (fr_same s))⟩
theorem isA_of {us : List Value} {kb : String → Option Bool} {tab : List (Str × Bool)} (h1 : ∀ n k, kb n = some k → PySem.W.kitAny g.K (.type n) us = some k) (h2 : ∀ c k, tab.lookup c = some k → Cls g.K (gd c g.K) ∧ InsT g.K (gd c g.K) ∧ PySem.W.kitAny g.K (.ref (gd c g.K)) us = some k) : IsA g us (isF kb tab []) := fun U H v d k dn e => by
  have base : ∀ d, Den g U H v d → (kdN d).bind kb = some k → ∃ t, TyX g.K H v t ∧ PySem.W.kitAny g.K t us = some k := fun d dn e => by
    cases q : kdN d with
    | none => rw [q] at e; cases e
    | some n =>
      rw [q] at e
      exact ⟨_, kd_ty dn q, h1 n k e⟩
  cases d with
  | obj c fs =>
    obtain ⟨a, dx, fvs, rfl, ea, _, _⟩ := den_obj dn
    obtain ⟨z1, z2, z3⟩ := h2 c k e
    exact ⟨_, z2.ty z1 ea, z3⟩
  | err c fs => cases e
  | er0 c => cases e
  | non => exact base _ dn e
  | bl b => exact base _ dn e
  | int i => exact base _ dn e
  | str x => exact base _ dn e
  | lst ds => exact base _ dn e
  | tup ds => exact base _ dn e
  | pen => exact base _ dn e
  | cls c => exact base _ dn e
  | dct => exact base _ dn e
  | dic ps => exact base _ dn e
  | dit ps => exact base _ dn e
  | dik ps => exact base _ dn e
theorem spI_len {K : PySem.W.Frag} {T : List (Addr × Str)} {cn : Str} {F : Fs → List D → Tr Fs} {n : Nat} (hn : ∀ fs (P : Fs → Nat → Prop) (X : Str → Fs → Nat → Prop) ds b, Al P X (F fs ds) b → ds.length = n) {vs : List V} (h : spI K T cn F vs H Q E) : vs.length = n + 1 := by
  obtain ⟨p, c, U, ds, b, x, dx, fvs, fs, rest, rfl, hx, df, ux, np, nc, dn, wd, u, al⟩ := h
  rw [List.length_cons, dn.length, hn _ _ _ _ _ al]
theorem lenI1 {F : Fs → D → Tr Fs} (fs : Fs) (P : Fs → Nat → Prop) (X : Str → Fs → Nat → Prop) (ds : List D) (b : Nat) (h : Al P X (ul1 (F fs) ds) b) : ds.length = 1 := by obtain ⟨_, rfl, _⟩ := al_ul1 h; rfl
theorem lenI3 {F : Fs → D → D → D → Tr Fs} (fs : Fs) (P : Fs → Nat → Prop) (X : Str → Fs → Nat → Prop) (ds : List D) (b : Nat) (h : Al P X (ul3 (F fs) ds) b) : ds.length = 3 := by obtain ⟨_, _, _, rfl, _⟩ := al_ul3 h; rfl
section
variable {K : PySem.W.Frag} {T : List (Addr × Str)} {N : List Str} {cn : Str} {vs : List V} {t : TS} {envI : Fs → Env}
theorem ini_of1 {F : Fs → D → Tr Fs} {m : Fs → D → Tr (Fl Fs Empty)} (h : spI K T cn (fun fs => ul1 (F fs)) vs H Q E) (hF : ∀ fs x, F fs x = finI (m fs x)) (hs : ∀ p c fs x, SS ⟨K, T, p, c⟩ E (.oi cn fs :: ([x].map Sl.fz ++ List.replicate (N.length - (1 + 1)) Sl.no)) t envI envE (m fs x)) (he : ∀ fs, (envI fs)[0]? = some (.oi cn fs) := by intro _; rfl) : t { nx := fun _ H' => Q .non H', rt := Q } (L2.start N vs) H :=
  ini_of h (fun p c fs ds ⟨_, _, _, al⟩ => by
    obtain ⟨x, rfl, _⟩ := al_ul1 al
    exact ⟨m fs x, hF fs x, hs p c fs x⟩) he
theorem ini_of3 {F : Fs → D → D → D → Tr Fs} {m : Fs → D → D → D → Tr (Fl Fs Empty)} (h : spI K T cn (fun fs => ul3 (F fs)) vs H Q E) (hF : ∀ fs x y z, F fs x y z = finI (m fs x y z)) (hs : ∀ p c fs x y z, SS ⟨K, T, p, c⟩ E (.oi cn fs :: ([x, y, z].map Sl.fz ++ List.replicate (N.length - (3 + 1)) Sl.no)) t envI envE (m fs x y z)) (he : ∀ fs, (envI fs)[0]? = some (.oi cn fs) := by intro _; rfl) : t { nx := fun _ H' => Q .non H', rt := Q } (L2.start N vs) H :=
  ini_of h (fun p c fs ds ⟨_, _, _, al⟩ => by
    obtain ⟨x, y, z, rfl, _⟩ := al_ul3 al
    exact ⟨m fs x y z, hF fs x y z, hs p c fs x y z⟩) he
end
def spLaw (K : PySem.W.Frag) (T : List (Addr × Str)) : Sp := fun vs H Q _ => ∃ (a : Addr) (ns : List Int), vs = [.ref a] ∧ SqL K H a (ns.map V.int) ∧ ns.length ≤ 63 ∧ LamX.Tabs T H ∧ ∀ H', Q (.bl true) H'
theorem spLaw_len {K : PySem.W.Frag} {T : List (Addr × Str)} {vs : List V} (h : spLaw K T vs H Q E) : vs.length = 1 := by
  obtain ⟨a, ns, rfl, _⟩ := h
  rfl
theorem law_of {K : PySem.W.Frag} {T : List (Addr × Str)} {N : List Str} {i n : Nat} {F : Tr D} {m : Tr (Fl Unit Empty)} {vs : List V} {t : TS} {envU : Unit → Env} (yes : Yes F) (h : spLaw K T vs H Q E) (hN : N.length = n + 1) (hi : i < n + 1) (h0 : i ≠ 0) (hF : F = fin m)
    (hs : ∀ p c, SS ⟨K, T, p, c⟩ EF ((List.replicate (n + 1) Sl.no).set i (.fz .pen)) t envU envE m) : tSeq (tAsg (tCl (rSp (spPn K) [] E) (tCons (tVar 0) tNil)) (gName i)) t { nx := fun _ H' => Q .non H', rt := Q } (L2.start N vs) H := by
  obtain ⟨a, ns, rfl, hS, hl, hT, q⟩ := h
  have st0 : L2.start N [V.ref a] = some (.ref a) :: List.replicate n none := by
    unfold L2.start
    rw [List.length_singleton, hN]
    rfl
  rw [st0]
  refine ⟨.ref a, rfl, ?_⟩
  refine ⟨a, ns, rfl, hS, hl, fun p c H1 np pn s => ?_⟩
  obtain ⟨ns', i', z', h1, h2, _⟩ := id pn
  have wd : Wd ⟨K, T, p, c⟩ H1 1000000 := ⟨pn, hT.ext s⟩
  have u : UOk ⟨K, T, p, c⟩ (fun x => x = p ∨ x = c) H1 := ⟨.inl rfl, .inr rfl, fun x hx => by
    rcases hx with rfl | rfl
    · exact ⟨_, h1, (fun _ z => by cases z), (fun _ z => by cases z)⟩
    · exact ⟨_, h2, (fun _ z => by cases z), (fun _ z => by cases z)⟩⟩
  have own : ∀ j x, ¬ OwnAt ((some (V.ref a) :: List.replicate n none).set i (some (.ref p))) ((List.replicate (n + 1) Sl.no).set i (.fz .pen)) j x := fun j x z => by
    obtain ⟨_, z2⟩ := ownAt_set z
    rcases z2.2 with ⟨ds, e⟩ | ⟨c, fs, e⟩
    · cases (List.mem_replicate.mp (List.mem_of_getElem? e)).2
    · cases (List.mem_replicate.mp (List.mem_of_getElem? e)).2
  have rl0 : Rel ⟨K, T, p, c⟩ (fun x => x = p ∨ x = c) H1 (some (V.ref a) :: List.replicate n none) (List.replicate (n + 1) Sl.no) := by
    refine ⟨by rw [List.length_cons, List.length_replicate, List.length_replicate], fun j s e => ?_, fun j k x ne z1 z2 => ?_⟩
    · have hj := (List.getElem?_eq_some_iff.mp e).1
      rw [List.length_replicate] at hj
      obtain ⟨_, rfl⟩ := List.mem_replicate.mp (List.mem_of_getElem? e)
      have hl2 : j < (some (V.ref a) :: List.replicate n (none : Option V)).length := by rw [List.length_cons, List.length_replicate]; exact hj
      exact ⟨_, List.getElem?_eq_getElem hl2, trivial⟩
    · rcases z1.2 with ⟨ds, e⟩ | ⟨c, fs, e⟩
      · cases (List.mem_replicate.mp (List.mem_of_getElem? e)).2
      · cases (List.mem_replicate.mp (List.mem_of_getElem? e)).2
  have rl := rl0.set i (v := .ref p) (d := .pen) .pen
  have yes' : Al (fun d _ => d = .bl true) (fun _ _ _ => False) (fin m) 1000000 := hF ▸ yes
  refine hs p c (fun _ => False) (fun x => x = p ∨ x = c) H1 (fun x => x = p ∨ x = c) _ _ H1 1000000 ⟨rl, wd, u, fun _ z => z, fun j x z => (own j x z).elim, fun _ _ z _ _ _ => z, fun j ds x z1 z2 => (own j x ⟨z2, .inl ⟨ds, z1⟩⟩).elim, fun j cc fs x _ z1 z2 => (own j x ⟨z2, .inr ⟨cc, fs, z1⟩⟩).elim⟩ ((al_bd.mp yes').mono (fun f b h => ?_) (fun _ _ _ z => z.elim))
  cases f with
  | nx w => cases (show D.non = .bl true from h)
  | rt d =>
    have h' : d = .bl true := h
    subst h'
    intro v H2 dn _ _
    cases dn
    exact q H2
  | bk e => exact nomatch e
  | ct e => exact nomatch e
def EqR (g : Gw) (c : Str) (f : D → Bool) : Prop := ∀ U H v d, Den g U H v d → f d = true → ∃ tb, TyX g.K H v tb ∧ PySem.W.notFirst g.K (gd c g.K) tb = true
theorem sr_eqO {c : Str} {f : D → Bool} {r : List V → Hp → VK → Prop} {F : List D → Tr D} (hf : EqR g c f) (hr : SRL g E r F) : SR2 g E (rEqO g.K (gd c g.K) r) (eqO c f F) := fun U H b x y dx dy Q d1 d2 w u q => by
  obtain ⟨fs, rfl, q1⟩ := al_isO q
  obtain ⟨a, da, fa, rfl, ea, _, _⟩ := den_obj d1
  by_cases h : f dy = true
  · rw [if_pos h] at q1
    obtain ⟨tb, h1, h2⟩ := hf U H y dy d2 h
    exact st_eqO ea h1 h2 (hr U H b _ _ Q (.cons d1 (.cons d2 .nil)) w u q1)
  · rw [if_neg h] at q1
    exact q1.elim
def neO (c : Str) (f : D → Bool) (F : List D → Tr D) (x y : D) : Tr D := isO c x fun _ => if f y = true then bd (bd (F [x, y]) asB) fun k => .ok (.bl (!k)) else .bad
theorem sr_neO {c : Str} {f : D → Bool} {F : List D → Tr D} (hf : EqR g c f) : SR2 g E (rNeO g.K (gd c g.K) (spF g.K g.T F) E) (neO c f F) := fun U H b x y dx dy Q d1 d2 w u q => by
  obtain ⟨fs, rfl, q1⟩ := al_isO q
  obtain ⟨a, da, fa, rfl, ea, _, _⟩ := den_obj d1
  by_cases h : f dy = true
  · rw [if_pos h, bd_bd] at q1
    obtain ⟨tb, h1, h2⟩ := hf U H y dy d2 h
    refine st_neO ea h1 h2 ⟨g.p, g.c, U, _, b, .cons d1 (.cons d2 .nil), w, u, (al_bd.mp q1).mono (fun d b1 h1 v H1 dv w1 f1 => ?_) (fun _ _ _ z => z)⟩
    obtain ⟨k, rfl, q2⟩ := al_asBk h1
    exact ⟨k, den_bl dv, q2 _ H1 (.bl _) w1 f1⟩
  · rw [if_neg h] at q1
    exact q1.elim
def asS (d : D) : Tr D := match d with
  | .str x => .ok (.str x)
  | _ => .bad
def strO (c : Str) (F : List D → Tr D) (x : D) : Tr D := isO c x fun _ => bd (F [x]) asS
theorem srl_strO {c : Str} {F : List D → Tr D} : SRL g E (rStrO (gd c g.K) (spF g.K g.T F) E) (ul1 (strO c F)) := fun U H b xs dxs Q dn w u q => by
  obtain ⟨x, rfl, q1⟩ := al_ul1 q
  obtain ⟨v, rfl, d1⟩ := denL_1 dn
  obtain ⟨fs, rfl, q2⟩ := al_isO q1
  obtain ⟨a, da, fa, rfl, ea, _, _⟩ := den_obj d1
  refine st_strO ea ⟨g.p, g.c, U, _, b, .cons d1 .nil, w, u, (al_bd.mp q2).mono (fun d b1 h1 v H1 dv w1 f1 => ?_) (fun _ _ _ z => z)⟩
  cases d with
  | str z =>
    obtain ⟨rfl, l⟩ := den_str dv
    exact ⟨z, rfl, h1 _ H1 dv w1 f1⟩
  | _ => exact h1.elim
end
end Gp
namespace Gp
open PySem PySem.Spec PyProof.Rows L2 Gh
section
variable {g : Gw}
theorem kitAny2 {K : PySem.W.Frag} {n a c : String} {k : Bool} (h : ((kitB n a).bind fun x => (kitB n c).map fun y => x || y) = some k) : PySem.W.kitAny K (.type n) [.type a, .type c] = some k := by
  cases e1 : kitB n a with
  | none => rw [e1] at h; cases h
  | some x =>
    cases e2 : kitB n c with
    | none => rw [e1, e2] at h; cases h
    | some y =>
      rw [e1, e2] at h
      cases h
      cases x with
      | true => exact kitAny_cons (kit_ty e1) (fun z => by cases z) (fun _ => rfl)
      | false =>
        refine kitAny_cons (kit_ty e1) (fun _ => ?_) (fun z => by cases z)
        cases y with
        | true => exact kitAny_cons (kit_ty e2) (fun z => by cases z) (fun _ => rfl)
        | false => exact kitAny_cons (kit_ty e2) (fun _ => rfl) (fun z => by cases z)
def eqF0 (cs : List Str) (d : D) : Bool := match d with
  | .obj c _ => cs.contains c
  | d => (kdN d).isSome
theorem eqR_of {c : Str} {cs : List Str} (h1 : ∀ n ∈ (["NoneType", "bool", "int", "str", "list", "tuple", "dict"] : List String), PySem.W.notFirst g.K (gd c g.K) (.type n) = true) (h2 : ∀ c' ∈ cs, Cls g.K (gd c' g.K) ∧ InsT g.K (gd c' g.K) ∧ PySem.W.notFirst g.K (gd c g.K) (.ref (gd c' g.K)) = true) : EqR g c (eqF0 cs) := fun U H v d dn e => by
  have base : ∀ d, Den g U H v d → (kdN d).isSome = true → ∃ tb, TyX g.K H v tb ∧ PySem.W.notFirst g.K (gd c g.K) tb = true := fun d dn e => by
    cases q : kdN d with
    | none => rw [q] at e; cases e
    | some n =>
      refine ⟨_, kd_ty dn q, h1 n ?_⟩
      cases d <;> cases q <;> decide
  cases d with
  | obj c' fs =>
    obtain ⟨a, dx, fvs, rfl, ea, _, _⟩ := den_obj dn
    obtain ⟨z1, z2, z3⟩ := h2 c' (by simpa [eqF0] using e)
    exact ⟨_, z2.ty z1 ea, z3⟩
  | err c fs => exact base _ dn e
  | non => exact base _ dn e
  | bl b => exact base _ dn e
  | int i => exact base _ dn e
  | str x => exact base _ dn e
  | lst ds => exact base _ dn e
  | tup ds => exact base _ dn e
  | pen => exact base _ dn e
  | cls c => exact base _ dn e
  | er0 c => exact base _ dn e
  | dct => exact base _ dn e
  | dic ps => exact base _ dn e
  | dit ps => exact base _ dn e
  | dik ps => exact base _ dn e
end
end Gp
namespace Gp
open PySem PySem.Spec PyProof.Rows L2 Gh
theorem fnOk_weak {P : Program} {w : World} {K : PySem.W.Frag} {mg : Str → Option Value} {base : Heap} {CX : CXT} {k : Nat} {f : Addr} {fd : FuncData} {ps : List Str} {sp sp' : Sp} (F : FnOk P w K mg base CX k f fd ps sp) (h : ∀ vs H Q E, sp' vs H Q E → sp vs H Q E) : FnOk P w K mg base CX k f fd ps sp' :=
  ⟨fun vs H Q E z => F.len vs H Q E (h _ _ _ _ z), fun A o s H a us vs Q E hr e0 hb r z => F.run A o s H a us vs Q E hr e0 hb r (h _ _ _ _ z)⟩
def F_draw (x y : D) : Tr D := match x, y with
  | .pen, .int m => .draw m fun d => .ok (.int d)
  | _, _ => .bad
theorem F_draw_eq (m : Int) : F_draw .pen (.int m) = .draw m fun d => .ok (.int d) := rfl
theorem draw_of {K : PySem.W.Frag} {T : List (Addr × Str)} {vs : List V} {H : Hp} {Q : VK} {E : XK} (h : spF K T (ul2 F_draw) vs H Q E) : spDr vs H Q E := by
  obtain ⟨p, c, U, ds, b, dn, wd, u, al⟩ := h
  obtain ⟨x, y, rfl, al2⟩ := al_ul2 al
  obtain ⟨v, w, rfl, d1, d2⟩ := denL_2 dn
  unfold F_draw at al2
  split at al2
  · rename_i m
    cases d1
    cases d2
    obtain ⟨b', rfl, h0, h1, h2⟩ := al2
    refine ⟨p, c, b', m, rfl, h0, log_of h0 h1, wd.pen, fun d H' d0 d1 pn k => ?_⟩
    exact h2 d d0 d1 (.int d) H' (.int d) ⟨pn, tabs_keepP k wd.pen wd.tabs⟩ (keep_fr k)
  · exact al2.elim
end Gp
end
section
set_option Elab.async false
set_option linter.all false
set_option maxRecDepth 100000
set_option maxHeartbeats 4000000
namespace Gp
open PySem PySem.Spec PyProof.Rows L2 Gh
def intsD : List D → Option (List Int)
  | [] => some []
  | .int i :: r => (intsD r).map (i :: ·)
  | _ => none
def blsD : List D → Option (List Bool)
  | [] => some []
  | .bl i :: r => (blsD r).map (i :: ·)
  | _ => none
def strsD : List D → Option (List Str)
  | [] => some []
  | .str i :: r => (strsD r).map (i :: ·)
  | _ => none
theorem intsD_map (ns : List Int) : intsD (ns.map D.int) = some ns := by
  induction ns with
  | nil => rfl
  | cons n r ih => show (intsD (r.map D.int)).map (n :: ·) = _; rw [ih]; rfl
theorem blsD_map (ns : List Bool) : blsD (ns.map D.bl) = some ns := by
  induction ns with
  | nil => rfl
  | cons n r ih => show (blsD (r.map D.bl)).map (n :: ·) = _; rw [ih]; rfl
section
variable {g : Gw} {U : Addr → Prop} {H : Hp} {b : Nat} {E : XK} {Q : VK} {ε : Env} {te : TE} {me : Tr D}
theorem ints_den : ∀ {vs : List V} {ds : List D} {ns : List Int}, DenL g U H vs ds → intsD ds = some ns → vs = ns.map V.int
  | _, _, _, .nil, h => by cases h; rfl
  | _, d :: ds, ns, .cons a r, h => by
    cases d with
    | int i =>
      cases q : intsD ds with
      | none => unfold intsD at h; rw [q] at h; cases h
      | some z =>
        unfold intsD at h
        rw [q] at h
        cases h
        rw [den_int a, ints_den r q]
        rfl
    | _ => cases h
theorem bls_den : ∀ {vs : List V} {ds : List D} {ns : List Bool}, DenL g U H vs ds → blsD ds = some ns → vs = ns.map V.bl
  | _, _, _, .nil, h => by cases h; rfl
  | _, d :: ds, ns, .cons a r, h => by
    cases d with
    | bl i =>
      cases q : blsD ds with
      | none => unfold blsD at h; rw [q] at h; cases h
      | some z =>
        unfold blsD at h
        rw [q] at h
        cases h
        rw [den_bl a, bls_den r q]
        rfl
    | _ => cases h
theorem strs_den : ∀ {vs : List V} {ds : List D} {ns : List Str}, DenL g U H vs ds → strsD ds = some ns → vs = ns.map V.str
  | _, _, _, .nil, h => by cases h; rfl
  | _, d :: ds, ns, .cons a r, h => by
    cases d with
    | str i =>
      cases q : strsD ds with
      | none => unfold strsD at h; rw [q] at h; cases h
      | some z =>
        unfold strsD at h
        rw [q] at h
        cases h
        rw [(den_str a).1, strs_den r q]
        rfl
    | _ => cases h
def lsI (x : D) (k : List Int → Tr D) : Tr D := match x with
  | .lst ds => match intsD ds with
    | some ns => k ns
    | none => .bad
  | _ => .bad
theorem al_lsI {P : D → Nat → Prop} {X : Str → Fs → Nat → Prop} {x : D} {k : List Int → Tr D} {v : V} (dn : Den g U H v x) (h : Al P X (lsI x k) b) : ∃ a ns, v = .ref a ∧ SqL g.K H a (ns.map V.int) ∧ x = .lst (ns.map D.int) ∧ ns.length ≤ sizeLine ∧ Al P X (k ns) b := by
  unfold lsI at h
  split at h
  · rename_i ds
    split at h
    · rename_i ns e
      obtain ⟨a, vs, rfl, hh, _, l, kk⟩ := den_lst dn
      have e2 := ints_den kk e
      subst e2
      refine ⟨a, ns, rfl, SqL.of hh, ?_, by rw [List.length_map] at l; exact l, h⟩
      congr 1
      clear kk l hh dn h
      induction ds generalizing ns with
      | nil => cases e; rfl
      | cons d r ih =>
        cases d with
        | int i =>
          unfold intsD at e
          cases q : intsD r with
          | none => rw [q] at e; cases e
          | some z =>
            rw [q] at e
            cases e
            rw [List.map_cons, ← ih z q]
        | _ => cases e
    · exact h.elim
  · exact h.elim
def insI (a : Int) : List Int → List Int
  | [] => [a]
  | b :: r => if a ≤ b then a :: b :: r else b :: insI a r
def sortI : List Int → List Int
  | [] => []
  | a :: r => insI a (sortI r)
theorem insI_perm (a : Int) : ∀ l : List Int, (insI a l).Perm (a :: l)
  | [] => .refl _
  | b :: r => by
    unfold insI
    split
    · exact .refl _
    · exact ((insI_perm a r).cons b).trans (.swap a b r)
theorem insI_sorted (a : Int) : ∀ l : List Int, l.Pairwise (· ≤ ·) → (insI a l).Pairwise (· ≤ ·)
  | [], _ => List.pairwise_singleton _ _
  | b :: r, h => by
    unfold insI
    split
    · rename_i hab
      refine List.pairwise_cons.mpr ⟨fun y hy => ?_, h⟩
      rcases List.mem_cons.mp hy with rfl | hy
      · exact hab
      · exact Int.le_trans hab ((List.pairwise_cons.mp h).1 y hy)
    · rename_i hab
      refine List.pairwise_cons.mpr ⟨fun y hy => ?_, insI_sorted a r (List.pairwise_cons.mp h).2⟩
      rcases List.mem_cons.mp ((insI_perm a r).mem_iff.mp hy) with rfl | hy
      · omega
      · exact (List.pairwise_cons.mp h).1 y hy
theorem sortI_perm : ∀ l : List Int, (sortI l).Perm l
  | [] => .refl _
  | a :: r => (insI_perm a _).trans ((sortI_perm r).cons a)
theorem sortI_sorted : ∀ l : List Int, (sortI l).Pairwise (· ≤ ·)
  | [] => .nil
  | a :: r => insI_sorted a _ (sortI_sorted r)
theorem sorted_eq : ∀ {l m : List Int}, l.Perm m → l.Pairwise (· ≤ ·) → m.Pairwise (· ≤ ·) → l = m
  | [], m, p, _, _ => (List.nil_perm.mp p).symm
  | a :: r, [], p, _, _ => by cases List.perm_nil.mp p
  | a :: r, c :: s, p, h1, h2 => by
    have e : a = c := by
      have m1 : c ∈ a :: r := p.mem_iff.mpr List.mem_cons_self
      have m2 : a ∈ c :: s := p.mem_iff.mp List.mem_cons_self
      rcases List.mem_cons.mp m1 with e | e
      · exact e.symm
      · rcases List.mem_cons.mp m2 with e2 | e2
        · exact e2
        · exact Int.le_antisymm ((List.pairwise_cons.mp h1).1 c e) ((List.pairwise_cons.mp h2).1 a e2)
    subst e
    rw [sorted_eq (List.perm_cons a |>.mp p) (List.pairwise_cons.mp h1).2 (List.pairwise_cons.mp h2).2]
def sortD (x : D) : Tr D := lsI x fun ns => .ok (.lst ((sortI ns).map .int))
theorem cr_sortedK {X : Cx} {K : PySem.W.Frag} (h : X.K = K) : CallR X (.builtin "sorted") (rSortedI K) := h ▸ cr_sortedI
theorem srl_sorted : SRL g E (rSortedI g.K) (ul1 sortD) := fun U H b xs dxs Q dn w u q => by
  obtain ⟨x, rfl, q1⟩ := al_ul1 q
  obtain ⟨v, rfl, d1⟩ := denL_1 dn
  obtain ⟨a, ns, rfl, h1, _, l, q2⟩ := al_lsI d1 q1
  refine ⟨a, ns, rfl, h1, fun ns' p pm srt np => ?_⟩
  have e : ns' = sortI ns := sorted_eq (pm.trans (sortI_perm ns).symm) srt (sortI_sorted ns)
  subst e
  refine new_lst q2 w u ?_ (DenL.ints _) p np
  rw [List.length_map, (sortI_perm ns).length_eq]
  exact l
def lsB (x : D) (k : List Bool → Tr D) : Tr D := match x with
  | .lst ds => match blsD ds with
    | some ns => k ns
    | none => .bad
  | _ => .bad
def allD (x : D) : Tr D := lsB x fun ns => .ok (.bl (ns.all id))
theorem cr_allK {X : Cx} {K : PySem.W.Frag} (h : X.K = K) (hc : X.calm = true) : CallR X (.builtin "all") (rAll K) := h ▸ cr_all hc
theorem al_lsB {P : D → Nat → Prop} {X : Str → Fs → Nat → Prop} {x : D} {k : List Bool → Tr D} {v : V} (dn : Den g U H v x) (h : Al P X (lsB x k) b) : ∃ a ns, v = .ref a ∧ SqL g.K H a (ns.map V.bl) ∧ Al P X (k ns) b := by
  unfold lsB at h
  split at h
  · split at h
    · rename_i ns e
      obtain ⟨a, vs, rfl, hh, _, l, kk⟩ := den_lst dn
      have e2 := bls_den kk e
      subst e2
      exact ⟨a, ns, rfl, SqL.of hh, h⟩
    · exact h.elim
  · exact h.elim
theorem srl_all : SRL g E (rAll g.K) (ul1 allD) := fun U H b xs dxs Q dn w u q => by
  obtain ⟨x, rfl, q1⟩ := al_ul1 q
  obtain ⟨v, rfl, d1⟩ := denL_1 dn
  obtain ⟨a, ns, rfl, h1, q2⟩ := al_lsB d1 q1
  exact ⟨a, ns, rfl, h1, okP.here q2 w (.bl _)⟩
end
end Gp
end
section
set_option Elab.async false
set_option linter.all false
set_option maxRecDepth 100000
set_option maxHeartbeats 4000000
namespace Gp
open PySem PySem.Spec PyProof.Rows L2 Gh
def tryT {α β : Type} : Tr α → (α → Tr β) → (Str → Fs → Tr β) → Tr β
  | .ok a, k, _ => k a
  | .ex c fs, _, x => x c fs
  | .bad, _, _ => .bad
  | .draw m f, k, x => .draw m fun d => tryT (f d) k x
theorem al_try {α β : Type} {P : β → Nat → Prop} {E : Str → Fs → Nat → Prop} {m : Tr α} {k : α → Tr β} {x : Str → Fs → Tr β} {b : Nat} : Al P E (tryT m k x) b ↔ Al (fun a b1 => Al P E (k a) b1) (fun c fs b1 => Al P E (x c fs) b1) m b := by
  induction m generalizing b with
  | draw m f ih =>
    constructor
    · rintro ⟨b', e, h1, h2, h3⟩
      exact ⟨b', e, h1, h2, fun d d0 d1 => (ih d).mp (h3 d d0 d1)⟩
    · rintro ⟨b', e, h1, h2, h3⟩
      exact ⟨b', e, h1, h2, fun d d0 d1 => (ih d).mpr (h3 d d0 d1)⟩
  | _ => exact Iff.rfl
def THd (K : PySem.W.Frag) (T : List (Addr × Str)) (FH : Tr D → Tr D) : (XK → Hp → VK → Prop) → Hp → VK → Prop := fun tl H Q => ∃ p c U b m, Wd ⟨K, T, p, c⟩ H b ∧ UOk ⟨K, T, p, c⟩ U H ∧
  (∀ (E : XK) H' b' Q', Fr H H' p → Wd ⟨K, T, p, c⟩ H' b' → Al (okP ⟨K, T, p, c⟩ U H' Q') (exP ⟨K, T, p, c⟩ U E H') m b' → tl E H' Q') ∧ Al (okP ⟨K, T, p, c⟩ U H Q) (fun _ _ _ => False) (FH m) b
section
variable {g : Gw} {Mt U0 U U' : Addr → Prop} {H0 H H' H1 H2 : Hp} {b b1 : Nat} {σ : L2.St} {ε ε' : Env} {E : XK} {W L W' : Type}
variable {env : W → Env} {envL : L → Env} {env' : W' → Env} {u ta tb : TS} {te : TE} {me : Tr D}
theorem UOk.extN (u : UOk g U H) (n : LamX.ExtN H H') : UOk g U H' := ⟨u.p, u.c, fun a ha => by
  obtain ⟨o, h, z⟩ := u.al a ha
  exact ⟨o, n a o h z.tbl, z⟩⟩
theorem se_lam {FH : Tr D → Tr D} {t : XK → TE} {m : Tr D} (h : ∀ E, SE g E ε (t E) m) : SE g E ε (LamX.tLam g.T (THd g.K g.T FH) t) (nox (FH m)) := fun U σ H b Q R W u q => by
  refine ⟨W.tabs, fun H1 n t1 => ⟨g.p, g.c, U, b, m, ⟨W.pen.extN n, t1⟩, u.extN n, fun E H' b' Q' f w' a' => ?_, ?_⟩⟩
  · have f1 : Fr H H' g.p := (ext_fr n).trans f
    exact h E U σ H' b' Q' (R.fr u f1) w' (u.fr f1 w') a'
  · exact Al.mono (fun _ _ z => okP.fr (ext_fr n) z) (fun _ _ _ z => z) (al_nox (E' := fun _ _ _ => False) q)
theorem rel_err {n i j : Nat} {a dd : Addr} {cl : Str} {fvs : List (Str × V)} {fs : Fs} (hl : σ.length = n) (hi : i < n) (hj : j < n) (hij : i ≠ j) (ha : H a = some (exk a (gd cl g.K) dd)) (na : ¬ U a) (hd : H dd = some (.xd fvs)) (nd : ¬ U dd) (df : DenF g U H fvs fs) :
    Rel g U H (((σ.set i (some (.ref a))).set j (some (.ref a))).set i none) ((List.replicate n Sl.no).set j (.fz (.err cl fs))) := by
  have no : ∀ k x, ¬ OwnAt (((σ.set i (some (.ref a))).set j (some (.ref a))).set i none) ((List.replicate n Sl.no).set j (.fz (.err cl fs))) k x := fun k x ⟨_, z⟩ => by
    have : ∀ s : Sl, ((List.replicate n Sl.no).set j (.fz (.err cl fs)))[k]? = some s → (∃ d, s = .fz d) ∨ s = .no := fun s e => by
      have m := List.mem_of_getElem? e
      rcases List.mem_or_eq_of_mem_set m with m | m
      · exact .inr (List.mem_replicate.mp m).2
      · exact .inl ⟨_, m⟩
    rcases z with ⟨x, z⟩ | ⟨x, y, z⟩
    · rcases this _ z with ⟨d, e⟩ | e <;> cases e
    · rcases this _ z with ⟨d, e⟩ | e <;> cases e
  refine ⟨by simp only [List.length_set, List.length_replicate]; exact hl, fun k s e => ?_, fun _ _ x _ h1 _ => (no _ x h1).elim⟩
  by_cases q : j = k
  · subst q
    rw [List.getElem?_set_self (by rw [List.length_replicate]; exact hj)] at e
    cases e
    refine ⟨some (.ref a), ?_, _, rfl, .err ha na hd nd df⟩
    rw [List.getElem?_set_ne hij, List.getElem?_set_self (by rw [List.length_set, hl]; exact hj)]
  · rw [List.getElem?_set_ne q, List.getElem?_replicate] at e
    split at e
    · rename_i hk
      cases e
      refine ⟨_, List.getElem?_eq_getElem (by simp only [List.length_set]; rw [hl]; exact hk), trivial⟩
    · cases e
theorem fin_al {P : D → Nat → Prop} {X : Str → Fs → Nat → Prop} {m : Tr (Fl Unit Empty)} (h : Al P X (fin m) b) : Al (fun f b => match f with | .nx _ => P .non b | .rt d => P d b | .bk e => nomatch e | .ct e => nomatch e) X m b := by
  refine (al_bd.mp h).mono (fun f b h => ?_) (fun _ _ _ h => h)
  cases f with
  | nx w => exact h
  | rt d => exact h
  | bk e => exact nomatch e
  | ct e => exact nomatch e
theorem run_rest {t : TS} {envU : Unit → Env} {m : Tr (Fl Unit Empty)} {Q : VK} (ss : SS g EF ε t envU envE m) (R : Rel g U H1 σ ε) (no : ∀ i a, ¬ OwnAt σ ε i a) (w : Wd g H1 b) (u : UOk g U H1) (f : Fr H H1 g.p) (al : Al (okP g U H Q) (fun _ _ _ => False) (fin m) b) :
    t { nx := fun _ H' => Q .non H', rt := Q } σ H1 := by
  refine ss (fun _ => False) U H U _ _ H1 b ⟨R, w, u, fun _ z => z, fun i a z => (no i a z).elim, fun a o z1 z2 _ z3 => f a o z1 z2 z3, fun i ds' a z1 z2 => (no i a ⟨z2, .inl ⟨ds', z1⟩⟩).elim, fun i c fs a _ z1 z2 => (no i a ⟨z2, .inr ⟨c, fs, z1⟩⟩).elim⟩ ((fin_al al).mono (fun f b1 h1 => ?_) (fun c fs b1 h1 => h1.elim))
  cases f with
  | nx w => exact fun U' σ' H' e s => h1 .non H' .non s.wd fun a o z1 z2 z3 => s.ext a o z1 z2 (fun z => z) z3
  | rt d => exact fun v H' dn w f => h1 v H' dn w fun a o z1 z2 z3 => f a o z1 z2 (fun z => z) z3
  | bk e => exact nomatch e
  | ct e => exact nomatch e
theorem no_err {n j : Nat} {d : D} : ∀ i a, ¬ OwnAt σ ((List.replicate n Sl.no).set j (.fz d)) i a := fun k x ⟨_, z⟩ => by
  have : ∀ s : Sl, ((List.replicate n Sl.no).set j (.fz d))[k]? = some s → (∃ d, s = .fz d) ∨ s = .no := fun s e => by
    have m := List.mem_of_getElem? e
    rcases List.mem_or_eq_of_mem_set m with m | m
    · exact .inr (List.mem_replicate.mp m).2
    · exact .inl ⟨_, m⟩
  rcases z with ⟨x, z⟩ | ⟨x, y, z⟩
  · rcases this _ z with ⟨d, e⟩ | e <;> cases e
  · rcases this _ z with ⟨d, e⟩ | e <;> cases e
def ExH (g : Gw) (U : Addr → Prop) (H : Hp) (Q : VK) (x : Str → Fs → Tr D) : XK := fun cls d H' => ∃ cl fs b1 dd fvs, cls = .ref (gd cl g.K) ∧ d = some dd ∧ H' dd = some (.xd fvs) ∧ ¬ U dd ∧ DenF g U H' fvs fs ∧ Wd g H' b1 ∧ Fr H H' g.p ∧ Al (okP g U H Q) (fun _ _ _ => False) (x cl fs) b1
theorem clause {n i j : Nat} {trest : TS} {mrest : D → Tr (Fl Unit Empty)} {envU : Unit → Env} {xh : Str → Bool} {HE : Addr} {Wout : WX} {Q : VK} (hi : i < n) (hj : j < n) (hij : i ≠ j)
    (hx : ∀ cl, xh cl = true → PySem.W.exmOne g.K (.ref (gd cl g.K)) (.ref HE) = some true)
    (hs : ∀ cl fs, SS g EF ((List.replicate n Sl.no).set j (.fz (.err cl fs))) trest envU envE (mrest (.err cl fs))) (u : UOk g U H) :
    ∀ cls d σ' H', ExH g U H Q (fun cl fs => if xh cl = true then nox (fin (mrest (.err cl fs))) else .bad) cls d H' → σ'.length = n → wAsK g.K (.ref HE) i (fun a cls d => tAsg (tVar i) (gName j)) Wout { nx := trest { nx := fun _ H' => Q .non H', rt := Q }, rt := Q } cls d σ' H' := by
  rintro cls d σ' H' ⟨cl, fs, b1, dd, fvs, rfl, rfl, hd, nd, df, wd, f, al⟩ hl
  dsimp only at al
  by_cases hxc : xh cl = true
  · rw [if_pos hxc] at al
    refine ⟨true, hx cl hxc, fun _ => ⟨_, dd, rfl, rfl, fun a na => ?_⟩, fun z => by cases z⟩
    refine ⟨.ref a, List.getElem?_set_self (by rw [hl]; exact hi), fun na' => ?_⟩
    have s1 : L2.Same H' (upd H' a (exk a (gd cl g.K) dd)) := same_new na
    have u' := u.fr f wd
    have nU : ¬ U a := u'.new na
    exact run_rest (hs cl fs) (rel_err hl hi hj hij upd_same nU (s1 _ _ hd) nd (df.ext (u'.extU (fr_same s1)))) no_err (wd.same s1) (u'.fr (fr_same s1) (wd.same s1)) (f.trans (fr_same s1)) (al_nox al)
  · rw [if_neg hxc] at al
    exact al.elim
def xaD (tab : List Str) (f : Str) (o : D) : Tr D := match o with
  | .err c fs => if c ∈ tab then (match fs.lookup f with | some d => .ok d | none => .bad) else .bad
  | _ => .bad
theorem se_xa {tab : List Str} {f : Str} (hT : ∀ c ∈ tab, ErrT g.K (gd c g.K) ∧ PySem.W.findIn g.K (.ref (gd c g.K)) f = some none) (he : SE g E ε te me) : SE g E ε (tXa g.K f te) (bd me (xaD tab f)) := fun U σ H b Q R W u q =>
  he.step R W u q fun v d H1 b1 d1 w1 f1 R1 u1 q1 => by
    cases d1 with
    | err ha na hd nd df =>
      rename_i a dd c fvs fs
      change Al _ _ (if c ∈ tab then (match fs.lookup f with | some d => .ok d | none => .bad) else .bad) b1 at q1
      split at q1
      · rename_i hm
        cases e : fs.lookup f with
        | none => rw [e] at q1; exact q1.elim
        | some d =>
          rw [e] at q1
          obtain ⟨v, hv, d2⟩ := df.look e
          exact ⟨a, _, dd, fvs, v, rfl, ha, (hT c hm).1, (hT c hm).2, hd, hv, q1 _ _ d2 w1 f1⟩
      · exact q1.elim
    | _ => exact q1.elim
theorem se_bad {t : TE} : SE g E ε t .bad := fun _ _ _ _ _ _ _ _ q => q.elim
end
end Gp
end
section
set_option Elab.async false
set_option linter.all false
set_option maxRecDepth 100000
set_option maxHeartbeats 4000000
namespace Gp
open PySem PySem.Spec PyProof.Rows L2 Gh
section
variable {g : Gw} {Mt U0 U U' : Addr → Prop} {H0 H H' H1 H2 : Hp} {b b1 b2 : Nat} {σ : L2.St} {ε ε' : Env} {E : XK} {W L W' : Type}
variable {env : W → Env} {envL : L → Env} {env' : W' → Env} {u ta tb : TS} {te : TE} {me : Tr D}
theorem oi_step {c : Str} {fs fs' : Fs} {a dx' : Addr} {fvs' : List (Str × V)} (s1 : Stt g Mt U0 H0 U σ H1 b1 ε) (hi : ε[0]? = some (.oi c fs)) (eo : σ[0]? = some (some (.ref a))) (h2 : H2 a = some (.ins (gd c g.K) dx' fvs')) (d2 : DenF g U H2 fvs' fs') (w2 : Wd g H2 b2) (f2 : FrM g (· = a) H1 H2) :
    Stt g Mt U0 H0 U σ H2 b2 (ε.set 0 (.oi c fs')) ∧ Ev U H1 U H2 := by
  obtain ⟨o, eo', a0, dx, fvs, e0, ha, df, ua, n1, n2⟩ := s1.rel.at_ 0 _ hi
  have ea : a0 = a := by
    rw [eo'] at eo
    subst e0
    cases eo
    rfl
  subst ea
  have xt : ExtU U H1 H2 := fun x o e ne t => f2 x o e (fun z => ne (z ▸ s1.uok.p)) (fun z => ne (z ▸ ua)) t
  have il : 0 < ε.length := (List.getElem?_eq_some_iff.mp hi).1
  have ow : ∀ j x, OwnAt σ (ε.set 0 (.oi c fs')) j x → OwnAt σ ε j x := fun j x z => by
    obtain ⟨z1, z2⟩ := z
    by_cases q : 0 = j
    · subst q
      exact ⟨z1, .inr ⟨c, fs, hi⟩⟩
    · rw [List.getElem?_set_ne q] at z2
      exact ⟨z1, z2⟩
  have apart : ∀ j x, 0 ≠ j → OwnAt σ ε j x → x ≠ a0 := fun j x ne z e => by
    subst e
    exact s1.rel.apart 0 j x ne ⟨eo, .inr ⟨c, fs, hi⟩⟩ z
  have hmt := (s1.oim 0 c fs a0 trivial hi eo).1 rfl
  refine ⟨⟨⟨by rw [List.length_set]; exact s1.rel.len, fun j x e => ?_, fun j k x ne z1 z2 => s1.rel.apart j k x ne (ow _ _ z1) (ow _ _ z2)⟩, w2, ⟨s1.uok.p, s1.uok.c, fun x hx => ?_⟩, s1.sub, fun j x z => s1.own j x (ow _ _ z), fun x o e m1 m2 m3 => ?_, fun j xs x e1 e2 => ?_, fun j c' fs' x j0 e1 e2 => ?_⟩, ⟨xt, fun _ _ _ n _ => n⟩⟩
  · by_cases q : 0 = j
    · subst q
      rw [List.getElem?_set_self il] at e
      cases e
      exact ⟨_, eo, a0, dx', _, rfl, h2, d2, ua, n1, n2⟩
    · rw [List.getElem?_set_ne q] at e
      obtain ⟨o, e1, e2⟩ := s1.rel.at_ j x e
      refine ⟨o, e1, ?_⟩
      cases x with
      | no => trivial
      | fz d =>
        obtain ⟨v, e3, e4⟩ := e2
        exact ⟨v, e3, e4.ext xt⟩
      | ow ds2 =>
        obtain ⟨a2, v2, rfl, h2, d2, u2, m1, m2⟩ := e2
        have ne := apart j a2 q ⟨e1, .inl ⟨ds2, e⟩⟩
        exact ⟨a2, v2, rfl, f2 _ _ h2 m1 ne d2.tbl, d2.map (fun q => q.ext xt), u2, m1, m2⟩
      | oi c fs =>
        obtain ⟨a2, dx, v2, rfl, h2, d2, u2, m1, m2⟩ := e2
        have ne := apart j a2 q ⟨e1, .inr ⟨c, fs, e⟩⟩
        exact ⟨a2, dx, v2, rfl, f2 _ _ h2 m1 ne (fun _ z => by cases z), d2.ext xt, u2, m1, m2⟩
  · by_cases q : x = a0
    · subst q
      exact ⟨_, h2, (fun _ z => by cases z), (fun _ z => by cases z)⟩
    · by_cases qp : x = g.p
      · subst qp
        obtain ⟨ns, i, z, h, _⟩ := w2.pen
        exact ⟨_, h, (fun _ z => by cases z), (fun _ z => by cases z)⟩
      · obtain ⟨o, e, t⟩ := s1.uok.al x hx
        exact ⟨o, f2 x o e qp q t.tbl, t⟩
  · exact f2 x o (s1.ext x o e m1 m2 m3) m1 (fun z => m2 (z ▸ hmt)) m3
  · by_cases q : 0 = j
    · subst q
      rw [List.getElem?_set_self il] at e1
      cases e1
    · rw [List.getElem?_set_ne q] at e1
      exact s1.nu0 j xs x e1 e2
  · by_cases q : 0 = j
    · subst q
      exact s1.oim 0 c fs x trivial hi e2
    · rw [List.getElem?_set_ne q] at e1
      exact s1.oim j c' fs' x j0 e1 e2
def tSup (K : PySem.W.Frag) (B : Addr) (m : Str) (f2 : Addr) (ta : TA) (sp : Sp) (dvs : List V) (E : XK) : TS := fun D σ H => ∃ a C dx fs, σ[0]? = some (some (.ref a)) ∧ H a = some (.ins C dx fs) ∧ SupC K C B m f2 ∧ ta σ H fun us H2 => sp (.ref a :: (us ++ dvs)) H2 (fun _ H3 => D.nx σ H3) E
theorem ss_sup {c m : Str} {B f2 : Addr} {fs : Fs} {t : TA} {mt : Tr (List D)} {F : Fs → List D → Tr Fs} {k : Fs → Tr (Fl W L)} (hS : SupC g.K (gd c g.K) B m f2) (ht : SA g E ε t mt) (hk : ∀ fs', SS g E (ε.set 0 (.oi c fs')) u env envL (k fs')) (hi : ε[0]? = some (.oi c fs) := by rfl) :
    SS g E ε (tSeq (tSup g.K B m f2 t (spI g.K g.T c F) [] E) u) env envL (bd mt fun ds => bd (F fs ds) k) := fun Mt U0 H0 U Ds σ H b s q => by
  obtain ⟨o, eo, a, dx, fvs, rfl, ha, df, ua, n1, n2⟩ := s.rel.at_ 0 _ hi
  refine ⟨a, _, dx, fvs, eo, ha, hS, ht.sstep s q fun vs ds H1 b1 dv s1 q1 => ?_⟩
  obtain ⟨o, eo', a', dx', fvs', rfl, ha', df', ua', n1', n2'⟩ := s1.rel.at_ 0 _ hi
  have ea : a' = a := by rw [eo'] at eo; cases eo; rfl
  subst ea
  rw [List.append_nil]
  refine ⟨g.p, g.c, U, ds, b1, a', dx', fvs', fs, vs, rfl, ha', df', ua', n1', n2', dv, s1.wd, s1.uok, (al_bd.mp q1).mono (fun fs2 b2 h dx2 fvs2 H2 e2 d2 w2 f2 => ?_) (fun cn fs2 b2 h dd fv H2 e1 nd d1 w1 f1 => ?_)⟩
  · obtain ⟨s2, ev⟩ := oi_step s1 hi eo e2 d2 w2 f2
    exact hk fs2 Mt U0 H0 U Ds σ H2 b2 s2 (h.mono (fun _ _ z => z.ev ev) (fun _ _ _ z => z))
  · have hmt := (s1.oim 0 c fs a' trivial hi eo).1 rfl
    exact h dd fv H2 e1 (fun z => nd (s1.sub _ z)) (d1.sub fun x _ z => s1.sub x z) w1 fun x o e m1 m2 m3 => f1 x o (s1.ext x o e m1 m2 m3) m1 (fun z => m2 (z ▸ hmt)) m3
end
section
variable {K : PySem.W.Frag} {x qual file : Str} {params : Arguments} {body : List Stmt} {scope : Scope} {dvs : List V} {f B : Addr} {fd : FuncData} {ps : List Str}
theorem SupF.bindsN (F : SupF K x qual params body scope [] f B file fd)
    (h : ∀ (cl : List (Str × Addr)) (kV doc pm : Value) (an : Option Addr) (cdv ct : Value) (us : List Value), us.length = ps.length → bindArgs (PySem.W.fnX x qual params body scope cl .none kV doc pm an cdv ct) ⟨us, []⟩ = pure (ps.zip us)) : Binds K fd ps [] := by
  obtain ⟨oc, od, dV, kV, doc, pm, an, cda, ct, osl, cc, rfl, lk, hcd, hD, _⟩ := F.ex
  rcases hD with ⟨_, rfl⟩ | ⟨e, _⟩
  · exact .all (h _ kV doc pm an _ ct)
  · exact absurd rfl e
theorem SupF.binds1 (F : SupF K x qual params body scope dvs f B file fd) (n j : Nat) (hd : dvs ≠ []) (hn : n + (dvs.length - j) = ps.length)
    (h : ∀ (cl : List (Str × Addr)) (T : Addr) (kV doc pm : Value) (an : Option Addr) (cdv ct : Value) (us its : List Value), us.length = n → its.length = dvs.length →
      ∃ k, bindArgs (PySem.W.fnX x qual params body scope cl (.ref T) kV doc pm an cdv ct) ⟨us, []⟩ = seqItems? (.ref T) >>= k ∧ k (some its.toArray) = pure (ps.zip (us ++ its.drop j))) : ∃ ds, Vals (dvs.drop j) ds ∧ Binds K fd ps ds := by
  obtain ⟨oc, od, dV, kV, doc, pm, an, cda, ct, osl, cc, rfl, lk, hcd, hD, _⟩ := F.ex
  rcases hD with ⟨e, _⟩ | ⟨_, T, o, its, m, rfl, lT, oT, rT⟩
  · exact absurd e hd
  · refine ⟨its.drop j, rT.drop j, fun s us X hlen => ?_⟩
    have l1 : its.length = dvs.length := rT.length.symm
    have l2 : us.length = n := by
      rw [List.length_append, List.length_drop, l1] at hlen
      omega
    obtain ⟨k, e1, e2⟩ := h _ T kV doc pm an _ ct us its l2 l1
    refine BindsTo.of_looks fun M => ?_
    rw [e1]
    exact looks_items X lT oT (.of_pure e2)
end
end Gp
end
section
set_option Elab.async false
set_option linter.all false
set_option maxRecDepth 100000
set_option maxHeartbeats 4000000
namespace Gp
open PySem PySem.Spec PyProof.Rows L2 Gh
theorem fileB_ok {K : PySem.W.Frag} {file : Str} {v : Value} (h : fileB K file v = true) : ∃ c, v = .ref c ∧ ∃ ccl cdd vs ccs tf, K.lookup c = some ⟨ccl, cdd, .fields vs, ccs⟩ ∧ vs[2]? = some (.str file tf) := by
  unfold fileB at h
  split at h
  · rename_i c
    split at h
    · rename_i e
      split at h
      · rename_i e2
        have := of_decide_eq_true h
        subst this
        exact ⟨c, rfl, _, _, _, _, _, e, e2⟩
      · cases h
    · cases h
  · cases h
theorem cellB_ok {K : PySem.W.Frag} {B : Addr} {l : List (Str × Addr)} (h : cellB K B l = true) : ∃ x c, l = [(x, c)] ∧ ∃ cl cld csl, K.lookup c = some ⟨cl, cld, .cell (some (.ref B)), csl⟩ := by
  unfold cellB at h
  split at h
  · rename_i x c
    split at h
    · rename_i e
      have := of_decide_eq_true h
      subst this
      exact ⟨x, c, rfl, _, _, _, e⟩
    · cases h
  · cases h
abbrev FnS (K : PySem.W.Frag) (d : Ds) (file : Str) (fd : FuncData) : Prop := SupF K d.d.name d.d.qual (defArgs d.d.st) (defBody d.d.st) (defScope d.d.st) (d.d.dvs K) (d.d.adr K) (d.own K) file fd
theorem Ds.supF {file : Str} {K : PySem.W.Frag} {d : Ds} (e : fnAtS K (d.d.adr K) = d.val) (c : d.ok file K = true) : ∃ fd, FnS K d file fd := by
  obtain ⟨kp, c2⟩ := He.ba c
  unfold fnAtS at e
  cases q : K.lookup (d.d.adr K) with
  | none =>
    rw [q] at c2
    cases c2
  | some o =>
    obtain ⟨oc, od, dt, osl⟩ := o
    rw [q] at c2 e
    cases dt with
    | func fd =>
      obtain ⟨n1, n2, n3, n4, n5, n6, n7, n8, n9, n10, n11, n12, n13, n14, n15⟩ := fd
      have e2 : (some (n1, n2, n3, n4, n5, n6, n7.map (fun q => (q.1, 0)), n15) : He.FnW) = (some (d.d.name, d.d.qual, defArgs d.d.st, FuncBody.stmts (defBody d.d.st), defScope d.d.st, mainGlobals, [(("__class__" : Str), (0 : Addr))], builtinsNs) : He.FnW) := e
      simp only [Option.some.injEq, Prod.mk.injEq] at e2
      obtain ⟨h1, h2, h3, h4, h5, h6, h7, h8⟩ := e2
      subst h1 h2 h3 h4 h5 h6 h8
      have c3 : (PySem.W.codeIn K n13 d.d.qual && (He.dflB K n8 (d.d.dvs K) && (fileB K file n13 && cellB K (d.own K) n7))) = true := c2
      obtain ⟨k1, k2⟩ := He.ba c3
      obtain ⟨k3, k4⟩ := He.ba k2
      obtain ⟨k5, k6⟩ := He.ba k4
      obtain ⟨cda, rfl, hf⟩ := fileB_ok k5
      obtain ⟨x, cc, rfl, hc⟩ := cellB_ok k6
      have hx : x = "__class__" := by
        simp only [List.map_cons, List.map_nil, List.cons.injEq, Prod.mk.injEq, and_true] at h7
        exact h7
      subst hx
      exact ⟨_, ⟨oc, od, n8, n9, n10, n11, n12, cda, n14, osl, cc, rfl, q, k1, He.dflB_ok k3, hc, hf⟩, kp⟩
    | _ => cases c2
theorem SaysS.sup_ {ex : List (PySem.W.Frag → Bool)} {fn : List Df} {tf : List He.Defn} {fs : List Ds} {file : Str} {h : Heap} {K : PySem.W.Frag} (c : SaysS ex fn tf fs file h K) (i : Nat) {d : Ds} (hd : fs[i]? = some d := by rfl) : ∃ fd, FnS K d file fd := by
  have e2 : (fs.map fun d => fnAtS K (d.d.adr K))[i]? = (fs.map Ds.val)[i]? := by rw [c.v]
  rw [List.getElem?_map, List.getElem?_map, hd] at e2
  exact Ds.supF (Option.some.inj e2) (List.all_eq_true.mp c.o d (List.mem_of_getElem? hd))
theorem supCB_ok {c b m : Str} {f2 : PySem.W.Frag → Addr} {K : PySem.W.Frag} (h : supCB c b m f2 K = true) : SupC K (gd c K) (gd b K) m (f2 K) := by
  obtain ⟨h1, h2⟩ := He.ba h
  obtain ⟨h3, h4⟩ := He.ba h2
  obtain ⟨h5, h6⟩ := He.ba h4
  exact ⟨of_decide_eq_true h1, He.eqO_ok h3, of_decide_eq_true h5, h6⟩
end Gp
end
section
set_option Elab.async false
set_option linter.all false
set_option maxRecDepth 100000
set_option maxHeartbeats 4000000
namespace Gp
open PySem PySem.Spec PyProof.Rows L2 Gh
structure CvT (K : PySem.W.Frag) (C : Addr) (f : Str) (v : V) : Prop where
  r : ClX.CRead K C (.type "type")
  v : ∃ u, ClX.CVal K C (.type "type") f v u
theorem cvB_ok {c f : Str} {i : Int} {K : PySem.W.Frag} (h : cvB c f i K = true) : CvT K (gd c K) f (.int i) := by
  obtain ⟨h1, h2⟩ := He.ba h
  refine ⟨⟨h1, ?_⟩, ?_⟩
  · have h := h1
    unfold PySem.W.readsIn at h
    obtain ⟨h, _⟩ := He.ba h
    obtain ⟨h, _⟩ := He.ba h
    obtain ⟨h, h3⟩ := He.ba h
    obtain ⟨_, h2⟩ := He.ba h
    unfold PySem.W.specialIn
    rw [beq_iff_eq.mp h2, Option.bind_some]
    exact beq_iff_eq.mp h3
  · split at h2
    · rename_i e
      have := of_decide_eq_true h2
      subst this
      exact ⟨_, e, ⟨_, rfl⟩⟩
    · cases h2
section
variable {g : Gw} {Mt U0 U U' : Addr → Prop} {H0 H H' H1 H2 : Hp} {b b1 b2 : Nat} {σ : L2.St} {ε ε' : Env} {E : XK}
theorem se_cval {c f : Str} {v : V} {d : D} (hd : ∀ U H, Den g U H v d) (h : CvT g.K (gd c g.K) f v) : SE g E ε (ClX.tCVal g.K (tC (.ref (gd c g.K))) f) (.ok d) := fun U σ H b Q R W u q => by
  obtain ⟨w, k⟩ := h.v
  exact ⟨_, _, v, w, rfl, h.r, k, okP.here q W (hd U H)⟩
variable {W L : Type} {env : W → Env} {envL : L → Env} {a r : TS} {t : TS} {m : Tr (Fl W L)}
theorem ss_assoc {c : TS} (h : SS g E ε (tSeq a (tSeq c r)) env envL m) : SS g E ε (tSeq (tSeq a c) r) env envL m := h
theorem ss_next (h : SS g E ε r env envL m) : SS g E ε (tSeq tNext r) env envL m := h
end
theorem sup_goal {K : PySem.W.Frag} {B f2 : Addr} {m : Str} {t1 t2 : TS} {ta : TA} {sp2 : Sp} {dvs2 : List V} {E2 : XK} {Q : VK} {σ : L2.St} {H : Hp} (h : tSeq t1 (tSeq (tSup K B m f2 ta sp2 dvs2 E2) t2) { nx := fun _ H' => Q .non H', rt := Q } σ H) :
    t1 { nx := fun σ1 H1 => ∃ a C dx fs, σ1[0]? = some (some (.ref a)) ∧ H1 a = some (.ins C dx fs) ∧ SupC K C B m f2 ∧ ta σ1 H1 fun us H2 => sp2 (.ref a :: (us ++ dvs2)) H2 (fun _ H3 => t2 { nx := fun _ H' => Q .non H', rt := Q } σ1 H3) E2, rt := Q } σ H := h
end Gp
end
section
set_option Elab.async false
set_option linter.all false
set_option maxRecDepth 100000
set_option maxHeartbeats 4000000
namespace Gp
open PySem PySem.Spec PyProof.Rows L2 Gh
theorem obsL_eq {as : List Addr} {ex : List (PySem.W.Frag → Bool)} {fn : List Df} {tf : List He.Defn} {fs : List Ds} {file : Str} {g : Addr → Option Obj} {s : Shared} (h : ∀ a, g a = s.heap.get? a) : obsL as ex fn tf fs file g = (hookL as ex fn tf fs file).obs s := by
  have e : g = s.heap.get? := funext h
  rw [e] <;> rfl
end Gp
end
section
set_option Elab.async false
set_option linter.all false
set_option maxRecDepth 100000
set_option maxHeartbeats 4000000
namespace Gp
open PySem PySem.Spec PyProof.Rows L2 Gh
def insS (a : Int) : List Int → List Int
  | [] => [a]
  | b :: r => if a < b then a :: b :: r else if a = b then b :: r else b :: insS a r
def setI : List Int → List Int
  | [] => []
  | a :: r => insS a (setI r)
theorem mem_insS {x a : Int} : ∀ {l : List Int}, x ∈ insS a l ↔ x = a ∨ x ∈ l
  | [] => by simp [insS]
  | b :: r => by
    unfold insS
    split
    · simp
    · split
      · rename_i h
        subst h
        simp
      · rw [List.mem_cons, mem_insS, List.mem_cons]
        constructor
        · rintro (h | h | h)
          · exact .inr (.inl h)
          · exact .inl h
          · exact .inr (.inr h)
        · rintro (h | h | h)
          · exact .inr (.inl h)
          · exact .inl h
          · exact .inr (.inr h)
theorem mem_setI {x : Int} : ∀ {l : List Int}, x ∈ setI l ↔ x ∈ l
  | [] => Iff.rfl
  | a :: r => by
    unfold setI
    rw [mem_insS, mem_setI, List.mem_cons]
theorem ris_insS {a : Int} : ∀ {l : List Int}, l.Pairwise (· < ·) → (insS a l).Pairwise (· < ·)
  | [], _ => List.pairwise_singleton _ _
  | b :: r, h => by
    obtain ⟨h1, h2⟩ := List.pairwise_cons.mp h
    unfold insS
    split
    · rename_i q
      refine List.pairwise_cons.mpr ⟨fun x hx => ?_, h⟩
      rcases List.mem_cons.mp hx with rfl | hx
      · exact q
      · exact Int.lt_trans q (h1 x hx)
    · split
      · exact h
      · rename_i q1 q2
        refine List.pairwise_cons.mpr ⟨fun x hx => ?_, ris_insS h2⟩
        rcases mem_insS.mp hx with rfl | hx
        · omega
        · exact h1 x hx
theorem ris_setI : ∀ l : List Int, (setI l).Pairwise (· < ·)
  | [] => List.Pairwise.nil
  | a :: r => ris_insS (ris_setI r)
theorem ris_eq : ∀ {l m : List Int}, l.Pairwise (· < ·) → m.Pairwise (· < ·) → (∀ x, x ∈ l ↔ x ∈ m) → l = m
  | [], [], _, _, _ => rfl
  | [], b :: m, _, _, h => absurd ((h b).mpr List.mem_cons_self) (by simp)
  | a :: l, [], _, _, h => absurd ((h a).mp List.mem_cons_self) (by simp)
  | a :: l, b :: m, h1, h2, h => by
    obtain ⟨p1, p2⟩ := List.pairwise_cons.mp h1
    obtain ⟨q1, q2⟩ := List.pairwise_cons.mp h2
    have e : a = b := by
      rcases List.mem_cons.mp ((h a).mp List.mem_cons_self) with e | e
      · exact e
      · rcases List.mem_cons.mp ((h b).mpr List.mem_cons_self) with e2 | e2
        · exact e2.symm
        · have := q1 a e
          have := p1 b e2
          omega
    subst e
    congr 1
    refine ris_eq p2 q2 fun x => ⟨fun hx => ?_, fun hx => ?_⟩
    · rcases List.mem_cons.mp ((h x).mp (List.mem_cons_of_mem _ hx)) with rfl | z
      · exact absurd (p1 x hx) (Int.lt_irrefl _)
      · exact z
    · rcases List.mem_cons.mp ((h x).mpr (List.mem_cons_of_mem _ hx)) with rfl | z
      · exact absurd (q1 x hx) (Int.lt_irrefl _)
      · exact z
theorem nodup_setI (l : List Int) : (setI l).Nodup := (ris_setI l).imp fun h => Int.ne_of_lt h
theorem len_of_mem {l m : List Int} (h1 : l.Nodup) (h2 : m.Nodup) (h : ∀ x, x ∈ l ↔ x ∈ m) : l.length = m.length :=
  ((List.perm_ext_iff_of_nodup h1 h2).mpr h).length_eq
theorem len_insS {a : Int} : ∀ {l : List Int}, (insS a l).length ≤ l.length + 1
  | [] => Nat.le_refl _
  | b :: r => by
    unfold insS
    split
    · exact Nat.le_refl _
    · split
      · exact Nat.le_succ _
      · exact Nat.succ_le_succ len_insS
theorem len_setI : ∀ l : List Int, (setI l).length ≤ l.length
  | [] => Nat.le_refl _
  | a :: r => Nat.le_trans len_insS (Nat.succ_le_succ (len_setI r))
end Gp
namespace Gp
open PySem PySem.Spec PyProof.Rows L2 Gh
section
variable {P : Program} {w : World} {A : Around} {E : Value → Shared → Prop} {s : Shared}
abbrev eSet (w : World) : Obj := { cls := .type "set", dict := none, data := .set #[] 0 (.fresh 0 0 (!w.params.followText "set-order")) }
set_option maxHeartbeats 3200000 in
theorem call_set_lstI {l : Addr} {items : Array Value} (ns : List Int) {Q : Value → Shared → Prop} (hh : A.handled = none) (hl : s.heap.IsList l items) (zit : IntsAre items.toList ns) (hb : ns.length + 1 < scanBound)
    (h : ∀ (h' : Heap) (tk c : Nat), SetR w h' s.heap.objs.size (fun j => decide (j ∈ ns)) c → c ≤ ns.length → (∀ b o, s.heap.get? b = some o → h'.get? b = some o) → Q (.ref s.heap.objs.size) { s with heap := h', toks := tk }) :
    wpAny (model P w) A (call (.type "set") [.ref l]) Q E s := by
  have zisz : items.size = ns.length := by
    have q := IntsAre.length zit
    rw [Array.length_toList] at q
    exact q
  obtain ⟨c, tl, zmro⟩ := F.called_set.mro
  have zmade := F.called_set.made
  have zsub := F.called_set.sub
  refine wpAny_call (codeAny_of_tree ?_)
  show wpAny _ _ (callAny (.type "set") _) _ _ _
  refine wpAny_pure ⟨Code.quiet_builtin _ (by decide +kernel), codeAny_builtin F.entry_type_call ?_⟩
  rw [Around.under_plain (weight_type_call_type "set" [.ref l] []) rfl]
  have z1 := F.called_set.notType
  have z2 := F.called_set.canCreate
  have zct := F.typeCall_set_1 (.ref l)
  repeat (any_goals (first | assumption | wp_step))

  refine codeAny_mono (code_set_led1 (.ref l) (E := E) (Q₁ := fun ob t₁ => ob = .ref s.heap.objs.size ∧ t₁ = { s with heap := s.heap.push (eSet w) }) ⟨rfl, rfl⟩) fun r t₁ zr => ?_
  cases r with
  | error e => exact zr
  | ok g₁ =>
    cases g₁ with
    | ret ob =>
      obtain ⟨rfl, rfl⟩ := zr
      have zS : (s.heap.push (eSet w)).get? s.heap.objs.size = some (eSet w) := Heap.get?_push_size _ rfl
      have zT : Shared.TypeIs { s with heap := s.heap.push (eSet w) } (.ref s.heap.objs.size) "set" := ⟨_, zS, rfl⟩
      have zli := F.called_set.init.lookup
      have zbi := F.called_set.init.bind (.ref s.heap.objs.size)
      repeat (any_goals (first | assumption | wp_step))

      refine codeAny_mono (codeAny_call_builtin (R := wants (fun r t₂ => r = .none ∧ ∃ h' tk c, t₂ = { s with heap := h', toks := tk } ∧ SetR w h' s.heap.objs.size (fun j => decide (j ∈ ns)) c ∧ c ≤ ns.length ∧
          (∀ b o, s.heap.get? b = some o → h'.get? b = some o)) E) F.called_set.init.plain F.entry_set_init (check_set_init_1 zT ?_)) fun y₂ t₂ zr₂ => ?_
      · obtain ⟨zo, zol, zcl, zn, zdl⟩ := hl
        obtain ⟨kcls, kdict, kdata, kslots⟩ := zo
        simp only at zcl zdl
        subst zcl; subst zdl
        have zol' : (s.heap.push (eSet w)).get? l = some { cls := .type "list", dict := kdict, data := .seq items zn, slots := kslots } := Heap.get?_push_of_some _ zol
        have zsls := F.sub_list_set
        have zslf := F.sub_list_frozenset
        have zne : (Value.type "list" == Value.type "dict") = false := by decide
        have zl1 : (s.heap.push (eSet w)).IsList l items := ⟨_, zol', rfl, zn, rfl⟩
        unfold Builtin.«set.__init__» noKeywords Builtin.Frozenset.updateFrom
        generalize hPI : pyIter = PI
        wp_walk
        subst hPI

        refine wpAny_pyIter_list zl1 ?_
        refine wpAny_bind (wpAny_runValue ?_)
        have zlS : l < s.heap.objs.size := Heap.lt_size zol
        have zh3 : A.in1.in1.in1.handled = none := by simp [hh]
        have zz1 : (s.heap.push (eSet w)).objs.size = s.heap.objs.size + 1 := Heap.size_push ..
        have zneI : l ≠ (s.heap.push (eSet w)).objs.size := by
          rw [Heap.size_push]; exact Nat.ne_of_lt (Nat.lt_succ_of_lt zlS)
        have zSf : s.heap.objs.size ∉ [(s.heap.push (eSet w)).objs.size, l] := by
          rw [Heap.size_push]; simp only [List.mem_cons, List.mem_singleton, List.not_mem_nil, or_false, not_or]
          exact ⟨Nat.ne_of_lt (Nat.lt_succ_self _), Nat.ne_of_gt zlS⟩
        have zval : ∀ (i : Nat) (v : Value), items[i]? = some v → ∃ k t, ns[i]? = some k ∧ v = .int k t := fun i v hv => by
          have hi : i < ns.length := by rw [← zisz]; exact (Array.getElem?_eq_some_iff.mp hv).1
          obtain ⟨t, e⟩ := PyProof.Rows.IntsAre.int_at zit i v (by rw [Array.getElem?_toList]; exact hv)
          refine ⟨ns[i], t, List.getElem?_eq_getElem hi, ?_⟩
          rw [e, List.getD_eq_getElem?_getD, List.getElem?_eq_getElem hi] <;> rfl
        refine set_update_ints ((Walks.list zh3 _ l zneI items).toS) s.heap.objs.size
          zSf ns zisz hb zval (items.size - 0) 0 _ (by omega) (Nat.zero_le _)
          ⟨⟨_, Heap.get?_push_size _ rfl, rfl, rfl⟩, (zl1.push _)⟩ ?hS0 ?hR
        case hS0 =>
          have zget : ((s.heap.push (eSet w)).push { cls := .type "list_iterator", data := .fields #[.ref l, .int 0 0] }).get? s.heap.objs.size
              = some (eSet w) := Heap.get?_push_of_some _ zS
          exact ⟨0, Nat.le_refl 0, setR_new_at zget⟩
        case hR =>
          intro s' c' zm zc' zS'
          obtain ⟨h', g2, d', tk', os'⟩ := s'
          have zeg : g2 = s.gens := zm.gens
          have zed : d' = s.drawn := zm.drawn
          have zeo : os' = s.os := zm.os
          subst zeg; subst zed; subst zeo
          show wpAny _ _ _ _ _ _
          refine wpAny_pure ?_
          show wpAny _ _ (ret Value.none) _ _ _
          rw [zisz] at zc'
          refine wpAny_pure ⟨rfl, h', tk', c', rfl, zS', zc', fun b o e => ?_⟩
          have zb0 : b < s.heap.objs.size := Heap.lt_size e
          have zb1 : b ≠ s.heap.objs.size := Nat.ne_of_lt zb0
          have zb2 : b ≠ (s.heap.push (eSet w)).objs.size := by
            rw [Heap.size_push]; exact Nat.ne_of_lt (Nat.lt_succ_of_lt zb0)
          exact zm.heap b o (by simp only [List.mem_cons, List.mem_singleton, List.not_mem_nil, or_false, not_or]; exact ⟨zb1, zb2⟩) (Heap.get?_push_of_some _ (Heap.get?_push_of_some _ e))

      · cases y₂ with
        | error e => exact zr₂
        | ok g₂ =>
          cases g₂ with
          | ret r =>
            obtain ⟨rfl, h', tk, c', rfl, zS', zc', zk'⟩ := zr₂
            repeat (any_goals (first | assumption | wp_step))
            exact h _ _ _ zS' zc' zk'
          | _ => exact zr₂.elim
    | _ => exact zr.elim
end
end Gp
end
section
set_option Elab.async false
set_option linter.all false
set_option maxRecDepth 100000
set_option maxHeartbeats 4000000
namespace Gp
open PySem PySem.Spec PyProof.Rows L2 Gh
def rSetI (K : PySem.W.Frag) (w : World) : List V → Hp → VK → Prop := fun xs H Q => ∃ (l : Addr) (ns : List Int), xs = [.ref l] ∧ SqL K H l (ns.map V.int) ∧ ns.length ≤ 4000 ∧
  ∀ p, H p = none → Q (.ref p) (upd H p (SetO w p (fun j => decide (j ∈ ns)) (setI ns).length))
theorem setR_len {w : World} {h : Heap} {a : Addr} {ns : List Int} {c : Nat} (R : SetR w h a (fun j => decide (j ∈ ns)) c) : c = (setI ns).length := by
  obtain ⟨o, es, ep, t, ho, hx, hd, g, nd, hm, hb, hf, hn, _⟩ := R
  have e : (es.toList.map keyOf).length = (setI ns).length := len_of_mem nd (nodup_setI ns) fun x => by
    rw [mem_setI, ← hm x]
    exact decide_eq_true_iff
  rw [← e, List.length_map, Array.length_toList]
  exact hn.symm
theorem cr_setI {X : Cx} {K : PySem.W.Frag} (h : X.K = K) (hc : X.calm = true) : CallR X (.type "set") (rSetI K X.w) := by
  subst h
  intro pins s σ H xs us Q I r h
  obtain ⟨l, ns, rfl, hq, hl, q⟩ := h
  rw [Vals.ref1 r]
  obtain ⟨its, rv, p, hz⟩ := I.list hq
  refine call_set_lstI ns (I.ok.hd hc) p.isList (by simpa using RZ.intsAre_vals rv) (by unfold scanBound; omega) fun h' tk c hS hle hk => ?_
  have e := setR_len hS
  subst e
  exact ⟨.ref _, upd H s.heap.objs.size (SetO X.w s.heap.objs.size (fun j => decide (j ∈ ns)) (setI ns).length), I.laid (t' := tk) hk (Nat.le_refl _) (setO_new hS), rfl, q _ (I.hok.fresh (Nat.le_refl _))⟩
def rLnSet (w : World) : List V → Hp → VK → Prop := fun xs H Q => ∃ (a : Addr) (S : Int → Bool) (n : Nat), xs = [.ref a] ∧ H a = some (SetO w a S n) ∧ n ≤ 4000 ∧ Q (.int n) H
theorem cr_lnSet {X : Cx} : CallR X (.builtin "len") (rLnSet X.w) := by
  intro pins s σ H xs us Q I r h
  obtain ⟨a, S, n, rfl, ha, hn, q⟩ := h
  rw [Vals.ref1 r]
  obtain ⟨o, es, ep, t, ho, hx, hd, _, _, _, hb, hf, e, _⟩ := setO_get I ha
  exact call_len_set ho hx hd hf (by rw [e] <;> omega) ⟨.int n, H, I.tok _, ⟨_, by rw [e]⟩, q⟩
section
variable {g : Gw} {E : XK} {ε : Env} {te : TE} {me : Tr D} {w : World}
def rLS (K : PySem.W.Frag) (w : World) (te : TE) : TE := tCB (rLnSet w) (tCons (tCB (rSetI K w) (tCons te tNil)) tNil)
def lenSD (x : D) : Tr D := lsI x fun ns => if ns.length ≤ 4000 then .ok (.int (setI ns).length) else .bad
theorem se_lenS (he : SE g E ε te me) : SE g E ε (rLS g.K w te) (bd me lenSD) := fun U σ H b Q R W u q =>
  he.step R W u q fun v d H1 b1 d1 w1 f1 R1 u1 q1 => by
    obtain ⟨a, ns, rfl, h1, _, hl, q2⟩ := al_lsI d1 q1
    split at q2
    · rename_i h4
      refine ⟨a, ns, rfl, h1, h4, fun p np => ?_⟩
      have s1 := same_new (o := SetO w p (fun j => decide (j ∈ ns)) (setI ns).length) np
      exact ⟨p, _, _, rfl, upd_same, Nat.le_trans (len_setI ns) h4, q2 _ _ (.int _) (w1.same s1) (f1.trans (fr_same s1))⟩
    · exact q2.elim
end
end Gp
end
section
set_option Elab.async false
set_option linter.all false
set_option maxRecDepth 100000
set_option maxHeartbeats 4000000
namespace Gp
open PySem PySem.Spec PyProof.Rows L2 Gh
section
variable {g : Gw} {Mt U0 U U' : Addr → Prop} {H0 H H' H1 H2 : Hp} {b b1 : Nat} {σ : L2.St} {ε ε' : Env} {E : XK} {W L W' : Type}
variable {env : W → Env} {envL : L → Env} {env' : W' → Env} {u ta tb : TS} {te : TE} {me : Tr D}
def asL (x : D) : Tr (List D) := match x with
  | .lst ds => .ok ds
  | _ => .bad
theorem al_asL {P : List D → Nat → Prop} {X : Str → Fs → Nat → Prop} {d : D} (h : Al P X (asL d) b) : ∃ ds, d = .lst ds ∧ P ds b := by
  cases d with
  | lst ds => exact ⟨ds, rfl, h⟩
  | _ => exact h.elim
theorem ss_ext {i : Nat} {ds : List D} {k : List D → Tr (Fl W L)} (he : SE g E ε te me) (hk : ∀ es, SS g E (ε.set i (.ow (.l (ds ++ es)))) u env envL (k es)) (hi : ε[i]? = some (.ow ds) := by rfl) :
    SS g E ε (tSeq (tDrop (tBM g.K "list" rExtend (tVar i) (tCons te tNil))) u) env envL (bd (bd me asL) fun es => if ds.length + es.length ≤ sizeLine then k es else .bad) := fun Mt U0 H0 U D σ H b s q => by
  rw [bd_bd] at q
  obtain ⟨a, vs, e1, h1, l1, d1, ua, n1, n2, _⟩ := own_mut (vs' := []) (ds' := []) s hi
  refine ⟨.ref a, e1, .inl ⟨rfl, vs, SqL.of h1⟩, ?_⟩
  refine he.sstep s q fun v d H1 b1 dv s1 q1 => ?_
  obtain ⟨es, rfl, q2⟩ := al_asL (al_bd.mp q1)
  obtain ⟨a', vs', e2, h2, l2, d2, _, _, _, mt⟩ := own_mut (vs' := []) (ds' := []) s1 hi
  rw [e1] at e2
  cases e2
  obtain ⟨p3, v3, rfl, h3, n3, l3, k3⟩ := den_lst dv
  by_cases hl : ds.length + es.length ≤ sizeLine
  · rw [if_pos hl] at q2
    have hl2 : vs'.length + v3.length ≤ sizeLine := by rw [d2.length, k3.length]; exact hl
    obtain ⟨s2, ev⟩ := mt (vs' ++ v3) (ds ++ es) (by rw [List.length_append]; exact hl2) (d2.append k3)
    exact ⟨a, p3, vs', v3, rfl, rfl, h2, h3, hl2, hk es Mt U0 H0 U D σ _ b1 s2 (q2.mono (fun _ _ z => z.ev ev) (fun _ _ _ z => z))⟩
  · rw [if_neg hl] at q2
    exact q2.elim
end
end Gp
end
section
set_option Elab.async false
set_option linter.all false
set_option maxRecDepth 100000
set_option maxHeartbeats 4000000
namespace Gp
open PySem PySem.Spec PyProof.Rows L2 Gh
section
variable {g : Gw} {E : XK} {ε : Env} {te : TE} {me : Tr D}
def seqD (x : D) : Tr (List D) := match x with
  | .lst ds => .ok ds
  | .tup ds => .ok ds
  | _ => .bad
theorem pa_starK {X : Cx} {K : PySem.W.Frag} {e : Expr} {es : List Expr} {p : Pos} {t : TA} (hK : X.K = K) (he : PE X e te) (hr : PA X es t) (hs : starEach (.Starred e p :: es) X.env = (true, eval e X.env) :: starEach es X.env := by rfl) : PA X (.Starred e p :: es) (StX.tStar K te t) := hK ▸ StX.pa_star he hr hs
theorem sa_star {t : TA} {m : Tr (List D)} (he : SE g E ε te me) (hb : SA g E ε t m) : SA g E ε (StX.tStar g.K te t) (bd (bd me seqD) fun x => bd m fun xs => .ok (x ++ xs)) := fun U σ H b Q R W u q => by
  rw [bd_bd] at q
  refine he.step R W u q fun v d H1 b1 d1 w1 f1 R1 u1 q1 => ?_
  cases d with
  | lst ds =>
    obtain ⟨p, vs, rfl, h, n, l, k⟩ := den_lst d1
    refine ⟨p, vs, rfl, .inr (SqL.of h), hb.step R1 w1 u1 q1 fun v2 e H2 b2 d2 w2 f2 R2 u2 q2 => ?_⟩
    exact q2 (vs ++ v2) H2 ((k.fr u1 f2).append d2) w2 (f1.trans f2)
  | tup ds =>
    obtain ⟨p, vs, rfl, h, l, k⟩ := den_tup d1
    refine ⟨p, vs, rfl, .inl h, hb.step R1 w1 u1 q1 fun v2 e H2 b2 d2 w2 f2 R2 u2 q2 => ?_⟩
    exact q2 (vs ++ v2) H2 ((k.fr u1 f2).append d2) w2 (f1.trans f2)
  | _ => exact q1.elim
end
end Gp
end
section
set_option Elab.async false
set_option linter.all false
set_option maxRecDepth 100000
set_option maxHeartbeats 4000000
namespace Gp
open PySem PySem.Spec PyProof.Rows L2 Gh
section
variable {g : Gw} {U : Addr → Prop} {H : Hp} {σ : L2.St} {ε : Env} {E : XK} {Q : VK}
end
theorem se_dct {g : Gw} {ε : Env} {E : XK} : SE g E ε tDNewK (.ok .dct) := fun U σ H b Q R W u q p np => by
  have s := same_new (o := .dK []) np
  exact q _ _ (.dct upd_same (u.new np)) (W.same s) (fr_same s)
end Gp
end
section
set_option Elab.async false
set_option linter.all false
set_option maxRecDepth 100000
set_option maxHeartbeats 4000000
namespace HT
open PySem PyProof.Rows
section
open PySem.SeqAt
variable {prog : Program} {w : World} {A : Around} {E : Value → Shared → Prop} {s : Shared}
theorem sliceApplied_rev {sl : Addr} {vs : Value} {n : Nat} {Q : Int × Int × Nat → Shared → Prop} (hs : s.heap.IsSliceOf sl .none .none vs) (ps : IsPart vs (some (-1)))
    (h : Q ((n : Int) - 1, -1, n) s) : wpAny (model prog w) A (Builtin.Slice.sliceApplied (.ref sl) (pure (n : Int))) Q E s := by
  obtain ⟨os, hos, hcs, hds⟩ := id hs
  unfold Builtin.Slice.sliceApplied Builtin.Slice.sliceFields
  refine wpAny_bind (wpAny_bind (wpAny_field hos hds (x := .none) rfl (wpAny_bind (wpAny_field hos hds (x := .none) rfl (wpAny_bind (wpAny_field hos hds (x := vs) rfl (wpAny_pure ?_)))))))
  refine wpAny_bind (slicePart_ ps ?_)
  show wpAny _ _ (if ((-1 : Int) == 0) = true then _ else _) _ _ s
  rw [if_neg (by decide)]
  refine wpAny_bind (slicePart_none (wpAny_bind (slicePart_none (wpAny_bind (wpAny_pure ?_)))))
  have e : Builtin.Slice.slicePlaces ((n : Int) - 1) (-1) (-1) = n := by
    unfold Builtin.Slice.slicePlaces
    have h1 : ¬ (-1 : Int) > 0 := by omega
    simp only [h1, if_false]
    have h2 : (- -1 : Int) = 1 := by decide
    rw [h2, Int.ediv_one]
    split <;> omega
  show wpAny _ _ (pure ((n : Int) - 1, (-1 : Int), Builtin.Slice.slicePlaces ((n : Int) - 1) (-1) (-1))) _ _ s
  rw [e]
  exact wpAny_pure h
theorem fm_congr {f g : Nat → Option Value} : ∀ {l : List Nat}, (∀ x ∈ l, f x = g x) → l.filterMap f = l.filterMap g
  | [], _ => rfl
  | x :: l, h => by
    rw [List.filterMap_cons, List.filterMap_cons, h x List.mem_cons_self, fm_congr fun y hy => h y (List.mem_cons_of_mem _ hy)]
theorem pick_rev (xs : Array Value) : ((List.range xs.size).filterMap fun (k : Nat) => xs[((xs.size : Int) - 1 + (k : Int) * -1).toNat]?).toArray = xs.toList.reverse.toArray := by
  have e : ((List.range xs.size).filterMap fun (k : Nat) => xs[((xs.size : Int) - 1 + (k : Int) * -1).toNat]?) = ((List.range xs.size).map fun k => xs.size - 1 - k).filterMap (xs[·]?) := by
    rw [List.filterMap_map]
    refine fm_congr fun k hk => ?_
    have := List.mem_range.mp hk
    show _ = xs[xs.size - 1 - k]?
    congr 1
    omega
  rw [e, PySem.W.krv_range, List.filterMap_reverse, PySem.W.krv_all]
theorem getItem_tuple_rev {t sl : Addr} {items : Array Value} {vs : Value} {Q : Value → Shared → Prop} (ht : IsTup s.heap t items) (hs : s.heap.IsSliceOf sl .none .none vs) (ps : IsPart vs (some (-1)))
    (h : Q (.ref s.heap.objs.size) { s with heap := s.heap.push { cls := .type "tuple", data := .seq items.toList.reverse.toArray } })
    (hsz : items.size ≤ sizeLine) : wpAny (model prog w) A (getItem (.ref t) (.ref sl)) Q E s := by
  have htake : sizeOk (.seq items.toList.reverse.toArray) := by
    show items.toList.reverse.toArray.size ≤ sizeLine
    rw [List.size_toArray, List.length_reverse, Array.length_toList]
    exact hsz
  obtain ⟨os, hos, hcs, hds⟩ := id hs
  have hTs : s.TypeIs (.ref sl) "slice" := ⟨os, hos, hcs⟩
  unfold getItem
  try with_reducible refine wpAny_holding ?_
  first | refine wpAny_bind (wpAny_pure ?_) | skip
  refine wpAny_bind (wpAny_sequenceKey ht.typeIs (by decide) ?_)
  refine wpAny_bind (wpAny_callSpecial?_slot (name := Str.ofString "__getitem__") ht.typeIs PyProof.Rows.slot_tuple_getitem
    (wpAny_call_entry PyProof.Rows.slot_tuple_getitem ht.typeIs entry_tuple_getitem ?_ (args_tuple_getitem _ _)))
  show wpAny _ _ (Builtin.Tuple.tupleItemsOf (.ref t) >>= _) _ _ s
  refine wpAny_bind (tupleItemsOf_ ht ?_)
  refine wpAny_bind (wpAny_typeOf hTs ?_)
  rw [if_pos (by decide)]
  refine wpAny_bind (sliceApplied_rev hs ps ?_)
  have hno : ¬ ((((items.size : Int) - 1) == 0 && (-1 : Int) == 1 && items.size == items.size) = true) := by
    intro q
    rw [Bool.and_eq_true, Bool.and_eq_true] at q
    exact absurd q.1.2 (by decide)
  show wpAny _ _ (if (((items.size : Int) - 1) == 0 && (-1 : Int) == 1 && items.size == items.size) = true then _ else _) _ _ s
  rw [if_neg hno, pick_rev]
  first
    | exact wpAny_bind (m := Builtin.Tuple.tupleExact _) (wpAny_newObj_type (wpAny_pure ⟨_, rfl, wpAny_pure h⟩) htake)
    | exact wpAny_bind (m := Builtin.Tuple.tupleExact _) (wpAny_newObj_type (wpAny_bind (wpAny_pure (wpAny_pure ⟨_, rfl, wpAny_pure h⟩))) htake)
    | exact wpAny_bind (wpAny_bind (m := Builtin.Tuple.tupleExact _) (wpAny_newObj_type (wpAny_pure (wpAny_pure ⟨_, rfl, wpAny_pure h⟩)) htake))
    | exact wpAny_bind (wpAny_bind (m := Builtin.Tuple.tupleExact _) (wpAny_newObj_type (wpAny_pure ⟨_, rfl, wpAny_pure h⟩) htake))
end
end HT
namespace Gp
open PySem PySem.Spec PyProof.Rows L2 Gh
section
variable {g : Gw} {Mt U0 U U' : Addr → Prop} {H0 H H' H1 H2 : Hp} {b b1 : Nat} {σ : L2.St} {ε ε' : Env} {E : XK} {W L W' : Type} {te : TE} {me : Tr D}
def tRevA (K : PySem.W.Frag) (te : TE) : TE := fun σ H Q => te σ H fun x H1 => ∃ a xs, x = .ref a ∧ ((SqL K H1 a xs ∧ ∀ p, H1 p = none → Q (.ref p) (upd H1 p (.lst xs.reverse))) ∨ (SqT K H1 a xs ∧ ∀ p, H1 p = none → Q (.ref p) (upd H1 p (.tup xs.reverse))))
theorem pe_revA {X : Cx} {e : Expr} {k : Nat} {p1 p2 p3 pos : Pos} (he : PE X e te) : PE X (.Subscript e (.Slice none none (some (.UnaryOp .USub (.Constant (.int 1) k p1) p2)) p3) pos) (tRevA X.K te) := by
  refine ⟨fun pins s σ H Q I h => ?_⟩
  refine Subscript_ (thn (he.run pins s σ H _ I h) fun v s1 ⟨x, H1, I1, r1, q1⟩ => ?_)
  obtain ⟨a, xs, ex, hq⟩ := q1
  subst ex
  cases r1
  have hst : PO X (some (.UnaryOp .USub (.Constant (.int 1) k p1) p2)) (tPart (tUn (rU fun i => .int (-i)) (tC (.int 1)))) := po_some (pe_un un_neg pe_int)
  refine wpAny_Slice (thn (po_none.run pins s1 σ H1 (fun o H2 => o = none ∧ H2 = H1) I1 ⟨rfl, rfl⟩) fun vl s2 ⟨l, H2, I2, pl, el, e2⟩ => ?_)
  subst el e2
  refine thn (po_none.run pins s2 σ H2 (fun o H3 => o = none ∧ H3 = H2) I2 ⟨rfl, rfl⟩) fun vu s3 ⟨u, H3, I3, pu, eu, e3⟩ => ?_
  subst eu e3
  refine thn (hst.run pins s3 σ H3 (fun o H4 => o = some (-1) ∧ H4 = H3) I3 ⟨1, rfl, -1, rfl, rfl, rfl⟩) fun vs s4 ⟨o, H4, I4, ps, eo, e4⟩ => ?_
  subst eo e4
  have I5 : Inv X pins σ H4 { s4 with heap := s4.heap.push { cls := .type "slice", data := .fields #[vl, vu, vs] } } := I4.kept (t' := s4.toks) fun b ob q => Heap.get?_push_of_some _ q
  show wpAny (model X.prog X.w) X.A (subscriptTail e (.Slice none none (some (.UnaryOp .USub (.Constant (.int 1) k p1) p2)) p3) (.ref a) (.ref s4.heap.objs.size)) (EP X pins σ Q) X.xe { s4 with heap := s4.heap.push { cls := .type "slice", data := .fields #[vl, vu, vs] } }
  rcases hq with ⟨hx, q⟩ | ⟨hx, q⟩
  · obtain ⟨its, r, ht, hz⟩ := I5.list hx
    have hlen := r.length
    refine tail_any (ops := [.ref a, .ref s4.heap.objs.size]) ht.isList.typeIs (PySem.slot_list_getitem.lookup) ?_ (by with_unfolding_all rfl)
    refine wpAny_getItem_list_slice ht.isList (Heap.IsSliceOf.new _ vl vu vs) pl pu ps (by decide) ?_ (by rw [List.size_toArray]; omega)
    rw [PySem.W.krv_pick]
    refine ⟨.ref _, _, I5.laid (t' := s4.toks) (o := .lst xs.reverse) (fun b ob q => Heap.get?_push_of_some _ q) (Nat.le_refl _) ?_, rfl, q _ (I5.hok.fresh (Nat.le_refl _))⟩
    exact ⟨by rw [List.length_reverse]; exact hz, _, 0, r.reverse, Heap.get?_push_size _ rfl⟩
  · obtain ⟨its, r, ht, hz⟩ := I5.tuple hx
    have hlen := r.length
    cases pl
    cases pu
    refine tail_any (ops := [.ref a, .ref s4.heap.objs.size]) ht.typeIs PyProof.Rows.slot_tuple_getitem.lookup ?_ (by with_unfolding_all rfl)
    refine HT.getItem_tuple_rev ht (Heap.IsSliceOf.new _ _ _ vs) ps ?_ (by rw [List.size_toArray]; omega)
    refine ⟨.ref _, _, I5.laid (t' := s4.toks) (o := .tup xs.reverse) (fun b ob q => Heap.get?_push_of_some _ q) (Nat.le_refl _) ?_, rfl, q _ (I5.hok.fresh (Nat.le_refl _))⟩
    exact ⟨by rw [List.length_reverse]; exact hz, _, r.reverse, IsTup.new _ _⟩
theorem pe_revAK {X : Cx} {K : PySem.W.Frag} {e : Expr} {k : Nat} {p1 p2 p3 pos : Pos} (hK : X.K = K) (he : PE X e te) : PE X (.Subscript e (.Slice none none (some (.UnaryOp .USub (.Constant (.int 1) k p1) p2)) p3) pos) (tRevA K te) := hK ▸ pe_revA he
def revA (x : D) : Tr D := match x with
  | .lst ds => .ok (.lst ds.reverse)
  | .tup ds => .ok (.tup ds.reverse)
  | _ => .bad
theorem se_revA (he : SE g E ε te me) : SE g E ε (tRevA g.K te) (bd me revA) := fun U σ H b Q R W u q =>
  he.step R W u q fun v d H1 b1 d1 w1 f1 R1 u1 q1 => by
    cases d with
    | lst ds =>
      obtain ⟨p, vs, rfl, h, n, l, k⟩ := den_lst d1
      exact ⟨p, vs, rfl, .inl ⟨SqL.of h, new_lst (okP.fr f1 q1) w1 u1 (by rw [List.length_reverse]; exact l) k.reverse⟩⟩
    | tup ds =>
      obtain ⟨p, vs, rfl, h, l, k⟩ := den_tup d1
      exact ⟨p, vs, rfl, .inr ⟨h, new_tup (okP.fr f1 q1) w1 u1 (by rw [List.length_reverse]; exact l) k.reverse⟩⟩
    | _ => exact q1.elim
end
end Gp
end
section
set_option Elab.async false
set_option linter.all false
set_option maxRecDepth 100000
set_option maxHeartbeats 4000000
namespace Gp
open PySem PySem.Spec PyProof.Rows L2 Gh
section
variable {g : Gw} {Mt U0 U U' : Addr → Prop} {H0 H H' H1 H2 : Hp} {b b1 : Nat} {σ : L2.St} {ε ε' : Env} {E : XK} {W L W' : Type}
variable {env : W → Env} {envL : L → Env} {env' : W' → Env} {u ta tb : TS} {te ti : TE} {me mi : Tr D}
def listL (x : D) : Tr (List D) := match x with
  | .lst ds => .ok ds
  | .tup ds => .ok ds
  | _ => .bad
theorem sn_list (he : SE g E ε te me) : SN g E ε (tCB (rListOf g.K) (tCons te tNil)) (bd me listL) := fun U σ H b Q R W u q =>
  he.step R W u q fun v d H1 b1 d1 w1 f1 R1 u1 q1 => by
    show rListOf g.K [v] H1 Q
    unfold rListOf
    cases d with
    | lst ds =>
      obtain ⟨p, vs, rfl, h, n, l, k⟩ := den_lst d1
      exact ⟨p, vs, rfl, .inl (SqL.of h), fun A nA => q1 A vs H1 nA l k w1 f1⟩
    | tup ds =>
      obtain ⟨p, vs, rfl, h, l, k⟩ := den_tup d1
      exact ⟨p, vs, rfl, .inr h, fun A nA => q1 A vs H1 nA l k w1 f1⟩
    | _ => exact q1.elim
theorem sn_rg {t : L2.St → Hp → (Int → Int → Hp → Prop) → Prop} {m : Tr (Int × Int)} (he : SRg g E ε t m) : SN g E ε (tLstRg t) (bd m fun r => if rgOk r.1 r.2 then .ok (rgD r.1 (r.2 - r.1).toNat) else .bad) := fun U σ H b Q R W u q =>
  he U σ H b _ R W u ((al_bd.mp q).mono (fun r b1 h1 H1 w1 f1 => by
    by_cases h : rgOk r.1 r.2
    · rw [if_pos h] at h1
      exact ⟨⟨h.1, h.2.1, h.2.2.1, h.2.2.2.1, by have := h.2.2.2.2; omega⟩, fun p np => h1 p _ H1 np (rgV_ok h) (denL_rg _ _) w1 f1⟩
    · rw [if_neg h] at h1
      exact h1.elim) (fun _ _ _ h => h))
def SQ (g : Gw) (E : XK) (ε : Env) (n : Nat) (t : TA) (m : Tr (List D)) : Prop := ∀ Mt U0 H0 U σ H b Q, Stt g Mt U0 H0 U σ H b ε →
  Al (fun ds b' => ∀ vs U' H', QR g Mt U0 H0 U' σ H' ε n vs ds → Ev U H U' H' → Stt g Mt U0 H0 U' σ H' b' ε → Q vs H') (exS g Mt U0 H0 E) m b → t σ H Q
theorem SQ.sstep {n : Nat} {t : TA} {m : Tr (List D)} {k : List D → Tr (Fl W L)} {Ds : Ends} {Q : List V → Hp → Prop} (he : SQ g E ε n t m) (s : Stt g Mt U0 H0 U σ H b ε) (h : Al (flP g Mt U0 H0 U H Ds env envL) (exS g Mt U0 H0 E) (bd m k) b)
    (hk : ∀ vs ds U' H1 b1, QR g Mt U0 H0 U' σ H1 ε n vs ds → Stt g Mt U0 H0 U' σ H1 b1 ε → Al (flP g Mt U0 H0 U' H1 Ds env envL) (exS g Mt U0 H0 E) (k ds) b1 → Q vs H1) : t σ H Q :=
  he Mt U0 H0 U σ H b Q s ((al_bd.mp h).mono (fun ds b1 h1 vs U' H' qr ev s1 => hk vs ds U' H' b1 qr s1 (h1.mono (fun _ _ z => z.ev ev) (fun _ _ _ z => z))) (fun _ _ _ h => h))
end
end Gp
end
section
set_option Elab.async false
set_option linter.all false
set_option maxRecDepth 100000
set_option maxHeartbeats 4000000
namespace Gp
open PySem PySem.Spec PyProof.Rows L2 Gh
section
variable {prog : Program} {w : World} {M : Model} {A : Around} {E : Value → Shared → Prop} {s : Shared} {K : PySem.W.Frag} {x C C2 L f : Addr} {h₀ h : Heap} {m : Str → Option Value} {ox : Obj} {od : Option Obj} {nm : String}
end
theorem dtB_ok {f : Str × Option Str} {i : Nat} {K : PySem.W.Frag} (h : dtB f i K = true) : ∀ H' : Hp, SqT K H' (He.dflAt f i K) [] := fun H' => by
  unfold dtB at h
  split at h
  · rename_i o ho
    obtain ⟨h1, h2⟩ := He.ba h
    split at h2
    · rename_i its n hd
      have e : its.toList = [] := List.isEmpty_iff.mp h2
      refine .inr ⟨o, its, n, ho, beq_iff_eq.mp h1, hd, ?_, by rw [e]; exact .nil⟩
      rw [← Array.length_toList, e]
      exact Nat.zero_le _
    · cases h2
  · cases h
theorem den_dt {g : Gw} {U : Addr → Prop} {H : Hp} {a : Addr} (h : ∀ H' : Hp, SqT g.K H' a []) : Den g U H (.ref a) (.tup []) := .tupW h (Nat.zero_le _) .nil rfl
end Gp
end
section
set_option Elab.async false
set_option linter.all false
set_option maxRecDepth 100000
set_option maxHeartbeats 4000000
namespace Gp
open PySem PySem.Spec PyProof.Rows L2 Gh
abbrev TSF : Type := Addr → Value → Option Addr → TS
section
variable {X : Cx} {body : List Stmt} {h₀ : ExceptHandler} {hds : List ExceptHandler} {l : List (Value × Option Nat × TSF)} {pos : Pos} {tb : WX → TS} {Wout : WX}
end
end Gp
end
section
set_option Elab.async false
set_option linter.all false
set_option maxRecDepth 100000
set_option maxHeartbeats 4000000
namespace Gp
open PySem PySem.Spec PyProof.Rows L2 Gh
def ItH.te (a : Addr) (cls : Value) (d : Option Addr) (C : Addr) (i : Nat) : ItH → TE
  | .s x => tC (.str x)
  | .n k => tC (.int k)
  | .f x => tXf a cls d C x (tVar i)
section
variable {g : Gw} {U : Addr → Prop} {H H' : Hp} {b : Nat} {σ : L2.St} {ε : Env}
theorem fz_no {n : Nat} : Fz (List.replicate n .no) := fun s h => .inr (List.mem_replicate.mp h).2
theorem rel_no {n : Nat} (hl : σ.length = n) : Rel g U H σ (List.replicate n .no) := by
  refine ⟨by rw [List.length_replicate]; exact hl, fun i s e => ?_, fun _ _ _ _ h1 _ => (fz_no.own _ _ h1).elim⟩
  rw [List.getElem?_replicate] at e
  split at e
  · rename_i hk
    cases e
    exact ⟨_, List.getElem?_eq_getElem (by rw [hl]; exact hk), trivial⟩
  · cases e
theorem rel_fz {j : Nat} {v : V} {d : D} (R : Rel g U H σ ε) (h : Fz ε) (hj : j < σ.length) (dn : Den g U H v d) : Rel g U H (σ.set j (some v)) (ε.set j (.fz d)) := by
  refine ⟨by simp only [List.length_set]; exact R.len, fun k s e => ?_, fun _ _ _ _ h1 _ => (h.set.own _ _ h1).elim⟩
  by_cases q : j = k
  · subst q
    rw [List.getElem?_set_self (by rw [← R.len]; exact hj)] at e
    cases e
    exact ⟨_, List.getElem?_set_self hj, _, rfl, dn⟩
  · rw [List.getElem?_set_ne q] at e
    obtain ⟨o, h1, h2⟩ := R.at_ k s e
    exact ⟨o, by rw [List.getElem?_set_ne q]; exact h1, h2⟩
end
theorem fnO1 {P : Program} {w : World} {K : PySem.W.Frag} {mg : Str → Option Value} {base : Heap} {CX : CXT} {k : Nat} {f : Addr} {fd : FuncData} {ps : List Str} {sp : Sp} {dvs : List V} {x qual : Str} {params : Arguments} {body : List Stmt} {scope : Scope} {kws : List (Str × V)} {N : List Str}
    (F : FunD K x qual params body scope dvs kws f fd) (S : FnScope N ps scope) (len : ∀ vs H Q E, sp vs H Q E → vs.length = ps.length)
    (hbody : ∀ (cdv : Value) (A : Around) (outer : List PySem.Env) (s : Shared) (H : Hp) (vs : List V) (Q : VK) (E : XK), cdv = fd.code → Room k (A.deeper (envOfC qual scope s.heap.objs.size f cdv)) → sp vs H Q E →
      ∃ t, PSs (cxOf CX P w K mg base N qual scope f cdv A outer s H E).nox body t ∧ t { nx := fun _ H' => Q .non H', rt := Q } (L2.start N vs) H) : FnOk P w K mg base CX (k + 1) f fd ps sp := by
  obtain ⟨oc, od, dV, kV, doc, pm, an, cdv, ct, osl, rfl, lk, hcd, _, _⟩ := F.ex
  refine ⟨len, fun A outer s H args us vs Q E hr e0 hb r hsp => ?_⟩
  refine LamX.run_ofS (N := N) (ps := ps) lk hcd S hr e0 hb r (len _ _ _ _ hsp) fun hr' => ?_
  obtain ⟨t, ht, q⟩ := hbody cdv A outer s H vs Q E rfl hr' hsp
  exact ⟨t, PSs.nox ht, q⟩
def HrdP (K : PySem.W.Frag) (d : Df) (ps : List Str) : Prop := ∃ fd, FnA K d fd ∧ L2.Binds K fd ps []
def qlOf (d : Df) (K : PySem.W.Frag) : Str := (envOfC d.qual (defScope d.st) 0 (d.adr K) .none).qual ++ "<lambda>"
structure LamD (base : Heap) (mg : Str → Option Value) (K : PySem.W.Frag) (Tb : List (Addr × Str)) (d : Df) (pn : He.Defn) : Prop where
  tb : LamX.TabB base mg (He.cT K pn).1 (He.cT K pn).2
  mem : ((He.cT K pn).2, qlOf d K) ∈ Tb
  hu : ∀ p ∈ Tb, p.1 = (He.cT K pn).2 → p.2 = qlOf d K
end Gp
end
section
set_option Elab.async false
set_option linter.all false
set_option maxRecDepth 100000
set_option maxHeartbeats 4000000
namespace Gp
open PySem PySem.Spec PyProof.Rows L2 Gh
mutual
def noLst : D → Bool
  | .lst _ => false
  | .tup ds => noLstL ds
  | .obj _ fs => noLstF fs
  | .err _ fs => noLstF fs
  | .dic _ => false
  | .dit _ => false
  | .dik _ => false
  | _ => true
def noLstL : List D → Bool
  | [] => true
  | d :: ds => noLst d && noLstL ds
def noLstF : List (Str × D) → Bool
  | [] => true
  | (_, d) :: ds => noLst d && noLstF ds
end
def pk : Tr D → Tr D
  | .ok d => if noLst d = true then .ok d else .bad
  | .ex c fs => if noLstF fs = true then .ex c fs else .bad
  | .bad => .bad
  | .draw m k => .draw m fun d => pk (k d)
section
variable {g : Gw} {U : Addr → Prop} {H : Hp} {a : Addr} {vs : List V}
mutual
theorem den_back (ha : H a = some (.lst vs)) : ∀ {v : V} {d : D}, Den g (fun x => U x ∧ x ≠ a) H v d → noLst d = true → Den g U H v d
  | _, _, .non, _ => .non
  | _, _, .bl b, _ => .bl b
  | _, _, .int i, _ => .int i
  | _, _, .str x h, _ => .str x h
  | _, _, .tup h n l k, z => .tup h (fun u => n ⟨u, fun e => by subst e; rw [ha] at h; cases h⟩) l (denL_back ha k (by simpa only [noLst] using z))
  | _, _, .tupW h l k nk, z => .tupW h l (denL_back ha k (by simpa only [noLst] using z)) nk
  | _, _, .lst _ _ _ _, z => by simp only [noLst] at z; cases z
  | _, _, .obj h n k, z => .obj h (fun u => n ⟨u, fun e => by subst e; rw [ha] at h; cases h⟩) (denF_back ha k (by simpa only [noLst] using z))
  | _, _, .err h n h2 n2 k, z => .err h (fun u => n ⟨u, fun e => by subst e; rw [ha] at h; unfold exk at h; cases h⟩) h2 (fun u => n2 ⟨u, fun e => by subst e; rw [ha] at h2; cases h2⟩) (denF_back ha k (by simpa only [noLst] using z))
  | _, _, .pen, _ => .pen
  | _, _, .cls c, _ => .cls c
  | _, _, .er0 h n, _ => .er0 h (fun u => n ⟨u, fun e => by subst e; rw [ha] at h; unfold exk0 at h; cases h⟩)
  | _, _, .dct h n, _ => .dct h (fun u => n ⟨u, fun e => by subst e; rw [ha] at h; cases h⟩)
  | _, _, .dic _ _ _ _, z => by simp only [noLst] at z; cases z
  | _, _, .dit _ _ _ _, z => by simp only [noLst] at z; cases z
  | _, _, .dik _ _ _ _, z => by simp only [noLst] at z; cases z
theorem denL_back (ha : H a = some (.lst vs)) : ∀ {ws : List V} {ds : List D}, DenL g (fun x => U x ∧ x ≠ a) H ws ds → noLstL ds = true → DenL g U H ws ds
  | _, _, .nil, _ => .nil
  | _, _, .cons x r, z => by
    simp only [noLstL, Bool.and_eq_true] at z
    exact .cons (den_back ha x z.1) (denL_back ha r z.2)
theorem denF_back (ha : H a = some (.lst vs)) : ∀ {ws : List (Str × V)} {ds : List (Str × D)}, DenF g (fun x => U x ∧ x ≠ a) H ws ds → noLstF ds = true → DenF g U H ws ds
  | _, _, .nil, _ => .nil
  | _, _, .cons x r, z => by
    simp only [noLstF, Bool.and_eq_true] at z
    exact .cons (den_back ha x z.1) (denF_back ha r z.2)
end
end
section
variable {g : Gw} {U : Addr → Prop} {H : Hp} {b : Nat} {σ : L2.St} {ε : Env} {E : XK} {te : TE} {m : Tr D}
theorem al_pk {Q : VK} {a : Addr} {vs : List V} (ha : H a = some (.lst vs)) (np : a ≠ g.p) {m : Tr D} {b : Nat} (h : Al (okP g U H Q) (exP g U E H) (pk m) b) : Al (okP g (fun x => U x ∧ x ≠ a) H Q) (exP g (fun x => U x ∧ x ≠ a) E H) m b := by
  induction m generalizing b with
  | ok d =>
    unfold pk at h
    split at h
    · rename_i z
      intro v H' dn w f
      exact h v H' (den_back (f _ _ ha np (fun _ z => by cases z)) dn z) w f
    · exact h.elim
  | ex c fs =>
    unfold pk at h
    split at h
    · rename_i z
      intro dd fvs H' h1 h2 h3 h4 h5
      have ha' := h5 _ _ ha np (fun _ z => by cases z)
      exact h dd fvs H' h1 (fun u => h2 ⟨u, fun e => by subst e; rw [ha'] at h1; cases h1⟩) (denF_back ha' h3 z) h4 h5
    · exact h.elim
  | bad => exact h
  | draw m f ih =>
    obtain ⟨b', e, h1, h2, h3⟩ := h
    exact ⟨b', e, h1, h2, fun d d0 d1 => ih d (h3 d d0 d1)⟩
theorem se_lend {i : Nat} {ds : List D} (h : SE g E (ε.set i (.fz (.lst ds))) te m) (hi : ε[i]? = some (.ow ds) := by rfl) : SE g E ε te (pk m) := fun U σ H b Q R w u q => by
  obtain ⟨o, e1, a, u0, rfl, h1, ⟨vs, rfl, l1, d1⟩, ua, n1, n2⟩ := R.at_ i _ hi
  have il : i < ε.length := (List.getElem?_eq_some_iff.mp hi).1
  have sub : ∀ x, (∃ o, H x = some o) → (U x ∧ x ≠ a) → U x := fun x _ z => z.1
  have ow : ∀ j x, OwnAt σ (ε.set i (.fz (.lst ds))) j x → i ≠ j ∧ OwnAt σ ε j x := fun j x z => by
    obtain ⟨z1, z2⟩ := z
    by_cases q : i = j
    · subst q
      exfalso
      rcases z2 with ⟨y, z2⟩ | ⟨y1, y2, z2⟩
      · rw [List.getElem?_set_self il] at z2
        cases z2
      · rw [List.getElem?_set_self il] at z2
        cases z2
    · rw [List.getElem?_set_ne q] at z2
      exact ⟨q, z1, z2⟩
  have apart : ∀ j x, i ≠ j → OwnAt σ ε j x → x ≠ a := fun j x ne z e => by
    subst e
    exact R.apart i j x ne ⟨e1, .inl ⟨ds, hi⟩⟩ z
  refine h (fun x => U x ∧ x ≠ a) σ H b Q ⟨by rw [List.length_set]; exact R.len, fun j x e => ?_, fun j k x ne z1 z2 => R.apart j k x ne (ow _ _ z1).2 (ow _ _ z2).2⟩ w ⟨⟨u.p, n1.symm⟩, ⟨u.c, n2.symm⟩, fun x hx => u.al x hx.1⟩ (al_pk h1 n1 q)
  by_cases q : i = j
  · subst q
    rw [List.getElem?_set_self il] at e
    cases e
    exact ⟨_, e1, _, rfl, .lst h1 (fun z => z.2 rfl) l1 (d1.sub sub)⟩
  · rw [List.getElem?_set_ne q] at e
    obtain ⟨o, e3, e2⟩ := R.at_ j x e
    refine ⟨o, e3, ?_⟩
    cases x with
    | no => trivial
    | fz d =>
      obtain ⟨v, e4, e5⟩ := e2
      exact ⟨v, e4, e5.sub sub⟩
    | ow ds2 =>
      obtain ⟨a2, v2, rfl, h2, d2, u2, m1, m2⟩ := e2
      have ne := apart j a2 q ⟨e3, .inl ⟨ds2, e⟩⟩
      exact ⟨a2, v2, rfl, h2, d2.map (fun q => q.sub sub), ⟨u2, ne⟩, m1, m2⟩
    | oi c fs =>
      obtain ⟨a2, dx, v2, rfl, h2, d2, u2, m1, m2⟩ := e2
      have ne := apart j a2 q ⟨e3, .inr ⟨c, fs, e⟩⟩
      exact ⟨a2, dx, v2, rfl, h2, d2.sub sub, ⟨u2, ne⟩, m1, m2⟩
end
end Gp
end
section
set_option Elab.async false
set_option linter.all false
set_option maxRecDepth 100000
set_option maxHeartbeats 4000000
namespace Gz
open PySem PySem.Spec PyProof.Rows L2 GenW Gh
variable {X : Cx}
abbrev GpZ := List (Nat × GenState) → Prop
section
variable {T : Type} {Z : GpZ} {st : Stmt} {rest : List Stmt} {pos : Pos}
end
end Gz
end
section
set_option Elab.async false
set_option linter.all false
set_option maxRecDepth 100000
set_option maxHeartbeats 4000000
namespace Gz
open PySem PySem.Spec PyProof.Rows L2 GenW Gh
section
variable {X : Cx} {ip : List (Addr × Obj)} {σ : L2.St} {H : Hp} {s : Shared}
end
section
variable {T : Type} {X : Cx} {st : Stmt} {rest : List Stmt}
end
abbrev SpQ := (T : Type) → Pro T → Nat → T → Prop
abbrev SpH := Hp → SpQ
end Gz
end
section
set_option Elab.async false
set_option linter.all false
set_option maxRecDepth 100000
set_option maxHeartbeats 4000000
namespace Gz
open PySem PySem.Spec PyProof.Rows L2 GenW Gh
section
variable {P : Program} {w : World} {A : Around} {E : Value → Shared → Prop} {s : Shared}
end
abbrev TQG := L2.St → Hp → (SpH → Hp → Prop) → Prop
section
variable {X : Cx} {k : Nat} {f C : Addr} {fd : FuncData} {ps : List Str} {sp : List V → Hp → XK → SpQ} {dvs : List V} {ds : List Value} {x m : Str} {p pos pos' apos : Pos} {o : Expr} {ta : TE}
end
end Gz
end
section
set_option Elab.async false
set_option linter.all false
set_option maxRecDepth 100000
set_option maxHeartbeats 4000000
namespace Gp
open PySem PySem.Spec PyProof.Rows L2 Gh Gz
section
variable {X : Cx} {CX : CXT} {k : Nat} {f g C : Addr} {E : XK} {m : Str} {apos pos : Pos} {o : Expr} {ta : TE} {tk : TA} {ks : List Str} {kws : List Keyword} {r : List V → List V → Hp → VK → Prop}
end
theorem denL_atO {g : Gw} {U : Addr → Prop} {H : Hp} {vs : List V} {ds : List D} (h : DenL g U H vs ds) : ∀ i : Nat, (vs[i]? = none ∧ ds[i]? = none) ∨ ∃ v d, vs[i]? = some v ∧ ds[i]? = some d ∧ Den g U H v d := by
  induction vs generalizing ds with
  | nil => cases h; exact fun i => .inl ⟨rfl, rfl⟩
  | cons v vs ih =>
    cases h with
    | cons a r =>
      intro i
      cases i with
      | zero => exact .inr ⟨_, _, rfl, rfl, a⟩
      | succ i => exact ih r i
theorem denL_picks {g : Gw} {U : Addr → Prop} {H : Hp} (l : List (Nat ⊕ Nat)) {dvs zs : List V} {dds es : List D} (h1 : DenL g U H dvs dds) (h2 : DenL g U H zs es) : DenL g U H (picks l dvs zs) (picks l dds es) := by
  induction l with
  | nil => exact .nil
  | cons z r ih =>
    unfold picks at ih ⊢
    rw [List.filterMap_cons, List.filterMap_cons]
    cases z with
    | inl i =>
      rcases denL_atO h2 i with ⟨e1, e2⟩ | ⟨x, v, e1, e2, rv⟩
      · simp only [e1, e2]; exact ih
      · simp only [e1, e2]; exact .cons rv ih
    | inr j =>
      rcases denL_atO h1 j with ⟨e1, e2⟩ | ⟨x, v, e1, e2, rv⟩
      · simp only [e1, e2]; exact ih
      · simp only [e1, e2]; exact .cons rv ih
section
variable {g : Gw} {E : XK} {ε : Env} {ta : TE} {ma : Tr D} {t tk : TA} {mt mk : Tr (List D)}
def SRK (g : Gw) (E : XK) (r : List V → List V → Hp → VK → Prop) (f : List D → List D → Tr D) : Prop := ∀ U H b vs zs ds es Q, DenL g U H vs ds → DenL g U H zs es → Wd g H b → UOk g U H → Al (okP g U H Q) (exP g U E H) (f ds es) b → r vs zs H Q
end
end Gp
end
section
set_option Elab.async false
set_option linter.all false
set_option maxRecDepth 100000
set_option maxHeartbeats 4000000
namespace Gp
open PySem PySem.Spec PyProof.Rows L2 Gh
section
variable {X : Cx} {CX : CXT} {k n : Nat} {f C : Addr} {ks : List Str} {sp : Sp} {E : XK}
theorem makeP {l : List (Nat ⊕ Nat)} {dvs : List V} (M : Mk X.K C f) (F : PromK X.prog X.w X.K X.mg X.base CX k f (n + 1) ks (fun vs zs => vs ++ picks l dvs zs) sp) (hr : Room (k + 1) X.A) (hx : Passes CX X E) : CallK X (.ref C) ks (rMkK C n ks.length (fun vs zs => vs ++ picks l dvs zs) sp E) :=
  PromK.make (gV := fun _ zs => picks l dvs zs) M F hr hx
end
def kwM (c : Str) (n m : Nat) (l : List (Nat ⊕ Nat)) (dds : List D) (F : Fs → List D → Tr Fs) (ds es : List D) : Tr D := if ds.length = n ∧ es.length = m then bd (F [] (ds ++ picks l dds es)) fun fs => .ok (.obj c fs) else .bad
section
variable {g : Gw} {E : XK} {ε : Env} {tk : TA} {mk : Tr (List D)}
theorem srk_mk {cn : Str} {F : Fs → List D → Tr Fs} {n m : Nat} {l : List (Nat ⊕ Nat)} {dvs : List V} {dds : List D} (hd : ∀ U H, DenL g U H dvs dds) : SRK g E (rMkK (gd cn g.K) n m (fun vs zs => vs ++ picks l dvs zs) (spI g.K g.T cn F) E) (kwM cn n m l dds F) := fun U H b vs zs ds es Q dn en wd u q => by
  unfold kwM at q
  split at q
  · rename_i hl
    exact ⟨by rw [dn.length]; exact hl.1, by rw [en.length]; exact hl.2, srl_mk0 U H b _ _ Q (dn.append (denL_picks l (hd U H) en)) wd u q⟩
  · exact q.elim
theorem se_clK0 {r : List V → List V → Hp → VK → Prop} {f : List D → List D → Tr D} (hr : SRK g E r f) (hk : SA g E ε tk mk) : SE g E ε (tClK r tNil tk) (bd mk (f [])) := fun U σ H b Q R W u q =>
  hk.step R W u q fun zs es H1 b1 d1 w1 f1 R1 u1 q1 => hr U H1 b1 [] zs [] es Q .nil d1 w1 u1 (q1.mono (fun _ _ h => h.fr f1) (fun _ _ _ h => h))
end
section
variable {K : PySem.W.Frag} {x qual : Str} {params : Arguments} {body : List Stmt} {scope : Scope} {dvs : List V} {f B : Addr} {file : Str} {fd : FuncData} {ps : List Str}
theorem SupF.kbD (F : SupF K x qual params body scope dvs f B file fd) (n : Nat) (ks : List Str) (l : List (Nat ⊕ Nat)) (hd : dvs ≠ [])
    (h : ∀ (cl : List (Str × Addr)) (T : Addr) (kV doc pm : Value) (an : Option Addr) (cdv ct : Value) (us its ws : List Value), us.length = n → its.length = dvs.length → ws.length = ks.length →
      ∃ k, bindArgs (PySem.W.fnX x qual params body scope cl (.ref T) kV doc pm an cdv ct) ⟨us, ks.zip ws⟩ = seqItems? (.ref T) >>= k ∧ k (some its.toArray) = pure (ps.zip (us ++ picks l its ws))) :
    ∃ g, KBn K fd ps n ks g (fun vs zs => vs ++ picks l dvs zs) := by
  obtain ⟨oc, od, dV, kV, doc, pm, an, cda, ct, osl, cc, rfl, lk, hcd, hD, _⟩ := F.ex
  rcases hD with ⟨e, _⟩ | ⟨_, T, o, its, m, rfl, lT, oT, rT⟩
  · exact absurd e hd
  · refine ⟨fun us ws => us ++ picks l its ws, ⟨fun s us ws X l1 l2 => ?_, fun r1 r2 => r1.append (picks_rel l rT r2)⟩⟩
    obtain ⟨k, e1, e2⟩ := h _ T kV doc pm an _ ct us its ws l1 rT.length.symm l2
    refine BindsTo.of_looks fun M => ?_
    rw [e1]
    exact looks_items X lT oT (.of_pure e2)
end
end Gp
end
section
set_option Elab.async false
set_option linter.all false
set_option maxRecDepth 100000
set_option maxHeartbeats 4000000
namespace Gp
open PySem PySem.Spec PyProof.Rows L2 Gh
def rIsiX (K : PySem.W.Frag) (a : Addr) (cls : Value) (d : Option Addr) : List V → Hp → VK → Prop := fun xs H Q => ∃ (C dd : Addr) (fs : List (Str × V)) (c : V) (u : Value) (b : Bool), xs = [.ref a, c] ∧ ClsV c u ∧ cls = .ref C ∧ d = some dd ∧ H dd = some (.xd fs) ∧ ErrT K C ∧ PySem.W.kitOne K (.ref C) u = some b ∧ Q (.bl b) H
def BX.te (K : PySem.W.Frag) (a : Addr) (cls : Value) (d : Option Addr) (i : Nat) : BX → TE
  | .lit b => tC (.bl b)
  | .own x => tCB (rIsiX K a cls d) (tCons (tVar i) (tCons (tC (.ref (gd x K))) tNil))
  | .ty x => tCB (rIsiX K a cls d) (tCons (tVar i) (tCons (tC (.ty x)) tNil))
  | .and p q => tAndV (p.te K a cls d i) (q.te K a cls d i)
section
variable {g : Gw} {U : Addr → Prop} {H H' : Hp} {b : Nat} {σ : L2.St} {ε : Env}
end
end Gp
end
section
set_option Elab.async false
set_option linter.all false
set_option maxRecDepth 100000
set_option maxHeartbeats 4000000
namespace Gp
open PySem PySem.Spec PyProof.Rows L2 Gh
def keyPy : Key → PyData
  | .inl i => .int i
  | .inr x => .str x
mutual
def toPyX : D → Option PyData
  | .non => some .none
  | .bl b => some (.bool b)
  | .int i => some (.int i)
  | .str x => some (.str x)
  | .tup ds => (toPyXL ds).map .tuple
  | .lst ds => (toPyXL ds).map .list
  | .dct => some (.dict [])
  | .dic ps => (toPyXP ps).map .dict
  | .dit _ => none
  | .dik _ => none
  | .obj _ _ => none
  | .err _ _ => none
  | .pen => none
  | .cls _ => none
  | .er0 _ => none
def toPyXL : List D → Option (List PyData)
  | [] => some []
  | d :: ds => match toPyX d, toPyXL ds with
    | some e, some es => some (e :: es)
    | _, _ => none
def toPyXP : List (Key × D) → Option (List (PyData × PyData))
  | [] => some []
  | (k, d) :: ds => match toPyX d, toPyXP ds with
    | some e, some es => some ((keyPy k, e) :: es)
    | _, _ => none
end
theorem key_reads {h : Heap} {k : Key} {v : Value} (e : keyIs k v = true) : Reads h v (keyPy k) [] := by
  rcases keyIs_shape e with ⟨i, t, rfl, rfl⟩ | ⟨x, t, rfl, rfl⟩
  · exact .int i t
  · exact .str x t
section
variable {X : Cx} {pins : List (Addr × Obj)} {σ : L2.St} {H : Hp} {s : Shared} {g : Gw} {U : Addr → Prop}
theorem keys_reads {knd : PySem.KeyKind X.prog X.w Key} (hk : knd = mixKind X.prog X.w) {h : Heap} : ∀ {es : List DictEntry} {kvs : List (Key × Value)}, Pairs knd es kvs → ReadsAll h (es.map (·.key)) (kvs.map fun kv => keyPy kv.1) [] := by
  subst hk
  intro es kvs p
  induction p with
  | nil => exact .nil
  | cons a hv r ih => exact ReadsAll.cons (key_reads (show keyIs _ _ = true from a)) ih
theorem vals_of_pairs {knd : PySem.KeyKind X.prog X.w Key} : ∀ {es : List DictEntry} {kvs : List (Key × Value)}, Pairs knd es kvs → es.map (·.val) = kvs.map (·.2) := by
  intro es kvs p
  induction p with
  | nil => rfl
  | cons a hv r ih => rw [List.map_cons, List.map_cons, ih, hv]
theorem kv_parts {κ : Type} : ∀ {kvs : List (κ × V)} {vs : List (κ × Value)}, KV kvs vs → kvs.map (·.1) = vs.map (·.1) ∧ Vals (kvs.map (·.2)) (vs.map (·.2)) := by
  intro kvs vs p
  induction p with
  | nil => exact ⟨rfl, .nil⟩
  | cons a r ih => exact ⟨by rw [List.map_cons, List.map_cons, ih.1, a.1], .cons a.2 ih.2⟩
theorem xp_keys : ∀ {ps : List (Key × D)} {es : List (PyData × PyData)}, toPyXP ps = some es → es.map (·.1) = (ps.map (·.1)).map keyPy
  | [], _, h => by cases h; rfl
  | (k, d) :: ps, es, h => by
    unfold toPyXP at h
    cases e1 : toPyX d with
    | none => rw [e1] at h; cases h
    | some e =>
      cases e2 : toPyXP ps with
      | none => rw [e1, e2] at h; cases h
      | some es2 =>
        rw [e1, e2] at h
        cases h
        rw [List.map_cons, List.map_cons, List.map_cons, xp_keys e2]
mutual
theorem den_readsX (I : Inv X pins σ H s) (hK : X.K = g.K) : ∀ (d : D) (v : V) (u : Value) (e : PyData), Den g U H v d → RelV v u → toPyX d = some e → ∃ as, Reads s.heap u e as ∧ ∀ a ∈ as, H a ≠ none
  | .non, _, _, _, h, r, q => by
    cases h; cases r; cases q
    exact ⟨_, Reads.none, fun _ z => nomatch z⟩
  | .bl b, _, _, _, h, r, q => by
    cases h; cases r; cases q
    exact ⟨_, Reads.bool b, fun _ z => nomatch z⟩
  | .int i, _, _, _, h, r, q => by
    cases h; cases q
    obtain ⟨t, rfl⟩ := r
    exact ⟨_, Reads.int i t, fun _ z => nomatch z⟩
  | .str x, _, _, _, h, r, q => by
    cases h; cases q
    obtain ⟨t, rfl⟩ := r
    exact ⟨_, Reads.str x t, fun _ z => nomatch z⟩
  | .tup ds, _, _, _, h, r, q => by
    unfold toPyX at q
    obtain ⟨es, q1, rfl⟩ := Option.map_eq_some_iff.mp q
    obtain ⟨a, vs, rfl, hs, _, ha⟩ := den_tup h
    cases r
    rw [← hK] at hs
    obtain ⟨its, rv, ⟨o, ho, hc, n, hd⟩, _⟩ := I.tuple hs
    obtain ⟨as, hr, hn⟩ := den_readsXL I hK ds _ its es ha rv q1
    exact ⟨_, Reads.tuple ho hc hd hr, hn⟩
  | .lst ds, _, _, _, h, r, q => by
    unfold toPyX at q
    obtain ⟨es, q1, rfl⟩ := Option.map_eq_some_iff.mp q
    cases h with
    | lst hl nu len ha =>
      cases r
      obtain ⟨its, rv, ⟨o, n, ho, hc, _, hd⟩, _⟩ := I.list (SqL.of hl)
      obtain ⟨as, hr, hn⟩ := den_readsXL I hK ds _ its es ha rv q1
      refine ⟨_, Reads.list ho hc hd hr, fun x hx => ?_⟩
      rcases List.mem_cons.mp hx with rfl | hx
      · rw [hl]; exact fun z => nomatch z
      · exact hn x hx
  | .dct, _, _, _, h, r, q => by
    cases q
    cases h with
    | dct hl nu =>
      cases r
      obtain ⟨_, sm, vs, kv, o, es, ep, ho, hc, hd, _, hp, _⟩ := dk_of I.hok hl
      have e0 : vs = [] := by
        cases kv
        rfl
      subst e0
      have e1 : es.toList = [] := by
        cases hq : es.toList with
        | nil => rfl
        | cons x r => rw [hq] at hp; cases hp
      refine ⟨_, .dict (as := []) (bs := []) ho hc.1 hd (by rw [e1]; exact .nil) (by rw [e1]; exact .nil), fun x hx => ?_⟩
      rw [List.append_nil] at hx
      rw [List.mem_singleton.mp hx, hl]
      exact fun z => nomatch z
  | .dic ps, _, _, _, h, r, q => by
    unfold toPyX at q
    obtain ⟨es', q1, rfl⟩ := Option.map_eq_some_iff.mp q
    cases h with
    | dic hl nu hk ha =>
      cases r
      obtain ⟨_, sm, vs, kv, o, es, ep, ho, hc, hd, _, hp, _⟩ := dk_of I.hok hl
      obtain ⟨k1, k2⟩ := kv_parts kv
      obtain ⟨bs, hr, hn⟩ := den_readsXP I hK ps _ _ es' ha k2 q1
      have hkeys := keys_reads (X := X) rfl (h := s.heap) hp
      have e1 : (vs.map fun kv => keyPy kv.1) = es'.map (·.1) := by
        rw [xp_keys q1, ← hk, k1, List.map_map]
        rfl
      rw [e1] at hkeys
      rw [← vals_of_pairs (X := X) hp] at hr
      refine ⟨_, .dict ho hc.1 hd hkeys hr, fun x hx => ?_⟩
      rcases List.mem_append.mp hx with hx | hx
      · rw [List.mem_singleton.mp hx, hl]
        exact fun z => nomatch z
      · exact hn x hx
  | .dit _, _, _, _, _, _, q => by cases q
  | .dik _, _, _, _, _, _, q => by cases q
  | .obj _ _, _, _, _, _, _, q => by cases q
  | .err _ _, _, _, _, _, _, q => by cases q
  | .pen, _, _, _, _, _, q => by cases q
  | .cls _, _, _, _, _, _, q => by cases q
theorem den_readsXL (I : Inv X pins σ H s) (hK : X.K = g.K) : ∀ (ds : List D) (vs : List V) (us : List Value) (es : List PyData), DenL g U H vs ds → Vals vs us → toPyXL ds = some es → ∃ as, ReadsAll s.heap us es as ∧ ∀ a ∈ as, H a ≠ none
  | [], _, _, _, h, r, q => by
    cases h; cases r; cases q
    exact ⟨_, ReadsAll.nil, fun _ z => nomatch z⟩
  | d :: ds, _, _, _, h, r, q => by
    cases h with
    | cons h1 h2 =>
      cases r with
      | cons r1 r2 =>
        unfold toPyXL at q
        cases e1 : toPyX d with
        | none => rw [e1] at q; cases q
        | some e =>
          cases e2 : toPyXL ds with
          | none => rw [e1, e2] at q; cases q
          | some es =>
            rw [e1, e2] at q
            cases q
            obtain ⟨as, q1, n1⟩ := den_readsX I hK d _ _ _ h1 r1 e1
            obtain ⟨bs, q2, n2⟩ := den_readsXL I hK ds _ _ _ h2 r2 e2
            exact ⟨_, ReadsAll.cons q1 q2, fun a ha => (List.mem_append.mp ha).elim (n1 a) (n2 a)⟩
theorem den_readsXP (I : Inv X pins σ H s) (hK : X.K = g.K) : ∀ (ps : List (Key × D)) (vs : List V) (us : List Value) (es : List (PyData × PyData)), DenL g U H vs (ps.map (·.2)) → Vals vs us → toPyXP ps = some es → ∃ as, ReadsAll s.heap us (es.map (·.2)) as ∧ ∀ a ∈ as, H a ≠ none
  | [], _, _, _, h, r, q => by
    cases h; cases r; cases q
    exact ⟨_, ReadsAll.nil, fun _ z => nomatch z⟩
  | (k, d) :: ps, _, _, _, h, r, q => by
    rw [List.map_cons] at h
    cases h with
    | cons h1 h2 =>
      cases r with
      | cons r1 r2 =>
        unfold toPyXP at q
        cases e1 : toPyX d with
        | none => rw [e1] at q; cases q
        | some e =>
          cases e2 : toPyXP ps with
          | none => rw [e1, e2] at q; cases q
          | some es =>
            rw [e1, e2] at q
            cases q
            obtain ⟨as, q1, n1⟩ := den_readsX I hK d _ _ _ h1 r1 e1
            obtain ⟨bs, q2, n2⟩ := den_readsXP I hK ps _ _ _ h2 r2 e2
            exact ⟨_, ReadsAll.cons q1 q2, fun a ha => (List.mem_append.mp ha).elim (n1 a) (n2 a)⟩
end
end
@[irreducible] def rShowX (K : PySem.W.Frag) : List V → Hp → VK → Prop := fun xs H Q => rShow K xs H Q ∨ ∃ (g : Gw) (U : Addr → Prop) (d : D) (e : PyData) (a : Addr), g.K = K ∧ xs = [.ref a] ∧ Den g U H (.ref a) d ∧ toPyX d = some e ∧ e.showable = true ∧ e.depth ≤ 100 ∧ e.shown.length ≤ sizeLine ∧ Q (.str e.shown) H
section
variable {X : Cx} {K : PySem.W.Frag}
theorem call_showX (hK : X.K = K) (hs : sysB X.K = true) (hu : X.A.units + 102 < cLine) (hg : X.A.guards = some []) : CallR X (.builtin "repr") (rShowX K) := by
  intro pins s σ H xs us Q I r h
  unfold rShowX at h
  rcases h with h | ⟨g, U, d, e, a, hgK, rfl, dn, he, h1, h2, h3, q⟩
  · exact call_show hK hu hg pins s σ H xs us Q I r h
  · obtain ⟨u, rfl, ru⟩ := vals1 r
    cases (show u = Value.ref a from ru)
    obtain ⟨as, rd, hn⟩ := den_readsX (g := g) I (hK.trans hgK.symm) d _ _ e dn rfl he
    obtain ⟨o, ho⟩ := Option.isSome_iff_exists.mp hs
    have z : H sysModules = none := (I.bs sysModules o (I.ok.mod.kin _ _ ho)).2
    exact repr_of_reads' rd h1 (fun _ m => hn _ m z) hg (by omega) (fun _ _ e => e) (fun h' u tk k => ⟨.str e.shown, H, I.kept k, ⟨u, rfl⟩, q⟩) h3
end
def reprX (d : D) : Tr D := match shwD d with
  | some x => if x.length ≤ sizeLine then .ok (.str x) else .bad
  | none => match toPyX d with
    | some e => if e.showable = true ∧ e.depth ≤ 100 ∧ e.shown.length ≤ sizeLine then .ok (.str e.shown) else .bad
    | none => .bad
section
variable {g : Gw} {E : XK}
theorem den_ref {U : Addr → Prop} {H : Hp} {v : V} {d : D} {e : PyData} (h : Den g U H v d) (hs : shwD d = none) (e1 : toPyX d = some e) (e2 : e.showable = true) (e3 : e.shown.length ≤ sizeLine) : ∃ a, v = .ref a := by
  cases h with
  | non => cases hs
  | bl b => cases hs
  | int i =>
    cases e1
    unfold shwD at hs
    dsimp only at hs
    have : i.natAbs.log2 < 1920 := of_decide_eq_true (by simpa [PyData.showable] using e2)
    rw [if_pos this] at hs
    cases hs
  | str x hx =>
    cases e1
    unfold shwD at hs
    dsimp only at hs
    have : (reprText x).length ≤ sizeLine := by simpa [PyData.shown] using e3
    rw [if_pos this] at hs
    cases hs
  | _ => exact ⟨_, rfl⟩
theorem srl_reprX : SRL g E (rShowX g.K) (ul1 reprX) := fun U H b xs dxs Q dn w u q => by
  obtain ⟨x, rfl, q1⟩ := al_ul1 q
  unfold rShowX
  unfold reprX at q1
  cases e : shwD x with
  | some t =>
    refine .inl (srl_repr (E := E) U H b xs [x] Q dn w u ?_)
    show Al _ _ (reprD x) b
    unfold reprD
    rw [e] at q1 ⊢
    exact q1
  | none =>
    rw [e] at q1
    cases e1 : toPyX x with
    | none => rw [e1] at q1; exact q1.elim
    | some e2 =>
      rw [e1] at q1
      dsimp only at q1
      split at q1
      · rename_i z
        obtain ⟨v, rfl, d1⟩ := denL_1 dn
        obtain ⟨a, rfl⟩ := den_ref d1 e e1 z.1 z.2.2
        exact .inr ⟨g, U, x, e2, a, rfl, rfl, d1, e1, z.1, z.2.1, z.2.2, okP.here q1 w (.str _ z.2.2)⟩
      · exact q1.elim
end
end Gp
end
section
set_option Elab.async false
set_option linter.all false
set_option maxRecDepth 100000
set_option maxHeartbeats 4000000
namespace Gp
open PySem PySem.Spec PyProof.Rows L2 Gh
theorem pe_popK {X : Cx} {o e : Expr} {to : TE} {t : TA} {apos cpos : Pos} {K : PySem.W.Frag} (hK : X.K = K) (ho : PE X o to) (ha : PA X [e] t)
    (hbase : attributeBase o "pop" X.env (eval o X.env) = eval o X.env := by rfl)
    (hfew : ((backTo cpos (starEach [e] X.env)).all (fun x => !x.1) && (backToKw cpos (keywordEach [] X.env)).all (fun x => x.1.isSome)
      && decide ([e].length + ([] : List Keyword).length + (if ([] : List Keyword).isEmpty then 0 else 1) < 30)) = true := by rfl)
    (hline : (apos.endLine == cpos.line) = true := by rfl) (hs : starEach [e] X.env = (false, eval e X.env) :: starEach [] X.env := by rfl) (hplain : (backTo cpos (starEach [] X.env)).any (·.1) = false := by rfl) :
    PE X (.Call (.Attribute o "pop" apos) [e] [] cpos) (tBM K "list" rPopAt to t) := by
  subst hK
  exact pe_bm PySem.F.plainAttrs_list PySem.F.slot_list_pop PySem.F.type_list_pop mt_popAt ho ha hbase hfew hline hs hplain
end Gp
namespace Gp
open PySem PySem.Spec PyProof.Rows L2 Gh
section
variable {g : Gw} {Mt U0 U : Addr → Prop} {H0 H : Hp} {b : Nat} {σ : L2.St} {ε : Env} {x : Option V} {y : Sl}
theorem rel_res (r : Rel g U H (σ ++ [x]) (ε ++ [y])) : Rel g U H σ ε := by
  have hl : σ.length = ε.length := by
    have := r.len
    rw [List.length_append, List.length_append] at this
    simpa using this
  refine ⟨hl, fun i s e => ?_, fun i j a n h1 h2 => ?_⟩
  · have hi := (List.getElem?_eq_some_iff.mp e).1
    obtain ⟨o, h1, h2⟩ := r.at_ i s (by rw [List.getElem?_append_left hi]; exact e)
    rw [List.getElem?_append_left (by rw [hl]; exact hi)] at h1
    exact ⟨o, h1, h2⟩
  · have up : ∀ {i : Nat}, OwnAt σ ε i a → OwnAt (σ ++ [x]) (ε ++ [y]) i a := fun {i} ⟨h1, h2⟩ => by
      have hi := (List.getElem?_eq_some_iff.mp h1).1
      refine ⟨by rw [List.getElem?_append_left hi]; exact h1, ?_⟩
      rw [List.getElem?_append_left (by rw [← hl]; exact hi)]
      exact h2
    exact r.apart i j a n (up h1) (up h2)
theorem get_ext {i : Nat} {s : Sl} (e : (ε ++ [Sl.no])[i]? = some s) : ε[i]? = some s ∨ i = ε.length ∧ s = .no := by
  by_cases hi : i < ε.length
  · rw [List.getElem?_append_left hi] at e
    exact .inl e
  · rw [List.getElem?_append_right (by omega)] at e
    have h0 : i - ε.length = 0 := by
      have := (List.getElem?_eq_some_iff.mp e).1
      simp at this
      omega
    rw [h0] at e
    exact .inr ⟨by omega, (Option.some.inj e).symm⟩
theorem own_ext (hl : σ.length = ε.length) {i : Nat} {a : Addr} (h : OwnAt (σ ++ [none]) (ε ++ [Sl.no]) i a) : OwnAt σ ε i a := by
  obtain ⟨h1, h2⟩ := h
  have hi : i < ε.length := by
    rcases h2 with ⟨d, e⟩ | ⟨c, f, e⟩
    · rcases get_ext e with z | ⟨_, z⟩
      · exact (List.getElem?_eq_some_iff.mp z).1
      · cases z
    · rcases get_ext e with z | ⟨_, z⟩
      · exact (List.getElem?_eq_some_iff.mp z).1
      · cases z
  rw [List.getElem?_append_left (by omega)] at h1
  rw [List.getElem?_append_left hi] at h2
  exact ⟨h1, h2⟩
theorem stt_ext (s : Stt g Mt U0 H0 U σ H b ε) : Stt g Mt U0 H0 U (σ ++ [none]) H b (ε ++ [.no]) := by
  have hl := s.rel.len
  refine ⟨⟨by rw [List.length_append, List.length_append, hl]; rfl, fun i x e => ?_, fun i j a n h1 h2 => s.rel.apart i j a n (own_ext hl h1) (own_ext hl h2)⟩, s.wd, s.uok, s.sub, fun i a z => s.own i a (own_ext hl z), s.ext, fun i ds a e1 e2 => ?_, fun i c fs a j0 e1 e2 => ?_⟩
  · rcases get_ext e with z | ⟨rfl, rfl⟩
    · obtain ⟨o, h1, h2⟩ := s.rel.at_ i x z
      exact ⟨o, by rw [List.getElem?_append_left (by rw [hl]; exact (List.getElem?_eq_some_iff.mp z).1)]; exact h1, h2⟩
    · exact ⟨none, by rw [List.getElem?_append_right (by omega), hl, Nat.sub_self]; rfl, trivial⟩
  · obtain ⟨h1, h2⟩ := own_ext hl ⟨e2, .inl ⟨ds, e1⟩⟩
    rcases get_ext e1 with z | ⟨_, z⟩
    · exact s.nu0 i ds a z h1
    · cases z
  · obtain ⟨h1, h2⟩ := own_ext hl ⟨e2, .inr ⟨c, fs, e1⟩⟩
    rcases get_ext e1 with z | ⟨_, z⟩
    · exact s.oim i c fs a j0 z h1
    · cases z
end
def popF (me : List D → D → Tr D) : List D → List D → Tr (List D)
  | [], _ => .ok []
  | x :: xs, cur => bd (nox (me cur x)) fun i => match i with
    | .int j => if 0 ≤ j ∧ j.toNat < cur.length then bd (popF me xs (cur.eraseIdx j.toNat)) fun r => .ok (cur.getD j.toNat .non :: r) else .bad
    | _ => .bad
theorem popF_cons (me : List D → D → Tr D) (x : D) (xs cur : List D) : popF me (x :: xs) cur = bd (nox (me cur x)) fun i => match i with
    | .int j => if 0 ≤ j ∧ j.toNat < cur.length then bd (popF me xs (cur.eraseIdx j.toNat)) fun r => .ok (cur.getD j.toNat .non :: r) else .bad
    | _ => .bad := rfl
theorem denL_get {g : Gw} {U : Addr → Prop} {H : Hp} : ∀ {vs : List V} {ds : List D} {k : Nat} {v : V} {d : D}, DenL g U H vs ds → vs[k]? = some v → ds[k]? = some d → Den g U H v d
  | _, _, 0, _, _, .cons a _, e1, e2 => by simp at e1 e2; subst e1 e2; exact a
  | _, _, k + 1, _, _, .cons _ r, e1, e2 => denL_get r (by simpa using e1) (by simpa using e2)
theorem denL_erase {g : Gw} {U : Addr → Prop} {H : Hp} : ∀ {vs : List V} {ds : List D} (k : Nat), DenL g U H vs ds → DenL g U H (vs.eraseIdx k) (ds.eraseIdx k)
  | _, _, _, .nil => .nil
  | _, _, 0, .cons a r => r
  | _, _, k + 1, .cons a r => .cons a (denL_erase k r)
section
variable {g : Gw} {ε : Env} {E : XK} {W L : Type} {env : W → Env} {envL : L → Env} {u : TS} {te : TE}
theorem ss_retPop {wi : TI} {mi : Tr (List D)} {i k : Nat} {ds0 : List D} {me : List D → D → Tr D} (hik : i ≠ k) (hi0 : SI g E ε wi mi) (he : ∀ cur d, SE g EF ((ε.set i (.ow (.l cur))).set k (.fz d)) te (me cur d)) (hi : ε[i]? = some (.ow (.l ds0)) := by rfl) :
    SS g E ε (tSeq (tRet (tLc wi (gName k) tYes (tBM g.K "list" rPopAt (tVar i) (tCons te tNil)) [k])) u) env envL (bd mi fun its => bd (popF me its ds0) fun r => .ok (.rt (.lst r))) := fun Mt U0 H0 U D σ H b s q => by
  refine hi0 U σ H b _ s.rel s.wd s.uok ((al_bd.mp q).mono (fun its b1 h1 J H1 hsz it w1 f1 => ?_) (fun _ _ _ h => exS.exP s h))
  intro A nA
  have s1 := s.fr f1 w1
  have hl := s.rel.len
  have il : i < ε.length := (List.getElem?_eq_some_iff.mp hi).1
  have e0 : ε.set i (.ow (.l ds0)) = ε := by
    apply List.ext_getElem?
    intro j
    by_cases q : i = j
    · subst q; rw [List.getElem?_set_self il, hi]
    · rw [List.getElem?_set_ne q]
  -- the new list in a slot of its own
  obtain ⟨sA, evA⟩ := own_new (i := ε.length) (vs := []) (ds := []) (stt_ext s1) nA (Nat.zero_le _) .nil
  have setA : ∀ (o : Option V) (x y : Sl) (e : Env), e.length = ε.length → (σ ++ [o]).set ε.length (some (.ref A)) = σ ++ [some (.ref A)] ∧ (e ++ [x]).set ε.length y = e ++ [y] := fun o x y e h => by
    constructor
    · rw [List.set_append_right _ _ (by omega), hl, Nat.sub_self]; rfl
    · rw [List.set_append_right _ _ (by omega), h, Nat.sub_self]; rfl
  rw [(setA none .no (.ow (.l [])) ε rfl).1, (setA none .no (.ow (.l [])) ε rfl).2] at sA
  have nU : ¬ U A := s1.uok.new nA
  have nU0 : ¬ U0 A := fun z => nU (s.sub A z)
  refine ⟨fun n m H' => ∃ b' V cur acc, m = its.length - n ∧ n ≤ its.length ∧ acc.length ≤ n ∧ Ev U H1 V H' ∧ Stt g Mt U0 H0 V (σ ++ [some (.ref A)]) H' b' (ε.set i (.ow (.l cur)) ++ [.ow (.l acc)]) ∧
      Al (fun r b => flP g Mt U0 H0 V H' D env envL (.rt (.lst (acc ++ r))) b) (exS g Mt U0 H0 E) (popF me (its.drop n) cur) b', ⟨its.length, b1, _, ds0, [], by simp, Nat.zero_le _, Nat.zero_le _, evA, by rw [e0]; exact sA, ?_⟩, ?_⟩
  · exact (al_bd.mp h1).mono (fun r b h => h) (fun _ _ _ h => h)
  rintro n m H' ⟨b', V, cur, acc, rfl, hle, hla, ev', s', q'⟩
  obtain ⟨it1, it2⟩ := it n V H' b' ev' s'.wd s'.uok
  have getA : (ε.set i (.ow (.l cur)) ++ [Sl.ow (.l acc)])[ε.length]? = some (.ow (.l acc)) := by
    rw [List.getElem?_append_right (by rw [List.length_set]; exact Nat.le_refl _), List.length_set, Nat.sub_self]; rfl
  have geti : (ε.set i (.ow (.l cur)) ++ [Sl.ow (.l acc)])[i]? = some (.ow (.l cur)) := by
    rw [List.getElem?_append_left (by rw [List.length_set]; exact il), List.getElem?_set_self il]
  by_cases hlt : n < its.length
  · have ei : its[n]? = some its[n] := List.getElem?_eq_getElem hlt
    obtain ⟨go, yy⟩ := it1 _ ei
    rw [List.drop_eq_getElem_cons hlt, popF_cons] at q'
    refine .inr ⟨go, fun H' => ∃ b' V cur acc, acc.length ≤ n + 1 ∧ Ev U H1 V H' ∧ Stt g Mt U0 H0 V (σ ++ [some (.ref A)]) H' b' (ε.set i (.ow (.l cur)) ++ [.ow (.l acc)]) ∧ Al (fun r b => flP g Mt U0 H0 V H' D env envL (.rt (.lst (acc ++ r))) b) (exS g Mt U0 H0 E) (popF me (its.drop (n + 1)) cur) b', ?_, ?_⟩
    · rintro H2 ⟨b2, V2, c2, a2, h⟩
      exact ⟨its.length - (n + 1), by omega, b2, V2, c2, a2, rfl, hlt, h⟩
    · intro v H2 hy
      obtain ⟨dn, sm⟩ := yy v H2 hy
      have s2 := s'.fr (fr_same sm) (s'.wd.same sm)
      have ev2 : Ev V H' V H2 := s'.uok.ev (fr_same sm)
      have r2 := rel_res s2.rel
      have ew : wipe σ [k] = σ.set k none := rfl
      rw [ew]
      show wipe ((σ.set k none).set k (some v)) [k] = _ ∧ _
      rw [List.set_set]
      refine ⟨?_, ?_⟩
      · show (σ.set k (some v)).set k none = _
        rw [List.set_set]
      -- xs
      obtain ⟨a, vs, ea, ha, la, da, ua, n1, n2, _⟩ := own_mut (vs' := []) (ds' := []) s2 geti
      have ea' : σ[i]? = some (some (.ref a)) := by rw [List.getElem?_append_left (by omega)] at ea; exact ea
      show (tBM g.K "list" rPopAt (tVar i) (tCons te tNil)) (σ.set k (some v)) H2 _
      refine ⟨.ref a, by rw [List.getElem?_set_ne hik.symm]; exact ea', .inl ⟨rfl, vs, SqL.of ha⟩, ?_⟩
      refine he cur its[n] V _ H2 b' _ (r2.set k dn) s2.wd s2.uok (Al.mono (fun dj b3 h3 vj H3 d3 w3 f3 => ?_) (fun _ _ _ z => z) (al_nox (E' := exP g V EF H2) (al_bd.mp q')))
      cases dj with
      | int j =>
        dsimp only at h3
        by_cases hj : 0 ≤ j ∧ j.toNat < cur.length
        · rw [if_pos hj] at h3
          cases den_int d3
          have s3 := s2.fr f3 w3
          have ev3 := s2.uok.ev f3
          obtain ⟨a3, vs3, e3, h3a, l3, da3, ua3, m1, m2, mt⟩ := own_mut (vs' := []) (ds' := []) s3 geti
          rw [ea] at e3
          cases e3
          obtain ⟨s4, ev4⟩ := mt (vs3.eraseIdx j.toNat) (cur.eraseIdx j.toNat) (by rw [List.length_eraseIdx]; split <;> omega) (denL_erase _ da3)
          have se : (ε.set i (.ow (.l cur)) ++ [Sl.ow (.l acc)]).set i (.ow (.l (cur.eraseIdx j.toNat))) = ε.set i (.ow (.l (cur.eraseIdx j.toNat))) ++ [.ow (.l acc)] := by
            rw [List.set_append_left _ _ (by rw [List.length_set]; exact il), List.set_set]
          rw [se] at s4
          have getA4 : (ε.set i (.ow (.l (cur.eraseIdx j.toNat))) ++ [Sl.ow (.l acc)])[ε.length]? = some (.ow (.l acc)) := by
            rw [List.getElem?_append_right (by rw [List.length_set]; exact Nat.le_refl _), List.length_set, Nat.sub_self]; rfl
          obtain ⟨A', vA, eA, hA, lA, dA, uA, k1, k2, mA⟩ := own_mut (vs' := []) (ds' := []) s4 getA4
          have eA' : A' = A := by
            rw [List.getElem?_append_right (by omega), hl, Nat.sub_self] at eA
            cases eA
            rfl
          subst eA'
          have hjl : j.toNat < vs3.length := by rw [da3.length]; exact hj.2
          have ey : vs3[j.toNat]? = some vs3[j.toNat] := List.getElem?_eq_getElem hjl
          have dy : Den g V H3 vs3[j.toNat] (cur.getD j.toNat .non) := by
            exact denL_get da3 ey (by rw [List.getD_eq_getElem?_getD, List.getElem?_eq_getElem hj.2]; rfl)
          have hlA : vA.length < sizeLine := by rw [dA.length]; exact Nat.lt_of_le_of_lt hla (Nat.lt_of_lt_of_le hlt hsz)
          obtain ⟨s5, ev5⟩ := mA (vA ++ [vs3[j.toNat]]) (acc ++ [cur.getD j.toNat .non]) (by rw [List.length_append]; exact hlA) (dA.append (.cons (dy.ev ev4) .nil))
          have se5 : (ε.set i (.ow (.l (cur.eraseIdx j.toNat))) ++ [Sl.ow (.l acc)]).set ε.length (.ow (.l (acc ++ [cur.getD j.toNat .non]))) = ε.set i (.ow (.l (cur.eraseIdx j.toNat))) ++ [.ow (.l (acc ++ [cur.getD j.toNat .non]))] :=
            (setA none _ _ _ (by rw [List.length_set])).2
          rw [se5] at s5
          have ev6 := (ev2.trans ev3).trans (ev4.trans ev5)
          refine ⟨a, vs3, j, j.toNat, vs3[j.toNat], rfl, rfl, h3a, by omega, ?_, ?_, ey, vA, hA, hlA, b3, V, cur.eraseIdx j.toNat, acc ++ [cur.getD j.toNat .non], by rw [List.length_append]; exact Nat.add_le_add_right hla 1, ev'.trans ev6, s5, ?_⟩
          · have : (sizeLine : Int) < 2 ^ 63 := by rw [sizeLine_eq]; decide
            have : (j.toNat : Int) = j := Int.toNat_of_nonneg hj.1
            omega
          · unfold seqIndex?
            have : (j.toNat : Int) = j := Int.toNat_of_nonneg hj.1
            have n0 : ¬ j < 0 := by omega
            simp only [n0, if_false]
            rw [if_pos (by simp only [Bool.and_eq_true, decide_eq_true_eq]; omega)]
          · refine Al.mono (fun r b h => ?_) (fun _ _ _ z => z) (al_bd.mp h3)
            have z : flP g Mt U0 H0 V H' D env envL (Fl.rt (W := W) (L := L) (.lst (acc ++ (cur.getD j.toNat .non :: r)))) b := h
            rw [List.append_cons] at z
            exact z
        · rw [if_neg hj] at h3
          exact h3.elim
      | _ => exact h3.elim
  · have e : n = its.length := by omega
    subst e
    rw [List.drop_length] at q'
    obtain ⟨A', vA, eA, hA, lA, dA, uA, k1, k2, mA⟩ := own_mut (vs' := []) (ds' := []) s' getA
    have eA' : A' = A := by
      rw [List.getElem?_append_right (by omega), hl, Nat.sub_self] at eA
      cases eA
      rfl
    subst eA'
    have z : flP g Mt U0 H0 V H' D env envL (Fl.rt (W := W) (L := L) (.lst (acc ++ []))) b' := q'
    rw [List.append_nil] at z
    exact .inl ⟨it2 rfl, z (.ref A') H' (.lst hA nU0 lA (dA.sub fun a _ w => s'.sub a w)) s'.wd s'.ext⟩
end
end Gp
end
section
set_option Elab.async false
set_option linter.all false
set_option maxRecDepth 100000
set_option maxHeartbeats 4000000
namespace Gp
open PySem PySem.Spec PyProof.Rows L2 Gh
def IX.te (K : PySem.W.Frag) (a : Addr) (cls : Value) (d : Option Addr) (i : Nat) : IX → TE
  | .s x => tC (.str x)
  | .n k => tC (.int k)
  | .f cn x => tXf a cls d (gd cn K) x (tVar i)
def ixTs (K : PySem.W.Frag) (a : Addr) (cls : Value) (d : Option Addr) (i : Nat) : List IX → TA
  | [] => tNil
  | x :: r => tCons (x.te K a cls d i) (ixTs K a cls d i r)
def TX.tt (K : PySem.W.Frag) (a : Addr) (cls : Value) (d : Option Addr) (i : Nat) : TX → TT
  | .own x => tB (tCB (rIsiX K a cls d) (tCons (tVar i) (tCons (tC (.ref (gd x K))) tNil)))
  | .not p => tNot (p.tt K a cls d i)
  | .and p q => tAnd (p.tt K a cls d i) (q.tt K a cls d i)
def VX.te (K : PySem.W.Frag) (a : Addr) (cls : Value) (d : Option Addr) (i : Nat) : VX → TE
  | .one x => x.te K a cls d i
  | .lst l => tLst (ixTs K a cls d i l)
def S1X.ts (K : PySem.W.Frag) (a : Addr) (cls : Value) (d : Option Addr) (i j : Nat) : S1X → TS
  | .set v => tAsg (v.te K a cls d i) (gName j)
  | .sel t v u => tAsg (tIf (t.tt K a cls d i) (v.te K a cls d i) (u.te K a cls d i)) (gName j)
section
variable {g : Gw} {U : Addr → Prop} {H : Hp} {b : Nat} {σ : L2.St}
variable {a dd : Addr} {cl : Str} {i j n : Nat} {fvs : List (Str × V)} {fs : Fs} {ki : Str → Str → Option Bool}
theorem heardK {N : List Str} {f c' : Addr} {q : Str} {tl : XK → Hp → VK → Prop} {m : Tr D} {k : Nat} {trest : TS} {mN : D → Tr (Fl Unit Empty)} {mE : D → Tr (Fl Unit Empty)} {envU : Unit → Env} {xh : Str → Bool} {HE : Addr} {Wout : WX} {Q : VK}
    (hn : (L2.start N [V.ref f]).length = n) (hi : i < n) (hj : j < n) (hk : k < n) (hij : i ≠ j) (hj0 : j ≠ 0) (hk0 : k ≠ 0) (hjk : j ≠ k)
    (hx : ∀ cl, xh cl = true → PySem.W.exmOne g.K (.ref (gd cl g.K)) (.ref HE) = some true)
    (hsN : ∀ d, SS g EF (((List.replicate n Sl.no).set j (.fz .non)).set k (.fz d)) trest envU envE (mN d))
    (hs : ∀ cl fs, SS g EF ((List.replicate n Sl.no).set j (.fz (.err cl fs))) trest envU envE (mE (.err cl fs)))
    (hc : H c' = some (LamX.CodeO c' q)) (ha : ∀ (E : XK) H' b' Q', Fr H H' g.p → Wd g H' b' → Al (okP g U H' Q') (exP g U E H') m b' → tl E H' Q')
    (wd : Wd g H b) (u : UOk g U H) (al : Al (okP g U H Q) (fun _ _ _ => False) (tryT m (fun d => nox (fin (mN d))) (fun cl fs => if xh cl = true then nox (fin (mE (.err cl fs))) else .bad)) b) :
    tSeq (tAsg (tTup (tCons (tC .non) (tCons (tC .non) tNil))) (gTup g.K 2 (gCons (gName j) (gCons (gName k) gNil)))) (tSeq (fun D σ H => tTry n (fun E => tAsg (tAct f c' q (tl E)) (gName k)) (wAsK g.K (.ref HE) i (fun a cls d => tAsg (tVar i) (gName j)) Wout D) D σ H) trest) { nx := fun _ H' => Q .non H', rt := Q } (L2.start N [.ref f]) H := by
  refine ⟨by show 2 ≤ sizeLine; decide, fun p0 np0 => ⟨p0, [.non, .non], rfl, SqT.of upd_same, rfl, .non, _, rfl, .non, _, rfl, rfl, ?_⟩⟩
  have s0 : L2.Same H (upd H p0 (.tup [.non, .non])) := same_new np0
  have wd0 := wd.same s0
  have u0 := u.fr (fr_same s0) wd0
  have al0 := al.mono (P' := okP g U (upd H p0 (.tup [.non, .non])) Q) (E' := fun _ _ _ => False) (fun _ _ z => z.fr (fr_same s0)) (fun _ _ _ z => z)
  refine ⟨ExH g U (upd H p0 (.tup [.non, .non])) Q (fun cl fs => if xh cl = true then nox (fin (mE (.err cl fs))) else .bad), clause hi hj hij hx hs u0, ?_⟩
  refine ⟨by rw [List.getElem?_set_ne hk0, List.getElem?_set_ne hj0]; rfl, s0 _ _ hc, ?_⟩
  refine ha _ (upd H p0 (.tup [.non, .non])) b _ (fr_same s0) wd0 ((al_try.mp al0).mono (fun d b1 h v H1 dn w1 f1 => ?_) (fun cl fs b1 h dd fvs H' e1 e2 e3 e4 e5 => ⟨cl, fs, b1, dd, fvs, rfl, rfl, e1, e2, e3, e4, e5, h⟩))
  show trest _ ((((L2.start N [.ref f]).set j (some .non)).set k (some .non)).set k (some v)) H1
  rw [List.set_set]
  exact run_rest (hsN d) (rel_fz (rel_fz (rel_no hn) fz_no (by rw [hn]; exact hj) .non) fz_no.set (by rw [List.length_set, hn]; exact hk) dn) fz_no.set.set.own w1 (u0.fr f1 w1) f1 (al_nox h)
end
end Gp
end
section
set_option Elab.async false
set_option linter.all false
set_option maxRecDepth 100000
set_option maxHeartbeats 4000000
namespace Gp
open PySem PySem.Spec PyProof.Rows L2 Gh
def isS {α : Type} (x : D) (k : Str → Tr α) : Tr α := match x with
  | .str a => k a
  | _ => .bad
theorem isS_str {α : Type} (a : Str) (k : Str → Tr α) : isS (.str a) k = k a := rfl
def joinS (b : Str) (o : Option (List Str)) : Tr D := match o with
  | some l => if (l.map (·.length)).sum + l.length * b.length ≤ 16777216 ∧ (Txt.join b l).length ≤ sizeLine then .ok (.str (Txt.join b l)) else .bad
  | none => .bad
def joinD (x y : D) : Tr D := match x, y with
  | .str b, .lst ds => joinS b (strsD ds)
  | .str b, .tup ds => joinS b (strsD ds)
  | _, _ => .bad
section
variable {g : Gw} {U : Addr → Prop} {H : Hp} {b : Nat} {E : XK} {Q : VK} {ε : Env} {to te : TE} {mo me : Tr D}
theorem al_isS {α : Type} {P : α → Nat → Prop} {X : Str → Fs → Nat → Prop} {x : D} {k : Str → Tr α} (h : Al P X (isS x k) b) : ∃ a, x = .str a ∧ Al P X (k a) b := by
  cases x with
  | str a => exact ⟨a, rfl, h⟩
  | _ => exact h.elim
theorem se_join (ho : SE g E ε to mo) (he : SE g E ε te me) : SE g E ε (tM1 (fun x xs H Q => ∃ a p, ∃ ys : List Str, x = .str a ∧ xs = [.ref p] ∧ (SqL g.K H p (ys.map V.str) ∨ SqT g.K H p (ys.map V.str)) ∧
      (ys.map (·.length)).sum + ys.length * a.length ≤ 16777216 ∧ Q (.str (Txt.join a ys)) H) to te) (bd mo fun x => isS x fun _ => bd me fun y => joinD x y) := fun U σ H b Q R W u q =>
  ho.step R W u q fun v x H1 b1 d1 w1 f1 R1 u1 q1 => by
    obtain ⟨a, rfl, q2⟩ := al_isS q1
    cases d1 with
    | str _ hla =>
      refine ⟨⟨a, rfl⟩, he.step R1 w1 u1 q2 fun v2 y H2 b2 d2 w2 f2 R2 u2 q3 => ?_⟩
      have fin : ∀ {ds : List D} {vs : List V} {p : Addr}, DenL g U H2 vs ds → (SqL g.K H2 p vs ∨ SqT g.K H2 p vs) → Al (okP g U H Q) (exP g U E H2) (joinS a (strsD ds)) b2 → ∃ a' p', ∃ ys : List Str, V.str a = .str a' ∧ [V.ref p] = [.ref p'] ∧ (SqL g.K H2 p' (ys.map V.str) ∨ SqT g.K H2 p' (ys.map V.str)) ∧ (ys.map (·.length)).sum + ys.length * a'.length ≤ 16777216 ∧ Q (.str (Txt.join a' ys)) H2 := fun {ds vs p} dl sq q => by
        cases e : strsD ds with
        | none => rw [e] at q; exact q.elim
        | some l =>
          rw [e] at q
          change Al _ _ (if _ then _ else _) b2 at q
          split at q
          · rename_i z
            have ev := strs_den dl e
            subst ev
            exact ⟨a, p, l, rfl, rfl, sq, z.1, q _ H2 (.str _ z.2) w2 (f1.trans f2)⟩
          · exact q.elim
      cases y with
      | lst ds =>
        obtain ⟨p, vs, rfl, h, n, l, k⟩ := den_lst d2
        exact fin k (.inl (SqL.of h)) q3
      | tup ds =>
        obtain ⟨p, vs, rfl, h, l, k⟩ := den_tup d2
        exact fin k (.inr h) q3
      | _ => exact q3.elim
end
section
variable {X : Cx} {e f : Expr} {te tf : TE} {es : List Expr} {ta : TA} {pos p : Pos}
end
end Gp
end
section
set_option Elab.async false
set_option linter.all false
set_option maxRecDepth 100000
set_option maxHeartbeats 4000000
namespace Gp
open PySem PySem.Spec PyProof.Rows L2 Gh
section
variable {g : Gw} {E : XK} {ε : Env} {U : Addr → Prop} {H : Hp} {b : Nat} {W L : Type} {tb : TS} {env : W → Env} {envL : L → Env}
def un4 {α : Type} (d : D) (k : D → D → D → D → Tr α) : Tr α := match d with
  | .tup [x, y, z, w] => k x y z w
  | _ => .bad
end
end Gp
end
section
set_option Elab.async false
set_option linter.all false
set_option maxRecDepth 100000
set_option maxHeartbeats 4000000
namespace Gp
open PySem PySem.Spec PyProof.Rows L2 Gh
theorem pi_zipAK {X : Cx} {K : PySem.W.Frag} {e e2 : Expr} {ta : TA} {p pos tpos : Pos} {elts : List Expr} {kk : Nat} (hK : X.K = K) (hg : Gl X "zip") (hm : X.mg "zip" = none) (ha : PA X [e, e2] ta)
    (hs : starEach [e, e2] X.env = (false, eval e X.env) :: starEach [e2] X.env := by rfl) (hpl : (backTo pos (starEach [e2] X.env)).any (·.1) = false := by rfl) :
    PI X (.Tuple elts kk tpos) (.Call (.Name "zip" p) [e, e2] [] pos) (iZip K ta) := by
  subst hK
  exact pi_zip hg hm ha hs hpl
def zipP : List D → List D → List D
  | x :: xs, y :: ys => .tup [x, y] :: zipP xs ys
  | _, _ => []
theorem zipP_len : ∀ (xs ys : List D), (zipP xs ys).length = min xs.length ys.length
  | [], _ => by simp [zipP]
  | _ :: _, [] => by simp [zipP]
  | x :: xs, y :: ys => by simp [zipP, zipP_len xs ys]
theorem zipP_get : ∀ (xs ys : List D) (i : Nat) (d : D), (zipP xs ys)[i]? = some d → ∃ x y, xs[i]? = some x ∧ ys[i]? = some y ∧ d = .tup [x, y]
  | [], ys, i, d, h => by simp [zipP] at h
  | x :: xs, [], i, d, h => by simp [zipP] at h
  | x :: xs, y :: ys, 0, d, h => by simp [zipP] at h; exact ⟨x, y, by simp, by simp, h.symm⟩
  | x :: xs, y :: ys, i + 1, d, h => by
    have := zipP_get xs ys i d (by simpa [zipP] using h)
    simpa using this
def zipD : D → D → Tr (List D)
  | .lst xs, .lst ys => .ok (zipP xs ys)
  | _, _ => .bad
section
variable {g : Gw} {Mt U0 U U' : Addr → Prop} {H0 H H' H1 H2 : Hp} {b b1 b2 : Nat} {σ : L2.St} {ε ε' : Env} {E : XK}
theorem den_pairD {x y : V} {d e : D} {T : Addr} (u : UOk g U H1) (n : H1 T = none) (h : Den g U H1 x d) (k : Den g U H1 y e) : Den g U (upd H1 T (.tup [x, y])) (.ref T) (.tup [d, e]) := by
  have s := same_new (o := .tup [x, y]) n
  exact .tup upd_same (u.new n) (by show 2 ≤ sizeLine; decide) (.cons (h.ext (u.extU (fr_same s))) (.cons (k.ext (u.extU (fr_same s))) .nil))
theorem itd_zip {a c : Addr} {vs ws : List V} {ds es : List D} (h : H a = some (.lst vs)) (n : ¬ U a) (k : DenL g U H vs ds) (h2 : H c = some (.lst ws)) (n2 : ¬ U c) (k2 : DenL g U H ws es) : ItD g U H (Itz g.K a c) (zipP ds es) := fun i U1 H1 b e w u => by
  have h1 : H1 a = some (.lst vs) := e.keep _ _ h n (fun _ z => by cases z)
  have h3 : H1 c = some (.lst ws) := e.keep _ _ h2 n2 (fun _ z => by cases z)
  have l1 := k.length
  have l2 := k2.length
  refine ⟨fun d hd => ?_, fun hl => ⟨vs, ws, SqL.of h1, SqL.of h3, by rw [zipP_len] at hl; omega⟩⟩
  obtain ⟨x, y, q1, q2, rfl⟩ := zipP_get _ _ _ _ hd
  obtain ⟨v, hv, dv⟩ := k.getD q1
  obtain ⟨z, hz, dz⟩ := k2.getD q2
  refine ⟨⟨vs, ws, v, z, SqL.of h1, SqL.of h3, hv, hz⟩, ?_⟩
  rintro X H2 ⟨T, y1, y2, rfl, nT, rfl, hy1, hy2⟩
  have e1 := hy1 vs (SqL.of h1)
  have e2 := hy2 ws (SqL.of h3)
  rw [hv] at e1
  rw [hz] at e2
  cases e1
  cases e2
  exact ⟨den_pairD u nT (dv.ev e) (dz.ev e), same_new nT⟩
theorem si_zip {t : TA} {m : Tr (List D)} (ha : SA g E ε t m) : SI g E ε (iZip g.K t) (bd m (ul2 zipD)) := fun U σ H b R rl wd u q =>
  ha.step rl wd u q fun v d H1 b1 d1 w1 f1 R1 u1 q1 => by
    obtain ⟨x, y, rfl, q2⟩ := al_ul2 q1
    obtain ⟨v, w, rfl, e1, e2⟩ := denL_2 d1
    cases x with
    | lst ds =>
      cases y with
      | lst es =>
        obtain ⟨a, vs, rfl, h, n, l, k⟩ := den_lst e1
        obtain ⟨c, ws, rfl, h2, n2, l2, k2⟩ := den_lst e2
        have e1' := k.length
        exact ⟨a, c, vs, ws, rfl, SqL.of h, SqL.of h2, q2 _ H1 (by rw [zipP_len]; omega) (itd_zip h n k h2 n2 k2) w1 f1⟩
      | _ => exact q2.elim
    | _ => exact q2.elim
end
end Gp
end
section
set_option Elab.async false
set_option linter.all false
set_option maxRecDepth 100000
set_option maxHeartbeats 4000000
namespace Gp
open PySem PySem.Spec PyProof.Rows L2 Gh
section
variable {g : Gw} {Mt U0 U U' : Addr → Prop} {H0 H H' H1 H2 : Hp} {b b1 : Nat} {σ : L2.St} {ε ε' : Env} {E : XK} {W L W' : Type}
variable {env : W → Env} {envL : L → Env} {env' : W' → Env} {u ta tb : TS} {te : TE} {me : Tr D}
theorem stt_noV {i : Nat} {v : Option V} (s : Stt g Mt U0 H0 U σ H b ε) (hi : ε[i]? = some .no) : Stt g Mt U0 H0 U (σ.set i v) H b ε ∧ ∀ j a, OwnAt (σ.set i v) ε j a → OwnAt σ ε j a := by
  have ow : ∀ j a, OwnAt (σ.set i v) ε j a → OwnAt σ ε j a := fun j a z => by
    obtain ⟨z1, z2⟩ := z
    by_cases q : i = j
    · subst q
      rcases z2 with ⟨ds, z2⟩ | ⟨c, fs, z2⟩ <;> (rw [hi] at z2; cases z2)
    · rw [List.getElem?_set_ne q] at z1
      exact ⟨z1, z2⟩
  refine ⟨⟨⟨by rw [List.length_set]; exact s.rel.len, fun j x e => ?_, fun j k a n h1 h2 => s.rel.apart j k a n (ow _ _ h1) (ow _ _ h2)⟩, s.wd, s.uok, s.sub, fun j a z => s.own j a (ow _ _ z), s.ext, fun j ds a e1 e2 => ?_, fun j c fs a t e1 e2 => ?_⟩, ow⟩
  · by_cases q : i = j
    · subst q
      rw [hi] at e
      cases e
      have hl : i < σ.length := by rw [s.rel.len]; exact (List.getElem?_eq_some_iff.mp hi).1
      exact ⟨v, List.getElem?_set_self hl, trivial⟩
    · rw [List.getElem?_set_ne q]
      exact s.rel.at_ j x e
  · have z := ow j a ⟨e2, .inl ⟨ds, e1⟩⟩
    exact s.nu0 j ds a e1 z.1
  · have z := ow j a ⟨e2, .inr ⟨c, fs, e1⟩⟩
    exact s.oim j c fs a t e1 z.1
theorem set_here {α : Type} {x : α} : ∀ {l : List α} {i : Nat}, l[i]? = some x → l.set i x = l
  | [], i, h => by simp at h
  | a :: r, 0, h => by simp at h; subst h; rfl
  | a :: r, i + 1, h => by
    have h' : r[i]? = some x := by simpa using h
    rw [List.set_cons_succ, set_here h']
theorem Grp.done {i : Nat} {A l : Addr} {vs ws : List V} {a : List (List D)} {la : List D} (G : Grp g Mt U0 H0 U σ H b ε i A l vs ws a la) :
    Stt g Mt U0 H0 (fun x => (U x ∧ x ≠ l) ∧ x ≠ A) σ H b (ε.set i (.fz (.lst ((a ++ [la]).map D.lst)))) ∧ Ev U H (fun x => (U x ∧ x ≠ l) ∧ x ≠ A) H := by
  obtain ⟨s1, e1⟩ := lo_fz G.s G.ll
  obtain ⟨s2, e2⟩ := lo_fz s1 (G.lA.cut G.ne)
  have ev := e1.trans e2
  have dn : Den g (fun x => (U x ∧ x ≠ l) ∧ x ≠ A) H (.ref A) (.lst ((a ++ [la]).map D.lst)) := by
    refine .lst G.hA (fun q => q.2 rfl) ?_ ?_
    · rw [List.length_append, G.dA.length, List.length_map]
      exact G.zA
    · rw [List.map_append]
      exact (G.dA.ev ev).append (.cons (.lst G.hl (fun q => q.1.2 rfl) (by rw [G.dl.length]; exact G.zl) (G.dl.ev ev)) .nil)
  have z := s2.set i dn
  rw [set_here G.at_] at z
  exact ⟨z, ev⟩
end
section
variable {W L : Type} {g : Gw} {E : XK} {ε : Env} {tb : TS} {env : W → Env} {envL : L → Env}
end
end Gp
end
section
set_option Elab.async false
set_option linter.all false
set_option maxRecDepth 100000
set_option maxHeartbeats 4000000
namespace Gp
open PySem PySem.Spec PyProof.Rows L2 Gh
mutual
def noL : D → Bool
  | .lst _ => false
  | .tup ds => noLL ds
  | .obj _ fs => noLF fs
  | .err _ fs => noLF fs
  | .dic ps => noLP ps
  | .dit ps => noLQ ps
  | .dik ps => noLP ps
  | _ => true
def noLL : List D → Bool
  | [] => true
  | d :: ds => noL d && noLL ds
def noLF : List (Str × D) → Bool
  | [] => true
  | (_, d) :: ds => noL d && noLF ds
def noLP : List (Key × D) → Bool
  | [] => true
  | (_, d) :: ds => noL d && noLP ds
def noLQ : List (List Key × D) → Bool
  | [] => true
  | (_, d) :: ds => noL d && noLQ ds
end
theorem noLP_map : ∀ ps : List (Key × D), noLL (ps.map (·.2)) = noLP ps
  | [] => by simp only [List.map_nil, noLL, noLP]
  | (_, d) :: r => by simp only [List.map_cons, noLL, noLP, noLP_map r]
theorem noLQ_map : ∀ ps : List (List Key × D), noLL (ps.map (·.2)) = noLQ ps
  | [] => by simp only [List.map_nil, noLL, noLQ]
  | (_, d) :: r => by simp only [List.map_cons, noLL, noLQ, noLQ_map r]
def pkN : Tr D → Tr D
  | .ok d => if noL d = true then .ok d else .bad
  | .ex c fs => if noLF fs = true then .ex c fs else .bad
  | .bad => .bad
  | .draw m k => .draw m fun d => pkN (k d)
section
variable {g : Gw} {U U' : Addr → Prop} {H : Hp} {a : Addr} {vs : List V}
mutual
theorem den_backN (hu : ∀ x, U' x → U x ∨ ∃ vs, H x = some (.lst vs)) : ∀ {v : V} {d : D}, Den g U H v d → noL d = true → Den g U' H v d
  | _, _, .non, _ => .non
  | _, _, .bl b, _ => .bl b
  | _, _, .int i, _ => .int i
  | _, _, .str x h, _ => .str x h
  | _, _, .tup h n l k, z => .tup h (fun u => (hu _ u).elim n fun ⟨_, e⟩ => by rw [h] at e; cases e) l (denL_backN hu k (by simpa only [noL] using z))
  | _, _, .tupW h l k nk, z => .tupW h l (denL_backN hu k (by simpa only [noL] using z)) nk
  | _, _, .lst _ _ _ _, z => by simp only [noL] at z; cases z
  | _, _, .obj h n k, z => .obj h (fun u => (hu _ u).elim n fun ⟨_, e⟩ => by rw [h] at e; cases e) (denF_backN hu k (by simpa only [noL] using z))
  | _, _, .err h n h2 n2 k, z => .err h (fun u => (hu _ u).elim n fun ⟨_, e⟩ => by rw [h] at e; unfold exk at e; cases e) h2 (fun u => (hu _ u).elim n2 fun ⟨_, e⟩ => by rw [h2] at e; cases e) (denF_backN hu k (by simpa only [noL] using z))
  | _, _, .pen, _ => .pen
  | _, _, .cls c, _ => .cls c
  | _, _, .er0 h n, _ => .er0 h (fun u => (hu _ u).elim n fun ⟨_, e⟩ => by rw [h] at e; unfold exk0 at e; cases e)
  | _, _, .dct h n, _ => .dct h (fun u => (hu _ u).elim n fun ⟨_, e⟩ => by rw [h] at e; cases e)
  | _, _, .dic h n l k, z => .dic h (fun u => (hu _ u).elim n fun ⟨_, e⟩ => by rw [h] at e; cases e) l (denL_backN hu k (by simpa only [noL, noLP_map] using z))
  | _, _, .dit h n l k, z => .dit h (fun u => (hu _ u).elim n fun ⟨_, e⟩ => by rw [h] at e; cases e) l (denL_backN hu k (by simpa only [noL, noLQ_map] using z))
  | _, _, .dik h n l k, z => .dik h (fun u => (hu _ u).elim n fun ⟨_, e⟩ => by rw [h] at e; cases e) l (denL_backN hu k (by simpa only [noL, noLP_map] using z))
theorem denL_backN (hu : ∀ x, U' x → U x ∨ ∃ vs, H x = some (.lst vs)) : ∀ {ws : List V} {ds : List D}, DenL g U H ws ds → noLL ds = true → DenL g U' H ws ds
  | _, _, .nil, _ => .nil
  | _, _, .cons x r, z => by
    simp only [noLL, Bool.and_eq_true] at z
    exact .cons (den_backN hu x z.1) (denL_backN hu r z.2)
theorem denF_backN (hu : ∀ x, U' x → U x ∨ ∃ vs, H x = some (.lst vs)) : ∀ {ws : List (Str × V)} {ds : List (Str × D)}, DenF g U H ws ds → noLF ds = true → DenF g U' H ws ds
  | _, _, .nil, _ => .nil
  | _, _, .cons x r, z => by
    simp only [noLF, Bool.and_eq_true] at z
    exact .cons (den_backN hu x z.1) (denF_backN hu r z.2)
end
end
section
variable {g : Gw} {U U' : Addr → Prop} {H : Hp}
mutual
theorem Den.subT (e : ∀ a o, H a = some o → (∀ ps, o ≠ .tbl ps) → U' a → U a) : ∀ {v : V} {d : D}, Den g U H v d → Den g U' H v d
  | _, _, .non => .non
  | _, _, .bl b => .bl b
  | _, _, .int i => .int i
  | _, _, .str x h => .str x h
  | _, _, .tup h n l k => .tup h (fun z => n (e _ _ h (fun _ z => by cases z) z)) l (DenL.subT e k)
  | _, _, .tupW h l k nk => .tupW h l (DenL.subT e k) nk
  | _, _, .lst h n l k => .lst h (fun z => n (e _ _ h (fun _ z => by cases z) z)) l (DenL.subT e k)
  | _, _, .obj h n k => .obj h (fun z => n (e _ _ h (fun _ z => by cases z) z)) (DenF.subT e k)
  | _, _, .err h n h2 n2 k => .err h (fun z => n (e _ _ h (fun _ z => by unfold exk at z; cases z) z)) h2 (fun z => n2 (e _ _ h2 (fun _ z => by cases z) z)) (DenF.subT e k)
  | _, _, .pen => .pen
  | _, _, .cls c => .cls c
  | _, _, .er0 h n => .er0 h (fun z => n (e _ _ h (fun _ z => by unfold exk0 at z; cases z) z))
  | _, _, .dct h n => .dct h (fun z => n (e _ _ h (fun _ z => by cases z) z))
  | _, _, .dic h n l k => .dic h (fun z => n (e _ _ h (fun _ z => by cases z) z)) l (DenL.subT e k)
  | _, _, .dit h n l k => .dit h (fun z => n (e _ _ h (fun _ z => by cases z) z)) l (DenL.subT e k)
  | _, _, .dik h n l k => .dik h (fun z => n (e _ _ h (fun _ z => by cases z) z)) l (DenL.subT e k)
theorem DenL.subT (e : ∀ a o, H a = some o → (∀ ps, o ≠ .tbl ps) → U' a → U a) : ∀ {vs : List V} {ds : List D}, DenL g U H vs ds → DenL g U' H vs ds
  | _, _, .nil => .nil
  | _, _, .cons a r => .cons (Den.subT e a) (DenL.subT e r)
theorem DenF.subT (e : ∀ a o, H a = some o → (∀ ps, o ≠ .tbl ps) → U' a → U a) : ∀ {vs : List (Str × V)} {ds : List (Str × D)}, DenF g U H vs ds → DenF g U' H vs ds
  | _, _, .nil => .nil
  | _, _, .cons a r => .cons (Den.subT e a) (DenF.subT e r)
end
end
section
variable {g : Gw} {Mt U0 U U' : Addr → Prop} {H0 H H' H1 H2 : Hp} {b b1 : Nat} {σ : L2.St} {ε ε' : Env} {E : XK} {W L W' : Type}
variable {env : W → Env} {envL : L → Env} {env' : W' → Env} {u ta tb : TS} {te tc t1 t2 : TE} {me : Tr D}
def NF (H : Hp) (A : Addr) : Prop := ∀ o, H A = some o → ∃ ps, o = .tbl ps
theorem nf_of {K : Hp} {x : Addr} (f : Fr H K g.p) (w : Wd g K b) (e : K x = none) : NF H x := fun o q => by
  by_cases hp : x = g.p
  · subst hp
    obtain ⟨_, _, _, h, _⟩ := w.pen
    rw [h] at e
    cases e
  · by_cases ht : ∃ ps, o = .tbl ps
    · exact ht
    · rw [f x o q hp (fun ps z => ht ⟨ps, z⟩)] at e
      cases e
theorem NF.nu {A : Addr} (h : NF H A) (u : UOk g U H) : ¬ U A := fun z => by
  obtain ⟨o, e, n⟩ := u.al A z
  obtain ⟨ps, rfl⟩ := h o e
  exact n.tbl ps rfl
structure NN (g : Gw) (U : Addr → Prop) (H H1 : Hp) (A : Addr) (vs : List V) (dss : List (List D)) : Prop where
  dn : Den g U H1 (.ref A) (.lst (dss.map D.lst))
  nA : NF H A
  hA : H1 A = some (.lst vs)
  ls : ∀ (k : Nat) (v : V), vs[k]? = some v → ∃ l ws, v = .ref l ∧ NF H l ∧ H1 l = some (.lst ws) ∧ ws.length + 100 ≤ sizeLine ∧ l ≠ A
def okNN (g : Gw) (U : Addr → Prop) (H : Hp) (Q : VK) : List (List D) → Nat → Prop := fun dss b => ∀ A vs H1, NN g U H H1 A vs dss → Wd g H1 b → Fr H H1 g.p → Q (.ref A) H1
def SNN (g : Gw) (E : XK) (ε : Env) (t : TE) (m : Tr (List (List D))) : Prop := ∀ U σ H b Q, Rel g U H σ ε → Wd g H b → UOk g U H → Al (okNN g U H Q) (exP g U E H) m b → t σ H Q
theorem snn_two {m1 m2 : Tr (List D)} (h1 : SN g E ε t1 m1) (h2 : SN g E ε t2 m2) : SNN g E ε (tLst (tCons t1 (tCons t2 tNil))) (bd m1 fun a => bd m2 fun b => if a.length + 100 ≤ sizeLine ∧ b.length + 100 ≤ sizeLine then .ok [a, b] else .bad) := fun U σ H b Q R w u q =>
  h1 U σ H b _ R w u ((al_bd.mp q).mono (fun da b1 q1 A1 vs1 H1 n1 l1 d1 w1 f1 => by
    have sm1 := same_new (o := .lst vs1) n1
    have f2 : Fr H (upd H1 A1 (.lst vs1)) g.p := f1.trans (fr_same sm1)
    have w2 : Wd g (upd H1 A1 (.lst vs1)) b1 := w1.same sm1
    have u1 := u.fr f1 w1
    have u2 := u.fr f2 w2
    refine h2 U σ _ b1 _ (R.fr u f2) w2 u2 (((al_bd.mp q1).mono (fun db b2 q2 => ?_) (fun _ _ _ h => h.fr f2)))
    intro A2 vs2 H3 n2 l2 d2 w3 f3
    split at q2
    · rename_i hz
      have sm2 := same_new (o := .lst vs2) n2
      refine ⟨by show 2 ≤ sizeLine; decide, fun A nA => ?_⟩
      have sm3 := same_new (o := .lst [V.ref A1, V.ref A2]) nA
      have hA1 : H3 A1 = some (.lst vs1) := f3 _ _ upd_same (fun z => by
        subst z
        exact u1.new n1 u1.p) (fun _ z => by cases z)
      have f4 : Fr (upd H1 A1 (.lst vs1)) (upd (upd H3 A2 (.lst vs2)) A (.lst [V.ref A1, V.ref A2])) g.p := (f3.trans (fr_same sm2)).trans (fr_same sm3)
      have f5 : Fr H _ g.p := f2.trans f4
      have e1 : upd (upd H3 A2 (.lst vs2)) A (.lst [V.ref A1, V.ref A2]) A1 = some (.lst vs1) := sm3 _ _ (sm2 _ _ hA1)
      have e2 : upd (upd H3 A2 (.lst vs2)) A (.lst [V.ref A1, V.ref A2]) A2 = some (.lst vs2) := sm3 _ _ upd_same
      have nU1 : ¬ U A1 := u1.new n1
      have nU2 : ¬ U A2 := (u2.fr f3 w3).new n2
      have u4 := u2.fr ((f3.trans (fr_same sm2))) (w3.same sm2)
      have nU : ¬ U A := u4.new nA
      refine q2 A _ _ ⟨.lst upd_same nU (by show 2 ≤ sizeLine; decide) (.cons (.lst e1 nU1 l1 (d1.fr u1 ((fr_same sm1).trans f4))) (.cons (.lst e2 nU2 l2 (d2.ext (fun a o e n t => sm3 _ _ (sm2 _ _ e)))) .nil)), nf_of (f2.trans (f3.trans (fr_same sm2))) (w3.same sm2) nA, upd_same, fun k v hv => ?_⟩ (((w3.same sm2).same sm3)) f5
      match k, hv with
      | 0, hv =>
        cases hv
        exact ⟨A1, vs1, rfl, nf_of f1 w1 n1, e1, by rw [d1.length]; exact hz.1, fun z => by rw [← z, sm2 _ _ hA1] at nA; cases nA⟩
      | 1, hv =>
        cases hv
        exact ⟨A2, vs2, rfl, nf_of (f2.trans f3) w3 n2, e2, by rw [d2.length]; exact hz.2, fun z => by rw [← z, upd_same] at nA; cases nA⟩
      | k + 2, hv => cases hv
    · exact q2.elim) (fun _ _ _ h => h))
def Nw2 (A : Addr) (vs : List V) (x : Addr) : Prop := x = A ∨ ∃ k : Nat, vs[k]? = some (.ref x)
def SSL (g : Gw) (E : XK) (ε : Env) (i n c : Nat) (t : TS) (env : W → Env) (envL : L → Env) (m : Tr (Fl W L)) : Prop := ∀ Mt U0 H0 U D σ H b, Stt g Mt U0 H0 U σ H b ε → Lent g Mt U0 H0 U σ H ε i n c → Al (flP g Mt U0 H0 U H D env envL) (exS g Mt U0 H0 E) m b → t D σ H
theorem ssl_done {i n c : Nat} {m : Tr (Fl W L)} (h : SS g E ε u env envL m) : SSL g E ε i n c u env envL m := fun Mt U0 H0 U D σ H b s _ q => h Mt U0 H0 U D σ H b s q
theorem ssl_app {i n c : Nat} (k : Nat) {m : D → Tr (Fl W L)} (hk : k < n) (he : SE g E ε te me) (h : ∀ d, SSL g E ε i n c u env envL (m d)) :
    SSL g E ε i n (c + 1) (tSeq (tDrop (tBM g.K "list" rAppend (tOp (rIx g.K) (tVar i) (tC (.int (k : Int)))) (tCons te tNil))) u) env envL (bd me m) := fun Mt U0 H0 U D σ H b s l q => by
  obtain ⟨A, vs, e, lA, hA, hn, ls⟩ := l
  have hv : vs[k]? = some vs[k] := List.getElem?_eq_getElem (by rw [hn]; exact hk)
  obtain ⟨x, ws, e1, e2, e3, e4, e5⟩ := ls k _ hv
  have hat : L2.atI vs (k : Int) = some (.ref x) := by
    unfold L2.atI L2.ixN
    rw [if_pos (Int.natCast_nonneg k), if_pos (by rw [hn]; exact Int.ofNat_lt.mpr hk), Option.bind_some, Int.toNat_natCast, hv, e1]
  refine ⟨_, e, .inl ⟨A, vs, k, _, rfl, rfl, SqL.of hA, hat, ?_⟩⟩
  refine ⟨.inl ⟨rfl, _, SqL.of e4⟩, ?_⟩
  refine he U σ H b _ s.rel s.wd s.uok ((al_bd.mp q).mono (fun d b1 q1 v H1 dv w1 f1 => ?_) (fun _ _ _ h => exS.exP s h))
  have s1 := s.fr f1 w1
  have hx : H1 x = some (.lst ws) := f1 _ _ e4 e3.p (fun _ z => by cases z)
  have hA1 : H1 A = some (.lst vs) := f1 _ _ hA lA.p (fun _ z => by cases z)
  obtain ⟨s2, ev⟩ := lo_mut s1 e3 hx (ws ++ [v])
  refine ⟨x, ws, v, rfl, rfl, hx, by omega, h d Mt U0 H0 U D σ _ b1 s2 ⟨A, vs, e, lA, by rw [upd_ne e2.symm]; exact hA1, hn, fun k' v' hv' => ?_⟩ (q1.mono (fun _ _ z => z.ev ((s.uok.ev f1).trans ev)) (fun _ _ _ z => z))⟩
  obtain ⟨x', ws', a1, a2, a3, a4, a5⟩ := ls k' v' hv'
  by_cases qx : x' = x
  · subst qx
    refine ⟨x', ws ++ [v], a1, a2, a3, upd_same, ?_⟩
    rw [List.length_append]
    show ws.length + 1 + c ≤ sizeLine
    omega
  · exact ⟨x', ws', a1, a2, a3, by rw [upd_ne qx]; exact f1 _ _ a4 a3.p (fun _ z => by cases z), by omega⟩
theorem ss_lent {i j n : Nat} {mm : Tr (List (List D))} {mc : List (List D) → Tr D} {m : List (List D) → D → Tr (Fl W L)} (ε1 : Env) (h1 : ε1 = ε.set i .no) (hij : i ≠ j) (hli : i < ε.length) (hs : SNN g E ε te mm)
    (hc : ∀ dss : List (List D), SE g E (ε.set i (.fz (.lst (dss.map D.lst)))) tc (mc dss)) (hk : ∀ dss d, SSL g E (ε1.set j (.fz d)) i n 100 u env envL (m dss d)) :
    SS g E ε (tSeq (tAsg te (gName i)) (tSeq (tAsg tc (gName j)) u)) env envL (bd mm fun dss => if dss.length = n then bd (pkN (mc dss)) fun d => m dss d else .bad) := fun Mt U0 H0 U D σ H b s q =>
  hs U σ H b _ s.rel s.wd s.uok ((al_bd.mp q).mono (fun dss b1 q1 A vs H1 N w1 f1 => by
    split at q1
    · rename_i hn
      have s1 := (s.fr f1 w1).set i N.dn
      have nu := N.nA.nu s.uok
      have ev1 := s.uok.ev f1
      show tc _ _ _
      have q3 := al_bd.mp q1
      refine hc dss U _ H1 b1 _ s1.rel s1.wd s1.uok ?_
      have key : ∀ {mx : Tr Gp.D} {bx : Nat}, Al (fun d b => Al (flP g Mt U0 H0 U H D env envL) (exS g Mt U0 H0 E) (m dss d) b) (exS g Mt U0 H0 E) (pkN mx) bx → Al (fun d b => noL d = true ∧ Al (flP g Mt U0 H0 U H D env envL) (exS g Mt U0 H0 E) (m dss d) b) (exS g Mt U0 H0 E) mx bx := by
        intro mx
        induction mx with
        | ok d =>
          intro bx h
          change Al _ _ (if noL d = true then Tr.ok d else .bad) bx at h
          split at h
          · exact ⟨by assumption, h⟩
          · exact h.elim
        | ex c fs =>
          intro bx h
          change Al _ _ (if noLF fs = true then Tr.ex c fs else .bad) bx at h
          split at h
          · exact h
          · exact h.elim
        | bad => exact fun h => h
        | draw k f ih =>
          intro bx h
          obtain ⟨b', e, x1, x2, x3⟩ := h
          exact ⟨b', e, x1, x2, fun d d0 d1 => ih d (x3 d d0 d1)⟩
      refine Al.mono (fun d b2 hd => ?_) (fun _ _ _ h => exS.exP s1 h) (key q3)
      intro v H2 dv w2 f2
      obtain ⟨nd, q4⟩ := hd
      have f12 := f1.trans f2
      -- the new ones at H2
      have hA2 : H2 A = some (.lst vs) := f2 _ _ N.hA (fun z => nu (z ▸ s.uok.p)) (fun _ z => by cases z)
      have ls2 : ∀ (k : Nat) (v : V), vs[k]? = some v → ∃ l ws, v = .ref l ∧ NF H l ∧ H2 l = some (.lst ws) ∧ ws.length + 100 ≤ sizeLine ∧ l ≠ A := fun k v hv => by
        obtain ⟨l, ws, a1, a2, a3, a4⟩ := N.ls k v hv
        exact ⟨l, ws, a1, a2, f2 _ _ a3 (fun z => (a2.nu s.uok) (z ▸ s.uok.p)) (fun _ z => by cases z), a4⟩
      have nf : ∀ x, Nw2 A vs x → NF H x := fun x hx => by
        rcases hx with rfl | ⟨k, hk⟩
        · exact N.nA
        · obtain ⟨l, ws, a1, a2, _⟩ := ls2 k _ hk
          cases a1
          exact a2
      have lt : ∀ x, Nw2 A vs x → ∃ ws, H2 x = some (.lst ws) := fun x hx => by
        rcases hx with rfl | ⟨k, hk⟩
        · exact ⟨_, hA2⟩
        · obtain ⟨l, ws, a1, a2, a3, _⟩ := ls2 k _ hk
          cases a1
          exact ⟨_, a3⟩
      have sb : ∀ a o, H a = some o → (∀ ps, o ≠ .tbl ps) → (U a ∨ Nw2 A vs a) → U a := fun a o e t z => z.elim id fun y => by
        obtain ⟨ps, rfl⟩ := nf a y o e
        exact absurd rfl (t ps)
      -- all slots, with the new ones apart
      have r0 : Rel g (fun x => U x ∨ Nw2 A vs x) H σ ε := ⟨s.rel.len, fun k z e => by
        obtain ⟨o, e3, e2⟩ := s.rel.at_ k z e
        refine ⟨o, e3, ?_⟩
        cases z with
        | no => trivial
        | fz d =>
          obtain ⟨v, e4, e5⟩ := e2
          exact ⟨v, e4, e5.subT sb⟩
        | ow ds2 =>
          obtain ⟨a2, v2, rfl, h2, d2, u2, m1, m2⟩ := e2
          exact ⟨a2, v2, rfl, h2, d2.map (fun q => q.subT sb), .inl u2, m1, m2⟩
        | oi c fs =>
          obtain ⟨a2, dx, v2, rfl, h2, d2, u2, m1, m2⟩ := e2
          exact ⟨a2, dx, v2, rfl, h2, d2.subT sb, .inl u2, m1, m2⟩, s.rel.apart⟩
      have s2 : Stt g Mt U0 H0 (fun x => U x ∨ Nw2 A vs x) σ H2 b2 ε := ⟨r0.frp (.inl s.uok.p) f12, w2, ⟨.inl s.uok.p, .inl s.uok.c, fun a ha => by
        rcases ha with ha | ha
        · exact (s.uok.fr f12 w2).al a ha
        · obtain ⟨ws, e⟩ := lt a ha
          exact ⟨_, e, (fun _ z => by cases z), (fun _ z => by cases z)⟩⟩, fun a z => .inl (s.sub a z), s.own, s.ext.trans f12, s.nu0, s.oim⟩
      have leS : ∀ (ε : Env) (i : Nat), Le (ε.set i .no) ε := by
        intro ε
        induction ε with
        | nil => exact fun i => .nil
        | cons x r ih =>
          intro i
          cases i with
          | zero => exact .n (Le.refl r)
          | succ i => exact .s (ih i)
      have le1 : Le ε1 ε := by rw [h1]; exact leS ε i
      have s3 := s2.le le1
      have e1i : ε1[i]? = some .no := by rw [h1]; exact List.getElem?_set_self hli
      obtain ⟨s4, ow4⟩ := stt_noV (v := some (.ref A)) s3 e1i
      have dv2 : Den g (fun x => U x ∨ Nw2 A vs x) H2 v d := den_backN (fun x z => z.imp id fun y => lt x y) dv nd
      have s5 := s4.set j dv2
      have lo : ∀ x, Nw2 A vs x → Lo g Mt U0 H0 (fun x => U x ∨ Nw2 A vs x) ((σ.set i (some (.ref A))).set j (some v)) (ε1.set j (.fz d)) x := fun x hx => by
        have nx := nf x hx
        refine ⟨.inr hx, fun z => (nx.nu s.uok) (z ▸ s.uok.p), fun z => (nx.nu s.uok) (z ▸ s.uok.c), fun k z => ?_, ?_, fun z => (nx.nu s.uok) (s.sub _ z)⟩
        · have z2 := ownAt_le le1 (ow4 k x (ownAt_set z).2)
          obtain ⟨z3, z4⟩ := z2
          rcases z4 with ⟨ds, z4⟩ | ⟨c, fs, z4⟩
          · obtain ⟨o, e, a', u0, e2, hh, k2, _⟩ := s.rel.at_ k _ z4
            rw [z3] at e
            cases e
            cases e2
            obtain ⟨ps, rfl⟩ := nx _ hh
            exact k2.tbl ps rfl
          · obtain ⟨o, e, a', dx, fvs, e2, hh, _⟩ := s.rel.at_ k _ z4
            rw [z3] at e
            cases e
            cases e2
            obtain ⟨ps, z5⟩ := nx _ hh
            cases z5
        · by_cases mm : Mt x
          · exact .inl mm
          · refine .inr fun o qo => ?_
            by_cases t : ∃ ps, o = .tbl ps
            · exact t
            · exact nx o (s.ext x o qo (fun z => (nx.nu s.uok) (z ▸ s.uok.p)) mm (fun ps z => t ⟨ps, z⟩))
      have hvs : vs.length = n := by
        obtain ⟨a', vs', ea, ha', _, _, k'⟩ := den_lst N.dn
        cases ea
        rw [N.hA] at ha'
        cases ha'
        rw [k'.length, List.length_map]
        exact hn
      have ev2 : Ev U H (fun x => U x ∨ Nw2 A vs x) H2 := ⟨fun a o e n t => f12 a o e (fun z => n (z ▸ s.uok.p)) t, fun a o e n t z => z.elim n fun y => by
        obtain ⟨ps, rfl⟩ := nf a y o e
        exact t ps rfl⟩
      refine hk dss d Mt U0 H0 _ D _ H2 b2 s5 ⟨A, vs, ?_, lo A (.inl rfl), hA2, hvs, fun k v' hv' => ?_⟩ (q4.mono (fun _ _ z => z.ev ev2) (fun _ _ _ z => z))
      · rw [List.getElem?_set_ne (Ne.symm hij)]
        exact List.getElem?_set_self (by rw [s.rel.len]; exact hli)
      · obtain ⟨l, ws, a1, a2, a3, a4, a5⟩ := ls2 k v' hv'
        subst a1
        exact ⟨l, ws, rfl, a5, lo l (.inr ⟨k, hv'⟩), a3, a4⟩
    · exact q1.elim) (fun _ _ _ h => exS.exP s h))
end
end Gp
end
section
set_option Elab.async false
set_option linter.all false
set_option maxRecDepth 100000
set_option maxHeartbeats 0
namespace Lw
open PySem PySem.Spec PyProof.Rows L2 Gh Gp
theorem ob_eq (s : PySem.W.SharedT) : ob s = hk.obs s.abs := Gp.obsL_eq (HandSHeadRun.getT_eq s)
structure Tx (K : PySem.W.Frag) (mg : Str → Option Value) : Prop where
  f_ValueError : mg "ValueError" = none
  f_abs : mg "abs" = none
  f_all : mg "all" = none
  f_bool : mg "bool" = none
  f_int : mg "int" = none
  f_isinstance : mg "isinstance" = none
  f_len : mg "len" = none
  f_list : mg "list" = none
  f_range : mg "range" = none
  f_repr : mg "repr" = none
  f_set : mg "set" = none
  f_sorted : mg "sorted" = none
  f_str : mg "str" = none
  f_super : mg "super" = none
  f_tuple : mg "tuple" = none
  f_zip : mg "zip" = none
  g__law_pen : mg "_law_pen" = some (.ref (gd "_law_pen" K))
  k__law_pen : PySem.W.keepIn K (.ref (gd "_law_pen" K)) = true
  g__law_draw : mg "_law_draw" = some (.ref (gd "_law_draw" K))
  k__law_draw : PySem.W.keepIn K (.ref (gd "_law_draw" K)) = true
  g_is_integer : mg "is_integer" = some (.ref (gd "is_integer" K))
  k_is_integer : PySem.W.keepIn K (.ref (gd "is_integer" K)) = true
  g_is_within : mg "is_within" = some (.ref (gd "is_within" K))
  k_is_within : PySem.W.keepIn K (.ref (gd "is_within" K)) = true
  g_are_told : mg "are_told" = some (.ref (gd "are_told" K))
  k_are_told : PySem.W.keepIn K (.ref (gd "are_told" K)) = true
  g_ascending : mg "ascending" = some (.ref (gd "ascending" K))
  k_ascending : PySem.W.keepIn K (.ref (gd "ascending" K)) = true
  g__law_pick : mg "_law_pick" = some (.ref (gd "_law_pick" K))
  k__law_pick : PySem.W.keepIn K (.ref (gd "_law_pick" K)) = true
  g__law_places : mg "_law_places" = some (.ref (gd "_law_places" K))
  k__law_places : PySem.W.keepIn K (.ref (gd "_law_places" K)) = true
  g__law_part : mg "_law_part" = some (.ref (gd "_law_part" K))
  k__law_part : PySem.W.keepIn K (.ref (gd "_law_part" K)) = true
  g__law_heard : mg "_law_heard" = some (.ref (gd "_law_heard" K))
  k__law_heard : PySem.W.keepIn K (.ref (gd "_law_heard" K)) = true
  g__law_odd_places : mg "_law_odd_places" = some (.ref (gd "_law_odd_places" K))
  k__law_odd_places : PySem.W.keepIn K (.ref (gd "_law_odd_places" K)) = true
  g__law_refused_right : mg "_law_refused_right" = some (.ref (gd "_law_refused_right" K))
  k__law_refused_right : PySem.W.keepIn K (.ref (gd "_law_refused_right" K)) = true
  g__law_told_right : mg "_law_told_right" = some (.ref (gd "_law_told_right" K))
  k__law_told_right : PySem.W.keepIn K (.ref (gd "_law_told_right" K)) = true
  g__law_equal_right : mg "_law_equal_right" = some (.ref (gd "_law_equal_right" K))
  k__law_equal_right : PySem.W.keepIn K (.ref (gd "_law_equal_right" K)) = true
  g_BadChange : mg "BadChange" = some (.ref (gd "BadChange" K))
  k_BadChange : PySem.W.keepIn K (.ref (gd "BadChange" K)) = true
  g_Sided : mg "Sided" = some (.ref (gd "Sided" K))
  k_Sided : PySem.W.keepIn K (.ref (gd "Sided" K)) = true
  g_Change : mg "Change" = some (.ref (gd "Change" K))
  k_Change : PySem.W.keepIn K (.ref (gd "Change" K)) = true
  g_HuntError : mg "HuntError" = some (.ref (gd "HuntError" K))
  k_HuntError : PySem.W.keepIn K (.ref (gd "HuntError" K)) = true
  m_FARTHEST : ∃ t, mg "FARTHEST" = some (.int 15 t)
  m_MOST_TOLD : ∃ t, mg "MOST_TOLD" = some (.int 8 t)
  n_BadChange_part : NoAttr K (gd "BadChange" K) "part"
  er_BadChange : ErrT K (gd "BadChange" K)
  ox_BadChange : OexC K (gd "BadChange" K)
  in_BadChange : IniT K (gd "BadChange" K) (md "BadChange" "__init__" K)
  xh_BadChange : PySem.W.exmOne K (.ref (gd "BadChange" K)) (.ref (gd "HuntError" K)) = some true
  cl_Sided : Cls K (gd "Sided" K)
  ty_Sided : InsT K (gd "Sided" K)
  cl_Change : Cls K (gd "Change" K)
  ty_Change : InsT K (gd "Change" K)
  n_Change_side : NoAttr K (gd "Change" K) "side"
  n_Change_front : NoAttr K (gd "Change" K) "front"
  n_Change_back : NoAttr K (gd "Change" K) "back"
  mk_Change : Mk K (gd "Change" K) (md "Change" "__init__" K)
  mt_Change___eq__ : Meth K (gd "Change" K) "__eq__" (md "Change" "__eq__" K)
  ow_Change : OwnT K (gd "Change" K)
  mt_Change___str__ : Meth K (gd "Change" K) "__str__" (md "Change" "__str__" K)
  sysm : Gp.sysB K = true
  dt_Change___init___0 : ∀ H' : L2.Hp, L2.SqT K H' (He.dflAt ("Change", some "__init__") 0 K) []
  dt_Change___init___1 : ∀ H' : L2.Hp, L2.SqT K H' (He.dflAt ("Change", some "__init__") 1 K) []
  g_SIDES : mg "SIDES" = some (.ref (gd "SIDES" K))
  tu_SIDES : ∀ H : Hp, SqT K H (gd "SIDES" K) [.str "front", .str "back"]
  cv_Change_FARTHEST : CvT K (gd "Change" K) "FARTHEST" (.int 15)
  cv_Change_MOST : CvT K (gd "Change" K) "MOST" (.int 8)
  stat : PySem.W.nsIn K cStatics "thirdparty.any" = some none
  cd_Change : (PySem.W.clsIn K (gd "Change" K)).isSome = true
  sc_Change_Change : SupC K (gd "Change" K) (gd "Change" K) "__init__" (md "Sided" "__init__" K)
  ki_BadChange_BadChange : PySem.W.kitOne K (.ref (gd "BadChange" K)) (.ref (gd "BadChange" K)) = some true
  ki_BadChange_ValueError : PySem.W.kitOne K (.ref (gd "BadChange" K)) (.type "ValueError") = some true
  nf_Change : NfT K (gd "Change" K)
  ne_Change : NeT K (gd "Change" K)
  nf_Change_Change : PySem.W.notFirst K (gd "Change" K) (.ref (gd "Change" K)) = true
theorem tx_of {K : PySem.W.Frag} {h : Heap} {mg : Str → Option Value} (X : K.In h) (G : h.Ns mainGlobals mg) (c : Says exs fns K) : Tx K mg :=
  ⟨(He.free_ok X G (c.fact 0 rfl)), (He.free_ok X G (c.fact 1 rfl)), (He.free_ok X G (c.fact 2 rfl)), (He.free_ok X G (c.fact 3 rfl)), (He.free_ok X G (c.fact 4 rfl)), (He.free_ok X G (c.fact 5 rfl)), (He.free_ok X G (c.fact 6 rfl)), (He.free_ok X G (c.fact 7 rfl)), (He.free_ok X G (c.fact 8 rfl)), (He.free_ok X G (c.fact 9 rfl)), (He.free_ok X G (c.fact 10 rfl)), (He.free_ok X G (c.fact 11 rfl)), (He.free_ok X G (c.fact 12 rfl)), (He.free_ok X G (c.fact 13 rfl)), (He.free_ok X G (c.fact 14 rfl)), (He.free_ok X G (c.fact 15 rfl)), (He.glo_ok X G (c.fact 16 rfl)), ((c.fact 17 rfl)), (He.glo_ok X G (c.fact 18 rfl)), ((c.fact 19 rfl)), (He.glo_ok X G (c.fact 20 rfl)), ((c.fact 21 rfl)), (He.glo_ok X G (c.fact 22 rfl)), ((c.fact 23 rfl)), (He.glo_ok X G (c.fact 24 rfl)), ((c.fact 25 rfl)), (He.glo_ok X G (c.fact 26 rfl)), ((c.fact 27 rfl)), (He.glo_ok X G (c.fact 28 rfl)), ((c.fact 29 rfl)), (He.glo_ok X G (c.fact 30 rfl)), ((c.fact 31 rfl)), (He.glo_ok X G (c.fact 32 rfl)), ((c.fact 33 rfl)), (He.glo_ok X G (c.fact 34 rfl)), ((c.fact 35 rfl)), (He.glo_ok X G (c.fact 36 rfl)), ((c.fact 37 rfl)), (He.glo_ok X G (c.fact 38 rfl)), ((c.fact 39 rfl)), (He.glo_ok X G (c.fact 40 rfl)), ((c.fact 41 rfl)), (He.glo_ok X G (c.fact 42 rfl)), ((c.fact 43 rfl)), (He.glo_ok X G (c.fact 44 rfl)), ((c.fact 45 rfl)), (He.glo_ok X G (c.fact 46 rfl)), ((c.fact 47 rfl)), (He.glo_ok X G (c.fact 48 rfl)), ((c.fact 49 rfl)), (He.glo_ok X G (c.fact 50 rfl)), ((c.fact 51 rfl)), (He.int_ok X G (c.fact 52 rfl)), (He.int_ok X G (c.fact 53 rfl)), (He.eqO_ok (c.fact 54 rfl)), (errB_ok (c.fact 55 rfl)), (oexB_ok (c.fact 56 rfl)), (iniB_ok (c.fact 57 rfl)), (of_decide_eq_true (c.fact 58 rfl)), (He.cls_ok (c.fact 59 rfl)), (insB_ok (c.fact 60 rfl)), (He.cls_ok (c.fact 61 rfl)), (insB_ok (c.fact 62 rfl)), (He.eqO_ok (c.fact 63 rfl)), (He.eqO_ok (c.fact 64 rfl)), (He.eqO_ok (c.fact 65 rfl)), (He.mkr_ok (c.fact 66 rfl)), (He.meth_ok (c.fact 67 rfl)), (ownB_ok (c.fact 68 rfl)), (He.meth_ok (c.fact 69 rfl)), ((c.fact 70 rfl)), (Gp.dtB_ok (c.fact 71 rfl)), (Gp.dtB_ok (c.fact 72 rfl)), (He.glo_ok X G (c.fact 73 rfl)), (fun H => He.tupB_ok (c.fact 74 rfl) H), (cvB_ok (c.fact 75 rfl)), (cvB_ok (c.fact 76 rfl)), (He.eqO_ok (c.fact 77 rfl)), ((c.fact 78 rfl)), (supCB_ok (c.fact 79 rfl)), (of_decide_eq_true (c.fact 80 rfl)), (of_decide_eq_true (c.fact 81 rfl)), (nfB_ok (c.fact 82 rfl)), (neB_ok (c.fact 83 rfl)), ((c.fact 84 rfl))⟩
section
variable {K : PySem.W.Frag} {mg : Str → Option Value} {Tb : List (Addr × Str)} {p c : Addr}
theorem xt_part (T : Tx K mg) : ∀ c ∈ (["BadChange"] : List Str), ErrT K (gd c K) ∧ PySem.W.findIn K (.ref (gd c K)) "part" = some none := by
  intro c h
  simp only [List.mem_cons, List.mem_nil_iff, or_false] at h
  rcases h with rfl
  · exact ⟨T.er_BadChange, T.n_BadChange_part⟩
def isi_int : D → Option Bool := isF (fun n => kitB n "int") [("Change", false)] []
theorem isT_int (T : Tx K mg) : IsT ⟨K, Tb, p, c⟩ (.type "int") isi_int := isT_of (fun n k h => kit_ty h) (fun c k h => (look_cons h).elim (fun e => by obtain ⟨rfl, rfl⟩ := e; exact ⟨T.cl_Change, T.ty_Change, T.ty_Change.out _ (by decide)⟩) (fun h => nomatch h)) (fun c k h => nomatch h)
def isi_bool : D → Option Bool := isF (fun n => kitB n "bool") [("Change", false)] []
theorem isT_bool (T : Tx K mg) : IsT ⟨K, Tb, p, c⟩ (.type "bool") isi_bool := isT_of (fun n k h => kit_ty h) (fun c k h => (look_cons h).elim (fun e => by obtain ⟨rfl, rfl⟩ := e; exact ⟨T.cl_Change, T.ty_Change, T.ty_Change.out _ (by decide)⟩) (fun h => nomatch h)) (fun c k h => nomatch h)
def isi_list_tuple : D → Option Bool := isF (fun n => (kitB n "list").bind fun a => (kitB n "tuple").map fun b => a || b) [("Change", false)] []
theorem isT_list_tuple (T : Tx K mg) : IsA ⟨K, Tb, p, c⟩ [.type "list", .type "tuple"] isi_list_tuple := isA_of (fun n k h => kitAny2 h) (fun c k h => (look_cons h).elim (fun e => by obtain ⟨rfl, rfl⟩ := e; exact ⟨T.cl_Change, T.ty_Change, kitAny_cons (T.ty_Change.out _ (by decide)) (fun _ => kitAny_cons (T.ty_Change.out _ (by decide)) (fun _ => rfl) (fun z => by cases z)) (fun z => by cases z)⟩) (fun h => nomatch h))
def isi_str : D → Option Bool := isF (fun n => kitB n "str") [("Change", false)] []
theorem isT_str (T : Tx K mg) : IsT ⟨K, Tb, p, c⟩ (.type "str") isi_str := isT_of (fun n k h => kit_ty h) (fun c k h => (look_cons h).elim (fun e => by obtain ⟨rfl, rfl⟩ := e; exact ⟨T.cl_Change, T.ty_Change, T.ty_Change.out _ (by decide)⟩) (fun h => nomatch h)) (fun c k h => nomatch h)
def isi_Change : D → Option Bool := isF (fun n => if n ∈ (["NoneType", "bool", "int", "str", "list", "tuple", "dict"] : List String) then some false else none) [("Change", true)] []
theorem isT_Change (T : Tx K mg) : IsT ⟨K, Tb, p, c⟩ (.ref (gd "Change" K)) isi_Change := isT_of (fun n k h => by
  split at h
  · rename_i z
    cases h
    exact T.ty_Change.no n z
  · cases h) (fun c k h => (look_cons h).elim (fun e => by obtain ⟨rfl, rfl⟩ := e; exact ⟨T.cl_Change, T.ty_Change, T.ty_Change.yes⟩) (fun h => nomatch h)) (fun c k h => nomatch h)
def isi_BadChange : D → Option Bool := isF (fun _ => none) [] [("BadChange", true)]
theorem isT_BadChange (T : Tx K mg) : IsT ⟨K, Tb, p, c⟩ (.ref (gd "BadChange" K)) isi_BadChange := isT_of (fun n k h => nomatch h) (fun c k h => nomatch h) (fun c k h => (look_cons h).elim (fun e => by obtain ⟨rfl, rfl⟩ := e; exact ⟨T.er_BadChange, T.ki_BadChange_BadChange⟩) (fun h => nomatch h))
def isi_ValueError : D → Option Bool := isF (fun _ => none) [] [("BadChange", true)]
theorem isT_ValueError (T : Tx K mg) : IsT ⟨K, Tb, p, c⟩ (.type "ValueError") isi_ValueError := isT_of (fun n k h => nomatch h) (fun c k h => nomatch h) (fun c k h => (look_cons h).elim (fun e => by obtain ⟨rfl, rfl⟩ := e; exact ⟨T.er_BadChange, T.ki_BadChange_ValueError⟩) (fun h => nomatch h))
def isi_list : D → Option Bool := isF (fun n => kitB n "list") [("Change", false)] []
theorem isT_list (T : Tx K mg) : IsT ⟨K, Tb, p, c⟩ (.type "list") isi_list := isT_of (fun n k h => kit_ty h) (fun c k h => (look_cons h).elim (fun e => by obtain ⟨rfl, rfl⟩ := e; exact ⟨T.cl_Change, T.ty_Change, T.ty_Change.out _ (by decide)⟩) (fun h => nomatch h)) (fun c k h => nomatch h)
def eqr_Change : D → Bool := eqF0 ["Change"]
theorem eqR_Change (T : Tx K mg) : EqR ⟨K, Tb, p, c⟩ "Change" eqr_Change := eqR_of (fun n hn => T.nf_Change.ok n hn) (fun c h => by
  simp only [List.mem_cons, List.mem_nil_iff, or_false] at h
  rcases h with rfl
  · exact ⟨T.cl_Change, T.ty_Change, T.nf_Change_Change⟩)
end
end Lw
end
section
set_option Elab.async false
set_option linter.all false
set_option maxRecDepth 100000
set_option maxHeartbeats 4000000
set_option pp.maxSteps 600
namespace Lw
open PySem PySem.Spec PyProof.Rows L2 Gh
local macro_rules | `(tactic| nofun) => `(tactic| (first | assumption | exact Ne.symm (by assumption) | (apply nw_pen'; (· assumption); (· assumption); (· ac_rfl)) | (apply Ne.symm; apply nw_pen'; (· assumption); (· assumption); (· ac_rfl)) | (apply nw_cell'; (· assumption); (· assumption); (· ac_rfl)) | (apply Ne.symm; apply nw_cell'; (· assumption); (· assumption); (· ac_rfl)) | (apply none_pen'; (· assumption); (· assumption); (· ac_rfl)) | (apply Ne.symm; apply none_pen'; (· assumption); (· assumption); (· ac_rfl)) | (apply none_cell'; (· assumption); (· assumption); (· ac_rfl)) | (apply Ne.symm; apply none_cell'; (· assumption); (· assumption); (· ac_rfl)) | (apply tup_pen'; (· assumption); (· assumption); (· ac_rfl)) | (apply Ne.symm; apply tup_pen'; (· assumption); (· assumption); (· ac_rfl)) | (apply tup_cell'; (· assumption); (· assumption); (· ac_rfl)) | (apply Ne.symm; apply tup_cell'; (· assumption); (· assumption); (· ac_rfl)) | (apply ins_pen'; (· assumption); (· assumption); (· ac_rfl)) | (apply Ne.symm; apply ins_pen'; (· assumption); (· assumption); (· ac_rfl)) | (apply ins_cell'; (· assumption); (· assumption); (· ac_rfl)) | (apply Ne.symm; apply ins_cell'; (· assumption); (· assumption); (· ac_rfl)) | (apply ins_lst; (· assumption); (· infer_instance)) | (apply Ne.symm; apply ins_lst; (· assumption); (· infer_instance)) | (apply ins_tup; (· assumption); (· infer_instance)) | (apply Ne.symm; apply ins_tup; (· assumption); (· infer_instance)) | (apply tup_lst; (· assumption); (· infer_instance)) | (apply Ne.symm; apply tup_lst; (· assumption); (· infer_instance)) | (apply nw_ne; (· assumption); (· infer_instance)) | (apply Ne.symm; apply nw_ne; (· assumption); (· infer_instance)) | (apply none_ne; (· assumption); (· infer_instance)) | (apply Ne.symm; apply none_ne; (· assumption); (· infer_instance))))
local macro_rules | `(tactic| ac_rfl) => `(tactic| ((repeat (first | assumption | (apply Pen.nw; (focus assumption)) | (apply Pen.same; (focus assumption)) | (apply Pen.mu; (focus assumption); (focus nofun); (focus nofun)) | (apply Pen.keep; (focus assumption); (focus nofun); (focus nofun)))); done))
local macro_rules | `(tactic| infer_instance) => `(tactic| ((repeat (first | assumption | (apply Nw.at_; assumption) | (apply Mu.at_; assumption) | (apply Nw.up; (focus assumption)) | (apply same_up; (focus assumption)) | (apply Mu.up; (focus assumption); (focus nofun)) | (apply keep_up; (focus assumption); (focus nofun)) | (apply keep2_up; (focus assumption); (focus nofun); (focus nofun)))); done))
local macro_rules | `(tactic| symm_saturate) => `(tactic| (repeat (first | with_reducible refine st_seq ?_ | with_reducible refine st_asg ?_ | with_reducible refine st_name ?_ | with_reducible refine st_ret ?_ | with_reducible refine st_drop ?_ | with_reducible refine st_ifS ?_ | with_reducible refine st_nx ?_ | with_reducible refine st_brk ?_ | with_reducible refine st_cnt ?_ | with_reducible refine st_c ?_ | with_reducible refine st_op ?_ | with_reducible refine st_un ?_ | with_reducible refine st_rI0 ?_ | with_reducible refine st_cons ?_ | with_reducible refine st_nil ?_ | with_reducible refine st_cl ?_ | with_reducible refine st_cb ?_ | with_reducible refine st_mt ?_ | with_reducible refine st_pr ?_ | with_reducible refine st_test ?_ | with_reducible refine st_ebl ?_ | with_reducible refine st_eint ?_ | with_reducible refine st_par ?_ | with_reducible refine st_par2 ?_ | with_reducible refine st_and ?_ | with_reducible refine st_or ?_ | with_reducible refine st_not ?_ | with_reducible refine st_andV ?_ | with_reducible refine st_orV ?_ | with_reducible refine st_notV ?_ | with_reducible refine st_ifE ?_ | with_reducible refine st_chain ?_ | with_reducible refine st_lst ?_ | with_reducible refine st_tup ?_ | with_reducible refine st_retN ?_ | with_reducible refine st_rU ?_ | with_reducible refine st_rAdd ?_ | with_reducible refine st_rSub ?_ | with_reducible refine st_isN ?_ | with_reducible refine st_notN ?_ | with_reducible refine st_sF ?_ | with_reducible refine st_int ?_ | with_reducible refine st_intB ?_ | with_reducible refine st_abs ?_ | with_reducible refine st_sl ?_ | with_reducible refine st_part ?_ | with_reducible refine st_nopart ?_ | with_reducible refine st_bm ?_ | with_reducible refine st_bm0 ?_ | with_reducible refine st_tyS ?_ | with_reducible refine st_gsub ?_ | with_reducible refine st_gcons ?_ | with_reducible refine st_gnil ?_ | with_reducible refine st_chain3 ?_ | with_reducible refine st_gsl ?_ | with_reducible refine st_clK ?_ | with_reducible refine st_mtK ?_ | with_reducible refine st_lcR1 ?_ | with_reducible refine st_lcR2 ?_ | with_reducible refine st_lcL ?_ | with_reducible refine st_lcT ?_ | with_reducible refine st_yes ?_ | with_reducible refine st_forR1 ?_ | with_reducible refine st_forR2 ?_ | with_reducible refine st_forL ?_ | with_reducible refine st_forT ?_ | with_reducible refine st_forE ?_ | with_reducible refine st_list ?_ | with_reducible refine st_itup ?_ | with_reducible refine st_tB ?_ | ((with_reducible apply st_var); exact rfl) | ((with_reducible apply st_aug); exact rfl) | ((with_reducible apply st_eq); exact rfl) | ((with_reducible apply st_ne); exact rfl) | ((with_reducible apply st_spK); (focus exact rfl); (focus exact rfl)) | ((with_reducible apply st_rI); (first | decide | (refine Or.inl ⟨?_, ?_⟩ <;> omega) | (refine Or.inr ⟨?_, ?_⟩ <;> omega) | (show (0 : Int) < _; omega) | exact ⟨by omega, log_of (by omega) (by omega)⟩ | exact ⟨by decide, by decide, by decide⟩)) | ((with_reducible apply st_powK); (focus exact ⟨by decide, by decide, by decide⟩); (focus decide)) | ((with_reducible apply st_eR1); (focus omega); (focus omega)) | ((with_reducible apply st_eR2); (focus omega)) | ((with_reducible apply st_if1); (first | with_reducible rfl | assumption | exact rfl | decide | (simp only [decide_eq_true_eq, decide_eq_false_iff_not, Bool.not_eq_true', Bool.not_eq_false', Bool.not_true, Bool.not_false, Bool.true_and, Bool.and_true, Bool.false_and, Bool.and_false, V.int.injEq, V.str.injEq, V.bl.injEq, V.ref.injEq, reduceCtorEq, not_true, not_false_eq_true, decide_true, decide_false, Int.not_lt, Int.not_le, ne_eq, List.length_cons, List.length_nil, List.length_map, List.length_append, List.length_set, List.length_take, List.length_drop] <;> omega))) | ((with_reducible apply st_if0); (first | with_reducible rfl | assumption | exact rfl | decide | (simp only [decide_eq_true_eq, decide_eq_false_iff_not, Bool.not_eq_true', Bool.not_eq_false', Bool.not_true, Bool.not_false, Bool.true_and, Bool.and_true, Bool.false_and, Bool.and_false, V.int.injEq, V.str.injEq, V.bl.injEq, V.ref.injEq, reduceCtorEq, not_true, not_false_eq_true, decide_true, decide_false, Int.not_lt, Int.not_le, ne_eq, List.length_cons, List.length_nil, List.length_map, List.length_append, List.length_set, List.length_take, List.length_drop] <;> omega))) | ((with_reducible apply st_lenL); (focus infer_instance)) | ((with_reducible apply st_lenT); (focus infer_instance)) | ((with_reducible apply st_tupT); (focus infer_instance)) | ((with_reducible apply st_tyL); (focus infer_instance)) | ((with_reducible apply st_elist); (focus infer_instance)) | ((with_reducible apply st_eitup); (focus infer_instance)) | ((with_reducible apply st_eE); (focus infer_instance)) | ((with_reducible apply st_epr); (focus infer_instance)) | ((with_reducible apply st_setO); (focus infer_instance)) | ((with_reducible apply st_ixO); (focus infer_instance)) | ((with_reducible apply st_ixLs); (focus assumption); (focus (first | exact rfl | exact atI_nat (by assumption)))) | ((with_reducible apply st_ixTs); (focus assumption); (focus (first | exact rfl | exact atI_nat (by assumption)))) | ((with_reducible apply st_fld); (focus infer_instance); (focus exact rfl)) | ((with_reducible apply st_const); (focus infer_instance); (focus exact rfl)) | ((with_reducible apply st_emt); (focus infer_instance); (focus exact rfl)) | ((with_reducible apply st_ixL); (focus infer_instance); (focus (first | exact rfl | exact atI_nat (by assumption)))) | ((with_reducible apply st_ixT); (focus infer_instance); (focus (first | exact rfl | exact atI_nat (by assumption)))) | ((with_reducible apply st_gtup); (focus infer_instance); (focus (first | exact rfl | exact atI_nat (by assumption)))))))
local macro_rules | `(tactic| subst_eqs) => `(tactic| (repeat (first | with_reducible refine st_seq ?_ | with_reducible refine st_asg ?_ | with_reducible refine st_name ?_ | with_reducible refine st_ret ?_ | with_reducible refine st_drop ?_ | with_reducible refine st_ifS ?_ | with_reducible refine st_nx ?_ | with_reducible refine st_brk ?_ | with_reducible refine st_cnt ?_ | with_reducible refine st_c ?_ | with_reducible refine st_op ?_ | with_reducible refine st_un ?_ | with_reducible refine st_rI0 ?_ | with_reducible refine st_cons ?_ | with_reducible refine st_nil ?_ | with_reducible refine st_cl ?_ | with_reducible refine st_cb ?_ | with_reducible refine st_mt ?_ | with_reducible refine st_pr ?_ | with_reducible refine st_test ?_ | with_reducible refine st_ebl ?_ | with_reducible refine st_eint ?_ | with_reducible refine st_par ?_ | with_reducible refine st_par2 ?_ | with_reducible refine st_and ?_ | with_reducible refine st_or ?_ | with_reducible refine st_not ?_ | with_reducible refine st_andV ?_ | with_reducible refine st_orV ?_ | with_reducible refine st_notV ?_ | with_reducible refine st_ifE ?_ | with_reducible refine st_chain ?_ | with_reducible refine st_lst ?_ | with_reducible refine st_tup ?_ | with_reducible refine st_retN ?_ | with_reducible refine st_rU ?_ | with_reducible refine st_rAdd ?_ | with_reducible refine st_rSub ?_ | with_reducible refine st_isN ?_ | with_reducible refine st_notN ?_ | with_reducible refine st_sF ?_ | with_reducible refine st_int ?_ | with_reducible refine st_intB ?_ | with_reducible refine st_abs ?_ | with_reducible refine st_sl ?_ | with_reducible refine st_part ?_ | with_reducible refine st_nopart ?_ | with_reducible refine st_bm ?_ | with_reducible refine st_bm0 ?_ | with_reducible refine st_tyS ?_ | with_reducible refine st_gsub ?_ | with_reducible refine st_gcons ?_ | with_reducible refine st_gnil ?_ | with_reducible refine st_chain3 ?_ | with_reducible refine st_gsl ?_ | with_reducible refine st_clK ?_ | with_reducible refine st_mtK ?_ | with_reducible refine st_lcR1 ?_ | with_reducible refine st_lcR2 ?_ | with_reducible refine st_lcL ?_ | with_reducible refine st_lcT ?_ | with_reducible refine st_yes ?_ | with_reducible refine st_forR1 ?_ | with_reducible refine st_forR2 ?_ | with_reducible refine st_forL ?_ | with_reducible refine st_forT ?_ | with_reducible refine st_forE ?_ | with_reducible refine st_list ?_ | with_reducible refine st_itup ?_ | with_reducible refine st_tB ?_ | ((with_reducible apply st_var); exact rfl) | ((with_reducible apply st_aug); exact rfl) | ((with_reducible apply st_eq); exact rfl) | ((with_reducible apply st_ne); exact rfl) | ((with_reducible apply st_spK); (focus exact rfl); (focus exact rfl)) | ((with_reducible apply st_rI); (first | decide | (refine Or.inl ⟨?_, ?_⟩ <;> omega) | (refine Or.inr ⟨?_, ?_⟩ <;> omega) | (show (0 : Int) < _; omega) | exact ⟨by omega, log_of (by omega) (by omega)⟩ | exact ⟨by decide, by decide, by decide⟩)) | ((with_reducible apply st_powK); (focus exact ⟨by decide, by decide, by decide⟩); (focus decide)) | ((with_reducible apply st_eR1); (focus omega); (focus omega)) | ((with_reducible apply st_eR2); (focus omega)) | ((with_reducible apply st_if1); (first | with_reducible rfl | assumption | exact rfl | decide | (simp only [decide_eq_true_eq, decide_eq_false_iff_not, Bool.not_eq_true', Bool.not_eq_false', Bool.not_true, Bool.not_false, Bool.true_and, Bool.and_true, Bool.false_and, Bool.and_false, V.int.injEq, V.str.injEq, V.bl.injEq, V.ref.injEq, reduceCtorEq, not_true, not_false_eq_true, decide_true, decide_false, Int.not_lt, Int.not_le, ne_eq, List.length_cons, List.length_nil, List.length_map, List.length_append, List.length_set, List.length_take, List.length_drop] <;> omega))) | ((with_reducible apply st_if0); (first | with_reducible rfl | assumption | exact rfl | decide | (simp only [decide_eq_true_eq, decide_eq_false_iff_not, Bool.not_eq_true', Bool.not_eq_false', Bool.not_true, Bool.not_false, Bool.true_and, Bool.and_true, Bool.false_and, Bool.and_false, V.int.injEq, V.str.injEq, V.bl.injEq, V.ref.injEq, reduceCtorEq, not_true, not_false_eq_true, decide_true, decide_false, Int.not_lt, Int.not_le, ne_eq, List.length_cons, List.length_nil, List.length_map, List.length_append, List.length_set, List.length_take, List.length_drop] <;> omega))) | ((with_reducible apply st_lenL); (focus infer_instance)) | ((with_reducible apply st_lenT); (focus infer_instance)) | ((with_reducible apply st_tupT); (focus infer_instance)) | ((with_reducible apply st_tyL); (focus infer_instance)) | ((with_reducible apply st_elist); (focus infer_instance)) | ((with_reducible apply st_eitup); (focus infer_instance)) | ((with_reducible apply st_eE); (focus infer_instance)) | ((with_reducible apply st_epr); (focus infer_instance)) | ((with_reducible apply st_setO); (focus infer_instance)) | ((with_reducible apply st_ixO); (focus infer_instance)) | ((with_reducible apply st_ixLs); (focus assumption); (focus (first | exact rfl | exact atI_nat (by assumption)))) | ((with_reducible apply st_ixTs); (focus assumption); (focus (first | exact rfl | exact atI_nat (by assumption)))) | ((with_reducible apply st_fld); (focus infer_instance); (focus exact rfl)) | ((with_reducible apply st_const); (focus infer_instance); (focus exact rfl)) | ((with_reducible apply st_emt); (focus infer_instance); (focus exact rfl)) | ((with_reducible apply st_ixL); (focus infer_instance); (focus (first | exact rfl | exact atI_nat (by assumption)))) | ((with_reducible apply st_ixT); (focus infer_instance); (focus (first | exact rfl | exact atI_nat (by assumption)))) | ((with_reducible apply st_gtup); (focus infer_instance); (focus (first | exact rfl | exact atI_nat (by assumption)))) | ((with_reducible apply st_newL); (focus (refine len_ok ?_; simp only [List.length_cons, List.length_nil, List.length_append, List.length_map, List.length_set, List.length_take, List.length_drop]; omega)); intro l Hn nw) | ((with_reducible apply st_newT); (focus (refine len_ok ?_; simp only [List.length_cons, List.length_nil, List.length_append, List.length_map, List.length_set, List.length_take, List.length_drop]; omega)); intro l Hn nw) | ((with_reducible apply st_listL); (focus infer_instance); intro l Hn nw) | ((with_reducible apply st_listT); (focus infer_instance); intro l Hn nw) | ((with_reducible apply st_tupL); (focus infer_instance); intro l Hn nw) | ((with_reducible apply st_slL); (focus infer_instance); intro l Hn nw) | ((with_reducible apply st_cat); (focus infer_instance); (focus infer_instance); (focus (refine len_ok ?_; simp only [List.length_cons, List.length_nil, List.length_append, List.length_map, List.length_set, List.length_take, List.length_drop]; omega)); intro l Hn nw))))
section
variable {P : Program} {w : World} {K : PySem.W.Frag} {mg : Str → Option Value} {base : Heap} {f : Addr} {fd : FuncData} {Tb : List (Addr × Str)}
abbrev N__law_pen : List Str := ["_law_script"]
theorem sc__law_pen : FnScope N__law_pen ["_law_script"] (defScope s__law_pen) := ⟨rfl, rfl, rfl, by decide +kernel, rfl, by decide +kernel, by decide +kernel⟩
theorem ok0__law_pen (F : FnA K d__law_pen fd) (T : Tx K mg) : FnOk P w K mg base CX0 1 (d__law_pen.adr K) fd ["_law_script"] (spPn K) := by
  refine fnO0 F sc__law_pen (fun vs H Q E h => by (repeat (first | (obtain ⟨rfl, _⟩ := h; rfl) | (obtain ⟨_, h⟩ := h)))) (fun cdv A outer s H vs Q E hr h => ?_)
  refine ⟨_, (pss_one (ps_ret (pe_lst (pa_cons (pe_callTy (cr_listOf (K := K) rfl) (by rfl) T.f_list (by decide +kernel) (pa_cons (pe_slice (sl_listK (K := K) rfl) (pv 0) po_none (po_some pe_int)) pa_nil)) (pa_cons pe_int (pa_cons pe_int pa_nil)))))), ?_⟩
  obtain ⟨a, ns, rfl, hS, hl, q⟩ := h
  have ec : cutV (ns.map V.int) none (some 63) = ns.map V.int := cut_all (by rw [List.length_map]; exact hl)
  symm_saturate
  refine st_slLs hS fun c H1 n1 => ?_
  rw [ec] at n1
  symm_saturate
  refine st_listL (by infer_instance) fun e H2 n2 => ?_
  symm_saturate
  refine st_newL (by (refine len_ok ?_; simp only [List.length_cons, List.length_nil, List.length_append, List.length_map, List.length_set, List.length_take, List.length_drop]; omega)) fun p H3 n3 => ?_
  refine q p e _ (n1.same.free (n2.same.free n3.no)) ⟨ns, 0, 0, by infer_instance, by infer_instance, hl, Int.le_refl _, by decide, Int.le_refl _⟩ (n1.same.trans (n2.same.trans n3.same))
abbrev N__law_draw : List Str := ["_law_pen_here", "_law_many", "_law_taken", "_law_cell", "_law_mixed", "_law_digit", "_law_great"]
theorem sc__law_draw : FnScope N__law_draw ["_law_pen_here", "_law_many"] (defScope s__law_draw) := ⟨rfl, rfl, rfl, by decide +kernel, rfl, by decide +kernel, by decide +kernel⟩
theorem ok0__law_draw (F : FnA K d__law_draw fd) (T : Tx K mg) : FnOk P w K mg base CX0 1 (d__law_draw.adr K) fd ["_law_pen_here", "_law_many"] spDr := by
  refine fnO0 F sc__law_draw (fun vs H Q E h => by (repeat (first | (obtain ⟨rfl, _⟩ := h; rfl) | (obtain ⟨_, h⟩ := h)))) (fun cdv A outer s H vs Q E hr h => ?_)
  refine ⟨_, (pss_cons (ps_if (pt_cmpR op_gt (pe_ix (ix_listK (K := K) rfl) (pv 0) pe_int (fun _ _ => rfl)) pe_int (nomark _))
      (pss_cons (ps_set (i := 5) sc__law_draw.nd rfl (.inl rfl) (pe_op op_mod (pe_callTy cr_int (by rfl) T.f_int (by decide +kernel) (pa_cons (pe_ix (ix_listK (K := K) rfl) (pv 0) pe_int (fun _ _ => rfl)) pa_nil)) (pv 1)))
      (pss_cons (ps_asg (pe_op op_fdivW (pe_callTy cr_int (by rfl) T.f_int (by decide +kernel) (pa_cons (pe_ix (ix_listK (K := K) rfl) (pv 0) pe_int (fun _ _ => rfl)) pa_nil)) (pv 1)) (pg_sub (pv 0) pe_int set_list))
      (pss_one (ps_ret (pv 5))))) pss_nil)
      (pss_cons (ps_set (i := 2) sc__law_draw.nd rfl (.inl rfl) (pe_ix (ix_listK (K := K) rfl) (pv 0) pe_int (fun _ _ => rfl)))
      (pss_cons (ps_asg (pe_op op_add (pv 2) pe_int) (pg_sub (pv 0) pe_int set_list))
      (pss_cons (ps_set (i := 3) sc__law_draw.nd rfl (.inl rfl) (pe_op op_add (pe_op op_mul pe_int (pv 2)) pe_int))
      (pss_cut (ps_if (pt_cmpR (op_neDK (K := K) rfl hr.units) (pe_ix (ix_listK (K := K) rfl) (pv 0) pe_int (fun _ _ => rfl)) (pe_lst pa_nil) (nomark _))
      (pss_one (ps_set (i := 3) sc__law_draw.nd rfl (.inl rfl) (pe_ix (ix_listK (K := K) rfl) (pe_ix (ix_listK (K := K) rfl) (pv 0) pe_int (fun _ _ => rfl)) (pe_op op_mod (pe_callTy cr_int (by rfl) T.f_int (by decide +kernel) (pa_cons (pv 2) pa_nil)) (pe_callB (cr_len (K := K) rfl) (by rfl) T.f_len (by decide +kernel) (pa_cons (pe_ix (ix_listK (K := K) rfl) (pv 0) pe_int (fun _ _ => rfl)) pa_nil))) (fun _ _ => rfl)))) pss_nil)
      (pss_cut (ps_if (PW.pt (pw_and (pt_cmpR op_lt (pv 2) (pe_callB (cr_len (K := K) rfl) (by rfl) T.f_len (by decide +kernel) (pa_cons (pe_ix (ix_listK (K := K) rfl) (pv 0) pe_int (fun _ _ => rfl)) pa_nil)) (nomark _)) (pw_and1 (pt_cmpR op_ge (pe_callB cr_abs (by rfl) T.f_abs (by decide +kernel) (pa_cons (pv 3) pa_nil)) (pe_op (op_powK 1000000000000000000) pe_int pe_int) (nomark _)))))
      (pss_cons (ps_set (i := 6) sc__law_draw.nd rfl (.inl rfl) (pe_op op_add (pe_op op_mul pe_int (pe_op op_sub (pe_callB cr_abs (by rfl) T.f_abs (by decide +kernel) (pa_cons (pv 3) pa_nil)) (pe_op (op_powK 1000000000000000000) pe_int pe_int))) (pe_callTy cr_int (by rfl) T.f_int (by decide +kernel) (pa_cons (pe_cmpR op_lt (pv 3) pe_int (nomark _)) pa_nil))))
      (pss_cons (ps_asg (pe_op op_fdivW (pe_callTy cr_int (by rfl) T.f_int (by decide +kernel) (pa_cons (pv 6) pa_nil)) (pv 1)) (pg_sub (pv 0) pe_int set_list))
      (pss_one (ps_ret (pe_op op_mod (pe_callTy cr_int (by rfl) T.f_int (by decide +kernel) (pa_cons (pv 6) pa_nil)) (pv 1)))))) pss_nil)
      (pss_cons (ps_set (i := 4) sc__law_draw.nd rfl (.inl rfl) (pe_op op_mod (pe_callTy cr_int (by rfl) T.f_int (by decide +kernel) (pa_cons (pe_op op_pow (pe_op op_add (pe_op op_add (pe_op op_mod (pe_callTy cr_int (by rfl) T.f_int (by decide +kernel) (pa_cons (pv 3) pa_nil)) pe_int) (pe_op op_mul pe_int (pv 2))) pe_int) pe_int) pa_nil)) pe_int))
      (pss_cons (ps_set (i := 4) sc__law_draw.nd rfl (.inl rfl) (pe_op op_mod (pe_callTy cr_int (by rfl) T.f_int (by decide +kernel) (pa_cons (pe_op op_pow (pe_op op_add (pe_op op_add (pe_op op_mul (pv 4) (pe_op op_add (pe_op op_mul pe_int (pv 2)) pe_int)) (pe_op op_mul (pe_op op_mul pe_int (pv 2)) (pv 2))) pe_int) pe_int) pa_nil)) pe_int))
      (pss_one (ps_ret (pe_op op_mod (pe_callTy cr_int (by rfl) T.f_int (by decide +kernel) (pa_cons (pe_op op_fdivW (pv 4) pe_int) pa_nil)) (pv 1)))))))))))), ?_⟩
  obtain ⟨p, c, b, m, rfl, hm, hlog, ⟨ns, i, z, hp, hc, hl, hi, hb, hz⟩, q⟩ := h
  have ncp : c ≠ p := pen_ne hp hc
  have mm := fun x : Int => mod_lt x hm
  have hdiv : ∀ x, CDivW x m := fun _ => ⟨hm, hlog⟩
  symm_saturate
  refine ite2 (fun h1 => ?_) (fun h1 => ?_)
  · symm_saturate
    refine st_rI (hdiv _) ?_
    symm_saturate
    refine st_setL hp rfl fun H1 n1 => ?_
    symm_saturate
    exact q _ _ (mm z).1 (mm z).2 ⟨ns, i, z / m, by infer_instance, by infer_instance, hl, hi, by omega, Int.ediv_nonneg hz (by omega)⟩ n1.keep
  · have z0 : z = 0 := by
      have : ¬ (z > 0) := by simpa using h1
      omega
    subst z0
    symm_saturate
    refine st_setL hp rfl fun H2 n2 => ?_
    have hp2 : H2 p = some (.lst [.ref c, .int (i + 1), .int 0]) := n2.at_
    have hc2 : H2 c = some (.lst (ns.map V.int)) := by infer_instance
    have k2 := n2.keep
    clear n2
    symm_saturate
    refine ⟨fun σ' H' => ∃ cell : Int, σ' = [some (.ref p), some (.int m), some (.int i), some (.int cell), none, none, none] ∧ H' p = some (.lst [.ref c, .int (i + 1), .int 0]) ∧ H' c = some (.lst (ns.map V.int)) ∧ Keep H H' p, ?_, ?_⟩
    · -- if the cells are not empty
      symm_saturate
      refine st_newL (by (refine len_ok ?_; simp only [List.length_cons, List.length_nil, List.length_append, List.length_map, List.length_set, List.length_take, List.length_drop]; omega)) fun e H3 n3 => ?_
      have hp3 : H3 p = some (.lst [.ref c, .int (i + 1), .int 0]) := by infer_instance
      have hc3 : H3 c = some (.lst (ns.map V.int)) := by infer_instance
      have k3 : Keep H H3 p := fun a o h1 h2 => n3.up (k2 _ _ h1 h2)
      refine st_neD (.lst (SqL.of hc3) (dp_ints K _ ns)) (.lst (SqL.of n3.at_) .nil) (PySem.W.ke_shaped_ints ns) (by decide +kernel) ?_
      clear n3
      symm_saturate
      refine ite2 (fun h2 => ?_) (fun h2 => ?_)
      · have hne : 0 < ns.length := by
          rw [eqv_nil] at h2
          cases ns with
          | nil => cases h2
          | cons a r => exact Nat.succ_pos _
        have hlen : (0 : Int) < ((ns.map V.int).length : Int) := by rw [List.length_map]; omega
        have mi := mod_lt i hlen
        obtain ⟨v, ev, _⟩ := atI_int (ns := ns) (i := i % ((ns.map V.int).length : Int)) mi.1 (by have := mi.2; rw [List.length_map] at this ⊢; exact this)
        symm_saturate
        refine st_ixL hc3 ev ?_
        symm_saturate
        exact ⟨v, rfl, hp3, hc3, k3⟩
      · symm_saturate
        exact ⟨_, rfl, hp3, hc3, k3⟩
    · rintro σ' H' ⟨cell, rfl, hp3, hc3, k3⟩
      -- a great cell?
      refine ⟨fun σ1 H1 => σ1 = [some (.ref p), some (.int m), some (.int i), some (.int cell), none, none, none] ∧ H1 = H', ?_, ?_⟩
      · symm_saturate
        refine ite2 (fun _ => ?_) (fun _ => ?_)
        · symm_saturate
          refine ite2 (fun h3 => ?_) (fun _ => ?_)
          · have hab : 1000000000000000000 ≤ (if cell < 0 then -cell else cell) := by simpa using h3
            symm_saturate
            have hgr : 0 ≤ 2 * ((if cell < 0 then -cell else cell) - 1000000000000000000) + (if decide (cell < 0) = true then 1 else 0) := by
              have : (0 : Int) ≤ (if decide (cell < 0) = true then 1 else 0) := by split <;> decide
              omega
            refine st_rI (hdiv _) ?_
            symm_saturate
            refine st_setL hp3 rfl fun H4 n4 => ?_
            symm_saturate
            refine q _ _ (mm _).1 (mm _).2 ⟨ns, i + 1, _, n4.at_, by infer_instance, hl, by omega, by omega, Int.ediv_nonneg hgr (by omega)⟩ (k3.trans n4.keep)
          · symm_saturate
            exact ⟨rfl, rfl⟩
        · symm_saturate
          exact ⟨rfl, rfl⟩
      · rintro σ1 H1 ⟨rfl, rfl⟩
        have hi2 : i ≤ 1000000 := by omega
        -- the first mix
        symm_saturate
        refine st_rI ⟨by decide, by decide, ?_⟩ ?_
        · refine pow_lt ?_ ?_ <;> omega
        have hx := mod_lt ((cell % 2147483549 + 83389 * i + 139) ^ (3 : Int).toNat) (show (0 : Int) < 2147483587 by decide)
        -- the second one
        symm_saturate
        refine st_rI ⟨by decide, by decide, ?_⟩ ?_
        · exact mix_ok hx.1 (Int.lt_trans hx.2 (by decide)) hi hi2 ⟨by decide, by decide⟩ ⟨by decide, by decide⟩ ⟨by decide, by decide⟩
        symm_saturate
        exact q _ _ (mm _).1 (mm _).2 ⟨ns, i + 1, 0, hp3, hc3, hl, by omega, by omega, Int.le_refl _⟩ k3
theorem ok__law_pen (F : FnA K d__law_pen fd) (T : Tx K mg) : FnOk P w K mg base CX0 1 (d__law_pen.adr K) fd ["_law_script"] (spPn K) := ok0__law_pen F T
theorem ok__law_draw (F : FnA K d__law_draw fd) (T : Tx K mg) : FnOk P w K mg base CX0 1 (d__law_draw.adr K) fd ["_law_pen_here", "_law_many"] (Gp.spF K Tb (Gp.ul2 Gp.F_draw)) := Gp.fnOk_weak (ok0__law_draw F T) fun _ _ _ _ => Gp.draw_of
end
end Lw
end
section
set_option Elab.async false
set_option linter.all false
set_option maxRecDepth 100000
set_option maxHeartbeats 4000000
set_option pp.maxSteps 600
namespace Lw
open PySem PySem.Spec PyProof.Rows L2 Gh Gp Gz
section
variable {P : Program} {w : World} {K : PySem.W.Frag} {mg : Str → Option Value} {base : Heap} {f : Addr} {fd : FuncData} {Tb : List (Addr × Str)}
abbrev N_BadChange___init__ : List Str := ["self", "part"]
theorem sc_BadChange___init__ : FnScope N_BadChange___init__ ["self", "part"] (defScope s_BadChange___init__) := ⟨rfl, rfl, rfl, by decide +kernel, rfl, by decide +kernel, by decide +kernel⟩
theorem ok_BadChange___init__ (F : FnA K d_BadChange___init__ fd) (T : Tx K mg) : FnOk P w K mg base CX0 1 (d_BadChange___init__.adr K) fd ["self", "part"] (spErr1 (gd "BadChange" K) "part") := by
  refine fnO0 F sc_BadChange___init__ (fun vs H Q E h => ?_) (fun cdv A outer s H vs Q E hr h => ?_)
  · obtain ⟨a, v, rfl, _⟩ := h
    rfl
  · obtain ⟨a, v, rfl, ha, q⟩ := h
    refine ⟨_, pss_one (ps_ost (pv 0) (pv 1)), ?_⟩
    exact ⟨_, rfl, _, rfl, a, _, rfl, T.ox_BadChange, T.n_BadChange_part, .inl ⟨ha, q⟩⟩
abbrev N_is_integer : List Str := ["value"]
theorem sc_is_integer : FnScope N_is_integer ["value"] (defScope s_is_integer) := ⟨rfl, rfl, rfl, by decide +kernel, rfl, by decide +kernel, by decide +kernel⟩
def F_is_integer (value : D) : Tr D :=
  fin (bd (bd (bd (bd (.ok value) fun d => bd (opt (isi_int d)) fun k => .ok (.bl k)) asB) fun k => if k = true then (bd (bd (bd (.ok value) fun d => bd (opt (isi_bool d)) fun k => .ok (.bl k)) asB) fun k => .ok (.bl (!k))) else .ok (.bl false)) fun d => .ok (.rt d))
theorem ok_is_integer (F : FnA K d_is_integer fd) (T : Tx K mg)  : FnOk P w K mg base CX0 1 (d_is_integer.adr K) fd ["value"] (spF K Tb (ul1 F_is_integer)) := by
  refine fnO0 F sc_is_integer (fun vs H Q E h => spF_len len1 h) (fun cdv A outer s H vs Q E hr h => ?_)
  refine ⟨_, (pss_cons (ps_ret (pe_and (pe_callB (call_isiZ (K := K) rfl) (by rfl) T.f_isinstance (by decide +kernel) (pa_cons (pv 0) (pa_cons (pe_bltn (v := .ty "int") (by rfl) T.f_int (by decide +kernel) rfl) pa_nil))) (pe_one (pe_not (pe_callB (call_isiZ (K := K) rfl) (by rfl) T.f_isinstance (by decide +kernel) (pa_cons (pv 0) (pa_cons (pe_bltn (v := .ty "bool") (by rfl) T.f_bool (by decide +kernel) rfl) pa_nil))))))) pss_nil), ?_⟩
  exact fn_of1 (F := F_is_integer) (envU := fun _ => List.replicate 1 .no) h (fun value => rfl) (fun p c value => (ss_ret (se_andV (se_isi (.ty _) (isT_int T) se_var) (se_notV (se_isi (.ty _) (isT_bool T) se_var)))))
abbrev N_is_within : List Str := ["value", "least", "most"]
theorem sc_is_within : FnScope N_is_within ["value", "least", "most"] (defScope s_is_within) := ⟨rfl, rfl, rfl, by decide +kernel, rfl, by decide +kernel, by decide +kernel⟩
def F_is_within (value least most : D) : Tr D :=
  fin (bd (bd (bd (bd (bd (.ok value) fun v1 => (bd (.ok []) fun r2 => .ok (v1 :: r2))) (ul1 F_is_integer)) asB) fun k => if k = true then (bd (.ok least) fun v3 => (bd (.ok value) fun v4 => (bd (bd (leD v3 v4) asB) fun k => if k = true then (bd (.ok most) fun v5 => leD v4 v5) else .ok (.bl false)))) else .ok (.bl false)) fun d => .ok (.rt d))
theorem ok_is_within (F : FnA K d_is_within fd) (T : Tx K mg) (G_is_integer : PromO P w K mg base CX0 1 (gd "is_integer" K) [] (spF K Tb (ul1 F_is_integer))) : FnOk P w K mg base CX0 2 (d_is_within.adr K) fd ["value", "least", "most"] (spF K Tb (ul3 F_is_within)) := by
  refine fnO0 F sc_is_within (fun vs H Q E h => spF_len len3 h) (fun cdv A outer s H vs Q E hr h => ?_)
  refine ⟨_, (pss_cons (ps_ret (pe_and (pe_g (PromO.call G_is_integer (hr.mono (by decide)) (passA (E := E))) (by rfl) T.g_is_integer T.k_is_integer (pa_cons (pv 0) pa_nil)) (pe_one (pe_chain op_le op_le (pv 1) (pv 0) (pv 2))))) pss_nil), ?_⟩
  exact fn_of3 (F := F_is_within) (envU := fun _ => List.replicate 3 .no) h (fun value least most => rfl) (fun p c value least most => (ss_ret (se_andV (se_cl srl_sp0 (sa_cons se_var sa_nil)) (se_chain sr_le sr_le se_var se_var se_var))))
abbrev N_are_told : List Str := ["value", "place"]
theorem sc_are_told : FnScope N_are_told ["value"] (defScope s_are_told) := ⟨rfl, rfl, rfl, by decide +kernel, rfl, by decide +kernel, by decide +kernel⟩
def F_are_told (value : D) : Tr D :=
  fin (bdF (W' := Unit) (bd (bd (bd (bd (bd (.ok value) fun d => bd (opt (isi_list_tuple d)) fun k => .ok (.bl k)) asB) fun k => .ok (!k)) fun k => if k = true then .ok true else (bd (bd (bd (bd (.ok value) fun v1 => (bd (.ok []) fun r2 => .ok (v1 :: r2))) (ul1 lenD)) fun v3 => (bd (.ok (.int 8)) fun v4 => gtD v3 v4)) asB)) fun k => if k = true then (bd (.ok (.bl false)) fun d => .ok (.rt d)) else (.ok (.nx ()))) fun (w5 : Unit) => (bdF (W' := Unit) (bd (bd (bd (bd (bd (bd (bd (.ok value) itD) fun ds => bd (lcF (fun place5 => nox (bd (bd (bd (.ok place5) fun v11 => (bd (bd (.ok (.int 0)) fun v9 => (bd (bd (.ok (.int 15)) fun v7 => (bd (.ok []) fun r8 => .ok (v7 :: r8))) fun r10 => .ok (v9 :: r10))) fun r12 => .ok (v11 :: r12))) (ul3 F_is_within)) fun y => .ok (some y))) ds) fun r => .ok (.lst r)) fun v13 => (bd (.ok []) fun r14 => .ok (v13 :: r14))) (ul1 allD)) asB) fun k => .ok (!k)) fun k => if k = true then (bd (.ok (.bl false)) fun d => .ok (.rt d)) else (.ok (.nx ()))) fun (w15 : Unit) => (bd (bd (bd (bd (bd (.ok value) itD) fun ds => bd (lcF (fun place15 => nox (bd (bd (bd (.ok place15) fun v17 => (bd (.ok []) fun r18 => .ok (v17 :: r18))) (ul1 intD)) fun y => .ok (some y))) ds) fun r => .ok (.lst r)) lenSD) fun v21 => (bd (bd (bd (.ok value) fun v19 => (bd (.ok []) fun r20 => .ok (v19 :: r20))) (ul1 lenD)) fun v22 => eqD v21 v22)) fun d => .ok (.rt d))))
theorem ok_are_told (F : FnA K d_are_told fd) (T : Tx K mg) (G_is_within : PromO P w K mg base CX0 2 (gd "is_within" K) [] (spF K Tb (ul3 F_is_within))) : FnOk P w K mg base CX0 3 (d_are_told.adr K) fd ["value"] (spF K Tb (ul1 F_are_told)) := by
  refine fnO0 F sc_are_told (fun vs H Q E h => spF_len len1 h) (fun cdv A outer s H vs Q E hr h => ?_)
  refine ⟨_, (pss_cons (ps_if (PW.pt (pw_or (pt_not (pt_val (pe_callB (call_isiTK (K := K) rfl) (by rfl) T.f_isinstance (by decide +kernel) (pa_cons (pv 0) (pa_cons (pe_tup (pa_cons (pe_bltn (v := .ty "list") (by rfl) T.f_list (by decide +kernel) rfl) (pa_cons (pe_bltn (v := .ty "tuple") (by rfl) T.f_tuple (by decide +kernel) rfl) pa_nil))) pa_nil))))) (pw_or1 (pt_cmpR op_gt (pe_callB (cr_len (K := K) rfl) (by rfl) T.f_len (by decide +kernel) (pa_cons (pv 0) pa_nil)) (pe_gi T.m_MOST_TOLD (by rfl)) (nomark _)))))
      (pss_cons (ps_ret pe_bl) pss_nil) pss_nil)
      (pss_cons (ps_if (pt_not (pt_val (pe_callB (cr_allK (K := K) rfl rfl) (by rfl) T.f_all (by decide +kernel) (pa_cons (pe_lc (own := [("place", 1)]) (g := gName 1) (by rfl) sc_are_told.nd (pi_seq (K := K) rfl (pv 0)) (blkOk_by (own := [("place", 1)]) (N := N_are_told) (sc := defScope s_are_told) (by decide +kernel)) (fun _ _ _ _ _ => pg_name (i := 1) sc_are_told.nd rfl (Or.inl rfl)) (fun _ _ _ _ _ => pts_nil) (fun _ _ _ _ _ => (pe_g (PromO.call G_is_within (hr.mono (by decide)) (passA (E := EF))) (by rfl) T.g_is_within T.k_is_within (pa_cons (pv 1) (pa_cons pe_int (pa_cons (pe_gi T.m_FARTHEST (by rfl)) pa_nil)))))) pa_nil))))
      (pss_cons (ps_ret pe_bl) pss_nil) pss_nil)
      (pss_cons (ps_ret (pe_cmpR (op_eqA (K := K) rfl hr.units) (pe_callB cr_lnSet (by rfl) T.f_len (by decide +kernel) (pa_cons (pe_callTy (cr_setI (K := K) rfl rfl) (by rfl) T.f_set (by decide +kernel) (pa_cons (pe_lc (own := [("place", 1)]) (g := gName 1) (by rfl) sc_are_told.nd (pi_seq (K := K) rfl (pv 0)) (blkOk_by (own := [("place", 1)]) (N := N_are_told) (sc := defScope s_are_told) (by decide +kernel)) (fun _ _ _ _ _ => pg_name (i := 1) sc_are_told.nd rfl (Or.inl rfl)) (fun _ _ _ _ _ => pts_nil) (fun _ _ _ _ _ => (pe_callTy cr_int (by rfl) T.f_int (by decide +kernel) (pa_cons (pv 1) pa_nil)))) pa_nil)) pa_nil)) (pe_callB (cr_len (K := K) rfl) (by rfl) T.f_len (by decide +kernel) (pa_cons (pv 0) pa_nil)) (nomark _))) pss_nil))), ?_⟩
  exact fn_of1 (F := F_are_told) (envU := fun _ => List.replicate 2 .no) h (fun value => rfl) (fun p c value => (ss_if (fun (w5 : Unit) => [.fz value, .no]) (sb_or (sb_not (sb_tb (se_isiT (isT_list_tuple T) se_var))) (sb_tst (se_op sr_gt (se_cb srl_len (sa_cons se_var sa_nil)) se_int))) (ss_ret se_bl) (ss_nx (.s (.s .nil))) (fun (w5 : Unit) => (ss_if (fun (w15 : Unit) => [.fz value, .no]) (sb_not (sb_tb (se_cb srl_all (sa_cons (se_lc (si_seq se_var) (fun place5 => (sc_map (se_cl srl_sp0 (sa_cons se_var (sa_cons se_int (sa_cons se_int sa_nil))))))) sa_nil)))) (ss_ret se_bl) (ss_nx (.s (.s .nil))) (fun (w15 : Unit) => (ss_ret (se_op sr_eq (se_lenS (se_lc (si_seq se_var) (fun place15 => (sc_map (se_cb srl_int (sa_cons se_var sa_nil)))))) (se_cb srl_len (sa_cons se_var sa_nil)))))))))
abbrev N_ascending : List Str := ["places", "place"]
theorem sc_ascending : FnScope N_ascending ["places"] (defScope s_ascending) := ⟨rfl, rfl, rfl, by decide +kernel, rfl, by decide +kernel, by decide +kernel⟩
def F_ascending (places : D) : Tr D :=
  fin (bd (bd (bd (bd (bd (bd (bd (.ok places) itD) fun ds => bd (lcF (fun place0 => nox (bd (bd (bd (.ok place0) fun v2 => (bd (.ok []) fun r3 => .ok (v2 :: r3))) (ul1 intD)) fun y => .ok (some y))) ds) fun r => .ok (.lst r)) fun v4 => (bd (.ok []) fun r5 => .ok (v4 :: r5))) (ul1 sortD)) fun v6 => (bd (.ok []) fun r7 => .ok (v6 :: r7))) (ul1 tupD)) fun d => .ok (.rt d))
theorem ok_ascending (F : FnA K d_ascending fd) (T : Tx K mg)  : FnOk P w K mg base CX0 1 (d_ascending.adr K) fd ["places"] (spF K Tb (ul1 F_ascending)) := by
  refine fnO0 F sc_ascending (fun vs H Q E h => spF_len len1 h) (fun cdv A outer s H vs Q E hr h => ?_)
  refine ⟨_, (pss_cons (ps_ret (pe_callTy (cr_tupOf (K := K) rfl) (by rfl) T.f_tuple (by decide +kernel) (pa_cons (pe_callB (cr_sortedK (K := K) rfl) (by rfl) T.f_sorted (by decide +kernel) (pa_cons (pe_lc (own := [("place", 1)]) (g := gName 1) (by rfl) sc_ascending.nd (pi_seq (K := K) rfl (pv 0)) (blkOk_by (own := [("place", 1)]) (N := N_ascending) (sc := defScope s_ascending) (by decide +kernel)) (fun _ _ _ _ _ => pg_name (i := 1) sc_ascending.nd rfl (Or.inl rfl)) (fun _ _ _ _ _ => pts_nil) (fun _ _ _ _ _ => (pe_callTy cr_int (by rfl) T.f_int (by decide +kernel) (pa_cons (pv 1) pa_nil)))) pa_nil)) pa_nil))) pss_nil), ?_⟩
  exact fn_of1 (F := F_ascending) (envU := fun _ => List.replicate 2 .no) h (fun places => rfl) (fun p c places => (ss_ret (se_cb srl_tup (sa_cons (se_cb srl_sorted (sa_cons (se_lc (si_seq se_var) (fun place0 => (sc_map (se_cb srl_int (sa_cons se_var sa_nil))))) sa_nil)) sa_nil))))
abbrev N_Sided___init___at_Change : List Str := ["self", "side"]
theorem sc_Sided___init___at_Change : FnScope N_Sided___init___at_Change ["self", "side"] (defScope s_Sided___init___at_Change) := ⟨rfl, rfl, rfl, by decide +kernel, rfl, by decide +kernel, by decide +kernel⟩
def F_Sided___init___at_Change (fs : Fs) (side : D) : Tr Fs :=
  finI (bd (.ok side) fun side1 => if fs.length < 900 then (.ok (.nx (putD "side" side1 fs))) else .bad)
theorem ok_Sided___init___at_Change (F : FnA K d_Sided___init___at_Change fd) (T : Tx K mg)  : FnOk P w K mg base CX0 1 (d_Sided___init___at_Change.adr K) fd ["self", "side"] (spI K Tb "Change" (fun fs => ul1 (F_Sided___init___at_Change fs))) := by
  refine fnO0 F sc_Sided___init___at_Change (fun vs H Q E h => spI_len lenI1 h) (fun cdv A outer s H vs Q E hr h => ?_)
  refine ⟨_, (pss_cons (ps_f (pv 0) (pv 1) T.cl_Change T.n_Change_side)
      pss_nil), ?_⟩
  exact ini_of1 (F := F_Sided___init___at_Change) (envI := fun fs => .oi "Change" fs :: List.replicate 1 .no) h (fun fs side => rfl) (fun p c fs side => (ss_setf se_var (fun side1 => (ss_nx (.s (le_no _ rfl))))))
abbrev N_Change___init__ : List Str := ["self", "front", "back", "side", "__class__"]
theorem sc_Change___init__ : NdefX.NScope N_Change___init__ ["self", "front", "back", "side"] ["__class__"] (defScope s_Change___init__) := NdefX.nscope_by (by decide +kernel)
def F_Change___init__ (fs : Fs) (front back side : D) : Tr Fs :=
  finI (bdF (W' := Unit) (bd (bd (bd (bd (bd (.ok front) fun v1 => (bd (.ok []) fun r2 => .ok (v1 :: r2))) (ul1 F_are_told)) asB) fun k => .ok (!k)) fun k => if k = true then (bd (.ok (.str "front")) fun d => .ex "BadChange" [("part", d)]) else (.ok (.nx ()))) fun (w3 : Unit) => (bdF (W' := Unit) (bd (bd (bd (bd (bd (.ok back) fun v6 => (bd (.ok []) fun r7 => .ok (v6 :: r7))) (ul1 F_are_told)) asB) fun k => .ok (!k)) fun k => if k = true then (bd (.ok (.str "back")) fun d => .ex "BadChange" [("part", d)]) else (.ok (.nx ()))) fun (w8 : Unit) => (bdF (W' := Unit) (bd (bd (bd (bd (bd (.ok side) fun d => bd (opt (isi_str d)) fun k => .ok (.bl k)) asB) fun k => .ok (!k)) fun k => if k = true then .ok true else (bd (bd (.ok side) fun v11 => (bd (.ok (.tup [.str "front", .str "back"])) fun v12 => notinD v11 v12)) asB)) fun k => if k = true then (bd (.ok (.str "side")) fun d => .ex "BadChange" [("part", d)]) else (.ok (.nx ()))) fun (w13 : Unit) => (bd (bd (.ok side) fun v16 => (bd (.ok []) fun r17 => .ok (v16 :: r17))) fun ds => bd ((fun fs => ul1 (F_Sided___init___at_Change fs)) fs ds) fun fs18 => (bd (bd (bd (.ok front) fun v19 => (bd (.ok []) fun r20 => .ok (v19 :: r20))) (ul1 F_ascending)) fun front21 => if fs18.length < 900 then (bd (bd (bd (.ok back) fun v22 => (bd (.ok []) fun r23 => .ok (v22 :: r23))) (ul1 F_ascending)) fun back24 => if (putD "front" front21 fs18).length < 900 then (.ok (.nx (putD "back" back24 (putD "front" front21 fs18)))) else .bad) else .bad)))))
theorem ok_Change___init__ (F : FnS K ds_Change___init__ pfile fd) (T : Tx K mg) (hP : ((P.main.file : Str) == pfile) = true ∧ (P.main.scope.names.lookup ("super" : Str)).isSome = false) (G_are_told : PromO P w K mg base CX0 3 (gd "are_told" K) [] (spF K Tb (ul1 F_are_told))) (G_BadChange___init__ : PromO P w K mg base CX0 1 (md "BadChange" "__init__" K) [] (spErr1 (gd "BadChange" K) "part")) (G_Sided___init___at_Change : PromO P w K mg base CX0 1 (md "Sided" "__init__" K) [] (spI K Tb "Change" (fun fs => ul1 (F_Sided___init___at_Change fs)))) (G_ascending : PromO P w K mg base CX0 1 (gd "ascending" K) [] (spF K Tb (ul1 F_ascending))) : FnOk P w K mg base (L2.CX P w) 4 (ds_Change___init__.d.adr K) fd ["self", "front", "back", "side"] (spI K Tb "Change" (fun fs => ul3 (F_Change___init__ fs))) := by
  refine SupF.ok (k := 3) (pre := (defBody s_Change___init__).take 3) (post := (defBody s_Change___init__).drop 4) (by rfl) F ⟨Option.isSome_iff_exists.mp T.cd_Change, T.f_super, T.stat⟩ sc_Change___init__ (fun vs H Q E h => spI_len lenI3 h) hP.1 hP.2 (by decide) rfl rfl rfl rfl (fun cc cda A outer s H vs Q E hr h => ?_) (pl := _) (he := fun _ => rfl)
  refine ⟨_, _, _, _, _, _, _, _, _, (pss_cons (ps_if (pt_not (pt_val (pe_g (PromO.call G_are_told (hr.mono (by decide)) (passA (E := E))) (by rfl) T.g_are_told T.k_are_told (pa_cons (pv 1) pa_nil))))
      (pss_cons (ps_raise rfl (takes_of rfl rfl rfl rfl) (pmk_po T.ox_BadChange T.in_BadChange.iC T.in_BadChange.tI G_BadChange___init__ (hr.mono (by decide)) pass0 T.g_BadChange (pa_cons pe_str pa_nil))) pss_nil) pss_nil)
      (pss_cons (ps_if (pt_not (pt_val (pe_g (PromO.call G_are_told (hr.mono (by decide)) (passA (E := E))) (by rfl) T.g_are_told T.k_are_told (pa_cons (pv 2) pa_nil))))
      (pss_cons (ps_raise rfl (takes_of rfl rfl rfl rfl) (pmk_po T.ox_BadChange T.in_BadChange.iC T.in_BadChange.tI G_BadChange___init__ (hr.mono (by decide)) pass0 T.g_BadChange (pa_cons pe_str pa_nil))) pss_nil) pss_nil)
      (pss_cons (ps_if (PW.pt (pw_or (pt_not (pt_val (pe_callB (call_isiZ (K := K) rfl) (by rfl) T.f_isinstance (by decide +kernel) (pa_cons (pv 3) (pa_cons (pe_bltn (v := .ty "str") (by rfl) T.f_str (by decide +kernel) rfl) pa_nil))))) (pw_or1 (pt_cmpR (op_notinA (K := K) rfl) (pv 3) (pe_glob (v := .ref (gd "SIDES" K)) rfl T.g_SIDES rfl) (by rfl)))))
      (pss_cons (ps_raise rfl (takes_of rfl rfl rfl rfl) (pmk_po T.ox_BadChange T.in_BadChange.iC T.in_BadChange.tI G_BadChange___init__ (hr.mono (by decide)) pass0 T.g_BadChange (pa_cons pe_str pa_nil))) pss_nil) pss_nil)
      pss_nil))), (pa_cons (pv 3) pa_nil), (pss_cons (ps_f (pv 0) (pe_g (PromO.call G_ascending (hr.mono (by decide)) (passA (E := E))) (by rfl) T.g_ascending T.k_ascending (pa_cons (pv 1) pa_nil)) T.cl_Change T.n_Change_front)
      (pss_cons (ps_f (pv 0) (pe_g (PromO.call G_ascending (hr.mono (by decide)) (passA (E := E))) (by rfl) T.g_ascending T.k_ascending (pa_cons (pv 2) pa_nil)) T.cl_Change T.n_Change_back)
      pss_nil)), G_Sided___init___at_Change, by decide, (passA (E := E)), ?_⟩
  refine sup_goal ?_
  exact ini_of3 (F := F_Change___init__) (envI := fun fs => .oi "Change" fs :: List.replicate 4 .no) h (fun fs front back side => rfl) (fun p c fs front back side => (ss_assoc (ss_if (fun (w3 : Unit) => [.oi "Change" fs, .fz front, .fz back, .fz side, .no]) (sb_not (sb_tb (se_cl srl_sp0 (sa_cons se_var sa_nil)))) (ss_raise1 (se_str (by decide))) (ss_nx (.s (.s (.s (.s (.s .nil)))))) (fun (w3 : Unit) => (ss_assoc (ss_if (fun (w8 : Unit) => [.oi "Change" fs, .fz front, .fz back, .fz side, .no]) (sb_not (sb_tb (se_cl srl_sp0 (sa_cons se_var sa_nil)))) (ss_raise1 (se_str (by decide))) (ss_nx (.s (.s (.s (.s (.s .nil)))))) (fun (w8 : Unit) => (ss_assoc (ss_if (fun (w13 : Unit) => [.oi "Change" fs, .fz front, .fz back, .fz side, .no]) (sb_or (sb_not (sb_tb (se_isi (.ty _) (isT_str T) se_var))) (sb_tst (se_op sr_notin se_var (se_c fun _ _ => .tupW (vs := [.str "front", .str "back"]) T.tu_SIDES (by decide) (.cons (.str _ (by decide)) (.cons (.str _ (by decide)) .nil)) rfl)))) (ss_raise1 (se_str (by decide))) (ss_nx (.s (.s (.s (.s (.s .nil)))))) (fun (w13 : Unit) => (ss_next (ss_sup T.sc_Change_Change (sa_cons se_var sa_nil) (fun fs18 => (ss_setf (se_cl srl_sp0 (sa_cons se_var sa_nil)) (fun front21 => (ss_setf (se_cl srl_sp0 (sa_cons se_var sa_nil)) (fun back24 => (ss_nx (.s (le_no _ rfl))))))))))))))))))))
abbrev N_Change___eq__ : List Str := ["self", "other"]
theorem sc_Change___eq__ : FnScope N_Change___eq__ ["self", "other"] (defScope s_Change___eq__) := ⟨rfl, rfl, rfl, by decide +kernel, rfl, by decide +kernel, by decide +kernel⟩
def F_Change___eq__ (self other : D) : Tr D :=
  fin (bdF (W' := Unit) (bd (bd (bd (bd (.ok other) fun d => bd (opt (isi_Change d)) fun k => .ok (.bl k)) asB) fun k => .ok (!k)) fun k => if k = true then (bd (.ok (.bl false)) fun d => .ok (.rt d)) else (.ok (.nx ()))) fun (w1 : Unit) => (bd (bd (bd (bd (bd (.ok self) (fldD "Change" "front")) fun v2 => (bd (bd (.ok other) (fldD "Change" "front")) fun v3 => eqD v2 v3)) asB) fun k => if k = true then (bd (bd (bd (bd (.ok self) (fldD "Change" "back")) fun v4 => (bd (bd (.ok other) (fldD "Change" "back")) fun v5 => eqD v4 v5)) asB) fun k => if k = true then (bd (bd (.ok self) (fldD "Change" "side")) fun v6 => (bd (bd (.ok other) (fldD "Change" "side")) fun v7 => eqD v6 v7)) else .ok (.bl false)) else .ok (.bl false)) fun d => .ok (.rt d)))
theorem ok_Change___eq__ (F : FnA K d_Change___eq__ fd) (T : Tx K mg)  : FnOk P w K mg base CX0 1 (d_Change___eq__.adr K) fd ["self", "other"] (spF K Tb (ul2 F_Change___eq__)) := by
  refine fnO0 F sc_Change___eq__ (fun vs H Q E h => spF_len len2 h) (fun cdv A outer s H vs Q E hr h => ?_)
  refine ⟨_, (pss_cons (ps_if (pt_not (pt_val (pe_callB (call_isiZ (K := K) rfl) (by rfl) T.f_isinstance (by decide +kernel) (pa_cons (pv 1) (pa_cons (pe_glob (v := .ref _) rfl T.g_Change rfl) pa_nil)))))
      (pss_cons (ps_ret pe_bl) pss_nil) pss_nil)
      (pss_cons (ps_ret (pe_and (pe_cmpR (op_eqA (K := K) rfl hr.units) (pe_f (pv 0) T.cl_Change T.n_Change_front) (pe_f (pv 1) T.cl_Change T.n_Change_front) (nomark _)) (pe_and (pe_cmpR (op_eqA (K := K) rfl hr.units) (pe_f (pv 0) T.cl_Change T.n_Change_back) (pe_f (pv 1) T.cl_Change T.n_Change_back) (nomark _)) (pe_one (pe_cmpR (op_eqA (K := K) rfl hr.units) (pe_f (pv 0) T.cl_Change T.n_Change_side) (pe_f (pv 1) T.cl_Change T.n_Change_side) (nomark _)))))) pss_nil)), ?_⟩
  exact fn_of2 (F := F_Change___eq__) (envU := fun _ => List.replicate 2 .no) h (fun self other => rfl) (fun p c self other => (ss_if (fun (w1 : Unit) => [.fz self, .fz other]) (sb_not (sb_tb (se_isi (.own _) (isT_Change T) se_var))) (ss_ret se_bl) (ss_nx (.s (.s .nil))) (fun (w1 : Unit) => (ss_ret (se_andV (se_op sr_eq (se_un sr_fld se_var) (se_un sr_fld se_var)) (se_andV (se_op sr_eq (se_un sr_fld se_var) (se_un sr_fld se_var)) (se_op sr_eq (se_un sr_fld se_var) (se_un sr_fld se_var))))))))
abbrev N_Change___str__ : List Str := ["self", "words", "name", "places", "place"]
theorem sc_Change___str__ : FnScope N_Change___str__ ["self"] (defScope s_Change___str__) := ⟨rfl, rfl, rfl, by decide +kernel, rfl, by decide +kernel, by decide +kernel⟩
def F_Change___str__ (self : D) : Tr D :=
  fin (bd (bd (bd (.ok (.str "change")) fun v2 => (bd (.ok []) fun r3 => .ok (v2 :: r3))) fun ds => if ds.length ≤ sizeLine then .ok ds else .bad) fun words0 => (bdF (bd (bd (bd (bd (bd (bd (.ok (.str "front")) fun v6 => (bd (bd (bd (.ok self) (fldD "Change" "front")) fun v4 => (bd (.ok []) fun r5 => .ok (v4 :: r5))) fun r7 => .ok (v6 :: r7))) fun ds => if ds.length ≤ sizeLine then .ok (.tup ds) else .bad) fun v14 => (bd (bd (bd (bd (.ok (.str "back")) fun v10 => (bd (bd (bd (.ok self) (fldD "Change" "back")) fun v8 => (bd (.ok []) fun r9 => .ok (v8 :: r9))) fun r11 => .ok (v10 :: r11))) fun ds => if ds.length ≤ sizeLine then .ok (.tup ds) else .bad) fun v12 => (bd (.ok []) fun r13 => .ok (v12 :: r13))) fun r15 => .ok (v14 :: r15))) fun ds => if ds.length ≤ sizeLine then .ok (.tup ds) else .bad) itD) fun ds => forF (fun (d17 : D) (w16 : List D) => (un2 d17 fun name17 places17 => (bdF (W' := List D) (bd (bd (bd (bd (bd (.ok places17) fun v19 => (bd (.ok []) fun r20 => .ok (v19 :: r20))) (ul1 lenD)) fun v21 => (bd (.ok (.int 0)) fun v22 => gtD v21 v22)) asB) fun k => if k = true then (bd (bd (bd (bd (.ok name17) fun v29 => (bd (bd (bd (bd (bd (.ok places17) itD) fun ds => bd (lcF (fun place23 => nox (bd (bd (bd (.ok place23) fun v25 => (bd (.ok []) fun r26 => .ok (v25 :: r26))) (ul1 strD)) fun y => .ok (some y))) ds) fun r => .ok (.lst r)) seqD) fun v27 => (bd (.ok []) fun r28 => .ok (v27 ++ r28))) fun r30 => .ok (v29 :: r30))) fun ds => if ds.length ≤ sizeLine then .ok (.lst ds) else .bad) asL) fun v31 => if w16.length + v31.length ≤ sizeLine then (.ok (.nx (w16 ++ v31))) else .bad) else (.ok (.nx w16))) fun (w23 : List D) => (.ok (.nx w23))))) ds words0) fun (w16 : List D) => (bd (bd (.ok (.str " ")) fun v32 => (isS v32 fun _ => (bd (bd (bd (bd (bd (.ok self) (fldD "Change" "side")) fun v34 => (bd (.ok (.str "back")) fun v35 => eqD v34 v35)) asB) fun k => if k = true then (bd (bd (bd (.ok (.lst w16)) seqD) fun v38 => (bd (bd (.ok (.str "side back")) fun v36 => (bd (.ok []) fun r37 => .ok (v36 :: r37))) fun r39 => .ok (v38 ++ r39))) fun ds => if ds.length ≤ sizeLine then .ok (.lst ds) else .bad) else (.ok (.lst w16))) fun v33 => joinD v32 v33))) fun d => .ok (.rt d))))
theorem ok_Change___str__ (F : FnA K d_Change___str__ fd) (T : Tx K mg)  : FnOk P w K mg base CX0 1 (d_Change___str__.adr K) fd ["self"] (spF K Tb (ul1 F_Change___str__)) := by
  refine fnO0 F sc_Change___str__ (fun vs H Q E h => spF_len len1 h) (fun cdv A outer s H vs Q E hr h => ?_)
  refine ⟨_, (pss_cons (ps_set (i := 1) sc_Change___str__.nd rfl (.inl rfl) (pe_lst (pa_cons pe_str pa_nil)))
      (pss_cons (ps_for PassesOwn.never rfl (pi_seq (K := K) rfl (pe_tup (pa_cons (pe_tup (pa_cons pe_str (pa_cons (pe_f (pv 0) T.cl_Change T.n_Change_front) pa_nil))) (pa_cons (pe_tup (pa_cons pe_str (pa_cons (pe_f (pv 0) T.cl_Change T.n_Change_back) pa_nil))) pa_nil)))) (pg_tup rfl (pgs_cons (pg_name (i := 2) sc_Change___str__.nd rfl (.inl rfl)) (pgs_cons (pg_name (i := 3) sc_Change___str__.nd rfl (.inl rfl)) pgs_nil)))
      (pss_cons (ps_if (pt_cmpR op_gt (pe_callB (cr_len (K := K) rfl) (by rfl) T.f_len (by decide +kernel) (pa_cons (pv 3) pa_nil)) pe_int (nomark _))
      (pss_cons (ps_expr (pe_bm PySem.F.plainAttrs_list PySem.F.slot_list_extend PySem.F.type_list_extend mt_extend (pv 1) (pa_cons (pe_lst (pa_cons (pv 2) (pa_starK (K := K) rfl (pe_lc (own := [("place", 4)]) (g := gName 4) (by rfl) sc_Change___str__.nd (pi_seq (K := K) rfl (pv 3)) (blkOk_by (own := [("place", 4)]) (N := N_Change___str__) (sc := defScope s_Change___str__) (by decide +kernel)) (fun _ _ _ _ _ => pg_name (i := 4) sc_Change___str__.nd rfl (Or.inl rfl)) (fun _ _ _ _ _ => pts_nil) (fun _ _ _ _ _ => (pe_callTy cr_strI (by rfl) T.f_str (by decide +kernel) (pa_cons (pv 4) pa_nil)))) pa_nil))) pa_nil)))
      pss_nil) pss_nil)
      pss_nil))
      (pss_cons (ps_ret (pe_join pe_str (pe_ifExp (pt_cmpR (op_eqA (K := K) rfl hr.units) (pe_f (pv 0) T.cl_Change T.n_Change_side) pe_str (nomark _)) (pe_lst (pa_starK (K := K) rfl (pv 1) (pa_cons pe_str pa_nil))) (pv 1)))) pss_nil))), ?_⟩
  exact fn_of1 (F := F_Change___str__) (envU := fun _ => List.replicate 5 .no) h (fun self => rfl) (fun p c self => (ss_own (sn_lst (sa_cons (se_str (by decide)) sa_nil)) (fun words0 => (ss_for (fun (w16 : List D) => [.fz self, .ow w16, .no, .no, .no]) (si_seq (se_tup (sa_cons (se_tup (sa_cons (se_str (by decide)) (sa_cons (se_un sr_fld se_var) sa_nil))) (sa_cons (se_tup (sa_cons (se_str (by decide)) (sa_cons (se_un sr_fld se_var) sa_nil))) sa_nil)))) (.s (.s (.s (.s (.s .nil))))) (fun (d17 : D) (w16 : List D) => (sx_tup2 (fun name17 places17 => (ss_if (fun (w23 : List D) => [.fz self, .ow w23, .fz name17, .fz places17, .no]) (sb_tst (se_op sr_gt (se_cb srl_len (sa_cons se_var sa_nil)) se_int)) (ss_ext (se_lst (sa_cons se_var (sa_star (se_lc (si_seq se_var) (fun place23 => (sc_map (se_cb srl_str (sa_cons se_var sa_nil))))) sa_nil))) (fun v31 => (ss_nx (.s (.s (.s (.s (.s .nil)))))))) (ss_nx (.s (.s (.s (.s (.s .nil)))))) (fun (w23 : List D) => (ss_nx (.s (.s (.n (.n (.s .nil))))))))))) (fun (w16 : List D) => (ss_fz (i := 1) rfl (ss_ret (se_join (se_str (by decide)) (se_if (sb_tst (se_op sr_eq (se_un sr_fld se_var) (se_str (by decide)))) (se_lst (sa_star se_var (sa_cons (se_str (by decide)) sa_nil))) se_var)))))))))
end
end Lw
end
section
set_option Elab.async false
set_option linter.all false
set_option maxRecDepth 100000
set_option maxHeartbeats 4000000
set_option pp.maxSteps 600
namespace Lw
open PySem PySem.Spec PyProof.Rows L2 Gh Gp Gz
section
variable {P : Program} {w : World} {K : PySem.W.Frag} {mg : Str → Option Value} {base : Heap} {f : Addr} {fd : FuncData} {Tb : List (Addr × Str)}
abbrev N__law_pick : List Str := ["_law_pen_here", "_law_some"]
theorem sc__law_pick : FnScope N__law_pick ["_law_pen_here", "_law_some"] (defScope s__law_pick) := ⟨rfl, rfl, rfl, by decide +kernel, rfl, by decide +kernel, by decide +kernel⟩
def F__law_pick (l_pen_here l_some : D) : Tr D :=
  fin (bd (bd (.ok l_some) fun v1 => (bd (bd (bd (.ok l_pen_here) fun v7 => (bd (bd (bd (bd (.ok l_some) fun v3 => (bd (.ok []) fun r4 => .ok (v3 :: r4))) (ul1 lenD)) fun v5 => (bd (.ok []) fun r6 => .ok (v5 :: r6))) fun r8 => .ok (v7 :: r8))) (ul2 F_draw)) fun v2 => ixD v1 v2)) fun d => .ok (.rt d))
theorem ok__law_pick (F : FnA K d__law_pick fd) (T : Tx K mg) (G__law_draw : PromO P w K mg base CX0 1 (gd "_law_draw" K) [] (spF K Tb (ul2 F_draw))) : FnOk P w K mg base CX0 2 (d__law_pick.adr K) fd ["_law_pen_here", "_law_some"] (spF K Tb (ul2 F__law_pick)) := by
  refine fnO0 F sc__law_pick (fun vs H Q E h => spF_len len2 h) (fun cdv A outer s H vs Q E hr h => ?_)
  refine ⟨_, (pss_cons (ps_ret (pe_ix (ix_seqK (K := K) rfl) (pv 1) (pe_g (PromO.call G__law_draw (hr.mono (by decide)) (passA (E := E))) (by rfl) T.g__law_draw T.k__law_draw (pa_cons (pv 0) (pa_cons (pe_callB (cr_len (K := K) rfl) (by rfl) T.f_len (by decide +kernel) (pa_cons (pv 1) pa_nil)) pa_nil))) (fun _ _ => rfl))) pss_nil), ?_⟩
  exact fn_of2 (F := F__law_pick) (envU := fun _ => List.replicate 2 .no) h (fun l_pen_here l_some => rfl) (fun p c l_pen_here l_some => (ss_ret (se_op sr_ix se_var (se_cl srl_sp0 (sa_cons se_var (sa_cons (se_cb srl_len (sa_cons se_var sa_nil)) sa_nil))))))
abbrev N__law_places : List Str := ["_law_pen_here", "_law_many", "_law_left", "_law_k"]
theorem sc__law_places : FnScope N__law_places ["_law_pen_here"] (defScope s__law_places) := ⟨rfl, rfl, rfl, by decide +kernel, rfl, by decide +kernel, by decide +kernel⟩
def F__law_places (l_pen_here : D) : Tr D :=
  fin (bd (bd (bd (.ok l_pen_here) fun v18 => (bd (bd (bd (bd (.ok (.int 0)) fun v14 => (bd (bd (.ok (.int 0)) fun v12 => (bd (bd (.ok (.int 1)) fun v10 => (bd (bd (.ok (.int 1)) fun v8 => (bd (bd (.ok (.int 2)) fun v6 => (bd (bd (.ok (.int 3)) fun v4 => (bd (bd (.ok (.int 8)) fun v2 => (bd (.ok []) fun r3 => .ok (v2 :: r3))) fun r5 => .ok (v4 :: r5))) fun r7 => .ok (v6 :: r7))) fun r9 => .ok (v8 :: r9))) fun r11 => .ok (v10 :: r11))) fun r13 => .ok (v12 :: r13))) fun r15 => .ok (v14 :: r15))) fun ds => if ds.length ≤ sizeLine then .ok (.lst ds) else .bad) fun v16 => (bd (.ok []) fun r17 => .ok (v16 :: r17))) fun r19 => .ok (v18 :: r19))) (ul2 F__law_pick)) fun l_many0 => (bd (bd (bd (bd (bd (.ok l_pen_here) fun v31 => (bd (bd (bd (bd (.ok (.int 16)) fun v27 => (bd (bd (.ok (.int 16)) fun v25 => (bd (bd (.ok (.int 8)) fun v23 => (bd (bd (.ok (.int 9)) fun v21 => (bd (.ok []) fun r22 => .ok (v21 :: r22))) fun r24 => .ok (v23 :: r24))) fun r26 => .ok (v25 :: r26))) fun r28 => .ok (v27 :: r28))) fun ds => if ds.length ≤ sizeLine then .ok (.lst ds) else .bad) fun v29 => (bd (.ok []) fun r30 => .ok (v29 :: r30))) fun r32 => .ok (v31 :: r32))) (ul2 F__law_pick)) rgA1) fun r => if rgOk r.1 r.2 then .ok (rgD r.1 (r.2 - r.1).toNat) else .bad) fun l_left19 => (bd (bd (bd (.ok l_many0) fun v33 => (bd (.ok []) fun r34 => .ok (v33 :: r34))) (ul1 rg1)) fun its => bd (popF (fun cu35 l_k35 => (pk (bd (bd (.ok l_pen_here) fun v41 => (bd (bd (bd (bd (.ok (.lst cu35)) fun v37 => (bd (.ok []) fun r38 => .ok (v37 :: r38))) (ul1 lenD)) fun v39 => (bd (.ok []) fun r40 => .ok (v39 :: r40))) fun r42 => .ok (v41 :: r42))) (ul2 F_draw)))) its l_left19) fun r => .ok (.rt (.lst r)))))
theorem ok__law_places (F : FnA K d__law_places fd) (T : Tx K mg) (G__law_pick : PromO P w K mg base CX0 2 (gd "_law_pick" K) [] (spF K Tb (ul2 F__law_pick))) (G__law_draw : PromO P w K mg base CX0 1 (gd "_law_draw" K) [] (spF K Tb (ul2 F_draw))) : FnOk P w K mg base CX0 3 (d__law_places.adr K) fd ["_law_pen_here"] (spF K Tb (ul1 F__law_places)) := by
  refine fnO0 F sc__law_places (fun vs H Q E h => spF_len len1 h) (fun cdv A outer s H vs Q E hr h => ?_)
  refine ⟨_, (pss_cons (ps_set (i := 1) sc__law_places.nd rfl (.inl rfl) (pe_g (PromO.call G__law_pick (hr.mono (by decide)) (passA (E := E))) (by rfl) T.g__law_pick T.k__law_pick (pa_cons (pv 0) (pa_cons (pe_lst (pa_cons pe_int (pa_cons pe_int (pa_cons pe_int (pa_cons pe_int (pa_cons pe_int (pa_cons pe_int (pa_cons pe_int pa_nil)))))))) pa_nil))))
      (pss_cons (ps_set (i := 2) sc__law_places.nd rfl (.inr rfl) (pe_listRg rfl (by rfl) T.f_list (prg_1 (by rfl) T.f_range (pe_g (PromO.call G__law_pick (hr.mono (by decide)) (passA (E := E))) (by rfl) T.g__law_pick T.k__law_pick (pa_cons (pv 0) (pa_cons (pe_lst (pa_cons pe_int (pa_cons pe_int (pa_cons pe_int (pa_cons pe_int pa_nil))))) pa_nil))))))
      (pss_cons (ps_ret (pe_lc (own := [("_law_k", 3)]) (g := gName 3) (by rfl) sc__law_places.nd (pi_range1 (by rfl) T.f_range (pa_cons (pv 1) pa_nil)) (blkOk_by (own := [("_law_k", 3)]) (N := N__law_places) (sc := defScope s__law_places) (by decide +kernel)) (fun _ _ _ _ _ => pg_name (i := 3) sc__law_places.nd rfl (Or.inl rfl)) (fun _ _ _ _ _ => pts_nil) (fun _ _ _ _ _ => (pe_popK (K := K) rfl (pv 2) (pa_cons (pe_g (PromO.call G__law_draw (hr.mono (by decide)) (passA (E := EF))) (by rfl) T.g__law_draw T.k__law_draw (pa_cons (pv 0) (pa_cons (pe_callB (cr_len (K := K) rfl) (by rfl) T.f_len (by decide +kernel) (pa_cons (pv 2) pa_nil)) pa_nil))) pa_nil))))) pss_nil))), ?_⟩
  exact fn_of1 (F := F__law_places) (envU := fun _ => List.replicate 4 .no) h (fun l_pen_here => rfl) (fun p c l_pen_here => (ss_asg (se_cl srl_sp0 (sa_cons se_var (sa_cons (se_lst (sa_cons se_int (sa_cons se_int (sa_cons se_int (sa_cons se_int (sa_cons se_int (sa_cons se_int (sa_cons se_int sa_nil)))))))) sa_nil))) (fun l_many0 => (ss_own (sn_rg (srg_1 (se_cl srl_sp0 (sa_cons se_var (sa_cons (se_lst (sa_cons se_int (sa_cons se_int (sa_cons se_int (sa_cons se_int sa_nil))))) sa_nil))))) (fun l_left19 => (ss_retPop (i := 2) (k := 3) (by decide) (si_rg1 (sa_cons se_var sa_nil)) (fun cu35 l_k35 => (se_lend (i := 2) (ds := cu35) (se_cl srl_sp0 (sa_cons se_var (sa_cons (se_cb srl_len (sa_cons se_var sa_nil)) sa_nil)))))))))))
abbrev N__law_part : List Str := ["_law_pen_here"]
theorem sc__law_part : FnScope N__law_part ["_law_pen_here"] (defScope s__law_part) := ⟨rfl, rfl, rfl, by decide +kernel, rfl, by decide +kernel, by decide +kernel⟩
def F__law_part (l_pen_here : D) : Tr D :=
  fin (bd (bd (bd (bd (bd (.ok l_pen_here) fun v1 => (bd (.ok []) fun r2 => .ok (v1 :: r2))) (ul1 F__law_places)) fun v17 => (bd (bd (bd (bd (.ok l_pen_here) fun v3 => (bd (.ok []) fun r4 => .ok (v3 :: r4))) (ul1 F__law_places)) fun v15 => (bd (bd (bd (bd (.ok l_pen_here) fun v11 => (bd (bd (bd (bd (.ok (.str "front")) fun v7 => (bd (bd (.ok (.str "back")) fun v5 => (bd (.ok []) fun r6 => .ok (v5 :: r6))) fun r8 => .ok (v7 :: r8))) fun ds => if ds.length ≤ sizeLine then .ok (.lst ds) else .bad) fun v9 => (bd (.ok []) fun r10 => .ok (v9 :: r10))) fun r12 => .ok (v11 :: r12))) (ul2 F__law_pick)) fun v13 => (bd (.ok []) fun r14 => .ok (v13 :: r14))) fun r16 => .ok (v15 :: r16))) fun r18 => .ok (v17 :: r18))) fun ds => if ds.length ≤ sizeLine then .ok (.tup ds) else .bad) fun d => .ok (.rt d))
theorem ok__law_part (F : FnA K d__law_part fd) (T : Tx K mg) (G__law_places : PromO P w K mg base CX0 3 (gd "_law_places" K) [] (spF K Tb (ul1 F__law_places))) (G__law_pick : PromO P w K mg base CX0 2 (gd "_law_pick" K) [] (spF K Tb (ul2 F__law_pick))) : FnOk P w K mg base CX0 4 (d__law_part.adr K) fd ["_law_pen_here"] (spF K Tb (ul1 F__law_part)) := by
  refine fnO0 F sc__law_part (fun vs H Q E h => spF_len len1 h) (fun cdv A outer s H vs Q E hr h => ?_)
  refine ⟨_, (pss_cons (ps_ret (pe_tup (pa_cons (pe_g (PromO.call G__law_places (hr.mono (by decide)) (passA (E := E))) (by rfl) T.g__law_places T.k__law_places (pa_cons (pv 0) pa_nil)) (pa_cons (pe_g (PromO.call G__law_places (hr.mono (by decide)) (passA (E := E))) (by rfl) T.g__law_places T.k__law_places (pa_cons (pv 0) pa_nil)) (pa_cons (pe_g (PromO.call G__law_pick (hr.mono (by decide)) (passA (E := E))) (by rfl) T.g__law_pick T.k__law_pick (pa_cons (pv 0) (pa_cons (pe_lst (pa_cons pe_str (pa_cons pe_str pa_nil))) pa_nil))) pa_nil))))) pss_nil), ?_⟩
  exact fn_of1 (F := F__law_part) (envU := fun _ => List.replicate 1 .no) h (fun l_pen_here => rfl) (fun p c l_pen_here => (ss_ret (se_tup (sa_cons (se_cl srl_sp0 (sa_cons se_var sa_nil)) (sa_cons (se_cl srl_sp0 (sa_cons se_var sa_nil)) (sa_cons (se_cl srl_sp0 (sa_cons se_var (sa_cons (se_lst (sa_cons (se_str (by decide)) (sa_cons (se_str (by decide)) sa_nil))) sa_nil))) sa_nil))))))
abbrev N__law_heard : List Str := ["_law_ask", "error", "_law_caught", "_law_found"]
theorem sc__law_heard : FnScope N__law_heard ["_law_ask"] (defScope s__law_heard) := ⟨rfl, rfl, rfl, by decide +kernel, rfl, by decide +kernel, by decide +kernel⟩
def xh__law_heard (cl : Str) : Bool := decide (cl ∈ (["BadChange"] : List Str))
theorem xhT__law_heard (T : Tx K mg) : ∀ cl, xh__law_heard cl = true → PySem.W.exmOne K (.ref (gd cl K)) (.ref (gd "HuntError" K)) = some true := by
  intro cl h
  unfold xh__law_heard at h
  simp only [decide_eq_true_eq, List.mem_cons, List.mem_nil_iff, or_false] at h
  rcases h with rfl
  · exact T.xh_BadChange
def F__law_heard (m : Tr D) : Tr D := tryT m (fun d => nox (fin (bdF (W' := Unit) (bd (bd (bd (.ok .non) fun (v1 : D) => (bd (.ok .non) fun (v2 : D) => (match v2 with | .non => .ok (.bl (isN v1)) | _ => .bad))) asB) fun k => if k = true then (bd (bd (bd (.ok d) fun v4 => (bd (.ok []) fun r5 => .ok (v4 :: r5))) fun ds => if ds.length ≤ sizeLine then .ok (.lst ds) else .bad) fun d => .ok (.rt d)) else (.ok (.nx ()))) fun (w3 : Unit) => (bd (bd (bd (bd (bd (.ok .non) fun d => bd (opt (isi_BadChange d)) fun k => .ok (.bl k)) asB) fun k => if k = true then (bd (bd (.ok .non) fun d => bd (opt (isi_ValueError d)) fun k => .ok (.bl k)) asB) else .ok false) fun k => if k = true then (bd (.ok .non) (xaD ["BadChange"] "part")) else (.ok (.str "other"))) fun d => .ok (.rt d))))) (fun cl fs => if xh__law_heard cl = true then nox (fin (bdF (W' := Unit) (bd (bd (bd (.ok (.err cl fs)) fun (v6 : D) => (bd (.ok .non) fun (v7 : D) => (match v7 with | .non => .ok (.bl (isN v6)) | _ => .bad))) asB) fun k => if k = true then (bd (bd (bd .bad fun v9 => (bd (.ok []) fun r10 => .ok (v9 :: r10))) fun ds => if ds.length ≤ sizeLine then .ok (.lst ds) else .bad) fun d => .ok (.rt d)) else (.ok (.nx ()))) fun (w8 : Unit) => (bd (bd (bd (bd (bd (.ok (.err cl fs)) fun d => bd (opt (isi_BadChange d)) fun k => .ok (.bl k)) asB) fun k => if k = true then (bd (bd (.ok (.err cl fs)) fun d => bd (opt (isi_ValueError d)) fun k => .ok (.bl k)) asB) else .ok false) fun k => if k = true then (bd (.ok (.err cl fs)) (xaD ["BadChange"] "part")) else (.ok (.str "other"))) fun d => .ok (.rt d)))) else .bad)
theorem ok__law_heard {X : Cx} {Tb : List (Addr × Str)} (T : Tx X.K X.mg) {g : Addr} {cdv : Value} {q : Str} : LamX.GivesTo X N__law_heard "_law_heard" (defScope s__law_heard) g cdv (defBody s__law_heard) "_law_ask" q (THd X.K Tb F__law_heard) := by
  intro f c' s H Q tl act hc h
  obtain ⟨p, c, U, b, m, wd, u, ha, al⟩ := h
  refine ⟨_, pss_cons (ps_asg (pe_tup (pa_cons pe_non (pa_cons pe_non pa_nil))) (pg_tup rfl (pgs_cons (pg_name (i := 2) sc__law_heard.nd rfl (.inl rfl)) (pgs_cons (pg_name (i := 3) sc__law_heard.nd rfl (.inl rfl)) pgs_nil)))) (pss_cons (ps_try_keep (X := (cxOf C8.CX0 X.prog X.w X.K X.mg X.base N__law_heard "_law_heard" (defScope s__law_heard) g cdv X.A X.stack s H C8.E0).nox) (i := 1) (c := .ref (gd "HuntError" X.K)) (Wout := fun _ _ _ _ => False) (tb := fun W => tTry 4 (fun E => tAsg (tAct f c' q (tl E)) (gName 3)) W) rfl rfl rfl sc__law_heard.nd rfl rfl ⟨rfl, by decide, .inl T.g_HuntError⟩ LamX.takes0 (fun W pn xe tk _ => try_act 4 rfl tk fun E ⟨W', tk', hW⟩ => pss_one (ps_set (i := 3) sc__law_heard.nd rfl (.inl rfl) (act W' pn xe E _ _ tk' hW))) (fun a oe cls d pn _ _ => pss_one (ps_set (i := 2) sc__law_heard.nd rfl (.inl rfl) (pv 1))))
      (pss_cons (ps_if (pt_cmpR or_isN (pv 2) pe_non (nomark _))
      (pss_cons (ps_ret (pe_lst (pa_cons (pv 3) pa_nil))) pss_nil) pss_nil)
      (pss_cons (ps_ret (pe_ifExp (PW.pt (pw_and (pt_val (pe_callB (call_isiZ (K := X.K) rfl) (by rfl) T.f_isinstance (by decide +kernel) (pa_cons (pv 2) (pa_cons (pe_glob (v := .ref _) rfl T.g_BadChange rfl) pa_nil)))) (pw_and1 (pt_val (pe_callB (call_isiZ (K := X.K) rfl) (by rfl) T.f_isinstance (by decide +kernel) (pa_cons (pv 2) (pa_cons (pe_bltn (v := .ty "ValueError") (by rfl) T.f_ValueError (by decide +kernel) rfl) pa_nil))))))) (pe_xa (K := X.K) rfl (pv 2)) pe_str)) pss_nil))), ?_⟩
  exact heardK (g := ⟨X.K, Tb, p, c⟩) (n := 4) (i := 1) (j := 2) (k := 3) (mN := fun d => (bdF (W' := Unit) (bd (bd (bd (.ok .non) fun (v1 : D) => (bd (.ok .non) fun (v2 : D) => (match v2 with | .non => .ok (.bl (isN v1)) | _ => .bad))) asB) fun k => if k = true then (bd (bd (bd (.ok d) fun v4 => (bd (.ok []) fun r5 => .ok (v4 :: r5))) fun ds => if ds.length ≤ sizeLine then .ok (.lst ds) else .bad) fun d => .ok (.rt d)) else (.ok (.nx ()))) fun (w3 : Unit) => (bd (bd (bd (bd (bd (.ok .non) fun d => bd (opt (isi_BadChange d)) fun k => .ok (.bl k)) asB) fun k => if k = true then (bd (bd (.ok .non) fun d => bd (opt (isi_ValueError d)) fun k => .ok (.bl k)) asB) else .ok false) fun k => if k = true then (bd (.ok .non) (xaD ["BadChange"] "part")) else (.ok (.str "other"))) fun d => .ok (.rt d)))) (mE := fun x => match x with | .err cl fs => (bdF (W' := Unit) (bd (bd (bd (.ok (.err cl fs)) fun (v6 : D) => (bd (.ok .non) fun (v7 : D) => (match v7 with | .non => .ok (.bl (isN v6)) | _ => .bad))) asB) fun k => if k = true then (bd (bd (bd .bad fun v9 => (bd (.ok []) fun r10 => .ok (v9 :: r10))) fun ds => if ds.length ≤ sizeLine then .ok (.lst ds) else .bad) fun d => .ok (.rt d)) else (.ok (.nx ()))) fun (w8 : Unit) => (bd (bd (bd (bd (bd (.ok (.err cl fs)) fun d => bd (opt (isi_BadChange d)) fun k => .ok (.bl k)) asB) fun k => if k = true then (bd (bd (.ok (.err cl fs)) fun d => bd (opt (isi_ValueError d)) fun k => .ok (.bl k)) asB) else .ok false) fun k => if k = true then (bd (.ok (.err cl fs)) (xaD ["BadChange"] "part")) else (.ok (.str "other"))) fun d => .ok (.rt d))) | _ => .bad) (envU := fun _ => List.replicate 4 .no) (xh := xh__law_heard) (HE := gd "HuntError" X.K) rfl (by decide) (by decide) (by decide) (by decide) (by decide) (by decide) (by decide) (xhT__law_heard T) (fun d => (ss_if (fun (w3 : Unit) => [.no, .no, .fz .non, .fz d]) (sb_tst (se_op sr_isN se_var se_non)) (ss_ret (se_lst (sa_cons se_var sa_nil))) (ss_nx (.s (.s (.s (.s .nil))))) (fun (w3 : Unit) => (ss_ret (se_if (sb_and (sb_tb (se_isi (.own _) (isT_BadChange T) se_var)) (sb_tb (se_isi (.ty _) (isT_ValueError T) se_var))) (se_xa (xt_part T) se_var) (se_str (by decide))))))) (fun cl fs => (ss_if (fun (w8 : Unit) => [.no, .no, .fz (.err cl fs), .no]) (sb_tst (se_op sr_isN se_var se_non)) (ss_ret (se_lst (sa_cons se_bad sa_nil))) (ss_nx (.s (.s (.s (.s .nil))))) (fun (w8 : Unit) => (ss_ret (se_if (sb_and (sb_tb (se_isi (.own _) (isT_BadChange T) se_var)) (sb_tb (se_isi (.ty _) (isT_ValueError T) se_var))) (se_xa (xt_part T) se_var) (se_str (by decide))))))) hc ha wd u al
abbrev N__law_odd_places : List Str := ["_law_pen_here", "_law_odd"]
theorem sc__law_odd_places : FnScope N__law_odd_places ["_law_pen_here"] (defScope s__law_odd_places) := ⟨rfl, rfl, rfl, by decide +kernel, rfl, by decide +kernel, by decide +kernel⟩
def F__law_odd_places (l_pen_here : D) : Tr D :=
  fin (bd (bd (bd (.ok .non) fun v50 => (bd (bd (.ok (.int 0)) fun v48 => (bd (bd (.ok (.int 5)) fun v46 => (bd (bd (.ok (.str "0")) fun v44 => (bd (bd (.ok (.str "")) fun v42 => (bd (bd (.ok .dct) fun v40 => (bd (bd (.ok (.bl true)) fun v38 => (bd (bd (bd (bd (.ok (.int 16)) fun v2 => (bd (.ok []) fun r3 => .ok (v2 :: r3))) fun ds => if ds.length ≤ sizeLine then .ok (.lst ds) else .bad) fun v36 => (bd (bd (bd (bd (bd (.ok (.int 1)) negD) fun v4 => (bd (.ok []) fun r5 => .ok (v4 :: r5))) fun ds => if ds.length ≤ sizeLine then .ok (.lst ds) else .bad) fun v34 => (bd (bd (bd (bd (.ok (.bl true)) fun v6 => (bd (.ok []) fun r7 => .ok (v6 :: r7))) fun ds => if ds.length ≤ sizeLine then .ok (.tup ds) else .bad) fun v32 => (bd (bd (bd (bd (.ok .non) fun v8 => (bd (.ok []) fun r9 => .ok (v8 :: r9))) fun ds => if ds.length ≤ sizeLine then .ok (.lst ds) else .bad) fun v30 => (bd (bd (bd (bd (.ok (.str "0")) fun v10 => (bd (.ok []) fun r11 => .ok (v10 :: r11))) fun ds => if ds.length ≤ sizeLine then .ok (.lst ds) else .bad) fun v28 => (bd (bd (bd (bd (.ok (.int 0)) fun v14 => (bd (bd (.ok (.int 0)) fun v12 => (bd (.ok []) fun r13 => .ok (v12 :: r13))) fun r15 => .ok (v14 :: r15))) fun ds => if ds.length ≤ sizeLine then .ok (.lst ds) else .bad) fun v26 => (bd (bd (bd (bd (.ok (.int 3)) fun v20 => (bd (bd (.ok (.int 1)) fun v18 => (bd (bd (.ok (.int 3)) fun v16 => (bd (.ok []) fun r17 => .ok (v16 :: r17))) fun r19 => .ok (v18 :: r19))) fun r21 => .ok (v20 :: r21))) fun ds => if ds.length ≤ sizeLine then .ok (.tup ds) else .bad) fun v24 => (bd (bd (bd (bd (.ok (.int 9)) rgA1) fun r => if rgOk r.1 r.2 then .ok (.lst (rgD r.1 (r.2 - r.1).toNat)) else .bad) fun v22 => (bd (.ok []) fun r23 => .ok (v22 :: r23))) fun r25 => .ok (v24 :: r25))) fun r27 => .ok (v26 :: r27))) fun r29 => .ok (v28 :: r29))) fun r31 => .ok (v30 :: r31))) fun r33 => .ok (v32 :: r33))) fun r35 => .ok (v34 :: r35))) fun r37 => .ok (v36 :: r37))) fun r39 => .ok (v38 :: r39))) fun r41 => .ok (v40 :: r41))) fun r43 => .ok (v42 :: r43))) fun r45 => .ok (v44 :: r45))) fun r47 => .ok (v46 :: r47))) fun r49 => .ok (v48 :: r49))) fun r51 => .ok (v50 :: r51))) fun ds => if ds.length ≤ sizeLine then .ok (.lst ds) else .bad) fun l_odd0 => (bd (bd (bd (.ok l_pen_here) fun v84 => (bd (bd (bd (.ok l_odd0) fun v80 => (bd (bd (bd (bd (bd (.ok (.int 16)) rgA1) fun r => if rgOk r.1 r.2 then .ok (.tup (rgD r.1 (r.2 - r.1).toNat)) else .bad) fun v78 => (bd (bd (bd (bd (.ok (.int 0)) fun v58 => (bd (bd (.ok (.int 1)) fun v56 => (bd (bd (.ok (.int 2)) fun v54 => (bd (bd (.ok (.int 99)) fun v52 => (bd (.ok []) fun r53 => .ok (v52 :: r53))) fun r55 => .ok (v54 :: r55))) fun r57 => .ok (v56 :: r57))) fun r59 => .ok (v58 :: r59))) fun ds => if ds.length ≤ sizeLine then .ok (.lst ds) else .bad) fun v76 => (bd (bd (bd (bd (bd (bd (.ok (.int 0)) fun v60 => (bd (.ok []) fun r61 => .ok (v60 :: r61))) fun ds => if ds.length ≤ sizeLine then .ok (.lst ds) else .bad) fun v62 => (bd (.ok []) fun r63 => .ok (v62 :: r63))) fun ds => if ds.length ≤ sizeLine then .ok (.lst ds) else .bad) fun v74 => (bd (bd (bd (bd (.ok (.int 0)) fun v66 => (bd (bd (.ok (.int 100000000000000000000)) fun v64 => (bd (.ok []) fun r65 => .ok (v64 :: r65))) fun r67 => .ok (v66 :: r67))) fun ds => if ds.length ≤ sizeLine then .ok (.tup ds) else .bad) fun v72 => (bd (bd (bd (bd (.ok (.bl false)) fun v68 => (bd (.ok []) fun r69 => .ok (v68 :: r69))) fun ds => if ds.length ≤ sizeLine then .ok (.lst ds) else .bad) fun v70 => (bd (.ok []) fun r71 => .ok (v70 :: r71))) fun r73 => .ok (v72 :: r73))) fun r75 => .ok (v74 :: r75))) fun r77 => .ok (v76 :: r77))) fun r79 => .ok (v78 :: r79))) fun ds => if ds.length ≤ sizeLine then .ok (.lst ds) else .bad) fun v81 => addD v80 v81)) fun v82 => (bd (.ok []) fun r83 => .ok (v82 :: r83))) fun r85 => .ok (v84 :: r85))) (ul2 F__law_pick)) fun d => .ok (.rt d)))
theorem ok__law_odd_places (F : FnA K d__law_odd_places fd) (T : Tx K mg) (G__law_pick : PromO P w K mg base CX0 2 (gd "_law_pick" K) [] (spF K Tb (ul2 F__law_pick))) : FnOk P w K mg base CX0 3 (d__law_odd_places.adr K) fd ["_law_pen_here"] (spF K Tb (ul1 F__law_odd_places)) := by
  refine fnO0 F sc__law_odd_places (fun vs H Q E h => spF_len len1 h) (fun cdv A outer s H vs Q E hr h => ?_)
  refine ⟨_, (pss_cons (ps_set (i := 1) sc__law_odd_places.nd rfl (.inl rfl) (pe_lst (pa_cons pe_non (pa_cons pe_int (pa_cons pe_int (pa_cons pe_str (pa_cons pe_str (pa_cons pe_dnewK (pa_cons pe_bl (pa_cons (pe_lst (pa_cons pe_int pa_nil)) (pa_cons (pe_lst (pa_cons (pe_un un_neg pe_int) pa_nil)) (pa_cons (pe_tup (pa_cons pe_bl pa_nil)) (pa_cons (pe_lst (pa_cons pe_non pa_nil)) (pa_cons (pe_lst (pa_cons pe_str pa_nil)) (pa_cons (pe_lst (pa_cons pe_int (pa_cons pe_int pa_nil))) (pa_cons (pe_tup (pa_cons pe_int (pa_cons pe_int (pa_cons pe_int pa_nil)))) (pa_cons (pe_listRg rfl (by rfl) T.f_list (prg_1 (by rfl) T.f_range pe_int)) pa_nil)))))))))))))))))
      (pss_cons (ps_ret (pe_g (PromO.call G__law_pick (hr.mono (by decide)) (passA (E := E))) (by rfl) T.g__law_pick T.k__law_pick (pa_cons (pv 0) (pa_cons (pe_op (op_addA (K := K) rfl) (pv 1) (pe_lst (pa_cons (pe_tupRg rfl (by rfl) T.f_tuple (prg_1 (by rfl) T.f_range pe_int)) (pa_cons (pe_lst (pa_cons pe_int (pa_cons pe_int (pa_cons pe_int (pa_cons pe_int pa_nil))))) (pa_cons (pe_lst (pa_cons (pe_lst (pa_cons pe_int pa_nil)) pa_nil)) (pa_cons (pe_tup (pa_cons pe_int (pa_cons (pe_op (op_powK 100000000000000000000) pe_int pe_int) pa_nil))) (pa_cons (pe_lst (pa_cons pe_bl pa_nil)) pa_nil))))))) pa_nil)))) pss_nil)), ?_⟩
  exact fn_of1 (F := F__law_odd_places) (envU := fun _ => List.replicate 2 .no) h (fun l_pen_here => rfl) (fun p c l_pen_here => (ss_asg (se_lst (sa_cons se_non (sa_cons se_int (sa_cons se_int (sa_cons (se_str (by decide)) (sa_cons (se_str (by decide)) (sa_cons se_dct (sa_cons se_bl (sa_cons (se_lst (sa_cons se_int sa_nil)) (sa_cons (se_lst (sa_cons (se_un sr_neg se_int) sa_nil)) (sa_cons (se_tup (sa_cons se_bl sa_nil)) (sa_cons (se_lst (sa_cons se_non sa_nil)) (sa_cons (se_lst (sa_cons (se_str (by decide)) sa_nil)) (sa_cons (se_lst (sa_cons se_int (sa_cons se_int sa_nil))) (sa_cons (se_tup (sa_cons se_int (sa_cons se_int (sa_cons se_int sa_nil)))) (sa_cons (se_lstRg (srg_1 se_int)) sa_nil)))))))))))))))) (fun l_odd0 => (ss_ret (se_cl srl_sp0 (sa_cons se_var (sa_cons (se_op sr_add se_var (se_lst (sa_cons (se_tupRg (srg_1 se_int)) (sa_cons (se_lst (sa_cons se_int (sa_cons se_int (sa_cons se_int (sa_cons se_int sa_nil))))) (sa_cons (se_lst (sa_cons (se_lst (sa_cons se_int sa_nil)) sa_nil)) (sa_cons (se_tup (sa_cons se_int (sa_cons (se_powK (by decide) (by decide) (by decide)) sa_nil))) (sa_cons (se_lst (sa_cons se_bl sa_nil)) sa_nil))))))) sa_nil)))))))
abbrev N__law_refused_right : List Str := ["_law_pen_here", "_law_part_here", "_law_wrong", "_law_first", "_law_last", "_law_edge", "_law_heard_here", "_law_due", "_law_k", "_law_name", "_law_is_wrong"]
theorem sc__law_refused_right : FnScope N__law_refused_right ["_law_pen_here", "_law_part_here"] (defScope s__law_refused_right) := ⟨rfl, rfl, rfl, by decide +kernel, rfl, by decide +kernel, by decide +kernel⟩
def F__law_refused_right (l_pen_here l_part_here : D) : Tr D :=
  fin (bd (bd (bd (bd (.ok (.int 3)) fun v2 => (bd (.ok []) fun r3 => .ok (v2 :: r3))) (ul1 rg1)) fun ds => bd (lcF (fun l_k3 => nox (bd (bd (bd (bd (.ok l_pen_here) fun v7 => (bd (bd (.ok (.int 2)) fun v5 => (bd (.ok []) fun r6 => .ok (v5 :: r6))) fun r8 => .ok (v7 :: r8))) (ul2 F_draw)) fun v9 => (bd (.ok (.int 0)) fun v10 => eqD v9 v10)) fun y => .ok (some y))) ds) fun r => .ok (.lst r)) fun l_wrong0 => (bd (bd (bd (bd (.ok l_wrong0) fun v12 => (bd (.ok (.int 0)) fun v13 => ixD v12 v13)) asB) fun k => if k = true then (bd (bd (.ok l_pen_here) fun v14 => (bd (.ok []) fun r15 => .ok (v14 :: r15))) (ul1 F__law_odd_places)) else (bd (.ok l_part_here) fun v16 => (bd (.ok (.int 0)) fun v17 => ixD v16 v17))) fun l_first10 => (bd (bd (bd (bd (.ok l_wrong0) fun v19 => (bd (.ok (.int 1)) fun v20 => ixD v19 v20)) asB) fun k => if k = true then (bd (bd (.ok l_pen_here) fun v21 => (bd (.ok []) fun r22 => .ok (v21 :: r22))) (ul1 F__law_odd_places)) else (bd (.ok l_part_here) fun v23 => (bd (.ok (.int 1)) fun v24 => ixD v23 v24))) fun l_last17 => (bd (bd (bd (bd (.ok l_wrong0) fun v26 => (bd (.ok (.int 2)) fun v27 => ixD v26 v27)) asB) fun k => if k = true then (bd (bd (.ok l_pen_here) fun v52 => (bd (bd (bd (bd (.ok (.str "")) fun v48 => (bd (bd (.ok (.str "left")) fun v46 => (bd (bd (.ok (.str "Front")) fun v44 => (bd (bd (.ok .non) fun v42 => (bd (bd (.ok (.int 0)) fun v40 => (bd (bd (.ok (.bl true)) fun v38 => (bd (bd (bd (bd (.ok (.str "front")) fun v28 => (bd (.ok []) fun r29 => .ok (v28 :: r29))) fun ds => if ds.length ≤ sizeLine then .ok (.lst ds) else .bad) fun v36 => (bd (bd (bd (bd (.ok (.str "back")) fun v30 => (bd (.ok []) fun r31 => .ok (v30 :: r31))) fun ds => if ds.length ≤ sizeLine then .ok (.tup ds) else .bad) fun v34 => (bd (bd (.ok .dct) fun v32 => (bd (.ok []) fun r33 => .ok (v32 :: r33))) fun r35 => .ok (v34 :: r35))) fun r37 => .ok (v36 :: r37))) fun r39 => .ok (v38 :: r39))) fun r41 => .ok (v40 :: r41))) fun r43 => .ok (v42 :: r43))) fun r45 => .ok (v44 :: r45))) fun r47 => .ok (v46 :: r47))) fun r49 => .ok (v48 :: r49))) fun ds => if ds.length ≤ sizeLine then .ok (.lst ds) else .bad) fun v50 => (bd (.ok []) fun r51 => .ok (v50 :: r51))) fun r53 => .ok (v52 :: r53))) (ul2 F__law_pick)) else (bd (.ok l_part_here) fun v54 => (bd (.ok (.int 2)) fun v55 => ixD v54 v55))) fun l_edge24 => (bd (nox (F__law_heard (bd (bd (.ok l_first10) fun v61 => (bd (bd (.ok l_last17) fun v59 => (bd (bd (.ok l_edge24) fun v57 => (bd (.ok []) fun r58 => .ok (v57 :: r58))) fun r60 => .ok (v59 :: r60))) fun r62 => .ok (v61 :: r62))) (fun ds => bd ((fun fs => ul3 (F_Change___init__ fs)) [] ds) fun fs => .ok (.obj "Change" fs))))) fun l_heard_here55 => (bd (bd (bd (bd (bd (bd (.ok (.str "front")) fun v68 => (bd (bd (.ok (.str "back")) fun v66 => (bd (bd (.ok (.str "side")) fun v64 => (bd (.ok []) fun r65 => .ok (v64 :: r65))) fun r67 => .ok (v66 :: r67))) fun r69 => .ok (v68 :: r69))) fun ds => if ds.length ≤ sizeLine then .ok (.lst ds) else .bad) fun v72 => (bd (bd (.ok l_wrong0) fun v70 => (bd (.ok []) fun r71 => .ok (v70 :: r71))) fun r73 => .ok (v72 :: r73))) (ul2 zipD)) fun ds => bd (lcF (fun d75 => nox (un2 d75 fun l_name73 l_is_wrong73 => (bd (bd (.ok l_is_wrong73) asB) fun k => if k = true then bd (.ok l_name73) fun y => .ok (some y) else .ok none))) ds) fun r => .ok (.lst r)) fun l_due62 => (bd (bd (bd (bd (.ok l_due62) fun v76 => (bd (bd (.ok []) fun ds => if ds.length ≤ sizeLine then .ok (.lst ds) else .bad) fun v77 => neD v76 v77)) asB) fun k => if k = true then (bd (.ok l_heard_here55) fun v80 => (bd (bd (.ok l_due62) fun v78 => (bd (.ok (.int 0)) fun v79 => ixD v78 v79)) fun v81 => eqD v80 v81)) else (bd (.ok l_heard_here55) fun d => bd (opt (isi_list d)) fun k => .ok (.bl k))) fun d => .ok (.rt d))))))))
theorem ok__law_refused_right (F : FnA K d__law_refused_right fd) (T : Tx K mg) (G__law_draw : PromO P w K mg base CX0 1 (gd "_law_draw" K) [] (spF K Tb (ul2 F_draw))) (G__law_odd_places : PromO P w K mg base CX0 3 (gd "_law_odd_places" K) [] (spF K Tb (ul1 F__law_odd_places))) (G__law_pick : PromO P w K mg base CX0 2 (gd "_law_pick" K) [] (spF K Tb (ul2 F__law_pick))) (GH__law_heard : HrdP K d__law_heard ["_law_ask"]) (LD__law_refused_right : LamD base mg K Tb d__law_refused_right ("_law_refused_right", none)) (G_Change___init__ : PromO P w K mg base (L2.CX P w) 4 (md "Change" "__init__" K) [] (spI K Tb "Change" (fun fs => ul3 (F_Change___init__ fs)))) : FnOk P w K mg base CX0 8 (d__law_refused_right.adr K) fd ["_law_pen_here", "_law_part_here"] (spF K Tb (ul2 F__law_refused_right)) := by
  obtain ⟨fdH, FH, hbH⟩ := GH__law_heard
  obtain ⟨ocH, odH, dVH, kVH, docH, pmH, anH, cdvH, ctH, oslH, rfl, lkH, hcH, _, _⟩ := FH.ex
  have ecode : fd.code = .ref (He.cT K ("_law_refused_right", none)).1 := codeOf_fn (p := ("_law_refused_right", none)) F
  refine fnO1 F sc__law_refused_right (fun vs H Q E h => spF_len len2 h) (fun cdv A outer s H vs Q E hcdv hr h => ?_)
  have hcode : cdv = .ref (He.cT K ("_law_refused_right", none)).1 := hcdv.trans ecode
  refine ⟨_, (pss_cons (ps_setLc (i := 2) (own := [("_law_k", 8)]) (g := gName 8) (by rfl) sc__law_refused_right.nd rfl rfl (sw_true rfl rfl rfl (by decide +kernel)) (pi_range1 (by rfl) T.f_range (pa_cons pe_int pa_nil)) (blkOk_by (own := [("_law_k", 8)]) (N := N__law_refused_right) (sc := defScope s__law_refused_right) (by decide +kernel)) (fun _ _ _ _ _ => pg_name (i := 8) sc__law_refused_right.nd rfl (Or.inl rfl)) (fun _ _ _ _ _ => pts_nil) (fun _ _ _ _ _ => (pe_cmpR (op_eqA (K := K) rfl hr.units) (pe_g (PromO.call G__law_draw (hr.mono (by decide)) (passA (E := EF))) (by rfl) T.g__law_draw T.k__law_draw (pa_cons (pv 0) (pa_cons pe_int pa_nil))) pe_int (nomark _))))
      (pss_cons (ps_set (i := 3) sc__law_refused_right.nd rfl (.inr rfl) (pe_ifExp (pt_val (pe_ix (ix_seqK (K := K) rfl) (pv 2) pe_int (fun _ _ => rfl))) (pe_g (PromO.call G__law_odd_places (hr.mono (by decide)) (passA (E := E))) (by rfl) T.g__law_odd_places T.k__law_odd_places (pa_cons (pv 0) pa_nil)) (pe_ix (ix_seqK (K := K) rfl) (pv 1) pe_int (fun _ _ => rfl))))
      (pss_cons (ps_set (i := 4) sc__law_refused_right.nd rfl (.inr rfl) (pe_ifExp (pt_val (pe_ix (ix_seqK (K := K) rfl) (pv 2) pe_int (fun _ _ => rfl))) (pe_g (PromO.call G__law_odd_places (hr.mono (by decide)) (passA (E := E))) (by rfl) T.g__law_odd_places T.k__law_odd_places (pa_cons (pv 0) pa_nil)) (pe_ix (ix_seqK (K := K) rfl) (pv 1) pe_int (fun _ _ => rfl))))
      (pss_cons (ps_set (i := 5) sc__law_refused_right.nd rfl (.inr rfl) (pe_ifExp (pt_val (pe_ix (ix_seqK (K := K) rfl) (pv 2) pe_int (fun _ _ => rfl))) (pe_g (PromO.call G__law_pick (hr.mono (by decide)) (passA (E := E))) (by rfl) T.g__law_pick T.k__law_pick (pa_cons (pv 0) (pa_cons (pe_lst (pa_cons pe_str (pa_cons pe_str (pa_cons pe_str (pa_cons pe_non (pa_cons pe_int (pa_cons pe_bl (pa_cons (pe_lst (pa_cons pe_str pa_nil)) (pa_cons (pe_tup (pa_cons pe_str pa_nil)) (pa_cons pe_dnewK pa_nil)))))))))) pa_nil))) (pe_ix (ix_seqK (K := K) rfl) (pv 1) pe_int (fun _ _ => rfl))))
      (pss_cons (ps_set (i := 6) sc__law_refused_right.nd rfl (.inl rfl) (LamX.pe_lamcall (T := Tb) (k := 5) (by rfl) T.g__law_heard T.k__law_heard lkH hcH hbH sc__law_heard rfl (.inl rfl) (ok__law_heard (Tb := Tb) T) LD__law_refused_right.tb hcode LD__law_refused_right.mem LD__law_refused_right.hu (hr.mono (by decide)) (LamX.lamS_by (by show LamX.lamSB (defScope s__law_refused_right) _ = true; decide +kernel)) rfl (fun _ _ _ _ _ => rfl) (fun A outer s H E f c' hr => (pe_g (PromO.make T.mk_Change G_Change___init__ (hr.mono (by decide)) (pass_on rfl rfl rfl rfl)) (by rfl) T.g_Change T.k_Change (pa_cons (pv 3) (pa_cons (pv 4) (pa_cons (pv 5) pa_nil)))))))
      (pss_cons (ps_setLc (i := 7) (own := [("_law_name", 9), ("_law_is_wrong", 10)]) (g := gTup _ 2 (gCons (gName 9) (gCons (gName 10) gNil))) (tt := _) (by rfl) sc__law_refused_right.nd rfl rfl (sw_true rfl rfl rfl (by decide +kernel)) (pi_zipAK (K := K) rfl (by rfl) T.f_zip (pa_cons (pe_lst (pa_cons pe_str (pa_cons pe_str (pa_cons pe_str pa_nil)))) (pa_cons (pv 2) pa_nil))) (blkOk_by (own := [("_law_name", 9), ("_law_is_wrong", 10)]) (N := N__law_refused_right) (sc := defScope s__law_refused_right) (by decide +kernel)) (fun _ _ _ _ _ => (pg_tup rfl (pgs_cons (pg_name (i := 9) sc__law_refused_right.nd rfl (Or.inl rfl)) (pgs_cons (pg_name (i := 10) sc__law_refused_right.nd rfl (Or.inl rfl)) pgs_nil)))) (fun _ _ _ _ _ => (pts_one (pt_val (pv 10)))) (fun _ _ _ _ _ => (pv 9)))
      (pss_cons (ps_ret (pe_ifExp (pt_cmpR (op_neA (K := K) rfl hr.units) (pv 7) (pe_lst pa_nil) (nomark _)) (pe_cmpR (op_eqA (K := K) rfl hr.units) (pv 6) (pe_ix (ix_seqK (K := K) rfl) (pv 7) pe_int (fun _ _ => rfl)) (nomark _)) (pe_callB (call_isiZ (K := K) rfl) (by rfl) T.f_isinstance (by decide +kernel) (pa_cons (pv 6) (pa_cons (pe_bltn (v := .ty "list") (by rfl) T.f_list (by decide +kernel) rfl) pa_nil))))) pss_nil))))))), ?_⟩
  exact fn_of2 (F := F__law_refused_right) (envU := fun _ => List.replicate 11 .no) h (fun l_pen_here l_part_here => rfl) (fun p c l_pen_here l_part_here => (ss_asg (se_lc (si_rg1 (sa_cons se_int sa_nil)) (fun l_k3 => (sc_map (se_op sr_eq (se_cl srl_sp0 (sa_cons se_var (sa_cons se_int sa_nil))) se_int)))) (fun l_wrong0 => (ss_asg (se_if (sb_tb (se_op sr_ix se_var se_int)) (se_cl srl_sp0 (sa_cons se_var sa_nil)) (se_op sr_ix se_var se_int)) (fun l_first10 => (ss_asg (se_if (sb_tb (se_op sr_ix se_var se_int)) (se_cl srl_sp0 (sa_cons se_var sa_nil)) (se_op sr_ix se_var se_int)) (fun l_last17 => (ss_asg (se_if (sb_tb (se_op sr_ix se_var se_int)) (se_cl srl_sp0 (sa_cons se_var (sa_cons (se_lst (sa_cons (se_str (by decide)) (sa_cons (se_str (by decide)) (sa_cons (se_str (by decide)) (sa_cons se_non (sa_cons se_int (sa_cons se_bl (sa_cons (se_lst (sa_cons (se_str (by decide)) sa_nil)) (sa_cons (se_tup (sa_cons (se_str (by decide)) sa_nil)) (sa_cons se_dct sa_nil)))))))))) sa_nil))) (se_op sr_ix se_var se_int)) (fun l_edge24 => (ss_asg (se_lam fun E => (se_cl srl_mk0 (sa_cons se_var (sa_cons se_var (sa_cons se_var sa_nil))))) (fun l_heard_here55 => (ss_asg (se_lc (si_zip (sa_cons (se_lst (sa_cons (se_str (by decide)) (sa_cons (se_str (by decide)) (sa_cons (se_str (by decide)) sa_nil)))) (sa_cons se_var sa_nil))) (fun d75 => (sc_tup2 (by decide) (fun l_name73 l_is_wrong73 => (sb_tb se_var)) (fun l_name73 l_is_wrong73 => se_var)))) (fun l_due62 => (ss_ret (se_if (sb_tst (se_op sr_ne se_var (se_lst sa_nil))) (se_op sr_eq se_var (se_op sr_ix se_var se_int)) (se_isi (.ty _) (isT_list T) se_var))))))))))))))))
abbrev N__law_told_right : List Str := ["_law_change", "_law_part_here", "_law_told", "_law_due", "_law_some", "_law_place"]
theorem sc__law_told_right : FnScope N__law_told_right ["_law_change", "_law_part_here"] (defScope s__law_told_right) := ⟨rfl, rfl, rfl, by decide +kernel, rfl, by decide +kernel, by decide +kernel⟩
def F__law_told_right (l_change l_part_here : D) : Tr D :=
  fin (bd (bd (bd (bd (.ok l_change) (fldD "Change" "front")) fun v6 => (bd (bd (bd (.ok l_change) (fldD "Change" "back")) fun v4 => (bd (bd (bd (.ok l_change) (fldD "Change" "side")) fun v2 => (bd (.ok []) fun r3 => .ok (v2 :: r3))) fun r5 => .ok (v4 :: r5))) fun r7 => .ok (v6 :: r7))) fun ds => if ds.length ≤ sizeLine then .ok (.lst ds) else .bad) fun l_told0 => (bd (bd (bd (bd (bd (.ok l_part_here) fun v9 => (bd (.ok none) fun lo => bd (bd (.ok (.int 2)) asI) fun hi => slD v9 lo hi)) itD) fun ds => bd (lcF (fun l_some10 => nox (bd (bd (bd (bd (bd (bd (bd (.ok l_some10) itD) fun ds => bd (lcF (fun l_place11 => nox (bd (bd (bd (.ok l_place11) fun v13 => (bd (.ok []) fun r14 => .ok (v13 :: r14))) (ul1 intD)) fun y => .ok (some y))) ds) fun r => .ok (.lst r)) fun v15 => (bd (.ok []) fun r16 => .ok (v15 :: r16))) (ul1 sortD)) fun v17 => (bd (.ok []) fun r18 => .ok (v17 :: r18))) (ul1 tupD)) fun y => .ok (some y))) ds) fun r => .ok (.lst r)) fun v23 => (bd (bd (bd (bd (.ok l_part_here) fun v19 => (bd (.ok (.int 2)) fun v20 => ixD v19 v20)) fun v21 => (bd (.ok []) fun r22 => .ok (v21 :: r22))) fun ds => if ds.length ≤ sizeLine then .ok (.lst ds) else .bad) fun v24 => addD v23 v24)) fun l_due7 => (bd (bd (bd (bd (.ok l_told0) fun v25 => (bd (.ok []) fun r26 => .ok (v25 :: r26))) (ul1 reprX)) fun v29 => (bd (bd (bd (.ok l_due7) fun v27 => (bd (.ok []) fun r28 => .ok (v27 :: r28))) (ul1 reprX)) fun v30 => eqD v29 v30)) fun d => .ok (.rt d))))
theorem ok__law_told_right (F : FnA K d__law_told_right fd) (T : Tx K mg)  : FnG P w K mg base CX0 1 (d__law_told_right.adr K) fd ["_law_change", "_law_part_here"] (spF K Tb (ul2 F__law_told_right)) := by
  refine fnG0 F sc__law_told_right (fun vs H Q E h => spF_len len2 h) (fun cdv A outer s H vs Q E hr hg h => ?_)
  have hu100 := Nat.lt_of_le_of_lt (Nat.add_le_add_left (show 102 ≤ 16 * 0 + 200 by decide) _) (show _ + (16 * 0 + 200) < cLine from hr.un)
  refine ⟨_, (pss_cons (ps_set (i := 2) sc__law_told_right.nd rfl (.inl rfl) (pe_lst (pa_cons (pe_f (pv 0) T.cl_Change T.n_Change_front) (pa_cons (pe_f (pv 0) T.cl_Change T.n_Change_back) (pa_cons (pe_f (pv 0) T.cl_Change T.n_Change_side) pa_nil)))))
      (pss_cons (ps_set (i := 3) sc__law_told_right.nd rfl (.inl rfl) (pe_op (op_addA (K := K) rfl) (pe_lc (own := [("_law_some", 4)]) (g := gName 4) (by rfl) sc__law_told_right.nd (pi_seq (K := K) rfl (pe_slice (sl_all (K := K) rfl) (pv 1) po_none (po_some pe_int))) (blkOk_by (own := [("_law_some", 4)]) (N := N__law_told_right) (sc := defScope s__law_told_right) (by decide +kernel)) (fun _ _ _ _ _ => pg_name (i := 4) sc__law_told_right.nd rfl (Or.inl rfl)) (fun _ _ _ _ _ => pts_nil) (fun _ _ _ _ _ => (pe_callTy (cr_tupOf (K := K) rfl) (by rfl) T.f_tuple (by decide +kernel) (pa_cons (pe_callB (cr_sortedK (K := K) rfl) (by rfl) T.f_sorted (by decide +kernel) (pa_cons (pe_lc (own := [("_law_place", 5)]) (g := gName 5) (by rfl) sc__law_told_right.nd (pi_seq (K := K) rfl (pv 4)) (blkOk_by (own := [("_law_place", 5)]) (by kernel_rfl)) (fun _ _ _ _ _ => pg_name (i := 5) sc__law_told_right.nd rfl (Or.inl rfl)) (fun _ _ _ _ _ => pts_nil) (fun _ _ _ _ _ => (pe_callTy cr_int (by rfl) T.f_int (by decide +kernel) (pa_cons (pv 5) pa_nil)))) pa_nil)) pa_nil)))) (pe_lst (pa_cons (pe_ix (ix_seqK (K := K) rfl) (pv 1) pe_int (fun _ _ => rfl)) pa_nil))))
      (pss_cons (ps_ret (pe_cmpR (op_eqA (K := K) rfl hr.units) (pe_callB (call_showX (K := K) rfl T.sysm hu100 hg) (by rfl) T.f_repr (by decide +kernel) (pa_cons (pv 2) pa_nil)) (pe_callB (call_showX (K := K) rfl T.sysm hu100 hg) (by rfl) T.f_repr (by decide +kernel) (pa_cons (pv 3) pa_nil)) (nomark _))) pss_nil))), ?_⟩
  exact fn_of2 (F := F__law_told_right) (envU := fun _ => List.replicate 6 .no) h (fun l_change l_part_here => rfl) (fun p c l_change l_part_here => (ss_asg (se_lst (sa_cons (se_un sr_fld se_var) (sa_cons (se_un sr_fld se_var) (sa_cons (se_un sr_fld se_var) sa_nil)))) (fun l_told0 => (ss_asg (se_op sr_add (se_lc (si_seq (se_sl se_var so_none (so_some se_int))) (fun l_some10 => (sc_map (se_cb srl_tup (sa_cons (se_cb srl_sorted (sa_cons (se_lc (si_seq se_var) (fun l_place11 => (sc_map (se_cb srl_int (sa_cons se_var sa_nil))))) sa_nil)) sa_nil))))) (se_lst (sa_cons (se_op sr_ix se_var se_int) sa_nil))) (fun l_due7 => (ss_ret (se_op sr_eq (se_cb srl_reprX (sa_cons se_var sa_nil)) (se_cb srl_reprX (sa_cons se_var sa_nil)))))))))
abbrev N__law_equal_right : List Str := ["_law_pen_here", "_law_change", "_law_part_here", "_law_free", "_law_other", "_law_turned", "_law_first", "_law_last", "_law_edge", "_law_place", "_law_thing"]
theorem sc__law_equal_right : FnScope N__law_equal_right ["_law_pen_here", "_law_change", "_law_part_here"] (defScope s__law_equal_right) := ⟨rfl, rfl, rfl, by decide +kernel, rfl, by decide +kernel, by decide +kernel⟩
def F__law_equal_right (l_pen_here l_change l_part_here : D) : Tr D :=
  fin (bd (.ok l_part_here) fun d2 => un3 d2 fun l_first0 l_last0 l_edge0 => (bdF (W' := Unit) (bd (bd (bd (bd (.ok l_change) fun v15 => (bd (nox (bd (bd (bd (bd (bd (.ok l_first0) revA) fun v5 => (bd (.ok []) fun r6 => .ok (v5 :: r6))) (ul1 tupD)) fun v13 => (bd (bd (bd (.ok l_last0) revA) fun v11 => (bd (bd (.ok l_edge0) fun v9 => (bd (.ok []) fun r10 => .ok (v9 :: r10))) fun r12 => .ok (v11 :: r12))) fun r14 => .ok (v13 :: r14))) (fun ds => bd ((fun fs => ul3 (F_Change___init__ fs)) [] ds) fun fs => .ok (.obj "Change" fs)))) fun v16 => neO "Change" eqr_Change (ul2 F_Change___eq__) v15 v16)) asB) fun k => if k = true then .ok true else (bd (bd (bd (.ok l_change) fun v27 => (bd (nox (bd (bd (bd (bd (.ok l_first0) fun v17 => (bd (.ok []) fun r18 => .ok (v17 :: r18))) (ul1 listD)) fun v25 => (bd (bd (bd (bd (.ok l_last0) fun v19 => (bd (.ok []) fun r20 => .ok (v19 :: r20))) (ul1 tupD)) fun v23 => (bd (bd (.ok l_edge0) fun v21 => (bd (.ok []) fun r22 => .ok (v21 :: r22))) fun r24 => .ok (v23 :: r24))) fun r26 => .ok (v25 :: r26))) (fun ds => bd ((fun fs => ul3 (F_Change___init__ fs)) [] ds) fun fs => .ok (.obj "Change" fs)))) fun v28 => eqO "Change" eqr_Change (ul2 F_Change___eq__) v27 v28)) asB) fun k => .ok (!k))) fun k => if k = true then (bd (.ok (.bl false)) fun d => .ok (.rt d)) else (.ok (.nx ()))) fun (w29 : Unit) => (bd (bd (bd (bd (.ok (.int 16)) fun v31 => (bd (.ok []) fun r32 => .ok (v31 :: r32))) (ul1 rg1)) fun ds => bd (lcF (fun l_place32 => nox (bd (bd (bd (.ok l_place32) fun v34 => (bd (.ok l_first0) fun v35 => notinD v34 v35)) asB) fun k => if k = true then bd (.ok l_place32) fun y => .ok (some y) else .ok none)) ds) fun r => .ok (.lst r)) fun l_free29 => (bd (bd (bd (bd (bd (bd (bd (.ok l_first0) fun v37 => (bd (.ok []) fun r38 => .ok (v37 :: r38))) (ul1 lenD)) fun v39 => (bd (.ok (.int 8)) fun v40 => ltD v39 v40)) asB) fun k => if k = true then (bd (bd (.ok l_first0) fun v41 => (bd (bd (.ok []) fun ds => if ds.length ≤ sizeLine then .ok (.lst ds) else .bad) fun v42 => neD v41 v42)) asB) else .ok false) fun k => if k = true then (bd (bd (.ok l_pen_here) fun v55 => (bd (bd (bd (bd (bd (.ok l_first0) fun v45 => (bd (bd (.ok l_free29) fun v43 => (bd (.ok none) fun lo => bd (bd (.ok (.int 1)) asI) fun hi => slD v43 lo hi)) fun v46 => addD v45 v46)) fun v51 => (bd (bd (bd (.ok l_first0) fun v47 => (bd (bd (.ok (.int 1)) asI) fun lo => bd (.ok none) fun hi => slD v47 lo hi)) fun v49 => (bd (.ok []) fun r50 => .ok (v49 :: r50))) fun r52 => .ok (v51 :: r52))) fun ds => if ds.length ≤ sizeLine then .ok (.lst ds) else .bad) fun v53 => (bd (.ok []) fun r54 => .ok (v53 :: r54))) fun r56 => .ok (v55 :: r56))) (ul2 F__law_pick)) else (bd (bd (.ok l_first0) fun v57 => (bd (.ok none) fun lo => bd (bd (.ok (.int 1)) asI) fun hi => slD v57 lo hi)) fun v61 => (bd (bd (.ok l_free29) fun v59 => (bd (.ok none) fun lo => bd (bd (.ok (.int 1)) asI) fun hi => slD v59 lo hi)) fun v62 => addD v61 v62))) fun l_other35 => (bdF (W' := Unit) (bd (bd (bd (bd (bd (bd (bd (.ok l_other35) itD) fun ds => bd (lcF (fun l_place62 => nox (bd (bd (bd (.ok l_place62) fun v64 => (bd (.ok []) fun r65 => .ok (v64 :: r65))) (ul1 intD)) fun y => .ok (some y))) ds) fun r => .ok (.lst r)) fun v66 => (bd (.ok []) fun r67 => .ok (v66 :: r67))) (ul1 sortD)) fun v73 => (bd (bd (bd (bd (bd (.ok l_first0) itD) fun ds => bd (lcF (fun l_place67 => nox (bd (bd (bd (.ok l_place67) fun v69 => (bd (.ok []) fun r70 => .ok (v69 :: r70))) (ul1 intD)) fun y => .ok (some y))) ds) fun r => .ok (.lst r)) fun v71 => (bd (.ok []) fun r72 => .ok (v71 :: r72))) (ul1 sortD)) fun v74 => neD v73 v74)) asB) fun k => if k = true then (bdF (W' := Unit) (bd (bd (bd (.ok l_change) fun v82 => (bd (nox (bd (bd (.ok l_other35) fun v80 => (bd (bd (.ok l_last0) fun v78 => (bd (bd (.ok l_edge0) fun v76 => (bd (.ok []) fun r77 => .ok (v76 :: r77))) fun r79 => .ok (v78 :: r79))) fun r81 => .ok (v80 :: r81))) (fun ds => bd ((fun fs => ul3 (F_Change___init__ fs)) [] ds) fun fs => .ok (.obj "Change" fs)))) fun v83 => eqO "Change" eqr_Change (ul2 F_Change___eq__) v82 v83)) asB) fun k => if k = true then (bd (.ok (.bl false)) fun d => .ok (.rt d)) else (.ok (.nx ()))) fun (w84 : Unit) => (.ok (.nx ()))) else (.ok (.nx ()))) fun (w75 : Unit) => (bd (bd (bd (bd (.ok l_edge0) fun v86 => (bd (.ok (.str "front")) fun v87 => eqD v86 v87)) asB) fun k => if k = true then (.ok (.str "back")) else (.ok (.str "front"))) fun l_turned84 => (bdF (W' := Unit) (bd (bd (bd (.ok l_change) fun v94 => (bd (nox (bd (bd (.ok l_first0) fun v92 => (bd (bd (.ok l_last0) fun v90 => (bd (bd (.ok l_turned84) fun v88 => (bd (.ok []) fun r89 => .ok (v88 :: r89))) fun r91 => .ok (v90 :: r91))) fun r93 => .ok (v92 :: r93))) (fun ds => bd ((fun fs => ul3 (F_Change___init__ fs)) [] ds) fun fs => .ok (.obj "Change" fs)))) fun v95 => eqO "Change" eqr_Change (ul2 F_Change___eq__) v94 v95)) asB) fun k => if k = true then (bd (.ok (.bl false)) fun d => .ok (.rt d)) else (.ok (.nx ()))) fun (w96 : Unit) => (bd (bd (bd (bd (bd (bd (.ok .non) fun v107 => (bd (bd (.ok l_first0) fun v105 => (bd (bd (bd (bd (.ok l_change) fun v97 => (bd (.ok []) fun r98 => .ok (v97 :: r98))) (ul1 (strO "Change" (ul1 F_Change___str__)))) fun v103 => (bd (bd (.ok l_part_here) fun v101 => (bd (bd (.ok (.int 0)) fun v99 => (bd (.ok []) fun r100 => .ok (v99 :: r100))) fun r102 => .ok (v101 :: r102))) fun r104 => .ok (v103 :: r104))) fun r106 => .ok (v105 :: r106))) fun r108 => .ok (v107 :: r108))) fun ds => if ds.length ≤ sizeLine then .ok (.tup ds) else .bad) itD) fun ds => bd (lcF (fun l_thing108 => nox (bd (bd (bd (.ok l_change) fun v110 => (bd (.ok l_thing108) fun v111 => eqO "Change" eqr_Change (ul2 F_Change___eq__) v110 v111)) asB) fun k => if k = true then bd (.ok l_thing108) fun y => .ok (some y) else .ok none)) ds) fun r => .ok (.lst r)) fun v112 => (bd (bd (.ok []) fun ds => if ds.length ≤ sizeLine then .ok (.lst ds) else .bad) fun v113 => eqD v112 v113)) fun d => .ok (.rt d)))))))))
theorem ok__law_equal_right (F : FnA K d__law_equal_right fd) (T : Tx K mg) (G_Change___init__ : PromO P w K mg base (L2.CX P w) 4 (md "Change" "__init__" K) [] (spI K Tb "Change" (fun fs => ul3 (F_Change___init__ fs)))) (G_Change___eq__ : PromO P w K mg base CX0 1 (md "Change" "__eq__" K) [] (spF K Tb (ul2 F_Change___eq__))) (G__law_pick : PromO P w K mg base CX0 2 (gd "_law_pick" K) [] (spF K Tb (ul2 F__law_pick))) (G_Change___str__ : PromO P w K mg base CX0 1 (md "Change" "__str__" K) [] (spF K Tb (ul1 F_Change___str__))) : FnOk P w K mg base CX0 6 (d__law_equal_right.adr K) fd ["_law_pen_here", "_law_change", "_law_part_here"] (spF K Tb (ul3 F__law_equal_right)) := by
  refine fnO0 F sc__law_equal_right (fun vs H Q E h => spF_len len3 h) (fun cdv A outer s H vs Q E hr h => ?_)
  refine ⟨_, (pss_cons (ps_asg (pv 2) (pg_tup rfl (pgs_cons (pg_name (i := 6) sc__law_equal_right.nd rfl (.inr rfl)) (pgs_cons (pg_name (i := 7) sc__law_equal_right.nd rfl (.inl rfl)) (pgs_cons (pg_name (i := 8) sc__law_equal_right.nd rfl (.inl rfl)) pgs_nil)))))
      (pss_cons (ps_if (PW.pt (pw_or (pt_cmpR (op_neO (K := K) rfl T.mt_Change___eq__ T.ne_Change G_Change___eq__ (hr.mono (by decide)) (passA (E := E))) (pv 1) (pe_g (PromO.make T.mk_Change G_Change___init__ (hr.mono (by decide)) passF) (by rfl) T.g_Change T.k_Change (pa_cons (pe_callTy (cr_tupOf (K := K) rfl) (by rfl) T.f_tuple (by decide +kernel) (pa_cons (pe_revAK (K := K) rfl (pv 6)) pa_nil)) (pa_cons (pe_revAK (K := K) rfl (pv 7)) (pa_cons (pv 8) pa_nil)))) (nomark _)) (pw_or1 (pt_not (pt_cmpR (op_eqO (K := K) rfl T.mt_Change___eq__ hr.units0 (PromO.call G_Change___eq__ (hr.mono (by decide)) (passA (E := E)))) (pv 1) (pe_g (PromO.make T.mk_Change G_Change___init__ (hr.mono (by decide)) passF) (by rfl) T.g_Change T.k_Change (pa_cons (pe_callTy (cr_listOf (K := K) rfl) (by rfl) T.f_list (by decide +kernel) (pa_cons (pv 6) pa_nil)) (pa_cons (pe_callTy (cr_tupOf (K := K) rfl) (by rfl) T.f_tuple (by decide +kernel) (pa_cons (pv 7) pa_nil)) (pa_cons (pv 8) pa_nil)))) (nomark _))))))
      (pss_cons (ps_ret pe_bl) pss_nil) pss_nil)
      (pss_cons (ps_setLc (i := 3) (own := [("_law_place", 9)]) (g := gName 9) (tt := _) (by rfl) sc__law_equal_right.nd rfl rfl (sw_true rfl rfl rfl (by decide +kernel)) (pi_range1 (by rfl) T.f_range (pa_cons pe_int pa_nil)) (blkOk_by (own := [("_law_place", 9)]) (N := N__law_equal_right) (sc := defScope s__law_equal_right) (by decide +kernel)) (fun _ _ _ _ _ => pg_name (i := 9) sc__law_equal_right.nd rfl (Or.inl rfl)) (fun _ _ _ _ _ => (pts_one (pt_cmpR (op_notinA (K := K) rfl) (pv 9) (pv 6) (by rfl)))) (fun _ _ _ _ _ => (pv 9)))
      (pss_cons (ps_set (i := 4) sc__law_equal_right.nd rfl (.inl rfl) (pe_ifExp (PW.pt (pw_and (pt_cmpR op_lt (pe_callB (cr_len (K := K) rfl) (by rfl) T.f_len (by decide +kernel) (pa_cons (pv 6) pa_nil)) pe_int (nomark _)) (pw_and1 (pt_cmpR (op_neA (K := K) rfl hr.units) (pv 6) (pe_lst pa_nil) (nomark _))))) (pe_g (PromO.call G__law_pick (hr.mono (by decide)) (passA (E := E))) (by rfl) T.g__law_pick T.k__law_pick (pa_cons (pv 0) (pa_cons (pe_lst (pa_cons (pe_op (op_addA (K := K) rfl) (pv 6) (pe_slice (sl_all (K := K) rfl) (pv 3) po_none (po_some pe_int))) (pa_cons (pe_slice (sl_all (K := K) rfl) (pv 6) (po_some pe_int) po_none) pa_nil))) pa_nil))) (pe_op (op_addA (K := K) rfl) (pe_slice (sl_all (K := K) rfl) (pv 6) po_none (po_some pe_int)) (pe_slice (sl_all (K := K) rfl) (pv 3) po_none (po_some pe_int)))))
      (pss_cons (ps_if (pt_cmpR (op_neA (K := K) rfl hr.units) (pe_callB (cr_sortedK (K := K) rfl) (by rfl) T.f_sorted (by decide +kernel) (pa_cons (pe_lc (own := [("_law_place", 9)]) (g := gName 9) (by rfl) sc__law_equal_right.nd (pi_seq (K := K) rfl (pv 4)) (blkOk_by (own := [("_law_place", 9)]) (N := N__law_equal_right) (sc := defScope s__law_equal_right) (by decide +kernel)) (fun _ _ _ _ _ => pg_name (i := 9) sc__law_equal_right.nd rfl (Or.inl rfl)) (fun _ _ _ _ _ => pts_nil) (fun _ _ _ _ _ => (pe_callTy cr_int (by rfl) T.f_int (by decide +kernel) (pa_cons (pv 9) pa_nil)))) pa_nil)) (pe_callB (cr_sortedK (K := K) rfl) (by rfl) T.f_sorted (by decide +kernel) (pa_cons (pe_lc (own := [("_law_place", 9)]) (g := gName 9) (by rfl) sc__law_equal_right.nd (pi_seq (K := K) rfl (pv 6)) (blkOk_by (own := [("_law_place", 9)]) (N := N__law_equal_right) (sc := defScope s__law_equal_right) (by decide +kernel)) (fun _ _ _ _ _ => pg_name (i := 9) sc__law_equal_right.nd rfl (Or.inl rfl)) (fun _ _ _ _ _ => pts_nil) (fun _ _ _ _ _ => (pe_callTy cr_int (by rfl) T.f_int (by decide +kernel) (pa_cons (pv 9) pa_nil)))) pa_nil)) (nomark _))
      (pss_cons (ps_if (pt_cmpR (op_eqO (K := K) rfl T.mt_Change___eq__ hr.units0 (PromO.call G_Change___eq__ (hr.mono (by decide)) (passA (E := E)))) (pv 1) (pe_g (PromO.make T.mk_Change G_Change___init__ (hr.mono (by decide)) passF) (by rfl) T.g_Change T.k_Change (pa_cons (pv 4) (pa_cons (pv 7) (pa_cons (pv 8) pa_nil)))) (nomark _))
      (pss_cons (ps_ret pe_bl) pss_nil) pss_nil)
      pss_nil) pss_nil)
      (pss_cons (ps_set (i := 5) sc__law_equal_right.nd rfl (.inl rfl) (pe_ifExp (pt_cmpR (op_eqA (K := K) rfl hr.units) (pv 8) pe_str (nomark _)) pe_str pe_str))
      (pss_cons (ps_if (pt_cmpR (op_eqO (K := K) rfl T.mt_Change___eq__ hr.units0 (PromO.call G_Change___eq__ (hr.mono (by decide)) (passA (E := E)))) (pv 1) (pe_g (PromO.make T.mk_Change G_Change___init__ (hr.mono (by decide)) passF) (by rfl) T.g_Change T.k_Change (pa_cons (pv 6) (pa_cons (pv 7) (pa_cons (pv 5) pa_nil)))) (nomark _))
      (pss_cons (ps_ret pe_bl) pss_nil) pss_nil)
      (pss_cons (ps_ret (pe_cmpR (op_eqA (K := K) rfl hr.units) (pe_lc (own := [("_law_thing", 10)]) (g := gName 10) (tt := _) (by rfl) sc__law_equal_right.nd (pi_seq (K := K) rfl (pe_tup (pa_cons pe_non (pa_cons (pv 6) (pa_cons (pe_callTy (cr_strO T.mt_Change___str__ G_Change___str__ (hr.mono (by decide)) (passA (E := E))) (by rfl) T.f_str (by decide +kernel) (pa_cons (pv 1) pa_nil)) (pa_cons (pv 2) (pa_cons pe_int pa_nil))))))) (blkOk_by (own := [("_law_thing", 10)]) (N := N__law_equal_right) (sc := defScope s__law_equal_right) (by decide +kernel)) (fun _ _ _ _ _ => pg_name (i := 10) sc__law_equal_right.nd rfl (Or.inl rfl)) (fun _ _ _ _ _ => (pts_one (pt_cmpR (op_eqO (K := K) rfl T.mt_Change___eq__ hr.units0 (PromO.call G_Change___eq__ (hr.mono (by decide)) (passA (E := EF)))) (pv 1) (pv 10) (nomark _)))) (fun _ _ _ _ _ => (pv 10))) (pe_lst pa_nil) (nomark _))) pss_nil)))))))), ?_⟩
  exact fn_of3 (F := F__law_equal_right) (envU := fun _ => List.replicate 11 .no) h (fun l_pen_here l_change l_part_here => rfl) (fun p c l_pen_here l_change l_part_here => (ss_unp se_var (fun d2 => sx_tup3 (fun l_first0 l_last0 l_edge0 => (ss_if (fun (w29 : Unit) => [.fz l_pen_here, .fz l_change, .fz l_part_here, .no, .no, .no, .fz l_first0, .fz l_last0, .fz l_edge0, .no, .no]) (sb_or (sb_tst (se_op (sr_neO (eqR_Change T)) se_var (se_nox (se_cl srl_mk0 (sa_cons (se_cb srl_tup (sa_cons (se_revA se_var) sa_nil)) (sa_cons (se_revA se_var) (sa_cons se_var sa_nil))))))) (sb_not (sb_tst (se_op (sr_eqO (eqR_Change T) srl_sp0) se_var (se_nox (se_cl srl_mk0 (sa_cons (se_cb srl_list (sa_cons se_var sa_nil)) (sa_cons (se_cb srl_tup (sa_cons se_var sa_nil)) (sa_cons se_var sa_nil))))))))) (ss_ret se_bl) (ss_nx (.s (.s (.s (.s (.s (.s (.s (.s (.s (.s (.s .nil)))))))))))) (fun (w29 : Unit) => (ss_asg (se_lc (si_rg1 (sa_cons se_int sa_nil)) (fun l_place32 => (sc_name (sb_tst (se_op sr_notin se_var se_var)) se_var))) (fun l_free29 => (ss_asg (se_if (sb_and (sb_tst (se_op sr_lt (se_cb srl_len (sa_cons se_var sa_nil)) se_int)) (sb_tst (se_op sr_ne se_var (se_lst sa_nil)))) (se_cl srl_sp0 (sa_cons se_var (sa_cons (se_lst (sa_cons (se_op sr_add se_var (se_sl se_var so_none (so_some se_int))) (sa_cons (se_sl se_var (so_some se_int) so_none) sa_nil))) sa_nil))) (se_op sr_add (se_sl se_var so_none (so_some se_int)) (se_sl se_var so_none (so_some se_int)))) (fun l_other35 => (ss_if (fun (w75 : Unit) => [.fz l_pen_here, .fz l_change, .fz l_part_here, .fz l_free29, .fz l_other35, .no, .fz l_first0, .fz l_last0, .fz l_edge0, .no, .no]) (sb_tst (se_op sr_ne (se_cb srl_sorted (sa_cons (se_lc (si_seq se_var) (fun l_place62 => (sc_map (se_cb srl_int (sa_cons se_var sa_nil))))) sa_nil)) (se_cb srl_sorted (sa_cons (se_lc (si_seq se_var) (fun l_place67 => (sc_map (se_cb srl_int (sa_cons se_var sa_nil))))) sa_nil)))) (ss_if (fun (w84 : Unit) => [.fz l_pen_here, .fz l_change, .fz l_part_here, .fz l_free29, .fz l_other35, .no, .fz l_first0, .fz l_last0, .fz l_edge0, .no, .no]) (sb_tst (se_op (sr_eqO (eqR_Change T) srl_sp0) se_var (se_nox (se_cl srl_mk0 (sa_cons se_var (sa_cons se_var (sa_cons se_var sa_nil))))))) (ss_ret se_bl) (ss_nx (.s (.s (.s (.s (.s (.s (.s (.s (.s (.s (.s .nil)))))))))))) (fun (w84 : Unit) => (ss_nx (.s (.s (.s (.s (.s (.s (.s (.s (.s (.s (.s .nil)))))))))))))) (ss_nx (.s (.s (.s (.s (.s (.s (.s (.s (.s (.s (.s .nil)))))))))))) (fun (w75 : Unit) => (ss_asg (se_if (sb_tst (se_op sr_eq se_var (se_str (by decide)))) (se_str (by decide)) (se_str (by decide))) (fun l_turned84 => (ss_if (fun (w96 : Unit) => [.fz l_pen_here, .fz l_change, .fz l_part_here, .fz l_free29, .fz l_other35, .fz l_turned84, .fz l_first0, .fz l_last0, .fz l_edge0, .no, .no]) (sb_tst (se_op (sr_eqO (eqR_Change T) srl_sp0) se_var (se_nox (se_cl srl_mk0 (sa_cons se_var (sa_cons se_var (sa_cons se_var sa_nil))))))) (ss_ret se_bl) (ss_nx (.s (.s (.s (.s (.s (.s (.s (.s (.s (.s (.s .nil)))))))))))) (fun (w96 : Unit) => (ss_ret (se_op sr_eq (se_lc (si_seq (se_tup (sa_cons se_non (sa_cons se_var (sa_cons (se_cb srl_strO (sa_cons se_var sa_nil)) (sa_cons se_var (sa_cons se_int sa_nil))))))) (fun l_thing108 => (sc_name (sb_tst (se_op (sr_eqO (eqR_Change T) srl_sp0) se_var se_var)) se_var))) (se_lst sa_nil)))))))))))))))))))
abbrev N_law : List Str := ["_law_script", "_law_pen_here", "_law_turn", "_law_bare", "_law_told", "_law_part_here", "_law_passed", "_law_change"]
theorem sc_law : FnScope N_law ["_law_script"] (defScope s_law) := ⟨rfl, rfl, rfl, by decide +kernel, rfl, by decide +kernel, by decide +kernel⟩
def F_law : Tr D :=
  fin (bdF (bd (bd (bd (.ok (.int 7)) fun v1 => (bd (.ok []) fun r2 => .ok (v1 :: r2))) (ul1 rg1)) fun ds => forF (fun (d4 : D) (w3 : Unit) => (bd (bd (bd (.ok .pen) fun v7 => (bd (.ok []) fun r8 => .ok (v7 :: r8))) (ul1 F__law_part)) fun l_part_here5 => (bd (bd (bd (bd (.ok l_part_here5) fun v9 => (bd (.ok (.int 0)) fun v10 => ixD v9 v10)) listL) fun a => bd (bd (bd (.ok l_part_here5) fun v11 => (bd (.ok (.int 1)) fun v12 => ixD v11 v12)) listL) fun b => if a.length + 100 ≤ sizeLine ∧ b.length + 100 ≤ sizeLine then .ok [a, b] else .bad) fun (ds13 : List (List D)) => if ds13.length = 2 then bd (pkN (nox (bd (bd (bd (.ok (.lst (ds13.map D.lst))) fun v15 => (bd (.ok (.int 0)) fun v16 => ixD v15 v16)) fun v25 => (bd (bd (bd (.ok (.lst (ds13.map D.lst))) fun v17 => (bd (.ok (.int 1)) fun v18 => ixD v17 v18)) fun v23 => (bd (bd (bd (.ok l_part_here5) fun v19 => (bd (.ok (.int 2)) fun v20 => ixD v19 v20)) fun v21 => (bd (.ok []) fun r22 => .ok (v21 :: r22))) fun r24 => .ok (v23 :: r24))) fun r26 => .ok (v25 :: r26))) (fun ds => bd ((fun fs => ul3 (F_Change___init__ fs)) [] ds) fun fs => .ok (.obj "Change" fs))))) fun (d14 : D) => (bd (.ok (.int 14)) fun (_ : D) => (bd (.ok (.int 13)) fun (_ : D) => (bdF (W' := Unit) (bd (bd (bd (bd (bd (bd (.ok d14) fun v29 => (bd (bd (.ok l_part_here5) fun v27 => (bd (.ok []) fun r28 => .ok (v27 :: r28))) fun r30 => .ok (v29 :: r30))) (ul2 F__law_told_right)) asB) fun k => .ok (!k)) fun k => if k = true then .ok true else (bd (bd (bd (bd (.ok .pen) fun v35 => (bd (bd (.ok d14) fun v33 => (bd (bd (.ok l_part_here5) fun v31 => (bd (.ok []) fun r32 => .ok (v31 :: r32))) fun r34 => .ok (v33 :: r34))) fun r36 => .ok (v35 :: r36))) (ul3 F__law_equal_right)) asB) fun k => .ok (!k))) fun k => if k = true then (bd (.ok (.bl false)) fun d => .ok (.rt d)) else (.ok (.nx ()))) fun (w37 : Unit) => (bdF (W' := Unit) (bd (bd (bd (bd (bd (.ok .pen) fun v40 => (bd (bd (.ok l_part_here5) fun v38 => (bd (.ok []) fun r39 => .ok (v38 :: r39))) fun r41 => .ok (v40 :: r41))) (ul2 F__law_refused_right)) asB) fun k => .ok (!k)) fun k => if k = true then (bd (.ok (.bl false)) fun d => .ok (.rt d)) else (.ok (.nx ()))) fun (w42 : Unit) => (.ok (.nx ())))))) else .bad))) ds ()) fun (w3 : Unit) => (bd (nox (bd (.ok []) (fun ds => bd ((fun fs => ul3 (F_Change___init__ fs)) [] (ds ++ [.tup [], .tup [], .str "front"])) fun fs => .ok (.obj "Change" fs)))) fun l_bare42 => (bd (bd (bd (bd (.ok l_bare42) (fldD "Change" "front")) fun v57 => (bd (bd (bd (.ok l_bare42) (fldD "Change" "back")) fun v55 => (bd (bd (bd (.ok l_bare42) (fldD "Change" "side")) fun v53 => (bd (bd (.ok (.int 8)) fun v51 => (bd (bd (.ok (.int 15)) fun v49 => (bd (bd (bd (nox (bd (bd (.ok (.str "back")) fun v45 => (bd (.ok []) fun r46 => .ok (v45 :: r46))) ((kwM "Change" 0 1 [.inr 0, .inr 1, .inl 0] [D.tup [], D.tup [], D.str "front"] (fun fs => ul3 (F_Change___init__ fs))) []))) (fldD "Change" "side")) fun v47 => (bd (.ok []) fun r48 => .ok (v47 :: r48))) fun r50 => .ok (v49 :: r50))) fun r52 => .ok (v51 :: r52))) fun r54 => .ok (v53 :: r54))) fun r56 => .ok (v55 :: r56))) fun r58 => .ok (v57 :: r58))) fun ds => if ds.length ≤ sizeLine then .ok (.lst ds) else .bad) fun l_told43 => (bd (bd (bd (bd (bd (bd (.ok l_told43) fun v59 => (bd (.ok []) fun r60 => .ok (v59 :: r60))) (ul1 reprX)) fun v75 => (bd (bd (bd (bd (bd (bd (.ok []) fun ds => if ds.length ≤ sizeLine then .ok (.tup ds) else .bad) fun v71 => (bd (bd (bd (.ok []) fun ds => if ds.length ≤ sizeLine then .ok (.tup ds) else .bad) fun v69 => (bd (bd (.ok (.str "front")) fun v67 => (bd (bd (.ok (.int 8)) fun v65 => (bd (bd (.ok (.int 15)) fun v63 => (bd (bd (.ok (.str "back")) fun v61 => (bd (.ok []) fun r62 => .ok (v61 :: r62))) fun r64 => .ok (v63 :: r64))) fun r66 => .ok (v65 :: r66))) fun r68 => .ok (v67 :: r68))) fun r70 => .ok (v69 :: r70))) fun r72 => .ok (v71 :: r72))) fun ds => if ds.length ≤ sizeLine then .ok (.lst ds) else .bad) fun v73 => (bd (.ok []) fun r74 => .ok (v73 :: r74))) (ul1 reprX)) fun v76 => eqD v75 v76)) asB) fun k => if k = true then (bd (nox (bd (bd (bd (bd (.ok (.int 1)) fun v81 => (bd (.ok []) fun r82 => .ok (v81 :: r82))) fun ds => if ds.length ≤ sizeLine then .ok (.lst ds) else .bad) fun v83 => (bd (bd (bd (bd (.ok (.int 2)) fun v77 => (bd (.ok []) fun r78 => .ok (v77 :: r78))) fun ds => if ds.length ≤ sizeLine then .ok (.tup ds) else .bad) fun v79 => (bd (.ok []) fun r80 => .ok (v79 :: r80))) fun r84 => .ok (v83 :: r84))) ((kwM "Change" 0 2 [.inl 1, .inl 0, .inr 2] [D.tup [], D.tup [], D.str "front"] (fun fs => ul3 (F_Change___init__ fs))) []))) fun v93 => (bd (nox (bd (bd (bd (bd (.ok (.int 2)) fun v85 => (bd (.ok []) fun r86 => .ok (v85 :: r86))) fun ds => if ds.length ≤ sizeLine then .ok (.tup ds) else .bad) fun v91 => (bd (bd (bd (bd (.ok (.int 1)) fun v87 => (bd (.ok []) fun r88 => .ok (v87 :: r88))) fun ds => if ds.length ≤ sizeLine then .ok (.tup ds) else .bad) fun v89 => (bd (.ok []) fun r90 => .ok (v89 :: r90))) fun r92 => .ok (v91 :: r92))) (fun ds => bd ((fun fs => ul3 (F_Change___init__ fs)) [] (ds ++ [.str "front"])) fun fs => .ok (.obj "Change" fs)))) fun v94 => eqO "Change" eqr_Change (ul2 F_Change___eq__) v93 v94)) else .ok (.bl false)) fun d => .ok (.rt d)))))
theorem ok_law (F : FnA K d_law fd) (T : Tx K mg) (hyes : Yes F_law) (G__law_pen : PromO P w K mg base CX0 1 (gd "_law_pen" K) [] (spPn K)) (G__law_part : PromO P w K mg base CX0 4 (gd "_law_part" K) [] (spF K Tb (ul1 F__law_part))) (G_Change___init__ : PromO P w K mg base (L2.CX P w) 4 (md "Change" "__init__" K) [] (spI K Tb "Change" (fun fs => ul3 (F_Change___init__ fs)))) (G__law_told_right : Prom P w K mg base CX0 1 (gd "_law_told_right" K) [] (spF K Tb (ul2 F__law_told_right))) (G__law_equal_right : PromO P w K mg base CX0 6 (gd "_law_equal_right" K) [] (spF K Tb (ul3 F__law_equal_right))) (G__law_refused_right : PromO P w K mg base CX0 8 (gd "_law_refused_right" K) [] (spF K Tb (ul2 F__law_refused_right))) (GD_Change___init___0 : PromO P w K mg base (L2.CX P w) 4 (md "Change" "__init__" K) [V.ref (He.dflAt (("Change", some "__init__")) 0 K), V.ref (He.dflAt (("Change", some "__init__")) 1 K), V.str "front"] (spI K Tb "Change" (fun fs => ul3 (F_Change___init__ fs)))) (GK_Change___init___1_side : PromK P w K mg base (L2.CX P w) 4 (md "Change" "__init__" K) 1 ["side"] (fun vs zs => vs ++ picks [.inr 0, .inr 1, .inl 0] [V.ref (He.dflAt (("Change", some "__init__")) 0 K), V.ref (He.dflAt (("Change", some "__init__")) 1 K), V.str "front"] zs) (spI K Tb "Change" (fun fs => ul3 (F_Change___init__ fs)))) (GK_Change___init___1_back_front : PromK P w K mg base (L2.CX P w) 4 (md "Change" "__init__" K) 1 ["back", "front"] (fun vs zs => vs ++ picks [.inl 1, .inl 0, .inr 2] [V.ref (He.dflAt (("Change", some "__init__")) 0 K), V.ref (He.dflAt (("Change", some "__init__")) 1 K), V.str "front"] zs) (spI K Tb "Change" (fun fs => ul3 (F_Change___init__ fs)))) (GD_Change___init___2 : PromO P w K mg base (L2.CX P w) 4 (md "Change" "__init__" K) [V.str "front"] (spI K Tb "Change" (fun fs => ul3 (F_Change___init__ fs)))) (G_Change___eq__ : PromO P w K mg base CX0 1 (md "Change" "__eq__" K) [] (spF K Tb (ul2 F_Change___eq__))) : FnG P w K mg base CX0 9 (d_law.adr K) fd ["_law_script"] (spLaw K Tb) := by
  refine fnG0 F sc_law (fun vs H Q E h => spLaw_len h) (fun cdv A outer s H vs Q E hr hg h => ?_)
  have hu100 := Nat.lt_of_le_of_lt (Nat.add_le_add_left (show 102 ≤ 16 * 8 + 200 by decide) _) (show _ + (16 * 8 + 200) < cLine from hr.un)
  refine ⟨_, pss_cons (ps_set (i := 1) sc_law.nd rfl (.inl rfl) (pe_g (PromO.call G__law_pen (hr.mono (by decide)) (passA (E := E))) (by rfl) T.g__law_pen T.k__law_pen (pa_cons (pv 0) pa_nil)))
      (pss_cons (ps_for PassesOwn.never rfl (pi_range1 (by rfl) T.f_range (pa_cons pe_int pa_nil)) (pg_name (i := 2) sc_law.nd rfl (.inl rfl))
      (pss_cons (ps_set (i := 5) sc_law.nd rfl (.inl rfl) (pe_g (PromO.call G__law_part (hr.mono (by decide)) (passA (E := EF))) (by rfl) T.g__law_part T.k__law_part (pa_cons (pv 1) pa_nil)))
      (pss_cons (ps_asg (pe_lst (pa_cons (pe_callTy (cr_listOf (K := K) rfl) (by rfl) T.f_list (by decide +kernel) (pa_cons (pe_ix (ix_seqK (K := K) rfl) (pv 5) pe_int (fun _ _ => rfl)) pa_nil)) (pa_cons (pe_callTy (cr_listOf (K := K) rfl) (by rfl) T.f_list (by decide +kernel) (pa_cons (pe_ix (ix_seqK (K := K) rfl) (pv 5) pe_int (fun _ _ => rfl)) pa_nil)) pa_nil))) (pg_name (i := 6) sc_law.nd rfl (.inl rfl)))
      (pss_cons (ps_set (i := 7) sc_law.nd rfl (.inl rfl) (pe_g (PromO.make T.mk_Change G_Change___init__ (hr.mono (by decide)) passF) (by rfl) T.g_Change T.k_Change (pa_cons (pe_ix (ix_seqK (K := K) rfl) (pv 6) pe_int (fun _ _ => rfl)) (pa_cons (pe_ix (ix_seqK (K := K) rfl) (pv 6) pe_int (fun _ _ => rfl)) (pa_cons (pe_ix (ix_seqK (K := K) rfl) (pv 5) pe_int (fun _ _ => rfl)) pa_nil)))))
      (pss_cons (ps_expr (pe_bm PySem.F.plainAttrs_list PySem.F.slot_list_append PySem.F.type_list_append mt_append (pe_ix (ix_seqK (K := K) rfl) (pv 6) pe_int (fun _ _ => rfl)) (pa_cons pe_int pa_nil)))
      (pss_cons (ps_expr (pe_bm PySem.F.plainAttrs_list PySem.F.slot_list_append PySem.F.type_list_append mt_append (pe_ix (ix_seqK (K := K) rfl) (pv 6) pe_int (fun _ _ => rfl)) (pa_cons pe_int pa_nil)))
      (pss_cons (ps_if (PW.pt (pw_or (pt_not (pt_val (pe_g (Prom.call G__law_told_right (hr.mono (by decide)) hg (passA (E := EF))) (by rfl) T.g__law_told_right T.k__law_told_right (pa_cons (pv 7) (pa_cons (pv 5) pa_nil))))) (pw_or1 (pt_not (pt_val (pe_g (PromO.call G__law_equal_right (hr.mono (by decide)) (passA (E := EF))) (by rfl) T.g__law_equal_right T.k__law_equal_right (pa_cons (pv 1) (pa_cons (pv 7) (pa_cons (pv 5) pa_nil)))))))))
      (pss_cons (ps_ret pe_bl) pss_nil) pss_nil)
      (pss_cons (ps_if (pt_not (pt_val (pe_g (PromO.call G__law_refused_right (hr.mono (by decide)) (passA (E := EF))) (by rfl) T.g__law_refused_right T.k__law_refused_right (pa_cons (pv 1) (pa_cons (pv 5) pa_nil)))))
      (pss_cons (ps_ret pe_bl) pss_nil) pss_nil)
      pss_nil))))))))
      (pss_cons (ps_set (i := 3) sc_law.nd rfl (.inl rfl) (pe_g0 (PromO.make T.mk_Change GD_Change___init___0 (hr.mono (by decide)) passF) (by rfl) T.g_Change T.k_Change))
      (pss_cons (ps_set (i := 4) sc_law.nd rfl (.inl rfl) (pe_lst (pa_cons (pe_f (pv 3) T.cl_Change T.n_Change_front) (pa_cons (pe_f (pv 3) T.cl_Change T.n_Change_back) (pa_cons (pe_f (pv 3) T.cl_Change T.n_Change_side) (pa_cons (ClX.pe_cval (pe_glob (v := .ref _) rfl T.g_Change rfl)) (pa_cons (ClX.pe_cval (pe_glob (v := .ref _) rfl T.g_Change rfl)) (pa_cons (pe_f (pe_gk0 (makeP T.mk_Change GK_Change___init___1_side (hr.mono (by decide)) passF) (by rfl) T.g_Change T.k_Change (pk_cons pe_str pk_nil)) T.cl_Change T.n_Change_side) pa_nil))))))))
      (pss_cons (ps_ret (pe_and (pe_cmpR (op_eqA (K := K) rfl hr.units) (pe_callB (call_showX (K := K) rfl T.sysm hu100 hg) (by rfl) T.f_repr (by decide +kernel) (pa_cons (pv 4) pa_nil)) (pe_callB (call_showX (K := K) rfl T.sysm hu100 hg) (by rfl) T.f_repr (by decide +kernel) (pa_cons (pe_lst (pa_cons (pe_tup pa_nil) (pa_cons (pe_tup pa_nil) (pa_cons pe_str (pa_cons pe_int (pa_cons pe_int (pa_cons pe_str pa_nil))))))) pa_nil)) (nomark _)) (pe_one (pe_cmpR (op_eqO (K := K) rfl T.mt_Change___eq__ hr.units0 (PromO.call G_Change___eq__ (hr.mono (by decide)) (passA (E := EF)))) (pe_gk0 (makeP T.mk_Change GK_Change___init___1_back_front (hr.mono (by decide)) passF) (by rfl) T.g_Change T.k_Change (pk_cons (pe_lst (pa_cons pe_int pa_nil)) (pk_cons (pe_tup (pa_cons pe_int pa_nil)) pk_nil))) (pe_g (PromO.make T.mk_Change GD_Change___init___2 (hr.mono (by decide)) passF) (by rfl) T.g_Change T.k_Change (pa_cons (pe_tup (pa_cons pe_int pa_nil)) (pa_cons (pe_tup (pa_cons pe_int pa_nil)) pa_nil))) (nomark _))))) pss_nil)))), ?_⟩
  exact law_of (N := N_law) (i := 1) (n := 7) (F := F_law) (envU := fun _ => List.replicate 8 .no) hyes h rfl (by decide) (by decide) rfl (fun p c => (ss_for (fun (w3 : Unit) => [.no, .fz .pen, .no, .no, .no, .no, .no, .no]) (si_rg1 (sa_cons se_int sa_nil)) (.s (.s (.s (.s (.s (.s (.s (.s .nil)))))))) (fun (d4 : D) (w3 : Unit) => (sx_name (ss_asg (se_cl srl_sp0 (sa_cons se_var sa_nil)) (fun l_part_here5 => (ss_lent (i := 6) (j := 7) (n := 2) (ε := [.no, .fz .pen, .fz d4, .no, .no, .fz l_part_here5, .no, .no]) [.no, .fz .pen, .fz d4, .no, .no, .fz l_part_here5, .no, .no] rfl (by decide) (Nat.le_of_ble_eq_true rfl) (snn_two (sn_list (se_op sr_ix se_var se_int)) (sn_list (se_op sr_ix se_var se_int))) (fun (ds13 : List (List D)) => (se_nox (se_cl srl_mk0 (sa_cons (se_op sr_ix se_var se_int) (sa_cons (se_op sr_ix se_var se_int) (sa_cons (se_op sr_ix se_var se_int) sa_nil)))))) (fun (ds13 : List (List D)) (d14 : D) => (ssl_app (i := 6) (n := 2) (c := 99) 0 (by decide) se_int (fun _ => (ssl_app (i := 6) (n := 2) (c := 98) 1 (by decide) se_int (fun _ => (ssl_done (ss_if (fun (w37 : Unit) => [.no, .fz .pen, .fz d4, .no, .no, .fz l_part_here5, .no, .fz d14]) (sb_or (sb_not (sb_tb (se_cl srl_sp0 (sa_cons se_var (sa_cons se_var sa_nil))))) (sb_not (sb_tb (se_cl srl_sp0 (sa_cons se_var (sa_cons se_var (sa_cons se_var sa_nil))))))) (ss_ret se_bl) (ss_nx (.s (.s (.s (.s (.s (.s (.s (.s .nil))))))))) (fun (w37 : Unit) => (ss_if (fun (w42 : Unit) => [.no, .fz .pen, .fz d4, .no, .no, .fz l_part_here5, .no, .fz d14]) (sb_not (sb_tb (se_cl srl_sp0 (sa_cons se_var (sa_cons se_var sa_nil))))) (ss_ret se_bl) (ss_nx (.s (.s (.s (.s (.s (.s (.s (.s .nil))))))))) (fun (w42 : Unit) => (ss_nx (.s (.s (.n (.s (.s (.n (.s (.n .nil)))))))))))))))))))))))) (fun (w3 : Unit) => (ss_asg (se_nox (se_cl (srl_mk fun _ _ => (.cons (den_dt T.dt_Change___init___0) (.cons (den_dt T.dt_Change___init___1) (.cons (.str _ (by decide)) .nil)))) sa_nil)) (fun l_bare42 => (ss_asg (se_lst (sa_cons (se_un sr_fld se_var) (sa_cons (se_un sr_fld se_var) (sa_cons (se_un sr_fld se_var) (sa_cons (se_cval (fun _ _ => .int _) T.cv_Change_MOST) (sa_cons (se_cval (fun _ _ => .int _) T.cv_Change_FARTHEST) (sa_cons (se_un sr_fld (se_nox (se_clK0 (srk_mk (dvs := [V.ref (He.dflAt (("Change", some "__init__")) 0 K), V.ref (He.dflAt (("Change", some "__init__")) 1 K), V.str "front"]) (dds := [D.tup [], D.tup [], D.str "front"]) fun _ _ => (.cons (den_dt T.dt_Change___init___0) (.cons (den_dt T.dt_Change___init___1) (.cons (.str _ (by decide)) .nil)))) (sa_cons (se_str (by decide)) sa_nil)))) sa_nil))))))) (fun l_told43 => (ss_ret (se_andV (se_op sr_eq (se_cb srl_reprX (sa_cons se_var sa_nil)) (se_cb srl_reprX (sa_cons (se_lst (sa_cons (se_tup sa_nil) (sa_cons (se_tup sa_nil) (sa_cons (se_str (by decide)) (sa_cons se_int (sa_cons se_int (sa_cons (se_str (by decide)) sa_nil))))))) sa_nil))) (se_op (sr_eqO (eqR_Change T) srl_sp0) (se_nox (se_clK0 (srk_mk (dvs := [V.ref (He.dflAt (("Change", some "__init__")) 0 K), V.ref (He.dflAt (("Change", some "__init__")) 1 K), V.str "front"]) (dds := [D.tup [], D.tup [], D.str "front"]) fun _ _ => (.cons (den_dt T.dt_Change___init___0) (.cons (den_dt T.dt_Change___init___1) (.cons (.str _ (by decide)) .nil)))) (sa_cons (se_lst (sa_cons se_int sa_nil)) (sa_cons (se_tup (sa_cons se_int sa_nil)) sa_nil)))) (se_nox (se_cl (srl_mk fun _ _ => (.cons (.str _ (by decide)) .nil)) (sa_cons (se_tup (sa_cons se_int sa_nil)) (sa_cons (se_tup (sa_cons se_int sa_nil)) sa_nil))))))))))))))
end
end Lw
end
section
set_option linter.all false
set_option maxRecDepth 100000
namespace Gp
open PySem
section
variable {α β γ : Type}
def Bo (P : α → Prop) : Tr α → Nat → Prop
  | .ok a, _ => P a
  | .ex _ _, _ => False
  | .bad, _ => False
  | .draw m k, n => ∃ n', n = n' + 1 ∧ 0 < m ∧ m < 10 ^ 100 ∧ ∀ d, 0 ≤ d → d < m → Bo P (k d) n'
theorem Bo.mono {P Q : α → Prop} (h : ∀ a, P a → Q a) : ∀ {m : Tr α} {n k : Nat}, n ≤ k → Bo P m n → Bo Q m k
  | .ok a, _, _, _, z => h a z
  | .ex _ _, _, _, _, z => z
  | .bad, _, _, _, z => z
  | .draw m f, n, k, l, ⟨n', e, h1, h2, h3⟩ => ⟨k - 1, by omega, h1, h2, fun d d0 d1 => Bo.mono h (m := f d) (n := n') (by omega) (h3 d d0 d1)⟩
theorem Bo.bd {P : α → Prop} {Q : β → Prop} {k : α → Tr β} {b : Nat} : ∀ {m : Tr α} {a : Nat}, Bo P m a → (∀ x, P x → Bo Q (k x) b) → Bo Q (bd m k) (a + b)
  | .ok x, a, h, hk => (hk x h).mono (fun _ z => z) (Nat.le_add_left _ _)
  | .ex _ _, _, h, _ => h
  | .bad, _, h, _ => h
  | .draw m f, a, ⟨n', e, h1, h2, h3⟩, hk => ⟨n' + b, by omega, h1, h2, fun d d0 d1 => Bo.bd (m := f d) (h3 d d0 d1) hk⟩
theorem Bo.al {P : α → Prop} {Q : α → Nat → Prop} {E : Str → Fs → Nat → Prop} (h : ∀ a b, P a → Q a b) : ∀ {m : Tr α} {n : Nat}, Bo P m n → Al Q E m n
  | .ok a, _, z => h a _ z
  | .ex _ _, _, z => z.elim
  | .bad, _, z => z
  | .draw m f, n, ⟨n', e, h1, h2, h3⟩ => ⟨n', e, h1, h2, fun d d0 d1 => Bo.al (m := f d) h (h3 d d0 d1)⟩
theorem Bo.yes {F : Tr D} {n : Nat} (hn : n ≤ 1000000) (h : Bo (fun d => d = .bl true) F n) : Yes F :=
  Bo.al (fun _ _ z => z) (h.mono (fun _ z => z) hn)
theorem bo_ok {P : α → Prop} {a : α} {n : Nat} (h : P a) : Bo P (.ok a) n := h
theorem bo_draw {P : α → Prop} {m : Int} {k : Int → Tr α} {n : Nat} (h1 : 0 < m) (h2 : m < 10 ^ 100) (h : ∀ d, 0 ≤ d → d < m → Bo P (k d) n) : Bo P (.draw m k) (n + 1) := ⟨n, rfl, h1, h2, h⟩
variable {W L : Type}
end
end Gp
end
section
set_option linter.all false
set_option maxRecDepth 100000
set_option maxHeartbeats 4000000
namespace Gp
open PySem
@[simp] theorem s_bd {α β : Type} (a : α) (k : α → Tr β) : bd (.ok a) k = k a := rfl
@[simp] theorem s_bdx {α β : Type} (c : Str) (fs : Fs) (k : α → Tr β) : bd (.ex c fs) k = .ex c fs := rfl
@[simp] theorem s_bdd {α β : Type} (m : Int) (f : Int → Tr α) (k : α → Tr β) : bd (.draw m f) k = .draw m fun d => bd (f d) k := rfl
@[simp] theorem s_nox {α : Type} (a : α) : nox (.ok a) = .ok a := rfl
@[simp] theorem s_bdF {W W' L : Type} (w : W') (k : W' → Tr (Fl W L)) : bdF (.ok (.nx w)) k = k w := rfl
@[simp] theorem s_bdFr {W W' L : Type} (d : D) (k : W' → Tr (Fl W L)) : bdF (.ok (.rt d)) k = .ok (.rt d) := rfl
@[simp] theorem s_finr (d : D) : fin (.ok (.rt d)) = .ok d := rfl
@[simp] theorem s_finn (w : Unit) : fin (.ok (.nx w)) = .ok .non := rfl
@[simp] theorem s_finI (fs : Fs) : finI (.ok (.nx fs)) = .ok fs := rfl
@[simp] theorem s_asB (b : Bool) : asB (.bl b) = .ok b := rfl
@[simp] theorem s_ul0 {α : Type} (k : Tr α) : ul0 k [] = k := rfl
@[simp] theorem s_ul1 {α : Type} (k : D → Tr α) (x : D) : ul1 k [x] = k x := rfl
@[simp] theorem s_ul2 {α : Type} (k : D → D → Tr α) (x y : D) : ul2 k [x, y] = k x y := rfl
@[simp] theorem s_ul3 {α : Type} (k : D → D → D → Tr α) (x y z : D) : ul3 k [x, y, z] = k x y z := rfl
@[simp] theorem s_ul4 {α : Type} (k : D → D → D → D → Tr α) (x y z w : D) : ul4 k [x, y, z, w] = k x y z w := rfl
@[simp] theorem s_isO {α : Type} (c : Str) (fs : Fs) (k : Fs → Tr α) : isO c (.obj c fs) k = k fs := by unfold isO; simp
@[simp] theorem s_lt (i j : Int) : ltD (.int i) (.int j) = .ok (.bl (decide (i < j))) := rfl
@[simp] theorem s_le (i j : Int) : leD (.int i) (.int j) = .ok (.bl (decide (i ≤ j))) := rfl
@[simp] theorem s_gt (i j : Int) : gtD (.int i) (.int j) = .ok (.bl (decide (j < i))) := rfl
@[simp] theorem s_ge (i j : Int) : geD (.int i) (.int j) = .ok (.bl (decide (j ≤ i))) := rfl
@[simp] theorem s_sub (i j : Int) : subD (.int i) (.int j) = .ok (.int (i - j)) := rfl
@[simp] theorem s_add (i j : Int) : addD (.int i) (.int j) = .ok (.int (i + j)) := rfl
@[simp] theorem s_neg (i : Int) : negD (.int i) = .ok (.int (-i)) := rfl
@[simp] theorem s_eq (i j : Int) : eqD (.int i) (.int j) = .ok (.bl (decide (i = j))) := rfl
@[simp] theorem s_eqs (i j : Str) : eqD (.str i) (.str j) = .ok (.bl (decide (i = j))) := rfl
@[simp] theorem s_eqb (i j : Bool) : eqD (.bl i) (.bl j) = .ok (.bl (decide (i = j))) := rfl
@[simp] theorem s_len (ds : List D) : lenD (.lst ds) = .ok (.int ds.length) := rfl
@[simp] theorem s_itl (ds : List D) : itD (.lst ds) = .ok ds := rfl
@[simp] theorem s_itt (ds : List D) : itD (.tup ds) = .ok ds := rfl
@[simp] theorem s_int (i : Int) : intD (.int i) = .ok (.int i) := rfl
@[simp] theorem s_intb (k : Bool) : intD (.bl k) = .ok (.int (if k = true then 1 else 0)) := rfl
@[simp] theorem s_abs (i : Int) : absD (.int i) = .ok (.int (if i < 0 then -i else i)) := rfl
@[simp] theorem s_opt {α : Type} (a : α) : opt (some a) = .ok a := rfl
@[simp] theorem s_mod2 (i : Int) : modD (.int i) (.int 2) = .ok (.int (i % 2)) := rfl
@[simp] theorem s_div2 (i : Int) : divD (.int i) (.int 2) = .ok (.int (i / 2)) := rfl
end Gp
namespace Gp
open PySem PyProof.Rows L2
theorem toPyL_ints : ∀ l : List Int, toPyL (l.map D.int) = some (l.map PyData.int)
  | [] => rfl
  | a :: r => by
    rw [List.map_cons]
    unfold toPyL
    rw [toPyL_ints r]
    rfl
theorem eqv_ints : ∀ l m : List Int, PyData.eqvAll (l.map PyData.int) (m.map PyData.int) = decide (l = m)
  | [], [] => by simp [PyData.eqvAll]
  | [], _ :: _ => by simp [PyData.eqvAll]
  | _ :: _, [] => by simp [PyData.eqvAll]
  | a :: r, b :: s => by
    simp only [List.map_cons, PyData.eqvAll, PyData.eqv, eqv_ints r s]
    by_cases h : a = b <;> by_cases h' : r = s <;> simp [h, h']
theorem canLayAll_ints : ∀ ns : List Int, PyData.canLayAll0 (ns.map PyData.int) = true
  | [] => rfl
  | _ :: r => by simp [PyData.canLayAll0, PyData.canLay0, canLayAll_ints r]
theorem depthAll_ints : ∀ ns : List Int, PyData.depthAll (ns.map PyData.int) = 0
  | [] => rfl
  | _ :: r => by simp [PyData.depthAll, PyData.depth, depthAll_ints r]
theorem shaped_ints (ns : List Int) : SeqAt.shaped (.list (ns.map PyData.int)) = true := by
  simp [SeqAt.shaped, PyData.canLay0, PyData.depth, canLayAll_ints, depthAll_ints]
theorem s_eq_ints (l m : List Int) : eqD (.lst (l.map D.int)) (.lst (m.map D.int)) = .ok (.bl (decide (l = m))) := by
  have e : ∀ l : List Int, toPy (.lst (l.map D.int)) = some (.list (l.map PyData.int)) := fun l => by
    unfold toPy
    rw [toPyL_ints]
    rfl
  have e2 : eqB (.lst (l.map D.int)) (.lst (m.map D.int)) = .ok (decide (l = m)) := by
    unfold eqB
    rw [show eqS (.lst (l.map D.int)) (.lst (m.map D.int)) = none from rfl]
    dsimp only
    rw [e l, e m]
    dsimp only
    rw [if_pos ⟨shaped_ints l, shaped_ints m⟩]
    unfold PyData.eqv
    rw [eqv_ints]
  unfold eqD
  rw [e2]
  rfl
@[simp] theorem s_find (m : Int) (f : Int → Tr (Fl Unit Empty)) : fin (.draw m f) = .draw m fun d => fin (f d) := rfl
@[simp] theorem s_bdFd {W W' L : Type} (m : Int) (f : Int → Tr (Fl W' L)) (k : W' → Tr (Fl W L)) : bdF (.draw m f) k = .draw m fun d => bdF (f d) k := rfl
theorem bd_ok_id {α : Type} (m : Tr α) : bd m .ok = m := by
  induction m with
  | draw m f ih => show Tr.draw m _ = _; congr 1; funext d; exact ih d
  | _ => rfl
@[simp] theorem s_bdbd {α β γ : Type} (m : Tr α) (k : α → Tr β) (l : β → Tr γ) : bd (bd m k) l = bd m fun a => bd (k a) l := bd_bd ..
@[simp] theorem s_finbd {α : Type} (m : Tr α) (k : α → Tr (Fl Unit Empty)) : fin (bd m k) = bd m fun a => fin (k a) := bd_bd ..
@[simp] theorem s_bdFbd {α W W' L : Type} (m : Tr α) (f : α → Tr (Fl W' L)) (k : W' → Tr (Fl W L)) : bdF (bd m f) k = bd m fun a => bdF (f a) k := bd_bd ..
@[simp] theorem s_finIbd {α : Type} (m : Tr α) (k : α → Tr (Fl Fs Empty)) : finI (bd m k) = bd m fun a => finI (k a) := bd_bd ..
@[simp] theorem s_bdok {α : Type} (m : Tr α) : bd m (fun a => .ok a) = m := bd_ok_id m
@[simp] theorem s_ne (i j : Int) : neD (.int i) (.int j) = .ok (.bl (!decide (i = j))) := rfl
@[simp] theorem s_nes (i j : Str) : neD (.str i) (.str j) = .ok (.bl (!decide (i = j))) := rfl
theorem s_ixL {ds : List D} {i : Int} {d : D} (h0 : 0 ≤ i) (h : ds[i.toNat]? = some d) : ixD (.lst ds) (.int i) = .ok d := by
  have hl := (List.getElem?_eq_some_iff.mp h).1
  have e : atI ds i = some d := by
    unfold atI ixN
    rw [if_pos h0, if_pos (by omega)]
    exact h
  unfold ixD
  dsimp only
  rw [e]
theorem s_ixT {ds : List D} {i : Int} {d : D} (h0 : 0 ≤ i) (h : ds[i.toNat]? = some d) : ixD (.tup ds) (.int i) = .ok d := by
  have hl := (List.getElem?_eq_some_iff.mp h).1
  have e : atI ds i = some d := by
    unfold atI ixN
    rw [if_pos h0, if_pos (by omega)]
    exact h
  unfold ixD
  dsimp only
  rw [e]
theorem bo_pick {P : D → Prop} {ds : List D} (h0 : 0 < ds.length) (h1 : ds.length ≤ 100000) (h : ∀ d ∈ ds, P d) : Bo P (.draw ds.length fun i => ixD (.lst ds) (.int i)) 1 := by
  refine bo_draw (n := 0) (by omega) (by omega) fun d d0 d1 => ?_
  have hl : d.toNat < ds.length := by omega
  rw [s_ixL d0 (List.getElem?_eq_getElem hl)]
  exact h _ (List.getElem_mem hl)
theorem rgD_map (n : Nat) : rgD 0 n = ((List.range n).map fun i : Nat => (i : Int)).map D.int := by
  unfold rgD
  rw [List.map_map]
  apply List.map_congr_left
  intro i _
  show D.int (0 + i) = D.int i
  rw [Int.zero_add]
end Gp
end
section
set_option linter.all false
set_option maxRecDepth 100000
set_option maxHeartbeats 400000
namespace Gp
open PySem PyProof.Rows L2 Gh
structure Sh (d : D) (n b : Nat) : Prop where
  ex : ∃ e, toPy d = some e ∧ Fn e n b
structure ShL (ds : List D) (n b : Nat) : Prop where
  ex : ∃ es, toPyL ds = some es ∧ FnAll es n b
theorem Sh.le {d : D} {n b n' b' : Nat} (h : Sh d n b) (h1 : n ≤ n') (h2 : b ≤ b') : Sh d n' b' := by
  obtain ⟨e, h3, h4⟩ := h.ex
  exact ⟨e, h3, h4.le h1 h2⟩
theorem Sh.int {i : Int} (h1 : -(10 ^ 100) < i) (h2 : i < 10 ^ 100) : Sh (.int i) 0 0 := ⟨_, rfl, .int h1 h2⟩
theorem Sh.bl (b : Bool) : Sh (.bl b) 0 0 := ⟨_, rfl, .bool b⟩
theorem Sh.non : Sh .non 0 0 := ⟨_, rfl, .none⟩
theorem Sh.str {x : Str} (h0 : (PyData.str x).canLay0 = true) (h : (x.cps.toList.all fun c => decide (c < 16 ^ 8)) = true) : Sh (.str x) 0 x.cps.size := ⟨_, rfl, .str h0 h⟩
theorem ShL.nil {n b : Nat} : ShL [] n b := ⟨_, rfl, .nil⟩
theorem ShL.cons {d : D} {ds : List D} {n b c : Nat} (h : Sh d n b) (k : ShL ds n c) : ShL (d :: ds) n (b + 1 + c) := by
  obtain ⟨e, h3, h4⟩ := h.ex
  obtain ⟨es, h5, h6⟩ := k.ex
  refine ⟨e :: es, ?_, .cons h4 h6⟩
  unfold toPyL
  rw [h3, h5]
theorem ShL.each {n b : Nat} : ∀ {ds : List D}, (∀ d ∈ ds, Sh d n b) → ShL ds n ((b + 1) * ds.length)
  | [], _ => ShL.nil
  | d :: r, h => by
    have z := ShL.cons (h d List.mem_cons_self) (ShL.each fun e he => h e (List.mem_cons_of_mem _ he))
    have e : b + 1 + (b + 1) * r.length = (b + 1) * (d :: r).length := by
      rw [List.length_cons, Nat.mul_add, Nat.mul_one, Nat.add_comm]
    rw [e] at z
    exact z
theorem ShL.ints {ns : List Int} (h : ∀ n ∈ ns, -(10 ^ 100) < n ∧ n < 10 ^ 100) : ShL (ns.map D.int) 0 (1 * ns.length) := by
  have z := ShL.each (n := 0) (b := 0) (ds := ns.map D.int) fun d hd => by
    obtain ⟨n, hn, rfl⟩ := List.mem_map.mp hd
    exact Sh.int (h n hn).1 (h n hn).2
  rwa [List.length_map] at z
theorem ShL.le {ds : List D} {n b n' b' : Nat} (h : ShL ds n b) (h1 : n ≤ n') (h2 : b ≤ b') : ShL ds n' b' := by
  obtain ⟨e, h3, h4⟩ := h.ex
  exact ⟨e, h3, h4.cl, h4.sh, h4.nd, h4.ls, Nat.le_trans h4.dp h1, Nat.le_trans h4.bk h2⟩
theorem Sh.lst {ds : List D} {n b : Nat} (h : ShL ds n b) : Sh (.lst ds) (n + 1) b := by
  obtain ⟨es, h3, h4⟩ := h.ex
  refine ⟨.list es, ?_, .list h4⟩
  unfold toPy
  rw [h3]
  rfl
theorem Sh.tup {ds : List D} {n b : Nat} (h : ShL ds n b) : Sh (.tup ds) (n + 1) b := by
  obtain ⟨es, h3, h4⟩ := h.ex
  refine ⟨.tuple es, ?_, .tuple h4⟩
  unfold toPy
  rw [h3]
  rfl
theorem fn_len {e : PyData} {n b : Nat} (f : Fn e n b) (hb : b ≤ 80000) : e.shown.length ≤ sizeLine := by
  have z := PyData.shown_le_bulk 200 (by decide) e f.ls
  have := f.bk
  rw [sizeLine_eq]
  omega
theorem Sh.repr {d : D} {n b : Nat} (h : Sh d n b) (hn : n ≤ 100) (hb : b ≤ 80000) : ∃ x, reprD d = .ok (.str x) := by
  obtain ⟨e, h1, f⟩ := h.ex
  have l := fn_len f hb
  have key : ∀ {x : Str}, shwD d = some x → x.length ≤ sizeLine → ∃ x, reprD d = .ok (.str x) := fun {x} e1 e2 => ⟨x, by
    unfold reprD
    rw [e1]
    dsimp only
    rw [if_pos e2]⟩
  have big : (∀ i, d ≠ .int i) → (∀ x, d ≠ .str x) → (∀ x, d ≠ .bl x) → d ≠ .non → ∃ x, reprD d = .ok (.str x) := fun n1 n2 n3 n4 => by
    refine key (x := e.shown) ?_ l
    have g : (if e.showable = true ∧ e.hasDict = false ∧ e.depth ≤ 100 ∧ e.shown.length ≤ sizeLine then some e.shown else none) = some e.shown := if_pos ⟨f.sh, f.nd, Nat.le_trans f.dp hn, l⟩
    cases d with
    | int i => exact absurd rfl (n1 i)
    | str x => exact absurd rfl (n2 x)
    | bl x => exact absurd rfl (n3 x)
    | non => exact absurd rfl n4
    | tup ds => unfold shwD; dsimp only; rw [h1]; exact g
    | lst ds => unfold shwD; dsimp only; rw [h1]; exact g
    | obj c fs => unfold toPy at h1; cases h1
    | err c fs => unfold toPy at h1; cases h1
    | pen => unfold toPy at h1; cases h1
    | cls c => unfold toPy at h1; cases h1
    | er0 c => unfold toPy at h1; cases h1
    | dct => unfold toPy at h1; cases h1
    | dic ps => unfold toPy at h1; cases h1
    | dit ps => unfold toPy at h1; cases h1
    | dik ps => unfold toPy at h1; cases h1
  cases d with
  | non => exact ⟨_, rfl⟩
  | bl b => cases b <;> exact ⟨_, rfl⟩
  | int i =>
    unfold toPy at h1
    cases h1
    have h2 : i.natAbs.log2 < 1920 := of_decide_eq_true f.sh
    refine key (x := Str.ofString (toString i)) ?_ l
    unfold shwD
    dsimp only
    rw [if_pos h2]
  | str x =>
    unfold toPy at h1
    cases h1
    have l2 : (reprText x).length ≤ sizeLine := l
    refine key (x := reprText x) ?_ l2
    unfold shwD
    dsimp only
    rw [if_pos l2]
  | tup ds => exact big (fun _ z => by cases z) (fun _ z => by cases z) (fun _ z => by cases z) (fun z => by cases z)
  | lst ds => exact big (fun _ z => by cases z) (fun _ z => by cases z) (fun _ z => by cases z) (fun z => by cases z)
  | obj c fs => unfold toPy at h1; cases h1
  | err c fs => unfold toPy at h1; cases h1
  | pen => unfold toPy at h1; cases h1
  | cls c => unfold toPy at h1; cases h1
  | er0 c => unfold toPy at h1; cases h1
  | dct => unfold toPy at h1; cases h1
  | dic ps => unfold toPy at h1; cases h1
  | dit ps => unfold toPy at h1; cases h1
  | dik ps => unfold toPy at h1; cases h1
theorem Sh.ascii {x : Str} (h : (x.cps.toList.all fun c => decide (c < 128)) = true) (hl : x.cps.size ≤ 1000) : Sh (.str x) 0 1000 := by
  refine (Sh.str ?_ ?_).le (Nat.le_refl _) hl
  · show PyData.strOk x = true
    unfold PyData.strOk
    rw [← Array.all_toList]
    rw [List.all_eq_true] at h ⊢
    intro c hc
    have := of_decide_eq_true (h c hc)
    exact decide_eq_true (by omega)
  · rw [List.all_eq_true] at h ⊢
    intro c hc
    have := of_decide_eq_true (h c hc)
    exact decide_eq_true (by omega)
end Gp
end
section
set_option linter.all false
set_option maxRecDepth 100000
set_option maxHeartbeats 400000
namespace Gp
open PySem
theorem bo_then {α β : Type} {P : α → Prop} {Q : β → Prop} {m : Tr α} {k : α → Tr β} {a b n : Nat} (h : Bo P m a) (hk : ∀ x, P x → Bo Q (k x) b) (l : a + b ≤ n) : Bo Q (bd m k) n := (h.bd hk).mono (fun _ z => z) l
theorem bo_forU {L : Type} {f : D → Unit → Tr (Fl Unit Unit)} {c : Nat} : ∀ {ds : List D}, (∀ d ∈ ds, Bo (fun r : Fl Unit Unit => r = .nx ()) (f d ()) c) → Bo (fun r : Fl Unit L => r = .nx ()) (forF f ds ()) (c * ds.length)
  | [], _ => bo_ok rfl
  | d :: ds, h => by
    rw [forF_cons]
    refine bo_then (b := c * ds.length) (h d List.mem_cons_self) (fun r hr => ?_) (by rw [List.length_cons, Nat.mul_succ]; omega)
    subst hr
    exact bo_forU fun x hx => h x (List.mem_cons_of_mem _ hx)
end Gp
end
section
set_option Elab.async false
set_option linter.all false
set_option maxRecDepth 100000
set_option maxHeartbeats 400000
namespace Gp
open PySem
@[irreducible] def Bx {α : Type} (P : α → Prop) (m : Tr α) (n : Nat) : Prop := Bo P m n
theorem Bx.bo {α : Type} {P : α → Prop} {m : Tr α} {n : Nat} (h : Bx P m n) : Bo P m n := by
  unfold Bx at h
  exact h
theorem bx_of {α : Type} {P : α → Prop} {m : Tr α} {n : Nat} (h : Bo P m n) : Bx P m n := by
  unfold Bx
  exact h
theorem bx_draw {α : Type} {P : α → Prop} {m : Int} {k : Int → Tr α} {n : Nat} (h1 : 0 < m) (h2 : m < 10 ^ 100) (h : ∀ d, 0 ≤ d → d < m → Bx P (k d) n) : Bx P (.draw m k) (n + 1) := bx_of (bo_draw h1 h2 fun d a b => (h d a b).bo)
theorem bx_then {α β : Type} {P : α → Prop} {Q : β → Prop} {m : Tr α} {k : α → Tr β} {a b n : Nat} (h : Bo P m a) (hk : ∀ x, P x → Bx Q (k x) b) (l : a + b ≤ n) : Bx Q (bd m k) n := bx_of (bo_then h (fun x z => (hk x z).bo) l)
theorem bx_ok {α : Type} {P : α → Prop} {a : α} {n : Nat} (h : P a) : Bx P (.ok a) n := bx_of (bo_ok h)
theorem bx_loopU {f : D → Unit → Tr (Fl Unit Unit)} {ds : List D} {K : Unit → Tr (Fl Unit Empty)} {Q : D → Prop} {c b n : Nat} (h : ∀ d ∈ ds, Bx (fun r : Fl Unit Unit => r = .nx ()) (f d ()) c) (hk : Bx Q (fin (K ())) b) (l : c * ds.length + b ≤ n) : Bx Q (fin (bdF (forF f ds ()) K)) n := by
  refine bx_of ?_
  unfold fin bdF
  rw [bd_bd]
  refine bo_then (b := b) (bo_forU fun d hd => (h d hd).bo) (fun r hr => ?_) l
  subst hr
  exact hk.bo
theorem bx_thenX {α β : Type} {P : α → Prop} {Q : β → Prop} {m : Tr α} {k : α → Tr β} {a b n : Nat} (h : Bx P m a) (hk : ∀ x, P x → Bx Q (k x) b) (l : a + b ≤ n) : Bx Q (bd m k) n := bx_then h.bo hk l
end Gp
end
section
set_option linter.all false
namespace Gp
open PySem
inductive Dp {α : Type} (a : α) : Type
  | u
def bdk {α β : Type} (x : Tr α) (f : α → Tr β) (u : Dp f := .u) : Tr β := bd x f
def bdFk {W W' L : Type} (x : Tr (Fl W' L)) (k : W' → Tr (Fl W L)) (u : Dp k := .u) : Tr (Fl W L) := bdF x k
def forFk {W L : Type} (f : D → W → Tr (Fl W W)) (ds : List D) (w : W) (u : Dp f := .u) : Tr (Fl W L) := forF f ds w
theorem k_bd {α β : Type} (a : α) (k : α → Tr β) (u : Dp k) : bdk (.ok a) k u = k a := rfl
theorem k_bdx {α β : Type} (c : Str) (fs : Fs) (k : α → Tr β) (u : Dp k) : bdk (.ex c fs) k u = .ex c fs := rfl
theorem k_bdd {α β : Type} (m : Int) (f : Int → Tr α) (k : α → Tr β) (u : Dp k) : bdk (.draw m f) k u = .draw m fun d => bdk (f d) k := rfl
theorem k_bdF {W W' L : Type} (w : W') (k : W' → Tr (Fl W L)) (u : Dp k) : bdFk (.ok (.nx w)) k u = k w := rfl
theorem k_bdFr {W W' L : Type} (d : D) (k : W' → Tr (Fl W L)) (u : Dp k) : bdFk (.ok (.rt d)) k u = .ok (.rt d) := rfl
theorem k_bdFx {W W' L : Type} (c : Str) (fs : Fs) (k : W' → Tr (Fl W L)) (u : Dp k) : bdFk (.ex c fs) k u = .ex c fs := rfl
theorem k_bdFd {W W' L : Type} (m : Int) (f : Int → Tr (Fl W' L)) (k : W' → Tr (Fl W L)) (u : Dp k) : bdFk (.draw m f) k u = .draw m fun d => bdFk (f d) k := rfl
theorem k_bdbd {α β γ : Type} (m : Tr α) (k : α → Tr β) (u : Dp k) (l : β → Tr γ) (v : Dp l) : bdk (bdk m k u) l v = bdk m fun a => bdk (k a) l := bd_bd ..
theorem k_finbd {α : Type} (m : Tr α) (k : α → Tr (Fl Unit Empty)) (u : Dp k) : fin (bdk m k u) = bdk m fun a => fin (k a) := bd_bd ..
theorem k_bdFbd {α W W' L : Type} (m : Tr α) (f : α → Tr (Fl W' L)) (u : Dp f) (k : W' → Tr (Fl W L)) (v : Dp k) : bdFk (bdk m f u) k v = bdk m fun a => bdFk (f a) k := bd_bd ..
theorem bk_then {α β : Type} {P : α → Prop} {Q : β → Prop} {m : Tr α} {k : α → Tr β} {u : Dp k} {a b n : Nat} (h : Bx P m a) (hk : ∀ x, P x → Bx Q (k x) b) (l : a + b ≤ n) : Bx Q (bdk m k u) n := bx_thenX h hk l
theorem bk_loopU {f : D → Unit → Tr (Fl Unit Unit)} {u : Dp f} {ds : List D} {K : Unit → Tr (Fl Unit Empty)} {v : Dp K} {Q : D → Prop} {c b n : Nat} (h : ∀ d ∈ ds, Bx (fun r : Fl Unit Unit => r = .nx ()) (f d ()) c) (hk : Bx Q (fin (K ())) b) (l : c * ds.length + b ≤ n) : Bx Q (fin (bdFk (forFk f ds () u) K v)) n := bx_loopU h hk l
end Gp
end
section
set_option Elab.async false
set_option linter.all false
set_option maxRecDepth 100000
set_option maxHeartbeats 1000000
namespace Gp
open PySem PyProof.Rows L2
theorem z0L : (0 ≤ sizeLine) = True := eq_true (by decide)
theorem z1L : (1 ≤ sizeLine) = True := eq_true (by decide)
theorem z2L : (2 ≤ sizeLine) = True := eq_true (by decide)
theorem z3L : (3 ≤ sizeLine) = True := eq_true (by decide)
theorem z4L : (4 ≤ sizeLine) = True := eq_true (by decide)
theorem z5L : (5 ≤ sizeLine) = True := eq_true (by decide)
theorem z6L : (6 ≤ sizeLine) = True := eq_true (by decide)
theorem z7L : (7 ≤ sizeLine) = True := eq_true (by decide)
theorem z8L : (8 ≤ sizeLine) = True := eq_true (by decide)
theorem z9L : (9 ≤ sizeLine) = True := eq_true (by decide)
theorem z10L : (10 ≤ sizeLine) = True := eq_true (by decide)
theorem z11L : (11 ≤ sizeLine) = True := eq_true (by decide)
theorem z12L : (12 ≤ sizeLine) = True := eq_true (by decide)
theorem z0l : (0 < sizeLine) = True := eq_true (by decide)
theorem z1l : (1 < sizeLine) = True := eq_true (by decide)
theorem z2l : (2 < sizeLine) = True := eq_true (by decide)
theorem z3l : (3 < sizeLine) = True := eq_true (by decide)
theorem z4l : (4 < sizeLine) = True := eq_true (by decide)
theorem l_finx (c : Str) (fs : Fs) : fin (.ex c fs) = .ex c fs := rfl
theorem l_finIx (c : Str) (fs : Fs) : finI (.ex c fs) = .ex c fs := rfl
theorem l_finI (fs : Fs) : finI (.ok (.nx fs)) = .ok fs := rfl
theorem l_asI (d : Int) : asI (.int d) = .ok (some d) := rfl
theorem l_un2 {α : Type} (x y : D) (k : D → D → Tr α) : un2 (.tup [x, y]) k = k x y := rfl
theorem l_un3 {α : Type} (x y z : D) (k : D → D → D → Tr α) : un3 (.tup [x, y, z]) k = k x y z := rfl
theorem l_un4 {α : Type} (x y z w : D) (k : D → D → D → D → Tr α) : un4 (.tup [x, y, z, w]) k = k x y z w := rfl
theorem l_ne (i j : Int) : neD (.int i) (.int j) = .ok (.bl (!decide (i = j))) := rfl
theorem l_nes (i j : Str) : neD (.str i) (.str j) = .ok (.bl (!decide (i = j))) := rfl
theorem l_neb (i j : Bool) : neD (.bl i) (.bl j) = .ok (.bl (!decide (i = j))) := rfl
theorem l_gt (i j : Int) : gtD (.int i) (.int j) = .ok (.bl (decide (j < i))) := rfl
theorem l_at {ds : List D} {n : Nat} {a : D} (h : ds[n]? = some a) : atI ds (n : Int) = some a := by
  have hn : n < ds.length := by
    rcases Nat.lt_or_ge n ds.length with h1 | h1
    · exact h1
    · rw [List.getElem?_eq_none h1] at h
      cases h
  unfold atI ixN
  rw [if_pos (Int.natCast_nonneg n), if_pos (by omega)]
  exact h
theorem l_ixl {ds : List D} {n : Nat} {a : D} (h : ds[n]? = some a) : ixD (.lst ds) (.int (n : Int)) = .ok a := by
  unfold ixD
  dsimp only
  rw [l_at h]
theorem l_ixt {ds : List D} {n : Nat} {a : D} (h : ds[n]? = some a) : ixD (.tup ds) (.int (n : Int)) = .ok a := by
  unfold ixD
  dsimp only
  rw [l_at h]
theorem l_ix0 (a : D) (r : List D) : ixD (.lst (a :: r)) (.int 0) = .ok a := l_ixl (n := 0) rfl
theorem l_ix1 (a b : D) (r : List D) : ixD (.lst (a :: b :: r)) (.int 1) = .ok b := l_ixl (n := 1) rfl
theorem l_ix2 (a b c : D) (r : List D) : ixD (.lst (a :: b :: c :: r)) (.int 2) = .ok c := l_ixl (n := 2) rfl
theorem l_ix3 (a b c d : D) (r : List D) : ixD (.lst (a :: b :: c :: d :: r)) (.int 3) = .ok d := l_ixl (n := 3) rfl
theorem l_it0 (a : D) (r : List D) : ixD (.tup (a :: r)) (.int 0) = .ok a := l_ixt (n := 0) rfl
theorem l_it1 (a b : D) (r : List D) : ixD (.tup (a :: b :: r)) (.int 1) = .ok b := l_ixt (n := 1) rfl
theorem l_it2 (a b c : D) (r : List D) : ixD (.tup (a :: b :: c :: r)) (.int 2) = .ok c := l_ixt (n := 2) rfl
theorem l_it3 (a b c d : D) (r : List D) : ixD (.tup (a :: b :: c :: d :: r)) (.int 3) = .ok d := l_ixt (n := 3) rfl
theorem l_neq {a b : D} (h : eqD a b = .ok (.bl true)) : neD a b = .ok (.bl false) := by
  unfold eqD at h
  unfold neD
  cases e : eqB a b with
  | ok k =>
    rw [e] at h
    injection h with h
    injection h with h
    subst h
    rfl
  | ex c fs => rw [e] at h; cases h
  | bad => rw [e] at h; cases h
  | draw m f => rw [e] at h; cases h
end Gp
end
section
set_option linter.all false
set_option maxRecDepth 100000
namespace Lw
open PySem Gp Gh Gz
def L_Change___init__ (fs : Fs) (front back side : D) : Tr Fs :=
  finI (bdFk (W' := Unit) (bdk (bdk (bdk (bdk (bdk (.ok front) fun v1 => (bdk (.ok []) fun r2 => .ok (v1 :: r2))) (ul1 F_are_told)) asB) fun k => .ok (!k)) fun k => if k = true then (bdk (.ok (.str "front")) fun d => .ex "BadChange" [("part", d)]) else (.ok (.nx ()))) fun (w3 : Unit) => (bdFk (W' := Unit) (bdk (bdk (bdk (bdk (bdk (.ok back) fun v6 => (bdk (.ok []) fun r7 => .ok (v6 :: r7))) (ul1 F_are_told)) asB) fun k => .ok (!k)) fun k => if k = true then (bdk (.ok (.str "back")) fun d => .ex "BadChange" [("part", d)]) else (.ok (.nx ()))) fun (w8 : Unit) => (bdFk (W' := Unit) (bdk (bdk (bdk (bdk (bdk (.ok side) fun d => bdk (opt (isi_str d)) fun k => .ok (.bl k)) asB) fun k => .ok (!k)) fun k => if k = true then .ok true else (bdk (bdk (.ok side) fun v11 => (bdk (.ok (.tup [.str "front", .str "back"])) fun v12 => notinD v11 v12)) asB)) fun k => if k = true then (bdk (.ok (.str "side")) fun d => .ex "BadChange" [("part", d)]) else (.ok (.nx ()))) fun (w13 : Unit) => (bdk (bdk (.ok side) fun v16 => (bdk (.ok []) fun r17 => .ok (v16 :: r17))) fun ds => bdk ((fun fs => ul1 (F_Sided___init___at_Change fs)) fs ds) fun fs18 => (bdk (bdk (bdk (.ok front) fun v19 => (bdk (.ok []) fun r20 => .ok (v19 :: r20))) (ul1 F_ascending)) fun front21 => if fs18.length < 900 then (bdk (bdk (bdk (.ok back) fun v22 => (bdk (.ok []) fun r23 => .ok (v22 :: r23))) (ul1 F_ascending)) fun back24 => if (putD "front" front21 fs18).length < 900 then (.ok (.nx (putD "back" back24 (putD "front" front21 fs18)))) else .bad) else .bad)))))
theorem lz_Change___init__ : F_Change___init__ = L_Change___init__ := rfl
def L__law_odd_places (l_pen_here : D) : Tr D :=
  fin (bdk (bdk (bdk (.ok .non) fun v50 => (bdk (bdk (.ok (.int 0)) fun v48 => (bdk (bdk (.ok (.int 5)) fun v46 => (bdk (bdk (.ok (.str "0")) fun v44 => (bdk (bdk (.ok (.str "")) fun v42 => (bdk (bdk (.ok .dct) fun v40 => (bdk (bdk (.ok (.bl true)) fun v38 => (bdk (bdk (bdk (bdk (.ok (.int 16)) fun v2 => (bdk (.ok []) fun r3 => .ok (v2 :: r3))) fun ds => if ds.length ≤ sizeLine then .ok (.lst ds) else .bad) fun v36 => (bdk (bdk (bdk (bdk (bdk (.ok (.int 1)) negD) fun v4 => (bdk (.ok []) fun r5 => .ok (v4 :: r5))) fun ds => if ds.length ≤ sizeLine then .ok (.lst ds) else .bad) fun v34 => (bdk (bdk (bdk (bdk (.ok (.bl true)) fun v6 => (bdk (.ok []) fun r7 => .ok (v6 :: r7))) fun ds => if ds.length ≤ sizeLine then .ok (.tup ds) else .bad) fun v32 => (bdk (bdk (bdk (bdk (.ok .non) fun v8 => (bdk (.ok []) fun r9 => .ok (v8 :: r9))) fun ds => if ds.length ≤ sizeLine then .ok (.lst ds) else .bad) fun v30 => (bdk (bdk (bdk (bdk (.ok (.str "0")) fun v10 => (bdk (.ok []) fun r11 => .ok (v10 :: r11))) fun ds => if ds.length ≤ sizeLine then .ok (.lst ds) else .bad) fun v28 => (bdk (bdk (bdk (bdk (.ok (.int 0)) fun v14 => (bdk (bdk (.ok (.int 0)) fun v12 => (bdk (.ok []) fun r13 => .ok (v12 :: r13))) fun r15 => .ok (v14 :: r15))) fun ds => if ds.length ≤ sizeLine then .ok (.lst ds) else .bad) fun v26 => (bdk (bdk (bdk (bdk (.ok (.int 3)) fun v20 => (bdk (bdk (.ok (.int 1)) fun v18 => (bdk (bdk (.ok (.int 3)) fun v16 => (bdk (.ok []) fun r17 => .ok (v16 :: r17))) fun r19 => .ok (v18 :: r19))) fun r21 => .ok (v20 :: r21))) fun ds => if ds.length ≤ sizeLine then .ok (.tup ds) else .bad) fun v24 => (bdk (bdk (bdk (bdk (.ok (.int 9)) rgA1) fun r => if rgOk r.1 r.2 then .ok (.lst (rgD r.1 (r.2 - r.1).toNat)) else .bad) fun v22 => (bdk (.ok []) fun r23 => .ok (v22 :: r23))) fun r25 => .ok (v24 :: r25))) fun r27 => .ok (v26 :: r27))) fun r29 => .ok (v28 :: r29))) fun r31 => .ok (v30 :: r31))) fun r33 => .ok (v32 :: r33))) fun r35 => .ok (v34 :: r35))) fun r37 => .ok (v36 :: r37))) fun r39 => .ok (v38 :: r39))) fun r41 => .ok (v40 :: r41))) fun r43 => .ok (v42 :: r43))) fun r45 => .ok (v44 :: r45))) fun r47 => .ok (v46 :: r47))) fun r49 => .ok (v48 :: r49))) fun r51 => .ok (v50 :: r51))) fun ds => if ds.length ≤ sizeLine then .ok (.lst ds) else .bad) fun l_odd0 => (bdk (bdk (bdk (.ok l_pen_here) fun v84 => (bdk (bdk (bdk (.ok l_odd0) fun v80 => (bdk (bdk (bdk (bdk (bdk (.ok (.int 16)) rgA1) fun r => if rgOk r.1 r.2 then .ok (.tup (rgD r.1 (r.2 - r.1).toNat)) else .bad) fun v78 => (bdk (bdk (bdk (bdk (.ok (.int 0)) fun v58 => (bdk (bdk (.ok (.int 1)) fun v56 => (bdk (bdk (.ok (.int 2)) fun v54 => (bdk (bdk (.ok (.int 99)) fun v52 => (bdk (.ok []) fun r53 => .ok (v52 :: r53))) fun r55 => .ok (v54 :: r55))) fun r57 => .ok (v56 :: r57))) fun r59 => .ok (v58 :: r59))) fun ds => if ds.length ≤ sizeLine then .ok (.lst ds) else .bad) fun v76 => (bdk (bdk (bdk (bdk (bdk (bdk (.ok (.int 0)) fun v60 => (bdk (.ok []) fun r61 => .ok (v60 :: r61))) fun ds => if ds.length ≤ sizeLine then .ok (.lst ds) else .bad) fun v62 => (bdk (.ok []) fun r63 => .ok (v62 :: r63))) fun ds => if ds.length ≤ sizeLine then .ok (.lst ds) else .bad) fun v74 => (bdk (bdk (bdk (bdk (.ok (.int 0)) fun v66 => (bdk (bdk (.ok (.int 100000000000000000000)) fun v64 => (bdk (.ok []) fun r65 => .ok (v64 :: r65))) fun r67 => .ok (v66 :: r67))) fun ds => if ds.length ≤ sizeLine then .ok (.tup ds) else .bad) fun v72 => (bdk (bdk (bdk (bdk (.ok (.bl false)) fun v68 => (bdk (.ok []) fun r69 => .ok (v68 :: r69))) fun ds => if ds.length ≤ sizeLine then .ok (.lst ds) else .bad) fun v70 => (bdk (.ok []) fun r71 => .ok (v70 :: r71))) fun r73 => .ok (v72 :: r73))) fun r75 => .ok (v74 :: r75))) fun r77 => .ok (v76 :: r77))) fun r79 => .ok (v78 :: r79))) fun ds => if ds.length ≤ sizeLine then .ok (.lst ds) else .bad) fun v81 => addD v80 v81)) fun v82 => (bdk (.ok []) fun r83 => .ok (v82 :: r83))) fun r85 => .ok (v84 :: r85))) (ul2 F__law_pick)) fun d => .ok (.rt d)))
theorem lz__law_odd_places : F__law_odd_places = L__law_odd_places := rfl
def L__law_refused_right (l_pen_here l_part_here : D) : Tr D :=
  fin (bdk (bdk (bdk (bdk (.ok (.int 3)) fun v2 => (bdk (.ok []) fun r3 => .ok (v2 :: r3))) (ul1 rg1)) fun ds => bdk (lcF (fun l_k3 => nox (bdk (bdk (bdk (bdk (.ok l_pen_here) fun v7 => (bdk (bdk (.ok (.int 2)) fun v5 => (bdk (.ok []) fun r6 => .ok (v5 :: r6))) fun r8 => .ok (v7 :: r8))) (ul2 F_draw)) fun v9 => (bdk (.ok (.int 0)) fun v10 => eqD v9 v10)) fun y => .ok (some y))) ds) fun r => .ok (.lst r)) fun l_wrong0 => (bdk (bdk (bdk (bdk (.ok l_wrong0) fun v12 => (bdk (.ok (.int 0)) fun v13 => ixD v12 v13)) asB) fun k => if k = true then (bdk (bdk (.ok l_pen_here) fun v14 => (bdk (.ok []) fun r15 => .ok (v14 :: r15))) (ul1 F__law_odd_places)) else (bdk (.ok l_part_here) fun v16 => (bdk (.ok (.int 0)) fun v17 => ixD v16 v17))) fun l_first10 => (bdk (bdk (bdk (bdk (.ok l_wrong0) fun v19 => (bdk (.ok (.int 1)) fun v20 => ixD v19 v20)) asB) fun k => if k = true then (bdk (bdk (.ok l_pen_here) fun v21 => (bdk (.ok []) fun r22 => .ok (v21 :: r22))) (ul1 F__law_odd_places)) else (bdk (.ok l_part_here) fun v23 => (bdk (.ok (.int 1)) fun v24 => ixD v23 v24))) fun l_last17 => (bdk (bdk (bdk (bdk (.ok l_wrong0) fun v26 => (bdk (.ok (.int 2)) fun v27 => ixD v26 v27)) asB) fun k => if k = true then (bdk (bdk (.ok l_pen_here) fun v52 => (bdk (bdk (bdk (bdk (.ok (.str "")) fun v48 => (bdk (bdk (.ok (.str "left")) fun v46 => (bdk (bdk (.ok (.str "Front")) fun v44 => (bdk (bdk (.ok .non) fun v42 => (bdk (bdk (.ok (.int 0)) fun v40 => (bdk (bdk (.ok (.bl true)) fun v38 => (bdk (bdk (bdk (bdk (.ok (.str "front")) fun v28 => (bdk (.ok []) fun r29 => .ok (v28 :: r29))) fun ds => if ds.length ≤ sizeLine then .ok (.lst ds) else .bad) fun v36 => (bdk (bdk (bdk (bdk (.ok (.str "back")) fun v30 => (bdk (.ok []) fun r31 => .ok (v30 :: r31))) fun ds => if ds.length ≤ sizeLine then .ok (.tup ds) else .bad) fun v34 => (bdk (bdk (.ok .dct) fun v32 => (bdk (.ok []) fun r33 => .ok (v32 :: r33))) fun r35 => .ok (v34 :: r35))) fun r37 => .ok (v36 :: r37))) fun r39 => .ok (v38 :: r39))) fun r41 => .ok (v40 :: r41))) fun r43 => .ok (v42 :: r43))) fun r45 => .ok (v44 :: r45))) fun r47 => .ok (v46 :: r47))) fun r49 => .ok (v48 :: r49))) fun ds => if ds.length ≤ sizeLine then .ok (.lst ds) else .bad) fun v50 => (bdk (.ok []) fun r51 => .ok (v50 :: r51))) fun r53 => .ok (v52 :: r53))) (ul2 F__law_pick)) else (bdk (.ok l_part_here) fun v54 => (bdk (.ok (.int 2)) fun v55 => ixD v54 v55))) fun l_edge24 => (bdk (nox (F__law_heard (bdk (bdk (.ok l_first10) fun v61 => (bdk (bdk (.ok l_last17) fun v59 => (bdk (bdk (.ok l_edge24) fun v57 => (bdk (.ok []) fun r58 => .ok (v57 :: r58))) fun r60 => .ok (v59 :: r60))) fun r62 => .ok (v61 :: r62))) (fun ds => bdk ((fun fs => ul3 (F_Change___init__ fs)) [] ds) fun fs => .ok (.obj "Change" fs))))) fun l_heard_here55 => (bdk (bdk (bdk (bdk (bdk (bdk (.ok (.str "front")) fun v68 => (bdk (bdk (.ok (.str "back")) fun v66 => (bdk (bdk (.ok (.str "side")) fun v64 => (bdk (.ok []) fun r65 => .ok (v64 :: r65))) fun r67 => .ok (v66 :: r67))) fun r69 => .ok (v68 :: r69))) fun ds => if ds.length ≤ sizeLine then .ok (.lst ds) else .bad) fun v72 => (bdk (bdk (.ok l_wrong0) fun v70 => (bdk (.ok []) fun r71 => .ok (v70 :: r71))) fun r73 => .ok (v72 :: r73))) (ul2 zipD)) fun ds => bdk (lcF (fun d75 => nox (un2 d75 fun l_name73 l_is_wrong73 => (bdk (bdk (.ok l_is_wrong73) asB) fun k => if k = true then bdk (.ok l_name73) fun y => .ok (some y) else .ok none))) ds) fun r => .ok (.lst r)) fun l_due62 => (bdk (bdk (bdk (bdk (.ok l_due62) fun v76 => (bdk (bdk (.ok []) fun ds => if ds.length ≤ sizeLine then .ok (.lst ds) else .bad) fun v77 => neD v76 v77)) asB) fun k => if k = true then (bdk (.ok l_heard_here55) fun v80 => (bdk (bdk (.ok l_due62) fun v78 => (bdk (.ok (.int 0)) fun v79 => ixD v78 v79)) fun v81 => eqD v80 v81)) else (bdk (.ok l_heard_here55) fun d => bdk (opt (isi_list d)) fun k => .ok (.bl k))) fun d => .ok (.rt d))))))))
theorem lz__law_refused_right : F__law_refused_right = L__law_refused_right := rfl
def L__law_equal_right (l_pen_here l_change l_part_here : D) : Tr D :=
  fin (bdk (.ok l_part_here) fun d2 => un3 d2 fun l_first0 l_last0 l_edge0 => (bdFk (W' := Unit) (bdk (bdk (bdk (bdk (.ok l_change) fun v15 => (bdk (nox (bdk (bdk (bdk (bdk (bdk (.ok l_first0) revA) fun v5 => (bdk (.ok []) fun r6 => .ok (v5 :: r6))) (ul1 tupD)) fun v13 => (bdk (bdk (bdk (.ok l_last0) revA) fun v11 => (bdk (bdk (.ok l_edge0) fun v9 => (bdk (.ok []) fun r10 => .ok (v9 :: r10))) fun r12 => .ok (v11 :: r12))) fun r14 => .ok (v13 :: r14))) (fun ds => bdk ((fun fs => ul3 (F_Change___init__ fs)) [] ds) fun fs => .ok (.obj "Change" fs)))) fun v16 => neO "Change" eqr_Change (ul2 F_Change___eq__) v15 v16)) asB) fun k => if k = true then .ok true else (bdk (bdk (bdk (.ok l_change) fun v27 => (bdk (nox (bdk (bdk (bdk (bdk (.ok l_first0) fun v17 => (bdk (.ok []) fun r18 => .ok (v17 :: r18))) (ul1 listD)) fun v25 => (bdk (bdk (bdk (bdk (.ok l_last0) fun v19 => (bdk (.ok []) fun r20 => .ok (v19 :: r20))) (ul1 tupD)) fun v23 => (bdk (bdk (.ok l_edge0) fun v21 => (bdk (.ok []) fun r22 => .ok (v21 :: r22))) fun r24 => .ok (v23 :: r24))) fun r26 => .ok (v25 :: r26))) (fun ds => bdk ((fun fs => ul3 (F_Change___init__ fs)) [] ds) fun fs => .ok (.obj "Change" fs)))) fun v28 => eqO "Change" eqr_Change (ul2 F_Change___eq__) v27 v28)) asB) fun k => .ok (!k))) fun k => if k = true then (bdk (.ok (.bl false)) fun d => .ok (.rt d)) else (.ok (.nx ()))) fun (w29 : Unit) => (bdk (bdk (bdk (bdk (.ok (.int 16)) fun v31 => (bdk (.ok []) fun r32 => .ok (v31 :: r32))) (ul1 rg1)) fun ds => bdk (lcF (fun l_place32 => nox (bdk (bdk (bdk (.ok l_place32) fun v34 => (bdk (.ok l_first0) fun v35 => notinD v34 v35)) asB) fun k => if k = true then bdk (.ok l_place32) fun y => .ok (some y) else .ok none)) ds) fun r => .ok (.lst r)) fun l_free29 => (bdk (bdk (bdk (bdk (bdk (bdk (bdk (.ok l_first0) fun v37 => (bdk (.ok []) fun r38 => .ok (v37 :: r38))) (ul1 lenD)) fun v39 => (bdk (.ok (.int 8)) fun v40 => ltD v39 v40)) asB) fun k => if k = true then (bdk (bdk (.ok l_first0) fun v41 => (bdk (bdk (.ok []) fun ds => if ds.length ≤ sizeLine then .ok (.lst ds) else .bad) fun v42 => neD v41 v42)) asB) else .ok false) fun k => if k = true then (bdk (bdk (.ok l_pen_here) fun v55 => (bdk (bdk (bdk (bdk (bdk (.ok l_first0) fun v45 => (bdk (bdk (.ok l_free29) fun v43 => (bdk (.ok none) fun lo => bdk (bdk (.ok (.int 1)) asI) fun hi => slD v43 lo hi)) fun v46 => addD v45 v46)) fun v51 => (bdk (bdk (bdk (.ok l_first0) fun v47 => (bdk (bdk (.ok (.int 1)) asI) fun lo => bdk (.ok none) fun hi => slD v47 lo hi)) fun v49 => (bdk (.ok []) fun r50 => .ok (v49 :: r50))) fun r52 => .ok (v51 :: r52))) fun ds => if ds.length ≤ sizeLine then .ok (.lst ds) else .bad) fun v53 => (bdk (.ok []) fun r54 => .ok (v53 :: r54))) fun r56 => .ok (v55 :: r56))) (ul2 F__law_pick)) else (bdk (bdk (.ok l_first0) fun v57 => (bdk (.ok none) fun lo => bdk (bdk (.ok (.int 1)) asI) fun hi => slD v57 lo hi)) fun v61 => (bdk (bdk (.ok l_free29) fun v59 => (bdk (.ok none) fun lo => bdk (bdk (.ok (.int 1)) asI) fun hi => slD v59 lo hi)) fun v62 => addD v61 v62))) fun l_other35 => (bdFk (W' := Unit) (bdk (bdk (bdk (bdk (bdk (bdk (bdk (.ok l_other35) itD) fun ds => bdk (lcF (fun l_place62 => nox (bdk (bdk (bdk (.ok l_place62) fun v64 => (bdk (.ok []) fun r65 => .ok (v64 :: r65))) (ul1 intD)) fun y => .ok (some y))) ds) fun r => .ok (.lst r)) fun v66 => (bdk (.ok []) fun r67 => .ok (v66 :: r67))) (ul1 sortD)) fun v73 => (bdk (bdk (bdk (bdk (bdk (.ok l_first0) itD) fun ds => bdk (lcF (fun l_place67 => nox (bdk (bdk (bdk (.ok l_place67) fun v69 => (bdk (.ok []) fun r70 => .ok (v69 :: r70))) (ul1 intD)) fun y => .ok (some y))) ds) fun r => .ok (.lst r)) fun v71 => (bdk (.ok []) fun r72 => .ok (v71 :: r72))) (ul1 sortD)) fun v74 => neD v73 v74)) asB) fun k => if k = true then (bdFk (W' := Unit) (bdk (bdk (bdk (.ok l_change) fun v82 => (bdk (nox (bdk (bdk (.ok l_other35) fun v80 => (bdk (bdk (.ok l_last0) fun v78 => (bdk (bdk (.ok l_edge0) fun v76 => (bdk (.ok []) fun r77 => .ok (v76 :: r77))) fun r79 => .ok (v78 :: r79))) fun r81 => .ok (v80 :: r81))) (fun ds => bdk ((fun fs => ul3 (F_Change___init__ fs)) [] ds) fun fs => .ok (.obj "Change" fs)))) fun v83 => eqO "Change" eqr_Change (ul2 F_Change___eq__) v82 v83)) asB) fun k => if k = true then (bdk (.ok (.bl false)) fun d => .ok (.rt d)) else (.ok (.nx ()))) fun (w84 : Unit) => (.ok (.nx ()))) else (.ok (.nx ()))) fun (w75 : Unit) => (bdk (bdk (bdk (bdk (.ok l_edge0) fun v86 => (bdk (.ok (.str "front")) fun v87 => eqD v86 v87)) asB) fun k => if k = true then (.ok (.str "back")) else (.ok (.str "front"))) fun l_turned84 => (bdFk (W' := Unit) (bdk (bdk (bdk (.ok l_change) fun v94 => (bdk (nox (bdk (bdk (.ok l_first0) fun v92 => (bdk (bdk (.ok l_last0) fun v90 => (bdk (bdk (.ok l_turned84) fun v88 => (bdk (.ok []) fun r89 => .ok (v88 :: r89))) fun r91 => .ok (v90 :: r91))) fun r93 => .ok (v92 :: r93))) (fun ds => bdk ((fun fs => ul3 (F_Change___init__ fs)) [] ds) fun fs => .ok (.obj "Change" fs)))) fun v95 => eqO "Change" eqr_Change (ul2 F_Change___eq__) v94 v95)) asB) fun k => if k = true then (bdk (.ok (.bl false)) fun d => .ok (.rt d)) else (.ok (.nx ()))) fun (w96 : Unit) => (bdk (bdk (bdk (bdk (bdk (bdk (.ok .non) fun v107 => (bdk (bdk (.ok l_first0) fun v105 => (bdk (bdk (bdk (bdk (.ok l_change) fun v97 => (bdk (.ok []) fun r98 => .ok (v97 :: r98))) (ul1 (strO "Change" (ul1 F_Change___str__)))) fun v103 => (bdk (bdk (.ok l_part_here) fun v101 => (bdk (bdk (.ok (.int 0)) fun v99 => (bdk (.ok []) fun r100 => .ok (v99 :: r100))) fun r102 => .ok (v101 :: r102))) fun r104 => .ok (v103 :: r104))) fun r106 => .ok (v105 :: r106))) fun r108 => .ok (v107 :: r108))) fun ds => if ds.length ≤ sizeLine then .ok (.tup ds) else .bad) itD) fun ds => bdk (lcF (fun l_thing108 => nox (bdk (bdk (bdk (.ok l_change) fun v110 => (bdk (.ok l_thing108) fun v111 => eqO "Change" eqr_Change (ul2 F_Change___eq__) v110 v111)) asB) fun k => if k = true then bdk (.ok l_thing108) fun y => .ok (some y) else .ok none)) ds) fun r => .ok (.lst r)) fun v112 => (bdk (bdk (.ok []) fun ds => if ds.length ≤ sizeLine then .ok (.lst ds) else .bad) fun v113 => eqD v112 v113)) fun d => .ok (.rt d)))))))))
theorem lz__law_equal_right : F__law_equal_right = L__law_equal_right := rfl
def L_law : Tr D :=
  fin (bdFk (bdk (bdk (bdk (.ok (.int 7)) fun v1 => (bdk (.ok []) fun r2 => .ok (v1 :: r2))) (ul1 rg1)) fun ds => forFk (fun (d4 : D) (w3 : Unit) => (bdk (bdk (bdk (.ok .pen) fun v7 => (bdk (.ok []) fun r8 => .ok (v7 :: r8))) (ul1 F__law_part)) fun l_part_here5 => (bdk (bdk (bdk (bdk (.ok l_part_here5) fun v9 => (bdk (.ok (.int 0)) fun v10 => ixD v9 v10)) listL) fun a => bdk (bdk (bdk (.ok l_part_here5) fun v11 => (bdk (.ok (.int 1)) fun v12 => ixD v11 v12)) listL) fun b => if a.length + 100 ≤ sizeLine ∧ b.length + 100 ≤ sizeLine then .ok [a, b] else .bad) fun (ds13 : List (List D)) => if ds13.length = 2 then bdk (pkN (nox (bdk (bdk (bdk (.ok (.lst (ds13.map D.lst))) fun v15 => (bdk (.ok (.int 0)) fun v16 => ixD v15 v16)) fun v25 => (bdk (bdk (bdk (.ok (.lst (ds13.map D.lst))) fun v17 => (bdk (.ok (.int 1)) fun v18 => ixD v17 v18)) fun v23 => (bdk (bdk (bdk (.ok l_part_here5) fun v19 => (bdk (.ok (.int 2)) fun v20 => ixD v19 v20)) fun v21 => (bdk (.ok []) fun r22 => .ok (v21 :: r22))) fun r24 => .ok (v23 :: r24))) fun r26 => .ok (v25 :: r26))) (fun ds => bdk ((fun fs => ul3 (F_Change___init__ fs)) [] ds) fun fs => .ok (.obj "Change" fs))))) fun (d14 : D) => (bdk (.ok (.int 14)) fun (_ : D) => (bdk (.ok (.int 13)) fun (_ : D) => (bdFk (W' := Unit) (bdk (bdk (bdk (bdk (bdk (bdk (.ok d14) fun v29 => (bdk (bdk (.ok l_part_here5) fun v27 => (bdk (.ok []) fun r28 => .ok (v27 :: r28))) fun r30 => .ok (v29 :: r30))) (ul2 F__law_told_right)) asB) fun k => .ok (!k)) fun k => if k = true then .ok true else (bdk (bdk (bdk (bdk (.ok .pen) fun v35 => (bdk (bdk (.ok d14) fun v33 => (bdk (bdk (.ok l_part_here5) fun v31 => (bdk (.ok []) fun r32 => .ok (v31 :: r32))) fun r34 => .ok (v33 :: r34))) fun r36 => .ok (v35 :: r36))) (ul3 F__law_equal_right)) asB) fun k => .ok (!k))) fun k => if k = true then (bdk (.ok (.bl false)) fun d => .ok (.rt d)) else (.ok (.nx ()))) fun (w37 : Unit) => (bdFk (W' := Unit) (bdk (bdk (bdk (bdk (bdk (.ok .pen) fun v40 => (bdk (bdk (.ok l_part_here5) fun v38 => (bdk (.ok []) fun r39 => .ok (v38 :: r39))) fun r41 => .ok (v40 :: r41))) (ul2 F__law_refused_right)) asB) fun k => .ok (!k)) fun k => if k = true then (bdk (.ok (.bl false)) fun d => .ok (.rt d)) else (.ok (.nx ()))) fun (w42 : Unit) => (.ok (.nx ())))))) else .bad))) ds ()) fun (w3 : Unit) => (bdk (nox (bdk (.ok []) (fun ds => bdk ((fun fs => ul3 (F_Change___init__ fs)) [] (ds ++ [.tup [], .tup [], .str "front"])) fun fs => .ok (.obj "Change" fs)))) fun l_bare42 => (bdk (bdk (bdk (bdk (.ok l_bare42) (fldD "Change" "front")) fun v57 => (bdk (bdk (bdk (.ok l_bare42) (fldD "Change" "back")) fun v55 => (bdk (bdk (bdk (.ok l_bare42) (fldD "Change" "side")) fun v53 => (bdk (bdk (.ok (.int 8)) fun v51 => (bdk (bdk (.ok (.int 15)) fun v49 => (bdk (bdk (bdk (nox (bdk (bdk (.ok (.str "back")) fun v45 => (bdk (.ok []) fun r46 => .ok (v45 :: r46))) ((kwM "Change" 0 1 [.inr 0, .inr 1, .inl 0] [D.tup [], D.tup [], D.str "front"] (fun fs => ul3 (F_Change___init__ fs))) []))) (fldD "Change" "side")) fun v47 => (bdk (.ok []) fun r48 => .ok (v47 :: r48))) fun r50 => .ok (v49 :: r50))) fun r52 => .ok (v51 :: r52))) fun r54 => .ok (v53 :: r54))) fun r56 => .ok (v55 :: r56))) fun r58 => .ok (v57 :: r58))) fun ds => if ds.length ≤ sizeLine then .ok (.lst ds) else .bad) fun l_told43 => (bdk (bdk (bdk (bdk (bdk (bdk (.ok l_told43) fun v59 => (bdk (.ok []) fun r60 => .ok (v59 :: r60))) (ul1 reprX)) fun v75 => (bdk (bdk (bdk (bdk (bdk (bdk (.ok []) fun ds => if ds.length ≤ sizeLine then .ok (.tup ds) else .bad) fun v71 => (bdk (bdk (bdk (.ok []) fun ds => if ds.length ≤ sizeLine then .ok (.tup ds) else .bad) fun v69 => (bdk (bdk (.ok (.str "front")) fun v67 => (bdk (bdk (.ok (.int 8)) fun v65 => (bdk (bdk (.ok (.int 15)) fun v63 => (bdk (bdk (.ok (.str "back")) fun v61 => (bdk (.ok []) fun r62 => .ok (v61 :: r62))) fun r64 => .ok (v63 :: r64))) fun r66 => .ok (v65 :: r66))) fun r68 => .ok (v67 :: r68))) fun r70 => .ok (v69 :: r70))) fun r72 => .ok (v71 :: r72))) fun ds => if ds.length ≤ sizeLine then .ok (.lst ds) else .bad) fun v73 => (bdk (.ok []) fun r74 => .ok (v73 :: r74))) (ul1 reprX)) fun v76 => eqD v75 v76)) asB) fun k => if k = true then (bdk (nox (bdk (bdk (bdk (bdk (.ok (.int 1)) fun v81 => (bdk (.ok []) fun r82 => .ok (v81 :: r82))) fun ds => if ds.length ≤ sizeLine then .ok (.lst ds) else .bad) fun v83 => (bdk (bdk (bdk (bdk (.ok (.int 2)) fun v77 => (bdk (.ok []) fun r78 => .ok (v77 :: r78))) fun ds => if ds.length ≤ sizeLine then .ok (.tup ds) else .bad) fun v79 => (bdk (.ok []) fun r80 => .ok (v79 :: r80))) fun r84 => .ok (v83 :: r84))) ((kwM "Change" 0 2 [.inl 1, .inl 0, .inr 2] [D.tup [], D.tup [], D.str "front"] (fun fs => ul3 (F_Change___init__ fs))) []))) fun v93 => (bdk (nox (bdk (bdk (bdk (bdk (.ok (.int 2)) fun v85 => (bdk (.ok []) fun r86 => .ok (v85 :: r86))) fun ds => if ds.length ≤ sizeLine then .ok (.tup ds) else .bad) fun v91 => (bdk (bdk (bdk (bdk (.ok (.int 1)) fun v87 => (bdk (.ok []) fun r88 => .ok (v87 :: r88))) fun ds => if ds.length ≤ sizeLine then .ok (.tup ds) else .bad) fun v89 => (bdk (.ok []) fun r90 => .ok (v89 :: r90))) fun r92 => .ok (v91 :: r92))) (fun ds => bdk ((fun fs => ul3 (F_Change___init__ fs)) [] (ds ++ [.str "front"])) fun fs => .ok (.obj "Change" fs)))) fun v94 => eqO "Change" eqr_Change (ul2 F_Change___eq__) v93 v94)) else .ok (.bl false)) fun d => .ok (.rt d)))))
theorem lz_law : F_law = L_law := rfl
end Lw
end
section
set_option linter.all false
set_option maxRecDepth 100000
set_option maxHeartbeats 4000000
namespace Lw
open PySem Gp
@[simp] theorem isi_int_int (i : Int) : isi_int (.int i) = some true := rfl
@[simp] theorem isi_bool_int (i : Int) : isi_bool (.int i) = some false := rfl
@[simp] theorem isi_bool_bl (i : Bool) : isi_bool (.bl i) = some true := rfl
@[simp] theorem isi_str_str (i : Str) : isi_str (.str i) = some true := rfl
theorem q_is_integer (i : Int) : F_is_integer (.int i) = .ok (.bl true) := by simp [F_is_integer]
theorem q_is_within (i a b : Int) : F_is_within (.int i) (.int a) (.int b) = .ok (.bl (decide (a ≤ i ∧ i ≤ b))) := by
  simp only [F_is_within, s_bd, s_ul1, q_is_integer, s_asB, if_true, s_le, s_finr]
  by_cases h : a ≤ i <;> simp [h]
def spanD (h m o : Int) : D := .obj "Span" [("own_parts", .tup [.int h, .int m, .int o])]
@[simp] theorem isO_span {α : Type} (h m o : Int) (k : Fs → Tr α) : isO "Span" (spanD h m o) k = k [("own_parts", .tup [.int h, .int m, .int o])] := s_isO _ _ _
def stfs (f : Int) (sp : D) (sd : Str) (late : Bool) : Fs := [("side", .str sd), ("first", .int f), ("span", sp), ("late", .bl late)]
def strD (f : Int) (sp : D) (sd : Str) (late : Bool) : D := .obj "Stretch" (stfs f sp sd late)
@[simp] theorem isO_str {α : Type} (f : Int) (sp : D) (sd : Str) (late : Bool) (k : Fs → Tr α) : isO "Stretch" (strD f sp sd late) k = k (stfs f sp sd late) := s_isO _ _ _
end Lw
end
section
set_option linter.all false
set_option maxRecDepth 100000
set_option maxHeartbeats 400000
namespace Gp
open PySem
@[simp] theorem s_lent (ds : List D) : lenD (.tup ds) = .ok (.int ds.length) := rfl
@[simp] theorem s_tupl (ds : List D) : tupD (.lst ds) = .ok (.tup ds) := rfl
@[simp] theorem s_tupt (ds : List D) : tupD (.tup ds) = .ok (.tup ds) := rfl
theorem s_lsI (ns : List Int) (k : List Int → Tr D) : lsI (.lst (ns.map D.int)) k = k ns := by
  unfold lsI
  dsimp only
  rw [intsD_map]
theorem lc_ints {f : D → Tr (Option D)} {g : Int → Int} : ∀ {ps : List Int}, (∀ p ∈ ps, f (.int p) = .ok (some (.int (g p)))) → lcF f (ps.map D.int) = .ok ((ps.map g).map D.int)
  | [], _ => rfl
  | p :: r, h => by
    rw [List.map_cons, lcF_cons, h p List.mem_cons_self, s_bd, lc_ints fun x hx => h x (List.mem_cons_of_mem _ hx)]
    rfl
theorem lc_id {f : D → Tr (Option D)} {ps : List Int} (h : ∀ p ∈ ps, f (.int p) = .ok (some (.int p))) : lcF f (ps.map D.int) = .ok (ps.map D.int) := by
  have := lc_ints (g := id) h
  rwa [List.map_id] at this
theorem lc_fil {f : D → Tr (Option D)} {c : Int → Bool} {g : Int → Int} : ∀ {ps : List Int}, (∀ p ∈ ps, f (.int p) = .ok (if c p = true then some (.int (g p)) else none)) → lcF f (ps.map D.int) = .ok (((ps.filter c).map g).map D.int)
  | [], _ => rfl
  | p :: r, h => by
    rw [List.map_cons, lcF_cons, h p List.mem_cons_self, s_bd, lc_fil fun x hx => h x (List.mem_cons_of_mem _ hx), s_bd, List.filter_cons]
    by_cases q : c p = true
    · rw [if_pos q, if_pos q]
      rfl
    · rw [if_neg q, if_neg q]
theorem lc_bls {f : D → Tr (Option D)} {g : Int → Bool} : ∀ {ps : List Int}, (∀ p ∈ ps, f (.int p) = .ok (some (.bl (g p)))) → lcF f (ps.map D.int) = .ok ((ps.map g).map D.bl)
  | [], _ => rfl
  | p :: r, h => by
    rw [List.map_cons, lcF_cons, h p List.mem_cons_self, s_bd, lc_bls fun x hx => h x (List.mem_cons_of_mem _ hx)]
    rfl
theorem s_allB (bs : List Bool) : allD (.lst (bs.map D.bl)) = .ok (.bl (bs.all id)) := by
  unfold allD lsB
  dsimp only
  rw [blsD_map]
theorem s_lenS {ns : List Int} (h : ns.length ≤ 4000) : lenSD (.lst (ns.map D.int)) = .ok (.int (setI ns).length) := by
  unfold lenSD
  rw [s_lsI, if_pos h]
theorem s_sortD {ns : List Int} : sortD (.lst (ns.map D.int)) = .ok (.lst ((sortI ns).map D.int)) := by
  unfold sortD
  rw [s_lsI]
end Gp
namespace Lw
open PySem Gp
structure Told (f : List Int) : Prop where
  rng : ∀ x ∈ f, 0 ≤ x ∧ x ≤ 15
  asc : f.Pairwise (· < ·)
  len : f.length ≤ 8
def chfs (f b : List Int) (sd : Str) : Fs := [("side", .str sd), ("front", .tup (f.map D.int)), ("back", .tup (b.map D.int))]
def chgD (f b : List Int) (sd : Str) : D := .obj "Change" (chfs f b sd)
@[simp] theorem isO_chg {α : Type} (f b : List Int) (sd : Str) (k : Fs → Tr α) : isO "Change" (chgD f b sd) k = k (chfs f b sd) := s_isO _ _ _
theorem fld_front (f b : List Int) (sd : Str) : fldD "Change" "front" (chgD f b sd) = .ok (.tup (f.map D.int)) := rfl
theorem fld_back (f b : List Int) (sd : Str) : fldD "Change" "back" (chgD f b sd) = .ok (.tup (b.map D.int)) := rfl
theorem fld_cside (f b : List Int) (sd : Str) : fldD "Change" "side" (chgD f b sd) = .ok (.str sd) := rfl
end Lw
end
section
set_option Elab.async false
set_option linter.all false
set_option maxRecDepth 100000
set_option maxHeartbeats 400000
namespace Gp
open PySem
theorem mem_insI {a x : Int} : ∀ {l : List Int}, x ∈ insI a l ↔ x = a ∨ x ∈ l
  | [] => by simp [insI]
  | b :: r => by
    unfold insI
    split
    · simp
    · rw [List.mem_cons, mem_insI, List.mem_cons]
      constructor
      · rintro (h | h | h) <;> simp [h]
      · rintro (h | h | h) <;> simp [h]
theorem len_insI {a : Int} : ∀ {l : List Int}, (insI a l).length = l.length + 1
  | [] => rfl
  | b :: r => by
    unfold insI
    split
    · rfl
    · rw [List.length_cons, len_insI, List.length_cons]
theorem mem_sortI {x : Int} : ∀ {l : List Int}, x ∈ sortI l ↔ x ∈ l
  | [] => Iff.rfl
  | a :: r => by
    show x ∈ insI a (sortI r) ↔ _
    rw [mem_insI, mem_sortI, List.mem_cons]
theorem len_sortI : ∀ {l : List Int}, (sortI l).length = l.length
  | [] => rfl
  | a :: r => by
    show (insI a (sortI r)).length = _
    rw [len_insI, len_sortI, List.length_cons]
theorem insI_asc {a : Int} : ∀ {l : List Int}, l.Pairwise (· < ·) → a ∉ l → (insI a l).Pairwise (· < ·)
  | [], _, _ => by simp [insI]
  | b :: r, h, hn => by
    obtain ⟨h1, h2⟩ := List.pairwise_cons.mp h
    have hb : a ≠ b := fun e => hn (e ▸ List.mem_cons_self)
    unfold insI
    split
    · rename_i q
      refine List.pairwise_cons.mpr ⟨fun x hx => ?_, h⟩
      rcases List.mem_cons.mp hx with rfl | hx
      · omega
      · have := h1 x hx; omega
    · rename_i q
      refine List.pairwise_cons.mpr ⟨fun x hx => ?_, insI_asc h2 fun z => hn (List.mem_cons_of_mem _ z)⟩
      rcases mem_insI.mp hx with rfl | hx
      · omega
      · exact h1 x hx
theorem sortI_asc : ∀ {l : List Int}, l.Nodup → (sortI l).Pairwise (· < ·)
  | [], _ => .nil
  | a :: r, h => by
    obtain ⟨h1, h2⟩ := List.nodup_cons.mp h
    exact insI_asc (sortI_asc h2) fun z => h1 (mem_sortI.mp z)
theorem setI_nodup : ∀ {l : List Int}, l.Nodup → (setI l).length = l.length := fun {l} h => by
  have e : setI l = sortI l := ris_eq (ris_setI l) (sortI_asc h) fun x => by rw [mem_setI, mem_sortI]
  rw [e, len_sortI]
end Gp
namespace Lw
open PySem Gp
structure Drn (f : List Int) : Prop where
  rng : ∀ x ∈ f, 0 ≤ x ∧ x ≤ 15
  nd : f.Nodup
  len : f.length ≤ 8
theorem Drn.told {f : List Int} (h : Drn f) : Told (sortI f) := ⟨fun x hx => h.rng x (mem_sortI.mp hx), sortI_asc h.nd, by rw [len_sortI]; exact h.len⟩
theorem q_are_toldL {f : List Int} (h : Drn f) : F_are_told (.lst (f.map D.int)) = .ok (.bl true) := by
  obtain ⟨h1, h2, h3⟩ := h
  have e0 : isi_list_tuple (.lst (f.map D.int)) = some true := rfl
  have e1 : lcF (fun d => nox (bd (F_is_within d (.int 0) (.int 15)) fun y => .ok (some y))) (f.map D.int) = .ok ((f.map fun _ => true).map D.bl) := lc_bls fun p hp => by
    rw [q_is_within, s_bd, s_nox]
    simp [h1 p hp]
  have e2 : lcF (fun d => nox (bd (intD d) fun y => .ok (some y))) (f.map D.int) = .ok (f.map D.int) := lc_id fun p _ => rfl
  have e3 : ((f.map fun _ => true).all id) = true := by simp
  have e4 : ¬ (8 : Int) < f.length := by omega
  simp only [F_are_told, s_bd, e0, s_opt, s_asB, Bool.not_true, Bool.false_eq_true, if_false, s_ul1, s_ul3, s_len, List.length_map, s_gt, e4, decide_false, s_bdF, s_itl, e1, s_allB, e3, e2, s_lenS (show f.length ≤ 4000 by omega), setI_nodup h2, s_eq, decide_true, s_finr]
theorem q_ascendingL {f : List Int} : F_ascending (.lst (f.map D.int)) = .ok (.tup ((sortI f).map D.int)) := by
  have e2 : lcF (fun d => nox (bd (intD d) fun y => .ok (some y))) (f.map D.int) = .ok (f.map D.int) := lc_id fun p _ => rfl
  simp only [F_ascending, s_bd, s_itl, s_ul1, e2, s_sortD, s_tupl, s_finr]
end Lw
end
section
set_option linter.all false
set_option maxRecDepth 100000
set_option maxHeartbeats 400000
namespace Gp
open PySem
def sdS (bk : Bool) : Str := if bk = true then "back" else "front"
theorem s_addl {a b : List D} (h : a.length + b.length ≤ sizeLine) : addD (.lst a) (.lst b) = .ok (.lst (a ++ b)) := if_pos h
theorem s_rg1 {m : Nat} (h : m ≤ 16777216) : rg1 (.int m) = .ok ((List.range' 0 m).map fun k : Nat => D.int k) := by
  unfold rg1
  dsimp only
  rw [if_pos ⟨by omega, by omega⟩, rgD_map, List.range_eq_range', List.map_map]
  rfl
end Gp
namespace Lw
open PySem Gp
end Lw
end
section
set_option Elab.async false
set_option linter.all false
set_option maxRecDepth 100000
set_option maxHeartbeats 400000
namespace Gp
open PySem
theorem szS {k : Nat} (h : k ≤ 1000) : k ≤ sizeLine := by simp only [sizeLine]; omega
theorem erase_map : ∀ (l : List Int) (k : Nat), (l.map D.int).eraseIdx k = (l.eraseIdx k).map D.int
  | [], _ => rfl
  | a :: r, 0 => rfl
  | a :: r, k + 1 => congrArg (D.int a :: ·) (erase_map r k)
theorem erase_mem {x : Int} : ∀ {l : List Int} {k : Nat}, x ∈ l.eraseIdx k → x ∈ l := fun h => List.mem_of_mem_eraseIdx h
theorem erase_nodup : ∀ {l : List Int} {k : Nat} (h : k < l.length), l.Nodup → (l.eraseIdx k).Nodup ∧ l[k] ∉ l.eraseIdx k
  | a :: r, 0, _, hn => by
    obtain ⟨h1, h2⟩ := List.nodup_cons.mp hn
    exact ⟨h2, h1⟩
  | a :: r, k + 1, h, hn => by
    obtain ⟨h1, h2⟩ := List.nodup_cons.mp hn
    obtain ⟨i1, i2⟩ := erase_nodup (l := r) (k := k) (by simpa using h) h2
    refine ⟨List.nodup_cons.mpr ⟨fun z => h1 (erase_mem z), i1⟩, fun z => ?_⟩
    rcases List.mem_cons.mp z with e | e
    · exact h1 (e ▸ List.getElem_mem (by simpa using h))
    · exact i2 e
theorem bo_pops {me : List D → D → Tr D} (hm : ∀ cur x, me cur x = .draw cur.length fun d => .ok (.int d)) : ∀ (its : List D) (l : List Int), l.Nodup → its.length ≤ l.length → l.length ≤ 1000 →
    Bo (fun r => ∃ f : List Int, r = f.map D.int ∧ f.Nodup ∧ (∀ x ∈ f, x ∈ l) ∧ f.length = its.length) (popF me its (l.map D.int)) its.length
  | [], l, _, _, _ => ⟨[], rfl, .nil, by simp, rfl⟩
  | x :: its, l, hn, hl, hs => by
    rw [popF_cons, hm]
    rw [List.length_cons] at hl ⊢
    show Bo _ (.draw _ _) _
    refine bo_draw (by rw [List.length_map]; omega) (by rw [List.length_map]; omega) fun d d0 d1 => ?_
    rw [List.length_map] at d1
    have hk : d.toNat < l.length := by omega
    show Bo _ (if 0 ≤ d ∧ d.toNat < (l.map D.int).length then _ else _) _
    rw [if_pos ⟨d0, by rw [List.length_map]; exact hk⟩, erase_map]
    obtain ⟨e1, e2⟩ := erase_nodup hk hn
    have hl2 : (l.eraseIdx d.toNat).length = l.length - 1 := by rw [List.length_eraseIdx, if_pos hk]
    refine bo_then (b := 0) (bo_pops hm its (l.eraseIdx d.toNat) e1 (by omega) (by omega)) (fun r hr => ?_) (Nat.le_refl _)
    obtain ⟨f, rfl, f1, f2, f3⟩ := hr
    refine bo_ok ⟨l[d.toNat] :: f, ?_, List.nodup_cons.mpr ⟨fun z => e2 (f2 _ z), f1⟩, fun y hy => ?_, by rw [List.length_cons, f3]⟩
    · rw [List.getD_eq_getElem?_getD, List.getElem?_map, List.getElem?_eq_getElem hk]
      rfl
    · rcases List.mem_cons.mp hy with rfl | hy
      · exact List.getElem_mem hk
      · exact erase_mem (f2 y hy)
theorem ran_nodup (m : Nat) : (((List.range m).map fun i : Nat => (i : Int))).Nodup := by
  unfold List.Nodup
  rw [List.pairwise_map]
  exact List.nodup_range.imp fun h e => h (by omega)
end Gp
namespace Lw
open PySem Gp
def partD (f b : List Int) (sd : Str) : D := .tup [.lst (f.map D.int), .lst (b.map D.int), .str sd]
theorem i0 (a : D) (r : List D) : ixD (.tup (a :: r)) (.int 0) = .ok a := s_ixT (by decide) rfl
theorem i1 (a b : D) (r : List D) : ixD (.tup (a :: b :: r)) (.int 1) = .ok b := s_ixT (by decide) rfl
theorem i2 (a b c : D) (r : List D) : ixD (.tup (a :: b :: c :: r)) (.int 2) = .ok c := s_ixT (by decide) rfl
@[simp] theorem s_draw (m : Int) : F_draw .pen (.int m) = .draw m fun d => .ok (.int d) := rfl
theorem q_pick (ds : List D) : F__law_pick .pen (.lst ds) = .draw ds.length fun i => ixD (.lst ds) (.int i) := by
  simp [F__law_pick]
theorem b_pick {P : D → Prop} {ds : List D} (h0 : 0 < ds.length) (h1 : ds.length ≤ 100000) (h : ∀ d ∈ ds, P d) : Bo P (F__law_pick .pen (.lst ds)) 1 := by
  rw [q_pick]
  exact bo_pick h0 h1 h
theorem pop_me (cur : List D) : (bd (pk (ul1 lenD [.lst cur])) fun a => F_draw .pen a) = .draw cur.length fun d => .ok (.int d) := by
  have e : pk (.ok (.int (cur.length : Nat))) = .ok (.int (cur.length : Nat)) := by
    unfold pk noLst
    exact if_pos rfl
  rw [s_ul1, s_len, e, s_bd, s_draw]
theorem b_tail {k m : Nat} (hk : k ≤ 8) (h1 : 8 ≤ m) (h2 : m ≤ 16) {me : List D → D → Tr D} (hm : ∀ cur x, me cur x = .draw cur.length fun d => .ok (.int d)) : Bx (fun d => ∃ f, d = .lst (f.map D.int) ∧ Drn f) (bd (rgA1 (.int m)) fun a => bd (if rgOk a.1 a.2 then .ok (rgD a.1 (a.2 - a.1).toNat) else .bad) fun l => bd (ul1 rg1 [.int k]) fun its => bd (popF me its l) fun r => fin (.ok (.rt (.lst r)))) 8 := by
  have er : rgA1 (.int m) = .ok (0, (m : Int)) := rfl
  have eo : rgOk 0 (m : Int) := by unfold rgOk; omega
  have el : rgD 0 ((m : Int) - 0).toNat = ((List.range m).map fun i : Nat => (i : Int)).map D.int := by rw [show ((m : Int) - 0).toNat = m by omega, rgD_map]
  have ek : rg1 (.int k) = .ok ((List.range' 0 k).map fun i : Nat => D.int i) := s_rg1 (by omega)
  rw [er, s_bd, if_pos eo, s_bd, el, s_ul1, ek, s_bd]
  refine bx_then (b := 0) (bo_pops hm _ _ (ran_nodup m) (by rw [List.length_map, List.length_map, List.length_range, List.length_range']; omega) (by rw [List.length_map, List.length_range]; omega)) (fun r hr => ?_) (by rw [List.length_map, List.length_range']; omega)
  obtain ⟨f, e, f1, f2, f3⟩ := hr
  subst e
  rw [List.length_map, List.length_range'] at f3
  refine bx_ok ⟨f, rfl, ⟨fun x hx => ?_, f1, by omega⟩⟩
  obtain ⟨i, hi, e⟩ := List.mem_map.mp (f2 x hx)
  rw [List.mem_range] at hi
  omega
theorem b_places : Bo (fun d => ∃ f, d = .lst (f.map D.int) ∧ Drn f) (F__law_places .pen) 10 := by
  apply Bx.bo
  simp -implicitDefEqProofs only [F__law_places, s_bd, List.length_cons, List.length_nil, Nat.reduceAdd, szS, Nat.reduceLeDiff, if_true, s_ul2, s_bdbd, s_finbd]
  refine bx_then (b := 9) (b_pick (P := fun d => ∃ k : Nat, d = .int k ∧ k ≤ 8) (by simp) (by simp) fun d hd => ?_) (fun x hx => ?_) (by decide)
  · simp only [List.mem_cons, List.mem_nil_iff, or_false] at hd
    rcases hd with rfl | rfl | rfl | rfl | rfl | rfl | rfl
    · exact ⟨0, rfl, by decide⟩
    · exact ⟨0, rfl, by decide⟩
    · exact ⟨1, rfl, by decide⟩
    · exact ⟨1, rfl, by decide⟩
    · exact ⟨2, rfl, by decide⟩
    · exact ⟨3, rfl, by decide⟩
    · exact ⟨8, rfl, by decide⟩
  · obtain ⟨k, rfl, hk⟩ := hx
    refine bx_then (b := 8) (b_pick (P := fun d => ∃ m : Nat, d = .int m ∧ 8 ≤ m ∧ m ≤ 16) (by simp) (by simp) fun d hd => ?_) (fun x hx => ?_) (by decide)
    · simp only [List.mem_cons, List.mem_nil_iff, or_false] at hd
      rcases hd with rfl | rfl | rfl | rfl
      · exact ⟨16, rfl, by decide⟩
      · exact ⟨16, rfl, by decide⟩
      · exact ⟨8, rfl, by decide⟩
      · exact ⟨9, rfl, by decide⟩
    · have hx' : ∃ m : Nat, x = .int m ∧ 8 ≤ m ∧ m ≤ 16 := hx
      clear hx
      rcases hx' with ⟨m, e, h⟩
      rw [e]
      exact b_tail hk h.1 h.2 fun cur x => pop_me cur
theorem b_part : Bo (fun d => ∃ f b bk, d = partD f b (sdS bk) ∧ Drn f ∧ Drn b) (F__law_part .pen) 21 := by
  simp only [F__law_part, s_bd, s_ul1, s_ul2, List.length_cons, List.length_nil, Nat.reduceAdd, szS, Nat.reduceLeDiff, if_true, s_bdbd, s_finbd]
  refine bo_then (b := 11) b_places (fun x hx => ?_) (by decide)
  obtain ⟨f, rfl, hf⟩ := hx
  refine bo_then (b := 1) b_places (fun x hx => ?_) (by decide)
  obtain ⟨b, rfl, hb⟩ := hx
  refine bo_then (b := 0) (b_pick (P := fun d => ∃ bk, d = .str (sdS bk)) (by simp) (by simp) fun d hd => ?_) (fun x hx => ?_) (by decide)
  · simp only [List.mem_cons, List.mem_nil_iff, or_false] at hd
    rcases hd with rfl | rfl
    · exact ⟨false, rfl⟩
    · exact ⟨true, rfl⟩
  · obtain ⟨bk, rfl⟩ := hx
    exact bo_ok ⟨f, b, bk, rfl, hf, hb⟩
end Lw
end
section
set_option Elab.async false
set_option linter.all false
set_option maxRecDepth 100000
set_option maxHeartbeats 400000
namespace Gp
open PySem
end Gp
namespace Lw
open PySem Gp
theorem dropI (f : List Int) : slD (.lst (f.map D.int)) (some 1) none = .ok (.lst ((f.drop 1).map D.int)) := by
  have e : slD (.lst (f.map D.int)) (some ((1 : Nat) : Int)) none = .ok (.lst ((f.map D.int).drop 1)) := by
    have hc : ∀ ds : List D, cutG ds (some ((1 : Nat) : Int)) none = ds.drop 1 := fun ds => by
      cases ds with
      | nil => rfl
      | cons a r =>
        unfold cutG
        have h1 : HT.sIx (a :: r).length 0 (some ((1 : Nat) : Int)) = 1 := by
          unfold HT.sIx
          simp
        have h2 : HT.sIx (a :: r).length (a :: r).length none = (a :: r).length := rfl
        rw [h1, h2]
        simp
    show Tr.ok (D.lst (cutG (f.map D.int) (some ((1 : Nat) : Int)) none)) = _
    rw [hc]
  rw [List.map_drop]
  exact e
theorem drn_app {f : List Int} {x : Int} (h : Drn f) (h0 : 0 ≤ x) (h1 : x < 16) (hx : x ∉ f) (hl : f.length < 8) : Drn (f ++ [x]) := ⟨fun y hy => by
  rcases List.mem_append.mp hy with z | z
  · exact h.rng y z
  · rw [List.mem_singleton] at z
    omega, by
  unfold List.Nodup
  rw [List.pairwise_append]
  exact ⟨h.nd, List.pairwise_singleton _ _, fun a ha c hc e => by
    rw [List.mem_singleton] at hc
    subst hc e
    exact hx ha⟩, by rw [List.length_append]; simp; omega⟩
theorem drn_drop {f : List Int} (h : Drn f) : Drn (f.drop 1) := ⟨fun x hx => h.rng x (List.mem_of_mem_drop hx), h.nd.sublist (List.drop_sublist _ _), by rw [List.length_drop]; have := h.len; omega⟩
end Lw
end
section
set_option linter.all false
set_option maxRecDepth 100000
set_option maxHeartbeats 400000
namespace Gp
open PySem
theorem cut_to {α : Type} (xs : List α) (k : Nat) : cutG xs none (some (k : Int)) = xs.take k := by
  unfold cutG
  rw [HT.sIx_nat, HT.sIx_none, List.drop_zero, Nat.sub_zero]
  rcases Nat.le_total k xs.length with h | h
  · rw [Nat.min_eq_left h]
  · rw [Nat.min_eq_right h, List.take_of_length_le (Nat.le_refl _), List.take_of_length_le h]
theorem sl_to (ds : List D) (k : Nat) : slD (.lst ds) none (some (k : Int)) = .ok (.lst (ds.take k)) := congrArg (fun z => Tr.ok (D.lst z)) (cut_to ds k)
end Gp
namespace Lw
open PySem Gp
end Lw
end
section
set_option linter.all false
set_option maxRecDepth 100000
set_option maxHeartbeats 400000
namespace Gp
open PySem PyProof.Rows L2
theorem shaped_intsT (ns : List Int) : SeqAt.shaped (.tuple (ns.map PyData.int)) = true := by
  simp [SeqAt.shaped, PyData.canLay0, PyData.depth, canLayAll_ints, depthAll_ints]
theorem s_eqt_ints (l m : List Int) : eqD (.tup (l.map D.int)) (.tup (m.map D.int)) = .ok (.bl (decide (l = m))) := by
  have e : ∀ l : List Int, toPy (.tup (l.map D.int)) = some (.tuple (l.map PyData.int)) := fun l => by
    unfold toPy
    rw [toPyL_ints]
    rfl
  have e2 : eqB (.tup (l.map D.int)) (.tup (m.map D.int)) = .ok (decide (l = m)) := by
    unfold eqB
    rw [show eqS (.tup (l.map D.int)) (.tup (m.map D.int)) = none from rfl]
    dsimp only
    rw [e l, e m]
    dsimp only
    rw [if_pos ⟨shaped_intsT l, shaped_intsT m⟩]
    unfold PyData.eqv
    rw [eqv_ints]
  unfold eqD
  rw [e2]
  rfl
end Gp
namespace Lw
open PySem Gp
end Lw
end
section
set_option Elab.async false
set_option linter.all false
set_option maxRecDepth 100000
set_option maxHeartbeats 400000
namespace Lw
open PySem Gp L2
theorem log_60 {n : Nat} (h : n < 10 ^ 60) : n.log2 < 1920 := by
  rcases Nat.eq_zero_or_pos n with rfl | hp
  · decide
  · exact (Nat.log2_lt (by omega)).mpr (Nat.lt_trans h (by decide))
theorem str_sz {i : Int} (h : i.natAbs < 10 ^ 60) : (Str.ofString (toString i)).length ≤ 1000 := by
  have tlen : ∀ x : Str, x.length = (TL.tl x).length := fun x => (Array.length_toList).symm
  cases i with
  | ofNat n =>
    rw [tlen]
    show (TL.tl (Str.ofString (toString ((n : Nat) : Int)))).length ≤ 1000
    rw [TL.tl_num]
    exact Nat.le_trans (TL.numL_len (k := 60) (by decide) h) (by decide)
  | negSucc n =>
    have z := TL.numL_len (n := n + 1) (k := 60) (by decide) h
    have e1 : (toString (n + 1)).length = (TL.numL (n + 1)).length := by
      rw [← TL.tl_num, ← tlen, PyProof.Rows.ofString_len]
      rfl
    rw [PyProof.Rows.ofString_len, show toString (Int.negSucc n) = "-" ++ toString (n + 1) from rfl, String.length_append, e1]
    have : ("-" : String).length = 1 := rfl
    omega
theorem strD_ok {i : Int} (h : i.natAbs < 10 ^ 60) : Gp.strD (.int i) = .ok (.str (toString i)) := by
  unfold Gp.strD
  dsimp only
  rw [if_pos ⟨log_60 h, Nat.le_trans (str_sz h) (by decide)⟩]
end Lw
end
section
set_option Elab.async false
set_option linter.all false
set_option maxRecDepth 100000
set_option maxHeartbeats 400000
namespace Lw
open PySem Gp L2
def txt (k : Int) : Str := Str.ofString (toString k)
structure Asc (f : List Int) : Prop where
  rng : ∀ x ∈ f, 0 ≤ x ∧ x ≤ 15
  asc : f.Pairwise (· < ·)
  len : f.length ≤ 8
def wof (name : Str) (f : List Int) : List Str := if f = [] then [] else name :: f.map txt
def wrds (f b : List Int) (bk : Bool) : List Str := ("change" : Str) :: (wof "front" f ++ (wof "back" b ++ (if bk = true then [("side" : Str), "back"] else [])))
end Lw
end
section
set_option Elab.async false
set_option linter.all false
set_option maxRecDepth 100000
set_option maxHeartbeats 400000
namespace Lw
open PySem Gp L2
def sdw (bk : Bool) : List Str := if bk = true then [("side" : Str), "back"] else []
end Lw
end
section
set_option Elab.async false
set_option linter.all false
set_option maxRecDepth 100000
set_option maxHeartbeats 400000
namespace Lw
open PySem Gp L2
theorem s_un2t {α : Type} (x y : D) (k : D → D → Tr α) : un2 (.tup [x, y]) k = k x y := rfl
end Lw
end
section
set_option Elab.async false
set_option linter.all false
set_option maxRecDepth 100000
set_option maxHeartbeats 400000
namespace Lw
open PySem Gp L2
def nW : List Str → Nat
  | [] => 0
  | w :: r => w.length + 1 + nW r
theorem nW_app (a b : List Str) : nW (a ++ b) = nW a + nW b := by
  induction a with
  | nil => simp [nW]
  | cons w r ih => rw [List.cons_append, nW, nW, ih]; omega
theorem nW_eq (l : List Str) : (l.map (·.length)).sum + l.length = nW l := by
  induction l with
  | nil => rfl
  | cons w r ih => rw [List.map_cons, List.sum_cons, List.length_cons, nW, ← ih]; omega
def sp : Str := " "
theorem strsD_m (ns : List Str) : strsD (ns.map D.str) = some ns := by
  induction ns with
  | nil => rfl
  | cons n r ih => show (strsD (r.map D.str)).map (n :: ·) = _; rw [ih]; rfl
theorem q_join {l : List Str} (h : nW l ≤ 16777216) : joinD (.str sp) (.lst (l.map D.str)) = .ok (.str (Str.join sp l)) := by
  have e1 : sp.length = 1 := by decide +kernel
  have j := StrLaws.join_length_le sp l
  rw [e1, Nat.mul_one, nW_eq] at j
  have e2 : Txt.join sp l = Str.join sp l := TL.join_eq sp l
  unfold joinD
  dsimp only
  rw [strsD_m]
  unfold joinS
  dsimp only
  rw [e1, Nat.mul_one, nW_eq, e2, if_pos ⟨h, Nat.le_trans (Nat.le_trans j h) (by decide)⟩]
theorem map_tl_inj : ∀ {a b : Str}, TL.tl a = TL.tl b → a = b := fun {a b} h => TL.ext_tl h
theorem joinL_side (S a b : List Nat) : ∀ l : List (List Nat), l ≠ [] → TL.joinL S (l ++ [a ++ (S ++ b)]) = TL.joinL S (l ++ [a, b])
  | [], h => absurd rfl h
  | [x], _ => by
    show x ++ (S ++ (a ++ (S ++ b))) = x ++ (S ++ (a ++ (S ++ b)))
    rfl
  | x :: y :: r, _ => by
    show x ++ (S ++ TL.joinL S (y :: r ++ [a ++ (S ++ b)])) = x ++ (S ++ TL.joinL S (y :: r ++ [a, b]))
    rw [joinL_side S a b (y :: r) (List.cons_ne_nil _ _)]
theorem join_side {l : List Str} (h : l ≠ []) : Str.join sp (l ++ [("side back" : Str)]) = Str.join sp (l ++ [("side" : Str), "back"]) := by
  apply map_tl_inj
  rw [TL.tl_join, TL.tl_join, List.map_append, List.map_append]
  have e : TL.tl ("side back" : Str) = TL.tl ("side" : Str) ++ (TL.tl sp ++ TL.tl ("back" : Str)) := by decide +kernel
  show TL.joinL (TL.tl sp) (l.map TL.tl ++ [TL.tl ("side back" : Str)]) = _
  rw [e]
  exact joinL_side _ _ _ _ (fun z => h (List.map_eq_nil_iff.mp z))
end Lw
end
section
set_option Elab.async false
set_option linter.all false
set_option maxRecDepth 100000
set_option maxHeartbeats 400000
namespace Lw
open PySem Gp L2
def txC (f b : List Int) (bk : Bool) : Str := Str.join sp (wrds f b bk)
theorem txt_tab : (List.range 16).all (fun k => decide ((txt (k : Int)).length ≤ 2) && decide (32 ∉ TL.tl (txt (k : Int)))) = true := by decide +kernel
theorem txt_ok {k : Int} (h0 : 0 ≤ k) (h : k ≤ 15) : (txt k).length ≤ 2 ∧ 32 ∉ TL.tl (txt k) := by
  have z := List.all_eq_true.mp txt_tab k.toNat (List.mem_range.mpr (by omega))
  rw [Int.toNat_of_nonneg h0, Bool.and_eq_true] at z
  exact ⟨of_decide_eq_true z.1, of_decide_eq_true z.2⟩
theorem nW_txt : ∀ f : List Int, (∀ x ∈ f, 0 ≤ x ∧ x ≤ 15) → nW (f.map txt) ≤ 3 * f.length
  | [], _ => by simp [nW]
  | x :: f, h => by
    have z := nW_txt f fun y hy => h y (List.mem_cons_of_mem _ hy)
    have r := h x (List.mem_cons_self ..)
    have := (txt_ok r.1 r.2).1
    rw [List.map_cons, nW, List.length_cons]
    omega
theorem nW_wof {name : Str} {f : List Int} (hn : name.length ≤ 5) (h : Asc f) : nW (wof name f) ≤ 30 := by
  unfold wof
  split
  · exact Nat.zero_le _
  · have := nW_txt f h.rng
    have := h.len
    rw [nW]
    omega
theorem nW_sdw (bk : Bool) : nW (sdw bk) ≤ 10 := by cases bk <;> decide +kernel
theorem nW_wrds {f b : List Int} {bk : Bool} (hf : Asc f) (hb : Asc b) : nW (wrds f b bk) ≤ 77 := by
  have h1 := nW_wof (name := "front") (by decide +kernel) hf
  have h2 := nW_wof (name := "back") (by decide +kernel) hb
  have h3 := nW_sdw bk
  have e : nW (wrds f b bk) = ("change" : Str).length + 1 + (nW (wof "front" f) + (nW (wof "back" b) + nW (sdw bk))) := by
    unfold wrds
    rw [nW, nW_app, nW_app]
    rfl
  have : ("change" : Str).length = 6 := by decide +kernel
  omega
theorem lc_txt {f : D → Tr (Option D)} : ∀ {ps : List Int}, (∀ p ∈ ps, f (.int p) = .ok (some (.str (txt p)))) → lcF f (ps.map D.int) = .ok ((ps.map txt).map D.str)
  | [], _ => rfl
  | p :: ps, h => by
    rw [List.map_cons, lcF_cons, h p (List.mem_cons_self ..), lc_txt fun q hq => h q (List.mem_cons_of_mem _ hq)]
    rfl
theorem lc_strs {f : List Int} (h : ∀ x ∈ f, 0 ≤ x ∧ x ≤ 15) : lcF (fun p => nox (bd (Gp.strD p) fun y => .ok (some y))) (f.map D.int) = .ok ((f.map txt).map D.str) := lc_txt fun p hp => by
  have r := h p hp
  rw [strD_ok (Nat.lt_trans (show p.natAbs < 16 by omega) (by decide))]
  rfl
theorem sz_small {k : Nat} (h : k ≤ 1000) : k ≤ sizeLine := Nat.le_trans h (by decide)
theorem len_wof {name : Str} {f : List Int} (h : Asc f) : (wof name f).length ≤ 9 := by
  have := h.len
  unfold wof
  split
  · exact Nat.zero_le _
  · rw [List.length_cons, List.length_map]; omega
theorem s_forL {L : Type} {f : D → List D → Tr (Fl (List D) (List D))} {n1 n2 : Str} {p1 p2 : List Int} {ws : List Str} (h1 : Asc p1) (h2 : Asc p2) (hw : ws.length ≤ 30)
    (hf : ∀ (n : Str) (ps : List Int) (ws : List Str), Asc ps → ws.length ≤ 100 → f (.tup [.str n, .tup (ps.map D.int)]) (ws.map D.str) = .ok (.nx ((ws ++ wof n ps).map D.str))) :
    forF (L := L) f [.tup [.str n1, .tup (p1.map D.int)], .tup [.str n2, .tup (p2.map D.int)]] (ws.map D.str) = .ok (.nx ((ws ++ wof n1 p1 ++ wof n2 p2).map D.str)) := by
  rw [forF_cons, hf n1 p1 ws h1 (by omega), s_bd]
  dsimp only
  have := len_wof (name := n1) h1
  rw [forF_cons, hf n2 p2 _ h2 (by rw [List.length_append]; omega), s_bd]
  rfl
theorem s_seql (ds : List D) : seqD (.lst ds) = .ok ds := rfl
theorem s_asLl (ds : List D) : asL (.lst ds) = .ok ds := rfl
theorem q_str {f b : List Int} {bk : Bool} (hf : Asc f) (hb : Asc b) : F_Change___str__ (chgD f b (sdS bk)) = .ok (.str (txC f b bk)) := by
  have z1 : 0 + 1 ≤ sizeLine := by decide
  have z2 : 0 + 1 + 1 ≤ sizeLine := by decide
  unfold F_Change___str__
  simp -implicitDefEqProofs only [s_bd, List.length_cons, List.length_nil, z1, z2, if_true, fld_front, fld_back, fld_cside, s_itt]
  rw [show ([D.str "change"] : List D) = [("change" : Str)].map D.str from rfl, s_forL hf hb (by decide) ?hf]
  case hf =>
    intro n ps ws hp hw
    have hl : (wof n ps).length ≤ 9 := len_wof hp
    simp -implicitDefEqProofs only [s_un2t, s_ul1, s_lent, List.length_map, s_bd, s_gt, s_asB]
    by_cases e : ps = []
    · subst e
      unfold wof
      simp -implicitDefEqProofs only [List.length_nil, if_true, List.append_nil]
      rfl
    · have lp : 0 < ps.length := List.length_pos_iff.mpr e
      have e1 : (0 : Int) < (ps.length : Int) := by omega
      have z9 : (ps.map txt).length + 1 ≤ sizeLine := sz_small (by rw [List.length_map]; have := hp.len; omega)
      simp -implicitDefEqProofs only [e1, decide_true, if_true, s_itt, lc_strs hp.rng, s_bd, s_seql, List.append_nil, List.length_cons, List.length_map, s_asLl]
      have z8 : ps.length + 1 ≤ sizeLine := sz_small (by have := hp.len; omega)
      have z7 : ws.length + (wof n ps).length ≤ sizeLine := sz_small (by omega)
      have ew : (D.str n :: (ps.map txt).map D.str) = (wof n ps).map D.str := by
        unfold wof
        rw [if_neg e]
        rfl
      rw [if_pos z8, s_bd, s_asLl, s_bd, ew, List.length_map, if_pos z7, s_bdF, List.map_append]
  simp -implicitDefEqProofs only [s_bdF, s_bd, isS_str, s_eqs, s_asB, s_seql, List.length_append, List.length_map, List.length_cons, List.length_nil]
  have w1 := len_wof (name := "front") hf
  have w2 := len_wof (name := "back") hb
  have z7 : 0 + 1 + (wof "front" f).length + (wof "back" b).length + (0 + 1) ≤ sizeLine := sz_small (by omega)
  have nw := nW_wrds (bk := bk) hf hb
  cases bk with
  | false =>
    have e1 : ¬ (sdS false = ("back" : Str)) := by decide +kernel
    have e2 : [("change" : Str)] ++ wof "front" f ++ wof "back" b = wrds f b false := by
      unfold wrds
      rw [if_neg Bool.false_ne_true, List.append_nil, List.append_assoc]
      rfl
    rw [decide_eq_false e1, if_neg Bool.false_ne_true, s_bd, e2]
    show fin (bd (joinD (.str sp) (.lst ((wrds f b false).map D.str))) _) = _
    rw [q_join (Nat.le_trans nw (by decide)), s_bd, s_finr]
    rfl
  | true =>
    have e1 : (sdS true = ("back" : Str)) := by decide +kernel
    have e2 : ([("change" : Str)] ++ wof "front" f ++ wof "back" b) ++ [("side" : Str), "back"] = wrds f b true := by
      unfold wrds
      rw [if_pos rfl, List.append_assoc, List.append_assoc]
      rfl
    have e3 : ([("change" : Str)] ++ wof "front" f ++ wof "back" b).map D.str ++ [D.str "side back"] = (([("change" : Str)] ++ wof "front" f ++ wof "back" b) ++ [("side back" : Str)]).map D.str := by
      simp only [List.map_append, List.map_cons, List.map_nil]
    have nl : nW (([("change" : Str)] ++ wof "front" f ++ wof "back" b) ++ [("side back" : Str)]) ≤ 200 := by
      rw [← e2, nW_app] at nw
      rw [nW_app]
      have : nW [("side back" : Str)] ≤ 20 := by decide +kernel
      omega
    rw [decide_eq_true e1, if_pos rfl, if_pos z7, s_bd, e3]
    show fin (bd (joinD (.str sp) (.lst ((([("change" : Str)] ++ wof "front" f ++ wof "back" b) ++ [("side back" : Str)]).map D.str))) _) = _
    rw [q_join (Nat.le_trans nl (by decide)), s_bd, s_finr, join_side (by simp), e2]
    rfl
end Lw
end
section
set_option Elab.async false
set_option linter.all false
set_option maxRecDepth 100000
set_option maxHeartbeats 400000
namespace Lw
open PySem Gp L2
theorem strO_chg {f b : List Int} {bk : Bool} (hf : Asc f) (hb : Asc b) : strO "Change" (ul1 F_Change___str__) (chgD f b (sdS bk)) = .ok (.str (txC f b bk)) := by
  unfold strO
  show bd (ul1 F_Change___str__ [chgD f b (sdS bk)]) asS = _
  rw [s_ul1, q_str hf hb]
  rfl
end Lw
end
section
set_option Elab.async false
set_option linter.all false
set_option maxRecDepth 100000
set_option maxHeartbeats 1000000
namespace Lw
open PySem Gp Gh
def sq (t : Bool) (f : List Int) : D := match t with
  | true => .tup (f.map D.int)
  | false => .lst (f.map D.int)
theorem told_sq {t : Bool} {f : List Int} (h : Drn f) : F_are_told (sq t f) = .ok (.bl true) := by
  cases t with
  | false => exact q_are_toldL h
  | true =>
    obtain ⟨h1, h2, h3⟩ := h
    have e0 : isi_list_tuple (.tup (f.map D.int)) = some true := rfl
    have e1 : lcF (fun d => nox (bd (F_is_within d (.int 0) (.int 15)) fun y => .ok (some y))) (f.map D.int) = .ok ((f.map fun _ => true).map D.bl) := lc_bls fun p hp => by
      rw [q_is_within, s_bd, s_nox]
      simp [h1 p hp]
    have e2 : lcF (fun d => nox (bd (intD d) fun y => .ok (some y))) (f.map D.int) = .ok (f.map D.int) := lc_id fun p _ => rfl
    have e3 : ((f.map fun _ => true).all id) = true := by simp
    have e4 : ¬ (8 : Int) < f.length := by omega
    show F_are_told (.tup (f.map D.int)) = _
    simp only [F_are_told, s_bd, e0, s_opt, s_asB, Bool.not_true, Bool.false_eq_true, if_false, s_ul1, s_ul3, s_lent, List.length_map, s_gt, e4, decide_false, s_bdF, s_itt, e1, s_allB, e3, e2, s_lenS (show f.length ≤ 4000 by omega), setI_nodup h2, s_eq, decide_true, s_finr]
theorem asc_sq {t : Bool} {f : List Int} : F_ascending (sq t f) = .ok (.tup ((sortI f).map D.int)) := by
  cases t with
  | false => exact q_ascendingL
  | true =>
    have e2 : lcF (fun d => nox (bd (intD d) fun y => .ok (some y))) (f.map D.int) = .ok (f.map D.int) := lc_id fun p _ => rfl
    show F_ascending (.tup (f.map D.int)) = _
    simp only [F_ascending, s_bd, s_itt, s_ul1, e2, s_sortD, s_tupl, s_finr]
theorem sd_in (bk : Bool) : notinD (.str (sdS bk)) (.tup [.str "front", .str "back"]) = .ok (.bl false) := by cases bk <;> rfl
theorem q_chg {t1 t2 bk : Bool} {f b : List Int} (hf : Drn f) (hb : Drn b) : F_Change___init__ [] (sq t1 f) (sq t2 b) (.str (sdS bk)) = .ok (chfs (sortI f) (sortI b) (sdS bk)) := by
  simp [F_Change___init__, told_sq hf, told_sq hb, asc_sq, sd_in, F_Sided___init___at_Change, chfs]
  rfl
theorem Drn.asc {f : List Int} (h : Drn f) : Asc (sortI f) := ⟨h.told.rng, h.told.asc, h.told.len⟩
theorem sort_same {f g : List Int} (hf : f.Nodup) (hg : g.Nodup) (h : ∀ x, x ∈ f ↔ x ∈ g) : sortI f = sortI g := ris_eq (sortI_asc hf) (sortI_asc hg) fun x => by rw [mem_sortI, mem_sortI]; exact h x
theorem drn_rev {f : List Int} (h : Drn f) : Drn f.reverse := ⟨fun x hx => h.rng x (List.mem_reverse.mp hx), (List.reverse_perm f).nodup_iff.mpr h.nd, by rw [List.length_reverse]; exact h.len⟩
theorem sort_rev {f : List Int} (h : Drn f) : sortI f.reverse = sortI f := sort_same (drn_rev h).nd h.nd fun x => List.mem_reverse
theorem q_eqc (f b f' b' : List Int) (s s' : Str) : F_Change___eq__ (chgD f b s) (chgD f' b' s') = .ok (.bl (decide (f = f') && (decide (b = b') && decide (s = s')))) := by
  have e0 : isi_Change (chgD f' b' s') = some true := rfl
  simp only [F_Change___eq__, s_bd, e0, s_opt, s_asB, Bool.not_true, Bool.false_eq_true, if_false, s_bdF, fld_front, fld_back, fld_cside, s_eqt_ints]
  by_cases h1 : f = f'
  · by_cases h2 : b = b'
    · rw [decide_eq_true h1, decide_eq_true h2]
      simp only [s_bd, if_true, Bool.true_and]
      rfl
    · rw [decide_eq_true h1, decide_eq_false h2]
      simp only [s_bd, if_true, if_false, Bool.true_and, Bool.false_and, Bool.false_eq_true, s_finr]
  · rw [decide_eq_false h1]
    simp only [s_bd, if_false, Bool.false_and, Bool.false_eq_true, s_finr]
theorem q_eqx {f b : List Int} {s : Str} {d : D} (h : isi_Change d = some false) : F_Change___eq__ (chgD f b s) d = .ok (.bl false) := by
  simp only [F_Change___eq__, s_bd, h, s_opt, s_asB, Bool.not_false, if_true, s_bdFr, s_finr]
theorem eqr_c (f b : List Int) (s : Str) : eqr_Change (chgD f b s) = true := rfl
theorem eqO_c (f b f' b' : List Int) (s s' : Str) : eqO "Change" eqr_Change (ul2 F_Change___eq__) (chgD f b s) (chgD f' b' s') = .ok (.bl (decide (f = f') && (decide (b = b') && decide (s = s')))) := by
  show (if eqr_Change (chgD f' b' s') = true then ul2 F_Change___eq__ [_, _] else .bad) = _
  rw [if_pos (eqr_c f' b' s'), s_ul2, q_eqc]
theorem eqO_x {f b : List Int} {s : Str} {d : D} (h : isi_Change d = some false) (h2 : eqr_Change d = true) : eqO "Change" eqr_Change (ul2 F_Change___eq__) (chgD f b s) d = .ok (.bl false) := by
  show (if eqr_Change d = true then ul2 F_Change___eq__ [_, _] else .bad) = _
  rw [if_pos h2, s_ul2, q_eqx h]
theorem neO_c (f b f' b' : List Int) (s s' : Str) : neO "Change" eqr_Change (ul2 F_Change___eq__) (chgD f b s) (chgD f' b' s') = .ok (.bl (!(decide (f = f') && (decide (b = b') && decide (s = s'))))) := by
  show (if eqr_Change (chgD f' b' s') = true then bd (bd (ul2 F_Change___eq__ [_, _]) asB) _ else .bad) = _
  rw [if_pos (eqr_c f' b' s'), s_ul2, q_eqc]
  rfl
theorem rx_of {d : D} {x : Str} (h : reprD d = .ok (.str x)) : reprX d = .ok (.str x) := by
  unfold reprD at h
  unfold reprX
  cases e : shwD d with
  | none => rw [e] at h; cases h
  | some y =>
    rw [e] at h
    exact h
theorem sh_ints {f : List Int} (h : ∀ x ∈ f, 0 ≤ x ∧ x ≤ 15) : ∃ b, b ≤ f.length ∧ ShL (f.map D.int) 0 b := by
  induction f with
  | nil => exact ⟨0, Nat.le_refl _, .nil⟩
  | cons a r ih =>
    obtain ⟨b, h1, h2⟩ := ih fun x hx => h x (List.mem_cons_of_mem _ hx)
    have ha := h a List.mem_cons_self
    refine ⟨0 + 1 + b, by rw [List.length_cons]; omega, ?_⟩
    exact ShL.cons (Sh.int (by omega) (by omega)) h2
theorem rep3 {f b : List Int} (bk : Bool) (hf : Asc f) (hb : Asc b) : ∃ x, reprD (.lst [.tup (f.map D.int), .tup (b.map D.int), .str (sdS bk)]) = .ok (.str x) := by
  obtain ⟨b1, l1, s1⟩ := sh_ints hf.rng
  obtain ⟨b2, l2, s2⟩ := sh_ints hb.rng
  have hs : Sh (.str (sdS bk)) 0 1000 := by
    cases bk
    · exact Sh.ascii (by decide) (by decide)
    · exact Sh.ascii (by decide) (by decide)
  have h1 := hf.len
  have h2 := hb.len
  exact (Sh.lst (.cons (Sh.tup s1) (.cons (Sh.tup s2) (.cons (hs.le (Nat.zero_le _) (Nat.le_refl _)) (.nil (b := 0)))))).repr (by decide) (by omega)
end Lw
end
section
set_option Elab.async false
set_option linter.all false
set_option maxRecDepth 100000
set_option maxHeartbeats 1000000
namespace Lw
open PySem Gp Gh
theorem eq_str (x : Str) : eqD (.str x) (.str x) = .ok (.bl true) := by
  show Tr.ok (D.bl (decide (x = x))) = _
  rw [decide_eq_true rfl]
theorem told_right {f b : List Int} {bk : Bool} (hf : Drn f) (hb : Drn b) : F__law_told_right (chgD (sortI f) (sortI b) (sdS bk)) (partD f b (sdS bk)) = .ok (.bl true) := by
  have e2 : ∀ g : List Int, lcF (fun d => nox (bd (intD d) fun y => .ok (some y))) (g.map D.int) = .ok (g.map D.int) := fun g => lc_id fun p _ => rfl
  obtain ⟨x, ex⟩ := rep3 bk hf.asc hb.asc
  have ex := rx_of ex
  have s2 : slD (partD f b (sdS bk)) none (some 2) = .ok (.tup [.lst (f.map D.int), .lst (b.map D.int)]) := rfl
  have i2' : ixD (partD f b (sdS bk)) (.int 2) = .ok (.str (sdS bk)) := i2 ..
  have ad : addD (.lst [.tup ((sortI f).map D.int), .tup ((sortI b).map D.int)]) (.lst [.str (sdS bk)]) = .ok (.lst [.tup ((sortI f).map D.int), .tup ((sortI b).map D.int), .str (sdS bk)]) := s_addl (show 2 + 1 ≤ sizeLine by decide)
  have as2 : asI (.int 2) = .ok (some 2) := rfl
  have z1 : 0 + 1 ≤ sizeLine := by decide
  have z3 : 0 + 1 + 1 + 1 ≤ sizeLine := by decide
  simp only [F__law_told_right, s_bd, fld_front, fld_back, fld_cside, s_ul1, List.length_cons, List.length_nil, z1, z3, if_true, as2, s2, s_itt, s_itl, lcF_cons, lcF_nil, e2, s_sortD, s_tupl, s_nox, i2', ad, ex, eq_str, s_finr]
end Lw
end
section
set_option Elab.async false
set_option linter.all false
set_option maxRecDepth 100000
set_option maxHeartbeats 1000000
namespace Lw
open PySem Gp Gh
theorem in_ints (p : Int) (f : List Int) : inD (.int p) (f.map D.int) = decide (p ∈ f) := by
  unfold inD
  induction f with
  | nil => simp
  | cons a r ih =>
    rw [List.map_cons, List.any_cons, ih]
    have e : eqF (.int a) (.int p) = decide (p = a) := by
      show decide (a = p) = _
      by_cases h : a = p
      · subst h; simp
      · rw [decide_eq_false h, decide_eq_false (Ne.symm h)]
    rw [e]
    by_cases h : p = a
    · simp [h]
    · by_cases h2 : p ∈ r
      · simp [h2]
      · simp [h, h2]
theorem flat_ints : ∀ f : List Int, (f.map D.int).all flatD = true
  | [] => rfl
  | a :: r => by rw [List.map_cons, List.all_cons, flat_ints r]; rfl
theorem notin_ints (p : Int) (f : List Int) : notinD (.int p) (.lst (f.map D.int)) = .ok (.bl (!decide (p ∈ f))) := by
  show bd (if flatD (.int p) = true ∧ (f.map D.int).all flatD = true then Tr.ok (inD (.int p) (f.map D.int)) else .bad) _ = _
  rw [if_pos ⟨rfl, flat_ints f⟩, in_ints]
  rfl
def r16 : List Int := [0, 1, 2, 3, 4, 5, 6, 7, 8, 9, 10, 11, 12, 13, 14, 15]
theorem rg16 : rg1 (.int 16) = .ok (r16.map D.int) := rfl
def fre (f : List Int) : List Int := r16.filter fun p => !decide (p ∈ f)
theorem rev_l (f : List Int) : revA (.lst (f.map D.int)) = .ok (.lst (f.reverse.map D.int)) := by
  show Tr.ok (D.lst (f.map D.int).reverse) = _
  rw [List.map_reverse]
theorem ne_ints (l m : List Int) : neD (.lst (l.map D.int)) (.lst (m.map D.int)) = .ok (.bl (!decide (l = m))) := by
  cases h : decide (l = m) with
  | true =>
    have z := s_eq_ints l m
    rw [h] at z
    exact l_neq z
  | false =>
    have z := s_eq_ints l m
    rw [h] at z
    unfold eqD at z
    unfold neD
    cases e : eqB (.lst (l.map D.int)) (.lst (m.map D.int)) with
    | ok k =>
      rw [e] at z
      injection z with z
      injection z with z
      subst z
      rfl
    | ex c fs => rw [e] at z; cases z
    | bad => rw [e] at z; cases z
    | draw m f => rw [e] at z; cases z
theorem fre_mem {f : List Int} {x : Int} (h : x ∈ fre f) : 0 ≤ x ∧ x ≤ 15 ∧ x ∉ f := by
  unfold fre at h
  rw [List.mem_filter] at h
  obtain ⟨h1, h2⟩ := h
  have h3 : x ∉ f := by simpa using h2
  refine ⟨?_, ?_, h3⟩
  · revert x; intro x h1 _ _; revert h1; unfold r16; simp only [List.mem_cons, List.mem_nil_iff, or_false]; omega
  · revert x; intro x h1 _ _; revert h1; unfold r16; simp only [List.mem_cons, List.mem_nil_iff, or_false]; omega
theorem take1 {l : List Int} : l.take 1 = [] ∨ ∃ x, x ∈ l ∧ l.take 1 = [x] := by
  cases l with
  | nil => exact .inl rfl
  | cons a r => exact .inr ⟨a, List.mem_cons_self, rfl⟩
theorem drn_more {f : List Int} (h : Drn f) (hl : f.length < 8) : Drn (f ++ (fre f).take 1) := by
  rcases take1 (l := fre f) with e | ⟨x, hx, e⟩
  · rw [e, List.append_nil]
    exact h
  · rw [e]
    obtain ⟨a, b, c⟩ := fre_mem hx
    exact drn_app h a (by omega) c hl
theorem drn_one {f : List Int} (h : Drn f) : Drn (f.take 1 ++ (fre f).take 1) := by
  have h1 : Drn (f.take 1) := ⟨fun x hx => h.rng x (List.mem_of_mem_take hx), h.nd.sublist (List.take_sublist _ _), Nat.le_trans (List.length_take_le ..) (by decide)⟩
  rcases take1 (l := fre f) with e | ⟨x, hx, e⟩
  · rw [e, List.append_nil]
    exact h1
  · rw [e]
    obtain ⟨a, b, c⟩ := fre_mem hx
    exact drn_app h1 a (by omega) (fun z => c (List.mem_of_mem_take z)) (Nat.lt_of_le_of_lt (List.length_take_le ..) (by decide))
theorem to1 (l : List Int) : slD (.lst (l.map D.int)) none (some 1) = .ok (.lst ((l.take 1).map D.int)) := by
  rw [List.map_take]
  exact sl_to (l.map D.int) 1
theorem app_ints {l m : List Int} (h : l.length ≤ 20) (k : m.length ≤ 20) : addD (.lst (l.map D.int)) (.lst (m.map D.int)) = .ok (.lst ((l ++ m).map D.int)) := by
  rw [List.map_append]
  exact s_addl (Nat.le_trans (show _ ≤ 40 by rw [List.length_map, List.length_map]; omega) (by decide))
theorem strO_c {f b : List Int} {bk : Bool} (hf : Drn f) (hb : Drn b) : strO "Change" (ul1 F_Change___str__) (chgD (sortI f) (sortI b) (sdS bk)) = .ok (.str (txC (sortI f) (sortI b) bk)) := strO_chg hf.asc hb.asc
theorem lc_fi {F : D → Tr (Option D)} {c : Int → Bool} {ps : List Int} (h : ∀ p ∈ ps, F (.int p) = .ok (if c p = true then some (.int p) else none)) : lcF F (ps.map D.int) = .ok ((ps.filter c).map D.int) := by
  have z := lc_fil (c := c) (g := fun p => p) h
  rw [z, List.map_id']
theorem ne_nil (f : List Int) : neD (.lst (f.map D.int)) (.lst []) = .ok (.bl (!decide (f = []))) := ne_ints f []
theorem lt_int (i j : Int) : ltD (.int i) (.int j) = .ok (.bl (decide (i < j))) := rfl
theorem turn (bk : Bool) : eqD (.str (sdS bk)) (.str "front") = .ok (.bl (!bk)) := by cases bk <;> rfl
theorem dturn (bk : Bool) : decide (sdS bk = sdS (!bk)) = false := by cases bk <;> rfl
theorem turnI (bk : Bool) : (if (!bk) = true then Tr.ok (D.str "back") else .ok (.str "front")) = .ok (.str (sdS (!bk))) := by cases bk <;> rfl
theorem lc_id' {F : D → Tr (Option D)} {ps : List Int} (h : ∀ p : Int, F (.int p) = .ok (some (.int p))) : lcF F (ps.map D.int) = .ok (ps.map D.int) := lc_id fun p _ => h p
theorem eqnil : eqD (.lst []) (.lst []) = .ok (.bl true) := rfl
theorem b_equal {f b : List Int} {bk : Bool} (hf : Drn f) (hb : Drn b) : Bx (fun d => d = .bl true) (F__law_equal_right .pen (chgD (sortI f) (sortI b) (sdS bk)) (partD f b (sdS bk))) 1 := by
  rw [lz__law_equal_right]
  unfold L__law_equal_right
  have c1 : F_Change___init__ [] (.tup (f.reverse.map D.int)) (.lst (b.reverse.map D.int)) (.str (sdS bk)) = .ok (chfs (sortI f) (sortI b) (sdS bk)) := by
    have z := q_chg (t1 := true) (t2 := false) (bk := bk) (drn_rev hf) (drn_rev hb)
    rw [sort_rev hf, sort_rev hb] at z
    exact z
  have c2 : F_Change___init__ [] (.lst (f.map D.int)) (.tup (b.map D.int)) (.str (sdS bk)) = .ok (chfs (sortI f) (sortI b) (sdS bk)) := q_chg (t1 := false) (t2 := true) (bk := bk) hf hb
  have pd : partD f b (sdS bk) = .tup [.lst (f.map D.int), .lst (b.map D.int), .str (sdS bk)] := rfl
  have oc : ∀ g h s, Tr.ok (D.obj "Change" (chfs g h s)) = .ok (chgD g h s) := fun _ _ _ => rfl
  have ls : ∀ l : List D, listD (.lst l) = .ok (.lst l) := fun _ => rfl
  rw [pd]
  simp -implicitDefEqProofs -dsimp only [implies_true, isS_str, s_bdx, s_bd, ↓k_bd, k_bd, k_bdx, k_bdd, s_nox, k_bdF, k_bdFr, k_bdFx, s_finr, s_finn, s_find, k_bdFd, ↓reduceIte, s_asB, s_ul1, s_ul2, s_ul3, s_sub, s_add, s_neg, s_eq, s_len, s_itl, s_itt, s_opt, List.length_cons, List.length_nil, decide_true, decide_false, Bool.not_true, Bool.not_false, if_true, if_false, Bool.false_eq_true, Nat.reduceAdd, z0L, z1L, z2L, z3L, z4L, z5L, z6L, z7L, z8L, z9L, z10L, z11L, z12L, z0l, z1l, z2l, z3l, z4l, l_asI, l_finx, l_finIx, l_finI, l_un2, l_un3, l_un4, l_ne, l_nes, l_neb, l_gt, l_ix0, l_ix1, l_ix2, l_ix3, l_it0, l_it1, l_it2, l_it3, F_draw_eq, List.cons_append, List.nil_append, k_bdbd, k_bdFbd, k_finbd, rev_l, s_tupl, c1, oc, neO_c, ls, c2, eqO_c, Bool.and_self, rg16]
  rw [lc_fi (c := fun p => !decide (p ∈ f)) fun p hp => ?_]
  rotate_left
  · simp -implicitDefEqProofs -dsimp only [implies_true, isS_str, s_bdx, s_bd, ↓k_bd, k_bd, k_bdx, k_bdd, s_nox, k_bdF, k_bdFr, k_bdFx, s_finr, s_finn, s_find, k_bdFd, ↓reduceIte, s_asB, s_ul1, s_ul2, s_ul3, s_sub, s_add, s_neg, s_eq, s_len, s_itl, s_itt, s_opt, List.length_cons, List.length_nil, decide_true, decide_false, Bool.not_true, Bool.not_false, if_true, if_false, Bool.false_eq_true, Nat.reduceAdd, z0L, z1L, z2L, z3L, z4L, z5L, z6L, z7L, z8L, z9L, z10L, z11L, z12L, z0l, z1l, z2l, z3l, z4l, l_asI, l_finx, l_finIx, l_finI, l_un2, l_un3, l_un4, l_ne, l_nes, l_neb, l_gt, l_ix0, l_ix1, l_ix2, l_ix3, l_it0, l_it1, l_it2, l_it3, F_draw_eq, List.cons_append, List.nil_append, k_bdbd, k_bdFbd, k_finbd, notin_ints]
    cases decide (p ∈ f)
    · simp -implicitDefEqProofs -dsimp only [implies_true, isS_str, s_bdx, s_bd, ↓k_bd, k_bd, k_bdx, k_bdd, s_nox, k_bdF, k_bdFr, k_bdFx, s_finr, s_finn, s_find, k_bdFd, ↓reduceIte, s_asB, s_ul1, s_ul2, s_ul3, s_sub, s_add, s_neg, s_eq, s_len, s_itl, s_itt, s_opt, List.length_cons, List.length_nil, decide_true, decide_false, Bool.not_true, Bool.not_false, if_true, if_false, Bool.false_eq_true, Nat.reduceAdd, z0L, z1L, z2L, z3L, z4L, z5L, z6L, z7L, z8L, z9L, z10L, z11L, z12L, z0l, z1l, z2l, z3l, z4l, l_asI, l_finx, l_finIx, l_finI, l_un2, l_un3, l_un4, l_ne, l_nes, l_neb, l_gt, l_ix0, l_ix1, l_ix2, l_ix3, l_it0, l_it1, l_it2, l_it3, F_draw_eq, List.cons_append, List.nil_append, k_bdbd, k_bdFbd, k_finbd]
    · simp -implicitDefEqProofs -dsimp only [implies_true, isS_str, s_bdx, s_bd, ↓k_bd, k_bd, k_bdx, k_bdd, s_nox, k_bdF, k_bdFr, k_bdFx, s_finr, s_finn, s_find, k_bdFd, ↓reduceIte, s_asB, s_ul1, s_ul2, s_ul3, s_sub, s_add, s_neg, s_eq, s_len, s_itl, s_itt, s_opt, List.length_cons, List.length_nil, decide_true, decide_false, Bool.not_true, Bool.not_false, if_true, if_false, Bool.false_eq_true, Nat.reduceAdd, z0L, z1L, z2L, z3L, z4L, z5L, z6L, z7L, z8L, z9L, z10L, z11L, z12L, z0l, z1l, z2l, z3l, z4l, l_asI, l_finx, l_finIx, l_finI, l_un2, l_un3, l_un4, l_ne, l_nes, l_neb, l_gt, l_ix0, l_ix1, l_ix2, l_ix3, l_it0, l_it1, l_it2, l_it3, F_draw_eq, List.cons_append, List.nil_append, k_bdbd, k_bdFbd, k_finbd]
  have hfre : r16.filter (fun p => !decide (p ∈ f)) = fre f := rfl
  rw [hfre]
  have os2 : (F_Change___init__ [] (.lst (f.map D.int)) (.lst (b.map D.int)) (.str (sdS (!bk)))) = .ok (chfs (sortI f) (sortI b) (sdS (!bk))) := q_chg (t1 := false) (t2 := false) (bk := !bk) hf hb
  have x1 : eqO "Change" eqr_Change (ul2 F_Change___eq__) (chgD (sortI f) (sortI b) (sdS bk)) .non = .ok (.bl false) := eqO_x rfl rfl
  have x2 : eqO "Change" eqr_Change (ul2 F_Change___eq__) (chgD (sortI f) (sortI b) (sdS bk)) (.lst (f.map D.int)) = .ok (.bl false) := eqO_x rfl rfl
  have x3 : eqO "Change" eqr_Change (ul2 F_Change___eq__) (chgD (sortI f) (sortI b) (sdS bk)) (.str (txC (sortI f) (sortI b) bk)) = .ok (.bl false) := eqO_x rfl rfl
  have x4 : eqO "Change" eqr_Change (ul2 F_Change___eq__) (chgD (sortI f) (sortI b) (sdS bk)) (.tup [.lst (f.map D.int), .lst (b.map D.int), .str (sdS bk)]) = .ok (.bl false) := eqO_x rfl rfl
  have x5 : eqO "Change" eqr_Change (ul2 F_Change___eq__) (chgD (sortI f) (sortI b) (sdS bk)) (.int 0) = .ok (.bl false) := eqO_x rfl rfl
  have z5 : (5 ≤ sizeLine) = True := z5L
  have l1 : f.length ≤ 20 := Nat.le_trans hf.len (by decide)
  have l2 : ∀ l : List Int, (l.take 1).length ≤ 20 := fun l => Nat.le_trans (List.length_take_le ..) (by decide)
  by_cases h8 : (f.length : Int) < 8
  · by_cases hn : f = []
    · simp -implicitDefEqProofs -dsimp only [implies_true, isS_str, s_bdx, s_bd, ↓k_bd, k_bd, k_bdx, k_bdd, s_nox, k_bdF, k_bdFr, k_bdFx, s_finr, s_finn, s_find, k_bdFd, ↓reduceIte, s_asB, s_ul1, s_ul2, s_ul3, s_sub, s_add, s_neg, s_eq, s_len, s_itl, s_itt, s_opt, List.length_cons, List.length_nil, decide_true, decide_false, Bool.not_true, Bool.not_false, if_true, if_false, Bool.false_eq_true, Nat.reduceAdd, z0L, z1L, z2L, z3L, z4L, z5L, z6L, z7L, z8L, z9L, z10L, z11L, z12L, z0l, z1l, z2l, z3l, z4l, l_asI, l_finx, l_finIx, l_finI, l_un2, l_un3, l_un4, l_ne, l_nes, l_neb, l_gt, l_ix0, l_ix1, l_ix2, l_ix3, l_it0, l_it1, l_it2, l_it3, F_draw_eq, List.cons_append, List.nil_append, k_bdbd, k_bdFbd, k_finbd, to1, List.length_map, lt_int, decide_eq_true h8, ne_nil, decide_eq_true hn, app_ints (l2 f) (l2 (fre f))]
      have ho : Drn (f.take 1 ++ (fre f).take 1) := drn_one hf
      generalize f.take 1 ++ (fre f).take 1 = o at ho ⊢
      have os : (F_Change___init__ [] (.lst (o.map D.int)) (.lst (b.map D.int)) (.str (sdS bk))) = .ok (chfs (sortI o) (sortI b) (sdS bk)) := q_chg (t1 := false) (t2 := false) (bk := bk) ho hb
      by_cases hso : sortI o = sortI f
      · simp -implicitDefEqProofs -dsimp only [implies_true, isS_str, s_bdx, s_bd, ↓k_bd, k_bd, k_bdx, k_bdd, s_nox, k_bdF, k_bdFr, k_bdFx, s_finr, s_finn, s_find, k_bdFd, ↓reduceIte, s_asB, s_ul1, s_ul2, s_ul3, s_sub, s_add, s_neg, s_eq, s_len, s_itl, s_itt, s_opt, List.length_cons, List.length_nil, decide_true, decide_false, Bool.not_true, Bool.not_false, if_true, if_false, Bool.false_eq_true, Nat.reduceAdd, z0L, z1L, z2L, z3L, z4L, z5L, z6L, z7L, z8L, z9L, z10L, z11L, z12L, z0l, z1l, z2l, z3l, z4l, l_asI, l_finx, l_finIx, l_finI, l_un2, l_un3, l_un4, l_ne, l_nes, l_neb, l_gt, l_ix0, l_ix1, l_ix2, l_ix3, l_it0, l_it1, l_it2, l_it3, F_draw_eq, List.cons_append, List.nil_append, k_bdbd, k_bdFbd, k_finbd, lc_id', s_int, s_sortD, ne_ints, decide_eq_true hso, os2, oc, eqO_c, turn, turnI, dturn, Bool.and_false, strO_c hf hb, lcF_cons, lcF_nil, x1, x2, x3, x4, x5, eqnil, z5]
        exact bx_ok rfl
      · simp -implicitDefEqProofs -dsimp only [implies_true, isS_str, s_bdx, s_bd, ↓k_bd, k_bd, k_bdx, k_bdd, s_nox, k_bdF, k_bdFr, k_bdFx, s_finr, s_finn, s_find, k_bdFd, ↓reduceIte, s_asB, s_ul1, s_ul2, s_ul3, s_sub, s_add, s_neg, s_eq, s_len, s_itl, s_itt, s_opt, List.length_cons, List.length_nil, decide_true, decide_false, Bool.not_true, Bool.not_false, if_true, if_false, Bool.false_eq_true, Nat.reduceAdd, z0L, z1L, z2L, z3L, z4L, z5L, z6L, z7L, z8L, z9L, z10L, z11L, z12L, z0l, z1l, z2l, z3l, z4l, l_asI, l_finx, l_finIx, l_finI, l_un2, l_un3, l_un4, l_ne, l_nes, l_neb, l_gt, l_ix0, l_ix1, l_ix2, l_ix3, l_it0, l_it1, l_it2, l_it3, F_draw_eq, List.cons_append, List.nil_append, k_bdbd, k_bdFbd, k_finbd, lc_id', s_int, s_sortD, ne_ints, decide_eq_false hso, decide_eq_false (Ne.symm hso), os, Bool.false_and, os2, oc, eqO_c, turn, turnI, dturn, Bool.and_false, strO_c hf hb, lcF_cons, lcF_nil, x1, x2, x3, x4, x5, eqnil, z5]
        exact bx_ok rfl
    · simp -implicitDefEqProofs -dsimp only [implies_true, isS_str, s_bdx, s_bd, ↓k_bd, k_bd, k_bdx, k_bdd, s_nox, k_bdF, k_bdFr, k_bdFx, s_finr, s_finn, s_find, k_bdFd, ↓reduceIte, s_asB, s_ul1, s_ul2, s_ul3, s_sub, s_add, s_neg, s_eq, s_len, s_itl, s_itt, s_opt, List.length_cons, List.length_nil, decide_true, decide_false, Bool.not_true, Bool.not_false, if_true, if_false, Bool.false_eq_true, Nat.reduceAdd, z0L, z1L, z2L, z3L, z4L, z5L, z6L, z7L, z8L, z9L, z10L, z11L, z12L, z0l, z1l, z2l, z3l, z4l, l_asI, l_finx, l_finIx, l_finI, l_un2, l_un3, l_un4, l_ne, l_nes, l_neb, l_gt, l_ix0, l_ix1, l_ix2, l_ix3, l_it0, l_it1, l_it2, l_it3, F_draw_eq, List.cons_append, List.nil_append, k_bdbd, k_bdFbd, k_finbd, to1, List.length_map, lt_int, decide_eq_true h8, ne_nil, decide_eq_false hn, app_ints l1 (l2 (fre f)), dropI]
      refine bk_then (a := 1) (b := 0) (bx_of (b_pick (P := fun d => ∃ o, d = .lst (o.map D.int) ∧ Drn o) (by simp) (by simp) fun d hd => ?_)) (fun d hd => ?_) (by decide)
      · simp only [List.mem_cons, List.mem_nil_iff, or_false] at hd
        rcases hd with rfl | rfl
        · exact ⟨_, rfl, drn_more hf (by omega)⟩
        · exact ⟨_, rfl, drn_drop hf⟩
      · obtain ⟨o, rfl, ho⟩ := hd
        have os : (F_Change___init__ [] (.lst (o.map D.int)) (.lst (b.map D.int)) (.str (sdS bk))) = .ok (chfs (sortI o) (sortI b) (sdS bk)) := q_chg (t1 := false) (t2 := false) (bk := bk) ho hb
        by_cases hso : sortI o = sortI f
        · simp -implicitDefEqProofs -dsimp only [implies_true, isS_str, s_bdx, s_bd, ↓k_bd, k_bd, k_bdx, k_bdd, s_nox, k_bdF, k_bdFr, k_bdFx, s_finr, s_finn, s_find, k_bdFd, ↓reduceIte, s_asB, s_ul1, s_ul2, s_ul3, s_sub, s_add, s_neg, s_eq, s_len, s_itl, s_itt, s_opt, List.length_cons, List.length_nil, decide_true, decide_false, Bool.not_true, Bool.not_false, if_true, if_false, Bool.false_eq_true, Nat.reduceAdd, z0L, z1L, z2L, z3L, z4L, z5L, z6L, z7L, z8L, z9L, z10L, z11L, z12L, z0l, z1l, z2l, z3l, z4l, l_asI, l_finx, l_finIx, l_finI, l_un2, l_un3, l_un4, l_ne, l_nes, l_neb, l_gt, l_ix0, l_ix1, l_ix2, l_ix3, l_it0, l_it1, l_it2, l_it3, F_draw_eq, List.cons_append, List.nil_append, k_bdbd, k_bdFbd, k_finbd, lc_id', s_int, s_sortD, ne_ints, decide_eq_true hso, os2, oc, eqO_c, turn, turnI, dturn, Bool.and_false, strO_c hf hb, lcF_cons, lcF_nil, x1, x2, x3, x4, x5, eqnil, z5]
          exact bx_ok rfl
        · simp -implicitDefEqProofs -dsimp only [implies_true, isS_str, s_bdx, s_bd, ↓k_bd, k_bd, k_bdx, k_bdd, s_nox, k_bdF, k_bdFr, k_bdFx, s_finr, s_finn, s_find, k_bdFd, ↓reduceIte, s_asB, s_ul1, s_ul2, s_ul3, s_sub, s_add, s_neg, s_eq, s_len, s_itl, s_itt, s_opt, List.length_cons, List.length_nil, decide_true, decide_false, Bool.not_true, Bool.not_false, if_true, if_false, Bool.false_eq_true, Nat.reduceAdd, z0L, z1L, z2L, z3L, z4L, z5L, z6L, z7L, z8L, z9L, z10L, z11L, z12L, z0l, z1l, z2l, z3l, z4l, l_asI, l_finx, l_finIx, l_finI, l_un2, l_un3, l_un4, l_ne, l_nes, l_neb, l_gt, l_ix0, l_ix1, l_ix2, l_ix3, l_it0, l_it1, l_it2, l_it3, F_draw_eq, List.cons_append, List.nil_append, k_bdbd, k_bdFbd, k_finbd, lc_id', s_int, s_sortD, ne_ints, decide_eq_false hso, decide_eq_false (Ne.symm hso), os, Bool.false_and, os2, oc, eqO_c, turn, turnI, dturn, Bool.and_false, strO_c hf hb, lcF_cons, lcF_nil, x1, x2, x3, x4, x5, eqnil, z5]
          exact bx_ok rfl
  · simp -implicitDefEqProofs -dsimp only [implies_true, isS_str, s_bdx, s_bd, ↓k_bd, k_bd, k_bdx, k_bdd, s_nox, k_bdF, k_bdFr, k_bdFx, s_finr, s_finn, s_find, k_bdFd, ↓reduceIte, s_asB, s_ul1, s_ul2, s_ul3, s_sub, s_add, s_neg, s_eq, s_len, s_itl, s_itt, s_opt, List.length_cons, List.length_nil, decide_true, decide_false, Bool.not_true, Bool.not_false, if_true, if_false, Bool.false_eq_true, Nat.reduceAdd, z0L, z1L, z2L, z3L, z4L, z5L, z6L, z7L, z8L, z9L, z10L, z11L, z12L, z0l, z1l, z2l, z3l, z4l, l_asI, l_finx, l_finIx, l_finI, l_un2, l_un3, l_un4, l_ne, l_nes, l_neb, l_gt, l_ix0, l_ix1, l_ix2, l_ix3, l_it0, l_it1, l_it2, l_it3, F_draw_eq, List.cons_append, List.nil_append, k_bdbd, k_bdFbd, k_finbd, to1, List.length_map, lt_int, decide_eq_false h8, app_ints (l2 f) (l2 (fre f))]
    have ho : Drn (f.take 1 ++ (fre f).take 1) := drn_one hf
    generalize f.take 1 ++ (fre f).take 1 = o at ho ⊢
    have os : (F_Change___init__ [] (.lst (o.map D.int)) (.lst (b.map D.int)) (.str (sdS bk))) = .ok (chfs (sortI o) (sortI b) (sdS bk)) := q_chg (t1 := false) (t2 := false) (bk := bk) ho hb
    by_cases hso : sortI o = sortI f
    · simp -implicitDefEqProofs -dsimp only [implies_true, isS_str, s_bdx, s_bd, ↓k_bd, k_bd, k_bdx, k_bdd, s_nox, k_bdF, k_bdFr, k_bdFx, s_finr, s_finn, s_find, k_bdFd, ↓reduceIte, s_asB, s_ul1, s_ul2, s_ul3, s_sub, s_add, s_neg, s_eq, s_len, s_itl, s_itt, s_opt, List.length_cons, List.length_nil, decide_true, decide_false, Bool.not_true, Bool.not_false, if_true, if_false, Bool.false_eq_true, Nat.reduceAdd, z0L, z1L, z2L, z3L, z4L, z5L, z6L, z7L, z8L, z9L, z10L, z11L, z12L, z0l, z1l, z2l, z3l, z4l, l_asI, l_finx, l_finIx, l_finI, l_un2, l_un3, l_un4, l_ne, l_nes, l_neb, l_gt, l_ix0, l_ix1, l_ix2, l_ix3, l_it0, l_it1, l_it2, l_it3, F_draw_eq, List.cons_append, List.nil_append, k_bdbd, k_bdFbd, k_finbd, lc_id', s_int, s_sortD, ne_ints, decide_eq_true hso, os2, oc, eqO_c, turn, turnI, dturn, Bool.and_false, strO_c hf hb, lcF_cons, lcF_nil, x1, x2, x3, x4, x5, eqnil, z5]
      exact bx_ok rfl
    · simp -implicitDefEqProofs -dsimp only [implies_true, isS_str, s_bdx, s_bd, ↓k_bd, k_bd, k_bdx, k_bdd, s_nox, k_bdF, k_bdFr, k_bdFx, s_finr, s_finn, s_find, k_bdFd, ↓reduceIte, s_asB, s_ul1, s_ul2, s_ul3, s_sub, s_add, s_neg, s_eq, s_len, s_itl, s_itt, s_opt, List.length_cons, List.length_nil, decide_true, decide_false, Bool.not_true, Bool.not_false, if_true, if_false, Bool.false_eq_true, Nat.reduceAdd, z0L, z1L, z2L, z3L, z4L, z5L, z6L, z7L, z8L, z9L, z10L, z11L, z12L, z0l, z1l, z2l, z3l, z4l, l_asI, l_finx, l_finIx, l_finI, l_un2, l_un3, l_un4, l_ne, l_nes, l_neb, l_gt, l_ix0, l_ix1, l_ix2, l_ix3, l_it0, l_it1, l_it2, l_it3, F_draw_eq, List.cons_append, List.nil_append, k_bdbd, k_bdFbd, k_finbd, lc_id', s_int, s_sortD, ne_ints, decide_eq_false hso, decide_eq_false (Ne.symm hso), os, Bool.false_and, os2, oc, eqO_c, turn, turnI, dturn, Bool.and_false, strO_c hf hb, lcF_cons, lcF_nil, x1, x2, x3, x4, x5, eqnil, z5]
      exact bx_ok rfl
end Lw
end
section
set_option Elab.async false
set_option linter.all false
set_option maxRecDepth 100000
set_option maxHeartbeats 1000000
namespace Lw
open PySem Gp Gh
def odds : List D := [.non, .int 0, .int 5, .str "0", .str "", .dct, .bl true, .lst [.int 16], .lst [.int (-1)], .tup [.bl true], .lst [.non], .lst [.str "0"], .lst [.int 0, .int 0], .tup [.int 3, .int 1, .int 3], .lst (rgD 0 9), .tup (rgD 0 16), .lst [.int 0, .int 1, .int 2, .int 99], .lst [.lst [.int 0]], .tup [.int 0, .int 100000000000000000000], .lst [.bl false]]
def oddS : List D := [.str "", .str "left", .str "Front", .non, .int 0, .bl true, .lst [.str "front"], .tup [.str "back"], .dct]
theorem b_odd : Bx (fun d => d ∈ odds) (F__law_odd_places .pen) 1 := by
  rw [lz__law_odd_places]
  unfold L__law_odd_places
  have a1 : rgA1 (.int 9) = .ok (0, 9) := rfl
  have a2 : rgA1 (.int 16) = .ok (0, 16) := rfl
  have r1 : rgOk 0 9 := by decide
  have r2 : rgOk 0 16 := by decide
  have z15 : (15 ≤ sizeLine) = True := eq_true (by decide)
  have ad : ∀ l m : List D, l.length = 15 → m.length = 5 → addD (.lst l) (.lst m) = .ok (.lst (l ++ m)) := fun l m h1 h2 => s_addl (by rw [h1, h2]; decide)
  simp -implicitDefEqProofs -dsimp only [implies_true, isS_str, s_bdx, s_bd, ↓k_bd, k_bd, k_bdx, k_bdd, s_nox, k_bdF, k_bdFr, k_bdFx, s_finr, s_finn, s_find, k_bdFd, ↓reduceIte, s_asB, s_ul1, s_ul2, s_ul3, s_sub, s_add, s_neg, s_eq, s_len, s_itl, s_itt, s_opt, List.length_cons, List.length_nil, decide_true, decide_false, Bool.not_true, Bool.not_false, if_true, if_false, Bool.false_eq_true, Nat.reduceAdd, z0L, z1L, z2L, z3L, z4L, z5L, z6L, z7L, z8L, z9L, z10L, z11L, z12L, z0l, z1l, z2l, z3l, z4l, l_asI, l_finx, l_finIx, l_finI, l_un2, l_un3, l_un4, l_ne, l_nes, l_neb, l_gt, l_ix0, l_ix1, l_ix2, l_ix3, l_it0, l_it1, l_it2, l_it3, F_draw_eq, List.cons_append, List.nil_append, k_bdbd, k_bdFbd, k_finbd, a1, a2, r1, r2, z15]
  rw [ad _ _ rfl rfl]
  simp -implicitDefEqProofs -dsimp only [implies_true, isS_str, s_bdx, s_bd, ↓k_bd, k_bd, k_bdx, k_bdd, s_nox, k_bdF, k_bdFr, k_bdFx, s_finr, s_finn, s_find, k_bdFd, ↓reduceIte, s_asB, s_ul1, s_ul2, s_ul3, s_sub, s_add, s_neg, s_eq, s_len, s_itl, s_itt, s_opt, List.length_cons, List.length_nil, decide_true, decide_false, Bool.not_true, Bool.not_false, if_true, if_false, Bool.false_eq_true, Nat.reduceAdd, z0L, z1L, z2L, z3L, z4L, z5L, z6L, z7L, z8L, z9L, z10L, z11L, z12L, z0l, z1l, z2l, z3l, z4l, l_asI, l_finx, l_finIx, l_finI, l_un2, l_un3, l_un4, l_ne, l_nes, l_neb, l_gt, l_ix0, l_ix1, l_ix2, l_ix3, l_it0, l_it1, l_it2, l_it3, F_draw_eq, List.cons_append, List.nil_append, k_bdbd, k_bdFbd, k_finbd]
  refine bk_then (a := 1) (b := 0) (bx_of (b_pick (P := fun d => d ∈ odds) (by decide) (by decide) fun d hd => hd)) (fun d hd => ?_) (by decide)
  simp -implicitDefEqProofs -dsimp only [implies_true, isS_str, s_bdx, s_bd, ↓k_bd, k_bd, k_bdx, k_bdd, s_nox, k_bdF, k_bdFr, k_bdFx, s_finr, s_finn, s_find, k_bdFd, ↓reduceIte, s_asB, s_ul1, s_ul2, s_ul3, s_sub, s_add, s_neg, s_eq, s_len, s_itl, s_itt, s_opt, List.length_cons, List.length_nil, decide_true, decide_false, Bool.not_true, Bool.not_false, if_true, if_false, Bool.false_eq_true, Nat.reduceAdd, z0L, z1L, z2L, z3L, z4L, z5L, z6L, z7L, z8L, z9L, z10L, z11L, z12L, z0l, z1l, z2l, z3l, z4l, l_asI, l_finx, l_finIx, l_finI, l_un2, l_un3, l_un4, l_ne, l_nes, l_neb, l_gt, l_ix0, l_ix1, l_ix2, l_ix3, l_it0, l_it1, l_it2, l_it3, F_draw_eq, List.cons_append, List.nil_append, k_bdbd, k_bdFbd, k_finbd]
  exact bx_ok hd
theorem told_odd {d : D} (h : d ∈ odds) : F_are_told d = .ok (.bl false) := by
  simp only [odds, List.mem_cons, List.mem_nil_iff, or_false] at h
  rcases h with rfl | rfl | rfl | rfl | rfl | rfl | rfl | rfl | rfl | rfl | rfl | rfl | rfl | rfl | rfl | rfl | rfl | rfl | rfl | rfl <;> kernel_rfl
theorem side_odd {d : D} (h : d ∈ oddS) : isi_str d = some false ∨ (isi_str d = some true ∧ notinD d (.tup [.str "front", .str "back"]) = .ok (.bl true)) := by
  simp only [oddS, List.mem_cons, List.mem_nil_iff, or_false] at h
  rcases h with rfl | rfl | rfl | rfl | rfl | rfl | rfl | rfl | rfl
  · exact .inr ⟨rfl, by kernel_rfl⟩
  · exact .inr ⟨rfl, by kernel_rfl⟩
  · exact .inr ⟨rfl, by kernel_rfl⟩
  all_goals exact .inl rfl
theorem ini_front {x y z : D} (h : F_are_told x = .ok (.bl false)) : F_Change___init__ [] x y z = .ex "BadChange" [("part", .str "front")] := by
  rw [lz_Change___init__]
  unfold L_Change___init__
  simp -implicitDefEqProofs -dsimp only [implies_true, isS_str, s_bdx, s_bd, ↓k_bd, k_bd, k_bdx, k_bdd, s_nox, k_bdF, k_bdFr, k_bdFx, s_finr, s_finn, s_find, k_bdFd, ↓reduceIte, s_asB, s_ul1, s_ul2, s_ul3, s_sub, s_add, s_neg, s_eq, s_len, s_itl, s_itt, s_opt, List.length_cons, List.length_nil, decide_true, decide_false, Bool.not_true, Bool.not_false, if_true, if_false, Bool.false_eq_true, Nat.reduceAdd, z0L, z1L, z2L, z3L, z4L, z5L, z6L, z7L, z8L, z9L, z10L, z11L, z12L, z0l, z1l, z2l, z3l, z4l, l_asI, l_finx, l_finIx, l_finI, l_un2, l_un3, l_un4, l_ne, l_nes, l_neb, l_gt, l_ix0, l_ix1, l_ix2, l_ix3, l_it0, l_it1, l_it2, l_it3, F_draw_eq, List.cons_append, List.nil_append, k_bdbd, k_bdFbd, k_finbd, h]
theorem ini_back {x y z : D} (h1 : F_are_told x = .ok (.bl true)) (h : F_are_told y = .ok (.bl false)) : F_Change___init__ [] x y z = .ex "BadChange" [("part", .str "back")] := by
  rw [lz_Change___init__]
  unfold L_Change___init__
  simp -implicitDefEqProofs -dsimp only [implies_true, isS_str, s_bdx, s_bd, ↓k_bd, k_bd, k_bdx, k_bdd, s_nox, k_bdF, k_bdFr, k_bdFx, s_finr, s_finn, s_find, k_bdFd, ↓reduceIte, s_asB, s_ul1, s_ul2, s_ul3, s_sub, s_add, s_neg, s_eq, s_len, s_itl, s_itt, s_opt, List.length_cons, List.length_nil, decide_true, decide_false, Bool.not_true, Bool.not_false, if_true, if_false, Bool.false_eq_true, Nat.reduceAdd, z0L, z1L, z2L, z3L, z4L, z5L, z6L, z7L, z8L, z9L, z10L, z11L, z12L, z0l, z1l, z2l, z3l, z4l, l_asI, l_finx, l_finIx, l_finI, l_un2, l_un3, l_un4, l_ne, l_nes, l_neb, l_gt, l_ix0, l_ix1, l_ix2, l_ix3, l_it0, l_it1, l_it2, l_it3, F_draw_eq, List.cons_append, List.nil_append, k_bdbd, k_bdFbd, k_finbd, h1, h]
theorem ini_side {x y z : D} (h1 : F_are_told x = .ok (.bl true)) (h : F_are_told y = .ok (.bl true)) (hz : z ∈ oddS) : F_Change___init__ [] x y z = .ex "BadChange" [("part", .str "side")] := by
  rw [lz_Change___init__]
  unfold L_Change___init__
  rcases side_odd hz with e | ⟨e, e2⟩
  · simp -implicitDefEqProofs -dsimp only [implies_true, isS_str, s_bdx, s_bd, ↓k_bd, k_bd, k_bdx, k_bdd, s_nox, k_bdF, k_bdFr, k_bdFx, s_finr, s_finn, s_find, k_bdFd, ↓reduceIte, s_asB, s_ul1, s_ul2, s_ul3, s_sub, s_add, s_neg, s_eq, s_len, s_itl, s_itt, s_opt, List.length_cons, List.length_nil, decide_true, decide_false, Bool.not_true, Bool.not_false, if_true, if_false, Bool.false_eq_true, Nat.reduceAdd, z0L, z1L, z2L, z3L, z4L, z5L, z6L, z7L, z8L, z9L, z10L, z11L, z12L, z0l, z1l, z2l, z3l, z4l, l_asI, l_finx, l_finIx, l_finI, l_un2, l_un3, l_un4, l_ne, l_nes, l_neb, l_gt, l_ix0, l_ix1, l_ix2, l_ix3, l_it0, l_it1, l_it2, l_it3, F_draw_eq, List.cons_append, List.nil_append, k_bdbd, k_bdFbd, k_finbd, h1, h, e]
  · simp -implicitDefEqProofs -dsimp only [implies_true, isS_str, s_bdx, s_bd, ↓k_bd, k_bd, k_bdx, k_bdd, s_nox, k_bdF, k_bdFr, k_bdFx, s_finr, s_finn, s_find, k_bdFd, ↓reduceIte, s_asB, s_ul1, s_ul2, s_ul3, s_sub, s_add, s_neg, s_eq, s_len, s_itl, s_itt, s_opt, List.length_cons, List.length_nil, decide_true, decide_false, Bool.not_true, Bool.not_false, if_true, if_false, Bool.false_eq_true, Nat.reduceAdd, z0L, z1L, z2L, z3L, z4L, z5L, z6L, z7L, z8L, z9L, z10L, z11L, z12L, z0l, z1l, z2l, z3l, z4l, l_asI, l_finx, l_finIx, l_finI, l_un2, l_un3, l_un4, l_ne, l_nes, l_neb, l_gt, l_ix0, l_ix1, l_ix2, l_ix3, l_it0, l_it1, l_it2, l_it3, F_draw_eq, List.cons_append, List.nil_append, k_bdbd, k_bdFbd, k_finbd, h1, h, e, e2]
theorem heard_ex (w : Str) : F__law_heard (.ex "BadChange" [("part", .str w)]) = .ok (.str w) := by rfl
theorem heard_ok (d : D) : F__law_heard (.ok d) = .ok (.lst [d]) := by rfl
end Lw
end
section
set_option Elab.async false
set_option linter.all false
set_option maxRecDepth 100000
set_option maxHeartbeats 1000000
namespace Lw
open PySem Gp Gh
theorem bx_bls {f : D → Tr (Option D)} : ∀ {ds : List D}, (∀ d ∈ ds, Bx (fun o => ∃ w : Bool, o = some (.bl w)) (f d) 1) → Bx (fun r => ∃ ws : List Bool, r = ws.map D.bl ∧ ws.length = ds.length) (lcF f ds) ds.length
  | [], _ => bx_ok ⟨[], rfl, rfl⟩
  | d :: r, h => by
    rw [lcF_cons]
    refine bx_thenX (h d List.mem_cons_self) (fun o ho => ?_) (show 1 + r.length ≤ _ by rw [List.length_cons]; omega)
    obtain ⟨w, rfl⟩ := ho
    refine bx_thenX (b := 0) (bx_bls fun x hx => h x (List.mem_cons_of_mem _ hx)) (fun ws hw => ?_) (Nat.le_refl _)
    obtain ⟨ws, rfl, hl⟩ := hw
    exact bx_ok ⟨w :: ws, rfl, by rw [List.length_cons, List.length_cons, hl]⟩
def Qo (w : Bool) (l : List D) (e d : D) : Prop := (w = true ∧ d ∈ l) ∨ (w = false ∧ d = e)
theorem qo1 {l : List D} {e d : D} (h : d ∈ l) : Qo true l e d := .inl ⟨rfl, h⟩
theorem qo2 {l : List D} {e : D} : Qo false l e e := .inr ⟨rfl, rfl⟩
theorem nd0 : neD (.lst []) (.lst []) = .ok (.bl false) := by kernel_rfl
theorem nd1 : neD (.lst [.str "front"]) (.lst []) = .ok (.bl true) := by kernel_rfl
theorem nd2 : neD (.lst [.str "back"]) (.lst []) = .ok (.bl true) := by kernel_rfl
theorem nd3 : neD (.lst [.str "side"]) (.lst []) = .ok (.bl true) := by kernel_rfl
theorem nd4 : neD (.lst [.str "front", .str "back"]) (.lst []) = .ok (.bl true) := by kernel_rfl
theorem nd5 : neD (.lst [.str "front", .str "side"]) (.lst []) = .ok (.bl true) := by kernel_rfl
theorem nd6 : neD (.lst [.str "back", .str "side"]) (.lst []) = .ok (.bl true) := by kernel_rfl
theorem nd7 : neD (.lst [.str "front", .str "back", .str "side"]) (.lst []) = .ok (.bl true) := by kernel_rfl
theorem isl (ds : List D) : isi_list (.lst ds) = some true := rfl
theorem zip3 (a b c x y z : D) : zipD (.lst [a, b, c]) (.lst [x, y, z]) = .ok [.tup [a, x], .tup [b, y], .tup [c, z]] := rfl
theorem rg3' : rg1 (.int 3) = .ok [.int 0, .int 1, .int 2] := rfl
theorem good {f b : List Int} {bk : Bool} (hf : Drn f) (hb : Drn b) : F_Change___init__ [] (.lst (f.map D.int)) (.lst (b.map D.int)) (.str (sdS bk)) = .ok (chfs (sortI f) (sortI b) (sdS bk)) := q_chg (t1 := false) (t2 := false) (bk := bk) hf hb
theorem told_l {f : List Int} (h : Drn f) : F_are_told (.lst (f.map D.int)) = .ok (.bl true) := told_sq (t := false) h
theorem b_refused {f b : List Int} {bk : Bool} (hf : Drn f) (hb : Drn b) : Bx (fun d => d = .bl true) (F__law_refused_right .pen (partD f b (sdS bk))) 6 := by
  rw [lz__law_refused_right]
  unfold L__law_refused_right
  have pd : partD f b (sdS bk) = .tup [.lst (f.map D.int), .lst (b.map D.int), .str (sdS bk)] := rfl
  have z9 : (9 ≤ sizeLine) = True := z9L
  rw [pd]
  simp -implicitDefEqProofs -dsimp only [implies_true, isS_str, s_bdx, s_bd, ↓k_bd, k_bd, k_bdx, k_bdd, s_nox, k_bdF, k_bdFr, k_bdFx, s_finr, s_finn, s_find, k_bdFd, ↓reduceIte, s_asB, s_ul1, s_ul2, s_ul3, s_sub, s_add, s_neg, s_eq, s_len, s_itl, s_itt, s_opt, List.length_cons, List.length_nil, decide_true, decide_false, Bool.not_true, Bool.not_false, if_true, if_false, Bool.false_eq_true, Nat.reduceAdd, z0L, z1L, z2L, z3L, z4L, z5L, z6L, z7L, z8L, z9L, z10L, z11L, z12L, z0l, z1l, z2l, z3l, z4l, l_asI, l_finx, l_finIx, l_finI, l_un2, l_un3, l_un4, l_ne, l_nes, l_neb, l_gt, l_ix0, l_ix1, l_ix2, l_ix3, l_it0, l_it1, l_it2, l_it3, F_draw_eq, List.cons_append, List.nil_append, k_bdbd, k_bdFbd, k_finbd, rg3']
  refine bk_then (a := 3) (b := 3) (P := fun r => ∃ ws : List Bool, r = ws.map D.bl ∧ ws.length = 3) ?_ (fun r hr => ?_) (by decide)
  · refine bx_bls (ds := [.int 0, .int 1, .int 2]) fun d hd => ?_
    show Bx _ (.draw 2 fun d => nox (.ok (some (D.bl (decide (d = 0)))))) _
    refine bx_draw (n := 0) (by decide) (by decide) fun d d0 d1 => ?_
    simp -implicitDefEqProofs -dsimp only [implies_true, isS_str, s_bdx, s_bd, ↓k_bd, k_bd, k_bdx, k_bdd, s_nox, k_bdF, k_bdFr, k_bdFx, s_finr, s_finn, s_find, k_bdFd, ↓reduceIte, s_asB, s_ul1, s_ul2, s_ul3, s_sub, s_add, s_neg, s_eq, s_len, s_itl, s_itt, s_opt, List.length_cons, List.length_nil, decide_true, decide_false, Bool.not_true, Bool.not_false, if_true, if_false, Bool.false_eq_true, Nat.reduceAdd, z0L, z1L, z2L, z3L, z4L, z5L, z6L, z7L, z8L, z9L, z10L, z11L, z12L, z0l, z1l, z2l, z3l, z4l, l_asI, l_finx, l_finIx, l_finI, l_un2, l_un3, l_un4, l_ne, l_nes, l_neb, l_gt, l_ix0, l_ix1, l_ix2, l_ix3, l_it0, l_it1, l_it2, l_it3, F_draw_eq, List.cons_append, List.nil_append, k_bdbd, k_bdFbd, k_finbd]
    exact bx_ok ⟨_, rfl⟩
  · obtain ⟨ws, rfl, hl⟩ := hr
    obtain ⟨w0, w1, w2, rfl⟩ : ∃ a b c, ws = [a, b, c] := by
      match ws, hl with
      | [a, b, c], _ => exact ⟨a, b, c, rfl⟩
    have em : [w0, w1, w2].map D.bl = [.bl w0, .bl w1, .bl w2] := rfl
    rw [em]
    simp -implicitDefEqProofs -dsimp only [implies_true, isS_str, s_bdx, s_bd, ↓k_bd, k_bd, k_bdx, k_bdd, s_nox, k_bdF, k_bdFr, k_bdFx, s_finr, s_finn, s_find, k_bdFd, ↓reduceIte, s_asB, s_ul1, s_ul2, s_ul3, s_sub, s_add, s_neg, s_eq, s_len, s_itl, s_itt, s_opt, List.length_cons, List.length_nil, decide_true, decide_false, Bool.not_true, Bool.not_false, if_true, if_false, Bool.false_eq_true, Nat.reduceAdd, z0L, z1L, z2L, z3L, z4L, z5L, z6L, z7L, z8L, z9L, z10L, z11L, z12L, z0l, z1l, z2l, z3l, z4l, l_asI, l_finx, l_finIx, l_finI, l_un2, l_un3, l_un4, l_ne, l_nes, l_neb, l_gt, l_ix0, l_ix1, l_ix2, l_ix3, l_it0, l_it1, l_it2, l_it3, F_draw_eq, List.cons_append, List.nil_append, k_bdbd, k_bdFbd, k_finbd]
    refine bk_then (a := 1) (b := 2) (P := Qo w0 odds (.lst (f.map D.int))) ?_ (fun d0 h0 => ?_) (by decide)
    · cases w0
      · simp -implicitDefEqProofs -dsimp only [implies_true, isS_str, s_bdx, s_bd, ↓k_bd, k_bd, k_bdx, k_bdd, s_nox, k_bdF, k_bdFr, k_bdFx, s_finr, s_finn, s_find, k_bdFd, ↓reduceIte, s_asB, s_ul1, s_ul2, s_ul3, s_sub, s_add, s_neg, s_eq, s_len, s_itl, s_itt, s_opt, List.length_cons, List.length_nil, decide_true, decide_false, Bool.not_true, Bool.not_false, if_true, if_false, Bool.false_eq_true, Nat.reduceAdd, z0L, z1L, z2L, z3L, z4L, z5L, z6L, z7L, z8L, z9L, z10L, z11L, z12L, z0l, z1l, z2l, z3l, z4l, l_asI, l_finx, l_finIx, l_finI, l_un2, l_un3, l_un4, l_ne, l_nes, l_neb, l_gt, l_ix0, l_ix1, l_ix2, l_ix3, l_it0, l_it1, l_it2, l_it3, F_draw_eq, List.cons_append, List.nil_append, k_bdbd, k_bdFbd, k_finbd]
        exact bx_ok qo2
      · simp -implicitDefEqProofs -dsimp only [implies_true, isS_str, s_bdx, s_bd, ↓k_bd, k_bd, k_bdx, k_bdd, s_nox, k_bdF, k_bdFr, k_bdFx, s_finr, s_finn, s_find, k_bdFd, ↓reduceIte, s_asB, s_ul1, s_ul2, s_ul3, s_sub, s_add, s_neg, s_eq, s_len, s_itl, s_itt, s_opt, List.length_cons, List.length_nil, decide_true, decide_false, Bool.not_true, Bool.not_false, if_true, if_false, Bool.false_eq_true, Nat.reduceAdd, z0L, z1L, z2L, z3L, z4L, z5L, z6L, z7L, z8L, z9L, z10L, z11L, z12L, z0l, z1l, z2l, z3l, z4l, l_asI, l_finx, l_finIx, l_finI, l_un2, l_un3, l_un4, l_ne, l_nes, l_neb, l_gt, l_ix0, l_ix1, l_ix2, l_ix3, l_it0, l_it1, l_it2, l_it3, F_draw_eq, List.cons_append, List.nil_append, k_bdbd, k_bdFbd, k_finbd]
        exact bx_of (Bo.mono (fun d h => qo1 h) (Nat.le_refl _) b_odd.bo)
    · simp -implicitDefEqProofs -dsimp only [implies_true, isS_str, s_bdx, s_bd, ↓k_bd, k_bd, k_bdx, k_bdd, s_nox, k_bdF, k_bdFr, k_bdFx, s_finr, s_finn, s_find, k_bdFd, ↓reduceIte, s_asB, s_ul1, s_ul2, s_ul3, s_sub, s_add, s_neg, s_eq, s_len, s_itl, s_itt, s_opt, List.length_cons, List.length_nil, decide_true, decide_false, Bool.not_true, Bool.not_false, if_true, if_false, Bool.false_eq_true, Nat.reduceAdd, z0L, z1L, z2L, z3L, z4L, z5L, z6L, z7L, z8L, z9L, z10L, z11L, z12L, z0l, z1l, z2l, z3l, z4l, l_asI, l_finx, l_finIx, l_finI, l_un2, l_un3, l_un4, l_ne, l_nes, l_neb, l_gt, l_ix0, l_ix1, l_ix2, l_ix3, l_it0, l_it1, l_it2, l_it3, F_draw_eq, List.cons_append, List.nil_append, k_bdbd, k_bdFbd, k_finbd]
      refine bk_then (a := 1) (b := 1) (P := Qo w1 odds (.lst (b.map D.int))) ?_ (fun d1 h1 => ?_) (by decide)
      · cases w1
        · simp -implicitDefEqProofs -dsimp only [implies_true, isS_str, s_bdx, s_bd, ↓k_bd, k_bd, k_bdx, k_bdd, s_nox, k_bdF, k_bdFr, k_bdFx, s_finr, s_finn, s_find, k_bdFd, ↓reduceIte, s_asB, s_ul1, s_ul2, s_ul3, s_sub, s_add, s_neg, s_eq, s_len, s_itl, s_itt, s_opt, List.length_cons, List.length_nil, decide_true, decide_false, Bool.not_true, Bool.not_false, if_true, if_false, Bool.false_eq_true, Nat.reduceAdd, z0L, z1L, z2L, z3L, z4L, z5L, z6L, z7L, z8L, z9L, z10L, z11L, z12L, z0l, z1l, z2l, z3l, z4l, l_asI, l_finx, l_finIx, l_finI, l_un2, l_un3, l_un4, l_ne, l_nes, l_neb, l_gt, l_ix0, l_ix1, l_ix2, l_ix3, l_it0, l_it1, l_it2, l_it3, F_draw_eq, List.cons_append, List.nil_append, k_bdbd, k_bdFbd, k_finbd]
          exact bx_ok qo2
        · simp -implicitDefEqProofs -dsimp only [implies_true, isS_str, s_bdx, s_bd, ↓k_bd, k_bd, k_bdx, k_bdd, s_nox, k_bdF, k_bdFr, k_bdFx, s_finr, s_finn, s_find, k_bdFd, ↓reduceIte, s_asB, s_ul1, s_ul2, s_ul3, s_sub, s_add, s_neg, s_eq, s_len, s_itl, s_itt, s_opt, List.length_cons, List.length_nil, decide_true, decide_false, Bool.not_true, Bool.not_false, if_true, if_false, Bool.false_eq_true, Nat.reduceAdd, z0L, z1L, z2L, z3L, z4L, z5L, z6L, z7L, z8L, z9L, z10L, z11L, z12L, z0l, z1l, z2l, z3l, z4l, l_asI, l_finx, l_finIx, l_finI, l_un2, l_un3, l_un4, l_ne, l_nes, l_neb, l_gt, l_ix0, l_ix1, l_ix2, l_ix3, l_it0, l_it1, l_it2, l_it3, F_draw_eq, List.cons_append, List.nil_append, k_bdbd, k_bdFbd, k_finbd]
          exact bx_of (Bo.mono (fun d h => qo1 h) (Nat.le_refl _) b_odd.bo)
      · simp -implicitDefEqProofs -dsimp only [implies_true, isS_str, s_bdx, s_bd, ↓k_bd, k_bd, k_bdx, k_bdd, s_nox, k_bdF, k_bdFr, k_bdFx, s_finr, s_finn, s_find, k_bdFd, ↓reduceIte, s_asB, s_ul1, s_ul2, s_ul3, s_sub, s_add, s_neg, s_eq, s_len, s_itl, s_itt, s_opt, List.length_cons, List.length_nil, decide_true, decide_false, Bool.not_true, Bool.not_false, if_true, if_false, Bool.false_eq_true, Nat.reduceAdd, z0L, z1L, z2L, z3L, z4L, z5L, z6L, z7L, z8L, z9L, z10L, z11L, z12L, z0l, z1l, z2l, z3l, z4l, l_asI, l_finx, l_finIx, l_finI, l_un2, l_un3, l_un4, l_ne, l_nes, l_neb, l_gt, l_ix0, l_ix1, l_ix2, l_ix3, l_it0, l_it1, l_it2, l_it3, F_draw_eq, List.cons_append, List.nil_append, k_bdbd, k_bdFbd, k_finbd]
        refine bk_then (a := 1) (b := 0) (P := Qo w2 oddS (.str (sdS bk))) ?_ (fun d2 h2 => ?_) (by decide)
        · cases w2
          · simp -implicitDefEqProofs -dsimp only [implies_true, isS_str, s_bdx, s_bd, ↓k_bd, k_bd, k_bdx, k_bdd, s_nox, k_bdF, k_bdFr, k_bdFx, s_finr, s_finn, s_find, k_bdFd, ↓reduceIte, s_asB, s_ul1, s_ul2, s_ul3, s_sub, s_add, s_neg, s_eq, s_len, s_itl, s_itt, s_opt, List.length_cons, List.length_nil, decide_true, decide_false, Bool.not_true, Bool.not_false, if_true, if_false, Bool.false_eq_true, Nat.reduceAdd, z0L, z1L, z2L, z3L, z4L, z5L, z6L, z7L, z8L, z9L, z10L, z11L, z12L, z0l, z1l, z2l, z3l, z4l, l_asI, l_finx, l_finIx, l_finI, l_un2, l_un3, l_un4, l_ne, l_nes, l_neb, l_gt, l_ix0, l_ix1, l_ix2, l_ix3, l_it0, l_it1, l_it2, l_it3, F_draw_eq, List.cons_append, List.nil_append, k_bdbd, k_bdFbd, k_finbd]
            exact bx_ok qo2
          · simp -implicitDefEqProofs -dsimp only [implies_true, isS_str, s_bdx, s_bd, ↓k_bd, k_bd, k_bdx, k_bdd, s_nox, k_bdF, k_bdFr, k_bdFx, s_finr, s_finn, s_find, k_bdFd, ↓reduceIte, s_asB, s_ul1, s_ul2, s_ul3, s_sub, s_add, s_neg, s_eq, s_len, s_itl, s_itt, s_opt, List.length_cons, List.length_nil, decide_true, decide_false, Bool.not_true, Bool.not_false, if_true, if_false, Bool.false_eq_true, Nat.reduceAdd, z0L, z1L, z2L, z3L, z4L, z5L, z6L, z7L, z8L, z9L, z10L, z11L, z12L, z0l, z1l, z2l, z3l, z4l, l_asI, l_finx, l_finIx, l_finI, l_un2, l_un3, l_un4, l_ne, l_nes, l_neb, l_gt, l_ix0, l_ix1, l_ix2, l_ix3, l_it0, l_it1, l_it2, l_it3, F_draw_eq, List.cons_append, List.nil_append, k_bdbd, k_bdFbd, k_finbd, z9]
            exact bx_of (b_pick (ds := oddS) (P := Qo true oddS (.str (sdS bk))) (by decide) (by decide) fun d hd => qo1 hd)
        · rcases h0 with ⟨rfl, h0⟩ | ⟨rfl, rfl⟩
          · have e0 : ∀ x y, F_Change___init__ [] d0 x y = .ex "BadChange" [("part", .str "front")] := fun x y => ini_front (told_odd h0)
            rcases h1 with ⟨rfl, h1⟩ | ⟨rfl, rfl⟩ <;> rcases h2 with ⟨rfl, h2⟩ | ⟨rfl, rfl⟩ <;> simp -implicitDefEqProofs -dsimp only [implies_true, isS_str, s_bdx, s_bd, ↓k_bd, k_bd, k_bdx, k_bdd, s_nox, k_bdF, k_bdFr, k_bdFx, s_finr, s_finn, s_find, k_bdFd, ↓reduceIte, s_asB, s_ul1, s_ul2, s_ul3, s_sub, s_add, s_neg, s_eq, s_len, s_itl, s_itt, s_opt, List.length_cons, List.length_nil, decide_true, decide_false, Bool.not_true, Bool.not_false, if_true, if_false, Bool.false_eq_true, Nat.reduceAdd, z0L, z1L, z2L, z3L, z4L, z5L, z6L, z7L, z8L, z9L, z10L, z11L, z12L, z0l, z1l, z2l, z3l, z4l, l_asI, l_finx, l_finIx, l_finI, l_un2, l_un3, l_un4, l_ne, l_nes, l_neb, l_gt, l_ix0, l_ix1, l_ix2, l_ix3, l_it0, l_it1, l_it2, l_it3, F_draw_eq, List.cons_append, List.nil_append, k_bdbd, k_bdFbd, k_finbd, e0, heard_ex, zip3, lcF_cons, lcF_nil, nd1, nd4, nd5, nd7, eq_str] <;> exact bx_ok rfl
          · rcases h1 with ⟨rfl, h1⟩ | ⟨rfl, rfl⟩
            · have e0 : ∀ y, F_Change___init__ [] (.lst (f.map D.int)) d1 y = .ex "BadChange" [("part", .str "back")] := fun y => ini_back (told_l hf) (told_odd h1)
              rcases h2 with ⟨rfl, h2⟩ | ⟨rfl, rfl⟩ <;> simp -implicitDefEqProofs -dsimp only [implies_true, isS_str, s_bdx, s_bd, ↓k_bd, k_bd, k_bdx, k_bdd, s_nox, k_bdF, k_bdFr, k_bdFx, s_finr, s_finn, s_find, k_bdFd, ↓reduceIte, s_asB, s_ul1, s_ul2, s_ul3, s_sub, s_add, s_neg, s_eq, s_len, s_itl, s_itt, s_opt, List.length_cons, List.length_nil, decide_true, decide_false, Bool.not_true, Bool.not_false, if_true, if_false, Bool.false_eq_true, Nat.reduceAdd, z0L, z1L, z2L, z3L, z4L, z5L, z6L, z7L, z8L, z9L, z10L, z11L, z12L, z0l, z1l, z2l, z3l, z4l, l_asI, l_finx, l_finIx, l_finI, l_un2, l_un3, l_un4, l_ne, l_nes, l_neb, l_gt, l_ix0, l_ix1, l_ix2, l_ix3, l_it0, l_it1, l_it2, l_it3, F_draw_eq, List.cons_append, List.nil_append, k_bdbd, k_bdFbd, k_finbd, e0, heard_ex, zip3, lcF_cons, lcF_nil, nd2, nd6, eq_str] <;> exact bx_ok rfl
            · rcases h2 with ⟨rfl, h2⟩ | ⟨rfl, rfl⟩
              · have e0 := ini_side (told_l hf) (told_l hb) h2
                simp -implicitDefEqProofs -dsimp only [implies_true, isS_str, s_bdx, s_bd, ↓k_bd, k_bd, k_bdx, k_bdd, s_nox, k_bdF, k_bdFr, k_bdFx, s_finr, s_finn, s_find, k_bdFd, ↓reduceIte, s_asB, s_ul1, s_ul2, s_ul3, s_sub, s_add, s_neg, s_eq, s_len, s_itl, s_itt, s_opt, List.length_cons, List.length_nil, decide_true, decide_false, Bool.not_true, Bool.not_false, if_true, if_false, Bool.false_eq_true, Nat.reduceAdd, z0L, z1L, z2L, z3L, z4L, z5L, z6L, z7L, z8L, z9L, z10L, z11L, z12L, z0l, z1l, z2l, z3l, z4l, l_asI, l_finx, l_finIx, l_finI, l_un2, l_un3, l_un4, l_ne, l_nes, l_neb, l_gt, l_ix0, l_ix1, l_ix2, l_ix3, l_it0, l_it1, l_it2, l_it3, F_draw_eq, List.cons_append, List.nil_append, k_bdbd, k_bdFbd, k_finbd, e0, heard_ex, zip3, lcF_cons, lcF_nil, nd3, eq_str]
                exact bx_ok rfl
              · simp -implicitDefEqProofs -dsimp only [implies_true, isS_str, s_bdx, s_bd, ↓k_bd, k_bd, k_bdx, k_bdd, s_nox, k_bdF, k_bdFr, k_bdFx, s_finr, s_finn, s_find, k_bdFd, ↓reduceIte, s_asB, s_ul1, s_ul2, s_ul3, s_sub, s_add, s_neg, s_eq, s_len, s_itl, s_itt, s_opt, List.length_cons, List.length_nil, decide_true, decide_false, Bool.not_true, Bool.not_false, if_true, if_false, Bool.false_eq_true, Nat.reduceAdd, z0L, z1L, z2L, z3L, z4L, z5L, z6L, z7L, z8L, z9L, z10L, z11L, z12L, z0l, z1l, z2l, z3l, z4l, l_asI, l_finx, l_finIx, l_finI, l_un2, l_un3, l_un4, l_ne, l_nes, l_neb, l_gt, l_ix0, l_ix1, l_ix2, l_ix3, l_it0, l_it1, l_it2, l_it3, F_draw_eq, List.cons_append, List.nil_append, k_bdbd, k_bdFbd, k_finbd, good hf hb, heard_ok, zip3, lcF_cons, lcF_nil, nd0, isl]
                exact bx_ok rfl
end Lw
end
section
set_option Elab.async false
set_option linter.all false
set_option maxRecDepth 100000
set_option maxHeartbeats 1000000
namespace Lw
open PySem Gp Gh
theorem noLL_ints : ∀ f : List Int, noLL (f.map D.int) = true
  | [] => by simp only [List.map_nil, noLL]
  | a :: r => by simp only [List.map_cons, noLL, noL, noLL_ints r, Bool.and_self]
theorem pk_chg (f b : List Int) (sd : Str) : pkN (.ok (.obj "Change" (chfs f b sd))) = .ok (chgD f b sd) := by
  have h : noL (.obj "Change" (chfs f b sd)) = true := by
    unfold chfs
    simp only [noL, noLF, noLL_ints, Bool.and_self]
  show (if noL _ = true then Tr.ok _ else .bad) = _
  rw [if_pos h]
  rfl
theorem lsl (f : List Int) : listL (.lst (f.map D.int)) = .ok (f.map D.int) := rfl
theorem len_ok {f : List Int} (h : Drn f) : (f.map D.int).length + 100 ≤ sizeLine := by
  have := h.len
  rw [List.length_map]
  exact Nat.le_trans (show _ ≤ 108 by omega) (by decide)
theorem rg7 : rg1 (.int 7) = .ok (rgD 0 7) := rfl
theorem law_yes : Yes F_law := by
  refine Bo.yes (n := 28 * 7 + 1) (by decide) ?_
  refine Bx.bo ?_
  rw [lz_law]
  unfold L_law
  simp -implicitDefEqProofs -dsimp only [implies_true, isS_str, s_bdx, s_bd, ↓k_bd, k_bd, k_bdx, k_bdd, s_nox, k_bdF, k_bdFr, k_bdFx, s_finr, s_finn, s_find, k_bdFd, ↓reduceIte, s_asB, s_ul1, s_ul2, s_ul3, s_sub, s_add, s_neg, s_eq, s_len, s_itl, s_itt, s_opt, List.length_cons, List.length_nil, decide_true, decide_false, Bool.not_true, Bool.not_false, if_true, if_false, Bool.false_eq_true, Nat.reduceAdd, z0L, z1L, z2L, z3L, z4L, z5L, z6L, z7L, z8L, z9L, z10L, z11L, z12L, z0l, z1l, z2l, z3l, z4l, l_asI, l_finx, l_finIx, l_finI, l_un2, l_un3, l_un4, l_ne, l_nes, l_neb, l_gt, l_ix0, l_ix1, l_ix2, l_ix3, l_it0, l_it1, l_it2, l_it3, F_draw_eq, List.cons_append, List.nil_append, k_bdbd, k_bdFbd, k_finbd, rg7]
  refine bk_loopU (c := 28) (b := 1) (fun d _ => ?_) ?_ (by decide)
  · simp -implicitDefEqProofs -dsimp only [implies_true, isS_str, s_bdx, s_bd, ↓k_bd, k_bd, k_bdx, k_bdd, s_nox, k_bdF, k_bdFr, k_bdFx, s_finr, s_finn, s_find, k_bdFd, ↓reduceIte, s_asB, s_ul1, s_ul2, s_ul3, s_sub, s_add, s_neg, s_eq, s_len, s_itl, s_itt, s_opt, List.length_cons, List.length_nil, decide_true, decide_false, Bool.not_true, Bool.not_false, if_true, if_false, Bool.false_eq_true, Nat.reduceAdd, z0L, z1L, z2L, z3L, z4L, z5L, z6L, z7L, z8L, z9L, z10L, z11L, z12L, z0l, z1l, z2l, z3l, z4l, l_asI, l_finx, l_finIx, l_finI, l_un2, l_un3, l_un4, l_ne, l_nes, l_neb, l_gt, l_ix0, l_ix1, l_ix2, l_ix3, l_it0, l_it1, l_it2, l_it3, F_draw_eq, List.cons_append, List.nil_append, k_bdbd, k_bdFbd, k_finbd]
    refine bk_then (a := 21) (b := 7) (bx_of b_part) (fun x hx => ?_) (by decide)
    obtain ⟨f, b, bk, rfl, hf, hb⟩ := hx
    have pd : partD f b (sdS bk) = .tup [.lst (f.map D.int), .lst (b.map D.int), .str (sdS bk)] := rfl
    have j0 : ixD (partD f b (sdS bk)) (.int 0) = .ok (.lst (f.map D.int)) := i0 ..
    have j1 : ixD (partD f b (sdS bk)) (.int 1) = .ok (.lst (b.map D.int)) := i1 ..
    have j2 : ixD (partD f b (sdS bk)) (.int 2) = .ok (.str (sdS bk)) := i2 ..
    simp -implicitDefEqProofs -dsimp only [implies_true, isS_str, s_bdx, s_bd, ↓k_bd, k_bd, k_bdx, k_bdd, s_nox, k_bdF, k_bdFr, k_bdFx, s_finr, s_finn, s_find, k_bdFd, ↓reduceIte, s_asB, s_ul1, s_ul2, s_ul3, s_sub, s_add, s_neg, s_eq, s_len, s_itl, s_itt, s_opt, List.length_cons, List.length_nil, decide_true, decide_false, Bool.not_true, Bool.not_false, if_true, if_false, Bool.false_eq_true, Nat.reduceAdd, z0L, z1L, z2L, z3L, z4L, z5L, z6L, z7L, z8L, z9L, z10L, z11L, z12L, z0l, z1l, z2l, z3l, z4l, l_asI, l_finx, l_finIx, l_finI, l_un2, l_un3, l_un4, l_ne, l_nes, l_neb, l_gt, l_ix0, l_ix1, l_ix2, l_ix3, l_it0, l_it1, l_it2, l_it3, F_draw_eq, List.cons_append, List.nil_append, k_bdbd, k_bdFbd, k_finbd, j0, j1, j2, lsl, len_ok hf, len_ok hb, and_self, List.map_cons, List.map_nil, good hf hb, pk_chg, told_right hf hb]
    refine bk_then (a := 1) (b := 6) (b_equal hf hb) (fun x hx => ?_) (by decide)
    subst hx
    simp -implicitDefEqProofs -dsimp only [implies_true, isS_str, s_bdx, s_bd, ↓k_bd, k_bd, k_bdx, k_bdd, s_nox, k_bdF, k_bdFr, k_bdFx, s_finr, s_finn, s_find, k_bdFd, ↓reduceIte, s_asB, s_ul1, s_ul2, s_ul3, s_sub, s_add, s_neg, s_eq, s_len, s_itl, s_itt, s_opt, List.length_cons, List.length_nil, decide_true, decide_false, Bool.not_true, Bool.not_false, if_true, if_false, Bool.false_eq_true, Nat.reduceAdd, z0L, z1L, z2L, z3L, z4L, z5L, z6L, z7L, z8L, z9L, z10L, z11L, z12L, z0l, z1l, z2l, z3l, z4l, l_asI, l_finx, l_finIx, l_finI, l_un2, l_un3, l_un4, l_ne, l_nes, l_neb, l_gt, l_ix0, l_ix1, l_ix2, l_ix3, l_it0, l_it1, l_it2, l_it3, F_draw_eq, List.cons_append, List.nil_append, k_bdbd, k_bdFbd, k_finbd]
    refine bk_then (a := 6) (b := 0) (b_refused hf hb) (fun x hx => ?_) (by decide)
    subst hx
    simp -implicitDefEqProofs -dsimp only [implies_true, isS_str, s_bdx, s_bd, ↓k_bd, k_bd, k_bdx, k_bdd, s_nox, k_bdF, k_bdFr, k_bdFx, s_finr, s_finn, s_find, k_bdFd, ↓reduceIte, s_asB, s_ul1, s_ul2, s_ul3, s_sub, s_add, s_neg, s_eq, s_len, s_itl, s_itt, s_opt, List.length_cons, List.length_nil, decide_true, decide_false, Bool.not_true, Bool.not_false, if_true, if_false, Bool.false_eq_true, Nat.reduceAdd, z0L, z1L, z2L, z3L, z4L, z5L, z6L, z7L, z8L, z9L, z10L, z11L, z12L, z0l, z1l, z2l, z3l, z4l, l_asI, l_finx, l_finIx, l_finI, l_un2, l_un3, l_un4, l_ne, l_nes, l_neb, l_gt, l_ix0, l_ix1, l_ix2, l_ix3, l_it0, l_it1, l_it2, l_it3, F_draw_eq, List.cons_append, List.nil_append, k_bdbd, k_bdFbd, k_finbd]
    exact bx_ok rfl
  · have e : ∀ m : Tr D, m = .ok (.bl true) → Bx (fun d => d = .bl true) m 1 := fun m h => by
      rw [h]
      exact bx_ok rfl
    refine e _ ?_
    kernel_rfl
end Lw
end
section
set_option Elab.async false
set_option linter.all false
set_option maxRecDepth 100000
set_option maxHeartbeats 4000000
set_option pp.maxSteps 600
namespace Lw
open PySem PySem.Spec PyProof.Rows L2 Gh Gp Gz
theorem pm_PromO {P : Program} {w : World} {K : PySem.W.Frag} {mg : Str → Option Value} {base : Heap} {CX : CXT} {k : Nat} {f : Addr} {fd : FuncData} {ps : List Str} {sp : Sp} (G : FnOk P w K mg base CX k f fd ps sp) (b : Binds K fd ps []) : PromO P w K mg base CX k f [] sp := ⟨fd, ps, [], G, b, .nil⟩
theorem pm_Prom {P : Program} {w : World} {K : PySem.W.Frag} {mg : Str → Option Value} {base : Heap} {CX : CXT} {k : Nat} {f : Addr} {fd : FuncData} {ps : List Str} {sp : Sp} (G : FnG P w K mg base CX k f fd ps sp) (b : Binds K fd ps []) : Prom P w K mg base CX k f [] sp := ⟨fd, ps, [], G, b, .nil⟩
def TTl (K : PySem.W.Frag) : List (Addr × Str) := [((He.cT K ("_law_refused_right", none)).2, Gp.qlOf d__law_refused_right K)]
theorem facts {P : Program} {w : World} {K : PySem.W.Frag} {h : Heap} {mg : Str → Option Value} {f : Addr} (X : K.In h) (G : h.Ns mainGlobals mg) (hfa : mg ("law" : Str) = some (.ref f)) (c2 : Gp.SaysS exs fns tfs sds pfile h K) (gl : (He.Fa.glo "law").ok K = true) (hP : ((P.main.file : Str) == pfile) = true ∧ (P.main.scope.names.lookup ("super" : Str)).isSome = false) :
    ∃ fd : FuncData, (∀ (s : Shared) (v : Value), BindsTo s fd ⟨[v], []⟩ [("_law_script", v)]) ∧ ∀ base : Heap, K.In base → base.Ns mainGlobals mg → (∀ p ∈ tfs.map (He.cT K), LamX.TabB base mg p.1 p.2) → FnG P w K mg base CX0 9 f fd ["_law_script"] (spLaw K (TTl K)) := by
  have c := c2.s.t
  have T : Tx K mg := tx_of X G c
  have e := hfa.symm.trans (He.glo_ok X G gl)
  cases e
  obtain ⟨f0, F0⟩ := c.def_ 0 (d := d_BadChange___init__) rfl
  obtain ⟨f1, F1⟩ := c.def_ 1 (d := d__law_pen) rfl
  obtain ⟨f2, F2⟩ := c.def_ 2 (d := d__law_draw) rfl
  obtain ⟨f3, F3⟩ := c.def_ 3 (d := d_is_integer) rfl
  obtain ⟨f4, F4⟩ := c.def_ 4 (d := d_is_within) rfl
  obtain ⟨f5, F5⟩ := c.def_ 5 (d := d_are_told) rfl
  obtain ⟨f6, F6⟩ := c.def_ 6 (d := d_ascending) rfl
  obtain ⟨f7, F7⟩ := c.def_ 7 (d := d_Sided___init___at_Change) rfl
  obtain ⟨f8, F8⟩ := c2.sup_ 0 (d := ds_Change___init__) rfl
  obtain ⟨f9, F9⟩ := c.def_ 8 (d := d_Change___eq__) rfl
  obtain ⟨f10, F10⟩ := c.def_ 9 (d := d_Change___str__) rfl
  obtain ⟨f11, F11⟩ := c.def_ 10 (d := d__law_pick) rfl
  obtain ⟨f12, F12⟩ := c.def_ 11 (d := d__law_places) rfl
  obtain ⟨f13, F13⟩ := c.def_ 12 (d := d__law_part) rfl
  obtain ⟨f14, F14⟩ := c.def_ 13 (d := d__law_heard) rfl
  obtain ⟨f15, F15⟩ := c.def_ 14 (d := d__law_odd_places) rfl
  obtain ⟨f16, F16⟩ := c.def_ 15 (d := d__law_refused_right) rfl
  obtain ⟨f17, F17⟩ := c.def_ 16 (d := d__law_told_right) rfl
  obtain ⟨f18, F18⟩ := c.def_ 17 (d := d__law_equal_right) rfl
  obtain ⟨f19, F19⟩ := c.def_ 18 (d := d_law) rfl
  have b19 := FunD.bindsA (ps := ["_law_script"]) F19 fun _ _ _ _ _ _ us hl => match us, hl with | [_], _ => rfl
  refine ⟨f19, fun s v => b19 s [v] rfl, fun base _ _ TB => ?_⟩
  have lm__law_refused_right : LamD base mg K (TTl K) d__law_refused_right ("_law_refused_right", none) := ⟨TB _ (List.mem_map.mpr ⟨_, by decide, rfl⟩), by simp only [TTl, List.mem_cons, true_or, or_true], fun p hp e => by
      simp only [TTl, List.mem_cons, List.mem_nil_iff, or_false] at hp
      rcases hp with rfl
      · rfl⟩
  have p0 : PromO P w K mg base CX0 1 (md "BadChange" "__init__" K) [] (spErr1 (gd "BadChange" K) "part") := pm_PromO (ok_BadChange___init__ F0 T ) (F0.bindsN fun _ _ _ _ _ _ us hl => match us, hl with | [_, _], _ => rfl)
  have p1 : PromO P w K mg base CX0 1 (gd "_law_pen" K) [] (spPn K) := pm_PromO (ok__law_pen F1 T ) (F1.bindsN fun _ _ _ _ _ _ us hl => match us, hl with | [_], _ => rfl)
  have p2 : PromO P w K mg base CX0 1 (gd "_law_draw" K) [] (spF K (TTl K) (ul2 F_draw)) := pm_PromO (ok__law_draw (Tb := TTl K) F2 T ) (F2.bindsN fun _ _ _ _ _ _ us hl => match us, hl with | [_, _], _ => rfl)
  have p3 : PromO P w K mg base CX0 1 (gd "is_integer" K) [] (spF K (TTl K) (ul1 F_is_integer)) := pm_PromO (ok_is_integer (Tb := TTl K) F3 T ) (F3.bindsN fun _ _ _ _ _ _ us hl => match us, hl with | [_], _ => rfl)
  have p4 : PromO P w K mg base CX0 2 (gd "is_within" K) [] (spF K (TTl K) (ul3 F_is_within)) := pm_PromO (ok_is_within (Tb := TTl K) F4 T p3) (F4.bindsN fun _ _ _ _ _ _ us hl => match us, hl with | [_, _, _], _ => rfl)
  have p5 : PromO P w K mg base CX0 3 (gd "are_told" K) [] (spF K (TTl K) (ul1 F_are_told)) := pm_PromO (ok_are_told (Tb := TTl K) F5 T p4) (F5.bindsN fun _ _ _ _ _ _ us hl => match us, hl with | [_], _ => rfl)
  have p6 : PromO P w K mg base CX0 1 (gd "ascending" K) [] (spF K (TTl K) (ul1 F_ascending)) := pm_PromO (ok_ascending (Tb := TTl K) F6 T ) (F6.bindsN fun _ _ _ _ _ _ us hl => match us, hl with | [_], _ => rfl)
  have p7 : PromO P w K mg base CX0 1 (md "Sided" "__init__" K) [] (spI K (TTl K) "Change" (fun fs => ul1 (F_Sided___init___at_Change fs))) := pm_PromO (ok_Sided___init___at_Change (Tb := TTl K) F7 T ) (F7.bindsN fun _ _ _ _ _ _ us hl => match us, hl with | [_, _], _ => rfl)
  have p8 : PromO P w K mg base (L2.CX P w) 4 (md "Change" "__init__" K) [] (spI K (TTl K) "Change" (fun fs => ul3 (F_Change___init__ fs))) := by
    obtain ⟨ds, hv, hb⟩ := SupF.binds1 (ps := ["self", "front", "back", "side"]) F8 4 3 (by intro z; cases z) rfl fun _ _ _ _ _ _ _ _ us its hu hi => match us, hu, its, hi with | [_, _, _, _], _, [_, _, _], _ => ⟨_, rfl, rfl⟩
    cases hv
    exact pm_PromO (ok_Change___init__ (Tb := TTl K) F8 T hP p5 p0 p7 p6) hb
  have pd8_0 : PromO P w K mg base (L2.CX P w) 4 (md "Change" "__init__" K) [V.ref (He.dflAt (("Change", some "__init__")) 0 K), V.ref (He.dflAt (("Change", some "__init__")) 1 K), V.str "front"] (spI K (TTl K) "Change" (fun fs => ul3 (F_Change___init__ fs))) := by
    obtain ⟨ds, hv, hb⟩ := SupF.binds1 (ps := ["self", "front", "back", "side"]) F8 1 0 (by intro z; cases z) rfl fun _ _ _ _ _ _ _ _ us its hu hi => match us, hu, its, hi with | [_], _, [_, _, _], _ => ⟨_, rfl, rfl⟩
    exact ⟨_, _, ds, (ok_Change___init__ (Tb := TTl K) F8 T hP p5 p0 p7 p6), hb, hv⟩
  have pd8_2 : PromO P w K mg base (L2.CX P w) 4 (md "Change" "__init__" K) [V.str "front"] (spI K (TTl K) "Change" (fun fs => ul3 (F_Change___init__ fs))) := by
    obtain ⟨ds, hv, hb⟩ := SupF.binds1 (ps := ["self", "front", "back", "side"]) F8 3 2 (by intro z; cases z) rfl fun _ _ _ _ _ _ _ _ us its hu hi => match us, hu, its, hi with | [_, _, _], _, [_, _, _], _ => ⟨_, rfl, rfl⟩
    exact ⟨_, _, ds, (ok_Change___init__ (Tb := TTl K) F8 T hP p5 p0 p7 p6), hb, hv⟩
  have pk8_1_back_front : PromK P w K mg base (L2.CX P w) 4 (md "Change" "__init__" K) 1 ["back", "front"] (fun vs zs => vs ++ picks [.inl 1, .inl 0, .inr 2] [V.ref (He.dflAt (("Change", some "__init__")) 0 K), V.ref (He.dflAt (("Change", some "__init__")) 1 K), V.str "front"] zs) (spI K (TTl K) "Change" (fun fs => ul3 (F_Change___init__ fs))) := by
    obtain ⟨g, b⟩ := SupF.kbD (ps := ["self", "front", "back", "side"]) F8 1 ["back", "front"] [.inl 1, .inl 0, .inr 2] (by intro z; cases z) fun _ _ _ _ _ _ _ _ us its ws h1 h2 h3 => match us, h1, its, h2, ws, h3 with | [_], _, [_, _, _], _, [_, _], _ => ⟨_, rfl, rfl⟩
    exact ⟨_, _, _, (ok_Change___init__ (Tb := TTl K) F8 T hP p5 p0 p7 p6), b⟩
  have pk8_1_side : PromK P w K mg base (L2.CX P w) 4 (md "Change" "__init__" K) 1 ["side"] (fun vs zs => vs ++ picks [.inr 0, .inr 1, .inl 0] [V.ref (He.dflAt (("Change", some "__init__")) 0 K), V.ref (He.dflAt (("Change", some "__init__")) 1 K), V.str "front"] zs) (spI K (TTl K) "Change" (fun fs => ul3 (F_Change___init__ fs))) := by
    obtain ⟨g, b⟩ := SupF.kbD (ps := ["self", "front", "back", "side"]) F8 1 ["side"] [.inr 0, .inr 1, .inl 0] (by intro z; cases z) fun _ _ _ _ _ _ _ _ us its ws h1 h2 h3 => match us, h1, its, h2, ws, h3 with | [_], _, [_, _, _], _, [_], _ => ⟨_, rfl, rfl⟩
    exact ⟨_, _, _, (ok_Change___init__ (Tb := TTl K) F8 T hP p5 p0 p7 p6), b⟩
  have p9 : PromO P w K mg base CX0 1 (md "Change" "__eq__" K) [] (spF K (TTl K) (ul2 F_Change___eq__)) := pm_PromO (ok_Change___eq__ (Tb := TTl K) F9 T ) (F9.bindsN fun _ _ _ _ _ _ us hl => match us, hl with | [_, _], _ => rfl)
  have p10 : PromO P w K mg base CX0 1 (md "Change" "__str__" K) [] (spF K (TTl K) (ul1 F_Change___str__)) := pm_PromO (ok_Change___str__ (Tb := TTl K) F10 T ) (F10.bindsN fun _ _ _ _ _ _ us hl => match us, hl with | [_], _ => rfl)
  have p11 : PromO P w K mg base CX0 2 (gd "_law_pick" K) [] (spF K (TTl K) (ul2 F__law_pick)) := pm_PromO (ok__law_pick (Tb := TTl K) F11 T p2) (F11.bindsN fun _ _ _ _ _ _ us hl => match us, hl with | [_, _], _ => rfl)
  have p12 : PromO P w K mg base CX0 3 (gd "_law_places" K) [] (spF K (TTl K) (ul1 F__law_places)) := pm_PromO (ok__law_places (Tb := TTl K) F12 T p11 p2) (F12.bindsN fun _ _ _ _ _ _ us hl => match us, hl with | [_], _ => rfl)
  have p13 : PromO P w K mg base CX0 4 (gd "_law_part" K) [] (spF K (TTl K) (ul1 F__law_part)) := pm_PromO (ok__law_part (Tb := TTl K) F13 T p12 p11) (F13.bindsN fun _ _ _ _ _ _ us hl => match us, hl with | [_], _ => rfl)
  have p14 : HrdP K d__law_heard ["_law_ask"] := ⟨f14, F14, F14.bindsN fun _ _ _ _ _ _ us hl => match us, hl with | [_], _ => rfl⟩
  have p15 : PromO P w K mg base CX0 3 (gd "_law_odd_places" K) [] (spF K (TTl K) (ul1 F__law_odd_places)) := pm_PromO (ok__law_odd_places (Tb := TTl K) F15 T p11) (F15.bindsN fun _ _ _ _ _ _ us hl => match us, hl with | [_], _ => rfl)
  have p16 : PromO P w K mg base CX0 8 (gd "_law_refused_right" K) [] (spF K (TTl K) (ul2 F__law_refused_right)) := pm_PromO (ok__law_refused_right (Tb := TTl K) F16 T p2 p15 p11 p14 lm__law_refused_right p8) (F16.bindsN fun _ _ _ _ _ _ us hl => match us, hl with | [_, _], _ => rfl)
  have p17 : Prom P w K mg base CX0 1 (gd "_law_told_right" K) [] (spF K (TTl K) (ul2 F__law_told_right)) := pm_Prom (ok__law_told_right (Tb := TTl K) F17 T ) (F17.bindsN fun _ _ _ _ _ _ us hl => match us, hl with | [_, _], _ => rfl)
  have p18 : PromO P w K mg base CX0 6 (gd "_law_equal_right" K) [] (spF K (TTl K) (ul3 F__law_equal_right)) := pm_PromO (ok__law_equal_right (Tb := TTl K) F18 T p8 p9 p11 p10) (F18.bindsN fun _ _ _ _ _ _ us hl => match us, hl with | [_, _, _], _ => rfl)
  exact ok_law (Tb := TTl K) F19 T law_yes p1 p13 p8 p17 p18 p16 pd8_0 pk8_1_side pk8_1_back_front pd8_2 p9
end Lw
open PySem PySem.W PySem.Calls PyProof.Rows
set_option maxRecDepth 100000 in
set_option maxHeartbeats 0 in
theorem PySem.Challenge.cw_everyhunt_k13_changes_made_holds : PySem.Challenge.rw_everyhunt_k13_changes_made.Holds := by
  w_on; o_law
  refine HandSHeadRun.head_any (r := OpenLaw.row PySem.Challenge.rw_everyhunt_k13_changes_made) (q := view (OpenLaw.row PySem.Challenge.rw_everyhunt_k13_changes_made).prog [43]) (H := Lw.hk) (ob := Lw.ob) (M := 20000) (loose := Lw.loose) (d := HandSHeadRun.topDef (OpenLaw.row PySem.Challenge.rw_everyhunt_k13_changes_made).prog 43) (kwd := []) Lw.ob_eq
    (by kernel_rfl) (fun s => by kernel_rfl) Lw.run (by kernel_rfl) (by kernel_rfl) (by kernel_rfl) (by rfl) (by first | assumption | decide +kernel) (by decide +kernel) ⟨rfl, rfl, rfl, rfl, rfl, by decide +kernel⟩ ?hw ?hc
  case hw => w_witness2
  case hc =>
    refine Gh.walk_ofTsG (l := PySem.Challenge.rw_everyhunt_k13_changes_made) (n := 63) (k := 9) (x := "_law_script") (CX := fun _ => L2.CX0) rfl (by decide) (by kernel_rfl) ⟨rfl, by decide, by decide⟩ ?F (fun _ _ _ _ _ z => z)
    intro w mg fa h Y G hmg0
    obtain ⟨K, KX, c⟩ := Y
    have hmg : mg ("law" : PySem.Str) = some (.ref fa) := by
      have e : (HandSHeadRun.topDef (OpenLaw.row PySem.Challenge.rw_everyhunt_k13_changes_made).prog 43).name = ("law" : PySem.Str) := by kernel_rfl
      rw [← e]
      exact hmg0
    obtain ⟨fd, hb, hF⟩ := Lw.facts (P := (PySem.Challenge.rw_everyhunt_k13_changes_made).prog) (w := w) KX G hmg c (c.s.t.fact 85 rfl) ⟨by kernel_rfl, by kernel_rfl⟩
    refine ⟨K, fd, Lw.tfs.map (He.cT K), Gp.spLaw K (Lw.TTl K), KX, fun p hp => ?_, fun p hp => ?_, fun p hp => ?_, hb, fun H a ns hl hT hS => ⟨a, ns, rfl, hS, hl, fun p hp => ?_, fun _ => rfl⟩, fun base h1 h2 h3 => hF base h1 h2 h3⟩
    · obtain ⟨d, hd, rfl⟩ := List.mem_map.mp hp
      exact c.s.empty d hd
    · obtain ⟨d, hd, rfl⟩ := List.mem_map.mp hp
      exact c.s.out d hd
    · obtain ⟨d, hd, rfl⟩ := List.mem_map.mp hp
      exact PySem.W.codeHd_of_K KX (c.s.hd d hd)
    · have e : ∀ p ∈ Lw.TTl K, ∃ d ∈ Lw.tfs.map (He.cT K), p.1 = d.2 := fun p hp => by
        have z : (Lw.TTl K).map (·.1) = (Lw.tfs.map (He.cT K)).map (·.2) := rfl
        have m : p.1 ∈ (Lw.tfs.map (He.cT K)).map (·.2) := by rw [← z]; exact List.mem_map.mpr ⟨p, hp, rfl⟩
        obtain ⟨d, hd, e⟩ := List.mem_map.mp m
        exact ⟨d, hd, e.symm⟩
      obtain ⟨d, hd, ed⟩ := e p hp
      exact LamX.TabS.nil (by rw [ed]; exact hT d hd)
#print axioms PySem.Challenge.cw_everyhunt_k13_changes_made_holds
end
