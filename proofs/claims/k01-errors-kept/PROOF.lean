import PyProof.Rows.All
import Wide.All
import OpenK.AllK
import Wide.FinOn
import KE.KStateDown
import KE.KOpsOwn
import HandS.ForMost
import HandS.More
import HandS.Exc
import HandS.WordsExc
import HandS.Defaults
import HandS.Property
import HandS.IsInst
import HandS.Wide
import HandS.Head0
import HandS.Head1
import HandS.Head2
import HandS.HeadEnd
import HandS.HeadHook1
import HandS.HeadHook2
import PyProof.ReprRoads
import HandS.ExcInit
import HandS.ExcField
import HandS.ExcIs
import KE.KExcIs
import HandS.EndTab
import HandS.HeadHook4
import HandS.Star
import HandS.ClsMeth
import HandS.Lambda
import HandS.RaiseMore
import HandS.Iter
import KE.GoesMore
import PyProof.EnumMake
import HandS.MakeKw
import KE.KCallOwn
import PyProof.InstNe
import HandS.GenList
import PyProof.GenComp
import HandS.TupAny
import HandS.SortInts
import HandS.OwnEq
import HandS.Style
import HandS.Conv
import KE.KSuper
import HandS.NestedK
import HandS.SetFor
import HandS.Strs
import HandS.Zip
import HandS.TryMany
import HandS.FStr
import HandS.TupLe
import HandS.NoneIn
import HandS.Text
import PyProof.EnumFor
import PyProof.Conv_bool
import PyProof.EqKinds
import PyProof.FactsAll.dict_1
import KE.LtData
import PyProof.Claim2Refuses
import HandS.ReplaceLit
import PyProof.NeKinds
import KE.KEqDict
import HandS.TupLen
import HandS.DictTup
import PySem.Challenge.RW_everyhunt_k01_errors_kept
set_option Elab.async false
section
set_option Elab.async false
set_option linter.all false
set_option maxRecDepth 100000
namespace Gh
open PySem PySem.Spec PyProof.Rows L2
structure Df where
  adr : PySem.W.Frag → Addr
  name : Str
  qual : Str
  st : Stmt
  dfl : List He.Dv := []
def Df.val (d : Df) : He.FnW := some (d.name, d.qual, defArgs d.st, .stmts (defBody d.st), defScope d.st, mainGlobals, [], builtinsNs)
def Df.dvs (K : PySem.W.Frag) (d : Df) : List V := d.dfl.map (He.Dv.v K)
def fnAt (K : PySem.W.Frag) (a : Addr) : He.FnW := match K.lookup a with
  | some ⟨_, _, .func fd, _⟩ => some (fd.name, fd.qualname, fd.params, fd.body, fd.scope, fd.globals, fd.closure, fd.builtins)
  | _ => none
def Df.ok (K : PySem.W.Frag) (d : Df) : Bool := PySem.W.keepIn K (.ref (d.adr K)) && (match K.lookup (d.adr K) with
  | some ⟨_, _, .func fd, _⟩ => PySem.W.codeIn K fd.code d.qual && (He.dflB K fd.defaults (d.dvs K) && He.kwdB K fd.kwdefaults [])
  | _ => false)
abbrev Al : Type := Bool × List He.FnW
def obs (ex : List (PySem.W.Frag → Bool)) (fn : List Df) (K : PySem.W.Frag) : Al := ((ex.all fun f => f K) && fn.all fun d => d.ok K, fn.map fun d => fnAt K (d.adr K))
def val (fn : List Df) : Al := (true, fn.map Df.val)
def Says (ex : List (PySem.W.Frag → Bool)) (fn : List Df) (K : PySem.W.Frag) : Prop := obs ex fn K = val fn
def gd (x : Str) : PySem.W.Frag → Addr := fun K => He.ga K x
def md (x m : Str) : PySem.W.Frag → Addr := fun K => He.ma K (He.ga K x) m
def fa (f : He.Fa) : PySem.W.Frag → Bool := fun K => f.ok K
structure InsT (K : PySem.W.Frag) (C : Addr) : Prop where
  ha : PySem.W.findIn K (.ref C) "__class__" = some (some (.builtin "object.__class__"))
  hn : PySem.W.specialIn K (.builtin "object.__class__") "__get__" = some (some (.builtin "getset_descriptor.__get__"))
  htk : PySem.W.takesIn K (.builtin "object.__class__") = some true
  hm : PySem.W.mroIn K C (.type "object") = some true
  yes : PySem.W.kitOne K (.ref C) (.ref C) = some true
  no : ∀ n ∈ (["NoneType", "bool", "int", "str", "list", "tuple", "dict"] : List String), PySem.W.kitOne K (.type n) (.ref C) = some false
  out : ∀ n ∈ (["NoneType", "bool", "int", "str", "list", "tuple", "dict"] : List String), PySem.W.kitOne K (.ref C) (.type n) = some false
end Gh
end
section
set_option Elab.async false
set_option linter.all false
set_option maxRecDepth 100000
set_option maxHeartbeats 4000000
namespace Gh
open PySem PySem.Spec PyProof.Rows L2
structure FnG (P : Program) (w : World) (K : PySem.W.Frag) (mg : Str → Option Value) (base : Heap) (CX : CXT) (k : Nat) (f : Addr) (fd : FuncData) (ps : List Str) (sp : Sp) : Prop where
  len : ∀ vs H Q E, sp vs H Q E → vs.length = ps.length
  run : ∀ (A : Around) (outer : List Env) (s : Shared) (H : Hp) (args : Args) (us : List Value) (vs : List V) (Q : VK) (E : XK), Room k A → A.guards = some [] → Env0 P w K mg base A outer s H → BindsTo s fd args (ps.zip us) → Vals vs us → sp vs H Q E →
    codeAny (model P w) A (.call (.ref f) args) (CR CX outer P w H s Q E) s
def Prom (P : Program) (w : World) (K : PySem.W.Frag) (mg : Str → Option Value) (base : Heap) (CX : CXT) (k : Nat) (f : Addr) (dvs : List V) (sp : Sp) : Prop :=
  ∃ (fd : FuncData) (ps : List Str) (ds : List Value), FnG P w K mg base CX k f fd ps sp ∧ Binds K fd ps ds ∧ Vals dvs ds
section
variable {P : Program} {w : World} {K : PySem.W.Frag} {mg : Str → Option Value} {base : Heap} {CX : CXT} {j k : Nat} {f : Addr} {fd : FuncData} {ps : List Str} {sp : Sp} {dvs : List V}
theorem FnG.mono (F : FnG P w K mg base CX j f fd ps sp) (h : j ≤ k) : FnG P w K mg base CX k f fd ps sp := ⟨F.len, fun A o s H a us vs Q E hr => F.run A o s H a us vs Q E (hr.mono h)⟩
theorem Prom.mono (F : Prom P w K mg base CX j f dvs sp) (h : j ≤ k) : Prom P w K mg base CX k f dvs sp := by
  obtain ⟨fd, ps, ds, G, b, v⟩ := F
  exact ⟨fd, ps, ds, G.mono h, b, v⟩
end
section
variable {X : Cx} {CX : CXT} {k : Nat} {f g C : Addr} {sp : Sp} {dvs : List V} {E : XK} {x m : Str} {p pos apos : Pos} {e o : Expr} {es : List Expr} {ta tb : TE} {t : TA} {r : List V → Hp → VK → Prop}
abbrev PromX (X : Cx) (CX : CXT) (k : Nat) (f : Addr) (dvs : List V) (sp : Sp) : Prop := Prom X.prog X.w X.K X.mg X.base CX k f dvs sp
def rSp (sp : Sp) (dvs : List V) (E : XK) : List V → Hp → VK → Prop := fun xs H Q => sp (xs ++ dvs) H Q E
theorem Prom.call (F : PromX X CX k f dvs sp) (hr : Room k X.A) (hg : X.A.guards = some []) (hx : Passes CX X E) : CallR X (.ref f) (rSp sp dvs E) := by
  intro pins s σ H xs us Q I r h
  obtain ⟨fd, ps, ds, G, b, hd⟩ := F
  have r2 : Vals (xs ++ dvs) (us ++ ds) := r.append hd
  have hl : (us ++ ds).length = ps.length := by rw [← r2.length]; exact G.len _ _ _ _ h
  refine wpAny_call (codeAny_mono (G.run X.A X.stack s H ⟨us, []⟩ (us ++ ds) (xs ++ dvs) Q E hr hg I.env0 (b s us I.kIn hl) r2 h) fun r s' hq => ?_)
  cases r with
  | error e => exact hx pins σ H s e s' I hq
  | ok fl =>
    cases fl with
    | ret u => exact I.after hq
    | next => exact False.elim hq
    | brk => exact False.elim hq
    | cont => exact False.elim hq
theorem ins_look {pins : List (Addr × Obj)} {σ : L2.St} {H : Hp} {s : Shared} {a dx : Addr} {fs : List (Str × V)} (I : Inv X pins σ H s) (h : H a = some (.ins C dx fs)) : ∃ ox od, PySem.W.InstAt s.heap a ox C od := by
  obtain ⟨mA, O, _, _, _, _⟩ := ins_get I.hok h
  obtain ⟨od, J, _⟩ := O.look
  exact ⟨_, _, J⟩
end
end Gh
end
section
set_option Elab.async false
set_option linter.all false
set_option maxRecDepth 100000
set_option maxHeartbeats 4000000
namespace Gh
open PySem PySem.Spec PyProof.Rows L2
def Keep (H H' : Hp) (p : Addr) : Prop := ∀ a o, H a = some o → a ≠ p → H' a = some o
theorem Keep.refl {H : Hp} {p : Addr} : Keep H H p := fun _ _ h _ => h
theorem Keep.trans {H H' H'' : Hp} {p : Addr} (h : Keep H H' p) (k : Keep H' H'' p) : Keep H H'' p := fun a o e n => k a o (h a o e n) n
theorem Keep.new {H H' : Hp} {p q : Addr} {o : HO} (h : Keep H H' p) (n : H' q = none) : Keep H (upd H' q o) p := fun a u e ne => by
  rw [upd_ne (ne_of_none (h a u e ne) n)]
  exact h a u e ne
def PenAt (H : Hp) (p : Addr) (b : Nat) : Prop := ∃ (c : Addr) (ns : List Int) (i z : Int), H p = some (.lst [.ref c, .int i, .int z]) ∧ H c = some (.lst (ns.map V.int)) ∧ ns.length ≤ 63 ∧ 0 ≤ i ∧ i + b ≤ 1000000 ∧ 0 ≤ z
theorem pen_ne {H : Hp} {p c : Addr} {ns : List Int} {i z : Int} (h : H p = some (.lst [.ref c, .int i, .int z])) (k : H c = some (.lst (ns.map V.int))) : c ≠ p := by
  refine ne_of k h fun e => ?_
  have e2 : ns.map V.int = [.ref c, .int i, .int z] := HO.lst.inj e
  cases ns with
  | nil => cases e2
  | cons n r => cases (List.cons.inj e2).1
theorem PenAt.new {H : Hp} {p q : Addr} {b : Nat} {o : HO} (h : PenAt H p b) (n : H q = none) : PenAt (upd H q o) p b := by
  obtain ⟨c, ns, i, z, h1, h2, h3⟩ := h
  exact ⟨c, ns, i, z, by rw [upd_ne (ne_of_none h1 n)]; exact h1, by rw [upd_ne (ne_of_none h2 n)]; exact h2, h3⟩
theorem PenAt.same {H H' : Hp} {p : Addr} {b : Nat} (h : PenAt H p b) (n : L2.Same H H') : PenAt H' p b := by
  obtain ⟨c, ns, i, z, h1, h2, h3⟩ := h
  exact ⟨c, ns, i, z, n _ _ h1, n _ _ h2, h3⟩
theorem same_new {H : Hp} {q : Addr} {o : HO} (n : H q = none) : L2.Same H (upd H q o) := fun a u e => by
  rw [upd_ne (ne_of_none e n)]
  exact e
end Gh
end
section
set_option Elab.async false
set_option linter.all false
set_option maxRecDepth 100000
set_option maxHeartbeats 4000000
namespace Gh
open PySem PySem.Spec PyProof.Rows L2
theorem PenAt.ne {H : Hp} {p c : Addr} {b : Nat} (h : PenAt H p b) (n : H c = none) : c ≠ p := by
  obtain ⟨d, ns, i, z, h1, _⟩ := h
  exact (ne_of_none h1 n).symm
section
variable {X : Cx} {K : PySem.W.Frag}
end
end Gh
end
section
set_option Elab.async false
set_option linter.all false
set_option maxRecDepth 100000
set_option maxHeartbeats 4000000
namespace Gh
open PySem PySem.Spec PyProof.Rows L2
def exk (a C d : Addr) : HO := .ext fun h => ∃ (o : Obj) (vs : Array Value), h.get? a = some o ∧ o.cls = .ref C ∧ o.dict = some d ∧ o.data = .fields vs
def exk0 (a C : Addr) : HO := .ext fun h => ∃ (o : Obj) (vs : Array Value), h.get? a = some o ∧ o.cls = .ref C ∧ o.dict = none ∧ o.data = .fields vs
def errB (x : Str) (K : PySem.W.Frag) : Bool := He.eqO (PySem.W.findIn K (.ref (gd x K)) "__getattribute__") (some (some (.builtin "BaseException.__getattribute__"))) &&
  (He.eqO (PySem.W.findIn K (.ref (gd x K)) "__getattr__") (some none) && (decide (PySem.W.subIn K (.ref (gd x K)) (.type "BaseException") = some true) && (PySem.W.hasDictIn K (gd x K) &&
  (He.eqO (PySem.W.findIn K (.ref (gd x K)) "__class__") (some (some (.builtin "object.__class__"))) && (He.eqO (PySem.W.specialIn K (.builtin "object.__class__") "__get__") (some (some (.builtin "getset_descriptor.__get__"))) &&
  (decide (PySem.W.takesIn K (.builtin "object.__class__") = some true) && decide (PySem.W.mroIn K (gd x K) (.type "object") = some true)))))))
section
variable {X : Cx} {e : Expr} {te : TE} {pos : Pos} {n : Str}
end
section
variable {X : Cx} {x n : Str} {c : Value} {i : Nat} {body suite : List Stmt} {b₀ : Stmt} {np pos pos' : Pos} {tb : WX → TS} {ts : Addr → Value → Option Addr → TS} {Wout : WX}
end
end Gh
end
section
set_option Elab.async false
set_option linter.all false
set_option maxRecDepth 100000
set_option maxHeartbeats 4000000
namespace Gh
open PySem PySem.Spec PyProof.Rows L2
structure SaysT (ex : List (PySem.W.Frag → Bool)) (fn : List Df) (tf : List He.Defn) (h : Heap) (K : PySem.W.Frag) : Prop where
  t : Says ex fn K
  hd : ∀ p ∈ tf, PySem.W.codeHdIn K (He.cT K p).1 (He.cT K p).2 = true
  out : ∀ p ∈ tf, K.lookup (He.cT K p).2 = none
  empty : ∀ p ∈ tf, h.get? (He.cT K p).2 = some { cls := .none, data := .fields #[] }
abbrev AlT : Type := Al × Bool
end Gh
end
section
set_option Elab.async false
set_option linter.all false
set_option maxRecDepth 100000
set_option maxHeartbeats 4000000
namespace Gh
open PySem PySem.Spec PyProof.Rows L2
def PromO (P : Program) (w : World) (K : PySem.W.Frag) (mg : Str → Option Value) (base : Heap) (CX : CXT) (k : Nat) (f : Addr) (dvs : List V) (sp : Sp) : Prop :=
  ∃ (fd : FuncData) (ps : List Str) (ds : List Value), FnOk P w K mg base CX k f fd ps sp ∧ Binds K fd ps ds ∧ Vals dvs ds
section
variable {X : Cx} {CX : CXT} {k : Nat} {f g C : Addr} {sp : Sp} {dvs : List V} {E : XK} {m : Str} {pos : Pos} {o : Expr} {ta : TE}
abbrev PromOX (X : Cx) (CX : CXT) (k : Nat) (f : Addr) (dvs : List V) (sp : Sp) : Prop := PromO X.prog X.w X.K X.mg X.base CX k f dvs sp
theorem PromO.call (F : PromOX X CX k f dvs sp) (hr : Room k X.A) (hx : Passes CX X E) : CallR X (.ref f) (rSp sp dvs E) := by
  intro pins s σ H xs us Q I r h
  obtain ⟨fd, ps, ds, G, b, hd⟩ := F
  exact run_fn G hr b hd hx I r h
end
def oexB (x : Str) (K : PySem.W.Frag) : Bool := (match K.lookup (gd x K) with
  | some ⟨.type c, _, .cls ⟨_, _, .ref m :: bm, _, _, hd, _, _, _, _, dl⟩, ⟨[_, _, _, _, some (.builtin n), _]⟩⟩ => decide (c = "type") && (decide (m = gd x K) && (PySem.HandSPX.refsVE bm && (hd && (!dl && decide (n = "ValueError.__new__")))))
  | _ => false) && (He.eqO (PySem.W.findIn K (.ref (gd x K)) "__setattr__") (some (some (.builtin "object.__setattr__"))) && (decide (PySem.W.subIn K (.ref (gd x K)) (.type "BaseException") = some true) &&
  (decide (PySem.W.typeIn K (.ref (gd x K)) = some (.type "type")) && PySem.W.keepIn K (.ref (gd x K)))))
inductive Kd (H : Hp) : V → Prop
  | non : Kd H .non
  | bl (b : Bool) : Kd H (.bl b)
  | int (i : Int) : Kd H (.int i)
  | str (x : Str) : Kd H (.str x)
  | lst {a : Addr} {xs : List V} (h : H a = some (.lst xs)) : Kd H (.ref a)
  | tup {a : Addr} {xs : List V} (h : H a = some (.tup xs)) : Kd H (.ref a)
  | dK {a : Addr} {kvs : List (Key × V)} (h : H a = some (.dK kvs)) : Kd H (.ref a)
theorem Kd.ty {K : PySem.W.Frag} {H : Hp} {v : V} (k : Kd H v) : ∃ n : String, TyX K H v (.type n) ∧ ((∃ i, v = .int i) ∧ n = "int" ∨ (∃ b, v = .bl b) ∧ n = "bool" ∨ (∀ i, v ≠ .int i) ∧ (∀ b, v ≠ .bl b) ∧ n ∈ (["NoneType", "str", "list", "tuple", "dict"] : List String)) := by
  cases k with
  | non => exact ⟨_, .base .non, .inr (.inr ⟨fun _ => nofun, fun _ => nofun, by decide⟩)⟩
  | bl b => exact ⟨_, .base (.bl b), .inr (.inl ⟨⟨b, rfl⟩, rfl⟩)⟩
  | int i => exact ⟨_, .base (.int i), .inl ⟨⟨i, rfl⟩, rfl⟩⟩
  | str x => exact ⟨_, .base (.str x), .inr (.inr ⟨fun _ => nofun, fun _ => nofun, by decide⟩)⟩
  | lst h => exact ⟨_, .base (.lst h), .inr (.inr ⟨fun _ => nofun, fun _ => nofun, by decide⟩)⟩
  | tup h => exact ⟨_, .base (.tup h), .inr (.inr ⟨fun _ => nofun, fun _ => nofun, by decide⟩)⟩
  | dK h => exact ⟨_, .base (.dK h), .inr (.inr ⟨fun _ => nofun, fun _ => nofun, by decide⟩)⟩
theorem Kd.same {H H' : Hp} {v : V} (k : Kd H v) (s : L2.Same H H') : Kd H' v := by
  cases k with
  | non => exact .non
  | bl b => exact .bl b
  | int i => exact .int i
  | str x => exact .str x
  | lst h => exact .lst (s _ _ h)
  | tup h => exact .tup (s _ _ h)
  | dK h => exact .dK (s _ _ h)
end Gh
end
section
set_option Elab.async false
set_option linter.all false
set_option maxRecDepth 100000
set_option maxHeartbeats 4000000
namespace Gh
open PySem PySem.Spec PyProof.Rows L2
inductive Shw (K : PySem.W.Frag) (H : Hp) : V → Str → Prop
  | non : Shw K H .non "None"
  | bl (b : Bool) : Shw K H (.bl b) (if b then "True" else "False")
  | int (i : Int) : i.natAbs.log2 < 1920 → Shw K H (.int i) (toString i)
  | str (x : Str) : (reprText x).length ≤ sizeLine → Shw K H (.str x) (reprText x)
  | dp {a : Addr} {d : PyData} : Dp K H (.ref a) d → d.showable = true → d.hasDict = false → d.depth ≤ 100 → d.shown.length ≤ sizeLine → Shw K H (.ref a) d.shown
theorem sqL_same {K : PySem.W.Frag} {H H' : Hp} {a : Addr} {xs : List V} (h : SqL K H a xs) (s : L2.Same H H') : SqL K H' a xs := by
  rcases h with (h | ⟨o, h⟩) | h
  · exact .inl (.inl (s _ _ h))
  · exact .inl (.inr ⟨o, s _ _ h⟩)
  · exact .inr h
theorem sqT_same {K : PySem.W.Frag} {H H' : Hp} {a : Addr} {xs : List V} (h : SqT K H a xs) (s : L2.Same H H') : SqT K H' a xs := by
  rcases h with (h | ⟨o, h⟩) | h
  · exact .inl (.inl (s _ _ h))
  · exact .inl (.inr ⟨o, s _ _ h⟩)
  · exact .inr h
mutual
theorem dp_same {K : PySem.W.Frag} {H H' : Hp} (s : L2.Same H H') : ∀ {v : V} {d : PyData}, Dp K H v d → Dp K H' v d
  | _, _, .non => .non
  | _, _, .bl b => .bl b
  | _, _, .int i => .int i
  | _, _, .str x => .str x
  | _, _, .lst h a => .lst (sqL_same h s) (dpAll_same s a)
  | _, _, .tup h a => .tup (sqT_same h s) (dpAll_same s a)
theorem dpAll_same {K : PySem.W.Frag} {H H' : Hp} (s : L2.Same H H') : ∀ {vs : List V} {ds : List PyData}, DpAll K H vs ds → DpAll K H' vs ds
  | _, _, .nil => .nil
  | _, _, .cons a r => .cons (dp_same s a) (dpAll_same s r)
end
theorem Shw.same {K : PySem.W.Frag} {H H' : Hp} {v : V} {t : Str} (h : Shw K H v t) (s : L2.Same H H') : Shw K H' v t := by
  cases h with
  | non => exact .non
  | bl b => exact .bl b
  | int i h => exact .int i h
  | str x h => exact .str x h
  | dp a b c d e => exact .dp (dp_same s a) b c d e
section
variable {X : Cx} {K : PySem.W.Frag}
variable {CX : CXT} {x : Str} {C fI : Addr} {k : Nat} {sp : Sp} {dvs : List V} {e : Expr} {es : List Expr} {ta : TA} {p pos : Pos}
end
def iniB (x : Str) (K : PySem.W.Frag) : Bool := He.eqO (PySem.W.findIn K (.ref (gd x K)) "__init__") (some (some (.ref (md x "__init__" K)))) && decide (PySem.W.typeIn K (.ref (md x "__init__" K)) = some (.type "function"))
end Gh
end
section
set_option Elab.async false
set_option linter.all false
set_option maxRecDepth 100000
set_option maxHeartbeats 4000000
namespace Gh
open PySem PySem.Spec PyProof.Rows L2
structure Nw (H H' : Hp) (p : Addr) (o : HO) : Prop where
  no : H p = none
  same : L2.Same H H'
  at_ : H' p = some o
structure Mu (H H' : Hp) (p : Addr) (o : HO) : Prop where
  keep : Keep H H' p
  at_ : H' p = some o
section
variable {H H' : Hp} {p a l : Addr} {o u : HO}
theorem Nw.up (n : Nw H H' p o) (h : H a = some u) : H' a = some u := n.same _ _ h
theorem Mu.up (n : Mu H H' p o) (e : a ≠ p) (h : H a = some u) : H' a = some u := n.keep _ _ h e
theorem Mu.free (n : Mu H H' p o) (h : H' a = none) : H a = none := by
  cases e : H a with
  | none => rfl
  | some u =>
    by_cases q : a = p
    · subst q
      rw [n.at_] at h
      cases h
    · rw [n.up q e] at h
      cases h
theorem Nw.ne (n : Nw H H' l o) (h : H a = some u) : l ≠ a := fun e => by
  rw [← e, n.no] at h
  cases h
end
def Pen (H : Hp) (p c : Addr) (b : Nat) : Prop := ∃ (ns : List Int) (i z : Int), H p = some (.lst [.ref c, .int i, .int z]) ∧ H c = some (.lst (ns.map V.int)) ∧ ns.length ≤ 63 ∧ 0 ≤ i ∧ i + b ≤ 1000000 ∧ 0 ≤ z
section
variable {H H' : Hp} {p c a l : Addr} {o u : HO} {b k : Nat} {xs : List V} {C dx : Addr} {fs : List (Str × V)}
theorem Pen.same (n : L2.Same H H') (h : Pen H p c b) : Pen H' p c b := by
  obtain ⟨ns, i, z, h1, h2, h3⟩ := h
  exact ⟨ns, i, z, n _ _ h1, n _ _ h2, h3⟩
theorem Pen.keep (n : Keep H H' l) (e1 : l ≠ p) (e2 : l ≠ c) (h : Pen H p c b) : Pen H' p c b := by
  obtain ⟨ns, i, z, h1, h2, h3⟩ := h
  exact ⟨ns, i, z, n _ _ h1 e1.symm, n _ _ h2 e2.symm, h3⟩
theorem Pen.cells (h : Pen H p c b) : c ≠ p := by
  obtain ⟨ns, i, z, h1, h2, h3⟩ := h
  exact pen_ne h1 h2
end
section
variable {H H' : Hp} {a t l : Addr} {o u : HO} {xs ys : List V} {C dx : Addr} {fs : List (Str × V)}
end
section
variable {H : Hp} {E : XK} {Q : VK} {p c l : Addr} {b : Nat} {m : Int} {xs : List V}
end
section
variable {X : Cx} {K : PySem.W.Frag}
end
section
variable {K : PySem.W.Frag} {H : Hp} {σ : L2.St} {Q : VK} {D : Ends} {i j n : Int} {x y v : V} {ta tb tc te tf : TE} {t u : TS} {c d : TT} {k : Bool} {a l p C dx : Addr} {xs ys : List V} {A B : Prop}
end
end Gh
end
section
set_option Elab.async false
set_option linter.all false
set_option maxRecDepth 100000
set_option maxHeartbeats 4000000
namespace Gh
open PySem PySem.Spec PyProof.Rows L2
section
variable {X : Cx} {a b c d : Expr} {ta tb tc td : TE} {pos : Pos}
end
def CallK (X : Cx) (u : Value) (ks : List Str) (r : List V → List V → Hp → VK → Prop) : Prop := ∀ (pins : List (Addr × Obj)) (s : Shared) (σ : L2.St) (H : Hp) (vs zs : List V) (us ws : List Value) (Q : VK), Inv X pins σ H s → Vals vs us → Vals zs ws → r vs zs H Q → wpAny (model X.prog X.w) X.A (call u us (ks.zip ws)) (EP X pins σ Q) X.xe s
def PromK (P : Program) (w : World) (K : PySem.W.Frag) (mg : Str → Option Value) (base : Heap) (CX : CXT) (k : Nat) (f : Addr) (n : Nat) (ks : List Str) (gV : List V → List V → List V) (sp : Sp) : Prop :=
  ∃ (fd : FuncData) (ps : List Str) (g : List Value → List Value → List Value), FnOk P w K mg base CX k f fd ps sp ∧ KBn K fd ps n ks g gV
section
variable {K : PySem.W.Frag} {x qual : Str} {params : Arguments} {body : List Stmt} {scope : Scope} {dvs : List V} {kws : List (Str × V)} {f : Addr} {fd : FuncData} {ps : List Str}
end
section
variable {X : Cx} {CX : CXT} {k n : Nat} {f C : Addr} {ks : List Str} {sp : Sp} {E : XK} {x m : Str} {p pos apos : Pos} {e o : Expr} {es : List Expr} {kws : List Keyword} {t tk : TA} {ta : TE} {gV : List V → List V → List V} {r : List V → List V → Hp → VK → Prop}
def rSpK (n m : Nat) (gV : List V → List V → List V) (sp : Sp) (E : XK) : List V → List V → Hp → VK → Prop := fun vs zs H Q => vs.length = n ∧ zs.length = m ∧ sp (gV vs zs) H Q E
theorem PromK.call (F : PromK X.prog X.w X.K X.mg X.base CX k f n ks gV sp) (hr : Room k X.A) (hx : Passes CX X E) : CallK X (.ref f) ks (rSpK n ks.length gV sp E) := by
  intro pins s σ H vs zs us ws Q I rv rz ⟨l1, l2, h⟩
  obtain ⟨fd, ps, g, G, b⟩ := F
  exact run_fnN G hr b hx I rv rz l1 l2 h
end
section
variable {H : Hp} {σ : L2.St} {Q : VK} {ta : TE} {t tk : TA} {r : List V → List V → Hp → VK → Prop} {C : Addr} {m : Str} {n k : Nat} {gV : List V → List V → List V} {sp : Sp} {E : XK} {vs zs : List V}
end
end Gh
end
section
set_option Elab.async false
set_option linter.all false
set_option maxRecDepth 100000
set_option maxHeartbeats 4000000
namespace Gh
open PySem PySem.Spec PyProof.Rows L2
structure Fn (d : PyData) (n b : Nat) : Prop where
  cl : d.canLay0 = true
  sh : d.showable = true
  nd : d.hasDict = false
  ls : d.leavesShort 200 = true
  dp : d.depth ≤ n
  bk : d.bulk ≤ b
structure FnAll (ds : List PyData) (n b : Nat) : Prop where
  cl : PyData.canLayAll0 ds = true
  sh : PyData.showableAll ds = true
  nd : PyData.hasDictAll ds = false
  ls : PyData.leavesShortAll 200 ds = true
  dp : PyData.depthAll ds ≤ n
  bk : PyData.bulkAll ds ≤ b
theorem log_lt100 {i : Int} (h1 : -(10 ^ 100) < i) (h2 : i < 10 ^ 100) : i.natAbs.log2 < 1920 := by
  have h : i.natAbs < 2 ^ 1920 := Nat.lt_of_lt_of_le (show i.natAbs < 10 ^ 100 by omega) (by decide)
  by_cases h0 : i.natAbs = 0
  · rw [h0]
    decide
  · exact (Nat.log2_lt h0).mpr h
theorem Fn.int {i : Int} (h1 : -(10 ^ 100) < i) (h2 : i < 10 ^ 100) : Fn (.int i) 0 0 := by
  refine ⟨rfl, decide_eq_true (log_lt100 h1 h2), rfl, ?_, Nat.le_refl _, Nat.le_refl _⟩
  have e := int_text_length_le10 (a := i) (k := 100) (by decide) (by omega)
  refine decide_eq_true ?_
  show (Str.ofString (toString i)).length ≤ 200
  rw [PySem.ofString_length]
  omega
theorem Fn.bool (b : Bool) : Fn (.bool b) 0 0 := ⟨rfl, rfl, rfl, rfl, Nat.le_refl _, Nat.le_refl _⟩
theorem Fn.none : Fn .none 0 0 := ⟨rfl, rfl, rfl, rfl, Nat.le_refl _, Nat.le_refl _⟩
theorem Fn.str {x : Str} (h0 : (PyData.str x).canLay0 = true) (h : (x.cps.toList.all fun c => decide (c < 16 ^ 8)) = true) : Fn (.str x) 0 x.cps.size := ⟨h0, rfl, rfl, h, Nat.le_refl _, Nat.le_refl _⟩
theorem FnAll.nil {n b : Nat} : FnAll [] n b := ⟨rfl, rfl, rfl, rfl, Nat.zero_le _, Nat.zero_le _⟩
theorem FnAll.cons {d : PyData} {ds : List PyData} {n b c : Nat} (h : Fn d n b) (k : FnAll ds n c) : FnAll (d :: ds) n (b + 1 + c) := by
  refine ⟨?_, ?_, ?_, ?_, ?_, ?_⟩
  · show (d.canLay0 && _) = true
    rw [h.cl, k.cl] <;> rfl
  · show (d.showable && _) = true
    rw [h.sh, k.sh] <;> rfl
  · show (d.hasDict || _) = false
    rw [h.nd, k.nd] <;> rfl
  · show (d.leavesShort 200 && _) = true
    rw [h.ls, k.ls] <;> rfl
  · show max _ _ ≤ n
    exact Nat.max_le.mpr ⟨h.dp, k.dp⟩
  · show d.bulk + 1 + _ ≤ _
    have := h.bk
    have := k.bk
    omega
theorem Fn.list {ds : List PyData} {n b : Nat} (h : FnAll ds n b) : Fn (.list ds) (n + 1) b := ⟨h.cl, h.sh, h.nd, h.ls, Nat.succ_le_succ h.dp, h.bk⟩
theorem Fn.tuple {ds : List PyData} {n b : Nat} (h : FnAll ds n b) : Fn (.tuple ds) (n + 1) b := ⟨h.cl, h.sh, h.nd, h.ls, Nat.succ_le_succ h.dp, h.bk⟩
section
variable {K : PySem.W.Frag} {H : Hp} {a : Addr} {ns : List Int}
end
section
variable {H H' : Hp} {a l p c : Addr} {u : HO} {b : Nat}
end
section
variable {K : PySem.W.Frag} {H : Hp} {σ : L2.St} {Q : VK} {m : Nat} {tt : TT} {te tl : TE} {vs : List Nat} {t : TA} {a : Addr} {xs : List V}
end
section
variable {H H' : Hp} {a l p c : Addr} {u : HO} {b : Nat}
end
section
variable {K : PySem.W.Frag} {H : Hp} {σ : L2.St} {D : Ends} {m : Nat} {g : TG} {tb : TS} {tl : TE} {t : TA} {a : Addr} {xs : List V}
end
section
end
end Gh
end
section
set_option Elab.async false
set_option linter.all false
set_option maxRecDepth 100000
set_option maxHeartbeats 4000000
namespace Gh
open PySem PySem.Spec PyProof.Rows L2
section
variable {H H' : Hp} {a l p c t : Addr} {o u : HO} {b : Nat} {xs : List V} {T : List (Addr × Str)} {C dx : Addr} {fs : List (Str × V)}
theorem tabs_of (h : LamX.Tabs T H) (k1 : ∀ a ps, H a = some (.tbl ps) → H' a = some (.tbl ps)) (k2 : ∀ a c q, H a = some (LamX.CodeO c q) → H' a = some (LamX.CodeO c q)) : LamX.Tabs T H' := fun q hq => by
  obtain ⟨ps, h1, h2, h3⟩ := h q hq
  refine ⟨ps, k1 _ _ h1, h2, fun pos cv hc => ?_⟩
  obtain ⟨c', e1, e2⟩ := h3 pos cv hc
  exact ⟨c', e1, k2 _ _ _ e2⟩
theorem tabs_keepL (n : Keep H H' l) (e : H l = some (.lst xs)) (h : LamX.Tabs T H) : LamX.Tabs T H' :=
  tabs_of h (fun a ps q => n _ _ q (ne_of q e (by intro z; cases z))) (fun a c q z => n _ _ z (ne_of z e (by intro y; unfold LamX.CodeO at y; cases y)))
def Fr (H H' : Hp) (p : Addr) : Prop := ∀ a o, H a = some o → a ≠ p → (∀ ps, o ≠ .tbl ps) → H' a = some o
theorem Fr.refl : Fr H H p := fun _ _ h _ _ => h
theorem Fr.trans {H1 : Hp} (n : Fr H H1 p) (k : Fr H1 H' p) : Fr H H' p := fun a o h e z => k a o (n a o h e z) e z
end
section
variable {X : Cx} {H : Hp} {σ : L2.St} {Q : VK} {T : List (Addr × Str)} {TT : (XK → Hp → VK → Prop) → Hp → VK → Prop} {t : XK → TE}
end
end Gh
end
section
set_option Elab.async false
set_option linter.all false
set_option maxRecDepth 100000
set_option maxHeartbeats 4000000
namespace Gh
open PySem PySem.Spec PyProof.Rows L2
section
variable {X : Cx} {CX : CXT} {k : Nat} {C f : Addr} {sp : Sp} {E : XK} {r : List V → Hp → VK → Prop}
theorem InsT.ty {K : PySem.W.Frag} {H : Hp} {a C dx : Addr} {fs : List (Str × V)} (t : InsT K C) (c : Cls K C) (h : H a = some (.ins C dx fs)) : TyX K H (.ref a) (.ref C) := .base (.ins h c t.ha t.hn t.htk t.hm)
end
end Gh
end
section
set_option Elab.async false
set_option linter.all false
set_option maxRecDepth 100000
set_option maxHeartbeats 4000000
namespace Gp
open PySem PySem.Spec PyProof.Rows L2 Gh
inductive D where
  | non | bl (b : Bool) | int (i : Int) | str (x : Str) | tup (ds : List D) | lst (ds : List D)
  | obj (c : Str) (fs : List (Str × D)) | err (c : Str) (fs : List (Str × D)) | pen
  | cls (c : Str) | er0 (c : Str) | dct | dic (ps : List (Key × D)) | dit (ps : List (List Key × D)) | dik (ps : List (Key × D))
abbrev Fs := List (Str × D)
inductive Tr (α : Type) where
  | ok (a : α) | ex (c : Str) (fs : Fs) | bad | draw (m : Int) (k : Int → Tr α)
section
variable {α β γ : Type}
def bd : Tr α → (α → Tr β) → Tr β
  | .ok a, k => k a
  | .ex c fs, _ => .ex c fs
  | .bad, _ => .bad
  | .draw m f, k => .draw m fun d => bd (f d) k
def Al (P : α → Nat → Prop) (E : Str → Fs → Nat → Prop) : Tr α → Nat → Prop
  | .ok a, b => P a b
  | .ex c fs, b => E c fs b
  | .bad, _ => False
  | .draw m k, b => ∃ b', b = b' + 1 ∧ 0 < m ∧ m < 10 ^ 100 ∧ ∀ d, 0 ≤ d → d < m → Al P E (k d) b'
theorem Al.mono {P P' : α → Nat → Prop} {E E' : Str → Fs → Nat → Prop} (hP : ∀ a b, P a b → P' a b) (hE : ∀ c fs b, E c fs b → E' c fs b) {m : Tr α} {b : Nat} (h : Al P E m b) : Al P' E' m b := by
  induction m generalizing b with
  | ok a => exact hP _ _ h
  | ex c fs => exact hE _ _ _ h
  | bad => exact h
  | draw m f ih =>
    obtain ⟨b', e, h1, h2, h3⟩ := h
    exact ⟨b', e, h1, h2, fun d d0 d1 => ih d (h3 d d0 d1)⟩
end
def pr2 : List D → Bool
  | [.int _, .int _] => true
  | _ => false
structure Gw where
  K : PySem.W.Frag
  T : List (Addr × Str)
  p : Addr
  c : Addr
mutual
inductive Den (g : Gw) (U : Addr → Prop) (H : Hp) : V → D → Prop
  | non : Den g U H .non .non
  | bl (b : Bool) : Den g U H (.bl b) (.bl b)
  | int (i : Int) : Den g U H (.int i) (.int i)
  | str (x : Str) : x.length ≤ sizeLine → Den g U H (.str x) (.str x)
  | tup {a : Addr} {vs : List V} {ds : List D} : H a = some (.tup vs) → ¬ U a → vs.length ≤ sizeLine → DenL g U H vs ds → Den g U H (.ref a) (.tup ds)
  | tupW {a : Addr} {vs : List V} {ds : List D} : (∀ H', SqT g.K H' a vs) → vs.length ≤ sizeLine → DenL g U H vs ds → pr2 ds = false → Den g U H (.ref a) (.tup ds)
  | lst {a : Addr} {vs : List V} {ds : List D} : H a = some (.lst vs) → ¬ U a → vs.length ≤ sizeLine → DenL g U H vs ds → Den g U H (.ref a) (.lst ds)
  | obj {a dx : Addr} {c : Str} {fvs : List (Str × V)} {fs : List (Str × D)} : H a = some (.ins (gd c g.K) dx fvs) → ¬ U a → DenF g U H fvs fs → Den g U H (.ref a) (.obj c fs)
  | err {a d : Addr} {c : Str} {fvs : List (Str × V)} {fs : List (Str × D)} : H a = some (exk a (gd c g.K) d) → ¬ U a → H d = some (.xd fvs) → ¬ U d → DenF g U H fvs fs → Den g U H (.ref a) (.err c fs)
  | pen : Den g U H (.ref g.p) .pen
  | cls (c : Str) : Den g U H (.ref (gd c g.K)) (.cls c)
  | er0 {a : Addr} {c : Str} : H a = some (exk0 a (gd c g.K)) → ¬ U a → Den g U H (.ref a) (.er0 c)
  | dct {a : Addr} : H a = some (.dK []) → ¬ U a → Den g U H (.ref a) .dct
  | dic {a : Addr} {kvs : List (Key × V)} {ps : List (Key × D)} : H a = some (.dK kvs) → ¬ U a → kvs.map (·.1) = ps.map (·.1) → DenL g U H (kvs.map (·.2)) (ps.map (·.2)) → Den g U H (.ref a) (.dic ps)
  | dit {a : Addr} {ob : Obj} {kvs : List (List Key × V)} {ps : List (List Key × D)} : H a = some (.frz ob (.dT kvs)) → ¬ U a → kvs.map (·.1) = ps.map (·.1) → DenL g U H (kvs.map (·.2)) (ps.map (·.2)) → Den g U H (.ref a) (.dit ps)
  | dik {a : Addr} {ob : Obj} {kvs : List (Key × V)} {ps : List (Key × D)} : H a = some (.frz ob (.dK kvs)) → ¬ U a → kvs.map (·.1) = ps.map (·.1) → DenL g U H (kvs.map (·.2)) (ps.map (·.2)) → Den g U H (.ref a) (.dik ps)
inductive DenL (g : Gw) (U : Addr → Prop) (H : Hp) : List V → List D → Prop
  | nil : DenL g U H [] []
  | cons {v : V} {vs : List V} {d : D} {ds : List D} : Den g U H v d → DenL g U H vs ds → DenL g U H (v :: vs) (d :: ds)
inductive DenF (g : Gw) (U : Addr → Prop) (H : Hp) : List (Str × V) → List (Str × D) → Prop
  | nil : DenF g U H [] []
  | cons {n : Str} {v : V} {vs : List (Str × V)} {d : D} {ds : List (Str × D)} : Den g U H v d → DenF g U H vs ds → DenF g U H ((n, v) :: vs) ((n, d) :: ds)
end
section
variable {g : Gw} {U U' : Addr → Prop} {H H' : Hp}
def ExtU (U : Addr → Prop) (H H' : Hp) : Prop := ∀ a o, H a = some o → ¬ U a → (∀ ps, o ≠ .tbl ps) → H' a = some o
mutual
theorem Den.ext (e : ExtU U H H') : ∀ {v : V} {d : D}, Den g U H v d → Den g U H' v d
  | _, _, .non => .non
  | _, _, .bl b => .bl b
  | _, _, .int i => .int i
  | _, _, .str x h => .str x h
  | _, _, .tup h n l k => .tup (e _ _ h n (fun _ z => by cases z)) n l (DenL.ext e k)
  | _, _, .tupW h l k nk => .tupW h l (DenL.ext e k) nk
  | _, _, .lst h n l k => .lst (e _ _ h n (fun _ z => by cases z)) n l (DenL.ext e k)
  | _, _, .obj h n k => .obj (e _ _ h n (fun _ z => by cases z)) n (DenF.ext e k)
  | _, _, .err h n h2 n2 k => .err (e _ _ h n (fun _ z => by unfold exk at z; cases z)) n (e _ _ h2 n2 (fun _ z => by cases z)) n2 (DenF.ext e k)
  | _, _, .pen => .pen
  | _, _, .cls c => .cls c
  | _, _, .er0 h n => .er0 (e _ _ h n (fun _ z => by unfold exk0 at z; cases z)) n
  | _, _, .dct h n => .dct (e _ _ h n (fun _ z => by cases z)) n
  | _, _, .dic h n l k => .dic (e _ _ h n (fun _ z => by cases z)) n l (DenL.ext e k)
  | _, _, .dit h n l k => .dit (e _ _ h n (fun _ z => by cases z)) n l (DenL.ext e k)
  | _, _, .dik h n l k => .dik (e _ _ h n (fun _ z => by cases z)) n l (DenL.ext e k)
theorem DenL.ext (e : ExtU U H H') : ∀ {vs : List V} {ds : List D}, DenL g U H vs ds → DenL g U H' vs ds
  | _, _, .nil => .nil
  | _, _, .cons a r => .cons (Den.ext e a) (DenL.ext e r)
theorem DenF.ext (e : ExtU U H H') : ∀ {vs : List (Str × V)} {ds : List (Str × D)}, DenF g U H vs ds → DenF g U H' vs ds
  | _, _, .nil => .nil
  | _, _, .cons a r => .cons (Den.ext e a) (DenF.ext e r)
end
mutual
theorem Den.sub (e : ∀ a, (∃ o, H a = some o) → U' a → U a) : ∀ {v : V} {d : D}, Den g U H v d → Den g U' H v d
  | _, _, .non => .non
  | _, _, .bl b => .bl b
  | _, _, .int i => .int i
  | _, _, .str x h => .str x h
  | _, _, .tup h n l k => .tup h (fun z => n (e _ ⟨_, h⟩ z)) l (DenL.sub e k)
  | _, _, .tupW h l k nk => .tupW h l (DenL.sub e k) nk
  | _, _, .lst h n l k => .lst h (fun z => n (e _ ⟨_, h⟩ z)) l (DenL.sub e k)
  | _, _, .obj h n k => .obj h (fun z => n (e _ ⟨_, h⟩ z)) (DenF.sub e k)
  | _, _, .err h n h2 n2 k => .err h (fun z => n (e _ ⟨_, h⟩ z)) h2 (fun z => n2 (e _ ⟨_, h2⟩ z)) (DenF.sub e k)
  | _, _, .pen => .pen
  | _, _, .cls c => .cls c
  | _, _, .er0 h n => .er0 h (fun z => n (e _ ⟨_, h⟩ z))
  | _, _, .dct h n => .dct h (fun z => n (e _ ⟨_, h⟩ z))
  | _, _, .dic h n l k => .dic h (fun z => n (e _ ⟨_, h⟩ z)) l (DenL.sub e k)
  | _, _, .dit h n l k => .dit h (fun z => n (e _ ⟨_, h⟩ z)) l (DenL.sub e k)
  | _, _, .dik h n l k => .dik h (fun z => n (e _ ⟨_, h⟩ z)) l (DenL.sub e k)
theorem DenL.sub (e : ∀ a, (∃ o, H a = some o) → U' a → U a) : ∀ {vs : List V} {ds : List D}, DenL g U H vs ds → DenL g U' H vs ds
  | _, _, .nil => .nil
  | _, _, .cons a r => .cons (Den.sub e a) (DenL.sub e r)
theorem DenF.sub (e : ∀ a, (∃ o, H a = some o) → U' a → U a) : ∀ {vs : List (Str × V)} {ds : List (Str × D)}, DenF g U H vs ds → DenF g U' H vs ds
  | _, _, .nil => .nil
  | _, _, .cons a r => .cons (Den.sub e a) (DenF.sub e r)
end
theorem DenL.length : ∀ {vs : List V} {ds : List D}, DenL g U H vs ds → vs.length = ds.length
  | _, _, .nil => rfl
  | _, _, .cons _ r => congrArg (· + 1) (DenL.length r)
theorem DenL.append : ∀ {vs ws : List V} {ds es : List D}, DenL g U H vs ds → DenL g U H ws es → DenL g U H (vs ++ ws) (ds ++ es)
  | _, _, _, _, .nil, k => k
  | _, _, _, _, .cons a r, k => .cons a (DenL.append r k)
theorem DenL.getD : ∀ {vs : List V} {ds : List D} {i : Nat} {d : D}, DenL g U H vs ds → ds[i]? = some d → ∃ v, vs[i]? = some v ∧ Den g U H v d
  | _, _, i, v, .nil, e => by simp at e
  | _, _, 0, v, .cons a r, e => by simp at e; subst e; exact ⟨_, rfl, a⟩
  | _, _, i + 1, v, .cons a r, e => by
    obtain ⟨d, h1, h2⟩ := DenL.getD (i := i) (d := v) r (by simpa using e)
    exact ⟨d, by simpa using h1, h2⟩
theorem DenL.set : ∀ {vs : List V} {ds : List D} (n : Nat) {v : V} {d : D}, Den g U H v d → DenL g U H vs ds → DenL g U H (vs.set n v) (ds.set n d)
  | _, _, _, _, _, _, .nil => .nil
  | _, _, 0, _, _, h, .cons _ r => .cons h r
  | _, _, n + 1, _, _, h, .cons a r => .cons a (DenL.set n h r)
theorem DenF.look : ∀ {vs : List (Str × V)} {ds : List (Str × D)} {n : Str} {d : D}, DenF g U H vs ds → ds.lookup n = some d → ∃ v, vs.lookup n = some v ∧ Den g U H v d
  | _, _, _, _, .nil, e => by cases e
  | _, _, n, d, .cons (n := m) a r, e => by
    simp only [List.lookup] at e ⊢
    cases q : (n == m) with
    | true => rw [q] at e; cases e; exact ⟨_, rfl, a⟩
    | false => rw [q] at e; exact DenF.look r e
theorem DenF.length : ∀ {vs : List (Str × V)} {ds : List (Str × D)}, DenF g U H vs ds → vs.length = ds.length
  | _, _, .nil => rfl
  | _, _, .cons _ r => congrArg (· + 1) (DenF.length r)
end
structure Wd (g : Gw) (H : Hp) (b : Nat) : Prop where
  pen : Pen H g.p g.c b
  tabs : LamX.Tabs g.T H
structure Nt (o : HO) : Prop where
  tbl : ∀ ps, o ≠ .tbl ps
  tup : ∀ xs, o ≠ .tup xs
structure UOk (g : Gw) (U : Addr → Prop) (H : Hp) : Prop where
  p : U g.p
  c : U g.c
  al : ∀ a, U a → ∃ o, H a = some o ∧ Nt o
section
variable {g : Gw} {U U' : Addr → Prop} {H H' H1 H2 : Hp} {b : Nat}
theorem UOk.extU (u : UOk g U H) (f : Fr H H' g.p) : ExtU U H H' := fun a o h n z => f a o h (fun e => n (e ▸ u.p)) z
theorem UOk.fr (u : UOk g U H) (f : Fr H H' g.p) (w : Wd g H' b) : UOk g U H' := ⟨u.p, u.c, fun a ha => by
  by_cases e : a = g.p
  · subst e
    obtain ⟨ns, i, z, h, _⟩ := w.pen
    exact ⟨_, h, (fun _ z => by cases z), (fun _ z => by cases z)⟩
  · obtain ⟨o, h, n⟩ := u.al a ha
    exact ⟨o, f a o h e n.tbl, n⟩⟩
theorem Den.fr (u : UOk g U H) (f : Fr H H' g.p) {v : V} {d : D} (h : Den g U H v d) : Den g U H' v d := h.ext (u.extU f)
theorem DenL.fr (u : UOk g U H) (f : Fr H H' g.p) {v : List V} {d : List D} (h : DenL g U H v d) : DenL g U H' v d := h.ext (u.extU f)
theorem Wd.same (w : Wd g H b) (s : L2.Same H H') : Wd g H' b := ⟨w.pen.same s, w.tabs.ext s⟩
theorem fr_same (s : L2.Same H H') {p : Addr} : Fr H H' p := fun a o h _ _ => s a o h
theorem UOk.new (u : UOk g U H) {a : Addr} (h : H a = none) : ¬ U a := fun z => by
  obtain ⟨o, e, _⟩ := u.al a z
  rw [h] at e
  cases e
end
inductive Ow where
  | l (ds : List D) | d (x : D)
inductive DcR (g : Gw) (U : Addr → Prop) (H : Hp) : HO → D → Prop
  | k {kvs : List (Key × V)} {ps : List (Key × D)} : kvs.map (·.1) = ps.map (·.1) → DenL g U H (kvs.map (·.2)) (ps.map (·.2)) → DcR g U H (.dK kvs) (.dik ps)
  | t {kvs : List (List Key × V)} {ps : List (List Key × D)} : kvs.map (·.1) = ps.map (·.1) → DenL g U H (kvs.map (·.2)) (ps.map (·.2)) → DcR g U H (.dT kvs) (.dit ps)
def OwR (g : Gw) (U : Addr → Prop) (H : Hp) (o : HO) : Ow → Prop
  | .l ds => ∃ vs, o = .lst vs ∧ vs.length ≤ sizeLine ∧ DenL g U H vs ds
  | .d x => DcR g U H o x
theorem OwR.map {g : Gw} {U U' : Addr → Prop} {H H' : Hp} {o : HO} (f : ∀ {vs : List V} {ds : List D}, DenL g U H vs ds → DenL g U' H' vs ds) : ∀ {x : Ow}, OwR g U H o x → OwR g U' H' o x
  | .l ds, ⟨vs, e, l, k⟩ => ⟨vs, e, l, f k⟩
  | .d x, h => by
    cases h with
    | k a b => exact .k a (f b)
    | t a b => exact .t a (f b)
theorem OwR.no {g : Gw} {U : Addr → Prop} {H : Hp} {o : HO} : ∀ {x : Ow}, OwR g U H o x → (∃ vs, o = .lst vs) ∨ (∃ ks, o = .dK ks) ∨ ∃ ks, o = .dT ks
  | .l ds, ⟨vs, e, l, k⟩ => .inl ⟨vs, e⟩
  | .d x, h => by
    cases h with
    | k a b => exact .inr (.inl ⟨_, rfl⟩)
    | t a b => exact .inr (.inr ⟨_, rfl⟩)
theorem OwR.tbl {g : Gw} {U : Addr → Prop} {H : Hp} {o : HO} {x : Ow} (h : OwR g U H o x) : ∀ ps, o ≠ .tbl ps := fun ps e => by
  rcases h.no with ⟨vs, z⟩ | ⟨vs, z⟩ | ⟨vs, z⟩ <;> (rw [e] at z; cases z)
inductive Sl where
  | no | fz (d : D) | ow (ds : Ow) | oi (c : Str) (fs : Fs)
abbrev Env := List Sl
def SlR (g : Gw) (U : Addr → Prop) (H : Hp) (o : Option V) : Sl → Prop
  | .no => True
  | .fz d => ∃ v, o = some v ∧ Den g U H v d
  | .ow ds => ∃ a u, o = some (.ref a) ∧ H a = some u ∧ OwR g U H u ds ∧ U a ∧ a ≠ g.p ∧ a ≠ g.c
  | .oi c fs => ∃ a dx fvs, o = some (.ref a) ∧ H a = some (.ins (gd c g.K) dx fvs) ∧ DenF g U H fvs fs ∧ U a ∧ a ≠ g.p ∧ a ≠ g.c
def OwnAt (σ : L2.St) (ε : Env) (i : Nat) (a : Addr) : Prop := σ[i]? = some (some (.ref a)) ∧ ((∃ ds, ε[i]? = some (.ow ds)) ∨ ∃ c fs, ε[i]? = some (.oi c fs))
structure Rel (g : Gw) (U : Addr → Prop) (H : Hp) (σ : L2.St) (ε : Env) : Prop where
  len : σ.length = ε.length
  at_ : ∀ (i : Nat) (s : Sl), ε[i]? = some s → ∃ o, σ[i]? = some o ∧ SlR g U H o s
  apart : ∀ (i j : Nat) (a : Addr), i ≠ j → OwnAt σ ε i a → OwnAt σ ε j a → False
section
variable {g : Gw} {U U' : Addr → Prop} {H H' H1 H2 : Hp} {b : Nat} {σ : L2.St} {ε : Env}
theorem extU_of (hp : U g.p) (f : Fr H H' g.p) : ExtU U H H' := fun a o h n z => f a o h (fun e => n (e ▸ hp)) z
theorem SlR.frp (hp : U g.p) (f : Fr H H' g.p) {o : Option V} : ∀ {s : Sl}, SlR g U H o s → SlR g U H' o s
  | .no, _ => trivial
  | .fz d, ⟨v, e, h⟩ => ⟨v, e, h.ext (extU_of hp f)⟩
  | .ow ds, ⟨a, vs, e, h, k, ua, n1, n2⟩ => ⟨a, vs, e, f _ _ h n1 k.tbl, k.map (fun q => q.ext (extU_of hp f)), ua, n1, n2⟩
  | .oi c fs, ⟨a, dx, fvs, e, h, k, ua, n1, n2⟩ => ⟨a, dx, fvs, e, f _ _ h n1 (fun _ z => by cases z), k.ext (extU_of hp f), ua, n1, n2⟩
theorem SlR.fr (u : UOk g U H) (f : Fr H H' g.p) {o : Option V} {s : Sl} (h : SlR g U H o s) : SlR g U H' o s := h.frp u.p f
theorem Rel.frp (r : Rel g U H σ ε) (hp : U g.p) (f : Fr H H' g.p) : Rel g U H' σ ε := ⟨r.len, fun i s e => by
  obtain ⟨o, h1, h2⟩ := r.at_ i s e
  exact ⟨o, h1, h2.frp hp f⟩, r.apart⟩
theorem Rel.fr (r : Rel g U H σ ε) (u : UOk g U H) (f : Fr H H' g.p) : Rel g U H' σ ε := ⟨r.len, fun i s e => by
  obtain ⟨o, h1, h2⟩ := r.at_ i s e
  exact ⟨o, h1, h2.fr u f⟩, r.apart⟩
mutual
theorem Den.grow {x : Addr} (n : H x = none) : ∀ {v : V} {d : D}, Den g U H v d → Den g (fun a => U a ∨ a = x) H v d
  | _, _, .non => .non
  | _, _, .bl b => .bl b
  | _, _, .int i => .int i
  | _, _, .str x h => .str x h
  | _, _, .tup h k l r => .tup h (fun z => z.elim k (ne_of_none h n)) l (DenL.grow n r)
  | _, _, .tupW h l r nk => .tupW h l (DenL.grow n r) nk
  | _, _, .lst h k l r => .lst h (fun z => z.elim k (ne_of_none h n)) l (DenL.grow n r)
  | _, _, .obj h k r => .obj h (fun z => z.elim k (ne_of_none h n)) (DenF.grow n r)
  | _, _, .err h k h2 k2 r => .err h (fun z => z.elim k (ne_of_none h n)) h2 (fun z => z.elim k2 (ne_of_none h2 n)) (DenF.grow n r)
  | _, _, .pen => .pen
  | _, _, .cls c => .cls c
  | _, _, .er0 h k => .er0 h (fun z => z.elim k (ne_of_none h n))
  | _, _, .dct h k => .dct h (fun z => z.elim k (ne_of_none h n))
  | _, _, .dic h k l r => .dic h (fun z => z.elim k (ne_of_none h n)) l (DenL.grow n r)
  | _, _, .dit h k l r => .dit h (fun z => z.elim k (ne_of_none h n)) l (DenL.grow n r)
  | _, _, .dik h k l r => .dik h (fun z => z.elim k (ne_of_none h n)) l (DenL.grow n r)
theorem DenL.grow {x : Addr} (n : H x = none) : ∀ {vs : List V} {ds : List D}, DenL g U H vs ds → DenL g (fun a => U a ∨ a = x) H vs ds
  | _, _, .nil => .nil
  | _, _, .cons a r => .cons (Den.grow n a) (DenL.grow n r)
theorem DenF.grow {x : Addr} (n : H x = none) : ∀ {vs : List (Str × V)} {ds : List (Str × D)}, DenF g U H vs ds → DenF g (fun a => U a ∨ a = x) H vs ds
  | _, _, .nil => .nil
  | _, _, .cons a r => .cons (Den.grow n a) (DenF.grow n r)
end
theorem SlR.grow {x : Addr} (n : H x = none) {o : Option V} : ∀ {s : Sl}, SlR g U H o s → SlR g (fun a => U a ∨ a = x) H o s
  | .no, _ => trivial
  | .fz d, ⟨v, e, h⟩ => ⟨v, e, h.grow n⟩
  | .ow ds, ⟨a, vs, e, h, k, ua, n1, n2⟩ => ⟨a, vs, e, h, k.map (fun q => q.grow n), .inl ua, n1, n2⟩
  | .oi c fs, ⟨a, dx, fvs, e, h, k, ua, n1, n2⟩ => ⟨a, dx, fvs, e, h, k.grow n, .inl ua, n1, n2⟩
theorem Rel.grow {x : Addr} (r : Rel g U H σ ε) (n : H x = none) : Rel g (fun a => U a ∨ a = x) H σ ε := ⟨r.len, fun i s e => by
  obtain ⟨o, h1, h2⟩ := r.at_ i s e
  exact ⟨o, h1, h2.grow n⟩, r.apart⟩
def okP (g : Gw) (U : Addr → Prop) (H : Hp) (Q : VK) : D → Nat → Prop := fun d b => ∀ v H', Den g U H' v d → Wd g H' b → Fr H H' g.p → Q v H'
def exP (g : Gw) (U : Addr → Prop) (E : XK) (H : Hp) : Str → Fs → Nat → Prop := fun c fs b => ∀ dd fvs H', H' dd = some (.xd fvs) → ¬ U dd → DenF g U H' fvs fs → Wd g H' b → Fr H H' g.p → E (.ref (gd c g.K)) (some dd) H'
theorem exP.fr {E : XK} {c : Str} {fs : Fs} (f : Fr H H1 g.p) (h : exP g U E H c fs b) : exP g U E H1 c fs b := fun dd fvs H' h1 h2 h3 h4 h5 => h dd fvs H' h1 h2 h3 h4 (f.trans h5)
theorem okP.fr {Q : VK} {d : D} (f : Fr H H1 g.p) (h : okP g U H Q d b) : okP g U H1 Q d b := fun v H' h1 h2 h3 => h v H' h1 h2 (f.trans h3)
theorem okP.here {Q : VK} {d : D} {v : V} (h : okP g U H Q d b) (w : Wd g H b) (dn : Den g U H v d) : Q v H := h v H dn w Fr.refl
variable {E : XK} {ta tb tc : TE} {ma mb : Tr D}
end
end Gp
end
section
set_option Elab.async false
set_option linter.all false
set_option maxRecDepth 100000
set_option maxHeartbeats 4000000
namespace Gp
open PySem PySem.Spec PyProof.Rows L2 Gh
inductive Fl (W L : Type) where
  | nx (w : W) | rt (d : D) | bk (l : L) | ct (l : L)
def FrM (g : Gw) (Mt : Addr → Prop) (H H' : Hp) : Prop := ∀ a o, H a = some o → a ≠ g.p → ¬ Mt a → (∀ ps, o ≠ .tbl ps) → H' a = some o
def OiM (Mt U0 : Addr → Prop) (i : Nat) (a : Addr) : Prop := (i = 0 → Mt a) ∧ (i ≠ 0 → ¬ U0 a)
structure Stt (g : Gw) (Mt U0 : Addr → Prop) (H0 : Hp) (U : Addr → Prop) (σ : L2.St) (H : Hp) (b : Nat) (ε : Env) : Prop where
  rel : Rel g U H σ ε
  wd : Wd g H b
  uok : UOk g U H
  sub : ∀ a, U0 a → U a
  own : ∀ i a, OwnAt σ ε i a → Mt a ∨ ∀ o, H0 a = some o → ∃ ps, o = .tbl ps
  ext : FrM g Mt H0 H
  nu0 : ∀ (i : Nat) (ds : Ow) (a : Addr), ε[i]? = some (.ow ds) → σ[i]? = some (some (.ref a)) → ¬ U0 a
  oim : ∀ (i : Nat) (c : Str) (fs : Fs) (a : Addr), True → ε[i]? = some (.oi c fs) → σ[i]? = some (some (.ref a)) → OiM Mt U0 i a
section
variable {g : Gw} {Mt U0 U U' : Addr → Prop} {H0 H H' H1 H2 : Hp} {b b1 : Nat} {σ : L2.St} {ε ε' : Env} {E : XK} {W L W' : Type}
structure Ev (U : Addr → Prop) (H : Hp) (U' : Addr → Prop) (H' : Hp) : Prop where
  keep : ∀ a o, H a = some o → ¬ U a → (∀ ps, o ≠ .tbl ps) → H' a = some o
  out : ∀ a o, H a = some o → ¬ U a → (∀ ps, o ≠ .tbl ps) → ¬ U' a
theorem Ev.refl : Ev U H U H := ⟨fun _ _ h _ _ => h, fun _ _ _ n _ => n⟩
theorem Ev.trans {U1 : Addr → Prop} {H1 : Hp} (h : Ev U H U1 H1) (k : Ev U1 H1 U' H') : Ev U H U' H' := ⟨fun a o e n t => k.keep a o (h.keep a o e n t) (h.out a o e n t) t, fun a o e n t => k.out a o (h.keep a o e n t) (h.out a o e n t) t⟩
theorem UOk.ev (u : UOk g U H) (f : Fr H H' g.p) : Ev U H U H' := ⟨fun a o e n t => f a o e (fun z => n (z ▸ u.p)) t, fun _ _ _ n _ => n⟩
mutual
theorem Den.ev (e : Ev U H U' H') : ∀ {v : V} {d : D}, Den g U H v d → Den g U' H' v d
  | _, _, .non => .non
  | _, _, .bl b => .bl b
  | _, _, .int i => .int i
  | _, _, .str x h => .str x h
  | _, _, .tup h n l k => .tup (e.keep _ _ h n (fun _ z => by cases z)) (e.out _ _ h n (fun _ z => by cases z)) l (DenL.ev e k)
  | _, _, .tupW h l k nk => .tupW h l (DenL.ev e k) nk
  | _, _, .lst h n l k => .lst (e.keep _ _ h n (fun _ z => by cases z)) (e.out _ _ h n (fun _ z => by cases z)) l (DenL.ev e k)
  | _, _, .obj h n k => .obj (e.keep _ _ h n (fun _ z => by cases z)) (e.out _ _ h n (fun _ z => by cases z)) (DenF.ev e k)
  | _, _, .err h n h2 n2 k => .err (e.keep _ _ h n (fun _ z => by unfold exk at z; cases z)) (e.out _ _ h n (fun _ z => by unfold exk at z; cases z)) (e.keep _ _ h2 n2 (fun _ z => by cases z)) (e.out _ _ h2 n2 (fun _ z => by cases z)) (DenF.ev e k)
  | _, _, .pen => .pen
  | _, _, .cls c => .cls c
  | _, _, .er0 h n => .er0 (e.keep _ _ h n (fun _ z => by unfold exk0 at z; cases z)) (e.out _ _ h n (fun _ z => by unfold exk0 at z; cases z))
  | _, _, .dct h n => .dct (e.keep _ _ h n (fun _ z => by cases z)) (e.out _ _ h n (fun _ z => by cases z))
  | _, _, .dic h n l k => .dic (e.keep _ _ h n (fun _ z => by cases z)) (e.out _ _ h n (fun _ z => by cases z)) l (DenL.ev e k)
  | _, _, .dit h n l k => .dit (e.keep _ _ h n (fun _ z => by cases z)) (e.out _ _ h n (fun _ z => by cases z)) l (DenL.ev e k)
  | _, _, .dik h n l k => .dik (e.keep _ _ h n (fun _ z => by cases z)) (e.out _ _ h n (fun _ z => by cases z)) l (DenL.ev e k)
theorem DenL.ev (e : Ev U H U' H') : ∀ {vs : List V} {ds : List D}, DenL g U H vs ds → DenL g U' H' vs ds
  | _, _, .nil => .nil
  | _, _, .cons a r => .cons (Den.ev e a) (DenL.ev e r)
theorem DenF.ev (e : Ev U H U' H') : ∀ {vs : List (Str × V)} {ds : List (Str × D)}, DenF g U H vs ds → DenF g U' H' vs ds
  | _, _, .nil => .nil
  | _, _, .cons a r => .cons (Den.ev e a) (DenF.ev e r)
end
theorem FrM.trans (h : FrM g Mt H0 H) (f : Fr H H' g.p) : FrM g Mt H0 H' := fun a o e n1 n2 n3 => f a o (h a o e n1 n2 n3) n1 n3
theorem Stt.fr (s : Stt g Mt U0 H0 U σ H b ε) (f : Fr H H' g.p) (w : Wd g H' b1) : Stt g Mt U0 H0 U σ H' b1 ε := ⟨s.rel.fr s.uok f, w, s.uok.fr f w, s.sub, s.own, s.ext.trans f, s.nu0, s.oim⟩
def flP (g : Gw) (Mt U0 : Addr → Prop) (H0 : Hp) (U : Addr → Prop) (H : Hp) (D : Ends) (env : W → Env) (envL : L → Env) : Fl W L → Nat → Prop
  | .nx w, b => ∀ U' σ' H', Ev U H U' H' → Stt g Mt U0 H0 U' σ' H' b (env w) → D.nx σ' H'
  | .rt d, b => ∀ v H, Den g U0 H v d → Wd g H b → FrM g Mt H0 H → D.rt v H
  | .bk w, b => ∀ U' σ' H', Ev U H U' H' → Stt g Mt U0 H0 U' σ' H' b (envL w) → D.bk σ' H'
  | .ct w, b => ∀ U' σ' H', Ev U H U' H' → Stt g Mt U0 H0 U' σ' H' b (envL w) → D.ct σ' H'
theorem flP.ev {U1 : Addr → Prop} {H1 : Hp} {D : Ends} {env : W → Env} {envL : L → Env} (e : Ev U H U1 H1) : ∀ {f : Fl W L}, flP g Mt U0 H0 U H D env envL f b → flP g Mt U0 H0 U1 H1 D env envL f b
  | .nx w, h => fun U' σ' H' e1 => h U' σ' H' (e.trans e1)
  | .rt d, h => h
  | .bk w, h => fun U' σ' H' e1 => h U' σ' H' (e.trans e1)
  | .ct w, h => fun U' σ' H' e1 => h U' σ' H' (e.trans e1)
def exS (g : Gw) (Mt U0 : Addr → Prop) (H0 : Hp) (E : XK) : Str → Fs → Nat → Prop := fun c fs b => ∀ dd fvs H, H dd = some (.xd fvs) → ¬ U0 dd → DenF g U0 H fvs fs → Wd g H b → FrM g Mt H0 H → E (.ref (gd c g.K)) (some dd) H
theorem exS.exP (s : Stt g Mt U0 H0 U σ H b ε) {c : Str} {fs : Fs} (h : exS g Mt U0 H0 E c fs b1) : exP g U E H c fs b1 := fun dd fvs H' h1 h2 h3 h4 h5 =>
  h dd fvs H' h1 (fun z => h2 (s.sub _ z)) (h3.sub fun a _ z => s.sub a z) h4 (s.ext.trans h5)
theorem ownAt_set {i j : Nat} {v : V} {d : D} {a : Addr} (h : OwnAt (σ.set i (some v)) (ε.set i (.fz d)) j a) : i ≠ j ∧ OwnAt σ ε j a := by
  obtain ⟨h1, h2⟩ := h
  by_cases e : i = j
  · subst e
    exfalso
    rcases h2 with ⟨ds, h2⟩ | ⟨c, fs, h2⟩
    · rw [List.getElem?_set_self' ] at h2
      cases q : ε[i]? with
      | none => rw [q] at h2; cases h2
      | some z => rw [q] at h2; cases h2
    · rw [List.getElem?_set_self'] at h2
      cases q : ε[i]? with
      | none => rw [q] at h2; cases h2
      | some z => rw [q] at h2; cases h2
  · rw [List.getElem?_set_ne e] at h1 h2
    exact ⟨e, h1, h2⟩
theorem Rel.set (r : Rel g U H σ ε) {v : V} {d : D} (i : Nat) (h : Den g U H v d) : Rel g U H (σ.set i (some v)) (ε.set i (.fz d)) := by
  refine ⟨by rw [List.length_set, List.length_set]; exact r.len, fun j s e => ?_, fun j k a n h1 h2 => r.apart j k a n (ownAt_set h1).2 (ownAt_set h2).2⟩
  by_cases q : i = j
  · subst q
    have hl : i < ε.length := by
      cases z : ε[i]? with
      | none => rw [List.getElem?_set_self', z] at e; cases e
      | some w => exact (List.getElem?_eq_some_iff.mp z).1
    rw [List.getElem?_set_self hl] at e
    cases e
    exact ⟨some v, List.getElem?_set_self (by rw [r.len]; exact hl), v, rfl, h⟩
  · rw [List.getElem?_set_ne q] at e ⊢
    exact r.at_ j s e
theorem Stt.set (s : Stt g Mt U0 H0 U σ H b ε) {v : V} {d : D} (i : Nat) (h : Den g U H v d) : Stt g Mt U0 H0 U (σ.set i (some v)) H b (ε.set i (.fz d)) :=
  ⟨s.rel.set i h, s.wd, s.uok, s.sub, fun j a o => s.own j a (ownAt_set o).2, s.ext, fun j ds a e1 e2 => (by
    obtain ⟨_, e3, e4⟩ := ownAt_set (a := a) (j := j) ⟨e2, .inl ⟨ds, e1⟩⟩
    rcases e4 with ⟨ds', e4⟩ | ⟨_, _, e4⟩
    · exact s.nu0 j ds' a e4 e3
    · by_cases q : i = j
      · subst q
        cases z : ε[i]? with
        | none => rw [List.getElem?_set_self', z] at e1; cases e1
        | some w => rw [List.getElem?_set_self', z] at e1; cases e1
      · rw [List.getElem?_set_ne q, e4] at e1
        cases e1), fun j c fs a j0 e1 e2 => by
    by_cases q : i = j
    · subst q
      cases z : ε[i]? with
      | none => rw [List.getElem?_set_self', z] at e1; cases e1
      | some w => rw [List.getElem?_set_self', z] at e1; cases e1
    · rw [List.getElem?_set_ne q] at e1 e2
      exact s.oim j c fs a j0 e1 e2⟩
inductive Le : Env → Env → Prop
  | nil : Le [] []
  | s {x : Sl} {a b : Env} : Le a b → Le (x :: a) (x :: b)
  | n {x : Sl} {a b : Env} : Le a b → Le (.no :: a) (x :: b)
theorem Le.refl : ∀ ε : Env, Le ε ε
  | [] => .nil
  | _ :: r => .s (Le.refl r)
theorem Le.len : ∀ {a b : Env}, Le a b → a.length = b.length
  | _, _, .nil => rfl
  | _, _, .s h => congrArg (· + 1) h.len
  | _, _, .n h => congrArg (· + 1) h.len
variable {env : W → Env} {envL : L → Env} {env' : W' → Env} {u ta tb : TS} {te : TE} {me : Tr D}
section
variable {α : Type} {P : α → Nat → Prop} {X : Str → Fs → Nat → Prop} {ds : List D}
end
def SX (g : Gw) (E : XK) (ε : Env) (d : D) (gt : TG) (tb : TS) (env : W → Env) (envL : L → Env) (m : Tr (Fl W L)) : Prop := ∀ Mt U0 H0 U D σ H b v, Stt g Mt U0 H0 U σ H b ε → Den g U H v d → Al (flP g Mt U0 H0 U H D env envL) (exS g Mt U0 H0 E) m b → gt v σ H fun σ2 H2 => tb D σ2 H2
end
end Gp
end
section
set_option Elab.async false
set_option linter.all false
set_option maxRecDepth 100000
set_option maxHeartbeats 4000000
namespace Gp
open PySem PySem.Spec PyProof.Rows L2 Gh
section
variable {g : Gw} {Mt U0 U U' : Addr → Prop} {H0 H H' H1 H2 : Hp} {b b1 : Nat} {σ : L2.St} {ε ε' : Env} {E : XK} {W L W' : Type}
variable {env : W → Env} {envL : L → Env} {env' : W' → Env} {u ta tb : TS} {te : TE} {me : Tr D}
abbrev EF : XK := fun _ _ _ => False
theorem exP.F {c : Str} {fs : Fs} (h : False) : exP g U EF H c fs b := h.elim
end
end Gp
end
section
set_option Elab.async false
set_option linter.all false
set_option maxRecDepth 100000
set_option maxHeartbeats 4000000
namespace Gp
open PySem PySem.Spec PyProof.Rows L2 Gh
section
variable {g : Gw} {Mt U0 U U' : Addr → Prop} {H0 H H' H1 H2 : Hp} {b b1 : Nat} {σ : L2.St} {ε ε' : Env} {E : XK} {W L W' : Type}
variable {env : W → Env} {envL : L → Env} {env' : W' → Env} {u ta tb : TS} {te : TE} {me : Tr D}
def fin (m : Tr (Fl Unit Empty)) : Tr D := bd m fun f => match f with
  | .nx _ => .ok .non
  | .rt d => .ok d
  | .bk e => nomatch e
  | .ct e => nomatch e
def isO {α : Type} (c : Str) (o : D) (k : Fs → Tr α) : Tr α := match o with
  | .obj c' fs => if c' = c then k fs else .bad
  | _ => .bad
end
end Gp
end
section
set_option Elab.async false
set_option linter.all false
set_option maxRecDepth 100000
set_option maxHeartbeats 4000000
namespace Gp
open PySem PySem.Spec PyProof.Rows L2 Gh
mutual
def toPy : D → Option PyData
  | .non => some .none
  | .bl b => some (.bool b)
  | .int i => some (.int i)
  | .str x => some (.str x)
  | .tup ds => (toPyL ds).map .tuple
  | .lst ds => (toPyL ds).map .list
  | .obj _ _ => none
  | .err _ _ => none
  | .pen => none
  | .cls _ => none
  | .er0 _ => none
  | .dct => none
  | .dic _ => none
  | .dit _ => none
  | .dik _ => none
def toPyL : List D → Option (List PyData)
  | [] => some []
  | d :: ds => match toPy d, toPyL ds with
    | some e, some es => some (e :: es)
    | _, _ => none
end
section
variable {g : Gw} {U : Addr → Prop} {H H' H1 : Hp} {b : Nat} {E : XK} {Q : VK}
end
end Gp
end
section
set_option Elab.async false
set_option linter.all false
set_option maxRecDepth 100000
set_option maxHeartbeats 4000000
namespace Gp
open PySem PySem.Spec PyProof.Rows L2 Gh
section
variable {g : Gw} {Mt U0 U U' : Addr → Prop} {H0 H H' H1 H2 : Hp} {b b1 : Nat} {σ : L2.St} {ε ε' : Env} {E : XK} {Q : VK} {W L W' : Type}
variable {env : W → Env} {envL : L → Env} {env' : W' → Env} {u ta tb : TS} {te : TE} {me : Tr D}
def shwD (d : D) : Option Str := match d with
  | .non => some "None"
  | .bl b => some (if b then "True" else "False")
  | .int i => if i.natAbs.log2 < 1920 then some (toString i) else none
  | .str x => if (reprText x).length ≤ sizeLine then some (reprText x) else none
  | d => match toPy d with
    | some e => if e.showable = true ∧ e.hasDict = false ∧ e.depth ≤ 100 ∧ e.shown.length ≤ sizeLine then some e.shown else none
    | none => none
def reprD (d : D) : Tr D := match shwD d with
  | some x => if x.length ≤ sizeLine then .ok (.str x) else .bad
  | none => .bad
end
end Gp
end
section
set_option Elab.async false
set_option linter.all false
set_option maxRecDepth 100000
set_option maxHeartbeats 4000000
namespace Gp
open PySem PySem.Spec PyProof.Rows L2 Gh
section
variable {g : Gw} {Mt U0 U U' : Addr → Prop} {H0 H H' H1 H2 : Hp} {b b1 : Nat} {σ : L2.St} {ε ε' : Env} {E : XK} {Q : VK} {W L W' : Type}
variable {env : W → Env} {envL : L → Env} {env' : W' → Env} {u ta tb : TS} {te : TE} {me : Tr D}
theorem look_cons {α : Type} {a c : Str} {x k : α} {r : List (Str × α)} (h : ((a, x) :: r).lookup c = some k) : (c = a ∧ k = x) ∨ r.lookup c = some k := by
  simp only [List.lookup] at h
  split at h
  · rename_i z
    cases h
    exact .inl ⟨beq_iff_eq.mp z, rfl⟩
  · exact .inr h
section
variable {K : PySem.W.Frag} {T : List (Addr × Str)} {N : List Str} {cn : Str} {vs : List V} {t : TS} {envI : Fs → Env}
end
def Yes (F : Tr D) : Prop := Al (fun d _ => d = .bl true) (fun _ _ _ => False) F 1000000
def eqO (c : Str) (f : D → Bool) (F : List D → Tr D) (x y : D) : Tr D := isO c x fun _ => if f y = true then F [x, y] else .bad
end
end Gp
namespace Gp
open PySem PySem.Spec PyProof.Rows L2 Gh
section
variable {g : Gw}
end
end Gp
namespace Gp
open PySem PySem.Spec PyProof.Rows L2 Gh
end Gp
end
section
set_option Elab.async false
set_option linter.all false
set_option maxRecDepth 100000
set_option maxHeartbeats 4000000
namespace Gp
open PySem PySem.Spec PyProof.Rows L2 Gh
structure SupX (X : Cx) (D f cda cc : Addr) (ar : Str) : Prop where
  fu : X.env.func = some f
  co : X.env.code = .ref cda
  lkf : ∃ oc od fd osl a, X.K.lookup f = some ⟨oc, od, .func fd, osl⟩ ∧ (fd.params.posonlyargs ++ fd.params.args).head? = some a ∧ a.arg = ar
  lkc : ∃ ccl cdd vs ccs file tf, X.K.lookup cda = some ⟨ccl, cdd, .fields vs, ccs⟩ ∧ vs[2]? = some (.str file tf) ∧ ((X.prog.main.file : Str) == file) = true
  top : (X.prog.main.scope.names.lookup ("super" : Str)).isSome = false
  ks : X.env.kindOf "super" = some .globalImplicit
  kc : X.env.kindOf "__class__" = some .free
  cell : X.env.cells.lookup ("__class__" : Str) = some cc
  lkl : ∃ cl cld csl, X.K.lookup cc = some ⟨cl, cld, .cell (some (.ref D)), csl⟩
  cD : ∃ cd, PySem.W.clsIn X.K D = some cd
  mg : X.mg "super" = none
  st : PySem.W.nsIn X.K cStatics "thirdparty.any" = some none
  n0 : X.N[0]? = some ar
  ka : X.env.kindOf ar = some .local
structure SupC (K : PySem.W.Frag) (C D : Addr) (m : Str) (f2 : Addr) : Prop where
  sub : PySem.W.mroIn K C (.ref D) = some true
  sup : PySem.W.ks_superIn K C D m = some (some (.ref f2))
  ty : PySem.W.typeIn K (.ref f2) = some (.type "function")
  fn : PySem.W.fnIn K f2 = true
theorem sup_run {X : Cx} {D f cda cc f2 : Addr} {ar m : Str} {body : List Stmt} {p0 p1 apos pos epos : Pos} {e : Expr} {es : List Expr} {ta : TA} {CX : CXT} {k : Nat} {dvs : List V} {sp : Sp} {E : XK} {pl : Sem Bool} {pins : List (Addr × Obj)} {s : Shared} {σ : L2.St} {H : Hp} {Dn : L2.St → Hp → Prop}
    (S : SupX X D f cda cc ar) (hm : (m == ("__class__" : Str)) = false) (ha : PA X (e :: es) ta) (G : PromOX X CX k f2 dvs sp) (hr : Room k X.A) (hx : Passes CX X E) (I : Inv X pins σ H s)
    (h : ∃ a C dx fs, σ[0]? = some (some (.ref a)) ∧ H a = some (.ins C dx fs) ∧ SupC X.K C D m f2 ∧ ta σ H fun vs H1 => sp (.ref a :: (vs ++ dvs)) H1 (fun _ H2 => Dn σ H2) E)
    (hst : starEach (e :: es) X.env = (false, eval e X.env) :: starEach es X.env := by rfl) (hpl : (backTo pos (starEach es X.env)).any (·.1) = false := by rfl)
    (he : eval (.Call (.Attribute (.Call (.Name "super" p0) [] [] p1) m apos) (e :: es) [] pos) X.env = (do
      let ov ← attributeBase (.Call (.Name "super" p0) [] [] p1) m X.env (eval (.Call (.Name "super" p0) [] [] p1) X.env)
      standAt apos.atName
      let (f, first) ← holding [ov] (getMethod ov m pl)
      callWith pos f first (backTo pos (starEach (e :: es) X.env)) []) := by rfl)
    (hsw : swapsWith (.Call (.Attribute (.Call (.Name "super" p0) [] [] p1) m apos) (e :: es) [] pos) none epos.line X.env = pure false := by rfl) :
    _root_.PySem.wpAt (model X.prog X.w) X.A (.func body X.env) (exec (.Expr (.Call (.Attribute (.Call (.Name "super" p0) [] [] p1) m apos) (e :: es) [] pos) epos) X.env) (fun fl s' => fl = .next ∧ ∃ H', Inv X pins σ H' s' ∧ Dn σ H') X.xe s := by
  obtain ⟨a, C, dx, fs, h0, hi, sc, q⟩ := h
  have KX := I.kIn
  obtain ⟨oc, od, fd, osl, ag, lkf, hp, rfl⟩ := S.lkf
  obtain ⟨ccl, cdd, vs, ccs, file, tf, lkc, hvs, hfile⟩ := S.lkc
  obtain ⟨cl, cld, csl, lkl⟩ := S.lkl
  obtain ⟨cdD, hD⟩ := S.cD
  obtain ⟨ox, od', J⟩ := ins_look I hi
  obtain ⟨oD, hD1, hD2⟩ : ∃ oD, s.heap.get? D = some oD ∧ oD.data = .cls cdD := by
    unfold PySem.W.clsIn at hD
    split at hD
    · rename_i ho
      cases hD
      exact ⟨_, KX _ _ ho, rfl⟩
    · cases hD
  have nc : ∀ c, ox.data ≠ .cls c := fun c e => by
    have := J.no
    unfold PySem.W.notCls at this
    rw [e] at this
    exact Bool.noConfusion this
  refine ks_wpAt_Expr_any (ks_wpAt_MethodCall (pl := pl) (ks_wpAt_super_base S.ks S.kc hm S.fu (KX _ _ lkf) rfl hp S.co (KX _ _ lkc) rfl hvs hfile S.top ?_) he) I.quiet hsw
  obtain ⟨mb, b1, b2⟩ := I.mod.blt
  refine PySem.W.ks_loadName_global I.ok.kind S.ks (Calls.loadGlobal_builtin (by rw [I.ok.glob]; exact I.mod.glob.keeps I.bk) S.mg (by rw [I.ok.blt]; exact b1.keeps I.bk) ((b2 "super" (by decide)).trans (show bootBuiltins "super" = some (.type "super") by decide +kernel)) ⟨rfl, ?_⟩)
  refine wpAny_loadName_free I.ok.kind S.kc S.cell ⟨_, KX _ _ lkl, rfl⟩ ?_
  obtain ⟨mm, hn, hl⟩ := I.loc
  obtain ⟨u, ru, hu⟩ := hl 0 ag.arg (.ref a) S.n0 h0 (.inl S.ka)
  have eu : u = Value.ref a := ru
  subst eu
  have hv : mm ag.arg = some (.ref a) := by
    rcases hu with z | ⟨z, _⟩
    · exact z.2
    · rcases z with z | z <;> rw [S.ka] at z <;> cases z
  refine wpAny_loadName_local I.ok.kind S.ka hn hv ?_
  obtain ⟨hh, g, d, t, os⟩ := s
  refine ks_wpAny_isType_cls hD1 hD2 ⟨rfl, ?_⟩
  refine ks_wpAny_call_super hD1 hD2 J.at_ J.cls nc (PySem.W.looks_mroIn KX sc.sub) (fun h1 e1 k1 => ?_)
  cases hcC : PySem.W.clsIn X.K C with
  | none =>
    have z := sc.sup
    unfold PySem.W.ks_superIn at z
    rw [hcC] at z
    cases z
  | some cdC =>
    have K1 : X.K.In h1 := KX.keeps k1
    obtain ⟨of, hof, hofc⟩ : ∃ of, h1.get? f2 = some of ∧ of.cls = .type "function" := by
      have ht' : (X.K.lookup f2).map (·.cls) = some (.type "function") := sc.ty
      cases z : X.K.lookup f2 with
      | none => rw [z] at ht'; cases ht'
      | some of => rw [z] at ht'; exact ⟨of, K1 _ _ z, Option.some.inj ht'⟩
    have hsup := sc.sup
    unfold PySem.W.ks_superIn at hsup
    rw [hcC] at hsup
    refine ks_wpAny_getMethod_super e1 (PySem.W.looks_opaque K1 S.st) (l₀ := cdC.mro) ?_ rfl K1 hsup hof hofc (PySem.W.ks_ne KX J hcC) hm ?_
    · exact fun A Q E s k q => wpAny_bind ((PySem.W.looks_clsIn K1 hcC) A _ E s k (wpAny_pure q))
    · have k2 : ∀ b o, hh.get? b = some o → (h1.push { cls := .type "method", data := .fields #[.ref f2, .ref a] }).get? b = some o := fun b o eb => Heap.get?_push_of_some _ (k1 b o eb)
      have I2 : Inv X pins σ H ⟨h1.push { cls := .type "method", data := .fields #[.ref f2, .ref a] }, g, d, t + 1, os⟩ := I.kept (t' := t + 1) k2
      have hsz : hh.objs.size ≤ h1.objs.size := by
        have := Heap.lt_size e1
        exact Nat.le_of_lt this
      have fp := I.fpOk (H' := H) (b := h1.objs.size) hsz (I.hok.fresh hsz)
      have hq1 : (h1.push { cls := .type "method", data := .fields #[.ref f2, .ref a] }).get? h1.objs.size = some (PySem.W.methodObj (.ref f2) (.ref a)) := Heap.get?_push_size _ rfl
      have I3 : Inv X ((h1.objs.size, PySem.W.methodObj (.ref f2) (.ref a)) :: pins) σ H ⟨h1.push { cls := .type "method", data := .fields #[.ref f2, .ref a] }, g, d, t + 1, os⟩ := I2.pins_of fun p hp => by
        rcases List.mem_cons.mp hp with rfl | hp
        · exact ⟨hq1, fp.1, fp.2.1, fp.2.2.1, fun v z => by cases z⟩
        · exact I2.pin p (List.mem_append_right _ hp)
      show wpAny _ _ (callWith pos (.ref h1.objs.size) [] (backTo pos (starEach (e :: es) X.env)) []) _ _ _
      rw [hst]
      refine PySem.W.callWith_of (P := PySem.W.MethP X.K h1.objs.size f2 (.ref a)) (by show ((false || (backTo pos (starEach es X.env)).any (·.1)) || false) = false; rw [hpl]; rfl) (PySem.W.keeps_M sc.fn) (PySem.Calls.evalArgs_plain ?_)
      show wpAny _ _ (spliced (backTo pos ((false, eval e X.env) :: starEach es X.env))) _ _ _
      rw [← hst]
      refine thn (ha.run pos _ _ σ H _ I3 q) fun us s3 ⟨ws, H1, I4, rv, q2⟩ => ?_
      have pq := (I4.pin (h1.objs.size, PySem.W.methodObj (.ref f2) (.ref a)) (List.mem_append_right _ List.mem_cons_self)).1
      refine ⟨⟨pq, I4.kIn⟩, ?_⟩
      have I5 : Inv X pins σ H1 s3 := I4.pins_of fun p hp => I4.pin p (List.mem_append_right _ (List.mem_cons_of_mem _ hp))
      obtain ⟨fd2, ps2, ds2, G2, b2', hd2⟩ := G
      have r2 : Vals (.ref a :: (ws ++ dvs)) (.ref a :: (us ++ ds2)) := .cons rfl (rv.append hd2)
      have hl2 : ((Value.ref a :: us) ++ ds2).length = ps2.length := by
        rw [← G2.len _ _ _ _ q2]
        exact r2.length.symm
      refine wpAny_call (ks_codeAny_call_bound pq (codeAny_mono (G2.run X.A X.stack s3 H1 ⟨.ref a :: us, []⟩ (.ref a :: (us ++ ds2)) (.ref a :: (ws ++ dvs)) _ E hr I5.env0 (b2' s3 (.ref a :: us) I5.kIn hl2) r2 q2) fun r s' hq => ?_))
      cases r with
      | error er => exact hx pins σ H1 s3 er s' I5 hq
      | ok fl =>
        cases fl with
        | ret u =>
          obtain ⟨v, H', I6, _, q3⟩ := I5.after hq
          exact ⟨rfl, H', I6, q3⟩
        | next => exact False.elim hq
        | brk => exact False.elim hq
        | cont => exact False.elim hq
end Gp
end
section
set_option Elab.async false
set_option linter.all false
set_option maxRecDepth 100000
set_option maxHeartbeats 4000000
namespace Gp
open PySem PySem.Spec PyProof.Rows L2 Gh
theorem execs_app (env : PySem.Env) (rest : List Stmt) : ∀ pre : List Stmt, execs (pre ++ rest) env = (execs pre env >>= fun f => match f with
  | .next => execs rest env
  | f => pure f)
  | [] => by
    show execs rest env = (pure Flow.next >>= _)
    rw [pure_bind]
  | st :: pre => by
    show execs (st :: (pre ++ rest)) env = _
    rw [execs_cons, execs_cons, bind_assoc]
    congr 1
    funext f
    cases f with
    | next => exact execs_app env rest pre
    | _ => rw [pure_bind]
theorem wpAt_app {M : Model} {A : Around} {c : Code} {env : PySem.Env} {pre rest : List Stmt} {Q : Flow → Shared → Prop} {E : Value → Shared → Prop} {s : Shared}
    (h : wpAny M A (execs pre env) (fun f s' => match f with
      | .next => _root_.PySem.wpAt M A c (execs rest env) Q E s'
      | f => Q f s') E s) : _root_.PySem.wpAt M A c (execs (pre ++ rest) env) Q E s := by
  rw [execs_app]
  refine _root_.PySem.wpAt_bind (_root_.PySem.wpAt_of_wpAny (wpAny_mono h (fun f s' hf => ?_) fun _ _ z => z))
  cases f with
  | next => exact hf
  | _ => exact _root_.PySem.wpAt_of_wpAny (wpAny_pure hf)
structure SupF (K : PySem.W.Frag) (x qual : Str) (params : Arguments) (body : List Stmt) (scope : Scope) (dvs : List V) (f D : Addr) (file : Str) (fd : FuncData) : Prop where
  ex : ∃ (oc : Value) (od : Option Addr) (dV kV doc pm : Value) (an : Option Addr) (cda : Addr) (ct : Value) (osl : Array (Option Value)) (cc : Addr),
    fd = PySem.W.fnX x qual params body scope [("__class__", cc)] dV kV doc pm an (.ref cda) ct ∧ K.lookup f = some ⟨oc, od, .func fd, osl⟩ ∧ PySem.W.codeIn K (.ref cda) qual = true ∧ DflV K dV dvs ∧
    (∃ cl cld csl, K.lookup cc = some ⟨cl, cld, .cell (some (.ref D)), csl⟩) ∧ ∃ ccl cdd vs ccs tf, K.lookup cda = some ⟨ccl, cdd, .fields vs, ccs⟩ ∧ vs[2]? = some (.str file tf)
  kp : PySem.W.keepIn K (.ref f) = true
structure SupT (K : PySem.W.Frag) (mg : Str → Option Value) (D : Addr) : Prop where
  cD : ∃ cd, PySem.W.clsIn K D = some cd
  mg : mg "super" = none
  st : PySem.W.nsIn K cStatics "thirdparty.any" = some none
section
variable {P : Program} {w : World} {K : PySem.W.Frag} {mg : Str → Option Value} {base : Heap} {CX : CXT} {k : Nat} {x qual file m ar : Str} {params : Arguments} {body : List Stmt} {scope : Scope} {dvs : List V} {f D : Addr} {fd : FuncData} {N ps : List Str} {sp : Sp}
abbrev scx (CX : CXT) (P : Program) (w : World) (K : PySem.W.Frag) (mg : Str → Option Value) (base : Heap) (N : List Str) (x qual : Str) (params : Arguments) (body : List Stmt) (scope : Scope) (cc cda f : Addr) (A : Around) (outer : List PySem.Env) (s : Shared) (H : Hp) (E : XK) : Cx :=
  NdefX.ncx CX P w K mg base N ⟨x, qual, params, body, scope, [("__class__", cc)], cda⟩ f A outer s H E
theorem SupF.ok {pre post : List Stmt} {p0 p1 apos pos epos : Pos} {e : Expr} {es : List Expr} (eb : body = pre ++ .Expr (.Call (.Attribute (.Call (.Name "super" p0) [] [] p1) m apos) (e :: es) [] pos) epos :: post) (F : SupF K x qual params body scope dvs f D file fd) (T : SupT K mg D) (S : NdefX.NScope N ps ["__class__"] scope)
    (len : ∀ vs H Q E, sp vs H Q E → vs.length = ps.length) (hfile : ((P.main.file : Str) == file) = true) (htop : (P.main.scope.names.lookup ("super" : Str)).isSome = false) (hm : (m == ("__class__" : Str)) = false) (hks : scope.names.lookup ("super" : Str) = some .globalImplicit)
    (har : ((params.posonlyargs ++ params.args).head?).map (·.arg) = some ar) (hn0 : N[0]? = some ar) (hka : scope.names.lookup ar = some .local)
    (hbody : ∀ (cc cda : Addr) (A : Around) (outer : List PySem.Env) (s : Shared) (H : Hp) (vs : List V) (Q : VK) (E : XK), Room k (scx CX P w K mg base N x qual params body scope cc cda f A outer s H E).A → sp vs H Q E →
      ∃ t1 ta t2 CX2 k2 f2 dvs2 sp2 E2, PSs (scx CX P w K mg base N x qual params body scope cc cda f A outer s H E) pre t1 ∧
        PA (scx CX P w K mg base N x qual params body scope cc cda f A outer s H E) (e :: es) ta ∧
        PSs (scx CX P w K mg base N x qual params body scope cc cda f A outer s H E) post t2 ∧
        PromO P w K mg base CX2 k2 f2 dvs2 sp2 ∧ k2 ≤ k ∧ Passes CX2 (scx CX P w K mg base N x qual params body scope cc cda f A outer s H E) E2 ∧
        t1 { nx := fun σ1 H1 => ∃ a C dx fs, σ1[0]? = some (some (.ref a)) ∧ H1 a = some (.ins C dx fs) ∧ SupC K C D m f2 ∧ ta σ1 H1 fun us H2 => sp2 (.ref a :: (us ++ dvs2)) H2 (fun _ H3 => t2 { nx := fun _ H' => Q .non H', rt := Q } σ1 H3) E2, rt := Q } (L2.start N vs) H)
    (hst : ∀ env : PySem.Env, starEach (e :: es) env = (false, eval e env) :: starEach es env := by intro _; rfl) (hpl : ∀ env : PySem.Env, (backTo pos (starEach es env)).any (·.1) = false := by intro _; rfl)
    (pl : PySem.Env → Sem Bool)
    (he : ∀ env : PySem.Env, eval (.Call (.Attribute (.Call (.Name "super" p0) [] [] p1) m apos) (e :: es) [] pos) env = (do
      let ov ← attributeBase (.Call (.Name "super" p0) [] [] p1) m env (eval (.Call (.Name "super" p0) [] [] p1) env)
      standAt apos.atName
      let (f, first) ← holding [ov] (getMethod ov m (pl env))
      callWith pos f first (backTo pos (starEach (e :: es) env)) []))
    (hsw : ∀ env : PySem.Env, swapsWith (.Call (.Attribute (.Call (.Name "super" p0) [] [] p1) m apos) (e :: es) [] pos) none epos.line env = pure false := by intro _; rfl) :
    FnOk P w K mg base CX (k + 1) f fd ps sp := by
  obtain ⟨oc, od, dV, kV, doc, pm, an, cda, ct, osl, cc, rfl, lk, hcd, _, ⟨cl, cld, csl, lkl⟩, ccl, cdd, vsc, ccs, tf, lkc, hvs⟩ := F.ex
  refine ⟨len, fun A outer s H args us vs Q E hr e0 hb r hsp => ?_⟩
  have KX : K.In s.heap := e0.mod.kin.keeps fun b o e => (e0.bs b o e).1
  have lim : s.heap.NoLimit := e0.mod.nolimit.keeps fun b o e => (e0.bs b o e).1
  have hl := len _ _ _ _ hsp
  have hpl2 : ps.length + 1 ≤ N.length := by
    have q := congrArg List.length S.pre
    rw [List.length_take, List.length_append] at q
    have : (["__class__"] : List Str).length = 1 := rfl
    omega
  refine ks_codeAny_call_defAt hr.depth (KX _ _ lk) rfl lim (PySem.W.codeRec_of KX hcd) rfl hb S.nocell (fun ⟨n, _⟩ hy => S.par n (List.of_mem_zip hy).1) (fun h₁ hns kp => ?_) S.co S.gen S.kind
  obtain ⟨t1, ta, t2, CX2, k2, f2, dvs2, sp2, E2, h1, h2, h3, G, hk2, hx2, hq⟩ := hbody cc cda A outer s H vs Q E (hr.deeper _) hsp
  have C : NdefX.CellsAt [(("__class__" : Str), cc)] ["__class__"] [none] s.heap H := by
    have hc : s.heap.get? cc = some ⟨cl, cld, .cell (some (.ref D)), csl⟩ := KX _ _ lkl
    have hH : H cc = none := by
      have hb : base.get? cc = some ⟨cl, cld, .cell (some (.ref D)), csl⟩ := e0.mod.kin _ _ lkl
      exact (e0.bs _ _ hb).2
    have one : ∀ (y : Str) (c : Addr), ([(("__class__" : Str), cc)] : List (Str × Addr)).lookup y = some c → y = "__class__" ∧ c = cc := fun y c hy => by
      rcases look_cons hy with ⟨e1, e2⟩ | z
      · exact ⟨e1, e2⟩
      · cases z
    refine ⟨rfl, fun y c hy => ?_, fun x y c hx hy => (one x c hx).1.trans (one y c hy).1.symm, fun i y hy => ?_⟩
    · obtain ⟨_, rfl⟩ := one y c hy
      exact ⟨hH, _, _, hc, rfl⟩
    · have e2 : y = "__class__" := by
        cases i with
        | zero => cases hy; rfl
        | succ i => cases hy
      subst e2
      refine ⟨cc, rfl, fun v hv => ?_⟩
      cases i with
      | zero => cases hv
      | succ i => cases hv
  have I := NdefX.inv_startN (CX := CX) (P := P) (w := w) (K := K) (mg := mg) (base := base) (N := N) (F := ⟨x, qual, params, body, scope, [("__class__", cc)], cda⟩) (f := f) (E := E) (tk := s.toks + (ps.zip us).length) S hr.hd e0 hl r C hns kp
  have est : NdefX.startF N vs [none] = L2.start N vs := by
    unfold NdefX.startF L2.start
    congr 1
    rw [List.length_singleton, ← List.singleton_append]
    have : N.length - vs.length = (N.length - vs.length - 1) + 1 := by omega
    rw [this, List.replicate_succ]
    rfl
  rw [est] at I
  have SX : SupX (scx CX P w K mg base N x qual params body scope cc cda f A outer s H E) D f cda cc ar := by
    refine ⟨rfl, rfl, ?_, ⟨ccl, cdd, vsc, ccs, file, tf, lkc, hvs, hfile⟩, htop, hks, S.frk _ (List.mem_singleton.mpr rfl), rfl, ⟨cl, cld, csl, lkl⟩, T.cD, T.mg, T.st, hn0, hka⟩
    cases z : (params.posonlyargs ++ params.args).head? with
    | none => rw [z] at har; cases har
    | some a =>
      rw [z] at har
      exact ⟨_, _, _, _, a, lk, z, Option.some.inj har⟩
  have fin : ∀ {s' : Shared} {σ' : L2.St} {H' : Hp} {v : V} {u : Value}, Inv (scx CX P w K mg base N x qual params body scope cc cda f A outer s H E) [] σ' H' s' → L2.RelV v u → Q v H' → CE outer P w H s Q u s' :=
    fun {s' σ' H' v u} J rv q => ⟨v, H', J.os, J.bare, J.base, J.hok, rv, q⟩
  have eb2 : execs body (scx CX P w K mg base N x qual params body scope cc cda f A outer s H E).env = execs (pre ++ .Expr (.Call (.Attribute (.Call (.Name "super" p0) [] [] p1) m apos) (e :: es) [] pos) epos :: post) (scx CX P w K mg base N x qual params body scope cc cda f A outer s H E).env := by rw [← eb]
  show _root_.PySem.wpAt _ _ _ (execs body _) _ _ _
  refine eb2 ▸ wpAt_app (wpAny_mono (h1.run [] _ (L2.start N vs) H _ I hq) (fun fl s' hs => ?_) fun _ _ z => z)
  cases fl with
  | ret u =>
    obtain ⟨v, σ', H', J, rv, q⟩ := hs
    exact fin J rv q
  | brk =>
    obtain ⟨_, _, _, q⟩ := hs
    exact False.elim q
  | cont =>
    obtain ⟨_, _, _, q⟩ := hs
    exact False.elim q
  | next =>
    obtain ⟨σ', H', J, q⟩ := hs
    refine ks_wpAt_execs_cons (_root_.PySem.wpAt_mono (sup_run (pl := pl _) SX hm h2 G ((hr.deeper _).mono hk2) hx2 J q (hst _) (hpl _) (he _) (hsw _)) (fun fl2 s2 hq2 => ?_) fun _ _ z => z)
    obtain ⟨rfl, H2, J2, q2⟩ := hq2
    refine _root_.PySem.wpAt_of_wpAny (wpAny_mono (h3.run [] s2 σ' H2 _ J2 q2) (fun fl s' hs => ?_) fun _ _ z => z)
    cases fl with
    | ret u =>
      obtain ⟨v, σ', H', J, rv, q⟩ := hs
      exact fin J rv q
    | next =>
      obtain ⟨σ', H', J, q⟩ := hs
      exact fin (v := V.non) (u := Value.none) J rfl q
    | brk =>
      obtain ⟨_, _, _, q⟩ := hs
      exact False.elim q
    | cont =>
      obtain ⟨_, _, _, q⟩ := hs
      exact False.elim q
end
end Gp
end
section
set_option Elab.async false
set_option linter.all false
set_option maxRecDepth 100000
set_option maxHeartbeats 4000000
namespace Gp
open PySem PySem.Spec PyProof.Rows L2 Gh
structure Ds where
  d : Df
  own : PySem.W.Frag → Addr
def fnAtS (K : PySem.W.Frag) (a : Addr) : He.FnW := match K.lookup a with
  | some ⟨_, _, .func fd, _⟩ => some (fd.name, fd.qualname, fd.params, fd.body, fd.scope, fd.globals, fd.closure.map (fun q => (q.1, 0)), fd.builtins)
  | _ => none
def Ds.val (d : Ds) : He.FnW := some (d.d.name, d.d.qual, defArgs d.d.st, .stmts (defBody d.d.st), defScope d.d.st, mainGlobals, [("__class__", 0)], builtinsNs)
def fileB (K : PySem.W.Frag) (file : Str) : Value → Bool
  | .ref c => (match K.lookup c with
    | some ⟨_, _, Data.fields vs, _⟩ => (match (vs[2]? : Option Value) with
      | some (Value.str f _) => decide (f = file)
      | _ => false)
    | _ => false)
  | _ => false
def cellB (K : PySem.W.Frag) (B : Addr) : List (Str × Addr) → Bool
  | [(_, c)] => (match K.lookup c with
    | some ⟨_, _, .cell (some (.ref b)), _⟩ => decide (b = B)
    | _ => false)
  | _ => false
def Ds.ok (file : Str) (K : PySem.W.Frag) (d : Ds) : Bool := PySem.W.keepIn K (.ref (d.d.adr K)) && (match K.lookup (d.d.adr K) with
  | some ⟨_, _, .func fd, _⟩ => PySem.W.codeIn K fd.code d.d.qual && (He.dflB K fd.defaults (d.d.dvs K) && (fileB K file fd.code && cellB K (d.own K) fd.closure))
  | _ => false)
structure SaysS (ex : List (PySem.W.Frag → Bool)) (fn : List Df) (tf : List He.Defn) (fs : List Ds) (file : Str) (h : Heap) (K : PySem.W.Frag) : Prop where
  s : SaysT ex fn tf h K
  o : (fs.all fun d => d.ok file K) = true
  v : (fs.map fun d => fnAtS K (d.d.adr K)) = fs.map Ds.val
abbrev AlS : Type := AlT × Bool × List He.FnW
end Gp
end
section
set_option Elab.async false
set_option linter.all false
set_option maxRecDepth 100000
set_option maxHeartbeats 4000000
namespace Gp
open PySem PySem.Spec PyProof.Rows L2 Gh
section
variable {P : Program} {w : World} {K : PySem.W.Frag} {mg : Str → Option Value} {base : Heap} {CX : CXT} {k : Nat} {x qual file m ar : Str} {params : Arguments} {body : List Stmt} {scope : Scope} {dvs : List V} {f D : Addr} {fd : FuncData} {N ps : List Str} {sp : Sp}
theorem SupF.run {A : Around} {outer : List PySem.Env} {s : Shared} {H : Hp} {args : Args} {Q : VK} {E : XK} {G : List V → Hp → Prop} {pre post : List Stmt} {p0 p1 apos pos epos : Pos} {e : Expr} {es : List Expr} (eb : body = pre ++ .Expr (.Call (.Attribute (.Call (.Name "super" p0) [] [] p1) m apos) (e :: es) [] pos) epos :: post) (F : SupF K x qual params body scope dvs f D file fd) (T : SupT K mg D) (S : NdefX.NScope N ps ["__class__"] scope)
    (hr : Room (k + 1) A) (e0 : Env0 P w K mg base A outer s H) (hb : StX.Bnd CX P w K mg base fd args ps A outer s H E G) (hfile : ((P.main.file : Str) == file) = true) (htop : (P.main.scope.names.lookup ("super" : Str)).isSome = false) (hm : (m == ("__class__" : Str)) = false) (hks : scope.names.lookup ("super" : Str) = some .globalImplicit)
    (har : ((params.posonlyargs ++ params.args).head?).map (·.arg) = some ar) (hn0 : N[0]? = some ar) (hka : scope.names.lookup ar = some .local)
    (hbody : ∀ (cc cda : Addr) (s : Shared) (H : Hp) (vs : List V), Room k (scx CX P w K mg base N x qual params body scope cc cda f A outer s H E).A → G vs H →
      ∃ t1 ta t2 CX2 k2 f2 dvs2 sp2 E2, PSs (scx CX P w K mg base N x qual params body scope cc cda f A outer s H E) pre t1 ∧
        PA (scx CX P w K mg base N x qual params body scope cc cda f A outer s H E) (e :: es) ta ∧
        PSs (scx CX P w K mg base N x qual params body scope cc cda f A outer s H E) post t2 ∧
        PromO P w K mg base CX2 k2 f2 dvs2 sp2 ∧ k2 ≤ k ∧ Passes CX2 (scx CX P w K mg base N x qual params body scope cc cda f A outer s H E) E2 ∧
        t1 { nx := fun σ1 H1 => ∃ a C dx fs, σ1[0]? = some (some (.ref a)) ∧ H1 a = some (.ins C dx fs) ∧ SupC K C D m f2 ∧ ta σ1 H1 fun us H2 => sp2 (.ref a :: (us ++ dvs2)) H2 (fun _ H3 => t2 { nx := fun _ H' => Q .non H', rt := Q } σ1 H3) E2, rt := Q } (L2.start N vs) H)
    (hst : ∀ env : PySem.Env, starEach (e :: es) env = (false, eval e env) :: starEach es env := by intro _; rfl) (hpl : ∀ env : PySem.Env, (backTo pos (starEach es env)).any (·.1) = false := by intro _; rfl)
    (pl : PySem.Env → Sem Bool)
    (he : ∀ env : PySem.Env, eval (.Call (.Attribute (.Call (.Name "super" p0) [] [] p1) m apos) (e :: es) [] pos) env = (do
      let ov ← attributeBase (.Call (.Name "super" p0) [] [] p1) m env (eval (.Call (.Name "super" p0) [] [] p1) env)
      standAt apos.atName
      let (f, first) ← holding [ov] (getMethod ov m (pl env))
      callWith pos f first (backTo pos (starEach (e :: es) env)) []))
    (hsw : ∀ env : PySem.Env, swapsWith (.Call (.Attribute (.Call (.Name "super" p0) [] [] p1) m apos) (e :: es) [] pos) none epos.line env = pure false := by intro _; rfl) :
    codeAny (model P w) A (.call (.ref f) args) (CR CX outer P w H s Q E) s := by
  obtain ⟨oc, od, dV, kV, doc, pm, an, cda, ct, osl, cc, rfl, lk, hcd, _, ⟨cl, cld, csl, lkl⟩, ccl, cdd, vsc, ccs, tf, lkc, hvs⟩ := F.ex
  have KX0 : K.In s.heap := e0.mod.kin.keeps fun b o e => (e0.bs b o e).1
  refine codeAny_call_function hr.depth (KX0 _ _ lk) rfl S.co S.gen rfl (PySem.W.codeRec_of KX0 hcd) ?_
  refine hb _ _ _ fun s2 H2 vs us e2 un ho hxx r hl gg => ?_
  have KX : K.In s2.heap := e0.mod.kin.keeps fun b o e => (e2.bs b o e).1
  have lim : s2.heap.NoLimit := e0.mod.nolimit.keeps fun b o e => (e2.bs b o e).1
  have hpl2 : ps.length + 1 ≤ N.length := by
    have q := congrArg List.length S.pre
    rw [List.length_take, List.length_append] at q
    have : (["__class__"] : List Str).length = 1 := rfl
    omega
  refine wpAny_newFunctionEnv S.nocell (fun ⟨n, _⟩ hy => S.par n (List.of_mem_zip hy).1) (fun h₁ hns hsb => ⟨lim.fresh _ hsb, ks_codeAny_funcAt ?_⟩) S.kind
  have kp : ∀ b o, s2.heap.get? b = some o → h₁.get? b = some o := fun b o e => hsb.extBut b o (Nat.ne_of_lt (Heap.lt_size e)) (Heap.get?_push_of_some _ e)
  refine _root_.PySem.wpAt_mono (Q := fun fl s' => CR CX outer P w H s Q E (.ok (.ret (match fl with | .ret v => v | _ => .none))) s') (E := (scx CX P w K mg base N x qual params body scope cc cda f A outer s2 H2 E).xe) ?_ (fun _ _ z => z) (fun e s' hs => wpAny_mono hs (fun _ s'' z => hxx e s'' z) fun e' s'' z => hxx e' s'' z)
  obtain ⟨t1, ta, t2, CX2, k2, f2, dvs2, sp2, E2, h1, h2, h3, G, hk2, hx2, hq⟩ := hbody cc cda s2 H2 vs (hr.deeper _) gg
  have C : NdefX.CellsAt [(("__class__" : Str), cc)] ["__class__"] [none] s2.heap H2 := by
    have hc : s2.heap.get? cc = some ⟨cl, cld, .cell (some (.ref D)), csl⟩ := KX _ _ lkl
    have hH : H2 cc = none := by
      have hb : base.get? cc = some ⟨cl, cld, .cell (some (.ref D)), csl⟩ := e0.mod.kin _ _ lkl
      exact (e2.bs _ _ hb).2
    have one : ∀ (y : Str) (c : Addr), ([(("__class__" : Str), cc)] : List (Str × Addr)).lookup y = some c → y = "__class__" ∧ c = cc := fun y c hy => by
      rcases look_cons hy with ⟨e1, e2⟩ | z
      · exact ⟨e1, e2⟩
      · cases z
    refine ⟨rfl, fun y c hy => ?_, fun x y c hx hy => (one x c hx).1.trans (one y c hy).1.symm, fun i y hy => ?_⟩
    · obtain ⟨_, rfl⟩ := one y c hy
      exact ⟨hH, _, _, hc, rfl⟩
    · have e2 : y = "__class__" := by
        cases i with
        | zero => cases hy; rfl
        | succ i => cases hy
      subst e2
      refine ⟨cc, rfl, fun v hv => ?_⟩
      cases i with
      | zero => cases hv
      | succ i => cases hv
  have I := NdefX.inv_startN (CX := CX) (P := P) (w := w) (K := K) (mg := mg) (base := base) (N := N) (F := ⟨x, qual, params, body, scope, [("__class__", cc)], cda⟩) (f := f) (E := E) (tk := s2.toks + (ps.zip us).length) S hr.hd e2 hl r C hns kp
  have est : NdefX.startF N vs [none] = L2.start N vs := by
    unfold NdefX.startF L2.start
    congr 1
    rw [List.length_singleton, ← List.singleton_append]
    have : N.length - vs.length = (N.length - vs.length - 1) + 1 := by omega
    rw [this, List.replicate_succ]
    rfl
  rw [est] at I
  have SX : SupX (scx CX P w K mg base N x qual params body scope cc cda f A outer s2 H2 E) D f cda cc ar := by
    refine ⟨rfl, rfl, ?_, ⟨ccl, cdd, vsc, ccs, file, tf, lkc, hvs, hfile⟩, htop, hks, S.frk _ (List.mem_singleton.mpr rfl), rfl, ⟨cl, cld, csl, lkl⟩, T.cD, T.mg, T.st, hn0, hka⟩
    cases z : (params.posonlyargs ++ params.args).head? with
    | none => rw [z] at har; cases har
    | some a =>
      rw [z] at har
      exact ⟨_, _, _, _, a, lk, z, Option.some.inj har⟩
  have fin : ∀ {s' : Shared} {σ' : L2.St} {H' : Hp} {v : V} {u : Value}, Inv (scx CX P w K mg base N x qual params body scope cc cda f A outer s2 H2 E) [] σ' H' s' → L2.RelV v u → Q v H' → CE outer P w H s Q u s' :=
    fun {s' σ' H' v u} J rv q => ⟨v, H', J.os.trans ho, J.bare, un.trans J.base, J.hok, rv, q⟩
  have eb2 : execs body (scx CX P w K mg base N x qual params body scope cc cda f A outer s2 H2 E).env = execs (pre ++ .Expr (.Call (.Attribute (.Call (.Name "super" p0) [] [] p1) m apos) (e :: es) [] pos) epos :: post) (scx CX P w K mg base N x qual params body scope cc cda f A outer s2 H2 E).env := by rw [← eb]
  show _root_.PySem.wpAt _ _ _ (execs body _) _ _ _
  refine eb2 ▸ wpAt_app (wpAny_mono (h1.run [] _ (L2.start N vs) H2 _ I hq) (fun fl s' hs => ?_) fun _ _ z => z)
  cases fl with
  | ret u =>
    obtain ⟨v, σ', H', J, rv, q⟩ := hs
    exact fin J rv q
  | brk =>
    obtain ⟨_, _, _, q⟩ := hs
    exact False.elim q
  | cont =>
    obtain ⟨_, _, _, q⟩ := hs
    exact False.elim q
  | next =>
    obtain ⟨σ', H', J, q⟩ := hs
    refine ks_wpAt_execs_cons (_root_.PySem.wpAt_mono (sup_run (pl := pl _) SX hm h2 G ((hr.deeper _).mono hk2) hx2 J q (hst _) (hpl _) (he _) (hsw _)) (fun fl2 s3 hq2 => ?_) fun _ _ z => z)
    obtain ⟨rfl, H3, J2, q2⟩ := hq2
    refine _root_.PySem.wpAt_of_wpAny (wpAny_mono (h3.run [] s3 σ' H3 _ J2 q2) (fun fl s' hs => ?_) fun _ _ z => z)
    cases fl with
    | ret u =>
      obtain ⟨v, σ', H', J, rv, q⟩ := hs
      exact fin J rv q
    | next =>
      obtain ⟨σ', H', J, q⟩ := hs
      exact fin (v := V.non) (u := Value.none) J rfl q
    | brk =>
      obtain ⟨_, _, _, q⟩ := hs
      exact False.elim q
    | cont =>
      obtain ⟨_, _, _, q⟩ := hs
      exact False.elim q
end
section
variable {g : Gw} {Mt U0 U U' : Addr → Prop} {H0 H H' H1 H2 : Hp} {b b1 b2 : Nat} {σ : L2.St} {ε ε' : Env} {E : XK}
end
end Gp
end
section
set_option Elab.async false
set_option linter.all false
set_option maxRecDepth 100000
set_option maxHeartbeats 4000000
namespace Gp
open PySem PySem.Spec PyProof.Rows L2 Gh
def frL {α : Type} : List (Addr × Obj) → (List (Addr × Obj) → α) → α
  | [], k => k []
  | (a, o) :: r, k => frL r fun r' => k ((a, o) :: r')
theorem frL_eq {α : Type} : ∀ (l : List (Addr × Obj)) (k : List (Addr × Obj) → α), frL l k = k l
  | [], _ => rfl
  | (a, o) :: r, k => by
    show frL r (fun r' => k ((a, o) :: r')) = _
    rw [frL_eq r]
def obsK (ex : List (PySem.W.Frag → Bool)) (fn : List Df) (tf : List He.Defn) (fs : List Ds) (file : Str) (g : Addr → Option Obj) (K : PySem.W.Frag) : AlS :=
  ((obs ex fn K, He.tabsB g tf K), (fs.all fun d => d.ok file K), fs.map fun d => fnAtS K (d.d.adr K))
def obsL (as : List Addr) (ex : List (PySem.W.Frag → Bool)) (fn : List Df) (tf : List He.Defn) (fs : List Ds) (file : Str) (g : Addr → Option Obj) : AlS := frL (He.frT g as) fun K => obsK ex fn tf fs file g K
theorem saysL_of {as : List Addr} {ex : List (PySem.W.Frag → Bool)} {fn : List Df} {tf : List He.Defn} {h : Heap} (e1 : obs ex fn (He.frT h.get? as) = val fn) (e2 : He.tabsB h.get? tf (He.frT h.get? as) = true) : SaysT ex fn tf h (He.frT h.get? as) := by
  have key : ∀ p ∈ tf, PySem.W.codeHdIn (He.frT h.get? as) (He.cT (He.frT h.get? as) p).1 (He.cT (He.frT h.get? as) p).2 = true ∧ ∃ o, h.get? (He.cT (He.frT h.get? as) p).2 = some o ∧ He.emptyTab o = true := fun p hp => by
    obtain ⟨h3, h4⟩ := He.ba (List.all_eq_true.mp e2 p hp)
    refine ⟨h3, ?_⟩
    cases q : h.get? (He.cT (He.frT h.get? as) p).2 with
    | none =>
      rw [q] at h4
      cases h4
    | some o =>
      rw [q] at h4
      exact ⟨o, rfl, h4⟩
  exact ⟨e1, fun p hp => (key p hp).1, fun p hp => by
    obtain ⟨_, o, q, z⟩ := key p hp
    exact He.frT_none q z, fun p hp => by
    obtain ⟨_, o, q, z⟩ := key p hp
    rw [q, He.emptyTab_eq z]⟩
def hookL (as : List Addr) (ex : List (PySem.W.Frag → Bool)) (fn : List Df) (tf : List He.Defn) (fs : List Ds) (file : Str) : PySem.W.Hook where
  α := AlS
  obs := fun s => obsL as ex fn tf fs file s.heap.get?
  val := fun _ => ((Gh.val fn, true), true, fs.map Ds.val)
  says := fun _ h => ∃ K : PySem.W.Frag, K.In h ∧ SaysS ex fn tf fs file h K
  of := fun _ s e => by
    have e' : obsK ex fn tf fs file _ (He.frT _ as) = ((Gh.val fn, true), true, fs.map Ds.val) := (frL_eq _ _).symm.trans e
    exact ⟨_, He.frT_in, ⟨saysL_of (congrArg (fun z : AlS => z.1.1) e') (congrArg (fun z : AlS => z.1.2) e'), congrArg (fun z : AlS => z.2.1) e', congrArg (fun z : AlS => z.2.2) e'⟩⟩
  keeps := fun _ _ _ ⟨K, hK, c⟩ k => ⟨K, PySem.W.Frag.In.keeps hK k, ⟨⟨c.s.t, c.s.hd, c.s.out, fun p hp => k _ _ (c.s.empty p hp)⟩, c.o, c.v⟩⟩
end Gp
end
section
set_option Elab.async false
set_option linter.all false
set_option maxRecDepth 100000
set_option maxHeartbeats 4000000
namespace Gp
open PySem PySem.Spec PyProof.Rows L2 Gh
section
variable {g : Gw} {Mt U0 U U' : Addr → Prop} {H0 H H' H1 H2 : Hp} {b b1 : Nat} {σ : L2.St} {ε ε' : Env} {W L W' : Type} {yd : List D}
variable {env : W → Env} {envL : L → Env} {env' : W' → Env} {u ta tb : TGn} {te : TE} {me : Tr D}
def gflP (g : Gw) (Mt U0 : Addr → Prop) (H0 : Hp) (U : Addr → Prop) (H : Hp) (D : GEnds) (env : W → Env) (envL : L → Env) : List Gp.D × Fl W L → Nat → Prop
  | (zs, .nx w), b => ∀ U' σ' H' ys', Ev U H U' H' → Stt g Mt U0 H0 U' σ' H' b (env w) → DenL g U' H' ys' zs → D.nx ys' σ' H'
  | (_, .rt _), _ => False
  | (zs, .bk w), b => ∀ U' σ' H' ys', Ev U H U' H' → Stt g Mt U0 H0 U' σ' H' b (envL w) → DenL g U' H' ys' zs → D.bk ys' σ' H'
  | (zs, .ct w), b => ∀ U' σ' H' ys', Ev U H U' H' → Stt g Mt U0 H0 U' σ' H' b (envL w) → DenL g U' H' ys' zs → D.ct ys' σ' H'
theorem gflP.ev {U1 : Addr → Prop} {H1 : Hp} {D : GEnds} {env : W → Env} {envL : L → Env} (e : Ev U H U1 H1) : ∀ {f : List Gp.D × Fl W L}, gflP g Mt U0 H0 U H D env envL f b → gflP g Mt U0 H0 U1 H1 D env envL f b
  | (_, .nx w), h => fun U' σ' H' ys' e1 => h U' σ' H' ys' (e.trans e1)
  | (_, .rt d), h => h
  | (_, .bk w), h => fun U' σ' H' ys' e1 => h U' σ' H' ys' (e.trans e1)
  | (_, .ct w), h => fun U' σ' H' ys' e1 => h U' σ' H' ys' (e.trans e1)
end
section
variable {P : Program} {w : World} {K : PySem.W.Frag} {mg : Str → Option Value} {base : Heap}
end
end Gp
end
section
set_option Elab.async false
set_option linter.all false
set_option maxRecDepth 100000
set_option maxHeartbeats 4000000
namespace Gp
open PySem PySem.Spec PyProof.Rows L2 Gh
section
variable {g : Gw} {Mt U0 U U' : Addr → Prop} {H0 H H' H1 H2 : Hp} {b b1 : Nat} {σ : L2.St} {ε ε' : Env} {E : XK} {W L W' : Type}
variable {env : W → Env} {envL : L → Env} {env' : W' → Env} {u ta tb : TS} {te ti : TE} {me mi : Tr D}
structure Pnd (g : Gw) (Mt U0 : Addr → Prop) (H0 : Hp) (U : Addr → Prop) (σ : L2.St) (H : Hp) (ε : Env) (A : Addr) (ds : List D) : Prop where
  at_ : ∃ vs, H A = some (.lst vs) ∧ vs.length ≤ sizeLine ∧ DenL g U H vs ds
  u : U A
  np : A ≠ g.p
  nc : A ≠ g.c
  n0 : ¬ U0 A
  no : ∀ j, ¬ OwnAt σ ε j A
  mt : Mt A ∨ ∀ o, H0 A = some o → ∃ ps, o = .tbl ps
theorem Pnd.fr {A : Addr} {ds : List D} (uo : UOk g U H) (p : Pnd g Mt U0 H0 U σ H ε A ds) (f : Fr H H' g.p) : Pnd g Mt U0 H0 U σ H' ε A ds := by
  obtain ⟨⟨vs, hA, l, dn⟩, uA, hp, hc, n0, no, mt⟩ := p
  exact ⟨⟨vs, f _ _ hA hp (fun _ z => by cases z), l, dn.fr uo f⟩, uA, hp, hc, n0, no, mt⟩
theorem Pnd.set {A : Addr} {ds : List D} (p : Pnd g Mt U0 H0 U σ H ε A ds) (i : Nat) (v : V) (d : D) : Pnd g Mt U0 H0 U (σ.set i (some v)) H (ε.set i (.fz d)) A ds :=
  ⟨p.at_, p.u, p.np, p.nc, p.n0, fun j h => p.no j (ownAt_set h).2, p.mt⟩
inductive QR (g : Gw) (Mt U0 : Addr → Prop) (H0 : Hp) (U : Addr → Prop) (σ : L2.St) (H : Hp) (ε : Env) : Nat → List V → List D → Prop
  | here {A : Addr} {ds : List D} {vs : List V} {xs : List D} : Pnd g Mt U0 H0 U σ H ε A ds → DenL g U H vs xs → QR g Mt U0 H0 U σ H ε 0 (.ref A :: vs) (.lst ds :: xs)
  | next {n : Nat} {v : V} {d : D} {vs : List V} {ds : List D} : Den g U H v d → QR g Mt U0 H0 U σ H ε n vs ds → QR g Mt U0 H0 U σ H ε (n + 1) (v :: vs) (d :: ds)
theorem QR.length {n : Nat} : ∀ {vs : List V} {ds : List D}, QR g Mt U0 H0 U σ H ε n vs ds → vs.length = ds.length
  | _, _, .here _ k => congrArg (· + 1) k.length
  | _, _, .next _ r => congrArg (· + 1) r.length
end
end Gp
end
section
set_option Elab.async false
set_option linter.all false
set_option maxRecDepth 100000
set_option maxHeartbeats 4000000
namespace Gp
open PySem PySem.Spec PyProof.Rows L2 Gh
inductive ItH where
  | s (x : Str) | n (i : Int) | f (x : Str)
def ItH.d (fs : Fs) : ItH → Option D
  | .s x => if x.length ≤ sizeLine then some (.str x) else none
  | .n k => some (.int k)
  | .f x => fs.lookup x
section
variable {g : Gw} {U : Addr → Prop} {H H' : Hp} {b : Nat} {σ : L2.St} {ε : Env}
def Fz (ε : Env) : Prop := ∀ s ∈ ε, (∃ d, s = .fz d) ∨ s = .no
theorem Fz.set {j : Nat} {d : D} (h : Fz ε) : Fz (ε.set j (.fz d)) := fun s m => by
  rcases List.mem_or_eq_of_mem_set m with m | m
  · exact h s m
  · exact .inl ⟨_, m⟩
theorem Fz.own (h : Fz ε) : ∀ i a, ¬ OwnAt σ ε i a := fun i a ⟨_, z⟩ => by
  rcases z with ⟨x, z⟩ | ⟨x, y, z⟩
  · rcases h _ (List.mem_of_getElem? z) with ⟨d, e⟩ | e <;> cases e
  · rcases h _ (List.mem_of_getElem? z) with ⟨d, e⟩ | e <;> cases e
end
end Gp
end
section
set_option Elab.async false
set_option linter.all false
set_option maxRecDepth 100000
set_option maxHeartbeats 4000000
namespace Gz
open PySem
open Sem (wp)
def pois : GenState → GenState
  | .suspended _ l c p fs cl => .suspended (fun _ => .unsupported "") l c p fs cl
  | x => x
def IsSusp (x : GenState) : Prop := ∃ k l c p fs cl, x = .suspended k l c p fs cl
def Fixd (x : GenState) : Prop := IsSusp x ∨ x = .running
abbrev Map := Nat → Option GenState
def rest (ρ : Map) (G : Array GenState) : Array GenState := G.mapIdx fun i x => (ρ i).getD x
structure Held (ρ : Map) (G : Array GenState) : Prop where
  at_ : ∀ i x, ρ i = some x → Fixd x ∧ G[i]? = some (pois x)
  fr : ∀ i k l c p fs cl, ρ i = none → G[i]? = some (.suspended k l c p fs cl) → ∀ g kk ll cc pp, Frame.gen g kk ll cc pp ∈ fs → ρ g = none
def FsOk (ρ : Map) (fs : List Frame) : Prop := ∀ g kk ll cc pp, Frame.gen g kk ll cc pp ∈ fs → ρ g = none
theorem rest_size (ρ : Map) (G : Array GenState) : (rest ρ G).size = G.size := by unfold rest; exact Array.size_mapIdx
theorem rest_get (ρ : Map) (G : Array GenState) (i : Nat) : (rest ρ G)[i]? = (G[i]?).map fun x => (ρ i).getD x := by
  unfold rest
  exact Array.getElem?_mapIdx
theorem Held.lt {ρ : Map} {G : Array GenState} (h : Held ρ G) {i : Nat} {x : GenState} (e : ρ i = some x) : i < G.size := by
  obtain ⟨_, q⟩ := h.at_ i x e
  exact (Array.getElem?_eq_some_iff.mp q).1
theorem Held.push {ρ : Map} {G : Array GenState} (h : Held ρ G) (c : Code) : Held ρ (G.push (.fresh c)) ∧ rest ρ (G.push (.fresh c)) = (rest ρ G).push (.fresh c) := by
  have hn : ρ G.size = none := by
    cases e : ρ G.size with
    | none => rfl
    | some x => exact absurd (h.lt e) (Nat.lt_irrefl _)
  refine ⟨⟨fun i x e => ?_, fun i k l c' p fs cl e q => ?_⟩, ?_⟩
  · obtain ⟨a, b⟩ := h.at_ i x e
    refine ⟨a, ?_⟩
    rw [Array.getElem?_push, if_neg (Nat.ne_of_lt (h.lt e))]
    exact b
  · rw [Array.getElem?_push] at q
    split at q
    · cases q
    · exact h.fr i k l c' p fs cl e q
  · apply Array.ext_getElem?
    intro i
    rw [rest_get, Array.getElem?_push, Array.getElem?_push, rest_size]
    by_cases e : i = G.size
    · rw [if_pos e, if_pos e, e, hn]
      rfl
    · rw [if_neg e, if_neg e, rest_get]
theorem Held.set {ρ : Map} {G : Array GenState} (h : Held ρ G) {g : Nat} (hg : ρ g = none) {y : GenState} (hy : ∀ k l c p fs cl, y = .suspended k l c p fs cl → FsOk ρ fs) :
    Held ρ (G.setIfInBounds g y) ∧ rest ρ (G.setIfInBounds g y) = (rest ρ G).setIfInBounds g y := by
  refine ⟨⟨fun i x e => ?_, fun i k l c p fs cl e q => ?_⟩, ?_⟩
  · obtain ⟨a, b⟩ := h.at_ i x e
    refine ⟨a, ?_⟩
    rw [Array.getElem?_setIfInBounds_ne (fun z => by rw [z, e] at hg; cases hg)]
    exact b
  · by_cases z : g = i
    · subst z
      rw [Array.getElem?_setIfInBounds_self] at q
      split at q
      · exact hy _ _ _ _ _ _ (Option.some.inj q)
      · cases q
    · rw [Array.getElem?_setIfInBounds_ne z] at q
      exact h.fr i k l c p fs cl e q
  · apply Array.ext_getElem?
    intro i
    rw [rest_get]
    by_cases z : g = i
    · subst z
      rw [Array.getElem?_setIfInBounds_self, Array.getElem?_setIfInBounds_self, rest_size, hg]
      split <;> rfl
    · rw [Array.getElem?_setIfInBounds_ne z, Array.getElem?_setIfInBounds_ne z, rest_get]
abbrev up (ρ : Map) (s : Shared) : Shared := { s with gens := rest ρ s.gens }
theorem Held.run {ρ : Map} {G : Array GenState} (h : Held ρ G) {g : Nat} (e : G[g]? = some .running) : (rest ρ G)[g]? = some .running := by
  rw [rest_get, e]
  cases q : ρ g with
  | none => rfl
  | some y =>
    obtain ⟨hy, b⟩ := h.at_ g y q
    rw [e] at b
    rcases hy with ⟨k, l, c, p, fs, cl, rfl⟩ | rfl
    · cases b
    · rfl
def Sleep (s s1 : Shared) : Prop := ∀ (i : Nat) (x : GenState), Fixd x → s.gens[i]? = some x → s1.gens[i]? = some x
theorem Sleep.refl {s : Shared} : Sleep s s := fun _ _ _ h => h
theorem Sleep.trans {a b c : Shared} (h : Sleep a b) (k : Sleep b c) : Sleep a c := fun i x hx e => k i x hx (h i x hx e)
end Gz
end
section
set_option Elab.async false
set_option linter.all false
set_option maxRecDepth 100000
set_option maxHeartbeats 4000000
namespace Gz
open PySem PySem.Spec PyProof.Rows L2 GenW Gh
abbrev EndI (ι : Type) := Nat → ι → Result → Shared → Prop
abbrev ProI (ι : Type) := Nat → ι → Value → Shared → (Resume → ι → Shared → Prop) → Prop
section
variable {ι : Type} {M : Model} {A : Around} {R : EndI ι} {Y : ProI ι} {n : Nat} {i : ι} {c : Code} {fs : List Frame} {s : Shared}
def endI (R : EndI ι) (Y : ProI ι) (n : Nat) (go : ι → Code → Sem PySem.Fin → List Frame → Shared → Prop) (i : ι) : End → Shared → Prop
  | .ret r, s' => R n i r s'
  | .susp v g l k c p fs, s' => (End.susp v g l k c p fs).quiet = true ∧ Y (n - 1) i v s' fun r j s'' => go j c (k r) fs s''
def GSeg (M : Model) (A : Around) (R : EndI ι) (Y : ProI ι) : Nat → ι → Code → Sem PySem.Fin → List Frame → Shared → Prop
  | 0, i, c, t, fs, s => ∀ Γ p, Γ.code = c → Γ.Woken A → ∃ e s', Runs M Γ p t fs s e s' ∧ endI R Y 0 (fun _ _ _ _ _ => False) i e s'
  | n + 1, i, c, t, fs, s => ∀ Γ p, Γ.code = c → Γ.Woken A → ∃ e s', Runs M Γ p t fs s e s' ∧ endI R Y (n + 1) (GSeg M A R Y n) i e s'
section
variable {α β : Type} {m : Sem α} {H : Value → Sem PySem.Fin} {gd : Bool → Bool} {lv : List Value → List Value}
end
section
variable {env : PySem.Env} {K : Flow → Sem PySem.Fin} {H : Value → Sem PySem.Fin} {gd : Bool → Bool} {lv : List Value → List Value}
end
section
variable {prog : Program} {w : World} {env : PySem.Env}
end
def GGoes (M : Model) (A : Around) (R : EndI ι) (Y : ProI ι) (n : Nat) (i : ι) : GenState → Resume → Shared → Prop
  | .fresh c, r, s => r = .send .none ∧ GSeg M A R Y n i c (M.den c) [] s
  | .suspended k _ c _ fs _, r, s => GSeg M A R Y n i c (k r) fs s
  | _, _, _ => False
end
end Gz
end
section
set_option Elab.async false
set_option linter.all false
set_option maxRecDepth 100000
set_option maxHeartbeats 4000000
namespace Gz
open PySem PySem.Spec PyProof.Rows L2 GenW Gh
variable {X : Cx}
def cut (h : Heap) (n : Nat) : Heap := { h with objs := h.objs.extract 0 n }
abbrev cutS (s : Shared) (n : Nat) : Shared := { s with heap := cut s.heap n }
abbrev reb (X : Cx) (s0 : Shared) (H0 : Hp) : Cx := { X with s_0 := s0, H_0 := H0, xe := fun _ _ => False }
def RunS (s s1 : Shared) : Prop := ∀ i : Nat, s.gens[i]? = some .running → s1.gens[i]? = some .running
theorem RunS.refl {s : Shared} : RunS s s := fun _ h => h
theorem RunS.trans {a b c : Shared} (h : RunS a b) (k : RunS b c) : RunS a c := fun i e => k i (h i e)
structure Pro (T : Type) where
  hp : T → Hp
  src : T → Shared → Shared
  out : Nat → T → V → Hp → Prop
  lk : Nat → T → Hp → T → Prop
  fin : Nat → T → Hp → Prop
structure QE (T : Type) where
  nx : Nat → T → L2.St → Hp → Prop
  rt : Nat → T → V → Hp → Prop
  bk : Nat → T → L2.St → Hp → Prop := fun _ _ _ _ => False
  ct : Nat → T → L2.St → Hp → Prop := fun _ _ _ _ => False
def QE.at {T : Type} (D : QE T) (n : Nat) (γ : T) : Ends := { nx := D.nx n γ, rt := D.rt n γ, bk := D.bk n γ, ct := D.ct n γ }
structure QI {T : Type} (X : Cx) (g n0 : Nat) (P : Pro T) (ip : List (Addr × Obj)) (gp : List (Nat × GenState)) (γ : T) (s₀ : Shared) (σ : L2.St) (H : Hp) (s : Shared) : Prop where
  inv : Inv (reb X (cutS (P.src γ s₀) n0) (P.hp γ)) ip σ H s
  run : s.gens[g]? = some .running
  sz : n0 ≤ (P.src γ s₀).heap.objs.size
  ips : ∀ p ∈ ip, n0 ≤ p.1
  slp : RunS s₀ s
  gpn : ∀ q ∈ gp, IsSusp q.2 ∧ s.gens[q.1]? = some q.2
def QY {T : Type} (X : Cx) (g n0 : Nat) (P : Pro T) : ProI (T × Shared) := fun n i v s kap =>
  ∃ σ ip gp x H, QI X g n0 P ip gp i.1 i.2 σ H s ∧ RelV x v ∧ P.out n i.1 x H ∧
    ∀ s' γ', QI X g n0 P ip gp γ' s' σ (P.hp γ') s' → P.lk n i.1 H γ' → kap (.send .none) (γ', s') s'
def QR {T : Type} (X : Cx) (g n0 : Nat) (P : Pro T) (N : Nat) (Er : Value → Shared → Prop) : EndI (T × Shared) := fun n i r s1 =>
  ((r = .ok (.ret .none) ∨ r = .ok .next) ∧ ∃ σ ip gp H, QI X g n0 P ip gp i.1 i.2 σ H s1 ∧ P.fin n i.1 H) ∨ ∃ e, r = .error e ∧ (n = N ∧ Er e s1)
section
variable {T : Type} {Z : GpZ} {st : Stmt} {rest : List Stmt} {pos : Pos}
end
end Gz
end
section
set_option Elab.async false
set_option linter.all false
set_option maxRecDepth 100000
set_option maxHeartbeats 4000000
namespace Gz
open PySem PySem.Spec PyProof.Rows L2 GenW Gh
section
variable {X : Cx} {ip : List (Addr × Obj)} {σ : L2.St} {H : Hp} {s : Shared}
end
structure HxOk (n : Nat) (H H2 : Hp) : Prop where
  low : ∀ {b : Addr}, b < n → H2 b = H b
  ext : ∀ {b : Addr} {o : HO}, H b = some o → H2 b = some o
  tup : ∀ {b : Addr} {xs : List V}, H2 b = some (.tup xs) → H b = some (.tup xs)
  frz : ∀ {b : Addr} {od : Obj} {u : HO}, H2 b = some (.frz od u) → H b = some (.frz od u)
  tbl : ∀ {b : Addr} {ps : Array Value}, H2 b = some (.tbl ps) → H b = some (.tbl ps)
theorem HxOk.sub {n : Nat} {H H2 : Hp} (h : HxOk n H H2) {b : Addr} (e : H2 b = none) : H b = none := by
  cases q : H b with
  | none => rfl
  | some o =>
    rw [h.ext q] at e
    cases e
theorem HxOk.mono {n m : Nat} {H H2 : Hp} (h : HxOk n H H2) (l : m ≤ n) : HxOk m H H2 := ⟨fun q => h.low (Nat.lt_of_lt_of_le q l), h.ext, h.tup, h.frz, h.tbl⟩
theorem HxOk.same {n : Nat} {H H2 : Hp} (h : H2 = H) : HxOk n H H2 := by
  subst h
  exact ⟨fun _ => rfl, fun e => e, fun e => e, fun e => e, fun e => e⟩
theorem HxOk.trans {n : Nat} {H H2 H3 : Hp} (h : HxOk n H H2) (k : HxOk n H2 H3) : HxOk n H H3 :=
  ⟨fun q => (k.low q).trans (h.low q), fun e => k.ext (h.ext e), fun e => h.tup (k.tup e), fun e => h.frz (k.frz e), fun e => h.tbl (k.tbl e)⟩
theorem HxOk.one {n : Nat} {H H2 : Hp} (z : ∃ S o, n ≤ S ∧ H S = none ∧ (∀ xs, o ≠ .tup xs) ∧ (∀ od u, o ≠ .frz od u) ∧ (∀ ps, o ≠ .tbl ps) ∧ H2 = upd H S o) : HxOk n H H2 := by
  obtain ⟨S, o, h0, h1, h2, h3, h4, rfl⟩ := z
  refine ⟨fun l => ?_, fun e => ?_, fun {b xs} e => ?_, fun {b od u} e => ?_, fun {b ps} e => ?_⟩
  · rw [upd_ne (Nat.ne_of_lt (Nat.lt_of_lt_of_le l h0))]
  · rw [upd_ne (ne_of_none e h1)]; exact e
  · by_cases q : b = S
    · rw [q, upd_same] at e; cases e; exact absurd rfl (h2 _)
    · rwa [upd_ne q] at e
  · by_cases q : b = S
    · rw [q, upd_same] at e; cases e; exact absurd rfl (h3 _ _)
    · rwa [upd_ne q] at e
  · by_cases q : b = S
    · rw [q, upd_same] at e; cases e; exact absurd rfl (h4 _)
    · rwa [upd_ne q] at e
section
variable {T : Type} {X : Cx} {st : Stmt} {rest : List Stmt}
end
structure GX (X : Cx) (P : Program) (w : World) (base : Heap) (outer : List Env) (a : Addr) (g n0 : Nat) : Prop where
  prog : X.prog = P
  w : X.w = w
  base : X.base = base
  outer : X.outer = outer
  ex : X.ex = []
  cel : ∀ x c, X.env.cells.lookup x = some c → False
  gen : ∀ h : Heap, (∀ p ∈ X.pn, h.get? p.1 = some p.2) → h.IsGen a g
  loc : n0 ≤ X.env.locals
  pns : ∀ p ∈ X.pn, n0 ≤ p.1
end Gz
end
section
set_option Elab.async false
set_option linter.all false
set_option maxRecDepth 100000
set_option maxHeartbeats 4000000
namespace Gz
open PySem PySem.Spec PyProof.Rows L2 GenW Gh
def wrapP {T : Type} (P : Pro T) : Pro (T × Option Shared) := { hp := fun γ => P.hp γ.1, src := fun γ s => γ.2.getD s, out := fun n γ => P.out n γ.1, lk := fun n γ H γ' => P.lk n γ.1 H γ'.1, fin := fun n γ => P.fin n γ.1 }
section
variable {Xc X : Cx} {pins ip : List (Addr × Obj)} {σc σ : L2.St} {h1 h2 H1 : Hp} {s s' : Shared} {n0 : Nat}
end
structure SameC (X Y : Cx) : Prop where
  prog : Y.prog = X.prog
  w : Y.w = X.w
  base : Y.base = X.base
  stack : Y.stack = X.stack
theorem SameC.refl {X : Cx} : SameC X X := ⟨rfl, rfl, rfl, rfl⟩
structure Older (X XG : Cx) (pins : List (Addr × Obj)) (a : Addr) (g ns : Nat) : Prop where
  gx : GX XG X.prog X.w X.base X.stack a g ns
  s0 : X.s_0.heap.objs.size ≤ ns
  lo : X.env.locals < ns
  cl : ∀ x c, X.env.cells.lookup x = some c → c < ns
  pl : ∀ p ∈ X.pn ++ pins, p.1 < ns
  fs : ∀ b ∈ X.fs, b < ns
theorem Older.of {X XG : Cx} {pins : List (Addr × Obj)} {a : Addr} {g : Nat} {σ : L2.St} {H : Hp} {sc : Shared} (gx : GX XG X.prog X.w X.base X.stack a g sc.heap.objs.size) (I1 : Inv X pins σ H sc) : Older X XG pins a g sc.heap.objs.size :=
  ⟨gx, I1.sz, I1.lt, fun x c e => by
    obtain ⟨v, o, q, _⟩ := I1.cell x c e
    exact Heap.lt_size q, fun p hp => Heap.lt_size (I1.pin p hp).1, fun b hb => by
    obtain ⟨_, o, e, _⟩ := I1.ok.funs.mem hb
    exact Nat.lt_of_lt_of_le (Heap.lt_size e) I1.sz⟩
def Fst {T : Type} (X : Cx) (pins : List (Addr × Obj)) (P : Pro T) (ns : Nat) (γ : T × Option Shared) (σ : L2.St) : Prop :=
  ∀ s', γ.2 = some s' → s'.heap.objs.size = ns ∧ ∃ H1, Inv X pins σ H1 s' ∧ HxOk ns H1 (P.hp γ.1)
def Pulled {T : Type} (M : Model) (P : Pro T) (XG : Cx) (ns : Nat) (a : Addr) (g : Nat) (A : Around) (ER : Value → Shared → Prop) (N n : Nat) (γ : T × Option Shared) (s : Shared) : Prop :=
  s.heap.IsGen a g ∧ ∃ gs, s.gens[g]? = some gs ∧ GGoes M A.in1 (QR XG g ns (wrapP P) (N + 1) ER) (QY XG g ns (wrapP P)) (n + 1) (γ, s.setGen g .running) gs (.send .none) (s.setGen g .running)
section
variable {T : Type} {X XG : Cx} {pins : List (Addr × Obj)} {P : Pro T} {s s4 : Shared} {a : Addr} {g ns N n : Nat} {A : Around} {ER : Value → Shared → Prop} {σ σg : L2.St} {H4 : Hp} {γ : T × Option Shared} {ip : List (Addr × Obj)} {gp : List (Nat × GenState)} {gs' : GenState}
end
def PullS {T : Type} (X : Cx) (pins : List (Addr × Obj)) (P : Pro T) (I : Nat → T → L2.St → Prop) (sc : Shared) (XG : Cx) (a : Addr) (g : Nat) (A : Around) (H1 : Hp) (E : XK) (N n : Nat) (s : Shared) : Prop :=
  ∃ γ : T × Option Shared, ∃ σ, I n γ.1 σ ∧ Inv X pins σ (P.hp γ.1) s ∧ Fst X pins P sc.heap.objs.size γ σ ∧ Pulled (model X.prog X.w) P XG sc.heap.objs.size a g A (fun e s1 => CX X.prog X.w X.stack H1 sc E e s1 ∧ s1.heap.IsGen a g) N n γ s
section
variable {T : Type} {X XG : Cx} {pins : List (Addr × Obj)} {P : Pro T} {I : Nat → T → L2.St → Prop} {sc s : Shared} {a : Addr} {g N n : Nat} {A : Around} {H1 : Hp} {E : XK} {σ1 : L2.St}
theorem PullS.inv (h : PullS X pins P I sc XG a g A H1 E N n s) : ∃ γ σ, I n γ σ ∧ Inv X pins σ (P.hp γ) s := by
  obtain ⟨γ, σ, h1, h2, _⟩ := h
  exact ⟨γ.1, σ, h1, h2⟩
theorem PullS.gen (h : PullS X pins P I sc XG a g A H1 E N n s) : s.heap.IsGen a g := by
  obtain ⟨γ, _, _, _, _, h, _⟩ := h
  exact h
end
section
variable {X : Cx} {tg iter : Expr} {body : List Stmt} {tq : TQG} {gt : TG} {tb : TS} {pos : Pos} {k : Nat} {E : XK}
end
end Gz
end
section
set_option Elab.async false
set_option linter.all false
set_option maxRecDepth 100000
set_option maxHeartbeats 4000000
namespace Gp
open PySem PySem.Spec PyProof.Rows L2 Gh Gz
section
variable {W W' L : Type}
end
structure PY (g : Gw) (all : List D) (N : Nat) {T : Type} (P : Pro T) where
  U : T → Addr → Prop
  B : T → Nat
  ok : Prop
  out : ∀ n γ x H1 d, n + 1 ≤ N → all[N - (n + 1)]? = some d → Den g (U γ) H1 x d → Wd g H1 (B γ) → Fr (P.hp γ) H1 g.p → P.out n γ x H1
  lk : ∀ n γ H1 γ', P.lk n γ H1 γ' → 0 < n ∧ Ev (U γ) H1 (U γ') (P.hp γ') ∧ UOk g (U γ') (P.hp γ') ∧ Wd g (P.hp γ') (B γ')
  fin : ∀ n γ H1, ok → n + all.length = N → Wd g H1 (B γ) → Fr (P.hp γ) H1 g.p → P.fin n γ H1
abbrev NoM : Addr → Prop := fun _ => False
section
variable {g : Gw} {T : Type} {P : Pro T} {all : List D} {N : Nat} {W W' L : Type}
def gqP (Y : PY g all N P) (D : QE T) (env : W → Env) (envL : L → Env) (n : Nat) (U : Addr → Prop) (H : Hp) : Fl W L → Prop
  | .nx w => ∀ γ' U' σ' H', Ev U H U' H' → Stt g NoM (Y.U γ') (P.hp γ') U' σ' H' (Y.B γ') (env w) → D.nx n γ' σ' H'
  | .rt _ => False
  | .bk w => ∀ γ' U' σ' H', Ev U H U' H' → Stt g NoM (Y.U γ') (P.hp γ') U' σ' H' (Y.B γ') (envL w) → D.bk n γ' σ' H'
  | .ct w => ∀ γ' U' σ' H', Ev U H U' H' → Stt g NoM (Y.U γ') (P.hp γ') U' σ' H' (Y.B γ') (envL w) → D.ct n γ' σ' H'
theorem gqP.ev {Y : PY g all N P} {D : QE T} {env : W → Env} {envL : L → Env} {n : Nat} {U U1 : Addr → Prop} {H H1 : Hp} (e : Ev U H U1 H1) : ∀ {f : Fl W L}, gqP Y D env envL n U H f → gqP Y D env envL n U1 H1 f
  | .nx w, h => fun γ' U' σ' H' e1 => h γ' U' σ' H' (e.trans e1)
  | .rt _, h => h
  | .bk w, h => fun γ' U' σ' H' e1 => h γ' U' σ' H' (e.trans e1)
  | .ct w, h => fun γ' U' σ' H' e1 => h γ' U' σ' H' (e.trans e1)
end
theorem Ev.sup {U U1 U' : Addr → Prop} {H H' : Hp} (h : Ev U H U' H') (s : ∀ a, U a → U1 a) : Ev U1 H U' H' := ⟨fun a o e n t => h.keep a o e (fun z => n (s a z)) t, fun a o e n t => h.out a o e (fun z => n (s a z)) t⟩
section
variable {g : Gw} {W W' L : Type} {ε : Env} {env : W → Env} {envL : L → Env} {env' : W' → Env} {u ta tb : TQA} {te : TE} {me : Tr D}
end
end Gp
end
section
set_option Elab.async false
set_option linter.all false
set_option maxRecDepth 100000
set_option maxHeartbeats 4000000
namespace Gp
open PySem PySem.Spec PyProof.Rows L2 Gh
inductive BX where
  | lit (b : Bool) | own (x : Str) | ty (x : String) | and (p q : BX)
def BX.v : BX → Bool
  | .lit b => b
  | .own _ => true
  | .ty _ => true
  | .and p q => p.v && q.v
def BX.free : BX → Bool
  | .lit _ => true
  | .own _ => false
  | .ty _ => false
  | .and p q => p.free && q.free
section
variable {g : Gw} {U : Addr → Prop} {H H' : Hp} {b : Nat} {σ : L2.St} {ε : Env}
end
end Gp
end
section
set_option Elab.async false
set_option linter.all false
set_option maxRecDepth 100000
set_option maxHeartbeats 4000000
namespace Gp
open PySem PySem.Spec PyProof.Rows L2 Gh
section
variable {X : Cx} {pins : List (Addr × Obj)} {σ : L2.St} {H : Hp} {s : Shared} {g : Gw} {U : Addr → Prop}
end
def sysB (K : PySem.W.Frag) : Bool := (K.lookup sysModules).isSome
section
variable {X : Cx} {K : PySem.W.Frag}
end
section
variable {g : Gw} {E : XK}
end
end Gp
end
section
set_option Elab.async false
set_option linter.all false
set_option maxRecDepth 100000
set_option maxHeartbeats 4000000
namespace Gp
open PySem PySem.Spec PyProof.Rows L2 Gh
inductive IX where
  | s (x : Str) | n (i : Int) | f (cn x : Str)
def IX.d (cl : Str) (fs : Fs) : IX → Option D
  | .s x => if x.length ≤ sizeLine then some (.str x) else none
  | .n k => some (.int k)
  | .f cn x => if (cl == cn) = true then fs.lookup x else none
def ixDs (cl : Str) (fs : Fs) : List IX → Option (List D)
  | [] => some []
  | x :: r => match x.d cl fs, ixDs cl fs r with
    | some d, some ds => some (d :: ds)
    | _, _ => none
inductive TX where
  | own (x : Str) | not (p : TX) | and (p q : TX)
def TX.v (ki : Str → Str → Option Bool) (cl : Str) : TX → Option Bool
  | .own x => ki cl x
  | .not p => (p.v ki cl).map (!·)
  | .and p q => match p.v ki cl with
    | none => none
    | some false => some false
    | some true => q.v ki cl
inductive VX where
  | one (x : IX) | lst (l : List IX)
def VX.d (cl : Str) (fs : Fs) : VX → Option D
  | .one x => x.d cl fs
  | .lst l => match ixDs cl fs l with
    | some ds => if ds.length ≤ sizeLine then some (.lst ds) else none
    | none => none
inductive S1X where
  | set (v : VX) | sel (t : TX) (v u : VX)
def S1X.d (ki : Str → Str → Option Bool) (cl : Str) (fs : Fs) : S1X → Option D
  | .set v => v.d cl fs
  | .sel t v u => match t.v ki cl with
    | none => none
    | some true => v.d cl fs
    | some false => u.d cl fs
section
variable {g : Gw} {U : Addr → Prop} {H : Hp} {b : Nat} {σ : L2.St}
variable {a dd : Addr} {cl : Str} {i j n : Nat} {fvs : List (Str × V)} {fs : Fs} {ki : Str → Str → Option Bool}
end
end Gp
end
section
set_option Elab.async false
set_option linter.all false
set_option maxRecDepth 100000
set_option maxHeartbeats 4000000
namespace Gp
open PySem PySem.Spec PyProof.Rows L2 Gh
section
variable {g : Gw} {Mt U0 U U' : Addr → Prop} {H0 H H' H1 H2 : Hp} {b b1 b2 : Nat} {σ : L2.St} {ε ε' : Env} {E : XK} {W L W' : Type}
variable {env : W → Env} {envL : L → Env} {env' : W' → Env} {u ta tb : TS} {te : TE} {me : Tr D}
def frP (g : Gw) (U : Addr → Prop) (H : Hp) (c : Str) (Q : VK) : Fs → Nat → Prop := fun fs b' => ∀ x dx fvs H', (∀ o, H x = some o → ∃ ps, o = .tbl ps) → H' x = some (.ins (gd c g.K) dx fvs) → DenF g (fun a => U a ∨ a = x) H' fvs fs → Wd g H' b' → Fr H H' g.p → Q (.ref x) H'
theorem fresh_back {g : Gw} {H H' : Hp} {b : Nat} (w : Wd g H' b) (f : Fr H H' g.p) {x : Addr} (n : ∀ o, H' x = some o → ∃ ps, o = .tbl ps) : ∀ o, H x = some o → ∃ ps, o = .tbl ps := fun o e => by
  by_cases t : ∃ ps, o = .tbl ps
  · exact t
  · by_cases hp : x = g.p
    · subst hp
      obtain ⟨ns, i, z, h, _⟩ := w.pen
      obtain ⟨ps, q⟩ := n _ h
      cases q
    · exact n o (f x o e hp fun ps z => t ⟨ps, z⟩)
theorem frP.fr {c : Str} {Q : VK} {fs : Fs} (w : Wd g H1 b1) (f : Fr H H1 g.p) (h : frP g U H c Q fs b) : frP g U H1 c Q fs b := fun x dx fvs H' n hx df w' f' => h x dx fvs H' (fresh_back w f n) hx df w' (f.trans f')
end
end Gp
end
section
set_option Elab.async false
set_option linter.all false
set_option maxRecDepth 100000
set_option maxHeartbeats 4000000
namespace Gp
open PySem PySem.Spec PyProof.Rows L2 Gh
section
variable {g : Gw} {Mt U0 U U' : Addr → Prop} {H0 H H' H1 H2 : Hp} {b b1 b2 : Nat} {σ : L2.St} {ε ε' : Env} {E : XK} {W L W' : Type}
variable {env : W → Env} {envL : L → Env} {env' : W' → Env} {u ta tb : TS} {te : TE} {me : Tr D}
def KeepJ (js : List Nat) (σ σ' : L2.St) : Prop := ∀ j ∈ js, σ'[j]? = σ[j]?
def flJ (js : List Nat) (σ0 : L2.St) (g : Gw) (Mt U0 : Addr → Prop) (H0 : Hp) (U : Addr → Prop) (H : Hp) (D : Ends) (env : W → Env) (envL : L → Env) : Fl W L → Nat → Prop
  | .nx w, b => ∀ U' σ' H', Ev U H U' H' → Stt g Mt U0 H0 U' σ' H' b (env w) → KeepJ js σ0 σ' → D.nx σ' H'
  | .rt d, b => ∀ v H, Den g U0 H v d → Wd g H b → FrM g Mt H0 H → D.rt v H
  | .bk w, b => ∀ U' σ' H', Ev U H U' H' → Stt g Mt U0 H0 U' σ' H' b (envL w) → KeepJ js σ0 σ' → D.bk σ' H'
  | .ct w, b => ∀ U' σ' H', Ev U H U' H' → Stt g Mt U0 H0 U' σ' H' b (envL w) → KeepJ js σ0 σ' → D.ct σ' H'
theorem flJ.ev {js : List Nat} {σ0 : L2.St} {U1 : Addr → Prop} {H1 : Hp} {D : Ends} {env : W → Env} {envL : L → Env} (e : Ev U H U1 H1) : ∀ {f : Fl W L}, flJ js σ0 g Mt U0 H0 U H D env envL f b → flJ js σ0 g Mt U0 H0 U1 H1 D env envL f b
  | .nx w, h => fun U' σ' H' e1 => h U' σ' H' (e.trans e1)
  | .rt d, h => h
  | .bk w, h => fun U' σ' H' e1 => h U' σ' H' (e.trans e1)
  | .ct w, h => fun U' σ' H' e1 => h U' σ' H' (e.trans e1)
end
end Gp
end
section
set_option Elab.async false
set_option linter.all false
set_option maxRecDepth 100000
set_option maxHeartbeats 4000000
namespace Gp
open PySem PySem.Spec PyProof.Rows L2 Gh
section
variable {X : Cx}
end
section
variable {κ : Type} [DecidableEq κ] {α : Type}
end
section
variable {κ : Type} [DecidableEq κ] {g : Gw} {U : Addr → Prop} {H : Hp}
end
section
variable {g : Gw} {Mt U0 U U' : Addr → Prop} {H0 H H' H1 H2 : Hp} {b b1 : Nat} {σ : L2.St} {ε ε' : Env} {E : XK} {W L W' : Type}
variable {env : W → Env} {envL : L → Env} {env' : W' → Env} {u ta tb : TS} {te td ty tv : TE} {me : Tr D}
theorem OwR.code {o : HO} {x : Ow} (h : OwR g U H o x) (c q) : LamX.CodeO c q ≠ o := fun e => by
  unfold LamX.CodeO at e
  rcases h.no with ⟨vs, z⟩ | ⟨vs, z⟩ | ⟨vs, z⟩ <;> (rw [z] at e; cases e)
end
end Gp
end
section
set_option Elab.async false
set_option linter.all false
set_option maxRecDepth 100000
set_option maxHeartbeats 4000000
namespace Gp
open PySem PySem.Spec PyProof.Rows L2 Gh
structure Lo (g : Gw) (Mt U0 : Addr → Prop) (H0 : Hp) (U : Addr → Prop) (σ : L2.St) (ε : Env) (l : Addr) : Prop where
  u : U l
  p : l ≠ g.p
  c : l ≠ g.c
  ow : ∀ j, ¬ OwnAt σ ε j l
  h0 : Mt l ∨ ∀ o, H0 l = some o → ∃ ps, o = .tbl ps
  u0 : ¬ U0 l
section
variable {g : Gw} {Mt U0 U U' : Addr → Prop} {H0 H H' H1 H2 : Hp} {b b1 : Nat} {σ : L2.St} {ε ε' : Env} {E : XK} {W L W' : Type}
variable {env : W → Env} {envL : L → Env} {env' : W' → Env} {u ta tb : TS} {te : TE} {me : Tr D}
theorem own_there (s : Stt g Mt U0 H0 U σ H b ε) {j : Nat} {a : Addr} (h : OwnAt σ ε j a) : ∃ o, H a = some o := by
  obtain ⟨h1, ⟨ds, h2⟩ | ⟨c, fs, h2⟩⟩ := h
  · obtain ⟨o, e, a', vs, e2, h, _⟩ := s.rel.at_ j _ h2
    rw [h1] at e
    cases e
    cases e2
    exact ⟨_, h⟩
  · obtain ⟨o, e, a', dx, fvs, e2, h, _⟩ := s.rel.at_ j _ h2
    rw [h1] at e
    cases e
    cases e2
    exact ⟨_, h⟩
theorem lo_new {A : Addr} {vs : List V} (s : Stt g Mt U0 H0 U σ H b ε) (n : H A = none) :
    Stt g Mt U0 H0 (fun a => U a ∨ a = A) σ (upd H A (.lst vs)) b ε ∧ Lo g Mt U0 H0 (fun a => U a ∨ a = A) σ ε A ∧ Ev U H (fun a => U a ∨ a = A) (upd H A (.lst vs)) := by
  have sm := same_new (o := .lst vs) n
  have nU : ¬ U A := s.uok.new n
  have hp : A ≠ g.p := fun z => nU (z ▸ s.uok.p)
  have hc : A ≠ g.c := fun z => nU (z ▸ s.uok.c)
  have r1 : Rel g (fun a => U a ∨ a = A) (upd H A (.lst vs)) σ ε := (s.rel.grow n).frp (.inl s.uok.p) (fr_same sm)
  refine ⟨⟨r1, s.wd.same sm, ⟨.inl s.uok.p, .inl s.uok.c, fun a ha => ?_⟩, fun a z => .inl (s.sub a z), s.own, s.ext.trans (fr_same sm), s.nu0, s.oim⟩, ⟨.inr rfl, hp, hc, fun j h => ?_, ?_, fun h => nU (s.sub _ h)⟩, fun a o e _ _ => sm a o e, fun a o e n1 _ => ?_⟩
  · rcases ha with ha | rfl
    · obtain ⟨o, e, t⟩ := s.uok.al a ha
      exact ⟨o, sm a o e, t⟩
    · exact ⟨_, upd_same, (fun _ z => by cases z), (fun _ z => by cases z)⟩
  · obtain ⟨o, e⟩ := own_there s h
    rw [n] at e
    cases e
  · by_cases m : Mt A
    · exact .inl m
    · refine .inr fun o q => ?_
      by_cases t : ∃ ps, o = .tbl ps
      · exact t
      · have := s.ext A o q hp m (fun ps z => t ⟨ps, z⟩)
        rw [n] at this
        cases this
  · rintro (z | z)
    · exact n1 z
    · exact ne_of_none e n z
theorem lo_mut {l : Addr} {vs : List V} (s : Stt g Mt U0 H0 U σ H b ε) (lo : Lo g Mt U0 H0 U σ ε l) (h : H l = some (.lst vs)) (vs' : List V) :
    Stt g Mt U0 H0 U σ (upd H l (.lst vs')) b ε ∧ Ev U H U (upd H l (.lst vs')) := by
  have kp : Keep H (upd H l (.lst vs')) l := fun x o e ne => by rw [upd_ne ne]; exact e
  have xt : ExtU U H (upd H l (.lst vs')) := fun x o e ne _ => kp x o e (fun z => ne (z ▸ lo.u))
  have apart : ∀ j x, OwnAt σ ε j x → x ≠ l := fun j x z e => by
    subst e
    exact lo.ow j z
  refine ⟨⟨⟨s.rel.len, fun j x e => ?_, s.rel.apart⟩, ⟨s.wd.pen.keep kp lo.p lo.c, tabs_keepL kp h s.wd.tabs⟩, ⟨s.uok.p, s.uok.c, fun x hx => ?_⟩, s.sub, s.own, fun x o e m1 m2 m3 => ?_, s.nu0, s.oim⟩, xt, fun _ _ _ n _ => n⟩
  · obtain ⟨o, e1, e2⟩ := s.rel.at_ j x e
    refine ⟨o, e1, ?_⟩
    cases x with
    | no => trivial
    | fz d =>
      obtain ⟨v, e3, e4⟩ := e2
      exact ⟨v, e3, e4.ext xt⟩
    | ow ds2 =>
      obtain ⟨a2, v2, rfl, h2, d2, u2, m1, m2⟩ := e2
      have ne := apart j a2 ⟨e1, .inl ⟨ds2, e⟩⟩
      exact ⟨a2, v2, rfl, kp _ _ h2 ne, d2.map (fun q => q.ext xt), u2, m1, m2⟩
    | oi c fs =>
      obtain ⟨a2, dx, v2, rfl, h2, d2, u2, m1, m2⟩ := e2
      have ne := apart j a2 ⟨e1, .inr ⟨c, fs, e⟩⟩
      exact ⟨a2, dx, v2, rfl, kp _ _ h2 ne, d2.ext xt, u2, m1, m2⟩
  · by_cases q : x = l
    · subst q
      exact ⟨_, upd_same, (fun _ z => by cases z), (fun _ z => by cases z)⟩
    · obtain ⟨o, e, t⟩ := s.uok.al x hx
      exact ⟨o, kp x o e q, t⟩
  · have q : x ≠ l := fun z => by
      subst z
      rcases lo.h0 with w | w
      · exact m2 w
      · obtain ⟨ps, z⟩ := w o e
        exact m3 ps z
    exact kp x o (s.ext x o e m1 m2 m3) q
theorem lo_fz {l : Addr} (s : Stt g Mt U0 H0 U σ H b ε) (lo : Lo g Mt U0 H0 U σ ε l) :
    Stt g Mt U0 H0 (fun x => U x ∧ x ≠ l) σ H b ε ∧ Ev U H (fun x => U x ∧ x ≠ l) H := by
  have sub : ∀ x, (∃ o, H x = some o) → (U x ∧ x ≠ l) → U x := fun x _ z => z.1
  refine ⟨⟨⟨s.rel.len, fun j x e => ?_, s.rel.apart⟩, s.wd, ⟨⟨s.uok.p, lo.p.symm⟩, ⟨s.uok.c, lo.c.symm⟩, fun x hx => s.uok.al x hx.1⟩, fun x z => ⟨s.sub x z, fun e => lo.u0 (e ▸ z)⟩, s.own, s.ext, s.nu0, s.oim⟩, fun _ _ e _ _ => e, fun _ _ _ n _ z => n z.1⟩
  obtain ⟨o, e3, e2⟩ := s.rel.at_ j x e
  refine ⟨o, e3, ?_⟩
  cases x with
  | no => trivial
  | fz d =>
    obtain ⟨v, e4, e5⟩ := e2
    exact ⟨v, e4, e5.sub sub⟩
  | ow ds2 =>
    obtain ⟨a2, v2, rfl, h2, d2, u2, m1, m2⟩ := e2
    exact ⟨a2, v2, rfl, h2, d2.map (fun q => q.sub sub), ⟨u2, fun z => lo.ow j ⟨z ▸ e3, .inl ⟨ds2, e⟩⟩⟩, m1, m2⟩
  | oi c fs =>
    obtain ⟨a2, dx, v2, rfl, h2, d2, u2, m1, m2⟩ := e2
    exact ⟨a2, dx, v2, rfl, h2, d2.sub sub, ⟨u2, fun z => lo.ow j ⟨z ▸ e3, .inr ⟨c, fs, e⟩⟩⟩, m1, m2⟩
theorem Lo.grow {l A : Addr} (lo : Lo g Mt U0 H0 U σ ε l) : Lo g Mt U0 H0 (fun a => U a ∨ a = A) σ ε l := ⟨.inl lo.u, lo.p, lo.c, lo.ow, lo.h0, lo.u0⟩
theorem Lo.cut {l A : Addr} (lo : Lo g Mt U0 H0 U σ ε l) (n : l ≠ A) : Lo g Mt U0 H0 (fun a => U a ∧ a ≠ A) σ ε l := ⟨⟨lo.u, n⟩, lo.p, lo.c, lo.ow, lo.h0, lo.u0⟩
theorem Lo.keep {l : Addr} {σ' : L2.St} (lo : Lo g Mt U0 H0 U σ ε l) (h : ∀ j, OwnAt σ' ε' j l → OwnAt σ ε j l) : Lo g Mt U0 H0 U σ' ε' l := ⟨lo.u, lo.p, lo.c, fun j z => lo.ow j (h j z), lo.h0, lo.u0⟩
structure Grp (g : Gw) (Mt U0 : Addr → Prop) (H0 : Hp) (U : Addr → Prop) (σ : L2.St) (H : Hp) (b : Nat) (ε : Env) (i : Nat) (A l : Addr) (vs ws : List V) (a : List (List D)) (la : List D) : Prop where
  s : Stt g Mt U0 H0 U σ H b ε
  lA : Lo g Mt U0 H0 U σ ε A
  ll : Lo g Mt U0 H0 U σ ε l
  ne : A ≠ l
  at_ : σ[i]? = some (some (.ref A))
  hA : H A = some (.lst (vs ++ [.ref l]))
  hl : H l = some (.lst ws)
  dA : DenL g U H vs (a.map D.lst)
  dl : DenL g U H ws la
  zA : a.length + 1 ≤ sizeLine
  zl : la.length ≤ sizeLine
theorem Grp.fr {i : Nat} {A l : Addr} {vs ws : List V} {a : List (List D)} {la : List D} (G : Grp g Mt U0 H0 U σ H b ε i A l vs ws a la) (f : Fr H H' g.p) (w : Wd g H' b1) : Grp g Mt U0 H0 U σ H' b1 ε i A l vs ws a la :=
  ⟨G.s.fr f w, G.lA, G.ll, G.ne, G.at_, f _ _ G.hA G.lA.p (fun _ z => by cases z), f _ _ G.hl G.ll.p (fun _ z => by cases z), G.dA.fr G.s.uok f, G.dl.fr G.s.uok f, G.zA, G.zl⟩
theorem Grp.push {i : Nat} {A l l' : Addr} {vs ws : List V} {a : List (List D)} {la : List D} (G : Grp g Mt U0 H0 U σ H b ε i A l vs ws a la) (n : H l' = none) (z : a.length + 1 < sizeLine) :
    Grp g Mt U0 H0 (fun x => (U x ∨ x = l') ∧ x ≠ l) σ (upd (upd H l' (.lst [])) A (.lst ((vs ++ [.ref l]) ++ [.ref l']))) b ε i A l' (vs ++ [.ref l]) [] (a ++ [la]) [] ∧ Ev U H (fun x => (U x ∨ x = l') ∧ x ≠ l) (upd (upd H l' (.lst [])) A (.lst ((vs ++ [.ref l]) ++ [.ref l']))) := by
  obtain ⟨s1, lo1, e1⟩ := lo_new (vs := []) G.s n
  have nA : l' ≠ A := fun q => by
    rw [q, G.hA] at n
    cases n
  have nl : l' ≠ l := fun q => by
    rw [q, G.hl] at n
    cases n
  have hA1 : upd H l' (.lst []) A = some (.lst (vs ++ [.ref l])) := by rw [upd_ne nA.symm]; exact G.hA
  have hl1 : upd H l' (.lst []) l = some (.lst ws) := by rw [upd_ne nl.symm]; exact G.hl
  obtain ⟨s2, e2⟩ := lo_fz s1 (G.ll.grow (A := l'))
  have lA2 := (G.lA.grow (A := l')).cut G.ne
  have lo2 := lo1.cut nl
  obtain ⟨s3, e3⟩ := lo_mut s2 lA2 hA1 ((vs ++ [.ref l]) ++ [.ref l'])
  have ev := (e1.trans e2).trans e3
  have hl3 : upd (upd H l' (.lst [])) A (.lst ((vs ++ [.ref l]) ++ [.ref l'])) l = some (.lst ws) := by rw [upd_ne G.ne.symm]; exact hl1
  refine ⟨⟨s3, lA2, lo2, nA.symm, G.at_, upd_same, ?_, ?_, .nil, ?_, Nat.zero_le _⟩, ev⟩
  · rw [upd_ne nA]
    exact upd_same
  · rw [List.map_append]
    exact (G.dA.ev ev).append (.cons (.lst hl3 (fun q => q.2 rfl) (by rw [G.dl.length]; exact G.zl) (G.dl.ev ev)) .nil)
  · rw [List.length_append]
    exact z
end
section
variable {W L : Type} {g : Gw} {E : XK} {ε : Env} {tb : TS} {env : W → Env} {envL : L → Env}
end
end Gp
end
section
set_option Elab.async false
set_option linter.all false
set_option maxRecDepth 100000
set_option maxHeartbeats 4000000
namespace Gp
open PySem PySem.Spec PyProof.Rows L2 Gh
section
variable {g : Gw} {U U' : Addr → Prop} {H : Hp} {a : Addr} {vs : List V}
end
section
variable {g : Gw} {U U' : Addr → Prop} {H : Hp}
end
section
variable {g : Gw} {Mt U0 U U' : Addr → Prop} {H0 H H' H1 H2 : Hp} {b b1 : Nat} {σ : L2.St} {ε ε' : Env} {E : XK} {W L W' : Type}
variable {env : W → Env} {envL : L → Env} {env' : W' → Env} {u ta tb : TS} {te tc t1 t2 : TE} {me : Tr D}
def Lent (g : Gw) (Mt U0 : Addr → Prop) (H0 : Hp) (U : Addr → Prop) (σ : L2.St) (H : Hp) (ε : Env) (i n c : Nat) : Prop :=
  ∃ A vs, σ[i]? = some (some (.ref A)) ∧ Lo g Mt U0 H0 U σ ε A ∧ H A = some (.lst vs) ∧ vs.length = n ∧ ∀ (k : Nat) (v : V), vs[k]? = some v → ∃ l ws, v = .ref l ∧ l ≠ A ∧ Lo g Mt U0 H0 U σ ε l ∧ H l = some (.lst ws) ∧ ws.length + c ≤ sizeLine
theorem Lent.fr {i n c : Nat} (l : Lent g Mt U0 H0 U σ H ε i n c) (f : Fr H H' g.p) : Lent g Mt U0 H0 U σ H' ε i n c := by
  obtain ⟨A, vs, e, lA, hA, hn, ls⟩ := l
  refine ⟨A, vs, e, lA, f _ _ hA lA.p (fun _ z => by cases z), hn, fun k v hv => ?_⟩
  obtain ⟨l, ws, e1, e2, e3, e4, e5⟩ := ls k v hv
  exact ⟨l, ws, e1, e2, e3, f _ _ e4 e3.p (fun _ z => by cases z), e5⟩
end
end Gp
end
section
set_option Elab.async false
set_option linter.all false
set_option maxRecDepth 100000
set_option maxHeartbeats 0
namespace Lw
open PySem PySem.Spec PyProof.Rows L2 Gh Gp
def top (i : Nat) : Stmt := PySem.Challenge.pw_everyhunt_k01_errors_kept.main.body.getD i (.Pass ⟨0, 0, 0, 0⟩)
abbrev s_BadLength___init__ : Stmt := inClass (top 2) 0
def d_BadLength___init__ : Df := ⟨md "BadLength" "__init__", "__init__", "BadLength.__init__", s_BadLength___init__, []⟩
abbrev s_BadPlace___init__ : Stmt := inClass (top 3) 0
def d_BadPlace___init__ : Df := ⟨md "BadPlace" "__init__", "__init__", "BadPlace.__init__", s_BadPlace___init__, []⟩
abbrev s_BadRest___init__ : Stmt := inClass (top 4) 0
def d_BadRest___init__ : Df := ⟨md "BadRest" "__init__", "__init__", "BadRest.__init__", s_BadRest___init__, []⟩
abbrev s_BadRow___init__ : Stmt := inClass (top 5) 0
def d_BadRow___init__ : Df := ⟨md "BadRow" "__init__", "__init__", "BadRow.__init__", s_BadRow___init__, []⟩
abbrev s_BadChange___init__ : Stmt := inClass (top 6) 0
def d_BadChange___init__ : Df := ⟨md "BadChange" "__init__", "__init__", "BadChange.__init__", s_BadChange___init__, []⟩
abbrev s_BadSpan___init__ : Stmt := inClass (top 7) 0
def d_BadSpan___init__ : Df := ⟨md "BadSpan" "__init__", "__init__", "BadSpan.__init__", s_BadSpan___init__, []⟩
abbrev s_BadStep___init__ : Stmt := inClass (top 8) 0
def d_BadStep___init__ : Df := ⟨md "BadStep" "__init__", "__init__", "BadStep.__init__", s_BadStep___init__, []⟩
abbrev s_BadNumber___init__ : Stmt := inClass (top 9) 0
def d_BadNumber___init__ : Df := ⟨md "BadNumber" "__init__", "__init__", "BadNumber.__init__", s_BadNumber___init__, []⟩
abbrev s_BadForm___init__ : Stmt := inClass (top 10) 0
def d_BadForm___init__ : Df := ⟨md "BadForm" "__init__", "__init__", "BadForm.__init__", s_BadForm___init__, []⟩
abbrev s_BadSpot___init__ : Stmt := inClass (top 11) 0
def d_BadSpot___init__ : Df := ⟨md "BadSpot" "__init__", "__init__", "BadSpot.__init__", s_BadSpot___init__, []⟩
abbrev s_Overlap___init__ : Stmt := inClass (top 12) 0
def d_Overlap___init__ : Df := ⟨md "Overlap" "__init__", "__init__", "Overlap.__init__", s_Overlap___init__, []⟩
abbrev s_NoStep___init__ : Stmt := inClass (top 13) 0
def d_NoStep___init__ : Df := ⟨md "NoStep" "__init__", "__init__", "NoStep.__init__", s_NoStep___init__, []⟩
abbrev s_TooMany___init__ : Stmt := inClass (top 14) 0
def d_TooMany___init__ : Df := ⟨md "TooMany" "__init__", "__init__", "TooMany.__init__", s_TooMany___init__, []⟩
abbrev s_Parts___init__ : Stmt := inClass (top 15) 0
def d_Parts___init__ : Df := ⟨md "Parts" "__init__", "__init__", "Parts.__init__", s_Parts___init__, []⟩
abbrev s_BadText___init__ : Stmt := inClass (top 16) 0
def d_BadText___init__ : Df := ⟨md "BadText" "__init__", "__init__", "BadText.__init__", s_BadText___init__, []⟩
abbrev s_NoName___init__ : Stmt := inClass (top 17) 0
def d_NoName___init__ : Df := ⟨md "NoName" "__init__", "__init__", "NoName.__init__", s_NoName___init__, []⟩
abbrev s_BadLine___init__ : Stmt := inClass (top 18) 0
def d_BadLine___init__ : Df := ⟨md "BadLine" "__init__", "__init__", "BadLine.__init__", s_BadLine___init__, []⟩
abbrev s__law_pen : Stmt := top 20
def d__law_pen : Df := ⟨gd "_law_pen", "_law_pen", "_law_pen", s__law_pen, []⟩
abbrev s__law_draw : Stmt := top 21
def d__law_draw : Df := ⟨gd "_law_draw", "_law_draw", "_law_draw", s__law_draw, []⟩
abbrev s__law_pick : Stmt := top 22
def d__law_pick : Df := ⟨gd "_law_pick", "_law_pick", "_law_pick", s__law_pick, []⟩
abbrev s__law_value : Stmt := top 23
def d__law_value : Df := ⟨gd "_law_value", "_law_value", "_law_value", s__law_value, []⟩
abbrev s__law_by_place : Stmt := top 24
def d__law_by_place : Df := ⟨gd "_law_by_place", "_law_by_place", "_law_by_place", s__law_by_place, []⟩
abbrev s__law_by_name : Stmt := top 25
def d__law_by_name : Df := ⟨gd "_law_by_name", "_law_by_name", "_law_by_name", s__law_by_name, []⟩
abbrev s__law_kept : Stmt := top 26
def d__law_kept : Df := ⟨gd "_law_kept", "_law_kept", "_law_kept", s__law_kept, []⟩
abbrev s__law_classes : Stmt := top 27
def d__law_classes : Df := ⟨gd "_law_classes", "_law_classes", "_law_classes", s__law_classes, []⟩
abbrev s_law : Stmt := top 28
def d_law : Df := ⟨gd "law", "law", "law", s_law, []⟩
def fns : List Df := [d_BadLength___init__, d_BadPlace___init__, d_BadRest___init__, d_BadRow___init__, d_BadChange___init__, d_BadSpan___init__, d_BadStep___init__, d_BadNumber___init__, d_BadForm___init__, d_BadSpot___init__, d_Overlap___init__, d_NoStep___init__, d_TooMany___init__, d_Parts___init__, d_BadText___init__, d_NoName___init__, d_BadLine___init__, d__law_pen, d__law_draw, d__law_pick, d__law_value, d__law_by_place, d__law_by_name, d__law_kept, d__law_classes, d_law]
def sds : List Gp.Ds := []
def pfile : Str := PySem.Challenge.pw_everyhunt_k01_errors_kept.main.file
def exs : List (PySem.W.Frag → Bool) := [fa (.free "ValueError"), fa (.free "abs"), fa (.free "enumerate"), fa (.free "int"), fa (.free "isinstance"), fa (.free "len"), fa (.free "list"), fa (.free "range"), fa (.free "repr"), fa (.glo "_law_pen"), fa (.keep "_law_pen"), fa (.glo "_law_draw"), fa (.keep "_law_draw"), fa (.glo "_law_pick"), fa (.keep "_law_pick"), fa (.glo "_law_value"), fa (.keep "_law_value"), fa (.glo "_law_by_place"), fa (.keep "_law_by_place"), fa (.glo "_law_by_name"), fa (.keep "_law_by_name"), fa (.glo "_law_kept"), fa (.keep "_law_kept"), fa (.glo "_law_classes"), fa (.keep "_law_classes"), fa (.glo "BadLength"), fa (.keep "BadLength"), fa (.glo "BadPlace"), fa (.keep "BadPlace"), fa (.glo "BadRest"),
  fa (.keep "BadRest"), fa (.glo "BadRow"), fa (.keep "BadRow"), fa (.glo "BadChange"), fa (.keep "BadChange"), fa (.glo "BadSpan"), fa (.keep "BadSpan"), fa (.glo "BadStep"), fa (.keep "BadStep"), fa (.glo "BadNumber"), fa (.keep "BadNumber"), fa (.glo "BadForm"), fa (.keep "BadForm"), fa (.glo "BadSpot"), fa (.keep "BadSpot"), fa (.glo "Overlap"), fa (.keep "Overlap"), fa (.glo "NoStep"), fa (.keep "NoStep"), fa (.glo "TooMany"), fa (.keep "TooMany"), fa (.glo "Parts"), fa (.keep "Parts"), fa (.glo "BadText"), fa (.keep "BadText"), fa (.glo "NoName"), fa (.keep "NoName"), fa (.glo "BadLine"), fa (.keep "BadLine"), fa (.glo "HuntError"),
  fa (.keep "HuntError"), fa (.noat "BadLength" "value"), errB "BadLength", oexB "BadLength", iniB "BadLength", (fun K => decide (PySem.W.exmOne K (.ref (gd "BadLength" K)) (.ref (gd "HuntError" K)) = some true)), fa (.noat "BadPlace" "value"), errB "BadPlace", oexB "BadPlace", iniB "BadPlace", (fun K => decide (PySem.W.exmOne K (.ref (gd "BadPlace" K)) (.ref (gd "HuntError" K)) = some true)), fa (.noat "BadRest" "value"), errB "BadRest", oexB "BadRest", iniB "BadRest", (fun K => decide (PySem.W.exmOne K (.ref (gd "BadRest" K)) (.ref (gd "HuntError" K)) = some true)), fa (.noat "BadRow" "at"), errB "BadRow", oexB "BadRow", iniB "BadRow", (fun K => decide (PySem.W.exmOne K (.ref (gd "BadRow" K)) (.ref (gd "HuntError" K)) = some true)), fa (.noat "BadChange" "part"), errB "BadChange", oexB "BadChange", iniB "BadChange", (fun K => decide (PySem.W.exmOne K (.ref (gd "BadChange" K)) (.ref (gd "HuntError" K)) = some true)), fa (.noat "BadSpan" "part"), errB "BadSpan", oexB "BadSpan", iniB "BadSpan",
  (fun K => decide (PySem.W.exmOne K (.ref (gd "BadSpan" K)) (.ref (gd "HuntError" K)) = some true)), fa (.noat "BadStep" "at"), errB "BadStep", oexB "BadStep", iniB "BadStep", (fun K => decide (PySem.W.exmOne K (.ref (gd "BadStep" K)) (.ref (gd "HuntError" K)) = some true)), fa (.noat "BadNumber" "value"), errB "BadNumber", oexB "BadNumber", iniB "BadNumber", (fun K => decide (PySem.W.exmOne K (.ref (gd "BadNumber" K)) (.ref (gd "HuntError" K)) = some true)), fa (.noat "BadForm" "part"), errB "BadForm", oexB "BadForm", iniB "BadForm", (fun K => decide (PySem.W.exmOne K (.ref (gd "BadForm" K)) (.ref (gd "HuntError" K)) = some true)), fa (.noat "BadSpot" "part"), errB "BadSpot", oexB "BadSpot", iniB "BadSpot", (fun K => decide (PySem.W.exmOne K (.ref (gd "BadSpot" K)) (.ref (gd "HuntError" K)) = some true)), fa (.noat "Overlap" "length"), errB "Overlap", oexB "Overlap", iniB "Overlap", (fun K => decide (PySem.W.exmOne K (.ref (gd "Overlap" K)) (.ref (gd "HuntError" K)) = some true)), fa (.noat "NoStep" "index"), errB "NoStep", oexB "NoStep", iniB "NoStep",
  (fun K => decide (PySem.W.exmOne K (.ref (gd "NoStep" K)) (.ref (gd "HuntError" K)) = some true)), fa (.noat "TooMany" "what"), fa (.noat "TooMany" "most"), errB "TooMany", oexB "TooMany", iniB "TooMany", (fun K => decide (PySem.W.exmOne K (.ref (gd "TooMany" K)) (.ref (gd "HuntError" K)) = some true)), fa (.noat "Parts" "length"), fa (.noat "Parts" "place"), errB "Parts", oexB "Parts", iniB "Parts", (fun K => decide (PySem.W.exmOne K (.ref (gd "Parts" K)) (.ref (gd "HuntError" K)) = some true)), fa (.noat "BadText" "line"), fa (.noat "BadText" "word"), errB "BadText", oexB "BadText", iniB "BadText", (fun K => decide (PySem.W.exmOne K (.ref (gd "BadText" K)) (.ref (gd "HuntError" K)) = some true)), fa (.noat "NoName" "name"), errB "NoName", oexB "NoName", iniB "NoName", (fun K => decide (PySem.W.exmOne K (.ref (gd "NoName" K)) (.ref (gd "HuntError" K)) = some true)), fa (.noat "BadLine" "word"), errB "BadLine", oexB "BadLine", iniB "BadLine", (fun K => decide (PySem.W.exmOne K (.ref (gd "BadLine" K)) (.ref (gd "HuntError" K)) = some true)), errB "HuntError",
  oexB "HuntError", (fun K => decide (PySem.W.exmOne K (.ref (gd "HuntError" K)) (.ref (gd "HuntError" K)) = some true)), Gp.sysB, (fun K => decide (PySem.W.kitOne K (.ref (gd "BadLength" K)) (.ref (gd "BadLength" K)) = some true)), (fun K => decide (PySem.W.kitOne K (.ref (gd "BadPlace" K)) (.ref (gd "BadLength" K)) = some false)), (fun K => decide (PySem.W.kitOne K (.ref (gd "BadRest" K)) (.ref (gd "BadLength" K)) = some false)), (fun K => decide (PySem.W.kitOne K (.ref (gd "BadRow" K)) (.ref (gd "BadLength" K)) = some false)), (fun K => decide (PySem.W.kitOne K (.ref (gd "BadChange" K)) (.ref (gd "BadLength" K)) = some false)), (fun K => decide (PySem.W.kitOne K (.ref (gd "BadSpan" K)) (.ref (gd "BadLength" K)) = some false)), (fun K => decide (PySem.W.kitOne K (.ref (gd "BadStep" K)) (.ref (gd "BadLength" K)) = some false)), (fun K => decide (PySem.W.kitOne K (.ref (gd "BadNumber" K)) (.ref (gd "BadLength" K)) = some false)), (fun K => decide (PySem.W.kitOne K (.ref (gd "BadForm" K)) (.ref (gd "BadLength" K)) = some false)), (fun K => decide (PySem.W.kitOne K (.ref (gd "BadSpot" K)) (.ref (gd "BadLength" K)) = some false)), (fun K => decide (PySem.W.kitOne K (.ref (gd "Overlap" K)) (.ref (gd "BadLength" K)) = some false)), (fun K => decide (PySem.W.kitOne K (.ref (gd "NoStep" K)) (.ref (gd "BadLength" K)) = some false)), (fun K => decide (PySem.W.kitOne K (.ref (gd "TooMany" K)) (.ref (gd "BadLength" K)) = some false)), (fun K => decide (PySem.W.kitOne K (.ref (gd "Parts" K)) (.ref (gd "BadLength" K)) = some false)), (fun K => decide (PySem.W.kitOne K (.ref (gd "BadText" K)) (.ref (gd "BadLength" K)) = some false)), (fun K => decide (PySem.W.kitOne K (.ref (gd "NoName" K)) (.ref (gd "BadLength" K)) = some false)), (fun K => decide (PySem.W.kitOne K (.ref (gd "BadLine" K)) (.ref (gd "BadLength" K)) = some false)), (fun K => decide (PySem.W.kitOne K (.ref (gd "HuntError" K)) (.ref (gd "BadLength" K)) = some false)), (fun K => decide (PySem.W.kitOne K (.ref (gd "BadLength" K)) (.ref (gd "BadPlace" K)) = some false)), (fun K => decide (PySem.W.kitOne K (.ref (gd "BadPlace" K)) (.ref (gd "BadPlace" K)) = some true)), (fun K => decide (PySem.W.kitOne K (.ref (gd "BadRest" K)) (.ref (gd "BadPlace" K)) = some false)), (fun K => decide (PySem.W.kitOne K (.ref (gd "BadRow" K)) (.ref (gd "BadPlace" K)) = some false)), (fun K => decide (PySem.W.kitOne K (.ref (gd "BadChange" K)) (.ref (gd "BadPlace" K)) = some false)), (fun K => decide (PySem.W.kitOne K (.ref (gd "BadSpan" K)) (.ref (gd "BadPlace" K)) = some false)), (fun K => decide (PySem.W.kitOne K (.ref (gd "BadStep" K)) (.ref (gd "BadPlace" K)) = some false)), (fun K => decide (PySem.W.kitOne K (.ref (gd "BadNumber" K)) (.ref (gd "BadPlace" K)) = some false)), (fun K => decide (PySem.W.kitOne K (.ref (gd "BadForm" K)) (.ref (gd "BadPlace" K)) = some false)),
  (fun K => decide (PySem.W.kitOne K (.ref (gd "BadSpot" K)) (.ref (gd "BadPlace" K)) = some false)), (fun K => decide (PySem.W.kitOne K (.ref (gd "Overlap" K)) (.ref (gd "BadPlace" K)) = some false)), (fun K => decide (PySem.W.kitOne K (.ref (gd "NoStep" K)) (.ref (gd "BadPlace" K)) = some false)), (fun K => decide (PySem.W.kitOne K (.ref (gd "TooMany" K)) (.ref (gd "BadPlace" K)) = some false)), (fun K => decide (PySem.W.kitOne K (.ref (gd "Parts" K)) (.ref (gd "BadPlace" K)) = some false)), (fun K => decide (PySem.W.kitOne K (.ref (gd "BadText" K)) (.ref (gd "BadPlace" K)) = some false)), (fun K => decide (PySem.W.kitOne K (.ref (gd "NoName" K)) (.ref (gd "BadPlace" K)) = some false)), (fun K => decide (PySem.W.kitOne K (.ref (gd "BadLine" K)) (.ref (gd "BadPlace" K)) = some false)), (fun K => decide (PySem.W.kitOne K (.ref (gd "HuntError" K)) (.ref (gd "BadPlace" K)) = some false)), (fun K => decide (PySem.W.kitOne K (.ref (gd "BadLength" K)) (.ref (gd "BadRest" K)) = some false)), (fun K => decide (PySem.W.kitOne K (.ref (gd "BadPlace" K)) (.ref (gd "BadRest" K)) = some false)), (fun K => decide (PySem.W.kitOne K (.ref (gd "BadRest" K)) (.ref (gd "BadRest" K)) = some true)), (fun K => decide (PySem.W.kitOne K (.ref (gd "BadRow" K)) (.ref (gd "BadRest" K)) = some false)), (fun K => decide (PySem.W.kitOne K (.ref (gd "BadChange" K)) (.ref (gd "BadRest" K)) = some false)), (fun K => decide (PySem.W.kitOne K (.ref (gd "BadSpan" K)) (.ref (gd "BadRest" K)) = some false)), (fun K => decide (PySem.W.kitOne K (.ref (gd "BadStep" K)) (.ref (gd "BadRest" K)) = some false)), (fun K => decide (PySem.W.kitOne K (.ref (gd "BadNumber" K)) (.ref (gd "BadRest" K)) = some false)), (fun K => decide (PySem.W.kitOne K (.ref (gd "BadForm" K)) (.ref (gd "BadRest" K)) = some false)), (fun K => decide (PySem.W.kitOne K (.ref (gd "BadSpot" K)) (.ref (gd "BadRest" K)) = some false)), (fun K => decide (PySem.W.kitOne K (.ref (gd "Overlap" K)) (.ref (gd "BadRest" K)) = some false)), (fun K => decide (PySem.W.kitOne K (.ref (gd "NoStep" K)) (.ref (gd "BadRest" K)) = some false)), (fun K => decide (PySem.W.kitOne K (.ref (gd "TooMany" K)) (.ref (gd "BadRest" K)) = some false)), (fun K => decide (PySem.W.kitOne K (.ref (gd "Parts" K)) (.ref (gd "BadRest" K)) = some false)), (fun K => decide (PySem.W.kitOne K (.ref (gd "BadText" K)) (.ref (gd "BadRest" K)) = some false)), (fun K => decide (PySem.W.kitOne K (.ref (gd "NoName" K)) (.ref (gd "BadRest" K)) = some false)), (fun K => decide (PySem.W.kitOne K (.ref (gd "BadLine" K)) (.ref (gd "BadRest" K)) = some false)), (fun K => decide (PySem.W.kitOne K (.ref (gd "HuntError" K)) (.ref (gd "BadRest" K)) = some false)), (fun K => decide (PySem.W.kitOne K (.ref (gd "BadLength" K)) (.ref (gd "BadRow" K)) = some false)), (fun K => decide (PySem.W.kitOne K (.ref (gd "BadPlace" K)) (.ref (gd "BadRow" K)) = some false)), (fun K => decide (PySem.W.kitOne K (.ref (gd "BadRest" K)) (.ref (gd "BadRow" K)) = some false)),
  (fun K => decide (PySem.W.kitOne K (.ref (gd "BadRow" K)) (.ref (gd "BadRow" K)) = some true)), (fun K => decide (PySem.W.kitOne K (.ref (gd "BadChange" K)) (.ref (gd "BadRow" K)) = some false)), (fun K => decide (PySem.W.kitOne K (.ref (gd "BadSpan" K)) (.ref (gd "BadRow" K)) = some false)), (fun K => decide (PySem.W.kitOne K (.ref (gd "BadStep" K)) (.ref (gd "BadRow" K)) = some false)), (fun K => decide (PySem.W.kitOne K (.ref (gd "BadNumber" K)) (.ref (gd "BadRow" K)) = some false)), (fun K => decide (PySem.W.kitOne K (.ref (gd "BadForm" K)) (.ref (gd "BadRow" K)) = some false)), (fun K => decide (PySem.W.kitOne K (.ref (gd "BadSpot" K)) (.ref (gd "BadRow" K)) = some false)), (fun K => decide (PySem.W.kitOne K (.ref (gd "Overlap" K)) (.ref (gd "BadRow" K)) = some false)), (fun K => decide (PySem.W.kitOne K (.ref (gd "NoStep" K)) (.ref (gd "BadRow" K)) = some false)), (fun K => decide (PySem.W.kitOne K (.ref (gd "TooMany" K)) (.ref (gd "BadRow" K)) = some false)), (fun K => decide (PySem.W.kitOne K (.ref (gd "Parts" K)) (.ref (gd "BadRow" K)) = some false)), (fun K => decide (PySem.W.kitOne K (.ref (gd "BadText" K)) (.ref (gd "BadRow" K)) = some false)), (fun K => decide (PySem.W.kitOne K (.ref (gd "NoName" K)) (.ref (gd "BadRow" K)) = some false)), (fun K => decide (PySem.W.kitOne K (.ref (gd "BadLine" K)) (.ref (gd "BadRow" K)) = some false)), (fun K => decide (PySem.W.kitOne K (.ref (gd "HuntError" K)) (.ref (gd "BadRow" K)) = some false)), (fun K => decide (PySem.W.kitOne K (.ref (gd "BadLength" K)) (.ref (gd "BadChange" K)) = some false)), (fun K => decide (PySem.W.kitOne K (.ref (gd "BadPlace" K)) (.ref (gd "BadChange" K)) = some false)), (fun K => decide (PySem.W.kitOne K (.ref (gd "BadRest" K)) (.ref (gd "BadChange" K)) = some false)), (fun K => decide (PySem.W.kitOne K (.ref (gd "BadRow" K)) (.ref (gd "BadChange" K)) = some false)), (fun K => decide (PySem.W.kitOne K (.ref (gd "BadChange" K)) (.ref (gd "BadChange" K)) = some true)), (fun K => decide (PySem.W.kitOne K (.ref (gd "BadSpan" K)) (.ref (gd "BadChange" K)) = some false)), (fun K => decide (PySem.W.kitOne K (.ref (gd "BadStep" K)) (.ref (gd "BadChange" K)) = some false)), (fun K => decide (PySem.W.kitOne K (.ref (gd "BadNumber" K)) (.ref (gd "BadChange" K)) = some false)), (fun K => decide (PySem.W.kitOne K (.ref (gd "BadForm" K)) (.ref (gd "BadChange" K)) = some false)), (fun K => decide (PySem.W.kitOne K (.ref (gd "BadSpot" K)) (.ref (gd "BadChange" K)) = some false)), (fun K => decide (PySem.W.kitOne K (.ref (gd "Overlap" K)) (.ref (gd "BadChange" K)) = some false)), (fun K => decide (PySem.W.kitOne K (.ref (gd "NoStep" K)) (.ref (gd "BadChange" K)) = some false)), (fun K => decide (PySem.W.kitOne K (.ref (gd "TooMany" K)) (.ref (gd "BadChange" K)) = some false)), (fun K => decide (PySem.W.kitOne K (.ref (gd "Parts" K)) (.ref (gd "BadChange" K)) = some false)), (fun K => decide (PySem.W.kitOne K (.ref (gd "BadText" K)) (.ref (gd "BadChange" K)) = some false)),
  (fun K => decide (PySem.W.kitOne K (.ref (gd "NoName" K)) (.ref (gd "BadChange" K)) = some false)), (fun K => decide (PySem.W.kitOne K (.ref (gd "BadLine" K)) (.ref (gd "BadChange" K)) = some false)), (fun K => decide (PySem.W.kitOne K (.ref (gd "HuntError" K)) (.ref (gd "BadChange" K)) = some false)), (fun K => decide (PySem.W.kitOne K (.ref (gd "BadLength" K)) (.ref (gd "BadSpan" K)) = some false)), (fun K => decide (PySem.W.kitOne K (.ref (gd "BadPlace" K)) (.ref (gd "BadSpan" K)) = some false)), (fun K => decide (PySem.W.kitOne K (.ref (gd "BadRest" K)) (.ref (gd "BadSpan" K)) = some false)), (fun K => decide (PySem.W.kitOne K (.ref (gd "BadRow" K)) (.ref (gd "BadSpan" K)) = some false)), (fun K => decide (PySem.W.kitOne K (.ref (gd "BadChange" K)) (.ref (gd "BadSpan" K)) = some false)), (fun K => decide (PySem.W.kitOne K (.ref (gd "BadSpan" K)) (.ref (gd "BadSpan" K)) = some true)), (fun K => decide (PySem.W.kitOne K (.ref (gd "BadStep" K)) (.ref (gd "BadSpan" K)) = some false)), (fun K => decide (PySem.W.kitOne K (.ref (gd "BadNumber" K)) (.ref (gd "BadSpan" K)) = some false)), (fun K => decide (PySem.W.kitOne K (.ref (gd "BadForm" K)) (.ref (gd "BadSpan" K)) = some false)), (fun K => decide (PySem.W.kitOne K (.ref (gd "BadSpot" K)) (.ref (gd "BadSpan" K)) = some false)), (fun K => decide (PySem.W.kitOne K (.ref (gd "Overlap" K)) (.ref (gd "BadSpan" K)) = some false)), (fun K => decide (PySem.W.kitOne K (.ref (gd "NoStep" K)) (.ref (gd "BadSpan" K)) = some false)), (fun K => decide (PySem.W.kitOne K (.ref (gd "TooMany" K)) (.ref (gd "BadSpan" K)) = some false)), (fun K => decide (PySem.W.kitOne K (.ref (gd "Parts" K)) (.ref (gd "BadSpan" K)) = some false)), (fun K => decide (PySem.W.kitOne K (.ref (gd "BadText" K)) (.ref (gd "BadSpan" K)) = some false)), (fun K => decide (PySem.W.kitOne K (.ref (gd "NoName" K)) (.ref (gd "BadSpan" K)) = some false)), (fun K => decide (PySem.W.kitOne K (.ref (gd "BadLine" K)) (.ref (gd "BadSpan" K)) = some false)), (fun K => decide (PySem.W.kitOne K (.ref (gd "HuntError" K)) (.ref (gd "BadSpan" K)) = some false)), (fun K => decide (PySem.W.kitOne K (.ref (gd "BadLength" K)) (.ref (gd "BadStep" K)) = some false)), (fun K => decide (PySem.W.kitOne K (.ref (gd "BadPlace" K)) (.ref (gd "BadStep" K)) = some false)), (fun K => decide (PySem.W.kitOne K (.ref (gd "BadRest" K)) (.ref (gd "BadStep" K)) = some false)), (fun K => decide (PySem.W.kitOne K (.ref (gd "BadRow" K)) (.ref (gd "BadStep" K)) = some false)), (fun K => decide (PySem.W.kitOne K (.ref (gd "BadChange" K)) (.ref (gd "BadStep" K)) = some false)), (fun K => decide (PySem.W.kitOne K (.ref (gd "BadSpan" K)) (.ref (gd "BadStep" K)) = some false)), (fun K => decide (PySem.W.kitOne K (.ref (gd "BadStep" K)) (.ref (gd "BadStep" K)) = some true)), (fun K => decide (PySem.W.kitOne K (.ref (gd "BadNumber" K)) (.ref (gd "BadStep" K)) = some false)), (fun K => decide (PySem.W.kitOne K (.ref (gd "BadForm" K)) (.ref (gd "BadStep" K)) = some false)),
  (fun K => decide (PySem.W.kitOne K (.ref (gd "BadSpot" K)) (.ref (gd "BadStep" K)) = some false)), (fun K => decide (PySem.W.kitOne K (.ref (gd "Overlap" K)) (.ref (gd "BadStep" K)) = some false)), (fun K => decide (PySem.W.kitOne K (.ref (gd "NoStep" K)) (.ref (gd "BadStep" K)) = some false)), (fun K => decide (PySem.W.kitOne K (.ref (gd "TooMany" K)) (.ref (gd "BadStep" K)) = some false)), (fun K => decide (PySem.W.kitOne K (.ref (gd "Parts" K)) (.ref (gd "BadStep" K)) = some false)), (fun K => decide (PySem.W.kitOne K (.ref (gd "BadText" K)) (.ref (gd "BadStep" K)) = some false)), (fun K => decide (PySem.W.kitOne K (.ref (gd "NoName" K)) (.ref (gd "BadStep" K)) = some false)), (fun K => decide (PySem.W.kitOne K (.ref (gd "BadLine" K)) (.ref (gd "BadStep" K)) = some false)), (fun K => decide (PySem.W.kitOne K (.ref (gd "HuntError" K)) (.ref (gd "BadStep" K)) = some false)), (fun K => decide (PySem.W.kitOne K (.ref (gd "BadLength" K)) (.ref (gd "BadNumber" K)) = some false)), (fun K => decide (PySem.W.kitOne K (.ref (gd "BadPlace" K)) (.ref (gd "BadNumber" K)) = some false)), (fun K => decide (PySem.W.kitOne K (.ref (gd "BadRest" K)) (.ref (gd "BadNumber" K)) = some false)), (fun K => decide (PySem.W.kitOne K (.ref (gd "BadRow" K)) (.ref (gd "BadNumber" K)) = some false)), (fun K => decide (PySem.W.kitOne K (.ref (gd "BadChange" K)) (.ref (gd "BadNumber" K)) = some false)), (fun K => decide (PySem.W.kitOne K (.ref (gd "BadSpan" K)) (.ref (gd "BadNumber" K)) = some false)), (fun K => decide (PySem.W.kitOne K (.ref (gd "BadStep" K)) (.ref (gd "BadNumber" K)) = some false)), (fun K => decide (PySem.W.kitOne K (.ref (gd "BadNumber" K)) (.ref (gd "BadNumber" K)) = some true)), (fun K => decide (PySem.W.kitOne K (.ref (gd "BadForm" K)) (.ref (gd "BadNumber" K)) = some false)), (fun K => decide (PySem.W.kitOne K (.ref (gd "BadSpot" K)) (.ref (gd "BadNumber" K)) = some false)), (fun K => decide (PySem.W.kitOne K (.ref (gd "Overlap" K)) (.ref (gd "BadNumber" K)) = some false)), (fun K => decide (PySem.W.kitOne K (.ref (gd "NoStep" K)) (.ref (gd "BadNumber" K)) = some false)), (fun K => decide (PySem.W.kitOne K (.ref (gd "TooMany" K)) (.ref (gd "BadNumber" K)) = some false)), (fun K => decide (PySem.W.kitOne K (.ref (gd "Parts" K)) (.ref (gd "BadNumber" K)) = some false)), (fun K => decide (PySem.W.kitOne K (.ref (gd "BadText" K)) (.ref (gd "BadNumber" K)) = some false)), (fun K => decide (PySem.W.kitOne K (.ref (gd "NoName" K)) (.ref (gd "BadNumber" K)) = some false)), (fun K => decide (PySem.W.kitOne K (.ref (gd "BadLine" K)) (.ref (gd "BadNumber" K)) = some false)), (fun K => decide (PySem.W.kitOne K (.ref (gd "HuntError" K)) (.ref (gd "BadNumber" K)) = some false)), (fun K => decide (PySem.W.kitOne K (.ref (gd "BadLength" K)) (.ref (gd "BadForm" K)) = some false)), (fun K => decide (PySem.W.kitOne K (.ref (gd "BadPlace" K)) (.ref (gd "BadForm" K)) = some false)), (fun K => decide (PySem.W.kitOne K (.ref (gd "BadRest" K)) (.ref (gd "BadForm" K)) = some false)),
  (fun K => decide (PySem.W.kitOne K (.ref (gd "BadRow" K)) (.ref (gd "BadForm" K)) = some false)), (fun K => decide (PySem.W.kitOne K (.ref (gd "BadChange" K)) (.ref (gd "BadForm" K)) = some false)), (fun K => decide (PySem.W.kitOne K (.ref (gd "BadSpan" K)) (.ref (gd "BadForm" K)) = some false)), (fun K => decide (PySem.W.kitOne K (.ref (gd "BadStep" K)) (.ref (gd "BadForm" K)) = some false)), (fun K => decide (PySem.W.kitOne K (.ref (gd "BadNumber" K)) (.ref (gd "BadForm" K)) = some false)), (fun K => decide (PySem.W.kitOne K (.ref (gd "BadForm" K)) (.ref (gd "BadForm" K)) = some true)), (fun K => decide (PySem.W.kitOne K (.ref (gd "BadSpot" K)) (.ref (gd "BadForm" K)) = some false)), (fun K => decide (PySem.W.kitOne K (.ref (gd "Overlap" K)) (.ref (gd "BadForm" K)) = some false)), (fun K => decide (PySem.W.kitOne K (.ref (gd "NoStep" K)) (.ref (gd "BadForm" K)) = some false)), (fun K => decide (PySem.W.kitOne K (.ref (gd "TooMany" K)) (.ref (gd "BadForm" K)) = some false)), (fun K => decide (PySem.W.kitOne K (.ref (gd "Parts" K)) (.ref (gd "BadForm" K)) = some false)), (fun K => decide (PySem.W.kitOne K (.ref (gd "BadText" K)) (.ref (gd "BadForm" K)) = some false)), (fun K => decide (PySem.W.kitOne K (.ref (gd "NoName" K)) (.ref (gd "BadForm" K)) = some false)), (fun K => decide (PySem.W.kitOne K (.ref (gd "BadLine" K)) (.ref (gd "BadForm" K)) = some false)), (fun K => decide (PySem.W.kitOne K (.ref (gd "HuntError" K)) (.ref (gd "BadForm" K)) = some false)), (fun K => decide (PySem.W.kitOne K (.ref (gd "BadLength" K)) (.ref (gd "BadSpot" K)) = some false)), (fun K => decide (PySem.W.kitOne K (.ref (gd "BadPlace" K)) (.ref (gd "BadSpot" K)) = some false)), (fun K => decide (PySem.W.kitOne K (.ref (gd "BadRest" K)) (.ref (gd "BadSpot" K)) = some false)), (fun K => decide (PySem.W.kitOne K (.ref (gd "BadRow" K)) (.ref (gd "BadSpot" K)) = some false)), (fun K => decide (PySem.W.kitOne K (.ref (gd "BadChange" K)) (.ref (gd "BadSpot" K)) = some false)), (fun K => decide (PySem.W.kitOne K (.ref (gd "BadSpan" K)) (.ref (gd "BadSpot" K)) = some false)), (fun K => decide (PySem.W.kitOne K (.ref (gd "BadStep" K)) (.ref (gd "BadSpot" K)) = some false)), (fun K => decide (PySem.W.kitOne K (.ref (gd "BadNumber" K)) (.ref (gd "BadSpot" K)) = some false)), (fun K => decide (PySem.W.kitOne K (.ref (gd "BadForm" K)) (.ref (gd "BadSpot" K)) = some false)), (fun K => decide (PySem.W.kitOne K (.ref (gd "BadSpot" K)) (.ref (gd "BadSpot" K)) = some true)), (fun K => decide (PySem.W.kitOne K (.ref (gd "Overlap" K)) (.ref (gd "BadSpot" K)) = some false)), (fun K => decide (PySem.W.kitOne K (.ref (gd "NoStep" K)) (.ref (gd "BadSpot" K)) = some false)), (fun K => decide (PySem.W.kitOne K (.ref (gd "TooMany" K)) (.ref (gd "BadSpot" K)) = some false)), (fun K => decide (PySem.W.kitOne K (.ref (gd "Parts" K)) (.ref (gd "BadSpot" K)) = some false)), (fun K => decide (PySem.W.kitOne K (.ref (gd "BadText" K)) (.ref (gd "BadSpot" K)) = some false)),
  (fun K => decide (PySem.W.kitOne K (.ref (gd "NoName" K)) (.ref (gd "BadSpot" K)) = some false)), (fun K => decide (PySem.W.kitOne K (.ref (gd "BadLine" K)) (.ref (gd "BadSpot" K)) = some false)), (fun K => decide (PySem.W.kitOne K (.ref (gd "HuntError" K)) (.ref (gd "BadSpot" K)) = some false)), (fun K => decide (PySem.W.kitOne K (.ref (gd "BadLength" K)) (.ref (gd "Overlap" K)) = some false)), (fun K => decide (PySem.W.kitOne K (.ref (gd "BadPlace" K)) (.ref (gd "Overlap" K)) = some false)), (fun K => decide (PySem.W.kitOne K (.ref (gd "BadRest" K)) (.ref (gd "Overlap" K)) = some false)), (fun K => decide (PySem.W.kitOne K (.ref (gd "BadRow" K)) (.ref (gd "Overlap" K)) = some false)), (fun K => decide (PySem.W.kitOne K (.ref (gd "BadChange" K)) (.ref (gd "Overlap" K)) = some false)), (fun K => decide (PySem.W.kitOne K (.ref (gd "BadSpan" K)) (.ref (gd "Overlap" K)) = some false)), (fun K => decide (PySem.W.kitOne K (.ref (gd "BadStep" K)) (.ref (gd "Overlap" K)) = some false)), (fun K => decide (PySem.W.kitOne K (.ref (gd "BadNumber" K)) (.ref (gd "Overlap" K)) = some false)), (fun K => decide (PySem.W.kitOne K (.ref (gd "BadForm" K)) (.ref (gd "Overlap" K)) = some false)), (fun K => decide (PySem.W.kitOne K (.ref (gd "BadSpot" K)) (.ref (gd "Overlap" K)) = some false)), (fun K => decide (PySem.W.kitOne K (.ref (gd "Overlap" K)) (.ref (gd "Overlap" K)) = some true)), (fun K => decide (PySem.W.kitOne K (.ref (gd "NoStep" K)) (.ref (gd "Overlap" K)) = some false)), (fun K => decide (PySem.W.kitOne K (.ref (gd "TooMany" K)) (.ref (gd "Overlap" K)) = some false)), (fun K => decide (PySem.W.kitOne K (.ref (gd "Parts" K)) (.ref (gd "Overlap" K)) = some false)), (fun K => decide (PySem.W.kitOne K (.ref (gd "BadText" K)) (.ref (gd "Overlap" K)) = some false)), (fun K => decide (PySem.W.kitOne K (.ref (gd "NoName" K)) (.ref (gd "Overlap" K)) = some false)), (fun K => decide (PySem.W.kitOne K (.ref (gd "BadLine" K)) (.ref (gd "Overlap" K)) = some false)), (fun K => decide (PySem.W.kitOne K (.ref (gd "HuntError" K)) (.ref (gd "Overlap" K)) = some false)), (fun K => decide (PySem.W.kitOne K (.ref (gd "BadLength" K)) (.ref (gd "NoStep" K)) = some false)), (fun K => decide (PySem.W.kitOne K (.ref (gd "BadPlace" K)) (.ref (gd "NoStep" K)) = some false)), (fun K => decide (PySem.W.kitOne K (.ref (gd "BadRest" K)) (.ref (gd "NoStep" K)) = some false)), (fun K => decide (PySem.W.kitOne K (.ref (gd "BadRow" K)) (.ref (gd "NoStep" K)) = some false)), (fun K => decide (PySem.W.kitOne K (.ref (gd "BadChange" K)) (.ref (gd "NoStep" K)) = some false)), (fun K => decide (PySem.W.kitOne K (.ref (gd "BadSpan" K)) (.ref (gd "NoStep" K)) = some false)), (fun K => decide (PySem.W.kitOne K (.ref (gd "BadStep" K)) (.ref (gd "NoStep" K)) = some false)), (fun K => decide (PySem.W.kitOne K (.ref (gd "BadNumber" K)) (.ref (gd "NoStep" K)) = some false)), (fun K => decide (PySem.W.kitOne K (.ref (gd "BadForm" K)) (.ref (gd "NoStep" K)) = some false)),
  (fun K => decide (PySem.W.kitOne K (.ref (gd "BadSpot" K)) (.ref (gd "NoStep" K)) = some false)), (fun K => decide (PySem.W.kitOne K (.ref (gd "Overlap" K)) (.ref (gd "NoStep" K)) = some false)), (fun K => decide (PySem.W.kitOne K (.ref (gd "NoStep" K)) (.ref (gd "NoStep" K)) = some true)), (fun K => decide (PySem.W.kitOne K (.ref (gd "TooMany" K)) (.ref (gd "NoStep" K)) = some false)), (fun K => decide (PySem.W.kitOne K (.ref (gd "Parts" K)) (.ref (gd "NoStep" K)) = some false)), (fun K => decide (PySem.W.kitOne K (.ref (gd "BadText" K)) (.ref (gd "NoStep" K)) = some false)), (fun K => decide (PySem.W.kitOne K (.ref (gd "NoName" K)) (.ref (gd "NoStep" K)) = some false)), (fun K => decide (PySem.W.kitOne K (.ref (gd "BadLine" K)) (.ref (gd "NoStep" K)) = some false)), (fun K => decide (PySem.W.kitOne K (.ref (gd "HuntError" K)) (.ref (gd "NoStep" K)) = some false)), (fun K => decide (PySem.W.kitOne K (.ref (gd "BadLength" K)) (.ref (gd "TooMany" K)) = some false)), (fun K => decide (PySem.W.kitOne K (.ref (gd "BadPlace" K)) (.ref (gd "TooMany" K)) = some false)), (fun K => decide (PySem.W.kitOne K (.ref (gd "BadRest" K)) (.ref (gd "TooMany" K)) = some false)), (fun K => decide (PySem.W.kitOne K (.ref (gd "BadRow" K)) (.ref (gd "TooMany" K)) = some false)), (fun K => decide (PySem.W.kitOne K (.ref (gd "BadChange" K)) (.ref (gd "TooMany" K)) = some false)), (fun K => decide (PySem.W.kitOne K (.ref (gd "BadSpan" K)) (.ref (gd "TooMany" K)) = some false)), (fun K => decide (PySem.W.kitOne K (.ref (gd "BadStep" K)) (.ref (gd "TooMany" K)) = some false)), (fun K => decide (PySem.W.kitOne K (.ref (gd "BadNumber" K)) (.ref (gd "TooMany" K)) = some false)), (fun K => decide (PySem.W.kitOne K (.ref (gd "BadForm" K)) (.ref (gd "TooMany" K)) = some false)), (fun K => decide (PySem.W.kitOne K (.ref (gd "BadSpot" K)) (.ref (gd "TooMany" K)) = some false)), (fun K => decide (PySem.W.kitOne K (.ref (gd "Overlap" K)) (.ref (gd "TooMany" K)) = some false)), (fun K => decide (PySem.W.kitOne K (.ref (gd "NoStep" K)) (.ref (gd "TooMany" K)) = some false)), (fun K => decide (PySem.W.kitOne K (.ref (gd "TooMany" K)) (.ref (gd "TooMany" K)) = some true)), (fun K => decide (PySem.W.kitOne K (.ref (gd "Parts" K)) (.ref (gd "TooMany" K)) = some false)), (fun K => decide (PySem.W.kitOne K (.ref (gd "BadText" K)) (.ref (gd "TooMany" K)) = some false)), (fun K => decide (PySem.W.kitOne K (.ref (gd "NoName" K)) (.ref (gd "TooMany" K)) = some false)), (fun K => decide (PySem.W.kitOne K (.ref (gd "BadLine" K)) (.ref (gd "TooMany" K)) = some false)), (fun K => decide (PySem.W.kitOne K (.ref (gd "HuntError" K)) (.ref (gd "TooMany" K)) = some false)), (fun K => decide (PySem.W.kitOne K (.ref (gd "BadLength" K)) (.ref (gd "Parts" K)) = some false)), (fun K => decide (PySem.W.kitOne K (.ref (gd "BadPlace" K)) (.ref (gd "Parts" K)) = some false)), (fun K => decide (PySem.W.kitOne K (.ref (gd "BadRest" K)) (.ref (gd "Parts" K)) = some false)),
  (fun K => decide (PySem.W.kitOne K (.ref (gd "BadRow" K)) (.ref (gd "Parts" K)) = some false)), (fun K => decide (PySem.W.kitOne K (.ref (gd "BadChange" K)) (.ref (gd "Parts" K)) = some false)), (fun K => decide (PySem.W.kitOne K (.ref (gd "BadSpan" K)) (.ref (gd "Parts" K)) = some false)), (fun K => decide (PySem.W.kitOne K (.ref (gd "BadStep" K)) (.ref (gd "Parts" K)) = some false)), (fun K => decide (PySem.W.kitOne K (.ref (gd "BadNumber" K)) (.ref (gd "Parts" K)) = some false)), (fun K => decide (PySem.W.kitOne K (.ref (gd "BadForm" K)) (.ref (gd "Parts" K)) = some false)), (fun K => decide (PySem.W.kitOne K (.ref (gd "BadSpot" K)) (.ref (gd "Parts" K)) = some false)), (fun K => decide (PySem.W.kitOne K (.ref (gd "Overlap" K)) (.ref (gd "Parts" K)) = some false)), (fun K => decide (PySem.W.kitOne K (.ref (gd "NoStep" K)) (.ref (gd "Parts" K)) = some false)), (fun K => decide (PySem.W.kitOne K (.ref (gd "TooMany" K)) (.ref (gd "Parts" K)) = some false)), (fun K => decide (PySem.W.kitOne K (.ref (gd "Parts" K)) (.ref (gd "Parts" K)) = some true)), (fun K => decide (PySem.W.kitOne K (.ref (gd "BadText" K)) (.ref (gd "Parts" K)) = some false)), (fun K => decide (PySem.W.kitOne K (.ref (gd "NoName" K)) (.ref (gd "Parts" K)) = some false)), (fun K => decide (PySem.W.kitOne K (.ref (gd "BadLine" K)) (.ref (gd "Parts" K)) = some false)), (fun K => decide (PySem.W.kitOne K (.ref (gd "HuntError" K)) (.ref (gd "Parts" K)) = some false)), (fun K => decide (PySem.W.kitOne K (.ref (gd "BadLength" K)) (.ref (gd "BadText" K)) = some false)), (fun K => decide (PySem.W.kitOne K (.ref (gd "BadPlace" K)) (.ref (gd "BadText" K)) = some false)), (fun K => decide (PySem.W.kitOne K (.ref (gd "BadRest" K)) (.ref (gd "BadText" K)) = some false)), (fun K => decide (PySem.W.kitOne K (.ref (gd "BadRow" K)) (.ref (gd "BadText" K)) = some false)), (fun K => decide (PySem.W.kitOne K (.ref (gd "BadChange" K)) (.ref (gd "BadText" K)) = some false)), (fun K => decide (PySem.W.kitOne K (.ref (gd "BadSpan" K)) (.ref (gd "BadText" K)) = some false)), (fun K => decide (PySem.W.kitOne K (.ref (gd "BadStep" K)) (.ref (gd "BadText" K)) = some false)), (fun K => decide (PySem.W.kitOne K (.ref (gd "BadNumber" K)) (.ref (gd "BadText" K)) = some false)), (fun K => decide (PySem.W.kitOne K (.ref (gd "BadForm" K)) (.ref (gd "BadText" K)) = some false)), (fun K => decide (PySem.W.kitOne K (.ref (gd "BadSpot" K)) (.ref (gd "BadText" K)) = some false)), (fun K => decide (PySem.W.kitOne K (.ref (gd "Overlap" K)) (.ref (gd "BadText" K)) = some false)), (fun K => decide (PySem.W.kitOne K (.ref (gd "NoStep" K)) (.ref (gd "BadText" K)) = some false)), (fun K => decide (PySem.W.kitOne K (.ref (gd "TooMany" K)) (.ref (gd "BadText" K)) = some false)), (fun K => decide (PySem.W.kitOne K (.ref (gd "Parts" K)) (.ref (gd "BadText" K)) = some false)), (fun K => decide (PySem.W.kitOne K (.ref (gd "BadText" K)) (.ref (gd "BadText" K)) = some true)),
  (fun K => decide (PySem.W.kitOne K (.ref (gd "NoName" K)) (.ref (gd "BadText" K)) = some false)), (fun K => decide (PySem.W.kitOne K (.ref (gd "BadLine" K)) (.ref (gd "BadText" K)) = some false)), (fun K => decide (PySem.W.kitOne K (.ref (gd "HuntError" K)) (.ref (gd "BadText" K)) = some false)), (fun K => decide (PySem.W.kitOne K (.ref (gd "BadLength" K)) (.ref (gd "NoName" K)) = some false)), (fun K => decide (PySem.W.kitOne K (.ref (gd "BadPlace" K)) (.ref (gd "NoName" K)) = some false)), (fun K => decide (PySem.W.kitOne K (.ref (gd "BadRest" K)) (.ref (gd "NoName" K)) = some false)), (fun K => decide (PySem.W.kitOne K (.ref (gd "BadRow" K)) (.ref (gd "NoName" K)) = some false)), (fun K => decide (PySem.W.kitOne K (.ref (gd "BadChange" K)) (.ref (gd "NoName" K)) = some false)), (fun K => decide (PySem.W.kitOne K (.ref (gd "BadSpan" K)) (.ref (gd "NoName" K)) = some false)), (fun K => decide (PySem.W.kitOne K (.ref (gd "BadStep" K)) (.ref (gd "NoName" K)) = some false)), (fun K => decide (PySem.W.kitOne K (.ref (gd "BadNumber" K)) (.ref (gd "NoName" K)) = some false)), (fun K => decide (PySem.W.kitOne K (.ref (gd "BadForm" K)) (.ref (gd "NoName" K)) = some false)), (fun K => decide (PySem.W.kitOne K (.ref (gd "BadSpot" K)) (.ref (gd "NoName" K)) = some false)), (fun K => decide (PySem.W.kitOne K (.ref (gd "Overlap" K)) (.ref (gd "NoName" K)) = some false)), (fun K => decide (PySem.W.kitOne K (.ref (gd "NoStep" K)) (.ref (gd "NoName" K)) = some false)), (fun K => decide (PySem.W.kitOne K (.ref (gd "TooMany" K)) (.ref (gd "NoName" K)) = some false)), (fun K => decide (PySem.W.kitOne K (.ref (gd "Parts" K)) (.ref (gd "NoName" K)) = some false)), (fun K => decide (PySem.W.kitOne K (.ref (gd "BadText" K)) (.ref (gd "NoName" K)) = some false)), (fun K => decide (PySem.W.kitOne K (.ref (gd "NoName" K)) (.ref (gd "NoName" K)) = some true)), (fun K => decide (PySem.W.kitOne K (.ref (gd "BadLine" K)) (.ref (gd "NoName" K)) = some false)), (fun K => decide (PySem.W.kitOne K (.ref (gd "HuntError" K)) (.ref (gd "NoName" K)) = some false)), (fun K => decide (PySem.W.kitOne K (.ref (gd "BadLength" K)) (.ref (gd "BadLine" K)) = some false)), (fun K => decide (PySem.W.kitOne K (.ref (gd "BadPlace" K)) (.ref (gd "BadLine" K)) = some false)), (fun K => decide (PySem.W.kitOne K (.ref (gd "BadRest" K)) (.ref (gd "BadLine" K)) = some false)), (fun K => decide (PySem.W.kitOne K (.ref (gd "BadRow" K)) (.ref (gd "BadLine" K)) = some false)), (fun K => decide (PySem.W.kitOne K (.ref (gd "BadChange" K)) (.ref (gd "BadLine" K)) = some false)), (fun K => decide (PySem.W.kitOne K (.ref (gd "BadSpan" K)) (.ref (gd "BadLine" K)) = some false)), (fun K => decide (PySem.W.kitOne K (.ref (gd "BadStep" K)) (.ref (gd "BadLine" K)) = some false)), (fun K => decide (PySem.W.kitOne K (.ref (gd "BadNumber" K)) (.ref (gd "BadLine" K)) = some false)), (fun K => decide (PySem.W.kitOne K (.ref (gd "BadForm" K)) (.ref (gd "BadLine" K)) = some false)),
  (fun K => decide (PySem.W.kitOne K (.ref (gd "BadSpot" K)) (.ref (gd "BadLine" K)) = some false)), (fun K => decide (PySem.W.kitOne K (.ref (gd "Overlap" K)) (.ref (gd "BadLine" K)) = some false)), (fun K => decide (PySem.W.kitOne K (.ref (gd "NoStep" K)) (.ref (gd "BadLine" K)) = some false)), (fun K => decide (PySem.W.kitOne K (.ref (gd "TooMany" K)) (.ref (gd "BadLine" K)) = some false)), (fun K => decide (PySem.W.kitOne K (.ref (gd "Parts" K)) (.ref (gd "BadLine" K)) = some false)), (fun K => decide (PySem.W.kitOne K (.ref (gd "BadText" K)) (.ref (gd "BadLine" K)) = some false)), (fun K => decide (PySem.W.kitOne K (.ref (gd "NoName" K)) (.ref (gd "BadLine" K)) = some false)), (fun K => decide (PySem.W.kitOne K (.ref (gd "BadLine" K)) (.ref (gd "BadLine" K)) = some true)), (fun K => decide (PySem.W.kitOne K (.ref (gd "HuntError" K)) (.ref (gd "BadLine" K)) = some false)), (fun K => decide (PySem.W.kitOne K (.ref (gd "BadLength" K)) (.ref (gd "HuntError" K)) = some true)), (fun K => decide (PySem.W.kitOne K (.ref (gd "BadPlace" K)) (.ref (gd "HuntError" K)) = some true)), (fun K => decide (PySem.W.kitOne K (.ref (gd "BadRest" K)) (.ref (gd "HuntError" K)) = some true)), (fun K => decide (PySem.W.kitOne K (.ref (gd "BadRow" K)) (.ref (gd "HuntError" K)) = some true)), (fun K => decide (PySem.W.kitOne K (.ref (gd "BadChange" K)) (.ref (gd "HuntError" K)) = some true)), (fun K => decide (PySem.W.kitOne K (.ref (gd "BadSpan" K)) (.ref (gd "HuntError" K)) = some true)), (fun K => decide (PySem.W.kitOne K (.ref (gd "BadStep" K)) (.ref (gd "HuntError" K)) = some true)), (fun K => decide (PySem.W.kitOne K (.ref (gd "BadNumber" K)) (.ref (gd "HuntError" K)) = some true)), (fun K => decide (PySem.W.kitOne K (.ref (gd "BadForm" K)) (.ref (gd "HuntError" K)) = some true)), (fun K => decide (PySem.W.kitOne K (.ref (gd "BadSpot" K)) (.ref (gd "HuntError" K)) = some true)), (fun K => decide (PySem.W.kitOne K (.ref (gd "Overlap" K)) (.ref (gd "HuntError" K)) = some true)), (fun K => decide (PySem.W.kitOne K (.ref (gd "NoStep" K)) (.ref (gd "HuntError" K)) = some true)), (fun K => decide (PySem.W.kitOne K (.ref (gd "TooMany" K)) (.ref (gd "HuntError" K)) = some true)), (fun K => decide (PySem.W.kitOne K (.ref (gd "Parts" K)) (.ref (gd "HuntError" K)) = some true)), (fun K => decide (PySem.W.kitOne K (.ref (gd "BadText" K)) (.ref (gd "HuntError" K)) = some true)), (fun K => decide (PySem.W.kitOne K (.ref (gd "NoName" K)) (.ref (gd "HuntError" K)) = some true)), (fun K => decide (PySem.W.kitOne K (.ref (gd "BadLine" K)) (.ref (gd "HuntError" K)) = some true)), (fun K => decide (PySem.W.kitOne K (.ref (gd "HuntError" K)) (.ref (gd "HuntError" K)) = some true)), (fun K => decide (PySem.W.kitOne K (.ref (gd "BadLength" K)) (.type "ValueError") = some true)), (fun K => decide (PySem.W.kitOne K (.ref (gd "BadPlace" K)) (.type "ValueError") = some true)), (fun K => decide (PySem.W.kitOne K (.ref (gd "BadRest" K)) (.type "ValueError") = some true)),
  (fun K => decide (PySem.W.kitOne K (.ref (gd "BadRow" K)) (.type "ValueError") = some true)), (fun K => decide (PySem.W.kitOne K (.ref (gd "BadChange" K)) (.type "ValueError") = some true)), (fun K => decide (PySem.W.kitOne K (.ref (gd "BadSpan" K)) (.type "ValueError") = some true)), (fun K => decide (PySem.W.kitOne K (.ref (gd "BadStep" K)) (.type "ValueError") = some true)), (fun K => decide (PySem.W.kitOne K (.ref (gd "BadNumber" K)) (.type "ValueError") = some true)), (fun K => decide (PySem.W.kitOne K (.ref (gd "BadForm" K)) (.type "ValueError") = some true)), (fun K => decide (PySem.W.kitOne K (.ref (gd "BadSpot" K)) (.type "ValueError") = some true)), (fun K => decide (PySem.W.kitOne K (.ref (gd "Overlap" K)) (.type "ValueError") = some true)), (fun K => decide (PySem.W.kitOne K (.ref (gd "NoStep" K)) (.type "ValueError") = some true)), (fun K => decide (PySem.W.kitOne K (.ref (gd "TooMany" K)) (.type "ValueError") = some true)), (fun K => decide (PySem.W.kitOne K (.ref (gd "Parts" K)) (.type "ValueError") = some true)), (fun K => decide (PySem.W.kitOne K (.ref (gd "BadText" K)) (.type "ValueError") = some true)), (fun K => decide (PySem.W.kitOne K (.ref (gd "NoName" K)) (.type "ValueError") = some true)), (fun K => decide (PySem.W.kitOne K (.ref (gd "BadLine" K)) (.type "ValueError") = some true)), (fun K => decide (PySem.W.kitOne K (.ref (gd "HuntError" K)) (.type "ValueError") = some true)), (fun K => decide (PySem.W.findIn K (.ref (gd "HuntError" K)) "__init__" = some (some (.builtin "ValueError.__init__")))), fa (.glo "law")]
def loose0 : List Str := ["__name__", "HuntError", "BadLength", "BadPlace", "BadRest", "BadRow", "BadChange", "BadSpan", "BadStep", "BadNumber", "BadForm", "BadSpot"]
def loose1 : List Str := ["Overlap", "NoStep", "TooMany", "Parts", "BadText", "NoName", "BadLine", "_law_pen", "_law_draw", "_law_pick", "_law_value", "_law_by_place"]
def loose2 : List Str := ["_law_by_name", "_law_kept", "_law_classes"]
def loose : List Str := loose0 ++ loose1 ++ loose2
abbrev R : PySem.W.OpenRow := PySem.W.OpenLaw.row PySem.Challenge.rw_everyhunt_k01_errors_kept
def tfs : List He.Defn := []
def adrs : List Addr := [1, 3, 24, 44, 63, 82, 101, 120, 139, 158, 177, 196, 215, 234, 253, 272, 291, 310, 329, 348, 357, 364, 371, 378, 385, 392, 399, 406, 411, 23, 43, 62, 81, 100, 119, 138, 157, 176, 195, 214, 233, 252, 271, 290, 309, 328, 347, 356, 363, 370, 377, 384, 391, 398, 405, 410, 41, 60, 79, 98, 117, 136, 155, 174, 193, 212, 231, 250, 269, 288, 307, 326, 345, 40, 59, 78, 97, 116, 135, 154, 173, 192, 211, 230, 249, 268, 287, 306, 325, 344]
abbrev hk : PySem.W.Hook := Gp.hookL adrs exs fns tfs sds pfile
def ob (s : PySem.W.SharedT) : Gp.AlS := Gp.obsL adrs exs fns tfs sds pfile (HandSHeadRun.getT s)
theorem run (w : World) : HandSHeadRun.RunEq R (PySem.W.view R.prog [28]) hk ob 20000 loose w := by
  intro os
  kernel_rfl
section
variable {K : PySem.W.Frag} {mg : Str → Option Value} {Tb : List (Addr × Str)} {p c : Addr}
end
end Lw
end
section
set_option Elab.async false
set_option linter.all false
set_option maxRecDepth 100000
namespace Gh
open PySem PySem.Spec PyProof.Rows L2
abbrev FnA (K : PySem.W.Frag) (d : Df) (fd : FuncData) : Prop := FunD K d.name d.qual (defArgs d.st) (defBody d.st) (defScope d.st) (d.dvs K) [] (d.adr K) fd
theorem Df.funD {K : PySem.W.Frag} {d : Df} (e : fnAt K (d.adr K) = d.val) (c : d.ok K = true) : ∃ fd, FnA K d fd := by
  obtain ⟨kp, c2⟩ := He.ba c
  unfold fnAt at e
  cases q : K.lookup (d.adr K) with
  | none =>
    rw [q] at c2
    cases c2
  | some o =>
    obtain ⟨oc, od, dt, osl⟩ := o
    rw [q] at c2 e
    cases dt with
    | func fd =>
      obtain ⟨n1, n2, n3, n4, n5, n6, n7, n8, n9, n10, n11, n12, n13, n14, n15⟩ := fd
      have e2 : (some (n1, n2, n3, n4, n5, n6, n7, n15) : He.FnW) = some (d.name, d.qual, defArgs d.st, .stmts (defBody d.st), defScope d.st, mainGlobals, [], builtinsNs) := e
      simp only [Option.some.injEq, Prod.mk.injEq] at e2
      obtain ⟨h1, h2, h3, h4, h5, h6, h7, h8⟩ := e2
      subst h1 h2 h3 h4 h5 h6 h7 h8
      have c3 : (PySem.W.codeIn K n13 d.qual && (He.dflB K n8 (d.dvs K) && He.kwdB K n9 [])) = true := c2
      obtain ⟨k1, k2⟩ := He.ba c3
      obtain ⟨k3, k4⟩ := He.ba k2
      exact ⟨_, ⟨oc, od, n8, n9, n10, n11, n12, n13, n14, osl, rfl, q, k1, He.dflB_ok k3, He.kwdB_ok k4⟩, kp⟩
    | _ => cases c2
theorem Says.fact {ex : List (PySem.W.Frag → Bool)} {fn : List Df} {K : PySem.W.Frag} (c : Says ex fn K) (i : Nat) {f : PySem.W.Frag → Bool} (h : ex[i]? = some f := by rfl) : f K = true := by
  have c1 := (He.ba (show ((ex.all fun f => f K) && fn.all fun d => d.ok K) = true from congrArg (fun z : Al => z.1) c)).1
  exact List.all_eq_true.mp c1 f (List.mem_of_getElem? h)
theorem Says.def_ {ex : List (PySem.W.Frag → Bool)} {fn : List Df} {K : PySem.W.Frag} (c : Says ex fn K) (i : Nat) {d : Df} (h : fn[i]? = some d := by rfl) : ∃ fd, FnA K d fd := by
  have c2 := (He.ba (show ((ex.all fun f => f K) && fn.all fun d => d.ok K) = true from congrArg (fun z : Al => z.1) c)).2
  have e : fn.map (fun d => fnAt K (d.adr K)) = fn.map Df.val := congrArg (fun z : Al => z.2) c
  have e2 : (fn.map fun d => fnAt K (d.adr K))[i]? = (fn.map Df.val)[i]? := by rw [e]
  rw [List.getElem?_map, List.getElem?_map, h] at e2
  exact Df.funD (Option.some.inj e2) (List.all_eq_true.mp c2 d (List.mem_of_getElem? h))
end Gh
end
section
set_option Elab.async false
set_option linter.all false
set_option maxRecDepth 100000
set_option maxHeartbeats 4000000
namespace Gh
open PySem PySem.Spec PyProof.Rows L2
section
variable {P : Program} {w : World} {K : PySem.W.Frag} {mg : Str → Option Value} {base : Heap} {CX : CXT} {j k : Nat} {f : Addr} {fd : FuncData} {ps : List Str} {sp : Sp} {dvs : List V}
theorem fnG_of {x qual : Str} {params : Arguments} {body : List Stmt} {scope : Scope} {kws : List (Str × V)} {N : List Str} (F : FunD K x qual params body scope dvs kws f fd) (S : FnScope N ps scope) (len : ∀ vs H Q E, sp vs H Q E → vs.length = ps.length)
    (hbody : ∀ (cdv : Value) (A : Around) (outer : List Env) (s : Shared) (H : Hp) (vs : List V) (Q : VK) (E : XK), Room k (A.deeper (envOfC qual scope s.heap.objs.size f cdv)) → (A.deeper (envOfC qual scope s.heap.objs.size f cdv)).guards = some [] → sp vs H Q E →
      ∃ t, PSs (cxOf CX P w K mg base N qual scope f cdv A outer s H E) body t ∧ t { nx := fun _ H' => Q .non H', rt := Q } (start N vs) H) : FnG P w K mg base CX (k + 1) f fd ps sp := by
  obtain ⟨oc, od, dV, kV, doc, pm, an, cdv, ct, osl, rfl, lk, hcd, _, _⟩ := F.ex
  refine ⟨len, fun A outer s H args us vs Q E hr hg e0 hb r hsp => ?_⟩
  have hl := len _ _ _ _ hsp
  have KX : K.In s.heap := e0.mod.kin.keeps fun b o e => (e0.bs b o e).1
  have lim : s.heap.NoLimit := e0.mod.nolimit.keeps fun b o e => (e0.bs b o e).1
  have hkind : ∀ y ∈ ps.zip us, scope.names.lookup y.1 = some .local ∨ (scope.names.lookup y.1 = some .cell ∧ ((cellsFrom (s.heap.objs.size + 1) scope.names []).lookup y.1).isSome = true) := fun ⟨n, v⟩ hy => by
    rcases S.par n (List.of_mem_zip hy).1 with q | q
    · exact .inl q
    · exact .inr ⟨q, PySem.W.cellsFrom_some _ _ _ (.inl q)⟩
  refine codeAny_call_function hr.depth (KX _ _ lk) rfl S.co S.gen rfl (PySem.W.codeRec_of KX hcd) (hb _ _ _ _ ?_)
  refine wpAny_newFunctionEnv_cells S.kind hkind fun env he s1 x => ?_
  subst he
  refine ⟨lim.keeps x.toInCall.keep, codeAny_func ?_⟩
  obtain ⟨t, ht, hq⟩ := hbody cdv A outer s H vs Q E (hr.deeper _) hg hsp
  have I : Inv (cxOf CX P w K mg base N qual scope f cdv A outer s H E) [] (start N vs) H s1 := inv_start S hr.hd e0 hl r x
  refine wpAny_mono (ht.run [] s1 (start N vs) H _ I hq) (fun fl s' hs => ?_) fun e s' hs => hs
  cases fl with
  | ret u =>
    obtain ⟨v, σ', H', J, rv, q⟩ := hs
    exact ⟨v, H', J.os, J.bare, J.base, J.hok, rv, q⟩
  | next =>
    obtain ⟨σ', H', J, q⟩ := hs
    exact ⟨V.non, H', J.os, J.bare, J.base, J.hok, rfl, q⟩
  | brk =>
    obtain ⟨_, _, _, q⟩ := hs
    exact False.elim q
  | cont =>
    obtain ⟨_, _, _, q⟩ := hs
    exact False.elim q
end
section
variable {X : Cx} {CX : CXT} {k : Nat} {f g C : Addr} {sp : Sp} {dvs : List V} {E : XK} {x m : Str} {p pos apos : Pos} {e o : Expr} {es : List Expr} {ta tb : TE} {t : TA} {r : List V → Hp → VK → Prop}
@[irreducible] def rMk (C : Addr) (sp : Sp) (dvs : List V) (E : XK) : List V → Hp → VK → Prop := fun vs H Q =>
  ∀ x dx, H x = none → H dx = none → dx ≠ x → sp (.ref x :: (vs ++ dvs)) (upd (upd H dx (.own x)) x (.ins C dx [])) (fun v H2 => v = .non ∧ Q (.ref x) H2) E
theorem guards_make {A : Around} {us : List Value} {kw : List (Str × Value)} (h : A.guards = some []) : (A.under (.builtin "type.__call__" ⟨.ref C :: us, kw⟩)).guards = some [] := by
  show pushGuards (Code.guards (.builtin "type.__call__" ⟨.ref C :: us, kw⟩)) A.guards = some []
  have e : Code.guards (.builtin "type.__call__" ⟨.ref C :: us, kw⟩) = [] := by
    unfold Code.guards
    rw [if_neg (by show ¬ (guardIds.contains "type.__call__" = true); decide)]
  rw [e]
  exact h
theorem Prom.make (M : Mk X.K C f) (F : PromX X CX k f dvs sp) (hr : Room (k + 1) X.A) (hg : X.A.guards = some []) (hx : Passes CX X E) : CallR X (.ref C) (rMk C sp dvs E) := by
  intro pins s σ H vs us Q I r h
  unfold rMk at h
  obtain ⟨fd, ps, ds, G, b, hd⟩ := F
  have hq := h (s.heap.objs.size + 1) s.heap.objs.size (I.hok.fresh (Nat.le_succ _)) (I.hok.fresh (Nat.le_refl _)) (Nat.ne_of_lt (Nat.lt_succ_self _))
  have I2 := Inv.made (C := C) I
  have r2 : Vals (V.ref (s.heap.objs.size + 1) :: (vs ++ dvs)) (Value.ref (s.heap.objs.size + 1) :: (us ++ ds)) := .cons rfl (r.append hd)
  have hl : (Value.ref (s.heap.objs.size + 1) :: us ++ ds).length = ps.length := by
    have e := r2.length
    rw [G.len _ _ _ _ hq] at e
    exact e.symm
  refine wpAny_call (make_map (f := f) I.kIn M.makes M.init (beq_iff_eq.mp M.fn) (codeAny_mono (G.run _ X.stack _ _ ⟨Value.ref (s.heap.objs.size + 1) :: us, []⟩ (Value.ref (s.heap.objs.size + 1) :: (us ++ ds)) _ _ E (hr.make C us []) (guards_make hg)
    (I2.env0.make C us []) (b _ (Value.ref (s.heap.objs.size + 1) :: us) I2.kIn hl) r2 hq) fun r s' hq' => ?_))
  cases r with
  | error e => exact hx pins σ _ _ e s' I2 hq'
  | ok fl =>
    cases fl with
    | ret u =>
      obtain ⟨v, H', I3, rv, ev, q3⟩ := I2.after hq'
      subst ev
      exact ⟨rv, ⟨V.ref (s.heap.objs.size + 1), H', I3, rfl, q3⟩⟩
    | next => exact False.elim hq'
    | brk => exact False.elim hq'
    | cont => exact False.elim hq'
def tCl (r : List V → Hp → VK → Prop) (t : TA) : TE := fun σ H Q => t σ H fun vs H1 => r vs H1 Q
theorem pe_g (R : CallR X (.ref f) r) (hg : Gl X x) (hm : X.mg x = some (.ref f)) (hk : PySem.W.keepIn X.K (.ref f) = true)
    (ha : PA X (e :: es) t) (hdb : (x == ("__debug__" : Str)) = false := by decide) (he : starEach (e :: es) X.env = (false, eval e X.env) :: starEach es X.env := by rfl) (hpl : (backTo pos (starEach es X.env)).any (·.1) = false := by rfl) :
    PE X (.Call (.Name x p) (e :: es) [] pos) (tCl r t) := by
  refine ⟨fun pins s σ H Q I h => ?_⟩
  refine wpAny_Call_Name_kw (ld_glob I hg hm ?_ hdb)
  refine PySem.W.callWith_K (h₀ := X.base) I.ok.mod.kin hk (thn (ha.run pos pins s σ H _ I h) fun us s1 ⟨vs, H1, I1, r, q⟩ => ⟨I1.kIn, ?_⟩) he hpl
  exact R pins s1 σ H1 vs us Q I1 r q
theorem pe_g0 (R : CallR X (.ref f) r) (hg : Gl X x) (hm : X.mg x = some (.ref f)) (hk : PySem.W.keepIn X.K (.ref f) = true) (hdb : (x == ("__debug__" : Str)) = false := by decide) : PE X (.Call (.Name x p) [] [] pos) (tCl r tNil) := by
  refine ⟨fun pins s σ H Q I h => ?_⟩
  refine wpAny_Call_Name_kw (ld_glob I hg hm ?_ hdb)
  exact PySem.W.callWith_K0 I.kIn hk (R pins s σ H [] [] Q I .nil h)
def tMt (C : Addr) (m : Str) (r : List V → Hp → VK → Prop) (ta : TE) (t : TA) : TE := fun σ H Q => ta σ H fun x H1 => ∃ a dx fs, x = .ref a ∧ H1 a = some (.ins C dx fs) ∧ fs.lookup m = none ∧ t σ H1 fun vs H2 => r (x :: vs) H2 Q
def tPr (C : Addr) (sp : Sp) (dvs : List V) (E : XK) (ta : TE) : TE := fun σ H Q => ta σ H fun x H1 => ∃ a dx fs, x = .ref a ∧ H1 a = some (.ins C dx fs) ∧ sp (.ref a :: dvs) H1 Q E
end
end Gh
end
section
set_option Elab.async false
set_option linter.all false
set_option maxRecDepth 100000
set_option maxHeartbeats 4000000
namespace Gh
open PySem PySem.Spec PyProof.Rows L2
theorem law_callG {P : Program} {w : World} {K : PySem.W.Frag} {mg mb : Str → Option Value} {CX : CXT} {k : Nat} {fa a : Addr} {fd : FuncData} {x : Str} {sp : Sp} {s₁ : Shared} {vs : List Value} {ns : List Int}
    (KX : K.In s₁.heap) (hns : s₁.heap.Ns mainGlobals mg) (hb : s₁.heap.Ns builtinsNs mb) (hbb : ∀ x : Str, x ≠ "__name__" → mb x = bootBuiltins x) (hlim : s₁.heap.NoLimit) (hg : s₁.gens = #[])
    (ha : s₁.heap.get? a = some { cls := .type "list", data := .seq vs.toArray }) (hi : IntsAre vs ns) (hl : ns.length ≤ sizeLine) (hr : Room k callerA)
    (F : ∀ base : Heap, K.In base → base.Ns mainGlobals mg → FnG P w K mg base CX k fa fd [x] sp) (hbind : ∀ (s : Shared) (u : Value), BindsTo s fd ⟨[u], []⟩ [(x, u)])
    (hsp : ∀ H : Hp, Only H → SqL K H a (ns.map V.int) → sp [.ref a] H (fun v _ => v = .bl true) fun _ _ _ => False)
    (hCX : ∀ H e s', CX [] H s₁ (fun _ _ _ => False) e s' → False) :
    codeAny (model P w) callerA (.call (.ref fa) ⟨[.ref a], []⟩) (fun r s' => r = .ok (.ret (.bool true)) ∧ OldK s₁.heap s'.heap ∧ s'.os = s₁.os ∧ AllBare s'.gens) s₁ := by
  have rv := vals_ints hi
  have lenV := hi.length
  -- from an abstract heap in which nothing but the script may be tracked
  have core : ∀ H : Hp, Only H → SqL K H a (ns.map V.int) → HOk P w H s₁.heap → (∀ b, H b ≠ none → b = a) → (H a ≠ none → K.lookup a = none) →
      codeAny (model P w) callerA (.call (.ref fa) ⟨[.ref a], []⟩) (fun r s' => r = .ok (.ret (.bool true)) ∧ OldK s₁.heap s'.heap ∧ s'.os = s₁.os ∧ AllBare s'.gens) s₁ := by
    intro H hO hS hok hA hK
    have base_of : ∀ {b : Addr} {o : Obj}, s₁.heap.get? b = some o → H b = none → (hidT s₁.heap H).get? b = some o := fun e n => hidT_get e n
    have noA : ∀ {b : Addr} {o : Obj} {es : Array DictEntry} {ep : Nat}, s₁.heap.get? b = some o → o.data = .dict es ep → H b = none := fun {b o es ep} e d => by
      cases q : H b with
      | none => rfl
      | some u =>
        have e' : b = a := hA b (by rw [q]; simp)
        subst e'
        rw [ha] at e; cases e
        have d' : Data.seq vs.toArray _ = Data.dict es ep := d
        cases d'
    have nsK : ∀ {b : Addr} {m : Str → Option Value}, s₁.heap.Ns b m → (hidT s₁.heap H).Ns b m := fun {b m} ⟨o, es, ep, e, d, r⟩ => ⟨o, es, ep, base_of e (noA e d), d, r⟩
    have hKb : K.In (hidT s₁.heap H) := fun b o e => base_of (KX b o e) (by
      cases q : H b with
      | none => rfl
      | some u =>
        have e' : b = a := hA b (by rw [q]; simp)
        subst e'
        rw [hK (by rw [q]; simp)] at e; cases e)
    have hM : Mod K mg (hidT s₁.heap H) := ⟨hKb, nsK hns, ⟨mb, nsK hb, hbb⟩, let ⟨mc, h1, h2⟩ := hlim; ⟨mc, nsK h1, h2⟩⟩
    have e0 : Env0 P w K mg (hidT s₁.heap H) callerA [] s₁ H := ⟨rfl, hM, fun b o e => of_hidT e, Nat.le_of_eq (hidT_size _ _), trivial, fun b hb => absurd (show b ∈ ([] : List Addr) from hb) (by simp), hok, .of_eq hg⟩
    refine codeAny_mono ((F _ hKb (nsK hns)).run callerA [] s₁ H ⟨[.ref a], []⟩ [.ref a] [.ref a] _ _ hr rfl e0 (hbind s₁ (.ref a)) (.cons rfl .nil) (hsp H hO hS)) fun r s' h => ?_
    cases r with
    | error e => exact (hCX H e s' h).elim
    | ok fl =>
      cases fl with
      | next => exact False.elim h
      | brk => exact False.elim h
      | cont => exact False.elim h
      | ret u =>
        obtain ⟨v, H', os, bare, un, hok', r', q⟩ := h
        have q' : v = .bl true := q
        subst q'
        obtain rfl : u = Value.bool true := r'
        refine ⟨rfl, OldK.of_keep fun b o e => ?_, os, bare⟩
        cases q : H b with
        | none => exact un.keep b o e q (by intro z; exact absurd (show b ∈ ([] : List Addr) from z) (by simp)) (by simp)
        | some u =>
          rcases hO b with z | ⟨ob, xs, z⟩
          · rw [q] at z; cases z
          · have z2 := un.frzs b ob _ z
            obtain ⟨e1, _⟩ := hok b _ z
            obtain ⟨e2, _⟩ := hok' b _ z2
            rw [e] at e1; cases e1
            exact e2
  cases hk : K.lookup a with
  | some o =>
    -- the script is one of the module's own objects
    have e := KX a o hk
    rw [ha] at e
    cases e
    refine core (fun _ => none) (fun _ => .inl rfl) (.inr ⟨_, vs.toArray, _, hk, rfl, rfl, rfl, by rw [List.size_toArray, lenV]; exact hl, by simpa using rv⟩) (fun b u z => by have z' : (none : Option HO) = some u := z; cases z') (fun b z => absurd rfl z) fun z => absurd rfl z
  | none =>
    refine core (fun b => if b = a then some (.frz { cls := .type "list", data := .seq vs.toArray } (.lst (ns.map V.int))) else none) (fun b => ?_) (.inl (.inr ⟨{ cls := .type "list", data := .seq vs.toArray }, if_pos rfl⟩)) (fun b u z => ?_) (fun b z => ?_) fun _ => hk
    · by_cases hb : b = a
      · exact .inr ⟨_, _, if_pos hb⟩
      · exact .inl (if_neg hb)
    · by_cases hb : b = a
      · have z' := (if_pos hb).symm.trans z
        cases z'
        subst hb
        exact ⟨ha, by rw [List.length_map]; exact hl, vs, _, rv, ha⟩
      · have z' := (if_neg hb).symm.trans z
        cases z'
    · by_cases hb : b = a
      · exact hb
      · exact absurd (if_neg hb) z
theorem walk_ofG {l : PySem.W.OpenLaw} {n k : Nat} {q : Program} {loose : List Str} {XP : (Str → Option Value) → Heap → Prop} {YP : World → Heap → Prop} {d : DefRec} {CX : World → CXT} {x : Str}
    (hn : l.most = some n) (hn2 : n ≤ sizeLine) (hdf : d.params.defaults = []) (hr : Room k callerA)
    (F : ∀ (w : World) (mg : Str → Option Value) (fa : Addr) (h : Heap), YP w h → h.Ns mainGlobals mg → mg d.name = some (.ref fa) →
      ∃ (K : PySem.W.Frag) (fd : FuncData) (sp : Sp), K.In h ∧ (∀ (s : Shared) (u : Value), BindsTo s fd ⟨[u], []⟩ [(x, u)]) ∧
        (∀ (H : Hp) (a : Addr) (ns : List Int), ns.length ≤ n → Only H → SqL K H a (ns.map V.int) → sp [.ref a] H (fun v _ => v = .bl true) fun _ _ _ => False) ∧
        ∀ base : Heap, K.In base → base.Ns mainGlobals mg → FnG l.prog w K mg base (CX w) k fa fd [x] sp)
    (hCX : ∀ (w : World) (H : Hp) (s : Shared) (e : Value) (s' : Shared), CX w [] H s (fun _ _ _ => False) e s' → False) :
    PySem.W.WalkO q loose XP YP l.row.toRowW d [] (fun f vs => PySem.call f vs) := by
  refine Att.attach_call hn hdf fun w s₀ s₁ mg mb fa o pm cd doc a vs ns G Y ho hd hcd hmg hobj hints hlen hg => ?_
  obtain ⟨K, fd, sp, KX, hb, hsp, hF⟩ := F w mg fa _ Y G.T.g hmg
  exact law_callG KX G.T.g G.T.b G.T.builtins G.T.nolimit hg hobj hints (Nat.le_trans hlen hn2) hr hF hb (fun H hO hS => hsp H a ns hlen hO hS) fun H e s' => hCX w H s₁ e s'
end Gh
end
section
set_option Elab.async false
set_option linter.all false
set_option maxRecDepth 100000
set_option maxHeartbeats 4000000
namespace Gh
open PySem PySem.Spec PyProof.Rows L2
theorem Keep.put {H H' : Hp} {p : Addr} {o : HO} (h : Keep H H' p) : Keep H (upd H' p o) p := fun a u e ne => by
  rw [upd_ne ne]
  exact h a u e ne
theorem PenAt.le {H : Hp} {p : Addr} {a b : Nat} (h : PenAt H p b) (k : a ≤ b) : PenAt H p a := by
  obtain ⟨c, ns, i, z, h1, h2, h3, h4, h5, h6⟩ := h
  exact ⟨c, ns, i, z, h1, h2, h3, h4, by omega, h6⟩
theorem dp_ints (K : PySem.W.Frag) (H : Hp) : ∀ ns : List Int, DpAll K H (ns.map V.int) (ns.map PyData.int)
  | [] => .nil
  | n :: r => .cons (.int n) (dp_ints K H r)
theorem eqv_nil (ds : List PyData) : PyData.eqv (.list ds) (.list []) = ds.isEmpty := by
  cases ds <;> rfl
theorem atI_int {ns : List Int} {i : Int} (h0 : 0 ≤ i) (h1 : i < ns.length) : ∃ v, atI (ns.map V.int) i = some (.int v) ∧ v ∈ ns := by
  obtain ⟨j, rfl⟩ : ∃ j : Nat, i = j := ⟨i.toNat, by omega⟩
  have hl : j < ns.length := by omega
  refine ⟨ns[j], atI_nat ?_, List.getElem_mem hl⟩
  rw [List.getElem?_map, List.getElem?_eq_getElem hl]
  rfl
theorem pow_lt {i : Int} (h0 : 0 ≤ i) (h1 : i < 18446744073709551616) : i.natAbs < 2 ^ 64 := by
  have e : (2 : Nat) ^ 64 = 18446744073709551616 := by decide
  rw [e]
  omega
theorem mix_ok {x i a b c : Int} (h0 : 0 ≤ x) (h1 : x < 4294967296) (h2 : 0 ≤ i) (h3 : i ≤ 1000000) (ha : 0 ≤ a ∧ a ≤ 1000000) (hb : 0 ≤ b ∧ b ≤ 1000000) (hc : 0 ≤ c ∧ c ≤ 1000000) : (x * (2 * i + a) + b * i * i + c).natAbs < 2 ^ 64 := by
  have hii : 0 ≤ i * i ∧ i * i ≤ 1000000 * 1000000 := ⟨Int.mul_nonneg h2 h2, Int.mul_le_mul h3 h3 h2 (by decide)⟩
  have hxi : 0 ≤ x * (2 * i + a) ∧ x * (2 * i + a) ≤ 4294967296 * 4000000 := ⟨Int.mul_nonneg h0 (by omega), Int.mul_le_mul (by omega) (by omega) (by omega) (by decide)⟩
  have hbi : 0 ≤ b * (i * i) ∧ b * (i * i) ≤ 1000000 * (1000000 * 1000000) := ⟨Int.mul_nonneg hb.1 hii.1, Int.mul_le_mul hb.2 hii.2 hii.1 (by decide)⟩
  have e : b * i * i = b * (i * i) := Int.mul_assoc _ _ _
  refine pow_lt ?_ ?_ <;> (rw [e]; omega)
theorem mod_lt (x : Int) {m : Int} (h : 0 < m) : 0 ≤ x % m ∧ x % m < m := ⟨Int.emod_nonneg _ (by omega), Int.emod_lt_of_pos _ h⟩
theorem cut_all {xs : List V} {n : Nat} (h : xs.length ≤ n) : cutV xs none (some (n : Int)) = xs := by
  unfold cutV
  rw [HT.sIx_none, HT.sIx_nat, Nat.min_eq_right h, List.drop_zero, Nat.sub_zero]
  exact List.take_length
abbrev rInt1 : List V → Hp → VK → Prop := fun xs H Q => (∃ i, xs = [V.int i] ∧ Q (V.int i) H) ∨ ∃ k, xs = [V.bl k] ∧ Q (V.int (if k = true then 1 else 0)) H
def tCut (t u : TS) : TS := fun D σ H => ∃ M : L2.St → Hp → Prop, t { D with nx := M } σ H ∧ ∀ σ' H', M σ' H' → u D σ' H'
theorem pss_cut {X : Cx} {st : Stmt} {rest : List Stmt} {t u : TS} (h1 : PS X st t) (h2 : PSs X rest u) : PSs X (st :: rest) (tCut t u) := by
  refine ⟨fun pins s σ H D I h => ?_⟩
  obtain ⟨M, hm, hu⟩ := h
  refine wpAny_execs_cons (thn (h1.run pins s σ H { D with nx := M } I hm) fun f s1 q => ?_)
  cases f with
  | next =>
    obtain ⟨σ1, H1, I1, q1⟩ := q
    exact h2.run pins s1 σ1 H1 D I1 (hu σ1 H1 q1)
  | ret v => exact q
  | brk => exact q
  | cont => exact q
end Gh
end
section
set_option Elab.async false
set_option linter.all false
set_option maxRecDepth 100000
set_option maxHeartbeats 4000000
namespace Gh
open PySem PySem.Spec PyProof.Rows L2
theorem fnG0 {P : Program} {w : World} {K : PySem.W.Frag} {mg : Str → Option Value} {base : Heap} {CX : CXT} {k : Nat} {f : Addr} {fd : FuncData} {ps : List Str} {sp : Sp} {dvs : List V} {x qual : Str} {params : Arguments} {body : List Stmt} {scope : Scope} {kws : List (Str × V)} {N : List Str}
    (F : FunD K x qual params body scope dvs kws f fd) (S : FnScope N ps scope) (len : ∀ vs H Q E, sp vs H Q E → vs.length = ps.length)
    (hbody : ∀ (cdv : Value) (A : Around) (outer : List Env) (s : Shared) (H : Hp) (vs : List V) (Q : VK) (E : XK), Room k (A.deeper (envOfC qual scope s.heap.objs.size f cdv)) → (A.deeper (envOfC qual scope s.heap.objs.size f cdv)).guards = some [] → sp vs H Q E →
      ∃ t, PSs (cxOf CX P w K mg base N qual scope f cdv A outer s H E).nox body t ∧ t { nx := fun _ H' => Q .non H', rt := Q } (start N vs) H) : FnG P w K mg base CX (k + 1) f fd ps sp :=
  fnG_of F S len fun cdv A outer s H vs Q E hr hg h => by
    obtain ⟨t, ht, q⟩ := hbody cdv A outer s H vs Q E hr hg h
    exact ⟨t, PSs.nox ht, q⟩
section
variable {X : Cx} {K : PySem.W.Frag}
theorem ix_listK (h : X.K = K) : IxR X (rIxL K) := h ▸ ix_list
end
end Gh
end
section
set_option Elab.async false
set_option linter.all false
set_option maxRecDepth 100000
set_option maxHeartbeats 4000000
namespace Gh
open PySem PySem.Spec PyProof.Rows L2
theorem exk_ok {P : Program} {w : World} {H : Hp} {h : Heap} {a C d : Addr} {o : Obj} {vs : Array Value} (h1 : h.get? a = some o) (h2 : o.cls = .ref C) (h3 : o.dict = some d) (h4 : o.data = .fields vs) : ObjOk P w H h a (exk a C d) :=
  ⟨⟨o, vs, h1, h2, h3, h4⟩, ⟨o, h1⟩, fun _ _ z k => by
    obtain ⟨o, vs, h1, h2, h3, h4⟩ := z
    exact ⟨o, vs, k _ h1, h2, h3, h4⟩⟩
theorem exk_at {P : Program} {w : World} {H : Hp} {h : Heap} {a C d : Addr} (hok : HOk P w H h) (e : H a = some (exk a C d)) : ∃ (o : Obj) (vs : Array Value), h.get? a = some o ∧ o.cls = .ref C ∧ o.dict = some d ∧ o.data = .fields vs :=
  (show ObjOk P w H h a (exk a C d) from hok a _ e).1
theorem exk0_ok {P : Program} {w : World} {H : Hp} {h : Heap} {a C : Addr} {o : Obj} {vs : Array Value} (h1 : h.get? a = some o) (h2 : o.cls = .ref C) (h3 : o.dict = none) (h4 : o.data = .fields vs) : ObjOk P w H h a (exk0 a C) :=
  ⟨⟨o, vs, h1, h2, h3, h4⟩, ⟨o, h1⟩, fun _ _ z k => by
    obtain ⟨o, vs, h1, h2, h3, h4⟩ := z
    exact ⟨o, vs, k _ h1, h2, h3, h4⟩⟩
theorem exk0_at {P : Program} {w : World} {H : Hp} {h : Heap} {a C : Addr} (hok : HOk P w H h) (e : H a = some (exk0 a C)) : ∃ (o : Obj) (vs : Array Value), h.get? a = some o ∧ o.cls = .ref C ∧ o.dict = none ∧ o.data = .fields vs :=
  (show ObjOk P w H h a (exk0 a C) from hok a _ e).1
structure ErrT (K : PySem.W.Frag) (C : Addr) : Prop where
  hg : PySem.W.findIn K (.ref C) "__getattribute__" = some (some (.builtin "BaseException.__getattribute__"))
  hk : PySem.W.findIn K (.ref C) "__getattr__" = some none
  hs : PySem.W.subIn K (.ref C) (.type "BaseException") = some true
  hd : PySem.W.hasDictIn K C = true
  ha : PySem.W.findIn K (.ref C) "__class__" = some (some (.builtin "object.__class__"))
  hn : PySem.W.specialIn K (.builtin "object.__class__") "__get__" = some (some (.builtin "getset_descriptor.__get__"))
  htk : PySem.W.takesIn K (.builtin "object.__class__") = some true
  hm : PySem.W.mroIn K C (.type "object") = some true
theorem errB_ok {x : Str} {K : PySem.W.Frag} (h : errB x K = true) : ErrT K (gd x K) := by
  obtain ⟨h1, h⟩ := He.ba h
  obtain ⟨h2, h⟩ := He.ba h
  obtain ⟨h3, h⟩ := He.ba h
  obtain ⟨h4, h⟩ := He.ba h
  obtain ⟨h5, h⟩ := He.ba h
  obtain ⟨h6, h⟩ := He.ba h
  obtain ⟨h7, h8⟩ := He.ba h
  exact ⟨He.eqO_ok h1, He.eqO_ok h2, of_decide_eq_true h3, h4, He.eqO_ok h5, He.eqO_ok h6, of_decide_eq_true h7, of_decide_eq_true h8⟩
section
variable {X : Cx} {e : Expr} {te : TE} {pos : Pos} {n : Str}
theorem exk_inst {pins : List (Addr × Obj)} {σ : L2.St} {H : Hp} {s : Shared} {a C d : Addr} {fs : List (Str × V)} (I : Inv X pins σ H s) (h1 : H a = some (exk a C d)) (h2 : H d = some (.xd fs)) :
    ∃ o od mA, PySem.W.InstAt s.heap a o C (some od) ∧ s.heap.Ns1 d mA ∧ (∀ f, RelO (fs.lookup f) (mA f)) ∧ s.heap.get? d = some od := by
  obtain ⟨o, vs, k1, k2, k3, k4⟩ := exk_at I.hok h1
  obtain ⟨mA, hns, hr⟩ := (show ObjOk X.prog X.w H s.heap d (.xd fs) from I.hok d _ h2)
  obtain ⟨od, ho, hl⟩ := lookIn_ns hns
  exact ⟨o, od, mA, ⟨k1, k2, by unfold PySem.W.notCls; rw [k4] <;> rfl, by rw [k3]; exact ho⟩, hns, hr, ho⟩
def tXa (K : PySem.W.Frag) (n : Str) (te : TE) : TE := fun σ H Q => te σ H fun x H1 => ∃ (a C d : Addr) (fs : List (Str × V)) (v : V), x = .ref a ∧ H1 a = some (exk a C d) ∧ ErrT K C ∧ PySem.W.findIn K (.ref C) n = some none ∧ H1 d = some (.xd fs) ∧ fs.lookup n = some v ∧ Q v H1
theorem pe_xa {K : PySem.W.Frag} (hK : X.K = K) (he : PE X e te) (hb : attributeBase e n X.env (eval e X.env) = eval e X.env := by rfl) : PE X (.Attribute e n pos) (tXa K n te) := by
  subst hK
  refine ⟨fun pins s σ H Q I h => ?_⟩
  refine attr_of hb (thn (he.run pins s σ H _ I h) fun u s1 hh => ?_)
  obtain ⟨x, H1, I1, rx, a, C, d, fs, v, ex, ea, T, hno, ed, l, q⟩ := hh
  subst ex
  obtain rfl : u = Value.ref a := rx
  obtain ⟨o, vs, k1, k2, k3, k4⟩ := exk_at I1.hok ea
  obtain ⟨mA, hns, hr⟩ := (show ObjOk X.prog X.w H1 s1.heap d (.xd fs) from I1.hok d _ ed)
  obtain ⟨od, ho, hl⟩ := lookIn_ns hns
  obtain ⟨u, hu, ru⟩ := RelO.some_of (v := v) (o := mA n) (by rw [← l]; exact hr n)
  have J : PySem.W.InstAt s1.heap a o C (some od) := ⟨k1, k2, by unfold PySem.W.notCls; rw [k4] <;> rfl, by rw [k3]; exact ho⟩
  exact HandSPX.exc_get I1.kIn J T.hg T.hk T.hs (PySem.W.findObj_own T.hd hno rfl (by rw [hl, hu])) (handed_of ru) ⟨v, H1, I1.tok _, ru, q⟩
def rIsiZ (K : PySem.W.Frag) : List V → Hp → VK → Prop := fun xs H Q => rIsi K xs H Q ∨ (∃ (a C : Addr) (c : V) (u : Value) (b : Bool), xs = [.ref a, c] ∧ ClsV c u ∧ H a = some (exk0 a C) ∧ ErrT K C ∧ PySem.W.kitOne K (.ref C) u = some b ∧ Q (.bl b) H) ∨ ∃ (a C d : Addr) (fs : List (Str × V)) (c : V) (u : Value) (b : Bool), xs = [.ref a, c] ∧ ClsV c u ∧ H a = some (exk a C d) ∧ H d = some (.xd fs) ∧ ErrT K C ∧ PySem.W.kitOne K (.ref C) u = some b ∧ Q (.bl b) H
theorem call_isiZ {K : PySem.W.Frag} (hK : X.K = K) : CallR X (.builtin "isinstance") (rIsiZ K) := by
  subst hK
  intro pins s σ H xs us Q I r h
  rcases h with h | ⟨a, C, c, u, b, rfl, k, ea, T, e, q⟩ | ⟨a, C, d, fs, c, u, b, rfl, k, ea, ed, T, e, q⟩
  · exact call_isi pins s σ H xs us Q I r h
  · obtain ⟨u1, u2, rfl, r1, r2⟩ := vals2 r
    obtain rfl : u1 = Value.ref a := r1
    have e2 := k.eq r2
    subst e2
    obtain ⟨o, vs, k1, k2, k3, k4⟩ := exk0_at I.hok ea
    have J : PySem.W.InstAt s.heap a o C none := ⟨k1, k2, by unfold PySem.W.notCls; rw [k4] <;> rfl, by rw [k3]; exact True.intro⟩
    have hcl : (PySem.W.clsIn X.K C).isSome = true := by
      obtain ⟨cd, hc, _⟩ := PySem.W.any_some T.hd
      rw [hc]
      rfl
    exact PySem.W.kia_one (PySem.W.kitx_exc hcl T.hg T.hk T.hs T.ha T.hn T.htk T.hm) I.kIn J e (fun z => nomatch z) fun tk => ⟨.bl b, H, I.tok tk, rfl, q⟩
  · obtain ⟨u1, u2, rfl, r1, r2⟩ := vals2 r
    obtain rfl : u1 = Value.ref a := r1
    have e2 := k.eq r2
    subst e2
    obtain ⟨o, od, mA, J, _⟩ := exk_inst I ea ed
    have hcl : (PySem.W.clsIn X.K C).isSome = true := by
      obtain ⟨cd, hc, _⟩ := PySem.W.any_some T.hd
      rw [hc]
      rfl
    exact PySem.W.kia_one (PySem.W.kitx_exc hcl T.hg T.hk T.hs T.ha T.hn T.htk T.hm) I.kIn J e (fun z => nomatch z) fun tk => ⟨.bl b, H, I.tok tk, rfl, q⟩
end
section
variable {X : Cx} {x n : Str} {c : Value} {i : Nat} {body suite : List Stmt} {b₀ : Stmt} {np pos pos' : Pos} {tb : WX → TS} {ts : Addr → Value → Option Addr → TS} {Wout : WX}
end
end Gh
end
section
set_option Elab.async false
set_option linter.all false
set_option maxRecDepth 100000
set_option maxHeartbeats 4000000
namespace Gh
open PySem PySem.Spec PyProof.Rows L2
theorem fnO0 {P : Program} {w : World} {K : PySem.W.Frag} {mg : Str → Option Value} {base : Heap} {CX : CXT} {k : Nat} {f : Addr} {fd : FuncData} {ps : List Str} {sp : Sp} {dvs : List V} {x qual : Str} {params : Arguments} {body : List Stmt} {scope : Scope} {kws : List (Str × V)} {N : List Str}
    (F : FunD K x qual params body scope dvs kws f fd) (S : FnScope N ps scope) (len : ∀ vs H Q E, sp vs H Q E → vs.length = ps.length)
    (hbody : ∀ (cdv : Value) (A : Around) (outer : List Env) (s : Shared) (H : Hp) (vs : List V) (Q : VK) (E : XK), Room k (A.deeper (envOfC qual scope s.heap.objs.size f cdv)) → sp vs H Q E →
      ∃ t, PSs (cxOf CX P w K mg base N qual scope f cdv A outer s H E).nox body t ∧ t { nx := fun _ H' => Q .non H', rt := Q } (start N vs) H) : FnOk P w K mg base CX (k + 1) f fd ps sp :=
  F.ok S len fun cdv A outer s H vs Q E hr h => by
    obtain ⟨t, ht, q⟩ := hbody cdv A outer s H vs Q E hr h
    exact ⟨t, PSs.nox ht, q⟩
section
variable {X : Cx} {CX : CXT} {k : Nat} {f g C : Addr} {sp : Sp} {dvs : List V} {E : XK} {m : Str} {pos : Pos} {o : Expr} {ta : TE}
theorem PromO.make (M : Mk X.K C f) (F : PromOX X CX k f dvs sp) (hr : Room (k + 1) X.A) (hx : Passes CX X E) : CallR X (.ref C) (rMk C sp dvs E) := by
  intro pins s σ H vs us Q I r h
  unfold rMk at h
  obtain ⟨fd, ps, ds, G, b, hd⟩ := F
  exact run_make M G hr b hd hx I r h
end
theorem oexB_ok {x : Str} {K : PySem.W.Frag} (h : oexB x K = true) : OexC K (gd x K) := by
  obtain ⟨h1, h⟩ := He.ba h
  obtain ⟨h2, h⟩ := He.ba h
  obtain ⟨h3, h⟩ := He.ba h
  obtain ⟨h4, h5⟩ := He.ba h
  refine ⟨?_, He.eqO_ok h2, of_decide_eq_true h3, of_decide_eq_true h4, h5⟩
  split at h1
  · rename_i c dd nm bs m bm ns qn hd sn sb ab col dl k0 k1 k2 k3 n k5 e
    obtain ⟨z1, h1⟩ := He.ba h1
    obtain ⟨z2, h1⟩ := He.ba h1
    obtain ⟨z3, h1⟩ := He.ba h1
    obtain ⟨z4, h1⟩ := He.ba h1
    obtain ⟨z5, z6⟩ := He.ba h1
    have y1 := of_decide_eq_true z1
    have y2 := of_decide_eq_true z2
    have y6 := of_decide_eq_true z6
    have y5 : dl = false := by simpa using z5
    subst y1 y6 y5 z4
    refine ⟨nm, qn, ns, bs, bm, sn, sb, ab, col, dd, k0, k1, k2, k3, k5, ?_, z3⟩
    rw [e, y2]
  · cases h1
def spErr1 (C : Addr) (f : Str) : Sp := fun vs H Q _ => ∃ (a : Addr) (v : V), vs = [.ref a, v] ∧ H a = some (exo a C none) ∧ ∀ d, H d = none → d ≠ a → Q .non (upd (upd H d (exd d [(f, v)])) a (exo a C (some d)))
def spErr2 (C : Addr) (f g : Str) : Sp := fun vs H Q _ => ∃ (a : Addr) (v u : V), vs = [.ref a, v, u] ∧ H a = some (exo a C none) ∧ ∀ d, H d = none → d ≠ a → Q .non (upd (upd (upd H d (exd d [(f, v)])) a (exo a C (some d))) d (exd d [(g, u), (f, v)]))
end Gh
end
section
set_option Elab.async false
set_option linter.all false
set_option maxRecDepth 100000
set_option maxHeartbeats 4000000
namespace Gh
open PySem PySem.Spec PyProof.Rows L2
@[irreducible] def rShow (K : PySem.W.Frag) : List V → Hp → VK → Prop := fun xs H Q => ∃ v t, xs = [v] ∧ Shw K H v t ∧ Q (.str t) H
theorem rShow_of {K : PySem.W.Frag} {v : V} {t : Str} {H : Hp} {Q : VK} (h : Shw K H v t) (q : Q (.str t) H) : rShow K [v] H Q := by
  unfold rShow
  exact ⟨v, t, rfl, h, q⟩
section
variable {X : Cx} {K : PySem.W.Frag}
theorem call_show (hK : X.K = K) (hu : X.A.units + 102 < cLine) (hg : X.A.guards = some []) : CallR X (.builtin "repr") (rShow K) := by
  subst hK
  intro pins s σ H xs us Q I r h
  unfold rShow at h
  obtain ⟨v, t, rfl, hs, q⟩ := h
  obtain ⟨u, rfl, ru⟩ := vals1 r
  cases hs with
  | non =>
    cases (show u = Value.none from ru)
    exact PySem.P.repr_of_none ⟨.str _, H, I.tok _, ⟨_, rfl⟩, q⟩
  | bl b =>
    cases (show u = Value.bool b from ru)
    exact PySem.P.repr_of_bool ⟨.str _, H, I.tok _, ⟨_, rfl⟩, q⟩
  | int i h =>
    obtain ⟨t, rfl⟩ := ru
    exact PySem.P.repr_of_int h ⟨.str _, H, I.tok _, ⟨_, rfl⟩, q⟩
  | str x h =>
    obtain ⟨t, rfl⟩ := ru
    exact PySem.P.repr_of_str ⟨.str _, H, I.tok _, ⟨_, rfl⟩, q⟩ (hsz := h)
  | dp hd h1 h2 h3 h4 =>
    rename_i a d
    cases (show u = Value.ref a from ru)
    obtain ⟨as, rd⟩ := Dp.reads I d _ _ hd rfl
    exact repr_of_reads' rd h1 (fun z => by rw [h2] at z; cases z) hg (by omega) (fun _ _ e => e) (fun h' u tk k => ⟨.str d.shown, H, I.kept k, ⟨u, rfl⟩, q⟩) h4
variable {CX : CXT} {x : Str} {C fI : Addr} {k : Nat} {sp : Sp} {dvs : List V} {e : Expr} {es : List Expr} {ta : TA} {p pos : Pos}
end
structure IniT (K : PySem.W.Frag) (C f : Addr) : Prop where
  iC : PySem.W.findIn K (.ref C) "__init__" = some (some (.ref f))
  tI : PySem.W.typeIn K (.ref f) = some (.type "function")
theorem iniB_ok {x : Str} {K : PySem.W.Frag} (h : iniB x K = true) : IniT K (gd x K) (md x "__init__" K) := by
  obtain ⟨h1, h2⟩ := He.ba h
  exact ⟨He.eqO_ok h1, of_decide_eq_true h2⟩
end Gh
end
section
set_option Elab.async false
set_option linter.all false
set_option maxRecDepth 100000
set_option maxHeartbeats 4000000
namespace Gh
open PySem PySem.Spec PyProof.Rows L2
theorem meets_enumerate_newT (l : Addr) (items : Array Value) (n : Nat) (dct : Option Addr) (sl : Array (Option Value)) :
    Meets (Builtin.«enumerate.__new__» ⟨[.type "enumerate", .ref l], []⟩) (fun _ R s => s.heap.get? l = some { cls := .type "tuple", dict := dct, data := .seq items n, slots := sl } ∧
      R (.ok (.ret (.ref (s.heap.push { cls := .type "tuple_iterator", data := .fields #[.ref l, .int 0 0] }).objs.size)))
        { s with heap := (s.heap.push { cls := .type "tuple_iterator", data := .fields #[.ref l, .int 0 0] }).push { cls := .type "enumerate", data := .fields #[.none, .bool false, .ref s.heap.objs.size, rawInt 0, .none, .none] } }) :=
  .of_wp fun prog w A R s h => by
    obtain ⟨hp, g, d, tk, os⟩ := s; obtain ⟨hl, h⟩ := h
    have hsub := sub_enumerate
    have hL : Heap.IsTuple (Shared.heap ⟨hp, g, d, tk, os⟩) l items := ⟨_, hl, rfl, n, rfl⟩
    wp_walk using wpAny_loadPart' hl
    refine wpAny_stack_any fun st => wpAny_pure ?_
    split
    · rename_i c _ _ _ _ _
      cases (c == Value.type "enumerate")
      · wp_walk using wpAny_loadPart' hl, wpAny_pyIter_tuple hL
        exact ⟨_, rfl, h⟩
      · wp_walk using wpAny_loadPart' hl, wpAny_pyIter_tuple hL
        exact ⟨_, rfl, h⟩
    · wp_walk using wpAny_loadPart' hl, wpAny_pyIter_tuple hL
      exact ⟨_, rfl, h⟩
section
variable {prog : Program} {w : World} {A : Around} {E : Value → Shared → Prop} {s : Shared}
theorem call_enumerate_tup {l : Addr} {items : Array Value} {Q : Value → Shared → Prop} (hL : s.heap.IsTuple l items)
    (h : ∀ h', IsEnum h' (s.heap.objs.size + 1) s.heap.objs.size 0 .none → h'.IsTupleIter s.heap.objs.size l 0 → h'.objs.size = s.heap.objs.size + 2 →
      (∀ b o, s.heap.get? b = some o → h'.get? b = some o) → Q (.ref (s.heap.objs.size + 1)) { s with heap := h' }) :
    wpAny (model prog w) A (call (.type "enumerate") [.ref l]) Q E s := by
  obtain ⟨⟨c, dct, dt, sl⟩, hl, hc, n, hd⟩ := hL
  replace hc : c = .type "tuple" := hc
  replace hd : dt = .seq items n := hd
  subst hc hd
  refine callType_new F.called_enumerate (by decide) (F.typeCall_enumerate_1 _) (F.newCall_enumerate_1 _) (fun obj => F.args_object_init_2 obj _) F.entry_enumerate_new
    (meets_enumerate_newT l items n dct sl) ⟨hl, ?_⟩
  have hz : (s.heap.push { cls := .type "tuple_iterator", data := .fields #[.ref l, .int 0 0] }).objs.size = s.heap.objs.size + 1 := Heap.size_push ..
  show _ ∧ _
  rw [hz]
  have he : IsEnum ((s.heap.push { cls := .type "tuple_iterator", data := .fields #[.ref l, .int 0 0] }).push
      { cls := .type "enumerate", data := .fields #[.none, .bool false, .ref s.heap.objs.size, rawInt 0, .none, .none] }) (s.heap.objs.size + 1) s.heap.objs.size 0 .none := by
    have := Heap.get?_push_size (s.heap.push { cls := .type "tuple_iterator", data := .fields #[.ref l, .int 0 0] })
      (o := { cls := .type "enumerate", data := .fields #[.none, .bool false, .ref s.heap.objs.size, rawInt 0, .none, .none] }) rfl
    rw [hz] at this; exact this
  refine ⟨⟨_, he, rfl⟩, h _ he ⟨_, Heap.get?_push_of_some _ (Heap.get?_push_size _ rfl), rfl, rfl⟩ (by rw [Heap.size_push, hz]) fun b o x => Heap.get?_push_of_some _ (Heap.get?_push_of_some _ x)⟩
end
def Itu (K : PySem.W.Frag) (a : Addr) : It :=
  ⟨fun i H => ∃ (xs : List V) (x : V), SqT K H a xs ∧ xs[i]? = some x, fun i H v H' => ∃ T x, v = .ref T ∧ H T = none ∧ H' = upd H T (.tup [.int (i : Nat), x]) ∧ ∀ xs, SqT K H a xs → xs[i]? = some x, fun i H => ∃ xs : List V, SqT K H a xs ∧ xs.length = i⟩
theorem turn_enumT {P : Program} {w : World} {K : PySem.W.Frag} {elts : List Expr} {kk : Nat} {tpos : Pos} (a e it : Addr) :
    Turn P w K (.Tuple elts kk tpos) (Itu K a) [e, it] e (fun i h => (∃ old, IsEnum h e it ((i : Nat) : Int) old) ∧ h.IsTupleIter it a i ∧ e ≠ it ∧ a ≠ it ∧ e ≠ a) where
  mem := by simp
  obj := fun i h st b hb => by
    obtain ⟨⟨old, he⟩, ⟨o, ho, hc, hd⟩, _⟩ := st
    have e' : b = e ∨ b = it := by simpa using hb
    rcases e' with z | z
    · rw [z]; exact ⟨_, he, fun v q => nomatch q⟩
    · rw [z]; exact ⟨o, ho, fun v q => by rw [hd] at q; cases q⟩
  keep := fun i h h' st k => let ⟨⟨old, he⟩, hi, hne⟩ := st; ⟨⟨old, k e (by simp) _ he⟩, hi.at fun o q => k it (by simp) o q, hne⟩
  item := by
    intro X hP hw hK hc i pins s σ H E I hf st hg
    subst hP hw hK
    obtain ⟨⟨old, he⟩, hit, hne, hai, hea⟩ := st
    obtain ⟨xs, x, hq, hx⟩ := hg
    obtain ⟨its, rv, p, hz⟩ := I.tuple hq
    obtain ⟨u, hu, ru⟩ := rv.get hx
    have hel : e < s.heap.objs.size := Heap.lt_size he
    have hil : it < s.heap.objs.size := by obtain ⟨_, q, _⟩ := hit; exact Heap.lt_size q
    have hlt : i < its.toArray.size := by
      obtain ⟨z, _⟩ := List.getElem?_eq_some_iff.mp hu
      simpa using z
    refine wpAny_pyNext_enum_itemD (Draws.tuple (A := X.A.in1) (show X.A.in1.handled = none from I.ok.hd hc) it a hai its.toArray) he ⟨hit, p⟩ hlt hne (by simp; exact ⟨hne, hea⟩) fun u' h' tk pu ho hit' hT hsz hk => ?_
    have eu : u' = u := by
      have z : its.toArray[i]? = some u := by simpa using hu
      rw [z] at pu
      exact (Option.some.inj pu).symm
    subst eu
    refine ⟨_, rfl, wpAny_letOwnedTupleGo_enum (s := { s with heap := h', toks := tk + 1 }) ho fun h'' he' sb => ?_⟩
    have hT2 : h''.get? s.heap.objs.size = some { cls := .type "tuple", data := .seq #[.int i tk, u'] } := (sb.2 _ (Nat.ne_of_gt hel)).trans hT
    have new : ObjOk X.prog X.w (upd H s.heap.objs.size (.tup [.int (i : Nat), x])) h'' s.heap.objs.size (.tup [.int (i : Nat), x]) :=
      ⟨by show 2 ≤ sizeLine; decide, [.int i tk, u'], .cons ⟨_, rfl⟩ (.cons ru .nil), ⟨_, hT2, rfl, _, rfl⟩⟩
    have I1 : Inv X pins σ (upd H s.heap.objs.size (.tup [.int (i : Nat), x])) { s with heap := h'', toks := tk + 1 } :=
      I.turnedNew (ch := [e, it]) (fun b ob hb q => (sb.2 b (fun z => hb (by simp [z]))).trans (hk b ob (fun z => hb (by simp [z])) (fun z => hb (by simp [z])) q)) hf (Nat.le_refl _) new
    refine ⟨.ref s.heap.objs.size, _, I1, rfl, ⟨_, x, rfl, I.hok.fresh (Nat.le_refl _), rfl, fun ys hy => by rw [I.tuple_inj hy hq]; exact hx⟩, ⟨⟨u', ?_⟩, hit'.1.at fun o q => (sb.2 it (Ne.symm hne)).trans q, hne, hai, hea⟩, fun b hb => ?_⟩
    · have e1 : ((i + 1 : Nat) : Int) = (i : Int) + 1 := by omega
      rw [e1]; exact he'
    · have hb' : b < s.heap.objs.size := by
        have e' : b = e ∨ b = it := by simpa using hb
        rcases e' with z | z
        · rw [z]; exact hel
        · rw [z]; exact hil
      rw [upd_ne (Nat.ne_of_lt hb')]
      exact (hf b hb).1
  done := by
    intro X hP hw hK hc i pins s σ H E I hf st hg
    subst hP hw hK
    obtain ⟨⟨old, he⟩, hit, hne, hai, hea⟩ := st
    obtain ⟨xs, hq, hx⟩ := hg
    obtain ⟨its, rv, p, hz⟩ := I.tuple hq
    obtain ⟨f0, f1, f2, f3, f4, f5⟩ := hf it (by simp)
    have hl := rv.length
    have en : its.toArray.size = i := by
      rw [List.size_toArray]
      omega
    refine wpAny_pyNext_enum_endD (Draws.tuple (A := X.A.in1) (show X.A.in1.handled = none from I.ok.hd hc) it a hai its.toArray) he ⟨by rw [en]; exact hit, p⟩ fun h' eb => ⟨rfl, I.turned (t' := s.toks) (fun b o hb q => eb b o hb q) f0 f1 f3 f4 f5⟩
  self := fun A i s Q E st h => let ⟨⟨_, he⟩, _⟩ := st; wpAny_pyIter_enum he h
theorem PI.or {X : Cx} {tg iter : Expr} {w1 w2 : TI} (a : PI X tg iter w1) (b : PI X tg iter w2) : PI X tg iter (fun σ H R => w1 σ H R ∨ w2 σ H R) :=
  ⟨fun pins s σ H R I h => h.elim (a.run pins s σ H R I) (b.run pins s σ H R I)⟩
end Gh
end
section
set_option Elab.async false
set_option linter.all false
set_option maxRecDepth 100000
set_option maxHeartbeats 4000000
namespace Gh
open PySem PySem.Spec PyProof.Rows L2
section
variable {X : Cx} {C f : Addr} {r : List V → Hp → VK → Prop}
@[irreducible] def rSetO (C : Addr) (r : List V → Hp → VK → Prop) : TSet := fun o i v H Q => ∃ a dx fs, o = .ref a ∧ H a = some (.ins C dx fs) ∧ r [o, i, v] H fun _ H' => Q H'
@[irreducible] def rIxO (C : Addr) (sp : Sp) (E : XK) : R2 := fun x y H Q => ∃ a dx fs, x = .ref a ∧ H a = some (.ins C dx fs) ∧ sp [x, y] H Q E
end
end Gh
end
section
set_option Elab.async false
set_option linter.all false
set_option maxRecDepth 100000
set_option maxHeartbeats 4000000
namespace Gh
open PySem PySem.Spec PyProof.Rows L2
section
variable {H H' : Hp} {p a l : Addr} {o u : HO}
theorem nw_upd (n : H p = none) : Nw H (upd H p o) p o := ⟨n, same_new n, upd_same⟩
theorem mu_upd : Mu H (upd H p o) p o := ⟨Keep.refl.put, upd_same⟩
theorem same_up (n : L2.Same H H') (h : H a = some u) : H' a = some u := n _ _ h
theorem keep_up (n : Keep H H' p) (e : a ≠ p) (h : H a = some u) : H' a = some u := n _ _ h e
end
section
variable {H H' : Hp} {p c a l : Addr} {o u : HO} {b k : Nat} {xs : List V} {C dx : Addr} {fs : List (Str × V)}
theorem Pen.le (h : Pen H p c b) (q : k ≤ b) : Pen H p c k := by
  obtain ⟨ns, i, z, h1, h2, h3, h4, h5, h6⟩ := h
  exact ⟨ns, i, z, h1, h2, h3, h4, by omega, h6⟩
theorem Pen.nw (n : Nw H H' l o) (h : Pen H p c b) : Pen H' p c b := h.same n.same
theorem Pen.mu (n : Mu H H' l o) (e1 : l ≠ p) (e2 : l ≠ c) (h : Pen H p c b) : Pen H' p c b := by
  obtain ⟨ns, i, z, h1, h2, h3⟩ := h
  exact ⟨ns, i, z, n.up e1.symm h1, n.up e2.symm h2, h3⟩
theorem nw_pen (n : Nw H H' l o) (h : Pen H p c b) : l ≠ p := by
  obtain ⟨ns, i, z, h1, h2, h3⟩ := h
  exact n.ne h1
theorem nw_cell (n : Nw H H' l o) (h : Pen H p c b) : l ≠ c := by
  obtain ⟨ns, i, z, h1, h2, h3⟩ := h
  exact n.ne h2
theorem tup_pen (n : H a = some (.tup xs)) (h : Pen H p c b) : a ≠ p := by
  obtain ⟨ns, i, z, h1, h2, h3⟩ := h
  exact ne_of n h1 (by intro e; cases e)
theorem tup_cell (n : H a = some (.tup xs)) (h : Pen H p c b) : a ≠ c := by
  obtain ⟨ns, i, z, h1, h2, h3⟩ := h
  exact ne_of n h2 (by intro e; cases e)
theorem ins_pen (n : H a = some (.ins C dx fs)) (h : Pen H p c b) : a ≠ p := by
  obtain ⟨ns, i, z, h1, h2, h3⟩ := h
  exact ne_of n h1 (by intro e; cases e)
theorem ins_cell (n : H a = some (.ins C dx fs)) (h : Pen H p c b) : a ≠ c := by
  obtain ⟨ns, i, z, h1, h2, h3⟩ := h
  exact ne_of n h2 (by intro e; cases e)
end
section
variable {H H' : Hp} {a t l : Addr} {o u : HO} {xs ys : List V} {C dx : Addr} {fs : List (Str × V)}
theorem ins_lst (h : H a = some (.ins C dx fs)) (k : H t = some (.lst xs)) : a ≠ t := ne_of h k (by intro e; cases e)
theorem ins_tup (h : H a = some (.ins C dx fs)) (k : H t = some (.tup xs)) : a ≠ t := ne_of h k (by intro e; cases e)
theorem tup_lst (h : H a = some (.tup ys)) (k : H t = some (.lst xs)) : a ≠ t := ne_of h k (by intro e; cases e)
theorem nw_ne (n : Nw H H' l o) (h : H a = some u) : l ≠ a := n.ne h
end
def spDr : Sp := fun vs H Q _ => ∃ (p c : Addr) (b : Nat) (m : Int), vs = [.ref p, .int m] ∧ 0 < m ∧ m.natAbs.log2 < 9000 ∧ Pen H p c (b + 1) ∧
  ∀ (d : Int) (H' : Hp), 0 ≤ d → d < m → Pen H' p c b → Keep H H' p → Q (.int d) H'
def spPn (K : PySem.W.Frag) : Sp := fun vs H Q _ => ∃ (a : Addr) (ns : List Int), vs = [.ref a] ∧ SqL K H a (ns.map V.int) ∧ ns.length ≤ 63 ∧ ∀ (p c : Addr) (H' : Hp), H p = none → Pen H' p c 1000000 → L2.Same H H' → Q (.ref p) H'
section
variable {H : Hp} {E : XK} {Q : VK} {p c l : Addr} {b : Nat} {m : Int} {xs : List V}
theorem log_of (h0 : 0 < m) (h : m < 10 ^ 100) : m.natAbs.log2 < 9000 := by
  have h2 : m.natAbs < 2 ^ 9000 := Nat.lt_of_lt_of_le (show m.natAbs < 10 ^ 100 by omega) (by decide)
  exact (Nat.log2_lt (by omega)).mpr h2
end
@[irreducible] def rLn (K : PySem.W.Frag) : List V → Hp → VK → Prop := fun xs H Q => ∃ x n, xs = [x] ∧ LenV K x H n ∧ Q (.int n) H
@[irreducible] def rListOf (K : PySem.W.Frag) : List V → Hp → VK → Prop := fun xs H Q => ∃ p ys, xs = [.ref p] ∧ (SqL K H p ys ∨ SqT K H p ys) ∧ ∀ l, H l = none → Q (.ref l) (upd H l (.lst ys))
@[irreducible] def rTupOf (K : PySem.W.Frag) : List V → Hp → VK → Prop := fun xs H Q => ∃ p ys, xs = [.ref p] ∧ ((SqL K H p ys ∧ ∀ l, H l = none → Q (.ref l) (upd H l (.tup ys))) ∨ (SqT K H p ys ∧ Q (.ref p) H))
@[irreducible] def rInt : List V → Hp → VK → Prop := rInt1
@[irreducible] def rAbs : List V → Hp → VK → Prop := fun xs H Q => ∃ i, xs = [.int i] ∧ Q (.int (if i < 0 then -i else i)) H
@[irreducible] def rIsN : R2 := fun x y H Q => y = .non ∧ Q (.bl (decide (x = .non))) H
@[irreducible] def rNotN : R2 := fun x y H Q => y = .non ∧ Q (.bl (!decide (x = .non))) H
section
variable {X : Cx} {K : PySem.W.Frag}
theorem cr_len (h : X.K = K) : CallR X (.builtin "len") (rLn K) := by unfold rLn; exact h ▸ call_len
theorem cr_listOf (h : X.K = K) : CallR X (.type "list") (rListOf K) := by unfold rListOf; exact h ▸ call_list_of
theorem cr_int : CallR X (.type "int") rInt := by unfold rInt; exact call_int1
theorem cr_abs : CallR X (.builtin "abs") rAbs := by unfold rAbs; exact call_abs
theorem sl_listK (h : X.K = K) : SlR X (rSlL K) := h ▸ sl_list
theorem op_neDK (h : X.K = K) (hu : X.A.units + 64 < cLine) : OpR X (compareOp .NotEq) (rNeD K) := h ▸ op_neD hu
@[irreducible] def rFld (C : Addr) (f : Str) : V → Hp → VK → Prop := fun x H Q => ∃ a dx fs v, x = .ref a ∧ H a = some (.ins C dx fs) ∧ fs.lookup f = some v ∧ Q v H
@[irreducible] def sF (C : Addr) (ta tv : TE) (f : Str) : TS := fun D σ H => tv σ H fun y H1 => ta σ H1 fun x H2 => ∃ a dx fs, x = .ref a ∧ H2 a = some (.ins C dx fs) ∧ fs.length < 1000 ∧ D.nx σ (upd H2 a (.ins C dx (putF f y fs)))
@[irreducible] def rConst (C : Addr) (f : Str) (v : V) : V → Hp → VK → Prop := fun x H Q => ∃ a dx fs, x = .ref a ∧ H a = some (.ins C dx fs) ∧ fs.lookup f = none ∧ Q v H
end
theorem len_ok {n : Nat} (h : n ≤ 100000) : n ≤ sizeLine := Nat.le_trans h (by decide)
@[irreducible] def rPowK (r : Int) : R2 := fun x y H Q => ∃ i j, x = .int i ∧ y = .int j ∧ CPow i j ∧ i ^ j.toNat = r ∧ Q (.int r) H
theorem op_powK {X : Cx} (r : Int) : OpR X (binaryOp .Pow) (rPowK r) := by
  intro pins s σ H x y v u Q I rx ry h
  unfold rPowK at h
  obtain ⟨i, j, h1, h2, h3, h4, q⟩ := h
  exact op_pow pins s σ H x y v u Q I rx ry ⟨i, j, h1, h2, h3, by show Q (.int (i ^ j.toNat)) H; rw [h4]; exact q⟩
section
variable {K : PySem.W.Frag} {H : Hp} {σ : L2.St} {Q : VK} {D : Ends} {i j n : Int} {x y v : V} {ta tb tc te tf : TE} {t u : TS} {c d : TT} {k : Bool} {a l p C dx : Addr} {xs ys : List V} {A B : Prop}
theorem st_seq (h : t { D with nx := u D } σ H) : tSeq t u D σ H := h
theorem st_nx (h : D.nx σ H) : tNext D σ H := h
theorem st_asg {g : TG} (h : te σ H fun x H1 => g x σ H1 D.nx) : tAsg te g D σ H := h
theorem st_name {m : Nat} {Q : L2.St → Hp → Prop} (h : Q (σ.set m (some v)) H) : gName m v σ H Q := h
theorem st_drop (h : te σ H fun _ H1 => D.nx σ H1) : tDrop te D σ H := h
theorem st_ret (h : te σ H D.rt) : tRet te D σ H := h
theorem st_retN (h : D.rt .non H) : tRetN D σ H := h
theorem st_ifS (h : c σ H fun b H1 => if b = true then t D σ H1 else u D σ H1) : tIfS c t u D σ H := h
theorem st_brk (h : D.bk σ H) : tBreak D σ H := h
theorem st_cnt (h : D.ct σ H) : tCont D σ H := h
theorem st_par {m m' : Nat} {t : TA} (h : t σ H fun vs H1 => ∃ v w, vs = [v, w] ∧ D.nx ((σ.set m (some v)).set m' (some w)) H1) : tPar m m' t D σ H := h
theorem st_par2 {P : V → V → Prop} (h : P x y) : ∃ v w, [x, y] = [v, w] ∧ P v w := ⟨x, y, rfl, h⟩
theorem st_aug {m : Nat} {ti : TIp} (e : σ[m]? = some (some x)) (h : te σ H fun y H1 => ti x y H1 fun z H2 => D.nx (σ.set m (some z)) H2) : tAug m te ti D σ H := ⟨x, e, h⟩
theorem st_var {m : Nat} (e : σ[m]? = some (some v)) (h : Q v H) : tVar m σ H Q := ⟨v, e, h⟩
theorem st_c (h : Q v H) : tC v σ H Q := h
theorem st_op {r : R2} (h : ta σ H fun x H1 => tb σ H1 fun y H2 => r x y H2 Q) : tOp r ta tb σ H Q := h
theorem st_un {r : V → Hp → VK → Prop} (h : ta σ H fun x H1 => r x H1 Q) : tUn r ta σ H Q := h
theorem st_rI0 {g : Int → Int → V} (h : Q (g i j) H) : rI0 g (.int i) (.int j) H Q := ⟨i, j, rfl, rfl, h⟩
theorem st_rI {g : Int → Int → V} {R : Int → Int → Prop} (hc : R i j) (h : Q (g i j) H) : rI R g (.int i) (.int j) H Q := ⟨i, j, rfl, rfl, hc, h⟩
theorem st_rU {g : Int → V} (h : Q (g i) H) : rU g (.int i) H Q := ⟨i, rfl, h⟩
theorem st_rAdd (h : Q (.int (i + j)) H) : rAdd (.int i) (.int j) H Q := ⟨i, j, rfl, rfl, h⟩
theorem st_rSub (h : Q (.int (i - j)) H) : rSub (.int i) (.int j) H Q := ⟨i, j, rfl, rfl, h⟩
theorem st_eq (e : scal x y = true) (h : Q (.bl (decide (x = y))) H) : rEq x y H Q := ⟨e, h⟩
theorem st_ne (e : scal x y = true) (h : Q (.bl (!decide (x = y))) H) : rNe x y H Q := ⟨e, h⟩
theorem st_isN (h : Q (.bl (decide (x = .non))) H) : rIsN x .non H Q := by unfold rIsN; exact ⟨rfl, h⟩
theorem st_notN (h : Q (.bl (!decide (x = .non))) H) : rNotN x .non H Q := by unfold rNotN; exact ⟨rfl, h⟩
theorem st_test {Q : Bool → Hp → Prop} (h : te σ H fun x H' => ∃ k, x = .bl k ∧ Q k H') : tTest te σ H Q := h
theorem st_tB {Q : Bool → Hp → Prop} (h : te σ H fun x H' => ∃ k, x = .bl k ∧ Q k H') : tB te σ H Q := h
theorem st_ebl {P : Bool → Prop} (h : P k) : ∃ k', V.bl k = .bl k' ∧ P k' := ⟨k, rfl, h⟩
theorem st_eint {P : Int → Prop} (h : P i) : ∃ k', V.int i = .int k' ∧ P k' := ⟨i, rfl, h⟩
theorem st_and {Q : Bool → Hp → Prop} (h : c σ H fun k H1 => if k = true then d σ H1 Q else Q false H1) : tAnd c d σ H Q := h
theorem st_or {Q : Bool → Hp → Prop} (h : c σ H fun k H1 => if k = true then Q true H1 else d σ H1 Q) : tOr c d σ H Q := h
theorem st_not {Q : Bool → Hp → Prop} (h : c σ H fun k H1 => Q (!k) H1) : tNot c σ H Q := h
theorem st_andV (h : ta σ H fun x H1 => ∃ c, x = .bl c ∧ if c = true then tb σ H1 Q else Q (.bl false) H1) : tAndV ta tb σ H Q := h
theorem st_orV (h : ta σ H fun x H1 => ∃ c, x = .bl c ∧ if c = true then Q (.bl true) H1 else tb σ H1 Q) : tOrV ta tb σ H Q := h
theorem st_notV (h : ta σ H fun x H1 => ∃ c, x = .bl c ∧ Q (.bl (!c)) H1) : tNotV ta σ H Q := h
theorem st_ifE (h : c σ H fun k H1 => if k = true then ta σ H1 Q else tb σ H1 Q) : tIf c ta tb σ H Q := h
theorem st_chain {r r' : R2} (h : ta σ H fun x H1 => tb σ H1 fun y H2 => r x y H2 fun z H3 => ∃ k, z = .bl k ∧ if k = true then tc σ H3 fun w H4 => r' y w H4 Q else Q (.bl false) H3) : tChain r r' ta tb tc σ H Q := h
theorem st_if1 (e : k = true) (h : A) : if k = true then A else B := by rw [if_pos e]; exact h
theorem st_if0 (e : k = false) (h : B) : if k = true then A else B := by rw [e, if_neg (by decide)]; exact h
theorem st_nil {Q : List V → Hp → Prop} (h : Q [] H) : tNil σ H Q := h
theorem st_cons {t : TA} {Q : List V → Hp → Prop} (h : ta σ H fun x H1 => t σ H1 fun xs H2 => Q (x :: xs) H2) : tCons ta t σ H Q := h
theorem st_cl {r : List V → Hp → VK → Prop} {t : TA} (h : t σ H fun vs H1 => r vs H1 Q) : tCl r t σ H Q := h
theorem st_cb {r : List V → Hp → VK → Prop} {t : TA} (h : t σ H fun vs H1 => r vs H1 Q) : tCB r t σ H Q := h
theorem st_mt {m : Str} {r : List V → Hp → VK → Prop} {t : TA} (h : ta σ H fun x H1 => ∃ a dx fs, x = .ref a ∧ H1 a = some (.ins C dx fs) ∧ fs.lookup m = none ∧ t σ H1 fun vs H2 => r (x :: vs) H2 Q) : tMt C m r ta t σ H Q := h
theorem st_emt {m : Str} {fs : List (Str × V)} {P : Prop} (h : H a = some (.ins C dx fs)) (e : fs.lookup m = none) (q : P) : ∃ a' dx fs, V.ref a = .ref a' ∧ H a' = some (.ins C dx fs) ∧ fs.lookup m = none ∧ P := ⟨a, dx, fs, rfl, h, e, q⟩
theorem st_pr {sp : Sp} {dvs : List V} {E : XK} (h : ta σ H fun x H1 => ∃ a dx fs, x = .ref a ∧ H1 a = some (.ins C dx fs) ∧ sp (.ref a :: dvs) H1 Q E) : tPr C sp dvs E ta σ H Q := h
theorem st_epr {fs : List (Str × V)} {sp : Sp} {dvs : List V} {E : XK} (h : H a = some (.ins C dx fs)) (q : rSp sp dvs E [.ref a] H Q) : ∃ a' dx fs, V.ref a = .ref a' ∧ H a' = some (.ins C dx fs) ∧ sp (.ref a' :: dvs) H Q E := ⟨a, dx, fs, rfl, h, q⟩
theorem st_fld {f : Str} {fs : List (Str × V)} (h : H a = some (.ins C dx fs)) (e : fs.lookup f = some v) (q : Q v H) : rFld C f (.ref a) H Q := by unfold rFld; exact ⟨a, dx, fs, v, rfl, h, e, q⟩
theorem st_const {f : Str} {fs : List (Str × V)} (h : H a = some (.ins C dx fs)) (e : fs.lookup f = none) (q : Q v H) : rConst C f v (.ref a) H Q := by unfold rConst; exact ⟨a, dx, fs, rfl, h, e, q⟩
def rSetF (C : Addr) (f : Str) (y x : V) (H : Hp) (P : Hp → Prop) : Prop := ∃ a dx fs, x = .ref a ∧ H a = some (.ins C dx fs) ∧ fs.length < 1000 ∧ P (upd H a (.ins C dx (putF f y fs)))
theorem st_sF {f : Str} (h : te σ H fun y H1 => ta σ H1 fun x H2 => rSetF C f y x H2 fun H3 => D.nx σ H3) : sF C ta te f D σ H := by unfold sF; exact h
theorem st_powK {r : Int} (h1 : CPow i j) (h2 : i ^ j.toNat = r) (q : Q (.int r) H) : rPowK r (.int i) (.int j) H Q := by unfold rPowK; exact ⟨i, j, rfl, rfl, h1, h2, q⟩
def rNewL (xs : List V) (H : Hp) (Q : VK) : Prop := xs.length ≤ sizeLine ∧ ∀ p, H p = none → Q (.ref p) (upd H p (.lst xs))
def rNewT (xs : List V) (H : Hp) (Q : VK) : Prop := xs.length ≤ sizeLine ∧ ∀ p, H p = none → Q (.ref p) (upd H p (.tup xs))
theorem st_lst {t : TA} (h : t σ H fun xs H1 => rNewL xs H1 Q) : tLst t σ H Q := h
theorem st_tup {t : TA} (h : t σ H fun xs H1 => rNewT xs H1 Q) : tTup t σ H Q := h
theorem st_newL (e : xs.length ≤ sizeLine) (h : ∀ p H', Nw H H' p (.lst xs) → Q (.ref p) H') : rNewL xs H Q := ⟨e, fun p np => h p _ (nw_upd np)⟩
theorem st_newT (e : xs.length ≤ sizeLine) (h : ∀ p H', Nw H H' p (.tup xs) → Q (.ref p) H') : rNewT xs H Q := ⟨e, fun p np => h p _ (nw_upd np)⟩
theorem new_of {o : HO} (h : ∀ p H', Nw H H' p o → Q (.ref p) H') : ∀ p, H p = none → Q (.ref p) (upd H p o) := fun p np => h p _ (nw_upd np)
theorem st_ixL (h : H p = some (.lst xs)) (e : atI xs i = some v) (q : Q v H) : rIxL K (.ref p) (.int i) H Q := ⟨p, xs, i, v, rfl, rfl, SqL.of h, e, q⟩
theorem st_ixLs (h : SqL K H p xs) (e : atI xs i = some v) (q : Q v H) : rIxL K (.ref p) (.int i) H Q := ⟨p, xs, i, v, rfl, rfl, h, e, q⟩
theorem st_ixT (h : H p = some (.tup xs)) (e : atI xs i = some v) (q : Q v H) : rIxT K (.ref p) (.int i) H Q := ⟨p, xs, i, v, rfl, rfl, SqT.of h, e, q⟩
theorem st_ixTs (h : SqT K H p xs) (e : atI xs i = some v) (q : Q v H) : rIxT K (.ref p) (.int i) H Q := ⟨p, xs, i, v, rfl, rfl, h, e, q⟩
theorem st_lenL (h : H p = some (.lst xs)) (q : Q (.int xs.length) H) : rLn K [.ref p] H Q := by unfold rLn; exact ⟨_, _, rfl, .inl ⟨xs, SqL.of h, rfl⟩, q⟩
theorem st_lenT (h : H p = some (.tup xs)) (q : Q (.int xs.length) H) : rLn K [.ref p] H Q := by unfold rLn; exact ⟨_, _, rfl, .inr ⟨xs, SqT.of h, rfl⟩, q⟩
theorem st_lenS {z : Str} (e : z.length ≤ sizeLine) (q : Q (.int z.length) H) : rLn K [.str z] H Q := by unfold rLn; exact ⟨_, _, rfl, ⟨e, rfl⟩, q⟩
theorem st_listL (h : H p = some (.lst xs)) (q : ∀ l H', Nw H H' l (.lst xs) → Q (.ref l) H') : rListOf K [.ref p] H Q := by unfold rListOf; exact ⟨p, xs, rfl, .inl (SqL.of h), new_of q⟩
theorem st_listT (h : H p = some (.tup xs)) (q : ∀ l H', Nw H H' l (.lst xs) → Q (.ref l) H') : rListOf K [.ref p] H Q := by unfold rListOf; exact ⟨p, xs, rfl, .inr (SqT.of h), new_of q⟩
theorem st_tupL (h : H p = some (.lst xs)) (q : ∀ l H', Nw H H' l (.tup xs) → Q (.ref l) H') : rTupOf K [.ref p] H Q := by unfold rTupOf; exact ⟨p, xs, rfl, .inl ⟨SqL.of h, new_of q⟩⟩
theorem st_tupT (h : H p = some (.tup xs)) (q : Q (.ref p) H) : rTupOf K [.ref p] H Q := by unfold rTupOf; exact ⟨p, xs, rfl, .inr ⟨SqT.of h, q⟩⟩
theorem st_int (q : Q (.int i) H) : rInt [.int i] H Q := by unfold rInt; exact .inl ⟨i, rfl, q⟩
theorem st_intB (q : Q (.int (if k = true then 1 else 0)) H) : rInt [.bl k] H Q := by unfold rInt; exact .inr ⟨k, rfl, q⟩
theorem st_abs (q : Q (.int (if i < 0 then -i else i)) H) : rAbs [.int i] H Q := by unfold rAbs; exact ⟨i, rfl, q⟩
theorem st_sl {r : V → Option Int → Option Int → Hp → VK → Prop} {tl th : TO} (h : te σ H fun x H1 => tl σ H1 fun l H2 => th σ H2 fun u H3 => r x l u H3 Q) : tSl r te tl th σ H Q := h
theorem st_part {Q : Option Int → Hp → Prop} (h : te σ H fun x H1 => ∃ i, x = .int i ∧ Q (some i) H1) : tPart te σ H Q := h
theorem st_nopart {Q : Option Int → Hp → Prop} (h : Q none H) : tNoPart σ H Q := h
theorem st_slL {lo hi : Option Int} (h : H p = some (.lst xs)) (q : ∀ l H', Nw H H' l (.lst (cutV xs lo hi)) → Q (.ref l) H') : rSlL K (.ref p) lo hi H Q := ⟨p, xs, rfl, SqL.of h, new_of q⟩
theorem st_slLs {lo hi : Option Int} (h : SqL K H p xs) (q : ∀ l H', Nw H H' l (.lst (cutV xs lo hi)) → Q (.ref l) H') : rSlL K (.ref p) lo hi H Q := ⟨p, xs, rfl, h, new_of q⟩
theorem st_cat (h : H l = some (.lst xs)) (h' : H p = some (.lst ys)) (e : xs.length + ys.length ≤ sizeLine) (q : ∀ a H', Nw H H' a (.lst (xs ++ ys)) → Q (.ref a) H') : rCat (.ref l) (.ref p) H Q := ⟨l, p, xs, ys, rfl, rfl, h, h', e, new_of q⟩
theorem st_bm {T : String} {r : V → List V → Hp → VK → Prop} {t : TA} (h : te σ H fun x H1 => tyV K T x H1 ∧ t σ H1 fun xs H2 => r x xs H2 Q) : tBM K T r te t σ H Q := h
theorem st_bm0 {T : String} {r : V → List V → Hp → VK → Prop} (h : te σ H fun x H1 => tyV K T x H1 ∧ r x [] H1 Q) : tBM0 K T r te σ H Q := h
theorem st_tyL {P : Prop} (h : H p = some (.lst xs)) (q : P) : tyV K "list" (.ref p) H ∧ P := ⟨.inl ⟨rfl, xs, SqL.of h⟩, q⟩
theorem st_tyS {z : Str} {P : Prop} (q : P) : tyV K "str" (.str z) H ∧ P := ⟨rfl, q⟩
theorem st_gsub {to ti : TE} {ts : TSet} {Q : L2.St → Hp → Prop} (h : to σ H fun o H1 => ti σ H1 fun i H2 => ts o i v H2 fun H3 => Q σ H3) : gSub to ti ts v σ H Q := h
theorem st_setL {m : Nat} {Q : Hp → Prop} (h : H p = some (.lst xs)) (e : ixN xs.length i = some m) (q : ∀ H', Mu H H' p (.lst (xs.set m v)) → Q H') : rSetL (.ref p) (.int i) v H Q := ⟨p, xs, i, m, rfl, rfl, h, e, q _ mu_upd⟩
theorem st_neD {d e : PyData} (h1 : Dp K H x d) (h2 : Dp K H y e) (h3 : SeqAt.shaped d = true) (h4 : SeqAt.shaped e = true) (q : Q (.bl (!PyData.eqv d e)) H) : rNeD K x y H Q := ⟨d, e, h1, h2, h3, h4, q⟩
theorem st_gtup {m : Nat} {g : TGs} {Q : L2.St → Hp → Prop} (h : H a = some (.tup xs)) (e : xs.length = m) (q : g xs σ H Q) : gTup K m g (.ref a) σ H Q := ⟨a, xs, rfl, SqT.of h, e, q⟩
theorem st_gcons {g : TG} {gs : TGs} {Q : L2.St → Hp → Prop} (h : g v σ H fun σ' H' => gs xs σ' H' Q) : gCons g gs (v :: xs) σ H Q := ⟨v, xs, rfl, h⟩
theorem st_gnil {Q : L2.St → Hp → Prop} (h : Q σ H) : gNil [] σ H Q := ⟨rfl, h⟩
theorem st_list {R : It → Hp → Prop} (h : te σ H fun x H1 => ∃ a, x = .ref a ∧ (∃ xs, SqL K H1 a xs) ∧ R (Itl K a) H1) : iList K te σ H R := h
theorem st_elist {P : Addr → Prop} (h : H a = some (.lst xs)) (q : P a) : ∃ a', V.ref a = .ref a' ∧ (∃ xs, SqL K H a' xs) ∧ P a' := ⟨a, rfl, ⟨xs, SqL.of h⟩, q⟩
theorem st_itup {R : It → Hp → Prop} (h : te σ H fun x H1 => ∃ a, x = .ref a ∧ (∃ xs, SqT K H1 a xs) ∧ R (Itt K a) H1) : iTup K te σ H R := h
theorem st_eitup {P : Addr → Prop} (h : H a = some (.tup xs)) (q : P a) : ∃ a', V.ref a = .ref a' ∧ (∃ xs, SqT K H a' xs) ∧ P a' := ⟨a, rfl, ⟨xs, SqT.of h⟩, q⟩
end
end Gh
end
section
set_option Elab.async false
set_option linter.all false
set_option maxRecDepth 100000
set_option maxHeartbeats 4000000
namespace Gh
open PySem PySem.Spec PyProof.Rows L2
section
variable {X : Cx} {a b c d : Expr} {ta tb tc td : TE} {pos : Pos}
def tChain3 (r r' r2 : R2) (ta tb tc td : TE) : TE := fun σ H Q => ta σ H fun x H1 => tb σ H1 fun y H2 => r x y H2 fun z H3 => ∃ k, z = .bl k ∧
  (if k = true then tc σ H3 fun w H4 => r' y w H4 fun z' H5 => ∃ k', z' = .bl k' ∧ (if k' = true then td σ H5 fun v H6 => r2 w v H6 Q else Q (.bl false) H5) else Q (.bl false) H3)
theorem st_chain3 {σ : L2.St} {H : Hp} {Q : VK} {r r' r2 : R2} (h : ta σ H fun x H1 => tb σ H1 fun y H2 => r x y H2 fun z H3 => ∃ k, z = .bl k ∧
  (if k = true then tc σ H3 fun w H4 => r' y w H4 fun z' H5 => ∃ k', z' = .bl k' ∧ (if k' = true then td σ H5 fun v H6 => r2 w v H6 Q else Q (.bl false) H5) else Q (.bl false) H3)) : tChain3 r r' r2 ta tb tc td σ H Q := h
def gSl (to tl th : TE) : TG := fun v σ H Q => to σ H fun x H1 => tl σ H1 fun lo H2 => th σ H2 fun hi H3 => ∃ (l m : Addr) (i j : Int) (xs ys : List V), x = .ref l ∧ v = .ref m ∧ lo = .int i ∧ hi = .int j ∧ H3 l = some (.lst xs) ∧ H3 m = some (.lst ys) ∧ l ≠ m ∧ 0 ≤ i ∧ i ≤ j ∧ j ≤ xs.length ∧ xs.length + ys.length ≤ sizeLine ∧
  Q σ (upd H3 l (.lst (xs.take i.toNat ++ ys ++ xs.drop j.toNat)))
def rSlS (v x lo hi : V) (H : Hp) (P : Hp → Prop) : Prop := ∃ (l m : Addr) (i j : Int) (xs ys : List V), x = .ref l ∧ v = .ref m ∧ lo = .int i ∧ hi = .int j ∧ H l = some (.lst xs) ∧ H m = some (.lst ys) ∧ l ≠ m ∧ 0 ≤ i ∧ i ≤ j ∧ j ≤ xs.length ∧ xs.length + ys.length ≤ sizeLine ∧ P (upd H l (.lst (xs.take i.toNat ++ ys ++ xs.drop j.toNat)))
theorem st_gsl {σ : L2.St} {H : Hp} {v : V} {Q : L2.St → Hp → Prop} {to tl th : TE} (h : to σ H fun x H1 => tl σ H1 fun lo H2 => th σ H2 fun hi H3 => rSlS v x lo hi H3 fun H4 => Q σ H4) : gSl to tl th v σ H Q := h
end
def picks {α : Type} (l : List (Nat ⊕ Nat)) (its ws : List α) : List α := l.filterMap fun z => match z with
  | .inl i => ws[i]?
  | .inr j => its[j]?
theorem Vals.getO {zs : List V} {ws : List Value} (r : Vals zs ws) (i : Nat) : (zs[i]? = none ∧ ws[i]? = none) ∨ ∃ x v, zs[i]? = some x ∧ ws[i]? = some v ∧ RelV x v := by
  induction r generalizing i with
  | nil => exact .inl ⟨rfl, rfl⟩
  | cons h t ih =>
    cases i with
    | zero => exact .inr ⟨_, _, rfl, rfl, h⟩
    | succ i => exact ih i
theorem picks_rel (l : List (Nat ⊕ Nat)) {ds zs : List V} {its ws : List Value} (r1 : Vals ds its) (r2 : Vals zs ws) : Vals (picks l ds zs) (picks l its ws) := by
  induction l with
  | nil => exact .nil
  | cons z r ih =>
    unfold picks at ih ⊢
    rw [List.filterMap_cons, List.filterMap_cons]
    cases z with
    | inl i =>
      rcases Vals.getO r2 i with ⟨e1, e2⟩ | ⟨x, v, e1, e2, rv⟩
      · simp only [e1, e2]
        exact ih
      · simp only [e1, e2]
        exact .cons rv ih
    | inr j =>
      rcases Vals.getO r1 j with ⟨e1, e2⟩ | ⟨x, v, e1, e2, rv⟩
      · simp only [e1, e2]
        exact ih
      · simp only [e1, e2]
        exact .cons rv ih
section
variable {K : PySem.W.Frag} {x qual : Str} {params : Arguments} {body : List Stmt} {scope : Scope} {dvs : List V} {kws : List (Str × V)} {f : Addr} {fd : FuncData} {ps : List Str}
theorem FunD.kbN (F : FunD K x qual params body scope [] kws f fd) (n : Nat) (ks : List Str) (l : List (Nat ⊕ Nat))
    (h : ∀ (kV doc pm : Value) (an : Option Addr) (cdv ct : Value) (us ws : List Value), us.length = n → ws.length = ks.length → bindArgs (PySem.W.fnOf x qual params body scope .none kV doc pm an cdv ct) ⟨us, ks.zip ws⟩ = pure (ps.zip (us ++ picks l [] ws))) :
    KBn K fd ps n ks (fun us ws => us ++ picks l [] ws) (fun vs zs => vs ++ picks l [] zs) := by
  obtain ⟨oc, od, dV, kV, doc, pm, an, cdv, ct, osl, rfl, lk, hcd, hD, hK⟩ := F.ex
  rcases hD with ⟨_, rfl⟩ | ⟨e, _⟩
  · exact ⟨fun s us ws X l1 l2 => .of_eq (h kV doc pm an cdv ct us ws l1 l2), fun r1 r2 => r1.append (picks_rel l .nil r2)⟩
  · exact absurd rfl e
end
section
variable {X : Cx} {CX : CXT} {k n : Nat} {f C : Addr} {ks : List Str} {sp : Sp} {E : XK} {x m : Str} {p pos apos : Pos} {e o : Expr} {es : List Expr} {kws : List Keyword} {t tk : TA} {ta : TE} {gV : List V → List V → List V} {r : List V → List V → Hp → VK → Prop}
def rMkK (C : Addr) (n m : Nat) (gV : List V → List V → List V) (sp : Sp) (E : XK) : List V → List V → Hp → VK → Prop := fun vs zs H Q => vs.length = n ∧ zs.length = m ∧ rMk C (fun us H Q E => sp us H Q E) [] E (gV vs zs) H Q
theorem PromK.make (M : Mk X.K C f) (F : PromK X.prog X.w X.K X.mg X.base CX k f (n + 1) ks (fun vs zs => vs ++ gV [] zs) sp) (hr : Room (k + 1) X.A) (hx : Passes CX X E) : CallK X (.ref C) ks (rMkK C n ks.length (fun vs zs => vs ++ gV [] zs) sp E) := by
  intro pins s σ H vs zs us ws Q I rv rz ⟨l1, l2, h⟩
  obtain ⟨fd, ps, g, G, b⟩ := F
  refine run_makeN M G hr b hx I rv rz l1 l2 fun x dx nx ndx ne => ?_
  unfold rMk at h
  have z := h x dx nx ndx ne
  rw [List.append_nil] at z
  exact z
def tClK (r : List V → List V → Hp → VK → Prop) (t tk : TA) : TE := fun σ H Q => t σ H fun vs H1 => tk σ H1 fun zs H2 => r vs zs H2 Q
theorem pe_gk0 (R : CallK X (.ref f) ks r) (hg : Gl X x) (hm : X.mg x = some (.ref f)) (hk : PySem.W.keepIn X.K (.ref f) = true) (hkw : PK X kws tk) (hall : (backToKw pos (keywordEach kws X.env)).all (·.1.isSome) = true := by rfl) (hks : (backToKw pos (keywordEach kws X.env)).filterMap (·.1) = ks := by rfl)
    (hdb : (x == ("__debug__" : Str)) = false := by decide)
    (hpl : ((backTo pos (starEach [] X.env)).any (·.1) || (backToKw pos (keywordEach kws X.env)).any (·.1.isNone)) = false := by rfl) : PE X (.Call (.Name x p) [] kws pos) (tClK r tNil tk) := by
  refine ⟨fun pins s σ H Q I h => ?_⟩
  refine wpAny_Call_Name_kw (ld_glob I hg hm ?_ hdb)
  refine PySem.W.callWith_KW0 (h₀ := X.base) I.ok.mod.kin hk hall (thn (hkw.run pos pins s σ H _ I h) fun ws s2 ⟨zs, H2, I2, rz, q2⟩ => ⟨I2.kIn, ?_⟩) hpl
  rw [hks]
  exact R pins s2 σ H2 [] zs [] ws Q I2 .nil rz q2
def tMtK (C : Addr) (m : Str) (r : List V → List V → Hp → VK → Prop) (ta : TE) (t tk : TA) : TE := fun σ H Q => ta σ H fun x H1 => ∃ a dx fs, x = .ref a ∧ H1 a = some (.ins C dx fs) ∧ fs.lookup m = none ∧ t σ H1 fun vs H2 => tk σ H2 fun zs H3 => r (x :: vs) zs H3 Q
end
section
variable {H : Hp} {σ : L2.St} {Q : VK} {ta : TE} {t tk : TA} {r : List V → List V → Hp → VK → Prop} {C : Addr} {m : Str} {n k : Nat} {gV : List V → List V → List V} {sp : Sp} {E : XK} {vs zs : List V}
theorem st_clK (h : t σ H fun vs H1 => tk σ H1 fun zs H2 => r vs zs H2 Q) : tClK r t tk σ H Q := h
theorem st_mtK (h : ta σ H fun x H1 => ∃ a dx fs, x = .ref a ∧ H1 a = some (.ins C dx fs) ∧ fs.lookup m = none ∧ t σ H1 fun vs H2 => tk σ H2 fun zs H3 => r (x :: vs) zs H3 Q) : tMtK C m r ta t tk σ H Q := h
theorem st_spK (h1 : vs.length = n) (h2 : zs.length = k) (h : rSp sp [] E (gV vs zs) H Q) : rSpK n k gV sp E vs zs H Q := ⟨h1, h2, by
  unfold rSp at h
  rw [List.append_nil] at h
  exact h⟩
end
end Gh
end
section
set_option Elab.async false
set_option linter.all false
set_option maxRecDepth 100000
set_option maxHeartbeats 4000000
namespace Gh
open PySem PySem.Spec PyProof.Rows L2
theorem Fn.le {d : PyData} {n b n' b' : Nat} (h : Fn d n b) (h1 : n ≤ n') (h2 : b ≤ b') : Fn d n' b' := ⟨h.cl, h.sh, h.nd, h.ls, Nat.le_trans h.dp h1, Nat.le_trans h.bk h2⟩
theorem Fn.shaped {d : PyData} {n b : Nat} (h : Fn d n b) (hn : n ≤ 64) : SeqAt.shaped d = true := by
  unfold SeqAt.shaped
  rw [h.cl, decide_eq_true (Nat.le_trans h.dp hn)] <;> rfl
theorem Fn.eqv {d : PyData} {n b : Nat} (h : Fn d n b) : PyData.eqv d d = true := SeqAt.eqv_refl d h.cl
section
variable {K : PySem.W.Frag} {H : Hp} {a : Addr} {ns : List Int}
end
section
variable {H H' : Hp} {a l p c : Addr} {u : HO} {b : Nat}
theorem none_ne (n : H l = none) (h : H a = some u) : l ≠ a := fun e => by
  rw [← e, n] at h
  cases h
theorem none_pen (n : H l = none) (h : Pen H p c b) : l ≠ p := by
  obtain ⟨ns, i, z, h1, h2, h3⟩ := h
  exact none_ne n h1
theorem none_cell (n : H l = none) (h : Pen H p c b) : l ≠ c := by
  obtain ⟨ns, i, z, h1, h2, h3⟩ := h
  exact none_ne n h2
def Keep2 (H H' : Hp) (p t : Addr) : Prop := ∀ a o, H a = some o → a ≠ p → a ≠ t → H' a = some o
theorem keep2_up {t : Addr} (n : Keep2 H H' p t) (e : a ≠ p) (e' : a ≠ t) (h : H a = some u) : H' a = some u := n _ _ h e e'
theorem st_setO {C dx : Addr} {fs : List (Str × V)} {r : List V → Hp → VK → Prop} {i v : V} {Q : Hp → Prop} (h : H a = some (.ins C dx fs)) (q : r [.ref a, i, v] H fun _ H' => Q H') : rSetO C r (.ref a) i v H Q := by
  unfold rSetO
  exact ⟨a, dx, fs, rfl, h, q⟩
theorem st_ixO {C dx : Addr} {fs : List (Str × V)} {sp : Sp} {E : XK} {y : V} {Q : VK} (h : H a = some (.ins C dx fs)) (q : rSp sp [] E [.ref a, y] H Q) : rIxO C sp E (.ref a) y H Q := by
  unfold rIxO
  exact ⟨a, dx, fs, rfl, h, q⟩
end
section
variable {K : PySem.W.Frag} {H : Hp} {σ : L2.St} {Q : VK} {m : Nat} {tt : TT} {te tl : TE} {vs : List Nat} {t : TA} {a : Addr} {xs : List V}
def rLc (J : It) (m : Nat) (tt : TT) (te : TE) (vs : List Nat) (σ : L2.St) (H : Hp) (Q : VK) : Prop := ∀ D, H D = none → ∃ W : Nat → Nat → Hp → Prop, (∃ k, W 0 k (upd H D (.lst []))) ∧ ∀ i k H, W i k H →
  (J.stop i H ∧ Q (.ref D) H) ∨ (J.go i H ∧ ∃ Nx : Hp → Prop, (∀ H', Nx H' → ∃ k', k' < k ∧ W (i + 1) k' H') ∧ ∀ x H', J.yld i H x H' → gName m x (wipe σ vs) H' fun σ2 H2 => wipe σ2 vs = wipe σ vs ∧ tt σ2 H2 fun b H3 =>
    if b = true then te σ2 H3 fun y H4 => ∃ acc, H4 D = some (.lst acc) ∧ acc.length < sizeLine ∧ Nx (upd H4 D (.lst (acc ++ [y]))) else Nx H3)
theorem st_lcR1 (h : t σ H fun us H1 => ∃ j : Int, us = [.int j] ∧ -(2 ^ 62) ≤ j ∧ j < 2 ^ 62 ∧ rLc (Itr 0 j.toNat) m tt te vs σ H1 Q) : tLc (iRng1 t) (gName m) tt te vs σ H Q := h
theorem st_lcR2 (h : t σ H fun us H1 => ∃ i j : Int, us = [.int i, .int j] ∧ (-(2 ^ 62) ≤ i ∧ i < 2 ^ 62 ∧ -(2 ^ 62) ≤ j ∧ j < 2 ^ 62) ∧ rLc (Itr i (j - i).toNat) m tt te vs σ H1 Q) : tLc (iRng2 t) (gName m) tt te vs σ H Q := h
theorem st_lcL (h : tl σ H fun x H1 => ∃ a, x = .ref a ∧ (∃ xs, SqL K H1 a xs) ∧ rLc (Itl K a) m tt te vs σ H1 Q) : tLc (iList K tl) (gName m) tt te vs σ H Q := h
theorem st_lcT (h : tl σ H fun x H1 => ∃ a, x = .ref a ∧ (∃ xs, SqT K H1 a xs) ∧ rLc (Itt K a) m tt te vs σ H1 Q) : tLc (iTup K tl) (gName m) tt te vs σ H Q := h
theorem st_eR1 {j : Int} {P : Int → Prop} (h0 : -(2 ^ 62) ≤ j) (h1 : j < 2 ^ 62) (h : P j) : ∃ j', [V.int j] = [.int j'] ∧ -(2 ^ 62) ≤ j' ∧ j' < 2 ^ 62 ∧ P j' := ⟨j, rfl, h0, h1, h⟩
theorem st_eR2 {i j : Int} {P : Int → Int → Prop} (h0 : -(2 ^ 62) ≤ i ∧ i < 2 ^ 62 ∧ -(2 ^ 62) ≤ j ∧ j < 2 ^ 62) (h : P i j) : ∃ i' j', [V.int i, V.int j] = [.int i', .int j'] ∧ (-(2 ^ 62) ≤ i' ∧ i' < 2 ^ 62 ∧ -(2 ^ 62) ≤ j' ∧ j' < 2 ^ 62) ∧ P i' j' := ⟨i, j, rfl, h0, h⟩
theorem st_yes {Q : Bool → Hp → Prop} (h : Q true H) : tYes σ H Q := h
end
section
variable {H H' : Hp} {a l p c : Addr} {u : HO} {b : Nat}
theorem nw_pen' {H0 : Hp} {b0 : Nat} {o : HO} (_ : Pen H0 p c b0) (n : Nw H H' l o) (h : Pen H p c b) : l ≠ p := nw_pen n h
theorem nw_cell' {H0 : Hp} {b0 : Nat} {o : HO} (_ : Pen H0 p c b0) (n : Nw H H' l o) (h : Pen H p c b) : l ≠ c := nw_cell n h
theorem none_pen' {H0 : Hp} {b0 : Nat} (_ : Pen H0 p c b0) (n : H l = none) (h : Pen H p c b) : l ≠ p := none_pen n h
theorem none_cell' {H0 : Hp} {b0 : Nat} (_ : Pen H0 p c b0) (n : H l = none) (h : Pen H p c b) : l ≠ c := none_cell n h
theorem tup_pen' {H0 : Hp} {b0 : Nat} {xs : List V} (_ : Pen H0 p c b0) (n : H l = some (.tup xs)) (h : Pen H p c b) : l ≠ p := tup_pen n h
theorem tup_cell' {H0 : Hp} {b0 : Nat} {xs : List V} (_ : Pen H0 p c b0) (n : H l = some (.tup xs)) (h : Pen H p c b) : l ≠ c := tup_cell n h
theorem ins_pen' {H0 : Hp} {b0 : Nat} {C dx : Addr} {fs : List (Str × V)} (_ : Pen H0 p c b0) (n : H l = some (.ins C dx fs)) (h : Pen H p c b) : l ≠ p := ins_pen n h
theorem ins_cell' {H0 : Hp} {b0 : Nat} {C dx : Addr} {fs : List (Str × V)} (_ : Pen H0 p c b0) (n : H l = some (.ins C dx fs)) (h : Pen H p c b) : l ≠ c := ins_cell n h
end
section
variable {K : PySem.W.Frag} {H : Hp} {σ : L2.St} {D : Ends} {m : Nat} {g : TG} {tb : TS} {tl : TE} {t : TA} {a : Addr} {xs : List V}
def rFor (J : It) (g : TG) (tb : TS) (D : Ends) (σ : L2.St) (H : Hp) : Prop := ∃ W : Nat → Nat → L2.St → Hp → Prop, (∃ m, W 0 m σ H) ∧ ∀ i m σ H, W i m σ H →
  (J.stop i H ∧ D.nx σ H) ∨ (J.go i H ∧ ∃ N : L2.St → Hp → Prop, (∀ σ' H', N σ' H' → ∃ m', m' < m ∧ W (i + 1) m' σ' H') ∧ ∀ x H', J.yld i H x H' → g x σ H' fun σ2 H2 => tb { D with nx := N, ct := N, bk := D.nx } σ2 H2)
theorem st_forR1 (h : t σ H fun us H1 => ∃ j : Int, us = [.int j] ∧ -(2 ^ 62) ≤ j ∧ j < 2 ^ 62 ∧ rFor (Itr 0 j.toNat) g tb D σ H1) : tFor (iRng1 t) g tb D σ H := h
theorem st_forR2 (h : t σ H fun us H1 => ∃ i j : Int, us = [.int i, .int j] ∧ (-(2 ^ 62) ≤ i ∧ i < 2 ^ 62 ∧ -(2 ^ 62) ≤ j ∧ j < 2 ^ 62) ∧ rFor (Itr i (j - i).toNat) g tb D σ H1) : tFor (iRng2 t) g tb D σ H := h
theorem st_forL (h : tl σ H fun x H1 => ∃ a, x = .ref a ∧ (∃ xs, SqL K H1 a xs) ∧ rFor (Itl K a) g tb D σ H1) : tFor (iList K tl) g tb D σ H := h
theorem st_forT (h : tl σ H fun x H1 => ∃ a, x = .ref a ∧ (∃ xs, SqT K H1 a xs) ∧ rFor (Itt K a) g tb D σ H1) : tFor (iTup K tl) g tb D σ H := h
theorem st_forE (h : t σ H fun us H1 => ∃ a xs, us = [.ref a] ∧ SqL K H1 a xs ∧ rFor (Ite K a) g tb D σ H1) : tFor (iEnum K t) g tb D σ H := h
theorem st_eE {P : Addr → Prop} (h : H a = some (.lst xs)) (q : P a) : ∃ a' xs, [V.ref a] = [.ref a'] ∧ SqL K H a' xs ∧ P a' := ⟨a, xs, rfl, SqL.of h, q⟩
end
section
end
end Gh
end
section
set_option Elab.async false
set_option linter.all false
set_option maxRecDepth 100000
set_option maxHeartbeats 4000000
namespace Gh
open PySem PySem.Spec PyProof.Rows L2
section
variable {H H' : Hp} {a l p c t : Addr} {o u : HO} {b : Nat} {xs : List V} {T : List (Addr × Str)} {C dx : Addr} {fs : List (Str × V)}
theorem tabs_keepP (n : Keep H H' p) (pn : Pen H p c b) (h : LamX.Tabs T H) : LamX.Tabs T H' := by
  obtain ⟨ns, i, z, h1, h2, h3⟩ := pn
  exact tabs_keepL n h1 h
theorem keep_fr (n : Keep H H' p) : Fr H H' p := fun a o h e _ => n a o h e
end
section
variable {X : Cx} {H : Hp} {σ : L2.St} {Q : VK} {T : List (Addr × Str)} {TT : (XK → Hp → VK → Prop) → Hp → VK → Prop} {t : XK → TE}
end
end Gh
end
section
set_option Elab.async false
set_option linter.all false
set_option maxRecDepth 100000
set_option maxHeartbeats 4000000
namespace Gp
open PySem PySem.Spec PyProof.Rows L2 Gh
section
variable {α β γ : Type}
def nox : Tr α → Tr α
  | .ok a => .ok a
  | .ex _ _ => .bad
  | .bad => .bad
  | .draw m f => .draw m fun d => nox (f d)
theorem bd_bd (m : Tr α) (k : α → Tr β) (l : β → Tr γ) : bd (bd m k) l = bd m fun a => bd (k a) l := by
  induction m with
  | draw m f ih =>
    show Tr.draw m _ = Tr.draw m _
    congr 1
    funext d
    exact ih d
  | _ => rfl
theorem al_bd {P : β → Nat → Prop} {E : Str → Fs → Nat → Prop} {m : Tr α} {k : α → Tr β} {b : Nat} : Al P E (bd m k) b ↔ Al (fun a b1 => Al P E (k a) b1) E m b := by
  induction m generalizing b with
  | draw m f ih =>
    constructor
    · rintro ⟨b', e, h1, h2, h3⟩
      exact ⟨b', e, h1, h2, fun d d0 d1 => (ih d).mp (h3 d d0 d1)⟩
    · rintro ⟨b', e, h1, h2, h3⟩
      exact ⟨b', e, h1, h2, fun d d0 d1 => (ih d).mpr (h3 d d0 d1)⟩
  | _ => exact Iff.rfl
theorem al_nox {P : α → Nat → Prop} {E E' : Str → Fs → Nat → Prop} {m : Tr α} {b : Nat} (h : Al P E (nox m) b) : Al P E' m b := by
  induction m generalizing b with
  | ok a => exact h
  | ex c fs => exact h.elim
  | bad => exact h
  | draw m f ih =>
    obtain ⟨b', e, h1, h2, h3⟩ := h
    exact ⟨b', e, h1, h2, fun d d0 d1 => ih d (h3 d d0 d1)⟩
end
section
variable {g : Gw} {U U' : Addr → Prop} {H H' : Hp}
theorem DenL.get : ∀ {vs : List V} {ds : List D} {i : Nat} {v : V}, DenL g U H vs ds → vs[i]? = some v → ∃ d, ds[i]? = some d ∧ Den g U H v d
  | _, _, i, v, .nil, e => by simp at e
  | _, _, 0, v, .cons a r, e => by simp at e; subst e; exact ⟨_, rfl, a⟩
  | _, _, i + 1, v, .cons a r, e => by
    obtain ⟨d, h1, h2⟩ := DenL.get (i := i) (v := v) r (by simpa using e)
    exact ⟨d, by simpa using h1, h2⟩
theorem DenL.take : ∀ {vs : List V} {ds : List D} (n : Nat), DenL g U H vs ds → DenL g U H (vs.take n) (ds.take n)
  | _, _, 0, _ => .nil
  | _, _, _ + 1, .nil => .nil
  | _, _, n + 1, .cons a r => .cons a (DenL.take n r)
theorem DenL.drop : ∀ {vs : List V} {ds : List D} (n : Nat), DenL g U H vs ds → DenL g U H (vs.drop n) (ds.drop n)
  | _, _, 0, r => r
  | _, _, _ + 1, .nil => .nil
  | _, _, n + 1, .cons a r => DenL.drop n r
def putD (f : Str) (v : D) : List (Str × D) → List (Str × D)
  | [] => [(f, v)]
  | (g, x) :: r => if g = f then (g, v) :: r else (g, x) :: putD f v r
theorem DenF.put {f : Str} {v : V} {d : D} (h : Den g U H v d) : ∀ {vs : List (Str × V)} {ds : List (Str × D)}, DenF g U H vs ds → DenF g U H (putF f v vs) (putD f d ds)
  | _, _, .nil => .cons h .nil
  | _, _, .cons (n := m) a r => by
    unfold putF putD
    split
    · exact .cons h r
    · exact .cons a (DenF.put h r)
end
section
variable {g : Gw} {U U' : Addr → Prop} {H H' H1 H2 : Hp} {b : Nat}
end
instance : Coe (List D) Ow := ⟨.l⟩
theorem OwR.nt {g : Gw} {U : Addr → Prop} {H : Hp} {o : HO} {x : Ow} (h : OwR g U H o x) : Nt o := ⟨h.tbl, fun ps e => by
  rcases h.no with ⟨vs, z⟩ | ⟨vs, z⟩ | ⟨vs, z⟩ <;> (rw [e] at z; cases z)⟩
section
variable {g : Gw} {U U' : Addr → Prop} {H H' H1 H2 : Hp} {b : Nat} {σ : L2.St} {ε : Env}
def okL (g : Gw) (U : Addr → Prop) (H : Hp) (Q : List V → Hp → Prop) : List D → Nat → Prop := fun d b => ∀ v H', DenL g U H' v d → Wd g H' b → Fr H H' g.p → Q v H'
def okB (g : Gw) (U : Addr → Prop) (H : Hp) (Q : Bool → Hp → Prop) : Bool → Nat → Prop := fun d b => ∀ H', Wd g H' b → Fr H H' g.p → Q d H'
def SE (g : Gw) (E : XK) (ε : Env) (t : TE) (m : Tr D) : Prop := ∀ U σ H b Q, Rel g U H σ ε → Wd g H b → UOk g U H → Al (okP g U H Q) (exP g U E H) m b → t σ H Q
def SA (g : Gw) (E : XK) (ε : Env) (t : TA) (m : Tr (List D)) : Prop := ∀ U σ H b Q, Rel g U H σ ε → Wd g H b → UOk g U H → Al (okL g U H Q) (exP g U E H) m b → t σ H Q
def ST (g : Gw) (E : XK) (ε : Env) (t : TT) (m : Tr Bool) : Prop := ∀ U σ H b Q, Rel g U H σ ε → Wd g H b → UOk g U H → Al (okB g U H Q) (exP g U E H) m b → t σ H Q
def SR1 (g : Gw) (E : XK) (r : V → Hp → VK → Prop) (f : D → Tr D) : Prop := ∀ U H b x dx Q, Den g U H x dx → Wd g H b → UOk g U H → Al (okP g U H Q) (exP g U E H) (f dx) b → r x H Q
def SR2 (g : Gw) (E : XK) (r : R2) (f : D → D → Tr D) : Prop := ∀ U H b x y dx dy Q, Den g U H x dx → Den g U H y dy → Wd g H b → UOk g U H → Al (okP g U H Q) (exP g U E H) (f dx dy) b → r x y H Q
def SRL (g : Gw) (E : XK) (r : List V → Hp → VK → Prop) (f : List D → Tr D) : Prop := ∀ U H b xs dxs Q, DenL g U H xs dxs → Wd g H b → UOk g U H → Al (okP g U H Q) (exP g U E H) (f dxs) b → r xs H Q
theorem al_frX {α : Type} {E : XK} {P : α → Nat → Prop} {m : Tr α} (f : Fr H H1 g.p) (h : Al P (exP g U E H) m b) : Al P (exP g U E H1) m b := h.mono (fun _ _ h => h) (fun _ _ _ h => h.fr f)
variable {E : XK} {ta tb tc : TE} {ma mb : Tr D}
theorem SE.step {α : Type} {k : D → Tr α} {P : α → Nat → Prop} {Q : VK} (ha : SE g E ε ta ma) (R : Rel g U H σ ε) (W : Wd g H b) (u : UOk g U H) (h : Al P (exP g U E H) (bd ma k) b)
    (hk : ∀ v d H1 b1, Den g U H1 v d → Wd g H1 b1 → Fr H H1 g.p → Rel g U H1 σ ε → UOk g U H1 → Al P (exP g U E H1) (k d) b1 → Q v H1) : ta σ H Q :=
  ha U σ H b Q R W u ((al_bd.mp h).mono (fun d b1 h1 v H1 d1 w1 f1 => hk v d H1 b1 d1 w1 f1 (R.fr u f1) (u.fr f1 w1) (al_frX f1 h1)) (fun _ _ _ h => h))
theorem SA.step {α : Type} {t : TA} {m : Tr (List D)} {k : List D → Tr α} {P : α → Nat → Prop} {Q : List V → Hp → Prop} (ha : SA g E ε t m) (R : Rel g U H σ ε) (W : Wd g H b) (u : UOk g U H) (h : Al P (exP g U E H) (bd m k) b)
    (hk : ∀ v d H1 b1, DenL g U H1 v d → Wd g H1 b1 → Fr H H1 g.p → Rel g U H1 σ ε → UOk g U H1 → Al P (exP g U E H1) (k d) b1 → Q v H1) : t σ H Q :=
  ha U σ H b Q R W u ((al_bd.mp h).mono (fun d b1 h1 v H1 d1 w1 f1 => hk v d H1 b1 d1 w1 f1 (R.fr u f1) (u.fr f1 w1) (al_frX f1 h1)) (fun _ _ _ h => h))
theorem ST.step {α : Type} {t : TT} {m : Tr Bool} {k : Bool → Tr α} {P : α → Nat → Prop} {Q : Bool → Hp → Prop} (ha : ST g E ε t m) (R : Rel g U H σ ε) (W : Wd g H b) (u : UOk g U H) (h : Al P (exP g U E H) (bd m k) b)
    (hk : ∀ d H1 b1, Wd g H1 b1 → Fr H H1 g.p → Rel g U H1 σ ε → UOk g U H1 → Al P (exP g U E H1) (k d) b1 → Q d H1) : t σ H Q :=
  ha U σ H b Q R W u ((al_bd.mp h).mono (fun d b1 h1 H1 w1 f1 => hk d H1 b1 w1 f1 (R.fr u f1) (u.fr f1 w1) (al_frX f1 h1)) (fun _ _ _ h => h))
theorem se_var {i : Nat} {d : D} (h : ε[i]? = some (.fz d) := by rfl) : SE g E ε (tVar i) (.ok d) := fun U σ H b Q R W u q => by
  obtain ⟨o, e, v, rfl, dn⟩ := R.at_ i _ h
  exact ⟨v, e, okP.here q W dn⟩
theorem se_c {v : V} {d : D} (h : ∀ U H, Den g U H v d) : SE g E ε (tC v) (.ok d) := fun U σ H b Q R W u q => okP.here q W (h U H)
theorem se_int {i : Int} : SE g E ε (tC (.int i)) (.ok (.int i)) := se_c fun _ _ => .int i
theorem se_bl {i : Bool} : SE g E ε (tC (.bl i)) (.ok (.bl i)) := se_c fun _ _ => .bl i
theorem se_non : SE g E ε (tC .non) (.ok .non) := se_c fun _ _ => .non
theorem se_str {x : Str} (h : x.length ≤ sizeLine) : SE g E ε (tC (.str x)) (.ok (.str x)) := se_c fun _ _ => .str x h
theorem se_op {r : R2} {f : D → D → Tr D} (hr : SR2 g E r f) (ha : SE g E ε ta ma) (hb : SE g E ε tb mb) : SE g E ε (tOp r ta tb) (bd ma fun x => bd mb fun y => f x y) := fun U σ H b Q R W u q =>
  ha.step R W u q fun v d H1 b1 d1 w1 f1 R1 u1 q1 => hb.step R1 w1 u1 q1 fun v2 e H2 b2 d2 w2 f2 R2 u2 q2 => hr U H2 b2 v v2 d e Q (d1.fr u1 f2) d2 w2 u2 (q2.mono (fun _ _ h => h.fr (f1.trans f2)) (fun _ _ _ h => h))
theorem se_un {r : V → Hp → VK → Prop} {f : D → Tr D} (hr : SR1 g E r f) (ha : SE g E ε ta ma) : SE g E ε (tUn r ta) (bd ma f) := fun U σ H b Q R W u q =>
  ha.step R W u q fun v d H1 b1 d1 w1 f1 R1 u1 q1 => hr U H1 b1 v d Q d1 w1 u1 (q1.mono (fun _ _ h => h.fr f1) (fun _ _ _ h => h))
theorem sa_nil : SA g E ε tNil (.ok []) := fun U σ H b Q R W u q => q [] H .nil W Fr.refl
theorem sa_cons {t : TA} {m : Tr (List D)} (ha : SE g E ε ta ma) (hb : SA g E ε t m) : SA g E ε (tCons ta t) (bd ma fun x => bd m fun xs => .ok (x :: xs)) := fun U σ H b Q R W u q =>
  ha.step R W u q fun v d H1 b1 d1 w1 f1 R1 u1 q1 => hb.step R1 w1 u1 q1 fun v2 e H2 b2 d2 w2 f2 R2 u2 q2 => q2 (v :: v2) H2 (.cons (d1.fr u1 f2) d2) w2 (f1.trans f2)
theorem se_cl {r : List V → Hp → VK → Prop} {f : List D → Tr D} {t : TA} {m : Tr (List D)} (hr : SRL g E r f) (ha : SA g E ε t m) : SE g E ε (tCl r t) (bd m f) := fun U σ H b Q R W u q =>
  ha.step R W u q fun v d H1 b1 d1 w1 f1 R1 u1 q1 => hr U H1 b1 v d Q d1 w1 u1 (q1.mono (fun _ _ h => h.fr f1) (fun _ _ _ h => h))
theorem se_cb {r : List V → Hp → VK → Prop} {f : List D → Tr D} {t : TA} {m : Tr (List D)} (hr : SRL g E r f) (ha : SA g E ε t m) : SE g E ε (tCB r t) (bd m f) := se_cl hr ha
def asB : D → Tr Bool
  | .bl b => .ok b
  | _ => .bad
theorem al_asB {P : Bool → Nat → Prop} {X : Str → Fs → Nat → Prop} {d : D} (h : Al P X (asB d) b) : ∃ k, d = .bl k ∧ P k b := by
  cases d with
  | bl k => exact ⟨k, rfl, h⟩
  | _ => exact h.elim
theorem al_asBk {α : Type} {P : α → Nat → Prop} {X : Str → Fs → Nat → Prop} {d : D} {k : Bool → Tr α} (h : Al P X (bd (asB d) k) b) : ∃ c, d = .bl c ∧ Al P X (k c) b := al_asB (al_bd.mp h)
theorem den_bl {v : V} {k : Bool} (h : Den g U H v (.bl k)) : v = .bl k := by cases h; rfl
theorem sb_tst (ha : SE g E ε ta ma) : ST g E ε (tTest ta) (bd ma asB) := fun U σ H b Q R W u q =>
  ha.step R W u q fun v d H1 b1 d1 w1 f1 R1 u1 q1 => by
    obtain ⟨k, rfl, q2⟩ := al_asB q1
    exact ⟨k, den_bl d1, q2 H1 w1 f1⟩
theorem sb_tb (ha : SE g E ε ta ma) : ST g E ε (tB ta) (bd ma asB) := sb_tst ha
theorem sb_or {c d : TT} {m n : Tr Bool} (ha : ST g E ε c m) (hb : ST g E ε d n) : ST g E ε (tOr c d) (bd m fun k => if k = true then .ok true else n) := fun U σ H b Q R W u q =>
  ha.step R W u q fun k H1 b1 w1 f1 R1 u1 q1 => by
    cases k with
    | false => exact hb U σ H1 b1 Q R1 w1 u1 (q1.mono (fun _ _ h H' w f => h H' w (f1.trans f)) (fun _ _ _ h => h))
    | true => exact q1 H1 w1 f1
theorem sb_not {c : TT} {m : Tr Bool} (ha : ST g E ε c m) : ST g E ε (tNot c) (bd m fun k => .ok (!k)) := fun U σ H b Q R W u q =>
  ha.step R W u q fun k H1 b1 w1 f1 R1 u1 q1 => q1 H1 w1 f1
theorem se_if {c : TT} {m : Tr Bool} (hc : ST g E ε c m) (ha : SE g E ε ta ma) (hb : SE g E ε tb mb) : SE g E ε (tIf c ta tb) (bd m fun k => if k = true then ma else mb) := fun U σ H b Q R W u q =>
  hc.step R W u q fun k H1 b1 w1 f1 R1 u1 q1 => by
    have q2 := q1.mono (P' := okP g U H1 Q) (fun _ _ h => okP.fr f1 h) (fun _ _ _ h => h)
    cases k with
    | true => exact ha U σ H1 b1 Q R1 w1 u1 q2
    | false => exact hb U σ H1 b1 Q R1 w1 u1 q2
theorem se_andV (ha : SE g E ε ta ma) (hb : SE g E ε tb mb) : SE g E ε (tAndV ta tb) (bd (bd ma asB) fun k => if k = true then mb else .ok (.bl false)) := fun U σ H b Q R W u q => by
  rw [bd_bd] at q
  refine ha.step R W u q fun v d H1 b1 d1 w1 f1 R1 u1 q1 => ?_
  obtain ⟨k, rfl, q2⟩ := al_asBk q1
  refine ⟨k, den_bl d1, ?_⟩
  replace q2 := q2.mono (P' := okP g U H1 Q) (fun _ _ h => okP.fr f1 h) (fun _ _ _ h => h)
  cases k with
  | true => exact hb U σ H1 b1 Q R1 w1 u1 q2
  | false => exact okP.here q2 w1 (.bl false)
theorem se_lst {t : TA} {m : Tr (List D)} (ha : SA g E ε t m) : SE g E ε (tLst t) (bd m fun ds => if ds.length ≤ sizeLine then .ok (.lst ds) else .bad) := fun U σ H b Q R W u q =>
  ha.step R W u q fun v d H1 b1 d1 w1 f1 R1 u1 q1 => by
    by_cases hl : d.length ≤ sizeLine
    · rw [if_pos hl] at q1
      have hl' : v.length ≤ sizeLine := by rw [d1.length]; exact hl
      refine ⟨hl', fun p np => ?_⟩
      have s := same_new (o := .lst v) np
      exact q1 _ _ (.lst upd_same (u1.new np) hl' (d1.ext (u1.extU (fr_same s)))) (w1.same s) (f1.trans (fr_same s))
    · rw [if_neg hl] at q1
      exact q1.elim
theorem se_tup {t : TA} {m : Tr (List D)} (ha : SA g E ε t m) : SE g E ε (tTup t) (bd m fun ds => if ds.length ≤ sizeLine then .ok (.tup ds) else .bad) := fun U σ H b Q R W u q =>
  ha.step R W u q fun v d H1 b1 d1 w1 f1 R1 u1 q1 => by
    by_cases hl : d.length ≤ sizeLine
    · rw [if_pos hl] at q1
      have hl' : v.length ≤ sizeLine := by rw [d1.length]; exact hl
      refine ⟨hl', fun p np => ?_⟩
      have s := same_new (o := .tup v) np
      exact q1 _ _ (.tup upd_same (u1.new np) hl' (d1.ext (u1.extU (fr_same s)))) (w1.same s) (f1.trans (fr_same s))
    · rw [if_neg hl] at q1
      exact q1.elim
end
end Gp
end
section
set_option Elab.async false
set_option linter.all false
set_option maxRecDepth 100000
set_option maxHeartbeats 4000000
namespace Gp
open PySem PySem.Spec PyProof.Rows L2 Gh
section
variable {g : Gw} {Mt U0 U U' : Addr → Prop} {H0 H H' H1 H2 : Hp} {b b1 : Nat} {σ : L2.St} {ε ε' : Env} {E : XK} {W L W' : Type}
def SS (g : Gw) (E : XK) (ε : Env) (t : TS) (env : W → Env) (envL : L → Env) (m : Tr (Fl W L)) : Prop := ∀ Mt U0 H0 U D σ H b, Stt g Mt U0 H0 U σ H b ε → Al (flP g Mt U0 H0 U H D env envL) (exS g Mt U0 H0 E) m b → t D σ H
theorem SE.sstep {t : TE} {m : Tr D} {k : D → Tr (Fl W L)} {Ds : Ends} {env : W → Env} {envL : L → Env} {Q : VK} (he : SE g E ε t m) (s : Stt g Mt U0 H0 U σ H b ε) (h : Al (flP g Mt U0 H0 U H Ds env envL) (exS g Mt U0 H0 E) (bd m k) b)
    (hk : ∀ v d H1 b1, Den g U H1 v d → Stt g Mt U0 H0 U σ H1 b1 ε → Al (flP g Mt U0 H0 U H1 Ds env envL) (exS g Mt U0 H0 E) (k d) b1 → Q v H1) : t σ H Q :=
  he U σ H b Q s.rel s.wd s.uok ((al_bd.mp h).mono (fun d b1 h1 v H1 d1 w1 f1 => hk v d H1 b1 d1 (s.fr f1 w1) (h1.mono (fun _ _ z => z.ev (s.uok.ev f1)) (fun _ _ _ z => z))) (fun _ _ _ h => exS.exP s h))
theorem SA.sstep {t : TA} {m : Tr (List D)} {k : (List D) → Tr (Fl W L)} {Ds : Ends} {env : W → Env} {envL : L → Env} {Q : List V → Hp → Prop} (he : SA g E ε t m) (s : Stt g Mt U0 H0 U σ H b ε) (h : Al (flP g Mt U0 H0 U H Ds env envL) (exS g Mt U0 H0 E) (bd m k) b)
    (hk : ∀ v d H1 b1, DenL g U H1 v d → Stt g Mt U0 H0 U σ H1 b1 ε → Al (flP g Mt U0 H0 U H1 Ds env envL) (exS g Mt U0 H0 E) (k d) b1 → Q v H1) : t σ H Q :=
  he U σ H b Q s.rel s.wd s.uok ((al_bd.mp h).mono (fun d b1 h1 v H1 d1 w1 f1 => hk v d H1 b1 d1 (s.fr f1 w1) (h1.mono (fun _ _ z => z.ev (s.uok.ev f1)) (fun _ _ _ z => z))) (fun _ _ _ h => exS.exP s h))
theorem ST.sstep {t : TT} {m : Tr Bool} {k : Bool → Tr (Fl W L)} {Ds : Ends} {env : W → Env} {envL : L → Env} {Q : Bool → Hp → Prop} (he : ST g E ε t m) (s : Stt g Mt U0 H0 U σ H b ε) (h : Al (flP g Mt U0 H0 U H Ds env envL) (exS g Mt U0 H0 E) (bd m k) b)
    (hk : ∀ d H1 b1,  Stt g Mt U0 H0 U σ H1 b1 ε → Al (flP g Mt U0 H0 U H1 Ds env envL) (exS g Mt U0 H0 E) (k d) b1 → Q d H1) : t σ H Q :=
  he U σ H b Q s.rel s.wd s.uok ((al_bd.mp h).mono (fun d b1 h1 H1 w1 f1 => hk d H1 b1 (s.fr f1 w1) (h1.mono (fun _ _ z => z.ev (s.uok.ev f1)) (fun _ _ _ z => z))) (fun _ _ _ h => exS.exP s h))
theorem Le.get : ∀ {a b : Env}, Le a b → ∀ {i : Nat} {s : Sl}, a[i]? = some s → s = .no ∧ (∃ z, b[i]? = some z) ∨ b[i]? = some s
  | _, _, .nil, _, _, e => by simp at e
  | _, _, .s h, 0, _, e => .inr e
  | _, _, .n h, 0, _, e => by simp at e; exact .inl ⟨e.symm, _, rfl⟩
  | _, _, .s h, i + 1, z, e => by simpa using h.get (i := i) (s := z) (by simpa using e)
  | _, _, .n h, i + 1, z, e => by simpa using h.get (i := i) (s := z) (by simpa using e)
theorem ownAt_le (l : Le ε' ε) {i : Nat} {a : Addr} (h : OwnAt σ ε' i a) : OwnAt σ ε i a := by
  obtain ⟨h1, h2⟩ := h
  refine ⟨h1, ?_⟩
  rcases h2 with ⟨ds, h2⟩ | ⟨c, fs, h2⟩
  · rcases l.get h2 with ⟨z, _⟩ | z
    · cases z
    · exact .inl ⟨ds, z⟩
  · rcases l.get h2 with ⟨z, _⟩ | z
    · cases z
    · exact .inr ⟨c, fs, z⟩
theorem Stt.le (s : Stt g Mt U0 H0 U σ H b ε) (l : Le ε' ε) : Stt g Mt U0 H0 U σ H b ε' :=
  ⟨⟨s.rel.len.trans l.len.symm, fun i x e => by
    rcases l.get e with ⟨rfl, z, h⟩ | h
    · obtain ⟨o, h1, _⟩ := s.rel.at_ i z h
      exact ⟨o, h1, trivial⟩
    · exact s.rel.at_ i x h, fun i j a n h1 h2 => s.rel.apart i j a n (ownAt_le l h1) (ownAt_le l h2)⟩, s.wd, s.uok, s.sub, fun i a o => s.own i a (ownAt_le l o), s.ext, fun i ds a e1 e2 => (by
    rcases l.get e1 with ⟨z, _⟩ | z
    · cases z
    · exact s.nu0 i ds a z e2), fun i c fs a j0 e1 e2 => by
    rcases l.get e1 with ⟨z, _⟩ | z
    · cases z
    · exact s.oim i c fs a j0 z e2⟩
variable {env : W → Env} {envL : L → Env} {env' : W' → Env} {u ta tb : TS} {te : TE} {me : Tr D}
theorem ss_nx {w : W} (l : Le (env w) ε) : SS g E ε tNext env envL (.ok (.nx w)) := fun Mt U0 H0 U D σ H b s q => q U σ H Ev.refl (s.le l)
theorem ss_asg {i : Nat} {k : D → Tr (Fl W L)} (he : SE g E ε te me) (hk : ∀ d, SS g E (ε.set i (.fz d)) u env envL (k d)) : SS g E ε (tSeq (tAsg te (gName i)) u) env envL (bd me k) := fun Mt U0 H0 U D σ H b s q =>
  he.sstep s q fun v d H1 b1 d1 s1 q1 => hk d Mt U0 H0 U D _ H1 b1 (s1.set i d1) q1
theorem ss_ret (he : SE g E ε te me) : SS g E ε (tSeq (tRet te) u) env envL (bd me fun d => .ok (.rt d)) := fun Mt U0 H0 U D σ H b s q =>
  he.sstep s q fun v d H1 b1 d1 s1 q1 => q1 v H1 (d1.sub fun a _ z => s1.sub a z) s1.wd s1.ext
def ul0 {α : Type} (k : Tr α) (ds : List D) : Tr α := match ds with
  | [] => k
  | _ => .bad
def ul1 {α : Type} (k : D → Tr α) (ds : List D) : Tr α := match ds with
  | [x] => k x
  | _ => .bad
def ul2 {α : Type} (k : D → D → Tr α) (ds : List D) : Tr α := match ds with
  | [x, y] => k x y
  | _ => .bad
def ul3 {α : Type} (k : D → D → D → Tr α) (ds : List D) : Tr α := match ds with
  | [x, y, z] => k x y z
  | _ => .bad
def ul4 {α : Type} (k : D → D → D → D → Tr α) (ds : List D) : Tr α := match ds with
  | [x, y, z, w] => k x y z w
  | _ => .bad
section
variable {α : Type} {P : α → Nat → Prop} {X : Str → Fs → Nat → Prop} {ds : List D}
theorem al_ul1 {k : D → Tr α} (h : Al P X (ul1 k ds) b) : ∃ x, ds = [x] ∧ Al P X (k x) b := by
  unfold ul1 at h; split at h
  · exact ⟨_, rfl, h⟩
  · exact h.elim
theorem al_ul2 {k : D → D → Tr α} (h : Al P X (ul2 k ds) b) : ∃ x y, ds = [x, y] ∧ Al P X (k x y) b := by
  unfold ul2 at h; split at h
  · exact ⟨_, _, rfl, h⟩
  · exact h.elim
end
theorem denL_nil {vs : List V} (h : DenL g U H vs []) : vs = [] := by cases h; rfl
theorem denL_cons {vs : List V} {d : D} {ds : List D} (h : DenL g U H vs (d :: ds)) : ∃ v r, vs = v :: r ∧ Den g U H v d ∧ DenL g U H r ds := by
  cases h with
  | cons a r => exact ⟨_, _, rfl, a, r⟩
theorem denL_1 {vs : List V} {x : D} (h : DenL g U H vs [x]) : ∃ v, vs = [v] ∧ Den g U H v x := by
  obtain ⟨v, r, rfl, h1, h2⟩ := denL_cons h
  cases denL_nil h2
  exact ⟨v, rfl, h1⟩
theorem denL_2 {vs : List V} {x y : D} (h : DenL g U H vs [x, y]) : ∃ v w, vs = [v, w] ∧ Den g U H v x ∧ Den g U H w y := by
  obtain ⟨v, r, rfl, h1, h2⟩ := denL_cons h
  obtain ⟨w, rfl, h3⟩ := denL_1 h2
  exact ⟨v, w, rfl, h1, h3⟩
theorem ss_par {i j : Nat} {t : TA} {m : Tr (List D)} {k : D → D → Tr (Fl W L)} (he : SA g E ε t m) (hk : ∀ x y, SS g E ((ε.set i (.fz x)).set j (.fz y)) u env envL (k x y)) :
    SS g E ε (tSeq (tPar i j t) u) env envL (bd m (ul2 k)) := fun Mt U0 H0 U D σ H b s q =>
  he.sstep s q fun v d H1 b1 d1 s1 q1 => by
    obtain ⟨x, y, rfl, q2⟩ := al_ul2 q1
    obtain ⟨v1, v2, rfl, e1, e2⟩ := denL_2 d1
    exact ⟨v1, v2, rfl, hk x y Mt U0 H0 U D _ H1 b1 ((s1.set i e1).set j e2) q2⟩
def bdF (m : Tr (Fl W' L)) (k : W' → Tr (Fl W L)) : Tr (Fl W L) := bd m fun f => match f with
  | .nx w => k w
  | .rt d => .ok (.rt d)
  | .bk l => .ok (.bk l)
  | .ct l => .ok (.ct l)
theorem SS.seq {m : Tr (Fl W' L)} {k : W' → Tr (Fl W L)} (h1 : SS g E ε ta env' envL m) (h2 : ∀ w, SS g E (env' w) u env envL (k w)) : SS g E ε (tSeq ta u) env envL (bdF m k) := fun Mt U0 H0 U D σ H b s q => by
  refine h1 Mt U0 H0 U { D with nx := u D } σ H b s ((al_bd.mp q).mono (fun f b1 h => ?_) (fun _ _ _ h => h))
  cases f with
  | nx w => exact fun U1 σ1 H1 e1 s1 => h2 w Mt U0 H0 U1 D σ1 H1 b1 s1 (Al.mono (fun _ _ z => z.ev e1) (fun _ _ _ z => z) h)
  | rt d => exact h
  | bk l => exact h
  | ct l => exact h
theorem ss_if0 {c : TT} {mc : Tr Bool} {m n : Tr (Fl W' L)} (hc : ST g E ε c mc) (ha : SS g E ε ta env' envL m) (hb : SS g E ε tb env' envL n) : SS g E ε (tIfS c ta tb) env' envL (bd mc fun k => if k = true then m else n) := fun Mt U0 H0 U D σ H b s q =>
  hc.sstep s q fun k H1 b1 s1 q1 => by
    cases k with
    | true => exact ha Mt U0 H0 U D σ H1 b1 s1 q1
    | false => exact hb Mt U0 H0 U D σ H1 b1 s1 q1
theorem ss_if {c : TT} {mc : Tr Bool} {m n : Tr (Fl W' L)} {k : W' → Tr (Fl W L)} (env' : W' → Env) (hc : ST g E ε c mc) (ha : SS g E ε ta env' envL m) (hb : SS g E ε tb env' envL n) (hk : ∀ w, SS g E (env' w) u env envL (k w)) :
    SS g E ε (tSeq (tIfS c ta tb) u) env envL (bdF (bd mc fun k => if k = true then m else n) k) := (ss_if0 hc ha hb).seq hk
theorem sx_name {i : Nat} {d : D} {m : Tr (Fl W L)} (h : SS g E (ε.set i (.fz d)) tb env envL m) : SX g E ε d (gName i) tb env envL m := fun Mt U0 H0 U D σ H b v s dn q => h Mt U0 H0 U D _ H b (s.set i dn) q
def un2 {α : Type} (d : D) (k : D → D → Tr α) : Tr α := match d with
  | .tup [x, y] => k x y
  | _ => .bad
def un3 {α : Type} (d : D) (k : D → D → D → Tr α) : Tr α := match d with
  | .tup [x, y, z] => k x y z
  | _ => .bad
theorem den_tup {v : V} {ds : List D} (h : Den g U H v (.tup ds)) : ∃ a vs, v = .ref a ∧ SqT g.K H a vs ∧ vs.length ≤ sizeLine ∧ DenL g U H vs ds := by
  cases h with
  | tup h n l k => exact ⟨_, _, rfl, SqT.of h, l, k⟩
  | tupW h l k _ => exact ⟨_, _, rfl, h H, l, k⟩
theorem al_un2 {α : Type} {P : α → Nat → Prop} {X : Str → Fs → Nat → Prop} {d : D} {k : D → D → Tr α} (h : Al P X (un2 d k) b) : ∃ x y, d = .tup [x, y] ∧ Al P X (k x y) b := by
  unfold un2 at h
  split at h
  · exact ⟨_, _, rfl, h⟩
  · exact h.elim
theorem sx_tup2 {i j : Nat} {d : D} {m : D → D → Tr (Fl W L)} (h : ∀ x y, SS g E ((ε.set i (.fz x)).set j (.fz y)) tb env envL (m x y)) : SX g E ε d (gTup g.K 2 (gCons (gName i) (gCons (gName j) gNil))) tb env envL (un2 d m) := fun Mt U0 H0 U D σ H b v s dn q => by
  obtain ⟨x, y, rfl, q1⟩ := al_un2 q
  obtain ⟨a, vs, rfl, sq, _, k⟩ := den_tup dn
  obtain ⟨v1, v2, rfl, e1, e2⟩ := denL_2 k
  exact ⟨a, [v1, v2], rfl, sq, rfl, v1, [v2], rfl, v2, [], rfl, rfl, h x y Mt U0 H0 U D _ H b ((s.set i e1).set j e2) q1⟩
def ItD (g : Gw) (U : Addr → Prop) (H : Hp) (J : It) (ds : List D) : Prop := ∀ i U1 H1 b, Ev U H U1 H1 → Wd g H1 b → UOk g U1 H1 →
  (∀ d, ds[i]? = some d → J.go i H1 ∧ ∀ x H2, J.yld i H1 x H2 → Den g U1 H2 x d ∧ L2.Same H1 H2) ∧ (ds.length = i → J.stop i H1)
def okI (g : Gw) (U : Addr → Prop) (H : Hp) (R : It → Hp → Prop) : List D → Nat → Prop := fun ds b => ∀ J H', ds.length ≤ sizeLine → ItD g U H' J ds → Wd g H' b → Fr H H' g.p → R J H'
def SI (g : Gw) (E : XK) (ε : Env) (wi : TI) (m : Tr (List D)) : Prop := ∀ U σ H b R, Rel g U H σ ε → Wd g H b → UOk g U H → Al (okI g U H R) (exP g U E H) m b → wi σ H R
def forF (f : D → W → Tr (Fl W W)) : List D → W → Tr (Fl W L)
  | [], w => .ok (.nx w)
  | x :: xs, w => bd (f x w) fun r => match r with
    | .nx w' => forF f xs w'
    | .ct w' => forF f xs w'
    | .bk w' => .ok (.nx w')
    | .rt d => .ok (.rt d)
theorem forF_cons (f : D → W → Tr (Fl W W)) (x : D) (xs : List D) (w : W) : forF (L := L) f (x :: xs) w = bd (f x w) fun r => match r with
    | .nx w' => forF f xs w'
    | .ct w' => forF f xs w'
    | .bk w' => .ok (.nx w')
    | .rt d => .ok (.rt d) := rfl
theorem ss_for0 {wi : TI} {gt : TG} {mi : Tr (List D)} {f : D → W → Tr (Fl W W)} {w0 : W} {tb : TS} (hi : SI g E ε wi mi) (l : Le (env w0) ε) (hb : ∀ d w, SX g E (env w) d gt tb env env (f d w)) : SS g E ε (tFor wi gt tb) env envL (bd mi fun ds => forF f ds w0) := fun Mt U0 H0 U D σ H b s q => by
  refine hi U σ H b _ s.rel s.wd s.uok ((al_bd.mp q).mono (fun ds b1 h1 J H1 hsz it w1 f1 => ?_) (fun _ _ _ h => exS.exP s h))
  refine ⟨fun i m σ' H' => ∃ b' w U', m = ds.length - i ∧ i ≤ ds.length ∧ Stt g Mt U0 H0 U' σ' H' b' (env w) ∧ Ev U H1 U' H' ∧ Al (flP g Mt U0 H0 U' H' D env envL) (exS g Mt U0 H0 E) (forF f (ds.drop i) w) b',
    ⟨ds.length, b1, w0, U, by simp, Nat.zero_le _, (s.fr f1 w1).le l, Ev.refl, Al.mono (fun _ _ z => z.ev (s.uok.ev f1)) (fun _ _ _ z => z) h1⟩, ?_⟩
  rintro i m σ' H' ⟨b', w, U', rfl, hle, s', e', q'⟩
  obtain ⟨it1, it2⟩ := it i U' H' b' e' s'.wd s'.uok
  by_cases hlt : i < ds.length
  · have ei : ds[i]? = some ds[i] := List.getElem?_eq_getElem hlt
    obtain ⟨go, y⟩ := it1 _ ei
    rw [List.drop_eq_getElem_cons hlt, forF_cons] at q'
    refine .inr ⟨go, fun σ2 H2 => ∃ b' w U2, Stt g Mt U0 H0 U2 σ2 H2 b' (env w) ∧ Ev U H1 U2 H2 ∧ Al (flP g Mt U0 H0 U2 H2 D env envL) (exS g Mt U0 H0 E) (forF f (ds.drop (i + 1)) w) b', ?_, ?_⟩
    · rintro σ2 H2 ⟨b2, w2, U2, s2, e2, q2⟩
      exact ⟨ds.length - (i + 1), by omega, b2, w2, U2, rfl, hlt, s2, e2, q2⟩
    · intro x H2 hy
      obtain ⟨dn, sm⟩ := y x H2 hy
      have s2 := s'.fr (fr_same sm) (s'.wd.same sm)
      have ev2 : Ev U' H' U' H2 := s'.uok.ev (fr_same sm)
      refine hb _ w Mt U0 H0 U' _ σ' H2 b' x s2 dn ((al_bd.mp q').mono (fun r b2 h2 => ?_) (fun _ _ _ z => z))
      cases r with
      | nx w' => exact fun U3 σ3 H3 e3 s3 => ⟨b2, w', U3, s3, e'.trans (ev2.trans e3), Al.mono (fun _ _ z => z.ev (ev2.trans e3)) (fun _ _ _ z => z) h2⟩
      | ct w' => exact fun U3 σ3 H3 e3 s3 => ⟨b2, w', U3, s3, e'.trans (ev2.trans e3), Al.mono (fun _ _ z => z.ev (ev2.trans e3)) (fun _ _ _ z => z) h2⟩
      | bk w' => exact fun U3 σ3 H3 e3 s3 => h2 U3 σ3 H3 (ev2.trans e3) s3
      | rt d => exact h2
  · have e : i = ds.length := by omega
    subst e
    rw [List.drop_length] at q'
    exact .inl ⟨it2 (rfl), q' U' σ' H' Ev.refl s'⟩
end
end Gp
end
section
set_option Elab.async false
set_option linter.all false
set_option maxRecDepth 100000
set_option maxHeartbeats 4000000
namespace Gp
open PySem PySem.Spec PyProof.Rows L2 Gh
section
variable {g : Gw} {Mt U0 U U' : Addr → Prop} {H0 H H' H1 H2 : Hp} {b b1 : Nat} {σ : L2.St} {ε ε' : Env} {E : XK} {W L W' : Type}
variable {env : W → Env} {envL : L → Env} {env' : W' → Env} {u ta tb : TS} {te : TE} {me : Tr D}
theorem ss_for {wi : TI} {gt : TG} {mi : Tr (List D)} {f : D → W' → Tr (Fl W' W')} {w0 : W'} {tb : TS} {k : W' → Tr (Fl W L)} (env' : W' → Env) (hi : SI g E ε wi mi) (l : Le (env' w0) ε) (hb : ∀ d w, SX g E (env' w) d gt tb env' env' (f d w)) (hk : ∀ w, SS g E (env' w) u env envL (k w)) :
    SS g E ε (tSeq (tFor wi gt tb) u) env envL (bdF (bd mi fun ds => forF f ds w0) k) := (ss_for0 hi l hb).seq hk
def itD : D → Tr (List D)
  | .lst ds => .ok ds
  | .tup ds => .ok ds
  | .str x => .ok (x.cps.toList.map fun c => .str ⟨#[c]⟩)
  | _ => .bad
theorem den_lst {v : V} {ds : List D} (h : Den g U H v (.lst ds)) : ∃ a vs, v = .ref a ∧ H a = some (.lst vs) ∧ ¬ U a ∧ vs.length ≤ sizeLine ∧ DenL g U H vs ds := by
  cases h with
  | lst h n l k => exact ⟨_, _, rfl, h, n, l, k⟩
theorem den_str {v : V} {x : Str} (h : Den g U H v (.str x)) : v = .str x ∧ x.length ≤ sizeLine := by
  cases h with
  | str x h => exact ⟨rfl, h⟩
theorem den_int {v : V} {i : Int} (h : Den g U H v (.int i)) : v = .int i := by cases h; rfl
theorem den1 {c : Nat} : Den g U H (.str ⟨#[c]⟩) (.str ⟨#[c]⟩) := .str _ (by show 1 ≤ sizeLine; decide)
theorem itd_lst {a : Addr} {vs : List V} {ds : List D} (h : H a = some (.lst vs)) (n : ¬ U a) (k : DenL g U H vs ds) : ItD g U H (Itl g.K a) ds := fun i U1 H1 b e w u => by
  have h1 : H1 a = some (.lst vs) := e.keep _ _ h n (fun _ z => by cases z)
  refine ⟨fun d hd => ?_, fun hl => ⟨vs, SqL.of h1, by rw [k.length]; exact Nat.le_of_eq hl⟩⟩
  obtain ⟨v, hv, dn⟩ := k.getD hd
  refine ⟨⟨vs, v, SqL.of h1, hv⟩, ?_⟩
  rintro x H2 ⟨rfl, hx⟩
  have e2 := hx vs (SqL.of h1)
  rw [hv] at e2
  cases e2
  exact ⟨dn.ev e, fun _ _ z => z⟩
theorem itd_tup {a : Addr} {vs : List V} {ds : List D} (h : ∀ U1 H1, Ev U H U1 H1 → SqT g.K H1 a vs) (k : DenL g U H vs ds) : ItD g U H (Itt g.K a) ds := fun i U1 H1 b e w u => by
  have h1 := h U1 H1 e
  refine ⟨fun d hd => ?_, fun hl => ⟨vs, h1, by rw [k.length]; exact Nat.le_of_eq hl⟩⟩
  obtain ⟨v, hv, dn⟩ := k.getD hd
  refine ⟨⟨vs, v, h1, hv⟩, ?_⟩
  rintro x H2 ⟨rfl, hx⟩
  have e2 := hx vs h1
  rw [hv] at e2
  cases e2
  exact ⟨dn.ev e, fun _ _ z => z⟩
theorem den_tupE {v : V} {ds : List D} (h : Den g U H v (.tup ds)) : ∃ a vs, v = .ref a ∧ (∀ U1 H1, Ev U H U1 H1 → SqT g.K H1 a vs) ∧ vs.length ≤ sizeLine ∧ DenL g U H vs ds := by
  cases h with
  | tup h n l k => exact ⟨_, _, rfl, fun U1 H1 e => SqT.of (e.keep _ _ h n (fun _ z => by cases z)), l, k⟩
  | tupW h l k _ => exact ⟨_, _, rfl, fun U1 H1 e => h H1, l, k⟩
theorem itd_str (x : Str) : ItD g U H (Its x) (x.cps.toList.map fun c => .str ⟨#[c]⟩) := fun i U1 H1 b e w u => by
  refine ⟨fun d hd => ?_, fun hl => by rw [List.length_map, Array.length_toList] at hl; exact Nat.le_of_eq hl⟩
  rw [List.getElem?_map] at hd
  cases q : x.cps.toList[i]? with
  | none => rw [q] at hd; cases hd
  | some c =>
    rw [q] at hd
    cases hd
    have hi : i < x.cps.size := by
      have := (List.getElem?_eq_some_iff.mp q).1
      rw [Array.length_toList] at this
      exact this
    refine ⟨hi, ?_⟩
    rintro y H2 ⟨rfl, c', hc, rfl⟩
    rw [Array.getElem?_toList] at q
    rw [q] at hc
    cases hc
    exact ⟨den1, fun _ _ z => z⟩
def iSeq (K : PySem.W.Frag) (te : TE) : TI := fun σ H R => te σ H fun x H1 => (∃ a, x = .ref a ∧ (∃ xs, SqL K H1 a xs) ∧ R (Itl K a) H1) ∨ (∃ a, x = .ref a ∧ (∃ xs, SqT K H1 a xs) ∧ R (Itt K a) H1) ∨ ∃ z, x = .str z ∧ R (Its z) H1
theorem pi_seq {X : Cx} {K : PySem.W.Frag} {tg e : Expr} {te : TE} (hK : X.K = K) (he : PE X e te) : PI X tg e (iSeq K te) := by
  subst hK
  refine ⟨fun pins s σ H R I h => ?_⟩
  refine thn (he.run pins s σ H _ I h) fun v s1 ⟨x, H1, I1, r1, q1⟩ => ?_
  rcases q1 with ⟨a, e, ⟨xs, hq⟩, q⟩ | ⟨a, e, ⟨xs, hq⟩, q⟩ | ⟨z, ex, q⟩
  · subst e
    cases r1
    obtain ⟨its, rv, p, hz⟩ := I1.list hq
    refine wpAny_pyIter_list p.isList ?_
    refine ⟨s1.heap.objs.size, [s1.heap.objs.size], _, _, H1, rfl, I1.kept (t' := s1.toks) fun b o e => Heap.get?_push_of_some _ e, turn_list a _, ⟨_, Heap.get?_push_size _ rfl, rfl, rfl⟩, fun b hb => ?_, q⟩
    have e : b = s1.heap.objs.size := by simpa using hb
    subst e
    exact I1.fpOk (Nat.le_refl _) (I1.hok.fresh (Nat.le_refl _))
  · subst e
    cases r1
    obtain ⟨its, rv, p, hz⟩ := I1.tuple hq
    refine wpAny_pyIter_tuple (show s1.heap.IsTuple a its.toArray from p) ?_
    refine ⟨s1.heap.objs.size, [s1.heap.objs.size], _, _, H1, rfl, I1.kept (t' := s1.toks) fun b o e => Heap.get?_push_of_some _ e, turn_tuple a _, ⟨_, Heap.get?_push_size _ rfl, rfl, rfl⟩, fun b hb => ?_, q⟩
    have e : b = s1.heap.objs.size := by simpa using hb
    subst e
    exact I1.fpOk (Nat.le_refl _) (I1.hok.fresh (Nat.le_refl _))
  · subst ex
    obtain ⟨t, rfl⟩ := r1
    cases ha : z.cps.all (· < 128)
    · exact wpAny_pyIter_wide ha (pi_one (tk := s1.toks) I1 _ (turn_str _ z t "str_iterator" (.inr rfl)) ⟨_, Heap.get?_push_size _ rfl, rfl, rfl⟩ q)
    · exact wpAny_pyIter_ascii ha (pi_one (tk := s1.toks) I1 _ (turn_str _ z t "str_ascii_iterator" (.inl rfl)) ⟨_, Heap.get?_push_size _ rfl, rfl, rfl⟩ q)
theorem si_seq (he : SE g E ε te me) : SI g E ε (iSeq g.K te) (bd me itD) := fun U σ H b R rl wd u q =>
  he.step rl wd u q fun v d H1 b1 d1 w1 f1 R1 u1 q1 => by
    cases d with
    | lst ds =>
      obtain ⟨a, vs, rfl, h, n, l, k⟩ := den_lst d1
      exact .inl ⟨a, rfl, ⟨vs, SqL.of h⟩, q1 _ H1 (by rw [← k.length]; exact l) (itd_lst h n k) w1 f1⟩
    | tup ds =>
      obtain ⟨a, vs, rfl, h, l, k⟩ := den_tupE d1
      exact .inr (.inl ⟨a, rfl, ⟨vs, h U H1 Ev.refl⟩, q1 _ H1 (by rw [← k.length]; exact l) (itd_tup h k) w1 f1⟩)
    | str x =>
      obtain ⟨rfl, l⟩ := den_str d1
      exact .inr (.inr ⟨x, rfl, q1 _ H1 (by rw [List.length_map, Array.length_toList]; exact l) (itd_str x) w1 f1⟩)
    | _ => exact q1.elim
def rgD (lo : Int) (n : Nat) : List D := (List.range n).map fun i => .int (lo + (i : Nat))
theorem itd_rg (lo : Int) (n : Nat) : ItD g U H (Itr lo n) (rgD lo n) := fun i U1 H1 b e w u => by
  refine ⟨fun d hd => ?_, fun hl => by unfold rgD at hl; rw [List.length_map, List.length_range] at hl; exact Nat.le_of_eq hl⟩
  unfold rgD at hd
  rw [List.getElem?_map] at hd
  have hi : i < n := by
    cases q : (List.range n)[i]? with
    | none => rw [q] at hd; cases hd
    | some c =>
      have := (List.getElem?_eq_some_iff.mp q).1
      rwa [List.length_range] at this
  rw [List.getElem?_range hi] at hd
  cases hd
  refine ⟨hi, ?_⟩
  rintro y H2 ⟨rfl, rfl⟩
  exact ⟨.int _, fun _ _ z => z⟩
def rg1 (x : D) : Tr (List D) := match x with
  | .int j => if -(2 ^ 62) ≤ j ∧ j ≤ 16777216 then .ok (rgD 0 j.toNat) else .bad
  | _ => .bad
theorem si_rg1 {t : TA} {m : Tr (List D)} (ha : SA g E ε t m) : SI g E ε (iRng1 t) (bd m (ul1 rg1)) := fun U σ H b R rl wd u q =>
  ha.step rl wd u q fun v d H1 b1 d1 w1 f1 R1 u1 q1 => by
    obtain ⟨x, rfl, q2⟩ := al_ul1 q1
    obtain ⟨v, rfl, e1⟩ := denL_1 d1
    cases x with
    | int j =>
      cases den_int e1
      unfold rg1 at q2
      dsimp only at q2
      split at q2
      · rename_i hj
        exact ⟨j, rfl, hj.1, by omega, q2 _ H1 (by unfold rgD; rw [List.length_map, List.length_range, sizeLine_eq]; omega) (itd_rg 0 _) w1 f1⟩
      · exact q2.elim
    | _ => exact q2.elim
def lcF (f : D → Tr (Option D)) : List D → Tr (List D)
  | [] => .ok []
  | x :: xs => bd (f x) fun o => bd (lcF f xs) fun r => .ok (match o with | some y => y :: r | none => r)
theorem lcF_nil (f : D → Tr (Option D)) : lcF f [] = .ok [] := rfl
theorem lcF_cons (f : D → Tr (Option D)) (x : D) (xs : List D) : lcF f (x :: xs) = bd (f x) fun o => bd (lcF f xs) fun r => .ok (match o with | some y => y :: r | none => r) := rfl
def okO (g : Gw) (U : Addr → Prop) (H : Hp) (Q : Option V → Hp → Prop) : Option D → Nat → Prop
  | some y, b => ∀ w H', Den g U H' w y → Wd g H' b → Fr H H' g.p → Q (some w) H'
  | none, b => ∀ H', Wd g H' b → Fr H H' g.p → Q none H'
def SC (g : Gw) (ε : Env) (d : D) (gt : TG) (tt : TT) (te : TE) (vs : List Nat) (m : Tr (Option D)) : Prop := ∀ U σ H b v (Q : Option V → Hp → Prop), Rel g U H σ ε → Wd g H b → UOk g U H → Den g U H v d → Al (okO g U H Q) (fun _ _ _ => False) m b →
  gt v (wipe σ vs) H fun σ2 H2 => wipe σ2 vs = wipe σ vs ∧ tt σ2 H2 fun k H3 => if k = true then te σ2 H3 (fun y H4 => Q (some y) H4) else Q none H3
theorem al_noX {α : Type} {P : α → Nat → Prop} {X : Str → Fs → Nat → Prop} {m : Tr α} (h : Al P X (nox m) b) : Al P (fun _ _ _ => False) m b := al_nox h
theorem se_lc {wi : TI} {gt : TG} {tt : TT} {vs : List Nat} {mi : Tr (List D)} {f : D → Tr (Option D)} (hi : SI g E ε wi mi) (hf : ∀ d, SC g ε d gt tt te vs (f d)) : SE g E ε (tLc wi gt tt te vs) (bd mi fun ds => bd (lcF (fun d => nox (f d)) ds) fun r => .ok (.lst r)) := fun U σ H b Q rl wd u q => by
  refine hi U σ H b _ rl wd u ((al_bd.mp q).mono (fun ds b1 h1 J H1 hsz it w1 f1 => ?_) (fun _ _ _ h => h))
  intro A nA
  have u1 := u.fr f1 w1
  have nUA : ¬ U A := u1.new nA
  have hp : A ≠ g.p := fun z => nUA (z ▸ u.p)
  have hc : A ≠ g.c := fun z => nUA (z ▸ u.c)
  have rl1 := (rl.fr u f1).grow nA
  generalize hV : (fun a => U a ∨ a = A) = V at rl1
  have VA : V A := by rw [← hV]; exact .inr rfl
  have VU : ∀ a, U a → V a := fun a z => by rw [← hV]; exact .inl z
  have VO : ∀ a o, H1 a = some o → ¬ U a → ¬ V a := fun a o e n => by
    rw [← hV]
    rintro (z | z)
    · exact n z
    · exact ne_of_none e nA z
  have uv : ∀ {H' : Hp} {b : Nat} {o : List L2.V}, Fr H1 H' g.p → Wd g H' b → H' A = some (.lst o) → UOk g V H' := fun f w h => ⟨VU _ u.p, VU _ u.c, fun a ha => by
    rw [← hV] at ha
    rcases ha with ha | rfl
    · exact (u1.fr f w).al a ha
    · exact ⟨_, h, (fun _ z => by cases z), (fun _ z => by cases z)⟩⟩
  refine ⟨fun i m H' => ∃ b' accV accD, m = ds.length - i ∧ i ≤ ds.length ∧ accV.length ≤ i ∧ H' A = some (.lst accV) ∧ DenL g V H' accV accD ∧ Wd g H' b' ∧ Fr H1 H' g.p ∧ Al (fun r b => okP g U H Q (.lst (accD ++ r)) b) (exP g U E H) (lcF (fun d => nox (f d)) (ds.drop i)) b', ?_, ?_⟩
  · refine ⟨ds.length, b1, [], [], by simp, Nat.zero_le _, Nat.zero_le _, upd_same, .nil, w1.same (same_new nA), fr_same (same_new nA), ?_⟩
    exact (al_bd.mp h1).mono (fun r b h => h) (fun _ _ _ h => h)
  · rintro i m H' ⟨b', accV, accD, rfl, hle, hla, hA, dA, w', f', q'⟩
    have u' := uv f' w' hA
    have ev' : Ev U H1 V H' := ⟨fun a o e n t => f' a o e (fun z => n (z ▸ u.p)) t, fun a o e n _ => VO a o e n⟩
    obtain ⟨it1, it2⟩ := it i V H' b' ev' w' u'
    by_cases hlt : i < ds.length
    · have ei : ds[i]? = some ds[i] := List.getElem?_eq_getElem hlt
      obtain ⟨go, y⟩ := it1 _ ei
      rw [List.drop_eq_getElem_cons hlt, lcF_cons] at q'
      refine .inr ⟨go, fun H' => ∃ b' accV accD, accV.length ≤ i + 1 ∧ H' A = some (.lst accV) ∧ DenL g V H' accV accD ∧ Wd g H' b' ∧ Fr H1 H' g.p ∧ Al (fun r b => okP g U H Q (.lst (accD ++ r)) b) (exP g U E H) (lcF (fun d => nox (f d)) (ds.drop (i + 1))) b', ?_, ?_⟩
      · rintro H2 ⟨b2, av, ad, h1, h2⟩
        exact ⟨ds.length - (i + 1), by omega, b2, av, ad, rfl, hlt, h1, h2⟩
      · intro x H2 hy
        obtain ⟨dn, sm⟩ := y x H2 hy
        have w2 := w'.same sm
        have f2 : Fr H1 H2 g.p := f'.trans (fr_same sm)
        have hA2 := sm _ _ hA
        refine hf ds[i] V σ H2 b' x (fun o H4 => match o with
          | some y => ∃ acc, H4 A = some (.lst acc) ∧ acc.length < sizeLine ∧ ∃ b' accV accD, accV.length ≤ i + 1 ∧ (upd H4 A (.lst (acc ++ [y]))) A = some (.lst accV) ∧ DenL g V (upd H4 A (.lst (acc ++ [y]))) accV accD ∧ Wd g (upd H4 A (.lst (acc ++ [y]))) b' ∧ Fr H1 (upd H4 A (.lst (acc ++ [y]))) g.p ∧ Al (fun r b => okP g U H Q (.lst (accD ++ r)) b) (exP g U E H) (lcF (fun d => nox (f d)) (ds.drop (i + 1))) b'
          | none => ∃ b' accV accD, accV.length ≤ i + 1 ∧ H4 A = some (.lst accV) ∧ DenL g V H4 accV accD ∧ Wd g H4 b' ∧ Fr H1 H4 g.p ∧ Al (fun r b => okP g U H Q (.lst (accD ++ r)) b) (exP g U E H) (lcF (fun d => nox (f d)) (ds.drop (i + 1))) b')
          (rl1.frp (VU _ u.p) f2) w2 (uv f2 w2 hA2) dn ((al_noX (al_bd.mp q')).mono (fun o b2 h2 => ?_) (fun _ _ _ z => z))
        have h3 := al_bd.mp h2
        cases o with
        | some y =>
          intro w H4 dw w4 f4
          have hA4 := f4 _ _ hA2 hp (fun _ z => by cases z)
          have e4 : ExtU V H4 (upd H4 A (.lst (accV ++ [w]))) := fun a o e n _ => by
            rw [upd_ne (fun z => n (by rw [z]; exact VA))]
            exact e
          have k4 : Keep H4 (upd H4 A (.lst (accV ++ [w]))) A := fun a o e n => by rw [upd_ne n]; exact e
          refine ⟨accV, hA4, Nat.lt_of_le_of_lt hla (Nat.lt_of_lt_of_le hlt hsz), b2, accV ++ [w], accD ++ [y], ?_, upd_same, ?_, ?_, ?_, ?_⟩
          · rw [List.length_append]
            exact Nat.add_le_add_right hla 1
          · exact DenL.append ((dA.ext (extU_of (VU _ u.p) ((fr_same sm).trans f4))).ext e4) (.cons (dw.ext e4) .nil)
          · exact ⟨w4.pen.keep k4 hp hc, tabs_keepL k4 hA4 w4.tabs⟩
          · intro a o e n t
            rw [upd_ne (ne_of_none e nA)]
            exact f4 _ _ (f2 a o e n t) n t
          · exact h3.mono (fun r b h => by
              have : okP g U H Q (.lst (accD ++ (y :: r))) b := h
              rw [List.append_cons] at this
              exact this) (fun _ _ _ z => z)
        | none =>
          intro H4 w4 f4
          exact ⟨b2, accV, accD, Nat.le_succ_of_le hla, f4 _ _ hA2 hp (fun _ z => by cases z), dA.ext (extU_of (VU _ u.p) ((fr_same sm).trans f4)), w4, f2.trans f4, h3.mono (fun r b h => h) (fun _ _ _ z => z)⟩
    · have e : i = ds.length := by omega
      subst e
      rw [List.drop_length, lcF_nil] at q'
      refine .inl ⟨it2 (rfl), ?_⟩
      have q2 : okP g U H Q (.lst (accD ++ [])) b' := q'
      rw [List.append_nil] at q2
      exact q2 _ H' (.lst hA nUA (Nat.le_trans hla hsz) (dA.sub fun a _ z => VU a z)) w' (f1.trans f')
end
end Gp
end
section
set_option Elab.async false
set_option linter.all false
set_option maxRecDepth 100000
set_option maxHeartbeats 4000000
namespace Gp
open PySem PySem.Spec PyProof.Rows L2 Gh
section
variable {g : Gw} {Mt U0 U U' : Addr → Prop} {H0 H H' H1 H2 : Hp} {b b1 : Nat} {σ : L2.St} {ε ε' : Env} {E : XK} {W L W' : Type}
variable {env : W → Env} {envL : L → Env} {env' : W' → Env} {u ta tb : TS} {te : TE} {me : Tr D}
theorem sc_map {i : Nat} {d : D} (he : SE g EF (ε.set i (.fz d)) te me) : SC g ε d (gName i) tYes te [i] (bd me fun y => .ok (some y)) := fun U σ H b v Q rl wd u dn q => by
  have e1 : wipe σ [i] = σ.set i none := rfl
  rw [e1]
  show wipe ((σ.set i none).set i (some v)) [i] = _ ∧ _
  rw [List.set_set]
  refine ⟨?_, ?_⟩
  · show (σ.set i (some v)).set i none = _
    rw [List.set_set]
  · show te (σ.set i (some v)) H fun y H4 => Q (some y) H4
    refine he.step (rl.set i dn) wd u (q.mono (fun _ _ z => z) (fun _ _ _ z => exP.F z)) fun y e H2 b2 d2 w2 f2 R2 u2 q2 => ?_
    exact q2 y H2 d2 w2 f2
end
end Gp
end
section
set_option Elab.async false
set_option linter.all false
set_option maxRecDepth 100000
set_option maxHeartbeats 4000000
namespace Gp
open PySem PySem.Spec PyProof.Rows L2 Gh
section
variable {g : Gw} {Mt U0 U U' : Addr → Prop} {H0 H H' H1 H2 : Hp} {b b1 : Nat} {σ : L2.St} {ε ε' : Env} {E : XK} {W L W' : Type}
variable {env : W → Env} {envL : L → Env} {env' : W' → Env} {u ta tb : TS} {te : TE} {me : Tr D}
def spF (K : PySem.W.Frag) (T : List (Addr × Str)) (F : List D → Tr D) : Sp := fun vs H Q E => ∃ p c U ds b, DenL ⟨K, T, p, c⟩ U H vs ds ∧ Wd ⟨K, T, p, c⟩ H b ∧ UOk ⟨K, T, p, c⟩ U H ∧ Al (okP ⟨K, T, p, c⟩ U H Q) (exP ⟨K, T, p, c⟩ U E H) (F ds) b
def envE : Empty → Env := fun e => nomatch e
theorem rel_start {N : List Str} {vs : List V} {ds : List D} (h : DenL g U H vs ds) : Rel g U H (L2.start N vs) (ds.map Sl.fz ++ List.replicate (N.length - ds.length) Sl.no) := by
  have no : ∀ i a, ¬ OwnAt (L2.start N vs) (ds.map Sl.fz ++ List.replicate (N.length - ds.length) Sl.no) i a := fun i a ⟨_, z⟩ => by
    have : ∀ s : Sl, (ds.map Sl.fz ++ List.replicate (N.length - ds.length) Sl.no)[i]? = some s → (∃ d, s = .fz d) ∨ s = .no := fun s e => by
      have m := List.mem_of_getElem? e
      rcases List.mem_append.mp m with m | m
      · obtain ⟨d, _, e⟩ := List.mem_map.mp m
        exact .inl ⟨d, e.symm⟩
      · exact .inr (List.mem_replicate.mp m).2
    rcases z with ⟨x, z⟩ | ⟨x, y, z⟩
    · rcases this _ z with ⟨d, e⟩ | e <;> cases e
    · rcases this _ z with ⟨d, e⟩ | e <;> cases e
  have hl := h.length
  refine ⟨?_, fun i s e => ?_, fun i j a _ h1 _ => (no i a h1).elim⟩
  · unfold L2.start
    simp only [List.length_append, List.length_map, List.length_replicate, hl]
  · unfold L2.start
    by_cases q : i < ds.length
    · rw [List.getElem?_append_left (by rw [List.length_map]; exact q), List.getElem?_map] at e
      rw [List.getElem?_append_left (by rw [List.length_map, hl]; exact q), List.getElem?_map]
      cases z : ds[i]? with
      | none => rw [z] at e; cases e
      | some d =>
        rw [z] at e
        cases e
        obtain ⟨v, hv, dn⟩ := h.getD z
        rw [hv]
        exact ⟨some v, rfl, v, rfl, dn⟩
    · rw [List.getElem?_append_right (by rw [List.length_map]; omega), List.length_map] at e
      rw [List.getElem?_append_right (by rw [List.length_map, hl]; omega), List.length_map, hl]
      have m := List.mem_of_getElem? e
      obtain ⟨n0, rfl⟩ := List.mem_replicate.mp m
      have i1 := (List.getElem?_eq_some_iff.mp e).1
      rw [List.length_replicate] at i1
      exact ⟨none, by rw [List.getElem?_replicate, if_pos i1], trivial⟩
theorem fn_of {K : PySem.W.Frag} {T : List (Addr × Str)} {N : List Str} {F : List D → Tr D} {vs : List V} {Q : VK} {t : TS} {envU : Unit → Env} (h : spF K T F vs H Q E)
    (hs : ∀ p c ds, (∃ (P : D → Nat → Prop) (X : Str → Fs → Nat → Prop) (b : Nat), Al P X (F ds) b) → ∃ m, F ds = fin m ∧ SS ⟨K, T, p, c⟩ E (ds.map Sl.fz ++ List.replicate (N.length - ds.length) Sl.no) t envU envE m) : t { nx := fun _ H' => Q .non H', rt := Q } (L2.start N vs) H := by
  obtain ⟨p, c, U, ds, b, dn, wd, u, al⟩ := h
  obtain ⟨m, e, ss⟩ := hs p c ds ⟨_, _, _, al⟩
  rw [e] at al
  have nn : ∀ i a, ¬ OwnAt (L2.start N vs) (ds.map Sl.fz ++ List.replicate (N.length - ds.length) Sl.no) i a := fun i a ⟨_, z⟩ => by
    have : ∀ s : Sl, (ds.map Sl.fz ++ List.replicate (N.length - ds.length) Sl.no)[i]? = some s → (∃ d, s = .fz d) ∨ s = .no := fun s e => by
      have m := List.mem_of_getElem? e
      rcases List.mem_append.mp m with m | m
      · obtain ⟨d, _, e⟩ := List.mem_map.mp m
        exact .inl ⟨d, e.symm⟩
      · exact .inr (List.mem_replicate.mp m).2
    rcases z with ⟨x, z⟩ | ⟨x, y, z⟩
    · rcases this _ z with ⟨d, e⟩ | e <;> cases e
    · rcases this _ z with ⟨d, e⟩ | e <;> cases e
  refine ss (fun _ => False) U H U _ _ H b ⟨rel_start dn, wd, u, fun _ z => z, fun i a z => (nn i a z).elim, fun _ _ z _ _ _ => z, fun i ds' a z1 z2 => (nn i a ⟨z2, .inl ⟨ds', z1⟩⟩).elim, fun i c fs a _ z1 z2 => (nn i a ⟨z2, .inr ⟨c, fs, z1⟩⟩).elim⟩ ((al_bd.mp al).mono (fun f b1 h1 => ?_) (fun c fs b1 h1 => ?_))
  · cases f with
    | nx w => exact fun U' σ' H' e s => h1 .non H' .non s.wd fun a o z1 z2 z3 => s.ext a o z1 z2 (fun z => z) z3
    | rt d => exact fun v H' dn w f => h1 v H' dn w fun a o z1 z2 z3 => f a o z1 z2 (fun z => z) z3
    | bk e => exact nomatch e
    | ct e => exact nomatch e
  · exact fun dd fvs H' z1 z2 z3 z4 z5 => h1 dd fvs H' z1 z2 z3 z4 fun a o y1 y2 y3 => z5 a o y1 y2 (fun z => z) y3
theorem fn_of1 {K : PySem.W.Frag} {T : List (Addr × Str)} {N : List Str} {F : D → Tr D} {vs : List V} {Q : VK} {t : TS} {envU : Unit → Env} {m : D → Tr (Fl Unit Empty)} (h : spF K T (ul1 F) vs H Q E) (hF : ∀ x, F x = fin (m x)) (hs : ∀ p c x, SS ⟨K, T, p, c⟩ E ([x].map Sl.fz ++ List.replicate (N.length - 1) Sl.no) t envU envE (m x)) : t { nx := fun _ H' => Q .non H', rt := Q } (L2.start N vs) H :=
  fn_of h fun p c ds ⟨_, _, _, al⟩ => by
    obtain ⟨x, rfl, _⟩ := al_ul1 al
    exact ⟨m x, hF x, hs p c x⟩
theorem fn_of2 {K : PySem.W.Frag} {T : List (Addr × Str)} {N : List Str} {F : D → D → Tr D} {vs : List V} {Q : VK} {t : TS} {envU : Unit → Env} {m : D → D → Tr (Fl Unit Empty)} (h : spF K T (ul2 F) vs H Q E) (hF : ∀ x y, F x y = fin (m x y)) (hs : ∀ p c x y, SS ⟨K, T, p, c⟩ E ([x, y].map Sl.fz ++ List.replicate (N.length - 2) Sl.no) t envU envE (m x y)) : t { nx := fun _ H' => Q .non H', rt := Q } (L2.start N vs) H :=
  fn_of h fun p c ds ⟨_, _, _, al⟩ => by
    obtain ⟨x, y, rfl, _⟩ := al_ul2 al
    exact ⟨m x y, hF x y, hs p c x y⟩
theorem spF_len {K : PySem.W.Frag} {T : List (Addr × Str)} {F : List D → Tr D} {n : Nat} (hn : ∀ (P : D → Nat → Prop) (X : Str → Fs → Nat → Prop) ds b, Al P X (F ds) b → ds.length = n) {vs : List V} {Q : VK} (h : spF K T F vs H Q E) : vs.length = n := by
  obtain ⟨p, c, U, ds, b, dn, wd, u, al⟩ := h
  rw [dn.length]
  exact hn _ _ _ _ al
theorem len1 {F : D → Tr D} (P : D → Nat → Prop) (X : Str → Fs → Nat → Prop) (ds : List D) (b : Nat) (h : Al P X (ul1 F ds) b) : ds.length = 1 := by obtain ⟨_, rfl, _⟩ := al_ul1 h; rfl
theorem len2 {F : D → D → Tr D} (P : D → Nat → Prop) (X : Str → Fs → Nat → Prop) (ds : List D) (b : Nat) (h : Al P X (ul2 F ds) b) : ds.length = 2 := by obtain ⟨_, _, rfl, _⟩ := al_ul2 h; rfl
theorem srl_sp0 {F : List D → Tr D} : SRL g E (rSp (spF g.K g.T F) [] E) F := fun U H b xs dxs Q dn wd u q =>
  ⟨g.p, g.c, U, dxs, b, by rw [List.append_nil]; exact dn, wd, u, q⟩
theorem den_obj {v : V} {c : Str} {fs : Fs} (h : Den g U H v (.obj c fs)) : ∃ a dx fvs, v = .ref a ∧ H a = some (.ins (gd c g.K) dx fvs) ∧ ¬ U a ∧ DenF g U H fvs fs := by
  cases h with
  | obj h n k => exact ⟨_, _, _, rfl, h, n, k⟩
def finI (m : Tr (Fl Fs Empty)) : Tr Fs := bd m fun f => match f with
  | .nx fs => .ok fs
  | .rt _ => .bad
  | .bk e => nomatch e
  | .ct e => nomatch e
end
end Gp
end
section
set_option Elab.async false
set_option linter.all false
set_option maxRecDepth 100000
set_option maxHeartbeats 4000000
namespace Gp
open PySem PySem.Spec PyProof.Rows L2 Gh
section
variable {g : Gw} {U : Addr → Prop} {H H' H1 : Hp} {b : Nat} {E : XK} {Q : VK}
theorem denL_dp {K : PySem.W.Frag} : ∀ {vs : List V} {ds : List D} {es : List PyData}, DenL g U H vs ds → (∀ d ∈ ds, ∀ v e, Den g U H v d → toPy d = some e → Dp g.K H v e) → toPyL ds = some es → DpAll g.K H vs es
  | _, _, _, .nil, _, h => by cases h; exact .nil
  | _, d :: ds, es, .cons a r, ih, h => by
    unfold toPyL at h
    cases e1 : toPy d with
    | none => rw [e1] at h; cases h
    | some e =>
      cases e2 : toPyL ds with
      | none => rw [e1, e2] at h; cases h
      | some es' =>
        rw [e1, e2] at h
        cases h
        exact .cons (ih d List.mem_cons_self _ _ a e1) (denL_dp (K := K) r (fun d hd => ih d (List.mem_cons_of_mem _ hd)) e2)
theorem den_dp : ∀ (d : D) {v : V} {e : PyData}, Den g U H v d → toPy d = some e → Dp g.K H v e
  | .non, _, _, h, z => by cases h; cases z; exact .non
  | .bl b, _, _, h, z => by cases h; cases z; exact .bl b
  | .int i, _, _, h, z => by cases h; cases z; exact .int i
  | .str x, _, _, h, z => by cases h; cases z; exact .str x
  | .tup ds, v, e, h, z => by
    unfold toPy at z
    cases q : toPyL ds with
    | none => rw [q] at z; cases z
    | some es =>
      rw [q] at z
      cases z
      obtain ⟨a, vs, rfl, sq, _, k⟩ := den_tup h
      exact .tup sq (denL_dp (K := g.K) k (fun d hd v e h1 h2 => den_dp d h1 h2) q)
  | .lst ds, v, e, h, z => by
    unfold toPy at z
    cases q : toPyL ds with
    | none => rw [q] at z; cases z
    | some es =>
      rw [q] at z
      cases z
      obtain ⟨a, vs, rfl, hh, _, _, k⟩ := den_lst h
      exact .lst (SqL.of hh) (denL_dp (K := g.K) k (fun d hd v e h1 h2 => den_dp d h1 h2) q)
  | .obj _ _, _, _, _, z => by cases z
  | .err _ _, _, _, _, z => by cases z
  | .pen, _, _, _, z => by cases z
theorem new_lst {vs : List V} {ds : List D} (q : okP g U H Q (.lst ds) b) (w : Wd g H b) (u : UOk g U H) (l : vs.length ≤ sizeLine) (dn : DenL g U H vs ds) : ∀ p, H p = none → Q (.ref p) (upd H p (.lst vs)) := fun p np =>
  q _ _ (.lst upd_same (u.new np) l (dn.ext (fun a o e _ _ => same_new np a o e))) (w.same (same_new np)) (fr_same (same_new np))
theorem new_tup {vs : List V} {ds : List D} (q : okP g U H Q (.tup ds) b) (w : Wd g H b) (u : UOk g U H) (l : vs.length ≤ sizeLine) (dn : DenL g U H vs ds) : ∀ p, H p = none → Q (.ref p) (upd H p (.tup vs)) := fun p np =>
  q _ _ (.tup upd_same (u.new np) l (dn.ext (fun a o e _ _ => same_new np a o e))) (w.same (same_new np)) (fr_same (same_new np))
def iiD (f : Int → Int → D) (x y : D) : Tr D := match x, y with
  | .int i, .int j => .ok (f i j)
  | _, _ => .bad
def iicD (c : Int → Int → Prop) [∀ i j, Decidable (c i j)] (f : Int → Int → D) (x y : D) : Tr D := match x, y with
  | .int i, .int j => if c i j then .ok (f i j) else .bad
  | _, _ => .bad
def ltD : D → D → Tr D := iiD fun i j => .bl (decide (i < j))
def leD : D → D → Tr D := iiD fun i j => .bl (decide (i ≤ j))
def gtD : D → D → Tr D := iiD fun i j => .bl (decide (j < i))
def geD : D → D → Tr D := iiD fun i j => .bl (decide (j ≤ i))
def subD : D → D → Tr D := iiD fun i j => .int (i - j)
def modD : D → D → Tr D := iicD (fun _ j => 0 < j) fun i j => .int (i % j)
def divD : D → D → Tr D := iicD (fun _ j => 0 < j ∧ j < 10 ^ 100) fun i j => .int (i / j)
def negD (x : D) : Tr D := match x with
  | .int i => .ok (.int (-i))
  | _ => .bad
theorem sr_neg : SR1 g E (rU fun i => .int (-i)) negD := fun U H b x dx Q d1 w u q => by
  cases dx with
  | int i =>
    cases den_int d1
    exact ⟨i, rfl, okP.here q w (.int _)⟩
  | _ => exact q.elim
def addD (x y : D) : Tr D := match x, y with
  | .int i, .int j => .ok (.int (i + j))
  | .str a, .str b => if a.length + b.length ≤ sizeLine then .ok (.str (a ++ b)) else .bad
  | .lst a, .lst b => if a.length + b.length ≤ sizeLine then .ok (.lst (a ++ b)) else .bad
  | .tup a, .tup b => if a.length + b.length ≤ sizeLine then .ok (.tup (a ++ b)) else .bad
  | _, _ => .bad
def rAddA (K : PySem.W.Frag) : R2 := fun x y H Q => rI0 (fun i j => .int (i + j)) x y H Q ∨ (∃ i j, x = .str i ∧ y = .str j ∧ i.length + j.length ≤ sizeLine ∧ Q (.str (i ++ j)) H) ∨ rCat x y H Q ∨ rCatA K x y H Q
theorem op_addA {X : Cx} {K : PySem.W.Frag} (h : X.K = K) : OpR X (binaryOp .Add) (rAddA K) := h ▸ op_add.or (op_add_str.or (op_cat.or op_catA))
theorem str_app_len (a b : Str) : (a ++ b).length = a.length + b.length := by
  show (a.cps ++ b.cps).size = _
  rw [Array.size_append]
  rfl
theorem sr_add : SR2 g E (rAddA g.K) addD := fun U H b x y dx dy Q d1 d2 w u q => by
  unfold addD at q
  split at q
  · rename_i i j
    cases den_int d1
    cases den_int d2
    exact .inl ⟨i, j, rfl, rfl, okP.here q w (.int _)⟩
  · rename_i a c
    split at q
    · rename_i h
      obtain ⟨rfl, l1⟩ := den_str d1
      obtain ⟨rfl, l2⟩ := den_str d2
      exact .inr (.inl ⟨a, c, rfl, rfl, h, okP.here q w (.str _ (by rw [str_app_len]; exact h))⟩)
    · exact q.elim
  · rename_i a c
    split at q
    · rename_i h
      obtain ⟨p1, v1, rfl, h1, n1, l1, k1⟩ := den_lst d1
      obtain ⟨p2, v2, rfl, h2, n2, l2, k2⟩ := den_lst d2
      have hl : v1.length + v2.length ≤ sizeLine := by rw [k1.length, k2.length]; exact h
      exact .inr (.inr (.inl ⟨p1, p2, v1, v2, rfl, rfl, h1, h2, hl, new_lst q w u (by rw [List.length_append]; exact hl) (k1.append k2)⟩))
    · exact q.elim
  · rename_i a c
    split at q
    · rename_i h
      obtain ⟨p1, v1, rfl, h1, l1, k1⟩ := den_tup d1
      obtain ⟨p2, v2, rfl, h2, l2, k2⟩ := den_tup d2
      have hl : v1.length + v2.length ≤ sizeLine := by rw [k1.length, k2.length]; exact h
      refine .inr (.inr (.inr ⟨p1, p2, v1, v2, rfl, rfl, h1, h2, hl, fun e => ?_, fun _ e => ?_, fun _ _ => new_tup q w u (by rw [List.length_append]; exact hl) (k1.append k2)⟩))
      · subst e
        cases k1
        exact okP.here q w d2
      · subst e
        cases k2
        rw [List.append_nil] at q
        exact okP.here q w d1
    · exact q.elim
  · exact q.elim
def eqS : D → D → Option Bool
  | .non, .non => some true | .non, .int _ => some false | .int _, .non => some false | .non, .bl _ => some false | .bl _, .non => some false | .non, .str _ => some false | .str _, .non => some false
  | .int i, .int j => some (decide (i = j)) | .bl a, .bl c => some (decide (a = c)) | .str a, .str c => some (decide (a = c))
  | .int _, .str _ => some false | .str _, .int _ => some false | .bl _, .str _ => some false | .str _, .bl _ => some false
  | _, _ => none
def eqB (x y : D) : Tr Bool := match eqS x y with
  | some b => .ok b
  | none => match toPy x, toPy y with
    | some a, some c => if SeqAt.shaped a = true ∧ SeqAt.shaped c = true then .ok (PyData.eqv a c) else .bad
    | _, _ => .bad
def eqD (x y : D) : Tr D := bd (eqB x y) fun k => .ok (.bl k)
def neD (x y : D) : Tr D := bd (eqB x y) fun k => .ok (.bl (!k))
def rEqA (K : PySem.W.Frag) : R2 := fun x y H Q => rEq x y H Q ∨ rEqD K x y H Q
def rNeA (K : PySem.W.Frag) : R2 := fun x y H Q => rNe x y H Q ∨ rNeD K x y H Q
theorem op_eqA {X : Cx} {K : PySem.W.Frag} (h : X.K = K) (hu : X.A.units + 64 < cLine) : OpR X (compareOp .Eq) (rEqA K) := h ▸ op_eq.or (op_eqD hu)
theorem op_neA {X : Cx} {K : PySem.W.Frag} (h : X.K = K) (hu : X.A.units + 64 < cLine) : OpR X (compareOp .NotEq) (rNeA K) := h ▸ op_ne.or (op_neD hu)
theorem eqS_scal {x y : D} {v w : V} {k : Bool} (h : eqS x y = some k) (d1 : Den g U H v x) (d2 : Den g U H w y) : scal v w = true ∧ decide (v = w) = k := by
  cases x <;> cases y <;> first
    | (cases h; done)
    | (cases d1; cases d2; cases h; exact ⟨rfl, by simp⟩)
theorem al_eqB {P : Bool → Nat → Prop} {X : Str → Fs → Nat → Prop} {x y : D} (h : Al P X (eqB x y) b) : (∃ k, eqS x y = some k ∧ P k b) ∨ ∃ a c, toPy x = some a ∧ toPy y = some c ∧ SeqAt.shaped a = true ∧ SeqAt.shaped c = true ∧ P (PyData.eqv a c) b := by
  unfold eqB at h
  split at h
  · exact .inl ⟨_, by assumption, h⟩
  · split at h
    · split at h
      · rename_i e1 e2 z
        exact .inr ⟨_, _, e1, e2, z.1, z.2, h⟩
      · exact h.elim
    · exact h.elim
theorem sr_eq : SR2 g E (rEqA g.K) eqD := fun U H b x y dx dy Q d1 d2 w u q => by
  rcases al_eqB (al_bd.mp q) with ⟨k, e, q1⟩ | ⟨a, c, e1, e2, s1, s2, q1⟩
  · obtain ⟨h1, h2⟩ := eqS_scal e d1 d2
    refine .inl ⟨h1, ?_⟩
    rw [h2]
    exact okP.here q1 w (.bl _)
  · exact .inr ⟨a, c, den_dp dx d1 e1, den_dp dy d2 e2, s1, s2, okP.here q1 w (.bl _)⟩
theorem sr_ne : SR2 g E (rNeA g.K) neD := fun U H b x y dx dy Q d1 d2 w u q => by
  rcases al_eqB (al_bd.mp q) with ⟨k, e, q1⟩ | ⟨a, c, e1, e2, s1, s2, q1⟩
  · obtain ⟨h1, h2⟩ := eqS_scal e d1 d2
    refine .inl ⟨h1, ?_⟩
    rw [h2]
    exact okP.here q1 w (.bl _)
  · exact .inr ⟨a, c, den_dp dx d1 e1, den_dp dy d2 e2, s1, s2, okP.here q1 w (.bl _)⟩
def ixD (x y : D) : Tr D := match x, y with
  | .lst ds, .int i => match atI ds i with | some d => .ok d | none => .bad
  | .tup ds, .int i => match atI ds i with | some d => .ok d | none => .bad
  | .str z, .int i => match atI z.cps.toList i with | some c => .ok (.str ⟨#[c]⟩) | none => .bad
  | _, _ => .bad
theorem ix_seqK {X : Cx} {K : PySem.W.Frag} (h : X.K = K) : IxR X (rIx K) := h ▸ ix_seq
theorem denL_at {vs : List V} {ds : List D} {i : Int} {d : D} (h : DenL g U H vs ds) (e : atI ds i = some d) : ∃ v, atI vs i = some v ∧ Den g U H v d := by
  unfold atI at e ⊢
  rw [h.length]
  cases q : ixN ds.length i with
  | none => rw [q] at e; cases e
  | some j =>
    rw [q] at e
    exact h.getD e
theorem sr_ix : SR2 g E (rIx g.K) ixD := fun U H b x y dx dy Q d1 d2 w u q => by
  unfold ixD at q
  split at q
  · rename_i ds i
    split at q
    · rename_i d e
      obtain ⟨p, vs, rfl, h, n, l, k⟩ := den_lst d1
      cases den_int d2
      obtain ⟨v, hv, dv⟩ := denL_at k e
      exact .inl ⟨p, vs, i, v, rfl, rfl, SqL.of h, hv, okP.here q w dv⟩
    · exact q.elim
  · rename_i ds i
    split at q
    · rename_i d e
      obtain ⟨p, vs, rfl, h, l, k⟩ := den_tup d1
      cases den_int d2
      obtain ⟨v, hv, dv⟩ := denL_at k e
      exact .inr (.inl ⟨p, vs, i, v, rfl, rfl, h, hv, okP.here q w dv⟩)
    · exact q.elim
  · rename_i z i
    split at q
    · rename_i c e
      obtain ⟨rfl, l⟩ := den_str d1
      cases den_int d2
      exact .inr (.inr ⟨z, i, c, rfl, rfl, l, e, okP.here q w den1⟩)
    · exact q.elim
  · exact q.elim
def lenD (x : D) : Tr D := match x with
  | .lst ds => .ok (.int ds.length)
  | .tup ds => .ok (.int ds.length)
  | .str z => .ok (.int z.length)
  | _ => .bad
theorem srl_len : SRL g E (rLn g.K) (ul1 lenD) := fun U H b xs dxs Q dn w u q => by
  obtain ⟨x, rfl, q1⟩ := al_ul1 q
  obtain ⟨v, rfl, d1⟩ := denL_1 dn
  cases x with
  | lst ds =>
    obtain ⟨p, vs, rfl, h, n, l, k⟩ := den_lst d1
    refine st_lenL h ?_
    rw [k.length]
    exact okP.here q1 w (.int _)
  | tup ds =>
    obtain ⟨p, vs, rfl, h, l, k⟩ := den_tup d1
    unfold rLn
    exact ⟨_, _, rfl, .inr ⟨vs, h, rfl⟩, by rw [k.length]; exact okP.here q1 w (.int _)⟩
  | str z =>
    obtain ⟨rfl, l⟩ := den_str d1
    exact st_lenS l (okP.here q1 w (.int _))
  | _ => exact q1.elim
def intD (x : D) : Tr D := match x with
  | .int i => .ok (.int i)
  | .bl k => .ok (.int (if k = true then 1 else 0))
  | _ => .bad
def absD (x : D) : Tr D := match x with
  | .int i => .ok (.int (if i < 0 then -i else i))
  | _ => .bad
end
end Gp
end
section
set_option Elab.async false
set_option linter.all false
set_option maxRecDepth 100000
set_option maxHeartbeats 4000000
namespace Gp
open PySem PySem.Spec PyProof.Rows L2 Gh
section
variable {g : Gw} {Mt U0 U U' : Addr → Prop} {H0 H H' H1 H2 : Hp} {b b1 : Nat} {σ : L2.St} {ε ε' : Env} {E : XK} {Q : VK} {W L W' : Type}
variable {env : W → Env} {envL : L → Env} {env' : W' → Env} {u ta tb : TS} {te : TE} {me : Tr D}
def flatD : D → Bool
  | .non => true
  | .bl _ => true
  | .int _ => true
  | .str _ => true
  | _ => false
def eqF : D → D → Bool
  | .non, .non => true
  | .bl a, .bl b => a == b
  | .bl a, .int b => (if a then 1 else 0) == b
  | .int a, .bl b => a == (if b then 1 else 0)
  | .int a, .int b => a == b
  | .str a, .str b => a == b
  | _, _ => false
theorem flat_den {v : V} {d : D} (h : Den g U H v d) (f : flatD d = true) : flatV v = true := by
  cases h <;> first
    | rfl
    | cases f
theorem eqF_den {v w : V} {d e : D} (h : Den g U H v d) (k : Den g U H w e) : eqF d e = eqV v w := by
  cases h <;> cases k <;> rfl
def inD (x : D) (ds : List D) : Bool := ds.any fun y => eqF y x
theorem inD_den {v : V} {d : D} (h : Den g U H v d) : ∀ {vs : List V} {ds : List D}, DenL g U H vs ds → inD d ds = inV v vs
  | _, _, .nil => rfl
  | _, _, .cons a r => by
    have := inD_den h r
    unfold inD inV at this ⊢
    rw [List.any_cons, List.any_cons, eqF_den a h, this]
theorem flats_den : ∀ {vs : List V} {ds : List D}, DenL g U H vs ds → ds.all flatD = true → vs.all flatV = true
  | _, _, .nil, _ => rfl
  | _, _, .cons a r, f => by
    rw [List.all_cons, Bool.and_eq_true] at f ⊢
    exact ⟨flat_den a f.1, flats_den r f.2⟩
def inB (x y : D) : Tr Bool := match y with
  | .lst ds => if flatD x = true ∧ ds.all flatD = true then .ok (inD x ds) else .bad
  | .tup ds => if flatD x = true ∧ ds.all flatD = true then .ok (inD x ds) else .bad
  | .str j => match x with
    | .str i => .ok (!(Builtin.Str.occurrences j i 0 j.length 1).isEmpty)
    | _ => .bad
  | _ => .bad
def inOD (x y : D) : Tr D := bd (inB x y) fun k => .ok (.bl k)
def notinD (x y : D) : Tr D := bd (inB x y) fun k => .ok (.bl (!k))
def rInA (K : PySem.W.Frag) : R2 := fun x y H Q => rIn K false x y H Q ∨ ∃ i j, x = .str i ∧ y = .str j ∧ Q (.bl (!(Builtin.Str.occurrences j i 0 j.length 1).isEmpty)) H
def rNotInA (K : PySem.W.Frag) : R2 := fun x y H Q => rIn K true x y H Q ∨ ∃ i j, x = .str i ∧ y = .str j ∧ Q (.bl (!(!(Builtin.Str.occurrences j i 0 j.length 1).isEmpty))) H
theorem op_inA {X : Cx} {K : PySem.W.Frag} (h : X.K = K) : OpR X (compareOp .In) (rInA K) := h ▸ op_in_seq.or op_in_str
theorem op_notinA {X : Cx} {K : PySem.W.Frag} (h : X.K = K) : OpR X (compareOp .NotIn) (rNotInA K) := h ▸ op_notIn_seq.or op_notin_str
theorem al_inB {P : Bool → Nat → Prop} {Z : Str → Fs → Nat → Prop} {x y : D} {v w : V} (d1 : Den g U H v x) (d2 : Den g U H w y) (h : Al P Z (inB x y) b) :
    (∃ p vs, w = .ref p ∧ (SqL g.K H p vs ∨ SqT g.K H p vs) ∧ flatV v = true ∧ vs.all flatV = true ∧ P (inV v vs) b) ∨ ∃ i j, v = .str i ∧ w = .str j ∧ P (!(Builtin.Str.occurrences j i 0 j.length 1).isEmpty) b := by
  unfold inB at h
  split at h
  · split at h
    · rename_i z
      obtain ⟨p, vs, rfl, hh, _, _, k⟩ := den_lst d2
      rw [inD_den d1 k] at h
      exact .inl ⟨p, vs, rfl, .inl (SqL.of hh), flat_den d1 z.1, flats_den k z.2, h⟩
    · exact h.elim
  · split at h
    · rename_i z
      obtain ⟨p, vs, rfl, hh, _, k⟩ := den_tup d2
      rw [inD_den d1 k] at h
      exact .inl ⟨p, vs, rfl, .inr hh, flat_den d1 z.1, flats_den k z.2, h⟩
    · exact h.elim
  · split at h
    · obtain ⟨rfl, _⟩ := den_str d1
      obtain ⟨rfl, _⟩ := den_str d2
      exact .inr ⟨_, _, rfl, rfl, h⟩
    · exact h.elim
  · exact h.elim
theorem sr_in : SR2 g E (rInA g.K) inOD := fun U H b x y dx dy Q d1 d2 w u q => by
  rcases al_inB d1 d2 (al_bd.mp q) with ⟨p, vs, rfl, h1, h2, h3, h4⟩ | ⟨i, j, rfl, rfl, h⟩
  · exact .inl ⟨p, vs, rfl, h1, h2, h3, okP.here h4 w (.bl _)⟩
  · exact .inr ⟨i, j, rfl, rfl, okP.here h w (.bl _)⟩
theorem sr_notin : SR2 g E (rNotInA g.K) notinD := fun U H b x y dx dy Q d1 d2 w u q => by
  rcases al_inB d1 d2 (al_bd.mp q) with ⟨p, vs, rfl, h1, h2, h3, h4⟩ | ⟨i, j, rfl, rfl, h⟩
  · exact .inl ⟨p, vs, rfl, h1, h2, h3, okP.here h4 w (.bl _)⟩
  · exact .inr ⟨i, j, rfl, rfl, okP.here h w (.bl _)⟩
def SO (g : Gw) (E : XK) (ε : Env) (t : TO) (m : Tr (Option Int)) : Prop := ∀ U σ H b (Q : Option Int → Hp → Prop), Rel g U H σ ε → Wd g H b → UOk g U H → Al (fun o b' => ∀ H', Wd g H' b' → Fr H H' g.p → Q o H') (exP g U E H) m b → t σ H Q
theorem so_none : SO g E ε tNoPart (.ok none) := fun U σ H b Q R W u q => q H W Fr.refl
def asI (d : D) : Tr (Option Int) := match d with
  | .int i => .ok (some i)
  | _ => .bad
theorem so_some (he : SE g E ε te me) : SO g E ε (tPart te) (bd me asI) := fun U σ H b Q R W u q =>
  he.step R W u q fun v d H1 b1 d1 w1 f1 R1 u1 q1 => by
    cases d with
    | int i =>
      cases den_int d1
      exact ⟨i, rfl, q1 H1 w1 f1⟩
    | _ => exact q1.elim
theorem SO.step {α : Type} {t : TO} {m : Tr (Option Int)} {k : Option Int → Tr α} {P : α → Nat → Prop} {Q : Option Int → Hp → Prop} (ha : SO g E ε t m) (R : Rel g U H σ ε) (W : Wd g H b) (u : UOk g U H) (h : Al P (exP g U E H) (bd m k) b)
    (hk : ∀ d H1 b1, Wd g H1 b1 → Fr H H1 g.p → Rel g U H1 σ ε → UOk g U H1 → Al P (exP g U E H1) (k d) b1 → Q d H1) : t σ H Q :=
  ha U σ H b Q R W u ((al_bd.mp h).mono (fun d b1 h1 H1 w1 f1 => hk d H1 b1 w1 f1 (R.fr u f1) (u.fr f1 w1) (al_frX f1 h1)) (fun _ _ _ h => h))
def cutG {α : Type} (xs : List α) (lo hi : Option Int) : List α := (xs.drop (HT.sIx xs.length 0 lo)).take (HT.sIx xs.length xs.length hi - HT.sIx xs.length 0 lo)
def slD (x : D) (lo hi : Option Int) : Tr D := match x with
  | .lst ds => .ok (.lst (cutG ds lo hi))
  | .tup ds => .ok (.tup (cutG ds lo hi))
  | .str z => if (cutS z lo hi).length ≤ sizeLine then .ok (.str (cutS z lo hi)) else .bad
  | _ => .bad
def rSlAll (K : PySem.W.Frag) : V → Option Int → Option Int → Hp → VK → Prop := fun x lo hi H Q => rSlL K x lo hi H Q ∨ rSlA K x lo hi H Q ∨ L2.rSlS x lo hi H Q
theorem sl_all {X : Cx} {K : PySem.W.Frag} (h : X.K = K) : L2.SlR X (rSlAll K) := h ▸ sl_list.or (sl_tupA.or sl_str)
theorem denL_cut {vs : List V} {ds : List D} (k : DenL g U H vs ds) (lo hi : Option Int) : DenL g U H (cutV vs lo hi) (cutG ds lo hi) := by
  unfold cutV cutG
  rw [k.length]
  exact (k.drop _).take _
theorem se_sl {tl th : TO} {ml mh : Tr (Option Int)} (he : SE g E ε te me) (hl : SO g E ε tl ml) (hh : SO g E ε th mh) : SE g E ε (tSl (rSlAll g.K) te tl th) (bd me fun x => bd ml fun lo => bd mh fun hi => slD x lo hi) := fun U σ H b Q R W u q =>
  he.step R W u q fun v d H1 b1 d1 w1 f1 R1 u1 q1 => hl.step R1 w1 u1 q1 fun lo H2 b2 w2 f2 R2 u2 q2 => hh.step R2 w2 u2 q2 fun hi H3 b3 w3 f3 R3 u3 q3 => by
    have d3 := d1.fr u1 (f2.trans f3)
    have q4 := q3.mono (P' := okP g U H3 Q) (fun _ _ h => okP.fr ((f1.trans f2).trans f3) h) (fun _ _ _ h => h)
    cases d with
    | lst ds =>
      obtain ⟨p, vs, rfl, h, n, l, k⟩ := den_lst d3
      exact .inl ⟨p, vs, rfl, SqL.of h, new_lst q4 w3 u3 (Nat.le_trans (cutV_length _ _ _) l) (denL_cut k lo hi)⟩
    | tup ds =>
      obtain ⟨p, vs, rfl, h, l, k⟩ := den_tup d3
      refine .inr (.inl ⟨p, vs, rfl, h, fun e => ?_, fun _ => new_tup q4 w3 u3 (Nat.le_trans (cutV_length _ _ _) l) (denL_cut k lo hi)⟩)
      have e2 : cutG ds lo hi = ds := by
        unfold cutG
        rw [← k.length, e.1, e.2, List.drop_zero, Nat.sub_zero, k.length]
        exact List.take_length
      have q5 : okP g U H3 Q (.tup (cutG ds lo hi)) b3 := q4
      rw [e2] at q5
      exact okP.here q5 w3 d3
    | str z =>
      obtain ⟨rfl, l⟩ := den_str d3
      by_cases hz : (cutS z lo hi).length ≤ sizeLine
      · have q5 : Al (okP g U H3 Q) (exP g U E H3) (if (cutS z lo hi).length ≤ sizeLine then .ok (.str (cutS z lo hi)) else .bad) b3 := q4
        rw [if_pos hz] at q5
        exact .inr (.inr ⟨z, rfl, l, okP.here q5 w3 (.str _ hz)⟩)
      · have q5 : Al (okP g U H3 Q) (exP g U E H3) (if (cutS z lo hi).length ≤ sizeLine then .ok (.str (cutS z lo hi)) else .bad) b3 := q4
        rw [if_neg hz] at q5
        exact q5.elim
    | _ => exact q4.elim
def rgOk (a b : Int) : Prop := -(2 ^ 62) ≤ a ∧ a < 2 ^ 62 ∧ -(2 ^ 62) ≤ b ∧ b < 2 ^ 62 ∧ b - a ≤ 16777216
instance (a b : Int) : Decidable (rgOk a b) := by unfold rgOk; infer_instance
def IsT (g : Gw) (u : Value) (f : D → Option Bool) : Prop := ∀ U H v d k, Den g U H v d → f d = some k → (∃ t, TyX g.K H v t ∧ PySem.W.kitOne g.K t u = some k) ∨ (∃ a C, v = .ref a ∧ H a = some (exk0 a C) ∧ ErrT g.K C ∧ PySem.W.kitOne g.K (.ref C) u = some k) ∨ ∃ a C dd fvs, v = .ref a ∧ H a = some (exk a C dd) ∧ H dd = some (.xd fvs) ∧ ErrT g.K C ∧ PySem.W.kitOne g.K (.ref C) u = some k
def opt {α : Type} (o : Option α) : Tr α := match o with
  | some a => .ok a
  | none => .bad
theorem se_isi {cv : V} {u : Value} {f : D → Option Bool} (hc : ClsV cv u) (hT : IsT g u f) (he : SE g E ε te me) : SE g E ε (tCB (rIsiZ g.K) (tCons te (tCons (tC cv) tNil))) (bd me fun d => bd (opt (f d)) fun k => .ok (.bl k)) := fun U σ H b Q R W uo q =>
  he.step R W uo q fun v d H1 b1 d1 w1 f1 R1 u1 q1 => by
    cases e : f d with
    | none => rw [e] at q1; exact q1.elim
    | some k =>
      rw [e] at q1
      have q2 := okP.here (okP.fr f1 q1) w1 (.bl k)
      rcases hT U H1 v d k d1 e with ⟨t, h1, h2⟩ | ⟨a, C, rfl, h1, h3, h4⟩ | ⟨a, C, dd, fvs, rfl, h1, h2, h3, h4⟩
      · exact .inl ⟨v, cv, t, u, k, rfl, hc, h1, h2, q2⟩
      · exact .inr (.inl ⟨a, C, cv, u, k, rfl, hc, h1, h3, h4, q2⟩)
      · exact .inr (.inr ⟨a, C, dd, fvs, cv, u, k, rfl, hc, h1, h2, h3, h4, q2⟩)
def kdN : D → Option String
  | .non => some "NoneType"
  | .bl _ => some "bool"
  | .int _ => some "int"
  | .str _ => some "str"
  | .lst _ => some "list"
  | .tup _ => some "tuple"
  | .dct => some "dict"
  | .dic _ => some "dict"
  | _ => none
theorem kd_ty {v : V} {d : D} {n : String} (h : Den g U H v d) (e : kdN d = some n) : TyX g.K H v (.type n) := by
  cases h with
  | non => cases e; exact .base .non
  | bl b => cases e; exact .base (.bl b)
  | int i => cases e; exact .base (.int i)
  | str x _ => cases e; exact .base (.str x)
  | tup h _ _ _ => cases e; exact .base (.tup h)
  | tupW h _ _ _ =>
    cases e
    rcases h (fun _ => none) with (z | ⟨o, z⟩) | ⟨o, its, n, z1, z2, _⟩
    · cases z
    · cases z
    · exact .kTuple z1 z2
  | lst h _ _ _ => cases e; exact .base (.lst h)
  | obj _ _ _ => cases e
  | err _ _ _ _ _ => cases e
  | pen => cases e
  | cls _ => cases e
  | er0 _ _ => cases e
  | dct h _ => cases e; exact .base (.dK h)
  | dic h _ _ _ => cases e; exact .base (.dK h)
  | dit _ _ _ _ => cases e
  | dik _ _ _ _ => cases e
def isF (kb : String → Option Bool) (tab etab : List (Str × Bool)) (d : D) : Option Bool := match d with
  | .obj c _ => tab.lookup c
  | .err c _ => etab.lookup c
  | .er0 c => etab.lookup c
  | d => (kdN d).bind kb
theorem isT_of {u : Value} {kb : String → Option Bool} {tab etab : List (Str × Bool)} (h1 : ∀ n k, kb n = some k → PySem.W.kitOne g.K (.type n) u = some k) (h2 : ∀ c k, tab.lookup c = some k → Cls g.K (gd c g.K) ∧ InsT g.K (gd c g.K) ∧ PySem.W.kitOne g.K (.ref (gd c g.K)) u = some k)
    (h3 : ∀ c k, etab.lookup c = some k → ErrT g.K (gd c g.K) ∧ PySem.W.kitOne g.K (.ref (gd c g.K)) u = some k) : IsT g u (isF kb tab etab) := fun U H v d k dn e => by
  have base : ∀ d, Den g U H v d → (kdN d).bind kb = some k → ∃ t, TyX g.K H v t ∧ PySem.W.kitOne g.K t u = some k := fun d dn e => by
    cases q : kdN d with
    | none => rw [q] at e; cases e
    | some n =>
      rw [q] at e
      exact ⟨_, kd_ty dn q, h1 n k e⟩
  cases d with
  | obj c fs =>
    obtain ⟨a, dx, fvs, rfl, ea, _, _⟩ := den_obj dn
    obtain ⟨z1, z2, z3⟩ := h2 c k e
    exact .inl ⟨_, z2.ty z1 ea, z3⟩
  | err c fs =>
    cases dn with
    | err ha _ hd _ _ =>
      obtain ⟨z1, z2⟩ := h3 c k e
      exact .inr (.inr ⟨_, _, _, _, rfl, ha, hd, z1, z2⟩)
  | non => exact .inl (base _ dn e)
  | bl b => exact .inl (base _ dn e)
  | int i => exact .inl (base _ dn e)
  | str x => exact .inl (base _ dn e)
  | lst ds => exact .inl (base _ dn e)
  | tup ds => exact .inl (base _ dn e)
  | pen => exact .inl (base _ dn e)
  | cls c => exact .inl (base _ dn e)
  | er0 c =>
    cases dn with
    | er0 ha _ =>
      obtain ⟨z1, z2⟩ := h3 c k e
      exact .inr (.inl ⟨_, _, rfl, ha, z1, z2⟩)
  | dct => exact .inl (base _ dn e)
  | dic ps => exact .inl (base _ dn e)
  | dit ps => exact .inl (base _ dn e)
  | dik ps => exact .inl (base _ dn e)
theorem den_shw {v : V} {d : D} {x : Str} (h : Den g U H v d) (e : shwD d = some x) : Shw g.K H v x := by
  have cmp : ∀ {a : Addr}, v = .ref a → (match toPy d with
    | some e => if e.showable = true ∧ e.hasDict = false ∧ e.depth ≤ 100 ∧ e.shown.length ≤ sizeLine then some e.shown else none
    | none => none) = some x → Shw g.K H v x := fun {a} ev e => by
    subst ev
    split at e
    · split at e
      · rename_i q z
        cases e
        exact .dp (den_dp d h q) z.1 z.2.1 z.2.2.1 z.2.2.2
      · cases e
    · cases e
  cases d with
  | non => cases h; cases e; exact .non
  | bl b => cases h; cases e; exact .bl b
  | int i =>
    cases h
    unfold shwD at e
    dsimp only at e
    split at e
    · cases e; exact .int i (by assumption)
    · cases e
  | str y =>
    cases h
    unfold shwD at e
    dsimp only at e
    split at e
    · cases e; exact .str y (by assumption)
    · cases e
  | tup ds =>
    obtain ⟨a, _, rfl, _⟩ := den_tup h
    exact cmp rfl e
  | lst ds =>
    obtain ⟨a, _, rfl, _⟩ := den_lst h
    exact cmp rfl e
  | obj c fs => cases e
  | dic ps => cases e
  | dit ps => cases e
  | dik ps => cases e
  | err c fs => cases e
  | pen => cases e
  | cls c => cases e
  | er0 c => cases e
  | dct => cases e
theorem srl_repr : SRL g E (rShow g.K) (ul1 reprD) := fun U H b xs dxs Q dn w u q => by
  obtain ⟨x, rfl, q1⟩ := al_ul1 q
  obtain ⟨v, rfl, d1⟩ := denL_1 dn
  unfold reprD at q1
  split at q1
  · rename_i z e
    split at q1
    · exact rShow_of (den_shw d1 e) (okP.here q1 w (.str _ (by assumption)))
    · exact q1.elim
  · exact q1.elim
end
end Gp
end
section
set_option Elab.async false
set_option linter.all false
set_option maxRecDepth 100000
set_option maxHeartbeats 4000000
namespace Gp
open PySem PySem.Spec PyProof.Rows L2 Gh
section
variable {g : Gw} {Mt U0 U U' : Addr → Prop} {H0 H H' H1 H2 : Hp} {b b1 : Nat} {σ : L2.St} {ε ε' : Env} {E : XK} {Q : VK} {W L W' : Type}
variable {env : W → Env} {envL : L → Env} {env' : W' → Env} {u ta tb : TS} {te : TE} {me : Tr D}
theorem se_powK {a c r : Int} (h1 : 0 ≤ c ∧ c ≤ 1000) (h2 : -(2 ^ 60) < a ∧ a < 2 ^ 60) (h3 : a ^ c.toNat = r) : SE g E ε (tOp (rPowK r) (tC (.int a)) (tC (.int c))) (.ok (.int r)) := fun U σ H b Q R W u q =>
  st_powK ⟨h1.1, by omega, by omega⟩ h3 (okP.here q W (.int _))
theorem passA {X : Cx} {E : XK} : Passes CX0 X E := fun _ _ _ _ _ _ _ h => h.elim
theorem PE.or {X : Cx} {e : Expr} {t1 t2 : TE} (a : PE X e t1) (c : PE X e t2) : PE X e (fun σ H Q => t1 σ H Q ∨ t2 σ H Q) := ⟨fun pins s σ H Q I h => h.elim (a.run pins s σ H Q I) (c.run pins s σ H Q I)⟩
section
variable {K : PySem.W.Frag} {T : List (Addr × Str)} {N : List Str} {cn : Str} {vs : List V} {t : TS} {envI : Fs → Env}
end
def spLaw (K : PySem.W.Frag) (T : List (Addr × Str)) : Sp := fun vs H Q _ => ∃ (a : Addr) (ns : List Int), vs = [.ref a] ∧ SqL K H a (ns.map V.int) ∧ ns.length ≤ 63 ∧ LamX.Tabs T H ∧ ∀ H', Q (.bl true) H'
theorem spLaw_len {K : PySem.W.Frag} {T : List (Addr × Str)} {vs : List V} (h : spLaw K T vs H Q E) : vs.length = 1 := by
  obtain ⟨a, ns, rfl, _⟩ := h
  rfl
theorem law_of {K : PySem.W.Frag} {T : List (Addr × Str)} {N : List Str} {i n : Nat} {F : Tr D} {m : Tr (Fl Unit Empty)} {vs : List V} {t : TS} {envU : Unit → Env} (yes : Yes F) (h : spLaw K T vs H Q E) (hN : N.length = n + 1) (hi : i < n + 1) (h0 : i ≠ 0) (hF : F = fin m)
    (hs : ∀ p c, SS ⟨K, T, p, c⟩ EF ((List.replicate (n + 1) Sl.no).set i (.fz .pen)) t envU envE m) : tSeq (tAsg (tCl (rSp (spPn K) [] E) (tCons (tVar 0) tNil)) (gName i)) t { nx := fun _ H' => Q .non H', rt := Q } (L2.start N vs) H := by
  obtain ⟨a, ns, rfl, hS, hl, hT, q⟩ := h
  have st0 : L2.start N [V.ref a] = some (.ref a) :: List.replicate n none := by
    unfold L2.start
    rw [List.length_singleton, hN]
    rfl
  rw [st0]
  refine ⟨.ref a, rfl, ?_⟩
  refine ⟨a, ns, rfl, hS, hl, fun p c H1 np pn s => ?_⟩
  obtain ⟨ns', i', z', h1, h2, _⟩ := id pn
  have wd : Wd ⟨K, T, p, c⟩ H1 1000000 := ⟨pn, hT.ext s⟩
  have u : UOk ⟨K, T, p, c⟩ (fun x => x = p ∨ x = c) H1 := ⟨.inl rfl, .inr rfl, fun x hx => by
    rcases hx with rfl | rfl
    · exact ⟨_, h1, (fun _ z => by cases z), (fun _ z => by cases z)⟩
    · exact ⟨_, h2, (fun _ z => by cases z), (fun _ z => by cases z)⟩⟩
  have own : ∀ j x, ¬ OwnAt ((some (V.ref a) :: List.replicate n none).set i (some (.ref p))) ((List.replicate (n + 1) Sl.no).set i (.fz .pen)) j x := fun j x z => by
    obtain ⟨_, z2⟩ := ownAt_set z
    rcases z2.2 with ⟨ds, e⟩ | ⟨c, fs, e⟩
    · cases (List.mem_replicate.mp (List.mem_of_getElem? e)).2
    · cases (List.mem_replicate.mp (List.mem_of_getElem? e)).2
  have rl0 : Rel ⟨K, T, p, c⟩ (fun x => x = p ∨ x = c) H1 (some (V.ref a) :: List.replicate n none) (List.replicate (n + 1) Sl.no) := by
    refine ⟨by rw [List.length_cons, List.length_replicate, List.length_replicate], fun j s e => ?_, fun j k x ne z1 z2 => ?_⟩
    · have hj := (List.getElem?_eq_some_iff.mp e).1
      rw [List.length_replicate] at hj
      obtain ⟨_, rfl⟩ := List.mem_replicate.mp (List.mem_of_getElem? e)
      have hl2 : j < (some (V.ref a) :: List.replicate n (none : Option V)).length := by rw [List.length_cons, List.length_replicate]; exact hj
      exact ⟨_, List.getElem?_eq_getElem hl2, trivial⟩
    · rcases z1.2 with ⟨ds, e⟩ | ⟨c, fs, e⟩
      · cases (List.mem_replicate.mp (List.mem_of_getElem? e)).2
      · cases (List.mem_replicate.mp (List.mem_of_getElem? e)).2
  have rl := rl0.set i (v := .ref p) (d := .pen) .pen
  have yes' : Al (fun d _ => d = .bl true) (fun _ _ _ => False) (fin m) 1000000 := hF ▸ yes
  refine hs p c (fun _ => False) (fun x => x = p ∨ x = c) H1 (fun x => x = p ∨ x = c) _ _ H1 1000000 ⟨rl, wd, u, fun _ z => z, fun j x z => (own j x z).elim, fun _ _ z _ _ _ => z, fun j ds x z1 z2 => (own j x ⟨z2, .inl ⟨ds, z1⟩⟩).elim, fun j cc fs x _ z1 z2 => (own j x ⟨z2, .inr ⟨cc, fs, z1⟩⟩).elim⟩ ((al_bd.mp yes').mono (fun f b h => ?_) (fun _ _ _ z => z.elim))
  cases f with
  | nx w => cases (show D.non = .bl true from h)
  | rt d =>
    have h' : d = .bl true := h
    subst h'
    intro v H2 dn _ _
    cases dn
    exact q H2
  | bk e => exact nomatch e
  | ct e => exact nomatch e
end
end Gp
namespace Gp
open PySem PySem.Spec PyProof.Rows L2 Gh
section
variable {g : Gw}
end
end Gp
namespace Gp
open PySem PySem.Spec PyProof.Rows L2 Gh
theorem fnOk_weak {P : Program} {w : World} {K : PySem.W.Frag} {mg : Str → Option Value} {base : Heap} {CX : CXT} {k : Nat} {f : Addr} {fd : FuncData} {ps : List Str} {sp sp' : Sp} (F : FnOk P w K mg base CX k f fd ps sp) (h : ∀ vs H Q E, sp' vs H Q E → sp vs H Q E) : FnOk P w K mg base CX k f fd ps sp' :=
  ⟨fun vs H Q E z => F.len vs H Q E (h _ _ _ _ z), fun A o s H a us vs Q E hr e0 hb r z => F.run A o s H a us vs Q E hr e0 hb r (h _ _ _ _ z)⟩
def F_draw (x y : D) : Tr D := match x, y with
  | .pen, .int m => .draw m fun d => .ok (.int d)
  | _, _ => .bad
theorem F_draw_eq (m : Int) : F_draw .pen (.int m) = .draw m fun d => .ok (.int d) := rfl
theorem draw_of {K : PySem.W.Frag} {T : List (Addr × Str)} {vs : List V} {H : Hp} {Q : VK} {E : XK} (h : spF K T (ul2 F_draw) vs H Q E) : spDr vs H Q E := by
  obtain ⟨p, c, U, ds, b, dn, wd, u, al⟩ := h
  obtain ⟨x, y, rfl, al2⟩ := al_ul2 al
  obtain ⟨v, w, rfl, d1, d2⟩ := denL_2 dn
  unfold F_draw at al2
  split at al2
  · rename_i m
    cases d1
    cases d2
    obtain ⟨b', rfl, h0, h1, h2⟩ := al2
    refine ⟨p, c, b', m, rfl, h0, log_of h0 h1, wd.pen, fun d H' d0 d1 pn k => ?_⟩
    exact h2 d d0 d1 (.int d) H' (.int d) ⟨pn, tabs_keepP k wd.pen wd.tabs⟩ (keep_fr k)
  · exact al2.elim
end Gp
end
section
set_option Elab.async false
set_option linter.all false
set_option maxRecDepth 100000
set_option maxHeartbeats 4000000
namespace Gp
open PySem PySem.Spec PyProof.Rows L2 Gh
section
variable {g : Gw} {Mt U0 U U' : Addr → Prop} {H0 H H' H1 H2 : Hp} {b b1 : Nat} {σ : L2.St} {ε ε' : Env} {E : XK} {W L W' : Type}
variable {env : W → Env} {envL : L → Env} {env' : W' → Env} {u ta tb : TS} {te : TE} {me : Tr D}
def xaD (tab : List Str) (f : Str) (o : D) : Tr D := match o with
  | .err c fs => if c ∈ tab then (match fs.lookup f with | some d => .ok d | none => .bad) else .bad
  | _ => .bad
theorem se_xa {tab : List Str} {f : Str} (hT : ∀ c ∈ tab, ErrT g.K (gd c g.K) ∧ PySem.W.findIn g.K (.ref (gd c g.K)) f = some none) (he : SE g E ε te me) : SE g E ε (tXa g.K f te) (bd me (xaD tab f)) := fun U σ H b Q R W u q =>
  he.step R W u q fun v d H1 b1 d1 w1 f1 R1 u1 q1 => by
    cases d1 with
    | err ha na hd nd df =>
      rename_i a dd c fvs fs
      change Al _ _ (if c ∈ tab then (match fs.lookup f with | some d => .ok d | none => .bad) else .bad) b1 at q1
      split at q1
      · rename_i hm
        cases e : fs.lookup f with
        | none => rw [e] at q1; exact q1.elim
        | some d =>
          rw [e] at q1
          obtain ⟨v, hv, d2⟩ := df.look e
          exact ⟨a, _, dd, fvs, v, rfl, ha, (hT c hm).1, (hT c hm).2, hd, hv, q1 _ _ d2 w1 f1⟩
      · exact q1.elim
    | _ => exact q1.elim
end
end Gp
end
section
set_option Elab.async false
set_option linter.all false
set_option maxRecDepth 100000
set_option maxHeartbeats 4000000
namespace Gp
open PySem PySem.Spec PyProof.Rows L2 Gh
section
variable {g : Gw} {Mt U0 U U' : Addr → Prop} {H0 H H' H1 H2 : Hp} {b b1 b2 : Nat} {σ : L2.St} {ε ε' : Env} {E : XK} {W L W' : Type}
variable {env : W → Env} {envL : L → Env} {env' : W' → Env} {u ta tb : TS} {te : TE} {me : Tr D}
end
section
variable {K : PySem.W.Frag} {x qual file : Str} {params : Arguments} {body : List Stmt} {scope : Scope} {dvs : List V} {f B : Addr} {fd : FuncData} {ps : List Str}
theorem SupF.bindsN (F : SupF K x qual params body scope [] f B file fd)
    (h : ∀ (cl : List (Str × Addr)) (kV doc pm : Value) (an : Option Addr) (cdv ct : Value) (us : List Value), us.length = ps.length → bindArgs (PySem.W.fnX x qual params body scope cl .none kV doc pm an cdv ct) ⟨us, []⟩ = pure (ps.zip us)) : Binds K fd ps [] := by
  obtain ⟨oc, od, dV, kV, doc, pm, an, cda, ct, osl, cc, rfl, lk, hcd, hD, _⟩ := F.ex
  rcases hD with ⟨_, rfl⟩ | ⟨e, _⟩
  · exact .all (h _ kV doc pm an _ ct)
  · exact absurd rfl e
end
end Gp
end
section
set_option Elab.async false
set_option linter.all false
set_option maxRecDepth 100000
set_option maxHeartbeats 4000000
namespace Gp
open PySem PySem.Spec PyProof.Rows L2 Gh
def iEnA (K : PySem.W.Frag) (ta : TA) : TI := fun σ H R => ta σ H fun vs H1 => (∃ a xs, vs = [.ref a] ∧ SqL K H1 a xs ∧ R (Ite K a) H1) ∨ ∃ a xs, vs = [.ref a] ∧ SqT K H1 a xs ∧ R (Itu K a) H1
def enD : D → Tr (List D)
  | .lst ds => .ok (ds.mapIdx fun i d => .tup [.int i, d])
  | .tup ds => .ok (ds.mapIdx fun i d => .tup [.int i, d])
  | _ => .bad
section
variable {g : Gw} {Mt U0 U U' : Addr → Prop} {H0 H H' H1 H2 : Hp} {b b1 b2 : Nat} {σ : L2.St} {ε ε' : Env} {E : XK}
theorem pi_enumA {X : Cx} {K : PySem.W.Frag} {e : Expr} {ta : TA} {p pos tpos : Pos} {elts : List Expr} {kk : Nat} (hK : X.K = K) (hg : Gl X "enumerate") (hm : X.mg "enumerate" = none) (ha : PA X [e] ta) (hs : starEach [e] X.env = [(false, eval e X.env)] := by rfl) :
    PI X (.Tuple elts kk tpos) (.Call (.Name "enumerate" p) [e] [] pos) (iEnA K ta) := by
  subst hK
  refine ⟨fun pins s σ H R I h => ?_⟩
  refine Call_ (ld_blt I hg hm boot_enumerate (PyProof.Rows.callWith_type1 (thn (ha.run pos pins s σ H _ I h) fun us s1 ⟨vs, H1, I1, r1, q1⟩ => ?_) hs rfl))
  have fp : ∀ b ∈ [s1.heap.objs.size + 1, s1.heap.objs.size], FpOk X pins H1 b := fun b hb => by
    have e' : b = s1.heap.objs.size + 1 ∨ b = s1.heap.objs.size := by simpa using hb
    have hle : s1.heap.objs.size ≤ b := by
      rcases e' with z | z
      · rw [z]; exact Nat.le_add_right _ _
      · rw [z]; exact Nat.le_refl _
    exact I1.fpOk hle (I1.hok.fresh hle)
  rcases q1 with ⟨a, xs, ex, hq, q⟩ | ⟨a, xs, ex, hq, q⟩
  · subst ex
    cases r1 with
    | cons r rr =>
      cases rr
      cases r
      obtain ⟨its, rv, p', hz⟩ := I1.list hq
      refine call_enumerate_list p'.isList fun h' he hit hsz hk => wpAny_pyIter_enum he ?_
      have I2 : Inv X pins σ H1 { s1 with heap := h' } := I1.kept (t' := s1.toks) hk
      exact ⟨s1.heap.objs.size + 1, [s1.heap.objs.size + 1, s1.heap.objs.size], _, _, H1, rfl, I2, turn_enum a (s1.heap.objs.size + 1) s1.heap.objs.size, ⟨⟨.none, he⟩, hit, Nat.succ_ne_self _⟩, fp, q⟩
  · subst ex
    cases r1 with
    | cons r rr =>
      cases rr
      cases r
      obtain ⟨its, rv, p', hz⟩ := I1.tuple hq
      have hal : a < s1.heap.objs.size := by obtain ⟨_, z, _⟩ := p'; exact Heap.lt_size z
      refine call_enumerate_tup p' fun h' he hit hsz hk => wpAny_pyIter_enum he ?_
      have I2 : Inv X pins σ H1 { s1 with heap := h' } := I1.kept (t' := s1.toks) hk
      exact ⟨s1.heap.objs.size + 1, [s1.heap.objs.size + 1, s1.heap.objs.size], _, _, H1, rfl, I2, turn_enumT a (s1.heap.objs.size + 1) s1.heap.objs.size, ⟨⟨.none, he⟩, hit, Nat.succ_ne_self _, Nat.ne_of_lt hal, Nat.ne_of_gt (Nat.lt_succ_of_lt hal)⟩, fp, q⟩
theorem den_pair {x : V} {d : D} {T : Addr} (i : Nat) (u : UOk g U H1) (n : H1 T = none) (h : Den g U H1 x d) : Den g U (upd H1 T (.tup [.int i, x])) (.ref T) (.tup [.int i, d]) := by
  have s := same_new (o := .tup [.int i, x]) n
  exact .tup upd_same (u.new n) (by show 2 ≤ sizeLine; decide) (.cons (.int _) (.cons (h.ext (u.extU (fr_same s))) .nil))
theorem itd_enL {a : Addr} {vs : List V} {ds : List D} (h : H a = some (.lst vs)) (n : ¬ U a) (k : DenL g U H vs ds) : ItD g U H (Ite g.K a) (ds.mapIdx fun i d => .tup [.int i, d]) := fun i U1 H1 b e w u => by
  have h1 : H1 a = some (.lst vs) := e.keep _ _ h n (fun _ z => by cases z)
  refine ⟨fun d hd => ?_, fun hl => ⟨vs, SqL.of h1, by rw [k.length]; rw [List.length_mapIdx] at hl; exact Nat.le_of_eq hl⟩⟩
  rw [List.getElem?_mapIdx] at hd
  cases q : ds[i]? with
  | none => rw [q] at hd; cases hd
  | some d0 =>
    rw [q] at hd
    cases hd
    obtain ⟨v, hv, dn⟩ := k.getD q
    refine ⟨⟨vs, v, SqL.of h1, hv⟩, ?_⟩
    rintro x H2 ⟨T, y, rfl, nT, rfl, hy⟩
    have e2 := hy vs (SqL.of h1)
    rw [hv] at e2
    cases e2
    exact ⟨den_pair i u nT (dn.ev e), same_new nT⟩
theorem itd_enT {a : Addr} {vs : List V} {ds : List D} (h : ∀ U1 H1, Ev U H U1 H1 → SqT g.K H1 a vs) (k : DenL g U H vs ds) : ItD g U H (Itu g.K a) (ds.mapIdx fun i d => .tup [.int i, d]) := fun i U1 H1 b e w u => by
  have h1 := h U1 H1 e
  refine ⟨fun d hd => ?_, fun hl => ⟨vs, h1, by rw [k.length]; rw [List.length_mapIdx] at hl; exact hl⟩⟩
  rw [List.getElem?_mapIdx] at hd
  cases q : ds[i]? with
  | none => rw [q] at hd; cases hd
  | some d0 =>
    rw [q] at hd
    cases hd
    obtain ⟨v, hv, dn⟩ := k.getD q
    refine ⟨⟨vs, v, h1, hv⟩, ?_⟩
    rintro x H2 ⟨T, y, rfl, nT, rfl, hy⟩
    have e2 := hy vs h1
    rw [hv] at e2
    cases e2
    exact ⟨den_pair i u nT (dn.ev e), same_new nT⟩
theorem si_enum {t : TA} {m : Tr (List D)} (ha : SA g E ε t m) : SI g E ε (iEnA g.K t) (bd m (ul1 enD)) := fun U σ H b R rl wd u q =>
  ha.step rl wd u q fun v d H1 b1 d1 w1 f1 R1 u1 q1 => by
    obtain ⟨x, rfl, q2⟩ := al_ul1 q1
    obtain ⟨v, rfl, e1⟩ := denL_1 d1
    cases x with
    | lst ds =>
      obtain ⟨a, vs, rfl, h, n, l, k⟩ := den_lst e1
      exact .inl ⟨a, vs, rfl, SqL.of h, q2 _ H1 (by rw [List.length_mapIdx, ← k.length]; exact l) (itd_enL h n k) w1 f1⟩
    | tup ds =>
      obtain ⟨a, vs, rfl, h, l, k⟩ := den_tupE e1
      exact .inr ⟨a, vs, rfl, h U H1 Ev.refl, q2 _ H1 (by rw [List.length_mapIdx, ← k.length]; exact l) (itd_enT h k) w1 f1⟩
    | _ => exact q2.elim
variable {W L : Type} {env : W → Env} {envL : L → Env} {a r : TS} {t : TS} {m : Tr (Fl W L)}
end
end Gp
end
section
set_option Elab.async false
set_option linter.all false
set_option maxRecDepth 100000
set_option maxHeartbeats 4000000
namespace Gp
open PySem PySem.Spec PyProof.Rows L2 Gh
theorem obsL_eq {as : List Addr} {ex : List (PySem.W.Frag → Bool)} {fn : List Df} {tf : List He.Defn} {fs : List Ds} {file : Str} {g : Addr → Option Obj} {s : Shared} (h : ∀ a, g a = s.heap.get? a) : obsL as ex fn tf fs file g = (hookL as ex fn tf fs file).obs s := by
  have e : g = s.heap.get? := funext h
  rw [e] <;> rfl
end Gp
end
section
set_option Elab.async false
set_option linter.all false
set_option maxRecDepth 100000
set_option maxHeartbeats 4000000
namespace Gp
open PySem PySem.Spec PyProof.Rows L2 Gh
section
variable {g : Gw} {Mt U0 U U' : Addr → Prop} {H0 H H' H1 H2 : Hp} {b b1 : Nat} {σ : L2.St} {ε ε' : Env} {W L W' : Type} {yd : List D}
variable {env : W → Env} {envL : L → Env} {env' : W' → Env} {u ta tb : TGn} {te : TE} {me : Tr D}
def SG (g : Gw) (ε : Env) (t : TGn) (env : W → Env) (envL : L → Env) (m : List D → Tr (List D × Fl W L)) : Prop := ∀ Mt U0 H0 U D ys yd σ H b, Stt g Mt U0 H0 U σ H b ε → DenL g U H ys yd → Al (gflP g Mt U0 H0 U H D env envL) (fun _ _ _ => False) (m yd) b → t D ys σ H
def bdG (m : Tr (List D × Fl W' L)) (k : W' → List D → Tr (List D × Fl W L)) : Tr (List D × Fl W L) := bd m fun r => match r with
  | (zs, .nx w) => k w zs
  | (zs, .rt d) => .ok (zs, .rt d)
  | (zs, .bk l) => .ok (zs, .bk l)
  | (zs, .ct l) => .ok (zs, .ct l)
theorem SG.seq {m : List D → Tr (List D × Fl W' L)} {k : W' → List D → Tr (List D × Fl W L)} (h1 : SG g ε ta env' envL m) (h2 : ∀ w, SG g (env' w) u env envL (k w)) : SG g ε (tGThen ta u) env envL (fun yd => bdG (m yd) k) := fun Mt U0 H0 U D ys yd σ H b s dn q => by
  refine h1 Mt U0 H0 U { D with nx := fun ys' σ' H' => u D ys' σ' H' } ys yd σ H b s dn ((al_bd.mp q).mono (fun r b1 h => ?_) (fun _ _ _ z => z))
  obtain ⟨zs, f⟩ := r
  cases f with
  | nx w => exact fun U1 σ1 H1 ys1 e1 s1 d1 => h2 w Mt U0 H0 U1 D ys1 zs σ1 H1 b1 s1 d1 (Al.mono (fun _ _ z => z.ev e1) (fun _ _ _ z => z) h)
  | rt d => exact h.elim
  | bk l => exact h
  | ct l => exact h
end
section
variable {P : Program} {w : World} {K : PySem.W.Frag} {mg : Str → Option Value} {base : Heap}
end
end Gp
end
section
set_option Elab.async false
set_option linter.all false
set_option maxRecDepth 100000
set_option maxHeartbeats 4000000
namespace Gp
open PySem PySem.Spec PyProof.Rows L2 Gh
section
variable {g : Gw} {U : Addr → Prop} {H : Hp} {σ : L2.St} {ε : Env} {E : XK} {Q : VK}
end
theorem se_dct {g : Gw} {ε : Env} {E : XK} : SE g E ε tDNewK (.ok .dct) := fun U σ H b Q R W u q p np => by
  have s := same_new (o := .dK []) np
  exact q _ _ (.dct upd_same (u.new np)) (W.same s) (fr_same s)
end Gp
end
section
set_option Elab.async false
set_option linter.all false
set_option maxRecDepth 100000
set_option maxHeartbeats 4000000
namespace Gp
open PySem PySem.Spec PyProof.Rows L2 Gh
section
variable {g : Gw} {Mt U0 U U' : Addr → Prop} {H0 H H' H1 H2 : Hp} {b b1 : Nat} {σ : L2.St} {ε ε' : Env} {E : XK} {W L W' : Type}
variable {env : W → Env} {envL : L → Env} {env' : W' → Env} {u ta tb : TS} {te ti : TE} {me mi : Tr D}
def SQ (g : Gw) (E : XK) (ε : Env) (n : Nat) (t : TA) (m : Tr (List D)) : Prop := ∀ Mt U0 H0 U σ H b Q, Stt g Mt U0 H0 U σ H b ε →
  Al (fun ds b' => ∀ vs U' H', QR g Mt U0 H0 U' σ H' ε n vs ds → Ev U H U' H' → Stt g Mt U0 H0 U' σ H' b' ε → Q vs H') (exS g Mt U0 H0 E) m b → t σ H Q
theorem SQ.sstep {n : Nat} {t : TA} {m : Tr (List D)} {k : List D → Tr (Fl W L)} {Ds : Ends} {Q : List V → Hp → Prop} (he : SQ g E ε n t m) (s : Stt g Mt U0 H0 U σ H b ε) (h : Al (flP g Mt U0 H0 U H Ds env envL) (exS g Mt U0 H0 E) (bd m k) b)
    (hk : ∀ vs ds U' H1 b1, QR g Mt U0 H0 U' σ H1 ε n vs ds → Stt g Mt U0 H0 U' σ H1 b1 ε → Al (flP g Mt U0 H0 U' H1 Ds env envL) (exS g Mt U0 H0 E) (k ds) b1 → Q vs H1) : t σ H Q :=
  he Mt U0 H0 U σ H b Q s ((al_bd.mp h).mono (fun ds b1 h1 vs U' H' qr ev s1 => hk vs ds U' H' b1 qr s1 (h1.mono (fun _ _ z => z.ev ev) (fun _ _ _ z => z))) (fun _ _ _ h => h))
end
end Gp
end
section
set_option Elab.async false
set_option linter.all false
set_option maxRecDepth 100000
set_option maxHeartbeats 4000000
namespace Gp
open PySem PySem.Spec PyProof.Rows L2 Gh
abbrev TSF : Type := Addr → Value → Option Addr → TS
section
variable {X : Cx} {body : List Stmt} {h₀ : ExceptHandler} {hds : List ExceptHandler} {l : List (Value × Option Nat × TSF)} {pos : Pos} {tb : WX → TS} {Wout : WX}
end
end Gp
end
section
set_option Elab.async false
set_option linter.all false
set_option maxRecDepth 100000
set_option maxHeartbeats 4000000
namespace Gp
open PySem PySem.Spec PyProof.Rows L2 Gh
def ItH.te (a : Addr) (cls : Value) (d : Option Addr) (C : Addr) (i : Nat) : ItH → TE
  | .s x => tC (.str x)
  | .n k => tC (.int k)
  | .f x => tXf a cls d C x (tVar i)
section
variable {g : Gw} {U : Addr → Prop} {H H' : Hp} {b : Nat} {σ : L2.St} {ε : Env}
end
end Gp
end
section
set_option Elab.async false
set_option linter.all false
set_option maxRecDepth 100000
set_option maxHeartbeats 4000000
namespace Gz
open PySem PySem.Spec PyProof.Rows L2 GenW Gh
variable {X : Cx}
abbrev TQ (T : Type) := Pro T → QE T → Nat → T → L2.St → Hp → Prop
abbrev GpZ := List (Nat × GenState) → Prop
section
variable {T : Type} {Z : GpZ} {st : Stmt} {rest : List Stmt} {pos : Pos}
def tQThen (t u : TQ T) : TQ T := fun P D n γ σ H => t P { D with nx := fun n' γ' σ' H' => u P D n' γ' σ' H' } n γ σ H
end
end Gz
end
section
set_option Elab.async false
set_option linter.all false
set_option maxRecDepth 100000
set_option maxHeartbeats 4000000
namespace Gz
open PySem PySem.Spec PyProof.Rows L2 GenW Gh
section
variable {X : Cx} {ip : List (Addr × Obj)} {σ : L2.St} {H : Hp} {s : Shared}
end
section
variable {T : Type} {X : Cx} {st : Stmt} {rest : List Stmt}
end
abbrev SpQ := (T : Type) → Pro T → Nat → T → Prop
abbrev SpH := Hp → SpQ
end Gz
end
section
set_option Elab.async false
set_option linter.all false
set_option maxRecDepth 100000
set_option maxHeartbeats 4000000
namespace Gz
open PySem PySem.Spec PyProof.Rows L2 GenW Gh
section
variable {P : Program} {w : World} {A : Around} {E : Value → Shared → Prop} {s : Shared}
end
abbrev TQG := L2.St → Hp → (SpH → Hp → Prop) → Prop
section
variable {X : Cx} {k : Nat} {f C : Addr} {fd : FuncData} {ps : List Str} {sp : List V → Hp → XK → SpQ} {dvs : List V} {ds : List Value} {x m : Str} {p pos pos' apos : Pos} {o : Expr} {ta : TE}
end
end Gz
end
section
set_option Elab.async false
set_option linter.all false
set_option maxRecDepth 100000
set_option maxHeartbeats 4000000
namespace Gp
open PySem PySem.Spec PyProof.Rows L2 Gh Gz
structure GT (α : Type) where
  out : List D
  res : Tr α
section
variable {W W' L : Type}
def gbF (m : GT (Fl W' L)) (k : W' → GT (Fl W L)) : GT (Fl W L) := match m.res with
  | .ok (.nx w) => ⟨m.out ++ (k w).out, (k w).res⟩
  | .ok (.rt d) => ⟨m.out, .ok (.rt d)⟩
  | .ok (.bk l) => ⟨m.out, .ok (.bk l)⟩
  | .ok (.ct l) => ⟨m.out, .ok (.ct l)⟩
  | _ => ⟨m.out, .bad⟩
end
abbrev TQA := (T : Type) → TQ T
section
variable {g : Gw} {T : Type} {P : Pro T} {all : List D} {N : Nat} {W W' L : Type}
def okQ {α : Type} (m : Tr α) (R : α → Prop) : Prop := match m with
  | .ok f => R f
  | _ => False
end
def YS {W L : Type} (g : Gw) (ε : Env) (t : TQA) (env : W → Env) (envL : L → Env) (m : GT (Fl W L)) : Prop := ∀ (T : Type) (P : Pro T) (all : List D) (N : Nat) (Y : PY g all N P) (D : QE T) γ U σ H n pre post,
  Stt g NoM (Y.U γ) (P.hp γ) U σ H (Y.B γ) ε → all = pre ++ (m.out ++ post) → n + pre.length = N → m.out.length ≤ n → ((m.out = [] ∨ m.out.length < n) → okQ m.res (gqP Y D env envL (n - m.out.length) U H)) → t T P D n γ σ H
section
variable {g : Gw} {W W' L : Type} {ε : Env} {env : W → Env} {envL : L → Env} {env' : W' → Env} {u ta tb : TQA} {te : TE} {me : Tr D}
theorem gbF_nx {m : GT (Fl W' L)} {k : W' → GT (Fl W L)} {w : W'} (e : m.res = .ok (.nx w)) : gbF m k = ⟨m.out ++ (k w).out, (k w).res⟩ := by unfold gbF; rw [e]
theorem YS.seq {m : GT (Fl W' L)} {k : W' → GT (Fl W L)} (h1 : YS g ε ta env' envL m) (h2 : ∀ w, YS g (env' w) u env envL (k w)) : YS g ε (fun T => tQThen (ta T) (u T)) env envL (gbF m k) := fun T P all N Y D γ U σ H n pre post s ha hn hl q => by
  have run : ∀ (R : List Gp.D), all = pre ++ (m.out ++ R) → m.out.length ≤ n → ((m.out = [] ∨ m.out.length < n) → okQ m.res (gqP Y { D with nx := fun n' γ' σ' H' => u T P D n' γ' σ' H' } env' envL (n - m.out.length) U H)) → tQThen (ta T) (u T) P D n γ σ H :=
    fun R hR hl' hq => h1 T P all N Y _ γ U σ H n pre R s hR hn hl' hq
  cases e : m.res with
  | ok f =>
    cases f with
    | nx w =>
      rw [gbF_nx e] at ha hl q
      have ha' : all = pre ++ (m.out ++ ((k w).out ++ post)) := by rw [ha]; simp [List.append_assoc]
      have hl' : m.out.length + (k w).out.length ≤ n := by rw [← List.length_append]; exact hl
      refine run _ ha' (by omega) fun hc => ?_
      rw [e]
      intro γ' U' σ' H' ev s'
      refine h2 w T P all N Y D γ' U' σ' H' (n - m.out.length) (pre ++ m.out) post s' (by rw [ha']; simp [List.append_assoc]) (by rw [List.length_append]; omega) (by omega) fun hc2 => ?_
      have z := q (by
        rcases hc2 with z | z
        · rw [z, List.append_nil]; exact hc
        · exact .inr (by show (m.out ++ (k w).out).length < n; rw [List.length_append]; omega))
      have e3 : n - (m.out ++ (k w).out).length = n - m.out.length - (k w).out.length := by rw [List.length_append]; omega
      change okQ (k w).res (gqP Y D env envL (n - (m.out ++ (k w).out).length) U H) at z
      rw [e3] at z
      cases e4 : (k w).res with
      | ok f2 => rw [e4] at z; exact gqP.ev ev z
      | ex c fs => rw [e4] at z; exact z.elim
      | bad => rw [e4] at z; exact z.elim
      | draw _ _ => rw [e4] at z; exact z.elim
    | rt d =>
      have e2 : gbF m k = ⟨m.out, .ok (.rt d)⟩ := by unfold gbF; rw [e]
      rw [e2] at ha hl q
      exact run post ha hl fun hc => by rw [e]; exact q hc
    | bk l =>
      have e2 : gbF m k = ⟨m.out, .ok (.bk l)⟩ := by unfold gbF; rw [e]
      rw [e2] at ha hl q
      exact run post ha hl fun hc => by rw [e]; exact q hc
    | ct l =>
      have e2 : gbF m k = ⟨m.out, .ok (.ct l)⟩ := by unfold gbF; rw [e]
      rw [e2] at ha hl q
      exact run post ha hl fun hc => by rw [e]; exact q hc
  | ex c fs =>
    have e2 : gbF m k = ⟨m.out, .bad⟩ := by unfold gbF; rw [e]
    rw [e2] at ha hl q
    exact run post ha hl fun hc => (q hc).elim
  | bad =>
    have e2 : gbF m k = ⟨m.out, .bad⟩ := by unfold gbF; rw [e]
    rw [e2] at ha hl q
    exact run post ha hl fun hc => (q hc).elim
  | draw _ _ =>
    have e2 : gbF m k = ⟨m.out, .bad⟩ := by unfold gbF; rw [e]
    rw [e2] at ha hl q
    exact run post ha hl fun hc => (q hc).elim
end
end Gp
end
section
set_option Elab.async false
set_option linter.all false
set_option maxRecDepth 100000
set_option maxHeartbeats 4000000
namespace Gp
open PySem PySem.Spec PyProof.Rows L2 Gh Gz
section
variable {X : Cx} {CX : CXT} {k : Nat} {f g C : Addr} {E : XK} {m : Str} {apos pos : Pos} {o : Expr} {ta : TE} {tk : TA} {ks : List Str} {kws : List Keyword} {r : List V → List V → Hp → VK → Prop}
end
theorem denL_atO {g : Gw} {U : Addr → Prop} {H : Hp} {vs : List V} {ds : List D} (h : DenL g U H vs ds) : ∀ i : Nat, (vs[i]? = none ∧ ds[i]? = none) ∨ ∃ v d, vs[i]? = some v ∧ ds[i]? = some d ∧ Den g U H v d := by
  induction vs generalizing ds with
  | nil => cases h; exact fun i => .inl ⟨rfl, rfl⟩
  | cons v vs ih =>
    cases h with
    | cons a r =>
      intro i
      cases i with
      | zero => exact .inr ⟨_, _, rfl, rfl, a⟩
      | succ i => exact ih r i
theorem denL_picks {g : Gw} {U : Addr → Prop} {H : Hp} (l : List (Nat ⊕ Nat)) {dvs zs : List V} {dds es : List D} (h1 : DenL g U H dvs dds) (h2 : DenL g U H zs es) : DenL g U H (picks l dvs zs) (picks l dds es) := by
  induction l with
  | nil => exact .nil
  | cons z r ih =>
    unfold picks at ih ⊢
    rw [List.filterMap_cons, List.filterMap_cons]
    cases z with
    | inl i =>
      rcases denL_atO h2 i with ⟨e1, e2⟩ | ⟨x, v, e1, e2, rv⟩
      · simp only [e1, e2]; exact ih
      · simp only [e1, e2]; exact .cons rv ih
    | inr j =>
      rcases denL_atO h1 j with ⟨e1, e2⟩ | ⟨x, v, e1, e2, rv⟩
      · simp only [e1, e2]; exact ih
      · simp only [e1, e2]; exact .cons rv ih
section
variable {g : Gw} {E : XK} {ε : Env} {ta : TE} {ma : Tr D} {t tk : TA} {mt mk : Tr (List D)}
def SRK (g : Gw) (E : XK) (r : List V → List V → Hp → VK → Prop) (f : List D → List D → Tr D) : Prop := ∀ U H b vs zs ds es Q, DenL g U H vs ds → DenL g U H zs es → Wd g H b → UOk g U H → Al (okP g U H Q) (exP g U E H) (f ds es) b → r vs zs H Q
end
end Gp
end
section
set_option Elab.async false
set_option linter.all false
set_option maxRecDepth 100000
set_option maxHeartbeats 4000000
namespace Gp
open PySem PySem.Spec PyProof.Rows L2 Gh
section
variable {X : Cx} {CX : CXT} {k n : Nat} {f C : Addr} {ks : List Str} {sp : Sp} {E : XK}
end
section
variable {g : Gw} {E : XK} {ε : Env} {tk : TA} {mk : Tr (List D)}
theorem se_clK0 {r : List V → List V → Hp → VK → Prop} {f : List D → List D → Tr D} (hr : SRK g E r f) (hk : SA g E ε tk mk) : SE g E ε (tClK r tNil tk) (bd mk (f [])) := fun U σ H b Q R W u q =>
  hk.step R W u q fun zs es H1 b1 d1 w1 f1 R1 u1 q1 => hr U H1 b1 [] zs [] es Q .nil d1 w1 u1 (q1.mono (fun _ _ h => h.fr f1) (fun _ _ _ h => h))
end
section
variable {K : PySem.W.Frag} {x qual : Str} {params : Arguments} {body : List Stmt} {scope : Scope} {dvs : List V} {f B : Addr} {file : Str} {fd : FuncData} {ps : List Str}
theorem SupF.kbN (F : SupF K x qual params body scope [] f B file fd) (n : Nat) (ks : List Str) (l : List (Nat ⊕ Nat))
    (h : ∀ (cl : List (Str × Addr)) (kV doc pm : Value) (an : Option Addr) (cdv ct : Value) (us ws : List Value), us.length = n → ws.length = ks.length → bindArgs (PySem.W.fnX x qual params body scope cl .none kV doc pm an cdv ct) ⟨us, ks.zip ws⟩ = pure (ps.zip (us ++ picks l [] ws))) :
    KBn K fd ps n ks (fun us ws => us ++ picks l [] ws) (fun vs zs => vs ++ picks l [] zs) := by
  obtain ⟨oc, od, dV, kV, doc, pm, an, cda, ct, osl, cc, rfl, lk, hcd, hD, _⟩ := F.ex
  rcases hD with ⟨_, rfl⟩ | ⟨e, _⟩
  · exact ⟨fun s us ws X l1 l2 => .of_eq (h _ kV doc pm an _ ct us ws l1 l2), fun r1 r2 => r1.append (picks_rel l .nil r2)⟩
  · exact absurd rfl e
end
end Gp
end
section
set_option Elab.async false
set_option linter.all false
set_option maxRecDepth 100000
set_option maxHeartbeats 4000000
namespace Gp
open PySem PySem.Spec PyProof.Rows L2 Gh
def rIsiX (K : PySem.W.Frag) (a : Addr) (cls : Value) (d : Option Addr) : List V → Hp → VK → Prop := fun xs H Q => ∃ (C dd : Addr) (fs : List (Str × V)) (c : V) (u : Value) (b : Bool), xs = [.ref a, c] ∧ ClsV c u ∧ cls = .ref C ∧ d = some dd ∧ H dd = some (.xd fs) ∧ ErrT K C ∧ PySem.W.kitOne K (.ref C) u = some b ∧ Q (.bl b) H
def BX.te (K : PySem.W.Frag) (a : Addr) (cls : Value) (d : Option Addr) (i : Nat) : BX → TE
  | .lit b => tC (.bl b)
  | .own x => tCB (rIsiX K a cls d) (tCons (tVar i) (tCons (tC (.ref (gd x K))) tNil))
  | .ty x => tCB (rIsiX K a cls d) (tCons (tVar i) (tCons (tC (.ty x)) tNil))
  | .and p q => tAndV (p.te K a cls d i) (q.te K a cls d i)
section
variable {g : Gw} {U : Addr → Prop} {H H' : Hp} {b : Nat} {σ : L2.St} {ε : Env}
end
end Gp
end
section
set_option Elab.async false
set_option linter.all false
set_option maxRecDepth 100000
set_option maxHeartbeats 4000000
namespace Gp
open PySem PySem.Spec PyProof.Rows L2 Gh
def keyPy : Key → PyData
  | .inl i => .int i
  | .inr x => .str x
mutual
def toPyX : D → Option PyData
  | .non => some .none
  | .bl b => some (.bool b)
  | .int i => some (.int i)
  | .str x => some (.str x)
  | .tup ds => (toPyXL ds).map .tuple
  | .lst ds => (toPyXL ds).map .list
  | .dct => some (.dict [])
  | .dic ps => (toPyXP ps).map .dict
  | .dit _ => none
  | .dik _ => none
  | .obj _ _ => none
  | .err _ _ => none
  | .pen => none
  | .cls _ => none
  | .er0 _ => none
def toPyXL : List D → Option (List PyData)
  | [] => some []
  | d :: ds => match toPyX d, toPyXL ds with
    | some e, some es => some (e :: es)
    | _, _ => none
def toPyXP : List (Key × D) → Option (List (PyData × PyData))
  | [] => some []
  | (k, d) :: ds => match toPyX d, toPyXP ds with
    | some e, some es => some ((keyPy k, e) :: es)
    | _, _ => none
end
theorem key_reads {h : Heap} {k : Key} {v : Value} (e : keyIs k v = true) : Reads h v (keyPy k) [] := by
  rcases keyIs_shape e with ⟨i, t, rfl, rfl⟩ | ⟨x, t, rfl, rfl⟩
  · exact .int i t
  · exact .str x t
section
variable {X : Cx} {pins : List (Addr × Obj)} {σ : L2.St} {H : Hp} {s : Shared} {g : Gw} {U : Addr → Prop}
theorem keys_reads {knd : PySem.KeyKind X.prog X.w Key} (hk : knd = mixKind X.prog X.w) {h : Heap} : ∀ {es : List DictEntry} {kvs : List (Key × Value)}, Pairs knd es kvs → ReadsAll h (es.map (·.key)) (kvs.map fun kv => keyPy kv.1) [] := by
  subst hk
  intro es kvs p
  induction p with
  | nil => exact .nil
  | cons a hv r ih => exact ReadsAll.cons (key_reads (show keyIs _ _ = true from a)) ih
theorem vals_of_pairs {knd : PySem.KeyKind X.prog X.w Key} : ∀ {es : List DictEntry} {kvs : List (Key × Value)}, Pairs knd es kvs → es.map (·.val) = kvs.map (·.2) := by
  intro es kvs p
  induction p with
  | nil => rfl
  | cons a hv r ih => rw [List.map_cons, List.map_cons, ih, hv]
theorem kv_parts {κ : Type} : ∀ {kvs : List (κ × V)} {vs : List (κ × Value)}, KV kvs vs → kvs.map (·.1) = vs.map (·.1) ∧ Vals (kvs.map (·.2)) (vs.map (·.2)) := by
  intro kvs vs p
  induction p with
  | nil => exact ⟨rfl, .nil⟩
  | cons a r ih => exact ⟨by rw [List.map_cons, List.map_cons, ih.1, a.1], .cons a.2 ih.2⟩
theorem xp_keys : ∀ {ps : List (Key × D)} {es : List (PyData × PyData)}, toPyXP ps = some es → es.map (·.1) = (ps.map (·.1)).map keyPy
  | [], _, h => by cases h; rfl
  | (k, d) :: ps, es, h => by
    unfold toPyXP at h
    cases e1 : toPyX d with
    | none => rw [e1] at h; cases h
    | some e =>
      cases e2 : toPyXP ps with
      | none => rw [e1, e2] at h; cases h
      | some es2 =>
        rw [e1, e2] at h
        cases h
        rw [List.map_cons, List.map_cons, List.map_cons, xp_keys e2]
mutual
theorem den_readsX (I : Inv X pins σ H s) (hK : X.K = g.K) : ∀ (d : D) (v : V) (u : Value) (e : PyData), Den g U H v d → RelV v u → toPyX d = some e → ∃ as, Reads s.heap u e as ∧ ∀ a ∈ as, H a ≠ none
  | .non, _, _, _, h, r, q => by
    cases h; cases r; cases q
    exact ⟨_, Reads.none, fun _ z => nomatch z⟩
  | .bl b, _, _, _, h, r, q => by
    cases h; cases r; cases q
    exact ⟨_, Reads.bool b, fun _ z => nomatch z⟩
  | .int i, _, _, _, h, r, q => by
    cases h; cases q
    obtain ⟨t, rfl⟩ := r
    exact ⟨_, Reads.int i t, fun _ z => nomatch z⟩
  | .str x, _, _, _, h, r, q => by
    cases h; cases q
    obtain ⟨t, rfl⟩ := r
    exact ⟨_, Reads.str x t, fun _ z => nomatch z⟩
  | .tup ds, _, _, _, h, r, q => by
    unfold toPyX at q
    obtain ⟨es, q1, rfl⟩ := Option.map_eq_some_iff.mp q
    obtain ⟨a, vs, rfl, hs, _, ha⟩ := den_tup h
    cases r
    rw [← hK] at hs
    obtain ⟨its, rv, ⟨o, ho, hc, n, hd⟩, _⟩ := I.tuple hs
    obtain ⟨as, hr, hn⟩ := den_readsXL I hK ds _ its es ha rv q1
    exact ⟨_, Reads.tuple ho hc hd hr, hn⟩
  | .lst ds, _, _, _, h, r, q => by
    unfold toPyX at q
    obtain ⟨es, q1, rfl⟩ := Option.map_eq_some_iff.mp q
    cases h with
    | lst hl nu len ha =>
      cases r
      obtain ⟨its, rv, ⟨o, n, ho, hc, _, hd⟩, _⟩ := I.list (SqL.of hl)
      obtain ⟨as, hr, hn⟩ := den_readsXL I hK ds _ its es ha rv q1
      refine ⟨_, Reads.list ho hc hd hr, fun x hx => ?_⟩
      rcases List.mem_cons.mp hx with rfl | hx
      · rw [hl]; exact fun z => nomatch z
      · exact hn x hx
  | .dct, _, _, _, h, r, q => by
    cases q
    cases h with
    | dct hl nu =>
      cases r
      obtain ⟨_, sm, vs, kv, o, es, ep, ho, hc, hd, _, hp, _⟩ := dk_of I.hok hl
      have e0 : vs = [] := by
        cases kv
        rfl
      subst e0
      have e1 : es.toList = [] := by
        cases hq : es.toList with
        | nil => rfl
        | cons x r => rw [hq] at hp; cases hp
      refine ⟨_, .dict (as := []) (bs := []) ho hc.1 hd (by rw [e1]; exact .nil) (by rw [e1]; exact .nil), fun x hx => ?_⟩
      rw [List.append_nil] at hx
      rw [List.mem_singleton.mp hx, hl]
      exact fun z => nomatch z
  | .dic ps, _, _, _, h, r, q => by
    unfold toPyX at q
    obtain ⟨es', q1, rfl⟩ := Option.map_eq_some_iff.mp q
    cases h with
    | dic hl nu hk ha =>
      cases r
      obtain ⟨_, sm, vs, kv, o, es, ep, ho, hc, hd, _, hp, _⟩ := dk_of I.hok hl
      obtain ⟨k1, k2⟩ := kv_parts kv
      obtain ⟨bs, hr, hn⟩ := den_readsXP I hK ps _ _ es' ha k2 q1
      have hkeys := keys_reads (X := X) rfl (h := s.heap) hp
      have e1 : (vs.map fun kv => keyPy kv.1) = es'.map (·.1) := by
        rw [xp_keys q1, ← hk, k1, List.map_map]
        rfl
      rw [e1] at hkeys
      rw [← vals_of_pairs (X := X) hp] at hr
      refine ⟨_, .dict ho hc.1 hd hkeys hr, fun x hx => ?_⟩
      rcases List.mem_append.mp hx with hx | hx
      · rw [List.mem_singleton.mp hx, hl]
        exact fun z => nomatch z
      · exact hn x hx
  | .dit _, _, _, _, _, _, q => by cases q
  | .dik _, _, _, _, _, _, q => by cases q
  | .obj _ _, _, _, _, _, _, q => by cases q
  | .err _ _, _, _, _, _, _, q => by cases q
  | .pen, _, _, _, _, _, q => by cases q
  | .cls _, _, _, _, _, _, q => by cases q
theorem den_readsXL (I : Inv X pins σ H s) (hK : X.K = g.K) : ∀ (ds : List D) (vs : List V) (us : List Value) (es : List PyData), DenL g U H vs ds → Vals vs us → toPyXL ds = some es → ∃ as, ReadsAll s.heap us es as ∧ ∀ a ∈ as, H a ≠ none
  | [], _, _, _, h, r, q => by
    cases h; cases r; cases q
    exact ⟨_, ReadsAll.nil, fun _ z => nomatch z⟩
  | d :: ds, _, _, _, h, r, q => by
    cases h with
    | cons h1 h2 =>
      cases r with
      | cons r1 r2 =>
        unfold toPyXL at q
        cases e1 : toPyX d with
        | none => rw [e1] at q; cases q
        | some e =>
          cases e2 : toPyXL ds with
          | none => rw [e1, e2] at q; cases q
          | some es =>
            rw [e1, e2] at q
            cases q
            obtain ⟨as, q1, n1⟩ := den_readsX I hK d _ _ _ h1 r1 e1
            obtain ⟨bs, q2, n2⟩ := den_readsXL I hK ds _ _ _ h2 r2 e2
            exact ⟨_, ReadsAll.cons q1 q2, fun a ha => (List.mem_append.mp ha).elim (n1 a) (n2 a)⟩
theorem den_readsXP (I : Inv X pins σ H s) (hK : X.K = g.K) : ∀ (ps : List (Key × D)) (vs : List V) (us : List Value) (es : List (PyData × PyData)), DenL g U H vs (ps.map (·.2)) → Vals vs us → toPyXP ps = some es → ∃ as, ReadsAll s.heap us (es.map (·.2)) as ∧ ∀ a ∈ as, H a ≠ none
  | [], _, _, _, h, r, q => by
    cases h; cases r; cases q
    exact ⟨_, ReadsAll.nil, fun _ z => nomatch z⟩
  | (k, d) :: ps, _, _, _, h, r, q => by
    rw [List.map_cons] at h
    cases h with
    | cons h1 h2 =>
      cases r with
      | cons r1 r2 =>
        unfold toPyXP at q
        cases e1 : toPyX d with
        | none => rw [e1] at q; cases q
        | some e =>
          cases e2 : toPyXP ps with
          | none => rw [e1, e2] at q; cases q
          | some es =>
            rw [e1, e2] at q
            cases q
            obtain ⟨as, q1, n1⟩ := den_readsX I hK d _ _ _ h1 r1 e1
            obtain ⟨bs, q2, n2⟩ := den_readsXP I hK ps _ _ _ h2 r2 e2
            exact ⟨_, ReadsAll.cons q1 q2, fun a ha => (List.mem_append.mp ha).elim (n1 a) (n2 a)⟩
end
end
@[irreducible] def rShowX (K : PySem.W.Frag) : List V → Hp → VK → Prop := fun xs H Q => rShow K xs H Q ∨ ∃ (g : Gw) (U : Addr → Prop) (d : D) (e : PyData) (a : Addr), g.K = K ∧ xs = [.ref a] ∧ Den g U H (.ref a) d ∧ toPyX d = some e ∧ e.showable = true ∧ e.depth ≤ 100 ∧ e.shown.length ≤ sizeLine ∧ Q (.str e.shown) H
section
variable {X : Cx} {K : PySem.W.Frag}
theorem call_showX (hK : X.K = K) (hs : sysB X.K = true) (hu : X.A.units + 102 < cLine) (hg : X.A.guards = some []) : CallR X (.builtin "repr") (rShowX K) := by
  intro pins s σ H xs us Q I r h
  unfold rShowX at h
  rcases h with h | ⟨g, U, d, e, a, hgK, rfl, dn, he, h1, h2, h3, q⟩
  · exact call_show hK hu hg pins s σ H xs us Q I r h
  · obtain ⟨u, rfl, ru⟩ := vals1 r
    cases (show u = Value.ref a from ru)
    obtain ⟨as, rd, hn⟩ := den_readsX (g := g) I (hK.trans hgK.symm) d _ _ e dn rfl he
    obtain ⟨o, ho⟩ := Option.isSome_iff_exists.mp hs
    have z : H sysModules = none := (I.bs sysModules o (I.ok.mod.kin _ _ ho)).2
    exact repr_of_reads' rd h1 (fun _ m => hn _ m z) hg (by omega) (fun _ _ e => e) (fun h' u tk k => ⟨.str e.shown, H, I.kept k, ⟨u, rfl⟩, q⟩) h3
end
def reprX (d : D) : Tr D := match shwD d with
  | some x => if x.length ≤ sizeLine then .ok (.str x) else .bad
  | none => match toPyX d with
    | some e => if e.showable = true ∧ e.depth ≤ 100 ∧ e.shown.length ≤ sizeLine then .ok (.str e.shown) else .bad
    | none => .bad
section
variable {g : Gw} {E : XK}
theorem den_ref {U : Addr → Prop} {H : Hp} {v : V} {d : D} {e : PyData} (h : Den g U H v d) (hs : shwD d = none) (e1 : toPyX d = some e) (e2 : e.showable = true) (e3 : e.shown.length ≤ sizeLine) : ∃ a, v = .ref a := by
  cases h with
  | non => cases hs
  | bl b => cases hs
  | int i =>
    cases e1
    unfold shwD at hs
    dsimp only at hs
    have : i.natAbs.log2 < 1920 := of_decide_eq_true (by simpa [PyData.showable] using e2)
    rw [if_pos this] at hs
    cases hs
  | str x hx =>
    cases e1
    unfold shwD at hs
    dsimp only at hs
    have : (reprText x).length ≤ sizeLine := by simpa [PyData.shown] using e3
    rw [if_pos this] at hs
    cases hs
  | _ => exact ⟨_, rfl⟩
theorem srl_reprX : SRL g E (rShowX g.K) (ul1 reprX) := fun U H b xs dxs Q dn w u q => by
  obtain ⟨x, rfl, q1⟩ := al_ul1 q
  unfold rShowX
  unfold reprX at q1
  cases e : shwD x with
  | some t =>
    refine .inl (srl_repr (E := E) U H b xs [x] Q dn w u ?_)
    show Al _ _ (reprD x) b
    unfold reprD
    rw [e] at q1 ⊢
    exact q1
  | none =>
    rw [e] at q1
    cases e1 : toPyX x with
    | none => rw [e1] at q1; exact q1.elim
    | some e2 =>
      rw [e1] at q1
      dsimp only at q1
      split at q1
      · rename_i z
        obtain ⟨v, rfl, d1⟩ := denL_1 dn
        obtain ⟨a, rfl⟩ := den_ref d1 e e1 z.1 z.2.2
        exact .inr ⟨g, U, x, e2, a, rfl, rfl, d1, e1, z.1, z.2.1, z.2.2, okP.here q1 w (.str _ z.2.2)⟩
      · exact q1.elim
end
end Gp
end
section
set_option Elab.async false
set_option linter.all false
set_option maxRecDepth 100000
set_option maxHeartbeats 4000000
namespace Gp
open PySem PySem.Spec PyProof.Rows L2 Gh
section
variable {g : Gw} {ε : Env} {E : XK}
theorem se_dispV {i : Nat} {k : Key} {d : D} (hi : ε[i]? = some (.fz d)) : SE g E ε (tDisp [(tC (kV k), tVar i)]) (.ok (.dic [(k, d)])) := fun U σ H b Q R W u q p np => by
  obtain ⟨o, h1, v, rfl, dn⟩ := R.at_ i _ hi
  have e : upd (upd H p (.dK [])) p (.dK (mergeK [] [(k, v)])) = upd H p (.dK [(k, v)]) := by
    funext a
    by_cases z : a = p
    · subst z
      rw [upd_same, upd_same]
      rfl
    · rw [upd_ne z, upd_ne z, upd_ne z]
  refine ⟨v, h1, ?_⟩
  refine ⟨upd_same, [(k, v)], rfl, by show 1 ≤ 15; decide, ?_⟩
  rw [e]
  have s := same_new (o := .dK [(k, v)]) np
  exact q _ _ (.dic upd_same (u.new np) rfl (.cons (dn.ext (u.extU (fr_same s))) .nil)) (W.same s) (fr_same s)
end
end Gp
end
section
set_option Elab.async false
set_option linter.all false
set_option maxRecDepth 100000
set_option maxHeartbeats 4000000
namespace Gp
open PySem PySem.Spec PyProof.Rows L2 Gh
def IX.te (K : PySem.W.Frag) (a : Addr) (cls : Value) (d : Option Addr) (i : Nat) : IX → TE
  | .s x => tC (.str x)
  | .n k => tC (.int k)
  | .f cn x => tXf a cls d (gd cn K) x (tVar i)
def ixTs (K : PySem.W.Frag) (a : Addr) (cls : Value) (d : Option Addr) (i : Nat) : List IX → TA
  | [] => tNil
  | x :: r => tCons (x.te K a cls d i) (ixTs K a cls d i r)
def TX.tt (K : PySem.W.Frag) (a : Addr) (cls : Value) (d : Option Addr) (i : Nat) : TX → TT
  | .own x => tB (tCB (rIsiX K a cls d) (tCons (tVar i) (tCons (tC (.ref (gd x K))) tNil)))
  | .not p => tNot (p.tt K a cls d i)
  | .and p q => tAnd (p.tt K a cls d i) (q.tt K a cls d i)
def VX.te (K : PySem.W.Frag) (a : Addr) (cls : Value) (d : Option Addr) (i : Nat) : VX → TE
  | .one x => x.te K a cls d i
  | .lst l => tLst (ixTs K a cls d i l)
def S1X.ts (K : PySem.W.Frag) (a : Addr) (cls : Value) (d : Option Addr) (i j : Nat) : S1X → TS
  | .set v => tAsg (v.te K a cls d i) (gName j)
  | .sel t v u => tAsg (tIf (t.tt K a cls d i) (v.te K a cls d i) (u.te K a cls d i)) (gName j)
section
variable {g : Gw} {U : Addr → Prop} {H : Hp} {b : Nat} {σ : L2.St}
variable {a dd : Addr} {cl : Str} {i j n : Nat} {fvs : List (Str × V)} {fs : Fs} {ki : Str → Str → Option Bool}
end
end Gp
end
section
set_option Elab.async false
set_option linter.all false
set_option maxRecDepth 100000
set_option maxHeartbeats 4000000
namespace Gp
open PySem PySem.Spec PyProof.Rows L2 Gh
def isS {α : Type} (x : D) (k : Str → Tr α) : Tr α := match x with
  | .str a => k a
  | _ => .bad
theorem isS_str {α : Type} (a : Str) (k : Str → Tr α) : isS (.str a) k = k a := rfl
section
variable {g : Gw} {U : Addr → Prop} {H : Hp} {b : Nat} {E : XK} {Q : VK} {ε : Env} {to te : TE} {mo me : Tr D}
end
section
variable {X : Cx} {e f : Expr} {te tf : TE} {es : List Expr} {ta : TA} {pos p : Pos}
end
end Gp
end
section
set_option Elab.async false
set_option linter.all false
set_option maxRecDepth 100000
set_option maxHeartbeats 4000000
namespace Gp
open PySem PySem.Spec PyProof.Rows L2 Gh
section
variable {g : Gw} {E : XK} {ε : Env} {U : Addr → Prop} {H : Hp} {b : Nat} {W L : Type} {tb : TS} {env : W → Env} {envL : L → Env}
def un4 {α : Type} (d : D) (k : D → D → D → D → Tr α) : Tr α := match d with
  | .tup [x, y, z, w] => k x y z w
  | _ => .bad
end
end Gp
end
section
set_option Elab.async false
set_option linter.all false
set_option maxRecDepth 100000
set_option maxHeartbeats 4000000
namespace Gp
open PySem PySem.Spec PyProof.Rows L2 Gh
section
variable {g : Gw} {Mt U0 U U' : Addr → Prop} {H0 H H' H1 H2 : Hp} {b b1 : Nat} {σ : L2.St} {ε ε' : Env} {E : XK} {W L W' : Type}
variable {env : W → Env} {envL : L → Env} {env' : W' → Env} {u ta tb : TS} {te : TE} {me : Tr D}
theorem set_here {α : Type} {x : α} : ∀ {l : List α} {i : Nat}, l[i]? = some x → l.set i x = l
  | [], i, h => by simp at h
  | a :: r, 0, h => by simp at h; subst h; rfl
  | a :: r, i + 1, h => by
    have h' : r[i]? = some x := by simpa using h
    rw [List.set_cons_succ, set_here h']
theorem Grp.done {i : Nat} {A l : Addr} {vs ws : List V} {a : List (List D)} {la : List D} (G : Grp g Mt U0 H0 U σ H b ε i A l vs ws a la) :
    Stt g Mt U0 H0 (fun x => (U x ∧ x ≠ l) ∧ x ≠ A) σ H b (ε.set i (.fz (.lst ((a ++ [la]).map D.lst)))) ∧ Ev U H (fun x => (U x ∧ x ≠ l) ∧ x ≠ A) H := by
  obtain ⟨s1, e1⟩ := lo_fz G.s G.ll
  obtain ⟨s2, e2⟩ := lo_fz s1 (G.lA.cut G.ne)
  have ev := e1.trans e2
  have dn : Den g (fun x => (U x ∧ x ≠ l) ∧ x ≠ A) H (.ref A) (.lst ((a ++ [la]).map D.lst)) := by
    refine .lst G.hA (fun q => q.2 rfl) ?_ ?_
    · rw [List.length_append, G.dA.length, List.length_map]
      exact G.zA
    · rw [List.map_append]
      exact (G.dA.ev ev).append (.cons (.lst G.hl (fun q => q.1.2 rfl) (by rw [G.dl.length]; exact G.zl) (G.dl.ev ev)) .nil)
  have z := s2.set i dn
  rw [set_here G.at_] at z
  exact ⟨z, ev⟩
end
section
variable {W L : Type} {g : Gw} {E : XK} {ε : Env} {tb : TS} {env : W → Env} {envL : L → Env}
end
end Gp
end
section
set_option Elab.async false
set_option linter.all false
set_option maxRecDepth 100000
set_option maxHeartbeats 4000000
namespace Gp
open PySem PySem.Spec PyProof.Rows L2 Gh
section
variable {g : Gw} {U U' : Addr → Prop} {H : Hp} {a : Addr} {vs : List V}
end
section
variable {g : Gw} {U U' : Addr → Prop} {H : Hp}
end
section
variable {g : Gw} {Mt U0 U U' : Addr → Prop} {H0 H H' H1 H2 : Hp} {b b1 : Nat} {σ : L2.St} {ε ε' : Env} {E : XK} {W L W' : Type}
variable {env : W → Env} {envL : L → Env} {env' : W' → Env} {u ta tb : TS} {te tc t1 t2 : TE} {me : Tr D}
def NF (H : Hp) (A : Addr) : Prop := ∀ o, H A = some o → ∃ ps, o = .tbl ps
theorem NF.nu {A : Addr} (h : NF H A) (u : UOk g U H) : ¬ U A := fun z => by
  obtain ⟨o, e, n⟩ := u.al A z
  obtain ⟨ps, rfl⟩ := h o e
  exact n.tbl ps rfl
end
end Gp
end
section
set_option Elab.async false
set_option linter.all false
set_option maxRecDepth 100000
set_option maxHeartbeats 4000000
namespace PySem
namespace GhEx
open HandSPX
open Builtin Builtin.ObjectAttr
section
variable {M : Model} {A : Around} {E : Value → Shared → Prop} {h : Heap} {g : Array GenState} {d : Drawn} {t : Nat} {os : OsState}
variable {nm q : Str} {C N : Addr} {bs bm bmB : List Value} {hdct : Bool} {sn : List Str} {sub : List Value} {ab : Bool} {col : Option Bool} {dd : Option Addr} {k0 k1 k2 k3 k5 : Option Value} {B newId initId : String}
theorem check_new_kw (F : ExcBaseFacts B newId initId bmB) (hT : ∀ X : String, bm.contains (.type X) = bmB.contains (.type X)) {rest : List Value} {kw : List (Str × Value)} {Q : Unit → Shared → Prop}
    (hC : h.get? C = some (excClassObj nm q C N bs bm hdct sn sub ab col dd k0 k1 k2 k3 k5 newId)) (hq : Q () ⟨h, g, d, t, os⟩) : wpAny M A (checkBuiltinCall newId ⟨.ref C :: rest, kw⟩) Q E ⟨h, g, d, t, os⟩ := by
  have hcont : (Value.ref C :: bm).contains (.type B) = true := by rw [List.contains_cons, hT, F.hasB, Bool.or_true]
  have hstar := F.noStar
  simp only [checkBuiltinCall, F.newKind, F.newSplit, F.newRow]
  repeat (first | refine wpAny_loadPart_at hC ?_ | (refine wpAny_isSubtype_exc hC ?_; rw [hcont]) | refine wpAny_staticBase_exc hC ?_ | refine wpAny_madeBy_exc hC ?_ | simp only [bne_self_eq_false, Bool.false_eq_true, if_false] | wp_step)
  exact hq
end
section
variable {prog : Program} {w : World} {A : Around} {E : Value → Shared → Prop} {R : Result → Shared → Prop} {h : Heap} {g : Array GenState} {d : Drawn} {t : Nat} {os : OsState}
variable {nm q : Str} {C N : Addr} {bs bm bmB : List Value} {hdct : Bool} {sn : List Str} {sub : List Value} {ab : Bool} {col : Option Bool} {dd : Option Addr} {k0 k1 k2 k3 k5 : Option Value} {B newId initId : String}
theorem new_kw (F : ExcBaseFacts B newId initId bmB) (hT : ∀ X : String, bm.contains (.type X) = bmB.contains (.type X)) {rest : List Value} {kw : List (Str × Value)}
    (hC : h.get? C = some (excClassObj nm q C N bs bm hdct sn sub ab col dd k0 k1 k2 k3 k5 newId))
    (hq : R (.ok (.ret (.ref (h.objs.size + 1)))) ⟨(h.push { cls := .type "tuple", data := .seq rest.toArray }).push
      { cls := .ref C, data := .fields #[.ref h.objs.size, .none, .none, .none, .bool false, .none] }, g, d, t, os⟩) (hrest : rest.length ≤ sizeLine) :
    codeAny (model prog w) A (.builtin newId ⟨.ref C :: rest, kw⟩) R ⟨h, g, d, t, os⟩ := by
  have hends := F.ends
  have hcB : (Value.ref C :: bm).contains (.type B) = true := by rw [List.contains_cons, hT, F.hasB, Bool.or_true]
  have hcA : (Value.ref C :: bm).contains (.type "AttributeError") = false := by rw [List.contains_cons, hT, F.noAttr]; rfl
  have hcN : (Value.ref C :: bm).contains (.type "NameError") = false := by rw [List.contains_cons, hT, F.noName]; rfl
  refine codeAny_builtinAt F.entry ?_
  unfold Builtin.«BaseException.__new__»
  refine wpAt_bind ?_
  show wpAt _ _ _ (stack >>= _) _ _ _
  refine wpAt_bind (wpAt_stack fun p below => wpAt_of_wpAny ?_)
  wp_walk
  refine wpAt_of_wpAny ?_
  rw [F.owner]
  repeat (first | with_reducible refine wpAny_madeHere_exc F.canon hC ?_ | with_reducible refine wpAny_loadPart_at hC ?_ | (with_reducible refine wpAny_isSubtype_exc hC ?_; first | rw [hcB] | rw [hcA] | rw [hcN]) | wp_step)
  show R _ _
  rw [Heap.size_push]
  exact hq
theorem type_call_kw (F : ExcBaseFacts B newId initId bmB) (hT : ∀ X : String, bm.contains (.type X) = bmB.contains (.type X)) {rest : List Value} {kw : List (Str × Value)} {fI : Value} {Q : Fin → Shared → Prop}
    (hC : h.get? C = some (excClassObj nm q C N bs bm hdct sn sub ab col dd k0 k1 k2 k3 k5 newId))
    (hi : W.Looks (model prog w) h (typeLookup (.ref C) "__init__") (some fI)) (hb : ∀ self, W.Looks (model prog w) h (bindSpecial fI self) (fI, [self])) (hrest : rest.length ≤ sizeLine)
    (hq : codeAny (model prog w) A (.call fI ⟨.ref (h.objs.size + 1) :: rest, kw⟩)
      (fun r s' => match r with | .ok (.ret v) => v = .none ∧ Q (.done (.ret (.ref (h.objs.size + 1)))) s' | .ok _ => False | .error e => E e s')
      ⟨(h.push (W.kdv_tup rest)).push (excO C h.objs.size), g, d, t, os⟩) :
    wpAny (model prog w) A (Builtin.«type.__call__» ⟨.ref C :: rest, kw⟩) Q E ⟨h, g, d, t, os⟩ := by
  repeat (first | with_reducible refine wpAny_loadPart_at hC ?_ | with_reducible refine wpAny_madeBy_exc hC ?_ | wp_step)
  refine codeAny_call_builtin_code (Code.quiet_builtin _ F.quiet) (check_new_kw F hT hC ?_)
  refine new_kw F hT hC ?_ hrest
  show wpAny _ _ _ _ _ _
  have k : ∀ b o, h.get? b = some o → ((h.push (W.kdv_tup rest)).push (excO C h.objs.size)).get? b = some o := fun b o e => Heap.get?_push_of_some _ (Heap.get?_push_of_some _ e)
  have hC₁ := k _ _ hC
  have hget : ((h.push (W.kdv_tup rest)).push (excO C h.objs.size)).get? (h.objs.size + 1) = some (excO C h.objs.size) := by heap_get
  have hcC : (Value.ref C :: bm).contains (.ref C) = true := by simp
  have i1 := hi.keeps k
  have b1 := (hb (.ref (h.objs.size + 1))).keeps k
  unfold isInstance
  repeat (first | with_reducible refine wpAny_loadPart_at hget ?_ | (with_reducible refine wpAny_isSubtype_exc hC₁ ?_; rw [hcC]) | wp_step)
  show wpAny _ _ (typeLookup (.ref C) _) _ _ _
  refine i1.at ?_
  refine wpAny_holding (wpAny_bind (b1.at ?_))
  refine wpAny_bind (wpAny_call (codeAny_mono hq fun r s' z => ?_))
  rcases r with e | (v | _ | _ | _) <;> first | exact z | exact z.elim | skip
  obtain ⟨rfl, z⟩ := z
  first
    | exact wpAny_pure (wpAny_pure z)
    | (wp_walk; exact z)
theorem check_type_call_kw {M : Model} {rest : List Value} {kw : List (Str × Value)} {Q : Unit → Shared → Prop} (hC : h.get? C = some (excClassObj nm q C N bs bm hdct sn sub ab col dd k0 k1 k2 k3 k5 newId))
    (hq : Q () ⟨h, g, d, t, os⟩) : wpAny M A (checkBuiltinCall "type.__call__" ⟨.ref C :: rest, kw⟩) Q E ⟨h, g, d, t, os⟩ := by
  have f3 := tc_sub
  have hT : (⟨h, g, d, t, os⟩ : Shared).TypeIs (.ref C) "type" := ⟨_, hC, rfl⟩
  simp only [checkBuiltinCall, tc_kind, tc_split]
  repeat (any_goals (first | assumption | with_reducible refine wpAny_loadPart_at hC ?_ | with_reducible refine wpAny_onRaise ?_ | with_reducible refine wpAny_map ?_ | wp_step))
theorem call_kw (F : ExcBaseFacts B newId initId bmB) (hT : ∀ X : String, bm.contains (.type X) = bmB.contains (.type X)) {rest : List Value} {kw : List (Str × Value)} {fI : Value}
    (hC : h.get? C = some (excClassObj nm q C N bs bm hdct sn sub ab col dd k0 k1 k2 k3 k5 newId))
    (hi : W.Looks (model prog w) h (typeLookup (.ref C) "__init__") (some fI)) (hb : ∀ self, W.Looks (model prog w) h (bindSpecial fI self) (fI, [self])) (hrest : rest.length ≤ sizeLine)
    (hq : codeAny (model prog w) (A.under (.builtin "type.__call__" ⟨.ref C :: rest, kw⟩)) (.call fI ⟨.ref (h.objs.size + 1) :: rest, kw⟩) (W.InitBack (h.objs.size + 1) R)
      ⟨(h.push (W.kdv_tup rest)).push (excO C h.objs.size), g, d, t, os⟩) :
    codeAny (model prog w) A (.call (.ref C) ⟨rest, kw⟩) R ⟨h, g, d, t, os⟩ := by
  have f1 := tc_lookup
  have f2 := tc_bind (.ref C)
  have hTy : (⟨h, g, d, t, os⟩ : Shared).TypeIs (.ref C) "type" := ⟨_, hC, rfl⟩
  refine codeAny_of_tree ?_
  show wpAny _ _ (callAny (.ref C) _) _ _ _
  repeat (any_goals (first | assumption | with_reducible refine wpAny_loadPart_at hC ?_ | wp_step))
  refine ⟨rfl, ?_⟩
  refine codeAny_call_builtin_at (Code.quiet_builtin _ (by decide +kernel)) entry_typeCall (check_type_call_kw hC (type_call_kw F hT hC hi hb hrest ?_))
  refine codeAny_mono hq fun r s' z => ?_
  rcases r with e | (v | _ | _ | _) <;> exact z
end
end GhEx
end PySem
namespace Gh
open PySem PySem.Spec PyProof.Rows L2
section
variable {X : Cx} {CX : CXT} {k n : Nat} {fI C : Addr} {ks : List Str} {sp : Sp} {dvs : List V} {E : XK}
theorem inv_exk {pins : List (Addr × Obj)} {σ : L2.St} {H : Hp} {s : Shared} {a C d : Addr} {fs : List (Str × V)} (I : Inv X pins σ H s) (ea : H a = some (exo a C (some d))) (ed : H d = some (exd d fs)) : Inv X pins σ (upd (upd H d (.xd fs)) a (exk a C d)) s := by
  obtain ⟨t0, hoe⟩ := exo_at I.hok ea
  obtain ⟨mA, hns, rel⟩ := exd_at I.hok ed
  have hda : d ≠ a := fun z => by
    obtain ⟨o, es, ep, e1, e2, _⟩ := hns
    rw [z, hoe] at e1
    have z2 := Option.some.inj e1
    subst z2
    cases e2
  obtain ⟨hp, g, dr, tk, os⟩ := s
  have hd : ∃ o, hp.get? d = some o := by
    obtain ⟨o, _, _, e', _⟩ := hns
    exact ⟨o, e'⟩
  have J := I.write (t' := tk) (x := d) (e := d) (o := .xd fs) (h' := hp) (by rw [ed]; exact True.intro) (.inl rfl) (fun _ _ _ q => q) hd ⟨mA, hns, rel⟩
  have ea' : (upd H d (.xd fs)) a = some (exo a C (some d)) := by rw [upd_ne (Ne.symm hda)]; exact ea
  exact J.write (t' := tk) (x := a) (e := a) (o := exk a C d) (h' := hp) (by rw [ea']; exact True.intro) (.inl rfl) (fun _ _ _ q => q) ⟨_, hoe⟩ (exk_ok hoe rfl rfl rfl)
theorem inv_exk0 {pins : List (Addr × Obj)} {σ : L2.St} {H : Hp} {s : Shared} {a C : Addr} (I : Inv X pins σ H s) (ea : H a = some (exo a C none)) : Inv X pins σ (upd H a (exk0 a C)) s := by
  obtain ⟨t0, hoe⟩ := exo_at I.hok ea
  obtain ⟨hp, g, dr, tk, os⟩ := s
  exact I.write (t' := tk) (x := a) (e := a) (o := exk0 a C) (h' := hp) (by rw [ea]; exact True.intro) (.inl rfl) (fun _ _ _ q => q) ⟨_, hoe⟩ (exk0_ok hoe rfl rfl rfl)
@[irreducible] def rMkE (C : Addr) (sp : Sp) (E : XK) : List V → Hp → VK → Prop := fun vs H Q =>
  vs.length ≤ 1000 ∧ ∀ a, H a = none → sp (.ref a :: vs) (upd H a (exo a C none)) (fun v H2 => v = .non ∧ ∃ (d : Addr) (fs : List (Str × V)), H2 a = some (exo a C (some d)) ∧ H2 d = some (exd d fs) ∧ Q (.ref a) (upd (upd H2 d (.xd fs)) a (exk a C d))) E
theorem vals_le {vs : List V} {us : List Value} (r : Vals vs us) (h : vs.length ≤ 1000) : us.length ≤ sizeLine := by
  rw [← Paired.length r, sizeLine_eq]
  omega
theorem PromO.makeE (T : OexC X.K C) (iC : PySem.W.findIn X.K (.ref C) "__init__" = some (some (.ref fI))) (tI : PySem.W.typeIn X.K (.ref fI) = some (.type "function")) (F : PromOX X CX k fI [] sp) (hr : Room (k + 1) X.A) (hx : Passes CX X E) : CallR X (.ref C) (rMkE C sp E) := by
  intro pins s σ H vs us Q I r h
  unfold rMkE at h
  obtain ⟨fd, ps, ds, F1, hb, hd⟩ := F
  obtain ⟨nm, q, N, bs, bm, sn, sub, ab, col, dd, k0, k1, k2, k3, k5, hC, hbm⟩ := T.cls
  obtain ⟨hz, q1⟩ := h
  obtain ⟨hp, g, dr, tk, os⟩ := s
  have hsz : hp.objs.size ≤ hp.objs.size + 1 := Nat.le_succ _
  have hn : H (hp.objs.size + 1) = none := I.hok.fresh hsz
  have hq := q1 (hp.objs.size + 1) hn
  have kk : ∀ b o, hp.get? b = some o → ((hp.push (PySem.W.kdv_tup us)).push (PySem.HandSPX.excO C hp.objs.size)).get? b = some o := fun b o e => Heap.get?_push_of_some _ (Heap.get?_push_of_some _ e)
  have hget : ((hp.push (PySem.W.kdv_tup us)).push (PySem.HandSPX.excO C hp.objs.size)).get? (hp.objs.size + 1) = some (PySem.HandSPX.excO C hp.objs.size) := by heap_get
  have I2 : Inv X pins σ (upd H (hp.objs.size + 1) (exo (hp.objs.size + 1) C none)) ⟨(hp.push (PySem.W.kdv_tup us)).push (PySem.HandSPX.excO C hp.objs.size), g, dr, tk, os⟩ :=
    I.laid (t' := tk) (a := hp.objs.size + 1) (o := exo (hp.objs.size + 1) C none) (h' := (hp.push (PySem.W.kdv_tup us)).push (PySem.HandSPX.excO C hp.objs.size)) kk hsz (exo_ok hget)
  have r2 : Vals (V.ref (hp.objs.size + 1) :: vs) (Value.ref (hp.objs.size + 1) :: (us ++ ds)) := by
    have z := r.append hd
    rw [List.append_nil] at z
    exact .cons rfl z
  have hl : (Value.ref (hp.objs.size + 1) :: us ++ ds).length = ps.length := by
    have e := r2.length
    rw [F1.len _ _ _ _ hq] at e
    exact e.symm
  refine wpAny_call (PySem.GhEx.call_kw F.excBase_ValueError (fun Y => PySem.HandSPX.refsVE_contains Y bm hbm) (I.kIn _ _ hC) (PySem.W.looks_findIn I.kIn iC) (fun self => PySem.W.bind_fn I.kIn self tI) (vals_le r hz)
    (codeAny_mono (F1.run _ X.stack _ _ ⟨Value.ref (hp.objs.size + 1) :: us, []⟩ (Value.ref (hp.objs.size + 1) :: (us ++ ds)) _ _ E (hr.make C us []) (I2.env0.make C us []) (hb _ (Value.ref (hp.objs.size + 1) :: us) I2.kIn hl) r2 hq) fun r s' hq' => ?_))
  cases r with
  | error er => exact hx pins σ _ _ er s' I2 hq'
  | ok fl =>
    cases fl with
    | ret u =>
      obtain ⟨v, H', I3, rv, ev, d, fs, ea, ed, q3⟩ := I2.after hq'
      subst ev
      exact ⟨rv, ⟨V.ref (hp.objs.size + 1), _, inv_exk I3 ea ed, rfl, q3⟩⟩
    | next => exact False.elim hq'
    | brk => exact False.elim hq'
    | cont => exact False.elim hq'
def rMkEK (C : Addr) (n m : Nat) (gV : List V → List V → List V) (sp : Sp) (E : XK) : List V → List V → Hp → VK → Prop := fun vs zs H Q => vs.length = n ∧ zs.length = m ∧ n ≤ 100 ∧ rMkE C sp E (gV vs zs) H Q
theorem PromK.makeE {l : List (Nat ⊕ Nat)} (T : OexC X.K C) (iC : PySem.W.findIn X.K (.ref C) "__init__" = some (some (.ref fI))) (tI : PySem.W.typeIn X.K (.ref fI) = some (.type "function"))
    (F : PromK X.prog X.w X.K X.mg X.base CX k fI (n + 1) ks (fun vs zs => vs ++ picks l [] zs) sp) (hr : Room (k + 1) X.A) (hx : Passes CX X E) : CallK X (.ref C) ks (rMkEK C n ks.length (fun vs zs => vs ++ picks l [] zs) sp E) := by
  intro pins s σ H vs zs us ws Q I rv rz ⟨l1, l2, ln, h⟩
  unfold rMkE at h
  obtain ⟨fd, ps, gg, F1, hb⟩ := F
  obtain ⟨nm, q, N, bs, bm, sn, sub, ab, col, dd, k0, k1, k2, k3, k5, hC, hbm⟩ := T.cls
  obtain ⟨hz, q1⟩ := h
  obtain ⟨hp, g, dr, tk, os⟩ := s
  have hsz : hp.objs.size ≤ hp.objs.size + 1 := Nat.le_succ _
  have hn : H (hp.objs.size + 1) = none := I.hok.fresh hsz
  have hq := q1 (hp.objs.size + 1) hn
  have kk : ∀ b o, hp.get? b = some o → ((hp.push (PySem.W.kdv_tup us)).push (PySem.HandSPX.excO C hp.objs.size)).get? b = some o := fun b o e => Heap.get?_push_of_some _ (Heap.get?_push_of_some _ e)
  have hget : ((hp.push (PySem.W.kdv_tup us)).push (PySem.HandSPX.excO C hp.objs.size)).get? (hp.objs.size + 1) = some (PySem.HandSPX.excO C hp.objs.size) := by heap_get
  have I2 : Inv X pins σ (upd H (hp.objs.size + 1) (exo (hp.objs.size + 1) C none)) ⟨(hp.push (PySem.W.kdv_tup us)).push (PySem.HandSPX.excO C hp.objs.size), g, dr, tk, os⟩ :=
    I.laid (t' := tk) (a := hp.objs.size + 1) (o := exo (hp.objs.size + 1) C none) (h' := (hp.push (PySem.W.kdv_tup us)).push (PySem.HandSPX.excO C hp.objs.size)) kk hsz (exo_ok hget)
  have r1 : Vals (V.ref (hp.objs.size + 1) :: vs) (Value.ref (hp.objs.size + 1) :: us) := .cons rfl rv
  have r2 := hb.rel r1 rz
  have e1 : (Value.ref (hp.objs.size + 1) :: us).length = n + 1 := r1.length.symm.trans (congrArg Nat.succ l1)
  have e2 : ws.length = ks.length := rz.length.symm.trans l2
  refine wpAny_call (PySem.GhEx.call_kw F.excBase_ValueError (fun Y => PySem.HandSPX.refsVE_contains Y bm hbm) (I.kIn _ _ hC) (PySem.W.looks_findIn I.kIn iC) (fun self => PySem.W.bind_fn I.kIn self tI) (vals_le rv (by omega))
    (codeAny_mono (F1.run _ X.stack _ _ ⟨Value.ref (hp.objs.size + 1) :: us, ks.zip ws⟩ (gg (Value.ref (hp.objs.size + 1) :: us) ws) _ _ E (hr.make C us (ks.zip ws)) (I2.env0.make C us (ks.zip ws)) (hb.to _ (Value.ref (hp.objs.size + 1) :: us) ws I2.kIn e1 e2) r2 hq) fun r s' hq' => ?_))
  cases r with
  | error er => exact hx pins σ _ _ er s' I2 hq'
  | ok fl =>
    cases fl with
    | ret u =>
      obtain ⟨v, H', I3, rv, ev, d, fs, ea, ed, q3⟩ := I2.after hq'
      subst ev
      exact ⟨rv, ⟨V.ref (hp.objs.size + 1), _, inv_exk I3 ea ed, rfl, q3⟩⟩
    | next => exact False.elim hq'
    | brk => exact False.elim hq'
    | cont => exact False.elim hq'
def rMkE0 (C : Addr) : List V → Hp → VK → Prop := fun vs H Q => vs = [] ∧ ∀ a, H a = none → Q (.ref a) (upd H a (exk0 a C))
theorem call_makeE0 (T : OexC X.K C) (iC : PySem.W.findIn X.K (.ref C) "__init__" = some (some (.builtin "ValueError.__init__"))) : CallR X (.ref C) (rMkE0 C) := by
  intro pins s σ H vs us Q I r h
  obtain ⟨rfl, q1⟩ := h
  cases r
  obtain ⟨nm, q, N, bs, bm, sn, sub, ab, col, dd, k0, k1, k2, k3, k5, hC, hbm⟩ := T.cls
  obtain ⟨hp, g, dr, tk, os⟩ := s
  have hsz : hp.objs.size ≤ hp.objs.size + 1 := Nat.le_succ _
  have hn : H (hp.objs.size + 1) = none := I.hok.fresh hsz
  have hq := q1 (hp.objs.size + 1) hn
  have kk : ∀ b o, hp.get? b = some o → ((hp.push (PySem.W.kdv_tup [])).push (PySem.HandSPX.excO C hp.objs.size)).get? b = some o := fun b o e => Heap.get?_push_of_some _ (Heap.get?_push_of_some _ e)
  have hget : ((hp.push (PySem.W.kdv_tup [])).push (PySem.HandSPX.excO C hp.objs.size)).get? (hp.objs.size + 1) = some (PySem.HandSPX.excO C hp.objs.size) := by heap_get
  refine wpAny_call (PySem.GhEx.call_kw F.excBase_ValueError (fun Y => PySem.HandSPX.refsVE_contains Y bm hbm) (I.kIn _ _ hC) (PySem.W.looks_findIn I.kIn iC) (fun self => .of_pure (F.excBase_ValueError.init.bind self)) (by decide)
    (PySem.HandSPX.init_base F.excBase_ValueError (fun Y => PySem.HandSPX.refsVE_contains Y bm hbm) (kk _ _ (I.kIn _ _ hC)) hget (by decide) fun h' t1 k he => ?_))
  refine ⟨rfl, ⟨V.ref (hp.objs.size + 1), _, ?_, rfl, hq⟩⟩
  have J : Inv X pins σ (upd H (hp.objs.size + 1) (exo (hp.objs.size + 1) C none)) ⟨h', g, dr, tk, os⟩ :=
    I.laid (t' := tk) (a := hp.objs.size + 1) (o := exo (hp.objs.size + 1) C none) (h' := h') (fun b o e => k b o (Nat.ne_of_lt (Nat.lt_succ_of_lt (Heap.lt_size e))) (kk b o e)) hsz (exo_ok he)
  have J2 := inv_exk0 J upd_same
  have eu : upd (upd H (hp.objs.size + 1) (exo (hp.objs.size + 1) C none)) (hp.objs.size + 1) (exk0 (hp.objs.size + 1) C) = upd H (hp.objs.size + 1) (exk0 (hp.objs.size + 1) C) := by
    funext b
    by_cases hb : b = hp.objs.size + 1
    · rw [hb, upd_same, upd_same]
    · rw [upd_ne hb, upd_ne hb, upd_ne hb]
  rw [eu] at J2
  exact J2
end
end Gh
namespace Gp
open PySem PySem.Spec PyProof.Rows L2 Gh
section
variable {g : Gw} {E : XK}
theorem srl_mkE1 {cn f : Str} : SRL g E (rMkE (gd cn g.K) (spErr1 (gd cn g.K) f) E) (ul1 fun d => .ok (.err cn [(f, d)])) := fun U H b xs dxs Q dn wd u q => by
  obtain ⟨x, rfl, q1⟩ := al_ul1 q
  obtain ⟨v, rfl, d1⟩ := denL_1 dn
  unfold rMkE
  refine ⟨by show 1 ≤ 1000; decide, fun a na => ⟨a, v, rfl, upd_same, fun d nd ne => ⟨rfl, d, [(f, v)], upd_same, ?_, ?_⟩⟩⟩
  · rw [upd_ne ne, upd_same]
  · have nd0 : H d = none := by
      rw [upd_ne ne] at nd
      exact nd
    have s1 : L2.Same H (upd (upd (upd (upd (upd H a (exo a (gd cn g.K) none)) d (exd d [(f, v)])) a (exo a (gd cn g.K) (some d))) d (.xd [(f, v)])) a (exk a (gd cn g.K) d)) := fun b o e => by
      have hb : b ≠ a := ne_of_none e na
      have hd : b ≠ d := ne_of_none e nd0
      rw [upd_ne hb, upd_ne hd, upd_ne hb, upd_ne hd, upd_ne hb]
      exact e
    exact q1 _ _ (.err upd_same (u.new na) (by rw [upd_ne ne, upd_same]) (u.new nd0) (.cons (d1.ext fun a o e _ _ => s1 a o e) .nil)) (wd.same s1) (fr_same s1)
theorem srl_mkE2 {cn f f' : Str} : SRL g E (rMkE (gd cn g.K) (spErr2 (gd cn g.K) f f') E) (ul2 fun d e => .ok (.err cn [(f', e), (f, d)])) := fun U H b xs dxs Q dn wd u q => by
  obtain ⟨x, y, rfl, q1⟩ := al_ul2 q
  obtain ⟨v, z, rfl, d1, d2⟩ := denL_2 dn
  unfold rMkE
  refine ⟨by show 2 ≤ 1000; decide, fun a na => ⟨a, v, z, rfl, upd_same, fun d nd ne => ⟨rfl, d, [(f', z), (f, v)], ?_, upd_same, ?_⟩⟩⟩
  · rw [upd_ne (Ne.symm ne), upd_same]
  · have nd0 : H d = none := by
      rw [upd_ne ne] at nd
      exact nd
    have s1 : L2.Same H (upd (upd (upd (upd (upd (upd H a (exo a (gd cn g.K) none)) d (exd d [(f, v)])) a (exo a (gd cn g.K) (some d))) d (exd d [(f', z), (f, v)])) d (.xd [(f', z), (f, v)])) a (exk a (gd cn g.K) d)) := fun b o e => by
      have hb : b ≠ a := ne_of_none e na
      have hd : b ≠ d := ne_of_none e nd0
      rw [upd_ne hb, upd_ne hd, upd_ne hd, upd_ne hb, upd_ne hd, upd_ne hb]
      exact e
    exact q1 _ _ (.err upd_same (u.new na) (by rw [upd_ne ne, upd_same]) (u.new nd0) (.cons (d2.ext fun a o e _ _ => s1 a o e) (.cons (d1.ext fun a o e _ _ => s1 a o e) .nil))) (wd.same s1) (fr_same s1)
theorem srl_mkE0 {cn : Str} : SRL g E (rMkE0 (gd cn g.K)) (fun ds => if ds = [] then .ok (.er0 cn) else .bad) := fun U H b xs dxs Q dn wd u q => by
  change Al _ _ (if dxs = [] then Tr.ok (D.er0 cn) else Tr.bad) b at q
  by_cases e : dxs = []
  · rw [if_pos e] at q
    subst e
    cases dn
    refine ⟨rfl, fun a na => ?_⟩
    have s1 := same_new (o := exk0 a (gd cn g.K)) na
    exact q _ _ (.er0 upd_same (u.new na)) (wd.same s1) (fr_same s1)
  · rw [if_neg e] at q
    exact q.elim
def kwE (n m : Nat) (l : List (Nat ⊕ Nat)) (F : List D → Tr D) (ds es : List D) : Tr D := if ds.length = n ∧ es.length = m then F (ds ++ picks l [] es) else .bad
theorem srk_mkE {C : Addr} {sp : Sp} {F : List D → Tr D} {n m : Nat} {l : List (Nat ⊕ Nat)} (hn : n ≤ 100) (h : SRL g E (rMkE C sp E) F) : SRK g E (rMkEK C n m (fun vs zs => vs ++ picks l [] zs) sp E) (kwE n m l F) := fun U H b vs zs ds es Q dn en wd u q => by
  unfold kwE at q
  split at q
  · rename_i hl
    exact ⟨by rw [dn.length]; exact hl.1, by rw [en.length]; exact hl.2, hn, h U H b _ _ Q (dn.append (denL_picks l .nil en)) wd u q⟩
  · exact q.elim
end
end Gp
end
section
set_option Elab.async false
set_option linter.all false
set_option maxRecDepth 100000
set_option maxHeartbeats 0
namespace Lw
open PySem PySem.Spec PyProof.Rows L2 Gh Gp
theorem ob_eq (s : PySem.W.SharedT) : ob s = hk.obs s.abs := Gp.obsL_eq (HandSHeadRun.getT_eq s)
structure Tx (K : PySem.W.Frag) (mg : Str → Option Value) : Prop where
  f_ValueError : mg "ValueError" = none
  f_abs : mg "abs" = none
  f_enumerate : mg "enumerate" = none
  f_int : mg "int" = none
  f_isinstance : mg "isinstance" = none
  f_len : mg "len" = none
  f_list : mg "list" = none
  f_range : mg "range" = none
  f_repr : mg "repr" = none
  g__law_pen : mg "_law_pen" = some (.ref (gd "_law_pen" K))
  k__law_pen : PySem.W.keepIn K (.ref (gd "_law_pen" K)) = true
  g__law_draw : mg "_law_draw" = some (.ref (gd "_law_draw" K))
  k__law_draw : PySem.W.keepIn K (.ref (gd "_law_draw" K)) = true
  g__law_pick : mg "_law_pick" = some (.ref (gd "_law_pick" K))
  k__law_pick : PySem.W.keepIn K (.ref (gd "_law_pick" K)) = true
  g__law_value : mg "_law_value" = some (.ref (gd "_law_value" K))
  k__law_value : PySem.W.keepIn K (.ref (gd "_law_value" K)) = true
  g__law_by_place : mg "_law_by_place" = some (.ref (gd "_law_by_place" K))
  k__law_by_place : PySem.W.keepIn K (.ref (gd "_law_by_place" K)) = true
  g__law_by_name : mg "_law_by_name" = some (.ref (gd "_law_by_name" K))
  k__law_by_name : PySem.W.keepIn K (.ref (gd "_law_by_name" K)) = true
  g__law_kept : mg "_law_kept" = some (.ref (gd "_law_kept" K))
  k__law_kept : PySem.W.keepIn K (.ref (gd "_law_kept" K)) = true
  g__law_classes : mg "_law_classes" = some (.ref (gd "_law_classes" K))
  k__law_classes : PySem.W.keepIn K (.ref (gd "_law_classes" K)) = true
  g_BadLength : mg "BadLength" = some (.ref (gd "BadLength" K))
  k_BadLength : PySem.W.keepIn K (.ref (gd "BadLength" K)) = true
  g_BadPlace : mg "BadPlace" = some (.ref (gd "BadPlace" K))
  k_BadPlace : PySem.W.keepIn K (.ref (gd "BadPlace" K)) = true
  g_BadRest : mg "BadRest" = some (.ref (gd "BadRest" K))
  k_BadRest : PySem.W.keepIn K (.ref (gd "BadRest" K)) = true
  g_BadRow : mg "BadRow" = some (.ref (gd "BadRow" K))
  k_BadRow : PySem.W.keepIn K (.ref (gd "BadRow" K)) = true
  g_BadChange : mg "BadChange" = some (.ref (gd "BadChange" K))
  k_BadChange : PySem.W.keepIn K (.ref (gd "BadChange" K)) = true
  g_BadSpan : mg "BadSpan" = some (.ref (gd "BadSpan" K))
  k_BadSpan : PySem.W.keepIn K (.ref (gd "BadSpan" K)) = true
  g_BadStep : mg "BadStep" = some (.ref (gd "BadStep" K))
  k_BadStep : PySem.W.keepIn K (.ref (gd "BadStep" K)) = true
  g_BadNumber : mg "BadNumber" = some (.ref (gd "BadNumber" K))
  k_BadNumber : PySem.W.keepIn K (.ref (gd "BadNumber" K)) = true
  g_BadForm : mg "BadForm" = some (.ref (gd "BadForm" K))
  k_BadForm : PySem.W.keepIn K (.ref (gd "BadForm" K)) = true
  g_BadSpot : mg "BadSpot" = some (.ref (gd "BadSpot" K))
  k_BadSpot : PySem.W.keepIn K (.ref (gd "BadSpot" K)) = true
  g_Overlap : mg "Overlap" = some (.ref (gd "Overlap" K))
  k_Overlap : PySem.W.keepIn K (.ref (gd "Overlap" K)) = true
  g_NoStep : mg "NoStep" = some (.ref (gd "NoStep" K))
  k_NoStep : PySem.W.keepIn K (.ref (gd "NoStep" K)) = true
  g_TooMany : mg "TooMany" = some (.ref (gd "TooMany" K))
  k_TooMany : PySem.W.keepIn K (.ref (gd "TooMany" K)) = true
  g_Parts : mg "Parts" = some (.ref (gd "Parts" K))
  k_Parts : PySem.W.keepIn K (.ref (gd "Parts" K)) = true
  g_BadText : mg "BadText" = some (.ref (gd "BadText" K))
  k_BadText : PySem.W.keepIn K (.ref (gd "BadText" K)) = true
  g_NoName : mg "NoName" = some (.ref (gd "NoName" K))
  k_NoName : PySem.W.keepIn K (.ref (gd "NoName" K)) = true
  g_BadLine : mg "BadLine" = some (.ref (gd "BadLine" K))
  k_BadLine : PySem.W.keepIn K (.ref (gd "BadLine" K)) = true
  g_HuntError : mg "HuntError" = some (.ref (gd "HuntError" K))
  k_HuntError : PySem.W.keepIn K (.ref (gd "HuntError" K)) = true
  n_BadLength_value : NoAttr K (gd "BadLength" K) "value"
  er_BadLength : ErrT K (gd "BadLength" K)
  ox_BadLength : OexC K (gd "BadLength" K)
  in_BadLength : IniT K (gd "BadLength" K) (md "BadLength" "__init__" K)
  xh_BadLength : PySem.W.exmOne K (.ref (gd "BadLength" K)) (.ref (gd "HuntError" K)) = some true
  n_BadPlace_value : NoAttr K (gd "BadPlace" K) "value"
  er_BadPlace : ErrT K (gd "BadPlace" K)
  ox_BadPlace : OexC K (gd "BadPlace" K)
  in_BadPlace : IniT K (gd "BadPlace" K) (md "BadPlace" "__init__" K)
  xh_BadPlace : PySem.W.exmOne K (.ref (gd "BadPlace" K)) (.ref (gd "HuntError" K)) = some true
  n_BadRest_value : NoAttr K (gd "BadRest" K) "value"
  er_BadRest : ErrT K (gd "BadRest" K)
  ox_BadRest : OexC K (gd "BadRest" K)
  in_BadRest : IniT K (gd "BadRest" K) (md "BadRest" "__init__" K)
  xh_BadRest : PySem.W.exmOne K (.ref (gd "BadRest" K)) (.ref (gd "HuntError" K)) = some true
  n_BadRow_at : NoAttr K (gd "BadRow" K) "at"
  er_BadRow : ErrT K (gd "BadRow" K)
  ox_BadRow : OexC K (gd "BadRow" K)
  in_BadRow : IniT K (gd "BadRow" K) (md "BadRow" "__init__" K)
  xh_BadRow : PySem.W.exmOne K (.ref (gd "BadRow" K)) (.ref (gd "HuntError" K)) = some true
  n_BadChange_part : NoAttr K (gd "BadChange" K) "part"
  er_BadChange : ErrT K (gd "BadChange" K)
  ox_BadChange : OexC K (gd "BadChange" K)
  in_BadChange : IniT K (gd "BadChange" K) (md "BadChange" "__init__" K)
  xh_BadChange : PySem.W.exmOne K (.ref (gd "BadChange" K)) (.ref (gd "HuntError" K)) = some true
  n_BadSpan_part : NoAttr K (gd "BadSpan" K) "part"
  er_BadSpan : ErrT K (gd "BadSpan" K)
  ox_BadSpan : OexC K (gd "BadSpan" K)
  in_BadSpan : IniT K (gd "BadSpan" K) (md "BadSpan" "__init__" K)
  xh_BadSpan : PySem.W.exmOne K (.ref (gd "BadSpan" K)) (.ref (gd "HuntError" K)) = some true
  n_BadStep_at : NoAttr K (gd "BadStep" K) "at"
  er_BadStep : ErrT K (gd "BadStep" K)
  ox_BadStep : OexC K (gd "BadStep" K)
  in_BadStep : IniT K (gd "BadStep" K) (md "BadStep" "__init__" K)
  xh_BadStep : PySem.W.exmOne K (.ref (gd "BadStep" K)) (.ref (gd "HuntError" K)) = some true
  n_BadNumber_value : NoAttr K (gd "BadNumber" K) "value"
  er_BadNumber : ErrT K (gd "BadNumber" K)
  ox_BadNumber : OexC K (gd "BadNumber" K)
  in_BadNumber : IniT K (gd "BadNumber" K) (md "BadNumber" "__init__" K)
  xh_BadNumber : PySem.W.exmOne K (.ref (gd "BadNumber" K)) (.ref (gd "HuntError" K)) = some true
  n_BadForm_part : NoAttr K (gd "BadForm" K) "part"
  er_BadForm : ErrT K (gd "BadForm" K)
  ox_BadForm : OexC K (gd "BadForm" K)
  in_BadForm : IniT K (gd "BadForm" K) (md "BadForm" "__init__" K)
  xh_BadForm : PySem.W.exmOne K (.ref (gd "BadForm" K)) (.ref (gd "HuntError" K)) = some true
  n_BadSpot_part : NoAttr K (gd "BadSpot" K) "part"
  er_BadSpot : ErrT K (gd "BadSpot" K)
  ox_BadSpot : OexC K (gd "BadSpot" K)
  in_BadSpot : IniT K (gd "BadSpot" K) (md "BadSpot" "__init__" K)
  xh_BadSpot : PySem.W.exmOne K (.ref (gd "BadSpot" K)) (.ref (gd "HuntError" K)) = some true
  n_Overlap_length : NoAttr K (gd "Overlap" K) "length"
  er_Overlap : ErrT K (gd "Overlap" K)
  ox_Overlap : OexC K (gd "Overlap" K)
  in_Overlap : IniT K (gd "Overlap" K) (md "Overlap" "__init__" K)
  xh_Overlap : PySem.W.exmOne K (.ref (gd "Overlap" K)) (.ref (gd "HuntError" K)) = some true
  n_NoStep_index : NoAttr K (gd "NoStep" K) "index"
  er_NoStep : ErrT K (gd "NoStep" K)
  ox_NoStep : OexC K (gd "NoStep" K)
  in_NoStep : IniT K (gd "NoStep" K) (md "NoStep" "__init__" K)
  xh_NoStep : PySem.W.exmOne K (.ref (gd "NoStep" K)) (.ref (gd "HuntError" K)) = some true
  n_TooMany_what : NoAttr K (gd "TooMany" K) "what"
  n_TooMany_most : NoAttr K (gd "TooMany" K) "most"
  er_TooMany : ErrT K (gd "TooMany" K)
  ox_TooMany : OexC K (gd "TooMany" K)
  in_TooMany : IniT K (gd "TooMany" K) (md "TooMany" "__init__" K)
  xh_TooMany : PySem.W.exmOne K (.ref (gd "TooMany" K)) (.ref (gd "HuntError" K)) = some true
  n_Parts_length : NoAttr K (gd "Parts" K) "length"
  n_Parts_place : NoAttr K (gd "Parts" K) "place"
  er_Parts : ErrT K (gd "Parts" K)
  ox_Parts : OexC K (gd "Parts" K)
  in_Parts : IniT K (gd "Parts" K) (md "Parts" "__init__" K)
  xh_Parts : PySem.W.exmOne K (.ref (gd "Parts" K)) (.ref (gd "HuntError" K)) = some true
  n_BadText_line : NoAttr K (gd "BadText" K) "line"
  n_BadText_word : NoAttr K (gd "BadText" K) "word"
  er_BadText : ErrT K (gd "BadText" K)
  ox_BadText : OexC K (gd "BadText" K)
  in_BadText : IniT K (gd "BadText" K) (md "BadText" "__init__" K)
  xh_BadText : PySem.W.exmOne K (.ref (gd "BadText" K)) (.ref (gd "HuntError" K)) = some true
  n_NoName_name : NoAttr K (gd "NoName" K) "name"
  er_NoName : ErrT K (gd "NoName" K)
  ox_NoName : OexC K (gd "NoName" K)
  in_NoName : IniT K (gd "NoName" K) (md "NoName" "__init__" K)
  xh_NoName : PySem.W.exmOne K (.ref (gd "NoName" K)) (.ref (gd "HuntError" K)) = some true
  n_BadLine_word : NoAttr K (gd "BadLine" K) "word"
  er_BadLine : ErrT K (gd "BadLine" K)
  ox_BadLine : OexC K (gd "BadLine" K)
  in_BadLine : IniT K (gd "BadLine" K) (md "BadLine" "__init__" K)
  xh_BadLine : PySem.W.exmOne K (.ref (gd "BadLine" K)) (.ref (gd "HuntError" K)) = some true
  er_HuntError : ErrT K (gd "HuntError" K)
  ox_HuntError : OexC K (gd "HuntError" K)
  xh_HuntError : PySem.W.exmOne K (.ref (gd "HuntError" K)) (.ref (gd "HuntError" K)) = some true
  sysm : Gp.sysB K = true
  ki_BadLength_BadLength : PySem.W.kitOne K (.ref (gd "BadLength" K)) (.ref (gd "BadLength" K)) = some true
  ki_BadPlace_BadLength : PySem.W.kitOne K (.ref (gd "BadPlace" K)) (.ref (gd "BadLength" K)) = some false
  ki_BadRest_BadLength : PySem.W.kitOne K (.ref (gd "BadRest" K)) (.ref (gd "BadLength" K)) = some false
  ki_BadRow_BadLength : PySem.W.kitOne K (.ref (gd "BadRow" K)) (.ref (gd "BadLength" K)) = some false
  ki_BadChange_BadLength : PySem.W.kitOne K (.ref (gd "BadChange" K)) (.ref (gd "BadLength" K)) = some false
  ki_BadSpan_BadLength : PySem.W.kitOne K (.ref (gd "BadSpan" K)) (.ref (gd "BadLength" K)) = some false
  ki_BadStep_BadLength : PySem.W.kitOne K (.ref (gd "BadStep" K)) (.ref (gd "BadLength" K)) = some false
  ki_BadNumber_BadLength : PySem.W.kitOne K (.ref (gd "BadNumber" K)) (.ref (gd "BadLength" K)) = some false
  ki_BadForm_BadLength : PySem.W.kitOne K (.ref (gd "BadForm" K)) (.ref (gd "BadLength" K)) = some false
  ki_BadSpot_BadLength : PySem.W.kitOne K (.ref (gd "BadSpot" K)) (.ref (gd "BadLength" K)) = some false
  ki_Overlap_BadLength : PySem.W.kitOne K (.ref (gd "Overlap" K)) (.ref (gd "BadLength" K)) = some false
  ki_NoStep_BadLength : PySem.W.kitOne K (.ref (gd "NoStep" K)) (.ref (gd "BadLength" K)) = some false
  ki_TooMany_BadLength : PySem.W.kitOne K (.ref (gd "TooMany" K)) (.ref (gd "BadLength" K)) = some false
  ki_Parts_BadLength : PySem.W.kitOne K (.ref (gd "Parts" K)) (.ref (gd "BadLength" K)) = some false
  ki_BadText_BadLength : PySem.W.kitOne K (.ref (gd "BadText" K)) (.ref (gd "BadLength" K)) = some false
  ki_NoName_BadLength : PySem.W.kitOne K (.ref (gd "NoName" K)) (.ref (gd "BadLength" K)) = some false
  ki_BadLine_BadLength : PySem.W.kitOne K (.ref (gd "BadLine" K)) (.ref (gd "BadLength" K)) = some false
  ki_HuntError_BadLength : PySem.W.kitOne K (.ref (gd "HuntError" K)) (.ref (gd "BadLength" K)) = some false
  ki_BadLength_BadPlace : PySem.W.kitOne K (.ref (gd "BadLength" K)) (.ref (gd "BadPlace" K)) = some false
  ki_BadPlace_BadPlace : PySem.W.kitOne K (.ref (gd "BadPlace" K)) (.ref (gd "BadPlace" K)) = some true
  ki_BadRest_BadPlace : PySem.W.kitOne K (.ref (gd "BadRest" K)) (.ref (gd "BadPlace" K)) = some false
  ki_BadRow_BadPlace : PySem.W.kitOne K (.ref (gd "BadRow" K)) (.ref (gd "BadPlace" K)) = some false
  ki_BadChange_BadPlace : PySem.W.kitOne K (.ref (gd "BadChange" K)) (.ref (gd "BadPlace" K)) = some false
  ki_BadSpan_BadPlace : PySem.W.kitOne K (.ref (gd "BadSpan" K)) (.ref (gd "BadPlace" K)) = some false
  ki_BadStep_BadPlace : PySem.W.kitOne K (.ref (gd "BadStep" K)) (.ref (gd "BadPlace" K)) = some false
  ki_BadNumber_BadPlace : PySem.W.kitOne K (.ref (gd "BadNumber" K)) (.ref (gd "BadPlace" K)) = some false
  ki_BadForm_BadPlace : PySem.W.kitOne K (.ref (gd "BadForm" K)) (.ref (gd "BadPlace" K)) = some false
  ki_BadSpot_BadPlace : PySem.W.kitOne K (.ref (gd "BadSpot" K)) (.ref (gd "BadPlace" K)) = some false
  ki_Overlap_BadPlace : PySem.W.kitOne K (.ref (gd "Overlap" K)) (.ref (gd "BadPlace" K)) = some false
  ki_NoStep_BadPlace : PySem.W.kitOne K (.ref (gd "NoStep" K)) (.ref (gd "BadPlace" K)) = some false
  ki_TooMany_BadPlace : PySem.W.kitOne K (.ref (gd "TooMany" K)) (.ref (gd "BadPlace" K)) = some false
  ki_Parts_BadPlace : PySem.W.kitOne K (.ref (gd "Parts" K)) (.ref (gd "BadPlace" K)) = some false
  ki_BadText_BadPlace : PySem.W.kitOne K (.ref (gd "BadText" K)) (.ref (gd "BadPlace" K)) = some false
  ki_NoName_BadPlace : PySem.W.kitOne K (.ref (gd "NoName" K)) (.ref (gd "BadPlace" K)) = some false
  ki_BadLine_BadPlace : PySem.W.kitOne K (.ref (gd "BadLine" K)) (.ref (gd "BadPlace" K)) = some false
  ki_HuntError_BadPlace : PySem.W.kitOne K (.ref (gd "HuntError" K)) (.ref (gd "BadPlace" K)) = some false
  ki_BadLength_BadRest : PySem.W.kitOne K (.ref (gd "BadLength" K)) (.ref (gd "BadRest" K)) = some false
  ki_BadPlace_BadRest : PySem.W.kitOne K (.ref (gd "BadPlace" K)) (.ref (gd "BadRest" K)) = some false
  ki_BadRest_BadRest : PySem.W.kitOne K (.ref (gd "BadRest" K)) (.ref (gd "BadRest" K)) = some true
  ki_BadRow_BadRest : PySem.W.kitOne K (.ref (gd "BadRow" K)) (.ref (gd "BadRest" K)) = some false
  ki_BadChange_BadRest : PySem.W.kitOne K (.ref (gd "BadChange" K)) (.ref (gd "BadRest" K)) = some false
  ki_BadSpan_BadRest : PySem.W.kitOne K (.ref (gd "BadSpan" K)) (.ref (gd "BadRest" K)) = some false
  ki_BadStep_BadRest : PySem.W.kitOne K (.ref (gd "BadStep" K)) (.ref (gd "BadRest" K)) = some false
  ki_BadNumber_BadRest : PySem.W.kitOne K (.ref (gd "BadNumber" K)) (.ref (gd "BadRest" K)) = some false
  ki_BadForm_BadRest : PySem.W.kitOne K (.ref (gd "BadForm" K)) (.ref (gd "BadRest" K)) = some false
  ki_BadSpot_BadRest : PySem.W.kitOne K (.ref (gd "BadSpot" K)) (.ref (gd "BadRest" K)) = some false
  ki_Overlap_BadRest : PySem.W.kitOne K (.ref (gd "Overlap" K)) (.ref (gd "BadRest" K)) = some false
  ki_NoStep_BadRest : PySem.W.kitOne K (.ref (gd "NoStep" K)) (.ref (gd "BadRest" K)) = some false
  ki_TooMany_BadRest : PySem.W.kitOne K (.ref (gd "TooMany" K)) (.ref (gd "BadRest" K)) = some false
  ki_Parts_BadRest : PySem.W.kitOne K (.ref (gd "Parts" K)) (.ref (gd "BadRest" K)) = some false
  ki_BadText_BadRest : PySem.W.kitOne K (.ref (gd "BadText" K)) (.ref (gd "BadRest" K)) = some false
  ki_NoName_BadRest : PySem.W.kitOne K (.ref (gd "NoName" K)) (.ref (gd "BadRest" K)) = some false
  ki_BadLine_BadRest : PySem.W.kitOne K (.ref (gd "BadLine" K)) (.ref (gd "BadRest" K)) = some false
  ki_HuntError_BadRest : PySem.W.kitOne K (.ref (gd "HuntError" K)) (.ref (gd "BadRest" K)) = some false
  ki_BadLength_BadRow : PySem.W.kitOne K (.ref (gd "BadLength" K)) (.ref (gd "BadRow" K)) = some false
  ki_BadPlace_BadRow : PySem.W.kitOne K (.ref (gd "BadPlace" K)) (.ref (gd "BadRow" K)) = some false
  ki_BadRest_BadRow : PySem.W.kitOne K (.ref (gd "BadRest" K)) (.ref (gd "BadRow" K)) = some false
  ki_BadRow_BadRow : PySem.W.kitOne K (.ref (gd "BadRow" K)) (.ref (gd "BadRow" K)) = some true
  ki_BadChange_BadRow : PySem.W.kitOne K (.ref (gd "BadChange" K)) (.ref (gd "BadRow" K)) = some false
  ki_BadSpan_BadRow : PySem.W.kitOne K (.ref (gd "BadSpan" K)) (.ref (gd "BadRow" K)) = some false
  ki_BadStep_BadRow : PySem.W.kitOne K (.ref (gd "BadStep" K)) (.ref (gd "BadRow" K)) = some false
  ki_BadNumber_BadRow : PySem.W.kitOne K (.ref (gd "BadNumber" K)) (.ref (gd "BadRow" K)) = some false
  ki_BadForm_BadRow : PySem.W.kitOne K (.ref (gd "BadForm" K)) (.ref (gd "BadRow" K)) = some false
  ki_BadSpot_BadRow : PySem.W.kitOne K (.ref (gd "BadSpot" K)) (.ref (gd "BadRow" K)) = some false
  ki_Overlap_BadRow : PySem.W.kitOne K (.ref (gd "Overlap" K)) (.ref (gd "BadRow" K)) = some false
  ki_NoStep_BadRow : PySem.W.kitOne K (.ref (gd "NoStep" K)) (.ref (gd "BadRow" K)) = some false
  ki_TooMany_BadRow : PySem.W.kitOne K (.ref (gd "TooMany" K)) (.ref (gd "BadRow" K)) = some false
  ki_Parts_BadRow : PySem.W.kitOne K (.ref (gd "Parts" K)) (.ref (gd "BadRow" K)) = some false
  ki_BadText_BadRow : PySem.W.kitOne K (.ref (gd "BadText" K)) (.ref (gd "BadRow" K)) = some false
  ki_NoName_BadRow : PySem.W.kitOne K (.ref (gd "NoName" K)) (.ref (gd "BadRow" K)) = some false
  ki_BadLine_BadRow : PySem.W.kitOne K (.ref (gd "BadLine" K)) (.ref (gd "BadRow" K)) = some false
  ki_HuntError_BadRow : PySem.W.kitOne K (.ref (gd "HuntError" K)) (.ref (gd "BadRow" K)) = some false
  ki_BadLength_BadChange : PySem.W.kitOne K (.ref (gd "BadLength" K)) (.ref (gd "BadChange" K)) = some false
  ki_BadPlace_BadChange : PySem.W.kitOne K (.ref (gd "BadPlace" K)) (.ref (gd "BadChange" K)) = some false
  ki_BadRest_BadChange : PySem.W.kitOne K (.ref (gd "BadRest" K)) (.ref (gd "BadChange" K)) = some false
  ki_BadRow_BadChange : PySem.W.kitOne K (.ref (gd "BadRow" K)) (.ref (gd "BadChange" K)) = some false
  ki_BadChange_BadChange : PySem.W.kitOne K (.ref (gd "BadChange" K)) (.ref (gd "BadChange" K)) = some true
  ki_BadSpan_BadChange : PySem.W.kitOne K (.ref (gd "BadSpan" K)) (.ref (gd "BadChange" K)) = some false
  ki_BadStep_BadChange : PySem.W.kitOne K (.ref (gd "BadStep" K)) (.ref (gd "BadChange" K)) = some false
  ki_BadNumber_BadChange : PySem.W.kitOne K (.ref (gd "BadNumber" K)) (.ref (gd "BadChange" K)) = some false
  ki_BadForm_BadChange : PySem.W.kitOne K (.ref (gd "BadForm" K)) (.ref (gd "BadChange" K)) = some false
  ki_BadSpot_BadChange : PySem.W.kitOne K (.ref (gd "BadSpot" K)) (.ref (gd "BadChange" K)) = some false
  ki_Overlap_BadChange : PySem.W.kitOne K (.ref (gd "Overlap" K)) (.ref (gd "BadChange" K)) = some false
  ki_NoStep_BadChange : PySem.W.kitOne K (.ref (gd "NoStep" K)) (.ref (gd "BadChange" K)) = some false
  ki_TooMany_BadChange : PySem.W.kitOne K (.ref (gd "TooMany" K)) (.ref (gd "BadChange" K)) = some false
  ki_Parts_BadChange : PySem.W.kitOne K (.ref (gd "Parts" K)) (.ref (gd "BadChange" K)) = some false
  ki_BadText_BadChange : PySem.W.kitOne K (.ref (gd "BadText" K)) (.ref (gd "BadChange" K)) = some false
  ki_NoName_BadChange : PySem.W.kitOne K (.ref (gd "NoName" K)) (.ref (gd "BadChange" K)) = some false
  ki_BadLine_BadChange : PySem.W.kitOne K (.ref (gd "BadLine" K)) (.ref (gd "BadChange" K)) = some false
  ki_HuntError_BadChange : PySem.W.kitOne K (.ref (gd "HuntError" K)) (.ref (gd "BadChange" K)) = some false
  ki_BadLength_BadSpan : PySem.W.kitOne K (.ref (gd "BadLength" K)) (.ref (gd "BadSpan" K)) = some false
  ki_BadPlace_BadSpan : PySem.W.kitOne K (.ref (gd "BadPlace" K)) (.ref (gd "BadSpan" K)) = some false
  ki_BadRest_BadSpan : PySem.W.kitOne K (.ref (gd "BadRest" K)) (.ref (gd "BadSpan" K)) = some false
  ki_BadRow_BadSpan : PySem.W.kitOne K (.ref (gd "BadRow" K)) (.ref (gd "BadSpan" K)) = some false
  ki_BadChange_BadSpan : PySem.W.kitOne K (.ref (gd "BadChange" K)) (.ref (gd "BadSpan" K)) = some false
  ki_BadSpan_BadSpan : PySem.W.kitOne K (.ref (gd "BadSpan" K)) (.ref (gd "BadSpan" K)) = some true
  ki_BadStep_BadSpan : PySem.W.kitOne K (.ref (gd "BadStep" K)) (.ref (gd "BadSpan" K)) = some false
  ki_BadNumber_BadSpan : PySem.W.kitOne K (.ref (gd "BadNumber" K)) (.ref (gd "BadSpan" K)) = some false
  ki_BadForm_BadSpan : PySem.W.kitOne K (.ref (gd "BadForm" K)) (.ref (gd "BadSpan" K)) = some false
  ki_BadSpot_BadSpan : PySem.W.kitOne K (.ref (gd "BadSpot" K)) (.ref (gd "BadSpan" K)) = some false
  ki_Overlap_BadSpan : PySem.W.kitOne K (.ref (gd "Overlap" K)) (.ref (gd "BadSpan" K)) = some false
  ki_NoStep_BadSpan : PySem.W.kitOne K (.ref (gd "NoStep" K)) (.ref (gd "BadSpan" K)) = some false
  ki_TooMany_BadSpan : PySem.W.kitOne K (.ref (gd "TooMany" K)) (.ref (gd "BadSpan" K)) = some false
  ki_Parts_BadSpan : PySem.W.kitOne K (.ref (gd "Parts" K)) (.ref (gd "BadSpan" K)) = some false
  ki_BadText_BadSpan : PySem.W.kitOne K (.ref (gd "BadText" K)) (.ref (gd "BadSpan" K)) = some false
  ki_NoName_BadSpan : PySem.W.kitOne K (.ref (gd "NoName" K)) (.ref (gd "BadSpan" K)) = some false
  ki_BadLine_BadSpan : PySem.W.kitOne K (.ref (gd "BadLine" K)) (.ref (gd "BadSpan" K)) = some false
  ki_HuntError_BadSpan : PySem.W.kitOne K (.ref (gd "HuntError" K)) (.ref (gd "BadSpan" K)) = some false
  ki_BadLength_BadStep : PySem.W.kitOne K (.ref (gd "BadLength" K)) (.ref (gd "BadStep" K)) = some false
  ki_BadPlace_BadStep : PySem.W.kitOne K (.ref (gd "BadPlace" K)) (.ref (gd "BadStep" K)) = some false
  ki_BadRest_BadStep : PySem.W.kitOne K (.ref (gd "BadRest" K)) (.ref (gd "BadStep" K)) = some false
  ki_BadRow_BadStep : PySem.W.kitOne K (.ref (gd "BadRow" K)) (.ref (gd "BadStep" K)) = some false
  ki_BadChange_BadStep : PySem.W.kitOne K (.ref (gd "BadChange" K)) (.ref (gd "BadStep" K)) = some false
  ki_BadSpan_BadStep : PySem.W.kitOne K (.ref (gd "BadSpan" K)) (.ref (gd "BadStep" K)) = some false
  ki_BadStep_BadStep : PySem.W.kitOne K (.ref (gd "BadStep" K)) (.ref (gd "BadStep" K)) = some true
  ki_BadNumber_BadStep : PySem.W.kitOne K (.ref (gd "BadNumber" K)) (.ref (gd "BadStep" K)) = some false
  ki_BadForm_BadStep : PySem.W.kitOne K (.ref (gd "BadForm" K)) (.ref (gd "BadStep" K)) = some false
  ki_BadSpot_BadStep : PySem.W.kitOne K (.ref (gd "BadSpot" K)) (.ref (gd "BadStep" K)) = some false
  ki_Overlap_BadStep : PySem.W.kitOne K (.ref (gd "Overlap" K)) (.ref (gd "BadStep" K)) = some false
  ki_NoStep_BadStep : PySem.W.kitOne K (.ref (gd "NoStep" K)) (.ref (gd "BadStep" K)) = some false
  ki_TooMany_BadStep : PySem.W.kitOne K (.ref (gd "TooMany" K)) (.ref (gd "BadStep" K)) = some false
  ki_Parts_BadStep : PySem.W.kitOne K (.ref (gd "Parts" K)) (.ref (gd "BadStep" K)) = some false
  ki_BadText_BadStep : PySem.W.kitOne K (.ref (gd "BadText" K)) (.ref (gd "BadStep" K)) = some false
  ki_NoName_BadStep : PySem.W.kitOne K (.ref (gd "NoName" K)) (.ref (gd "BadStep" K)) = some false
  ki_BadLine_BadStep : PySem.W.kitOne K (.ref (gd "BadLine" K)) (.ref (gd "BadStep" K)) = some false
  ki_HuntError_BadStep : PySem.W.kitOne K (.ref (gd "HuntError" K)) (.ref (gd "BadStep" K)) = some false
  ki_BadLength_BadNumber : PySem.W.kitOne K (.ref (gd "BadLength" K)) (.ref (gd "BadNumber" K)) = some false
  ki_BadPlace_BadNumber : PySem.W.kitOne K (.ref (gd "BadPlace" K)) (.ref (gd "BadNumber" K)) = some false
  ki_BadRest_BadNumber : PySem.W.kitOne K (.ref (gd "BadRest" K)) (.ref (gd "BadNumber" K)) = some false
  ki_BadRow_BadNumber : PySem.W.kitOne K (.ref (gd "BadRow" K)) (.ref (gd "BadNumber" K)) = some false
  ki_BadChange_BadNumber : PySem.W.kitOne K (.ref (gd "BadChange" K)) (.ref (gd "BadNumber" K)) = some false
  ki_BadSpan_BadNumber : PySem.W.kitOne K (.ref (gd "BadSpan" K)) (.ref (gd "BadNumber" K)) = some false
  ki_BadStep_BadNumber : PySem.W.kitOne K (.ref (gd "BadStep" K)) (.ref (gd "BadNumber" K)) = some false
  ki_BadNumber_BadNumber : PySem.W.kitOne K (.ref (gd "BadNumber" K)) (.ref (gd "BadNumber" K)) = some true
  ki_BadForm_BadNumber : PySem.W.kitOne K (.ref (gd "BadForm" K)) (.ref (gd "BadNumber" K)) = some false
  ki_BadSpot_BadNumber : PySem.W.kitOne K (.ref (gd "BadSpot" K)) (.ref (gd "BadNumber" K)) = some false
  ki_Overlap_BadNumber : PySem.W.kitOne K (.ref (gd "Overlap" K)) (.ref (gd "BadNumber" K)) = some false
  ki_NoStep_BadNumber : PySem.W.kitOne K (.ref (gd "NoStep" K)) (.ref (gd "BadNumber" K)) = some false
  ki_TooMany_BadNumber : PySem.W.kitOne K (.ref (gd "TooMany" K)) (.ref (gd "BadNumber" K)) = some false
  ki_Parts_BadNumber : PySem.W.kitOne K (.ref (gd "Parts" K)) (.ref (gd "BadNumber" K)) = some false
  ki_BadText_BadNumber : PySem.W.kitOne K (.ref (gd "BadText" K)) (.ref (gd "BadNumber" K)) = some false
  ki_NoName_BadNumber : PySem.W.kitOne K (.ref (gd "NoName" K)) (.ref (gd "BadNumber" K)) = some false
  ki_BadLine_BadNumber : PySem.W.kitOne K (.ref (gd "BadLine" K)) (.ref (gd "BadNumber" K)) = some false
  ki_HuntError_BadNumber : PySem.W.kitOne K (.ref (gd "HuntError" K)) (.ref (gd "BadNumber" K)) = some false
  ki_BadLength_BadForm : PySem.W.kitOne K (.ref (gd "BadLength" K)) (.ref (gd "BadForm" K)) = some false
  ki_BadPlace_BadForm : PySem.W.kitOne K (.ref (gd "BadPlace" K)) (.ref (gd "BadForm" K)) = some false
  ki_BadRest_BadForm : PySem.W.kitOne K (.ref (gd "BadRest" K)) (.ref (gd "BadForm" K)) = some false
  ki_BadRow_BadForm : PySem.W.kitOne K (.ref (gd "BadRow" K)) (.ref (gd "BadForm" K)) = some false
  ki_BadChange_BadForm : PySem.W.kitOne K (.ref (gd "BadChange" K)) (.ref (gd "BadForm" K)) = some false
  ki_BadSpan_BadForm : PySem.W.kitOne K (.ref (gd "BadSpan" K)) (.ref (gd "BadForm" K)) = some false
  ki_BadStep_BadForm : PySem.W.kitOne K (.ref (gd "BadStep" K)) (.ref (gd "BadForm" K)) = some false
  ki_BadNumber_BadForm : PySem.W.kitOne K (.ref (gd "BadNumber" K)) (.ref (gd "BadForm" K)) = some false
  ki_BadForm_BadForm : PySem.W.kitOne K (.ref (gd "BadForm" K)) (.ref (gd "BadForm" K)) = some true
  ki_BadSpot_BadForm : PySem.W.kitOne K (.ref (gd "BadSpot" K)) (.ref (gd "BadForm" K)) = some false
  ki_Overlap_BadForm : PySem.W.kitOne K (.ref (gd "Overlap" K)) (.ref (gd "BadForm" K)) = some false
  ki_NoStep_BadForm : PySem.W.kitOne K (.ref (gd "NoStep" K)) (.ref (gd "BadForm" K)) = some false
  ki_TooMany_BadForm : PySem.W.kitOne K (.ref (gd "TooMany" K)) (.ref (gd "BadForm" K)) = some false
  ki_Parts_BadForm : PySem.W.kitOne K (.ref (gd "Parts" K)) (.ref (gd "BadForm" K)) = some false
  ki_BadText_BadForm : PySem.W.kitOne K (.ref (gd "BadText" K)) (.ref (gd "BadForm" K)) = some false
  ki_NoName_BadForm : PySem.W.kitOne K (.ref (gd "NoName" K)) (.ref (gd "BadForm" K)) = some false
  ki_BadLine_BadForm : PySem.W.kitOne K (.ref (gd "BadLine" K)) (.ref (gd "BadForm" K)) = some false
  ki_HuntError_BadForm : PySem.W.kitOne K (.ref (gd "HuntError" K)) (.ref (gd "BadForm" K)) = some false
  ki_BadLength_BadSpot : PySem.W.kitOne K (.ref (gd "BadLength" K)) (.ref (gd "BadSpot" K)) = some false
  ki_BadPlace_BadSpot : PySem.W.kitOne K (.ref (gd "BadPlace" K)) (.ref (gd "BadSpot" K)) = some false
  ki_BadRest_BadSpot : PySem.W.kitOne K (.ref (gd "BadRest" K)) (.ref (gd "BadSpot" K)) = some false
  ki_BadRow_BadSpot : PySem.W.kitOne K (.ref (gd "BadRow" K)) (.ref (gd "BadSpot" K)) = some false
  ki_BadChange_BadSpot : PySem.W.kitOne K (.ref (gd "BadChange" K)) (.ref (gd "BadSpot" K)) = some false
  ki_BadSpan_BadSpot : PySem.W.kitOne K (.ref (gd "BadSpan" K)) (.ref (gd "BadSpot" K)) = some false
  ki_BadStep_BadSpot : PySem.W.kitOne K (.ref (gd "BadStep" K)) (.ref (gd "BadSpot" K)) = some false
  ki_BadNumber_BadSpot : PySem.W.kitOne K (.ref (gd "BadNumber" K)) (.ref (gd "BadSpot" K)) = some false
  ki_BadForm_BadSpot : PySem.W.kitOne K (.ref (gd "BadForm" K)) (.ref (gd "BadSpot" K)) = some false
  ki_BadSpot_BadSpot : PySem.W.kitOne K (.ref (gd "BadSpot" K)) (.ref (gd "BadSpot" K)) = some true
  ki_Overlap_BadSpot : PySem.W.kitOne K (.ref (gd "Overlap" K)) (.ref (gd "BadSpot" K)) = some false
  ki_NoStep_BadSpot : PySem.W.kitOne K (.ref (gd "NoStep" K)) (.ref (gd "BadSpot" K)) = some false
  ki_TooMany_BadSpot : PySem.W.kitOne K (.ref (gd "TooMany" K)) (.ref (gd "BadSpot" K)) = some false
  ki_Parts_BadSpot : PySem.W.kitOne K (.ref (gd "Parts" K)) (.ref (gd "BadSpot" K)) = some false
  ki_BadText_BadSpot : PySem.W.kitOne K (.ref (gd "BadText" K)) (.ref (gd "BadSpot" K)) = some false
  ki_NoName_BadSpot : PySem.W.kitOne K (.ref (gd "NoName" K)) (.ref (gd "BadSpot" K)) = some false
  ki_BadLine_BadSpot : PySem.W.kitOne K (.ref (gd "BadLine" K)) (.ref (gd "BadSpot" K)) = some false
  ki_HuntError_BadSpot : PySem.W.kitOne K (.ref (gd "HuntError" K)) (.ref (gd "BadSpot" K)) = some false
  ki_BadLength_Overlap : PySem.W.kitOne K (.ref (gd "BadLength" K)) (.ref (gd "Overlap" K)) = some false
  ki_BadPlace_Overlap : PySem.W.kitOne K (.ref (gd "BadPlace" K)) (.ref (gd "Overlap" K)) = some false
  ki_BadRest_Overlap : PySem.W.kitOne K (.ref (gd "BadRest" K)) (.ref (gd "Overlap" K)) = some false
  ki_BadRow_Overlap : PySem.W.kitOne K (.ref (gd "BadRow" K)) (.ref (gd "Overlap" K)) = some false
  ki_BadChange_Overlap : PySem.W.kitOne K (.ref (gd "BadChange" K)) (.ref (gd "Overlap" K)) = some false
  ki_BadSpan_Overlap : PySem.W.kitOne K (.ref (gd "BadSpan" K)) (.ref (gd "Overlap" K)) = some false
  ki_BadStep_Overlap : PySem.W.kitOne K (.ref (gd "BadStep" K)) (.ref (gd "Overlap" K)) = some false
  ki_BadNumber_Overlap : PySem.W.kitOne K (.ref (gd "BadNumber" K)) (.ref (gd "Overlap" K)) = some false
  ki_BadForm_Overlap : PySem.W.kitOne K (.ref (gd "BadForm" K)) (.ref (gd "Overlap" K)) = some false
  ki_BadSpot_Overlap : PySem.W.kitOne K (.ref (gd "BadSpot" K)) (.ref (gd "Overlap" K)) = some false
  ki_Overlap_Overlap : PySem.W.kitOne K (.ref (gd "Overlap" K)) (.ref (gd "Overlap" K)) = some true
  ki_NoStep_Overlap : PySem.W.kitOne K (.ref (gd "NoStep" K)) (.ref (gd "Overlap" K)) = some false
  ki_TooMany_Overlap : PySem.W.kitOne K (.ref (gd "TooMany" K)) (.ref (gd "Overlap" K)) = some false
  ki_Parts_Overlap : PySem.W.kitOne K (.ref (gd "Parts" K)) (.ref (gd "Overlap" K)) = some false
  ki_BadText_Overlap : PySem.W.kitOne K (.ref (gd "BadText" K)) (.ref (gd "Overlap" K)) = some false
  ki_NoName_Overlap : PySem.W.kitOne K (.ref (gd "NoName" K)) (.ref (gd "Overlap" K)) = some false
  ki_BadLine_Overlap : PySem.W.kitOne K (.ref (gd "BadLine" K)) (.ref (gd "Overlap" K)) = some false
  ki_HuntError_Overlap : PySem.W.kitOne K (.ref (gd "HuntError" K)) (.ref (gd "Overlap" K)) = some false
  ki_BadLength_NoStep : PySem.W.kitOne K (.ref (gd "BadLength" K)) (.ref (gd "NoStep" K)) = some false
  ki_BadPlace_NoStep : PySem.W.kitOne K (.ref (gd "BadPlace" K)) (.ref (gd "NoStep" K)) = some false
  ki_BadRest_NoStep : PySem.W.kitOne K (.ref (gd "BadRest" K)) (.ref (gd "NoStep" K)) = some false
  ki_BadRow_NoStep : PySem.W.kitOne K (.ref (gd "BadRow" K)) (.ref (gd "NoStep" K)) = some false
  ki_BadChange_NoStep : PySem.W.kitOne K (.ref (gd "BadChange" K)) (.ref (gd "NoStep" K)) = some false
  ki_BadSpan_NoStep : PySem.W.kitOne K (.ref (gd "BadSpan" K)) (.ref (gd "NoStep" K)) = some false
  ki_BadStep_NoStep : PySem.W.kitOne K (.ref (gd "BadStep" K)) (.ref (gd "NoStep" K)) = some false
  ki_BadNumber_NoStep : PySem.W.kitOne K (.ref (gd "BadNumber" K)) (.ref (gd "NoStep" K)) = some false
  ki_BadForm_NoStep : PySem.W.kitOne K (.ref (gd "BadForm" K)) (.ref (gd "NoStep" K)) = some false
  ki_BadSpot_NoStep : PySem.W.kitOne K (.ref (gd "BadSpot" K)) (.ref (gd "NoStep" K)) = some false
  ki_Overlap_NoStep : PySem.W.kitOne K (.ref (gd "Overlap" K)) (.ref (gd "NoStep" K)) = some false
  ki_NoStep_NoStep : PySem.W.kitOne K (.ref (gd "NoStep" K)) (.ref (gd "NoStep" K)) = some true
  ki_TooMany_NoStep : PySem.W.kitOne K (.ref (gd "TooMany" K)) (.ref (gd "NoStep" K)) = some false
  ki_Parts_NoStep : PySem.W.kitOne K (.ref (gd "Parts" K)) (.ref (gd "NoStep" K)) = some false
  ki_BadText_NoStep : PySem.W.kitOne K (.ref (gd "BadText" K)) (.ref (gd "NoStep" K)) = some false
  ki_NoName_NoStep : PySem.W.kitOne K (.ref (gd "NoName" K)) (.ref (gd "NoStep" K)) = some false
  ki_BadLine_NoStep : PySem.W.kitOne K (.ref (gd "BadLine" K)) (.ref (gd "NoStep" K)) = some false
  ki_HuntError_NoStep : PySem.W.kitOne K (.ref (gd "HuntError" K)) (.ref (gd "NoStep" K)) = some false
  ki_BadLength_TooMany : PySem.W.kitOne K (.ref (gd "BadLength" K)) (.ref (gd "TooMany" K)) = some false
  ki_BadPlace_TooMany : PySem.W.kitOne K (.ref (gd "BadPlace" K)) (.ref (gd "TooMany" K)) = some false
  ki_BadRest_TooMany : PySem.W.kitOne K (.ref (gd "BadRest" K)) (.ref (gd "TooMany" K)) = some false
  ki_BadRow_TooMany : PySem.W.kitOne K (.ref (gd "BadRow" K)) (.ref (gd "TooMany" K)) = some false
  ki_BadChange_TooMany : PySem.W.kitOne K (.ref (gd "BadChange" K)) (.ref (gd "TooMany" K)) = some false
  ki_BadSpan_TooMany : PySem.W.kitOne K (.ref (gd "BadSpan" K)) (.ref (gd "TooMany" K)) = some false
  ki_BadStep_TooMany : PySem.W.kitOne K (.ref (gd "BadStep" K)) (.ref (gd "TooMany" K)) = some false
  ki_BadNumber_TooMany : PySem.W.kitOne K (.ref (gd "BadNumber" K)) (.ref (gd "TooMany" K)) = some false
  ki_BadForm_TooMany : PySem.W.kitOne K (.ref (gd "BadForm" K)) (.ref (gd "TooMany" K)) = some false
  ki_BadSpot_TooMany : PySem.W.kitOne K (.ref (gd "BadSpot" K)) (.ref (gd "TooMany" K)) = some false
  ki_Overlap_TooMany : PySem.W.kitOne K (.ref (gd "Overlap" K)) (.ref (gd "TooMany" K)) = some false
  ki_NoStep_TooMany : PySem.W.kitOne K (.ref (gd "NoStep" K)) (.ref (gd "TooMany" K)) = some false
  ki_TooMany_TooMany : PySem.W.kitOne K (.ref (gd "TooMany" K)) (.ref (gd "TooMany" K)) = some true
  ki_Parts_TooMany : PySem.W.kitOne K (.ref (gd "Parts" K)) (.ref (gd "TooMany" K)) = some false
  ki_BadText_TooMany : PySem.W.kitOne K (.ref (gd "BadText" K)) (.ref (gd "TooMany" K)) = some false
  ki_NoName_TooMany : PySem.W.kitOne K (.ref (gd "NoName" K)) (.ref (gd "TooMany" K)) = some false
  ki_BadLine_TooMany : PySem.W.kitOne K (.ref (gd "BadLine" K)) (.ref (gd "TooMany" K)) = some false
  ki_HuntError_TooMany : PySem.W.kitOne K (.ref (gd "HuntError" K)) (.ref (gd "TooMany" K)) = some false
  ki_BadLength_Parts : PySem.W.kitOne K (.ref (gd "BadLength" K)) (.ref (gd "Parts" K)) = some false
  ki_BadPlace_Parts : PySem.W.kitOne K (.ref (gd "BadPlace" K)) (.ref (gd "Parts" K)) = some false
  ki_BadRest_Parts : PySem.W.kitOne K (.ref (gd "BadRest" K)) (.ref (gd "Parts" K)) = some false
  ki_BadRow_Parts : PySem.W.kitOne K (.ref (gd "BadRow" K)) (.ref (gd "Parts" K)) = some false
  ki_BadChange_Parts : PySem.W.kitOne K (.ref (gd "BadChange" K)) (.ref (gd "Parts" K)) = some false
  ki_BadSpan_Parts : PySem.W.kitOne K (.ref (gd "BadSpan" K)) (.ref (gd "Parts" K)) = some false
  ki_BadStep_Parts : PySem.W.kitOne K (.ref (gd "BadStep" K)) (.ref (gd "Parts" K)) = some false
  ki_BadNumber_Parts : PySem.W.kitOne K (.ref (gd "BadNumber" K)) (.ref (gd "Parts" K)) = some false
  ki_BadForm_Parts : PySem.W.kitOne K (.ref (gd "BadForm" K)) (.ref (gd "Parts" K)) = some false
  ki_BadSpot_Parts : PySem.W.kitOne K (.ref (gd "BadSpot" K)) (.ref (gd "Parts" K)) = some false
  ki_Overlap_Parts : PySem.W.kitOne K (.ref (gd "Overlap" K)) (.ref (gd "Parts" K)) = some false
  ki_NoStep_Parts : PySem.W.kitOne K (.ref (gd "NoStep" K)) (.ref (gd "Parts" K)) = some false
  ki_TooMany_Parts : PySem.W.kitOne K (.ref (gd "TooMany" K)) (.ref (gd "Parts" K)) = some false
  ki_Parts_Parts : PySem.W.kitOne K (.ref (gd "Parts" K)) (.ref (gd "Parts" K)) = some true
  ki_BadText_Parts : PySem.W.kitOne K (.ref (gd "BadText" K)) (.ref (gd "Parts" K)) = some false
  ki_NoName_Parts : PySem.W.kitOne K (.ref (gd "NoName" K)) (.ref (gd "Parts" K)) = some false
  ki_BadLine_Parts : PySem.W.kitOne K (.ref (gd "BadLine" K)) (.ref (gd "Parts" K)) = some false
  ki_HuntError_Parts : PySem.W.kitOne K (.ref (gd "HuntError" K)) (.ref (gd "Parts" K)) = some false
  ki_BadLength_BadText : PySem.W.kitOne K (.ref (gd "BadLength" K)) (.ref (gd "BadText" K)) = some false
  ki_BadPlace_BadText : PySem.W.kitOne K (.ref (gd "BadPlace" K)) (.ref (gd "BadText" K)) = some false
  ki_BadRest_BadText : PySem.W.kitOne K (.ref (gd "BadRest" K)) (.ref (gd "BadText" K)) = some false
  ki_BadRow_BadText : PySem.W.kitOne K (.ref (gd "BadRow" K)) (.ref (gd "BadText" K)) = some false
  ki_BadChange_BadText : PySem.W.kitOne K (.ref (gd "BadChange" K)) (.ref (gd "BadText" K)) = some false
  ki_BadSpan_BadText : PySem.W.kitOne K (.ref (gd "BadSpan" K)) (.ref (gd "BadText" K)) = some false
  ki_BadStep_BadText : PySem.W.kitOne K (.ref (gd "BadStep" K)) (.ref (gd "BadText" K)) = some false
  ki_BadNumber_BadText : PySem.W.kitOne K (.ref (gd "BadNumber" K)) (.ref (gd "BadText" K)) = some false
  ki_BadForm_BadText : PySem.W.kitOne K (.ref (gd "BadForm" K)) (.ref (gd "BadText" K)) = some false
  ki_BadSpot_BadText : PySem.W.kitOne K (.ref (gd "BadSpot" K)) (.ref (gd "BadText" K)) = some false
  ki_Overlap_BadText : PySem.W.kitOne K (.ref (gd "Overlap" K)) (.ref (gd "BadText" K)) = some false
  ki_NoStep_BadText : PySem.W.kitOne K (.ref (gd "NoStep" K)) (.ref (gd "BadText" K)) = some false
  ki_TooMany_BadText : PySem.W.kitOne K (.ref (gd "TooMany" K)) (.ref (gd "BadText" K)) = some false
  ki_Parts_BadText : PySem.W.kitOne K (.ref (gd "Parts" K)) (.ref (gd "BadText" K)) = some false
  ki_BadText_BadText : PySem.W.kitOne K (.ref (gd "BadText" K)) (.ref (gd "BadText" K)) = some true
  ki_NoName_BadText : PySem.W.kitOne K (.ref (gd "NoName" K)) (.ref (gd "BadText" K)) = some false
  ki_BadLine_BadText : PySem.W.kitOne K (.ref (gd "BadLine" K)) (.ref (gd "BadText" K)) = some false
  ki_HuntError_BadText : PySem.W.kitOne K (.ref (gd "HuntError" K)) (.ref (gd "BadText" K)) = some false
  ki_BadLength_NoName : PySem.W.kitOne K (.ref (gd "BadLength" K)) (.ref (gd "NoName" K)) = some false
  ki_BadPlace_NoName : PySem.W.kitOne K (.ref (gd "BadPlace" K)) (.ref (gd "NoName" K)) = some false
  ki_BadRest_NoName : PySem.W.kitOne K (.ref (gd "BadRest" K)) (.ref (gd "NoName" K)) = some false
  ki_BadRow_NoName : PySem.W.kitOne K (.ref (gd "BadRow" K)) (.ref (gd "NoName" K)) = some false
  ki_BadChange_NoName : PySem.W.kitOne K (.ref (gd "BadChange" K)) (.ref (gd "NoName" K)) = some false
  ki_BadSpan_NoName : PySem.W.kitOne K (.ref (gd "BadSpan" K)) (.ref (gd "NoName" K)) = some false
  ki_BadStep_NoName : PySem.W.kitOne K (.ref (gd "BadStep" K)) (.ref (gd "NoName" K)) = some false
  ki_BadNumber_NoName : PySem.W.kitOne K (.ref (gd "BadNumber" K)) (.ref (gd "NoName" K)) = some false
  ki_BadForm_NoName : PySem.W.kitOne K (.ref (gd "BadForm" K)) (.ref (gd "NoName" K)) = some false
  ki_BadSpot_NoName : PySem.W.kitOne K (.ref (gd "BadSpot" K)) (.ref (gd "NoName" K)) = some false
  ki_Overlap_NoName : PySem.W.kitOne K (.ref (gd "Overlap" K)) (.ref (gd "NoName" K)) = some false
  ki_NoStep_NoName : PySem.W.kitOne K (.ref (gd "NoStep" K)) (.ref (gd "NoName" K)) = some false
  ki_TooMany_NoName : PySem.W.kitOne K (.ref (gd "TooMany" K)) (.ref (gd "NoName" K)) = some false
  ki_Parts_NoName : PySem.W.kitOne K (.ref (gd "Parts" K)) (.ref (gd "NoName" K)) = some false
  ki_BadText_NoName : PySem.W.kitOne K (.ref (gd "BadText" K)) (.ref (gd "NoName" K)) = some false
  ki_NoName_NoName : PySem.W.kitOne K (.ref (gd "NoName" K)) (.ref (gd "NoName" K)) = some true
  ki_BadLine_NoName : PySem.W.kitOne K (.ref (gd "BadLine" K)) (.ref (gd "NoName" K)) = some false
  ki_HuntError_NoName : PySem.W.kitOne K (.ref (gd "HuntError" K)) (.ref (gd "NoName" K)) = some false
  ki_BadLength_BadLine : PySem.W.kitOne K (.ref (gd "BadLength" K)) (.ref (gd "BadLine" K)) = some false
  ki_BadPlace_BadLine : PySem.W.kitOne K (.ref (gd "BadPlace" K)) (.ref (gd "BadLine" K)) = some false
  ki_BadRest_BadLine : PySem.W.kitOne K (.ref (gd "BadRest" K)) (.ref (gd "BadLine" K)) = some false
  ki_BadRow_BadLine : PySem.W.kitOne K (.ref (gd "BadRow" K)) (.ref (gd "BadLine" K)) = some false
  ki_BadChange_BadLine : PySem.W.kitOne K (.ref (gd "BadChange" K)) (.ref (gd "BadLine" K)) = some false
  ki_BadSpan_BadLine : PySem.W.kitOne K (.ref (gd "BadSpan" K)) (.ref (gd "BadLine" K)) = some false
  ki_BadStep_BadLine : PySem.W.kitOne K (.ref (gd "BadStep" K)) (.ref (gd "BadLine" K)) = some false
  ki_BadNumber_BadLine : PySem.W.kitOne K (.ref (gd "BadNumber" K)) (.ref (gd "BadLine" K)) = some false
  ki_BadForm_BadLine : PySem.W.kitOne K (.ref (gd "BadForm" K)) (.ref (gd "BadLine" K)) = some false
  ki_BadSpot_BadLine : PySem.W.kitOne K (.ref (gd "BadSpot" K)) (.ref (gd "BadLine" K)) = some false
  ki_Overlap_BadLine : PySem.W.kitOne K (.ref (gd "Overlap" K)) (.ref (gd "BadLine" K)) = some false
  ki_NoStep_BadLine : PySem.W.kitOne K (.ref (gd "NoStep" K)) (.ref (gd "BadLine" K)) = some false
  ki_TooMany_BadLine : PySem.W.kitOne K (.ref (gd "TooMany" K)) (.ref (gd "BadLine" K)) = some false
  ki_Parts_BadLine : PySem.W.kitOne K (.ref (gd "Parts" K)) (.ref (gd "BadLine" K)) = some false
  ki_BadText_BadLine : PySem.W.kitOne K (.ref (gd "BadText" K)) (.ref (gd "BadLine" K)) = some false
  ki_NoName_BadLine : PySem.W.kitOne K (.ref (gd "NoName" K)) (.ref (gd "BadLine" K)) = some false
  ki_BadLine_BadLine : PySem.W.kitOne K (.ref (gd "BadLine" K)) (.ref (gd "BadLine" K)) = some true
  ki_HuntError_BadLine : PySem.W.kitOne K (.ref (gd "HuntError" K)) (.ref (gd "BadLine" K)) = some false
  ki_BadLength_HuntError : PySem.W.kitOne K (.ref (gd "BadLength" K)) (.ref (gd "HuntError" K)) = some true
  ki_BadPlace_HuntError : PySem.W.kitOne K (.ref (gd "BadPlace" K)) (.ref (gd "HuntError" K)) = some true
  ki_BadRest_HuntError : PySem.W.kitOne K (.ref (gd "BadRest" K)) (.ref (gd "HuntError" K)) = some true
  ki_BadRow_HuntError : PySem.W.kitOne K (.ref (gd "BadRow" K)) (.ref (gd "HuntError" K)) = some true
  ki_BadChange_HuntError : PySem.W.kitOne K (.ref (gd "BadChange" K)) (.ref (gd "HuntError" K)) = some true
  ki_BadSpan_HuntError : PySem.W.kitOne K (.ref (gd "BadSpan" K)) (.ref (gd "HuntError" K)) = some true
  ki_BadStep_HuntError : PySem.W.kitOne K (.ref (gd "BadStep" K)) (.ref (gd "HuntError" K)) = some true
  ki_BadNumber_HuntError : PySem.W.kitOne K (.ref (gd "BadNumber" K)) (.ref (gd "HuntError" K)) = some true
  ki_BadForm_HuntError : PySem.W.kitOne K (.ref (gd "BadForm" K)) (.ref (gd "HuntError" K)) = some true
  ki_BadSpot_HuntError : PySem.W.kitOne K (.ref (gd "BadSpot" K)) (.ref (gd "HuntError" K)) = some true
  ki_Overlap_HuntError : PySem.W.kitOne K (.ref (gd "Overlap" K)) (.ref (gd "HuntError" K)) = some true
  ki_NoStep_HuntError : PySem.W.kitOne K (.ref (gd "NoStep" K)) (.ref (gd "HuntError" K)) = some true
  ki_TooMany_HuntError : PySem.W.kitOne K (.ref (gd "TooMany" K)) (.ref (gd "HuntError" K)) = some true
  ki_Parts_HuntError : PySem.W.kitOne K (.ref (gd "Parts" K)) (.ref (gd "HuntError" K)) = some true
  ki_BadText_HuntError : PySem.W.kitOne K (.ref (gd "BadText" K)) (.ref (gd "HuntError" K)) = some true
  ki_NoName_HuntError : PySem.W.kitOne K (.ref (gd "NoName" K)) (.ref (gd "HuntError" K)) = some true
  ki_BadLine_HuntError : PySem.W.kitOne K (.ref (gd "BadLine" K)) (.ref (gd "HuntError" K)) = some true
  ki_HuntError_HuntError : PySem.W.kitOne K (.ref (gd "HuntError" K)) (.ref (gd "HuntError" K)) = some true
  ki_BadLength_ValueError : PySem.W.kitOne K (.ref (gd "BadLength" K)) (.type "ValueError") = some true
  ki_BadPlace_ValueError : PySem.W.kitOne K (.ref (gd "BadPlace" K)) (.type "ValueError") = some true
  ki_BadRest_ValueError : PySem.W.kitOne K (.ref (gd "BadRest" K)) (.type "ValueError") = some true
  ki_BadRow_ValueError : PySem.W.kitOne K (.ref (gd "BadRow" K)) (.type "ValueError") = some true
  ki_BadChange_ValueError : PySem.W.kitOne K (.ref (gd "BadChange" K)) (.type "ValueError") = some true
  ki_BadSpan_ValueError : PySem.W.kitOne K (.ref (gd "BadSpan" K)) (.type "ValueError") = some true
  ki_BadStep_ValueError : PySem.W.kitOne K (.ref (gd "BadStep" K)) (.type "ValueError") = some true
  ki_BadNumber_ValueError : PySem.W.kitOne K (.ref (gd "BadNumber" K)) (.type "ValueError") = some true
  ki_BadForm_ValueError : PySem.W.kitOne K (.ref (gd "BadForm" K)) (.type "ValueError") = some true
  ki_BadSpot_ValueError : PySem.W.kitOne K (.ref (gd "BadSpot" K)) (.type "ValueError") = some true
  ki_Overlap_ValueError : PySem.W.kitOne K (.ref (gd "Overlap" K)) (.type "ValueError") = some true
  ki_NoStep_ValueError : PySem.W.kitOne K (.ref (gd "NoStep" K)) (.type "ValueError") = some true
  ki_TooMany_ValueError : PySem.W.kitOne K (.ref (gd "TooMany" K)) (.type "ValueError") = some true
  ki_Parts_ValueError : PySem.W.kitOne K (.ref (gd "Parts" K)) (.type "ValueError") = some true
  ki_BadText_ValueError : PySem.W.kitOne K (.ref (gd "BadText" K)) (.type "ValueError") = some true
  ki_NoName_ValueError : PySem.W.kitOne K (.ref (gd "NoName" K)) (.type "ValueError") = some true
  ki_BadLine_ValueError : PySem.W.kitOne K (.ref (gd "BadLine" K)) (.type "ValueError") = some true
  ki_HuntError_ValueError : PySem.W.kitOne K (.ref (gd "HuntError" K)) (.type "ValueError") = some true
  e0_HuntError : PySem.W.findIn K (.ref (gd "HuntError" K)) "__init__" = some (some (.builtin "ValueError.__init__"))
theorem tx_of {K : PySem.W.Frag} {h : Heap} {mg : Str → Option Value} (X : K.In h) (G : h.Ns mainGlobals mg) (c : Says exs fns K) : Tx K mg :=
  ⟨(He.free_ok X G (c.fact 0 rfl)), (He.free_ok X G (c.fact 1 rfl)), (He.free_ok X G (c.fact 2 rfl)), (He.free_ok X G (c.fact 3 rfl)), (He.free_ok X G (c.fact 4 rfl)), (He.free_ok X G (c.fact 5 rfl)), (He.free_ok X G (c.fact 6 rfl)), (He.free_ok X G (c.fact 7 rfl)), (He.free_ok X G (c.fact 8 rfl)), (He.glo_ok X G (c.fact 9 rfl)), ((c.fact 10 rfl)), (He.glo_ok X G (c.fact 11 rfl)), ((c.fact 12 rfl)), (He.glo_ok X G (c.fact 13 rfl)), ((c.fact 14 rfl)), (He.glo_ok X G (c.fact 15 rfl)), ((c.fact 16 rfl)), (He.glo_ok X G (c.fact 17 rfl)), ((c.fact 18 rfl)), (He.glo_ok X G (c.fact 19 rfl)), ((c.fact 20 rfl)), (He.glo_ok X G (c.fact 21 rfl)), ((c.fact 22 rfl)), (He.glo_ok X G (c.fact 23 rfl)), ((c.fact 24 rfl)), (He.glo_ok X G (c.fact 25 rfl)), ((c.fact 26 rfl)), (He.glo_ok X G (c.fact 27 rfl)), ((c.fact 28 rfl)), (He.glo_ok X G (c.fact 29 rfl)), ((c.fact 30 rfl)), (He.glo_ok X G (c.fact 31 rfl)), ((c.fact 32 rfl)), (He.glo_ok X G (c.fact 33 rfl)), ((c.fact 34 rfl)), (He.glo_ok X G (c.fact 35 rfl)), ((c.fact 36 rfl)), (He.glo_ok X G (c.fact 37 rfl)), ((c.fact 38 rfl)), (He.glo_ok X G (c.fact 39 rfl)), ((c.fact 40 rfl)), (He.glo_ok X G (c.fact 41 rfl)), ((c.fact 42 rfl)), (He.glo_ok X G (c.fact 43 rfl)), ((c.fact 44 rfl)), (He.glo_ok X G (c.fact 45 rfl)), ((c.fact 46 rfl)), (He.glo_ok X G (c.fact 47 rfl)), ((c.fact 48 rfl)), (He.glo_ok X G (c.fact 49 rfl)), ((c.fact 50 rfl)), (He.glo_ok X G (c.fact 51 rfl)), ((c.fact 52 rfl)), (He.glo_ok X G (c.fact 53 rfl)), ((c.fact 54 rfl)), (He.glo_ok X G (c.fact 55 rfl)), ((c.fact 56 rfl)), (He.glo_ok X G (c.fact 57 rfl)), ((c.fact 58 rfl)), (He.glo_ok X G (c.fact 59 rfl)), ((c.fact 60 rfl)), (He.eqO_ok (c.fact 61 rfl)), (errB_ok (c.fact 62 rfl)), (oexB_ok (c.fact 63 rfl)), (iniB_ok (c.fact 64 rfl)), (of_decide_eq_true (c.fact 65 rfl)), (He.eqO_ok (c.fact 66 rfl)), (errB_ok (c.fact 67 rfl)), (oexB_ok (c.fact 68 rfl)), (iniB_ok (c.fact 69 rfl)), (of_decide_eq_true (c.fact 70 rfl)), (He.eqO_ok (c.fact 71 rfl)), (errB_ok (c.fact 72 rfl)), (oexB_ok (c.fact 73 rfl)), (iniB_ok (c.fact 74 rfl)), (of_decide_eq_true (c.fact 75 rfl)), (He.eqO_ok (c.fact 76 rfl)), (errB_ok (c.fact 77 rfl)), (oexB_ok (c.fact 78 rfl)), (iniB_ok (c.fact 79 rfl)), (of_decide_eq_true (c.fact 80 rfl)), (He.eqO_ok (c.fact 81 rfl)), (errB_ok (c.fact 82 rfl)), (oexB_ok (c.fact 83 rfl)), (iniB_ok (c.fact 84 rfl)), (of_decide_eq_true (c.fact 85 rfl)), (He.eqO_ok (c.fact 86 rfl)), (errB_ok (c.fact 87 rfl)), (oexB_ok (c.fact 88 rfl)), (iniB_ok (c.fact 89 rfl)), (of_decide_eq_true (c.fact 90 rfl)), (He.eqO_ok (c.fact 91 rfl)), (errB_ok (c.fact 92 rfl)), (oexB_ok (c.fact 93 rfl)), (iniB_ok (c.fact 94 rfl)), (of_decide_eq_true (c.fact 95 rfl)), (He.eqO_ok (c.fact 96 rfl)), (errB_ok (c.fact 97 rfl)), (oexB_ok (c.fact 98 rfl)), (iniB_ok (c.fact 99 rfl)), (of_decide_eq_true (c.fact 100 rfl)), (He.eqO_ok (c.fact 101 rfl)), (errB_ok (c.fact 102 rfl)), (oexB_ok (c.fact 103 rfl)), (iniB_ok (c.fact 104 rfl)), (of_decide_eq_true (c.fact 105 rfl)), (He.eqO_ok (c.fact 106 rfl)), (errB_ok (c.fact 107 rfl)), (oexB_ok (c.fact 108 rfl)), (iniB_ok (c.fact 109 rfl)), (of_decide_eq_true (c.fact 110 rfl)), (He.eqO_ok (c.fact 111 rfl)), (errB_ok (c.fact 112 rfl)), (oexB_ok (c.fact 113 rfl)), (iniB_ok (c.fact 114 rfl)), (of_decide_eq_true (c.fact 115 rfl)), (He.eqO_ok (c.fact 116 rfl)), (errB_ok (c.fact 117 rfl)), (oexB_ok (c.fact 118 rfl)), (iniB_ok (c.fact 119 rfl)), (of_decide_eq_true (c.fact 120 rfl)), (He.eqO_ok (c.fact 121 rfl)), (He.eqO_ok (c.fact 122 rfl)), (errB_ok (c.fact 123 rfl)), (oexB_ok (c.fact 124 rfl)), (iniB_ok (c.fact 125 rfl)), (of_decide_eq_true (c.fact 126 rfl)), (He.eqO_ok (c.fact 127 rfl)), (He.eqO_ok (c.fact 128 rfl)), (errB_ok (c.fact 129 rfl)), (oexB_ok (c.fact 130 rfl)), (iniB_ok (c.fact 131 rfl)), (of_decide_eq_true (c.fact 132 rfl)), (He.eqO_ok (c.fact 133 rfl)), (He.eqO_ok (c.fact 134 rfl)), (errB_ok (c.fact 135 rfl)), (oexB_ok (c.fact 136 rfl)), (iniB_ok (c.fact 137 rfl)), (of_decide_eq_true (c.fact 138 rfl)), (He.eqO_ok (c.fact 139 rfl)), (errB_ok (c.fact 140 rfl)), (oexB_ok (c.fact 141 rfl)), (iniB_ok (c.fact 142 rfl)), (of_decide_eq_true (c.fact 143 rfl)), (He.eqO_ok (c.fact 144 rfl)), (errB_ok (c.fact 145 rfl)), (oexB_ok (c.fact 146 rfl)), (iniB_ok (c.fact 147 rfl)), (of_decide_eq_true (c.fact 148 rfl)), (errB_ok (c.fact 149 rfl)), (oexB_ok (c.fact 150 rfl)), (of_decide_eq_true (c.fact 151 rfl)), ((c.fact 152 rfl)), (of_decide_eq_true (c.fact 153 rfl)), (of_decide_eq_true (c.fact 154 rfl)), (of_decide_eq_true (c.fact 155 rfl)), (of_decide_eq_true (c.fact 156 rfl)), (of_decide_eq_true (c.fact 157 rfl)), (of_decide_eq_true (c.fact 158 rfl)), (of_decide_eq_true (c.fact 159 rfl)), (of_decide_eq_true (c.fact 160 rfl)), (of_decide_eq_true (c.fact 161 rfl)), (of_decide_eq_true (c.fact 162 rfl)), (of_decide_eq_true (c.fact 163 rfl)), (of_decide_eq_true (c.fact 164 rfl)), (of_decide_eq_true (c.fact 165 rfl)), (of_decide_eq_true (c.fact 166 rfl)), (of_decide_eq_true (c.fact 167 rfl)), (of_decide_eq_true (c.fact 168 rfl)), (of_decide_eq_true (c.fact 169 rfl)), (of_decide_eq_true (c.fact 170 rfl)), (of_decide_eq_true (c.fact 171 rfl)), (of_decide_eq_true (c.fact 172 rfl)), (of_decide_eq_true (c.fact 173 rfl)), (of_decide_eq_true (c.fact 174 rfl)), (of_decide_eq_true (c.fact 175 rfl)), (of_decide_eq_true (c.fact 176 rfl)), (of_decide_eq_true (c.fact 177 rfl)), (of_decide_eq_true (c.fact 178 rfl)), (of_decide_eq_true (c.fact 179 rfl)), (of_decide_eq_true (c.fact 180 rfl)), (of_decide_eq_true (c.fact 181 rfl)), (of_decide_eq_true (c.fact 182 rfl)), (of_decide_eq_true (c.fact 183 rfl)), (of_decide_eq_true (c.fact 184 rfl)), (of_decide_eq_true (c.fact 185 rfl)), (of_decide_eq_true (c.fact 186 rfl)), (of_decide_eq_true (c.fact 187 rfl)), (of_decide_eq_true (c.fact 188 rfl)), (of_decide_eq_true (c.fact 189 rfl)), (of_decide_eq_true (c.fact 190 rfl)), (of_decide_eq_true (c.fact 191 rfl)), (of_decide_eq_true (c.fact 192 rfl)), (of_decide_eq_true (c.fact 193 rfl)), (of_decide_eq_true (c.fact 194 rfl)), (of_decide_eq_true (c.fact 195 rfl)), (of_decide_eq_true (c.fact 196 rfl)), (of_decide_eq_true (c.fact 197 rfl)), (of_decide_eq_true (c.fact 198 rfl)), (of_decide_eq_true (c.fact 199 rfl)), (of_decide_eq_true (c.fact 200 rfl)), (of_decide_eq_true (c.fact 201 rfl)), (of_decide_eq_true (c.fact 202 rfl)), (of_decide_eq_true (c.fact 203 rfl)), (of_decide_eq_true (c.fact 204 rfl)), (of_decide_eq_true (c.fact 205 rfl)), (of_decide_eq_true (c.fact 206 rfl)), (of_decide_eq_true (c.fact 207 rfl)), (of_decide_eq_true (c.fact 208 rfl)), (of_decide_eq_true (c.fact 209 rfl)), (of_decide_eq_true (c.fact 210 rfl)), (of_decide_eq_true (c.fact 211 rfl)), (of_decide_eq_true (c.fact 212 rfl)), (of_decide_eq_true (c.fact 213 rfl)), (of_decide_eq_true (c.fact 214 rfl)), (of_decide_eq_true (c.fact 215 rfl)), (of_decide_eq_true (c.fact 216 rfl)), (of_decide_eq_true (c.fact 217 rfl)), (of_decide_eq_true (c.fact 218 rfl)), (of_decide_eq_true (c.fact 219 rfl)), (of_decide_eq_true (c.fact 220 rfl)), (of_decide_eq_true (c.fact 221 rfl)), (of_decide_eq_true (c.fact 222 rfl)), (of_decide_eq_true (c.fact 223 rfl)), (of_decide_eq_true (c.fact 224 rfl)), (of_decide_eq_true (c.fact 225 rfl)), (of_decide_eq_true (c.fact 226 rfl)), (of_decide_eq_true (c.fact 227 rfl)), (of_decide_eq_true (c.fact 228 rfl)), (of_decide_eq_true (c.fact 229 rfl)), (of_decide_eq_true (c.fact 230 rfl)), (of_decide_eq_true (c.fact 231 rfl)), (of_decide_eq_true (c.fact 232 rfl)), (of_decide_eq_true (c.fact 233 rfl)), (of_decide_eq_true (c.fact 234 rfl)), (of_decide_eq_true (c.fact 235 rfl)), (of_decide_eq_true (c.fact 236 rfl)), (of_decide_eq_true (c.fact 237 rfl)), (of_decide_eq_true (c.fact 238 rfl)), (of_decide_eq_true (c.fact 239 rfl)), (of_decide_eq_true (c.fact 240 rfl)), (of_decide_eq_true (c.fact 241 rfl)), (of_decide_eq_true (c.fact 242 rfl)), (of_decide_eq_true (c.fact 243 rfl)), (of_decide_eq_true (c.fact 244 rfl)), (of_decide_eq_true (c.fact 245 rfl)), (of_decide_eq_true (c.fact 246 rfl)), (of_decide_eq_true (c.fact 247 rfl)), (of_decide_eq_true (c.fact 248 rfl)), (of_decide_eq_true (c.fact 249 rfl)), (of_decide_eq_true (c.fact 250 rfl)), (of_decide_eq_true (c.fact 251 rfl)), (of_decide_eq_true (c.fact 252 rfl)), (of_decide_eq_true (c.fact 253 rfl)), (of_decide_eq_true (c.fact 254 rfl)), (of_decide_eq_true (c.fact 255 rfl)), (of_decide_eq_true (c.fact 256 rfl)), (of_decide_eq_true (c.fact 257 rfl)), (of_decide_eq_true (c.fact 258 rfl)), (of_decide_eq_true (c.fact 259 rfl)), (of_decide_eq_true (c.fact 260 rfl)), (of_decide_eq_true (c.fact 261 rfl)), (of_decide_eq_true (c.fact 262 rfl)), (of_decide_eq_true (c.fact 263 rfl)), (of_decide_eq_true (c.fact 264 rfl)), (of_decide_eq_true (c.fact 265 rfl)), (of_decide_eq_true (c.fact 266 rfl)), (of_decide_eq_true (c.fact 267 rfl)), (of_decide_eq_true (c.fact 268 rfl)), (of_decide_eq_true (c.fact 269 rfl)), (of_decide_eq_true (c.fact 270 rfl)), (of_decide_eq_true (c.fact 271 rfl)), (of_decide_eq_true (c.fact 272 rfl)), (of_decide_eq_true (c.fact 273 rfl)), (of_decide_eq_true (c.fact 274 rfl)), (of_decide_eq_true (c.fact 275 rfl)), (of_decide_eq_true (c.fact 276 rfl)), (of_decide_eq_true (c.fact 277 rfl)), (of_decide_eq_true (c.fact 278 rfl)), (of_decide_eq_true (c.fact 279 rfl)), (of_decide_eq_true (c.fact 280 rfl)), (of_decide_eq_true (c.fact 281 rfl)), (of_decide_eq_true (c.fact 282 rfl)), (of_decide_eq_true (c.fact 283 rfl)), (of_decide_eq_true (c.fact 284 rfl)), (of_decide_eq_true (c.fact 285 rfl)), (of_decide_eq_true (c.fact 286 rfl)), (of_decide_eq_true (c.fact 287 rfl)), (of_decide_eq_true (c.fact 288 rfl)), (of_decide_eq_true (c.fact 289 rfl)), (of_decide_eq_true (c.fact 290 rfl)), (of_decide_eq_true (c.fact 291 rfl)), (of_decide_eq_true (c.fact 292 rfl)), (of_decide_eq_true (c.fact 293 rfl)), (of_decide_eq_true (c.fact 294 rfl)), (of_decide_eq_true (c.fact 295 rfl)), (of_decide_eq_true (c.fact 296 rfl)), (of_decide_eq_true (c.fact 297 rfl)), (of_decide_eq_true (c.fact 298 rfl)), (of_decide_eq_true (c.fact 299 rfl)), (of_decide_eq_true (c.fact 300 rfl)), (of_decide_eq_true (c.fact 301 rfl)), (of_decide_eq_true (c.fact 302 rfl)), (of_decide_eq_true (c.fact 303 rfl)), (of_decide_eq_true (c.fact 304 rfl)), (of_decide_eq_true (c.fact 305 rfl)), (of_decide_eq_true (c.fact 306 rfl)), (of_decide_eq_true (c.fact 307 rfl)), (of_decide_eq_true (c.fact 308 rfl)), (of_decide_eq_true (c.fact 309 rfl)), (of_decide_eq_true (c.fact 310 rfl)), (of_decide_eq_true (c.fact 311 rfl)), (of_decide_eq_true (c.fact 312 rfl)), (of_decide_eq_true (c.fact 313 rfl)), (of_decide_eq_true (c.fact 314 rfl)), (of_decide_eq_true (c.fact 315 rfl)), (of_decide_eq_true (c.fact 316 rfl)), (of_decide_eq_true (c.fact 317 rfl)), (of_decide_eq_true (c.fact 318 rfl)), (of_decide_eq_true (c.fact 319 rfl)), (of_decide_eq_true (c.fact 320 rfl)), (of_decide_eq_true (c.fact 321 rfl)), (of_decide_eq_true (c.fact 322 rfl)), (of_decide_eq_true (c.fact 323 rfl)), (of_decide_eq_true (c.fact 324 rfl)), (of_decide_eq_true (c.fact 325 rfl)), (of_decide_eq_true (c.fact 326 rfl)), (of_decide_eq_true (c.fact 327 rfl)), (of_decide_eq_true (c.fact 328 rfl)), (of_decide_eq_true (c.fact 329 rfl)), (of_decide_eq_true (c.fact 330 rfl)), (of_decide_eq_true (c.fact 331 rfl)), (of_decide_eq_true (c.fact 332 rfl)), (of_decide_eq_true (c.fact 333 rfl)), (of_decide_eq_true (c.fact 334 rfl)), (of_decide_eq_true (c.fact 335 rfl)), (of_decide_eq_true (c.fact 336 rfl)), (of_decide_eq_true (c.fact 337 rfl)), (of_decide_eq_true (c.fact 338 rfl)), (of_decide_eq_true (c.fact 339 rfl)), (of_decide_eq_true (c.fact 340 rfl)), (of_decide_eq_true (c.fact 341 rfl)), (of_decide_eq_true (c.fact 342 rfl)), (of_decide_eq_true (c.fact 343 rfl)), (of_decide_eq_true (c.fact 344 rfl)), (of_decide_eq_true (c.fact 345 rfl)), (of_decide_eq_true (c.fact 346 rfl)), (of_decide_eq_true (c.fact 347 rfl)), (of_decide_eq_true (c.fact 348 rfl)), (of_decide_eq_true (c.fact 349 rfl)), (of_decide_eq_true (c.fact 350 rfl)), (of_decide_eq_true (c.fact 351 rfl)), (of_decide_eq_true (c.fact 352 rfl)), (of_decide_eq_true (c.fact 353 rfl)), (of_decide_eq_true (c.fact 354 rfl)), (of_decide_eq_true (c.fact 355 rfl)), (of_decide_eq_true (c.fact 356 rfl)), (of_decide_eq_true (c.fact 357 rfl)), (of_decide_eq_true (c.fact 358 rfl)), (of_decide_eq_true (c.fact 359 rfl)), (of_decide_eq_true (c.fact 360 rfl)), (of_decide_eq_true (c.fact 361 rfl)), (of_decide_eq_true (c.fact 362 rfl)), (of_decide_eq_true (c.fact 363 rfl)), (of_decide_eq_true (c.fact 364 rfl)), (of_decide_eq_true (c.fact 365 rfl)), (of_decide_eq_true (c.fact 366 rfl)), (of_decide_eq_true (c.fact 367 rfl)), (of_decide_eq_true (c.fact 368 rfl)), (of_decide_eq_true (c.fact 369 rfl)), (of_decide_eq_true (c.fact 370 rfl)), (of_decide_eq_true (c.fact 371 rfl)), (of_decide_eq_true (c.fact 372 rfl)), (of_decide_eq_true (c.fact 373 rfl)), (of_decide_eq_true (c.fact 374 rfl)), (of_decide_eq_true (c.fact 375 rfl)), (of_decide_eq_true (c.fact 376 rfl)), (of_decide_eq_true (c.fact 377 rfl)), (of_decide_eq_true (c.fact 378 rfl)), (of_decide_eq_true (c.fact 379 rfl)), (of_decide_eq_true (c.fact 380 rfl)), (of_decide_eq_true (c.fact 381 rfl)), (of_decide_eq_true (c.fact 382 rfl)), (of_decide_eq_true (c.fact 383 rfl)), (of_decide_eq_true (c.fact 384 rfl)), (of_decide_eq_true (c.fact 385 rfl)), (of_decide_eq_true (c.fact 386 rfl)), (of_decide_eq_true (c.fact 387 rfl)), (of_decide_eq_true (c.fact 388 rfl)), (of_decide_eq_true (c.fact 389 rfl)), (of_decide_eq_true (c.fact 390 rfl)), (of_decide_eq_true (c.fact 391 rfl)), (of_decide_eq_true (c.fact 392 rfl)), (of_decide_eq_true (c.fact 393 rfl)), (of_decide_eq_true (c.fact 394 rfl)), (of_decide_eq_true (c.fact 395 rfl)), (of_decide_eq_true (c.fact 396 rfl)), (of_decide_eq_true (c.fact 397 rfl)), (of_decide_eq_true (c.fact 398 rfl)), (of_decide_eq_true (c.fact 399 rfl)), (of_decide_eq_true (c.fact 400 rfl)), (of_decide_eq_true (c.fact 401 rfl)), (of_decide_eq_true (c.fact 402 rfl)), (of_decide_eq_true (c.fact 403 rfl)), (of_decide_eq_true (c.fact 404 rfl)), (of_decide_eq_true (c.fact 405 rfl)), (of_decide_eq_true (c.fact 406 rfl)), (of_decide_eq_true (c.fact 407 rfl)), (of_decide_eq_true (c.fact 408 rfl)), (of_decide_eq_true (c.fact 409 rfl)), (of_decide_eq_true (c.fact 410 rfl)), (of_decide_eq_true (c.fact 411 rfl)), (of_decide_eq_true (c.fact 412 rfl)), (of_decide_eq_true (c.fact 413 rfl)), (of_decide_eq_true (c.fact 414 rfl)), (of_decide_eq_true (c.fact 415 rfl)), (of_decide_eq_true (c.fact 416 rfl)), (of_decide_eq_true (c.fact 417 rfl)), (of_decide_eq_true (c.fact 418 rfl)), (of_decide_eq_true (c.fact 419 rfl)), (of_decide_eq_true (c.fact 420 rfl)), (of_decide_eq_true (c.fact 421 rfl)), (of_decide_eq_true (c.fact 422 rfl)), (of_decide_eq_true (c.fact 423 rfl)), (of_decide_eq_true (c.fact 424 rfl)), (of_decide_eq_true (c.fact 425 rfl)), (of_decide_eq_true (c.fact 426 rfl)), (of_decide_eq_true (c.fact 427 rfl)), (of_decide_eq_true (c.fact 428 rfl)), (of_decide_eq_true (c.fact 429 rfl)), (of_decide_eq_true (c.fact 430 rfl)), (of_decide_eq_true (c.fact 431 rfl)), (of_decide_eq_true (c.fact 432 rfl)), (of_decide_eq_true (c.fact 433 rfl)), (of_decide_eq_true (c.fact 434 rfl)), (of_decide_eq_true (c.fact 435 rfl)), (of_decide_eq_true (c.fact 436 rfl)), (of_decide_eq_true (c.fact 437 rfl)), (of_decide_eq_true (c.fact 438 rfl)), (of_decide_eq_true (c.fact 439 rfl)), (of_decide_eq_true (c.fact 440 rfl)), (of_decide_eq_true (c.fact 441 rfl)), (of_decide_eq_true (c.fact 442 rfl)), (of_decide_eq_true (c.fact 443 rfl)), (of_decide_eq_true (c.fact 444 rfl)), (of_decide_eq_true (c.fact 445 rfl)), (of_decide_eq_true (c.fact 446 rfl)), (of_decide_eq_true (c.fact 447 rfl)), (of_decide_eq_true (c.fact 448 rfl)), (of_decide_eq_true (c.fact 449 rfl)), (of_decide_eq_true (c.fact 450 rfl)), (of_decide_eq_true (c.fact 451 rfl)), (of_decide_eq_true (c.fact 452 rfl)), (of_decide_eq_true (c.fact 453 rfl)), (of_decide_eq_true (c.fact 454 rfl)), (of_decide_eq_true (c.fact 455 rfl)), (of_decide_eq_true (c.fact 456 rfl)), (of_decide_eq_true (c.fact 457 rfl)), (of_decide_eq_true (c.fact 458 rfl)), (of_decide_eq_true (c.fact 459 rfl)), (of_decide_eq_true (c.fact 460 rfl)), (of_decide_eq_true (c.fact 461 rfl)), (of_decide_eq_true (c.fact 462 rfl)), (of_decide_eq_true (c.fact 463 rfl)), (of_decide_eq_true (c.fact 464 rfl)), (of_decide_eq_true (c.fact 465 rfl)), (of_decide_eq_true (c.fact 466 rfl)), (of_decide_eq_true (c.fact 467 rfl)), (of_decide_eq_true (c.fact 468 rfl)), (of_decide_eq_true (c.fact 469 rfl)), (of_decide_eq_true (c.fact 470 rfl)), (of_decide_eq_true (c.fact 471 rfl)), (of_decide_eq_true (c.fact 472 rfl)), (of_decide_eq_true (c.fact 473 rfl)), (of_decide_eq_true (c.fact 474 rfl)), (of_decide_eq_true (c.fact 475 rfl)), (of_decide_eq_true (c.fact 476 rfl)), (of_decide_eq_true (c.fact 477 rfl)), (of_decide_eq_true (c.fact 478 rfl)), (of_decide_eq_true (c.fact 479 rfl)), (of_decide_eq_true (c.fact 480 rfl)), (of_decide_eq_true (c.fact 481 rfl)), (of_decide_eq_true (c.fact 482 rfl)), (of_decide_eq_true (c.fact 483 rfl)), (of_decide_eq_true (c.fact 484 rfl)), (of_decide_eq_true (c.fact 485 rfl)), (of_decide_eq_true (c.fact 486 rfl)), (of_decide_eq_true (c.fact 487 rfl)), (of_decide_eq_true (c.fact 488 rfl)), (of_decide_eq_true (c.fact 489 rfl)), (of_decide_eq_true (c.fact 490 rfl)), (of_decide_eq_true (c.fact 491 rfl)), (of_decide_eq_true (c.fact 492 rfl)), (of_decide_eq_true (c.fact 493 rfl)), (of_decide_eq_true (c.fact 494 rfl)), (of_decide_eq_true (c.fact 495 rfl))⟩
section
variable {K : PySem.W.Frag} {mg : Str → Option Value} {Tb : List (Addr × Str)} {p c : Addr}
theorem xt_at (T : Tx K mg) : ∀ c ∈ (["BadRow", "BadStep"] : List Str), ErrT K (gd c K) ∧ PySem.W.findIn K (.ref (gd c K)) "at" = some none := by
  intro c h
  simp only [List.mem_cons, List.mem_nil_iff, or_false] at h
  rcases h with rfl | rfl
  · exact ⟨T.er_BadRow, T.n_BadRow_at⟩
  · exact ⟨T.er_BadStep, T.n_BadStep_at⟩
theorem xt_index (T : Tx K mg) : ∀ c ∈ (["NoStep"] : List Str), ErrT K (gd c K) ∧ PySem.W.findIn K (.ref (gd c K)) "index" = some none := by
  intro c h
  simp only [List.mem_cons, List.mem_nil_iff, or_false] at h
  rcases h with rfl
  · exact ⟨T.er_NoStep, T.n_NoStep_index⟩
theorem xt_length (T : Tx K mg) : ∀ c ∈ (["Overlap", "Parts"] : List Str), ErrT K (gd c K) ∧ PySem.W.findIn K (.ref (gd c K)) "length" = some none := by
  intro c h
  simp only [List.mem_cons, List.mem_nil_iff, or_false] at h
  rcases h with rfl | rfl
  · exact ⟨T.er_Overlap, T.n_Overlap_length⟩
  · exact ⟨T.er_Parts, T.n_Parts_length⟩
theorem xt_line (T : Tx K mg) : ∀ c ∈ (["BadText"] : List Str), ErrT K (gd c K) ∧ PySem.W.findIn K (.ref (gd c K)) "line" = some none := by
  intro c h
  simp only [List.mem_cons, List.mem_nil_iff, or_false] at h
  rcases h with rfl
  · exact ⟨T.er_BadText, T.n_BadText_line⟩
theorem xt_most (T : Tx K mg) : ∀ c ∈ (["TooMany"] : List Str), ErrT K (gd c K) ∧ PySem.W.findIn K (.ref (gd c K)) "most" = some none := by
  intro c h
  simp only [List.mem_cons, List.mem_nil_iff, or_false] at h
  rcases h with rfl
  · exact ⟨T.er_TooMany, T.n_TooMany_most⟩
theorem xt_name (T : Tx K mg) : ∀ c ∈ (["NoName"] : List Str), ErrT K (gd c K) ∧ PySem.W.findIn K (.ref (gd c K)) "name" = some none := by
  intro c h
  simp only [List.mem_cons, List.mem_nil_iff, or_false] at h
  rcases h with rfl
  · exact ⟨T.er_NoName, T.n_NoName_name⟩
theorem xt_part (T : Tx K mg) : ∀ c ∈ (["BadChange", "BadSpan", "BadForm", "BadSpot"] : List Str), ErrT K (gd c K) ∧ PySem.W.findIn K (.ref (gd c K)) "part" = some none := by
  intro c h
  simp only [List.mem_cons, List.mem_nil_iff, or_false] at h
  rcases h with rfl | rfl | rfl | rfl
  · exact ⟨T.er_BadChange, T.n_BadChange_part⟩
  · exact ⟨T.er_BadSpan, T.n_BadSpan_part⟩
  · exact ⟨T.er_BadForm, T.n_BadForm_part⟩
  · exact ⟨T.er_BadSpot, T.n_BadSpot_part⟩
theorem xt_place (T : Tx K mg) : ∀ c ∈ (["Parts"] : List Str), ErrT K (gd c K) ∧ PySem.W.findIn K (.ref (gd c K)) "place" = some none := by
  intro c h
  simp only [List.mem_cons, List.mem_nil_iff, or_false] at h
  rcases h with rfl
  · exact ⟨T.er_Parts, T.n_Parts_place⟩
theorem xt_value (T : Tx K mg) : ∀ c ∈ (["BadLength", "BadPlace", "BadRest", "BadNumber"] : List Str), ErrT K (gd c K) ∧ PySem.W.findIn K (.ref (gd c K)) "value" = some none := by
  intro c h
  simp only [List.mem_cons, List.mem_nil_iff, or_false] at h
  rcases h with rfl | rfl | rfl | rfl
  · exact ⟨T.er_BadLength, T.n_BadLength_value⟩
  · exact ⟨T.er_BadPlace, T.n_BadPlace_value⟩
  · exact ⟨T.er_BadRest, T.n_BadRest_value⟩
  · exact ⟨T.er_BadNumber, T.n_BadNumber_value⟩
theorem xt_what (T : Tx K mg) : ∀ c ∈ (["TooMany"] : List Str), ErrT K (gd c K) ∧ PySem.W.findIn K (.ref (gd c K)) "what" = some none := by
  intro c h
  simp only [List.mem_cons, List.mem_nil_iff, or_false] at h
  rcases h with rfl
  · exact ⟨T.er_TooMany, T.n_TooMany_what⟩
theorem xt_word (T : Tx K mg) : ∀ c ∈ (["BadText", "BadLine"] : List Str), ErrT K (gd c K) ∧ PySem.W.findIn K (.ref (gd c K)) "word" = some none := by
  intro c h
  simp only [List.mem_cons, List.mem_nil_iff, or_false] at h
  rcases h with rfl | rfl
  · exact ⟨T.er_BadText, T.n_BadText_word⟩
  · exact ⟨T.er_BadLine, T.n_BadLine_word⟩
def isi_BadLength : D → Option Bool := isF (fun _ => none) [] [("BadLength", true), ("BadPlace", false), ("BadRest", false), ("BadRow", false), ("BadChange", false), ("BadSpan", false), ("BadStep", false), ("BadNumber", false), ("BadForm", false), ("BadSpot", false), ("Overlap", false), ("NoStep", false), ("TooMany", false), ("Parts", false), ("BadText", false), ("NoName", false), ("BadLine", false), ("HuntError", false)]
theorem isT_BadLength (T : Tx K mg) : IsT ⟨K, Tb, p, c⟩ (.ref (gd "BadLength" K)) isi_BadLength := isT_of (fun n k h => nomatch h) (fun c k h => nomatch h) (fun c k h => (look_cons h).elim (fun e => by obtain ⟨rfl, rfl⟩ := e; exact ⟨T.er_BadLength, T.ki_BadLength_BadLength⟩) (fun h => (look_cons h).elim (fun e => by obtain ⟨rfl, rfl⟩ := e; exact ⟨T.er_BadPlace, T.ki_BadPlace_BadLength⟩) (fun h => (look_cons h).elim (fun e => by obtain ⟨rfl, rfl⟩ := e; exact ⟨T.er_BadRest, T.ki_BadRest_BadLength⟩) (fun h => (look_cons h).elim (fun e => by obtain ⟨rfl, rfl⟩ := e; exact ⟨T.er_BadRow, T.ki_BadRow_BadLength⟩) (fun h => (look_cons h).elim (fun e => by obtain ⟨rfl, rfl⟩ := e; exact ⟨T.er_BadChange, T.ki_BadChange_BadLength⟩) (fun h => (look_cons h).elim (fun e => by obtain ⟨rfl, rfl⟩ := e; exact ⟨T.er_BadSpan, T.ki_BadSpan_BadLength⟩) (fun h => (look_cons h).elim (fun e => by obtain ⟨rfl, rfl⟩ := e; exact ⟨T.er_BadStep, T.ki_BadStep_BadLength⟩) (fun h => (look_cons h).elim (fun e => by obtain ⟨rfl, rfl⟩ := e; exact ⟨T.er_BadNumber, T.ki_BadNumber_BadLength⟩) (fun h => (look_cons h).elim (fun e => by obtain ⟨rfl, rfl⟩ := e; exact ⟨T.er_BadForm, T.ki_BadForm_BadLength⟩) (fun h => (look_cons h).elim (fun e => by obtain ⟨rfl, rfl⟩ := e; exact ⟨T.er_BadSpot, T.ki_BadSpot_BadLength⟩) (fun h => (look_cons h).elim (fun e => by obtain ⟨rfl, rfl⟩ := e; exact ⟨T.er_Overlap, T.ki_Overlap_BadLength⟩) (fun h => (look_cons h).elim (fun e => by obtain ⟨rfl, rfl⟩ := e; exact ⟨T.er_NoStep, T.ki_NoStep_BadLength⟩) (fun h => (look_cons h).elim (fun e => by obtain ⟨rfl, rfl⟩ := e; exact ⟨T.er_TooMany, T.ki_TooMany_BadLength⟩) (fun h => (look_cons h).elim (fun e => by obtain ⟨rfl, rfl⟩ := e; exact ⟨T.er_Parts, T.ki_Parts_BadLength⟩) (fun h => (look_cons h).elim (fun e => by obtain ⟨rfl, rfl⟩ := e; exact ⟨T.er_BadText, T.ki_BadText_BadLength⟩) (fun h => (look_cons h).elim (fun e => by obtain ⟨rfl, rfl⟩ := e; exact ⟨T.er_NoName, T.ki_NoName_BadLength⟩) (fun h => (look_cons h).elim (fun e => by obtain ⟨rfl, rfl⟩ := e; exact ⟨T.er_BadLine, T.ki_BadLine_BadLength⟩) (fun h => (look_cons h).elim (fun e => by obtain ⟨rfl, rfl⟩ := e; exact ⟨T.er_HuntError, T.ki_HuntError_BadLength⟩) (fun h => nomatch h)))))))))))))))))))
def isi_BadPlace : D → Option Bool := isF (fun _ => none) [] [("BadLength", false), ("BadPlace", true), ("BadRest", false), ("BadRow", false), ("BadChange", false), ("BadSpan", false), ("BadStep", false), ("BadNumber", false), ("BadForm", false), ("BadSpot", false), ("Overlap", false), ("NoStep", false), ("TooMany", false), ("Parts", false), ("BadText", false), ("NoName", false), ("BadLine", false), ("HuntError", false)]
theorem isT_BadPlace (T : Tx K mg) : IsT ⟨K, Tb, p, c⟩ (.ref (gd "BadPlace" K)) isi_BadPlace := isT_of (fun n k h => nomatch h) (fun c k h => nomatch h) (fun c k h => (look_cons h).elim (fun e => by obtain ⟨rfl, rfl⟩ := e; exact ⟨T.er_BadLength, T.ki_BadLength_BadPlace⟩) (fun h => (look_cons h).elim (fun e => by obtain ⟨rfl, rfl⟩ := e; exact ⟨T.er_BadPlace, T.ki_BadPlace_BadPlace⟩) (fun h => (look_cons h).elim (fun e => by obtain ⟨rfl, rfl⟩ := e; exact ⟨T.er_BadRest, T.ki_BadRest_BadPlace⟩) (fun h => (look_cons h).elim (fun e => by obtain ⟨rfl, rfl⟩ := e; exact ⟨T.er_BadRow, T.ki_BadRow_BadPlace⟩) (fun h => (look_cons h).elim (fun e => by obtain ⟨rfl, rfl⟩ := e; exact ⟨T.er_BadChange, T.ki_BadChange_BadPlace⟩) (fun h => (look_cons h).elim (fun e => by obtain ⟨rfl, rfl⟩ := e; exact ⟨T.er_BadSpan, T.ki_BadSpan_BadPlace⟩) (fun h => (look_cons h).elim (fun e => by obtain ⟨rfl, rfl⟩ := e; exact ⟨T.er_BadStep, T.ki_BadStep_BadPlace⟩) (fun h => (look_cons h).elim (fun e => by obtain ⟨rfl, rfl⟩ := e; exact ⟨T.er_BadNumber, T.ki_BadNumber_BadPlace⟩) (fun h => (look_cons h).elim (fun e => by obtain ⟨rfl, rfl⟩ := e; exact ⟨T.er_BadForm, T.ki_BadForm_BadPlace⟩) (fun h => (look_cons h).elim (fun e => by obtain ⟨rfl, rfl⟩ := e; exact ⟨T.er_BadSpot, T.ki_BadSpot_BadPlace⟩) (fun h => (look_cons h).elim (fun e => by obtain ⟨rfl, rfl⟩ := e; exact ⟨T.er_Overlap, T.ki_Overlap_BadPlace⟩) (fun h => (look_cons h).elim (fun e => by obtain ⟨rfl, rfl⟩ := e; exact ⟨T.er_NoStep, T.ki_NoStep_BadPlace⟩) (fun h => (look_cons h).elim (fun e => by obtain ⟨rfl, rfl⟩ := e; exact ⟨T.er_TooMany, T.ki_TooMany_BadPlace⟩) (fun h => (look_cons h).elim (fun e => by obtain ⟨rfl, rfl⟩ := e; exact ⟨T.er_Parts, T.ki_Parts_BadPlace⟩) (fun h => (look_cons h).elim (fun e => by obtain ⟨rfl, rfl⟩ := e; exact ⟨T.er_BadText, T.ki_BadText_BadPlace⟩) (fun h => (look_cons h).elim (fun e => by obtain ⟨rfl, rfl⟩ := e; exact ⟨T.er_NoName, T.ki_NoName_BadPlace⟩) (fun h => (look_cons h).elim (fun e => by obtain ⟨rfl, rfl⟩ := e; exact ⟨T.er_BadLine, T.ki_BadLine_BadPlace⟩) (fun h => (look_cons h).elim (fun e => by obtain ⟨rfl, rfl⟩ := e; exact ⟨T.er_HuntError, T.ki_HuntError_BadPlace⟩) (fun h => nomatch h)))))))))))))))))))
def isi_BadRest : D → Option Bool := isF (fun _ => none) [] [("BadLength", false), ("BadPlace", false), ("BadRest", true), ("BadRow", false), ("BadChange", false), ("BadSpan", false), ("BadStep", false), ("BadNumber", false), ("BadForm", false), ("BadSpot", false), ("Overlap", false), ("NoStep", false), ("TooMany", false), ("Parts", false), ("BadText", false), ("NoName", false), ("BadLine", false), ("HuntError", false)]
theorem isT_BadRest (T : Tx K mg) : IsT ⟨K, Tb, p, c⟩ (.ref (gd "BadRest" K)) isi_BadRest := isT_of (fun n k h => nomatch h) (fun c k h => nomatch h) (fun c k h => (look_cons h).elim (fun e => by obtain ⟨rfl, rfl⟩ := e; exact ⟨T.er_BadLength, T.ki_BadLength_BadRest⟩) (fun h => (look_cons h).elim (fun e => by obtain ⟨rfl, rfl⟩ := e; exact ⟨T.er_BadPlace, T.ki_BadPlace_BadRest⟩) (fun h => (look_cons h).elim (fun e => by obtain ⟨rfl, rfl⟩ := e; exact ⟨T.er_BadRest, T.ki_BadRest_BadRest⟩) (fun h => (look_cons h).elim (fun e => by obtain ⟨rfl, rfl⟩ := e; exact ⟨T.er_BadRow, T.ki_BadRow_BadRest⟩) (fun h => (look_cons h).elim (fun e => by obtain ⟨rfl, rfl⟩ := e; exact ⟨T.er_BadChange, T.ki_BadChange_BadRest⟩) (fun h => (look_cons h).elim (fun e => by obtain ⟨rfl, rfl⟩ := e; exact ⟨T.er_BadSpan, T.ki_BadSpan_BadRest⟩) (fun h => (look_cons h).elim (fun e => by obtain ⟨rfl, rfl⟩ := e; exact ⟨T.er_BadStep, T.ki_BadStep_BadRest⟩) (fun h => (look_cons h).elim (fun e => by obtain ⟨rfl, rfl⟩ := e; exact ⟨T.er_BadNumber, T.ki_BadNumber_BadRest⟩) (fun h => (look_cons h).elim (fun e => by obtain ⟨rfl, rfl⟩ := e; exact ⟨T.er_BadForm, T.ki_BadForm_BadRest⟩) (fun h => (look_cons h).elim (fun e => by obtain ⟨rfl, rfl⟩ := e; exact ⟨T.er_BadSpot, T.ki_BadSpot_BadRest⟩) (fun h => (look_cons h).elim (fun e => by obtain ⟨rfl, rfl⟩ := e; exact ⟨T.er_Overlap, T.ki_Overlap_BadRest⟩) (fun h => (look_cons h).elim (fun e => by obtain ⟨rfl, rfl⟩ := e; exact ⟨T.er_NoStep, T.ki_NoStep_BadRest⟩) (fun h => (look_cons h).elim (fun e => by obtain ⟨rfl, rfl⟩ := e; exact ⟨T.er_TooMany, T.ki_TooMany_BadRest⟩) (fun h => (look_cons h).elim (fun e => by obtain ⟨rfl, rfl⟩ := e; exact ⟨T.er_Parts, T.ki_Parts_BadRest⟩) (fun h => (look_cons h).elim (fun e => by obtain ⟨rfl, rfl⟩ := e; exact ⟨T.er_BadText, T.ki_BadText_BadRest⟩) (fun h => (look_cons h).elim (fun e => by obtain ⟨rfl, rfl⟩ := e; exact ⟨T.er_NoName, T.ki_NoName_BadRest⟩) (fun h => (look_cons h).elim (fun e => by obtain ⟨rfl, rfl⟩ := e; exact ⟨T.er_BadLine, T.ki_BadLine_BadRest⟩) (fun h => (look_cons h).elim (fun e => by obtain ⟨rfl, rfl⟩ := e; exact ⟨T.er_HuntError, T.ki_HuntError_BadRest⟩) (fun h => nomatch h)))))))))))))))))))
def isi_BadRow : D → Option Bool := isF (fun _ => none) [] [("BadLength", false), ("BadPlace", false), ("BadRest", false), ("BadRow", true), ("BadChange", false), ("BadSpan", false), ("BadStep", false), ("BadNumber", false), ("BadForm", false), ("BadSpot", false), ("Overlap", false), ("NoStep", false), ("TooMany", false), ("Parts", false), ("BadText", false), ("NoName", false), ("BadLine", false), ("HuntError", false)]
theorem isT_BadRow (T : Tx K mg) : IsT ⟨K, Tb, p, c⟩ (.ref (gd "BadRow" K)) isi_BadRow := isT_of (fun n k h => nomatch h) (fun c k h => nomatch h) (fun c k h => (look_cons h).elim (fun e => by obtain ⟨rfl, rfl⟩ := e; exact ⟨T.er_BadLength, T.ki_BadLength_BadRow⟩) (fun h => (look_cons h).elim (fun e => by obtain ⟨rfl, rfl⟩ := e; exact ⟨T.er_BadPlace, T.ki_BadPlace_BadRow⟩) (fun h => (look_cons h).elim (fun e => by obtain ⟨rfl, rfl⟩ := e; exact ⟨T.er_BadRest, T.ki_BadRest_BadRow⟩) (fun h => (look_cons h).elim (fun e => by obtain ⟨rfl, rfl⟩ := e; exact ⟨T.er_BadRow, T.ki_BadRow_BadRow⟩) (fun h => (look_cons h).elim (fun e => by obtain ⟨rfl, rfl⟩ := e; exact ⟨T.er_BadChange, T.ki_BadChange_BadRow⟩) (fun h => (look_cons h).elim (fun e => by obtain ⟨rfl, rfl⟩ := e; exact ⟨T.er_BadSpan, T.ki_BadSpan_BadRow⟩) (fun h => (look_cons h).elim (fun e => by obtain ⟨rfl, rfl⟩ := e; exact ⟨T.er_BadStep, T.ki_BadStep_BadRow⟩) (fun h => (look_cons h).elim (fun e => by obtain ⟨rfl, rfl⟩ := e; exact ⟨T.er_BadNumber, T.ki_BadNumber_BadRow⟩) (fun h => (look_cons h).elim (fun e => by obtain ⟨rfl, rfl⟩ := e; exact ⟨T.er_BadForm, T.ki_BadForm_BadRow⟩) (fun h => (look_cons h).elim (fun e => by obtain ⟨rfl, rfl⟩ := e; exact ⟨T.er_BadSpot, T.ki_BadSpot_BadRow⟩) (fun h => (look_cons h).elim (fun e => by obtain ⟨rfl, rfl⟩ := e; exact ⟨T.er_Overlap, T.ki_Overlap_BadRow⟩) (fun h => (look_cons h).elim (fun e => by obtain ⟨rfl, rfl⟩ := e; exact ⟨T.er_NoStep, T.ki_NoStep_BadRow⟩) (fun h => (look_cons h).elim (fun e => by obtain ⟨rfl, rfl⟩ := e; exact ⟨T.er_TooMany, T.ki_TooMany_BadRow⟩) (fun h => (look_cons h).elim (fun e => by obtain ⟨rfl, rfl⟩ := e; exact ⟨T.er_Parts, T.ki_Parts_BadRow⟩) (fun h => (look_cons h).elim (fun e => by obtain ⟨rfl, rfl⟩ := e; exact ⟨T.er_BadText, T.ki_BadText_BadRow⟩) (fun h => (look_cons h).elim (fun e => by obtain ⟨rfl, rfl⟩ := e; exact ⟨T.er_NoName, T.ki_NoName_BadRow⟩) (fun h => (look_cons h).elim (fun e => by obtain ⟨rfl, rfl⟩ := e; exact ⟨T.er_BadLine, T.ki_BadLine_BadRow⟩) (fun h => (look_cons h).elim (fun e => by obtain ⟨rfl, rfl⟩ := e; exact ⟨T.er_HuntError, T.ki_HuntError_BadRow⟩) (fun h => nomatch h)))))))))))))))))))
def isi_BadChange : D → Option Bool := isF (fun _ => none) [] [("BadLength", false), ("BadPlace", false), ("BadRest", false), ("BadRow", false), ("BadChange", true), ("BadSpan", false), ("BadStep", false), ("BadNumber", false), ("BadForm", false), ("BadSpot", false), ("Overlap", false), ("NoStep", false), ("TooMany", false), ("Parts", false), ("BadText", false), ("NoName", false), ("BadLine", false), ("HuntError", false)]
theorem isT_BadChange (T : Tx K mg) : IsT ⟨K, Tb, p, c⟩ (.ref (gd "BadChange" K)) isi_BadChange := isT_of (fun n k h => nomatch h) (fun c k h => nomatch h) (fun c k h => (look_cons h).elim (fun e => by obtain ⟨rfl, rfl⟩ := e; exact ⟨T.er_BadLength, T.ki_BadLength_BadChange⟩) (fun h => (look_cons h).elim (fun e => by obtain ⟨rfl, rfl⟩ := e; exact ⟨T.er_BadPlace, T.ki_BadPlace_BadChange⟩) (fun h => (look_cons h).elim (fun e => by obtain ⟨rfl, rfl⟩ := e; exact ⟨T.er_BadRest, T.ki_BadRest_BadChange⟩) (fun h => (look_cons h).elim (fun e => by obtain ⟨rfl, rfl⟩ := e; exact ⟨T.er_BadRow, T.ki_BadRow_BadChange⟩) (fun h => (look_cons h).elim (fun e => by obtain ⟨rfl, rfl⟩ := e; exact ⟨T.er_BadChange, T.ki_BadChange_BadChange⟩) (fun h => (look_cons h).elim (fun e => by obtain ⟨rfl, rfl⟩ := e; exact ⟨T.er_BadSpan, T.ki_BadSpan_BadChange⟩) (fun h => (look_cons h).elim (fun e => by obtain ⟨rfl, rfl⟩ := e; exact ⟨T.er_BadStep, T.ki_BadStep_BadChange⟩) (fun h => (look_cons h).elim (fun e => by obtain ⟨rfl, rfl⟩ := e; exact ⟨T.er_BadNumber, T.ki_BadNumber_BadChange⟩) (fun h => (look_cons h).elim (fun e => by obtain ⟨rfl, rfl⟩ := e; exact ⟨T.er_BadForm, T.ki_BadForm_BadChange⟩) (fun h => (look_cons h).elim (fun e => by obtain ⟨rfl, rfl⟩ := e; exact ⟨T.er_BadSpot, T.ki_BadSpot_BadChange⟩) (fun h => (look_cons h).elim (fun e => by obtain ⟨rfl, rfl⟩ := e; exact ⟨T.er_Overlap, T.ki_Overlap_BadChange⟩) (fun h => (look_cons h).elim (fun e => by obtain ⟨rfl, rfl⟩ := e; exact ⟨T.er_NoStep, T.ki_NoStep_BadChange⟩) (fun h => (look_cons h).elim (fun e => by obtain ⟨rfl, rfl⟩ := e; exact ⟨T.er_TooMany, T.ki_TooMany_BadChange⟩) (fun h => (look_cons h).elim (fun e => by obtain ⟨rfl, rfl⟩ := e; exact ⟨T.er_Parts, T.ki_Parts_BadChange⟩) (fun h => (look_cons h).elim (fun e => by obtain ⟨rfl, rfl⟩ := e; exact ⟨T.er_BadText, T.ki_BadText_BadChange⟩) (fun h => (look_cons h).elim (fun e => by obtain ⟨rfl, rfl⟩ := e; exact ⟨T.er_NoName, T.ki_NoName_BadChange⟩) (fun h => (look_cons h).elim (fun e => by obtain ⟨rfl, rfl⟩ := e; exact ⟨T.er_BadLine, T.ki_BadLine_BadChange⟩) (fun h => (look_cons h).elim (fun e => by obtain ⟨rfl, rfl⟩ := e; exact ⟨T.er_HuntError, T.ki_HuntError_BadChange⟩) (fun h => nomatch h)))))))))))))))))))
def isi_BadSpan : D → Option Bool := isF (fun _ => none) [] [("BadLength", false), ("BadPlace", false), ("BadRest", false), ("BadRow", false), ("BadChange", false), ("BadSpan", true), ("BadStep", false), ("BadNumber", false), ("BadForm", false), ("BadSpot", false), ("Overlap", false), ("NoStep", false), ("TooMany", false), ("Parts", false), ("BadText", false), ("NoName", false), ("BadLine", false), ("HuntError", false)]
theorem isT_BadSpan (T : Tx K mg) : IsT ⟨K, Tb, p, c⟩ (.ref (gd "BadSpan" K)) isi_BadSpan := isT_of (fun n k h => nomatch h) (fun c k h => nomatch h) (fun c k h => (look_cons h).elim (fun e => by obtain ⟨rfl, rfl⟩ := e; exact ⟨T.er_BadLength, T.ki_BadLength_BadSpan⟩) (fun h => (look_cons h).elim (fun e => by obtain ⟨rfl, rfl⟩ := e; exact ⟨T.er_BadPlace, T.ki_BadPlace_BadSpan⟩) (fun h => (look_cons h).elim (fun e => by obtain ⟨rfl, rfl⟩ := e; exact ⟨T.er_BadRest, T.ki_BadRest_BadSpan⟩) (fun h => (look_cons h).elim (fun e => by obtain ⟨rfl, rfl⟩ := e; exact ⟨T.er_BadRow, T.ki_BadRow_BadSpan⟩) (fun h => (look_cons h).elim (fun e => by obtain ⟨rfl, rfl⟩ := e; exact ⟨T.er_BadChange, T.ki_BadChange_BadSpan⟩) (fun h => (look_cons h).elim (fun e => by obtain ⟨rfl, rfl⟩ := e; exact ⟨T.er_BadSpan, T.ki_BadSpan_BadSpan⟩) (fun h => (look_cons h).elim (fun e => by obtain ⟨rfl, rfl⟩ := e; exact ⟨T.er_BadStep, T.ki_BadStep_BadSpan⟩) (fun h => (look_cons h).elim (fun e => by obtain ⟨rfl, rfl⟩ := e; exact ⟨T.er_BadNumber, T.ki_BadNumber_BadSpan⟩) (fun h => (look_cons h).elim (fun e => by obtain ⟨rfl, rfl⟩ := e; exact ⟨T.er_BadForm, T.ki_BadForm_BadSpan⟩) (fun h => (look_cons h).elim (fun e => by obtain ⟨rfl, rfl⟩ := e; exact ⟨T.er_BadSpot, T.ki_BadSpot_BadSpan⟩) (fun h => (look_cons h).elim (fun e => by obtain ⟨rfl, rfl⟩ := e; exact ⟨T.er_Overlap, T.ki_Overlap_BadSpan⟩) (fun h => (look_cons h).elim (fun e => by obtain ⟨rfl, rfl⟩ := e; exact ⟨T.er_NoStep, T.ki_NoStep_BadSpan⟩) (fun h => (look_cons h).elim (fun e => by obtain ⟨rfl, rfl⟩ := e; exact ⟨T.er_TooMany, T.ki_TooMany_BadSpan⟩) (fun h => (look_cons h).elim (fun e => by obtain ⟨rfl, rfl⟩ := e; exact ⟨T.er_Parts, T.ki_Parts_BadSpan⟩) (fun h => (look_cons h).elim (fun e => by obtain ⟨rfl, rfl⟩ := e; exact ⟨T.er_BadText, T.ki_BadText_BadSpan⟩) (fun h => (look_cons h).elim (fun e => by obtain ⟨rfl, rfl⟩ := e; exact ⟨T.er_NoName, T.ki_NoName_BadSpan⟩) (fun h => (look_cons h).elim (fun e => by obtain ⟨rfl, rfl⟩ := e; exact ⟨T.er_BadLine, T.ki_BadLine_BadSpan⟩) (fun h => (look_cons h).elim (fun e => by obtain ⟨rfl, rfl⟩ := e; exact ⟨T.er_HuntError, T.ki_HuntError_BadSpan⟩) (fun h => nomatch h)))))))))))))))))))
def isi_BadStep : D → Option Bool := isF (fun _ => none) [] [("BadLength", false), ("BadPlace", false), ("BadRest", false), ("BadRow", false), ("BadChange", false), ("BadSpan", false), ("BadStep", true), ("BadNumber", false), ("BadForm", false), ("BadSpot", false), ("Overlap", false), ("NoStep", false), ("TooMany", false), ("Parts", false), ("BadText", false), ("NoName", false), ("BadLine", false), ("HuntError", false)]
theorem isT_BadStep (T : Tx K mg) : IsT ⟨K, Tb, p, c⟩ (.ref (gd "BadStep" K)) isi_BadStep := isT_of (fun n k h => nomatch h) (fun c k h => nomatch h) (fun c k h => (look_cons h).elim (fun e => by obtain ⟨rfl, rfl⟩ := e; exact ⟨T.er_BadLength, T.ki_BadLength_BadStep⟩) (fun h => (look_cons h).elim (fun e => by obtain ⟨rfl, rfl⟩ := e; exact ⟨T.er_BadPlace, T.ki_BadPlace_BadStep⟩) (fun h => (look_cons h).elim (fun e => by obtain ⟨rfl, rfl⟩ := e; exact ⟨T.er_BadRest, T.ki_BadRest_BadStep⟩) (fun h => (look_cons h).elim (fun e => by obtain ⟨rfl, rfl⟩ := e; exact ⟨T.er_BadRow, T.ki_BadRow_BadStep⟩) (fun h => (look_cons h).elim (fun e => by obtain ⟨rfl, rfl⟩ := e; exact ⟨T.er_BadChange, T.ki_BadChange_BadStep⟩) (fun h => (look_cons h).elim (fun e => by obtain ⟨rfl, rfl⟩ := e; exact ⟨T.er_BadSpan, T.ki_BadSpan_BadStep⟩) (fun h => (look_cons h).elim (fun e => by obtain ⟨rfl, rfl⟩ := e; exact ⟨T.er_BadStep, T.ki_BadStep_BadStep⟩) (fun h => (look_cons h).elim (fun e => by obtain ⟨rfl, rfl⟩ := e; exact ⟨T.er_BadNumber, T.ki_BadNumber_BadStep⟩) (fun h => (look_cons h).elim (fun e => by obtain ⟨rfl, rfl⟩ := e; exact ⟨T.er_BadForm, T.ki_BadForm_BadStep⟩) (fun h => (look_cons h).elim (fun e => by obtain ⟨rfl, rfl⟩ := e; exact ⟨T.er_BadSpot, T.ki_BadSpot_BadStep⟩) (fun h => (look_cons h).elim (fun e => by obtain ⟨rfl, rfl⟩ := e; exact ⟨T.er_Overlap, T.ki_Overlap_BadStep⟩) (fun h => (look_cons h).elim (fun e => by obtain ⟨rfl, rfl⟩ := e; exact ⟨T.er_NoStep, T.ki_NoStep_BadStep⟩) (fun h => (look_cons h).elim (fun e => by obtain ⟨rfl, rfl⟩ := e; exact ⟨T.er_TooMany, T.ki_TooMany_BadStep⟩) (fun h => (look_cons h).elim (fun e => by obtain ⟨rfl, rfl⟩ := e; exact ⟨T.er_Parts, T.ki_Parts_BadStep⟩) (fun h => (look_cons h).elim (fun e => by obtain ⟨rfl, rfl⟩ := e; exact ⟨T.er_BadText, T.ki_BadText_BadStep⟩) (fun h => (look_cons h).elim (fun e => by obtain ⟨rfl, rfl⟩ := e; exact ⟨T.er_NoName, T.ki_NoName_BadStep⟩) (fun h => (look_cons h).elim (fun e => by obtain ⟨rfl, rfl⟩ := e; exact ⟨T.er_BadLine, T.ki_BadLine_BadStep⟩) (fun h => (look_cons h).elim (fun e => by obtain ⟨rfl, rfl⟩ := e; exact ⟨T.er_HuntError, T.ki_HuntError_BadStep⟩) (fun h => nomatch h)))))))))))))))))))
def isi_BadNumber : D → Option Bool := isF (fun _ => none) [] [("BadLength", false), ("BadPlace", false), ("BadRest", false), ("BadRow", false), ("BadChange", false), ("BadSpan", false), ("BadStep", false), ("BadNumber", true), ("BadForm", false), ("BadSpot", false), ("Overlap", false), ("NoStep", false), ("TooMany", false), ("Parts", false), ("BadText", false), ("NoName", false), ("BadLine", false), ("HuntError", false)]
theorem isT_BadNumber (T : Tx K mg) : IsT ⟨K, Tb, p, c⟩ (.ref (gd "BadNumber" K)) isi_BadNumber := isT_of (fun n k h => nomatch h) (fun c k h => nomatch h) (fun c k h => (look_cons h).elim (fun e => by obtain ⟨rfl, rfl⟩ := e; exact ⟨T.er_BadLength, T.ki_BadLength_BadNumber⟩) (fun h => (look_cons h).elim (fun e => by obtain ⟨rfl, rfl⟩ := e; exact ⟨T.er_BadPlace, T.ki_BadPlace_BadNumber⟩) (fun h => (look_cons h).elim (fun e => by obtain ⟨rfl, rfl⟩ := e; exact ⟨T.er_BadRest, T.ki_BadRest_BadNumber⟩) (fun h => (look_cons h).elim (fun e => by obtain ⟨rfl, rfl⟩ := e; exact ⟨T.er_BadRow, T.ki_BadRow_BadNumber⟩) (fun h => (look_cons h).elim (fun e => by obtain ⟨rfl, rfl⟩ := e; exact ⟨T.er_BadChange, T.ki_BadChange_BadNumber⟩) (fun h => (look_cons h).elim (fun e => by obtain ⟨rfl, rfl⟩ := e; exact ⟨T.er_BadSpan, T.ki_BadSpan_BadNumber⟩) (fun h => (look_cons h).elim (fun e => by obtain ⟨rfl, rfl⟩ := e; exact ⟨T.er_BadStep, T.ki_BadStep_BadNumber⟩) (fun h => (look_cons h).elim (fun e => by obtain ⟨rfl, rfl⟩ := e; exact ⟨T.er_BadNumber, T.ki_BadNumber_BadNumber⟩) (fun h => (look_cons h).elim (fun e => by obtain ⟨rfl, rfl⟩ := e; exact ⟨T.er_BadForm, T.ki_BadForm_BadNumber⟩) (fun h => (look_cons h).elim (fun e => by obtain ⟨rfl, rfl⟩ := e; exact ⟨T.er_BadSpot, T.ki_BadSpot_BadNumber⟩) (fun h => (look_cons h).elim (fun e => by obtain ⟨rfl, rfl⟩ := e; exact ⟨T.er_Overlap, T.ki_Overlap_BadNumber⟩) (fun h => (look_cons h).elim (fun e => by obtain ⟨rfl, rfl⟩ := e; exact ⟨T.er_NoStep, T.ki_NoStep_BadNumber⟩) (fun h => (look_cons h).elim (fun e => by obtain ⟨rfl, rfl⟩ := e; exact ⟨T.er_TooMany, T.ki_TooMany_BadNumber⟩) (fun h => (look_cons h).elim (fun e => by obtain ⟨rfl, rfl⟩ := e; exact ⟨T.er_Parts, T.ki_Parts_BadNumber⟩) (fun h => (look_cons h).elim (fun e => by obtain ⟨rfl, rfl⟩ := e; exact ⟨T.er_BadText, T.ki_BadText_BadNumber⟩) (fun h => (look_cons h).elim (fun e => by obtain ⟨rfl, rfl⟩ := e; exact ⟨T.er_NoName, T.ki_NoName_BadNumber⟩) (fun h => (look_cons h).elim (fun e => by obtain ⟨rfl, rfl⟩ := e; exact ⟨T.er_BadLine, T.ki_BadLine_BadNumber⟩) (fun h => (look_cons h).elim (fun e => by obtain ⟨rfl, rfl⟩ := e; exact ⟨T.er_HuntError, T.ki_HuntError_BadNumber⟩) (fun h => nomatch h)))))))))))))))))))
def isi_BadForm : D → Option Bool := isF (fun _ => none) [] [("BadLength", false), ("BadPlace", false), ("BadRest", false), ("BadRow", false), ("BadChange", false), ("BadSpan", false), ("BadStep", false), ("BadNumber", false), ("BadForm", true), ("BadSpot", false), ("Overlap", false), ("NoStep", false), ("TooMany", false), ("Parts", false), ("BadText", false), ("NoName", false), ("BadLine", false), ("HuntError", false)]
theorem isT_BadForm (T : Tx K mg) : IsT ⟨K, Tb, p, c⟩ (.ref (gd "BadForm" K)) isi_BadForm := isT_of (fun n k h => nomatch h) (fun c k h => nomatch h) (fun c k h => (look_cons h).elim (fun e => by obtain ⟨rfl, rfl⟩ := e; exact ⟨T.er_BadLength, T.ki_BadLength_BadForm⟩) (fun h => (look_cons h).elim (fun e => by obtain ⟨rfl, rfl⟩ := e; exact ⟨T.er_BadPlace, T.ki_BadPlace_BadForm⟩) (fun h => (look_cons h).elim (fun e => by obtain ⟨rfl, rfl⟩ := e; exact ⟨T.er_BadRest, T.ki_BadRest_BadForm⟩) (fun h => (look_cons h).elim (fun e => by obtain ⟨rfl, rfl⟩ := e; exact ⟨T.er_BadRow, T.ki_BadRow_BadForm⟩) (fun h => (look_cons h).elim (fun e => by obtain ⟨rfl, rfl⟩ := e; exact ⟨T.er_BadChange, T.ki_BadChange_BadForm⟩) (fun h => (look_cons h).elim (fun e => by obtain ⟨rfl, rfl⟩ := e; exact ⟨T.er_BadSpan, T.ki_BadSpan_BadForm⟩) (fun h => (look_cons h).elim (fun e => by obtain ⟨rfl, rfl⟩ := e; exact ⟨T.er_BadStep, T.ki_BadStep_BadForm⟩) (fun h => (look_cons h).elim (fun e => by obtain ⟨rfl, rfl⟩ := e; exact ⟨T.er_BadNumber, T.ki_BadNumber_BadForm⟩) (fun h => (look_cons h).elim (fun e => by obtain ⟨rfl, rfl⟩ := e; exact ⟨T.er_BadForm, T.ki_BadForm_BadForm⟩) (fun h => (look_cons h).elim (fun e => by obtain ⟨rfl, rfl⟩ := e; exact ⟨T.er_BadSpot, T.ki_BadSpot_BadForm⟩) (fun h => (look_cons h).elim (fun e => by obtain ⟨rfl, rfl⟩ := e; exact ⟨T.er_Overlap, T.ki_Overlap_BadForm⟩) (fun h => (look_cons h).elim (fun e => by obtain ⟨rfl, rfl⟩ := e; exact ⟨T.er_NoStep, T.ki_NoStep_BadForm⟩) (fun h => (look_cons h).elim (fun e => by obtain ⟨rfl, rfl⟩ := e; exact ⟨T.er_TooMany, T.ki_TooMany_BadForm⟩) (fun h => (look_cons h).elim (fun e => by obtain ⟨rfl, rfl⟩ := e; exact ⟨T.er_Parts, T.ki_Parts_BadForm⟩) (fun h => (look_cons h).elim (fun e => by obtain ⟨rfl, rfl⟩ := e; exact ⟨T.er_BadText, T.ki_BadText_BadForm⟩) (fun h => (look_cons h).elim (fun e => by obtain ⟨rfl, rfl⟩ := e; exact ⟨T.er_NoName, T.ki_NoName_BadForm⟩) (fun h => (look_cons h).elim (fun e => by obtain ⟨rfl, rfl⟩ := e; exact ⟨T.er_BadLine, T.ki_BadLine_BadForm⟩) (fun h => (look_cons h).elim (fun e => by obtain ⟨rfl, rfl⟩ := e; exact ⟨T.er_HuntError, T.ki_HuntError_BadForm⟩) (fun h => nomatch h)))))))))))))))))))
def isi_BadSpot : D → Option Bool := isF (fun _ => none) [] [("BadLength", false), ("BadPlace", false), ("BadRest", false), ("BadRow", false), ("BadChange", false), ("BadSpan", false), ("BadStep", false), ("BadNumber", false), ("BadForm", false), ("BadSpot", true), ("Overlap", false), ("NoStep", false), ("TooMany", false), ("Parts", false), ("BadText", false), ("NoName", false), ("BadLine", false), ("HuntError", false)]
theorem isT_BadSpot (T : Tx K mg) : IsT ⟨K, Tb, p, c⟩ (.ref (gd "BadSpot" K)) isi_BadSpot := isT_of (fun n k h => nomatch h) (fun c k h => nomatch h) (fun c k h => (look_cons h).elim (fun e => by obtain ⟨rfl, rfl⟩ := e; exact ⟨T.er_BadLength, T.ki_BadLength_BadSpot⟩) (fun h => (look_cons h).elim (fun e => by obtain ⟨rfl, rfl⟩ := e; exact ⟨T.er_BadPlace, T.ki_BadPlace_BadSpot⟩) (fun h => (look_cons h).elim (fun e => by obtain ⟨rfl, rfl⟩ := e; exact ⟨T.er_BadRest, T.ki_BadRest_BadSpot⟩) (fun h => (look_cons h).elim (fun e => by obtain ⟨rfl, rfl⟩ := e; exact ⟨T.er_BadRow, T.ki_BadRow_BadSpot⟩) (fun h => (look_cons h).elim (fun e => by obtain ⟨rfl, rfl⟩ := e; exact ⟨T.er_BadChange, T.ki_BadChange_BadSpot⟩) (fun h => (look_cons h).elim (fun e => by obtain ⟨rfl, rfl⟩ := e; exact ⟨T.er_BadSpan, T.ki_BadSpan_BadSpot⟩) (fun h => (look_cons h).elim (fun e => by obtain ⟨rfl, rfl⟩ := e; exact ⟨T.er_BadStep, T.ki_BadStep_BadSpot⟩) (fun h => (look_cons h).elim (fun e => by obtain ⟨rfl, rfl⟩ := e; exact ⟨T.er_BadNumber, T.ki_BadNumber_BadSpot⟩) (fun h => (look_cons h).elim (fun e => by obtain ⟨rfl, rfl⟩ := e; exact ⟨T.er_BadForm, T.ki_BadForm_BadSpot⟩) (fun h => (look_cons h).elim (fun e => by obtain ⟨rfl, rfl⟩ := e; exact ⟨T.er_BadSpot, T.ki_BadSpot_BadSpot⟩) (fun h => (look_cons h).elim (fun e => by obtain ⟨rfl, rfl⟩ := e; exact ⟨T.er_Overlap, T.ki_Overlap_BadSpot⟩) (fun h => (look_cons h).elim (fun e => by obtain ⟨rfl, rfl⟩ := e; exact ⟨T.er_NoStep, T.ki_NoStep_BadSpot⟩) (fun h => (look_cons h).elim (fun e => by obtain ⟨rfl, rfl⟩ := e; exact ⟨T.er_TooMany, T.ki_TooMany_BadSpot⟩) (fun h => (look_cons h).elim (fun e => by obtain ⟨rfl, rfl⟩ := e; exact ⟨T.er_Parts, T.ki_Parts_BadSpot⟩) (fun h => (look_cons h).elim (fun e => by obtain ⟨rfl, rfl⟩ := e; exact ⟨T.er_BadText, T.ki_BadText_BadSpot⟩) (fun h => (look_cons h).elim (fun e => by obtain ⟨rfl, rfl⟩ := e; exact ⟨T.er_NoName, T.ki_NoName_BadSpot⟩) (fun h => (look_cons h).elim (fun e => by obtain ⟨rfl, rfl⟩ := e; exact ⟨T.er_BadLine, T.ki_BadLine_BadSpot⟩) (fun h => (look_cons h).elim (fun e => by obtain ⟨rfl, rfl⟩ := e; exact ⟨T.er_HuntError, T.ki_HuntError_BadSpot⟩) (fun h => nomatch h)))))))))))))))))))
def isi_Overlap : D → Option Bool := isF (fun _ => none) [] [("BadLength", false), ("BadPlace", false), ("BadRest", false), ("BadRow", false), ("BadChange", false), ("BadSpan", false), ("BadStep", false), ("BadNumber", false), ("BadForm", false), ("BadSpot", false), ("Overlap", true), ("NoStep", false), ("TooMany", false), ("Parts", false), ("BadText", false), ("NoName", false), ("BadLine", false), ("HuntError", false)]
theorem isT_Overlap (T : Tx K mg) : IsT ⟨K, Tb, p, c⟩ (.ref (gd "Overlap" K)) isi_Overlap := isT_of (fun n k h => nomatch h) (fun c k h => nomatch h) (fun c k h => (look_cons h).elim (fun e => by obtain ⟨rfl, rfl⟩ := e; exact ⟨T.er_BadLength, T.ki_BadLength_Overlap⟩) (fun h => (look_cons h).elim (fun e => by obtain ⟨rfl, rfl⟩ := e; exact ⟨T.er_BadPlace, T.ki_BadPlace_Overlap⟩) (fun h => (look_cons h).elim (fun e => by obtain ⟨rfl, rfl⟩ := e; exact ⟨T.er_BadRest, T.ki_BadRest_Overlap⟩) (fun h => (look_cons h).elim (fun e => by obtain ⟨rfl, rfl⟩ := e; exact ⟨T.er_BadRow, T.ki_BadRow_Overlap⟩) (fun h => (look_cons h).elim (fun e => by obtain ⟨rfl, rfl⟩ := e; exact ⟨T.er_BadChange, T.ki_BadChange_Overlap⟩) (fun h => (look_cons h).elim (fun e => by obtain ⟨rfl, rfl⟩ := e; exact ⟨T.er_BadSpan, T.ki_BadSpan_Overlap⟩) (fun h => (look_cons h).elim (fun e => by obtain ⟨rfl, rfl⟩ := e; exact ⟨T.er_BadStep, T.ki_BadStep_Overlap⟩) (fun h => (look_cons h).elim (fun e => by obtain ⟨rfl, rfl⟩ := e; exact ⟨T.er_BadNumber, T.ki_BadNumber_Overlap⟩) (fun h => (look_cons h).elim (fun e => by obtain ⟨rfl, rfl⟩ := e; exact ⟨T.er_BadForm, T.ki_BadForm_Overlap⟩) (fun h => (look_cons h).elim (fun e => by obtain ⟨rfl, rfl⟩ := e; exact ⟨T.er_BadSpot, T.ki_BadSpot_Overlap⟩) (fun h => (look_cons h).elim (fun e => by obtain ⟨rfl, rfl⟩ := e; exact ⟨T.er_Overlap, T.ki_Overlap_Overlap⟩) (fun h => (look_cons h).elim (fun e => by obtain ⟨rfl, rfl⟩ := e; exact ⟨T.er_NoStep, T.ki_NoStep_Overlap⟩) (fun h => (look_cons h).elim (fun e => by obtain ⟨rfl, rfl⟩ := e; exact ⟨T.er_TooMany, T.ki_TooMany_Overlap⟩) (fun h => (look_cons h).elim (fun e => by obtain ⟨rfl, rfl⟩ := e; exact ⟨T.er_Parts, T.ki_Parts_Overlap⟩) (fun h => (look_cons h).elim (fun e => by obtain ⟨rfl, rfl⟩ := e; exact ⟨T.er_BadText, T.ki_BadText_Overlap⟩) (fun h => (look_cons h).elim (fun e => by obtain ⟨rfl, rfl⟩ := e; exact ⟨T.er_NoName, T.ki_NoName_Overlap⟩) (fun h => (look_cons h).elim (fun e => by obtain ⟨rfl, rfl⟩ := e; exact ⟨T.er_BadLine, T.ki_BadLine_Overlap⟩) (fun h => (look_cons h).elim (fun e => by obtain ⟨rfl, rfl⟩ := e; exact ⟨T.er_HuntError, T.ki_HuntError_Overlap⟩) (fun h => nomatch h)))))))))))))))))))
def isi_NoStep : D → Option Bool := isF (fun _ => none) [] [("BadLength", false), ("BadPlace", false), ("BadRest", false), ("BadRow", false), ("BadChange", false), ("BadSpan", false), ("BadStep", false), ("BadNumber", false), ("BadForm", false), ("BadSpot", false), ("Overlap", false), ("NoStep", true), ("TooMany", false), ("Parts", false), ("BadText", false), ("NoName", false), ("BadLine", false), ("HuntError", false)]
theorem isT_NoStep (T : Tx K mg) : IsT ⟨K, Tb, p, c⟩ (.ref (gd "NoStep" K)) isi_NoStep := isT_of (fun n k h => nomatch h) (fun c k h => nomatch h) (fun c k h => (look_cons h).elim (fun e => by obtain ⟨rfl, rfl⟩ := e; exact ⟨T.er_BadLength, T.ki_BadLength_NoStep⟩) (fun h => (look_cons h).elim (fun e => by obtain ⟨rfl, rfl⟩ := e; exact ⟨T.er_BadPlace, T.ki_BadPlace_NoStep⟩) (fun h => (look_cons h).elim (fun e => by obtain ⟨rfl, rfl⟩ := e; exact ⟨T.er_BadRest, T.ki_BadRest_NoStep⟩) (fun h => (look_cons h).elim (fun e => by obtain ⟨rfl, rfl⟩ := e; exact ⟨T.er_BadRow, T.ki_BadRow_NoStep⟩) (fun h => (look_cons h).elim (fun e => by obtain ⟨rfl, rfl⟩ := e; exact ⟨T.er_BadChange, T.ki_BadChange_NoStep⟩) (fun h => (look_cons h).elim (fun e => by obtain ⟨rfl, rfl⟩ := e; exact ⟨T.er_BadSpan, T.ki_BadSpan_NoStep⟩) (fun h => (look_cons h).elim (fun e => by obtain ⟨rfl, rfl⟩ := e; exact ⟨T.er_BadStep, T.ki_BadStep_NoStep⟩) (fun h => (look_cons h).elim (fun e => by obtain ⟨rfl, rfl⟩ := e; exact ⟨T.er_BadNumber, T.ki_BadNumber_NoStep⟩) (fun h => (look_cons h).elim (fun e => by obtain ⟨rfl, rfl⟩ := e; exact ⟨T.er_BadForm, T.ki_BadForm_NoStep⟩) (fun h => (look_cons h).elim (fun e => by obtain ⟨rfl, rfl⟩ := e; exact ⟨T.er_BadSpot, T.ki_BadSpot_NoStep⟩) (fun h => (look_cons h).elim (fun e => by obtain ⟨rfl, rfl⟩ := e; exact ⟨T.er_Overlap, T.ki_Overlap_NoStep⟩) (fun h => (look_cons h).elim (fun e => by obtain ⟨rfl, rfl⟩ := e; exact ⟨T.er_NoStep, T.ki_NoStep_NoStep⟩) (fun h => (look_cons h).elim (fun e => by obtain ⟨rfl, rfl⟩ := e; exact ⟨T.er_TooMany, T.ki_TooMany_NoStep⟩) (fun h => (look_cons h).elim (fun e => by obtain ⟨rfl, rfl⟩ := e; exact ⟨T.er_Parts, T.ki_Parts_NoStep⟩) (fun h => (look_cons h).elim (fun e => by obtain ⟨rfl, rfl⟩ := e; exact ⟨T.er_BadText, T.ki_BadText_NoStep⟩) (fun h => (look_cons h).elim (fun e => by obtain ⟨rfl, rfl⟩ := e; exact ⟨T.er_NoName, T.ki_NoName_NoStep⟩) (fun h => (look_cons h).elim (fun e => by obtain ⟨rfl, rfl⟩ := e; exact ⟨T.er_BadLine, T.ki_BadLine_NoStep⟩) (fun h => (look_cons h).elim (fun e => by obtain ⟨rfl, rfl⟩ := e; exact ⟨T.er_HuntError, T.ki_HuntError_NoStep⟩) (fun h => nomatch h)))))))))))))))))))
def isi_TooMany : D → Option Bool := isF (fun _ => none) [] [("BadLength", false), ("BadPlace", false), ("BadRest", false), ("BadRow", false), ("BadChange", false), ("BadSpan", false), ("BadStep", false), ("BadNumber", false), ("BadForm", false), ("BadSpot", false), ("Overlap", false), ("NoStep", false), ("TooMany", true), ("Parts", false), ("BadText", false), ("NoName", false), ("BadLine", false), ("HuntError", false)]
theorem isT_TooMany (T : Tx K mg) : IsT ⟨K, Tb, p, c⟩ (.ref (gd "TooMany" K)) isi_TooMany := isT_of (fun n k h => nomatch h) (fun c k h => nomatch h) (fun c k h => (look_cons h).elim (fun e => by obtain ⟨rfl, rfl⟩ := e; exact ⟨T.er_BadLength, T.ki_BadLength_TooMany⟩) (fun h => (look_cons h).elim (fun e => by obtain ⟨rfl, rfl⟩ := e; exact ⟨T.er_BadPlace, T.ki_BadPlace_TooMany⟩) (fun h => (look_cons h).elim (fun e => by obtain ⟨rfl, rfl⟩ := e; exact ⟨T.er_BadRest, T.ki_BadRest_TooMany⟩) (fun h => (look_cons h).elim (fun e => by obtain ⟨rfl, rfl⟩ := e; exact ⟨T.er_BadRow, T.ki_BadRow_TooMany⟩) (fun h => (look_cons h).elim (fun e => by obtain ⟨rfl, rfl⟩ := e; exact ⟨T.er_BadChange, T.ki_BadChange_TooMany⟩) (fun h => (look_cons h).elim (fun e => by obtain ⟨rfl, rfl⟩ := e; exact ⟨T.er_BadSpan, T.ki_BadSpan_TooMany⟩) (fun h => (look_cons h).elim (fun e => by obtain ⟨rfl, rfl⟩ := e; exact ⟨T.er_BadStep, T.ki_BadStep_TooMany⟩) (fun h => (look_cons h).elim (fun e => by obtain ⟨rfl, rfl⟩ := e; exact ⟨T.er_BadNumber, T.ki_BadNumber_TooMany⟩) (fun h => (look_cons h).elim (fun e => by obtain ⟨rfl, rfl⟩ := e; exact ⟨T.er_BadForm, T.ki_BadForm_TooMany⟩) (fun h => (look_cons h).elim (fun e => by obtain ⟨rfl, rfl⟩ := e; exact ⟨T.er_BadSpot, T.ki_BadSpot_TooMany⟩) (fun h => (look_cons h).elim (fun e => by obtain ⟨rfl, rfl⟩ := e; exact ⟨T.er_Overlap, T.ki_Overlap_TooMany⟩) (fun h => (look_cons h).elim (fun e => by obtain ⟨rfl, rfl⟩ := e; exact ⟨T.er_NoStep, T.ki_NoStep_TooMany⟩) (fun h => (look_cons h).elim (fun e => by obtain ⟨rfl, rfl⟩ := e; exact ⟨T.er_TooMany, T.ki_TooMany_TooMany⟩) (fun h => (look_cons h).elim (fun e => by obtain ⟨rfl, rfl⟩ := e; exact ⟨T.er_Parts, T.ki_Parts_TooMany⟩) (fun h => (look_cons h).elim (fun e => by obtain ⟨rfl, rfl⟩ := e; exact ⟨T.er_BadText, T.ki_BadText_TooMany⟩) (fun h => (look_cons h).elim (fun e => by obtain ⟨rfl, rfl⟩ := e; exact ⟨T.er_NoName, T.ki_NoName_TooMany⟩) (fun h => (look_cons h).elim (fun e => by obtain ⟨rfl, rfl⟩ := e; exact ⟨T.er_BadLine, T.ki_BadLine_TooMany⟩) (fun h => (look_cons h).elim (fun e => by obtain ⟨rfl, rfl⟩ := e; exact ⟨T.er_HuntError, T.ki_HuntError_TooMany⟩) (fun h => nomatch h)))))))))))))))))))
def isi_Parts : D → Option Bool := isF (fun _ => none) [] [("BadLength", false), ("BadPlace", false), ("BadRest", false), ("BadRow", false), ("BadChange", false), ("BadSpan", false), ("BadStep", false), ("BadNumber", false), ("BadForm", false), ("BadSpot", false), ("Overlap", false), ("NoStep", false), ("TooMany", false), ("Parts", true), ("BadText", false), ("NoName", false), ("BadLine", false), ("HuntError", false)]
theorem isT_Parts (T : Tx K mg) : IsT ⟨K, Tb, p, c⟩ (.ref (gd "Parts" K)) isi_Parts := isT_of (fun n k h => nomatch h) (fun c k h => nomatch h) (fun c k h => (look_cons h).elim (fun e => by obtain ⟨rfl, rfl⟩ := e; exact ⟨T.er_BadLength, T.ki_BadLength_Parts⟩) (fun h => (look_cons h).elim (fun e => by obtain ⟨rfl, rfl⟩ := e; exact ⟨T.er_BadPlace, T.ki_BadPlace_Parts⟩) (fun h => (look_cons h).elim (fun e => by obtain ⟨rfl, rfl⟩ := e; exact ⟨T.er_BadRest, T.ki_BadRest_Parts⟩) (fun h => (look_cons h).elim (fun e => by obtain ⟨rfl, rfl⟩ := e; exact ⟨T.er_BadRow, T.ki_BadRow_Parts⟩) (fun h => (look_cons h).elim (fun e => by obtain ⟨rfl, rfl⟩ := e; exact ⟨T.er_BadChange, T.ki_BadChange_Parts⟩) (fun h => (look_cons h).elim (fun e => by obtain ⟨rfl, rfl⟩ := e; exact ⟨T.er_BadSpan, T.ki_BadSpan_Parts⟩) (fun h => (look_cons h).elim (fun e => by obtain ⟨rfl, rfl⟩ := e; exact ⟨T.er_BadStep, T.ki_BadStep_Parts⟩) (fun h => (look_cons h).elim (fun e => by obtain ⟨rfl, rfl⟩ := e; exact ⟨T.er_BadNumber, T.ki_BadNumber_Parts⟩) (fun h => (look_cons h).elim (fun e => by obtain ⟨rfl, rfl⟩ := e; exact ⟨T.er_BadForm, T.ki_BadForm_Parts⟩) (fun h => (look_cons h).elim (fun e => by obtain ⟨rfl, rfl⟩ := e; exact ⟨T.er_BadSpot, T.ki_BadSpot_Parts⟩) (fun h => (look_cons h).elim (fun e => by obtain ⟨rfl, rfl⟩ := e; exact ⟨T.er_Overlap, T.ki_Overlap_Parts⟩) (fun h => (look_cons h).elim (fun e => by obtain ⟨rfl, rfl⟩ := e; exact ⟨T.er_NoStep, T.ki_NoStep_Parts⟩) (fun h => (look_cons h).elim (fun e => by obtain ⟨rfl, rfl⟩ := e; exact ⟨T.er_TooMany, T.ki_TooMany_Parts⟩) (fun h => (look_cons h).elim (fun e => by obtain ⟨rfl, rfl⟩ := e; exact ⟨T.er_Parts, T.ki_Parts_Parts⟩) (fun h => (look_cons h).elim (fun e => by obtain ⟨rfl, rfl⟩ := e; exact ⟨T.er_BadText, T.ki_BadText_Parts⟩) (fun h => (look_cons h).elim (fun e => by obtain ⟨rfl, rfl⟩ := e; exact ⟨T.er_NoName, T.ki_NoName_Parts⟩) (fun h => (look_cons h).elim (fun e => by obtain ⟨rfl, rfl⟩ := e; exact ⟨T.er_BadLine, T.ki_BadLine_Parts⟩) (fun h => (look_cons h).elim (fun e => by obtain ⟨rfl, rfl⟩ := e; exact ⟨T.er_HuntError, T.ki_HuntError_Parts⟩) (fun h => nomatch h)))))))))))))))))))
def isi_BadText : D → Option Bool := isF (fun _ => none) [] [("BadLength", false), ("BadPlace", false), ("BadRest", false), ("BadRow", false), ("BadChange", false), ("BadSpan", false), ("BadStep", false), ("BadNumber", false), ("BadForm", false), ("BadSpot", false), ("Overlap", false), ("NoStep", false), ("TooMany", false), ("Parts", false), ("BadText", true), ("NoName", false), ("BadLine", false), ("HuntError", false)]
theorem isT_BadText (T : Tx K mg) : IsT ⟨K, Tb, p, c⟩ (.ref (gd "BadText" K)) isi_BadText := isT_of (fun n k h => nomatch h) (fun c k h => nomatch h) (fun c k h => (look_cons h).elim (fun e => by obtain ⟨rfl, rfl⟩ := e; exact ⟨T.er_BadLength, T.ki_BadLength_BadText⟩) (fun h => (look_cons h).elim (fun e => by obtain ⟨rfl, rfl⟩ := e; exact ⟨T.er_BadPlace, T.ki_BadPlace_BadText⟩) (fun h => (look_cons h).elim (fun e => by obtain ⟨rfl, rfl⟩ := e; exact ⟨T.er_BadRest, T.ki_BadRest_BadText⟩) (fun h => (look_cons h).elim (fun e => by obtain ⟨rfl, rfl⟩ := e; exact ⟨T.er_BadRow, T.ki_BadRow_BadText⟩) (fun h => (look_cons h).elim (fun e => by obtain ⟨rfl, rfl⟩ := e; exact ⟨T.er_BadChange, T.ki_BadChange_BadText⟩) (fun h => (look_cons h).elim (fun e => by obtain ⟨rfl, rfl⟩ := e; exact ⟨T.er_BadSpan, T.ki_BadSpan_BadText⟩) (fun h => (look_cons h).elim (fun e => by obtain ⟨rfl, rfl⟩ := e; exact ⟨T.er_BadStep, T.ki_BadStep_BadText⟩) (fun h => (look_cons h).elim (fun e => by obtain ⟨rfl, rfl⟩ := e; exact ⟨T.er_BadNumber, T.ki_BadNumber_BadText⟩) (fun h => (look_cons h).elim (fun e => by obtain ⟨rfl, rfl⟩ := e; exact ⟨T.er_BadForm, T.ki_BadForm_BadText⟩) (fun h => (look_cons h).elim (fun e => by obtain ⟨rfl, rfl⟩ := e; exact ⟨T.er_BadSpot, T.ki_BadSpot_BadText⟩) (fun h => (look_cons h).elim (fun e => by obtain ⟨rfl, rfl⟩ := e; exact ⟨T.er_Overlap, T.ki_Overlap_BadText⟩) (fun h => (look_cons h).elim (fun e => by obtain ⟨rfl, rfl⟩ := e; exact ⟨T.er_NoStep, T.ki_NoStep_BadText⟩) (fun h => (look_cons h).elim (fun e => by obtain ⟨rfl, rfl⟩ := e; exact ⟨T.er_TooMany, T.ki_TooMany_BadText⟩) (fun h => (look_cons h).elim (fun e => by obtain ⟨rfl, rfl⟩ := e; exact ⟨T.er_Parts, T.ki_Parts_BadText⟩) (fun h => (look_cons h).elim (fun e => by obtain ⟨rfl, rfl⟩ := e; exact ⟨T.er_BadText, T.ki_BadText_BadText⟩) (fun h => (look_cons h).elim (fun e => by obtain ⟨rfl, rfl⟩ := e; exact ⟨T.er_NoName, T.ki_NoName_BadText⟩) (fun h => (look_cons h).elim (fun e => by obtain ⟨rfl, rfl⟩ := e; exact ⟨T.er_BadLine, T.ki_BadLine_BadText⟩) (fun h => (look_cons h).elim (fun e => by obtain ⟨rfl, rfl⟩ := e; exact ⟨T.er_HuntError, T.ki_HuntError_BadText⟩) (fun h => nomatch h)))))))))))))))))))
def isi_NoName : D → Option Bool := isF (fun _ => none) [] [("BadLength", false), ("BadPlace", false), ("BadRest", false), ("BadRow", false), ("BadChange", false), ("BadSpan", false), ("BadStep", false), ("BadNumber", false), ("BadForm", false), ("BadSpot", false), ("Overlap", false), ("NoStep", false), ("TooMany", false), ("Parts", false), ("BadText", false), ("NoName", true), ("BadLine", false), ("HuntError", false)]
theorem isT_NoName (T : Tx K mg) : IsT ⟨K, Tb, p, c⟩ (.ref (gd "NoName" K)) isi_NoName := isT_of (fun n k h => nomatch h) (fun c k h => nomatch h) (fun c k h => (look_cons h).elim (fun e => by obtain ⟨rfl, rfl⟩ := e; exact ⟨T.er_BadLength, T.ki_BadLength_NoName⟩) (fun h => (look_cons h).elim (fun e => by obtain ⟨rfl, rfl⟩ := e; exact ⟨T.er_BadPlace, T.ki_BadPlace_NoName⟩) (fun h => (look_cons h).elim (fun e => by obtain ⟨rfl, rfl⟩ := e; exact ⟨T.er_BadRest, T.ki_BadRest_NoName⟩) (fun h => (look_cons h).elim (fun e => by obtain ⟨rfl, rfl⟩ := e; exact ⟨T.er_BadRow, T.ki_BadRow_NoName⟩) (fun h => (look_cons h).elim (fun e => by obtain ⟨rfl, rfl⟩ := e; exact ⟨T.er_BadChange, T.ki_BadChange_NoName⟩) (fun h => (look_cons h).elim (fun e => by obtain ⟨rfl, rfl⟩ := e; exact ⟨T.er_BadSpan, T.ki_BadSpan_NoName⟩) (fun h => (look_cons h).elim (fun e => by obtain ⟨rfl, rfl⟩ := e; exact ⟨T.er_BadStep, T.ki_BadStep_NoName⟩) (fun h => (look_cons h).elim (fun e => by obtain ⟨rfl, rfl⟩ := e; exact ⟨T.er_BadNumber, T.ki_BadNumber_NoName⟩) (fun h => (look_cons h).elim (fun e => by obtain ⟨rfl, rfl⟩ := e; exact ⟨T.er_BadForm, T.ki_BadForm_NoName⟩) (fun h => (look_cons h).elim (fun e => by obtain ⟨rfl, rfl⟩ := e; exact ⟨T.er_BadSpot, T.ki_BadSpot_NoName⟩) (fun h => (look_cons h).elim (fun e => by obtain ⟨rfl, rfl⟩ := e; exact ⟨T.er_Overlap, T.ki_Overlap_NoName⟩) (fun h => (look_cons h).elim (fun e => by obtain ⟨rfl, rfl⟩ := e; exact ⟨T.er_NoStep, T.ki_NoStep_NoName⟩) (fun h => (look_cons h).elim (fun e => by obtain ⟨rfl, rfl⟩ := e; exact ⟨T.er_TooMany, T.ki_TooMany_NoName⟩) (fun h => (look_cons h).elim (fun e => by obtain ⟨rfl, rfl⟩ := e; exact ⟨T.er_Parts, T.ki_Parts_NoName⟩) (fun h => (look_cons h).elim (fun e => by obtain ⟨rfl, rfl⟩ := e; exact ⟨T.er_BadText, T.ki_BadText_NoName⟩) (fun h => (look_cons h).elim (fun e => by obtain ⟨rfl, rfl⟩ := e; exact ⟨T.er_NoName, T.ki_NoName_NoName⟩) (fun h => (look_cons h).elim (fun e => by obtain ⟨rfl, rfl⟩ := e; exact ⟨T.er_BadLine, T.ki_BadLine_NoName⟩) (fun h => (look_cons h).elim (fun e => by obtain ⟨rfl, rfl⟩ := e; exact ⟨T.er_HuntError, T.ki_HuntError_NoName⟩) (fun h => nomatch h)))))))))))))))))))
def isi_BadLine : D → Option Bool := isF (fun _ => none) [] [("BadLength", false), ("BadPlace", false), ("BadRest", false), ("BadRow", false), ("BadChange", false), ("BadSpan", false), ("BadStep", false), ("BadNumber", false), ("BadForm", false), ("BadSpot", false), ("Overlap", false), ("NoStep", false), ("TooMany", false), ("Parts", false), ("BadText", false), ("NoName", false), ("BadLine", true), ("HuntError", false)]
theorem isT_BadLine (T : Tx K mg) : IsT ⟨K, Tb, p, c⟩ (.ref (gd "BadLine" K)) isi_BadLine := isT_of (fun n k h => nomatch h) (fun c k h => nomatch h) (fun c k h => (look_cons h).elim (fun e => by obtain ⟨rfl, rfl⟩ := e; exact ⟨T.er_BadLength, T.ki_BadLength_BadLine⟩) (fun h => (look_cons h).elim (fun e => by obtain ⟨rfl, rfl⟩ := e; exact ⟨T.er_BadPlace, T.ki_BadPlace_BadLine⟩) (fun h => (look_cons h).elim (fun e => by obtain ⟨rfl, rfl⟩ := e; exact ⟨T.er_BadRest, T.ki_BadRest_BadLine⟩) (fun h => (look_cons h).elim (fun e => by obtain ⟨rfl, rfl⟩ := e; exact ⟨T.er_BadRow, T.ki_BadRow_BadLine⟩) (fun h => (look_cons h).elim (fun e => by obtain ⟨rfl, rfl⟩ := e; exact ⟨T.er_BadChange, T.ki_BadChange_BadLine⟩) (fun h => (look_cons h).elim (fun e => by obtain ⟨rfl, rfl⟩ := e; exact ⟨T.er_BadSpan, T.ki_BadSpan_BadLine⟩) (fun h => (look_cons h).elim (fun e => by obtain ⟨rfl, rfl⟩ := e; exact ⟨T.er_BadStep, T.ki_BadStep_BadLine⟩) (fun h => (look_cons h).elim (fun e => by obtain ⟨rfl, rfl⟩ := e; exact ⟨T.er_BadNumber, T.ki_BadNumber_BadLine⟩) (fun h => (look_cons h).elim (fun e => by obtain ⟨rfl, rfl⟩ := e; exact ⟨T.er_BadForm, T.ki_BadForm_BadLine⟩) (fun h => (look_cons h).elim (fun e => by obtain ⟨rfl, rfl⟩ := e; exact ⟨T.er_BadSpot, T.ki_BadSpot_BadLine⟩) (fun h => (look_cons h).elim (fun e => by obtain ⟨rfl, rfl⟩ := e; exact ⟨T.er_Overlap, T.ki_Overlap_BadLine⟩) (fun h => (look_cons h).elim (fun e => by obtain ⟨rfl, rfl⟩ := e; exact ⟨T.er_NoStep, T.ki_NoStep_BadLine⟩) (fun h => (look_cons h).elim (fun e => by obtain ⟨rfl, rfl⟩ := e; exact ⟨T.er_TooMany, T.ki_TooMany_BadLine⟩) (fun h => (look_cons h).elim (fun e => by obtain ⟨rfl, rfl⟩ := e; exact ⟨T.er_Parts, T.ki_Parts_BadLine⟩) (fun h => (look_cons h).elim (fun e => by obtain ⟨rfl, rfl⟩ := e; exact ⟨T.er_BadText, T.ki_BadText_BadLine⟩) (fun h => (look_cons h).elim (fun e => by obtain ⟨rfl, rfl⟩ := e; exact ⟨T.er_NoName, T.ki_NoName_BadLine⟩) (fun h => (look_cons h).elim (fun e => by obtain ⟨rfl, rfl⟩ := e; exact ⟨T.er_BadLine, T.ki_BadLine_BadLine⟩) (fun h => (look_cons h).elim (fun e => by obtain ⟨rfl, rfl⟩ := e; exact ⟨T.er_HuntError, T.ki_HuntError_BadLine⟩) (fun h => nomatch h)))))))))))))))))))
def isi_HuntError : D → Option Bool := isF (fun _ => none) [] [("BadLength", true), ("BadPlace", true), ("BadRest", true), ("BadRow", true), ("BadChange", true), ("BadSpan", true), ("BadStep", true), ("BadNumber", true), ("BadForm", true), ("BadSpot", true), ("Overlap", true), ("NoStep", true), ("TooMany", true), ("Parts", true), ("BadText", true), ("NoName", true), ("BadLine", true), ("HuntError", true)]
theorem isT_HuntError (T : Tx K mg) : IsT ⟨K, Tb, p, c⟩ (.ref (gd "HuntError" K)) isi_HuntError := isT_of (fun n k h => nomatch h) (fun c k h => nomatch h) (fun c k h => (look_cons h).elim (fun e => by obtain ⟨rfl, rfl⟩ := e; exact ⟨T.er_BadLength, T.ki_BadLength_HuntError⟩) (fun h => (look_cons h).elim (fun e => by obtain ⟨rfl, rfl⟩ := e; exact ⟨T.er_BadPlace, T.ki_BadPlace_HuntError⟩) (fun h => (look_cons h).elim (fun e => by obtain ⟨rfl, rfl⟩ := e; exact ⟨T.er_BadRest, T.ki_BadRest_HuntError⟩) (fun h => (look_cons h).elim (fun e => by obtain ⟨rfl, rfl⟩ := e; exact ⟨T.er_BadRow, T.ki_BadRow_HuntError⟩) (fun h => (look_cons h).elim (fun e => by obtain ⟨rfl, rfl⟩ := e; exact ⟨T.er_BadChange, T.ki_BadChange_HuntError⟩) (fun h => (look_cons h).elim (fun e => by obtain ⟨rfl, rfl⟩ := e; exact ⟨T.er_BadSpan, T.ki_BadSpan_HuntError⟩) (fun h => (look_cons h).elim (fun e => by obtain ⟨rfl, rfl⟩ := e; exact ⟨T.er_BadStep, T.ki_BadStep_HuntError⟩) (fun h => (look_cons h).elim (fun e => by obtain ⟨rfl, rfl⟩ := e; exact ⟨T.er_BadNumber, T.ki_BadNumber_HuntError⟩) (fun h => (look_cons h).elim (fun e => by obtain ⟨rfl, rfl⟩ := e; exact ⟨T.er_BadForm, T.ki_BadForm_HuntError⟩) (fun h => (look_cons h).elim (fun e => by obtain ⟨rfl, rfl⟩ := e; exact ⟨T.er_BadSpot, T.ki_BadSpot_HuntError⟩) (fun h => (look_cons h).elim (fun e => by obtain ⟨rfl, rfl⟩ := e; exact ⟨T.er_Overlap, T.ki_Overlap_HuntError⟩) (fun h => (look_cons h).elim (fun e => by obtain ⟨rfl, rfl⟩ := e; exact ⟨T.er_NoStep, T.ki_NoStep_HuntError⟩) (fun h => (look_cons h).elim (fun e => by obtain ⟨rfl, rfl⟩ := e; exact ⟨T.er_TooMany, T.ki_TooMany_HuntError⟩) (fun h => (look_cons h).elim (fun e => by obtain ⟨rfl, rfl⟩ := e; exact ⟨T.er_Parts, T.ki_Parts_HuntError⟩) (fun h => (look_cons h).elim (fun e => by obtain ⟨rfl, rfl⟩ := e; exact ⟨T.er_BadText, T.ki_BadText_HuntError⟩) (fun h => (look_cons h).elim (fun e => by obtain ⟨rfl, rfl⟩ := e; exact ⟨T.er_NoName, T.ki_NoName_HuntError⟩) (fun h => (look_cons h).elim (fun e => by obtain ⟨rfl, rfl⟩ := e; exact ⟨T.er_BadLine, T.ki_BadLine_HuntError⟩) (fun h => (look_cons h).elim (fun e => by obtain ⟨rfl, rfl⟩ := e; exact ⟨T.er_HuntError, T.ki_HuntError_HuntError⟩) (fun h => nomatch h)))))))))))))))))))
def isi_ValueError : D → Option Bool := isF (fun _ => none) [] [("BadLength", true), ("BadPlace", true), ("BadRest", true), ("BadRow", true), ("BadChange", true), ("BadSpan", true), ("BadStep", true), ("BadNumber", true), ("BadForm", true), ("BadSpot", true), ("Overlap", true), ("NoStep", true), ("TooMany", true), ("Parts", true), ("BadText", true), ("NoName", true), ("BadLine", true), ("HuntError", true)]
theorem isT_ValueError (T : Tx K mg) : IsT ⟨K, Tb, p, c⟩ (.type "ValueError") isi_ValueError := isT_of (fun n k h => nomatch h) (fun c k h => nomatch h) (fun c k h => (look_cons h).elim (fun e => by obtain ⟨rfl, rfl⟩ := e; exact ⟨T.er_BadLength, T.ki_BadLength_ValueError⟩) (fun h => (look_cons h).elim (fun e => by obtain ⟨rfl, rfl⟩ := e; exact ⟨T.er_BadPlace, T.ki_BadPlace_ValueError⟩) (fun h => (look_cons h).elim (fun e => by obtain ⟨rfl, rfl⟩ := e; exact ⟨T.er_BadRest, T.ki_BadRest_ValueError⟩) (fun h => (look_cons h).elim (fun e => by obtain ⟨rfl, rfl⟩ := e; exact ⟨T.er_BadRow, T.ki_BadRow_ValueError⟩) (fun h => (look_cons h).elim (fun e => by obtain ⟨rfl, rfl⟩ := e; exact ⟨T.er_BadChange, T.ki_BadChange_ValueError⟩) (fun h => (look_cons h).elim (fun e => by obtain ⟨rfl, rfl⟩ := e; exact ⟨T.er_BadSpan, T.ki_BadSpan_ValueError⟩) (fun h => (look_cons h).elim (fun e => by obtain ⟨rfl, rfl⟩ := e; exact ⟨T.er_BadStep, T.ki_BadStep_ValueError⟩) (fun h => (look_cons h).elim (fun e => by obtain ⟨rfl, rfl⟩ := e; exact ⟨T.er_BadNumber, T.ki_BadNumber_ValueError⟩) (fun h => (look_cons h).elim (fun e => by obtain ⟨rfl, rfl⟩ := e; exact ⟨T.er_BadForm, T.ki_BadForm_ValueError⟩) (fun h => (look_cons h).elim (fun e => by obtain ⟨rfl, rfl⟩ := e; exact ⟨T.er_BadSpot, T.ki_BadSpot_ValueError⟩) (fun h => (look_cons h).elim (fun e => by obtain ⟨rfl, rfl⟩ := e; exact ⟨T.er_Overlap, T.ki_Overlap_ValueError⟩) (fun h => (look_cons h).elim (fun e => by obtain ⟨rfl, rfl⟩ := e; exact ⟨T.er_NoStep, T.ki_NoStep_ValueError⟩) (fun h => (look_cons h).elim (fun e => by obtain ⟨rfl, rfl⟩ := e; exact ⟨T.er_TooMany, T.ki_TooMany_ValueError⟩) (fun h => (look_cons h).elim (fun e => by obtain ⟨rfl, rfl⟩ := e; exact ⟨T.er_Parts, T.ki_Parts_ValueError⟩) (fun h => (look_cons h).elim (fun e => by obtain ⟨rfl, rfl⟩ := e; exact ⟨T.er_BadText, T.ki_BadText_ValueError⟩) (fun h => (look_cons h).elim (fun e => by obtain ⟨rfl, rfl⟩ := e; exact ⟨T.er_NoName, T.ki_NoName_ValueError⟩) (fun h => (look_cons h).elim (fun e => by obtain ⟨rfl, rfl⟩ := e; exact ⟨T.er_BadLine, T.ki_BadLine_ValueError⟩) (fun h => (look_cons h).elim (fun e => by obtain ⟨rfl, rfl⟩ := e; exact ⟨T.er_HuntError, T.ki_HuntError_ValueError⟩) (fun h => nomatch h)))))))))))))))))))
end
end Lw
end
section
set_option Elab.async false
set_option linter.all false
set_option maxRecDepth 100000
set_option maxHeartbeats 4000000
set_option pp.maxSteps 600
namespace Lw
open PySem PySem.Spec PyProof.Rows L2 Gh
local macro_rules | `(tactic| nofun) => `(tactic| (first | assumption | exact Ne.symm (by assumption) | (apply nw_pen'; (· assumption); (· assumption); (· ac_rfl)) | (apply Ne.symm; apply nw_pen'; (· assumption); (· assumption); (· ac_rfl)) | (apply nw_cell'; (· assumption); (· assumption); (· ac_rfl)) | (apply Ne.symm; apply nw_cell'; (· assumption); (· assumption); (· ac_rfl)) | (apply none_pen'; (· assumption); (· assumption); (· ac_rfl)) | (apply Ne.symm; apply none_pen'; (· assumption); (· assumption); (· ac_rfl)) | (apply none_cell'; (· assumption); (· assumption); (· ac_rfl)) | (apply Ne.symm; apply none_cell'; (· assumption); (· assumption); (· ac_rfl)) | (apply tup_pen'; (· assumption); (· assumption); (· ac_rfl)) | (apply Ne.symm; apply tup_pen'; (· assumption); (· assumption); (· ac_rfl)) | (apply tup_cell'; (· assumption); (· assumption); (· ac_rfl)) | (apply Ne.symm; apply tup_cell'; (· assumption); (· assumption); (· ac_rfl)) | (apply ins_pen'; (· assumption); (· assumption); (· ac_rfl)) | (apply Ne.symm; apply ins_pen'; (· assumption); (· assumption); (· ac_rfl)) | (apply ins_cell'; (· assumption); (· assumption); (· ac_rfl)) | (apply Ne.symm; apply ins_cell'; (· assumption); (· assumption); (· ac_rfl)) | (apply ins_lst; (· assumption); (· infer_instance)) | (apply Ne.symm; apply ins_lst; (· assumption); (· infer_instance)) | (apply ins_tup; (· assumption); (· infer_instance)) | (apply Ne.symm; apply ins_tup; (· assumption); (· infer_instance)) | (apply tup_lst; (· assumption); (· infer_instance)) | (apply Ne.symm; apply tup_lst; (· assumption); (· infer_instance)) | (apply nw_ne; (· assumption); (· infer_instance)) | (apply Ne.symm; apply nw_ne; (· assumption); (· infer_instance)) | (apply none_ne; (· assumption); (· infer_instance)) | (apply Ne.symm; apply none_ne; (· assumption); (· infer_instance))))
local macro_rules | `(tactic| ac_rfl) => `(tactic| ((repeat (first | assumption | (apply Pen.nw; (focus assumption)) | (apply Pen.same; (focus assumption)) | (apply Pen.mu; (focus assumption); (focus nofun); (focus nofun)) | (apply Pen.keep; (focus assumption); (focus nofun); (focus nofun)))); done))
local macro_rules | `(tactic| infer_instance) => `(tactic| ((repeat (first | assumption | (apply Nw.at_; assumption) | (apply Mu.at_; assumption) | (apply Nw.up; (focus assumption)) | (apply same_up; (focus assumption)) | (apply Mu.up; (focus assumption); (focus nofun)) | (apply keep_up; (focus assumption); (focus nofun)) | (apply keep2_up; (focus assumption); (focus nofun); (focus nofun)))); done))
local macro_rules | `(tactic| symm_saturate) => `(tactic| (repeat (first | with_reducible refine st_seq ?_ | with_reducible refine st_asg ?_ | with_reducible refine st_name ?_ | with_reducible refine st_ret ?_ | with_reducible refine st_drop ?_ | with_reducible refine st_ifS ?_ | with_reducible refine st_nx ?_ | with_reducible refine st_brk ?_ | with_reducible refine st_cnt ?_ | with_reducible refine st_c ?_ | with_reducible refine st_op ?_ | with_reducible refine st_un ?_ | with_reducible refine st_rI0 ?_ | with_reducible refine st_cons ?_ | with_reducible refine st_nil ?_ | with_reducible refine st_cl ?_ | with_reducible refine st_cb ?_ | with_reducible refine st_mt ?_ | with_reducible refine st_pr ?_ | with_reducible refine st_test ?_ | with_reducible refine st_ebl ?_ | with_reducible refine st_eint ?_ | with_reducible refine st_par ?_ | with_reducible refine st_par2 ?_ | with_reducible refine st_and ?_ | with_reducible refine st_or ?_ | with_reducible refine st_not ?_ | with_reducible refine st_andV ?_ | with_reducible refine st_orV ?_ | with_reducible refine st_notV ?_ | with_reducible refine st_ifE ?_ | with_reducible refine st_chain ?_ | with_reducible refine st_lst ?_ | with_reducible refine st_tup ?_ | with_reducible refine st_retN ?_ | with_reducible refine st_rU ?_ | with_reducible refine st_rAdd ?_ | with_reducible refine st_rSub ?_ | with_reducible refine st_isN ?_ | with_reducible refine st_notN ?_ | with_reducible refine st_sF ?_ | with_reducible refine st_int ?_ | with_reducible refine st_intB ?_ | with_reducible refine st_abs ?_ | with_reducible refine st_sl ?_ | with_reducible refine st_part ?_ | with_reducible refine st_nopart ?_ | with_reducible refine st_bm ?_ | with_reducible refine st_bm0 ?_ | with_reducible refine st_tyS ?_ | with_reducible refine st_gsub ?_ | with_reducible refine st_gcons ?_ | with_reducible refine st_gnil ?_ | with_reducible refine st_chain3 ?_ | with_reducible refine st_gsl ?_ | with_reducible refine st_clK ?_ | with_reducible refine st_mtK ?_ | with_reducible refine st_lcR1 ?_ | with_reducible refine st_lcR2 ?_ | with_reducible refine st_lcL ?_ | with_reducible refine st_lcT ?_ | with_reducible refine st_yes ?_ | with_reducible refine st_forR1 ?_ | with_reducible refine st_forR2 ?_ | with_reducible refine st_forL ?_ | with_reducible refine st_forT ?_ | with_reducible refine st_forE ?_ | with_reducible refine st_list ?_ | with_reducible refine st_itup ?_ | with_reducible refine st_tB ?_ | ((with_reducible apply st_var); exact rfl) | ((with_reducible apply st_aug); exact rfl) | ((with_reducible apply st_eq); exact rfl) | ((with_reducible apply st_ne); exact rfl) | ((with_reducible apply st_spK); (focus exact rfl); (focus exact rfl)) | ((with_reducible apply st_rI); (first | decide | (refine Or.inl ⟨?_, ?_⟩ <;> omega) | (refine Or.inr ⟨?_, ?_⟩ <;> omega) | (show (0 : Int) < _; omega) | exact ⟨by omega, log_of (by omega) (by omega)⟩ | exact ⟨by decide, by decide, by decide⟩)) | ((with_reducible apply st_powK); (focus exact ⟨by decide, by decide, by decide⟩); (focus decide)) | ((with_reducible apply st_eR1); (focus omega); (focus omega)) | ((with_reducible apply st_eR2); (focus omega)) | ((with_reducible apply st_if1); (first | with_reducible rfl | assumption | exact rfl | decide | (simp only [decide_eq_true_eq, decide_eq_false_iff_not, Bool.not_eq_true', Bool.not_eq_false', Bool.not_true, Bool.not_false, Bool.true_and, Bool.and_true, Bool.false_and, Bool.and_false, V.int.injEq, V.str.injEq, V.bl.injEq, V.ref.injEq, reduceCtorEq, not_true, not_false_eq_true, decide_true, decide_false, Int.not_lt, Int.not_le, ne_eq, List.length_cons, List.length_nil, List.length_map, List.length_append, List.length_set, List.length_take, List.length_drop] <;> omega))) | ((with_reducible apply st_if0); (first | with_reducible rfl | assumption | exact rfl | decide | (simp only [decide_eq_true_eq, decide_eq_false_iff_not, Bool.not_eq_true', Bool.not_eq_false', Bool.not_true, Bool.not_false, Bool.true_and, Bool.and_true, Bool.false_and, Bool.and_false, V.int.injEq, V.str.injEq, V.bl.injEq, V.ref.injEq, reduceCtorEq, not_true, not_false_eq_true, decide_true, decide_false, Int.not_lt, Int.not_le, ne_eq, List.length_cons, List.length_nil, List.length_map, List.length_append, List.length_set, List.length_take, List.length_drop] <;> omega))) | ((with_reducible apply st_lenL); (focus infer_instance)) | ((with_reducible apply st_lenT); (focus infer_instance)) | ((with_reducible apply st_tupT); (focus infer_instance)) | ((with_reducible apply st_tyL); (focus infer_instance)) | ((with_reducible apply st_elist); (focus infer_instance)) | ((with_reducible apply st_eitup); (focus infer_instance)) | ((with_reducible apply st_eE); (focus infer_instance)) | ((with_reducible apply st_epr); (focus infer_instance)) | ((with_reducible apply st_setO); (focus infer_instance)) | ((with_reducible apply st_ixO); (focus infer_instance)) | ((with_reducible apply st_ixLs); (focus assumption); (focus (first | exact rfl | exact atI_nat (by assumption)))) | ((with_reducible apply st_ixTs); (focus assumption); (focus (first | exact rfl | exact atI_nat (by assumption)))) | ((with_reducible apply st_fld); (focus infer_instance); (focus exact rfl)) | ((with_reducible apply st_const); (focus infer_instance); (focus exact rfl)) | ((with_reducible apply st_emt); (focus infer_instance); (focus exact rfl)) | ((with_reducible apply st_ixL); (focus infer_instance); (focus (first | exact rfl | exact atI_nat (by assumption)))) | ((with_reducible apply st_ixT); (focus infer_instance); (focus (first | exact rfl | exact atI_nat (by assumption)))) | ((with_reducible apply st_gtup); (focus infer_instance); (focus (first | exact rfl | exact atI_nat (by assumption)))))))
local macro_rules | `(tactic| subst_eqs) => `(tactic| (repeat (first | with_reducible refine st_seq ?_ | with_reducible refine st_asg ?_ | with_reducible refine st_name ?_ | with_reducible refine st_ret ?_ | with_reducible refine st_drop ?_ | with_reducible refine st_ifS ?_ | with_reducible refine st_nx ?_ | with_reducible refine st_brk ?_ | with_reducible refine st_cnt ?_ | with_reducible refine st_c ?_ | with_reducible refine st_op ?_ | with_reducible refine st_un ?_ | with_reducible refine st_rI0 ?_ | with_reducible refine st_cons ?_ | with_reducible refine st_nil ?_ | with_reducible refine st_cl ?_ | with_reducible refine st_cb ?_ | with_reducible refine st_mt ?_ | with_reducible refine st_pr ?_ | with_reducible refine st_test ?_ | with_reducible refine st_ebl ?_ | with_reducible refine st_eint ?_ | with_reducible refine st_par ?_ | with_reducible refine st_par2 ?_ | with_reducible refine st_and ?_ | with_reducible refine st_or ?_ | with_reducible refine st_not ?_ | with_reducible refine st_andV ?_ | with_reducible refine st_orV ?_ | with_reducible refine st_notV ?_ | with_reducible refine st_ifE ?_ | with_reducible refine st_chain ?_ | with_reducible refine st_lst ?_ | with_reducible refine st_tup ?_ | with_reducible refine st_retN ?_ | with_reducible refine st_rU ?_ | with_reducible refine st_rAdd ?_ | with_reducible refine st_rSub ?_ | with_reducible refine st_isN ?_ | with_reducible refine st_notN ?_ | with_reducible refine st_sF ?_ | with_reducible refine st_int ?_ | with_reducible refine st_intB ?_ | with_reducible refine st_abs ?_ | with_reducible refine st_sl ?_ | with_reducible refine st_part ?_ | with_reducible refine st_nopart ?_ | with_reducible refine st_bm ?_ | with_reducible refine st_bm0 ?_ | with_reducible refine st_tyS ?_ | with_reducible refine st_gsub ?_ | with_reducible refine st_gcons ?_ | with_reducible refine st_gnil ?_ | with_reducible refine st_chain3 ?_ | with_reducible refine st_gsl ?_ | with_reducible refine st_clK ?_ | with_reducible refine st_mtK ?_ | with_reducible refine st_lcR1 ?_ | with_reducible refine st_lcR2 ?_ | with_reducible refine st_lcL ?_ | with_reducible refine st_lcT ?_ | with_reducible refine st_yes ?_ | with_reducible refine st_forR1 ?_ | with_reducible refine st_forR2 ?_ | with_reducible refine st_forL ?_ | with_reducible refine st_forT ?_ | with_reducible refine st_forE ?_ | with_reducible refine st_list ?_ | with_reducible refine st_itup ?_ | with_reducible refine st_tB ?_ | ((with_reducible apply st_var); exact rfl) | ((with_reducible apply st_aug); exact rfl) | ((with_reducible apply st_eq); exact rfl) | ((with_reducible apply st_ne); exact rfl) | ((with_reducible apply st_spK); (focus exact rfl); (focus exact rfl)) | ((with_reducible apply st_rI); (first | decide | (refine Or.inl ⟨?_, ?_⟩ <;> omega) | (refine Or.inr ⟨?_, ?_⟩ <;> omega) | (show (0 : Int) < _; omega) | exact ⟨by omega, log_of (by omega) (by omega)⟩ | exact ⟨by decide, by decide, by decide⟩)) | ((with_reducible apply st_powK); (focus exact ⟨by decide, by decide, by decide⟩); (focus decide)) | ((with_reducible apply st_eR1); (focus omega); (focus omega)) | ((with_reducible apply st_eR2); (focus omega)) | ((with_reducible apply st_if1); (first | with_reducible rfl | assumption | exact rfl | decide | (simp only [decide_eq_true_eq, decide_eq_false_iff_not, Bool.not_eq_true', Bool.not_eq_false', Bool.not_true, Bool.not_false, Bool.true_and, Bool.and_true, Bool.false_and, Bool.and_false, V.int.injEq, V.str.injEq, V.bl.injEq, V.ref.injEq, reduceCtorEq, not_true, not_false_eq_true, decide_true, decide_false, Int.not_lt, Int.not_le, ne_eq, List.length_cons, List.length_nil, List.length_map, List.length_append, List.length_set, List.length_take, List.length_drop] <;> omega))) | ((with_reducible apply st_if0); (first | with_reducible rfl | assumption | exact rfl | decide | (simp only [decide_eq_true_eq, decide_eq_false_iff_not, Bool.not_eq_true', Bool.not_eq_false', Bool.not_true, Bool.not_false, Bool.true_and, Bool.and_true, Bool.false_and, Bool.and_false, V.int.injEq, V.str.injEq, V.bl.injEq, V.ref.injEq, reduceCtorEq, not_true, not_false_eq_true, decide_true, decide_false, Int.not_lt, Int.not_le, ne_eq, List.length_cons, List.length_nil, List.length_map, List.length_append, List.length_set, List.length_take, List.length_drop] <;> omega))) | ((with_reducible apply st_lenL); (focus infer_instance)) | ((with_reducible apply st_lenT); (focus infer_instance)) | ((with_reducible apply st_tupT); (focus infer_instance)) | ((with_reducible apply st_tyL); (focus infer_instance)) | ((with_reducible apply st_elist); (focus infer_instance)) | ((with_reducible apply st_eitup); (focus infer_instance)) | ((with_reducible apply st_eE); (focus infer_instance)) | ((with_reducible apply st_epr); (focus infer_instance)) | ((with_reducible apply st_setO); (focus infer_instance)) | ((with_reducible apply st_ixO); (focus infer_instance)) | ((with_reducible apply st_ixLs); (focus assumption); (focus (first | exact rfl | exact atI_nat (by assumption)))) | ((with_reducible apply st_ixTs); (focus assumption); (focus (first | exact rfl | exact atI_nat (by assumption)))) | ((with_reducible apply st_fld); (focus infer_instance); (focus exact rfl)) | ((with_reducible apply st_const); (focus infer_instance); (focus exact rfl)) | ((with_reducible apply st_emt); (focus infer_instance); (focus exact rfl)) | ((with_reducible apply st_ixL); (focus infer_instance); (focus (first | exact rfl | exact atI_nat (by assumption)))) | ((with_reducible apply st_ixT); (focus infer_instance); (focus (first | exact rfl | exact atI_nat (by assumption)))) | ((with_reducible apply st_gtup); (focus infer_instance); (focus (first | exact rfl | exact atI_nat (by assumption)))) | ((with_reducible apply st_newL); (focus (refine len_ok ?_; simp only [List.length_cons, List.length_nil, List.length_append, List.length_map, List.length_set, List.length_take, List.length_drop]; omega)); intro l Hn nw) | ((with_reducible apply st_newT); (focus (refine len_ok ?_; simp only [List.length_cons, List.length_nil, List.length_append, List.length_map, List.length_set, List.length_take, List.length_drop]; omega)); intro l Hn nw) | ((with_reducible apply st_listL); (focus infer_instance); intro l Hn nw) | ((with_reducible apply st_listT); (focus infer_instance); intro l Hn nw) | ((with_reducible apply st_tupL); (focus infer_instance); intro l Hn nw) | ((with_reducible apply st_slL); (focus infer_instance); intro l Hn nw) | ((with_reducible apply st_cat); (focus infer_instance); (focus infer_instance); (focus (refine len_ok ?_; simp only [List.length_cons, List.length_nil, List.length_append, List.length_map, List.length_set, List.length_take, List.length_drop]; omega)); intro l Hn nw))))
section
variable {P : Program} {w : World} {K : PySem.W.Frag} {mg : Str → Option Value} {base : Heap} {f : Addr} {fd : FuncData} {Tb : List (Addr × Str)}
abbrev N__law_pen : List Str := ["_law_script"]
theorem sc__law_pen : FnScope N__law_pen ["_law_script"] (defScope s__law_pen) := ⟨rfl, rfl, rfl, by decide +kernel, rfl, by decide +kernel, by decide +kernel⟩
theorem ok0__law_pen (F : FnA K d__law_pen fd) (T : Tx K mg) : FnOk P w K mg base CX0 1 (d__law_pen.adr K) fd ["_law_script"] (spPn K) := by
  refine fnO0 F sc__law_pen (fun vs H Q E h => by (repeat (first | (obtain ⟨rfl, _⟩ := h; rfl) | (obtain ⟨_, h⟩ := h)))) (fun cdv A outer s H vs Q E hr h => ?_)
  refine ⟨_, (pss_one (ps_ret (pe_lst (pa_cons (pe_callTy (cr_listOf (K := K) rfl) (by rfl) T.f_list (by decide +kernel) (pa_cons (pe_slice (sl_listK (K := K) rfl) (pv 0) po_none (po_some pe_int)) pa_nil)) (pa_cons pe_int (pa_cons pe_int pa_nil)))))), ?_⟩
  obtain ⟨a, ns, rfl, hS, hl, q⟩ := h
  have ec : cutV (ns.map V.int) none (some 63) = ns.map V.int := cut_all (by rw [List.length_map]; exact hl)
  symm_saturate
  refine st_slLs hS fun c H1 n1 => ?_
  rw [ec] at n1
  symm_saturate
  refine st_listL (by infer_instance) fun e H2 n2 => ?_
  symm_saturate
  refine st_newL (by (refine len_ok ?_; simp only [List.length_cons, List.length_nil, List.length_append, List.length_map, List.length_set, List.length_take, List.length_drop]; omega)) fun p H3 n3 => ?_
  refine q p e _ (n1.same.free (n2.same.free n3.no)) ⟨ns, 0, 0, by infer_instance, by infer_instance, hl, Int.le_refl _, by decide, Int.le_refl _⟩ (n1.same.trans (n2.same.trans n3.same))
abbrev N__law_draw : List Str := ["_law_pen_here", "_law_many", "_law_begun", "_law_cell", "_law_mixed", "_law_digit", "_law_great"]
theorem sc__law_draw : FnScope N__law_draw ["_law_pen_here", "_law_many"] (defScope s__law_draw) := ⟨rfl, rfl, rfl, by decide +kernel, rfl, by decide +kernel, by decide +kernel⟩
theorem ok0__law_draw (F : FnA K d__law_draw fd) (T : Tx K mg) : FnOk P w K mg base CX0 1 (d__law_draw.adr K) fd ["_law_pen_here", "_law_many"] spDr := by
  refine fnO0 F sc__law_draw (fun vs H Q E h => by (repeat (first | (obtain ⟨rfl, _⟩ := h; rfl) | (obtain ⟨_, h⟩ := h)))) (fun cdv A outer s H vs Q E hr h => ?_)
  refine ⟨_, (pss_cons (ps_if (pt_cmpR op_gt (pe_ix (ix_listK (K := K) rfl) (pv 0) pe_int (fun _ _ => rfl)) pe_int (nomark _))
      (pss_cons (ps_set (i := 5) sc__law_draw.nd rfl (.inl rfl) (pe_op op_mod (pe_callTy cr_int (by rfl) T.f_int (by decide +kernel) (pa_cons (pe_ix (ix_listK (K := K) rfl) (pv 0) pe_int (fun _ _ => rfl)) pa_nil)) (pv 1)))
      (pss_cons (ps_asg (pe_op op_fdivW (pe_callTy cr_int (by rfl) T.f_int (by decide +kernel) (pa_cons (pe_ix (ix_listK (K := K) rfl) (pv 0) pe_int (fun _ _ => rfl)) pa_nil)) (pv 1)) (pg_sub (pv 0) pe_int set_list))
      (pss_one (ps_ret (pv 5))))) pss_nil)
      (pss_cons (ps_set (i := 2) sc__law_draw.nd rfl (.inl rfl) (pe_ix (ix_listK (K := K) rfl) (pv 0) pe_int (fun _ _ => rfl)))
      (pss_cons (ps_asg (pe_op op_add (pv 2) pe_int) (pg_sub (pv 0) pe_int set_list))
      (pss_cons (ps_set (i := 3) sc__law_draw.nd rfl (.inl rfl) (pe_op op_add (pe_op op_mul pe_int (pv 2)) pe_int))
      (pss_cut (ps_if (pt_cmpR (op_neDK (K := K) rfl hr.units) (pe_ix (ix_listK (K := K) rfl) (pv 0) pe_int (fun _ _ => rfl)) (pe_lst pa_nil) (nomark _))
      (pss_one (ps_set (i := 3) sc__law_draw.nd rfl (.inl rfl) (pe_ix (ix_listK (K := K) rfl) (pe_ix (ix_listK (K := K) rfl) (pv 0) pe_int (fun _ _ => rfl)) (pe_op op_mod (pe_callTy cr_int (by rfl) T.f_int (by decide +kernel) (pa_cons (pv 2) pa_nil)) (pe_callB (cr_len (K := K) rfl) (by rfl) T.f_len (by decide +kernel) (pa_cons (pe_ix (ix_listK (K := K) rfl) (pv 0) pe_int (fun _ _ => rfl)) pa_nil))) (fun _ _ => rfl)))) pss_nil)
      (pss_cut (ps_if (PW.pt (pw_and (pt_cmpR op_lt (pv 2) (pe_callB (cr_len (K := K) rfl) (by rfl) T.f_len (by decide +kernel) (pa_cons (pe_ix (ix_listK (K := K) rfl) (pv 0) pe_int (fun _ _ => rfl)) pa_nil)) (nomark _)) (pw_and1 (pt_cmpR op_ge (pe_callB cr_abs (by rfl) T.f_abs (by decide +kernel) (pa_cons (pv 3) pa_nil)) (pe_op (op_powK 1000000000000000000) pe_int pe_int) (nomark _)))))
      (pss_cons (ps_set (i := 6) sc__law_draw.nd rfl (.inl rfl) (pe_op op_add (pe_op op_mul pe_int (pe_op op_sub (pe_callB cr_abs (by rfl) T.f_abs (by decide +kernel) (pa_cons (pv 3) pa_nil)) (pe_op (op_powK 1000000000000000000) pe_int pe_int))) (pe_callTy cr_int (by rfl) T.f_int (by decide +kernel) (pa_cons (pe_cmpR op_lt (pv 3) pe_int (nomark _)) pa_nil))))
      (pss_cons (ps_asg (pe_op op_fdivW (pe_callTy cr_int (by rfl) T.f_int (by decide +kernel) (pa_cons (pv 6) pa_nil)) (pv 1)) (pg_sub (pv 0) pe_int set_list))
      (pss_one (ps_ret (pe_op op_mod (pe_callTy cr_int (by rfl) T.f_int (by decide +kernel) (pa_cons (pv 6) pa_nil)) (pv 1)))))) pss_nil)
      (pss_cons (ps_set (i := 4) sc__law_draw.nd rfl (.inl rfl) (pe_op op_mod (pe_callTy cr_int (by rfl) T.f_int (by decide +kernel) (pa_cons (pe_op op_pow (pe_op op_add (pe_op op_add (pe_op op_mod (pe_callTy cr_int (by rfl) T.f_int (by decide +kernel) (pa_cons (pv 3) pa_nil)) pe_int) (pe_op op_mul pe_int (pv 2))) pe_int) pe_int) pa_nil)) pe_int))
      (pss_cons (ps_set (i := 4) sc__law_draw.nd rfl (.inl rfl) (pe_op op_mod (pe_callTy cr_int (by rfl) T.f_int (by decide +kernel) (pa_cons (pe_op op_pow (pe_op op_add (pe_op op_add (pe_op op_mul (pv 4) (pe_op op_add (pe_op op_mul pe_int (pv 2)) pe_int)) (pe_op op_mul (pe_op op_mul pe_int (pv 2)) (pv 2))) pe_int) pe_int) pa_nil)) pe_int))
      (pss_one (ps_ret (pe_op op_mod (pe_callTy cr_int (by rfl) T.f_int (by decide +kernel) (pa_cons (pe_op op_fdivW (pv 4) pe_int) pa_nil)) (pv 1)))))))))))), ?_⟩
  obtain ⟨p, c, b, m, rfl, hm, hlog, ⟨ns, i, z, hp, hc, hl, hi, hb, hz⟩, q⟩ := h
  have ncp : c ≠ p := pen_ne hp hc
  have mm := fun x : Int => mod_lt x hm
  have hdiv : ∀ x, CDivW x m := fun _ => ⟨hm, hlog⟩
  symm_saturate
  refine ite2 (fun h1 => ?_) (fun h1 => ?_)
  · symm_saturate
    refine st_rI (hdiv _) ?_
    symm_saturate
    refine st_setL hp rfl fun H1 n1 => ?_
    symm_saturate
    exact q _ _ (mm z).1 (mm z).2 ⟨ns, i, z / m, by infer_instance, by infer_instance, hl, hi, by omega, Int.ediv_nonneg hz (by omega)⟩ n1.keep
  · have z0 : z = 0 := by
      have : ¬ (z > 0) := by simpa using h1
      omega
    subst z0
    symm_saturate
    refine st_setL hp rfl fun H2 n2 => ?_
    have hp2 : H2 p = some (.lst [.ref c, .int (i + 1), .int 0]) := n2.at_
    have hc2 : H2 c = some (.lst (ns.map V.int)) := by infer_instance
    have k2 := n2.keep
    clear n2
    symm_saturate
    refine ⟨fun σ' H' => ∃ cell : Int, σ' = [some (.ref p), some (.int m), some (.int i), some (.int cell), none, none, none] ∧ H' p = some (.lst [.ref c, .int (i + 1), .int 0]) ∧ H' c = some (.lst (ns.map V.int)) ∧ Keep H H' p, ?_, ?_⟩
    · -- if the cells are not empty
      symm_saturate
      refine st_newL (by (refine len_ok ?_; simp only [List.length_cons, List.length_nil, List.length_append, List.length_map, List.length_set, List.length_take, List.length_drop]; omega)) fun e H3 n3 => ?_
      have hp3 : H3 p = some (.lst [.ref c, .int (i + 1), .int 0]) := by infer_instance
      have hc3 : H3 c = some (.lst (ns.map V.int)) := by infer_instance
      have k3 : Keep H H3 p := fun a o h1 h2 => n3.up (k2 _ _ h1 h2)
      refine st_neD (.lst (SqL.of hc3) (dp_ints K _ ns)) (.lst (SqL.of n3.at_) .nil) (PySem.W.ke_shaped_ints ns) (by decide +kernel) ?_
      clear n3
      symm_saturate
      refine ite2 (fun h2 => ?_) (fun h2 => ?_)
      · have hne : 0 < ns.length := by
          rw [eqv_nil] at h2
          cases ns with
          | nil => cases h2
          | cons a r => exact Nat.succ_pos _
        have hlen : (0 : Int) < ((ns.map V.int).length : Int) := by rw [List.length_map]; omega
        have mi := mod_lt i hlen
        obtain ⟨v, ev, _⟩ := atI_int (ns := ns) (i := i % ((ns.map V.int).length : Int)) mi.1 (by have := mi.2; rw [List.length_map] at this ⊢; exact this)
        symm_saturate
        refine st_ixL hc3 ev ?_
        symm_saturate
        exact ⟨v, rfl, hp3, hc3, k3⟩
      · symm_saturate
        exact ⟨_, rfl, hp3, hc3, k3⟩
    · rintro σ' H' ⟨cell, rfl, hp3, hc3, k3⟩
      -- a great cell?
      refine ⟨fun σ1 H1 => σ1 = [some (.ref p), some (.int m), some (.int i), some (.int cell), none, none, none] ∧ H1 = H', ?_, ?_⟩
      · symm_saturate
        refine ite2 (fun _ => ?_) (fun _ => ?_)
        · symm_saturate
          refine ite2 (fun h3 => ?_) (fun _ => ?_)
          · have hab : 1000000000000000000 ≤ (if cell < 0 then -cell else cell) := by simpa using h3
            symm_saturate
            have hgr : 0 ≤ 2 * ((if cell < 0 then -cell else cell) - 1000000000000000000) + (if decide (cell < 0) = true then 1 else 0) := by
              have : (0 : Int) ≤ (if decide (cell < 0) = true then 1 else 0) := by split <;> decide
              omega
            refine st_rI (hdiv _) ?_
            symm_saturate
            refine st_setL hp3 rfl fun H4 n4 => ?_
            symm_saturate
            refine q _ _ (mm _).1 (mm _).2 ⟨ns, i + 1, _, n4.at_, by infer_instance, hl, by omega, by omega, Int.ediv_nonneg hgr (by omega)⟩ (k3.trans n4.keep)
          · symm_saturate
            exact ⟨rfl, rfl⟩
        · symm_saturate
          exact ⟨rfl, rfl⟩
      · rintro σ1 H1 ⟨rfl, rfl⟩
        have hi2 : i ≤ 1000000 := by omega
        -- the first mix
        symm_saturate
        refine st_rI ⟨by decide, by decide, ?_⟩ ?_
        · refine pow_lt ?_ ?_ <;> omega
        have hx := mod_lt ((cell % 2147483629 + 45042 * i + 212) ^ (5 : Int).toNat) (show (0 : Int) < 2147483563 by decide)
        -- the second one
        symm_saturate
        refine st_rI ⟨by decide, by decide, ?_⟩ ?_
        · exact mix_ok hx.1 (Int.lt_trans hx.2 (by decide)) hi hi2 ⟨by decide, by decide⟩ ⟨by decide, by decide⟩ ⟨by decide, by decide⟩
        symm_saturate
        exact q _ _ (mm _).1 (mm _).2 ⟨ns, i + 1, 0, hp3, hc3, hl, by omega, by omega, Int.le_refl _⟩ k3
theorem ok__law_pen (F : FnA K d__law_pen fd) (T : Tx K mg) : FnOk P w K mg base CX0 1 (d__law_pen.adr K) fd ["_law_script"] (spPn K) := ok0__law_pen F T
theorem ok__law_draw (F : FnA K d__law_draw fd) (T : Tx K mg) : FnOk P w K mg base CX0 1 (d__law_draw.adr K) fd ["_law_pen_here", "_law_many"] (Gp.spF K Tb (Gp.ul2 Gp.F_draw)) := Gp.fnOk_weak (ok0__law_draw F T) fun _ _ _ _ => Gp.draw_of
end
end Lw
end
section
set_option Elab.async false
set_option linter.all false
set_option maxRecDepth 100000
set_option maxHeartbeats 4000000
set_option pp.maxSteps 600
namespace Lw
open PySem PySem.Spec PyProof.Rows L2 Gh Gp Gz
section
variable {P : Program} {w : World} {K : PySem.W.Frag} {mg : Str → Option Value} {base : Heap} {f : Addr} {fd : FuncData} {Tb : List (Addr × Str)}
abbrev N_BadLength___init__ : List Str := ["self", "value"]
theorem sc_BadLength___init__ : FnScope N_BadLength___init__ ["self", "value"] (defScope s_BadLength___init__) := ⟨rfl, rfl, rfl, by decide +kernel, rfl, by decide +kernel, by decide +kernel⟩
theorem ok_BadLength___init__ (F : FnA K d_BadLength___init__ fd) (T : Tx K mg) : FnOk P w K mg base CX0 1 (d_BadLength___init__.adr K) fd ["self", "value"] (spErr1 (gd "BadLength" K) "value") := by
  refine fnO0 F sc_BadLength___init__ (fun vs H Q E h => ?_) (fun cdv A outer s H vs Q E hr h => ?_)
  · obtain ⟨a, v, rfl, _⟩ := h
    rfl
  · obtain ⟨a, v, rfl, ha, q⟩ := h
    refine ⟨_, pss_one (ps_ost (pv 0) (pv 1)), ?_⟩
    exact ⟨_, rfl, _, rfl, a, _, rfl, T.ox_BadLength, T.n_BadLength_value, .inl ⟨ha, q⟩⟩
abbrev N_BadPlace___init__ : List Str := ["self", "value"]
theorem sc_BadPlace___init__ : FnScope N_BadPlace___init__ ["self", "value"] (defScope s_BadPlace___init__) := ⟨rfl, rfl, rfl, by decide +kernel, rfl, by decide +kernel, by decide +kernel⟩
theorem ok_BadPlace___init__ (F : FnA K d_BadPlace___init__ fd) (T : Tx K mg) : FnOk P w K mg base CX0 1 (d_BadPlace___init__.adr K) fd ["self", "value"] (spErr1 (gd "BadPlace" K) "value") := by
  refine fnO0 F sc_BadPlace___init__ (fun vs H Q E h => ?_) (fun cdv A outer s H vs Q E hr h => ?_)
  · obtain ⟨a, v, rfl, _⟩ := h
    rfl
  · obtain ⟨a, v, rfl, ha, q⟩ := h
    refine ⟨_, pss_one (ps_ost (pv 0) (pv 1)), ?_⟩
    exact ⟨_, rfl, _, rfl, a, _, rfl, T.ox_BadPlace, T.n_BadPlace_value, .inl ⟨ha, q⟩⟩
abbrev N_BadRest___init__ : List Str := ["self", "value"]
theorem sc_BadRest___init__ : FnScope N_BadRest___init__ ["self", "value"] (defScope s_BadRest___init__) := ⟨rfl, rfl, rfl, by decide +kernel, rfl, by decide +kernel, by decide +kernel⟩
theorem ok_BadRest___init__ (F : FnA K d_BadRest___init__ fd) (T : Tx K mg) : FnOk P w K mg base CX0 1 (d_BadRest___init__.adr K) fd ["self", "value"] (spErr1 (gd "BadRest" K) "value") := by
  refine fnO0 F sc_BadRest___init__ (fun vs H Q E h => ?_) (fun cdv A outer s H vs Q E hr h => ?_)
  · obtain ⟨a, v, rfl, _⟩ := h
    rfl
  · obtain ⟨a, v, rfl, ha, q⟩ := h
    refine ⟨_, pss_one (ps_ost (pv 0) (pv 1)), ?_⟩
    exact ⟨_, rfl, _, rfl, a, _, rfl, T.ox_BadRest, T.n_BadRest_value, .inl ⟨ha, q⟩⟩
abbrev N_BadRow___init__ : List Str := ["self", "at"]
theorem sc_BadRow___init__ : FnScope N_BadRow___init__ ["self", "at"] (defScope s_BadRow___init__) := ⟨rfl, rfl, rfl, by decide +kernel, rfl, by decide +kernel, by decide +kernel⟩
theorem ok_BadRow___init__ (F : FnA K d_BadRow___init__ fd) (T : Tx K mg) : FnOk P w K mg base CX0 1 (d_BadRow___init__.adr K) fd ["self", "at"] (spErr1 (gd "BadRow" K) "at") := by
  refine fnO0 F sc_BadRow___init__ (fun vs H Q E h => ?_) (fun cdv A outer s H vs Q E hr h => ?_)
  · obtain ⟨a, v, rfl, _⟩ := h
    rfl
  · obtain ⟨a, v, rfl, ha, q⟩ := h
    refine ⟨_, pss_one (ps_ost (pv 0) (pv 1)), ?_⟩
    exact ⟨_, rfl, _, rfl, a, _, rfl, T.ox_BadRow, T.n_BadRow_at, .inl ⟨ha, q⟩⟩
abbrev N_BadChange___init__ : List Str := ["self", "part"]
theorem sc_BadChange___init__ : FnScope N_BadChange___init__ ["self", "part"] (defScope s_BadChange___init__) := ⟨rfl, rfl, rfl, by decide +kernel, rfl, by decide +kernel, by decide +kernel⟩
theorem ok_BadChange___init__ (F : FnA K d_BadChange___init__ fd) (T : Tx K mg) : FnOk P w K mg base CX0 1 (d_BadChange___init__.adr K) fd ["self", "part"] (spErr1 (gd "BadChange" K) "part") := by
  refine fnO0 F sc_BadChange___init__ (fun vs H Q E h => ?_) (fun cdv A outer s H vs Q E hr h => ?_)
  · obtain ⟨a, v, rfl, _⟩ := h
    rfl
  · obtain ⟨a, v, rfl, ha, q⟩ := h
    refine ⟨_, pss_one (ps_ost (pv 0) (pv 1)), ?_⟩
    exact ⟨_, rfl, _, rfl, a, _, rfl, T.ox_BadChange, T.n_BadChange_part, .inl ⟨ha, q⟩⟩
abbrev N_BadSpan___init__ : List Str := ["self", "part"]
theorem sc_BadSpan___init__ : FnScope N_BadSpan___init__ ["self", "part"] (defScope s_BadSpan___init__) := ⟨rfl, rfl, rfl, by decide +kernel, rfl, by decide +kernel, by decide +kernel⟩
theorem ok_BadSpan___init__ (F : FnA K d_BadSpan___init__ fd) (T : Tx K mg) : FnOk P w K mg base CX0 1 (d_BadSpan___init__.adr K) fd ["self", "part"] (spErr1 (gd "BadSpan" K) "part") := by
  refine fnO0 F sc_BadSpan___init__ (fun vs H Q E h => ?_) (fun cdv A outer s H vs Q E hr h => ?_)
  · obtain ⟨a, v, rfl, _⟩ := h
    rfl
  · obtain ⟨a, v, rfl, ha, q⟩ := h
    refine ⟨_, pss_one (ps_ost (pv 0) (pv 1)), ?_⟩
    exact ⟨_, rfl, _, rfl, a, _, rfl, T.ox_BadSpan, T.n_BadSpan_part, .inl ⟨ha, q⟩⟩
abbrev N_BadStep___init__ : List Str := ["self", "at"]
theorem sc_BadStep___init__ : FnScope N_BadStep___init__ ["self", "at"] (defScope s_BadStep___init__) := ⟨rfl, rfl, rfl, by decide +kernel, rfl, by decide +kernel, by decide +kernel⟩
theorem ok_BadStep___init__ (F : FnA K d_BadStep___init__ fd) (T : Tx K mg) : FnOk P w K mg base CX0 1 (d_BadStep___init__.adr K) fd ["self", "at"] (spErr1 (gd "BadStep" K) "at") := by
  refine fnO0 F sc_BadStep___init__ (fun vs H Q E h => ?_) (fun cdv A outer s H vs Q E hr h => ?_)
  · obtain ⟨a, v, rfl, _⟩ := h
    rfl
  · obtain ⟨a, v, rfl, ha, q⟩ := h
    refine ⟨_, pss_one (ps_ost (pv 0) (pv 1)), ?_⟩
    exact ⟨_, rfl, _, rfl, a, _, rfl, T.ox_BadStep, T.n_BadStep_at, .inl ⟨ha, q⟩⟩
abbrev N_BadNumber___init__ : List Str := ["self", "value"]
theorem sc_BadNumber___init__ : FnScope N_BadNumber___init__ ["self", "value"] (defScope s_BadNumber___init__) := ⟨rfl, rfl, rfl, by decide +kernel, rfl, by decide +kernel, by decide +kernel⟩
theorem ok_BadNumber___init__ (F : FnA K d_BadNumber___init__ fd) (T : Tx K mg) : FnOk P w K mg base CX0 1 (d_BadNumber___init__.adr K) fd ["self", "value"] (spErr1 (gd "BadNumber" K) "value") := by
  refine fnO0 F sc_BadNumber___init__ (fun vs H Q E h => ?_) (fun cdv A outer s H vs Q E hr h => ?_)
  · obtain ⟨a, v, rfl, _⟩ := h
    rfl
  · obtain ⟨a, v, rfl, ha, q⟩ := h
    refine ⟨_, pss_one (ps_ost (pv 0) (pv 1)), ?_⟩
    exact ⟨_, rfl, _, rfl, a, _, rfl, T.ox_BadNumber, T.n_BadNumber_value, .inl ⟨ha, q⟩⟩
abbrev N_BadForm___init__ : List Str := ["self", "part"]
theorem sc_BadForm___init__ : FnScope N_BadForm___init__ ["self", "part"] (defScope s_BadForm___init__) := ⟨rfl, rfl, rfl, by decide +kernel, rfl, by decide +kernel, by decide +kernel⟩
theorem ok_BadForm___init__ (F : FnA K d_BadForm___init__ fd) (T : Tx K mg) : FnOk P w K mg base CX0 1 (d_BadForm___init__.adr K) fd ["self", "part"] (spErr1 (gd "BadForm" K) "part") := by
  refine fnO0 F sc_BadForm___init__ (fun vs H Q E h => ?_) (fun cdv A outer s H vs Q E hr h => ?_)
  · obtain ⟨a, v, rfl, _⟩ := h
    rfl
  · obtain ⟨a, v, rfl, ha, q⟩ := h
    refine ⟨_, pss_one (ps_ost (pv 0) (pv 1)), ?_⟩
    exact ⟨_, rfl, _, rfl, a, _, rfl, T.ox_BadForm, T.n_BadForm_part, .inl ⟨ha, q⟩⟩
abbrev N_BadSpot___init__ : List Str := ["self", "part"]
theorem sc_BadSpot___init__ : FnScope N_BadSpot___init__ ["self", "part"] (defScope s_BadSpot___init__) := ⟨rfl, rfl, rfl, by decide +kernel, rfl, by decide +kernel, by decide +kernel⟩
theorem ok_BadSpot___init__ (F : FnA K d_BadSpot___init__ fd) (T : Tx K mg) : FnOk P w K mg base CX0 1 (d_BadSpot___init__.adr K) fd ["self", "part"] (spErr1 (gd "BadSpot" K) "part") := by
  refine fnO0 F sc_BadSpot___init__ (fun vs H Q E h => ?_) (fun cdv A outer s H vs Q E hr h => ?_)
  · obtain ⟨a, v, rfl, _⟩ := h
    rfl
  · obtain ⟨a, v, rfl, ha, q⟩ := h
    refine ⟨_, pss_one (ps_ost (pv 0) (pv 1)), ?_⟩
    exact ⟨_, rfl, _, rfl, a, _, rfl, T.ox_BadSpot, T.n_BadSpot_part, .inl ⟨ha, q⟩⟩
abbrev N_Overlap___init__ : List Str := ["self", "length"]
theorem sc_Overlap___init__ : FnScope N_Overlap___init__ ["self", "length"] (defScope s_Overlap___init__) := ⟨rfl, rfl, rfl, by decide +kernel, rfl, by decide +kernel, by decide +kernel⟩
theorem ok_Overlap___init__ (F : FnA K d_Overlap___init__ fd) (T : Tx K mg) : FnOk P w K mg base CX0 1 (d_Overlap___init__.adr K) fd ["self", "length"] (spErr1 (gd "Overlap" K) "length") := by
  refine fnO0 F sc_Overlap___init__ (fun vs H Q E h => ?_) (fun cdv A outer s H vs Q E hr h => ?_)
  · obtain ⟨a, v, rfl, _⟩ := h
    rfl
  · obtain ⟨a, v, rfl, ha, q⟩ := h
    refine ⟨_, pss_one (ps_ost (pv 0) (pv 1)), ?_⟩
    exact ⟨_, rfl, _, rfl, a, _, rfl, T.ox_Overlap, T.n_Overlap_length, .inl ⟨ha, q⟩⟩
abbrev N_NoStep___init__ : List Str := ["self", "index"]
theorem sc_NoStep___init__ : FnScope N_NoStep___init__ ["self", "index"] (defScope s_NoStep___init__) := ⟨rfl, rfl, rfl, by decide +kernel, rfl, by decide +kernel, by decide +kernel⟩
theorem ok_NoStep___init__ (F : FnA K d_NoStep___init__ fd) (T : Tx K mg) : FnOk P w K mg base CX0 1 (d_NoStep___init__.adr K) fd ["self", "index"] (spErr1 (gd "NoStep" K) "index") := by
  refine fnO0 F sc_NoStep___init__ (fun vs H Q E h => ?_) (fun cdv A outer s H vs Q E hr h => ?_)
  · obtain ⟨a, v, rfl, _⟩ := h
    rfl
  · obtain ⟨a, v, rfl, ha, q⟩ := h
    refine ⟨_, pss_one (ps_ost (pv 0) (pv 1)), ?_⟩
    exact ⟨_, rfl, _, rfl, a, _, rfl, T.ox_NoStep, T.n_NoStep_index, .inl ⟨ha, q⟩⟩
abbrev N_TooMany___init__ : List Str := ["self", "what", "most"]
theorem sc_TooMany___init__ : FnScope N_TooMany___init__ ["self", "what", "most"] (defScope s_TooMany___init__) := ⟨rfl, rfl, rfl, by decide +kernel, rfl, by decide +kernel, by decide +kernel⟩
theorem ok_TooMany___init__ (F : FnA K d_TooMany___init__ fd) (T : Tx K mg) : FnOk P w K mg base CX0 1 (d_TooMany___init__.adr K) fd ["self", "what", "most"] (spErr2 (gd "TooMany" K) "what" "most") := by
  refine fnO0 F sc_TooMany___init__ (fun vs H Q E h => ?_) (fun cdv A outer s H vs Q E hr h => ?_)
  · obtain ⟨a, v, v2, rfl, _⟩ := h
    rfl
  · obtain ⟨a, v, v2, rfl, ha, q⟩ := h
    refine ⟨_, pss_cons (ps_ost (pv 0) (pv 1)) (pss_one (ps_ost (pv 0) (pv 2))), ?_⟩
    exact ⟨_, rfl, _, rfl, a, _, rfl, T.ox_TooMany, T.n_TooMany_what, .inl ⟨ha, fun d nd ne => ⟨_, rfl, _, rfl, a, _, rfl, T.ox_TooMany, T.n_TooMany_most, .inr ⟨d, _, upd_same, (upd_ne ne).trans upd_same, (by show 1 ≤ 900; decide), q d nd ne⟩⟩⟩⟩
abbrev N_Parts___init__ : List Str := ["self", "length", "place"]
theorem sc_Parts___init__ : FnScope N_Parts___init__ ["self", "length", "place"] (defScope s_Parts___init__) := ⟨rfl, rfl, rfl, by decide +kernel, rfl, by decide +kernel, by decide +kernel⟩
theorem ok_Parts___init__ (F : FnA K d_Parts___init__ fd) (T : Tx K mg) : FnOk P w K mg base CX0 1 (d_Parts___init__.adr K) fd ["self", "length", "place"] (spErr2 (gd "Parts" K) "length" "place") := by
  refine fnO0 F sc_Parts___init__ (fun vs H Q E h => ?_) (fun cdv A outer s H vs Q E hr h => ?_)
  · obtain ⟨a, v, v2, rfl, _⟩ := h
    rfl
  · obtain ⟨a, v, v2, rfl, ha, q⟩ := h
    refine ⟨_, pss_cons (ps_ost (pv 0) (pv 1)) (pss_one (ps_ost (pv 0) (pv 2))), ?_⟩
    exact ⟨_, rfl, _, rfl, a, _, rfl, T.ox_Parts, T.n_Parts_length, .inl ⟨ha, fun d nd ne => ⟨_, rfl, _, rfl, a, _, rfl, T.ox_Parts, T.n_Parts_place, .inr ⟨d, _, upd_same, (upd_ne ne).trans upd_same, (by show 1 ≤ 900; decide), q d nd ne⟩⟩⟩⟩
abbrev N_BadText___init__ : List Str := ["self", "line", "word"]
theorem sc_BadText___init__ : FnScope N_BadText___init__ ["self", "line", "word"] (defScope s_BadText___init__) := ⟨rfl, rfl, rfl, by decide +kernel, rfl, by decide +kernel, by decide +kernel⟩
theorem ok_BadText___init__ (F : FnA K d_BadText___init__ fd) (T : Tx K mg) : FnOk P w K mg base CX0 1 (d_BadText___init__.adr K) fd ["self", "line", "word"] (spErr2 (gd "BadText" K) "line" "word") := by
  refine fnO0 F sc_BadText___init__ (fun vs H Q E h => ?_) (fun cdv A outer s H vs Q E hr h => ?_)
  · obtain ⟨a, v, v2, rfl, _⟩ := h
    rfl
  · obtain ⟨a, v, v2, rfl, ha, q⟩ := h
    refine ⟨_, pss_cons (ps_ost (pv 0) (pv 1)) (pss_one (ps_ost (pv 0) (pv 2))), ?_⟩
    exact ⟨_, rfl, _, rfl, a, _, rfl, T.ox_BadText, T.n_BadText_line, .inl ⟨ha, fun d nd ne => ⟨_, rfl, _, rfl, a, _, rfl, T.ox_BadText, T.n_BadText_word, .inr ⟨d, _, upd_same, (upd_ne ne).trans upd_same, (by show 1 ≤ 900; decide), q d nd ne⟩⟩⟩⟩
abbrev N_NoName___init__ : List Str := ["self", "name"]
theorem sc_NoName___init__ : FnScope N_NoName___init__ ["self", "name"] (defScope s_NoName___init__) := ⟨rfl, rfl, rfl, by decide +kernel, rfl, by decide +kernel, by decide +kernel⟩
theorem ok_NoName___init__ (F : FnA K d_NoName___init__ fd) (T : Tx K mg) : FnOk P w K mg base CX0 1 (d_NoName___init__.adr K) fd ["self", "name"] (spErr1 (gd "NoName" K) "name") := by
  refine fnO0 F sc_NoName___init__ (fun vs H Q E h => ?_) (fun cdv A outer s H vs Q E hr h => ?_)
  · obtain ⟨a, v, rfl, _⟩ := h
    rfl
  · obtain ⟨a, v, rfl, ha, q⟩ := h
    refine ⟨_, pss_one (ps_ost (pv 0) (pv 1)), ?_⟩
    exact ⟨_, rfl, _, rfl, a, _, rfl, T.ox_NoName, T.n_NoName_name, .inl ⟨ha, q⟩⟩
abbrev N_BadLine___init__ : List Str := ["self", "word"]
theorem sc_BadLine___init__ : FnScope N_BadLine___init__ ["self", "word"] (defScope s_BadLine___init__) := ⟨rfl, rfl, rfl, by decide +kernel, rfl, by decide +kernel, by decide +kernel⟩
theorem ok_BadLine___init__ (F : FnA K d_BadLine___init__ fd) (T : Tx K mg) : FnOk P w K mg base CX0 1 (d_BadLine___init__.adr K) fd ["self", "word"] (spErr1 (gd "BadLine" K) "word") := by
  refine fnO0 F sc_BadLine___init__ (fun vs H Q E h => ?_) (fun cdv A outer s H vs Q E hr h => ?_)
  · obtain ⟨a, v, rfl, _⟩ := h
    rfl
  · obtain ⟨a, v, rfl, ha, q⟩ := h
    refine ⟨_, pss_one (ps_ost (pv 0) (pv 1)), ?_⟩
    exact ⟨_, rfl, _, rfl, a, _, rfl, T.ox_BadLine, T.n_BadLine_word, .inl ⟨ha, q⟩⟩
end
end Lw
end
section
set_option Elab.async false
set_option linter.all false
set_option maxRecDepth 100000
set_option maxHeartbeats 4000000
set_option pp.maxSteps 600
namespace Lw
open PySem PySem.Spec PyProof.Rows L2 Gh Gp Gz
section
variable {P : Program} {w : World} {K : PySem.W.Frag} {mg : Str → Option Value} {base : Heap} {f : Addr} {fd : FuncData} {Tb : List (Addr × Str)}
abbrev N__law_pick : List Str := ["_law_pen_here", "_law_some"]
theorem sc__law_pick : FnScope N__law_pick ["_law_pen_here", "_law_some"] (defScope s__law_pick) := ⟨rfl, rfl, rfl, by decide +kernel, rfl, by decide +kernel, by decide +kernel⟩
def F__law_pick (l_pen_here l_some : D) : Tr D :=
  fin (bd (bd (.ok l_some) fun v1 => (bd (bd (bd (.ok l_pen_here) fun v7 => (bd (bd (bd (bd (.ok l_some) fun v3 => (bd (.ok []) fun r4 => .ok (v3 :: r4))) (ul1 lenD)) fun v5 => (bd (.ok []) fun r6 => .ok (v5 :: r6))) fun r8 => .ok (v7 :: r8))) (ul2 F_draw)) fun v2 => ixD v1 v2)) fun d => .ok (.rt d))
theorem ok__law_pick (F : FnA K d__law_pick fd) (T : Tx K mg) (G__law_draw : PromO P w K mg base CX0 1 (gd "_law_draw" K) [] (spF K Tb (ul2 F_draw))) : FnOk P w K mg base CX0 2 (d__law_pick.adr K) fd ["_law_pen_here", "_law_some"] (spF K Tb (ul2 F__law_pick)) := by
  refine fnO0 F sc__law_pick (fun vs H Q E h => spF_len len2 h) (fun cdv A outer s H vs Q E hr h => ?_)
  refine ⟨_, (pss_cons (ps_ret (pe_ix (ix_seqK (K := K) rfl) (pv 1) (pe_g (PromO.call G__law_draw (hr.mono (by decide)) (passA (E := E))) (by rfl) T.g__law_draw T.k__law_draw (pa_cons (pv 0) (pa_cons (pe_callB (cr_len (K := K) rfl) (by rfl) T.f_len (by decide +kernel) (pa_cons (pv 1) pa_nil)) pa_nil))) (fun _ _ => rfl))) pss_nil), ?_⟩
  exact fn_of2 (F := F__law_pick) (envU := fun _ => List.replicate 2 .no) h (fun l_pen_here l_some => rfl) (fun p c l_pen_here l_some => (ss_ret (se_op sr_ix se_var (se_cl srl_sp0 (sa_cons se_var (sa_cons (se_cb srl_len (sa_cons se_var sa_nil)) sa_nil))))))
abbrev N__law_value : List Str := ["_law_pen_here", "_law_number", "_law_menu"]
theorem sc__law_value : FnScope N__law_value ["_law_pen_here"] (defScope s__law_value) := ⟨rfl, rfl, rfl, by decide +kernel, rfl, by decide +kernel, by decide +kernel⟩
def F__law_value (l_pen_here : D) : Tr D :=
  fin (bd (bd (bd (.ok l_pen_here) fun v4 => (bd (bd (.ok (.int 100000000000000000000000000000000000000000000000000000000000)) fun v2 => (bd (.ok []) fun r3 => .ok (v2 :: r3))) fun r5 => .ok (v4 :: r5))) (ul2 F_draw)) fun l_number0 => (bd (bd (bd (.ok .non) fun v47 => (bd (bd (.ok (.bl true)) fun v45 => (bd (bd (.ok (.bl false)) fun v43 => (bd (bd (.ok (.int 0)) fun v41 => (bd (bd (bd (.ok (.int 7)) negD) fun v39 => (bd (bd (.ok l_number0) fun v37 => (bd (bd (.ok (.str "")) fun v35 => (bd (bd (.ok (.str "a b")) fun v33 => (bd (bd (bd (.ok []) fun ds => if ds.length ≤ sizeLine then .ok (.tup ds) else .bad) fun v31 => (bd (bd (bd (bd (.ok l_number0) fun v9 => (bd (bd (.ok (.str "a")) fun v7 => (bd (.ok []) fun r8 => .ok (v7 :: r8))) fun r10 => .ok (v9 :: r10))) fun ds => if ds.length ≤ sizeLine then .ok (.tup ds) else .bad) fun v29 => (bd (bd (bd (.ok []) fun ds => if ds.length ≤ sizeLine then .ok (.lst ds) else .bad) fun v27 => (bd (bd (bd (bd (.ok (.int 1)) fun v15 => (bd (bd (bd (bd (.ok (.int 2)) fun v11 => (bd (.ok []) fun r12 => .ok (v11 :: r12))) fun ds => if ds.length ≤ sizeLine then .ok (.lst ds) else .bad) fun v13 => (bd (.ok []) fun r14 => .ok (v13 :: r14))) fun r16 => .ok (v15 :: r16))) fun ds => if ds.length ≤ sizeLine then .ok (.lst ds) else .bad) fun v25 => (bd (bd (.ok .dct) fun v23 => (bd (bd (.ok (.dic [(.inr "a", l_number0)])) fun v21 => (bd (bd (.ok (.int 1)) fun v19 => (bd (bd (.ok (.str "0")) fun v17 => (bd (.ok []) fun r18 => .ok (v17 :: r18))) fun r20 => .ok (v19 :: r20))) fun r22 => .ok (v21 :: r22))) fun r24 => .ok (v23 :: r24))) fun r26 => .ok (v25 :: r26))) fun r28 => .ok (v27 :: r28))) fun r30 => .ok (v29 :: r30))) fun r32 => .ok (v31 :: r32))) fun r34 => .ok (v33 :: r34))) fun r36 => .ok (v35 :: r36))) fun r38 => .ok (v37 :: r38))) fun r40 => .ok (v39 :: r40))) fun r42 => .ok (v41 :: r42))) fun r44 => .ok (v43 :: r44))) fun r46 => .ok (v45 :: r46))) fun r48 => .ok (v47 :: r48))) fun ds => if ds.length ≤ sizeLine then .ok (.lst ds) else .bad) fun l_menu5 => (bd (bd (bd (.ok l_pen_here) fun v51 => (bd (bd (.ok l_menu5) fun v49 => (bd (.ok []) fun r50 => .ok (v49 :: r50))) fun r52 => .ok (v51 :: r52))) (ul2 F__law_pick)) fun d => .ok (.rt d))))
theorem ok__law_value (F : FnA K d__law_value fd) (T : Tx K mg) (G__law_draw : PromO P w K mg base CX0 1 (gd "_law_draw" K) [] (spF K Tb (ul2 F_draw))) (G__law_pick : PromO P w K mg base CX0 2 (gd "_law_pick" K) [] (spF K Tb (ul2 F__law_pick))) : FnOk P w K mg base CX0 3 (d__law_value.adr K) fd ["_law_pen_here"] (spF K Tb (ul1 F__law_value)) := by
  refine fnO0 F sc__law_value (fun vs H Q E h => spF_len len1 h) (fun cdv A outer s H vs Q E hr h => ?_)
  refine ⟨_, (pss_cons (ps_set (i := 1) sc__law_value.nd rfl (.inl rfl) (pe_g (PromO.call G__law_draw (hr.mono (by decide)) (passA (E := E))) (by rfl) T.g__law_draw T.k__law_draw (pa_cons (pv 0) (pa_cons (pe_op (op_powK 100000000000000000000000000000000000000000000000000000000000) pe_int pe_int) pa_nil))))
      (pss_cons (ps_set (i := 2) sc__law_value.nd rfl (.inl rfl) (pe_lst (pa_cons pe_non (pa_cons pe_bl (pa_cons pe_bl (pa_cons pe_int (pa_cons (pe_un un_neg pe_int) (pa_cons (pv 1) (pa_cons pe_str (pa_cons pe_str (pa_cons (pe_tup pa_nil) (pa_cons (pe_tup (pa_cons (pv 1) (pa_cons pe_str pa_nil))) (pa_cons (pe_lst pa_nil) (pa_cons (pe_lst (pa_cons pe_int (pa_cons (pe_lst (pa_cons pe_int pa_nil)) pa_nil))) (pa_cons pe_dnewK (pa_cons (pe_disp (pps_cons pe_str (pv 1) pps_nil) (by rfl) (by rfl) (by intro z; cases z) (by decide)) (pa_cons pe_int (pa_cons pe_str pa_nil))))))))))))))))))
      (pss_cons (ps_ret (pe_g (PromO.call G__law_pick (hr.mono (by decide)) (passA (E := E))) (by rfl) T.g__law_pick T.k__law_pick (pa_cons (pv 0) (pa_cons (pv 2) pa_nil)))) pss_nil))), ?_⟩
  exact fn_of1 (F := F__law_value) (envU := fun _ => List.replicate 3 .no) h (fun l_pen_here => rfl) (fun p c l_pen_here => (ss_asg (se_cl srl_sp0 (sa_cons se_var (sa_cons (se_powK (by decide) (by decide) (by decide)) sa_nil))) (fun l_number0 => (ss_asg (se_lst (sa_cons se_non (sa_cons se_bl (sa_cons se_bl (sa_cons se_int (sa_cons (se_un sr_neg se_int) (sa_cons se_var (sa_cons (se_str (by decide)) (sa_cons (se_str (by decide)) (sa_cons (se_tup sa_nil) (sa_cons (se_tup (sa_cons se_var (sa_cons (se_str (by decide)) sa_nil))) (sa_cons (se_lst sa_nil) (sa_cons (se_lst (sa_cons se_int (sa_cons (se_lst (sa_cons se_int sa_nil)) sa_nil))) (sa_cons se_dct (sa_cons (se_dispV (i := 1) (k := .inr "a") rfl) (sa_cons se_int (sa_cons (se_str (by decide)) sa_nil))))))))))))))))) (fun l_menu5 => (ss_ret (se_cl srl_sp0 (sa_cons se_var (sa_cons se_var sa_nil)))))))))
abbrev N__law_by_place : List Str := ["_law_a", "_law_b", "_law_found"]
theorem sc__law_by_place : FnScope N__law_by_place ["_law_a", "_law_b"] (defScope s__law_by_place) := ⟨rfl, rfl, rfl, by decide +kernel, rfl, by decide +kernel, by decide +kernel⟩
def F__law_by_place (l_a l_b : D) : Tr D :=
  fin (bd (bd (bd (bd (bd (bd (bd (.ok l_a) fun v2 => (bd (.ok []) fun r3 => .ok (v2 :: r3))) (ul1 fun d => .ok (.err "BadLength" [("value", d)]))) fun v8 => (bd (bd (bd (bd (.ok (.str "value")) fun v4 => (bd (.ok []) fun r5 => .ok (v4 :: r5))) fun ds => if ds.length ≤ sizeLine then .ok (.lst ds) else .bad) fun v6 => (bd (.ok []) fun r7 => .ok (v6 :: r7))) fun r9 => .ok (v8 :: r9))) fun ds => if ds.length ≤ sizeLine then .ok (.tup ds) else .bad) fun v40 => (bd (bd (bd (bd (bd (bd (.ok l_a) fun v10 => (bd (.ok []) fun r11 => .ok (v10 :: r11))) (ul1 fun d => .ok (.err "BadPlace" [("value", d)]))) fun v16 => (bd (bd (bd (bd (.ok (.str "value")) fun v12 => (bd (.ok []) fun r13 => .ok (v12 :: r13))) fun ds => if ds.length ≤ sizeLine then .ok (.lst ds) else .bad) fun v14 => (bd (.ok []) fun r15 => .ok (v14 :: r15))) fun r17 => .ok (v16 :: r17))) fun ds => if ds.length ≤ sizeLine then .ok (.tup ds) else .bad) fun v38 => (bd (bd (bd (bd (bd (bd (.ok l_a) fun v18 => (bd (.ok []) fun r19 => .ok (v18 :: r19))) (ul1 fun d => .ok (.err "BadRest" [("value", d)]))) fun v24 => (bd (bd (bd (bd (.ok (.str "value")) fun v20 => (bd (.ok []) fun r21 => .ok (v20 :: r21))) fun ds => if ds.length ≤ sizeLine then .ok (.lst ds) else .bad) fun v22 => (bd (.ok []) fun r23 => .ok (v22 :: r23))) fun r25 => .ok (v24 :: r25))) fun ds => if ds.length ≤ sizeLine then .ok (.tup ds) else .bad) fun v36 => (bd (bd (bd (bd (bd (bd (.ok l_a) fun v26 => (bd (.ok []) fun r27 => .ok (v26 :: r27))) (ul1 fun d => .ok (.err "BadRow" [("at", d)]))) fun v32 => (bd (bd (bd (bd (.ok (.str "at")) fun v28 => (bd (.ok []) fun r29 => .ok (v28 :: r29))) fun ds => if ds.length ≤ sizeLine then .ok (.lst ds) else .bad) fun v30 => (bd (.ok []) fun r31 => .ok (v30 :: r31))) fun r33 => .ok (v32 :: r33))) fun ds => if ds.length ≤ sizeLine then .ok (.tup ds) else .bad) fun v34 => (bd (.ok []) fun r35 => .ok (v34 :: r35))) fun r37 => .ok (v36 :: r37))) fun r39 => .ok (v38 :: r39))) fun r41 => .ok (v40 :: r41))) fun ds => if ds.length ≤ sizeLine then .ok (.lst ds) else .bad) fun l_found0 => (bd (bd (.ok l_found0) fun v83 => (bd (bd (bd (bd (bd (bd (bd (.ok l_a) fun v43 => (bd (.ok []) fun r44 => .ok (v43 :: r44))) (ul1 fun d => .ok (.err "BadChange" [("part", d)]))) fun v49 => (bd (bd (bd (bd (.ok (.str "part")) fun v45 => (bd (.ok []) fun r46 => .ok (v45 :: r46))) fun ds => if ds.length ≤ sizeLine then .ok (.lst ds) else .bad) fun v47 => (bd (.ok []) fun r48 => .ok (v47 :: r48))) fun r50 => .ok (v49 :: r50))) fun ds => if ds.length ≤ sizeLine then .ok (.tup ds) else .bad) fun v81 => (bd (bd (bd (bd (bd (bd (.ok l_a) fun v51 => (bd (.ok []) fun r52 => .ok (v51 :: r52))) (ul1 fun d => .ok (.err "BadSpan" [("part", d)]))) fun v57 => (bd (bd (bd (bd (.ok (.str "part")) fun v53 => (bd (.ok []) fun r54 => .ok (v53 :: r54))) fun ds => if ds.length ≤ sizeLine then .ok (.lst ds) else .bad) fun v55 => (bd (.ok []) fun r56 => .ok (v55 :: r56))) fun r58 => .ok (v57 :: r58))) fun ds => if ds.length ≤ sizeLine then .ok (.tup ds) else .bad) fun v79 => (bd (bd (bd (bd (bd (bd (.ok l_a) fun v59 => (bd (.ok []) fun r60 => .ok (v59 :: r60))) (ul1 fun d => .ok (.err "BadStep" [("at", d)]))) fun v65 => (bd (bd (bd (bd (.ok (.str "at")) fun v61 => (bd (.ok []) fun r62 => .ok (v61 :: r62))) fun ds => if ds.length ≤ sizeLine then .ok (.lst ds) else .bad) fun v63 => (bd (.ok []) fun r64 => .ok (v63 :: r64))) fun r66 => .ok (v65 :: r66))) fun ds => if ds.length ≤ sizeLine then .ok (.tup ds) else .bad) fun v77 => (bd (bd (bd (bd (bd (bd (.ok l_a) fun v67 => (bd (.ok []) fun r68 => .ok (v67 :: r68))) (ul1 fun d => .ok (.err "BadNumber" [("value", d)]))) fun v73 => (bd (bd (bd (bd (.ok (.str "value")) fun v69 => (bd (.ok []) fun r70 => .ok (v69 :: r70))) fun ds => if ds.length ≤ sizeLine then .ok (.lst ds) else .bad) fun v71 => (bd (.ok []) fun r72 => .ok (v71 :: r72))) fun r74 => .ok (v73 :: r74))) fun ds => if ds.length ≤ sizeLine then .ok (.tup ds) else .bad) fun v75 => (bd (.ok []) fun r76 => .ok (v75 :: r76))) fun r78 => .ok (v77 :: r78))) fun r80 => .ok (v79 :: r80))) fun r82 => .ok (v81 :: r82))) fun ds => if ds.length ≤ sizeLine then .ok (.lst ds) else .bad) fun v84 => addD v83 v84)) fun l_found41 => (bd (bd (.ok l_found41) fun v126 => (bd (bd (bd (bd (bd (bd (bd (.ok l_a) fun v86 => (bd (.ok []) fun r87 => .ok (v86 :: r87))) (ul1 fun d => .ok (.err "BadForm" [("part", d)]))) fun v92 => (bd (bd (bd (bd (.ok (.str "part")) fun v88 => (bd (.ok []) fun r89 => .ok (v88 :: r89))) fun ds => if ds.length ≤ sizeLine then .ok (.lst ds) else .bad) fun v90 => (bd (.ok []) fun r91 => .ok (v90 :: r91))) fun r93 => .ok (v92 :: r93))) fun ds => if ds.length ≤ sizeLine then .ok (.tup ds) else .bad) fun v124 => (bd (bd (bd (bd (bd (bd (.ok l_a) fun v94 => (bd (.ok []) fun r95 => .ok (v94 :: r95))) (ul1 fun d => .ok (.err "BadSpot" [("part", d)]))) fun v100 => (bd (bd (bd (bd (.ok (.str "part")) fun v96 => (bd (.ok []) fun r97 => .ok (v96 :: r97))) fun ds => if ds.length ≤ sizeLine then .ok (.lst ds) else .bad) fun v98 => (bd (.ok []) fun r99 => .ok (v98 :: r99))) fun r101 => .ok (v100 :: r101))) fun ds => if ds.length ≤ sizeLine then .ok (.tup ds) else .bad) fun v122 => (bd (bd (bd (bd (bd (bd (.ok l_a) fun v102 => (bd (.ok []) fun r103 => .ok (v102 :: r103))) (ul1 fun d => .ok (.err "Overlap" [("length", d)]))) fun v108 => (bd (bd (bd (bd (.ok (.str "length")) fun v104 => (bd (.ok []) fun r105 => .ok (v104 :: r105))) fun ds => if ds.length ≤ sizeLine then .ok (.lst ds) else .bad) fun v106 => (bd (.ok []) fun r107 => .ok (v106 :: r107))) fun r109 => .ok (v108 :: r109))) fun ds => if ds.length ≤ sizeLine then .ok (.tup ds) else .bad) fun v120 => (bd (bd (bd (bd (bd (bd (.ok l_a) fun v110 => (bd (.ok []) fun r111 => .ok (v110 :: r111))) (ul1 fun d => .ok (.err "NoStep" [("index", d)]))) fun v116 => (bd (bd (bd (bd (.ok (.str "index")) fun v112 => (bd (.ok []) fun r113 => .ok (v112 :: r113))) fun ds => if ds.length ≤ sizeLine then .ok (.lst ds) else .bad) fun v114 => (bd (.ok []) fun r115 => .ok (v114 :: r115))) fun r117 => .ok (v116 :: r117))) fun ds => if ds.length ≤ sizeLine then .ok (.tup ds) else .bad) fun v118 => (bd (.ok []) fun r119 => .ok (v118 :: r119))) fun r121 => .ok (v120 :: r121))) fun r123 => .ok (v122 :: r123))) fun r125 => .ok (v124 :: r125))) fun ds => if ds.length ≤ sizeLine then .ok (.lst ds) else .bad) fun v127 => addD v126 v127)) fun l_found84 => (bd (bd (.ok l_found84) fun v157 => (bd (bd (bd (bd (bd (bd (bd (.ok l_a) fun v131 => (bd (bd (.ok l_b) fun v129 => (bd (.ok []) fun r130 => .ok (v129 :: r130))) fun r132 => .ok (v131 :: r132))) (ul2 fun d e => .ok (.err "TooMany" [("most", e), ("what", d)]))) fun v139 => (bd (bd (bd (bd (.ok (.str "what")) fun v135 => (bd (bd (.ok (.str "most")) fun v133 => (bd (.ok []) fun r134 => .ok (v133 :: r134))) fun r136 => .ok (v135 :: r136))) fun ds => if ds.length ≤ sizeLine then .ok (.lst ds) else .bad) fun v137 => (bd (.ok []) fun r138 => .ok (v137 :: r138))) fun r140 => .ok (v139 :: r140))) fun ds => if ds.length ≤ sizeLine then .ok (.tup ds) else .bad) fun v155 => (bd (bd (bd (bd (bd (bd (.ok l_a) fun v143 => (bd (bd (.ok l_b) fun v141 => (bd (.ok []) fun r142 => .ok (v141 :: r142))) fun r144 => .ok (v143 :: r144))) (ul2 fun d e => .ok (.err "Parts" [("place", e), ("length", d)]))) fun v151 => (bd (bd (bd (bd (.ok (.str "length")) fun v147 => (bd (bd (.ok (.str "place")) fun v145 => (bd (.ok []) fun r146 => .ok (v145 :: r146))) fun r148 => .ok (v147 :: r148))) fun ds => if ds.length ≤ sizeLine then .ok (.lst ds) else .bad) fun v149 => (bd (.ok []) fun r150 => .ok (v149 :: r150))) fun r152 => .ok (v151 :: r152))) fun ds => if ds.length ≤ sizeLine then .ok (.tup ds) else .bad) fun v153 => (bd (.ok []) fun r154 => .ok (v153 :: r154))) fun r156 => .ok (v155 :: r156))) fun ds => if ds.length ≤ sizeLine then .ok (.lst ds) else .bad) fun v158 => addD v157 v158)) fun l_found127 => (bd (bd (.ok l_found127) fun v193 => (bd (bd (bd (bd (bd (bd (bd (.ok l_a) fun v161 => (bd (bd (.ok l_b) fun v159 => (bd (.ok []) fun r160 => .ok (v159 :: r160))) fun r162 => .ok (v161 :: r162))) (ul2 fun d e => .ok (.err "BadText" [("word", e), ("line", d)]))) fun v169 => (bd (bd (bd (bd (.ok (.str "line")) fun v165 => (bd (bd (.ok (.str "word")) fun v163 => (bd (.ok []) fun r164 => .ok (v163 :: r164))) fun r166 => .ok (v165 :: r166))) fun ds => if ds.length ≤ sizeLine then .ok (.lst ds) else .bad) fun v167 => (bd (.ok []) fun r168 => .ok (v167 :: r168))) fun r170 => .ok (v169 :: r170))) fun ds => if ds.length ≤ sizeLine then .ok (.tup ds) else .bad) fun v191 => (bd (bd (bd (bd (bd (bd (.ok l_a) fun v171 => (bd (.ok []) fun r172 => .ok (v171 :: r172))) (ul1 fun d => .ok (.err "NoName" [("name", d)]))) fun v177 => (bd (bd (bd (bd (.ok (.str "name")) fun v173 => (bd (.ok []) fun r174 => .ok (v173 :: r174))) fun ds => if ds.length ≤ sizeLine then .ok (.lst ds) else .bad) fun v175 => (bd (.ok []) fun r176 => .ok (v175 :: r176))) fun r178 => .ok (v177 :: r178))) fun ds => if ds.length ≤ sizeLine then .ok (.tup ds) else .bad) fun v189 => (bd (bd (bd (bd (bd (bd (.ok l_a) fun v179 => (bd (.ok []) fun r180 => .ok (v179 :: r180))) (ul1 fun d => .ok (.err "BadLine" [("word", d)]))) fun v185 => (bd (bd (bd (bd (.ok (.str "word")) fun v181 => (bd (.ok []) fun r182 => .ok (v181 :: r182))) fun ds => if ds.length ≤ sizeLine then .ok (.lst ds) else .bad) fun v183 => (bd (.ok []) fun r184 => .ok (v183 :: r184))) fun r186 => .ok (v185 :: r186))) fun ds => if ds.length ≤ sizeLine then .ok (.tup ds) else .bad) fun v187 => (bd (.ok []) fun r188 => .ok (v187 :: r188))) fun r190 => .ok (v189 :: r190))) fun r192 => .ok (v191 :: r192))) fun ds => if ds.length ≤ sizeLine then .ok (.lst ds) else .bad) fun v194 => addD v193 v194)) fun d => .ok (.rt d))))))
theorem ok__law_by_place (F : FnA K d__law_by_place fd) (T : Tx K mg) (G_BadLength___init__ : PromO P w K mg base CX0 1 (md "BadLength" "__init__" K) [] (spErr1 (gd "BadLength" K) "value")) (G_BadPlace___init__ : PromO P w K mg base CX0 1 (md "BadPlace" "__init__" K) [] (spErr1 (gd "BadPlace" K) "value")) (G_BadRest___init__ : PromO P w K mg base CX0 1 (md "BadRest" "__init__" K) [] (spErr1 (gd "BadRest" K) "value")) (G_BadRow___init__ : PromO P w K mg base CX0 1 (md "BadRow" "__init__" K) [] (spErr1 (gd "BadRow" K) "at")) (G_BadChange___init__ : PromO P w K mg base CX0 1 (md "BadChange" "__init__" K) [] (spErr1 (gd "BadChange" K) "part")) (G_BadSpan___init__ : PromO P w K mg base CX0 1 (md "BadSpan" "__init__" K) [] (spErr1 (gd "BadSpan" K) "part")) (G_BadStep___init__ : PromO P w K mg base CX0 1 (md "BadStep" "__init__" K) [] (spErr1 (gd "BadStep" K) "at")) (G_BadNumber___init__ : PromO P w K mg base CX0 1 (md "BadNumber" "__init__" K) [] (spErr1 (gd "BadNumber" K) "value")) (G_BadForm___init__ : PromO P w K mg base CX0 1 (md "BadForm" "__init__" K) [] (spErr1 (gd "BadForm" K) "part")) (G_BadSpot___init__ : PromO P w K mg base CX0 1 (md "BadSpot" "__init__" K) [] (spErr1 (gd "BadSpot" K) "part")) (G_Overlap___init__ : PromO P w K mg base CX0 1 (md "Overlap" "__init__" K) [] (spErr1 (gd "Overlap" K) "length")) (G_NoStep___init__ : PromO P w K mg base CX0 1 (md "NoStep" "__init__" K) [] (spErr1 (gd "NoStep" K) "index")) (G_TooMany___init__ : PromO P w K mg base CX0 1 (md "TooMany" "__init__" K) [] (spErr2 (gd "TooMany" K) "what" "most")) (G_Parts___init__ : PromO P w K mg base CX0 1 (md "Parts" "__init__" K) [] (spErr2 (gd "Parts" K) "length" "place")) (G_BadText___init__ : PromO P w K mg base CX0 1 (md "BadText" "__init__" K) [] (spErr2 (gd "BadText" K) "line" "word")) (G_NoName___init__ : PromO P w K mg base CX0 1 (md "NoName" "__init__" K) [] (spErr1 (gd "NoName" K) "name")) (G_BadLine___init__ : PromO P w K mg base CX0 1 (md "BadLine" "__init__" K) [] (spErr1 (gd "BadLine" K) "word")) : FnOk P w K mg base CX0 3 (d__law_by_place.adr K) fd ["_law_a", "_law_b"] (spF K Tb (ul2 F__law_by_place)) := by
  refine fnO0 F sc__law_by_place (fun vs H Q E h => spF_len len2 h) (fun cdv A outer s H vs Q E hr h => ?_)
  refine ⟨_, (pss_cons (ps_set (i := 2) sc__law_by_place.nd rfl (.inl rfl) (pe_lst (pa_cons (pe_tup (pa_cons (pe_g (PromO.makeE T.ox_BadLength T.in_BadLength.iC T.in_BadLength.tI G_BadLength___init__ (hr.mono (by decide)) (passA (E := E))) (by rfl) T.g_BadLength T.k_BadLength (pa_cons (pv 0) pa_nil)) (pa_cons (pe_lst (pa_cons pe_str pa_nil)) pa_nil))) (pa_cons (pe_tup (pa_cons (pe_g (PromO.makeE T.ox_BadPlace T.in_BadPlace.iC T.in_BadPlace.tI G_BadPlace___init__ (hr.mono (by decide)) (passA (E := E))) (by rfl) T.g_BadPlace T.k_BadPlace (pa_cons (pv 0) pa_nil)) (pa_cons (pe_lst (pa_cons pe_str pa_nil)) pa_nil))) (pa_cons (pe_tup (pa_cons (pe_g (PromO.makeE T.ox_BadRest T.in_BadRest.iC T.in_BadRest.tI G_BadRest___init__ (hr.mono (by decide)) (passA (E := E))) (by rfl) T.g_BadRest T.k_BadRest (pa_cons (pv 0) pa_nil)) (pa_cons (pe_lst (pa_cons pe_str pa_nil)) pa_nil))) (pa_cons (pe_tup (pa_cons (pe_g (PromO.makeE T.ox_BadRow T.in_BadRow.iC T.in_BadRow.tI G_BadRow___init__ (hr.mono (by decide)) (passA (E := E))) (by rfl) T.g_BadRow T.k_BadRow (pa_cons (pv 0) pa_nil)) (pa_cons (pe_lst (pa_cons pe_str pa_nil)) pa_nil))) pa_nil))))))
      (pss_cons (ps_set (i := 2) sc__law_by_place.nd rfl (.inl rfl) (pe_op (op_addA (K := K) rfl) (pv 2) (pe_lst (pa_cons (pe_tup (pa_cons (pe_g (PromO.makeE T.ox_BadChange T.in_BadChange.iC T.in_BadChange.tI G_BadChange___init__ (hr.mono (by decide)) (passA (E := E))) (by rfl) T.g_BadChange T.k_BadChange (pa_cons (pv 0) pa_nil)) (pa_cons (pe_lst (pa_cons pe_str pa_nil)) pa_nil))) (pa_cons (pe_tup (pa_cons (pe_g (PromO.makeE T.ox_BadSpan T.in_BadSpan.iC T.in_BadSpan.tI G_BadSpan___init__ (hr.mono (by decide)) (passA (E := E))) (by rfl) T.g_BadSpan T.k_BadSpan (pa_cons (pv 0) pa_nil)) (pa_cons (pe_lst (pa_cons pe_str pa_nil)) pa_nil))) (pa_cons (pe_tup (pa_cons (pe_g (PromO.makeE T.ox_BadStep T.in_BadStep.iC T.in_BadStep.tI G_BadStep___init__ (hr.mono (by decide)) (passA (E := E))) (by rfl) T.g_BadStep T.k_BadStep (pa_cons (pv 0) pa_nil)) (pa_cons (pe_lst (pa_cons pe_str pa_nil)) pa_nil))) (pa_cons (pe_tup (pa_cons (pe_g (PromO.makeE T.ox_BadNumber T.in_BadNumber.iC T.in_BadNumber.tI G_BadNumber___init__ (hr.mono (by decide)) (passA (E := E))) (by rfl) T.g_BadNumber T.k_BadNumber (pa_cons (pv 0) pa_nil)) (pa_cons (pe_lst (pa_cons pe_str pa_nil)) pa_nil))) pa_nil)))))))
      (pss_cons (ps_set (i := 2) sc__law_by_place.nd rfl (.inl rfl) (pe_op (op_addA (K := K) rfl) (pv 2) (pe_lst (pa_cons (pe_tup (pa_cons (pe_g (PromO.makeE T.ox_BadForm T.in_BadForm.iC T.in_BadForm.tI G_BadForm___init__ (hr.mono (by decide)) (passA (E := E))) (by rfl) T.g_BadForm T.k_BadForm (pa_cons (pv 0) pa_nil)) (pa_cons (pe_lst (pa_cons pe_str pa_nil)) pa_nil))) (pa_cons (pe_tup (pa_cons (pe_g (PromO.makeE T.ox_BadSpot T.in_BadSpot.iC T.in_BadSpot.tI G_BadSpot___init__ (hr.mono (by decide)) (passA (E := E))) (by rfl) T.g_BadSpot T.k_BadSpot (pa_cons (pv 0) pa_nil)) (pa_cons (pe_lst (pa_cons pe_str pa_nil)) pa_nil))) (pa_cons (pe_tup (pa_cons (pe_g (PromO.makeE T.ox_Overlap T.in_Overlap.iC T.in_Overlap.tI G_Overlap___init__ (hr.mono (by decide)) (passA (E := E))) (by rfl) T.g_Overlap T.k_Overlap (pa_cons (pv 0) pa_nil)) (pa_cons (pe_lst (pa_cons pe_str pa_nil)) pa_nil))) (pa_cons (pe_tup (pa_cons (pe_g (PromO.makeE T.ox_NoStep T.in_NoStep.iC T.in_NoStep.tI G_NoStep___init__ (hr.mono (by decide)) (passA (E := E))) (by rfl) T.g_NoStep T.k_NoStep (pa_cons (pv 0) pa_nil)) (pa_cons (pe_lst (pa_cons pe_str pa_nil)) pa_nil))) pa_nil)))))))
      (pss_cons (ps_set (i := 2) sc__law_by_place.nd rfl (.inl rfl) (pe_op (op_addA (K := K) rfl) (pv 2) (pe_lst (pa_cons (pe_tup (pa_cons (pe_g (PromO.makeE T.ox_TooMany T.in_TooMany.iC T.in_TooMany.tI G_TooMany___init__ (hr.mono (by decide)) (passA (E := E))) (by rfl) T.g_TooMany T.k_TooMany (pa_cons (pv 0) (pa_cons (pv 1) pa_nil))) (pa_cons (pe_lst (pa_cons pe_str (pa_cons pe_str pa_nil))) pa_nil))) (pa_cons (pe_tup (pa_cons (pe_g (PromO.makeE T.ox_Parts T.in_Parts.iC T.in_Parts.tI G_Parts___init__ (hr.mono (by decide)) (passA (E := E))) (by rfl) T.g_Parts T.k_Parts (pa_cons (pv 0) (pa_cons (pv 1) pa_nil))) (pa_cons (pe_lst (pa_cons pe_str (pa_cons pe_str pa_nil))) pa_nil))) pa_nil)))))
      (pss_cons (ps_ret (pe_op (op_addA (K := K) rfl) (pv 2) (pe_lst (pa_cons (pe_tup (pa_cons (pe_g (PromO.makeE T.ox_BadText T.in_BadText.iC T.in_BadText.tI G_BadText___init__ (hr.mono (by decide)) (passA (E := E))) (by rfl) T.g_BadText T.k_BadText (pa_cons (pv 0) (pa_cons (pv 1) pa_nil))) (pa_cons (pe_lst (pa_cons pe_str (pa_cons pe_str pa_nil))) pa_nil))) (pa_cons (pe_tup (pa_cons (pe_g (PromO.makeE T.ox_NoName T.in_NoName.iC T.in_NoName.tI G_NoName___init__ (hr.mono (by decide)) (passA (E := E))) (by rfl) T.g_NoName T.k_NoName (pa_cons (pv 0) pa_nil)) (pa_cons (pe_lst (pa_cons pe_str pa_nil)) pa_nil))) (pa_cons (pe_tup (pa_cons (pe_g (PromO.makeE T.ox_BadLine T.in_BadLine.iC T.in_BadLine.tI G_BadLine___init__ (hr.mono (by decide)) (passA (E := E))) (by rfl) T.g_BadLine T.k_BadLine (pa_cons (pv 0) pa_nil)) (pa_cons (pe_lst (pa_cons pe_str pa_nil)) pa_nil))) pa_nil)))))) pss_nil))))), ?_⟩
  exact fn_of2 (F := F__law_by_place) (envU := fun _ => List.replicate 3 .no) h (fun l_a l_b => rfl) (fun p c l_a l_b => (ss_asg (se_lst (sa_cons (se_tup (sa_cons (se_cl srl_mkE1 (sa_cons se_var sa_nil)) (sa_cons (se_lst (sa_cons (se_str (by decide)) sa_nil)) sa_nil))) (sa_cons (se_tup (sa_cons (se_cl srl_mkE1 (sa_cons se_var sa_nil)) (sa_cons (se_lst (sa_cons (se_str (by decide)) sa_nil)) sa_nil))) (sa_cons (se_tup (sa_cons (se_cl srl_mkE1 (sa_cons se_var sa_nil)) (sa_cons (se_lst (sa_cons (se_str (by decide)) sa_nil)) sa_nil))) (sa_cons (se_tup (sa_cons (se_cl srl_mkE1 (sa_cons se_var sa_nil)) (sa_cons (se_lst (sa_cons (se_str (by decide)) sa_nil)) sa_nil))) sa_nil))))) (fun l_found0 => (ss_asg (se_op sr_add se_var (se_lst (sa_cons (se_tup (sa_cons (se_cl srl_mkE1 (sa_cons se_var sa_nil)) (sa_cons (se_lst (sa_cons (se_str (by decide)) sa_nil)) sa_nil))) (sa_cons (se_tup (sa_cons (se_cl srl_mkE1 (sa_cons se_var sa_nil)) (sa_cons (se_lst (sa_cons (se_str (by decide)) sa_nil)) sa_nil))) (sa_cons (se_tup (sa_cons (se_cl srl_mkE1 (sa_cons se_var sa_nil)) (sa_cons (se_lst (sa_cons (se_str (by decide)) sa_nil)) sa_nil))) (sa_cons (se_tup (sa_cons (se_cl srl_mkE1 (sa_cons se_var sa_nil)) (sa_cons (se_lst (sa_cons (se_str (by decide)) sa_nil)) sa_nil))) sa_nil)))))) (fun l_found41 => (ss_asg (se_op sr_add se_var (se_lst (sa_cons (se_tup (sa_cons (se_cl srl_mkE1 (sa_cons se_var sa_nil)) (sa_cons (se_lst (sa_cons (se_str (by decide)) sa_nil)) sa_nil))) (sa_cons (se_tup (sa_cons (se_cl srl_mkE1 (sa_cons se_var sa_nil)) (sa_cons (se_lst (sa_cons (se_str (by decide)) sa_nil)) sa_nil))) (sa_cons (se_tup (sa_cons (se_cl srl_mkE1 (sa_cons se_var sa_nil)) (sa_cons (se_lst (sa_cons (se_str (by decide)) sa_nil)) sa_nil))) (sa_cons (se_tup (sa_cons (se_cl srl_mkE1 (sa_cons se_var sa_nil)) (sa_cons (se_lst (sa_cons (se_str (by decide)) sa_nil)) sa_nil))) sa_nil)))))) (fun l_found84 => (ss_asg (se_op sr_add se_var (se_lst (sa_cons (se_tup (sa_cons (se_cl srl_mkE2 (sa_cons se_var (sa_cons se_var sa_nil))) (sa_cons (se_lst (sa_cons (se_str (by decide)) (sa_cons (se_str (by decide)) sa_nil))) sa_nil))) (sa_cons (se_tup (sa_cons (se_cl srl_mkE2 (sa_cons se_var (sa_cons se_var sa_nil))) (sa_cons (se_lst (sa_cons (se_str (by decide)) (sa_cons (se_str (by decide)) sa_nil))) sa_nil))) sa_nil)))) (fun l_found127 => (ss_ret (se_op sr_add se_var (se_lst (sa_cons (se_tup (sa_cons (se_cl srl_mkE2 (sa_cons se_var (sa_cons se_var sa_nil))) (sa_cons (se_lst (sa_cons (se_str (by decide)) (sa_cons (se_str (by decide)) sa_nil))) sa_nil))) (sa_cons (se_tup (sa_cons (se_cl srl_mkE1 (sa_cons se_var sa_nil)) (sa_cons (se_lst (sa_cons (se_str (by decide)) sa_nil)) sa_nil))) (sa_cons (se_tup (sa_cons (se_cl srl_mkE1 (sa_cons se_var sa_nil)) (sa_cons (se_lst (sa_cons (se_str (by decide)) sa_nil)) sa_nil))) sa_nil)))))))))))))))
abbrev N__law_by_name : List Str := ["_law_a", "_law_b", "_law_found"]
theorem sc__law_by_name : FnScope N__law_by_name ["_law_a", "_law_b"] (defScope s__law_by_name) := ⟨rfl, rfl, rfl, by decide +kernel, rfl, by decide +kernel, by decide +kernel⟩
def F__law_by_name (l_a l_b : D) : Tr D :=
  fin (bd (bd (bd (bd (bd (.ok l_a) fun v2 => (bd (.ok []) fun r3 => .ok (v2 :: r3))) ((kwE 0 1 [.inl 0] (ul1 fun d => .ok (.err "BadLength" [("value", d)]))) [])) fun v24 => (bd (bd (bd (bd (.ok l_a) fun v4 => (bd (.ok []) fun r5 => .ok (v4 :: r5))) ((kwE 0 1 [.inl 0] (ul1 fun d => .ok (.err "BadPlace" [("value", d)]))) [])) fun v22 => (bd (bd (bd (bd (.ok l_a) fun v6 => (bd (.ok []) fun r7 => .ok (v6 :: r7))) ((kwE 0 1 [.inl 0] (ul1 fun d => .ok (.err "BadRest" [("value", d)]))) [])) fun v20 => (bd (bd (bd (bd (.ok l_a) fun v8 => (bd (.ok []) fun r9 => .ok (v8 :: r9))) ((kwE 0 1 [.inl 0] (ul1 fun d => .ok (.err "BadRow" [("at", d)]))) [])) fun v18 => (bd (bd (bd (bd (.ok l_a) fun v10 => (bd (.ok []) fun r11 => .ok (v10 :: r11))) ((kwE 0 1 [.inl 0] (ul1 fun d => .ok (.err "BadChange" [("part", d)]))) [])) fun v16 => (bd (bd (bd (bd (.ok l_a) fun v12 => (bd (.ok []) fun r13 => .ok (v12 :: r13))) ((kwE 0 1 [.inl 0] (ul1 fun d => .ok (.err "BadSpan" [("part", d)]))) [])) fun v14 => (bd (.ok []) fun r15 => .ok (v14 :: r15))) fun r17 => .ok (v16 :: r17))) fun r19 => .ok (v18 :: r19))) fun r21 => .ok (v20 :: r21))) fun r23 => .ok (v22 :: r23))) fun r25 => .ok (v24 :: r25))) fun ds => if ds.length ≤ sizeLine then .ok (.lst ds) else .bad) fun l_found0 => (bd (bd (.ok l_found0) fun v47 => (bd (bd (bd (bd (bd (.ok l_a) fun v27 => (bd (.ok []) fun r28 => .ok (v27 :: r28))) ((kwE 0 1 [.inl 0] (ul1 fun d => .ok (.err "BadStep" [("at", d)]))) [])) fun v45 => (bd (bd (bd (bd (.ok l_a) fun v29 => (bd (.ok []) fun r30 => .ok (v29 :: r30))) ((kwE 0 1 [.inl 0] (ul1 fun d => .ok (.err "BadNumber" [("value", d)]))) [])) fun v43 => (bd (bd (bd (bd (.ok l_a) fun v31 => (bd (.ok []) fun r32 => .ok (v31 :: r32))) ((kwE 0 1 [.inl 0] (ul1 fun d => .ok (.err "BadForm" [("part", d)]))) [])) fun v41 => (bd (bd (bd (bd (.ok l_a) fun v33 => (bd (.ok []) fun r34 => .ok (v33 :: r34))) ((kwE 0 1 [.inl 0] (ul1 fun d => .ok (.err "BadSpot" [("part", d)]))) [])) fun v39 => (bd (bd (bd (bd (.ok l_a) fun v35 => (bd (.ok []) fun r36 => .ok (v35 :: r36))) ((kwE 0 1 [.inl 0] (ul1 fun d => .ok (.err "Overlap" [("length", d)]))) [])) fun v37 => (bd (.ok []) fun r38 => .ok (v37 :: r38))) fun r40 => .ok (v39 :: r40))) fun r42 => .ok (v41 :: r42))) fun r44 => .ok (v43 :: r44))) fun r46 => .ok (v45 :: r46))) fun ds => if ds.length ≤ sizeLine then .ok (.lst ds) else .bad) fun v48 => addD v47 v48)) fun l_found25 => (bd (bd (.ok l_found25) fun v72 => (bd (bd (bd (bd (bd (.ok l_a) fun v50 => (bd (.ok []) fun r51 => .ok (v50 :: r51))) ((kwE 0 1 [.inl 0] (ul1 fun d => .ok (.err "NoStep" [("index", d)]))) [])) fun v70 => (bd (bd (bd (bd (.ok l_b) fun v54 => (bd (bd (.ok l_a) fun v52 => (bd (.ok []) fun r53 => .ok (v52 :: r53))) fun r55 => .ok (v54 :: r55))) ((kwE 0 2 [.inl 1, .inl 0] (ul2 fun d e => .ok (.err "TooMany" [("most", e), ("what", d)]))) [])) fun v68 => (bd (bd (bd (bd (.ok l_b) fun v58 => (bd (bd (.ok l_a) fun v56 => (bd (.ok []) fun r57 => .ok (v56 :: r57))) fun r59 => .ok (v58 :: r59))) ((kwE 0 2 [.inl 1, .inl 0] (ul2 fun d e => .ok (.err "Parts" [("place", e), ("length", d)]))) [])) fun v66 => (bd (bd (bd (bd (.ok l_b) fun v62 => (bd (bd (.ok l_a) fun v60 => (bd (.ok []) fun r61 => .ok (v60 :: r61))) fun r63 => .ok (v62 :: r63))) ((kwE 0 2 [.inl 1, .inl 0] (ul2 fun d e => .ok (.err "BadText" [("word", e), ("line", d)]))) [])) fun v64 => (bd (.ok []) fun r65 => .ok (v64 :: r65))) fun r67 => .ok (v66 :: r67))) fun r69 => .ok (v68 :: r69))) fun r71 => .ok (v70 :: r71))) fun ds => if ds.length ≤ sizeLine then .ok (.lst ds) else .bad) fun v73 => addD v72 v73)) fun l_found48 => (bd (bd (.ok l_found48) fun v82 => (bd (bd (bd (bd (bd (.ok l_a) fun v74 => (bd (.ok []) fun r75 => .ok (v74 :: r75))) ((kwE 0 1 [.inl 0] (ul1 fun d => .ok (.err "NoName" [("name", d)]))) [])) fun v80 => (bd (bd (bd (bd (.ok l_a) fun v76 => (bd (.ok []) fun r77 => .ok (v76 :: r77))) ((kwE 0 1 [.inl 0] (ul1 fun d => .ok (.err "BadLine" [("word", d)]))) [])) fun v78 => (bd (.ok []) fun r79 => .ok (v78 :: r79))) fun r81 => .ok (v80 :: r81))) fun ds => if ds.length ≤ sizeLine then .ok (.lst ds) else .bad) fun v83 => addD v82 v83)) fun d => .ok (.rt d)))))
theorem ok__law_by_name (F : FnA K d__law_by_name fd) (T : Tx K mg) (GK_BadLength___init___1_value : PromK P w K mg base CX0 1 (md "BadLength" "__init__" K) 1 ["value"] (fun vs zs => vs ++ picks [.inl 0] [] zs) (spErr1 (gd "BadLength" K) "value")) (GK_BadPlace___init___1_value : PromK P w K mg base CX0 1 (md "BadPlace" "__init__" K) 1 ["value"] (fun vs zs => vs ++ picks [.inl 0] [] zs) (spErr1 (gd "BadPlace" K) "value")) (GK_BadRest___init___1_value : PromK P w K mg base CX0 1 (md "BadRest" "__init__" K) 1 ["value"] (fun vs zs => vs ++ picks [.inl 0] [] zs) (spErr1 (gd "BadRest" K) "value")) (GK_BadRow___init___1_at : PromK P w K mg base CX0 1 (md "BadRow" "__init__" K) 1 ["at"] (fun vs zs => vs ++ picks [.inl 0] [] zs) (spErr1 (gd "BadRow" K) "at")) (GK_BadChange___init___1_part : PromK P w K mg base CX0 1 (md "BadChange" "__init__" K) 1 ["part"] (fun vs zs => vs ++ picks [.inl 0] [] zs) (spErr1 (gd "BadChange" K) "part")) (GK_BadSpan___init___1_part : PromK P w K mg base CX0 1 (md "BadSpan" "__init__" K) 1 ["part"] (fun vs zs => vs ++ picks [.inl 0] [] zs) (spErr1 (gd "BadSpan" K) "part")) (GK_BadStep___init___1_at : PromK P w K mg base CX0 1 (md "BadStep" "__init__" K) 1 ["at"] (fun vs zs => vs ++ picks [.inl 0] [] zs) (spErr1 (gd "BadStep" K) "at")) (GK_BadNumber___init___1_value : PromK P w K mg base CX0 1 (md "BadNumber" "__init__" K) 1 ["value"] (fun vs zs => vs ++ picks [.inl 0] [] zs) (spErr1 (gd "BadNumber" K) "value")) (GK_BadForm___init___1_part : PromK P w K mg base CX0 1 (md "BadForm" "__init__" K) 1 ["part"] (fun vs zs => vs ++ picks [.inl 0] [] zs) (spErr1 (gd "BadForm" K) "part")) (GK_BadSpot___init___1_part : PromK P w K mg base CX0 1 (md "BadSpot" "__init__" K) 1 ["part"] (fun vs zs => vs ++ picks [.inl 0] [] zs) (spErr1 (gd "BadSpot" K) "part")) (GK_Overlap___init___1_length : PromK P w K mg base CX0 1 (md "Overlap" "__init__" K) 1 ["length"] (fun vs zs => vs ++ picks [.inl 0] [] zs) (spErr1 (gd "Overlap" K) "length")) (GK_NoStep___init___1_index : PromK P w K mg base CX0 1 (md "NoStep" "__init__" K) 1 ["index"] (fun vs zs => vs ++ picks [.inl 0] [] zs) (spErr1 (gd "NoStep" K) "index")) (GK_TooMany___init___1_most_what : PromK P w K mg base CX0 1 (md "TooMany" "__init__" K) 1 ["most", "what"] (fun vs zs => vs ++ picks [.inl 1, .inl 0] [] zs) (spErr2 (gd "TooMany" K) "what" "most")) (GK_Parts___init___1_place_length : PromK P w K mg base CX0 1 (md "Parts" "__init__" K) 1 ["place", "length"] (fun vs zs => vs ++ picks [.inl 1, .inl 0] [] zs) (spErr2 (gd "Parts" K) "length" "place")) (GK_BadText___init___1_word_line : PromK P w K mg base CX0 1 (md "BadText" "__init__" K) 1 ["word", "line"] (fun vs zs => vs ++ picks [.inl 1, .inl 0] [] zs) (spErr2 (gd "BadText" K) "line" "word")) (GK_NoName___init___1_name : PromK P w K mg base CX0 1 (md "NoName" "__init__" K) 1 ["name"] (fun vs zs => vs ++ picks [.inl 0] [] zs) (spErr1 (gd "NoName" K) "name")) (GK_BadLine___init___1_word : PromK P w K mg base CX0 1 (md "BadLine" "__init__" K) 1 ["word"] (fun vs zs => vs ++ picks [.inl 0] [] zs) (spErr1 (gd "BadLine" K) "word")) : FnOk P w K mg base CX0 3 (d__law_by_name.adr K) fd ["_law_a", "_law_b"] (spF K Tb (ul2 F__law_by_name)) := by
  refine fnO0 F sc__law_by_name (fun vs H Q E h => spF_len len2 h) (fun cdv A outer s H vs Q E hr h => ?_)
  refine ⟨_, (pss_cons (ps_set (i := 2) sc__law_by_name.nd rfl (.inl rfl) (pe_lst (pa_cons (pe_gk0 (PromK.makeE T.ox_BadLength T.in_BadLength.iC T.in_BadLength.tI GK_BadLength___init___1_value (hr.mono (by decide)) (passA (E := E))) (by rfl) T.g_BadLength T.k_BadLength (pk_cons (pv 0) pk_nil)) (pa_cons (pe_gk0 (PromK.makeE T.ox_BadPlace T.in_BadPlace.iC T.in_BadPlace.tI GK_BadPlace___init___1_value (hr.mono (by decide)) (passA (E := E))) (by rfl) T.g_BadPlace T.k_BadPlace (pk_cons (pv 0) pk_nil)) (pa_cons (pe_gk0 (PromK.makeE T.ox_BadRest T.in_BadRest.iC T.in_BadRest.tI GK_BadRest___init___1_value (hr.mono (by decide)) (passA (E := E))) (by rfl) T.g_BadRest T.k_BadRest (pk_cons (pv 0) pk_nil)) (pa_cons (pe_gk0 (PromK.makeE T.ox_BadRow T.in_BadRow.iC T.in_BadRow.tI GK_BadRow___init___1_at (hr.mono (by decide)) (passA (E := E))) (by rfl) T.g_BadRow T.k_BadRow (pk_cons (pv 0) pk_nil)) (pa_cons (pe_gk0 (PromK.makeE T.ox_BadChange T.in_BadChange.iC T.in_BadChange.tI GK_BadChange___init___1_part (hr.mono (by decide)) (passA (E := E))) (by rfl) T.g_BadChange T.k_BadChange (pk_cons (pv 0) pk_nil)) (pa_cons (pe_gk0 (PromK.makeE T.ox_BadSpan T.in_BadSpan.iC T.in_BadSpan.tI GK_BadSpan___init___1_part (hr.mono (by decide)) (passA (E := E))) (by rfl) T.g_BadSpan T.k_BadSpan (pk_cons (pv 0) pk_nil)) pa_nil))))))))
      (pss_cons (ps_set (i := 2) sc__law_by_name.nd rfl (.inl rfl) (pe_op (op_addA (K := K) rfl) (pv 2) (pe_lst (pa_cons (pe_gk0 (PromK.makeE T.ox_BadStep T.in_BadStep.iC T.in_BadStep.tI GK_BadStep___init___1_at (hr.mono (by decide)) (passA (E := E))) (by rfl) T.g_BadStep T.k_BadStep (pk_cons (pv 0) pk_nil)) (pa_cons (pe_gk0 (PromK.makeE T.ox_BadNumber T.in_BadNumber.iC T.in_BadNumber.tI GK_BadNumber___init___1_value (hr.mono (by decide)) (passA (E := E))) (by rfl) T.g_BadNumber T.k_BadNumber (pk_cons (pv 0) pk_nil)) (pa_cons (pe_gk0 (PromK.makeE T.ox_BadForm T.in_BadForm.iC T.in_BadForm.tI GK_BadForm___init___1_part (hr.mono (by decide)) (passA (E := E))) (by rfl) T.g_BadForm T.k_BadForm (pk_cons (pv 0) pk_nil)) (pa_cons (pe_gk0 (PromK.makeE T.ox_BadSpot T.in_BadSpot.iC T.in_BadSpot.tI GK_BadSpot___init___1_part (hr.mono (by decide)) (passA (E := E))) (by rfl) T.g_BadSpot T.k_BadSpot (pk_cons (pv 0) pk_nil)) (pa_cons (pe_gk0 (PromK.makeE T.ox_Overlap T.in_Overlap.iC T.in_Overlap.tI GK_Overlap___init___1_length (hr.mono (by decide)) (passA (E := E))) (by rfl) T.g_Overlap T.k_Overlap (pk_cons (pv 0) pk_nil)) pa_nil))))))))
      (pss_cons (ps_set (i := 2) sc__law_by_name.nd rfl (.inl rfl) (pe_op (op_addA (K := K) rfl) (pv 2) (pe_lst (pa_cons (pe_gk0 (PromK.makeE T.ox_NoStep T.in_NoStep.iC T.in_NoStep.tI GK_NoStep___init___1_index (hr.mono (by decide)) (passA (E := E))) (by rfl) T.g_NoStep T.k_NoStep (pk_cons (pv 0) pk_nil)) (pa_cons (pe_gk0 (PromK.makeE T.ox_TooMany T.in_TooMany.iC T.in_TooMany.tI GK_TooMany___init___1_most_what (hr.mono (by decide)) (passA (E := E))) (by rfl) T.g_TooMany T.k_TooMany (pk_cons (pv 1) (pk_cons (pv 0) pk_nil))) (pa_cons (pe_gk0 (PromK.makeE T.ox_Parts T.in_Parts.iC T.in_Parts.tI GK_Parts___init___1_place_length (hr.mono (by decide)) (passA (E := E))) (by rfl) T.g_Parts T.k_Parts (pk_cons (pv 1) (pk_cons (pv 0) pk_nil))) (pa_cons (pe_gk0 (PromK.makeE T.ox_BadText T.in_BadText.iC T.in_BadText.tI GK_BadText___init___1_word_line (hr.mono (by decide)) (passA (E := E))) (by rfl) T.g_BadText T.k_BadText (pk_cons (pv 1) (pk_cons (pv 0) pk_nil))) pa_nil)))))))
      (pss_cons (ps_ret (pe_op (op_addA (K := K) rfl) (pv 2) (pe_lst (pa_cons (pe_gk0 (PromK.makeE T.ox_NoName T.in_NoName.iC T.in_NoName.tI GK_NoName___init___1_name (hr.mono (by decide)) (passA (E := E))) (by rfl) T.g_NoName T.k_NoName (pk_cons (pv 0) pk_nil)) (pa_cons (pe_gk0 (PromK.makeE T.ox_BadLine T.in_BadLine.iC T.in_BadLine.tI GK_BadLine___init___1_word (hr.mono (by decide)) (passA (E := E))) (by rfl) T.g_BadLine T.k_BadLine (pk_cons (pv 0) pk_nil)) pa_nil))))) pss_nil)))), ?_⟩
  exact fn_of2 (F := F__law_by_name) (envU := fun _ => List.replicate 3 .no) h (fun l_a l_b => rfl) (fun p c l_a l_b => (ss_asg (se_lst (sa_cons (se_clK0 (srk_mkE (by decide) srl_mkE1) (sa_cons se_var sa_nil)) (sa_cons (se_clK0 (srk_mkE (by decide) srl_mkE1) (sa_cons se_var sa_nil)) (sa_cons (se_clK0 (srk_mkE (by decide) srl_mkE1) (sa_cons se_var sa_nil)) (sa_cons (se_clK0 (srk_mkE (by decide) srl_mkE1) (sa_cons se_var sa_nil)) (sa_cons (se_clK0 (srk_mkE (by decide) srl_mkE1) (sa_cons se_var sa_nil)) (sa_cons (se_clK0 (srk_mkE (by decide) srl_mkE1) (sa_cons se_var sa_nil)) sa_nil))))))) (fun l_found0 => (ss_asg (se_op sr_add se_var (se_lst (sa_cons (se_clK0 (srk_mkE (by decide) srl_mkE1) (sa_cons se_var sa_nil)) (sa_cons (se_clK0 (srk_mkE (by decide) srl_mkE1) (sa_cons se_var sa_nil)) (sa_cons (se_clK0 (srk_mkE (by decide) srl_mkE1) (sa_cons se_var sa_nil)) (sa_cons (se_clK0 (srk_mkE (by decide) srl_mkE1) (sa_cons se_var sa_nil)) (sa_cons (se_clK0 (srk_mkE (by decide) srl_mkE1) (sa_cons se_var sa_nil)) sa_nil))))))) (fun l_found25 => (ss_asg (se_op sr_add se_var (se_lst (sa_cons (se_clK0 (srk_mkE (by decide) srl_mkE1) (sa_cons se_var sa_nil)) (sa_cons (se_clK0 (srk_mkE (by decide) srl_mkE2) (sa_cons se_var (sa_cons se_var sa_nil))) (sa_cons (se_clK0 (srk_mkE (by decide) srl_mkE2) (sa_cons se_var (sa_cons se_var sa_nil))) (sa_cons (se_clK0 (srk_mkE (by decide) srl_mkE2) (sa_cons se_var (sa_cons se_var sa_nil))) sa_nil)))))) (fun l_found48 => (ss_ret (se_op sr_add se_var (se_lst (sa_cons (se_clK0 (srk_mkE (by decide) srl_mkE1) (sa_cons se_var sa_nil)) (sa_cons (se_clK0 (srk_mkE (by decide) srl_mkE1) (sa_cons se_var sa_nil)) sa_nil))))))))))))
abbrev N__law_kept : List Str := ["_law_error", "_law_field"]
theorem sc__law_kept : FnScope N__law_kept ["_law_error", "_law_field"] (defScope s__law_kept) := ⟨rfl, rfl, rfl, by decide +kernel, rfl, by decide +kernel, by decide +kernel⟩
def F__law_kept (l_error l_field : D) : Tr D :=
  fin (bdF (W' := Unit) (bd (bd (bd (.ok l_field) fun v7 => (bd (bd (bd (.ok (.str "value")) fun v5 => (bd (bd (.ok (.str "at")) fun v3 => (bd (bd (.ok (.str "part")) fun v1 => (bd (.ok []) fun r2 => .ok (v1 :: r2))) fun r4 => .ok (v3 :: r4))) fun r6 => .ok (v5 :: r6))) fun ds => if ds.length ≤ sizeLine then .ok (.tup ds) else .bad) fun v8 => inOD v7 v8)) asB) fun k => if k = true then (bd (bd (bd (bd (.ok l_field) fun v10 => (bd (.ok (.str "value")) fun v11 => eqD v10 v11)) asB) fun k => if k = true then (bd (.ok l_error) (xaD ["BadLength", "BadPlace", "BadRest", "BadNumber"] "value")) else (bd (bd (bd (.ok l_field) fun v12 => (bd (.ok (.str "at")) fun v13 => eqD v12 v13)) asB) fun k => if k = true then (bd (.ok l_error) (xaD ["BadRow", "BadStep"] "at")) else (bd (.ok l_error) (xaD ["BadChange", "BadSpan", "BadForm", "BadSpot"] "part")))) fun d => .ok (.rt d)) else (.ok (.nx ()))) fun (w9 : Unit) => (bdF (W' := Unit) (bd (bd (bd (.ok l_field) fun v20 => (bd (bd (bd (.ok (.str "length")) fun v18 => (bd (bd (.ok (.str "index")) fun v16 => (bd (bd (.ok (.str "what")) fun v14 => (bd (.ok []) fun r15 => .ok (v14 :: r15))) fun r17 => .ok (v16 :: r17))) fun r19 => .ok (v18 :: r19))) fun ds => if ds.length ≤ sizeLine then .ok (.tup ds) else .bad) fun v21 => inOD v20 v21)) asB) fun k => if k = true then (bd (bd (bd (bd (.ok l_field) fun v23 => (bd (.ok (.str "length")) fun v24 => eqD v23 v24)) asB) fun k => if k = true then (bd (.ok l_error) (xaD ["Overlap", "Parts"] "length")) else (bd (bd (bd (.ok l_field) fun v25 => (bd (.ok (.str "index")) fun v26 => eqD v25 v26)) asB) fun k => if k = true then (bd (.ok l_error) (xaD ["NoStep"] "index")) else (bd (.ok l_error) (xaD ["TooMany"] "what")))) fun d => .ok (.rt d)) else (.ok (.nx ()))) fun (w22 : Unit) => (bdF (W' := Unit) (bd (bd (bd (.ok l_field) fun v33 => (bd (bd (bd (.ok (.str "most")) fun v31 => (bd (bd (.ok (.str "place")) fun v29 => (bd (bd (.ok (.str "line")) fun v27 => (bd (.ok []) fun r28 => .ok (v27 :: r28))) fun r30 => .ok (v29 :: r30))) fun r32 => .ok (v31 :: r32))) fun ds => if ds.length ≤ sizeLine then .ok (.tup ds) else .bad) fun v34 => inOD v33 v34)) asB) fun k => if k = true then (bd (bd (bd (bd (.ok l_field) fun v36 => (bd (.ok (.str "most")) fun v37 => eqD v36 v37)) asB) fun k => if k = true then (bd (.ok l_error) (xaD ["TooMany"] "most")) else (bd (bd (bd (.ok l_field) fun v38 => (bd (.ok (.str "place")) fun v39 => eqD v38 v39)) asB) fun k => if k = true then (bd (.ok l_error) (xaD ["Parts"] "place")) else (bd (.ok l_error) (xaD ["BadText"] "line")))) fun d => .ok (.rt d)) else (.ok (.nx ()))) fun (w35 : Unit) => (bd (bd (bd (bd (.ok l_field) fun v40 => (bd (.ok (.str "word")) fun v41 => eqD v40 v41)) asB) fun k => if k = true then (bd (.ok l_error) (xaD ["BadText", "BadLine"] "word")) else (bd (.ok l_error) (xaD ["NoName"] "name"))) fun d => .ok (.rt d)))))
theorem ok__law_kept (F : FnA K d__law_kept fd) (T : Tx K mg)  : FnOk P w K mg base CX0 1 (d__law_kept.adr K) fd ["_law_error", "_law_field"] (spF K Tb (ul2 F__law_kept)) := by
  refine fnO0 F sc__law_kept (fun vs H Q E h => spF_len len2 h) (fun cdv A outer s H vs Q E hr h => ?_)
  refine ⟨_, (pss_cons (ps_if (pt_cmpR (op_inA (K := K) rfl) (pv 1) (pe_tup (pa_cons pe_str (pa_cons pe_str (pa_cons pe_str pa_nil)))) (by rfl))
      (pss_cons (ps_ret (pe_ifExp (pt_cmpR (op_eqA (K := K) rfl hr.units) (pv 1) pe_str (nomark _)) (pe_xa (K := K) rfl (pv 0)) (pe_ifExp (pt_cmpR (op_eqA (K := K) rfl hr.units) (pv 1) pe_str (nomark _)) (pe_xa (K := K) rfl (pv 0)) (pe_xa (K := K) rfl (pv 0))))) pss_nil) pss_nil)
      (pss_cons (ps_if (pt_cmpR (op_inA (K := K) rfl) (pv 1) (pe_tup (pa_cons pe_str (pa_cons pe_str (pa_cons pe_str pa_nil)))) (by rfl))
      (pss_cons (ps_ret (pe_ifExp (pt_cmpR (op_eqA (K := K) rfl hr.units) (pv 1) pe_str (nomark _)) (pe_xa (K := K) rfl (pv 0)) (pe_ifExp (pt_cmpR (op_eqA (K := K) rfl hr.units) (pv 1) pe_str (nomark _)) (pe_xa (K := K) rfl (pv 0)) (pe_xa (K := K) rfl (pv 0))))) pss_nil) pss_nil)
      (pss_cons (ps_if (pt_cmpR (op_inA (K := K) rfl) (pv 1) (pe_tup (pa_cons pe_str (pa_cons pe_str (pa_cons pe_str pa_nil)))) (by rfl))
      (pss_cons (ps_ret (pe_ifExp (pt_cmpR (op_eqA (K := K) rfl hr.units) (pv 1) pe_str (nomark _)) (pe_xa (K := K) rfl (pv 0)) (pe_ifExp (pt_cmpR (op_eqA (K := K) rfl hr.units) (pv 1) pe_str (nomark _)) (pe_xa (K := K) rfl (pv 0)) (pe_xa (K := K) rfl (pv 0))))) pss_nil) pss_nil)
      (pss_cons (ps_ret (pe_ifExp (pt_cmpR (op_eqA (K := K) rfl hr.units) (pv 1) pe_str (nomark _)) (pe_xa (K := K) rfl (pv 0)) (pe_xa (K := K) rfl (pv 0)))) pss_nil)))), ?_⟩
  exact fn_of2 (F := F__law_kept) (envU := fun _ => List.replicate 2 .no) h (fun l_error l_field => rfl) (fun p c l_error l_field => (ss_if (fun (w9 : Unit) => [.fz l_error, .fz l_field]) (sb_tst (se_op sr_in se_var (se_tup (sa_cons (se_str (by decide)) (sa_cons (se_str (by decide)) (sa_cons (se_str (by decide)) sa_nil)))))) (ss_ret (se_if (sb_tst (se_op sr_eq se_var (se_str (by decide)))) (se_xa (xt_value T) se_var) (se_if (sb_tst (se_op sr_eq se_var (se_str (by decide)))) (se_xa (xt_at T) se_var) (se_xa (xt_part T) se_var)))) (ss_nx (.s (.s .nil))) (fun (w9 : Unit) => (ss_if (fun (w22 : Unit) => [.fz l_error, .fz l_field]) (sb_tst (se_op sr_in se_var (se_tup (sa_cons (se_str (by decide)) (sa_cons (se_str (by decide)) (sa_cons (se_str (by decide)) sa_nil)))))) (ss_ret (se_if (sb_tst (se_op sr_eq se_var (se_str (by decide)))) (se_xa (xt_length T) se_var) (se_if (sb_tst (se_op sr_eq se_var (se_str (by decide)))) (se_xa (xt_index T) se_var) (se_xa (xt_what T) se_var)))) (ss_nx (.s (.s .nil))) (fun (w22 : Unit) => (ss_if (fun (w35 : Unit) => [.fz l_error, .fz l_field]) (sb_tst (se_op sr_in se_var (se_tup (sa_cons (se_str (by decide)) (sa_cons (se_str (by decide)) (sa_cons (se_str (by decide)) sa_nil)))))) (ss_ret (se_if (sb_tst (se_op sr_eq se_var (se_str (by decide)))) (se_xa (xt_most T) se_var) (se_if (sb_tst (se_op sr_eq se_var (se_str (by decide)))) (se_xa (xt_place T) se_var) (se_xa (xt_line T) se_var)))) (ss_nx (.s (.s .nil))) (fun (w35 : Unit) => (ss_ret (se_if (sb_tst (se_op sr_eq se_var (se_str (by decide)))) (se_xa (xt_word T) se_var) (se_xa (xt_name T) se_var))))))))))
abbrev N__law_classes : List Str := ["_law_error", "_law_found"]
theorem sc__law_classes : FnScope N__law_classes ["_law_error"] (defScope s__law_classes) := ⟨rfl, rfl, rfl, by decide +kernel, rfl, by decide +kernel, by decide +kernel⟩
def F__law_classes (l_error : D) : Tr D :=
  fin (bd (bd (bd (bd (.ok l_error) fun d => bd (opt (isi_BadLength d)) fun k => .ok (.bl k)) fun v6 => (bd (bd (bd (.ok l_error) fun d => bd (opt (isi_BadPlace d)) fun k => .ok (.bl k)) fun v4 => (bd (bd (bd (.ok l_error) fun d => bd (opt (isi_BadRest d)) fun k => .ok (.bl k)) fun v2 => (bd (.ok []) fun r3 => .ok (v2 :: r3))) fun r5 => .ok (v4 :: r5))) fun r7 => .ok (v6 :: r7))) fun ds => if ds.length ≤ sizeLine then .ok (.lst ds) else .bad) fun l_found0 => (bd (bd (.ok l_found0) fun v15 => (bd (bd (bd (bd (.ok l_error) fun d => bd (opt (isi_BadRow d)) fun k => .ok (.bl k)) fun v13 => (bd (bd (bd (.ok l_error) fun d => bd (opt (isi_BadChange d)) fun k => .ok (.bl k)) fun v11 => (bd (bd (bd (.ok l_error) fun d => bd (opt (isi_BadSpan d)) fun k => .ok (.bl k)) fun v9 => (bd (.ok []) fun r10 => .ok (v9 :: r10))) fun r12 => .ok (v11 :: r12))) fun r14 => .ok (v13 :: r14))) fun ds => if ds.length ≤ sizeLine then .ok (.lst ds) else .bad) fun v16 => addD v15 v16)) fun l_found7 => (bd (bd (.ok l_found7) fun v24 => (bd (bd (bd (bd (.ok l_error) fun d => bd (opt (isi_BadStep d)) fun k => .ok (.bl k)) fun v22 => (bd (bd (bd (.ok l_error) fun d => bd (opt (isi_BadNumber d)) fun k => .ok (.bl k)) fun v20 => (bd (bd (bd (.ok l_error) fun d => bd (opt (isi_BadForm d)) fun k => .ok (.bl k)) fun v18 => (bd (.ok []) fun r19 => .ok (v18 :: r19))) fun r21 => .ok (v20 :: r21))) fun r23 => .ok (v22 :: r23))) fun ds => if ds.length ≤ sizeLine then .ok (.lst ds) else .bad) fun v25 => addD v24 v25)) fun l_found16 => (bd (bd (.ok l_found16) fun v33 => (bd (bd (bd (bd (.ok l_error) fun d => bd (opt (isi_BadSpot d)) fun k => .ok (.bl k)) fun v31 => (bd (bd (bd (.ok l_error) fun d => bd (opt (isi_Overlap d)) fun k => .ok (.bl k)) fun v29 => (bd (bd (bd (.ok l_error) fun d => bd (opt (isi_NoStep d)) fun k => .ok (.bl k)) fun v27 => (bd (.ok []) fun r28 => .ok (v27 :: r28))) fun r30 => .ok (v29 :: r30))) fun r32 => .ok (v31 :: r32))) fun ds => if ds.length ≤ sizeLine then .ok (.lst ds) else .bad) fun v34 => addD v33 v34)) fun l_found25 => (bd (bd (.ok l_found25) fun v42 => (bd (bd (bd (bd (.ok l_error) fun d => bd (opt (isi_TooMany d)) fun k => .ok (.bl k)) fun v40 => (bd (bd (bd (.ok l_error) fun d => bd (opt (isi_Parts d)) fun k => .ok (.bl k)) fun v38 => (bd (bd (bd (.ok l_error) fun d => bd (opt (isi_BadText d)) fun k => .ok (.bl k)) fun v36 => (bd (.ok []) fun r37 => .ok (v36 :: r37))) fun r39 => .ok (v38 :: r39))) fun r41 => .ok (v40 :: r41))) fun ds => if ds.length ≤ sizeLine then .ok (.lst ds) else .bad) fun v43 => addD v42 v43)) fun l_found34 => (bd (bd (.ok l_found34) fun v48 => (bd (bd (bd (bd (.ok l_error) fun d => bd (opt (isi_NoName d)) fun k => .ok (.bl k)) fun v46 => (bd (bd (bd (.ok l_error) fun d => bd (opt (isi_BadLine d)) fun k => .ok (.bl k)) fun v44 => (bd (.ok []) fun r45 => .ok (v44 :: r45))) fun r47 => .ok (v46 :: r47))) fun ds => if ds.length ≤ sizeLine then .ok (.lst ds) else .bad) fun v49 => addD v48 v49)) fun d => .ok (.rt d)))))))
theorem ok__law_classes (F : FnA K d__law_classes fd) (T : Tx K mg)  : FnOk P w K mg base CX0 1 (d__law_classes.adr K) fd ["_law_error"] (spF K Tb (ul1 F__law_classes)) := by
  refine fnO0 F sc__law_classes (fun vs H Q E h => spF_len len1 h) (fun cdv A outer s H vs Q E hr h => ?_)
  refine ⟨_, (pss_cons (ps_set (i := 1) sc__law_classes.nd rfl (.inl rfl) (pe_lst (pa_cons (pe_callB (call_isiZ (K := K) rfl) (by rfl) T.f_isinstance (by decide +kernel) (pa_cons (pv 0) (pa_cons (pe_glob (v := .ref _) rfl T.g_BadLength rfl) pa_nil))) (pa_cons (pe_callB (call_isiZ (K := K) rfl) (by rfl) T.f_isinstance (by decide +kernel) (pa_cons (pv 0) (pa_cons (pe_glob (v := .ref _) rfl T.g_BadPlace rfl) pa_nil))) (pa_cons (pe_callB (call_isiZ (K := K) rfl) (by rfl) T.f_isinstance (by decide +kernel) (pa_cons (pv 0) (pa_cons (pe_glob (v := .ref _) rfl T.g_BadRest rfl) pa_nil))) pa_nil)))))
      (pss_cons (ps_set (i := 1) sc__law_classes.nd rfl (.inl rfl) (pe_op (op_addA (K := K) rfl) (pv 1) (pe_lst (pa_cons (pe_callB (call_isiZ (K := K) rfl) (by rfl) T.f_isinstance (by decide +kernel) (pa_cons (pv 0) (pa_cons (pe_glob (v := .ref _) rfl T.g_BadRow rfl) pa_nil))) (pa_cons (pe_callB (call_isiZ (K := K) rfl) (by rfl) T.f_isinstance (by decide +kernel) (pa_cons (pv 0) (pa_cons (pe_glob (v := .ref _) rfl T.g_BadChange rfl) pa_nil))) (pa_cons (pe_callB (call_isiZ (K := K) rfl) (by rfl) T.f_isinstance (by decide +kernel) (pa_cons (pv 0) (pa_cons (pe_glob (v := .ref _) rfl T.g_BadSpan rfl) pa_nil))) pa_nil))))))
      (pss_cons (ps_set (i := 1) sc__law_classes.nd rfl (.inl rfl) (pe_op (op_addA (K := K) rfl) (pv 1) (pe_lst (pa_cons (pe_callB (call_isiZ (K := K) rfl) (by rfl) T.f_isinstance (by decide +kernel) (pa_cons (pv 0) (pa_cons (pe_glob (v := .ref _) rfl T.g_BadStep rfl) pa_nil))) (pa_cons (pe_callB (call_isiZ (K := K) rfl) (by rfl) T.f_isinstance (by decide +kernel) (pa_cons (pv 0) (pa_cons (pe_glob (v := .ref _) rfl T.g_BadNumber rfl) pa_nil))) (pa_cons (pe_callB (call_isiZ (K := K) rfl) (by rfl) T.f_isinstance (by decide +kernel) (pa_cons (pv 0) (pa_cons (pe_glob (v := .ref _) rfl T.g_BadForm rfl) pa_nil))) pa_nil))))))
      (pss_cons (ps_set (i := 1) sc__law_classes.nd rfl (.inl rfl) (pe_op (op_addA (K := K) rfl) (pv 1) (pe_lst (pa_cons (pe_callB (call_isiZ (K := K) rfl) (by rfl) T.f_isinstance (by decide +kernel) (pa_cons (pv 0) (pa_cons (pe_glob (v := .ref _) rfl T.g_BadSpot rfl) pa_nil))) (pa_cons (pe_callB (call_isiZ (K := K) rfl) (by rfl) T.f_isinstance (by decide +kernel) (pa_cons (pv 0) (pa_cons (pe_glob (v := .ref _) rfl T.g_Overlap rfl) pa_nil))) (pa_cons (pe_callB (call_isiZ (K := K) rfl) (by rfl) T.f_isinstance (by decide +kernel) (pa_cons (pv 0) (pa_cons (pe_glob (v := .ref _) rfl T.g_NoStep rfl) pa_nil))) pa_nil))))))
      (pss_cons (ps_set (i := 1) sc__law_classes.nd rfl (.inl rfl) (pe_op (op_addA (K := K) rfl) (pv 1) (pe_lst (pa_cons (pe_callB (call_isiZ (K := K) rfl) (by rfl) T.f_isinstance (by decide +kernel) (pa_cons (pv 0) (pa_cons (pe_glob (v := .ref _) rfl T.g_TooMany rfl) pa_nil))) (pa_cons (pe_callB (call_isiZ (K := K) rfl) (by rfl) T.f_isinstance (by decide +kernel) (pa_cons (pv 0) (pa_cons (pe_glob (v := .ref _) rfl T.g_Parts rfl) pa_nil))) (pa_cons (pe_callB (call_isiZ (K := K) rfl) (by rfl) T.f_isinstance (by decide +kernel) (pa_cons (pv 0) (pa_cons (pe_glob (v := .ref _) rfl T.g_BadText rfl) pa_nil))) pa_nil))))))
      (pss_cons (ps_ret (pe_op (op_addA (K := K) rfl) (pv 1) (pe_lst (pa_cons (pe_callB (call_isiZ (K := K) rfl) (by rfl) T.f_isinstance (by decide +kernel) (pa_cons (pv 0) (pa_cons (pe_glob (v := .ref _) rfl T.g_NoName rfl) pa_nil))) (pa_cons (pe_callB (call_isiZ (K := K) rfl) (by rfl) T.f_isinstance (by decide +kernel) (pa_cons (pv 0) (pa_cons (pe_glob (v := .ref _) rfl T.g_BadLine rfl) pa_nil))) pa_nil))))) pss_nil)))))), ?_⟩
  exact fn_of1 (F := F__law_classes) (envU := fun _ => List.replicate 2 .no) h (fun l_error => rfl) (fun p c l_error => (ss_asg (se_lst (sa_cons (se_isi (.own _) (isT_BadLength T) se_var) (sa_cons (se_isi (.own _) (isT_BadPlace T) se_var) (sa_cons (se_isi (.own _) (isT_BadRest T) se_var) sa_nil)))) (fun l_found0 => (ss_asg (se_op sr_add se_var (se_lst (sa_cons (se_isi (.own _) (isT_BadRow T) se_var) (sa_cons (se_isi (.own _) (isT_BadChange T) se_var) (sa_cons (se_isi (.own _) (isT_BadSpan T) se_var) sa_nil))))) (fun l_found7 => (ss_asg (se_op sr_add se_var (se_lst (sa_cons (se_isi (.own _) (isT_BadStep T) se_var) (sa_cons (se_isi (.own _) (isT_BadNumber T) se_var) (sa_cons (se_isi (.own _) (isT_BadForm T) se_var) sa_nil))))) (fun l_found16 => (ss_asg (se_op sr_add se_var (se_lst (sa_cons (se_isi (.own _) (isT_BadSpot T) se_var) (sa_cons (se_isi (.own _) (isT_Overlap T) se_var) (sa_cons (se_isi (.own _) (isT_NoStep T) se_var) sa_nil))))) (fun l_found25 => (ss_asg (se_op sr_add se_var (se_lst (sa_cons (se_isi (.own _) (isT_TooMany T) se_var) (sa_cons (se_isi (.own _) (isT_Parts T) se_var) (sa_cons (se_isi (.own _) (isT_BadText T) se_var) sa_nil))))) (fun l_found34 => (ss_ret (se_op sr_add se_var (se_lst (sa_cons (se_isi (.own _) (isT_NoName T) se_var) (sa_cons (se_isi (.own _) (isT_BadLine T) se_var) sa_nil))))))))))))))))
abbrev N_law : List Str := ["_law_script", "_law_pen_here", "_law_turn", "_law_base", "_law_told", "_law_named", "_law_a", "_law_b", "_law_k", "_law_pair", "_law_error", "_law_spot", "_law_field"]
theorem sc_law : FnScope N_law ["_law_script"] (defScope s_law) := ⟨rfl, rfl, rfl, by decide +kernel, rfl, by decide +kernel, by decide +kernel⟩
def F_law : Tr D :=
  fin (bdF (bd (bd (bd (.ok (.int 4)) fun v1 => (bd (.ok []) fun r2 => .ok (v1 :: r2))) (ul1 rg1)) fun ds => forF (fun (d4 : D) (w3 : Unit) => (bd (bd (bd (bd (.ok .pen) fun v6 => (bd (.ok []) fun r7 => .ok (v6 :: r7))) (ul1 F__law_value)) fun v12 => (bd (bd (bd (bd (.ok .pen) fun v8 => (bd (.ok []) fun r9 => .ok (v8 :: r9))) (ul1 F__law_value)) fun v10 => (bd (.ok []) fun r11 => .ok (v10 :: r11))) fun r13 => .ok (v12 :: r13))) (ul2 fun l_a13 l_b13 => (bd (bd (bd (.ok l_a13) fun v18 => (bd (bd (.ok l_b13) fun v16 => (bd (.ok []) fun r17 => .ok (v16 :: r17))) fun r19 => .ok (v18 :: r19))) (ul2 F__law_by_place)) fun l_told14 => (bd (bd (bd (.ok l_a13) fun v23 => (bd (bd (.ok l_b13) fun v21 => (bd (.ok []) fun r22 => .ok (v21 :: r22))) fun r24 => .ok (v23 :: r24))) (ul2 F__law_by_name)) fun l_named19 => (bdF (bd (bd (bd (.ok l_told14) fun v25 => (bd (.ok []) fun r26 => .ok (v25 :: r26))) (ul1 enD)) fun ds => forF (fun (d28 : D) (w27 : Unit) => (un2 d28 fun l_k28 l_pair28 => (bdF (bd (bd (bd (bd (bd (.ok l_pair28) fun v30 => (bd (.ok (.int 0)) fun v31 => ixD v30 v31)) fun v36 => (bd (bd (bd (.ok l_named19) fun v32 => (bd (.ok l_k28) fun v33 => ixD v32 v33)) fun v34 => (bd (.ok []) fun r35 => .ok (v34 :: r35))) fun r37 => .ok (v36 :: r37))) fun ds => if ds.length ≤ sizeLine then .ok (.tup ds) else .bad) itD) fun ds => forF (fun (d39 : D) (w38 : Unit) => (bdF (W' := Unit) (bd (bd (bd (bd (bd (bd (bd (bd (.ok l_pair28) fun v41 => (bd (.ok (.int 1)) fun v42 => ixD v41 v42)) itD) fun ds => bd (lcF (fun l_field42 => nox (bd (bd (bd (.ok d39) fun v46 => (bd (bd (.ok l_field42) fun v44 => (bd (.ok []) fun r45 => .ok (v44 :: r45))) fun r47 => .ok (v46 :: r47))) (ul2 F__law_kept)) fun y => .ok (some y))) ds) fun r => .ok (.lst r)) fun v48 => (bd (.ok []) fun r49 => .ok (v48 :: r49))) (ul1 reprX)) fun v62 => (bd (bd (bd (bd (bd (bd (.ok l_a13) fun v52 => (bd (bd (.ok l_b13) fun v50 => (bd (.ok []) fun r51 => .ok (v50 :: r51))) fun r53 => .ok (v52 :: r53))) fun ds => if ds.length ≤ sizeLine then .ok (.lst ds) else .bad) fun v54 => (bd (.ok none) fun lo => bd (bd (bd (bd (bd (.ok l_pair28) fun v56 => (bd (.ok (.int 1)) fun v57 => ixD v56 v57)) fun v58 => (bd (.ok []) fun r59 => .ok (v58 :: r59))) (ul1 lenD)) asI) fun hi => slD v54 lo hi)) fun v60 => (bd (.ok []) fun r61 => .ok (v60 :: r61))) (ul1 reprX)) fun v63 => neD v62 v63)) asB) fun k => if k = true then (bd (.ok (.bl false)) fun d => .ok (.rt d)) else (.ok (.nx ()))) fun (w64 : Unit) => (bdF (W' := Unit) (bd (bd (bd (bd (bd (.ok d39) fun d => bd (opt (isi_HuntError d)) fun k => .ok (.bl k)) asB) fun k => .ok (!k)) fun k => if k = true then .ok true else (bd (bd (bd (.ok d39) fun d => bd (opt (isi_ValueError d)) fun k => .ok (.bl k)) asB) fun k => .ok (!k))) fun k => if k = true then (bd (.ok (.bl false)) fun d => .ok (.rt d)) else (.ok (.nx ()))) fun (w65 : Unit) => (bdF (W' := Unit) (bd (bd (bd (bd (bd (.ok d39) fun v66 => (bd (.ok []) fun r67 => .ok (v66 :: r67))) (ul1 F__law_classes)) fun v75 => (bd (bd (bd (bd (bd (bd (.ok l_told14) fun v68 => (bd (.ok []) fun r69 => .ok (v68 :: r69))) (ul1 lenD)) fun v70 => (bd (.ok []) fun r71 => .ok (v70 :: r71))) (ul1 rg1)) fun ds => bd (lcF (fun l_spot71 => nox (bd (bd (.ok l_spot71) fun v73 => (bd (.ok l_k28) fun v74 => eqD v73 v74)) fun y => .ok (some y))) ds) fun r => .ok (.lst r)) fun v76 => neD v75 v76)) asB) fun k => if k = true then (bd (.ok (.bl false)) fun d => .ok (.rt d)) else (.ok (.nx ()))) fun (w77 : Unit) => (.ok (.nx ())))))) ds ()) fun (w38 : Unit) => (.ok (.nx ()))))) ds ()) fun (w27 : Unit) => (.ok (.nx ())))))))) ds ()) fun (w3 : Unit) => (bd (bd (.ok []) fun (ds : List D) => if ds = [] then .ok (.er0 "HuntError") else .bad) fun l_base77 => (bd (bd (bd (bd (.ok l_base77) fun d => bd (opt (isi_ValueError d)) fun k => .ok (.bl k)) asB) fun k => if k = true then (bd (.ok (.bl true)) fun v81 => (bd (bd (bd (.ok l_base77) fun v79 => (bd (.ok []) fun r80 => .ok (v79 :: r80))) (ul1 F__law_classes)) fun v82 => notinD v81 v82)) else .ok (.bl false)) fun d => .ok (.rt d))))
theorem ok_law (F : FnA K d_law fd) (T : Tx K mg) (hyes : Yes F_law) (G__law_pen : PromO P w K mg base CX0 1 (gd "_law_pen" K) [] (spPn K)) (G__law_value : PromO P w K mg base CX0 3 (gd "_law_value" K) [] (spF K Tb (ul1 F__law_value))) (G__law_by_place : PromO P w K mg base CX0 3 (gd "_law_by_place" K) [] (spF K Tb (ul2 F__law_by_place))) (G__law_by_name : PromO P w K mg base CX0 3 (gd "_law_by_name" K) [] (spF K Tb (ul2 F__law_by_name))) (G__law_kept : PromO P w K mg base CX0 1 (gd "_law_kept" K) [] (spF K Tb (ul2 F__law_kept))) (G__law_classes : PromO P w K mg base CX0 1 (gd "_law_classes" K) [] (spF K Tb (ul1 F__law_classes))) : FnG P w K mg base CX0 4 (d_law.adr K) fd ["_law_script"] (spLaw K Tb) := by
  refine fnG0 F sc_law (fun vs H Q E h => spLaw_len h) (fun cdv A outer s H vs Q E hr hg h => ?_)
  have hu100 := Nat.lt_of_le_of_lt (Nat.add_le_add_left (show 102 ≤ 16 * 3 + 200 by decide) _) (show _ + (16 * 3 + 200) < cLine from hr.un)
  refine ⟨_, pss_cons (ps_set (i := 1) sc_law.nd rfl (.inl rfl) (pe_g (PromO.call G__law_pen (hr.mono (by decide)) (passA (E := E))) (by rfl) T.g__law_pen T.k__law_pen (pa_cons (pv 0) pa_nil)))
      (pss_cons (ps_for PassesOwn.never rfl (pi_range1 (by rfl) T.f_range (pa_cons pe_int pa_nil)) (pg_name (i := 2) sc_law.nd rfl (.inl rfl))
      (pss_cons (ps_par (i := 6) (j := 7) (by rfl) sc_law.nd rfl rfl (by decide) rfl rfl (pa_cons (pe_g (PromO.call G__law_value (hr.mono (by decide)) (passA (E := EF))) (by rfl) T.g__law_value T.k__law_value (pa_cons (pv 1) pa_nil)) (pa_cons (pe_g (PromO.call G__law_value (hr.mono (by decide)) (passA (E := EF))) (by rfl) T.g__law_value T.k__law_value (pa_cons (pv 1) pa_nil)) pa_nil)) (by rfl))
      (pss_cons (ps_set (i := 4) sc_law.nd rfl (.inl rfl) (pe_g (PromO.call G__law_by_place (hr.mono (by decide)) (passA (E := EF))) (by rfl) T.g__law_by_place T.k__law_by_place (pa_cons (pv 6) (pa_cons (pv 7) pa_nil))))
      (pss_cons (ps_set (i := 5) sc_law.nd rfl (.inl rfl) (pe_g (PromO.call G__law_by_name (hr.mono (by decide)) (passA (E := EF))) (by rfl) T.g__law_by_name T.k__law_by_name (pa_cons (pv 6) (pa_cons (pv 7) pa_nil))))
      (pss_cons (ps_for PassesOwn.never rfl (pi_enumA (K := K) rfl (by rfl) T.f_enumerate (pa_cons (pv 4) pa_nil)) (pg_tup rfl (pgs_cons (pg_name (i := 8) sc_law.nd rfl (.inr rfl)) (pgs_cons (pg_name (i := 9) sc_law.nd rfl (.inl rfl)) pgs_nil)))
      (pss_cons (ps_for PassesOwn.never rfl (pi_seq (K := K) rfl (pe_tup (pa_cons (pe_ix (ix_seqK (K := K) rfl) (pv 9) pe_int (fun _ _ => rfl)) (pa_cons (pe_ix (ix_seqK (K := K) rfl) (pv 5) (pv 8) (fun _ _ => rfl)) pa_nil)))) (pg_name (i := 10) sc_law.nd rfl (.inr rfl))
      (pss_cons (ps_if (pt_cmpR (op_neA (K := K) rfl hr.units) (pe_callB (call_showX (K := K) rfl T.sysm hu100 hg) (by rfl) T.f_repr (by decide +kernel) (pa_cons (pe_lc (own := [("_law_field", 12)]) (g := gName 12) (by rfl) sc_law.nd (pi_seq (K := K) rfl (pe_ix (ix_seqK (K := K) rfl) (pv 9) pe_int (fun _ _ => rfl))) (blkOk_by (own := [("_law_field", 12)]) (N := N_law) (sc := defScope s_law) (by decide +kernel)) (fun _ _ _ _ _ => pg_name (i := 12) sc_law.nd rfl (Or.inl rfl)) (fun _ _ _ _ _ => pts_nil) (fun _ _ _ _ _ => (pe_g (PromO.call G__law_kept (hr.mono (by decide)) (passA (E := EF))) (by rfl) T.g__law_kept T.k__law_kept (pa_cons (pv 10) (pa_cons (pv 12) pa_nil))))) pa_nil)) (pe_callB (call_showX (K := K) rfl T.sysm hu100 hg) (by rfl) T.f_repr (by decide +kernel) (pa_cons (pe_slice (sl_all (K := K) rfl) (pe_lst (pa_cons (pv 6) (pa_cons (pv 7) pa_nil))) po_none (po_some (pe_callB (cr_len (K := K) rfl) (by rfl) T.f_len (by decide +kernel) (pa_cons (pe_ix (ix_seqK (K := K) rfl) (pv 9) pe_int (fun _ _ => rfl)) pa_nil)))) pa_nil)) (nomark _))
      (pss_cons (ps_ret pe_bl) pss_nil) pss_nil)
      (pss_cons (ps_if (PW.pt (pw_or (pt_not (pt_val (pe_callB (call_isiZ (K := K) rfl) (by rfl) T.f_isinstance (by decide +kernel) (pa_cons (pv 10) (pa_cons (pe_glob (v := .ref _) rfl T.g_HuntError rfl) pa_nil))))) (pw_or1 (pt_not (pt_val (pe_callB (call_isiZ (K := K) rfl) (by rfl) T.f_isinstance (by decide +kernel) (pa_cons (pv 10) (pa_cons (pe_bltn (v := .ty "ValueError") (by rfl) T.f_ValueError (by decide +kernel) rfl) pa_nil))))))))
      (pss_cons (ps_ret pe_bl) pss_nil) pss_nil)
      (pss_cons (ps_if (pt_cmpR (op_neA (K := K) rfl hr.units) (pe_g (PromO.call G__law_classes (hr.mono (by decide)) (passA (E := EF))) (by rfl) T.g__law_classes T.k__law_classes (pa_cons (pv 10) pa_nil)) (pe_lc (own := [("_law_spot", 11)]) (g := gName 11) (by rfl) sc_law.nd (pi_range1 (by rfl) T.f_range (pa_cons (pe_callB (cr_len (K := K) rfl) (by rfl) T.f_len (by decide +kernel) (pa_cons (pv 4) pa_nil)) pa_nil)) (blkOk_by (own := [("_law_spot", 11)]) (N := N_law) (sc := defScope s_law) (by decide +kernel)) (fun _ _ _ _ _ => pg_name (i := 11) sc_law.nd rfl (Or.inl rfl)) (fun _ _ _ _ _ => pts_nil) (fun _ _ _ _ _ => (pe_cmpR (op_eqA (K := K) rfl hr.units) (pv 11) (pv 8) (nomark _)))) (nomark _))
      (pss_cons (ps_ret pe_bl) pss_nil) pss_nil)
      pss_nil))))
      pss_nil))
      pss_nil)))))
      (pss_cons (ps_set (i := 3) sc_law.nd rfl (.inl rfl) (pe_g0 (call_makeE0 T.ox_HuntError T.e0_HuntError) (by rfl) T.g_HuntError T.k_HuntError))
      (pss_cons (ps_ret (pe_and (pe_callB (call_isiZ (K := K) rfl) (by rfl) T.f_isinstance (by decide +kernel) (pa_cons (pv 3) (pa_cons (pe_bltn (v := .ty "ValueError") (by rfl) T.f_ValueError (by decide +kernel) rfl) pa_nil))) (pe_one (pe_cmpR (op_notinA (K := K) rfl) pe_bl (pe_g (PromO.call G__law_classes (hr.mono (by decide)) (passA (E := EF))) (by rfl) T.g__law_classes T.k__law_classes (pa_cons (pv 3) pa_nil)) (by rfl))))) pss_nil))), ?_⟩
  exact law_of (N := N_law) (i := 1) (n := 12) (F := F_law) (envU := fun _ => List.replicate 13 .no) hyes h rfl (by decide) (by decide) rfl (fun p c => (ss_for (fun (w3 : Unit) => [.no, .fz .pen, .no, .no, .no, .no, .no, .no, .no, .no, .no, .no, .no]) (si_rg1 (sa_cons se_int sa_nil)) (.s (.s (.s (.s (.s (.s (.s (.s (.s (.s (.s (.s (.s .nil))))))))))))) (fun (d4 : D) (w3 : Unit) => (sx_name (ss_par (sa_cons (se_cl srl_sp0 (sa_cons se_var sa_nil)) (sa_cons (se_cl srl_sp0 (sa_cons se_var sa_nil)) sa_nil)) (fun l_a13 l_b13 => (ss_asg (se_cl srl_sp0 (sa_cons se_var (sa_cons se_var sa_nil))) (fun l_told14 => (ss_asg (se_cl srl_sp0 (sa_cons se_var (sa_cons se_var sa_nil))) (fun l_named19 => (ss_for (fun (w27 : Unit) => [.no, .fz .pen, .fz d4, .no, .fz l_told14, .fz l_named19, .fz l_a13, .fz l_b13, .no, .no, .no, .no, .no]) (si_enum (sa_cons se_var sa_nil)) (.s (.s (.s (.s (.s (.s (.s (.s (.s (.s (.s (.s (.s .nil))))))))))))) (fun (d28 : D) (w27 : Unit) => (sx_tup2 (fun l_k28 l_pair28 => (ss_for (fun (w38 : Unit) => [.no, .fz .pen, .fz d4, .no, .fz l_told14, .fz l_named19, .fz l_a13, .fz l_b13, .fz l_k28, .fz l_pair28, .no, .no, .no]) (si_seq (se_tup (sa_cons (se_op sr_ix se_var se_int) (sa_cons (se_op sr_ix se_var se_var) sa_nil)))) (.s (.s (.s (.s (.s (.s (.s (.s (.s (.s (.s (.s (.s .nil))))))))))))) (fun (d39 : D) (w38 : Unit) => (sx_name (ss_if (fun (w64 : Unit) => [.no, .fz .pen, .fz d4, .no, .fz l_told14, .fz l_named19, .fz l_a13, .fz l_b13, .fz l_k28, .fz l_pair28, .fz d39, .no, .no]) (sb_tst (se_op sr_ne (se_cb srl_reprX (sa_cons (se_lc (si_seq (se_op sr_ix se_var se_int)) (fun l_field42 => (sc_map (se_cl srl_sp0 (sa_cons se_var (sa_cons se_var sa_nil)))))) sa_nil)) (se_cb srl_reprX (sa_cons (se_sl (se_lst (sa_cons se_var (sa_cons se_var sa_nil))) so_none (so_some (se_cb srl_len (sa_cons (se_op sr_ix se_var se_int) sa_nil)))) sa_nil)))) (ss_ret se_bl) (ss_nx (.s (.s (.s (.s (.s (.s (.s (.s (.s (.s (.s (.s (.s .nil)))))))))))))) (fun (w64 : Unit) => (ss_if (fun (w65 : Unit) => [.no, .fz .pen, .fz d4, .no, .fz l_told14, .fz l_named19, .fz l_a13, .fz l_b13, .fz l_k28, .fz l_pair28, .fz d39, .no, .no]) (sb_or (sb_not (sb_tb (se_isi (.own _) (isT_HuntError T) se_var))) (sb_not (sb_tb (se_isi (.ty _) (isT_ValueError T) se_var)))) (ss_ret se_bl) (ss_nx (.s (.s (.s (.s (.s (.s (.s (.s (.s (.s (.s (.s (.s .nil)))))))))))))) (fun (w65 : Unit) => (ss_if (fun (w77 : Unit) => [.no, .fz .pen, .fz d4, .no, .fz l_told14, .fz l_named19, .fz l_a13, .fz l_b13, .fz l_k28, .fz l_pair28, .fz d39, .no, .no]) (sb_tst (se_op sr_ne (se_cl srl_sp0 (sa_cons se_var sa_nil)) (se_lc (si_rg1 (sa_cons (se_cb srl_len (sa_cons se_var sa_nil)) sa_nil)) (fun l_spot71 => (sc_map (se_op sr_eq se_var se_var)))))) (ss_ret se_bl) (ss_nx (.s (.s (.s (.s (.s (.s (.s (.s (.s (.s (.s (.s (.s .nil)))))))))))))) (fun (w77 : Unit) => (ss_nx (.s (.s (.s (.s (.s (.s (.s (.s (.s (.s (.n (.s (.s .nil)))))))))))))))))))))) (fun (w38 : Unit) => (ss_nx (.s (.s (.s (.s (.s (.s (.s (.s (.n (.n (.s (.s (.s .nil))))))))))))))))))) (fun (w27 : Unit) => (ss_nx (.s (.s (.n (.s (.n (.n (.n (.n (.s (.s (.s (.s (.s .nil)))))))))))))))))))))))) (fun (w3 : Unit) => (ss_asg (se_cl srl_mkE0 sa_nil) (fun l_base77 => (ss_ret (se_andV (se_isi (.ty _) (isT_ValueError T) se_var) (se_op sr_notin se_bl (se_cl srl_sp0 (sa_cons se_var sa_nil))))))))))
end
end Lw
end
section
set_option linter.all false
set_option maxRecDepth 100000
namespace Gp
open PySem
section
variable {α β γ : Type}
def Bo (P : α → Prop) : Tr α → Nat → Prop
  | .ok a, _ => P a
  | .ex _ _, _ => False
  | .bad, _ => False
  | .draw m k, n => ∃ n', n = n' + 1 ∧ 0 < m ∧ m < 10 ^ 100 ∧ ∀ d, 0 ≤ d → d < m → Bo P (k d) n'
theorem Bo.mono {P Q : α → Prop} (h : ∀ a, P a → Q a) : ∀ {m : Tr α} {n k : Nat}, n ≤ k → Bo P m n → Bo Q m k
  | .ok a, _, _, _, z => h a z
  | .ex _ _, _, _, _, z => z
  | .bad, _, _, _, z => z
  | .draw m f, n, k, l, ⟨n', e, h1, h2, h3⟩ => ⟨k - 1, by omega, h1, h2, fun d d0 d1 => Bo.mono h (m := f d) (n := n') (by omega) (h3 d d0 d1)⟩
theorem Bo.bd {P : α → Prop} {Q : β → Prop} {k : α → Tr β} {b : Nat} : ∀ {m : Tr α} {a : Nat}, Bo P m a → (∀ x, P x → Bo Q (k x) b) → Bo Q (bd m k) (a + b)
  | .ok x, a, h, hk => (hk x h).mono (fun _ z => z) (Nat.le_add_left _ _)
  | .ex _ _, _, h, _ => h
  | .bad, _, h, _ => h
  | .draw m f, a, ⟨n', e, h1, h2, h3⟩, hk => ⟨n' + b, by omega, h1, h2, fun d d0 d1 => Bo.bd (m := f d) (h3 d d0 d1) hk⟩
theorem Bo.al {P : α → Prop} {Q : α → Nat → Prop} {E : Str → Fs → Nat → Prop} (h : ∀ a b, P a → Q a b) : ∀ {m : Tr α} {n : Nat}, Bo P m n → Al Q E m n
  | .ok a, _, z => h a _ z
  | .ex _ _, _, z => z.elim
  | .bad, _, z => z
  | .draw m f, n, ⟨n', e, h1, h2, h3⟩ => ⟨n', e, h1, h2, fun d d0 d1 => Bo.al (m := f d) h (h3 d d0 d1)⟩
theorem Bo.yes {F : Tr D} {n : Nat} (hn : n ≤ 1000000) (h : Bo (fun d => d = .bl true) F n) : Yes F :=
  Bo.al (fun _ _ z => z) (h.mono (fun _ z => z) hn)
theorem bo_ok {P : α → Prop} {a : α} {n : Nat} (h : P a) : Bo P (.ok a) n := h
theorem bo_draw {P : α → Prop} {m : Int} {k : Int → Tr α} {n : Nat} (h1 : 0 < m) (h2 : m < 10 ^ 100) (h : ∀ d, 0 ≤ d → d < m → Bo P (k d) n) : Bo P (.draw m k) (n + 1) := ⟨n, rfl, h1, h2, h⟩
variable {W L : Type}
end
end Gp
end
section
set_option linter.all false
set_option maxRecDepth 100000
set_option maxHeartbeats 4000000
namespace Gp
open PySem
@[simp] theorem s_bd {α β : Type} (a : α) (k : α → Tr β) : bd (.ok a) k = k a := rfl
@[simp] theorem s_bdx {α β : Type} (c : Str) (fs : Fs) (k : α → Tr β) : bd (.ex c fs) k = .ex c fs := rfl
@[simp] theorem s_bdd {α β : Type} (m : Int) (f : Int → Tr α) (k : α → Tr β) : bd (.draw m f) k = .draw m fun d => bd (f d) k := rfl
@[simp] theorem s_nox {α : Type} (a : α) : nox (.ok a) = .ok a := rfl
@[simp] theorem s_bdF {W W' L : Type} (w : W') (k : W' → Tr (Fl W L)) : bdF (.ok (.nx w)) k = k w := rfl
@[simp] theorem s_bdFr {W W' L : Type} (d : D) (k : W' → Tr (Fl W L)) : bdF (.ok (.rt d)) k = .ok (.rt d) := rfl
@[simp] theorem s_finr (d : D) : fin (.ok (.rt d)) = .ok d := rfl
@[simp] theorem s_finn (w : Unit) : fin (.ok (.nx w)) = .ok .non := rfl
@[simp] theorem s_finI (fs : Fs) : finI (.ok (.nx fs)) = .ok fs := rfl
@[simp] theorem s_asB (b : Bool) : asB (.bl b) = .ok b := rfl
@[simp] theorem s_ul0 {α : Type} (k : Tr α) : ul0 k [] = k := rfl
@[simp] theorem s_ul1 {α : Type} (k : D → Tr α) (x : D) : ul1 k [x] = k x := rfl
@[simp] theorem s_ul2 {α : Type} (k : D → D → Tr α) (x y : D) : ul2 k [x, y] = k x y := rfl
@[simp] theorem s_ul3 {α : Type} (k : D → D → D → Tr α) (x y z : D) : ul3 k [x, y, z] = k x y z := rfl
@[simp] theorem s_ul4 {α : Type} (k : D → D → D → D → Tr α) (x y z w : D) : ul4 k [x, y, z, w] = k x y z w := rfl
@[simp] theorem s_isO {α : Type} (c : Str) (fs : Fs) (k : Fs → Tr α) : isO c (.obj c fs) k = k fs := by unfold isO; simp
@[simp] theorem s_lt (i j : Int) : ltD (.int i) (.int j) = .ok (.bl (decide (i < j))) := rfl
@[simp] theorem s_le (i j : Int) : leD (.int i) (.int j) = .ok (.bl (decide (i ≤ j))) := rfl
@[simp] theorem s_gt (i j : Int) : gtD (.int i) (.int j) = .ok (.bl (decide (j < i))) := rfl
@[simp] theorem s_ge (i j : Int) : geD (.int i) (.int j) = .ok (.bl (decide (j ≤ i))) := rfl
@[simp] theorem s_sub (i j : Int) : subD (.int i) (.int j) = .ok (.int (i - j)) := rfl
@[simp] theorem s_add (i j : Int) : addD (.int i) (.int j) = .ok (.int (i + j)) := rfl
@[simp] theorem s_neg (i : Int) : negD (.int i) = .ok (.int (-i)) := rfl
@[simp] theorem s_eq (i j : Int) : eqD (.int i) (.int j) = .ok (.bl (decide (i = j))) := rfl
@[simp] theorem s_eqs (i j : Str) : eqD (.str i) (.str j) = .ok (.bl (decide (i = j))) := rfl
@[simp] theorem s_eqb (i j : Bool) : eqD (.bl i) (.bl j) = .ok (.bl (decide (i = j))) := rfl
@[simp] theorem s_len (ds : List D) : lenD (.lst ds) = .ok (.int ds.length) := rfl
@[simp] theorem s_itl (ds : List D) : itD (.lst ds) = .ok ds := rfl
@[simp] theorem s_itt (ds : List D) : itD (.tup ds) = .ok ds := rfl
@[simp] theorem s_int (i : Int) : intD (.int i) = .ok (.int i) := rfl
@[simp] theorem s_intb (k : Bool) : intD (.bl k) = .ok (.int (if k = true then 1 else 0)) := rfl
@[simp] theorem s_abs (i : Int) : absD (.int i) = .ok (.int (if i < 0 then -i else i)) := rfl
@[simp] theorem s_opt {α : Type} (a : α) : opt (some a) = .ok a := rfl
@[simp] theorem s_mod2 (i : Int) : modD (.int i) (.int 2) = .ok (.int (i % 2)) := rfl
@[simp] theorem s_div2 (i : Int) : divD (.int i) (.int 2) = .ok (.int (i / 2)) := rfl
end Gp
namespace Gp
open PySem PyProof.Rows L2
@[simp] theorem s_find (m : Int) (f : Int → Tr (Fl Unit Empty)) : fin (.draw m f) = .draw m fun d => fin (f d) := rfl
@[simp] theorem s_bdFd {W W' L : Type} (m : Int) (f : Int → Tr (Fl W' L)) (k : W' → Tr (Fl W L)) : bdF (.draw m f) k = .draw m fun d => bdF (f d) k := rfl
theorem bd_ok_id {α : Type} (m : Tr α) : bd m .ok = m := by
  induction m with
  | draw m f ih => show Tr.draw m _ = _; congr 1; funext d; exact ih d
  | _ => rfl
@[simp] theorem s_bdbd {α β γ : Type} (m : Tr α) (k : α → Tr β) (l : β → Tr γ) : bd (bd m k) l = bd m fun a => bd (k a) l := bd_bd ..
@[simp] theorem s_finbd {α : Type} (m : Tr α) (k : α → Tr (Fl Unit Empty)) : fin (bd m k) = bd m fun a => fin (k a) := bd_bd ..
@[simp] theorem s_bdFbd {α W W' L : Type} (m : Tr α) (f : α → Tr (Fl W' L)) (k : W' → Tr (Fl W L)) : bdF (bd m f) k = bd m fun a => bdF (f a) k := bd_bd ..
@[simp] theorem s_finIbd {α : Type} (m : Tr α) (k : α → Tr (Fl Fs Empty)) : finI (bd m k) = bd m fun a => finI (k a) := bd_bd ..
@[simp] theorem s_bdok {α : Type} (m : Tr α) : bd m (fun a => .ok a) = m := bd_ok_id m
@[simp] theorem s_ne (i j : Int) : neD (.int i) (.int j) = .ok (.bl (!decide (i = j))) := rfl
@[simp] theorem s_nes (i j : Str) : neD (.str i) (.str j) = .ok (.bl (!decide (i = j))) := rfl
theorem s_ixL {ds : List D} {i : Int} {d : D} (h0 : 0 ≤ i) (h : ds[i.toNat]? = some d) : ixD (.lst ds) (.int i) = .ok d := by
  have hl := (List.getElem?_eq_some_iff.mp h).1
  have e : atI ds i = some d := by
    unfold atI ixN
    rw [if_pos h0, if_pos (by omega)]
    exact h
  unfold ixD
  dsimp only
  rw [e]
theorem bo_pick {P : D → Prop} {ds : List D} (h0 : 0 < ds.length) (h1 : ds.length ≤ 100000) (h : ∀ d ∈ ds, P d) : Bo P (.draw ds.length fun i => ixD (.lst ds) (.int i)) 1 := by
  refine bo_draw (n := 0) (by omega) (by omega) fun d d0 d1 => ?_
  have hl : d.toNat < ds.length := by omega
  rw [s_ixL d0 (List.getElem?_eq_getElem hl)]
  exact h _ (List.getElem_mem hl)
end Gp
end
section
set_option linter.all false
set_option maxRecDepth 100000
set_option maxHeartbeats 400000
namespace Gp
open PySem PyProof.Rows L2 Gh
structure Sh (d : D) (n b : Nat) : Prop where
  ex : ∃ e, toPy d = some e ∧ Fn e n b
structure ShL (ds : List D) (n b : Nat) : Prop where
  ex : ∃ es, toPyL ds = some es ∧ FnAll es n b
theorem Sh.le {d : D} {n b n' b' : Nat} (h : Sh d n b) (h1 : n ≤ n') (h2 : b ≤ b') : Sh d n' b' := by
  obtain ⟨e, h3, h4⟩ := h.ex
  exact ⟨e, h3, h4.le h1 h2⟩
theorem Sh.int {i : Int} (h1 : -(10 ^ 100) < i) (h2 : i < 10 ^ 100) : Sh (.int i) 0 0 := ⟨_, rfl, .int h1 h2⟩
theorem Sh.bl (b : Bool) : Sh (.bl b) 0 0 := ⟨_, rfl, .bool b⟩
theorem Sh.non : Sh .non 0 0 := ⟨_, rfl, .none⟩
theorem Sh.str {x : Str} (h0 : (PyData.str x).canLay0 = true) (h : (x.cps.toList.all fun c => decide (c < 16 ^ 8)) = true) : Sh (.str x) 0 x.cps.size := ⟨_, rfl, .str h0 h⟩
theorem ShL.nil {n b : Nat} : ShL [] n b := ⟨_, rfl, .nil⟩
theorem ShL.cons {d : D} {ds : List D} {n b c : Nat} (h : Sh d n b) (k : ShL ds n c) : ShL (d :: ds) n (b + 1 + c) := by
  obtain ⟨e, h3, h4⟩ := h.ex
  obtain ⟨es, h5, h6⟩ := k.ex
  refine ⟨e :: es, ?_, .cons h4 h6⟩
  unfold toPyL
  rw [h3, h5]
theorem ShL.le {ds : List D} {n b n' b' : Nat} (h : ShL ds n b) (h1 : n ≤ n') (h2 : b ≤ b') : ShL ds n' b' := by
  obtain ⟨e, h3, h4⟩ := h.ex
  exact ⟨e, h3, h4.cl, h4.sh, h4.nd, h4.ls, Nat.le_trans h4.dp h1, Nat.le_trans h4.bk h2⟩
theorem Sh.lst {ds : List D} {n b : Nat} (h : ShL ds n b) : Sh (.lst ds) (n + 1) b := by
  obtain ⟨es, h3, h4⟩ := h.ex
  refine ⟨.list es, ?_, .list h4⟩
  unfold toPy
  rw [h3]
  rfl
theorem Sh.tup {ds : List D} {n b : Nat} (h : ShL ds n b) : Sh (.tup ds) (n + 1) b := by
  obtain ⟨es, h3, h4⟩ := h.ex
  refine ⟨.tuple es, ?_, .tuple h4⟩
  unfold toPy
  rw [h3]
  rfl
theorem fn_len {e : PyData} {n b : Nat} (f : Fn e n b) (hb : b ≤ 80000) : e.shown.length ≤ sizeLine := by
  have z := PyData.shown_le_bulk 200 (by decide) e f.ls
  have := f.bk
  rw [sizeLine_eq]
  omega
theorem Sh.repr {d : D} {n b : Nat} (h : Sh d n b) (hn : n ≤ 100) (hb : b ≤ 80000) : ∃ x, reprD d = .ok (.str x) := by
  obtain ⟨e, h1, f⟩ := h.ex
  have l := fn_len f hb
  have key : ∀ {x : Str}, shwD d = some x → x.length ≤ sizeLine → ∃ x, reprD d = .ok (.str x) := fun {x} e1 e2 => ⟨x, by
    unfold reprD
    rw [e1]
    dsimp only
    rw [if_pos e2]⟩
  have big : (∀ i, d ≠ .int i) → (∀ x, d ≠ .str x) → (∀ x, d ≠ .bl x) → d ≠ .non → ∃ x, reprD d = .ok (.str x) := fun n1 n2 n3 n4 => by
    refine key (x := e.shown) ?_ l
    have g : (if e.showable = true ∧ e.hasDict = false ∧ e.depth ≤ 100 ∧ e.shown.length ≤ sizeLine then some e.shown else none) = some e.shown := if_pos ⟨f.sh, f.nd, Nat.le_trans f.dp hn, l⟩
    cases d with
    | int i => exact absurd rfl (n1 i)
    | str x => exact absurd rfl (n2 x)
    | bl x => exact absurd rfl (n3 x)
    | non => exact absurd rfl n4
    | tup ds => unfold shwD; dsimp only; rw [h1]; exact g
    | lst ds => unfold shwD; dsimp only; rw [h1]; exact g
    | obj c fs => unfold toPy at h1; cases h1
    | err c fs => unfold toPy at h1; cases h1
    | pen => unfold toPy at h1; cases h1
    | cls c => unfold toPy at h1; cases h1
    | er0 c => unfold toPy at h1; cases h1
    | dct => unfold toPy at h1; cases h1
    | dic ps => unfold toPy at h1; cases h1
    | dit ps => unfold toPy at h1; cases h1
    | dik ps => unfold toPy at h1; cases h1
  cases d with
  | non => exact ⟨_, rfl⟩
  | bl b => cases b <;> exact ⟨_, rfl⟩
  | int i =>
    unfold toPy at h1
    cases h1
    have h2 : i.natAbs.log2 < 1920 := of_decide_eq_true f.sh
    refine key (x := Str.ofString (toString i)) ?_ l
    unfold shwD
    dsimp only
    rw [if_pos h2]
  | str x =>
    unfold toPy at h1
    cases h1
    have l2 : (reprText x).length ≤ sizeLine := l
    refine key (x := reprText x) ?_ l2
    unfold shwD
    dsimp only
    rw [if_pos l2]
  | tup ds => exact big (fun _ z => by cases z) (fun _ z => by cases z) (fun _ z => by cases z) (fun z => by cases z)
  | lst ds => exact big (fun _ z => by cases z) (fun _ z => by cases z) (fun _ z => by cases z) (fun z => by cases z)
  | obj c fs => unfold toPy at h1; cases h1
  | err c fs => unfold toPy at h1; cases h1
  | pen => unfold toPy at h1; cases h1
  | cls c => unfold toPy at h1; cases h1
  | er0 c => unfold toPy at h1; cases h1
  | dct => unfold toPy at h1; cases h1
  | dic ps => unfold toPy at h1; cases h1
  | dit ps => unfold toPy at h1; cases h1
  | dik ps => unfold toPy at h1; cases h1
end Gp
end
section
set_option linter.all false
set_option maxRecDepth 100000
set_option maxHeartbeats 400000
namespace Gp
open PySem
theorem bo_then {α β : Type} {P : α → Prop} {Q : β → Prop} {m : Tr α} {k : α → Tr β} {a b n : Nat} (h : Bo P m a) (hk : ∀ x, P x → Bo Q (k x) b) (l : a + b ≤ n) : Bo Q (bd m k) n := (h.bd hk).mono (fun _ z => z) l
theorem bo_forU {L : Type} {f : D → Unit → Tr (Fl Unit Unit)} {c : Nat} : ∀ {ds : List D}, (∀ d ∈ ds, Bo (fun r : Fl Unit Unit => r = .nx ()) (f d ()) c) → Bo (fun r : Fl Unit L => r = .nx ()) (forF f ds ()) (c * ds.length)
  | [], _ => bo_ok rfl
  | d :: ds, h => by
    rw [forF_cons]
    refine bo_then (b := c * ds.length) (h d List.mem_cons_self) (fun r hr => ?_) (by rw [List.length_cons, Nat.mul_succ]; omega)
    subst hr
    exact bo_forU fun x hx => h x (List.mem_cons_of_mem _ hx)
end Gp
end
section
set_option Elab.async false
set_option linter.all false
set_option maxRecDepth 100000
set_option maxHeartbeats 400000
namespace Gp
open PySem
@[irreducible] def Bx {α : Type} (P : α → Prop) (m : Tr α) (n : Nat) : Prop := Bo P m n
theorem Bx.bo {α : Type} {P : α → Prop} {m : Tr α} {n : Nat} (h : Bx P m n) : Bo P m n := by
  unfold Bx at h
  exact h
theorem bx_of {α : Type} {P : α → Prop} {m : Tr α} {n : Nat} (h : Bo P m n) : Bx P m n := by
  unfold Bx
  exact h
theorem bx_draw {α : Type} {P : α → Prop} {m : Int} {k : Int → Tr α} {n : Nat} (h1 : 0 < m) (h2 : m < 10 ^ 100) (h : ∀ d, 0 ≤ d → d < m → Bx P (k d) n) : Bx P (.draw m k) (n + 1) := bx_of (bo_draw h1 h2 fun d a b => (h d a b).bo)
theorem bx_then {α β : Type} {P : α → Prop} {Q : β → Prop} {m : Tr α} {k : α → Tr β} {a b n : Nat} (h : Bo P m a) (hk : ∀ x, P x → Bx Q (k x) b) (l : a + b ≤ n) : Bx Q (bd m k) n := bx_of (bo_then h (fun x z => (hk x z).bo) l)
theorem bx_ok {α : Type} {P : α → Prop} {a : α} {n : Nat} (h : P a) : Bx P (.ok a) n := bx_of (bo_ok h)
theorem bx_loopU {f : D → Unit → Tr (Fl Unit Unit)} {ds : List D} {K : Unit → Tr (Fl Unit Empty)} {Q : D → Prop} {c b n : Nat} (h : ∀ d ∈ ds, Bx (fun r : Fl Unit Unit => r = .nx ()) (f d ()) c) (hk : Bx Q (fin (K ())) b) (l : c * ds.length + b ≤ n) : Bx Q (fin (bdF (forF f ds ()) K)) n := by
  refine bx_of ?_
  unfold fin bdF
  rw [bd_bd]
  refine bo_then (b := b) (bo_forU fun d hd => (h d hd).bo) (fun r hr => ?_) l
  subst hr
  exact hk.bo
theorem bx_thenX {α β : Type} {P : α → Prop} {Q : β → Prop} {m : Tr α} {k : α → Tr β} {a b n : Nat} (h : Bx P m a) (hk : ∀ x, P x → Bx Q (k x) b) (l : a + b ≤ n) : Bx Q (bd m k) n := bx_then h.bo hk l
end Gp
end
section
set_option linter.all false
namespace Gp
open PySem
inductive Dp {α : Type} (a : α) : Type
  | u
def bdk {α β : Type} (x : Tr α) (f : α → Tr β) (u : Dp f := .u) : Tr β := bd x f
def bdFk {W W' L : Type} (x : Tr (Fl W' L)) (k : W' → Tr (Fl W L)) (u : Dp k := .u) : Tr (Fl W L) := bdF x k
def forFk {W L : Type} (f : D → W → Tr (Fl W W)) (ds : List D) (w : W) (u : Dp f := .u) : Tr (Fl W L) := forF f ds w
theorem k_bd {α β : Type} (a : α) (k : α → Tr β) (u : Dp k) : bdk (.ok a) k u = k a := rfl
theorem k_bdx {α β : Type} (c : Str) (fs : Fs) (k : α → Tr β) (u : Dp k) : bdk (.ex c fs) k u = .ex c fs := rfl
theorem k_bdd {α β : Type} (m : Int) (f : Int → Tr α) (k : α → Tr β) (u : Dp k) : bdk (.draw m f) k u = .draw m fun d => bdk (f d) k := rfl
theorem k_bdF {W W' L : Type} (w : W') (k : W' → Tr (Fl W L)) (u : Dp k) : bdFk (.ok (.nx w)) k u = k w := rfl
theorem k_bdFr {W W' L : Type} (d : D) (k : W' → Tr (Fl W L)) (u : Dp k) : bdFk (.ok (.rt d)) k u = .ok (.rt d) := rfl
theorem k_bdFx {W W' L : Type} (c : Str) (fs : Fs) (k : W' → Tr (Fl W L)) (u : Dp k) : bdFk (.ex c fs) k u = .ex c fs := rfl
theorem k_bdFd {W W' L : Type} (m : Int) (f : Int → Tr (Fl W' L)) (k : W' → Tr (Fl W L)) (u : Dp k) : bdFk (.draw m f) k u = .draw m fun d => bdFk (f d) k := rfl
theorem k_bdbd {α β γ : Type} (m : Tr α) (k : α → Tr β) (u : Dp k) (l : β → Tr γ) (v : Dp l) : bdk (bdk m k u) l v = bdk m fun a => bdk (k a) l := bd_bd ..
theorem k_finbd {α : Type} (m : Tr α) (k : α → Tr (Fl Unit Empty)) (u : Dp k) : fin (bdk m k u) = bdk m fun a => fin (k a) := bd_bd ..
theorem k_bdFbd {α W W' L : Type} (m : Tr α) (f : α → Tr (Fl W' L)) (u : Dp f) (k : W' → Tr (Fl W L)) (v : Dp k) : bdFk (bdk m f u) k v = bdk m fun a => bdFk (f a) k := bd_bd ..
theorem bk_then {α β : Type} {P : α → Prop} {Q : β → Prop} {m : Tr α} {k : α → Tr β} {u : Dp k} {a b n : Nat} (h : Bx P m a) (hk : ∀ x, P x → Bx Q (k x) b) (l : a + b ≤ n) : Bx Q (bdk m k u) n := bx_thenX h hk l
theorem bk_loopU {f : D → Unit → Tr (Fl Unit Unit)} {u : Dp f} {ds : List D} {K : Unit → Tr (Fl Unit Empty)} {v : Dp K} {Q : D → Prop} {c b n : Nat} (h : ∀ d ∈ ds, Bx (fun r : Fl Unit Unit => r = .nx ()) (f d ()) c) (hk : Bx Q (fin (K ())) b) (l : c * ds.length + b ≤ n) : Bx Q (fin (bdFk (forFk f ds () u) K v)) n := bx_loopU h hk l
end Gp
end
section
set_option Elab.async false
set_option linter.all false
set_option maxRecDepth 100000
set_option maxHeartbeats 1000000
namespace Gp
open PySem PyProof.Rows L2
theorem z0L : (0 ≤ sizeLine) = True := eq_true (by decide)
theorem z1L : (1 ≤ sizeLine) = True := eq_true (by decide)
theorem z2L : (2 ≤ sizeLine) = True := eq_true (by decide)
theorem z3L : (3 ≤ sizeLine) = True := eq_true (by decide)
theorem z4L : (4 ≤ sizeLine) = True := eq_true (by decide)
theorem z5L : (5 ≤ sizeLine) = True := eq_true (by decide)
theorem z6L : (6 ≤ sizeLine) = True := eq_true (by decide)
theorem z7L : (7 ≤ sizeLine) = True := eq_true (by decide)
theorem z8L : (8 ≤ sizeLine) = True := eq_true (by decide)
theorem z9L : (9 ≤ sizeLine) = True := eq_true (by decide)
theorem z10L : (10 ≤ sizeLine) = True := eq_true (by decide)
theorem z11L : (11 ≤ sizeLine) = True := eq_true (by decide)
theorem z12L : (12 ≤ sizeLine) = True := eq_true (by decide)
theorem z0l : (0 < sizeLine) = True := eq_true (by decide)
theorem z1l : (1 < sizeLine) = True := eq_true (by decide)
theorem z2l : (2 < sizeLine) = True := eq_true (by decide)
theorem z3l : (3 < sizeLine) = True := eq_true (by decide)
theorem z4l : (4 < sizeLine) = True := eq_true (by decide)
theorem l_finx (c : Str) (fs : Fs) : fin (.ex c fs) = .ex c fs := rfl
theorem l_finIx (c : Str) (fs : Fs) : finI (.ex c fs) = .ex c fs := rfl
theorem l_finI (fs : Fs) : finI (.ok (.nx fs)) = .ok fs := rfl
theorem l_asI (d : Int) : asI (.int d) = .ok (some d) := rfl
theorem l_un2 {α : Type} (x y : D) (k : D → D → Tr α) : un2 (.tup [x, y]) k = k x y := rfl
theorem l_un3 {α : Type} (x y z : D) (k : D → D → D → Tr α) : un3 (.tup [x, y, z]) k = k x y z := rfl
theorem l_un4 {α : Type} (x y z w : D) (k : D → D → D → D → Tr α) : un4 (.tup [x, y, z, w]) k = k x y z w := rfl
theorem l_ne (i j : Int) : neD (.int i) (.int j) = .ok (.bl (!decide (i = j))) := rfl
theorem l_nes (i j : Str) : neD (.str i) (.str j) = .ok (.bl (!decide (i = j))) := rfl
theorem l_neb (i j : Bool) : neD (.bl i) (.bl j) = .ok (.bl (!decide (i = j))) := rfl
theorem l_gt (i j : Int) : gtD (.int i) (.int j) = .ok (.bl (decide (j < i))) := rfl
theorem l_at {ds : List D} {n : Nat} {a : D} (h : ds[n]? = some a) : atI ds (n : Int) = some a := by
  have hn : n < ds.length := by
    rcases Nat.lt_or_ge n ds.length with h1 | h1
    · exact h1
    · rw [List.getElem?_eq_none h1] at h
      cases h
  unfold atI ixN
  rw [if_pos (Int.natCast_nonneg n), if_pos (by omega)]
  exact h
theorem l_ixl {ds : List D} {n : Nat} {a : D} (h : ds[n]? = some a) : ixD (.lst ds) (.int (n : Int)) = .ok a := by
  unfold ixD
  dsimp only
  rw [l_at h]
theorem l_ixt {ds : List D} {n : Nat} {a : D} (h : ds[n]? = some a) : ixD (.tup ds) (.int (n : Int)) = .ok a := by
  unfold ixD
  dsimp only
  rw [l_at h]
theorem l_ix0 (a : D) (r : List D) : ixD (.lst (a :: r)) (.int 0) = .ok a := l_ixl (n := 0) rfl
theorem l_ix1 (a b : D) (r : List D) : ixD (.lst (a :: b :: r)) (.int 1) = .ok b := l_ixl (n := 1) rfl
theorem l_ix2 (a b c : D) (r : List D) : ixD (.lst (a :: b :: c :: r)) (.int 2) = .ok c := l_ixl (n := 2) rfl
theorem l_ix3 (a b c d : D) (r : List D) : ixD (.lst (a :: b :: c :: d :: r)) (.int 3) = .ok d := l_ixl (n := 3) rfl
theorem l_it0 (a : D) (r : List D) : ixD (.tup (a :: r)) (.int 0) = .ok a := l_ixt (n := 0) rfl
theorem l_it1 (a b : D) (r : List D) : ixD (.tup (a :: b :: r)) (.int 1) = .ok b := l_ixt (n := 1) rfl
theorem l_it2 (a b c : D) (r : List D) : ixD (.tup (a :: b :: c :: r)) (.int 2) = .ok c := l_ixt (n := 2) rfl
theorem l_it3 (a b c d : D) (r : List D) : ixD (.tup (a :: b :: c :: d :: r)) (.int 3) = .ok d := l_ixt (n := 3) rfl
theorem l_for2 {L : Type} {f : D → Unit → Tr (Fl Unit Unit)} {a b : D} {u : Dp f} (h1 : f a () = .ok (.nx ())) (h2 : f b () = .ok (.nx ())) : forFk (L := L) f [a, b] () u = .ok (.nx ()) := by
  unfold forFk
  rw [forF_cons, h1, s_bd]
  dsimp only
  rw [forF_cons, h2, s_bd]
  rfl
theorem l_forAll {L : Type} {f : D → Unit → Tr (Fl Unit Unit)} {u : Dp f} : ∀ {ds : List D}, (∀ d ∈ ds, f d () = .ok (.nx ())) → forFk (L := L) f ds () u = .ok (.nx ())
  | [], _ => rfl
  | d :: r, h => by
    unfold forFk
    rw [forF_cons, h d List.mem_cons_self, s_bd]
    exact l_forAll (u := u) fun x hx => h x (List.mem_cons_of_mem _ hx)
end Gp
end
section
set_option linter.all false
set_option maxRecDepth 100000
namespace Lw
open PySem Gp Gh Gz
def L__law_value (l_pen_here : D) : Tr D :=
  fin (bdk (bdk (bdk (.ok l_pen_here) fun v4 => (bdk (bdk (.ok (.int 100000000000000000000000000000000000000000000000000000000000)) fun v2 => (bdk (.ok []) fun r3 => .ok (v2 :: r3))) fun r5 => .ok (v4 :: r5))) (ul2 F_draw)) fun l_number0 => (bdk (bdk (bdk (.ok .non) fun v47 => (bdk (bdk (.ok (.bl true)) fun v45 => (bdk (bdk (.ok (.bl false)) fun v43 => (bdk (bdk (.ok (.int 0)) fun v41 => (bdk (bdk (bdk (.ok (.int 7)) negD) fun v39 => (bdk (bdk (.ok l_number0) fun v37 => (bdk (bdk (.ok (.str "")) fun v35 => (bdk (bdk (.ok (.str "a b")) fun v33 => (bdk (bdk (bdk (.ok []) fun ds => if ds.length ≤ sizeLine then .ok (.tup ds) else .bad) fun v31 => (bdk (bdk (bdk (bdk (.ok l_number0) fun v9 => (bdk (bdk (.ok (.str "a")) fun v7 => (bdk (.ok []) fun r8 => .ok (v7 :: r8))) fun r10 => .ok (v9 :: r10))) fun ds => if ds.length ≤ sizeLine then .ok (.tup ds) else .bad) fun v29 => (bdk (bdk (bdk (.ok []) fun ds => if ds.length ≤ sizeLine then .ok (.lst ds) else .bad) fun v27 => (bdk (bdk (bdk (bdk (.ok (.int 1)) fun v15 => (bdk (bdk (bdk (bdk (.ok (.int 2)) fun v11 => (bdk (.ok []) fun r12 => .ok (v11 :: r12))) fun ds => if ds.length ≤ sizeLine then .ok (.lst ds) else .bad) fun v13 => (bdk (.ok []) fun r14 => .ok (v13 :: r14))) fun r16 => .ok (v15 :: r16))) fun ds => if ds.length ≤ sizeLine then .ok (.lst ds) else .bad) fun v25 => (bdk (bdk (.ok .dct) fun v23 => (bdk (bdk (.ok (.dic [(.inr "a", l_number0)])) fun v21 => (bdk (bdk (.ok (.int 1)) fun v19 => (bdk (bdk (.ok (.str "0")) fun v17 => (bdk (.ok []) fun r18 => .ok (v17 :: r18))) fun r20 => .ok (v19 :: r20))) fun r22 => .ok (v21 :: r22))) fun r24 => .ok (v23 :: r24))) fun r26 => .ok (v25 :: r26))) fun r28 => .ok (v27 :: r28))) fun r30 => .ok (v29 :: r30))) fun r32 => .ok (v31 :: r32))) fun r34 => .ok (v33 :: r34))) fun r36 => .ok (v35 :: r36))) fun r38 => .ok (v37 :: r38))) fun r40 => .ok (v39 :: r40))) fun r42 => .ok (v41 :: r42))) fun r44 => .ok (v43 :: r44))) fun r46 => .ok (v45 :: r46))) fun r48 => .ok (v47 :: r48))) fun ds => if ds.length ≤ sizeLine then .ok (.lst ds) else .bad) fun l_menu5 => (bdk (bdk (bdk (.ok l_pen_here) fun v51 => (bdk (bdk (.ok l_menu5) fun v49 => (bdk (.ok []) fun r50 => .ok (v49 :: r50))) fun r52 => .ok (v51 :: r52))) (ul2 F__law_pick)) fun d => .ok (.rt d))))
theorem lz__law_value : F__law_value = L__law_value := rfl
def L_law : Tr D :=
  fin (bdFk (bdk (bdk (bdk (.ok (.int 4)) fun v1 => (bdk (.ok []) fun r2 => .ok (v1 :: r2))) (ul1 rg1)) fun ds => forFk (fun (d4 : D) (w3 : Unit) => (bdk (bdk (bdk (bdk (.ok .pen) fun v6 => (bdk (.ok []) fun r7 => .ok (v6 :: r7))) (ul1 F__law_value)) fun v12 => (bdk (bdk (bdk (bdk (.ok .pen) fun v8 => (bdk (.ok []) fun r9 => .ok (v8 :: r9))) (ul1 F__law_value)) fun v10 => (bdk (.ok []) fun r11 => .ok (v10 :: r11))) fun r13 => .ok (v12 :: r13))) (ul2 fun l_a13 l_b13 => (bdk (bdk (bdk (.ok l_a13) fun v18 => (bdk (bdk (.ok l_b13) fun v16 => (bdk (.ok []) fun r17 => .ok (v16 :: r17))) fun r19 => .ok (v18 :: r19))) (ul2 F__law_by_place)) fun l_told14 => (bdk (bdk (bdk (.ok l_a13) fun v23 => (bdk (bdk (.ok l_b13) fun v21 => (bdk (.ok []) fun r22 => .ok (v21 :: r22))) fun r24 => .ok (v23 :: r24))) (ul2 F__law_by_name)) fun l_named19 => (bdFk (bdk (bdk (bdk (.ok l_told14) fun v25 => (bdk (.ok []) fun r26 => .ok (v25 :: r26))) (ul1 enD)) fun ds => forFk (fun (d28 : D) (w27 : Unit) => (un2 d28 fun l_k28 l_pair28 => (bdFk (bdk (bdk (bdk (bdk (bdk (.ok l_pair28) fun v30 => (bdk (.ok (.int 0)) fun v31 => ixD v30 v31)) fun v36 => (bdk (bdk (bdk (.ok l_named19) fun v32 => (bdk (.ok l_k28) fun v33 => ixD v32 v33)) fun v34 => (bdk (.ok []) fun r35 => .ok (v34 :: r35))) fun r37 => .ok (v36 :: r37))) fun ds => if ds.length ≤ sizeLine then .ok (.tup ds) else .bad) itD) fun ds => forFk (fun (d39 : D) (w38 : Unit) => (bdFk (W' := Unit) (bdk (bdk (bdk (bdk (bdk (bdk (bdk (bdk (.ok l_pair28) fun v41 => (bdk (.ok (.int 1)) fun v42 => ixD v41 v42)) itD) fun ds => bdk (lcF (fun l_field42 => nox (bdk (bdk (bdk (.ok d39) fun v46 => (bdk (bdk (.ok l_field42) fun v44 => (bdk (.ok []) fun r45 => .ok (v44 :: r45))) fun r47 => .ok (v46 :: r47))) (ul2 F__law_kept)) fun y => .ok (some y))) ds) fun r => .ok (.lst r)) fun v48 => (bdk (.ok []) fun r49 => .ok (v48 :: r49))) (ul1 reprX)) fun v62 => (bdk (bdk (bdk (bdk (bdk (bdk (.ok l_a13) fun v52 => (bdk (bdk (.ok l_b13) fun v50 => (bdk (.ok []) fun r51 => .ok (v50 :: r51))) fun r53 => .ok (v52 :: r53))) fun ds => if ds.length ≤ sizeLine then .ok (.lst ds) else .bad) fun v54 => (bdk (.ok none) fun lo => bdk (bdk (bdk (bdk (bdk (.ok l_pair28) fun v56 => (bdk (.ok (.int 1)) fun v57 => ixD v56 v57)) fun v58 => (bdk (.ok []) fun r59 => .ok (v58 :: r59))) (ul1 lenD)) asI) fun hi => slD v54 lo hi)) fun v60 => (bdk (.ok []) fun r61 => .ok (v60 :: r61))) (ul1 reprX)) fun v63 => neD v62 v63)) asB) fun k => if k = true then (bdk (.ok (.bl false)) fun d => .ok (.rt d)) else (.ok (.nx ()))) fun (w64 : Unit) => (bdFk (W' := Unit) (bdk (bdk (bdk (bdk (bdk (.ok d39) fun d => bdk (opt (isi_HuntError d)) fun k => .ok (.bl k)) asB) fun k => .ok (!k)) fun k => if k = true then .ok true else (bdk (bdk (bdk (.ok d39) fun d => bdk (opt (isi_ValueError d)) fun k => .ok (.bl k)) asB) fun k => .ok (!k))) fun k => if k = true then (bdk (.ok (.bl false)) fun d => .ok (.rt d)) else (.ok (.nx ()))) fun (w65 : Unit) => (bdFk (W' := Unit) (bdk (bdk (bdk (bdk (bdk (.ok d39) fun v66 => (bdk (.ok []) fun r67 => .ok (v66 :: r67))) (ul1 F__law_classes)) fun v75 => (bdk (bdk (bdk (bdk (bdk (bdk (.ok l_told14) fun v68 => (bdk (.ok []) fun r69 => .ok (v68 :: r69))) (ul1 lenD)) fun v70 => (bdk (.ok []) fun r71 => .ok (v70 :: r71))) (ul1 rg1)) fun ds => bdk (lcF (fun l_spot71 => nox (bdk (bdk (.ok l_spot71) fun v73 => (bdk (.ok l_k28) fun v74 => eqD v73 v74)) fun y => .ok (some y))) ds) fun r => .ok (.lst r)) fun v76 => neD v75 v76)) asB) fun k => if k = true then (bdk (.ok (.bl false)) fun d => .ok (.rt d)) else (.ok (.nx ()))) fun (w77 : Unit) => (.ok (.nx ())))))) ds ()) fun (w38 : Unit) => (.ok (.nx ()))))) ds ()) fun (w27 : Unit) => (.ok (.nx ())))))))) ds ()) fun (w3 : Unit) => (bdk (bdk (.ok []) fun (ds : List D) => if ds = [] then .ok (.er0 "HuntError") else .bad) fun l_base77 => (bdk (bdk (bdk (bdk (.ok l_base77) fun d => bdk (opt (isi_ValueError d)) fun k => .ok (.bl k)) asB) fun k => if k = true then (bdk (.ok (.bl true)) fun v81 => (bdk (bdk (bdk (.ok l_base77) fun v79 => (bdk (.ok []) fun r80 => .ok (v79 :: r80))) (ul1 F__law_classes)) fun v82 => notinD v81 v82)) else .ok (.bl false)) fun d => .ok (.rt d))))
theorem lz_law : F_law = L_law := rfl
end Lw
end
section
set_option Elab.async false
set_option linter.all false
set_option maxRecDepth 100000
set_option maxHeartbeats 1000000
namespace Lw
open PySem Gp Gh PyProof.Rows L2
@[simp] theorem s_drawP (m : Int) : F_draw .pen (.int m) = .draw m fun d => .ok (.int d) := rfl
theorem q_pick (ds : List D) : F__law_pick .pen (.lst ds) = .draw ds.length fun i => ixD (.lst ds) (.int i) := by
  simp [F__law_pick]
theorem b_pick {P : D → Prop} {ds : List D} (h0 : 0 < ds.length) (h1 : ds.length ≤ 100000) (h : ∀ d ∈ ds, P d) : Bo P (F__law_pick .pen (.lst ds)) 1 := by
  rw [q_pick]
  exact bo_pick h0 h1 h
structure Fe (e : PyData) (k m : Nat) : Prop where
  sh : e.showable = true
  ls : e.leavesShort 200 = true
  dp : e.depth ≤ k
  bk : e.bulk ≤ m
def Fx (d : D) : Prop := ∃ e, toPyX d = some e ∧ Fe e 5 100
theorem fe_int {x : Int} (h1 : 0 ≤ x) (h2 : x < 10 ^ 100) : Fe (.int x) 0 0 := by
  have f := Fn.int (i := x) (by omega) h2
  exact ⟨f.sh, f.ls, f.dp, f.bk⟩
def menu (x : Int) : List D := [.non, .bl true, .bl false, .int 0, .int (-7), .int x, .str "", .str "a b", .tup [], .tup [.int x, .str "a"], .lst [], .lst [.int 1, .lst [.int 2]], .dct, .dic [(.inr "a", .int x)], .int 1, .str "0"]
theorem fx_menu {x : Int} (h1 : 0 ≤ x) (h2 : x < 10 ^ 100) : ∀ d ∈ menu x, Fx d := by
  intro d hd
  have f := fe_int h1 h2
  simp only [menu, List.mem_cons, List.mem_nil_iff, or_false] at hd
  rcases hd with rfl | rfl | rfl | rfl | rfl | rfl | rfl | rfl | rfl | rfl | rfl | rfl | rfl | rfl | rfl | rfl
  · exact ⟨_, rfl, by constructor <;> decide⟩
  · exact ⟨_, rfl, by constructor <;> decide⟩
  · exact ⟨_, rfl, by constructor <;> decide⟩
  · exact ⟨_, rfl, by constructor <;> decide⟩
  · exact ⟨_, rfl, by constructor <;> decide⟩
  · exact ⟨_, rfl, f.sh, f.ls, Nat.le_trans f.dp (by decide), Nat.le_trans f.bk (by decide)⟩
  · exact ⟨_, rfl, by constructor <;> decide +kernel⟩
  · exact ⟨_, rfl, by constructor <;> decide +kernel⟩
  · exact ⟨_, rfl, by constructor <;> decide⟩
  · refine ⟨.tuple [.int x, .str "a"], rfl, ?_⟩
    constructor
    · simp only [PyData.showable, PyData.showableAll, Bool.and_true]
      exact f.sh
    · simp only [PyData.leavesShort, PyData.leavesShortAll, Bool.and_true]
      rw [Bool.and_eq_true]
      exact ⟨f.ls, by decide +kernel⟩
    · simp [PyData.depth, PyData.depthAll]
    · simp only [PyData.bulk, PyData.bulkAll]
      decide +kernel
  · exact ⟨_, rfl, by constructor <;> decide⟩
  · exact ⟨_, rfl, by constructor <;> decide⟩
  · exact ⟨_, rfl, by constructor <;> decide⟩
  · refine ⟨.dict [(.str "a", .int x)], rfl, ?_⟩
    constructor
    · simp only [PyData.showable, PyData.showableKv, Bool.and_true, Bool.true_and]
      exact f.sh
    · simp only [PyData.leavesShort, PyData.leavesShortKv, Bool.and_true]
      rw [Bool.and_eq_true]
      exact ⟨by decide +kernel, f.ls⟩
    · simp [PyData.depth, PyData.depthKv]
    · simp only [PyData.bulk, PyData.bulkKv]
      decide +kernel
  · exact ⟨_, rfl, by constructor <;> decide⟩
  · exact ⟨_, rfl, by constructor <;> decide +kernel⟩
theorem fe_shown {e : PyData} {k m : Nat} (f : Fe e k m) (hm : m ≤ 1000) : e.shown.length ≤ sizeLine := by
  have z := PyData.shown_le_bulk 200 (by decide) e f.ls
  have := f.bk
  rw [sizeLine_eq]
  omega
theorem rx_list {ds : List D} {es : List PyData} (h : toPyXL ds = some es) (f : Fe (.list es) 10 1000) : ∃ x, reprX (.lst ds) = .ok (.str x) := by
  have hx : toPyX (.lst ds) = some (.list es) := by
    unfold toPyX
    rw [h]
    rfl
  have l := fe_shown f (Nat.le_refl _)
  unfold reprX
  cases e : shwD (.lst ds) with
  | none =>
    dsimp only
    rw [hx]
    dsimp only
    rw [if_pos ⟨f.sh, Nat.le_trans f.dp (by decide), l⟩]
    exact ⟨_, rfl⟩
  | some y =>
    have ly : y.length ≤ sizeLine := by
      unfold shwD at e
      dsimp only at e
      split at e
      · split at e
        · rename_i q
          cases e
          exact q.2.2.2
        · cases e
      · cases e
    dsimp only
    rw [if_pos ly]
    exact ⟨_, rfl⟩
theorem rx_1 {a : D} (ha : Fx a) : ∃ x, reprX (.lst [a]) = .ok (.str x) := by
  obtain ⟨e, h, f⟩ := ha
  have hl : toPyXL [a] = some [e] := by
    unfold toPyXL
    rw [h]
    unfold toPyXL
    rfl
  refine rx_list hl ⟨?_, ?_, ?_, ?_⟩
  · simp only [PyData.showable, PyData.showableAll, f.sh, Bool.and_true]
  · simp only [PyData.leavesShort, PyData.leavesShortAll, f.ls, Bool.and_true]
  · have := f.dp
    simp only [PyData.depth, PyData.depthAll]
    omega
  · have := f.bk
    simp only [PyData.bulk, PyData.bulkAll]
    omega
theorem rx_2 {a b : D} (ha : Fx a) (hb : Fx b) : ∃ x, reprX (.lst [a, b]) = .ok (.str x) := by
  obtain ⟨e, h, f⟩ := ha
  obtain ⟨e', h', f'⟩ := hb
  have hl : toPyXL [a, b] = some [e, e'] := by
    unfold toPyXL
    rw [h]
    unfold toPyXL
    rw [h']
    unfold toPyXL
    rfl
  refine rx_list hl ⟨?_, ?_, ?_, ?_⟩
  · simp only [PyData.showable, PyData.showableAll, f.sh, f'.sh, Bool.and_true]
  · simp only [PyData.leavesShort, PyData.leavesShortAll, f.ls, f'.ls, Bool.and_true]
  · have := f.dp
    have := f'.dp
    simp only [PyData.depth, PyData.depthAll]
    omega
  · have := f.bk
    have := f'.bk
    simp only [PyData.bulk, PyData.bulkAll]
    omega
theorem b_value : Bo Fx (F__law_value .pen) 2 := by
  refine Bx.bo ?_
  rw [lz__law_value]
  unfold L__law_value
  have z0 : (0 ≤ sizeLine) = True := eq_true (Nat.zero_le _)
  have z1 : (1 ≤ sizeLine) = True := z1L
  have z2 : (2 ≤ sizeLine) = True := z2L
  have z16 : (16 ≤ sizeLine) = True := eq_true (by decide)
  have n7 : negD (.int 7) = .ok (.int (-7)) := rfl
  simp -implicitDefEqProofs -dsimp only [implies_true, isS_str, s_bdx, s_bd, ↓k_bd, k_bd, k_bdx, k_bdd, s_nox, k_bdF, k_bdFr, k_bdFx, s_finr, s_finn, s_find, k_bdFd, ↓reduceIte, s_asB, s_ul1, s_ul2, s_ul3, s_sub, s_add, s_neg, s_eq, s_len, s_itl, s_itt, s_opt, List.length_cons, List.length_nil, decide_true, decide_false, Bool.not_true, Bool.not_false, if_true, if_false, Bool.false_eq_true, Nat.reduceAdd, z0L, z1L, z2L, z3L, z4L, z5L, z6L, z7L, z8L, z9L, z10L, z11L, z12L, z0l, z1l, z2l, z3l, z4l, l_asI, l_finx, l_finIx, l_finI, l_un2, l_un3, l_un4, l_ne, l_nes, l_neb, l_gt, l_ix0, l_ix1, l_ix2, l_ix3, l_it0, l_it1, l_it2, l_it3, F_draw_eq, List.cons_append, List.nil_append, k_bdbd, k_bdFbd, k_finbd, z0, z1, z2, z16, n7]
  refine bx_draw (n := 1) (by decide) (by decide) fun d d0 d1 => ?_
  refine bk_then (a := 1) (b := 0) (bx_of (b_pick (ds := menu d) (P := Fx) (by show 0 < 16; decide) (by show 16 ≤ _; decide) (fx_menu d0 (Int.lt_trans d1 (by decide))))) (fun x hx => ?_) (Nat.le_refl _)
  simp -implicitDefEqProofs -dsimp only [implies_true, isS_str, s_bdx, s_bd, ↓k_bd, k_bd, k_bdx, k_bdd, s_nox, k_bdF, k_bdFr, k_bdFx, s_finr, s_finn, s_find, k_bdFd, ↓reduceIte, s_asB, s_ul1, s_ul2, s_ul3, s_sub, s_add, s_neg, s_eq, s_len, s_itl, s_itt, s_opt, List.length_cons, List.length_nil, decide_true, decide_false, Bool.not_true, Bool.not_false, if_true, if_false, Bool.false_eq_true, Nat.reduceAdd, z0L, z1L, z2L, z3L, z4L, z5L, z6L, z7L, z8L, z9L, z10L, z11L, z12L, z0l, z1l, z2l, z3l, z4l, l_asI, l_finx, l_finIx, l_finI, l_un2, l_un3, l_un4, l_ne, l_nes, l_neb, l_gt, l_ix0, l_ix1, l_ix2, l_ix3, l_it0, l_it1, l_it2, l_it3, F_draw_eq, List.cons_append, List.nil_append, k_bdbd, k_bdFbd, k_finbd]
  exact bx_ok hx
end Lw
end
section
set_option Elab.async false
set_option linter.all false
set_option maxRecDepth 100000
set_option maxHeartbeats 1000000
namespace Lw
open PySem Gp Gh PyProof.Rows L2
def errs (a b : D) : List D := [.err "BadLength" [("value", a)], .err "BadPlace" [("value", a)], .err "BadRest" [("value", a)], .err "BadRow" [("at", a)], .err "BadChange" [("part", a)], .err "BadSpan" [("part", a)], .err "BadStep" [("at", a)], .err "BadNumber" [("value", a)], .err "BadForm" [("part", a)], .err "BadSpot" [("part", a)], .err "Overlap" [("length", a)], .err "NoStep" [("index", a)], .err "TooMany" [("most", b), ("what", a)], .err "Parts" [("place", b), ("length", a)], .err "BadText" [("word", b), ("line", a)], .err "NoName" [("name", a)], .err "BadLine" [("word", a)]]
def tolds (a b : D) : List D := [.tup [.err "BadLength" [("value", a)], .lst [.str "value"]], .tup [.err "BadPlace" [("value", a)], .lst [.str "value"]], .tup [.err "BadRest" [("value", a)], .lst [.str "value"]], .tup [.err "BadRow" [("at", a)], .lst [.str "at"]], .tup [.err "BadChange" [("part", a)], .lst [.str "part"]], .tup [.err "BadSpan" [("part", a)], .lst [.str "part"]], .tup [.err "BadStep" [("at", a)], .lst [.str "at"]], .tup [.err "BadNumber" [("value", a)], .lst [.str "value"]], .tup [.err "BadForm" [("part", a)], .lst [.str "part"]], .tup [.err "BadSpot" [("part", a)], .lst [.str "part"]], .tup [.err "Overlap" [("length", a)], .lst [.str "length"]], .tup [.err "NoStep" [("index", a)], .lst [.str "index"]], .tup [.err "TooMany" [("most", b), ("what", a)], .lst [.str "what", .str "most"]], .tup [.err "Parts" [("place", b), ("length", a)], .lst [.str "length", .str "place"]], .tup [.err "BadText" [("word", b), ("line", a)], .lst [.str "line", .str "word"]], .tup [.err "NoName" [("name", a)], .lst [.str "name"]], .tup [.err "BadLine" [("word", a)], .lst [.str "word"]]]
theorem q_told (a b : D) : F__law_by_place a b = .ok (.lst (tolds a b)) := by kernel_rfl
theorem q_named (a b : D) : F__law_by_name a b = .ok (.lst (errs a b)) := by kernel_rfl
theorem kp_0_0 (a : D) : F__law_kept (.err "BadLength" [("value", a)]) (.str "value") = .ok a := by kernel_rfl
theorem cl_0 (fs : Fs) : F__law_classes (.err "BadLength" fs) = .ok (.lst [.bl true, .bl false, .bl false, .bl false, .bl false, .bl false, .bl false, .bl false, .bl false, .bl false, .bl false, .bl false, .bl false, .bl false, .bl false, .bl false, .bl false]) := by kernel_rfl
theorem ih_0 (fs : Fs) : isi_HuntError (.err "BadLength" fs) = some true := rfl
theorem iv_0 (fs : Fs) : isi_ValueError (.err "BadLength" fs) = some true := rfl
theorem kp_1_0 (a : D) : F__law_kept (.err "BadPlace" [("value", a)]) (.str "value") = .ok a := by kernel_rfl
theorem cl_1 (fs : Fs) : F__law_classes (.err "BadPlace" fs) = .ok (.lst [.bl false, .bl true, .bl false, .bl false, .bl false, .bl false, .bl false, .bl false, .bl false, .bl false, .bl false, .bl false, .bl false, .bl false, .bl false, .bl false, .bl false]) := by kernel_rfl
theorem ih_1 (fs : Fs) : isi_HuntError (.err "BadPlace" fs) = some true := rfl
theorem iv_1 (fs : Fs) : isi_ValueError (.err "BadPlace" fs) = some true := rfl
theorem kp_2_0 (a : D) : F__law_kept (.err "BadRest" [("value", a)]) (.str "value") = .ok a := by kernel_rfl
theorem cl_2 (fs : Fs) : F__law_classes (.err "BadRest" fs) = .ok (.lst [.bl false, .bl false, .bl true, .bl false, .bl false, .bl false, .bl false, .bl false, .bl false, .bl false, .bl false, .bl false, .bl false, .bl false, .bl false, .bl false, .bl false]) := by kernel_rfl
theorem ih_2 (fs : Fs) : isi_HuntError (.err "BadRest" fs) = some true := rfl
theorem iv_2 (fs : Fs) : isi_ValueError (.err "BadRest" fs) = some true := rfl
theorem kp_3_0 (a : D) : F__law_kept (.err "BadRow" [("at", a)]) (.str "at") = .ok a := by kernel_rfl
theorem cl_3 (fs : Fs) : F__law_classes (.err "BadRow" fs) = .ok (.lst [.bl false, .bl false, .bl false, .bl true, .bl false, .bl false, .bl false, .bl false, .bl false, .bl false, .bl false, .bl false, .bl false, .bl false, .bl false, .bl false, .bl false]) := by kernel_rfl
theorem ih_3 (fs : Fs) : isi_HuntError (.err "BadRow" fs) = some true := rfl
theorem iv_3 (fs : Fs) : isi_ValueError (.err "BadRow" fs) = some true := rfl
theorem kp_4_0 (a : D) : F__law_kept (.err "BadChange" [("part", a)]) (.str "part") = .ok a := by kernel_rfl
theorem cl_4 (fs : Fs) : F__law_classes (.err "BadChange" fs) = .ok (.lst [.bl false, .bl false, .bl false, .bl false, .bl true, .bl false, .bl false, .bl false, .bl false, .bl false, .bl false, .bl false, .bl false, .bl false, .bl false, .bl false, .bl false]) := by kernel_rfl
theorem ih_4 (fs : Fs) : isi_HuntError (.err "BadChange" fs) = some true := rfl
theorem iv_4 (fs : Fs) : isi_ValueError (.err "BadChange" fs) = some true := rfl
theorem kp_5_0 (a : D) : F__law_kept (.err "BadSpan" [("part", a)]) (.str "part") = .ok a := by kernel_rfl
theorem cl_5 (fs : Fs) : F__law_classes (.err "BadSpan" fs) = .ok (.lst [.bl false, .bl false, .bl false, .bl false, .bl false, .bl true, .bl false, .bl false, .bl false, .bl false, .bl false, .bl false, .bl false, .bl false, .bl false, .bl false, .bl false]) := by kernel_rfl
theorem ih_5 (fs : Fs) : isi_HuntError (.err "BadSpan" fs) = some true := rfl
theorem iv_5 (fs : Fs) : isi_ValueError (.err "BadSpan" fs) = some true := rfl
theorem kp_6_0 (a : D) : F__law_kept (.err "BadStep" [("at", a)]) (.str "at") = .ok a := by kernel_rfl
theorem cl_6 (fs : Fs) : F__law_classes (.err "BadStep" fs) = .ok (.lst [.bl false, .bl false, .bl false, .bl false, .bl false, .bl false, .bl true, .bl false, .bl false, .bl false, .bl false, .bl false, .bl false, .bl false, .bl false, .bl false, .bl false]) := by kernel_rfl
theorem ih_6 (fs : Fs) : isi_HuntError (.err "BadStep" fs) = some true := rfl
theorem iv_6 (fs : Fs) : isi_ValueError (.err "BadStep" fs) = some true := rfl
theorem kp_7_0 (a : D) : F__law_kept (.err "BadNumber" [("value", a)]) (.str "value") = .ok a := by kernel_rfl
theorem cl_7 (fs : Fs) : F__law_classes (.err "BadNumber" fs) = .ok (.lst [.bl false, .bl false, .bl false, .bl false, .bl false, .bl false, .bl false, .bl true, .bl false, .bl false, .bl false, .bl false, .bl false, .bl false, .bl false, .bl false, .bl false]) := by kernel_rfl
theorem ih_7 (fs : Fs) : isi_HuntError (.err "BadNumber" fs) = some true := rfl
theorem iv_7 (fs : Fs) : isi_ValueError (.err "BadNumber" fs) = some true := rfl
theorem kp_8_0 (a : D) : F__law_kept (.err "BadForm" [("part", a)]) (.str "part") = .ok a := by kernel_rfl
theorem cl_8 (fs : Fs) : F__law_classes (.err "BadForm" fs) = .ok (.lst [.bl false, .bl false, .bl false, .bl false, .bl false, .bl false, .bl false, .bl false, .bl true, .bl false, .bl false, .bl false, .bl false, .bl false, .bl false, .bl false, .bl false]) := by kernel_rfl
theorem ih_8 (fs : Fs) : isi_HuntError (.err "BadForm" fs) = some true := rfl
theorem iv_8 (fs : Fs) : isi_ValueError (.err "BadForm" fs) = some true := rfl
theorem kp_9_0 (a : D) : F__law_kept (.err "BadSpot" [("part", a)]) (.str "part") = .ok a := by kernel_rfl
theorem cl_9 (fs : Fs) : F__law_classes (.err "BadSpot" fs) = .ok (.lst [.bl false, .bl false, .bl false, .bl false, .bl false, .bl false, .bl false, .bl false, .bl false, .bl true, .bl false, .bl false, .bl false, .bl false, .bl false, .bl false, .bl false]) := by kernel_rfl
theorem ih_9 (fs : Fs) : isi_HuntError (.err "BadSpot" fs) = some true := rfl
theorem iv_9 (fs : Fs) : isi_ValueError (.err "BadSpot" fs) = some true := rfl
theorem kp_10_0 (a : D) : F__law_kept (.err "Overlap" [("length", a)]) (.str "length") = .ok a := by kernel_rfl
theorem cl_10 (fs : Fs) : F__law_classes (.err "Overlap" fs) = .ok (.lst [.bl false, .bl false, .bl false, .bl false, .bl false, .bl false, .bl false, .bl false, .bl false, .bl false, .bl true, .bl false, .bl false, .bl false, .bl false, .bl false, .bl false]) := by kernel_rfl
theorem ih_10 (fs : Fs) : isi_HuntError (.err "Overlap" fs) = some true := rfl
theorem iv_10 (fs : Fs) : isi_ValueError (.err "Overlap" fs) = some true := rfl
theorem kp_11_0 (a : D) : F__law_kept (.err "NoStep" [("index", a)]) (.str "index") = .ok a := by kernel_rfl
theorem cl_11 (fs : Fs) : F__law_classes (.err "NoStep" fs) = .ok (.lst [.bl false, .bl false, .bl false, .bl false, .bl false, .bl false, .bl false, .bl false, .bl false, .bl false, .bl false, .bl true, .bl false, .bl false, .bl false, .bl false, .bl false]) := by kernel_rfl
theorem ih_11 (fs : Fs) : isi_HuntError (.err "NoStep" fs) = some true := rfl
theorem iv_11 (fs : Fs) : isi_ValueError (.err "NoStep" fs) = some true := rfl
theorem kp_12_0 (a b : D) : F__law_kept (.err "TooMany" [("most", b), ("what", a)]) (.str "what") = .ok a := by kernel_rfl
theorem kp_12_1 (a b : D) : F__law_kept (.err "TooMany" [("most", b), ("what", a)]) (.str "most") = .ok b := by kernel_rfl
theorem cl_12 (fs : Fs) : F__law_classes (.err "TooMany" fs) = .ok (.lst [.bl false, .bl false, .bl false, .bl false, .bl false, .bl false, .bl false, .bl false, .bl false, .bl false, .bl false, .bl false, .bl true, .bl false, .bl false, .bl false, .bl false]) := by kernel_rfl
theorem ih_12 (fs : Fs) : isi_HuntError (.err "TooMany" fs) = some true := rfl
theorem iv_12 (fs : Fs) : isi_ValueError (.err "TooMany" fs) = some true := rfl
theorem kp_13_0 (a b : D) : F__law_kept (.err "Parts" [("place", b), ("length", a)]) (.str "length") = .ok a := by kernel_rfl
theorem kp_13_1 (a b : D) : F__law_kept (.err "Parts" [("place", b), ("length", a)]) (.str "place") = .ok b := by kernel_rfl
theorem cl_13 (fs : Fs) : F__law_classes (.err "Parts" fs) = .ok (.lst [.bl false, .bl false, .bl false, .bl false, .bl false, .bl false, .bl false, .bl false, .bl false, .bl false, .bl false, .bl false, .bl false, .bl true, .bl false, .bl false, .bl false]) := by kernel_rfl
theorem ih_13 (fs : Fs) : isi_HuntError (.err "Parts" fs) = some true := rfl
theorem iv_13 (fs : Fs) : isi_ValueError (.err "Parts" fs) = some true := rfl
theorem kp_14_0 (a b : D) : F__law_kept (.err "BadText" [("word", b), ("line", a)]) (.str "line") = .ok a := by kernel_rfl
theorem kp_14_1 (a b : D) : F__law_kept (.err "BadText" [("word", b), ("line", a)]) (.str "word") = .ok b := by kernel_rfl
theorem cl_14 (fs : Fs) : F__law_classes (.err "BadText" fs) = .ok (.lst [.bl false, .bl false, .bl false, .bl false, .bl false, .bl false, .bl false, .bl false, .bl false, .bl false, .bl false, .bl false, .bl false, .bl false, .bl true, .bl false, .bl false]) := by kernel_rfl
theorem ih_14 (fs : Fs) : isi_HuntError (.err "BadText" fs) = some true := rfl
theorem iv_14 (fs : Fs) : isi_ValueError (.err "BadText" fs) = some true := rfl
theorem kp_15_0 (a : D) : F__law_kept (.err "NoName" [("name", a)]) (.str "name") = .ok a := by kernel_rfl
theorem cl_15 (fs : Fs) : F__law_classes (.err "NoName" fs) = .ok (.lst [.bl false, .bl false, .bl false, .bl false, .bl false, .bl false, .bl false, .bl false, .bl false, .bl false, .bl false, .bl false, .bl false, .bl false, .bl false, .bl true, .bl false]) := by kernel_rfl
theorem ih_15 (fs : Fs) : isi_HuntError (.err "NoName" fs) = some true := rfl
theorem iv_15 (fs : Fs) : isi_ValueError (.err "NoName" fs) = some true := rfl
theorem kp_16_0 (a : D) : F__law_kept (.err "BadLine" [("word", a)]) (.str "word") = .ok a := by kernel_rfl
theorem cl_16 (fs : Fs) : F__law_classes (.err "BadLine" fs) = .ok (.lst [.bl false, .bl false, .bl false, .bl false, .bl false, .bl false, .bl false, .bl false, .bl false, .bl false, .bl false, .bl false, .bl false, .bl false, .bl false, .bl false, .bl true]) := by kernel_rfl
theorem ih_16 (fs : Fs) : isi_HuntError (.err "BadLine" fs) = some true := rfl
theorem iv_16 (fs : Fs) : isi_ValueError (.err "BadLine" fs) = some true := rfl
def ens (a b : D) : List D := [.tup [.int 0, .tup [.err "BadLength" [("value", a)], .lst [.str "value"]]], .tup [.int 1, .tup [.err "BadPlace" [("value", a)], .lst [.str "value"]]], .tup [.int 2, .tup [.err "BadRest" [("value", a)], .lst [.str "value"]]], .tup [.int 3, .tup [.err "BadRow" [("at", a)], .lst [.str "at"]]], .tup [.int 4, .tup [.err "BadChange" [("part", a)], .lst [.str "part"]]], .tup [.int 5, .tup [.err "BadSpan" [("part", a)], .lst [.str "part"]]], .tup [.int 6, .tup [.err "BadStep" [("at", a)], .lst [.str "at"]]], .tup [.int 7, .tup [.err "BadNumber" [("value", a)], .lst [.str "value"]]], .tup [.int 8, .tup [.err "BadForm" [("part", a)], .lst [.str "part"]]], .tup [.int 9, .tup [.err "BadSpot" [("part", a)], .lst [.str "part"]]], .tup [.int 10, .tup [.err "Overlap" [("length", a)], .lst [.str "length"]]], .tup [.int 11, .tup [.err "NoStep" [("index", a)], .lst [.str "index"]]], .tup [.int 12, .tup [.err "TooMany" [("most", b), ("what", a)], .lst [.str "what", .str "most"]]], .tup [.int 13, .tup [.err "Parts" [("place", b), ("length", a)], .lst [.str "length", .str "place"]]], .tup [.int 14, .tup [.err "BadText" [("word", b), ("line", a)], .lst [.str "line", .str "word"]]], .tup [.int 15, .tup [.err "NoName" [("name", a)], .lst [.str "name"]]], .tup [.int 16, .tup [.err "BadLine" [("word", a)], .lst [.str "word"]]]]
theorem q_en (a b : D) : enD (.lst (tolds a b)) = .ok (ens a b) := by kernel_rfl
theorem len17 (a b : D) : lenD (.lst (tolds a b)) = .ok (.int 17) := by kernel_rfl
theorem rg17 (a b : D) : rg1 (.int ((tolds a b).length : Nat)) = .ok [.int 0, .int 1, .int 2, .int 3, .int 4, .int 5, .int 6, .int 7, .int 8, .int 9, .int 10, .int 11, .int 12, .int 13, .int 14, .int 15, .int 16] := by kernel_rfl
theorem sl1 (a b : D) : slD (.lst [a, b]) none (some ((1 : Nat) : Int)) = .ok (.lst [a]) := by kernel_rfl
theorem sl2 (a b : D) : slD (.lst [a, b]) none (some ((2 : Nat) : Int)) = .ok (.lst [a, b]) := by kernel_rfl
theorem nt : notinD (.bl true) (.lst [.bl false, .bl false, .bl false, .bl false, .bl false, .bl false, .bl false, .bl false, .bl false, .bl false, .bl false, .bl false, .bl false, .bl false, .bl false, .bl false, .bl false]) = .ok (.bl true) := by kernel_rfl
theorem ge_0 (a b : D) : ixD (.lst (errs a b)) (.int 0) = .ok (.err "BadLength" [("value", a)]) := by kernel_rfl
theorem ge_1 (a b : D) : ixD (.lst (errs a b)) (.int 1) = .ok (.err "BadPlace" [("value", a)]) := by kernel_rfl
theorem ge_2 (a b : D) : ixD (.lst (errs a b)) (.int 2) = .ok (.err "BadRest" [("value", a)]) := by kernel_rfl
theorem ge_3 (a b : D) : ixD (.lst (errs a b)) (.int 3) = .ok (.err "BadRow" [("at", a)]) := by kernel_rfl
theorem ge_4 (a b : D) : ixD (.lst (errs a b)) (.int 4) = .ok (.err "BadChange" [("part", a)]) := by kernel_rfl
theorem ge_5 (a b : D) : ixD (.lst (errs a b)) (.int 5) = .ok (.err "BadSpan" [("part", a)]) := by kernel_rfl
theorem ge_6 (a b : D) : ixD (.lst (errs a b)) (.int 6) = .ok (.err "BadStep" [("at", a)]) := by kernel_rfl
theorem ge_7 (a b : D) : ixD (.lst (errs a b)) (.int 7) = .ok (.err "BadNumber" [("value", a)]) := by kernel_rfl
theorem ge_8 (a b : D) : ixD (.lst (errs a b)) (.int 8) = .ok (.err "BadForm" [("part", a)]) := by kernel_rfl
theorem ge_9 (a b : D) : ixD (.lst (errs a b)) (.int 9) = .ok (.err "BadSpot" [("part", a)]) := by kernel_rfl
theorem ge_10 (a b : D) : ixD (.lst (errs a b)) (.int 10) = .ok (.err "Overlap" [("length", a)]) := by kernel_rfl
theorem ge_11 (a b : D) : ixD (.lst (errs a b)) (.int 11) = .ok (.err "NoStep" [("index", a)]) := by kernel_rfl
theorem ge_12 (a b : D) : ixD (.lst (errs a b)) (.int 12) = .ok (.err "TooMany" [("most", b), ("what", a)]) := by kernel_rfl
theorem ge_13 (a b : D) : ixD (.lst (errs a b)) (.int 13) = .ok (.err "Parts" [("place", b), ("length", a)]) := by kernel_rfl
theorem ge_14 (a b : D) : ixD (.lst (errs a b)) (.int 14) = .ok (.err "BadText" [("word", b), ("line", a)]) := by kernel_rfl
theorem ge_15 (a b : D) : ixD (.lst (errs a b)) (.int 15) = .ok (.err "NoName" [("name", a)]) := by kernel_rfl
theorem ge_16 (a b : D) : ixD (.lst (errs a b)) (.int 16) = .ok (.err "BadLine" [("word", a)]) := by kernel_rfl
theorem cl_h : F__law_classes (.er0 "HuntError") = .ok (.lst [.bl false, .bl false, .bl false, .bl false, .bl false, .bl false, .bl false, .bl false, .bl false, .bl false, .bl false, .bl false, .bl false, .bl false, .bl false, .bl false, .bl false]) := by kernel_rfl
theorem iv_h : isi_ValueError (.er0 "HuntError") = some true := rfl
end Lw
end
section
set_option Elab.async false
set_option linter.all false
set_option maxRecDepth 100000
set_option maxHeartbeats 4000000
namespace Lw
open PySem Gp Gh PyProof.Rows L2
theorem rg4' : rg1 (.int 4) = .ok (rgD 0 4) := rfl
theorem l_same {L : Type} {f : D → Unit → Tr (Fl Unit Unit)} {a : D} {u : Dp f} (h1 : f a () = .ok (.nx ())) : forFk (L := L) f [a, a] () u = .ok (.nx ()) := l_for2 h1 h1
theorem law_yes : Yes F_law := by
  refine Bo.yes (n := 16) (by decide) ?_
  refine Bx.bo ?_
  rw [lz_law]
  unfold L_law
  simp -implicitDefEqProofs -dsimp only [implies_true, isS_str, s_bdx, s_bd, ↓k_bd, k_bd, k_bdx, k_bdd, s_nox, k_bdF, k_bdFr, k_bdFx, s_finr, s_finn, s_find, k_bdFd, ↓reduceIte, s_asB, s_ul1, s_ul2, s_ul3, s_sub, s_add, s_neg, s_eq, s_len, s_itl, s_itt, s_opt, List.length_cons, List.length_nil, decide_true, decide_false, Bool.not_true, Bool.not_false, if_true, if_false, Bool.false_eq_true, Nat.reduceAdd, z0L, z1L, z2L, z3L, z4L, z5L, z6L, z7L, z8L, z9L, z10L, z11L, z12L, z0l, z1l, z2l, z3l, z4l, l_asI, l_finx, l_finIx, l_finI, l_un2, l_un3, l_un4, l_ne, l_nes, l_neb, l_gt, l_ix0, l_ix1, l_ix2, l_ix3, l_it0, l_it1, l_it2, l_it3, F_draw_eq, List.cons_append, List.nil_append, k_bdbd, k_bdFbd, k_finbd, rg4']
  refine bk_loopU (c := 4) (b := 0) (fun d _ => ?_) ?_ (by decide)
  · simp -implicitDefEqProofs -dsimp only [implies_true, isS_str, s_bdx, s_bd, ↓k_bd, k_bd, k_bdx, k_bdd, s_nox, k_bdF, k_bdFr, k_bdFx, s_finr, s_finn, s_find, k_bdFd, ↓reduceIte, s_asB, s_ul1, s_ul2, s_ul3, s_sub, s_add, s_neg, s_eq, s_len, s_itl, s_itt, s_opt, List.length_cons, List.length_nil, decide_true, decide_false, Bool.not_true, Bool.not_false, if_true, if_false, Bool.false_eq_true, Nat.reduceAdd, z0L, z1L, z2L, z3L, z4L, z5L, z6L, z7L, z8L, z9L, z10L, z11L, z12L, z0l, z1l, z2l, z3l, z4l, l_asI, l_finx, l_finIx, l_finI, l_un2, l_un3, l_un4, l_ne, l_nes, l_neb, l_gt, l_ix0, l_ix1, l_ix2, l_ix3, l_it0, l_it1, l_it2, l_it3, F_draw_eq, List.cons_append, List.nil_append, k_bdbd, k_bdFbd, k_finbd]
    refine bk_then (a := 2) (b := 2) (bx_of b_value) (fun a ha => ?_) (by decide)
    simp -implicitDefEqProofs -dsimp only [implies_true, isS_str, s_bdx, s_bd, ↓k_bd, k_bd, k_bdx, k_bdd, s_nox, k_bdF, k_bdFr, k_bdFx, s_finr, s_finn, s_find, k_bdFd, ↓reduceIte, s_asB, s_ul1, s_ul2, s_ul3, s_sub, s_add, s_neg, s_eq, s_len, s_itl, s_itt, s_opt, List.length_cons, List.length_nil, decide_true, decide_false, Bool.not_true, Bool.not_false, if_true, if_false, Bool.false_eq_true, Nat.reduceAdd, z0L, z1L, z2L, z3L, z4L, z5L, z6L, z7L, z8L, z9L, z10L, z11L, z12L, z0l, z1l, z2l, z3l, z4l, l_asI, l_finx, l_finIx, l_finI, l_un2, l_un3, l_un4, l_ne, l_nes, l_neb, l_gt, l_ix0, l_ix1, l_ix2, l_ix3, l_it0, l_it1, l_it2, l_it3, F_draw_eq, List.cons_append, List.nil_append, k_bdbd, k_bdFbd, k_finbd]
    refine bk_then (a := 2) (b := 0) (bx_of b_value) (fun b hb => ?_) (by decide)
    obtain ⟨s1, r1⟩ := rx_1 ha
    obtain ⟨s2, r2⟩ := rx_2 ha hb
    have n1 : neD (.str s1) (.str s1) = .ok (.bl false) := by
      show Tr.ok (D.bl (!decide (s1 = s1))) = _
      simp
    have n2 : neD (.str s2) (.str s2) = .ok (.bl false) := by
      show Tr.ok (D.bl (!decide (s2 = s2))) = _
      simp
    simp -implicitDefEqProofs -dsimp only [implies_true, isS_str, s_bdx, s_bd, ↓k_bd, k_bd, k_bdx, k_bdd, s_nox, k_bdF, k_bdFr, k_bdFx, s_finr, s_finn, s_find, k_bdFd, ↓reduceIte, s_asB, s_ul1, s_ul2, s_ul3, s_sub, s_add, s_neg, s_eq, s_len, s_itl, s_itt, s_opt, List.length_cons, List.length_nil, decide_true, decide_false, Bool.not_true, Bool.not_false, if_true, if_false, Bool.false_eq_true, Nat.reduceAdd, z0L, z1L, z2L, z3L, z4L, z5L, z6L, z7L, z8L, z9L, z10L, z11L, z12L, z0l, z1l, z2l, z3l, z4l, l_asI, l_finx, l_finIx, l_finI, l_un2, l_un3, l_un4, l_ne, l_nes, l_neb, l_gt, l_ix0, l_ix1, l_ix2, l_ix3, l_it0, l_it1, l_it2, l_it3, F_draw_eq, List.cons_append, List.nil_append, k_bdbd, k_bdFbd, k_finbd, q_told, q_named, q_en]
    rw [l_forAll (ds := ens a b) ?h]
    · simp -implicitDefEqProofs -dsimp only [implies_true, isS_str, s_bdx, s_bd, ↓k_bd, k_bd, k_bdx, k_bdd, s_nox, k_bdF, k_bdFr, k_bdFx, s_finr, s_finn, s_find, k_bdFd, ↓reduceIte, s_asB, s_ul1, s_ul2, s_ul3, s_sub, s_add, s_neg, s_eq, s_len, s_itl, s_itt, s_opt, List.length_cons, List.length_nil, decide_true, decide_false, Bool.not_true, Bool.not_false, if_true, if_false, Bool.false_eq_true, Nat.reduceAdd, z0L, z1L, z2L, z3L, z4L, z5L, z6L, z7L, z8L, z9L, z10L, z11L, z12L, z0l, z1l, z2l, z3l, z4l, l_asI, l_finx, l_finIx, l_finI, l_un2, l_un3, l_un4, l_ne, l_nes, l_neb, l_gt, l_ix0, l_ix1, l_ix2, l_ix3, l_it0, l_it1, l_it2, l_it3, F_draw_eq, List.cons_append, List.nil_append, k_bdbd, k_bdFbd, k_finbd]
      exact bx_ok rfl
    intro d hd
    simp only [ens, List.mem_cons, List.mem_nil_iff, or_false] at hd
    rcases hd with rfl | rfl | rfl | rfl | rfl | rfl | rfl | rfl | rfl | rfl | rfl | rfl | rfl | rfl | rfl | rfl | rfl
    · simp -implicitDefEqProofs -dsimp only [implies_true, isS_str, s_bdx, s_bd, ↓k_bd, k_bd, k_bdx, k_bdd, s_nox, k_bdF, k_bdFr, k_bdFx, s_finr, s_finn, s_find, k_bdFd, ↓reduceIte, s_asB, s_ul1, s_ul2, s_ul3, s_sub, s_add, s_neg, s_eq, s_len, s_itl, s_itt, s_opt, List.length_cons, List.length_nil, decide_true, decide_false, Bool.not_true, Bool.not_false, if_true, if_false, Bool.false_eq_true, Nat.reduceAdd, z0L, z1L, z2L, z3L, z4L, z5L, z6L, z7L, z8L, z9L, z10L, z11L, z12L, z0l, z1l, z2l, z3l, z4l, l_asI, l_finx, l_finIx, l_finI, l_un2, l_un3, l_un4, l_ne, l_nes, l_neb, l_gt, l_ix0, l_ix1, l_ix2, l_ix3, l_it0, l_it1, l_it2, l_it3, F_draw_eq, List.cons_append, List.nil_append, k_bdbd, k_bdFbd, k_finbd, ge_0]
      rw [l_same]
      · simp -implicitDefEqProofs -dsimp only [implies_true, isS_str, s_bdx, s_bd, ↓k_bd, k_bd, k_bdx, k_bdd, s_nox, k_bdF, k_bdFr, k_bdFx, s_finr, s_finn, s_find, k_bdFd, ↓reduceIte, s_asB, s_ul1, s_ul2, s_ul3, s_sub, s_add, s_neg, s_eq, s_len, s_itl, s_itt, s_opt, List.length_cons, List.length_nil, decide_true, decide_false, Bool.not_true, Bool.not_false, if_true, if_false, Bool.false_eq_true, Nat.reduceAdd, z0L, z1L, z2L, z3L, z4L, z5L, z6L, z7L, z8L, z9L, z10L, z11L, z12L, z0l, z1l, z2l, z3l, z4l, l_asI, l_finx, l_finIx, l_finI, l_un2, l_un3, l_un4, l_ne, l_nes, l_neb, l_gt, l_ix0, l_ix1, l_ix2, l_ix3, l_it0, l_it1, l_it2, l_it3, F_draw_eq, List.cons_append, List.nil_append, k_bdbd, k_bdFbd, k_finbd]
      · simp -implicitDefEqProofs -dsimp only [implies_true, isS_str, s_bdx, s_bd, ↓k_bd, k_bd, k_bdx, k_bdd, s_nox, k_bdF, k_bdFr, k_bdFx, s_finr, s_finn, s_find, k_bdFd, ↓reduceIte, s_asB, s_ul1, s_ul2, s_ul3, s_sub, s_add, s_neg, s_eq, s_len, s_itl, s_itt, s_opt, List.length_cons, List.length_nil, decide_true, decide_false, Bool.not_true, Bool.not_false, if_true, if_false, Bool.false_eq_true, Nat.reduceAdd, z0L, z1L, z2L, z3L, z4L, z5L, z6L, z7L, z8L, z9L, z10L, z11L, z12L, z0l, z1l, z2l, z3l, z4l, l_asI, l_finx, l_finIx, l_finI, l_un2, l_un3, l_un4, l_ne, l_nes, l_neb, l_gt, l_ix0, l_ix1, l_ix2, l_ix3, l_it0, l_it1, l_it2, l_it3, F_draw_eq, List.cons_append, List.nil_append, k_bdbd, k_bdFbd, k_finbd, kp_0_0, cl_0, ih_0, iv_0, lcF_cons, lcF_nil, sl1, sl2, r1, r2, n1, n2, len17, rg17]
        simp only [Int.reduceEq, decide_false]
        kernel_rfl
    · simp -implicitDefEqProofs -dsimp only [implies_true, isS_str, s_bdx, s_bd, ↓k_bd, k_bd, k_bdx, k_bdd, s_nox, k_bdF, k_bdFr, k_bdFx, s_finr, s_finn, s_find, k_bdFd, ↓reduceIte, s_asB, s_ul1, s_ul2, s_ul3, s_sub, s_add, s_neg, s_eq, s_len, s_itl, s_itt, s_opt, List.length_cons, List.length_nil, decide_true, decide_false, Bool.not_true, Bool.not_false, if_true, if_false, Bool.false_eq_true, Nat.reduceAdd, z0L, z1L, z2L, z3L, z4L, z5L, z6L, z7L, z8L, z9L, z10L, z11L, z12L, z0l, z1l, z2l, z3l, z4l, l_asI, l_finx, l_finIx, l_finI, l_un2, l_un3, l_un4, l_ne, l_nes, l_neb, l_gt, l_ix0, l_ix1, l_ix2, l_ix3, l_it0, l_it1, l_it2, l_it3, F_draw_eq, List.cons_append, List.nil_append, k_bdbd, k_bdFbd, k_finbd, ge_1]
      rw [l_same]
      · simp -implicitDefEqProofs -dsimp only [implies_true, isS_str, s_bdx, s_bd, ↓k_bd, k_bd, k_bdx, k_bdd, s_nox, k_bdF, k_bdFr, k_bdFx, s_finr, s_finn, s_find, k_bdFd, ↓reduceIte, s_asB, s_ul1, s_ul2, s_ul3, s_sub, s_add, s_neg, s_eq, s_len, s_itl, s_itt, s_opt, List.length_cons, List.length_nil, decide_true, decide_false, Bool.not_true, Bool.not_false, if_true, if_false, Bool.false_eq_true, Nat.reduceAdd, z0L, z1L, z2L, z3L, z4L, z5L, z6L, z7L, z8L, z9L, z10L, z11L, z12L, z0l, z1l, z2l, z3l, z4l, l_asI, l_finx, l_finIx, l_finI, l_un2, l_un3, l_un4, l_ne, l_nes, l_neb, l_gt, l_ix0, l_ix1, l_ix2, l_ix3, l_it0, l_it1, l_it2, l_it3, F_draw_eq, List.cons_append, List.nil_append, k_bdbd, k_bdFbd, k_finbd]
      · simp -implicitDefEqProofs -dsimp only [implies_true, isS_str, s_bdx, s_bd, ↓k_bd, k_bd, k_bdx, k_bdd, s_nox, k_bdF, k_bdFr, k_bdFx, s_finr, s_finn, s_find, k_bdFd, ↓reduceIte, s_asB, s_ul1, s_ul2, s_ul3, s_sub, s_add, s_neg, s_eq, s_len, s_itl, s_itt, s_opt, List.length_cons, List.length_nil, decide_true, decide_false, Bool.not_true, Bool.not_false, if_true, if_false, Bool.false_eq_true, Nat.reduceAdd, z0L, z1L, z2L, z3L, z4L, z5L, z6L, z7L, z8L, z9L, z10L, z11L, z12L, z0l, z1l, z2l, z3l, z4l, l_asI, l_finx, l_finIx, l_finI, l_un2, l_un3, l_un4, l_ne, l_nes, l_neb, l_gt, l_ix0, l_ix1, l_ix2, l_ix3, l_it0, l_it1, l_it2, l_it3, F_draw_eq, List.cons_append, List.nil_append, k_bdbd, k_bdFbd, k_finbd, kp_1_0, cl_1, ih_1, iv_1, lcF_cons, lcF_nil, sl1, sl2, r1, r2, n1, n2, len17, rg17]
        simp only [Int.reduceEq, decide_false]
        kernel_rfl
    · simp -implicitDefEqProofs -dsimp only [implies_true, isS_str, s_bdx, s_bd, ↓k_bd, k_bd, k_bdx, k_bdd, s_nox, k_bdF, k_bdFr, k_bdFx, s_finr, s_finn, s_find, k_bdFd, ↓reduceIte, s_asB, s_ul1, s_ul2, s_ul3, s_sub, s_add, s_neg, s_eq, s_len, s_itl, s_itt, s_opt, List.length_cons, List.length_nil, decide_true, decide_false, Bool.not_true, Bool.not_false, if_true, if_false, Bool.false_eq_true, Nat.reduceAdd, z0L, z1L, z2L, z3L, z4L, z5L, z6L, z7L, z8L, z9L, z10L, z11L, z12L, z0l, z1l, z2l, z3l, z4l, l_asI, l_finx, l_finIx, l_finI, l_un2, l_un3, l_un4, l_ne, l_nes, l_neb, l_gt, l_ix0, l_ix1, l_ix2, l_ix3, l_it0, l_it1, l_it2, l_it3, F_draw_eq, List.cons_append, List.nil_append, k_bdbd, k_bdFbd, k_finbd, ge_2]
      rw [l_same]
      · simp -implicitDefEqProofs -dsimp only [implies_true, isS_str, s_bdx, s_bd, ↓k_bd, k_bd, k_bdx, k_bdd, s_nox, k_bdF, k_bdFr, k_bdFx, s_finr, s_finn, s_find, k_bdFd, ↓reduceIte, s_asB, s_ul1, s_ul2, s_ul3, s_sub, s_add, s_neg, s_eq, s_len, s_itl, s_itt, s_opt, List.length_cons, List.length_nil, decide_true, decide_false, Bool.not_true, Bool.not_false, if_true, if_false, Bool.false_eq_true, Nat.reduceAdd, z0L, z1L, z2L, z3L, z4L, z5L, z6L, z7L, z8L, z9L, z10L, z11L, z12L, z0l, z1l, z2l, z3l, z4l, l_asI, l_finx, l_finIx, l_finI, l_un2, l_un3, l_un4, l_ne, l_nes, l_neb, l_gt, l_ix0, l_ix1, l_ix2, l_ix3, l_it0, l_it1, l_it2, l_it3, F_draw_eq, List.cons_append, List.nil_append, k_bdbd, k_bdFbd, k_finbd]
      · simp -implicitDefEqProofs -dsimp only [implies_true, isS_str, s_bdx, s_bd, ↓k_bd, k_bd, k_bdx, k_bdd, s_nox, k_bdF, k_bdFr, k_bdFx, s_finr, s_finn, s_find, k_bdFd, ↓reduceIte, s_asB, s_ul1, s_ul2, s_ul3, s_sub, s_add, s_neg, s_eq, s_len, s_itl, s_itt, s_opt, List.length_cons, List.length_nil, decide_true, decide_false, Bool.not_true, Bool.not_false, if_true, if_false, Bool.false_eq_true, Nat.reduceAdd, z0L, z1L, z2L, z3L, z4L, z5L, z6L, z7L, z8L, z9L, z10L, z11L, z12L, z0l, z1l, z2l, z3l, z4l, l_asI, l_finx, l_finIx, l_finI, l_un2, l_un3, l_un4, l_ne, l_nes, l_neb, l_gt, l_ix0, l_ix1, l_ix2, l_ix3, l_it0, l_it1, l_it2, l_it3, F_draw_eq, List.cons_append, List.nil_append, k_bdbd, k_bdFbd, k_finbd, kp_2_0, cl_2, ih_2, iv_2, lcF_cons, lcF_nil, sl1, sl2, r1, r2, n1, n2, len17, rg17]
        simp only [Int.reduceEq, decide_false]
        kernel_rfl
    · simp -implicitDefEqProofs -dsimp only [implies_true, isS_str, s_bdx, s_bd, ↓k_bd, k_bd, k_bdx, k_bdd, s_nox, k_bdF, k_bdFr, k_bdFx, s_finr, s_finn, s_find, k_bdFd, ↓reduceIte, s_asB, s_ul1, s_ul2, s_ul3, s_sub, s_add, s_neg, s_eq, s_len, s_itl, s_itt, s_opt, List.length_cons, List.length_nil, decide_true, decide_false, Bool.not_true, Bool.not_false, if_true, if_false, Bool.false_eq_true, Nat.reduceAdd, z0L, z1L, z2L, z3L, z4L, z5L, z6L, z7L, z8L, z9L, z10L, z11L, z12L, z0l, z1l, z2l, z3l, z4l, l_asI, l_finx, l_finIx, l_finI, l_un2, l_un3, l_un4, l_ne, l_nes, l_neb, l_gt, l_ix0, l_ix1, l_ix2, l_ix3, l_it0, l_it1, l_it2, l_it3, F_draw_eq, List.cons_append, List.nil_append, k_bdbd, k_bdFbd, k_finbd, ge_3]
      rw [l_same]
      · simp -implicitDefEqProofs -dsimp only [implies_true, isS_str, s_bdx, s_bd, ↓k_bd, k_bd, k_bdx, k_bdd, s_nox, k_bdF, k_bdFr, k_bdFx, s_finr, s_finn, s_find, k_bdFd, ↓reduceIte, s_asB, s_ul1, s_ul2, s_ul3, s_sub, s_add, s_neg, s_eq, s_len, s_itl, s_itt, s_opt, List.length_cons, List.length_nil, decide_true, decide_false, Bool.not_true, Bool.not_false, if_true, if_false, Bool.false_eq_true, Nat.reduceAdd, z0L, z1L, z2L, z3L, z4L, z5L, z6L, z7L, z8L, z9L, z10L, z11L, z12L, z0l, z1l, z2l, z3l, z4l, l_asI, l_finx, l_finIx, l_finI, l_un2, l_un3, l_un4, l_ne, l_nes, l_neb, l_gt, l_ix0, l_ix1, l_ix2, l_ix3, l_it0, l_it1, l_it2, l_it3, F_draw_eq, List.cons_append, List.nil_append, k_bdbd, k_bdFbd, k_finbd]
      · simp -implicitDefEqProofs -dsimp only [implies_true, isS_str, s_bdx, s_bd, ↓k_bd, k_bd, k_bdx, k_bdd, s_nox, k_bdF, k_bdFr, k_bdFx, s_finr, s_finn, s_find, k_bdFd, ↓reduceIte, s_asB, s_ul1, s_ul2, s_ul3, s_sub, s_add, s_neg, s_eq, s_len, s_itl, s_itt, s_opt, List.length_cons, List.length_nil, decide_true, decide_false, Bool.not_true, Bool.not_false, if_true, if_false, Bool.false_eq_true, Nat.reduceAdd, z0L, z1L, z2L, z3L, z4L, z5L, z6L, z7L, z8L, z9L, z10L, z11L, z12L, z0l, z1l, z2l, z3l, z4l, l_asI, l_finx, l_finIx, l_finI, l_un2, l_un3, l_un4, l_ne, l_nes, l_neb, l_gt, l_ix0, l_ix1, l_ix2, l_ix3, l_it0, l_it1, l_it2, l_it3, F_draw_eq, List.cons_append, List.nil_append, k_bdbd, k_bdFbd, k_finbd, kp_3_0, cl_3, ih_3, iv_3, lcF_cons, lcF_nil, sl1, sl2, r1, r2, n1, n2, len17, rg17]
        simp only [Int.reduceEq, decide_false]
        kernel_rfl
    · simp -implicitDefEqProofs -dsimp only [implies_true, isS_str, s_bdx, s_bd, ↓k_bd, k_bd, k_bdx, k_bdd, s_nox, k_bdF, k_bdFr, k_bdFx, s_finr, s_finn, s_find, k_bdFd, ↓reduceIte, s_asB, s_ul1, s_ul2, s_ul3, s_sub, s_add, s_neg, s_eq, s_len, s_itl, s_itt, s_opt, List.length_cons, List.length_nil, decide_true, decide_false, Bool.not_true, Bool.not_false, if_true, if_false, Bool.false_eq_true, Nat.reduceAdd, z0L, z1L, z2L, z3L, z4L, z5L, z6L, z7L, z8L, z9L, z10L, z11L, z12L, z0l, z1l, z2l, z3l, z4l, l_asI, l_finx, l_finIx, l_finI, l_un2, l_un3, l_un4, l_ne, l_nes, l_neb, l_gt, l_ix0, l_ix1, l_ix2, l_ix3, l_it0, l_it1, l_it2, l_it3, F_draw_eq, List.cons_append, List.nil_append, k_bdbd, k_bdFbd, k_finbd, ge_4]
      rw [l_same]
      · simp -implicitDefEqProofs -dsimp only [implies_true, isS_str, s_bdx, s_bd, ↓k_bd, k_bd, k_bdx, k_bdd, s_nox, k_bdF, k_bdFr, k_bdFx, s_finr, s_finn, s_find, k_bdFd, ↓reduceIte, s_asB, s_ul1, s_ul2, s_ul3, s_sub, s_add, s_neg, s_eq, s_len, s_itl, s_itt, s_opt, List.length_cons, List.length_nil, decide_true, decide_false, Bool.not_true, Bool.not_false, if_true, if_false, Bool.false_eq_true, Nat.reduceAdd, z0L, z1L, z2L, z3L, z4L, z5L, z6L, z7L, z8L, z9L, z10L, z11L, z12L, z0l, z1l, z2l, z3l, z4l, l_asI, l_finx, l_finIx, l_finI, l_un2, l_un3, l_un4, l_ne, l_nes, l_neb, l_gt, l_ix0, l_ix1, l_ix2, l_ix3, l_it0, l_it1, l_it2, l_it3, F_draw_eq, List.cons_append, List.nil_append, k_bdbd, k_bdFbd, k_finbd]
      · simp -implicitDefEqProofs -dsimp only [implies_true, isS_str, s_bdx, s_bd, ↓k_bd, k_bd, k_bdx, k_bdd, s_nox, k_bdF, k_bdFr, k_bdFx, s_finr, s_finn, s_find, k_bdFd, ↓reduceIte, s_asB, s_ul1, s_ul2, s_ul3, s_sub, s_add, s_neg, s_eq, s_len, s_itl, s_itt, s_opt, List.length_cons, List.length_nil, decide_true, decide_false, Bool.not_true, Bool.not_false, if_true, if_false, Bool.false_eq_true, Nat.reduceAdd, z0L, z1L, z2L, z3L, z4L, z5L, z6L, z7L, z8L, z9L, z10L, z11L, z12L, z0l, z1l, z2l, z3l, z4l, l_asI, l_finx, l_finIx, l_finI, l_un2, l_un3, l_un4, l_ne, l_nes, l_neb, l_gt, l_ix0, l_ix1, l_ix2, l_ix3, l_it0, l_it1, l_it2, l_it3, F_draw_eq, List.cons_append, List.nil_append, k_bdbd, k_bdFbd, k_finbd, kp_4_0, cl_4, ih_4, iv_4, lcF_cons, lcF_nil, sl1, sl2, r1, r2, n1, n2, len17, rg17]
        simp only [Int.reduceEq, decide_false]
        kernel_rfl
    · simp -implicitDefEqProofs -dsimp only [implies_true, isS_str, s_bdx, s_bd, ↓k_bd, k_bd, k_bdx, k_bdd, s_nox, k_bdF, k_bdFr, k_bdFx, s_finr, s_finn, s_find, k_bdFd, ↓reduceIte, s_asB, s_ul1, s_ul2, s_ul3, s_sub, s_add, s_neg, s_eq, s_len, s_itl, s_itt, s_opt, List.length_cons, List.length_nil, decide_true, decide_false, Bool.not_true, Bool.not_false, if_true, if_false, Bool.false_eq_true, Nat.reduceAdd, z0L, z1L, z2L, z3L, z4L, z5L, z6L, z7L, z8L, z9L, z10L, z11L, z12L, z0l, z1l, z2l, z3l, z4l, l_asI, l_finx, l_finIx, l_finI, l_un2, l_un3, l_un4, l_ne, l_nes, l_neb, l_gt, l_ix0, l_ix1, l_ix2, l_ix3, l_it0, l_it1, l_it2, l_it3, F_draw_eq, List.cons_append, List.nil_append, k_bdbd, k_bdFbd, k_finbd, ge_5]
      rw [l_same]
      · simp -implicitDefEqProofs -dsimp only [implies_true, isS_str, s_bdx, s_bd, ↓k_bd, k_bd, k_bdx, k_bdd, s_nox, k_bdF, k_bdFr, k_bdFx, s_finr, s_finn, s_find, k_bdFd, ↓reduceIte, s_asB, s_ul1, s_ul2, s_ul3, s_sub, s_add, s_neg, s_eq, s_len, s_itl, s_itt, s_opt, List.length_cons, List.length_nil, decide_true, decide_false, Bool.not_true, Bool.not_false, if_true, if_false, Bool.false_eq_true, Nat.reduceAdd, z0L, z1L, z2L, z3L, z4L, z5L, z6L, z7L, z8L, z9L, z10L, z11L, z12L, z0l, z1l, z2l, z3l, z4l, l_asI, l_finx, l_finIx, l_finI, l_un2, l_un3, l_un4, l_ne, l_nes, l_neb, l_gt, l_ix0, l_ix1, l_ix2, l_ix3, l_it0, l_it1, l_it2, l_it3, F_draw_eq, List.cons_append, List.nil_append, k_bdbd, k_bdFbd, k_finbd]
      · simp -implicitDefEqProofs -dsimp only [implies_true, isS_str, s_bdx, s_bd, ↓k_bd, k_bd, k_bdx, k_bdd, s_nox, k_bdF, k_bdFr, k_bdFx, s_finr, s_finn, s_find, k_bdFd, ↓reduceIte, s_asB, s_ul1, s_ul2, s_ul3, s_sub, s_add, s_neg, s_eq, s_len, s_itl, s_itt, s_opt, List.length_cons, List.length_nil, decide_true, decide_false, Bool.not_true, Bool.not_false, if_true, if_false, Bool.false_eq_true, Nat.reduceAdd, z0L, z1L, z2L, z3L, z4L, z5L, z6L, z7L, z8L, z9L, z10L, z11L, z12L, z0l, z1l, z2l, z3l, z4l, l_asI, l_finx, l_finIx, l_finI, l_un2, l_un3, l_un4, l_ne, l_nes, l_neb, l_gt, l_ix0, l_ix1, l_ix2, l_ix3, l_it0, l_it1, l_it2, l_it3, F_draw_eq, List.cons_append, List.nil_append, k_bdbd, k_bdFbd, k_finbd, kp_5_0, cl_5, ih_5, iv_5, lcF_cons, lcF_nil, sl1, sl2, r1, r2, n1, n2, len17, rg17]
        simp only [Int.reduceEq, decide_false]
        kernel_rfl
    · simp -implicitDefEqProofs -dsimp only [implies_true, isS_str, s_bdx, s_bd, ↓k_bd, k_bd, k_bdx, k_bdd, s_nox, k_bdF, k_bdFr, k_bdFx, s_finr, s_finn, s_find, k_bdFd, ↓reduceIte, s_asB, s_ul1, s_ul2, s_ul3, s_sub, s_add, s_neg, s_eq, s_len, s_itl, s_itt, s_opt, List.length_cons, List.length_nil, decide_true, decide_false, Bool.not_true, Bool.not_false, if_true, if_false, Bool.false_eq_true, Nat.reduceAdd, z0L, z1L, z2L, z3L, z4L, z5L, z6L, z7L, z8L, z9L, z10L, z11L, z12L, z0l, z1l, z2l, z3l, z4l, l_asI, l_finx, l_finIx, l_finI, l_un2, l_un3, l_un4, l_ne, l_nes, l_neb, l_gt, l_ix0, l_ix1, l_ix2, l_ix3, l_it0, l_it1, l_it2, l_it3, F_draw_eq, List.cons_append, List.nil_append, k_bdbd, k_bdFbd, k_finbd, ge_6]
      rw [l_same]
      · simp -implicitDefEqProofs -dsimp only [implies_true, isS_str, s_bdx, s_bd, ↓k_bd, k_bd, k_bdx, k_bdd, s_nox, k_bdF, k_bdFr, k_bdFx, s_finr, s_finn, s_find, k_bdFd, ↓reduceIte, s_asB, s_ul1, s_ul2, s_ul3, s_sub, s_add, s_neg, s_eq, s_len, s_itl, s_itt, s_opt, List.length_cons, List.length_nil, decide_true, decide_false, Bool.not_true, Bool.not_false, if_true, if_false, Bool.false_eq_true, Nat.reduceAdd, z0L, z1L, z2L, z3L, z4L, z5L, z6L, z7L, z8L, z9L, z10L, z11L, z12L, z0l, z1l, z2l, z3l, z4l, l_asI, l_finx, l_finIx, l_finI, l_un2, l_un3, l_un4, l_ne, l_nes, l_neb, l_gt, l_ix0, l_ix1, l_ix2, l_ix3, l_it0, l_it1, l_it2, l_it3, F_draw_eq, List.cons_append, List.nil_append, k_bdbd, k_bdFbd, k_finbd]
      · simp -implicitDefEqProofs -dsimp only [implies_true, isS_str, s_bdx, s_bd, ↓k_bd, k_bd, k_bdx, k_bdd, s_nox, k_bdF, k_bdFr, k_bdFx, s_finr, s_finn, s_find, k_bdFd, ↓reduceIte, s_asB, s_ul1, s_ul2, s_ul3, s_sub, s_add, s_neg, s_eq, s_len, s_itl, s_itt, s_opt, List.length_cons, List.length_nil, decide_true, decide_false, Bool.not_true, Bool.not_false, if_true, if_false, Bool.false_eq_true, Nat.reduceAdd, z0L, z1L, z2L, z3L, z4L, z5L, z6L, z7L, z8L, z9L, z10L, z11L, z12L, z0l, z1l, z2l, z3l, z4l, l_asI, l_finx, l_finIx, l_finI, l_un2, l_un3, l_un4, l_ne, l_nes, l_neb, l_gt, l_ix0, l_ix1, l_ix2, l_ix3, l_it0, l_it1, l_it2, l_it3, F_draw_eq, List.cons_append, List.nil_append, k_bdbd, k_bdFbd, k_finbd, kp_6_0, cl_6, ih_6, iv_6, lcF_cons, lcF_nil, sl1, sl2, r1, r2, n1, n2, len17, rg17]
        simp only [Int.reduceEq, decide_false]
        kernel_rfl
    · simp -implicitDefEqProofs -dsimp only [implies_true, isS_str, s_bdx, s_bd, ↓k_bd, k_bd, k_bdx, k_bdd, s_nox, k_bdF, k_bdFr, k_bdFx, s_finr, s_finn, s_find, k_bdFd, ↓reduceIte, s_asB, s_ul1, s_ul2, s_ul3, s_sub, s_add, s_neg, s_eq, s_len, s_itl, s_itt, s_opt, List.length_cons, List.length_nil, decide_true, decide_false, Bool.not_true, Bool.not_false, if_true, if_false, Bool.false_eq_true, Nat.reduceAdd, z0L, z1L, z2L, z3L, z4L, z5L, z6L, z7L, z8L, z9L, z10L, z11L, z12L, z0l, z1l, z2l, z3l, z4l, l_asI, l_finx, l_finIx, l_finI, l_un2, l_un3, l_un4, l_ne, l_nes, l_neb, l_gt, l_ix0, l_ix1, l_ix2, l_ix3, l_it0, l_it1, l_it2, l_it3, F_draw_eq, List.cons_append, List.nil_append, k_bdbd, k_bdFbd, k_finbd, ge_7]
      rw [l_same]
      · simp -implicitDefEqProofs -dsimp only [implies_true, isS_str, s_bdx, s_bd, ↓k_bd, k_bd, k_bdx, k_bdd, s_nox, k_bdF, k_bdFr, k_bdFx, s_finr, s_finn, s_find, k_bdFd, ↓reduceIte, s_asB, s_ul1, s_ul2, s_ul3, s_sub, s_add, s_neg, s_eq, s_len, s_itl, s_itt, s_opt, List.length_cons, List.length_nil, decide_true, decide_false, Bool.not_true, Bool.not_false, if_true, if_false, Bool.false_eq_true, Nat.reduceAdd, z0L, z1L, z2L, z3L, z4L, z5L, z6L, z7L, z8L, z9L, z10L, z11L, z12L, z0l, z1l, z2l, z3l, z4l, l_asI, l_finx, l_finIx, l_finI, l_un2, l_un3, l_un4, l_ne, l_nes, l_neb, l_gt, l_ix0, l_ix1, l_ix2, l_ix3, l_it0, l_it1, l_it2, l_it3, F_draw_eq, List.cons_append, List.nil_append, k_bdbd, k_bdFbd, k_finbd]
      · simp -implicitDefEqProofs -dsimp only [implies_true, isS_str, s_bdx, s_bd, ↓k_bd, k_bd, k_bdx, k_bdd, s_nox, k_bdF, k_bdFr, k_bdFx, s_finr, s_finn, s_find, k_bdFd, ↓reduceIte, s_asB, s_ul1, s_ul2, s_ul3, s_sub, s_add, s_neg, s_eq, s_len, s_itl, s_itt, s_opt, List.length_cons, List.length_nil, decide_true, decide_false, Bool.not_true, Bool.not_false, if_true, if_false, Bool.false_eq_true, Nat.reduceAdd, z0L, z1L, z2L, z3L, z4L, z5L, z6L, z7L, z8L, z9L, z10L, z11L, z12L, z0l, z1l, z2l, z3l, z4l, l_asI, l_finx, l_finIx, l_finI, l_un2, l_un3, l_un4, l_ne, l_nes, l_neb, l_gt, l_ix0, l_ix1, l_ix2, l_ix3, l_it0, l_it1, l_it2, l_it3, F_draw_eq, List.cons_append, List.nil_append, k_bdbd, k_bdFbd, k_finbd, kp_7_0, cl_7, ih_7, iv_7, lcF_cons, lcF_nil, sl1, sl2, r1, r2, n1, n2, len17, rg17]
        simp only [Int.reduceEq, decide_false]
        kernel_rfl
    · simp -implicitDefEqProofs -dsimp only [implies_true, isS_str, s_bdx, s_bd, ↓k_bd, k_bd, k_bdx, k_bdd, s_nox, k_bdF, k_bdFr, k_bdFx, s_finr, s_finn, s_find, k_bdFd, ↓reduceIte, s_asB, s_ul1, s_ul2, s_ul3, s_sub, s_add, s_neg, s_eq, s_len, s_itl, s_itt, s_opt, List.length_cons, List.length_nil, decide_true, decide_false, Bool.not_true, Bool.not_false, if_true, if_false, Bool.false_eq_true, Nat.reduceAdd, z0L, z1L, z2L, z3L, z4L, z5L, z6L, z7L, z8L, z9L, z10L, z11L, z12L, z0l, z1l, z2l, z3l, z4l, l_asI, l_finx, l_finIx, l_finI, l_un2, l_un3, l_un4, l_ne, l_nes, l_neb, l_gt, l_ix0, l_ix1, l_ix2, l_ix3, l_it0, l_it1, l_it2, l_it3, F_draw_eq, List.cons_append, List.nil_append, k_bdbd, k_bdFbd, k_finbd, ge_8]
      rw [l_same]
      · simp -implicitDefEqProofs -dsimp only [implies_true, isS_str, s_bdx, s_bd, ↓k_bd, k_bd, k_bdx, k_bdd, s_nox, k_bdF, k_bdFr, k_bdFx, s_finr, s_finn, s_find, k_bdFd, ↓reduceIte, s_asB, s_ul1, s_ul2, s_ul3, s_sub, s_add, s_neg, s_eq, s_len, s_itl, s_itt, s_opt, List.length_cons, List.length_nil, decide_true, decide_false, Bool.not_true, Bool.not_false, if_true, if_false, Bool.false_eq_true, Nat.reduceAdd, z0L, z1L, z2L, z3L, z4L, z5L, z6L, z7L, z8L, z9L, z10L, z11L, z12L, z0l, z1l, z2l, z3l, z4l, l_asI, l_finx, l_finIx, l_finI, l_un2, l_un3, l_un4, l_ne, l_nes, l_neb, l_gt, l_ix0, l_ix1, l_ix2, l_ix3, l_it0, l_it1, l_it2, l_it3, F_draw_eq, List.cons_append, List.nil_append, k_bdbd, k_bdFbd, k_finbd]
      · simp -implicitDefEqProofs -dsimp only [implies_true, isS_str, s_bdx, s_bd, ↓k_bd, k_bd, k_bdx, k_bdd, s_nox, k_bdF, k_bdFr, k_bdFx, s_finr, s_finn, s_find, k_bdFd, ↓reduceIte, s_asB, s_ul1, s_ul2, s_ul3, s_sub, s_add, s_neg, s_eq, s_len, s_itl, s_itt, s_opt, List.length_cons, List.length_nil, decide_true, decide_false, Bool.not_true, Bool.not_false, if_true, if_false, Bool.false_eq_true, Nat.reduceAdd, z0L, z1L, z2L, z3L, z4L, z5L, z6L, z7L, z8L, z9L, z10L, z11L, z12L, z0l, z1l, z2l, z3l, z4l, l_asI, l_finx, l_finIx, l_finI, l_un2, l_un3, l_un4, l_ne, l_nes, l_neb, l_gt, l_ix0, l_ix1, l_ix2, l_ix3, l_it0, l_it1, l_it2, l_it3, F_draw_eq, List.cons_append, List.nil_append, k_bdbd, k_bdFbd, k_finbd, kp_8_0, cl_8, ih_8, iv_8, lcF_cons, lcF_nil, sl1, sl2, r1, r2, n1, n2, len17, rg17]
        simp only [Int.reduceEq, decide_false]
        kernel_rfl
    · simp -implicitDefEqProofs -dsimp only [implies_true, isS_str, s_bdx, s_bd, ↓k_bd, k_bd, k_bdx, k_bdd, s_nox, k_bdF, k_bdFr, k_bdFx, s_finr, s_finn, s_find, k_bdFd, ↓reduceIte, s_asB, s_ul1, s_ul2, s_ul3, s_sub, s_add, s_neg, s_eq, s_len, s_itl, s_itt, s_opt, List.length_cons, List.length_nil, decide_true, decide_false, Bool.not_true, Bool.not_false, if_true, if_false, Bool.false_eq_true, Nat.reduceAdd, z0L, z1L, z2L, z3L, z4L, z5L, z6L, z7L, z8L, z9L, z10L, z11L, z12L, z0l, z1l, z2l, z3l, z4l, l_asI, l_finx, l_finIx, l_finI, l_un2, l_un3, l_un4, l_ne, l_nes, l_neb, l_gt, l_ix0, l_ix1, l_ix2, l_ix3, l_it0, l_it1, l_it2, l_it3, F_draw_eq, List.cons_append, List.nil_append, k_bdbd, k_bdFbd, k_finbd, ge_9]
      rw [l_same]
      · simp -implicitDefEqProofs -dsimp only [implies_true, isS_str, s_bdx, s_bd, ↓k_bd, k_bd, k_bdx, k_bdd, s_nox, k_bdF, k_bdFr, k_bdFx, s_finr, s_finn, s_find, k_bdFd, ↓reduceIte, s_asB, s_ul1, s_ul2, s_ul3, s_sub, s_add, s_neg, s_eq, s_len, s_itl, s_itt, s_opt, List.length_cons, List.length_nil, decide_true, decide_false, Bool.not_true, Bool.not_false, if_true, if_false, Bool.false_eq_true, Nat.reduceAdd, z0L, z1L, z2L, z3L, z4L, z5L, z6L, z7L, z8L, z9L, z10L, z11L, z12L, z0l, z1l, z2l, z3l, z4l, l_asI, l_finx, l_finIx, l_finI, l_un2, l_un3, l_un4, l_ne, l_nes, l_neb, l_gt, l_ix0, l_ix1, l_ix2, l_ix3, l_it0, l_it1, l_it2, l_it3, F_draw_eq, List.cons_append, List.nil_append, k_bdbd, k_bdFbd, k_finbd]
      · simp -implicitDefEqProofs -dsimp only [implies_true, isS_str, s_bdx, s_bd, ↓k_bd, k_bd, k_bdx, k_bdd, s_nox, k_bdF, k_bdFr, k_bdFx, s_finr, s_finn, s_find, k_bdFd, ↓reduceIte, s_asB, s_ul1, s_ul2, s_ul3, s_sub, s_add, s_neg, s_eq, s_len, s_itl, s_itt, s_opt, List.length_cons, List.length_nil, decide_true, decide_false, Bool.not_true, Bool.not_false, if_true, if_false, Bool.false_eq_true, Nat.reduceAdd, z0L, z1L, z2L, z3L, z4L, z5L, z6L, z7L, z8L, z9L, z10L, z11L, z12L, z0l, z1l, z2l, z3l, z4l, l_asI, l_finx, l_finIx, l_finI, l_un2, l_un3, l_un4, l_ne, l_nes, l_neb, l_gt, l_ix0, l_ix1, l_ix2, l_ix3, l_it0, l_it1, l_it2, l_it3, F_draw_eq, List.cons_append, List.nil_append, k_bdbd, k_bdFbd, k_finbd, kp_9_0, cl_9, ih_9, iv_9, lcF_cons, lcF_nil, sl1, sl2, r1, r2, n1, n2, len17, rg17]
        simp only [Int.reduceEq, decide_false]
        kernel_rfl
    · simp -implicitDefEqProofs -dsimp only [implies_true, isS_str, s_bdx, s_bd, ↓k_bd, k_bd, k_bdx, k_bdd, s_nox, k_bdF, k_bdFr, k_bdFx, s_finr, s_finn, s_find, k_bdFd, ↓reduceIte, s_asB, s_ul1, s_ul2, s_ul3, s_sub, s_add, s_neg, s_eq, s_len, s_itl, s_itt, s_opt, List.length_cons, List.length_nil, decide_true, decide_false, Bool.not_true, Bool.not_false, if_true, if_false, Bool.false_eq_true, Nat.reduceAdd, z0L, z1L, z2L, z3L, z4L, z5L, z6L, z7L, z8L, z9L, z10L, z11L, z12L, z0l, z1l, z2l, z3l, z4l, l_asI, l_finx, l_finIx, l_finI, l_un2, l_un3, l_un4, l_ne, l_nes, l_neb, l_gt, l_ix0, l_ix1, l_ix2, l_ix3, l_it0, l_it1, l_it2, l_it3, F_draw_eq, List.cons_append, List.nil_append, k_bdbd, k_bdFbd, k_finbd, ge_10]
      rw [l_same]
      · simp -implicitDefEqProofs -dsimp only [implies_true, isS_str, s_bdx, s_bd, ↓k_bd, k_bd, k_bdx, k_bdd, s_nox, k_bdF, k_bdFr, k_bdFx, s_finr, s_finn, s_find, k_bdFd, ↓reduceIte, s_asB, s_ul1, s_ul2, s_ul3, s_sub, s_add, s_neg, s_eq, s_len, s_itl, s_itt, s_opt, List.length_cons, List.length_nil, decide_true, decide_false, Bool.not_true, Bool.not_false, if_true, if_false, Bool.false_eq_true, Nat.reduceAdd, z0L, z1L, z2L, z3L, z4L, z5L, z6L, z7L, z8L, z9L, z10L, z11L, z12L, z0l, z1l, z2l, z3l, z4l, l_asI, l_finx, l_finIx, l_finI, l_un2, l_un3, l_un4, l_ne, l_nes, l_neb, l_gt, l_ix0, l_ix1, l_ix2, l_ix3, l_it0, l_it1, l_it2, l_it3, F_draw_eq, List.cons_append, List.nil_append, k_bdbd, k_bdFbd, k_finbd]
      · simp -implicitDefEqProofs -dsimp only [implies_true, isS_str, s_bdx, s_bd, ↓k_bd, k_bd, k_bdx, k_bdd, s_nox, k_bdF, k_bdFr, k_bdFx, s_finr, s_finn, s_find, k_bdFd, ↓reduceIte, s_asB, s_ul1, s_ul2, s_ul3, s_sub, s_add, s_neg, s_eq, s_len, s_itl, s_itt, s_opt, List.length_cons, List.length_nil, decide_true, decide_false, Bool.not_true, Bool.not_false, if_true, if_false, Bool.false_eq_true, Nat.reduceAdd, z0L, z1L, z2L, z3L, z4L, z5L, z6L, z7L, z8L, z9L, z10L, z11L, z12L, z0l, z1l, z2l, z3l, z4l, l_asI, l_finx, l_finIx, l_finI, l_un2, l_un3, l_un4, l_ne, l_nes, l_neb, l_gt, l_ix0, l_ix1, l_ix2, l_ix3, l_it0, l_it1, l_it2, l_it3, F_draw_eq, List.cons_append, List.nil_append, k_bdbd, k_bdFbd, k_finbd, kp_10_0, cl_10, ih_10, iv_10, lcF_cons, lcF_nil, sl1, sl2, r1, r2, n1, n2, len17, rg17]
        simp only [Int.reduceEq, decide_false]
        kernel_rfl
    · simp -implicitDefEqProofs -dsimp only [implies_true, isS_str, s_bdx, s_bd, ↓k_bd, k_bd, k_bdx, k_bdd, s_nox, k_bdF, k_bdFr, k_bdFx, s_finr, s_finn, s_find, k_bdFd, ↓reduceIte, s_asB, s_ul1, s_ul2, s_ul3, s_sub, s_add, s_neg, s_eq, s_len, s_itl, s_itt, s_opt, List.length_cons, List.length_nil, decide_true, decide_false, Bool.not_true, Bool.not_false, if_true, if_false, Bool.false_eq_true, Nat.reduceAdd, z0L, z1L, z2L, z3L, z4L, z5L, z6L, z7L, z8L, z9L, z10L, z11L, z12L, z0l, z1l, z2l, z3l, z4l, l_asI, l_finx, l_finIx, l_finI, l_un2, l_un3, l_un4, l_ne, l_nes, l_neb, l_gt, l_ix0, l_ix1, l_ix2, l_ix3, l_it0, l_it1, l_it2, l_it3, F_draw_eq, List.cons_append, List.nil_append, k_bdbd, k_bdFbd, k_finbd, ge_11]
      rw [l_same]
      · simp -implicitDefEqProofs -dsimp only [implies_true, isS_str, s_bdx, s_bd, ↓k_bd, k_bd, k_bdx, k_bdd, s_nox, k_bdF, k_bdFr, k_bdFx, s_finr, s_finn, s_find, k_bdFd, ↓reduceIte, s_asB, s_ul1, s_ul2, s_ul3, s_sub, s_add, s_neg, s_eq, s_len, s_itl, s_itt, s_opt, List.length_cons, List.length_nil, decide_true, decide_false, Bool.not_true, Bool.not_false, if_true, if_false, Bool.false_eq_true, Nat.reduceAdd, z0L, z1L, z2L, z3L, z4L, z5L, z6L, z7L, z8L, z9L, z10L, z11L, z12L, z0l, z1l, z2l, z3l, z4l, l_asI, l_finx, l_finIx, l_finI, l_un2, l_un3, l_un4, l_ne, l_nes, l_neb, l_gt, l_ix0, l_ix1, l_ix2, l_ix3, l_it0, l_it1, l_it2, l_it3, F_draw_eq, List.cons_append, List.nil_append, k_bdbd, k_bdFbd, k_finbd]
      · simp -implicitDefEqProofs -dsimp only [implies_true, isS_str, s_bdx, s_bd, ↓k_bd, k_bd, k_bdx, k_bdd, s_nox, k_bdF, k_bdFr, k_bdFx, s_finr, s_finn, s_find, k_bdFd, ↓reduceIte, s_asB, s_ul1, s_ul2, s_ul3, s_sub, s_add, s_neg, s_eq, s_len, s_itl, s_itt, s_opt, List.length_cons, List.length_nil, decide_true, decide_false, Bool.not_true, Bool.not_false, if_true, if_false, Bool.false_eq_true, Nat.reduceAdd, z0L, z1L, z2L, z3L, z4L, z5L, z6L, z7L, z8L, z9L, z10L, z11L, z12L, z0l, z1l, z2l, z3l, z4l, l_asI, l_finx, l_finIx, l_finI, l_un2, l_un3, l_un4, l_ne, l_nes, l_neb, l_gt, l_ix0, l_ix1, l_ix2, l_ix3, l_it0, l_it1, l_it2, l_it3, F_draw_eq, List.cons_append, List.nil_append, k_bdbd, k_bdFbd, k_finbd, kp_11_0, cl_11, ih_11, iv_11, lcF_cons, lcF_nil, sl1, sl2, r1, r2, n1, n2, len17, rg17]
        simp only [Int.reduceEq, decide_false]
        kernel_rfl
    · simp -implicitDefEqProofs -dsimp only [implies_true, isS_str, s_bdx, s_bd, ↓k_bd, k_bd, k_bdx, k_bdd, s_nox, k_bdF, k_bdFr, k_bdFx, s_finr, s_finn, s_find, k_bdFd, ↓reduceIte, s_asB, s_ul1, s_ul2, s_ul3, s_sub, s_add, s_neg, s_eq, s_len, s_itl, s_itt, s_opt, List.length_cons, List.length_nil, decide_true, decide_false, Bool.not_true, Bool.not_false, if_true, if_false, Bool.false_eq_true, Nat.reduceAdd, z0L, z1L, z2L, z3L, z4L, z5L, z6L, z7L, z8L, z9L, z10L, z11L, z12L, z0l, z1l, z2l, z3l, z4l, l_asI, l_finx, l_finIx, l_finI, l_un2, l_un3, l_un4, l_ne, l_nes, l_neb, l_gt, l_ix0, l_ix1, l_ix2, l_ix3, l_it0, l_it1, l_it2, l_it3, F_draw_eq, List.cons_append, List.nil_append, k_bdbd, k_bdFbd, k_finbd, ge_12]
      rw [l_same]
      · simp -implicitDefEqProofs -dsimp only [implies_true, isS_str, s_bdx, s_bd, ↓k_bd, k_bd, k_bdx, k_bdd, s_nox, k_bdF, k_bdFr, k_bdFx, s_finr, s_finn, s_find, k_bdFd, ↓reduceIte, s_asB, s_ul1, s_ul2, s_ul3, s_sub, s_add, s_neg, s_eq, s_len, s_itl, s_itt, s_opt, List.length_cons, List.length_nil, decide_true, decide_false, Bool.not_true, Bool.not_false, if_true, if_false, Bool.false_eq_true, Nat.reduceAdd, z0L, z1L, z2L, z3L, z4L, z5L, z6L, z7L, z8L, z9L, z10L, z11L, z12L, z0l, z1l, z2l, z3l, z4l, l_asI, l_finx, l_finIx, l_finI, l_un2, l_un3, l_un4, l_ne, l_nes, l_neb, l_gt, l_ix0, l_ix1, l_ix2, l_ix3, l_it0, l_it1, l_it2, l_it3, F_draw_eq, List.cons_append, List.nil_append, k_bdbd, k_bdFbd, k_finbd]
      · simp -implicitDefEqProofs -dsimp only [implies_true, isS_str, s_bdx, s_bd, ↓k_bd, k_bd, k_bdx, k_bdd, s_nox, k_bdF, k_bdFr, k_bdFx, s_finr, s_finn, s_find, k_bdFd, ↓reduceIte, s_asB, s_ul1, s_ul2, s_ul3, s_sub, s_add, s_neg, s_eq, s_len, s_itl, s_itt, s_opt, List.length_cons, List.length_nil, decide_true, decide_false, Bool.not_true, Bool.not_false, if_true, if_false, Bool.false_eq_true, Nat.reduceAdd, z0L, z1L, z2L, z3L, z4L, z5L, z6L, z7L, z8L, z9L, z10L, z11L, z12L, z0l, z1l, z2l, z3l, z4l, l_asI, l_finx, l_finIx, l_finI, l_un2, l_un3, l_un4, l_ne, l_nes, l_neb, l_gt, l_ix0, l_ix1, l_ix2, l_ix3, l_it0, l_it1, l_it2, l_it3, F_draw_eq, List.cons_append, List.nil_append, k_bdbd, k_bdFbd, k_finbd, kp_12_0, kp_12_1, cl_12, ih_12, iv_12, lcF_cons, lcF_nil, sl1, sl2, r1, r2, n1, n2, len17, rg17]
        simp only [Int.reduceEq, decide_false]
        kernel_rfl
    · simp -implicitDefEqProofs -dsimp only [implies_true, isS_str, s_bdx, s_bd, ↓k_bd, k_bd, k_bdx, k_bdd, s_nox, k_bdF, k_bdFr, k_bdFx, s_finr, s_finn, s_find, k_bdFd, ↓reduceIte, s_asB, s_ul1, s_ul2, s_ul3, s_sub, s_add, s_neg, s_eq, s_len, s_itl, s_itt, s_opt, List.length_cons, List.length_nil, decide_true, decide_false, Bool.not_true, Bool.not_false, if_true, if_false, Bool.false_eq_true, Nat.reduceAdd, z0L, z1L, z2L, z3L, z4L, z5L, z6L, z7L, z8L, z9L, z10L, z11L, z12L, z0l, z1l, z2l, z3l, z4l, l_asI, l_finx, l_finIx, l_finI, l_un2, l_un3, l_un4, l_ne, l_nes, l_neb, l_gt, l_ix0, l_ix1, l_ix2, l_ix3, l_it0, l_it1, l_it2, l_it3, F_draw_eq, List.cons_append, List.nil_append, k_bdbd, k_bdFbd, k_finbd, ge_13]
      rw [l_same]
      · simp -implicitDefEqProofs -dsimp only [implies_true, isS_str, s_bdx, s_bd, ↓k_bd, k_bd, k_bdx, k_bdd, s_nox, k_bdF, k_bdFr, k_bdFx, s_finr, s_finn, s_find, k_bdFd, ↓reduceIte, s_asB, s_ul1, s_ul2, s_ul3, s_sub, s_add, s_neg, s_eq, s_len, s_itl, s_itt, s_opt, List.length_cons, List.length_nil, decide_true, decide_false, Bool.not_true, Bool.not_false, if_true, if_false, Bool.false_eq_true, Nat.reduceAdd, z0L, z1L, z2L, z3L, z4L, z5L, z6L, z7L, z8L, z9L, z10L, z11L, z12L, z0l, z1l, z2l, z3l, z4l, l_asI, l_finx, l_finIx, l_finI, l_un2, l_un3, l_un4, l_ne, l_nes, l_neb, l_gt, l_ix0, l_ix1, l_ix2, l_ix3, l_it0, l_it1, l_it2, l_it3, F_draw_eq, List.cons_append, List.nil_append, k_bdbd, k_bdFbd, k_finbd]
      · simp -implicitDefEqProofs -dsimp only [implies_true, isS_str, s_bdx, s_bd, ↓k_bd, k_bd, k_bdx, k_bdd, s_nox, k_bdF, k_bdFr, k_bdFx, s_finr, s_finn, s_find, k_bdFd, ↓reduceIte, s_asB, s_ul1, s_ul2, s_ul3, s_sub, s_add, s_neg, s_eq, s_len, s_itl, s_itt, s_opt, List.length_cons, List.length_nil, decide_true, decide_false, Bool.not_true, Bool.not_false, if_true, if_false, Bool.false_eq_true, Nat.reduceAdd, z0L, z1L, z2L, z3L, z4L, z5L, z6L, z7L, z8L, z9L, z10L, z11L, z12L, z0l, z1l, z2l, z3l, z4l, l_asI, l_finx, l_finIx, l_finI, l_un2, l_un3, l_un4, l_ne, l_nes, l_neb, l_gt, l_ix0, l_ix1, l_ix2, l_ix3, l_it0, l_it1, l_it2, l_it3, F_draw_eq, List.cons_append, List.nil_append, k_bdbd, k_bdFbd, k_finbd, kp_13_0, kp_13_1, cl_13, ih_13, iv_13, lcF_cons, lcF_nil, sl1, sl2, r1, r2, n1, n2, len17, rg17]
        simp only [Int.reduceEq, decide_false]
        kernel_rfl
    · simp -implicitDefEqProofs -dsimp only [implies_true, isS_str, s_bdx, s_bd, ↓k_bd, k_bd, k_bdx, k_bdd, s_nox, k_bdF, k_bdFr, k_bdFx, s_finr, s_finn, s_find, k_bdFd, ↓reduceIte, s_asB, s_ul1, s_ul2, s_ul3, s_sub, s_add, s_neg, s_eq, s_len, s_itl, s_itt, s_opt, List.length_cons, List.length_nil, decide_true, decide_false, Bool.not_true, Bool.not_false, if_true, if_false, Bool.false_eq_true, Nat.reduceAdd, z0L, z1L, z2L, z3L, z4L, z5L, z6L, z7L, z8L, z9L, z10L, z11L, z12L, z0l, z1l, z2l, z3l, z4l, l_asI, l_finx, l_finIx, l_finI, l_un2, l_un3, l_un4, l_ne, l_nes, l_neb, l_gt, l_ix0, l_ix1, l_ix2, l_ix3, l_it0, l_it1, l_it2, l_it3, F_draw_eq, List.cons_append, List.nil_append, k_bdbd, k_bdFbd, k_finbd, ge_14]
      rw [l_same]
      · simp -implicitDefEqProofs -dsimp only [implies_true, isS_str, s_bdx, s_bd, ↓k_bd, k_bd, k_bdx, k_bdd, s_nox, k_bdF, k_bdFr, k_bdFx, s_finr, s_finn, s_find, k_bdFd, ↓reduceIte, s_asB, s_ul1, s_ul2, s_ul3, s_sub, s_add, s_neg, s_eq, s_len, s_itl, s_itt, s_opt, List.length_cons, List.length_nil, decide_true, decide_false, Bool.not_true, Bool.not_false, if_true, if_false, Bool.false_eq_true, Nat.reduceAdd, z0L, z1L, z2L, z3L, z4L, z5L, z6L, z7L, z8L, z9L, z10L, z11L, z12L, z0l, z1l, z2l, z3l, z4l, l_asI, l_finx, l_finIx, l_finI, l_un2, l_un3, l_un4, l_ne, l_nes, l_neb, l_gt, l_ix0, l_ix1, l_ix2, l_ix3, l_it0, l_it1, l_it2, l_it3, F_draw_eq, List.cons_append, List.nil_append, k_bdbd, k_bdFbd, k_finbd]
      · simp -implicitDefEqProofs -dsimp only [implies_true, isS_str, s_bdx, s_bd, ↓k_bd, k_bd, k_bdx, k_bdd, s_nox, k_bdF, k_bdFr, k_bdFx, s_finr, s_finn, s_find, k_bdFd, ↓reduceIte, s_asB, s_ul1, s_ul2, s_ul3, s_sub, s_add, s_neg, s_eq, s_len, s_itl, s_itt, s_opt, List.length_cons, List.length_nil, decide_true, decide_false, Bool.not_true, Bool.not_false, if_true, if_false, Bool.false_eq_true, Nat.reduceAdd, z0L, z1L, z2L, z3L, z4L, z5L, z6L, z7L, z8L, z9L, z10L, z11L, z12L, z0l, z1l, z2l, z3l, z4l, l_asI, l_finx, l_finIx, l_finI, l_un2, l_un3, l_un4, l_ne, l_nes, l_neb, l_gt, l_ix0, l_ix1, l_ix2, l_ix3, l_it0, l_it1, l_it2, l_it3, F_draw_eq, List.cons_append, List.nil_append, k_bdbd, k_bdFbd, k_finbd, kp_14_0, kp_14_1, cl_14, ih_14, iv_14, lcF_cons, lcF_nil, sl1, sl2, r1, r2, n1, n2, len17, rg17]
        simp only [Int.reduceEq, decide_false]
        kernel_rfl
    · simp -implicitDefEqProofs -dsimp only [implies_true, isS_str, s_bdx, s_bd, ↓k_bd, k_bd, k_bdx, k_bdd, s_nox, k_bdF, k_bdFr, k_bdFx, s_finr, s_finn, s_find, k_bdFd, ↓reduceIte, s_asB, s_ul1, s_ul2, s_ul3, s_sub, s_add, s_neg, s_eq, s_len, s_itl, s_itt, s_opt, List.length_cons, List.length_nil, decide_true, decide_false, Bool.not_true, Bool.not_false, if_true, if_false, Bool.false_eq_true, Nat.reduceAdd, z0L, z1L, z2L, z3L, z4L, z5L, z6L, z7L, z8L, z9L, z10L, z11L, z12L, z0l, z1l, z2l, z3l, z4l, l_asI, l_finx, l_finIx, l_finI, l_un2, l_un3, l_un4, l_ne, l_nes, l_neb, l_gt, l_ix0, l_ix1, l_ix2, l_ix3, l_it0, l_it1, l_it2, l_it3, F_draw_eq, List.cons_append, List.nil_append, k_bdbd, k_bdFbd, k_finbd, ge_15]
      rw [l_same]
      · simp -implicitDefEqProofs -dsimp only [implies_true, isS_str, s_bdx, s_bd, ↓k_bd, k_bd, k_bdx, k_bdd, s_nox, k_bdF, k_bdFr, k_bdFx, s_finr, s_finn, s_find, k_bdFd, ↓reduceIte, s_asB, s_ul1, s_ul2, s_ul3, s_sub, s_add, s_neg, s_eq, s_len, s_itl, s_itt, s_opt, List.length_cons, List.length_nil, decide_true, decide_false, Bool.not_true, Bool.not_false, if_true, if_false, Bool.false_eq_true, Nat.reduceAdd, z0L, z1L, z2L, z3L, z4L, z5L, z6L, z7L, z8L, z9L, z10L, z11L, z12L, z0l, z1l, z2l, z3l, z4l, l_asI, l_finx, l_finIx, l_finI, l_un2, l_un3, l_un4, l_ne, l_nes, l_neb, l_gt, l_ix0, l_ix1, l_ix2, l_ix3, l_it0, l_it1, l_it2, l_it3, F_draw_eq, List.cons_append, List.nil_append, k_bdbd, k_bdFbd, k_finbd]
      · simp -implicitDefEqProofs -dsimp only [implies_true, isS_str, s_bdx, s_bd, ↓k_bd, k_bd, k_bdx, k_bdd, s_nox, k_bdF, k_bdFr, k_bdFx, s_finr, s_finn, s_find, k_bdFd, ↓reduceIte, s_asB, s_ul1, s_ul2, s_ul3, s_sub, s_add, s_neg, s_eq, s_len, s_itl, s_itt, s_opt, List.length_cons, List.length_nil, decide_true, decide_false, Bool.not_true, Bool.not_false, if_true, if_false, Bool.false_eq_true, Nat.reduceAdd, z0L, z1L, z2L, z3L, z4L, z5L, z6L, z7L, z8L, z9L, z10L, z11L, z12L, z0l, z1l, z2l, z3l, z4l, l_asI, l_finx, l_finIx, l_finI, l_un2, l_un3, l_un4, l_ne, l_nes, l_neb, l_gt, l_ix0, l_ix1, l_ix2, l_ix3, l_it0, l_it1, l_it2, l_it3, F_draw_eq, List.cons_append, List.nil_append, k_bdbd, k_bdFbd, k_finbd, kp_15_0, cl_15, ih_15, iv_15, lcF_cons, lcF_nil, sl1, sl2, r1, r2, n1, n2, len17, rg17]
        simp only [Int.reduceEq, decide_false]
        kernel_rfl
    · simp -implicitDefEqProofs -dsimp only [implies_true, isS_str, s_bdx, s_bd, ↓k_bd, k_bd, k_bdx, k_bdd, s_nox, k_bdF, k_bdFr, k_bdFx, s_finr, s_finn, s_find, k_bdFd, ↓reduceIte, s_asB, s_ul1, s_ul2, s_ul3, s_sub, s_add, s_neg, s_eq, s_len, s_itl, s_itt, s_opt, List.length_cons, List.length_nil, decide_true, decide_false, Bool.not_true, Bool.not_false, if_true, if_false, Bool.false_eq_true, Nat.reduceAdd, z0L, z1L, z2L, z3L, z4L, z5L, z6L, z7L, z8L, z9L, z10L, z11L, z12L, z0l, z1l, z2l, z3l, z4l, l_asI, l_finx, l_finIx, l_finI, l_un2, l_un3, l_un4, l_ne, l_nes, l_neb, l_gt, l_ix0, l_ix1, l_ix2, l_ix3, l_it0, l_it1, l_it2, l_it3, F_draw_eq, List.cons_append, List.nil_append, k_bdbd, k_bdFbd, k_finbd, ge_16]
      rw [l_same]
      · simp -implicitDefEqProofs -dsimp only [implies_true, isS_str, s_bdx, s_bd, ↓k_bd, k_bd, k_bdx, k_bdd, s_nox, k_bdF, k_bdFr, k_bdFx, s_finr, s_finn, s_find, k_bdFd, ↓reduceIte, s_asB, s_ul1, s_ul2, s_ul3, s_sub, s_add, s_neg, s_eq, s_len, s_itl, s_itt, s_opt, List.length_cons, List.length_nil, decide_true, decide_false, Bool.not_true, Bool.not_false, if_true, if_false, Bool.false_eq_true, Nat.reduceAdd, z0L, z1L, z2L, z3L, z4L, z5L, z6L, z7L, z8L, z9L, z10L, z11L, z12L, z0l, z1l, z2l, z3l, z4l, l_asI, l_finx, l_finIx, l_finI, l_un2, l_un3, l_un4, l_ne, l_nes, l_neb, l_gt, l_ix0, l_ix1, l_ix2, l_ix3, l_it0, l_it1, l_it2, l_it3, F_draw_eq, List.cons_append, List.nil_append, k_bdbd, k_bdFbd, k_finbd]
      · simp -implicitDefEqProofs -dsimp only [implies_true, isS_str, s_bdx, s_bd, ↓k_bd, k_bd, k_bdx, k_bdd, s_nox, k_bdF, k_bdFr, k_bdFx, s_finr, s_finn, s_find, k_bdFd, ↓reduceIte, s_asB, s_ul1, s_ul2, s_ul3, s_sub, s_add, s_neg, s_eq, s_len, s_itl, s_itt, s_opt, List.length_cons, List.length_nil, decide_true, decide_false, Bool.not_true, Bool.not_false, if_true, if_false, Bool.false_eq_true, Nat.reduceAdd, z0L, z1L, z2L, z3L, z4L, z5L, z6L, z7L, z8L, z9L, z10L, z11L, z12L, z0l, z1l, z2l, z3l, z4l, l_asI, l_finx, l_finIx, l_finI, l_un2, l_un3, l_un4, l_ne, l_nes, l_neb, l_gt, l_ix0, l_ix1, l_ix2, l_ix3, l_it0, l_it1, l_it2, l_it3, F_draw_eq, List.cons_append, List.nil_append, k_bdbd, k_bdFbd, k_finbd, kp_16_0, cl_16, ih_16, iv_16, lcF_cons, lcF_nil, sl1, sl2, r1, r2, n1, n2, len17, rg17]
        simp only [Int.reduceEq, decide_false]
        kernel_rfl
  · simp -implicitDefEqProofs -dsimp only [implies_true, isS_str, s_bdx, s_bd, ↓k_bd, k_bd, k_bdx, k_bdd, s_nox, k_bdF, k_bdFr, k_bdFx, s_finr, s_finn, s_find, k_bdFd, ↓reduceIte, s_asB, s_ul1, s_ul2, s_ul3, s_sub, s_add, s_neg, s_eq, s_len, s_itl, s_itt, s_opt, List.length_cons, List.length_nil, decide_true, decide_false, Bool.not_true, Bool.not_false, if_true, if_false, Bool.false_eq_true, Nat.reduceAdd, z0L, z1L, z2L, z3L, z4L, z5L, z6L, z7L, z8L, z9L, z10L, z11L, z12L, z0l, z1l, z2l, z3l, z4l, l_asI, l_finx, l_finIx, l_finI, l_un2, l_un3, l_un4, l_ne, l_nes, l_neb, l_gt, l_ix0, l_ix1, l_ix2, l_ix3, l_it0, l_it1, l_it2, l_it3, F_draw_eq, List.cons_append, List.nil_append, k_bdbd, k_bdFbd, k_finbd, iv_h, cl_h, nt]
    exact bx_ok rfl
end Lw
end
section
set_option Elab.async false
set_option linter.all false
set_option maxRecDepth 100000
set_option maxHeartbeats 4000000
set_option pp.maxSteps 600
namespace Lw
open PySem PySem.Spec PyProof.Rows L2 Gh Gp Gz
theorem pm_PromO {P : Program} {w : World} {K : PySem.W.Frag} {mg : Str → Option Value} {base : Heap} {CX : CXT} {k : Nat} {f : Addr} {fd : FuncData} {ps : List Str} {sp : Sp} (G : FnOk P w K mg base CX k f fd ps sp) (b : Binds K fd ps []) : PromO P w K mg base CX k f [] sp := ⟨fd, ps, [], G, b, .nil⟩
theorem facts {P : Program} {w : World} {K : PySem.W.Frag} {h : Heap} {mg : Str → Option Value} {f : Addr} (X : K.In h) (G : h.Ns mainGlobals mg) (hfa : mg ("law" : Str) = some (.ref f)) (c2 : Gp.SaysS exs fns tfs sds pfile h K) (gl : (He.Fa.glo "law").ok K = true) (hP : ((P.main.file : Str) == pfile) = true ∧ (P.main.scope.names.lookup ("super" : Str)).isSome = false) :
    ∃ fd : FuncData, (∀ (s : Shared) (v : Value), BindsTo s fd ⟨[v], []⟩ [("_law_script", v)]) ∧ ∀ base : Heap, K.In base → base.Ns mainGlobals mg → FnG P w K mg base CX0 4 f fd ["_law_script"] (spLaw K []) := by
  have c := c2.s.t
  have T : Tx K mg := tx_of X G c
  have e := hfa.symm.trans (He.glo_ok X G gl)
  cases e
  obtain ⟨f0, F0⟩ := c.def_ 0 (d := d_BadLength___init__) rfl
  obtain ⟨f1, F1⟩ := c.def_ 1 (d := d_BadPlace___init__) rfl
  obtain ⟨f2, F2⟩ := c.def_ 2 (d := d_BadRest___init__) rfl
  obtain ⟨f3, F3⟩ := c.def_ 3 (d := d_BadRow___init__) rfl
  obtain ⟨f4, F4⟩ := c.def_ 4 (d := d_BadChange___init__) rfl
  obtain ⟨f5, F5⟩ := c.def_ 5 (d := d_BadSpan___init__) rfl
  obtain ⟨f6, F6⟩ := c.def_ 6 (d := d_BadStep___init__) rfl
  obtain ⟨f7, F7⟩ := c.def_ 7 (d := d_BadNumber___init__) rfl
  obtain ⟨f8, F8⟩ := c.def_ 8 (d := d_BadForm___init__) rfl
  obtain ⟨f9, F9⟩ := c.def_ 9 (d := d_BadSpot___init__) rfl
  obtain ⟨f10, F10⟩ := c.def_ 10 (d := d_Overlap___init__) rfl
  obtain ⟨f11, F11⟩ := c.def_ 11 (d := d_NoStep___init__) rfl
  obtain ⟨f12, F12⟩ := c.def_ 12 (d := d_TooMany___init__) rfl
  obtain ⟨f13, F13⟩ := c.def_ 13 (d := d_Parts___init__) rfl
  obtain ⟨f14, F14⟩ := c.def_ 14 (d := d_BadText___init__) rfl
  obtain ⟨f15, F15⟩ := c.def_ 15 (d := d_NoName___init__) rfl
  obtain ⟨f16, F16⟩ := c.def_ 16 (d := d_BadLine___init__) rfl
  obtain ⟨f17, F17⟩ := c.def_ 17 (d := d__law_pen) rfl
  obtain ⟨f18, F18⟩ := c.def_ 18 (d := d__law_draw) rfl
  obtain ⟨f19, F19⟩ := c.def_ 19 (d := d__law_pick) rfl
  obtain ⟨f20, F20⟩ := c.def_ 20 (d := d__law_value) rfl
  obtain ⟨f21, F21⟩ := c.def_ 21 (d := d__law_by_place) rfl
  obtain ⟨f22, F22⟩ := c.def_ 22 (d := d__law_by_name) rfl
  obtain ⟨f23, F23⟩ := c.def_ 23 (d := d__law_kept) rfl
  obtain ⟨f24, F24⟩ := c.def_ 24 (d := d__law_classes) rfl
  obtain ⟨f25, F25⟩ := c.def_ 25 (d := d_law) rfl
  have b25 := FunD.bindsA (ps := ["_law_script"]) F25 fun _ _ _ _ _ _ us hl => match us, hl with | [_], _ => rfl
  refine ⟨f25, fun s v => b25 s [v] rfl, fun base _ _ => ?_⟩
  have p0 : PromO P w K mg base CX0 1 (md "BadLength" "__init__" K) [] (spErr1 (gd "BadLength" K) "value") := pm_PromO (ok_BadLength___init__ F0 T ) (F0.bindsN fun _ _ _ _ _ _ us hl => match us, hl with | [_, _], _ => rfl)
  have pk0_1_value : PromK P w K mg base CX0 1 (md "BadLength" "__init__" K) 1 ["value"] (fun vs zs => vs ++ picks [.inl 0] [] zs) (spErr1 (gd "BadLength" K) "value") := ⟨_, _, _, (ok_BadLength___init__ F0 T ), FunD.kbN F0 1 ["value"] [.inl 0] fun _ _ _ _ _ _ us ws h1 h2 => match us, h1, ws, h2 with | [_], _, [_], _ => rfl⟩
  have p1 : PromO P w K mg base CX0 1 (md "BadPlace" "__init__" K) [] (spErr1 (gd "BadPlace" K) "value") := pm_PromO (ok_BadPlace___init__ F1 T ) (F1.bindsN fun _ _ _ _ _ _ us hl => match us, hl with | [_, _], _ => rfl)
  have pk1_1_value : PromK P w K mg base CX0 1 (md "BadPlace" "__init__" K) 1 ["value"] (fun vs zs => vs ++ picks [.inl 0] [] zs) (spErr1 (gd "BadPlace" K) "value") := ⟨_, _, _, (ok_BadPlace___init__ F1 T ), FunD.kbN F1 1 ["value"] [.inl 0] fun _ _ _ _ _ _ us ws h1 h2 => match us, h1, ws, h2 with | [_], _, [_], _ => rfl⟩
  have p2 : PromO P w K mg base CX0 1 (md "BadRest" "__init__" K) [] (spErr1 (gd "BadRest" K) "value") := pm_PromO (ok_BadRest___init__ F2 T ) (F2.bindsN fun _ _ _ _ _ _ us hl => match us, hl with | [_, _], _ => rfl)
  have pk2_1_value : PromK P w K mg base CX0 1 (md "BadRest" "__init__" K) 1 ["value"] (fun vs zs => vs ++ picks [.inl 0] [] zs) (spErr1 (gd "BadRest" K) "value") := ⟨_, _, _, (ok_BadRest___init__ F2 T ), FunD.kbN F2 1 ["value"] [.inl 0] fun _ _ _ _ _ _ us ws h1 h2 => match us, h1, ws, h2 with | [_], _, [_], _ => rfl⟩
  have p3 : PromO P w K mg base CX0 1 (md "BadRow" "__init__" K) [] (spErr1 (gd "BadRow" K) "at") := pm_PromO (ok_BadRow___init__ F3 T ) (F3.bindsN fun _ _ _ _ _ _ us hl => match us, hl with | [_, _], _ => rfl)
  have pk3_1_at : PromK P w K mg base CX0 1 (md "BadRow" "__init__" K) 1 ["at"] (fun vs zs => vs ++ picks [.inl 0] [] zs) (spErr1 (gd "BadRow" K) "at") := ⟨_, _, _, (ok_BadRow___init__ F3 T ), FunD.kbN F3 1 ["at"] [.inl 0] fun _ _ _ _ _ _ us ws h1 h2 => match us, h1, ws, h2 with | [_], _, [_], _ => rfl⟩
  have p4 : PromO P w K mg base CX0 1 (md "BadChange" "__init__" K) [] (spErr1 (gd "BadChange" K) "part") := pm_PromO (ok_BadChange___init__ F4 T ) (F4.bindsN fun _ _ _ _ _ _ us hl => match us, hl with | [_, _], _ => rfl)
  have pk4_1_part : PromK P w K mg base CX0 1 (md "BadChange" "__init__" K) 1 ["part"] (fun vs zs => vs ++ picks [.inl 0] [] zs) (spErr1 (gd "BadChange" K) "part") := ⟨_, _, _, (ok_BadChange___init__ F4 T ), FunD.kbN F4 1 ["part"] [.inl 0] fun _ _ _ _ _ _ us ws h1 h2 => match us, h1, ws, h2 with | [_], _, [_], _ => rfl⟩
  have p5 : PromO P w K mg base CX0 1 (md "BadSpan" "__init__" K) [] (spErr1 (gd "BadSpan" K) "part") := pm_PromO (ok_BadSpan___init__ F5 T ) (F5.bindsN fun _ _ _ _ _ _ us hl => match us, hl with | [_, _], _ => rfl)
  have pk5_1_part : PromK P w K mg base CX0 1 (md "BadSpan" "__init__" K) 1 ["part"] (fun vs zs => vs ++ picks [.inl 0] [] zs) (spErr1 (gd "BadSpan" K) "part") := ⟨_, _, _, (ok_BadSpan___init__ F5 T ), FunD.kbN F5 1 ["part"] [.inl 0] fun _ _ _ _ _ _ us ws h1 h2 => match us, h1, ws, h2 with | [_], _, [_], _ => rfl⟩
  have p6 : PromO P w K mg base CX0 1 (md "BadStep" "__init__" K) [] (spErr1 (gd "BadStep" K) "at") := pm_PromO (ok_BadStep___init__ F6 T ) (F6.bindsN fun _ _ _ _ _ _ us hl => match us, hl with | [_, _], _ => rfl)
  have pk6_1_at : PromK P w K mg base CX0 1 (md "BadStep" "__init__" K) 1 ["at"] (fun vs zs => vs ++ picks [.inl 0] [] zs) (spErr1 (gd "BadStep" K) "at") := ⟨_, _, _, (ok_BadStep___init__ F6 T ), FunD.kbN F6 1 ["at"] [.inl 0] fun _ _ _ _ _ _ us ws h1 h2 => match us, h1, ws, h2 with | [_], _, [_], _ => rfl⟩
  have p7 : PromO P w K mg base CX0 1 (md "BadNumber" "__init__" K) [] (spErr1 (gd "BadNumber" K) "value") := pm_PromO (ok_BadNumber___init__ F7 T ) (F7.bindsN fun _ _ _ _ _ _ us hl => match us, hl with | [_, _], _ => rfl)
  have pk7_1_value : PromK P w K mg base CX0 1 (md "BadNumber" "__init__" K) 1 ["value"] (fun vs zs => vs ++ picks [.inl 0] [] zs) (spErr1 (gd "BadNumber" K) "value") := ⟨_, _, _, (ok_BadNumber___init__ F7 T ), FunD.kbN F7 1 ["value"] [.inl 0] fun _ _ _ _ _ _ us ws h1 h2 => match us, h1, ws, h2 with | [_], _, [_], _ => rfl⟩
  have p8 : PromO P w K mg base CX0 1 (md "BadForm" "__init__" K) [] (spErr1 (gd "BadForm" K) "part") := pm_PromO (ok_BadForm___init__ F8 T ) (F8.bindsN fun _ _ _ _ _ _ us hl => match us, hl with | [_, _], _ => rfl)
  have pk8_1_part : PromK P w K mg base CX0 1 (md "BadForm" "__init__" K) 1 ["part"] (fun vs zs => vs ++ picks [.inl 0] [] zs) (spErr1 (gd "BadForm" K) "part") := ⟨_, _, _, (ok_BadForm___init__ F8 T ), FunD.kbN F8 1 ["part"] [.inl 0] fun _ _ _ _ _ _ us ws h1 h2 => match us, h1, ws, h2 with | [_], _, [_], _ => rfl⟩
  have p9 : PromO P w K mg base CX0 1 (md "BadSpot" "__init__" K) [] (spErr1 (gd "BadSpot" K) "part") := pm_PromO (ok_BadSpot___init__ F9 T ) (F9.bindsN fun _ _ _ _ _ _ us hl => match us, hl with | [_, _], _ => rfl)
  have pk9_1_part : PromK P w K mg base CX0 1 (md "BadSpot" "__init__" K) 1 ["part"] (fun vs zs => vs ++ picks [.inl 0] [] zs) (spErr1 (gd "BadSpot" K) "part") := ⟨_, _, _, (ok_BadSpot___init__ F9 T ), FunD.kbN F9 1 ["part"] [.inl 0] fun _ _ _ _ _ _ us ws h1 h2 => match us, h1, ws, h2 with | [_], _, [_], _ => rfl⟩
  have p10 : PromO P w K mg base CX0 1 (md "Overlap" "__init__" K) [] (spErr1 (gd "Overlap" K) "length") := pm_PromO (ok_Overlap___init__ F10 T ) (F10.bindsN fun _ _ _ _ _ _ us hl => match us, hl with | [_, _], _ => rfl)
  have pk10_1_length : PromK P w K mg base CX0 1 (md "Overlap" "__init__" K) 1 ["length"] (fun vs zs => vs ++ picks [.inl 0] [] zs) (spErr1 (gd "Overlap" K) "length") := ⟨_, _, _, (ok_Overlap___init__ F10 T ), FunD.kbN F10 1 ["length"] [.inl 0] fun _ _ _ _ _ _ us ws h1 h2 => match us, h1, ws, h2 with | [_], _, [_], _ => rfl⟩
  have p11 : PromO P w K mg base CX0 1 (md "NoStep" "__init__" K) [] (spErr1 (gd "NoStep" K) "index") := pm_PromO (ok_NoStep___init__ F11 T ) (F11.bindsN fun _ _ _ _ _ _ us hl => match us, hl with | [_, _], _ => rfl)
  have pk11_1_index : PromK P w K mg base CX0 1 (md "NoStep" "__init__" K) 1 ["index"] (fun vs zs => vs ++ picks [.inl 0] [] zs) (spErr1 (gd "NoStep" K) "index") := ⟨_, _, _, (ok_NoStep___init__ F11 T ), FunD.kbN F11 1 ["index"] [.inl 0] fun _ _ _ _ _ _ us ws h1 h2 => match us, h1, ws, h2 with | [_], _, [_], _ => rfl⟩
  have p12 : PromO P w K mg base CX0 1 (md "TooMany" "__init__" K) [] (spErr2 (gd "TooMany" K) "what" "most") := pm_PromO (ok_TooMany___init__ F12 T ) (F12.bindsN fun _ _ _ _ _ _ us hl => match us, hl with | [_, _, _], _ => rfl)
  have pk12_1_most_what : PromK P w K mg base CX0 1 (md "TooMany" "__init__" K) 1 ["most", "what"] (fun vs zs => vs ++ picks [.inl 1, .inl 0] [] zs) (spErr2 (gd "TooMany" K) "what" "most") := ⟨_, _, _, (ok_TooMany___init__ F12 T ), FunD.kbN F12 1 ["most", "what"] [.inl 1, .inl 0] fun _ _ _ _ _ _ us ws h1 h2 => match us, h1, ws, h2 with | [_], _, [_, _], _ => rfl⟩
  have p13 : PromO P w K mg base CX0 1 (md "Parts" "__init__" K) [] (spErr2 (gd "Parts" K) "length" "place") := pm_PromO (ok_Parts___init__ F13 T ) (F13.bindsN fun _ _ _ _ _ _ us hl => match us, hl with | [_, _, _], _ => rfl)
  have pk13_1_place_length : PromK P w K mg base CX0 1 (md "Parts" "__init__" K) 1 ["place", "length"] (fun vs zs => vs ++ picks [.inl 1, .inl 0] [] zs) (spErr2 (gd "Parts" K) "length" "place") := ⟨_, _, _, (ok_Parts___init__ F13 T ), FunD.kbN F13 1 ["place", "length"] [.inl 1, .inl 0] fun _ _ _ _ _ _ us ws h1 h2 => match us, h1, ws, h2 with | [_], _, [_, _], _ => rfl⟩
  have p14 : PromO P w K mg base CX0 1 (md "BadText" "__init__" K) [] (spErr2 (gd "BadText" K) "line" "word") := pm_PromO (ok_BadText___init__ F14 T ) (F14.bindsN fun _ _ _ _ _ _ us hl => match us, hl with | [_, _, _], _ => rfl)
  have pk14_1_word_line : PromK P w K mg base CX0 1 (md "BadText" "__init__" K) 1 ["word", "line"] (fun vs zs => vs ++ picks [.inl 1, .inl 0] [] zs) (spErr2 (gd "BadText" K) "line" "word") := ⟨_, _, _, (ok_BadText___init__ F14 T ), FunD.kbN F14 1 ["word", "line"] [.inl 1, .inl 0] fun _ _ _ _ _ _ us ws h1 h2 => match us, h1, ws, h2 with | [_], _, [_, _], _ => rfl⟩
  have p15 : PromO P w K mg base CX0 1 (md "NoName" "__init__" K) [] (spErr1 (gd "NoName" K) "name") := pm_PromO (ok_NoName___init__ F15 T ) (F15.bindsN fun _ _ _ _ _ _ us hl => match us, hl with | [_, _], _ => rfl)
  have pk15_1_name : PromK P w K mg base CX0 1 (md "NoName" "__init__" K) 1 ["name"] (fun vs zs => vs ++ picks [.inl 0] [] zs) (spErr1 (gd "NoName" K) "name") := ⟨_, _, _, (ok_NoName___init__ F15 T ), FunD.kbN F15 1 ["name"] [.inl 0] fun _ _ _ _ _ _ us ws h1 h2 => match us, h1, ws, h2 with | [_], _, [_], _ => rfl⟩
  have p16 : PromO P w K mg base CX0 1 (md "BadLine" "__init__" K) [] (spErr1 (gd "BadLine" K) "word") := pm_PromO (ok_BadLine___init__ F16 T ) (F16.bindsN fun _ _ _ _ _ _ us hl => match us, hl with | [_, _], _ => rfl)
  have pk16_1_word : PromK P w K mg base CX0 1 (md "BadLine" "__init__" K) 1 ["word"] (fun vs zs => vs ++ picks [.inl 0] [] zs) (spErr1 (gd "BadLine" K) "word") := ⟨_, _, _, (ok_BadLine___init__ F16 T ), FunD.kbN F16 1 ["word"] [.inl 0] fun _ _ _ _ _ _ us ws h1 h2 => match us, h1, ws, h2 with | [_], _, [_], _ => rfl⟩
  have p17 : PromO P w K mg base CX0 1 (gd "_law_pen" K) [] (spPn K) := pm_PromO (ok__law_pen F17 T ) (F17.bindsN fun _ _ _ _ _ _ us hl => match us, hl with | [_], _ => rfl)
  have p18 : PromO P w K mg base CX0 1 (gd "_law_draw" K) [] (spF K [] (ul2 F_draw)) := pm_PromO (ok__law_draw (Tb := []) F18 T ) (F18.bindsN fun _ _ _ _ _ _ us hl => match us, hl with | [_, _], _ => rfl)
  have p19 : PromO P w K mg base CX0 2 (gd "_law_pick" K) [] (spF K [] (ul2 F__law_pick)) := pm_PromO (ok__law_pick (Tb := []) F19 T p18) (F19.bindsN fun _ _ _ _ _ _ us hl => match us, hl with | [_, _], _ => rfl)
  have p20 : PromO P w K mg base CX0 3 (gd "_law_value" K) [] (spF K [] (ul1 F__law_value)) := pm_PromO (ok__law_value (Tb := []) F20 T p18 p19) (F20.bindsN fun _ _ _ _ _ _ us hl => match us, hl with | [_], _ => rfl)
  have p21 : PromO P w K mg base CX0 3 (gd "_law_by_place" K) [] (spF K [] (ul2 F__law_by_place)) := pm_PromO (ok__law_by_place (Tb := []) F21 T p0 p1 p2 p3 p4 p5 p6 p7 p8 p9 p10 p11 p12 p13 p14 p15 p16) (F21.bindsN fun _ _ _ _ _ _ us hl => match us, hl with | [_, _], _ => rfl)
  have p22 : PromO P w K mg base CX0 3 (gd "_law_by_name" K) [] (spF K [] (ul2 F__law_by_name)) := pm_PromO (ok__law_by_name (Tb := []) F22 T pk0_1_value pk1_1_value pk2_1_value pk3_1_at pk4_1_part pk5_1_part pk6_1_at pk7_1_value pk8_1_part pk9_1_part pk10_1_length pk11_1_index pk12_1_most_what pk13_1_place_length pk14_1_word_line pk15_1_name pk16_1_word) (F22.bindsN fun _ _ _ _ _ _ us hl => match us, hl with | [_, _], _ => rfl)
  have p23 : PromO P w K mg base CX0 1 (gd "_law_kept" K) [] (spF K [] (ul2 F__law_kept)) := pm_PromO (ok__law_kept (Tb := []) F23 T ) (F23.bindsN fun _ _ _ _ _ _ us hl => match us, hl with | [_, _], _ => rfl)
  have p24 : PromO P w K mg base CX0 1 (gd "_law_classes" K) [] (spF K [] (ul1 F__law_classes)) := pm_PromO (ok__law_classes (Tb := []) F24 T ) (F24.bindsN fun _ _ _ _ _ _ us hl => match us, hl with | [_], _ => rfl)
  exact ok_law (Tb := []) F25 T law_yes p17 p20 p21 p22 p23 p24
end Lw
open PySem PySem.W PySem.Calls PyProof.Rows
set_option maxRecDepth 100000 in
set_option maxHeartbeats 0 in
theorem PySem.Challenge.cw_everyhunt_k01_errors_kept_holds : PySem.Challenge.rw_everyhunt_k01_errors_kept.Holds := by
  w_on; o_law
  refine HandSHeadRun.head_any (r := OpenLaw.row PySem.Challenge.rw_everyhunt_k01_errors_kept) (q := view (OpenLaw.row PySem.Challenge.rw_everyhunt_k01_errors_kept).prog [28]) (H := Lw.hk) (ob := Lw.ob) (M := 20000) (loose := Lw.loose) (d := HandSHeadRun.topDef (OpenLaw.row PySem.Challenge.rw_everyhunt_k01_errors_kept).prog 28) (kwd := []) Lw.ob_eq
    (by kernel_rfl) (fun s => by kernel_rfl) Lw.run (by kernel_rfl) (by kernel_rfl) (by kernel_rfl) (by rfl) (by first | assumption | decide +kernel) (by decide +kernel) ⟨rfl, rfl, rfl, rfl, rfl, by decide +kernel⟩ ?hw ?hc
  case hw => w_witness2
  case hc =>
    refine Gh.walk_ofG (l := PySem.Challenge.rw_everyhunt_k01_errors_kept) (n := 63) (k := 4) (x := "_law_script") (CX := fun _ => L2.CX0) rfl (by decide) (by kernel_rfl) ⟨rfl, by decide, by decide⟩ ?F (fun _ _ _ _ _ z => z)
    intro w mg fa h Y G hmg0
    obtain ⟨K, KX, c⟩ := Y
    have hmg : mg ("law" : PySem.Str) = some (.ref fa) := by
      have e : (HandSHeadRun.topDef (OpenLaw.row PySem.Challenge.rw_everyhunt_k01_errors_kept).prog 28).name = ("law" : PySem.Str) := by kernel_rfl
      rw [← e]
      exact hmg0
    obtain ⟨fd, hb, hF⟩ := Lw.facts (P := (PySem.Challenge.rw_everyhunt_k01_errors_kept).prog) (w := w) KX G hmg c (c.s.t.fact 496 rfl) ⟨by kernel_rfl, by kernel_rfl⟩
    exact ⟨K, fd, Gp.spLaw K [], KX, hb, fun H a ns hl _ hS => ⟨a, ns, rfl, hS, hl, fun _ z => (nomatch z), fun _ => rfl⟩, hF⟩
#print axioms PySem.Challenge.cw_everyhunt_k01_errors_kept_holds
end
