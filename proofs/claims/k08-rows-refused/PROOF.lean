import PyProof.Rows.All
import Wide.All
import OpenK.AllK
import Wide.FinOn
import KE.KStateDown
import KE.KOpsOwn
import HandS.ForMost
import HandS.More
import HandS.Exc
import HandS.WordsExc
import HandS.Defaults
import HandS.Property
import HandS.IsInst
import HandS.Wide
import HandS.Head0
import HandS.Head1
import HandS.Head2
import HandS.HeadEnd
import HandS.HeadHook1
import HandS.HeadHook2
import PyProof.ReprRoads
import HandS.ExcInit
import HandS.ExcField
import HandS.ExcIs
import KE.KExcIs
import HandS.EndTab
import HandS.HeadHook4
import HandS.Star
import HandS.ClsMeth
import HandS.Lambda
import HandS.RaiseMore
import HandS.Iter
import KE.GoesMore
import PyProof.EnumMake
import HandS.MakeKw
import KE.KCallOwn
import PyProof.InstNe
import HandS.GenList
import PyProof.GenComp
import HandS.TupAny
import HandS.SortInts
import HandS.OwnEq
import HandS.Style
import HandS.Conv
import KE.KSuper
import HandS.NestedK
import HandS.SetFor
import HandS.Strs
import HandS.Zip
import HandS.TryMany
import HandS.FStr
import HandS.TupLe
import HandS.NoneIn
import HandS.Text
import PyProof.EnumFor
import PyProof.Conv_bool
import PyProof.EqKinds
import PyProof.FactsAll.dict_1
import KE.LtData
import PyProof.Claim2Refuses
import HandS.ReplaceLit
import PyProof.NeKinds
import KE.KEqDict
import HandS.TupLen
import HandS.DictTup
import HandS.TupMul
import PySem.Challenge.RW_everyhunt_k08_rows_refused
set_option linter.all false
set_option maxRecDepth 100000
set_option maxHeartbeats 4000000
set_option Elab.async false
section
namespace Gh
open PySem PySem.Spec PyProof.Rows L2
structure Df where
  adr : PySem.W.Frag → Addr
  name : Str
  qual : Str
  st : Stmt
  dfl : List He.Dv := []
def Df.val (d : Df) : He.FnW := some (d.name, d.qual, defArgs d.st, .stmts (defBody d.st), defScope d.st, mainGlobals, [], builtinsNs)
def Df.dvs (K : PySem.W.Frag) (d : Df) : List V := d.dfl.map (He.Dv.v K)
def fnAt (K : PySem.W.Frag) (a : Addr) : He.FnW := match K.lookup a with
  | some ⟨_, _, .func fd, _⟩ => some (fd.name, fd.qualname, fd.params, fd.body, fd.scope, fd.globals, fd.closure, fd.builtins)
  | _ => none
def Df.ok (K : PySem.W.Frag) (d : Df) : Bool := PySem.W.keepIn K (.ref (d.adr K)) && (match K.lookup (d.adr K) with
  | some ⟨_, _, .func fd, _⟩ => PySem.W.codeIn K fd.code d.qual && (He.dflB K fd.defaults (d.dvs K) && He.kwdB K fd.kwdefaults [])
  | _ => false)
abbrev Al : Type := Bool × List He.FnW
def obs (ex : List (PySem.W.Frag → Bool)) (fn : List Df) (K : PySem.W.Frag) : Al := ((ex.all fun f => f K) && fn.all fun d => d.ok K, fn.map fun d => fnAt K (d.adr K))
def val (fn : List Df) : Al := (true, fn.map Df.val)
def Says (ex : List (PySem.W.Frag → Bool)) (fn : List Df) (K : PySem.W.Frag) : Prop := obs ex fn K = val fn
def propG (x m : Str) (K : PySem.W.Frag) : Addr := match PySem.W.recIn K (He.ma K (He.ga K x) m) "property" with
  | some (.ref g :: _) => g
  | _ => 0
def propB (x m : Str) (K : PySem.W.Frag) : Bool := He.eqO (PySem.W.findIn K (.ref (He.ga K x)) m) (some (some (.ref (He.ma K (He.ga K x) m)))) &&
  (He.eqO (PySem.W.specialIn K (.ref (He.ma K (He.ga K x) m)) "__get__") (some (some (.builtin "property.__get__"))) &&
  (decide (PySem.W.takesIn K (.ref (He.ma K (He.ga K x) m)) = some true) && (match PySem.W.recIn K (He.ma K (He.ga K x) m) "property" with
    | some (.ref _ :: _) => true
    | _ => false)))
def gd (x : Str) : PySem.W.Frag → Addr := fun K => He.ga K x
def md (x m : Str) : PySem.W.Frag → Addr := fun K => He.ma K (He.ga K x) m
def fa (f : He.Fa) : PySem.W.Frag → Bool := fun K => f.ok K
structure InsT (K : PySem.W.Frag) (C : Addr) : Prop where
  ha : PySem.W.findIn K (.ref C) "__class__" = some (some (.builtin "object.__class__"))
  hn : PySem.W.specialIn K (.builtin "object.__class__") "__get__" = some (some (.builtin "getset_descriptor.__get__"))
  htk : PySem.W.takesIn K (.builtin "object.__class__") = some true
  hm : PySem.W.mroIn K C (.type "object") = some true
  yes : PySem.W.kitOne K (.ref C) (.ref C) = some true
  no : ∀ n ∈ (["NoneType", "bool", "int", "str", "list", "tuple", "dict"] : List String), PySem.W.kitOne K (.type n) (.ref C) = some false
  out : ∀ n ∈ (["NoneType", "bool", "int", "str", "list", "tuple", "dict"] : List String), PySem.W.kitOne K (.ref C) (.type n) = some false
def insB (x : Str) (K : PySem.W.Frag) : Bool := He.eqO (PySem.W.findIn K (.ref (gd x K)) "__class__") (some (some (.builtin "object.__class__"))) &&
  (He.eqO (PySem.W.specialIn K (.builtin "object.__class__") "__get__") (some (some (.builtin "getset_descriptor.__get__"))) &&
  (decide (PySem.W.takesIn K (.builtin "object.__class__") = some true) && (decide (PySem.W.mroIn K (gd x K) (.type "object") = some true) &&
  (decide (PySem.W.kitOne K (.ref (gd x K)) (.ref (gd x K)) = some true) && (((["NoneType", "bool", "int", "str", "list", "tuple", "dict"] : List String).all fun n => decide (PySem.W.kitOne K (.type n) (.ref (gd x K)) = some false)) &&
  ((["NoneType", "bool", "int", "str", "list", "tuple", "dict"] : List String).all fun n => decide (PySem.W.kitOne K (.ref (gd x K)) (.type n) = some false)))))))
end Gh
end
section
namespace Gh
open PySem PySem.Spec PyProof.Rows L2
structure FnG (P : Program) (w : World) (K : PySem.W.Frag) (mg : Str → Option Value) (base : Heap) (CX : CXT) (k : Nat) (f : Addr) (fd : FuncData) (ps : List Str) (sp : Sp) : Prop where
  len : ∀ vs H Q E, sp vs H Q E → vs.length = ps.length
  run : ∀ (A : Around) (outer : List Env) (s : Shared) (H : Hp) (args : Args) (us : List Value) (vs : List V) (Q : VK) (E : XK), Room k A → A.guards = some [] → Env0 P w K mg base A outer s H → BindsTo s fd args (ps.zip us) → Vals vs us → sp vs H Q E →
    codeAny (model P w) A (.call (.ref f) args) (CR CX outer P w H s Q E) s
def Prom (P : Program) (w : World) (K : PySem.W.Frag) (mg : Str → Option Value) (base : Heap) (CX : CXT) (k : Nat) (f : Addr) (dvs : List V) (sp : Sp) : Prop :=
  ∃ (fd : FuncData) (ps : List Str) (ds : List Value), FnG P w K mg base CX k f fd ps sp ∧ Binds K fd ps ds ∧ Vals dvs ds
section
variable {P : Program} {w : World} {K : PySem.W.Frag} {mg : Str → Option Value} {base : Heap} {CX : CXT} {j k : Nat} {f : Addr} {fd : FuncData} {ps : List Str} {sp : Sp} {dvs : List V}
theorem FnG.mono (F : FnG P w K mg base CX j f fd ps sp) (h : j ≤ k) : FnG P w K mg base CX k f fd ps sp := ⟨F.len, fun A o s H a us vs Q E hr => F.run A o s H a us vs Q E (hr.mono h)⟩
theorem Prom.mono (F : Prom P w K mg base CX j f dvs sp) (h : j ≤ k) : Prom P w K mg base CX k f dvs sp := by
  obtain ⟨fd, ps, ds, G, b, v⟩ := F
  exact ⟨fd, ps, ds, G.mono h, b, v⟩
end
section
variable {X : Cx} {CX : CXT} {k : Nat} {f g C : Addr} {sp : Sp} {dvs : List V} {E : XK} {x m : Str} {p pos apos : Pos} {e o : Expr} {es : List Expr} {ta tb : TE} {t : TA} {r : List V → Hp → VK → Prop}
abbrev PromX (X : Cx) (CX : CXT) (k : Nat) (f : Addr) (dvs : List V) (sp : Sp) : Prop := Prom X.prog X.w X.K X.mg X.base CX k f dvs sp
def rSp (sp : Sp) (dvs : List V) (E : XK) : List V → Hp → VK → Prop := fun xs H Q => sp (xs ++ dvs) H Q E
theorem Prom.call (F : PromX X CX k f dvs sp) (hr : Room k X.A) (hg : X.A.guards = some []) (hx : Passes CX X E) : CallR X (.ref f) (rSp sp dvs E) := by
  intro pins s σ H xs us Q I r h
  obtain ⟨fd, ps, ds, G, b, hd⟩ := F
  have r2 : Vals (xs ++ dvs) (us ++ ds) := r.append hd
  have hl : (us ++ ds).length = ps.length := by rw [← r2.length]; exact G.len _ _ _ _ h
  refine wpAny_call (codeAny_mono (G.run X.A X.stack s H ⟨us, []⟩ (us ++ ds) (xs ++ dvs) Q E hr hg I.env0 (b s us I.kIn hl) r2 h) fun r s' hq => ?_)
  cases r with
  | error e => exact hx pins σ H s e s' I hq
  | ok fl =>
    cases fl with
    | ret u => exact I.after hq
    | next => exact False.elim hq
    | brk => exact False.elim hq
    | cont => exact False.elim hq
theorem ins_look {pins : List (Addr × Obj)} {σ : L2.St} {H : Hp} {s : Shared} {a dx : Addr} {fs : List (Str × V)} (I : Inv X pins σ H s) (h : H a = some (.ins C dx fs)) : ∃ ox od, PySem.W.InstAt s.heap a ox C od := by
  obtain ⟨mA, O, _, _, _, _⟩ := ins_get I.hok h
  obtain ⟨od, J, _⟩ := O.look
  exact ⟨_, _, J⟩
end
end Gh
end
section
namespace Gh
open PySem PySem.Spec PyProof.Rows L2
def Keep (H H' : Hp) (p : Addr) : Prop := ∀ a o, H a = some o → a ≠ p → H' a = some o
theorem Keep.refl {H : Hp} {p : Addr} : Keep H H p := fun _ _ h _ => h
theorem Keep.trans {H H' H'' : Hp} {p : Addr} (h : Keep H H' p) (k : Keep H' H'' p) : Keep H H'' p := fun a o e n => k a o (h a o e n) n
theorem Keep.new {H H' : Hp} {p q : Addr} {o : HO} (h : Keep H H' p) (n : H' q = none) : Keep H (upd H' q o) p := fun a u e ne => by
  rw [upd_ne (ne_of_none (h a u e ne) n)]
  exact h a u e ne
def PenAt (H : Hp) (p : Addr) (b : Nat) : Prop := ∃ (c : Addr) (ns : List Int) (i z : Int), H p = some (.lst [.ref c, .int i, .int z]) ∧ H c = some (.lst (ns.map V.int)) ∧ ns.length ≤ 63 ∧ 0 ≤ i ∧ i + b ≤ 1000000 ∧ 0 ≤ z
theorem pen_ne {H : Hp} {p c : Addr} {ns : List Int} {i z : Int} (h : H p = some (.lst [.ref c, .int i, .int z])) (k : H c = some (.lst (ns.map V.int))) : c ≠ p := by
  refine ne_of k h fun e => ?_
  have e2 : ns.map V.int = [.ref c, .int i, .int z] := HO.lst.inj e
  cases ns with
  | nil => cases e2
  | cons n r => cases (List.cons.inj e2).1
theorem PenAt.new {H : Hp} {p q : Addr} {b : Nat} {o : HO} (h : PenAt H p b) (n : H q = none) : PenAt (upd H q o) p b := by
  obtain ⟨c, ns, i, z, h1, h2, h3⟩ := h
  exact ⟨c, ns, i, z, by rw [upd_ne (ne_of_none h1 n)]; exact h1, by rw [upd_ne (ne_of_none h2 n)]; exact h2, h3⟩
theorem PenAt.same {H H' : Hp} {p : Addr} {b : Nat} (h : PenAt H p b) (n : L2.Same H H') : PenAt H' p b := by
  obtain ⟨c, ns, i, z, h1, h2, h3⟩ := h
  exact ⟨c, ns, i, z, n _ _ h1, n _ _ h2, h3⟩
theorem same_new {H : Hp} {q : Addr} {o : HO} (n : H q = none) : L2.Same H (upd H q o) := fun a u e => by
  rw [upd_ne (ne_of_none e n)]
  exact e
end Gh
end
section
namespace Gh
open PySem PySem.Spec PyProof.Rows L2
theorem PenAt.ne {H : Hp} {p c : Addr} {b : Nat} (h : PenAt H p b) (n : H c = none) : c ≠ p := by
  obtain ⟨d, ns, i, z, h1, _⟩ := h
  exact (ne_of_none h1 n).symm
section
variable {X : Cx} {K : PySem.W.Frag}
end
end Gh
end
section
namespace Gh
open PySem PySem.Spec PyProof.Rows L2
def exk (a C d : Addr) : HO := .ext fun h => ∃ (o : Obj) (vs : Array Value), h.get? a = some o ∧ o.cls = .ref C ∧ o.dict = some d ∧ o.data = .fields vs
def exk0 (a C : Addr) : HO := .ext fun h => ∃ (o : Obj) (vs : Array Value), h.get? a = some o ∧ o.cls = .ref C ∧ o.dict = none ∧ o.data = .fields vs
def errB (x : Str) (K : PySem.W.Frag) : Bool := He.eqO (PySem.W.findIn K (.ref (gd x K)) "__getattribute__") (some (some (.builtin "BaseException.__getattribute__"))) &&
  (He.eqO (PySem.W.findIn K (.ref (gd x K)) "__getattr__") (some none) && (decide (PySem.W.subIn K (.ref (gd x K)) (.type "BaseException") = some true) && (PySem.W.hasDictIn K (gd x K) &&
  (He.eqO (PySem.W.findIn K (.ref (gd x K)) "__class__") (some (some (.builtin "object.__class__"))) && (He.eqO (PySem.W.specialIn K (.builtin "object.__class__") "__get__") (some (some (.builtin "getset_descriptor.__get__"))) &&
  (decide (PySem.W.takesIn K (.builtin "object.__class__") = some true) && decide (PySem.W.mroIn K (gd x K) (.type "object") = some true)))))))
section
variable {X : Cx} {e : Expr} {te : TE} {pos : Pos} {n : Str}
end
section
variable {X : Cx} {x n : Str} {c : Value} {i : Nat} {body suite : List Stmt} {b₀ : Stmt} {np pos pos' : Pos} {tb : WX → TS} {ts : Addr → Value → Option Addr → TS} {Wout : WX}
end
end Gh
end
section
namespace Gh
open PySem PySem.Spec PyProof.Rows L2
structure SaysT (ex : List (PySem.W.Frag → Bool)) (fn : List Df) (tf : List He.Defn) (h : Heap) (K : PySem.W.Frag) : Prop where
  t : Says ex fn K
  hd : ∀ p ∈ tf, PySem.W.codeHdIn K (He.cT K p).1 (He.cT K p).2 = true
  out : ∀ p ∈ tf, K.lookup (He.cT K p).2 = none
  empty : ∀ p ∈ tf, h.get? (He.cT K p).2 = some { cls := .none, data := .fields #[] }
abbrev AlT : Type := Al × Bool
end Gh
end
section
namespace Gh
open PySem PySem.Spec PyProof.Rows L2
def PromO (P : Program) (w : World) (K : PySem.W.Frag) (mg : Str → Option Value) (base : Heap) (CX : CXT) (k : Nat) (f : Addr) (dvs : List V) (sp : Sp) : Prop :=
  ∃ (fd : FuncData) (ps : List Str) (ds : List Value), FnOk P w K mg base CX k f fd ps sp ∧ Binds K fd ps ds ∧ Vals dvs ds
section
variable {X : Cx} {CX : CXT} {k : Nat} {f g C : Addr} {sp : Sp} {dvs : List V} {E : XK} {m : Str} {pos : Pos} {o : Expr} {ta : TE}
abbrev PromOX (X : Cx) (CX : CXT) (k : Nat) (f : Addr) (dvs : List V) (sp : Sp) : Prop := PromO X.prog X.w X.K X.mg X.base CX k f dvs sp
theorem PromO.call (F : PromOX X CX k f dvs sp) (hr : Room k X.A) (hx : Passes CX X E) : CallR X (.ref f) (rSp sp dvs E) := by
  intro pins s σ H xs us Q I r h
  obtain ⟨fd, ps, ds, G, b, hd⟩ := F
  exact run_fn G hr b hd hx I r h
end
def oexB (x : Str) (K : PySem.W.Frag) : Bool := (match K.lookup (gd x K) with
  | some ⟨.type c, _, .cls ⟨_, _, .ref m :: bm, _, _, hd, _, _, _, _, dl⟩, ⟨[_, _, _, _, some (.builtin n), _]⟩⟩ => decide (c = "type") && (decide (m = gd x K) && (PySem.HandSPX.refsVE bm && (hd && (!dl && decide (n = "ValueError.__new__")))))
  | _ => false) && (He.eqO (PySem.W.findIn K (.ref (gd x K)) "__setattr__") (some (some (.builtin "object.__setattr__"))) && (decide (PySem.W.subIn K (.ref (gd x K)) (.type "BaseException") = some true) &&
  (decide (PySem.W.typeIn K (.ref (gd x K)) = some (.type "type")) && PySem.W.keepIn K (.ref (gd x K)))))
inductive Kd (H : Hp) : V → Prop
  | non : Kd H .non
  | bl (b : Bool) : Kd H (.bl b)
  | int (i : Int) : Kd H (.int i)
  | str (x : Str) : Kd H (.str x)
  | lst {a : Addr} {xs : List V} (h : H a = some (.lst xs)) : Kd H (.ref a)
  | tup {a : Addr} {xs : List V} (h : H a = some (.tup xs)) : Kd H (.ref a)
  | dK {a : Addr} {kvs : List (Key × V)} (h : H a = some (.dK kvs)) : Kd H (.ref a)
theorem Kd.ty {K : PySem.W.Frag} {H : Hp} {v : V} (k : Kd H v) : ∃ n : String, TyX K H v (.type n) ∧ ((∃ i, v = .int i) ∧ n = "int" ∨ (∃ b, v = .bl b) ∧ n = "bool" ∨ (∀ i, v ≠ .int i) ∧ (∀ b, v ≠ .bl b) ∧ n ∈ (["NoneType", "str", "list", "tuple", "dict"] : List String)) := by
  cases k with
  | non => exact ⟨_, .base .non, .inr (.inr ⟨fun _ => nofun, fun _ => nofun, by decide⟩)⟩
  | bl b => exact ⟨_, .base (.bl b), .inr (.inl ⟨⟨b, rfl⟩, rfl⟩)⟩
  | int i => exact ⟨_, .base (.int i), .inl ⟨⟨i, rfl⟩, rfl⟩⟩
  | str x => exact ⟨_, .base (.str x), .inr (.inr ⟨fun _ => nofun, fun _ => nofun, by decide⟩)⟩
  | lst h => exact ⟨_, .base (.lst h), .inr (.inr ⟨fun _ => nofun, fun _ => nofun, by decide⟩)⟩
  | tup h => exact ⟨_, .base (.tup h), .inr (.inr ⟨fun _ => nofun, fun _ => nofun, by decide⟩)⟩
  | dK h => exact ⟨_, .base (.dK h), .inr (.inr ⟨fun _ => nofun, fun _ => nofun, by decide⟩)⟩
theorem Kd.same {H H' : Hp} {v : V} (k : Kd H v) (s : L2.Same H H') : Kd H' v := by
  cases k with
  | non => exact .non
  | bl b => exact .bl b
  | int i => exact .int i
  | str x => exact .str x
  | lst h => exact .lst (s _ _ h)
  | tup h => exact .tup (s _ _ h)
  | dK h => exact .dK (s _ _ h)
end Gh
end
section
namespace Gh
open PySem PySem.Spec PyProof.Rows L2
inductive Shw (K : PySem.W.Frag) (H : Hp) : V → Str → Prop
  | non : Shw K H .non "None"
  | bl (b : Bool) : Shw K H (.bl b) (if b then "True" else "False")
  | int (i : Int) : i.natAbs.log2 < 1920 → Shw K H (.int i) (toString i)
  | str (x : Str) : (reprText x).length ≤ sizeLine → Shw K H (.str x) (reprText x)
  | dp {a : Addr} {d : PyData} : Dp K H (.ref a) d → d.showable = true → d.hasDict = false → d.depth ≤ 100 → d.shown.length ≤ sizeLine → Shw K H (.ref a) d.shown
theorem sqL_same {K : PySem.W.Frag} {H H' : Hp} {a : Addr} {xs : List V} (h : SqL K H a xs) (s : L2.Same H H') : SqL K H' a xs := by
  rcases h with (h | ⟨o, h⟩) | h
  · exact .inl (.inl (s _ _ h))
  · exact .inl (.inr ⟨o, s _ _ h⟩)
  · exact .inr h
theorem sqT_same {K : PySem.W.Frag} {H H' : Hp} {a : Addr} {xs : List V} (h : SqT K H a xs) (s : L2.Same H H') : SqT K H' a xs := by
  rcases h with (h | ⟨o, h⟩) | h
  · exact .inl (.inl (s _ _ h))
  · exact .inl (.inr ⟨o, s _ _ h⟩)
  · exact .inr h
mutual
theorem dp_same {K : PySem.W.Frag} {H H' : Hp} (s : L2.Same H H') : ∀ {v : V} {d : PyData}, Dp K H v d → Dp K H' v d
  | _, _, .non => .non
  | _, _, .bl b => .bl b
  | _, _, .int i => .int i
  | _, _, .str x => .str x
  | _, _, .lst h a => .lst (sqL_same h s) (dpAll_same s a)
  | _, _, .tup h a => .tup (sqT_same h s) (dpAll_same s a)
theorem dpAll_same {K : PySem.W.Frag} {H H' : Hp} (s : L2.Same H H') : ∀ {vs : List V} {ds : List PyData}, DpAll K H vs ds → DpAll K H' vs ds
  | _, _, .nil => .nil
  | _, _, .cons a r => .cons (dp_same s a) (dpAll_same s r)
end
theorem Shw.same {K : PySem.W.Frag} {H H' : Hp} {v : V} {t : Str} (h : Shw K H v t) (s : L2.Same H H') : Shw K H' v t := by
  cases h with
  | non => exact .non
  | bl b => exact .bl b
  | int i h => exact .int i h
  | str x h => exact .str x h
  | dp a b c d e => exact .dp (dp_same s a) b c d e
section
variable {X : Cx} {K : PySem.W.Frag}
variable {CX : CXT} {x : Str} {C fI : Addr} {k : Nat} {sp : Sp} {dvs : List V} {e : Expr} {es : List Expr} {ta : TA} {p pos : Pos}
end
def iniB (x : Str) (K : PySem.W.Frag) : Bool := He.eqO (PySem.W.findIn K (.ref (gd x K)) "__init__") (some (some (.ref (md x "__init__" K)))) && decide (PySem.W.typeIn K (.ref (md x "__init__" K)) = some (.type "function"))
end Gh
end
section
namespace Gh
open PySem PySem.Spec PyProof.Rows L2
section
variable {X : Cx} {C f : Addr} {r : List V → Hp → VK → Prop}
def ixB (x : Str) (K : PySem.W.Frag) : Bool := He.eqO (PySem.W.findIn K (.ref (gd x K)) "__getitem__") (some (some (.ref (md x "__getitem__" K)))) && (PySem.W.fnIn K (md x "__getitem__" K) && PySem.W.isFn K (.ref (md x "__getitem__" K)))
end
end Gh
end
section
namespace Gh
open PySem PySem.Spec PyProof.Rows L2
structure Nw (H H' : Hp) (p : Addr) (o : HO) : Prop where
  no : H p = none
  same : L2.Same H H'
  at_ : H' p = some o
structure Mu (H H' : Hp) (p : Addr) (o : HO) : Prop where
  keep : Keep H H' p
  at_ : H' p = some o
section
variable {H H' : Hp} {p a l : Addr} {o u : HO}
theorem Nw.up (n : Nw H H' p o) (h : H a = some u) : H' a = some u := n.same _ _ h
theorem Mu.up (n : Mu H H' p o) (e : a ≠ p) (h : H a = some u) : H' a = some u := n.keep _ _ h e
theorem Mu.free (n : Mu H H' p o) (h : H' a = none) : H a = none := by
  cases e : H a with
  | none => rfl
  | some u =>
    by_cases q : a = p
    · subst q
      rw [n.at_] at h
      cases h
    · rw [n.up q e] at h
      cases h
theorem Nw.ne (n : Nw H H' l o) (h : H a = some u) : l ≠ a := fun e => by
  rw [← e, n.no] at h
  cases h
end
def Pen (H : Hp) (p c : Addr) (b : Nat) : Prop := ∃ (ns : List Int) (i z : Int), H p = some (.lst [.ref c, .int i, .int z]) ∧ H c = some (.lst (ns.map V.int)) ∧ ns.length ≤ 63 ∧ 0 ≤ i ∧ i + b ≤ 1000000 ∧ 0 ≤ z
section
variable {H H' : Hp} {p c a l : Addr} {o u : HO} {b k : Nat} {xs : List V} {C dx : Addr} {fs : List (Str × V)}
theorem Pen.same (n : L2.Same H H') (h : Pen H p c b) : Pen H' p c b := by
  obtain ⟨ns, i, z, h1, h2, h3⟩ := h
  exact ⟨ns, i, z, n _ _ h1, n _ _ h2, h3⟩
theorem Pen.keep (n : Keep H H' l) (e1 : l ≠ p) (e2 : l ≠ c) (h : Pen H p c b) : Pen H' p c b := by
  obtain ⟨ns, i, z, h1, h2, h3⟩ := h
  exact ⟨ns, i, z, n _ _ h1 e1.symm, n _ _ h2 e2.symm, h3⟩
theorem Pen.cells (h : Pen H p c b) : c ≠ p := by
  obtain ⟨ns, i, z, h1, h2, h3⟩ := h
  exact pen_ne h1 h2
end
section
variable {H H' : Hp} {a t l : Addr} {o u : HO} {xs ys : List V} {C dx : Addr} {fs : List (Str × V)}
end
section
variable {H : Hp} {E : XK} {Q : VK} {p c l : Addr} {b : Nat} {m : Int} {xs : List V}
end
section
variable {X : Cx} {K : PySem.W.Frag}
end
section
variable {K : PySem.W.Frag} {H : Hp} {σ : L2.St} {Q : VK} {D : Ends} {i j n : Int} {x y v : V} {ta tb tc te tf : TE} {t u : TS} {c d : TT} {k : Bool} {a l p C dx : Addr} {xs ys : List V} {A B : Prop}
end
end Gh
end
section
namespace Gh
open PySem PySem.Spec PyProof.Rows L2
section
variable {X : Cx} {a b c d : Expr} {ta tb tc td : TE} {pos : Pos}
end
def CallK (X : Cx) (u : Value) (ks : List Str) (r : List V → List V → Hp → VK → Prop) : Prop := ∀ (pins : List (Addr × Obj)) (s : Shared) (σ : L2.St) (H : Hp) (vs zs : List V) (us ws : List Value) (Q : VK), Inv X pins σ H s → Vals vs us → Vals zs ws → r vs zs H Q → wpAny (model X.prog X.w) X.A (call u us (ks.zip ws)) (EP X pins σ Q) X.xe s
def PromK (P : Program) (w : World) (K : PySem.W.Frag) (mg : Str → Option Value) (base : Heap) (CX : CXT) (k : Nat) (f : Addr) (n : Nat) (ks : List Str) (gV : List V → List V → List V) (sp : Sp) : Prop :=
  ∃ (fd : FuncData) (ps : List Str) (g : List Value → List Value → List Value), FnOk P w K mg base CX k f fd ps sp ∧ KBn K fd ps n ks g gV
section
variable {K : PySem.W.Frag} {x qual : Str} {params : Arguments} {body : List Stmt} {scope : Scope} {dvs : List V} {kws : List (Str × V)} {f : Addr} {fd : FuncData} {ps : List Str}
end
section
variable {X : Cx} {CX : CXT} {k n : Nat} {f C : Addr} {ks : List Str} {sp : Sp} {E : XK} {x m : Str} {p pos apos : Pos} {e o : Expr} {es : List Expr} {kws : List Keyword} {t tk : TA} {ta : TE} {gV : List V → List V → List V} {r : List V → List V → Hp → VK → Prop}
def rSpK (n m : Nat) (gV : List V → List V → List V) (sp : Sp) (E : XK) : List V → List V → Hp → VK → Prop := fun vs zs H Q => vs.length = n ∧ zs.length = m ∧ sp (gV vs zs) H Q E
theorem PromK.call (F : PromK X.prog X.w X.K X.mg X.base CX k f n ks gV sp) (hr : Room k X.A) (hx : Passes CX X E) : CallK X (.ref f) ks (rSpK n ks.length gV sp E) := by
  intro pins s σ H vs zs us ws Q I rv rz ⟨l1, l2, h⟩
  obtain ⟨fd, ps, g, G, b⟩ := F
  exact run_fnN G hr b hx I rv rz l1 l2 h
end
section
variable {H : Hp} {σ : L2.St} {Q : VK} {ta : TE} {t tk : TA} {r : List V → List V → Hp → VK → Prop} {C : Addr} {m : Str} {n k : Nat} {gV : List V → List V → List V} {sp : Sp} {E : XK} {vs zs : List V}
end
end Gh
end
section
namespace Gh
open PySem PySem.Spec PyProof.Rows L2
structure Fn (d : PyData) (n b : Nat) : Prop where
  cl : d.canLay0 = true
  sh : d.showable = true
  nd : d.hasDict = false
  ls : d.leavesShort 200 = true
  dp : d.depth ≤ n
  bk : d.bulk ≤ b
structure FnAll (ds : List PyData) (n b : Nat) : Prop where
  cl : PyData.canLayAll0 ds = true
  sh : PyData.showableAll ds = true
  nd : PyData.hasDictAll ds = false
  ls : PyData.leavesShortAll 200 ds = true
  dp : PyData.depthAll ds ≤ n
  bk : PyData.bulkAll ds ≤ b
theorem log_lt100 {i : Int} (h1 : -(10 ^ 100) < i) (h2 : i < 10 ^ 100) : i.natAbs.log2 < 1920 := by
  have h : i.natAbs < 2 ^ 1920 := Nat.lt_of_lt_of_le (show i.natAbs < 10 ^ 100 by omega) (by decide)
  by_cases h0 : i.natAbs = 0
  · rw [h0]
    decide
  · exact (Nat.log2_lt h0).mpr h
theorem Fn.int {i : Int} (h1 : -(10 ^ 100) < i) (h2 : i < 10 ^ 100) : Fn (.int i) 0 0 := by
  refine ⟨rfl, decide_eq_true (log_lt100 h1 h2), rfl, ?_, Nat.le_refl _, Nat.le_refl _⟩
  have e := int_text_length_le10 (a := i) (k := 100) (by decide) (by omega)
  refine decide_eq_true ?_
  show (Str.ofString (toString i)).length ≤ 200
  rw [PySem.ofString_length]
  omega
theorem Fn.bool (b : Bool) : Fn (.bool b) 0 0 := ⟨rfl, rfl, rfl, rfl, Nat.le_refl _, Nat.le_refl _⟩
theorem Fn.none : Fn .none 0 0 := ⟨rfl, rfl, rfl, rfl, Nat.le_refl _, Nat.le_refl _⟩
theorem Fn.str {x : Str} (h0 : (PyData.str x).canLay0 = true) (h : (x.cps.toList.all fun c => decide (c < 16 ^ 8)) = true) : Fn (.str x) 0 x.cps.size := ⟨h0, rfl, rfl, h, Nat.le_refl _, Nat.le_refl _⟩
theorem FnAll.nil {n b : Nat} : FnAll [] n b := ⟨rfl, rfl, rfl, rfl, Nat.zero_le _, Nat.zero_le _⟩
theorem FnAll.cons {d : PyData} {ds : List PyData} {n b c : Nat} (h : Fn d n b) (k : FnAll ds n c) : FnAll (d :: ds) n (b + 1 + c) := by
  refine ⟨?_, ?_, ?_, ?_, ?_, ?_⟩
  · show (d.canLay0 && _) = true
    rw [h.cl, k.cl] <;> rfl
  · show (d.showable && _) = true
    rw [h.sh, k.sh] <;> rfl
  · show (d.hasDict || _) = false
    rw [h.nd, k.nd] <;> rfl
  · show (d.leavesShort 200 && _) = true
    rw [h.ls, k.ls] <;> rfl
  · show max _ _ ≤ n
    exact Nat.max_le.mpr ⟨h.dp, k.dp⟩
  · show d.bulk + 1 + _ ≤ _
    have := h.bk
    have := k.bk
    omega
theorem Fn.list {ds : List PyData} {n b : Nat} (h : FnAll ds n b) : Fn (.list ds) (n + 1) b := ⟨h.cl, h.sh, h.nd, h.ls, Nat.succ_le_succ h.dp, h.bk⟩
theorem Fn.tuple {ds : List PyData} {n b : Nat} (h : FnAll ds n b) : Fn (.tuple ds) (n + 1) b := ⟨h.cl, h.sh, h.nd, h.ls, Nat.succ_le_succ h.dp, h.bk⟩
section
variable {K : PySem.W.Frag} {H : Hp} {a : Addr} {ns : List Int}
end
section
variable {H H' : Hp} {a l p c : Addr} {u : HO} {b : Nat}
end
section
variable {K : PySem.W.Frag} {H : Hp} {σ : L2.St} {Q : VK} {m : Nat} {tt : TT} {te tl : TE} {vs : List Nat} {t : TA} {a : Addr} {xs : List V}
end
section
variable {H H' : Hp} {a l p c : Addr} {u : HO} {b : Nat}
end
section
variable {K : PySem.W.Frag} {H : Hp} {σ : L2.St} {D : Ends} {m : Nat} {g : TG} {tb : TS} {tl : TE} {t : TA} {a : Addr} {xs : List V}
end
section
end
end Gh
end
section
namespace Gh
open PySem PySem.Spec PyProof.Rows L2
section
variable {H H' : Hp} {a l p c t : Addr} {o u : HO} {b : Nat} {xs : List V} {T : List (Addr × Str)} {C dx : Addr} {fs : List (Str × V)}
theorem tabs_of (h : LamX.Tabs T H) (k1 : ∀ a ps, H a = some (.tbl ps) → H' a = some (.tbl ps)) (k2 : ∀ a c q, H a = some (LamX.CodeO c q) → H' a = some (LamX.CodeO c q)) : LamX.Tabs T H' := fun q hq => by
  obtain ⟨ps, h1, h2, h3⟩ := h q hq
  refine ⟨ps, k1 _ _ h1, h2, fun pos cv hc => ?_⟩
  obtain ⟨c', e1, e2⟩ := h3 pos cv hc
  exact ⟨c', e1, k2 _ _ _ e2⟩
theorem tabs_keepL (n : Keep H H' l) (e : H l = some (.lst xs)) (h : LamX.Tabs T H) : LamX.Tabs T H' :=
  tabs_of h (fun a ps q => n _ _ q (ne_of q e (by intro z; cases z))) (fun a c q z => n _ _ z (ne_of z e (by intro y; unfold LamX.CodeO at y; cases y)))
def Fr (H H' : Hp) (p : Addr) : Prop := ∀ a o, H a = some o → a ≠ p → (∀ ps, o ≠ .tbl ps) → H' a = some o
theorem Fr.refl : Fr H H p := fun _ _ h _ _ => h
theorem Fr.trans {H1 : Hp} (n : Fr H H1 p) (k : Fr H1 H' p) : Fr H H' p := fun a o h e z => k a o (n a o h e z) e z
end
section
variable {X : Cx} {H : Hp} {σ : L2.St} {Q : VK} {T : List (Addr × Str)} {TT : (XK → Hp → VK → Prop) → Hp → VK → Prop} {t : XK → TE}
end
end Gh
end
section
namespace Gh
open PySem PySem.Spec PyProof.Rows L2
section
variable {X : Cx} {CX : CXT} {k : Nat} {C f : Addr} {sp : Sp} {E : XK} {r : List V → Hp → VK → Prop}
theorem InsT.ty {K : PySem.W.Frag} {H : Hp} {a C dx : Addr} {fs : List (Str × V)} (t : InsT K C) (c : Cls K C) (h : H a = some (.ins C dx fs)) : TyX K H (.ref a) (.ref C) := .base (.ins h c t.ha t.hn t.htk t.hm)
end
end Gh
end
section
namespace Gp
open PySem PySem.Spec PyProof.Rows L2 Gh
inductive D where
  | non | bl (b : Bool) | int (i : Int) | str (x : Str) | tup (ds : List D) | lst (ds : List D)
  | obj (c : Str) (fs : List (Str × D)) | err (c : Str) (fs : List (Str × D)) | pen
  | cls (c : Str) | er0 (c : Str) | dct | dic (ps : List (Key × D)) | dit (ps : List (List Key × D)) | dik (ps : List (Key × D))
abbrev Fs := List (Str × D)
inductive Tr (α : Type) where
  | ok (a : α) | ex (c : Str) (fs : Fs) | bad | draw (m : Int) (k : Int → Tr α)
section
variable {α β γ : Type}
def bd : Tr α → (α → Tr β) → Tr β
  | .ok a, k => k a
  | .ex c fs, _ => .ex c fs
  | .bad, _ => .bad
  | .draw m f, k => .draw m fun d => bd (f d) k
def Al (P : α → Nat → Prop) (E : Str → Fs → Nat → Prop) : Tr α → Nat → Prop
  | .ok a, b => P a b
  | .ex c fs, b => E c fs b
  | .bad, _ => False
  | .draw m k, b => ∃ b', b = b' + 1 ∧ 0 < m ∧ m < 10 ^ 100 ∧ ∀ d, 0 ≤ d → d < m → Al P E (k d) b'
theorem Al.mono {P P' : α → Nat → Prop} {E E' : Str → Fs → Nat → Prop} (hP : ∀ a b, P a b → P' a b) (hE : ∀ c fs b, E c fs b → E' c fs b) {m : Tr α} {b : Nat} (h : Al P E m b) : Al P' E' m b := by
  induction m generalizing b with
  | ok a => exact hP _ _ h
  | ex c fs => exact hE _ _ _ h
  | bad => exact h
  | draw m f ih =>
    obtain ⟨b', e, h1, h2, h3⟩ := h
    exact ⟨b', e, h1, h2, fun d d0 d1 => ih d (h3 d d0 d1)⟩
end
def pr2 : List D → Bool
  | [.int _, .int _] => true
  | _ => false
structure Gw where
  K : PySem.W.Frag
  T : List (Addr × Str)
  p : Addr
  c : Addr
mutual
inductive Den (g : Gw) (U : Addr → Prop) (H : Hp) : V → D → Prop
  | non : Den g U H .non .non
  | bl (b : Bool) : Den g U H (.bl b) (.bl b)
  | int (i : Int) : Den g U H (.int i) (.int i)
  | str (x : Str) : x.length ≤ sizeLine → Den g U H (.str x) (.str x)
  | tup {a : Addr} {vs : List V} {ds : List D} : H a = some (.tup vs) → ¬ U a → vs.length ≤ sizeLine → DenL g U H vs ds → Den g U H (.ref a) (.tup ds)
  | tupW {a : Addr} {vs : List V} {ds : List D} : (∀ H', SqT g.K H' a vs) → vs.length ≤ sizeLine → DenL g U H vs ds → pr2 ds = false → Den g U H (.ref a) (.tup ds)
  | lst {a : Addr} {vs : List V} {ds : List D} : H a = some (.lst vs) → ¬ U a → vs.length ≤ sizeLine → DenL g U H vs ds → Den g U H (.ref a) (.lst ds)
  | obj {a dx : Addr} {c : Str} {fvs : List (Str × V)} {fs : List (Str × D)} : H a = some (.ins (gd c g.K) dx fvs) → ¬ U a → DenF g U H fvs fs → Den g U H (.ref a) (.obj c fs)
  | err {a d : Addr} {c : Str} {fvs : List (Str × V)} {fs : List (Str × D)} : H a = some (exk a (gd c g.K) d) → ¬ U a → H d = some (.xd fvs) → ¬ U d → DenF g U H fvs fs → Den g U H (.ref a) (.err c fs)
  | pen : Den g U H (.ref g.p) .pen
  | cls (c : Str) : Den g U H (.ref (gd c g.K)) (.cls c)
  | er0 {a : Addr} {c : Str} : H a = some (exk0 a (gd c g.K)) → ¬ U a → Den g U H (.ref a) (.er0 c)
  | dct {a : Addr} : H a = some (.dK []) → ¬ U a → Den g U H (.ref a) .dct
  | dic {a : Addr} {kvs : List (Key × V)} {ps : List (Key × D)} : H a = some (.dK kvs) → ¬ U a → kvs.map (·.1) = ps.map (·.1) → DenL g U H (kvs.map (·.2)) (ps.map (·.2)) → Den g U H (.ref a) (.dic ps)
  | dit {a : Addr} {ob : Obj} {kvs : List (List Key × V)} {ps : List (List Key × D)} : H a = some (.frz ob (.dT kvs)) → ¬ U a → kvs.map (·.1) = ps.map (·.1) → DenL g U H (kvs.map (·.2)) (ps.map (·.2)) → Den g U H (.ref a) (.dit ps)
  | dik {a : Addr} {ob : Obj} {kvs : List (Key × V)} {ps : List (Key × D)} : H a = some (.frz ob (.dK kvs)) → ¬ U a → kvs.map (·.1) = ps.map (·.1) → DenL g U H (kvs.map (·.2)) (ps.map (·.2)) → Den g U H (.ref a) (.dik ps)
inductive DenL (g : Gw) (U : Addr → Prop) (H : Hp) : List V → List D → Prop
  | nil : DenL g U H [] []
  | cons {v : V} {vs : List V} {d : D} {ds : List D} : Den g U H v d → DenL g U H vs ds → DenL g U H (v :: vs) (d :: ds)
inductive DenF (g : Gw) (U : Addr → Prop) (H : Hp) : List (Str × V) → List (Str × D) → Prop
  | nil : DenF g U H [] []
  | cons {n : Str} {v : V} {vs : List (Str × V)} {d : D} {ds : List (Str × D)} : Den g U H v d → DenF g U H vs ds → DenF g U H ((n, v) :: vs) ((n, d) :: ds)
end
section
variable {g : Gw} {U U' : Addr → Prop} {H H' : Hp}
def ExtU (U : Addr → Prop) (H H' : Hp) : Prop := ∀ a o, H a = some o → ¬ U a → (∀ ps, o ≠ .tbl ps) → H' a = some o
mutual
theorem Den.ext (e : ExtU U H H') : ∀ {v : V} {d : D}, Den g U H v d → Den g U H' v d
  | _, _, .non => .non
  | _, _, .bl b => .bl b
  | _, _, .int i => .int i
  | _, _, .str x h => .str x h
  | _, _, .tup h n l k => .tup (e _ _ h n (fun _ z => by cases z)) n l (DenL.ext e k)
  | _, _, .tupW h l k nk => .tupW h l (DenL.ext e k) nk
  | _, _, .lst h n l k => .lst (e _ _ h n (fun _ z => by cases z)) n l (DenL.ext e k)
  | _, _, .obj h n k => .obj (e _ _ h n (fun _ z => by cases z)) n (DenF.ext e k)
  | _, _, .err h n h2 n2 k => .err (e _ _ h n (fun _ z => by unfold exk at z; cases z)) n (e _ _ h2 n2 (fun _ z => by cases z)) n2 (DenF.ext e k)
  | _, _, .pen => .pen
  | _, _, .cls c => .cls c
  | _, _, .er0 h n => .er0 (e _ _ h n (fun _ z => by unfold exk0 at z; cases z)) n
  | _, _, .dct h n => .dct (e _ _ h n (fun _ z => by cases z)) n
  | _, _, .dic h n l k => .dic (e _ _ h n (fun _ z => by cases z)) n l (DenL.ext e k)
  | _, _, .dit h n l k => .dit (e _ _ h n (fun _ z => by cases z)) n l (DenL.ext e k)
  | _, _, .dik h n l k => .dik (e _ _ h n (fun _ z => by cases z)) n l (DenL.ext e k)
theorem DenL.ext (e : ExtU U H H') : ∀ {vs : List V} {ds : List D}, DenL g U H vs ds → DenL g U H' vs ds
  | _, _, .nil => .nil
  | _, _, .cons a r => .cons (Den.ext e a) (DenL.ext e r)
theorem DenF.ext (e : ExtU U H H') : ∀ {vs : List (Str × V)} {ds : List (Str × D)}, DenF g U H vs ds → DenF g U H' vs ds
  | _, _, .nil => .nil
  | _, _, .cons a r => .cons (Den.ext e a) (DenF.ext e r)
end
mutual
theorem Den.sub (e : ∀ a, (∃ o, H a = some o) → U' a → U a) : ∀ {v : V} {d : D}, Den g U H v d → Den g U' H v d
  | _, _, .non => .non
  | _, _, .bl b => .bl b
  | _, _, .int i => .int i
  | _, _, .str x h => .str x h
  | _, _, .tup h n l k => .tup h (fun z => n (e _ ⟨_, h⟩ z)) l (DenL.sub e k)
  | _, _, .tupW h l k nk => .tupW h l (DenL.sub e k) nk
  | _, _, .lst h n l k => .lst h (fun z => n (e _ ⟨_, h⟩ z)) l (DenL.sub e k)
  | _, _, .obj h n k => .obj h (fun z => n (e _ ⟨_, h⟩ z)) (DenF.sub e k)
  | _, _, .err h n h2 n2 k => .err h (fun z => n (e _ ⟨_, h⟩ z)) h2 (fun z => n2 (e _ ⟨_, h2⟩ z)) (DenF.sub e k)
  | _, _, .pen => .pen
  | _, _, .cls c => .cls c
  | _, _, .er0 h n => .er0 h (fun z => n (e _ ⟨_, h⟩ z))
  | _, _, .dct h n => .dct h (fun z => n (e _ ⟨_, h⟩ z))
  | _, _, .dic h n l k => .dic h (fun z => n (e _ ⟨_, h⟩ z)) l (DenL.sub e k)
  | _, _, .dit h n l k => .dit h (fun z => n (e _ ⟨_, h⟩ z)) l (DenL.sub e k)
  | _, _, .dik h n l k => .dik h (fun z => n (e _ ⟨_, h⟩ z)) l (DenL.sub e k)
theorem DenL.sub (e : ∀ a, (∃ o, H a = some o) → U' a → U a) : ∀ {vs : List V} {ds : List D}, DenL g U H vs ds → DenL g U' H vs ds
  | _, _, .nil => .nil
  | _, _, .cons a r => .cons (Den.sub e a) (DenL.sub e r)
theorem DenF.sub (e : ∀ a, (∃ o, H a = some o) → U' a → U a) : ∀ {vs : List (Str × V)} {ds : List (Str × D)}, DenF g U H vs ds → DenF g U' H vs ds
  | _, _, .nil => .nil
  | _, _, .cons a r => .cons (Den.sub e a) (DenF.sub e r)
end
theorem DenL.length : ∀ {vs : List V} {ds : List D}, DenL g U H vs ds → vs.length = ds.length
  | _, _, .nil => rfl
  | _, _, .cons _ r => congrArg (· + 1) (DenL.length r)
theorem DenL.append : ∀ {vs ws : List V} {ds es : List D}, DenL g U H vs ds → DenL g U H ws es → DenL g U H (vs ++ ws) (ds ++ es)
  | _, _, _, _, .nil, k => k
  | _, _, _, _, .cons a r, k => .cons a (DenL.append r k)
theorem DenL.get : ∀ {vs : List V} {ds : List D} {i : Nat} {v : V}, DenL g U H vs ds → vs[i]? = some v → ∃ d, ds[i]? = some d ∧ Den g U H v d
  | _, _, i, v, .nil, e => by simp at e
  | _, _, 0, v, .cons a r, e => by simp at e; subst e; exact ⟨_, rfl, a⟩
  | _, _, i + 1, v, .cons a r, e => by
    obtain ⟨d, h1, h2⟩ := DenL.get (i := i) (v := v) r (by simpa using e)
    exact ⟨d, by simpa using h1, h2⟩
theorem DenL.getD : ∀ {vs : List V} {ds : List D} {i : Nat} {d : D}, DenL g U H vs ds → ds[i]? = some d → ∃ v, vs[i]? = some v ∧ Den g U H v d
  | _, _, i, v, .nil, e => by simp at e
  | _, _, 0, v, .cons a r, e => by simp at e; subst e; exact ⟨_, rfl, a⟩
  | _, _, i + 1, v, .cons a r, e => by
    obtain ⟨d, h1, h2⟩ := DenL.getD (i := i) (d := v) r (by simpa using e)
    exact ⟨d, by simpa using h1, h2⟩
theorem DenL.set : ∀ {vs : List V} {ds : List D} (n : Nat) {v : V} {d : D}, Den g U H v d → DenL g U H vs ds → DenL g U H (vs.set n v) (ds.set n d)
  | _, _, _, _, _, _, .nil => .nil
  | _, _, 0, _, _, h, .cons _ r => .cons h r
  | _, _, n + 1, _, _, h, .cons a r => .cons a (DenL.set n h r)
theorem DenF.look : ∀ {vs : List (Str × V)} {ds : List (Str × D)} {n : Str} {d : D}, DenF g U H vs ds → ds.lookup n = some d → ∃ v, vs.lookup n = some v ∧ Den g U H v d
  | _, _, _, _, .nil, e => by cases e
  | _, _, n, d, .cons (n := m) a r, e => by
    simp only [List.lookup] at e ⊢
    cases q : (n == m) with
    | true => rw [q] at e; cases e; exact ⟨_, rfl, a⟩
    | false => rw [q] at e; exact DenF.look r e
theorem DenF.length : ∀ {vs : List (Str × V)} {ds : List (Str × D)}, DenF g U H vs ds → vs.length = ds.length
  | _, _, .nil => rfl
  | _, _, .cons _ r => congrArg (· + 1) (DenF.length r)
end
structure Wd (g : Gw) (H : Hp) (b : Nat) : Prop where
  pen : Pen H g.p g.c b
  tabs : LamX.Tabs g.T H
structure Nt (o : HO) : Prop where
  tbl : ∀ ps, o ≠ .tbl ps
  tup : ∀ xs, o ≠ .tup xs
structure UOk (g : Gw) (U : Addr → Prop) (H : Hp) : Prop where
  p : U g.p
  c : U g.c
  al : ∀ a, U a → ∃ o, H a = some o ∧ Nt o
section
variable {g : Gw} {U U' : Addr → Prop} {H H' H1 H2 : Hp} {b : Nat}
theorem UOk.extU (u : UOk g U H) (f : Fr H H' g.p) : ExtU U H H' := fun a o h n z => f a o h (fun e => n (e ▸ u.p)) z
theorem UOk.fr (u : UOk g U H) (f : Fr H H' g.p) (w : Wd g H' b) : UOk g U H' := ⟨u.p, u.c, fun a ha => by
  by_cases e : a = g.p
  · subst e
    obtain ⟨ns, i, z, h, _⟩ := w.pen
    exact ⟨_, h, (fun _ z => by cases z), (fun _ z => by cases z)⟩
  · obtain ⟨o, h, n⟩ := u.al a ha
    exact ⟨o, f a o h e n.tbl, n⟩⟩
theorem Den.fr (u : UOk g U H) (f : Fr H H' g.p) {v : V} {d : D} (h : Den g U H v d) : Den g U H' v d := h.ext (u.extU f)
theorem DenL.fr (u : UOk g U H) (f : Fr H H' g.p) {v : List V} {d : List D} (h : DenL g U H v d) : DenL g U H' v d := h.ext (u.extU f)
theorem Wd.same (w : Wd g H b) (s : L2.Same H H') : Wd g H' b := ⟨w.pen.same s, w.tabs.ext s⟩
theorem fr_same (s : L2.Same H H') {p : Addr} : Fr H H' p := fun a o h _ _ => s a o h
theorem UOk.new (u : UOk g U H) {a : Addr} (h : H a = none) : ¬ U a := fun z => by
  obtain ⟨o, e, _⟩ := u.al a z
  rw [h] at e
  cases e
end
inductive Ow where
  | l (ds : List D) | d (x : D)
inductive DcR (g : Gw) (U : Addr → Prop) (H : Hp) : HO → D → Prop
  | k {kvs : List (Key × V)} {ps : List (Key × D)} : kvs.map (·.1) = ps.map (·.1) → DenL g U H (kvs.map (·.2)) (ps.map (·.2)) → DcR g U H (.dK kvs) (.dik ps)
  | t {kvs : List (List Key × V)} {ps : List (List Key × D)} : kvs.map (·.1) = ps.map (·.1) → DenL g U H (kvs.map (·.2)) (ps.map (·.2)) → DcR g U H (.dT kvs) (.dit ps)
def OwR (g : Gw) (U : Addr → Prop) (H : Hp) (o : HO) : Ow → Prop
  | .l ds => ∃ vs, o = .lst vs ∧ vs.length ≤ sizeLine ∧ DenL g U H vs ds
  | .d x => DcR g U H o x
theorem OwR.map {g : Gw} {U U' : Addr → Prop} {H H' : Hp} {o : HO} (f : ∀ {vs : List V} {ds : List D}, DenL g U H vs ds → DenL g U' H' vs ds) : ∀ {x : Ow}, OwR g U H o x → OwR g U' H' o x
  | .l ds, ⟨vs, e, l, k⟩ => ⟨vs, e, l, f k⟩
  | .d x, h => by
    cases h with
    | k a b => exact .k a (f b)
    | t a b => exact .t a (f b)
theorem OwR.no {g : Gw} {U : Addr → Prop} {H : Hp} {o : HO} : ∀ {x : Ow}, OwR g U H o x → (∃ vs, o = .lst vs) ∨ (∃ ks, o = .dK ks) ∨ ∃ ks, o = .dT ks
  | .l ds, ⟨vs, e, l, k⟩ => .inl ⟨vs, e⟩
  | .d x, h => by
    cases h with
    | k a b => exact .inr (.inl ⟨_, rfl⟩)
    | t a b => exact .inr (.inr ⟨_, rfl⟩)
theorem OwR.tbl {g : Gw} {U : Addr → Prop} {H : Hp} {o : HO} {x : Ow} (h : OwR g U H o x) : ∀ ps, o ≠ .tbl ps := fun ps e => by
  rcases h.no with ⟨vs, z⟩ | ⟨vs, z⟩ | ⟨vs, z⟩ <;> (rw [e] at z; cases z)
inductive Sl where
  | no | fz (d : D) | ow (ds : Ow) | oi (c : Str) (fs : Fs)
abbrev Env := List Sl
def SlR (g : Gw) (U : Addr → Prop) (H : Hp) (o : Option V) : Sl → Prop
  | .no => True
  | .fz d => ∃ v, o = some v ∧ Den g U H v d
  | .ow ds => ∃ a u, o = some (.ref a) ∧ H a = some u ∧ OwR g U H u ds ∧ U a ∧ a ≠ g.p ∧ a ≠ g.c
  | .oi c fs => ∃ a dx fvs, o = some (.ref a) ∧ H a = some (.ins (gd c g.K) dx fvs) ∧ DenF g U H fvs fs ∧ U a ∧ a ≠ g.p ∧ a ≠ g.c
def OwnAt (σ : L2.St) (ε : Env) (i : Nat) (a : Addr) : Prop := σ[i]? = some (some (.ref a)) ∧ ((∃ ds, ε[i]? = some (.ow ds)) ∨ ∃ c fs, ε[i]? = some (.oi c fs))
structure Rel (g : Gw) (U : Addr → Prop) (H : Hp) (σ : L2.St) (ε : Env) : Prop where
  len : σ.length = ε.length
  at_ : ∀ (i : Nat) (s : Sl), ε[i]? = some s → ∃ o, σ[i]? = some o ∧ SlR g U H o s
  apart : ∀ (i j : Nat) (a : Addr), i ≠ j → OwnAt σ ε i a → OwnAt σ ε j a → False
section
variable {g : Gw} {U U' : Addr → Prop} {H H' H1 H2 : Hp} {b : Nat} {σ : L2.St} {ε : Env}
theorem extU_of (hp : U g.p) (f : Fr H H' g.p) : ExtU U H H' := fun a o h n z => f a o h (fun e => n (e ▸ hp)) z
theorem SlR.frp (hp : U g.p) (f : Fr H H' g.p) {o : Option V} : ∀ {s : Sl}, SlR g U H o s → SlR g U H' o s
  | .no, _ => trivial
  | .fz d, ⟨v, e, h⟩ => ⟨v, e, h.ext (extU_of hp f)⟩
  | .ow ds, ⟨a, vs, e, h, k, ua, n1, n2⟩ => ⟨a, vs, e, f _ _ h n1 k.tbl, k.map (fun q => q.ext (extU_of hp f)), ua, n1, n2⟩
  | .oi c fs, ⟨a, dx, fvs, e, h, k, ua, n1, n2⟩ => ⟨a, dx, fvs, e, f _ _ h n1 (fun _ z => by cases z), k.ext (extU_of hp f), ua, n1, n2⟩
theorem SlR.fr (u : UOk g U H) (f : Fr H H' g.p) {o : Option V} {s : Sl} (h : SlR g U H o s) : SlR g U H' o s := h.frp u.p f
theorem Rel.frp (r : Rel g U H σ ε) (hp : U g.p) (f : Fr H H' g.p) : Rel g U H' σ ε := ⟨r.len, fun i s e => by
  obtain ⟨o, h1, h2⟩ := r.at_ i s e
  exact ⟨o, h1, h2.frp hp f⟩, r.apart⟩
theorem Rel.fr (r : Rel g U H σ ε) (u : UOk g U H) (f : Fr H H' g.p) : Rel g U H' σ ε := ⟨r.len, fun i s e => by
  obtain ⟨o, h1, h2⟩ := r.at_ i s e
  exact ⟨o, h1, h2.fr u f⟩, r.apart⟩
mutual
theorem Den.grow {x : Addr} (n : H x = none) : ∀ {v : V} {d : D}, Den g U H v d → Den g (fun a => U a ∨ a = x) H v d
  | _, _, .non => .non
  | _, _, .bl b => .bl b
  | _, _, .int i => .int i
  | _, _, .str x h => .str x h
  | _, _, .tup h k l r => .tup h (fun z => z.elim k (ne_of_none h n)) l (DenL.grow n r)
  | _, _, .tupW h l r nk => .tupW h l (DenL.grow n r) nk
  | _, _, .lst h k l r => .lst h (fun z => z.elim k (ne_of_none h n)) l (DenL.grow n r)
  | _, _, .obj h k r => .obj h (fun z => z.elim k (ne_of_none h n)) (DenF.grow n r)
  | _, _, .err h k h2 k2 r => .err h (fun z => z.elim k (ne_of_none h n)) h2 (fun z => z.elim k2 (ne_of_none h2 n)) (DenF.grow n r)
  | _, _, .pen => .pen
  | _, _, .cls c => .cls c
  | _, _, .er0 h k => .er0 h (fun z => z.elim k (ne_of_none h n))
  | _, _, .dct h k => .dct h (fun z => z.elim k (ne_of_none h n))
  | _, _, .dic h k l r => .dic h (fun z => z.elim k (ne_of_none h n)) l (DenL.grow n r)
  | _, _, .dit h k l r => .dit h (fun z => z.elim k (ne_of_none h n)) l (DenL.grow n r)
  | _, _, .dik h k l r => .dik h (fun z => z.elim k (ne_of_none h n)) l (DenL.grow n r)
theorem DenL.grow {x : Addr} (n : H x = none) : ∀ {vs : List V} {ds : List D}, DenL g U H vs ds → DenL g (fun a => U a ∨ a = x) H vs ds
  | _, _, .nil => .nil
  | _, _, .cons a r => .cons (Den.grow n a) (DenL.grow n r)
theorem DenF.grow {x : Addr} (n : H x = none) : ∀ {vs : List (Str × V)} {ds : List (Str × D)}, DenF g U H vs ds → DenF g (fun a => U a ∨ a = x) H vs ds
  | _, _, .nil => .nil
  | _, _, .cons a r => .cons (Den.grow n a) (DenF.grow n r)
end
theorem SlR.grow {x : Addr} (n : H x = none) {o : Option V} : ∀ {s : Sl}, SlR g U H o s → SlR g (fun a => U a ∨ a = x) H o s
  | .no, _ => trivial
  | .fz d, ⟨v, e, h⟩ => ⟨v, e, h.grow n⟩
  | .ow ds, ⟨a, vs, e, h, k, ua, n1, n2⟩ => ⟨a, vs, e, h, k.map (fun q => q.grow n), .inl ua, n1, n2⟩
  | .oi c fs, ⟨a, dx, fvs, e, h, k, ua, n1, n2⟩ => ⟨a, dx, fvs, e, h, k.grow n, .inl ua, n1, n2⟩
theorem Rel.grow {x : Addr} (r : Rel g U H σ ε) (n : H x = none) : Rel g (fun a => U a ∨ a = x) H σ ε := ⟨r.len, fun i s e => by
  obtain ⟨o, h1, h2⟩ := r.at_ i s e
  exact ⟨o, h1, h2.grow n⟩, r.apart⟩
def okP (g : Gw) (U : Addr → Prop) (H : Hp) (Q : VK) : D → Nat → Prop := fun d b => ∀ v H', Den g U H' v d → Wd g H' b → Fr H H' g.p → Q v H'
def exP (g : Gw) (U : Addr → Prop) (E : XK) (H : Hp) : Str → Fs → Nat → Prop := fun c fs b => ∀ dd fvs H', H' dd = some (.xd fvs) → ¬ U dd → DenF g U H' fvs fs → Wd g H' b → Fr H H' g.p → E (.ref (gd c g.K)) (some dd) H'
theorem exP.fr {E : XK} {c : Str} {fs : Fs} (f : Fr H H1 g.p) (h : exP g U E H c fs b) : exP g U E H1 c fs b := fun dd fvs H' h1 h2 h3 h4 h5 => h dd fvs H' h1 h2 h3 h4 (f.trans h5)
theorem okP.fr {Q : VK} {d : D} (f : Fr H H1 g.p) (h : okP g U H Q d b) : okP g U H1 Q d b := fun v H' h1 h2 h3 => h v H' h1 h2 (f.trans h3)
theorem okP.here {Q : VK} {d : D} {v : V} (h : okP g U H Q d b) (w : Wd g H b) (dn : Den g U H v d) : Q v H := h v H dn w Fr.refl
variable {E : XK} {ta tb tc : TE} {ma mb : Tr D}
def asB : D → Tr Bool
  | .bl b => .ok b
  | _ => .bad
end
end Gp
end
section
namespace Gp
open PySem PySem.Spec PyProof.Rows L2 Gh
inductive Fl (W L : Type) where
  | nx (w : W) | rt (d : D) | bk (l : L) | ct (l : L)
def FrM (g : Gw) (Mt : Addr → Prop) (H H' : Hp) : Prop := ∀ a o, H a = some o → a ≠ g.p → ¬ Mt a → (∀ ps, o ≠ .tbl ps) → H' a = some o
def OiM (Mt U0 : Addr → Prop) (i : Nat) (a : Addr) : Prop := (i = 0 → Mt a) ∧ (i ≠ 0 → ¬ U0 a)
structure Stt (g : Gw) (Mt U0 : Addr → Prop) (H0 : Hp) (U : Addr → Prop) (σ : L2.St) (H : Hp) (b : Nat) (ε : Env) : Prop where
  rel : Rel g U H σ ε
  wd : Wd g H b
  uok : UOk g U H
  sub : ∀ a, U0 a → U a
  own : ∀ i a, OwnAt σ ε i a → Mt a ∨ ∀ o, H0 a = some o → ∃ ps, o = .tbl ps
  ext : FrM g Mt H0 H
  nu0 : ∀ (i : Nat) (ds : Ow) (a : Addr), ε[i]? = some (.ow ds) → σ[i]? = some (some (.ref a)) → ¬ U0 a
  oim : ∀ (i : Nat) (c : Str) (fs : Fs) (a : Addr), True → ε[i]? = some (.oi c fs) → σ[i]? = some (some (.ref a)) → OiM Mt U0 i a
section
variable {g : Gw} {Mt U0 U U' : Addr → Prop} {H0 H H' H1 H2 : Hp} {b b1 : Nat} {σ : L2.St} {ε ε' : Env} {E : XK} {W L W' : Type}
structure Ev (U : Addr → Prop) (H : Hp) (U' : Addr → Prop) (H' : Hp) : Prop where
  keep : ∀ a o, H a = some o → ¬ U a → (∀ ps, o ≠ .tbl ps) → H' a = some o
  out : ∀ a o, H a = some o → ¬ U a → (∀ ps, o ≠ .tbl ps) → ¬ U' a
theorem Ev.refl : Ev U H U H := ⟨fun _ _ h _ _ => h, fun _ _ _ n _ => n⟩
theorem Ev.trans {U1 : Addr → Prop} {H1 : Hp} (h : Ev U H U1 H1) (k : Ev U1 H1 U' H') : Ev U H U' H' := ⟨fun a o e n t => k.keep a o (h.keep a o e n t) (h.out a o e n t) t, fun a o e n t => k.out a o (h.keep a o e n t) (h.out a o e n t) t⟩
theorem UOk.ev (u : UOk g U H) (f : Fr H H' g.p) : Ev U H U H' := ⟨fun a o e n t => f a o e (fun z => n (z ▸ u.p)) t, fun _ _ _ n _ => n⟩
mutual
theorem Den.ev (e : Ev U H U' H') : ∀ {v : V} {d : D}, Den g U H v d → Den g U' H' v d
  | _, _, .non => .non
  | _, _, .bl b => .bl b
  | _, _, .int i => .int i
  | _, _, .str x h => .str x h
  | _, _, .tup h n l k => .tup (e.keep _ _ h n (fun _ z => by cases z)) (e.out _ _ h n (fun _ z => by cases z)) l (DenL.ev e k)
  | _, _, .tupW h l k nk => .tupW h l (DenL.ev e k) nk
  | _, _, .lst h n l k => .lst (e.keep _ _ h n (fun _ z => by cases z)) (e.out _ _ h n (fun _ z => by cases z)) l (DenL.ev e k)
  | _, _, .obj h n k => .obj (e.keep _ _ h n (fun _ z => by cases z)) (e.out _ _ h n (fun _ z => by cases z)) (DenF.ev e k)
  | _, _, .err h n h2 n2 k => .err (e.keep _ _ h n (fun _ z => by unfold exk at z; cases z)) (e.out _ _ h n (fun _ z => by unfold exk at z; cases z)) (e.keep _ _ h2 n2 (fun _ z => by cases z)) (e.out _ _ h2 n2 (fun _ z => by cases z)) (DenF.ev e k)
  | _, _, .pen => .pen
  | _, _, .cls c => .cls c
  | _, _, .er0 h n => .er0 (e.keep _ _ h n (fun _ z => by unfold exk0 at z; cases z)) (e.out _ _ h n (fun _ z => by unfold exk0 at z; cases z))
  | _, _, .dct h n => .dct (e.keep _ _ h n (fun _ z => by cases z)) (e.out _ _ h n (fun _ z => by cases z))
  | _, _, .dic h n l k => .dic (e.keep _ _ h n (fun _ z => by cases z)) (e.out _ _ h n (fun _ z => by cases z)) l (DenL.ev e k)
  | _, _, .dit h n l k => .dit (e.keep _ _ h n (fun _ z => by cases z)) (e.out _ _ h n (fun _ z => by cases z)) l (DenL.ev e k)
  | _, _, .dik h n l k => .dik (e.keep _ _ h n (fun _ z => by cases z)) (e.out _ _ h n (fun _ z => by cases z)) l (DenL.ev e k)
theorem DenL.ev (e : Ev U H U' H') : ∀ {vs : List V} {ds : List D}, DenL g U H vs ds → DenL g U' H' vs ds
  | _, _, .nil => .nil
  | _, _, .cons a r => .cons (Den.ev e a) (DenL.ev e r)
theorem DenF.ev (e : Ev U H U' H') : ∀ {vs : List (Str × V)} {ds : List (Str × D)}, DenF g U H vs ds → DenF g U' H' vs ds
  | _, _, .nil => .nil
  | _, _, .cons a r => .cons (Den.ev e a) (DenF.ev e r)
end
theorem FrM.trans (h : FrM g Mt H0 H) (f : Fr H H' g.p) : FrM g Mt H0 H' := fun a o e n1 n2 n3 => f a o (h a o e n1 n2 n3) n1 n3
theorem Stt.fr (s : Stt g Mt U0 H0 U σ H b ε) (f : Fr H H' g.p) (w : Wd g H' b1) : Stt g Mt U0 H0 U σ H' b1 ε := ⟨s.rel.fr s.uok f, w, s.uok.fr f w, s.sub, s.own, s.ext.trans f, s.nu0, s.oim⟩
def flP (g : Gw) (Mt U0 : Addr → Prop) (H0 : Hp) (U : Addr → Prop) (H : Hp) (D : Ends) (env : W → Env) (envL : L → Env) : Fl W L → Nat → Prop
  | .nx w, b => ∀ U' σ' H', Ev U H U' H' → Stt g Mt U0 H0 U' σ' H' b (env w) → D.nx σ' H'
  | .rt d, b => ∀ v H, Den g U0 H v d → Wd g H b → FrM g Mt H0 H → D.rt v H
  | .bk w, b => ∀ U' σ' H', Ev U H U' H' → Stt g Mt U0 H0 U' σ' H' b (envL w) → D.bk σ' H'
  | .ct w, b => ∀ U' σ' H', Ev U H U' H' → Stt g Mt U0 H0 U' σ' H' b (envL w) → D.ct σ' H'
theorem flP.ev {U1 : Addr → Prop} {H1 : Hp} {D : Ends} {env : W → Env} {envL : L → Env} (e : Ev U H U1 H1) : ∀ {f : Fl W L}, flP g Mt U0 H0 U H D env envL f b → flP g Mt U0 H0 U1 H1 D env envL f b
  | .nx w, h => fun U' σ' H' e1 => h U' σ' H' (e.trans e1)
  | .rt d, h => h
  | .bk w, h => fun U' σ' H' e1 => h U' σ' H' (e.trans e1)
  | .ct w, h => fun U' σ' H' e1 => h U' σ' H' (e.trans e1)
def exS (g : Gw) (Mt U0 : Addr → Prop) (H0 : Hp) (E : XK) : Str → Fs → Nat → Prop := fun c fs b => ∀ dd fvs H, H dd = some (.xd fvs) → ¬ U0 dd → DenF g U0 H fvs fs → Wd g H b → FrM g Mt H0 H → E (.ref (gd c g.K)) (some dd) H
theorem exS.exP (s : Stt g Mt U0 H0 U σ H b ε) {c : Str} {fs : Fs} (h : exS g Mt U0 H0 E c fs b1) : exP g U E H c fs b1 := fun dd fvs H' h1 h2 h3 h4 h5 =>
  h dd fvs H' h1 (fun z => h2 (s.sub _ z)) (h3.sub fun a _ z => s.sub a z) h4 (s.ext.trans h5)
theorem ownAt_set {i j : Nat} {v : V} {d : D} {a : Addr} (h : OwnAt (σ.set i (some v)) (ε.set i (.fz d)) j a) : i ≠ j ∧ OwnAt σ ε j a := by
  obtain ⟨h1, h2⟩ := h
  by_cases e : i = j
  · subst e
    exfalso
    rcases h2 with ⟨ds, h2⟩ | ⟨c, fs, h2⟩
    · rw [List.getElem?_set_self' ] at h2
      cases q : ε[i]? with
      | none => rw [q] at h2; cases h2
      | some z => rw [q] at h2; cases h2
    · rw [List.getElem?_set_self'] at h2
      cases q : ε[i]? with
      | none => rw [q] at h2; cases h2
      | some z => rw [q] at h2; cases h2
  · rw [List.getElem?_set_ne e] at h1 h2
    exact ⟨e, h1, h2⟩
theorem Rel.set (r : Rel g U H σ ε) {v : V} {d : D} (i : Nat) (h : Den g U H v d) : Rel g U H (σ.set i (some v)) (ε.set i (.fz d)) := by
  refine ⟨by rw [List.length_set, List.length_set]; exact r.len, fun j s e => ?_, fun j k a n h1 h2 => r.apart j k a n (ownAt_set h1).2 (ownAt_set h2).2⟩
  by_cases q : i = j
  · subst q
    have hl : i < ε.length := by
      cases z : ε[i]? with
      | none => rw [List.getElem?_set_self', z] at e; cases e
      | some w => exact (List.getElem?_eq_some_iff.mp z).1
    rw [List.getElem?_set_self hl] at e
    cases e
    exact ⟨some v, List.getElem?_set_self (by rw [r.len]; exact hl), v, rfl, h⟩
  · rw [List.getElem?_set_ne q] at e ⊢
    exact r.at_ j s e
theorem Stt.set (s : Stt g Mt U0 H0 U σ H b ε) {v : V} {d : D} (i : Nat) (h : Den g U H v d) : Stt g Mt U0 H0 U (σ.set i (some v)) H b (ε.set i (.fz d)) :=
  ⟨s.rel.set i h, s.wd, s.uok, s.sub, fun j a o => s.own j a (ownAt_set o).2, s.ext, fun j ds a e1 e2 => (by
    obtain ⟨_, e3, e4⟩ := ownAt_set (a := a) (j := j) ⟨e2, .inl ⟨ds, e1⟩⟩
    rcases e4 with ⟨ds', e4⟩ | ⟨_, _, e4⟩
    · exact s.nu0 j ds' a e4 e3
    · by_cases q : i = j
      · subst q
        cases z : ε[i]? with
        | none => rw [List.getElem?_set_self', z] at e1; cases e1
        | some w => rw [List.getElem?_set_self', z] at e1; cases e1
      · rw [List.getElem?_set_ne q, e4] at e1
        cases e1), fun j c fs a j0 e1 e2 => by
    by_cases q : i = j
    · subst q
      cases z : ε[i]? with
      | none => rw [List.getElem?_set_self', z] at e1; cases e1
      | some w => rw [List.getElem?_set_self', z] at e1; cases e1
    · rw [List.getElem?_set_ne q] at e1 e2
      exact s.oim j c fs a j0 e1 e2⟩
inductive Le : Env → Env → Prop
  | nil : Le [] []
  | s {x : Sl} {a b : Env} : Le a b → Le (x :: a) (x :: b)
  | n {x : Sl} {a b : Env} : Le a b → Le (.no :: a) (x :: b)
theorem Le.refl : ∀ ε : Env, Le ε ε
  | [] => .nil
  | _ :: r => .s (Le.refl r)
theorem Le.len : ∀ {a b : Env}, Le a b → a.length = b.length
  | _, _, .nil => rfl
  | _, _, .s h => congrArg (· + 1) h.len
  | _, _, .n h => congrArg (· + 1) h.len
theorem Le.get : ∀ {a b : Env}, Le a b → ∀ {i : Nat} {s : Sl}, a[i]? = some s → s = .no ∧ (∃ z, b[i]? = some z) ∨ b[i]? = some s
  | _, _, .nil, _, _, e => by simp at e
  | _, _, .s h, 0, _, e => .inr e
  | _, _, .n h, 0, _, e => by simp at e; exact .inl ⟨e.symm, _, rfl⟩
  | _, _, .s h, i + 1, z, e => by simpa using h.get (i := i) (s := z) (by simpa using e)
  | _, _, .n h, i + 1, z, e => by simpa using h.get (i := i) (s := z) (by simpa using e)
variable {env : W → Env} {envL : L → Env} {env' : W' → Env} {u ta tb : TS} {te : TE} {me : Tr D}
def ul1 {α : Type} (k : D → Tr α) (ds : List D) : Tr α := match ds with
  | [x] => k x
  | _ => .bad
section
variable {α : Type} {P : α → Nat → Prop} {X : Str → Fs → Nat → Prop} {ds : List D}
end
def SX (g : Gw) (E : XK) (ε : Env) (d : D) (gt : TG) (tb : TS) (env : W → Env) (envL : L → Env) (m : Tr (Fl W L)) : Prop := ∀ Mt U0 H0 U D σ H b v, Stt g Mt U0 H0 U σ H b ε → Den g U H v d → Al (flP g Mt U0 H0 U H D env envL) (exS g Mt U0 H0 E) m b → gt v σ H fun σ2 H2 => tb D σ2 H2
end
end Gp
end
section
namespace Gp
open PySem PySem.Spec PyProof.Rows L2 Gh
section
variable {g : Gw} {Mt U0 U U' : Addr → Prop} {H0 H H' H1 H2 : Hp} {b b1 : Nat} {σ : L2.St} {ε ε' : Env} {E : XK} {W L W' : Type}
variable {env : W → Env} {envL : L → Env} {env' : W' → Env} {u ta tb : TS} {te : TE} {me : Tr D}
abbrev EF : XK := fun _ _ _ => False
theorem exP.F {c : Str} {fs : Fs} (h : False) : exP g U EF H c fs b := h.elim
end
end Gp
end
section
namespace Gp
open PySem PySem.Spec PyProof.Rows L2 Gh
section
variable {g : Gw} {Mt U0 U U' : Addr → Prop} {H0 H H' H1 H2 : Hp} {b b1 : Nat} {σ : L2.St} {ε ε' : Env} {E : XK} {W L W' : Type}
variable {env : W → Env} {envL : L → Env} {env' : W' → Env} {u ta tb : TS} {te : TE} {me : Tr D}
def fin (m : Tr (Fl Unit Empty)) : Tr D := bd m fun f => match f with
  | .nx _ => .ok .non
  | .rt d => .ok d
  | .bk e => nomatch e
  | .ct e => nomatch e
def isO {α : Type} (c : Str) (o : D) (k : Fs → Tr α) : Tr α := match o with
  | .obj c' fs => if c' = c then k fs else .bad
  | _ => .bad
end
end Gp
end
section
namespace Gp
open PySem PySem.Spec PyProof.Rows L2 Gh
mutual
def toPy : D → Option PyData
  | .non => some .none
  | .bl b => some (.bool b)
  | .int i => some (.int i)
  | .str x => some (.str x)
  | .tup ds => (toPyL ds).map .tuple
  | .lst ds => (toPyL ds).map .list
  | .obj _ _ => none
  | .err _ _ => none
  | .pen => none
  | .cls _ => none
  | .er0 _ => none
  | .dct => none
  | .dic _ => none
  | .dit _ => none
  | .dik _ => none
def toPyL : List D → Option (List PyData)
  | [] => some []
  | d :: ds => match toPy d, toPyL ds with
    | some e, some es => some (e :: es)
    | _, _ => none
end
section
variable {g : Gw} {U : Addr → Prop} {H H' H1 : Hp} {b : Nat} {E : XK} {Q : VK}
def iiD (f : Int → Int → D) (x y : D) : Tr D := match x, y with
  | .int i, .int j => .ok (f i j)
  | _, _ => .bad
def ltD : D → D → Tr D := iiD fun i j => .bl (decide (i < j))
def negD (x : D) : Tr D := match x with
  | .int i => .ok (.int (-i))
  | _ => .bad
end
end Gp
end
section
namespace Gp
open PySem PySem.Spec PyProof.Rows L2 Gh
section
variable {g : Gw} {Mt U0 U U' : Addr → Prop} {H0 H H' H1 H2 : Hp} {b b1 : Nat} {σ : L2.St} {ε ε' : Env} {E : XK} {Q : VK} {W L W' : Type}
variable {env : W → Env} {envL : L → Env} {env' : W' → Env} {u ta tb : TS} {te : TE} {me : Tr D}
def opt {α : Type} (o : Option α) : Tr α := match o with
  | some a => .ok a
  | none => .bad
def kdN : D → Option String
  | .non => some "NoneType"
  | .bl _ => some "bool"
  | .int _ => some "int"
  | .str _ => some "str"
  | .lst _ => some "list"
  | .tup _ => some "tuple"
  | .dct => some "dict"
  | .dic _ => some "dict"
  | _ => none
def isF (kb : String → Option Bool) (tab etab : List (Str × Bool)) (d : D) : Option Bool := match d with
  | .obj c _ => tab.lookup c
  | .err c _ => etab.lookup c
  | .er0 c => etab.lookup c
  | d => (kdN d).bind kb
def shwD (d : D) : Option Str := match d with
  | .non => some "None"
  | .bl b => some (if b then "True" else "False")
  | .int i => if i.natAbs.log2 < 1920 then some (toString i) else none
  | .str x => if (reprText x).length ≤ sizeLine then some (reprText x) else none
  | d => match toPy d with
    | some e => if e.showable = true ∧ e.hasDict = false ∧ e.depth ≤ 100 ∧ e.shown.length ≤ sizeLine then some e.shown else none
    | none => none
def reprD (d : D) : Tr D := match shwD d with
  | some x => if x.length ≤ sizeLine then .ok (.str x) else .bad
  | none => .bad
end
end Gp
end
section
namespace Gp
open PySem PySem.Spec PyProof.Rows L2 Gh
section
variable {g : Gw} {Mt U0 U U' : Addr → Prop} {H0 H H' H1 H2 : Hp} {b b1 : Nat} {σ : L2.St} {ε ε' : Env} {E : XK} {Q : VK} {W L W' : Type}
variable {env : W → Env} {envL : L → Env} {env' : W' → Env} {u ta tb : TS} {te : TE} {me : Tr D}
theorem look_cons {α : Type} {a c : Str} {x k : α} {r : List (Str × α)} (h : ((a, x) :: r).lookup c = some k) : (c = a ∧ k = x) ∨ r.lookup c = some k := by
  simp only [List.lookup] at h
  split at h
  · rename_i z
    cases h
    exact .inl ⟨beq_iff_eq.mp z, rfl⟩
  · exact .inr h
section
variable {K : PySem.W.Frag} {T : List (Addr × Str)} {N : List Str} {cn : Str} {vs : List V} {t : TS} {envI : Fs → Env}
end
def Yes (F : Tr D) : Prop := Al (fun d _ => d = .bl true) (fun _ _ _ => False) F 1000000
def eqO (c : Str) (f : D → Bool) (F : List D → Tr D) (x y : D) : Tr D := isO c x fun _ => if f y = true then F [x, y] else .bad
end
end Gp
namespace Gp
open PySem PySem.Spec PyProof.Rows L2 Gh
section
variable {g : Gw}
end
end Gp
namespace Gp
open PySem PySem.Spec PyProof.Rows L2 Gh
end Gp
end
section
namespace Gp
open PySem PySem.Spec PyProof.Rows L2 Gh
structure SupX (X : Cx) (D f cda cc : Addr) (ar : Str) : Prop where
  fu : X.env.func = some f
  co : X.env.code = .ref cda
  lkf : ∃ oc od fd osl a, X.K.lookup f = some ⟨oc, od, .func fd, osl⟩ ∧ (fd.params.posonlyargs ++ fd.params.args).head? = some a ∧ a.arg = ar
  lkc : ∃ ccl cdd vs ccs file tf, X.K.lookup cda = some ⟨ccl, cdd, .fields vs, ccs⟩ ∧ vs[2]? = some (.str file tf) ∧ ((X.prog.main.file : Str) == file) = true
  top : (X.prog.main.scope.names.lookup ("super" : Str)).isSome = false
  ks : X.env.kindOf "super" = some .globalImplicit
  kc : X.env.kindOf "__class__" = some .free
  cell : X.env.cells.lookup ("__class__" : Str) = some cc
  lkl : ∃ cl cld csl, X.K.lookup cc = some ⟨cl, cld, .cell (some (.ref D)), csl⟩
  cD : ∃ cd, PySem.W.clsIn X.K D = some cd
  mg : X.mg "super" = none
  st : PySem.W.nsIn X.K cStatics "thirdparty.any" = some none
  n0 : X.N[0]? = some ar
  ka : X.env.kindOf ar = some .local
structure SupC (K : PySem.W.Frag) (C D : Addr) (m : Str) (f2 : Addr) : Prop where
  sub : PySem.W.mroIn K C (.ref D) = some true
  sup : PySem.W.ks_superIn K C D m = some (some (.ref f2))
  ty : PySem.W.typeIn K (.ref f2) = some (.type "function")
  fn : PySem.W.fnIn K f2 = true
theorem sup_run {X : Cx} {D f cda cc f2 : Addr} {ar m : Str} {body : List Stmt} {p0 p1 apos pos epos : Pos} {e : Expr} {es : List Expr} {ta : TA} {CX : CXT} {k : Nat} {dvs : List V} {sp : Sp} {E : XK} {pl : Sem Bool} {pins : List (Addr × Obj)} {s : Shared} {σ : L2.St} {H : Hp} {Dn : L2.St → Hp → Prop}
    (S : SupX X D f cda cc ar) (hm : (m == ("__class__" : Str)) = false) (ha : PA X (e :: es) ta) (G : PromOX X CX k f2 dvs sp) (hr : Room k X.A) (hx : Passes CX X E) (I : Inv X pins σ H s)
    (h : ∃ a C dx fs, σ[0]? = some (some (.ref a)) ∧ H a = some (.ins C dx fs) ∧ SupC X.K C D m f2 ∧ ta σ H fun vs H1 => sp (.ref a :: (vs ++ dvs)) H1 (fun _ H2 => Dn σ H2) E)
    (hst : starEach (e :: es) X.env = (false, eval e X.env) :: starEach es X.env := by rfl) (hpl : (backTo pos (starEach es X.env)).any (·.1) = false := by rfl)
    (he : eval (.Call (.Attribute (.Call (.Name "super" p0) [] [] p1) m apos) (e :: es) [] pos) X.env = (do
      let ov ← attributeBase (.Call (.Name "super" p0) [] [] p1) m X.env (eval (.Call (.Name "super" p0) [] [] p1) X.env)
      standAt apos.atName
      let (f, first) ← holding [ov] (getMethod ov m pl)
      callWith pos f first (backTo pos (starEach (e :: es) X.env)) []) := by rfl)
    (hsw : swapsWith (.Call (.Attribute (.Call (.Name "super" p0) [] [] p1) m apos) (e :: es) [] pos) none epos.line X.env = pure false := by rfl) :
    _root_.PySem.wpAt (model X.prog X.w) X.A (.func body X.env) (exec (.Expr (.Call (.Attribute (.Call (.Name "super" p0) [] [] p1) m apos) (e :: es) [] pos) epos) X.env) (fun fl s' => fl = .next ∧ ∃ H', Inv X pins σ H' s' ∧ Dn σ H') X.xe s := by
  obtain ⟨a, C, dx, fs, h0, hi, sc, q⟩ := h
  have KX := I.kIn
  obtain ⟨oc, od, fd, osl, ag, lkf, hp, rfl⟩ := S.lkf
  obtain ⟨ccl, cdd, vs, ccs, file, tf, lkc, hvs, hfile⟩ := S.lkc
  obtain ⟨cl, cld, csl, lkl⟩ := S.lkl
  obtain ⟨cdD, hD⟩ := S.cD
  obtain ⟨ox, od', J⟩ := ins_look I hi
  obtain ⟨oD, hD1, hD2⟩ : ∃ oD, s.heap.get? D = some oD ∧ oD.data = .cls cdD := by
    unfold PySem.W.clsIn at hD
    split at hD
    · rename_i ho
      cases hD
      exact ⟨_, KX _ _ ho, rfl⟩
    · cases hD
  have nc : ∀ c, ox.data ≠ .cls c := fun c e => by
    have := J.no
    unfold PySem.W.notCls at this
    rw [e] at this
    exact Bool.noConfusion this
  refine ks_wpAt_Expr_any (ks_wpAt_MethodCall (pl := pl) (ks_wpAt_super_base S.ks S.kc hm S.fu (KX _ _ lkf) rfl hp S.co (KX _ _ lkc) rfl hvs hfile S.top ?_) he) I.quiet hsw
  obtain ⟨mb, b1, b2⟩ := I.mod.blt
  refine PySem.W.ks_loadName_global I.ok.kind S.ks (Calls.loadGlobal_builtin (by rw [I.ok.glob]; exact I.mod.glob.keeps I.bk) S.mg (by rw [I.ok.blt]; exact b1.keeps I.bk) ((b2 "super" (by decide)).trans (show bootBuiltins "super" = some (.type "super") by decide +kernel)) ⟨rfl, ?_⟩)
  refine wpAny_loadName_free I.ok.kind S.kc S.cell ⟨_, KX _ _ lkl, rfl⟩ ?_
  obtain ⟨mm, hn, hl⟩ := I.loc
  obtain ⟨u, ru, hu⟩ := hl 0 ag.arg (.ref a) S.n0 h0 (.inl S.ka)
  have eu : u = Value.ref a := ru
  subst eu
  have hv : mm ag.arg = some (.ref a) := by
    rcases hu with z | ⟨z, _⟩
    · exact z.2
    · rcases z with z | z <;> rw [S.ka] at z <;> cases z
  refine wpAny_loadName_local I.ok.kind S.ka hn hv ?_
  obtain ⟨hh, g, d, t, os⟩ := s
  refine ks_wpAny_isType_cls hD1 hD2 ⟨rfl, ?_⟩
  refine ks_wpAny_call_super hD1 hD2 J.at_ J.cls nc (PySem.W.looks_mroIn KX sc.sub) (fun h1 e1 k1 => ?_)
  cases hcC : PySem.W.clsIn X.K C with
  | none =>
    have z := sc.sup
    unfold PySem.W.ks_superIn at z
    rw [hcC] at z
    cases z
  | some cdC =>
    have K1 : X.K.In h1 := KX.keeps k1
    obtain ⟨of, hof, hofc⟩ : ∃ of, h1.get? f2 = some of ∧ of.cls = .type "function" := by
      have ht' : (X.K.lookup f2).map (·.cls) = some (.type "function") := sc.ty
      cases z : X.K.lookup f2 with
      | none => rw [z] at ht'; cases ht'
      | some of => rw [z] at ht'; exact ⟨of, K1 _ _ z, Option.some.inj ht'⟩
    have hsup := sc.sup
    unfold PySem.W.ks_superIn at hsup
    rw [hcC] at hsup
    refine ks_wpAny_getMethod_super e1 (PySem.W.looks_opaque K1 S.st) (l₀ := cdC.mro) ?_ rfl K1 hsup hof hofc (PySem.W.ks_ne KX J hcC) hm ?_
    · exact fun A Q E s k q => wpAny_bind ((PySem.W.looks_clsIn K1 hcC) A _ E s k (wpAny_pure q))
    · have k2 : ∀ b o, hh.get? b = some o → (h1.push { cls := .type "method", data := .fields #[.ref f2, .ref a] }).get? b = some o := fun b o eb => Heap.get?_push_of_some _ (k1 b o eb)
      have I2 : Inv X pins σ H ⟨h1.push { cls := .type "method", data := .fields #[.ref f2, .ref a] }, g, d, t + 1, os⟩ := I.kept (t' := t + 1) k2
      have hsz : hh.objs.size ≤ h1.objs.size := by
        have := Heap.lt_size e1
        exact Nat.le_of_lt this
      have fp := I.fpOk (H' := H) (b := h1.objs.size) hsz (I.hok.fresh hsz)
      have hq1 : (h1.push { cls := .type "method", data := .fields #[.ref f2, .ref a] }).get? h1.objs.size = some (PySem.W.methodObj (.ref f2) (.ref a)) := Heap.get?_push_size _ rfl
      have I3 : Inv X ((h1.objs.size, PySem.W.methodObj (.ref f2) (.ref a)) :: pins) σ H ⟨h1.push { cls := .type "method", data := .fields #[.ref f2, .ref a] }, g, d, t + 1, os⟩ := I2.pins_of fun p hp => by
        rcases List.mem_cons.mp hp with rfl | hp
        · exact ⟨hq1, fp.1, fp.2.1, fp.2.2.1, fun v z => by cases z⟩
        · exact I2.pin p (List.mem_append_right _ hp)
      show wpAny _ _ (callWith pos (.ref h1.objs.size) [] (backTo pos (starEach (e :: es) X.env)) []) _ _ _
      rw [hst]
      refine PySem.W.callWith_of (P := PySem.W.MethP X.K h1.objs.size f2 (.ref a)) (by show ((false || (backTo pos (starEach es X.env)).any (·.1)) || false) = false; rw [hpl]; rfl) (PySem.W.keeps_M sc.fn) (PySem.Calls.evalArgs_plain ?_)
      show wpAny _ _ (spliced (backTo pos ((false, eval e X.env) :: starEach es X.env))) _ _ _
      rw [← hst]
      refine thn (ha.run pos _ _ σ H _ I3 q) fun us s3 ⟨ws, H1, I4, rv, q2⟩ => ?_
      have pq := (I4.pin (h1.objs.size, PySem.W.methodObj (.ref f2) (.ref a)) (List.mem_append_right _ List.mem_cons_self)).1
      refine ⟨⟨pq, I4.kIn⟩, ?_⟩
      have I5 : Inv X pins σ H1 s3 := I4.pins_of fun p hp => I4.pin p (List.mem_append_right _ (List.mem_cons_of_mem _ hp))
      obtain ⟨fd2, ps2, ds2, G2, b2', hd2⟩ := G
      have r2 : Vals (.ref a :: (ws ++ dvs)) (.ref a :: (us ++ ds2)) := .cons rfl (rv.append hd2)
      have hl2 : ((Value.ref a :: us) ++ ds2).length = ps2.length := by
        rw [← G2.len _ _ _ _ q2]
        exact r2.length.symm
      refine wpAny_call (ks_codeAny_call_bound pq (codeAny_mono (G2.run X.A X.stack s3 H1 ⟨.ref a :: us, []⟩ (.ref a :: (us ++ ds2)) (.ref a :: (ws ++ dvs)) _ E hr I5.env0 (b2' s3 (.ref a :: us) I5.kIn hl2) r2 q2) fun r s' hq => ?_))
      cases r with
      | error er => exact hx pins σ H1 s3 er s' I5 hq
      | ok fl =>
        cases fl with
        | ret u =>
          obtain ⟨v, H', I6, _, q3⟩ := I5.after hq
          exact ⟨rfl, H', I6, q3⟩
        | next => exact False.elim hq
        | brk => exact False.elim hq
        | cont => exact False.elim hq
end Gp
end
section
namespace Gp
open PySem PySem.Spec PyProof.Rows L2 Gh
theorem execs_app (env : PySem.Env) (rest : List Stmt) : ∀ pre : List Stmt, execs (pre ++ rest) env = (execs pre env >>= fun f => match f with
  | .next => execs rest env
  | f => pure f)
  | [] => by
    show execs rest env = (pure Flow.next >>= _)
    rw [pure_bind]
  | st :: pre => by
    show execs (st :: (pre ++ rest)) env = _
    rw [execs_cons, execs_cons, bind_assoc]
    congr 1
    funext f
    cases f with
    | next => exact execs_app env rest pre
    | _ => rw [pure_bind]
theorem wpAt_app {M : Model} {A : Around} {c : Code} {env : PySem.Env} {pre rest : List Stmt} {Q : Flow → Shared → Prop} {E : Value → Shared → Prop} {s : Shared}
    (h : wpAny M A (execs pre env) (fun f s' => match f with
      | .next => _root_.PySem.wpAt M A c (execs rest env) Q E s'
      | f => Q f s') E s) : _root_.PySem.wpAt M A c (execs (pre ++ rest) env) Q E s := by
  rw [execs_app]
  refine _root_.PySem.wpAt_bind (_root_.PySem.wpAt_of_wpAny (wpAny_mono h (fun f s' hf => ?_) fun _ _ z => z))
  cases f with
  | next => exact hf
  | _ => exact _root_.PySem.wpAt_of_wpAny (wpAny_pure hf)
structure SupF (K : PySem.W.Frag) (x qual : Str) (params : Arguments) (body : List Stmt) (scope : Scope) (dvs : List V) (f D : Addr) (file : Str) (fd : FuncData) : Prop where
  ex : ∃ (oc : Value) (od : Option Addr) (dV kV doc pm : Value) (an : Option Addr) (cda : Addr) (ct : Value) (osl : Array (Option Value)) (cc : Addr),
    fd = PySem.W.fnX x qual params body scope [("__class__", cc)] dV kV doc pm an (.ref cda) ct ∧ K.lookup f = some ⟨oc, od, .func fd, osl⟩ ∧ PySem.W.codeIn K (.ref cda) qual = true ∧ DflV K dV dvs ∧
    (∃ cl cld csl, K.lookup cc = some ⟨cl, cld, .cell (some (.ref D)), csl⟩) ∧ ∃ ccl cdd vs ccs tf, K.lookup cda = some ⟨ccl, cdd, .fields vs, ccs⟩ ∧ vs[2]? = some (.str file tf)
  kp : PySem.W.keepIn K (.ref f) = true
structure SupT (K : PySem.W.Frag) (mg : Str → Option Value) (D : Addr) : Prop where
  cD : ∃ cd, PySem.W.clsIn K D = some cd
  mg : mg "super" = none
  st : PySem.W.nsIn K cStatics "thirdparty.any" = some none
section
variable {P : Program} {w : World} {K : PySem.W.Frag} {mg : Str → Option Value} {base : Heap} {CX : CXT} {k : Nat} {x qual file m ar : Str} {params : Arguments} {body : List Stmt} {scope : Scope} {dvs : List V} {f D : Addr} {fd : FuncData} {N ps : List Str} {sp : Sp}
abbrev scx (CX : CXT) (P : Program) (w : World) (K : PySem.W.Frag) (mg : Str → Option Value) (base : Heap) (N : List Str) (x qual : Str) (params : Arguments) (body : List Stmt) (scope : Scope) (cc cda f : Addr) (A : Around) (outer : List PySem.Env) (s : Shared) (H : Hp) (E : XK) : Cx :=
  NdefX.ncx CX P w K mg base N ⟨x, qual, params, body, scope, [("__class__", cc)], cda⟩ f A outer s H E
theorem SupF.ok {pre post : List Stmt} {p0 p1 apos pos epos : Pos} {e : Expr} {es : List Expr} (eb : body = pre ++ .Expr (.Call (.Attribute (.Call (.Name "super" p0) [] [] p1) m apos) (e :: es) [] pos) epos :: post) (F : SupF K x qual params body scope dvs f D file fd) (T : SupT K mg D) (S : NdefX.NScope N ps ["__class__"] scope)
    (len : ∀ vs H Q E, sp vs H Q E → vs.length = ps.length) (hfile : ((P.main.file : Str) == file) = true) (htop : (P.main.scope.names.lookup ("super" : Str)).isSome = false) (hm : (m == ("__class__" : Str)) = false) (hks : scope.names.lookup ("super" : Str) = some .globalImplicit)
    (har : ((params.posonlyargs ++ params.args).head?).map (·.arg) = some ar) (hn0 : N[0]? = some ar) (hka : scope.names.lookup ar = some .local)
    (hbody : ∀ (cc cda : Addr) (A : Around) (outer : List PySem.Env) (s : Shared) (H : Hp) (vs : List V) (Q : VK) (E : XK), Room k (scx CX P w K mg base N x qual params body scope cc cda f A outer s H E).A → sp vs H Q E →
      ∃ t1 ta t2 CX2 k2 f2 dvs2 sp2 E2, PSs (scx CX P w K mg base N x qual params body scope cc cda f A outer s H E) pre t1 ∧
        PA (scx CX P w K mg base N x qual params body scope cc cda f A outer s H E) (e :: es) ta ∧
        PSs (scx CX P w K mg base N x qual params body scope cc cda f A outer s H E) post t2 ∧
        PromO P w K mg base CX2 k2 f2 dvs2 sp2 ∧ k2 ≤ k ∧ Passes CX2 (scx CX P w K mg base N x qual params body scope cc cda f A outer s H E) E2 ∧
        t1 { nx := fun σ1 H1 => ∃ a C dx fs, σ1[0]? = some (some (.ref a)) ∧ H1 a = some (.ins C dx fs) ∧ SupC K C D m f2 ∧ ta σ1 H1 fun us H2 => sp2 (.ref a :: (us ++ dvs2)) H2 (fun _ H3 => t2 { nx := fun _ H' => Q .non H', rt := Q } σ1 H3) E2, rt := Q } (L2.start N vs) H)
    (hst : ∀ env : PySem.Env, starEach (e :: es) env = (false, eval e env) :: starEach es env := by intro _; rfl) (hpl : ∀ env : PySem.Env, (backTo pos (starEach es env)).any (·.1) = false := by intro _; rfl)
    (pl : PySem.Env → Sem Bool)
    (he : ∀ env : PySem.Env, eval (.Call (.Attribute (.Call (.Name "super" p0) [] [] p1) m apos) (e :: es) [] pos) env = (do
      let ov ← attributeBase (.Call (.Name "super" p0) [] [] p1) m env (eval (.Call (.Name "super" p0) [] [] p1) env)
      standAt apos.atName
      let (f, first) ← holding [ov] (getMethod ov m (pl env))
      callWith pos f first (backTo pos (starEach (e :: es) env)) []))
    (hsw : ∀ env : PySem.Env, swapsWith (.Call (.Attribute (.Call (.Name "super" p0) [] [] p1) m apos) (e :: es) [] pos) none epos.line env = pure false := by intro _; rfl) :
    FnOk P w K mg base CX (k + 1) f fd ps sp := by
  obtain ⟨oc, od, dV, kV, doc, pm, an, cda, ct, osl, cc, rfl, lk, hcd, _, ⟨cl, cld, csl, lkl⟩, ccl, cdd, vsc, ccs, tf, lkc, hvs⟩ := F.ex
  refine ⟨len, fun A outer s H args us vs Q E hr e0 hb r hsp => ?_⟩
  have KX : K.In s.heap := e0.mod.kin.keeps fun b o e => (e0.bs b o e).1
  have lim : s.heap.NoLimit := e0.mod.nolimit.keeps fun b o e => (e0.bs b o e).1
  have hl := len _ _ _ _ hsp
  have hpl2 : ps.length + 1 ≤ N.length := by
    have q := congrArg List.length S.pre
    rw [List.length_take, List.length_append] at q
    have : (["__class__"] : List Str).length = 1 := rfl
    omega
  refine ks_codeAny_call_defAt hr.depth (KX _ _ lk) rfl lim (PySem.W.codeRec_of KX hcd) rfl hb S.nocell (fun ⟨n, _⟩ hy => S.par n (List.of_mem_zip hy).1) (fun h₁ hns kp => ?_) S.co S.gen S.kind
  obtain ⟨t1, ta, t2, CX2, k2, f2, dvs2, sp2, E2, h1, h2, h3, G, hk2, hx2, hq⟩ := hbody cc cda A outer s H vs Q E (hr.deeper _) hsp
  have C : NdefX.CellsAt [(("__class__" : Str), cc)] ["__class__"] [none] s.heap H := by
    have hc : s.heap.get? cc = some ⟨cl, cld, .cell (some (.ref D)), csl⟩ := KX _ _ lkl
    have hH : H cc = none := by
      have hb : base.get? cc = some ⟨cl, cld, .cell (some (.ref D)), csl⟩ := e0.mod.kin _ _ lkl
      exact (e0.bs _ _ hb).2
    have one : ∀ (y : Str) (c : Addr), ([(("__class__" : Str), cc)] : List (Str × Addr)).lookup y = some c → y = "__class__" ∧ c = cc := fun y c hy => by
      rcases look_cons hy with ⟨e1, e2⟩ | z
      · exact ⟨e1, e2⟩
      · cases z
    refine ⟨rfl, fun y c hy => ?_, fun x y c hx hy => (one x c hx).1.trans (one y c hy).1.symm, fun i y hy => ?_⟩
    · obtain ⟨_, rfl⟩ := one y c hy
      exact ⟨hH, _, _, hc, rfl⟩
    · have e2 : y = "__class__" := by
        cases i with
        | zero => cases hy; rfl
        | succ i => cases hy
      subst e2
      refine ⟨cc, rfl, fun v hv => ?_⟩
      cases i with
      | zero => cases hv
      | succ i => cases hv
  have I := NdefX.inv_startN (CX := CX) (P := P) (w := w) (K := K) (mg := mg) (base := base) (N := N) (F := ⟨x, qual, params, body, scope, [("__class__", cc)], cda⟩) (f := f) (E := E) (tk := s.toks + (ps.zip us).length) S hr.hd e0 hl r C hns kp
  have est : NdefX.startF N vs [none] = L2.start N vs := by
    unfold NdefX.startF L2.start
    congr 1
    rw [List.length_singleton, ← List.singleton_append]
    have : N.length - vs.length = (N.length - vs.length - 1) + 1 := by omega
    rw [this, List.replicate_succ]
    rfl
  rw [est] at I
  have SX : SupX (scx CX P w K mg base N x qual params body scope cc cda f A outer s H E) D f cda cc ar := by
    refine ⟨rfl, rfl, ?_, ⟨ccl, cdd, vsc, ccs, file, tf, lkc, hvs, hfile⟩, htop, hks, S.frk _ (List.mem_singleton.mpr rfl), rfl, ⟨cl, cld, csl, lkl⟩, T.cD, T.mg, T.st, hn0, hka⟩
    cases z : (params.posonlyargs ++ params.args).head? with
    | none => rw [z] at har; cases har
    | some a =>
      rw [z] at har
      exact ⟨_, _, _, _, a, lk, z, Option.some.inj har⟩
  have fin : ∀ {s' : Shared} {σ' : L2.St} {H' : Hp} {v : V} {u : Value}, Inv (scx CX P w K mg base N x qual params body scope cc cda f A outer s H E) [] σ' H' s' → L2.RelV v u → Q v H' → CE outer P w H s Q u s' :=
    fun {s' σ' H' v u} J rv q => ⟨v, H', J.os, J.bare, J.base, J.hok, rv, q⟩
  have eb2 : execs body (scx CX P w K mg base N x qual params body scope cc cda f A outer s H E).env = execs (pre ++ .Expr (.Call (.Attribute (.Call (.Name "super" p0) [] [] p1) m apos) (e :: es) [] pos) epos :: post) (scx CX P w K mg base N x qual params body scope cc cda f A outer s H E).env := by rw [← eb]
  show _root_.PySem.wpAt _ _ _ (execs body _) _ _ _
  refine eb2 ▸ wpAt_app (wpAny_mono (h1.run [] _ (L2.start N vs) H _ I hq) (fun fl s' hs => ?_) fun _ _ z => z)
  cases fl with
  | ret u =>
    obtain ⟨v, σ', H', J, rv, q⟩ := hs
    exact fin J rv q
  | brk =>
    obtain ⟨_, _, _, q⟩ := hs
    exact False.elim q
  | cont =>
    obtain ⟨_, _, _, q⟩ := hs
    exact False.elim q
  | next =>
    obtain ⟨σ', H', J, q⟩ := hs
    refine ks_wpAt_execs_cons (_root_.PySem.wpAt_mono (sup_run (pl := pl _) SX hm h2 G ((hr.deeper _).mono hk2) hx2 J q (hst _) (hpl _) (he _) (hsw _)) (fun fl2 s2 hq2 => ?_) fun _ _ z => z)
    obtain ⟨rfl, H2, J2, q2⟩ := hq2
    refine _root_.PySem.wpAt_of_wpAny (wpAny_mono (h3.run [] s2 σ' H2 _ J2 q2) (fun fl s' hs => ?_) fun _ _ z => z)
    cases fl with
    | ret u =>
      obtain ⟨v, σ', H', J, rv, q⟩ := hs
      exact fin J rv q
    | next =>
      obtain ⟨σ', H', J, q⟩ := hs
      exact fin (v := V.non) (u := Value.none) J rfl q
    | brk =>
      obtain ⟨_, _, _, q⟩ := hs
      exact False.elim q
    | cont =>
      obtain ⟨_, _, _, q⟩ := hs
      exact False.elim q
end
end Gp
end
section
namespace Gp
open PySem PySem.Spec PyProof.Rows L2 Gh
structure Ds where
  d : Df
  own : PySem.W.Frag → Addr
def fnAtS (K : PySem.W.Frag) (a : Addr) : He.FnW := match K.lookup a with
  | some ⟨_, _, .func fd, _⟩ => some (fd.name, fd.qualname, fd.params, fd.body, fd.scope, fd.globals, fd.closure.map (fun q => (q.1, 0)), fd.builtins)
  | _ => none
def Ds.val (d : Ds) : He.FnW := some (d.d.name, d.d.qual, defArgs d.d.st, .stmts (defBody d.d.st), defScope d.d.st, mainGlobals, [("__class__", 0)], builtinsNs)
def fileB (K : PySem.W.Frag) (file : Str) : Value → Bool
  | .ref c => (match K.lookup c with
    | some ⟨_, _, Data.fields vs, _⟩ => (match (vs[2]? : Option Value) with
      | some (Value.str f _) => decide (f = file)
      | _ => false)
    | _ => false)
  | _ => false
def cellB (K : PySem.W.Frag) (B : Addr) : List (Str × Addr) → Bool
  | [(_, c)] => (match K.lookup c with
    | some ⟨_, _, .cell (some (.ref b)), _⟩ => decide (b = B)
    | _ => false)
  | _ => false
def Ds.ok (file : Str) (K : PySem.W.Frag) (d : Ds) : Bool := PySem.W.keepIn K (.ref (d.d.adr K)) && (match K.lookup (d.d.adr K) with
  | some ⟨_, _, .func fd, _⟩ => PySem.W.codeIn K fd.code d.d.qual && (He.dflB K fd.defaults (d.d.dvs K) && (fileB K file fd.code && cellB K (d.own K) fd.closure))
  | _ => false)
structure SaysS (ex : List (PySem.W.Frag → Bool)) (fn : List Df) (tf : List He.Defn) (fs : List Ds) (file : Str) (h : Heap) (K : PySem.W.Frag) : Prop where
  s : SaysT ex fn tf h K
  o : (fs.all fun d => d.ok file K) = true
  v : (fs.map fun d => fnAtS K (d.d.adr K)) = fs.map Ds.val
abbrev AlS : Type := AlT × Bool × List He.FnW
end Gp
end
section
namespace Gp
open PySem PySem.Spec PyProof.Rows L2 Gh
section
variable {P : Program} {w : World} {K : PySem.W.Frag} {mg : Str → Option Value} {base : Heap} {CX : CXT} {k : Nat} {x qual file m ar : Str} {params : Arguments} {body : List Stmt} {scope : Scope} {dvs : List V} {f D : Addr} {fd : FuncData} {N ps : List Str} {sp : Sp}
theorem SupF.run {A : Around} {outer : List PySem.Env} {s : Shared} {H : Hp} {args : Args} {Q : VK} {E : XK} {G : List V → Hp → Prop} {pre post : List Stmt} {p0 p1 apos pos epos : Pos} {e : Expr} {es : List Expr} (eb : body = pre ++ .Expr (.Call (.Attribute (.Call (.Name "super" p0) [] [] p1) m apos) (e :: es) [] pos) epos :: post) (F : SupF K x qual params body scope dvs f D file fd) (T : SupT K mg D) (S : NdefX.NScope N ps ["__class__"] scope)
    (hr : Room (k + 1) A) (e0 : Env0 P w K mg base A outer s H) (hb : StX.Bnd CX P w K mg base fd args ps A outer s H E G) (hfile : ((P.main.file : Str) == file) = true) (htop : (P.main.scope.names.lookup ("super" : Str)).isSome = false) (hm : (m == ("__class__" : Str)) = false) (hks : scope.names.lookup ("super" : Str) = some .globalImplicit)
    (har : ((params.posonlyargs ++ params.args).head?).map (·.arg) = some ar) (hn0 : N[0]? = some ar) (hka : scope.names.lookup ar = some .local)
    (hbody : ∀ (cc cda : Addr) (s : Shared) (H : Hp) (vs : List V), Room k (scx CX P w K mg base N x qual params body scope cc cda f A outer s H E).A → G vs H →
      ∃ t1 ta t2 CX2 k2 f2 dvs2 sp2 E2, PSs (scx CX P w K mg base N x qual params body scope cc cda f A outer s H E) pre t1 ∧
        PA (scx CX P w K mg base N x qual params body scope cc cda f A outer s H E) (e :: es) ta ∧
        PSs (scx CX P w K mg base N x qual params body scope cc cda f A outer s H E) post t2 ∧
        PromO P w K mg base CX2 k2 f2 dvs2 sp2 ∧ k2 ≤ k ∧ Passes CX2 (scx CX P w K mg base N x qual params body scope cc cda f A outer s H E) E2 ∧
        t1 { nx := fun σ1 H1 => ∃ a C dx fs, σ1[0]? = some (some (.ref a)) ∧ H1 a = some (.ins C dx fs) ∧ SupC K C D m f2 ∧ ta σ1 H1 fun us H2 => sp2 (.ref a :: (us ++ dvs2)) H2 (fun _ H3 => t2 { nx := fun _ H' => Q .non H', rt := Q } σ1 H3) E2, rt := Q } (L2.start N vs) H)
    (hst : ∀ env : PySem.Env, starEach (e :: es) env = (false, eval e env) :: starEach es env := by intro _; rfl) (hpl : ∀ env : PySem.Env, (backTo pos (starEach es env)).any (·.1) = false := by intro _; rfl)
    (pl : PySem.Env → Sem Bool)
    (he : ∀ env : PySem.Env, eval (.Call (.Attribute (.Call (.Name "super" p0) [] [] p1) m apos) (e :: es) [] pos) env = (do
      let ov ← attributeBase (.Call (.Name "super" p0) [] [] p1) m env (eval (.Call (.Name "super" p0) [] [] p1) env)
      standAt apos.atName
      let (f, first) ← holding [ov] (getMethod ov m (pl env))
      callWith pos f first (backTo pos (starEach (e :: es) env)) []))
    (hsw : ∀ env : PySem.Env, swapsWith (.Call (.Attribute (.Call (.Name "super" p0) [] [] p1) m apos) (e :: es) [] pos) none epos.line env = pure false := by intro _; rfl) :
    codeAny (model P w) A (.call (.ref f) args) (CR CX outer P w H s Q E) s := by
  obtain ⟨oc, od, dV, kV, doc, pm, an, cda, ct, osl, cc, rfl, lk, hcd, _, ⟨cl, cld, csl, lkl⟩, ccl, cdd, vsc, ccs, tf, lkc, hvs⟩ := F.ex
  have KX0 : K.In s.heap := e0.mod.kin.keeps fun b o e => (e0.bs b o e).1
  refine codeAny_call_function hr.depth (KX0 _ _ lk) rfl S.co S.gen rfl (PySem.W.codeRec_of KX0 hcd) ?_
  refine hb _ _ _ fun s2 H2 vs us e2 un ho hxx r hl gg => ?_
  have KX : K.In s2.heap := e0.mod.kin.keeps fun b o e => (e2.bs b o e).1
  have lim : s2.heap.NoLimit := e0.mod.nolimit.keeps fun b o e => (e2.bs b o e).1
  have hpl2 : ps.length + 1 ≤ N.length := by
    have q := congrArg List.length S.pre
    rw [List.length_take, List.length_append] at q
    have : (["__class__"] : List Str).length = 1 := rfl
    omega
  refine wpAny_newFunctionEnv S.nocell (fun ⟨n, _⟩ hy => S.par n (List.of_mem_zip hy).1) (fun h₁ hns hsb => ⟨lim.fresh _ hsb, ks_codeAny_funcAt ?_⟩) S.kind
  have kp : ∀ b o, s2.heap.get? b = some o → h₁.get? b = some o := fun b o e => hsb.extBut b o (Nat.ne_of_lt (Heap.lt_size e)) (Heap.get?_push_of_some _ e)
  refine _root_.PySem.wpAt_mono (Q := fun fl s' => CR CX outer P w H s Q E (.ok (.ret (match fl with | .ret v => v | _ => .none))) s') (E := (scx CX P w K mg base N x qual params body scope cc cda f A outer s2 H2 E).xe) ?_ (fun _ _ z => z) (fun e s' hs => wpAny_mono hs (fun _ s'' z => hxx e s'' z) fun e' s'' z => hxx e' s'' z)
  obtain ⟨t1, ta, t2, CX2, k2, f2, dvs2, sp2, E2, h1, h2, h3, G, hk2, hx2, hq⟩ := hbody cc cda s2 H2 vs (hr.deeper _) gg
  have C : NdefX.CellsAt [(("__class__" : Str), cc)] ["__class__"] [none] s2.heap H2 := by
    have hc : s2.heap.get? cc = some ⟨cl, cld, .cell (some (.ref D)), csl⟩ := KX _ _ lkl
    have hH : H2 cc = none := by
      have hb : base.get? cc = some ⟨cl, cld, .cell (some (.ref D)), csl⟩ := e0.mod.kin _ _ lkl
      exact (e2.bs _ _ hb).2
    have one : ∀ (y : Str) (c : Addr), ([(("__class__" : Str), cc)] : List (Str × Addr)).lookup y = some c → y = "__class__" ∧ c = cc := fun y c hy => by
      rcases look_cons hy with ⟨e1, e2⟩ | z
      · exact ⟨e1, e2⟩
      · cases z
    refine ⟨rfl, fun y c hy => ?_, fun x y c hx hy => (one x c hx).1.trans (one y c hy).1.symm, fun i y hy => ?_⟩
    · obtain ⟨_, rfl⟩ := one y c hy
      exact ⟨hH, _, _, hc, rfl⟩
    · have e2 : y = "__class__" := by
        cases i with
        | zero => cases hy; rfl
        | succ i => cases hy
      subst e2
      refine ⟨cc, rfl, fun v hv => ?_⟩
      cases i with
      | zero => cases hv
      | succ i => cases hv
  have I := NdefX.inv_startN (CX := CX) (P := P) (w := w) (K := K) (mg := mg) (base := base) (N := N) (F := ⟨x, qual, params, body, scope, [("__class__", cc)], cda⟩) (f := f) (E := E) (tk := s2.toks + (ps.zip us).length) S hr.hd e2 hl r C hns kp
  have est : NdefX.startF N vs [none] = L2.start N vs := by
    unfold NdefX.startF L2.start
    congr 1
    rw [List.length_singleton, ← List.singleton_append]
    have : N.length - vs.length = (N.length - vs.length - 1) + 1 := by omega
    rw [this, List.replicate_succ]
    rfl
  rw [est] at I
  have SX : SupX (scx CX P w K mg base N x qual params body scope cc cda f A outer s2 H2 E) D f cda cc ar := by
    refine ⟨rfl, rfl, ?_, ⟨ccl, cdd, vsc, ccs, file, tf, lkc, hvs, hfile⟩, htop, hks, S.frk _ (List.mem_singleton.mpr rfl), rfl, ⟨cl, cld, csl, lkl⟩, T.cD, T.mg, T.st, hn0, hka⟩
    cases z : (params.posonlyargs ++ params.args).head? with
    | none => rw [z] at har; cases har
    | some a =>
      rw [z] at har
      exact ⟨_, _, _, _, a, lk, z, Option.some.inj har⟩
  have fin : ∀ {s' : Shared} {σ' : L2.St} {H' : Hp} {v : V} {u : Value}, Inv (scx CX P w K mg base N x qual params body scope cc cda f A outer s2 H2 E) [] σ' H' s' → L2.RelV v u → Q v H' → CE outer P w H s Q u s' :=
    fun {s' σ' H' v u} J rv q => ⟨v, H', J.os.trans ho, J.bare, un.trans J.base, J.hok, rv, q⟩
  have eb2 : execs body (scx CX P w K mg base N x qual params body scope cc cda f A outer s2 H2 E).env = execs (pre ++ .Expr (.Call (.Attribute (.Call (.Name "super" p0) [] [] p1) m apos) (e :: es) [] pos) epos :: post) (scx CX P w K mg base N x qual params body scope cc cda f A outer s2 H2 E).env := by rw [← eb]
  show _root_.PySem.wpAt _ _ _ (execs body _) _ _ _
  refine eb2 ▸ wpAt_app (wpAny_mono (h1.run [] _ (L2.start N vs) H2 _ I hq) (fun fl s' hs => ?_) fun _ _ z => z)
  cases fl with
  | ret u =>
    obtain ⟨v, σ', H', J, rv, q⟩ := hs
    exact fin J rv q
  | brk =>
    obtain ⟨_, _, _, q⟩ := hs
    exact False.elim q
  | cont =>
    obtain ⟨_, _, _, q⟩ := hs
    exact False.elim q
  | next =>
    obtain ⟨σ', H', J, q⟩ := hs
    refine ks_wpAt_execs_cons (_root_.PySem.wpAt_mono (sup_run (pl := pl _) SX hm h2 G ((hr.deeper _).mono hk2) hx2 J q (hst _) (hpl _) (he _) (hsw _)) (fun fl2 s3 hq2 => ?_) fun _ _ z => z)
    obtain ⟨rfl, H3, J2, q2⟩ := hq2
    refine _root_.PySem.wpAt_of_wpAny (wpAny_mono (h3.run [] s3 σ' H3 _ J2 q2) (fun fl s' hs => ?_) fun _ _ z => z)
    cases fl with
    | ret u =>
      obtain ⟨v, σ', H', J, rv, q⟩ := hs
      exact fin J rv q
    | next =>
      obtain ⟨σ', H', J, q⟩ := hs
      exact fin (v := V.non) (u := Value.none) J rfl q
    | brk =>
      obtain ⟨_, _, _, q⟩ := hs
      exact False.elim q
    | cont =>
      obtain ⟨_, _, _, q⟩ := hs
      exact False.elim q
end
section
variable {g : Gw} {Mt U0 U U' : Addr → Prop} {H0 H H' H1 H2 : Hp} {b b1 b2 : Nat} {σ : L2.St} {ε ε' : Env} {E : XK}
end
end Gp
end
section
namespace Gp
open PySem PySem.Spec PyProof.Rows L2 Gh
def frL {α : Type} : List (Addr × Obj) → (List (Addr × Obj) → α) → α
  | [], k => k []
  | (a, o) :: r, k => frL r fun r' => k ((a, o) :: r')
theorem frL_eq {α : Type} : ∀ (l : List (Addr × Obj)) (k : List (Addr × Obj) → α), frL l k = k l
  | [], _ => rfl
  | (a, o) :: r, k => by
    show frL r (fun r' => k ((a, o) :: r')) = _
    rw [frL_eq r]
def obsK (ex : List (PySem.W.Frag → Bool)) (fn : List Df) (tf : List He.Defn) (fs : List Ds) (file : Str) (g : Addr → Option Obj) (K : PySem.W.Frag) : AlS :=
  ((obs ex fn K, He.tabsB g tf K), (fs.all fun d => d.ok file K), fs.map fun d => fnAtS K (d.d.adr K))
def obsL (as : List Addr) (ex : List (PySem.W.Frag → Bool)) (fn : List Df) (tf : List He.Defn) (fs : List Ds) (file : Str) (g : Addr → Option Obj) : AlS := frL (He.frT g as) fun K => obsK ex fn tf fs file g K
theorem saysL_of {as : List Addr} {ex : List (PySem.W.Frag → Bool)} {fn : List Df} {tf : List He.Defn} {h : Heap} (e1 : obs ex fn (He.frT h.get? as) = val fn) (e2 : He.tabsB h.get? tf (He.frT h.get? as) = true) : SaysT ex fn tf h (He.frT h.get? as) := by
  have key : ∀ p ∈ tf, PySem.W.codeHdIn (He.frT h.get? as) (He.cT (He.frT h.get? as) p).1 (He.cT (He.frT h.get? as) p).2 = true ∧ ∃ o, h.get? (He.cT (He.frT h.get? as) p).2 = some o ∧ He.emptyTab o = true := fun p hp => by
    obtain ⟨h3, h4⟩ := He.ba (List.all_eq_true.mp e2 p hp)
    refine ⟨h3, ?_⟩
    cases q : h.get? (He.cT (He.frT h.get? as) p).2 with
    | none =>
      rw [q] at h4
      cases h4
    | some o =>
      rw [q] at h4
      exact ⟨o, rfl, h4⟩
  exact ⟨e1, fun p hp => (key p hp).1, fun p hp => by
    obtain ⟨_, o, q, z⟩ := key p hp
    exact He.frT_none q z, fun p hp => by
    obtain ⟨_, o, q, z⟩ := key p hp
    rw [q, He.emptyTab_eq z]⟩
def hookL (as : List Addr) (ex : List (PySem.W.Frag → Bool)) (fn : List Df) (tf : List He.Defn) (fs : List Ds) (file : Str) : PySem.W.Hook where
  α := AlS
  obs := fun s => obsL as ex fn tf fs file s.heap.get?
  val := fun _ => ((Gh.val fn, true), true, fs.map Ds.val)
  says := fun _ h => ∃ K : PySem.W.Frag, K.In h ∧ SaysS ex fn tf fs file h K
  of := fun _ s e => by
    have e' : obsK ex fn tf fs file _ (He.frT _ as) = ((Gh.val fn, true), true, fs.map Ds.val) := (frL_eq _ _).symm.trans e
    exact ⟨_, He.frT_in, ⟨saysL_of (congrArg (fun z : AlS => z.1.1) e') (congrArg (fun z : AlS => z.1.2) e'), congrArg (fun z : AlS => z.2.1) e', congrArg (fun z : AlS => z.2.2) e'⟩⟩
  keeps := fun _ _ _ ⟨K, hK, c⟩ k => ⟨K, PySem.W.Frag.In.keeps hK k, ⟨⟨c.s.t, c.s.hd, c.s.out, fun p hp => k _ _ (c.s.empty p hp)⟩, c.o, c.v⟩⟩
end Gp
end
section
namespace Gp
open PySem PySem.Spec PyProof.Rows L2 Gh
section
variable {g : Gw} {Mt U0 U U' : Addr → Prop} {H0 H H' H1 H2 : Hp} {b b1 : Nat} {σ : L2.St} {ε ε' : Env} {W L W' : Type} {yd : List D}
variable {env : W → Env} {envL : L → Env} {env' : W' → Env} {u ta tb : TGn} {te : TE} {me : Tr D}
def gflP (g : Gw) (Mt U0 : Addr → Prop) (H0 : Hp) (U : Addr → Prop) (H : Hp) (D : GEnds) (env : W → Env) (envL : L → Env) : List Gp.D × Fl W L → Nat → Prop
  | (zs, .nx w), b => ∀ U' σ' H' ys', Ev U H U' H' → Stt g Mt U0 H0 U' σ' H' b (env w) → DenL g U' H' ys' zs → D.nx ys' σ' H'
  | (_, .rt _), _ => False
  | (zs, .bk w), b => ∀ U' σ' H' ys', Ev U H U' H' → Stt g Mt U0 H0 U' σ' H' b (envL w) → DenL g U' H' ys' zs → D.bk ys' σ' H'
  | (zs, .ct w), b => ∀ U' σ' H' ys', Ev U H U' H' → Stt g Mt U0 H0 U' σ' H' b (envL w) → DenL g U' H' ys' zs → D.ct ys' σ' H'
theorem gflP.ev {U1 : Addr → Prop} {H1 : Hp} {D : GEnds} {env : W → Env} {envL : L → Env} (e : Ev U H U1 H1) : ∀ {f : List Gp.D × Fl W L}, gflP g Mt U0 H0 U H D env envL f b → gflP g Mt U0 H0 U1 H1 D env envL f b
  | (_, .nx w), h => fun U' σ' H' ys' e1 => h U' σ' H' ys' (e.trans e1)
  | (_, .rt d), h => h
  | (_, .bk w), h => fun U' σ' H' ys' e1 => h U' σ' H' ys' (e.trans e1)
  | (_, .ct w), h => fun U' σ' H' ys' e1 => h U' σ' H' ys' (e.trans e1)
end
section
variable {P : Program} {w : World} {K : PySem.W.Frag} {mg : Str → Option Value} {base : Heap}
end
end Gp
end
section
namespace Gp
open PySem PySem.Spec PyProof.Rows L2 Gh
def clsG (x m : Str) (K : PySem.W.Frag) : Addr := match PySem.W.recIn K (He.ma K (He.ga K x) m) "classmethod" with
  | some (.ref g :: _) => g
  | _ => 0
def clmB (x m : Str) (K : PySem.W.Frag) : Bool := PySem.W.readsIn K (gd x K) (.type "type") && (He.eqO (PySem.W.specialIn K (.ref (gd x K)) "__getattribute__") (some (some (.builtin "type.__getattribute__"))) &&
  ((match PySem.W.findCls K (.ref (gd x K)) (.type "type") m with
    | some (.get (.builtin b) (.ref p) .none (.ref C)) => decide (b = "classmethod.__get__") && (decide (p = He.ma K (He.ga K x) m) && decide (C = gd x K))
    | _ => false) && ((match PySem.W.recIn K (He.ma K (He.ga K x) m) "classmethod" with
    | some (.ref _ :: _) => true
    | _ => false) && PySem.W.fnIn K (clsG x m K))))
section
variable {g : Gw} {U : Addr → Prop} {H : Hp} {σ : L2.St} {ε : Env} {E : XK} {Q : VK}
end
end Gp
end
section
namespace Gp
open PySem PySem.Spec PyProof.Rows L2 Gh
section
variable {g : Gw} {Mt U0 U U' : Addr → Prop} {H0 H H' H1 H2 : Hp} {b b1 : Nat} {σ : L2.St} {ε ε' : Env} {E : XK} {W L W' : Type}
variable {env : W → Env} {envL : L → Env} {env' : W' → Env} {u ta tb : TS} {te ti : TE} {me mi : Tr D}
structure Pnd (g : Gw) (Mt U0 : Addr → Prop) (H0 : Hp) (U : Addr → Prop) (σ : L2.St) (H : Hp) (ε : Env) (A : Addr) (ds : List D) : Prop where
  at_ : ∃ vs, H A = some (.lst vs) ∧ vs.length ≤ sizeLine ∧ DenL g U H vs ds
  u : U A
  np : A ≠ g.p
  nc : A ≠ g.c
  n0 : ¬ U0 A
  no : ∀ j, ¬ OwnAt σ ε j A
  mt : Mt A ∨ ∀ o, H0 A = some o → ∃ ps, o = .tbl ps
theorem Pnd.fr {A : Addr} {ds : List D} (uo : UOk g U H) (p : Pnd g Mt U0 H0 U σ H ε A ds) (f : Fr H H' g.p) : Pnd g Mt U0 H0 U σ H' ε A ds := by
  obtain ⟨⟨vs, hA, l, dn⟩, uA, hp, hc, n0, no, mt⟩ := p
  exact ⟨⟨vs, f _ _ hA hp (fun _ z => by cases z), l, dn.fr uo f⟩, uA, hp, hc, n0, no, mt⟩
theorem Pnd.set {A : Addr} {ds : List D} (p : Pnd g Mt U0 H0 U σ H ε A ds) (i : Nat) (v : V) (d : D) : Pnd g Mt U0 H0 U (σ.set i (some v)) H (ε.set i (.fz d)) A ds :=
  ⟨p.at_, p.u, p.np, p.nc, p.n0, fun j h => p.no j (ownAt_set h).2, p.mt⟩
inductive QR (g : Gw) (Mt U0 : Addr → Prop) (H0 : Hp) (U : Addr → Prop) (σ : L2.St) (H : Hp) (ε : Env) : Nat → List V → List D → Prop
  | here {A : Addr} {ds : List D} {vs : List V} {xs : List D} : Pnd g Mt U0 H0 U σ H ε A ds → DenL g U H vs xs → QR g Mt U0 H0 U σ H ε 0 (.ref A :: vs) (.lst ds :: xs)
  | next {n : Nat} {v : V} {d : D} {vs : List V} {ds : List D} : Den g U H v d → QR g Mt U0 H0 U σ H ε n vs ds → QR g Mt U0 H0 U σ H ε (n + 1) (v :: vs) (d :: ds)
theorem QR.length {n : Nat} : ∀ {vs : List V} {ds : List D}, QR g Mt U0 H0 U σ H ε n vs ds → vs.length = ds.length
  | _, _, .here _ k => congrArg (· + 1) k.length
  | _, _, .next _ r => congrArg (· + 1) r.length
end
end Gp
end
section
namespace Gp
open PySem PySem.Spec PyProof.Rows L2 Gh
inductive ItH where
  | s (x : Str) | n (i : Int) | f (x : Str)
def ItH.d (fs : Fs) : ItH → Option D
  | .s x => if x.length ≤ sizeLine then some (.str x) else none
  | .n k => some (.int k)
  | .f x => fs.lookup x
section
variable {g : Gw} {U : Addr → Prop} {H H' : Hp} {b : Nat} {σ : L2.St} {ε : Env}
def Fz (ε : Env) : Prop := ∀ s ∈ ε, (∃ d, s = .fz d) ∨ s = .no
theorem Fz.set {j : Nat} {d : D} (h : Fz ε) : Fz (ε.set j (.fz d)) := fun s m => by
  rcases List.mem_or_eq_of_mem_set m with m | m
  · exact h s m
  · exact .inl ⟨_, m⟩
theorem Fz.own (h : Fz ε) : ∀ i a, ¬ OwnAt σ ε i a := fun i a ⟨_, z⟩ => by
  rcases z with ⟨x, z⟩ | ⟨x, y, z⟩
  · rcases h _ (List.mem_of_getElem? z) with ⟨d, e⟩ | e <;> cases e
  · rcases h _ (List.mem_of_getElem? z) with ⟨d, e⟩ | e <;> cases e
end
end Gp
end
section
namespace Gz
open PySem
open Sem (wp)
def pois : GenState → GenState
  | .suspended _ l c p fs cl => .suspended (fun _ => .unsupported "") l c p fs cl
  | x => x
def IsSusp (x : GenState) : Prop := ∃ k l c p fs cl, x = .suspended k l c p fs cl
def Fixd (x : GenState) : Prop := IsSusp x ∨ x = .running
abbrev Map := Nat → Option GenState
def rest (ρ : Map) (G : Array GenState) : Array GenState := G.mapIdx fun i x => (ρ i).getD x
structure Held (ρ : Map) (G : Array GenState) : Prop where
  at_ : ∀ i x, ρ i = some x → Fixd x ∧ G[i]? = some (pois x)
  fr : ∀ i k l c p fs cl, ρ i = none → G[i]? = some (.suspended k l c p fs cl) → ∀ g kk ll cc pp, Frame.gen g kk ll cc pp ∈ fs → ρ g = none
def FsOk (ρ : Map) (fs : List Frame) : Prop := ∀ g kk ll cc pp, Frame.gen g kk ll cc pp ∈ fs → ρ g = none
theorem rest_size (ρ : Map) (G : Array GenState) : (rest ρ G).size = G.size := by unfold rest; exact Array.size_mapIdx
theorem rest_get (ρ : Map) (G : Array GenState) (i : Nat) : (rest ρ G)[i]? = (G[i]?).map fun x => (ρ i).getD x := by
  unfold rest
  exact Array.getElem?_mapIdx
theorem Held.lt {ρ : Map} {G : Array GenState} (h : Held ρ G) {i : Nat} {x : GenState} (e : ρ i = some x) : i < G.size := by
  obtain ⟨_, q⟩ := h.at_ i x e
  exact (Array.getElem?_eq_some_iff.mp q).1
theorem Held.push {ρ : Map} {G : Array GenState} (h : Held ρ G) (c : Code) : Held ρ (G.push (.fresh c)) ∧ rest ρ (G.push (.fresh c)) = (rest ρ G).push (.fresh c) := by
  have hn : ρ G.size = none := by
    cases e : ρ G.size with
    | none => rfl
    | some x => exact absurd (h.lt e) (Nat.lt_irrefl _)
  refine ⟨⟨fun i x e => ?_, fun i k l c' p fs cl e q => ?_⟩, ?_⟩
  · obtain ⟨a, b⟩ := h.at_ i x e
    refine ⟨a, ?_⟩
    rw [Array.getElem?_push, if_neg (Nat.ne_of_lt (h.lt e))]
    exact b
  · rw [Array.getElem?_push] at q
    split at q
    · cases q
    · exact h.fr i k l c' p fs cl e q
  · apply Array.ext_getElem?
    intro i
    rw [rest_get, Array.getElem?_push, Array.getElem?_push, rest_size]
    by_cases e : i = G.size
    · rw [if_pos e, if_pos e, e, hn]
      rfl
    · rw [if_neg e, if_neg e, rest_get]
theorem Held.set {ρ : Map} {G : Array GenState} (h : Held ρ G) {g : Nat} (hg : ρ g = none) {y : GenState} (hy : ∀ k l c p fs cl, y = .suspended k l c p fs cl → FsOk ρ fs) :
    Held ρ (G.setIfInBounds g y) ∧ rest ρ (G.setIfInBounds g y) = (rest ρ G).setIfInBounds g y := by
  refine ⟨⟨fun i x e => ?_, fun i k l c p fs cl e q => ?_⟩, ?_⟩
  · obtain ⟨a, b⟩ := h.at_ i x e
    refine ⟨a, ?_⟩
    rw [Array.getElem?_setIfInBounds_ne (fun z => by rw [z, e] at hg; cases hg)]
    exact b
  · by_cases z : g = i
    · subst z
      rw [Array.getElem?_setIfInBounds_self] at q
      split at q
      · exact hy _ _ _ _ _ _ (Option.some.inj q)
      · cases q
    · rw [Array.getElem?_setIfInBounds_ne z] at q
      exact h.fr i k l c p fs cl e q
  · apply Array.ext_getElem?
    intro i
    rw [rest_get]
    by_cases z : g = i
    · subst z
      rw [Array.getElem?_setIfInBounds_self, Array.getElem?_setIfInBounds_self, rest_size, hg]
      split <;> rfl
    · rw [Array.getElem?_setIfInBounds_ne z, Array.getElem?_setIfInBounds_ne z, rest_get]
abbrev up (ρ : Map) (s : Shared) : Shared := { s with gens := rest ρ s.gens }
theorem Held.run {ρ : Map} {G : Array GenState} (h : Held ρ G) {g : Nat} (e : G[g]? = some .running) : (rest ρ G)[g]? = some .running := by
  rw [rest_get, e]
  cases q : ρ g with
  | none => rfl
  | some y =>
    obtain ⟨hy, b⟩ := h.at_ g y q
    rw [e] at b
    rcases hy with ⟨k, l, c, p, fs, cl, rfl⟩ | rfl
    · cases b
    · rfl
def Sleep (s s1 : Shared) : Prop := ∀ (i : Nat) (x : GenState), Fixd x → s.gens[i]? = some x → s1.gens[i]? = some x
theorem Sleep.refl {s : Shared} : Sleep s s := fun _ _ _ h => h
theorem Sleep.trans {a b c : Shared} (h : Sleep a b) (k : Sleep b c) : Sleep a c := fun i x hx e => k i x hx (h i x hx e)
end Gz
end
section
namespace Gz
open PySem PySem.Spec PyProof.Rows L2 GenW Gh
abbrev EndI (ι : Type) := Nat → ι → Result → Shared → Prop
abbrev ProI (ι : Type) := Nat → ι → Value → Shared → (Resume → ι → Shared → Prop) → Prop
section
variable {ι : Type} {M : Model} {A : Around} {R : EndI ι} {Y : ProI ι} {n : Nat} {i : ι} {c : Code} {fs : List Frame} {s : Shared}
def endI (R : EndI ι) (Y : ProI ι) (n : Nat) (go : ι → Code → Sem PySem.Fin → List Frame → Shared → Prop) (i : ι) : End → Shared → Prop
  | .ret r, s' => R n i r s'
  | .susp v g l k c p fs, s' => (End.susp v g l k c p fs).quiet = true ∧ Y (n - 1) i v s' fun r j s'' => go j c (k r) fs s''
def GSeg (M : Model) (A : Around) (R : EndI ι) (Y : ProI ι) : Nat → ι → Code → Sem PySem.Fin → List Frame → Shared → Prop
  | 0, i, c, t, fs, s => ∀ Γ p, Γ.code = c → Γ.Woken A → ∃ e s', Runs M Γ p t fs s e s' ∧ endI R Y 0 (fun _ _ _ _ _ => False) i e s'
  | n + 1, i, c, t, fs, s => ∀ Γ p, Γ.code = c → Γ.Woken A → ∃ e s', Runs M Γ p t fs s e s' ∧ endI R Y (n + 1) (GSeg M A R Y n) i e s'
section
variable {α β : Type} {m : Sem α} {H : Value → Sem PySem.Fin} {gd : Bool → Bool} {lv : List Value → List Value}
end
section
variable {env : PySem.Env} {K : Flow → Sem PySem.Fin} {H : Value → Sem PySem.Fin} {gd : Bool → Bool} {lv : List Value → List Value}
end
section
variable {prog : Program} {w : World} {env : PySem.Env}
end
def GGoes (M : Model) (A : Around) (R : EndI ι) (Y : ProI ι) (n : Nat) (i : ι) : GenState → Resume → Shared → Prop
  | .fresh c, r, s => r = .send .none ∧ GSeg M A R Y n i c (M.den c) [] s
  | .suspended k _ c _ fs _, r, s => GSeg M A R Y n i c (k r) fs s
  | _, _, _ => False
end
end Gz
end
section
namespace Gz
open PySem PySem.Spec PyProof.Rows L2 GenW Gh
variable {X : Cx}
def cut (h : Heap) (n : Nat) : Heap := { h with objs := h.objs.extract 0 n }
abbrev cutS (s : Shared) (n : Nat) : Shared := { s with heap := cut s.heap n }
abbrev reb (X : Cx) (s0 : Shared) (H0 : Hp) : Cx := { X with s_0 := s0, H_0 := H0, xe := fun _ _ => False }
def RunS (s s1 : Shared) : Prop := ∀ i : Nat, s.gens[i]? = some .running → s1.gens[i]? = some .running
theorem RunS.refl {s : Shared} : RunS s s := fun _ h => h
theorem RunS.trans {a b c : Shared} (h : RunS a b) (k : RunS b c) : RunS a c := fun i e => k i (h i e)
structure Pro (T : Type) where
  hp : T → Hp
  src : T → Shared → Shared
  out : Nat → T → V → Hp → Prop
  lk : Nat → T → Hp → T → Prop
  fin : Nat → T → Hp → Prop
structure QE (T : Type) where
  nx : Nat → T → L2.St → Hp → Prop
  rt : Nat → T → V → Hp → Prop
  bk : Nat → T → L2.St → Hp → Prop := fun _ _ _ _ => False
  ct : Nat → T → L2.St → Hp → Prop := fun _ _ _ _ => False
def QE.at {T : Type} (D : QE T) (n : Nat) (γ : T) : Ends := { nx := D.nx n γ, rt := D.rt n γ, bk := D.bk n γ, ct := D.ct n γ }
structure QI {T : Type} (X : Cx) (g n0 : Nat) (P : Pro T) (ip : List (Addr × Obj)) (gp : List (Nat × GenState)) (γ : T) (s₀ : Shared) (σ : L2.St) (H : Hp) (s : Shared) : Prop where
  inv : Inv (reb X (cutS (P.src γ s₀) n0) (P.hp γ)) ip σ H s
  run : s.gens[g]? = some .running
  sz : n0 ≤ (P.src γ s₀).heap.objs.size
  ips : ∀ p ∈ ip, n0 ≤ p.1
  slp : RunS s₀ s
  gpn : ∀ q ∈ gp, IsSusp q.2 ∧ s.gens[q.1]? = some q.2
def QY {T : Type} (X : Cx) (g n0 : Nat) (P : Pro T) : ProI (T × Shared) := fun n i v s kap =>
  ∃ σ ip gp x H, QI X g n0 P ip gp i.1 i.2 σ H s ∧ RelV x v ∧ P.out n i.1 x H ∧
    ∀ s' γ', QI X g n0 P ip gp γ' s' σ (P.hp γ') s' → P.lk n i.1 H γ' → kap (.send .none) (γ', s') s'
def QR {T : Type} (X : Cx) (g n0 : Nat) (P : Pro T) (N : Nat) (Er : Value → Shared → Prop) : EndI (T × Shared) := fun n i r s1 =>
  ((r = .ok (.ret .none) ∨ r = .ok .next) ∧ ∃ σ ip gp H, QI X g n0 P ip gp i.1 i.2 σ H s1 ∧ P.fin n i.1 H) ∨ ∃ e, r = .error e ∧ (n = N ∧ Er e s1)
section
variable {T : Type} {Z : GpZ} {st : Stmt} {rest : List Stmt} {pos : Pos}
end
end Gz
end
section
namespace Gz
open PySem PySem.Spec PyProof.Rows L2 GenW Gh
section
variable {X : Cx} {ip : List (Addr × Obj)} {σ : L2.St} {H : Hp} {s : Shared}
end
structure HxOk (n : Nat) (H H2 : Hp) : Prop where
  low : ∀ {b : Addr}, b < n → H2 b = H b
  ext : ∀ {b : Addr} {o : HO}, H b = some o → H2 b = some o
  tup : ∀ {b : Addr} {xs : List V}, H2 b = some (.tup xs) → H b = some (.tup xs)
  frz : ∀ {b : Addr} {od : Obj} {u : HO}, H2 b = some (.frz od u) → H b = some (.frz od u)
  tbl : ∀ {b : Addr} {ps : Array Value}, H2 b = some (.tbl ps) → H b = some (.tbl ps)
theorem HxOk.sub {n : Nat} {H H2 : Hp} (h : HxOk n H H2) {b : Addr} (e : H2 b = none) : H b = none := by
  cases q : H b with
  | none => rfl
  | some o =>
    rw [h.ext q] at e
    cases e
theorem HxOk.mono {n m : Nat} {H H2 : Hp} (h : HxOk n H H2) (l : m ≤ n) : HxOk m H H2 := ⟨fun q => h.low (Nat.lt_of_lt_of_le q l), h.ext, h.tup, h.frz, h.tbl⟩
theorem HxOk.same {n : Nat} {H H2 : Hp} (h : H2 = H) : HxOk n H H2 := by
  subst h
  exact ⟨fun _ => rfl, fun e => e, fun e => e, fun e => e, fun e => e⟩
theorem HxOk.trans {n : Nat} {H H2 H3 : Hp} (h : HxOk n H H2) (k : HxOk n H2 H3) : HxOk n H H3 :=
  ⟨fun q => (k.low q).trans (h.low q), fun e => k.ext (h.ext e), fun e => h.tup (k.tup e), fun e => h.frz (k.frz e), fun e => h.tbl (k.tbl e)⟩
theorem HxOk.one {n : Nat} {H H2 : Hp} (z : ∃ S o, n ≤ S ∧ H S = none ∧ (∀ xs, o ≠ .tup xs) ∧ (∀ od u, o ≠ .frz od u) ∧ (∀ ps, o ≠ .tbl ps) ∧ H2 = upd H S o) : HxOk n H H2 := by
  obtain ⟨S, o, h0, h1, h2, h3, h4, rfl⟩ := z
  refine ⟨fun l => ?_, fun e => ?_, fun {b xs} e => ?_, fun {b od u} e => ?_, fun {b ps} e => ?_⟩
  · rw [upd_ne (Nat.ne_of_lt (Nat.lt_of_lt_of_le l h0))]
  · rw [upd_ne (ne_of_none e h1)]; exact e
  · by_cases q : b = S
    · rw [q, upd_same] at e; cases e; exact absurd rfl (h2 _)
    · rwa [upd_ne q] at e
  · by_cases q : b = S
    · rw [q, upd_same] at e; cases e; exact absurd rfl (h3 _ _)
    · rwa [upd_ne q] at e
  · by_cases q : b = S
    · rw [q, upd_same] at e; cases e; exact absurd rfl (h4 _)
    · rwa [upd_ne q] at e
section
variable {T : Type} {X : Cx} {st : Stmt} {rest : List Stmt}
end
structure GX (X : Cx) (P : Program) (w : World) (base : Heap) (outer : List Env) (a : Addr) (g n0 : Nat) : Prop where
  prog : X.prog = P
  w : X.w = w
  base : X.base = base
  outer : X.outer = outer
  ex : X.ex = []
  cel : ∀ x c, X.env.cells.lookup x = some c → False
  gen : ∀ h : Heap, (∀ p ∈ X.pn, h.get? p.1 = some p.2) → h.IsGen a g
  loc : n0 ≤ X.env.locals
  pns : ∀ p ∈ X.pn, n0 ≤ p.1
end Gz
end
section
namespace Gz
open PySem PySem.Spec PyProof.Rows L2 GenW Gh
def wrapP {T : Type} (P : Pro T) : Pro (T × Option Shared) := { hp := fun γ => P.hp γ.1, src := fun γ s => γ.2.getD s, out := fun n γ => P.out n γ.1, lk := fun n γ H γ' => P.lk n γ.1 H γ'.1, fin := fun n γ => P.fin n γ.1 }
section
variable {Xc X : Cx} {pins ip : List (Addr × Obj)} {σc σ : L2.St} {h1 h2 H1 : Hp} {s s' : Shared} {n0 : Nat}
end
structure SameC (X Y : Cx) : Prop where
  prog : Y.prog = X.prog
  w : Y.w = X.w
  base : Y.base = X.base
  stack : Y.stack = X.stack
theorem SameC.refl {X : Cx} : SameC X X := ⟨rfl, rfl, rfl, rfl⟩
structure Older (X XG : Cx) (pins : List (Addr × Obj)) (a : Addr) (g ns : Nat) : Prop where
  gx : GX XG X.prog X.w X.base X.stack a g ns
  s0 : X.s_0.heap.objs.size ≤ ns
  lo : X.env.locals < ns
  cl : ∀ x c, X.env.cells.lookup x = some c → c < ns
  pl : ∀ p ∈ X.pn ++ pins, p.1 < ns
  fs : ∀ b ∈ X.fs, b < ns
theorem Older.of {X XG : Cx} {pins : List (Addr × Obj)} {a : Addr} {g : Nat} {σ : L2.St} {H : Hp} {sc : Shared} (gx : GX XG X.prog X.w X.base X.stack a g sc.heap.objs.size) (I1 : Inv X pins σ H sc) : Older X XG pins a g sc.heap.objs.size :=
  ⟨gx, I1.sz, I1.lt, fun x c e => by
    obtain ⟨v, o, q, _⟩ := I1.cell x c e
    exact Heap.lt_size q, fun p hp => Heap.lt_size (I1.pin p hp).1, fun b hb => by
    obtain ⟨_, o, e, _⟩ := I1.ok.funs.mem hb
    exact Nat.lt_of_lt_of_le (Heap.lt_size e) I1.sz⟩
def Fst {T : Type} (X : Cx) (pins : List (Addr × Obj)) (P : Pro T) (ns : Nat) (γ : T × Option Shared) (σ : L2.St) : Prop :=
  ∀ s', γ.2 = some s' → s'.heap.objs.size = ns ∧ ∃ H1, Inv X pins σ H1 s' ∧ HxOk ns H1 (P.hp γ.1)
def Pulled {T : Type} (M : Model) (P : Pro T) (XG : Cx) (ns : Nat) (a : Addr) (g : Nat) (A : Around) (ER : Value → Shared → Prop) (N n : Nat) (γ : T × Option Shared) (s : Shared) : Prop :=
  s.heap.IsGen a g ∧ ∃ gs, s.gens[g]? = some gs ∧ GGoes M A.in1 (QR XG g ns (wrapP P) (N + 1) ER) (QY XG g ns (wrapP P)) (n + 1) (γ, s.setGen g .running) gs (.send .none) (s.setGen g .running)
section
variable {T : Type} {X XG : Cx} {pins : List (Addr × Obj)} {P : Pro T} {s s4 : Shared} {a : Addr} {g ns N n : Nat} {A : Around} {ER : Value → Shared → Prop} {σ σg : L2.St} {H4 : Hp} {γ : T × Option Shared} {ip : List (Addr × Obj)} {gp : List (Nat × GenState)} {gs' : GenState}
end
def PullS {T : Type} (X : Cx) (pins : List (Addr × Obj)) (P : Pro T) (I : Nat → T → L2.St → Prop) (sc : Shared) (XG : Cx) (a : Addr) (g : Nat) (A : Around) (H1 : Hp) (E : XK) (N n : Nat) (s : Shared) : Prop :=
  ∃ γ : T × Option Shared, ∃ σ, I n γ.1 σ ∧ Inv X pins σ (P.hp γ.1) s ∧ Fst X pins P sc.heap.objs.size γ σ ∧ Pulled (model X.prog X.w) P XG sc.heap.objs.size a g A (fun e s1 => CX X.prog X.w X.stack H1 sc E e s1 ∧ s1.heap.IsGen a g) N n γ s
section
variable {T : Type} {X XG : Cx} {pins : List (Addr × Obj)} {P : Pro T} {I : Nat → T → L2.St → Prop} {sc s : Shared} {a : Addr} {g N n : Nat} {A : Around} {H1 : Hp} {E : XK} {σ1 : L2.St}
theorem PullS.inv (h : PullS X pins P I sc XG a g A H1 E N n s) : ∃ γ σ, I n γ σ ∧ Inv X pins σ (P.hp γ) s := by
  obtain ⟨γ, σ, h1, h2, _⟩ := h
  exact ⟨γ.1, σ, h1, h2⟩
theorem PullS.gen (h : PullS X pins P I sc XG a g A H1 E N n s) : s.heap.IsGen a g := by
  obtain ⟨γ, _, _, _, _, h, _⟩ := h
  exact h
end
section
variable {X : Cx} {tg iter : Expr} {body : List Stmt} {tq : TQG} {gt : TG} {tb : TS} {pos : Pos} {k : Nat} {E : XK}
end
end Gz
end
section
namespace Gp
open PySem PySem.Spec PyProof.Rows L2 Gh Gz
section
variable {W W' L : Type}
end
structure PY (g : Gw) (all : List D) (N : Nat) {T : Type} (P : Pro T) where
  U : T → Addr → Prop
  B : T → Nat
  ok : Prop
  out : ∀ n γ x H1 d, n + 1 ≤ N → all[N - (n + 1)]? = some d → Den g (U γ) H1 x d → Wd g H1 (B γ) → Fr (P.hp γ) H1 g.p → P.out n γ x H1
  lk : ∀ n γ H1 γ', P.lk n γ H1 γ' → 0 < n ∧ Ev (U γ) H1 (U γ') (P.hp γ') ∧ UOk g (U γ') (P.hp γ') ∧ Wd g (P.hp γ') (B γ')
  fin : ∀ n γ H1, ok → n + all.length = N → Wd g H1 (B γ) → Fr (P.hp γ) H1 g.p → P.fin n γ H1
abbrev NoM : Addr → Prop := fun _ => False
section
variable {g : Gw} {T : Type} {P : Pro T} {all : List D} {N : Nat} {W W' L : Type}
def gqP (Y : PY g all N P) (D : QE T) (env : W → Env) (envL : L → Env) (n : Nat) (U : Addr → Prop) (H : Hp) : Fl W L → Prop
  | .nx w => ∀ γ' U' σ' H', Ev U H U' H' → Stt g NoM (Y.U γ') (P.hp γ') U' σ' H' (Y.B γ') (env w) → D.nx n γ' σ' H'
  | .rt _ => False
  | .bk w => ∀ γ' U' σ' H', Ev U H U' H' → Stt g NoM (Y.U γ') (P.hp γ') U' σ' H' (Y.B γ') (envL w) → D.bk n γ' σ' H'
  | .ct w => ∀ γ' U' σ' H', Ev U H U' H' → Stt g NoM (Y.U γ') (P.hp γ') U' σ' H' (Y.B γ') (envL w) → D.ct n γ' σ' H'
theorem gqP.ev {Y : PY g all N P} {D : QE T} {env : W → Env} {envL : L → Env} {n : Nat} {U U1 : Addr → Prop} {H H1 : Hp} (e : Ev U H U1 H1) : ∀ {f : Fl W L}, gqP Y D env envL n U H f → gqP Y D env envL n U1 H1 f
  | .nx w, h => fun γ' U' σ' H' e1 => h γ' U' σ' H' (e.trans e1)
  | .rt _, h => h
  | .bk w, h => fun γ' U' σ' H' e1 => h γ' U' σ' H' (e.trans e1)
  | .ct w, h => fun γ' U' σ' H' e1 => h γ' U' σ' H' (e.trans e1)
end
theorem Ev.sup {U U1 U' : Addr → Prop} {H H' : Hp} (h : Ev U H U' H') (s : ∀ a, U a → U1 a) : Ev U1 H U' H' := ⟨fun a o e n t => h.keep a o e (fun z => n (s a z)) t, fun a o e n t => h.out a o e (fun z => n (s a z)) t⟩
section
variable {g : Gw} {W W' L : Type} {ε : Env} {env : W → Env} {envL : L → Env} {env' : W' → Env} {u ta tb : TQA} {te : TE} {me : Tr D}
end
end Gp
end
section
namespace Gp
open PySem PySem.Spec PyProof.Rows L2 Gh
inductive BX where
  | lit (b : Bool) | own (x : Str) | ty (x : String) | and (p q : BX)
def BX.v : BX → Bool
  | .lit b => b
  | .own _ => true
  | .ty _ => true
  | .and p q => p.v && q.v
def BX.free : BX → Bool
  | .lit _ => true
  | .own _ => false
  | .ty _ => false
  | .and p q => p.free && q.free
section
variable {g : Gw} {U : Addr → Prop} {H H' : Hp} {b : Nat} {σ : L2.St} {ε : Env}
end
end Gp
end
section
namespace Gp
open PySem PySem.Spec PyProof.Rows L2 Gh
section
variable {X : Cx} {pins : List (Addr × Obj)} {σ : L2.St} {H : Hp} {s : Shared} {g : Gw} {U : Addr → Prop}
end
def sysB (K : PySem.W.Frag) : Bool := (K.lookup sysModules).isSome
section
variable {X : Cx} {K : PySem.W.Frag}
end
section
variable {g : Gw} {E : XK}
end
end Gp
end
section
namespace Gp
open PySem PySem.Spec PyProof.Rows L2 Gh
inductive IX where
  | s (x : Str) | n (i : Int) | f (cn x : Str)
def IX.d (cl : Str) (fs : Fs) : IX → Option D
  | .s x => if x.length ≤ sizeLine then some (.str x) else none
  | .n k => some (.int k)
  | .f cn x => if (cl == cn) = true then fs.lookup x else none
def ixDs (cl : Str) (fs : Fs) : List IX → Option (List D)
  | [] => some []
  | x :: r => match x.d cl fs, ixDs cl fs r with
    | some d, some ds => some (d :: ds)
    | _, _ => none
inductive TX where
  | own (x : Str) | not (p : TX) | and (p q : TX) | own2 (x y : Str)
def TX.v (ki : Str → Str → Option Bool) (cl : Str) : TX → Option Bool
  | .own x => ki cl x
  | .not p => (p.v ki cl).map (!·)
  | .and p q => match p.v ki cl with
    | none => none
    | some false => some false
    | some true => q.v ki cl
  | .own2 x y => match ki cl x, ki cl y with
    | some a, some b => some (a || b)
    | _, _ => none
inductive VX where
  | one (x : IX) | lst (l : List IX)
def VX.d (cl : Str) (fs : Fs) : VX → Option D
  | .one x => x.d cl fs
  | .lst l => match ixDs cl fs l with
    | some ds => if ds.length ≤ sizeLine then some (.lst ds) else none
    | none => none
inductive S1X where
  | set (v : VX) | sel (t : TX) (v u : VX)
def S1X.d (ki : Str → Str → Option Bool) (cl : Str) (fs : Fs) : S1X → Option D
  | .set v => v.d cl fs
  | .sel t v u => match t.v ki cl with
    | none => none
    | some true => v.d cl fs
    | some false => u.d cl fs
section
variable {g : Gw} {U : Addr → Prop} {H : Hp} {b : Nat} {σ : L2.St}
variable {a dd : Addr} {cl : Str} {i j n : Nat} {fvs : List (Str × V)} {fs : Fs} {ki : Str → Str → Option Bool}
end
end Gp
end
section
namespace Gp
open PySem PySem.Spec PyProof.Rows L2 Gh
section
variable {g : Gw} {Mt U0 U U' : Addr → Prop} {H0 H H' H1 H2 : Hp} {b b1 b2 : Nat} {σ : L2.St} {ε ε' : Env} {E : XK} {W L W' : Type}
variable {env : W → Env} {envL : L → Env} {env' : W' → Env} {u ta tb : TS} {te : TE} {me : Tr D}
def frP (g : Gw) (U : Addr → Prop) (H : Hp) (c : Str) (Q : VK) : Fs → Nat → Prop := fun fs b' => ∀ x dx fvs H', (∀ o, H x = some o → ∃ ps, o = .tbl ps) → H' x = some (.ins (gd c g.K) dx fvs) → DenF g (fun a => U a ∨ a = x) H' fvs fs → Wd g H' b' → Fr H H' g.p → Q (.ref x) H'
theorem fresh_back {g : Gw} {H H' : Hp} {b : Nat} (w : Wd g H' b) (f : Fr H H' g.p) {x : Addr} (n : ∀ o, H' x = some o → ∃ ps, o = .tbl ps) : ∀ o, H x = some o → ∃ ps, o = .tbl ps := fun o e => by
  by_cases t : ∃ ps, o = .tbl ps
  · exact t
  · by_cases hp : x = g.p
    · subst hp
      obtain ⟨ns, i, z, h, _⟩ := w.pen
      obtain ⟨ps, q⟩ := n _ h
      cases q
    · exact n o (f x o e hp fun ps z => t ⟨ps, z⟩)
theorem frP.fr {c : Str} {Q : VK} {fs : Fs} (w : Wd g H1 b1) (f : Fr H H1 g.p) (h : frP g U H c Q fs b) : frP g U H1 c Q fs b := fun x dx fvs H' n hx df w' f' => h x dx fvs H' (fresh_back w f n) hx df w' (f.trans f')
end
end Gp
end
section
namespace Gp
open PySem PySem.Spec PyProof.Rows L2 Gh
section
variable {g : Gw} {Mt U0 U U' : Addr → Prop} {H0 H H' H1 H2 : Hp} {b b1 b2 : Nat} {σ : L2.St} {ε ε' : Env} {E : XK} {W L W' : Type}
variable {env : W → Env} {envL : L → Env} {env' : W' → Env} {u ta tb : TS} {te : TE} {me : Tr D}
def KeepJ (js : List Nat) (σ σ' : L2.St) : Prop := ∀ j ∈ js, σ'[j]? = σ[j]?
def flJ (js : List Nat) (σ0 : L2.St) (g : Gw) (Mt U0 : Addr → Prop) (H0 : Hp) (U : Addr → Prop) (H : Hp) (D : Ends) (env : W → Env) (envL : L → Env) : Fl W L → Nat → Prop
  | .nx w, b => ∀ U' σ' H', Ev U H U' H' → Stt g Mt U0 H0 U' σ' H' b (env w) → KeepJ js σ0 σ' → D.nx σ' H'
  | .rt d, b => ∀ v H, Den g U0 H v d → Wd g H b → FrM g Mt H0 H → D.rt v H
  | .bk w, b => ∀ U' σ' H', Ev U H U' H' → Stt g Mt U0 H0 U' σ' H' b (envL w) → KeepJ js σ0 σ' → D.bk σ' H'
  | .ct w, b => ∀ U' σ' H', Ev U H U' H' → Stt g Mt U0 H0 U' σ' H' b (envL w) → KeepJ js σ0 σ' → D.ct σ' H'
theorem flJ.ev {js : List Nat} {σ0 : L2.St} {U1 : Addr → Prop} {H1 : Hp} {D : Ends} {env : W → Env} {envL : L → Env} (e : Ev U H U1 H1) : ∀ {f : Fl W L}, flJ js σ0 g Mt U0 H0 U H D env envL f b → flJ js σ0 g Mt U0 H0 U1 H1 D env envL f b
  | .nx w, h => fun U' σ' H' e1 => h U' σ' H' (e.trans e1)
  | .rt d, h => h
  | .bk w, h => fun U' σ' H' e1 => h U' σ' H' (e.trans e1)
  | .ct w, h => fun U' σ' H' e1 => h U' σ' H' (e.trans e1)
end
end Gp
end
section
namespace Gp
open PySem PySem.Spec PyProof.Rows L2 Gh
section
variable {X : Cx}
end
section
variable {κ : Type} [DecidableEq κ] {α : Type}
end
section
variable {κ : Type} [DecidableEq κ] {g : Gw} {U : Addr → Prop} {H : Hp}
end
section
variable {g : Gw} {Mt U0 U U' : Addr → Prop} {H0 H H' H1 H2 : Hp} {b b1 : Nat} {σ : L2.St} {ε ε' : Env} {E : XK} {W L W' : Type}
variable {env : W → Env} {envL : L → Env} {env' : W' → Env} {u ta tb : TS} {te td ty tv : TE} {me : Tr D}
theorem OwR.code {o : HO} {x : Ow} (h : OwR g U H o x) (c q) : LamX.CodeO c q ≠ o := fun e => by
  unfold LamX.CodeO at e
  rcases h.no with ⟨vs, z⟩ | ⟨vs, z⟩ | ⟨vs, z⟩ <;> (rw [z] at e; cases e)
end
end Gp
end
section
namespace Gp
open PySem PySem.Spec PyProof.Rows L2 Gh
structure Lo (g : Gw) (Mt U0 : Addr → Prop) (H0 : Hp) (U : Addr → Prop) (σ : L2.St) (ε : Env) (l : Addr) : Prop where
  u : U l
  p : l ≠ g.p
  c : l ≠ g.c
  ow : ∀ j, ¬ OwnAt σ ε j l
  h0 : Mt l ∨ ∀ o, H0 l = some o → ∃ ps, o = .tbl ps
  u0 : ¬ U0 l
section
variable {g : Gw} {Mt U0 U U' : Addr → Prop} {H0 H H' H1 H2 : Hp} {b b1 : Nat} {σ : L2.St} {ε ε' : Env} {E : XK} {W L W' : Type}
variable {env : W → Env} {envL : L → Env} {env' : W' → Env} {u ta tb : TS} {te : TE} {me : Tr D}
theorem own_there (s : Stt g Mt U0 H0 U σ H b ε) {j : Nat} {a : Addr} (h : OwnAt σ ε j a) : ∃ o, H a = some o := by
  obtain ⟨h1, ⟨ds, h2⟩ | ⟨c, fs, h2⟩⟩ := h
  · obtain ⟨o, e, a', vs, e2, h, _⟩ := s.rel.at_ j _ h2
    rw [h1] at e
    cases e
    cases e2
    exact ⟨_, h⟩
  · obtain ⟨o, e, a', dx, fvs, e2, h, _⟩ := s.rel.at_ j _ h2
    rw [h1] at e
    cases e
    cases e2
    exact ⟨_, h⟩
theorem lo_new {A : Addr} {vs : List V} (s : Stt g Mt U0 H0 U σ H b ε) (n : H A = none) :
    Stt g Mt U0 H0 (fun a => U a ∨ a = A) σ (upd H A (.lst vs)) b ε ∧ Lo g Mt U0 H0 (fun a => U a ∨ a = A) σ ε A ∧ Ev U H (fun a => U a ∨ a = A) (upd H A (.lst vs)) := by
  have sm := same_new (o := .lst vs) n
  have nU : ¬ U A := s.uok.new n
  have hp : A ≠ g.p := fun z => nU (z ▸ s.uok.p)
  have hc : A ≠ g.c := fun z => nU (z ▸ s.uok.c)
  have r1 : Rel g (fun a => U a ∨ a = A) (upd H A (.lst vs)) σ ε := (s.rel.grow n).frp (.inl s.uok.p) (fr_same sm)
  refine ⟨⟨r1, s.wd.same sm, ⟨.inl s.uok.p, .inl s.uok.c, fun a ha => ?_⟩, fun a z => .inl (s.sub a z), s.own, s.ext.trans (fr_same sm), s.nu0, s.oim⟩, ⟨.inr rfl, hp, hc, fun j h => ?_, ?_, fun h => nU (s.sub _ h)⟩, fun a o e _ _ => sm a o e, fun a o e n1 _ => ?_⟩
  · rcases ha with ha | rfl
    · obtain ⟨o, e, t⟩ := s.uok.al a ha
      exact ⟨o, sm a o e, t⟩
    · exact ⟨_, upd_same, (fun _ z => by cases z), (fun _ z => by cases z)⟩
  · obtain ⟨o, e⟩ := own_there s h
    rw [n] at e
    cases e
  · by_cases m : Mt A
    · exact .inl m
    · refine .inr fun o q => ?_
      by_cases t : ∃ ps, o = .tbl ps
      · exact t
      · have := s.ext A o q hp m (fun ps z => t ⟨ps, z⟩)
        rw [n] at this
        cases this
  · rintro (z | z)
    · exact n1 z
    · exact ne_of_none e n z
theorem lo_mut {l : Addr} {vs : List V} (s : Stt g Mt U0 H0 U σ H b ε) (lo : Lo g Mt U0 H0 U σ ε l) (h : H l = some (.lst vs)) (vs' : List V) :
    Stt g Mt U0 H0 U σ (upd H l (.lst vs')) b ε ∧ Ev U H U (upd H l (.lst vs')) := by
  have kp : Keep H (upd H l (.lst vs')) l := fun x o e ne => by rw [upd_ne ne]; exact e
  have xt : ExtU U H (upd H l (.lst vs')) := fun x o e ne _ => kp x o e (fun z => ne (z ▸ lo.u))
  have apart : ∀ j x, OwnAt σ ε j x → x ≠ l := fun j x z e => by
    subst e
    exact lo.ow j z
  refine ⟨⟨⟨s.rel.len, fun j x e => ?_, s.rel.apart⟩, ⟨s.wd.pen.keep kp lo.p lo.c, tabs_keepL kp h s.wd.tabs⟩, ⟨s.uok.p, s.uok.c, fun x hx => ?_⟩, s.sub, s.own, fun x o e m1 m2 m3 => ?_, s.nu0, s.oim⟩, xt, fun _ _ _ n _ => n⟩
  · obtain ⟨o, e1, e2⟩ := s.rel.at_ j x e
    refine ⟨o, e1, ?_⟩
    cases x with
    | no => trivial
    | fz d =>
      obtain ⟨v, e3, e4⟩ := e2
      exact ⟨v, e3, e4.ext xt⟩
    | ow ds2 =>
      obtain ⟨a2, v2, rfl, h2, d2, u2, m1, m2⟩ := e2
      have ne := apart j a2 ⟨e1, .inl ⟨ds2, e⟩⟩
      exact ⟨a2, v2, rfl, kp _ _ h2 ne, d2.map (fun q => q.ext xt), u2, m1, m2⟩
    | oi c fs =>
      obtain ⟨a2, dx, v2, rfl, h2, d2, u2, m1, m2⟩ := e2
      have ne := apart j a2 ⟨e1, .inr ⟨c, fs, e⟩⟩
      exact ⟨a2, dx, v2, rfl, kp _ _ h2 ne, d2.ext xt, u2, m1, m2⟩
  · by_cases q : x = l
    · subst q
      exact ⟨_, upd_same, (fun _ z => by cases z), (fun _ z => by cases z)⟩
    · obtain ⟨o, e, t⟩ := s.uok.al x hx
      exact ⟨o, kp x o e q, t⟩
  · have q : x ≠ l := fun z => by
      subst z
      rcases lo.h0 with w | w
      · exact m2 w
      · obtain ⟨ps, z⟩ := w o e
        exact m3 ps z
    exact kp x o (s.ext x o e m1 m2 m3) q
theorem lo_fz {l : Addr} (s : Stt g Mt U0 H0 U σ H b ε) (lo : Lo g Mt U0 H0 U σ ε l) :
    Stt g Mt U0 H0 (fun x => U x ∧ x ≠ l) σ H b ε ∧ Ev U H (fun x => U x ∧ x ≠ l) H := by
  have sub : ∀ x, (∃ o, H x = some o) → (U x ∧ x ≠ l) → U x := fun x _ z => z.1
  refine ⟨⟨⟨s.rel.len, fun j x e => ?_, s.rel.apart⟩, s.wd, ⟨⟨s.uok.p, lo.p.symm⟩, ⟨s.uok.c, lo.c.symm⟩, fun x hx => s.uok.al x hx.1⟩, fun x z => ⟨s.sub x z, fun e => lo.u0 (e ▸ z)⟩, s.own, s.ext, s.nu0, s.oim⟩, fun _ _ e _ _ => e, fun _ _ _ n _ z => n z.1⟩
  obtain ⟨o, e3, e2⟩ := s.rel.at_ j x e
  refine ⟨o, e3, ?_⟩
  cases x with
  | no => trivial
  | fz d =>
    obtain ⟨v, e4, e5⟩ := e2
    exact ⟨v, e4, e5.sub sub⟩
  | ow ds2 =>
    obtain ⟨a2, v2, rfl, h2, d2, u2, m1, m2⟩ := e2
    exact ⟨a2, v2, rfl, h2, d2.map (fun q => q.sub sub), ⟨u2, fun z => lo.ow j ⟨z ▸ e3, .inl ⟨ds2, e⟩⟩⟩, m1, m2⟩
  | oi c fs =>
    obtain ⟨a2, dx, v2, rfl, h2, d2, u2, m1, m2⟩ := e2
    exact ⟨a2, dx, v2, rfl, h2, d2.sub sub, ⟨u2, fun z => lo.ow j ⟨z ▸ e3, .inr ⟨c, fs, e⟩⟩⟩, m1, m2⟩
theorem Lo.grow {l A : Addr} (lo : Lo g Mt U0 H0 U σ ε l) : Lo g Mt U0 H0 (fun a => U a ∨ a = A) σ ε l := ⟨.inl lo.u, lo.p, lo.c, lo.ow, lo.h0, lo.u0⟩
theorem Lo.cut {l A : Addr} (lo : Lo g Mt U0 H0 U σ ε l) (n : l ≠ A) : Lo g Mt U0 H0 (fun a => U a ∧ a ≠ A) σ ε l := ⟨⟨lo.u, n⟩, lo.p, lo.c, lo.ow, lo.h0, lo.u0⟩
theorem Lo.keep {l : Addr} {σ' : L2.St} (lo : Lo g Mt U0 H0 U σ ε l) (h : ∀ j, OwnAt σ' ε' j l → OwnAt σ ε j l) : Lo g Mt U0 H0 U σ' ε' l := ⟨lo.u, lo.p, lo.c, fun j z => lo.ow j (h j z), lo.h0, lo.u0⟩
structure Grp (g : Gw) (Mt U0 : Addr → Prop) (H0 : Hp) (U : Addr → Prop) (σ : L2.St) (H : Hp) (b : Nat) (ε : Env) (i : Nat) (A l : Addr) (vs ws : List V) (a : List (List D)) (la : List D) : Prop where
  s : Stt g Mt U0 H0 U σ H b ε
  lA : Lo g Mt U0 H0 U σ ε A
  ll : Lo g Mt U0 H0 U σ ε l
  ne : A ≠ l
  at_ : σ[i]? = some (some (.ref A))
  hA : H A = some (.lst (vs ++ [.ref l]))
  hl : H l = some (.lst ws)
  dA : DenL g U H vs (a.map D.lst)
  dl : DenL g U H ws la
  zA : a.length + 1 ≤ sizeLine
  zl : la.length ≤ sizeLine
theorem Grp.fr {i : Nat} {A l : Addr} {vs ws : List V} {a : List (List D)} {la : List D} (G : Grp g Mt U0 H0 U σ H b ε i A l vs ws a la) (f : Fr H H' g.p) (w : Wd g H' b1) : Grp g Mt U0 H0 U σ H' b1 ε i A l vs ws a la :=
  ⟨G.s.fr f w, G.lA, G.ll, G.ne, G.at_, f _ _ G.hA G.lA.p (fun _ z => by cases z), f _ _ G.hl G.ll.p (fun _ z => by cases z), G.dA.fr G.s.uok f, G.dl.fr G.s.uok f, G.zA, G.zl⟩
theorem Grp.push {i : Nat} {A l l' : Addr} {vs ws : List V} {a : List (List D)} {la : List D} (G : Grp g Mt U0 H0 U σ H b ε i A l vs ws a la) (n : H l' = none) (z : a.length + 1 < sizeLine) :
    Grp g Mt U0 H0 (fun x => (U x ∨ x = l') ∧ x ≠ l) σ (upd (upd H l' (.lst [])) A (.lst ((vs ++ [.ref l]) ++ [.ref l']))) b ε i A l' (vs ++ [.ref l]) [] (a ++ [la]) [] ∧ Ev U H (fun x => (U x ∨ x = l') ∧ x ≠ l) (upd (upd H l' (.lst [])) A (.lst ((vs ++ [.ref l]) ++ [.ref l']))) := by
  obtain ⟨s1, lo1, e1⟩ := lo_new (vs := []) G.s n
  have nA : l' ≠ A := fun q => by
    rw [q, G.hA] at n
    cases n
  have nl : l' ≠ l := fun q => by
    rw [q, G.hl] at n
    cases n
  have hA1 : upd H l' (.lst []) A = some (.lst (vs ++ [.ref l])) := by rw [upd_ne nA.symm]; exact G.hA
  have hl1 : upd H l' (.lst []) l = some (.lst ws) := by rw [upd_ne nl.symm]; exact G.hl
  obtain ⟨s2, e2⟩ := lo_fz s1 (G.ll.grow (A := l'))
  have lA2 := (G.lA.grow (A := l')).cut G.ne
  have lo2 := lo1.cut nl
  obtain ⟨s3, e3⟩ := lo_mut s2 lA2 hA1 ((vs ++ [.ref l]) ++ [.ref l'])
  have ev := (e1.trans e2).trans e3
  have hl3 : upd (upd H l' (.lst [])) A (.lst ((vs ++ [.ref l]) ++ [.ref l'])) l = some (.lst ws) := by rw [upd_ne G.ne.symm]; exact hl1
  refine ⟨⟨s3, lA2, lo2, nA.symm, G.at_, upd_same, ?_, ?_, .nil, ?_, Nat.zero_le _⟩, ev⟩
  · rw [upd_ne nA]
    exact upd_same
  · rw [List.map_append]
    exact (G.dA.ev ev).append (.cons (.lst hl3 (fun q => q.2 rfl) (by rw [G.dl.length]; exact G.zl) (G.dl.ev ev)) .nil)
  · rw [List.length_append]
    exact z
end
section
variable {W L : Type} {g : Gw} {E : XK} {ε : Env} {tb : TS} {env : W → Env} {envL : L → Env}
end
end Gp
end
section
namespace Gp
open PySem PySem.Spec PyProof.Rows L2 Gh
section
variable {g : Gw} {U U' : Addr → Prop} {H : Hp} {a : Addr} {vs : List V}
end
section
variable {g : Gw} {U U' : Addr → Prop} {H : Hp}
end
section
variable {g : Gw} {Mt U0 U U' : Addr → Prop} {H0 H H' H1 H2 : Hp} {b b1 : Nat} {σ : L2.St} {ε ε' : Env} {E : XK} {W L W' : Type}
variable {env : W → Env} {envL : L → Env} {env' : W' → Env} {u ta tb : TS} {te tc t1 t2 : TE} {me : Tr D}
def Lent (g : Gw) (Mt U0 : Addr → Prop) (H0 : Hp) (U : Addr → Prop) (σ : L2.St) (H : Hp) (ε : Env) (i n c : Nat) : Prop :=
  ∃ A vs, σ[i]? = some (some (.ref A)) ∧ Lo g Mt U0 H0 U σ ε A ∧ H A = some (.lst vs) ∧ vs.length = n ∧ ∀ (k : Nat) (v : V), vs[k]? = some v → ∃ l ws, v = .ref l ∧ l ≠ A ∧ Lo g Mt U0 H0 U σ ε l ∧ H l = some (.lst ws) ∧ ws.length + c ≤ sizeLine
theorem Lent.fr {i n c : Nat} (l : Lent g Mt U0 H0 U σ H ε i n c) (f : Fr H H' g.p) : Lent g Mt U0 H0 U σ H' ε i n c := by
  obtain ⟨A, vs, e, lA, hA, hn, ls⟩ := l
  refine ⟨A, vs, e, lA, f _ _ hA lA.p (fun _ z => by cases z), hn, fun k v hv => ?_⟩
  obtain ⟨l, ws, e1, e2, e3, e4, e5⟩ := ls k v hv
  exact ⟨l, ws, e1, e2, e3, f _ _ e4 e3.p (fun _ z => by cases z), e5⟩
end
end Gp
end
section
namespace Gp
open PySem PySem.Spec PyProof.Rows L2 Gh
section
variable {g : Gw} {E : XK} {ε : Env} {W L : Type} {u : TS} {env : W → Env} {envL : L → Env} {te to ti : TE}
end
section
variable {g : Gw} {E : XK} {ε : Env} {ta tb tc td : TE} {ma mb md : Tr D}
end
section
variable {g : Gw} {E : XK} {ε : Env} {W L : Type} {u : TS} {env : W → Env} {envL : L → Env}
end
def setB (x : Str) (K : PySem.W.Frag) : Bool := PySem.W.noSeq K (gd x K) && (He.eqO (PySem.W.findIn K (.ref (gd x K)) "__setitem__") (some (some (.ref (md x "__setitem__" K)))) && PySem.W.isFn K (.ref (md x "__setitem__" K)))
section
variable {g : Gw} {U : Addr → Prop} {H : Hp} {E : XK}
end
end Gp
namespace L2
open PySem PySem.Spec PyProof.Rows
end L2
namespace Gp
open PySem PySem.Spec PyProof.Rows L2 Gh
end Gp
end
section
set_option maxHeartbeats 0
namespace Lw
open PySem PySem.Spec PyProof.Rows L2 Gh Gp
def top (i : Nat) : Stmt := PySem.Challenge.pw_everyhunt_k08_rows_refused.main.body.getD i (.Pass ⟨0, 0, 0, 0⟩)
abbrev s_BadLength___init__ : Stmt := inClass (top 3) 0
def d_BadLength___init__ : Df := ⟨md "BadLength" "__init__", "__init__", "BadLength.__init__", s_BadLength___init__, []⟩
abbrev s_BadPlace___init__ : Stmt := inClass (top 4) 0
def d_BadPlace___init__ : Df := ⟨md "BadPlace" "__init__", "__init__", "BadPlace.__init__", s_BadPlace___init__, []⟩
abbrev s_BadRow___init__ : Stmt := inClass (top 5) 0
def d_BadRow___init__ : Df := ⟨md "BadRow" "__init__", "__init__", "BadRow.__init__", s_BadRow___init__, []⟩
abbrev s__law_pen : Stmt := top 19
def d__law_pen : Df := ⟨gd "_law_pen", "_law_pen", "_law_pen", s__law_pen, []⟩
abbrev s__law_draw : Stmt := top 20
def d__law_draw : Df := ⟨gd "_law_draw", "_law_draw", "_law_draw", s__law_draw, []⟩
abbrev s_is_integer : Stmt := top 8
def d_is_integer : Df := ⟨gd "is_integer", "is_integer", "is_integer", s_is_integer, []⟩
abbrev s_is_within : Stmt := top 9
def d_is_within : Df := ⟨gd "is_within", "is_within", "is_within", s_is_within, []⟩
abbrev s_is_item : Stmt := top 15
def d_is_item : Df := ⟨gd "is_item", "is_item", "is_item", s_is_item, []⟩
abbrev s_need_items : Stmt := top 16
def d_need_items : Df := ⟨gd "need_items", "need_items", "need_items", s_need_items, []⟩
abbrev s_Row___init__ : Stmt := inClass (top 17) 1
def d_Row___init__ : Df := ⟨md "Row" "__init__", "__init__", "Row.__init__", s_Row___init__, []⟩
abbrev s_Row_home : Stmt := inClass (top 17) 2
def d_Row_home : Df := ⟨clsG "Row" "home", "home", "Row.home", s_Row_home, []⟩
abbrev s_Row_contents : Stmt := inClass (top 17) 4
def d_Row_contents : Df := ⟨propG "Row" "contents", "contents", "Row.contents", s_Row_contents, []⟩
abbrev s_Row_need_place : Stmt := inClass (top 17) 8
def d_Row_need_place : Df := ⟨md "Row" "need_place", "need_place", "Row.need_place", s_Row_need_place, []⟩
abbrev s_Row_need_stretch : Stmt := inClass (top 17) 9
def d_Row_need_stretch : Df := ⟨md "Row" "need_stretch", "need_stretch", "Row.need_stretch", s_Row_need_stretch, []⟩
abbrev s_Row_exchange : Stmt := inClass (top 17) 10
def d_Row_exchange : Df := ⟨md "Row" "exchange", "exchange", "Row.exchange", s_Row_exchange, []⟩
abbrev s_Row___len__ : Stmt := inClass (top 17) 17
def d_Row___len__ : Df := ⟨md "Row" "__len__", "__len__", "Row.__len__", s_Row___len__, []⟩
abbrev s_Row___getitem__ : Stmt := inClass (top 17) 20
def d_Row___getitem__ : Df := ⟨md "Row" "__getitem__", "__getitem__", "Row.__getitem__", s_Row___getitem__, []⟩
abbrev s_Row___setitem__ : Stmt := inClass (top 17) 21
def d_Row___setitem__ : Df := ⟨md "Row" "__setitem__", "__setitem__", "Row.__setitem__", s_Row___setitem__, []⟩
abbrev s__law_pick : Stmt := top 21
def d__law_pick : Df := ⟨gd "_law_pick", "_law_pick", "_law_pick", s__law_pick, []⟩
abbrev s__law_heard : Stmt := top 22
def d__law_heard : Df := ⟨gd "_law_heard", "_law_heard", "_law_heard", s__law_heard, []⟩
abbrev s__law_is : Stmt := top 23
def d__law_is : Df := ⟨gd "_law_is", "_law_is", "_law_is", s__law_is, []⟩
abbrev s__law_odd_item : Stmt := top 24
def d__law_odd_item : Df := ⟨gd "_law_odd_item", "_law_odd_item", "_law_odd_item", s__law_odd_item, []⟩
abbrev s__law_bent : Stmt := top 25
def d__law_bent : Df := ⟨gd "_law_bent", "_law_bent", "_law_bent", s__law_bent, []⟩
abbrev s__law_made_right : Stmt := top 26
def d__law_made_right : Df := ⟨gd "_law_made_right", "_law_made_right", "_law_made_right", s__law_made_right, []⟩
abbrev s__law_store : Stmt := top 27
def d__law_store : Df := ⟨gd "_law_store", "_law_store", "_law_store", s__law_store, []⟩
abbrev s__law_odd_index : Stmt := top 28
def d__law_odd_index : Df := ⟨gd "_law_odd_index", "_law_odd_index", "_law_odd_index", s__law_odd_index, []⟩
abbrev s__law_indexes_right : Stmt := top 29
def d__law_indexes_right : Df := ⟨gd "_law_indexes_right", "_law_indexes_right", "_law_indexes_right", s__law_indexes_right, []⟩
abbrev s__law_puts_right : Stmt := top 30
def d__law_puts_right : Df := ⟨gd "_law_puts_right", "_law_puts_right", "_law_puts_right", s__law_puts_right, []⟩
abbrev s_law : Stmt := top 31
def d_law : Df := ⟨gd "law", "law", "law", s_law, []⟩
def fns : List Df := [d_BadLength___init__, d_BadPlace___init__, d_BadRow___init__, d__law_pen, d__law_draw, d_is_integer, d_is_within, d_is_item, d_need_items, d_Row___init__, d_Row_home, d_Row_contents, d_Row_need_place, d_Row_need_stretch, d_Row_exchange, d_Row___len__, d_Row___getitem__, d_Row___setitem__, d__law_pick, d__law_heard, d__law_is, d__law_odd_item, d__law_bent, d__law_made_right, d__law_store, d__law_odd_index, d__law_indexes_right, d__law_puts_right, d_law]
def sds : List Gp.Ds := []
def pfile : Str := PySem.Challenge.pw_everyhunt_k08_rows_refused.main.file
def exs : List (PySem.W.Frag → Bool) := [fa (.free "abs"), fa (.free "bool"), fa (.free "dict"), fa (.free "enumerate"), fa (.free "int"), fa (.free "isinstance"), fa (.free "len"), fa (.free "list"), fa (.free "min"), fa (.free "range"), fa (.free "repr"), fa (.free "tuple"), fa (.glo "_law_pen"), fa (.keep "_law_pen"), fa (.glo "_law_draw"), fa (.keep "_law_draw"), fa (.glo "is_integer"), fa (.keep "is_integer"), fa (.glo "is_within"), fa (.keep "is_within"), fa (.glo "is_item"), fa (.keep "is_item"), fa (.glo "need_items"), fa (.keep "need_items"), fa (.glo "_law_pick"), fa (.keep "_law_pick"), fa (.glo "_law_heard"), fa (.keep "_law_heard"), fa (.glo "_law_is"), fa (.keep "_law_is"),
  fa (.glo "_law_odd_item"), fa (.keep "_law_odd_item"), fa (.glo "_law_bent"), fa (.keep "_law_bent"), fa (.glo "_law_made_right"), fa (.keep "_law_made_right"), fa (.glo "_law_store"), fa (.keep "_law_store"), fa (.glo "_law_odd_index"), fa (.keep "_law_odd_index"), fa (.glo "_law_indexes_right"), fa (.keep "_law_indexes_right"), fa (.glo "_law_puts_right"), fa (.keep "_law_puts_right"), fa (.glo "BadLength"), fa (.keep "BadLength"), fa (.glo "BadPlace"), fa (.keep "BadPlace"), fa (.glo "BadRow"), fa (.keep "BadRow"), fa (.glo "Row"), fa (.keep "Row"), fa (.glo "HuntError"), fa (.keep "HuntError"), fa (.int "BEYOND_ITEMS" 1000000000000000000000000000000), fa (.int "MOST_ITEMS" 2000), fa (.noat "BadLength" "value"), errB "BadLength", oexB "BadLength", iniB "BadLength",
  (fun K => decide (PySem.W.exmOne K (.ref (gd "BadLength" K)) (.ref (gd "HuntError" K)) = some true)), fa (.noat "BadPlace" "value"), errB "BadPlace", oexB "BadPlace", iniB "BadPlace", (fun K => decide (PySem.W.exmOne K (.ref (gd "BadPlace" K)) (.ref (gd "HuntError" K)) = some true)), fa (.noat "BadRow" "at"), errB "BadRow", oexB "BadRow", iniB "BadRow", (fun K => decide (PySem.W.exmOne K (.ref (gd "BadRow" K)) (.ref (gd "HuntError" K)) = some true)), fa (.cls "Row"), insB "Row", fa (.noat "Row" "own_items"), fa (.mkr "Row"), propB "Row" "contents", fa (.meth "Row" "need_place"), fa (.meth "Row" "need_stretch"), fa (.meth "Row" "exchange"), fa (.meth "Row" "__len__"), fa (.meth "Row" "__getitem__"), ixB "Row", fa (.meth "Row" "__setitem__"), (fun K => PySem.W.noSeq K (gd "Row" K)), Gp.sysB, clmB "Row" "home", (fun K => xfB K (gd "BadLength" K)), (fun K => xfB K (gd "BadPlace" K)), (fun K => xfB K (gd "BadRow" K)), (fun K => decide ((He.cT K ("_law_made_right", none)).2 ≠ (He.cT K ("_law_indexes_right", none)).2)),
  (fun K => decide ((He.cT K ("_law_made_right", none)).2 ≠ (He.cT K ("_law_puts_right", none)).2)), (fun K => decide ((He.cT K ("_law_made_right", none)).2 ≠ (He.cT K ("law", none)).2)), (fun K => decide ((He.cT K ("_law_indexes_right", none)).2 ≠ (He.cT K ("_law_puts_right", none)).2)), (fun K => decide ((He.cT K ("_law_indexes_right", none)).2 ≠ (He.cT K ("law", none)).2)), (fun K => decide ((He.cT K ("_law_puts_right", none)).2 ≠ (He.cT K ("law", none)).2)), (fun K => decide (PySem.W.kitOne K (.ref (gd "BadLength" K)) (.ref (gd "BadRow" K)) = some false)), (fun K => decide (PySem.W.kitOne K (.ref (gd "BadPlace" K)) (.ref (gd "BadRow" K)) = some false)), (fun K => decide (PySem.W.kitOne K (.ref (gd "BadRow" K)) (.ref (gd "BadRow" K)) = some true)), (fun K => decide (PySem.W.kitOne K (.ref (gd "BadLength" K)) (.ref (gd "BadLength" K)) = some true)), (fun K => decide (PySem.W.kitOne K (.ref (gd "BadPlace" K)) (.ref (gd "BadLength" K)) = some false)), (fun K => decide (PySem.W.kitOne K (.ref (gd "BadRow" K)) (.ref (gd "BadLength" K)) = some false)), (fun K => decide (PySem.W.kitOne K (.ref (gd "BadLength" K)) (.ref (gd "BadPlace" K)) = some false)), (fun K => decide (PySem.W.kitOne K (.ref (gd "BadPlace" K)) (.ref (gd "BadPlace" K)) = some true)), (fun K => decide (PySem.W.kitOne K (.ref (gd "BadRow" K)) (.ref (gd "BadPlace" K)) = some false)), setB "Row", fa (.glo "law")]
def loose0 : List Str := ["_wall", "__name__", "HuntError", "BadLength", "BadPlace", "BadRow", "BadText", "is_integer", "is_within", "number_in", "MOST_ITEMS", "BEYOND_ITEMS"]
def loose1 : List Str := ["is_item", "need_items", "Row", "_law_pen", "_law_draw", "_law_pick", "_law_heard", "_law_is", "_law_odd_item", "_law_bent", "_law_made_right", "_law_store"]
def loose2 : List Str := ["_law_odd_index", "_law_indexes_right", "_law_puts_right"]
def loose : List Str := loose0 ++ loose1 ++ loose2
abbrev R : PySem.W.OpenRow := PySem.W.OpenLaw.row PySem.Challenge.rw_everyhunt_k08_rows_refused
def tfs : List He.Defn := [("_law_made_right", none), ("_law_indexes_right", none), ("_law_puts_right", none), ("law", none)]
def adrs : List Addr := [1, 3, 31, 51, 70, 89, 117, 124, 136, 143, 326, 337, 344, 351, 358, 365, 372, 377, 384, 391, 398, 405, 410, 415, 30, 50, 69, 88, 116, 123, 135, 142, 325, 336, 343, 350, 357, 364, 371, 376, 383, 390, 397, 404, 409, 414, 48, 67, 86, 157, 166, 185, 213, 220, 227, 276, 297, 304, 47, 66, 85, 156, 164, 184, 212, 219, 226, 275, 296, 303, 163, 183, 2]
abbrev hk : PySem.W.Hook := Gp.hookL adrs exs fns tfs sds pfile
def ob (s : PySem.W.SharedT) : Gp.AlS := Gp.obsL adrs exs fns tfs sds pfile (HandSHeadRun.getT s)
theorem run (w : World) : HandSHeadRun.RunEq R (PySem.W.view R.prog [31]) hk ob 20000 loose w := by
  intro os
  kernel_rfl
section
variable {K : PySem.W.Frag} {mg : Str → Option Value} {Tb : List (Addr × Str)} {p c : Addr}
end
end Lw
end
section
namespace Gh
open PySem PySem.Spec PyProof.Rows L2
abbrev FnA (K : PySem.W.Frag) (d : Df) (fd : FuncData) : Prop := FunD K d.name d.qual (defArgs d.st) (defBody d.st) (defScope d.st) (d.dvs K) [] (d.adr K) fd
theorem Df.funD {K : PySem.W.Frag} {d : Df} (e : fnAt K (d.adr K) = d.val) (c : d.ok K = true) : ∃ fd, FnA K d fd := by
  obtain ⟨kp, c2⟩ := He.ba c
  unfold fnAt at e
  cases q : K.lookup (d.adr K) with
  | none =>
    rw [q] at c2
    cases c2
  | some o =>
    obtain ⟨oc, od, dt, osl⟩ := o
    rw [q] at c2 e
    cases dt with
    | func fd =>
      obtain ⟨n1, n2, n3, n4, n5, n6, n7, n8, n9, n10, n11, n12, n13, n14, n15⟩ := fd
      have e2 : (some (n1, n2, n3, n4, n5, n6, n7, n15) : He.FnW) = some (d.name, d.qual, defArgs d.st, .stmts (defBody d.st), defScope d.st, mainGlobals, [], builtinsNs) := e
      simp only [Option.some.injEq, Prod.mk.injEq] at e2
      obtain ⟨h1, h2, h3, h4, h5, h6, h7, h8⟩ := e2
      subst h1 h2 h3 h4 h5 h6 h7 h8
      have c3 : (PySem.W.codeIn K n13 d.qual && (He.dflB K n8 (d.dvs K) && He.kwdB K n9 [])) = true := c2
      obtain ⟨k1, k2⟩ := He.ba c3
      obtain ⟨k3, k4⟩ := He.ba k2
      exact ⟨_, ⟨oc, od, n8, n9, n10, n11, n12, n13, n14, osl, rfl, q, k1, He.dflB_ok k3, He.kwdB_ok k4⟩, kp⟩
    | _ => cases c2
theorem Says.fact {ex : List (PySem.W.Frag → Bool)} {fn : List Df} {K : PySem.W.Frag} (c : Says ex fn K) (i : Nat) {f : PySem.W.Frag → Bool} (h : ex[i]? = some f := by rfl) : f K = true := by
  have c1 := (He.ba (show ((ex.all fun f => f K) && fn.all fun d => d.ok K) = true from congrArg (fun z : Al => z.1) c)).1
  exact List.all_eq_true.mp c1 f (List.mem_of_getElem? h)
theorem Says.def_ {ex : List (PySem.W.Frag → Bool)} {fn : List Df} {K : PySem.W.Frag} (c : Says ex fn K) (i : Nat) {d : Df} (h : fn[i]? = some d := by rfl) : ∃ fd, FnA K d fd := by
  have c2 := (He.ba (show ((ex.all fun f => f K) && fn.all fun d => d.ok K) = true from congrArg (fun z : Al => z.1) c)).2
  have e : fn.map (fun d => fnAt K (d.adr K)) = fn.map Df.val := congrArg (fun z : Al => z.2) c
  have e2 : (fn.map fun d => fnAt K (d.adr K))[i]? = (fn.map Df.val)[i]? := by rw [e]
  rw [List.getElem?_map, List.getElem?_map, h] at e2
  exact Df.funD (Option.some.inj e2) (List.all_eq_true.mp c2 d (List.mem_of_getElem? h))
theorem propB_ok {x m : Str} {K : PySem.W.Frag} (h : propB x m K = true) : PropOf K (He.ga K x) m (He.ma K (He.ga K x) m) (propG x m K) := by
  obtain ⟨h1, h2⟩ := He.ba h
  obtain ⟨h3, h4⟩ := He.ba h2
  obtain ⟨h5, h6⟩ := He.ba h4
  refine ⟨He.eqO_ok h1, He.eqO_ok h3, of_decide_eq_true h5, ?_⟩
  unfold propG
  cases q : PySem.W.recIn K (He.ma K (He.ga K x) m) "property" with
  | none =>
    rw [q] at h6
    cases h6
  | some l =>
    rw [q] at h6
    cases l with
    | nil => cases h6
    | cons v r =>
      cases v with
      | ref g => exact ⟨r, rfl⟩
      | _ => cases h6
theorem insB_ok {x : Str} {K : PySem.W.Frag} (h : insB x K = true) : InsT K (gd x K) := by
  obtain ⟨h1, h⟩ := He.ba h
  obtain ⟨h2, h⟩ := He.ba h
  obtain ⟨h3, h⟩ := He.ba h
  obtain ⟨h4, h⟩ := He.ba h
  obtain ⟨h5, h⟩ := He.ba h
  obtain ⟨h6, h7⟩ := He.ba h
  exact ⟨He.eqO_ok h1, He.eqO_ok h2, of_decide_eq_true h3, of_decide_eq_true h4, of_decide_eq_true h5, fun n hn => of_decide_eq_true (List.all_eq_true.mp h6 n hn), fun n hn => of_decide_eq_true (List.all_eq_true.mp h7 n hn)⟩
theorem pe_gi {X : Cx} {x : Str} {i : Int} {pos : Pos} (h : ∃ t, X.mg x = some (.int i t)) (hg : Gl X x) (hd : (x == ("__debug__" : Str)) = false := by decide) : PE X (.Name x pos) (tC (.int i)) := by
  obtain ⟨t, e⟩ := h
  exact pe_glob hg e ⟨t, rfl⟩ hd
end Gh
end
section
namespace Gh
open PySem PySem.Spec PyProof.Rows L2
section
variable {P : Program} {w : World} {K : PySem.W.Frag} {mg : Str → Option Value} {base : Heap} {CX : CXT} {j k : Nat} {f : Addr} {fd : FuncData} {ps : List Str} {sp : Sp} {dvs : List V}
theorem fnG_of {x qual : Str} {params : Arguments} {body : List Stmt} {scope : Scope} {kws : List (Str × V)} {N : List Str} (F : FunD K x qual params body scope dvs kws f fd) (S : FnScope N ps scope) (len : ∀ vs H Q E, sp vs H Q E → vs.length = ps.length)
    (hbody : ∀ (cdv : Value) (A : Around) (outer : List Env) (s : Shared) (H : Hp) (vs : List V) (Q : VK) (E : XK), Room k (A.deeper (envOfC qual scope s.heap.objs.size f cdv)) → (A.deeper (envOfC qual scope s.heap.objs.size f cdv)).guards = some [] → sp vs H Q E →
      ∃ t, PSs (cxOf CX P w K mg base N qual scope f cdv A outer s H E) body t ∧ t { nx := fun _ H' => Q .non H', rt := Q } (start N vs) H) : FnG P w K mg base CX (k + 1) f fd ps sp := by
  obtain ⟨oc, od, dV, kV, doc, pm, an, cdv, ct, osl, rfl, lk, hcd, _, _⟩ := F.ex
  refine ⟨len, fun A outer s H args us vs Q E hr hg e0 hb r hsp => ?_⟩
  have hl := len _ _ _ _ hsp
  have KX : K.In s.heap := e0.mod.kin.keeps fun b o e => (e0.bs b o e).1
  have lim : s.heap.NoLimit := e0.mod.nolimit.keeps fun b o e => (e0.bs b o e).1
  have hkind : ∀ y ∈ ps.zip us, scope.names.lookup y.1 = some .local ∨ (scope.names.lookup y.1 = some .cell ∧ ((cellsFrom (s.heap.objs.size + 1) scope.names []).lookup y.1).isSome = true) := fun ⟨n, v⟩ hy => by
    rcases S.par n (List.of_mem_zip hy).1 with q | q
    · exact .inl q
    · exact .inr ⟨q, PySem.W.cellsFrom_some _ _ _ (.inl q)⟩
  refine codeAny_call_function hr.depth (KX _ _ lk) rfl S.co S.gen rfl (PySem.W.codeRec_of KX hcd) (hb _ _ _ _ ?_)
  refine wpAny_newFunctionEnv_cells S.kind hkind fun env he s1 x => ?_
  subst he
  refine ⟨lim.keeps x.toInCall.keep, codeAny_func ?_⟩
  obtain ⟨t, ht, hq⟩ := hbody cdv A outer s H vs Q E (hr.deeper _) hg hsp
  have I : Inv (cxOf CX P w K mg base N qual scope f cdv A outer s H E) [] (start N vs) H s1 := inv_start S hr.hd e0 hl r x
  refine wpAny_mono (ht.run [] s1 (start N vs) H _ I hq) (fun fl s' hs => ?_) fun e s' hs => hs
  cases fl with
  | ret u =>
    obtain ⟨v, σ', H', J, rv, q⟩ := hs
    exact ⟨v, H', J.os, J.bare, J.base, J.hok, rv, q⟩
  | next =>
    obtain ⟨σ', H', J, q⟩ := hs
    exact ⟨V.non, H', J.os, J.bare, J.base, J.hok, rfl, q⟩
  | brk =>
    obtain ⟨_, _, _, q⟩ := hs
    exact False.elim q
  | cont =>
    obtain ⟨_, _, _, q⟩ := hs
    exact False.elim q
end
section
variable {X : Cx} {CX : CXT} {k : Nat} {f g C : Addr} {sp : Sp} {dvs : List V} {E : XK} {x m : Str} {p pos apos : Pos} {e o : Expr} {es : List Expr} {ta tb : TE} {t : TA} {r : List V → Hp → VK → Prop}
@[irreducible] def rMk (C : Addr) (sp : Sp) (dvs : List V) (E : XK) : List V → Hp → VK → Prop := fun vs H Q =>
  ∀ x dx, H x = none → H dx = none → dx ≠ x → sp (.ref x :: (vs ++ dvs)) (upd (upd H dx (.own x)) x (.ins C dx [])) (fun v H2 => v = .non ∧ Q (.ref x) H2) E
theorem guards_make {A : Around} {us : List Value} {kw : List (Str × Value)} (h : A.guards = some []) : (A.under (.builtin "type.__call__" ⟨.ref C :: us, kw⟩)).guards = some [] := by
  show pushGuards (Code.guards (.builtin "type.__call__" ⟨.ref C :: us, kw⟩)) A.guards = some []
  have e : Code.guards (.builtin "type.__call__" ⟨.ref C :: us, kw⟩) = [] := by
    unfold Code.guards
    rw [if_neg (by show ¬ (guardIds.contains "type.__call__" = true); decide)]
  rw [e]
  exact h
theorem Prom.make (M : Mk X.K C f) (F : PromX X CX k f dvs sp) (hr : Room (k + 1) X.A) (hg : X.A.guards = some []) (hx : Passes CX X E) : CallR X (.ref C) (rMk C sp dvs E) := by
  intro pins s σ H vs us Q I r h
  unfold rMk at h
  obtain ⟨fd, ps, ds, G, b, hd⟩ := F
  have hq := h (s.heap.objs.size + 1) s.heap.objs.size (I.hok.fresh (Nat.le_succ _)) (I.hok.fresh (Nat.le_refl _)) (Nat.ne_of_lt (Nat.lt_succ_self _))
  have I2 := Inv.made (C := C) I
  have r2 : Vals (V.ref (s.heap.objs.size + 1) :: (vs ++ dvs)) (Value.ref (s.heap.objs.size + 1) :: (us ++ ds)) := .cons rfl (r.append hd)
  have hl : (Value.ref (s.heap.objs.size + 1) :: us ++ ds).length = ps.length := by
    have e := r2.length
    rw [G.len _ _ _ _ hq] at e
    exact e.symm
  refine wpAny_call (make_map (f := f) I.kIn M.makes M.init (beq_iff_eq.mp M.fn) (codeAny_mono (G.run _ X.stack _ _ ⟨Value.ref (s.heap.objs.size + 1) :: us, []⟩ (Value.ref (s.heap.objs.size + 1) :: (us ++ ds)) _ _ E (hr.make C us []) (guards_make hg)
    (I2.env0.make C us []) (b _ (Value.ref (s.heap.objs.size + 1) :: us) I2.kIn hl) r2 hq) fun r s' hq' => ?_))
  cases r with
  | error e => exact hx pins σ _ _ e s' I2 hq'
  | ok fl =>
    cases fl with
    | ret u =>
      obtain ⟨v, H', I3, rv, ev, q3⟩ := I2.after hq'
      subst ev
      exact ⟨rv, ⟨V.ref (s.heap.objs.size + 1), H', I3, rfl, q3⟩⟩
    | next => exact False.elim hq'
    | brk => exact False.elim hq'
    | cont => exact False.elim hq'
def tCl (r : List V → Hp → VK → Prop) (t : TA) : TE := fun σ H Q => t σ H fun vs H1 => r vs H1 Q
theorem pe_g (R : CallR X (.ref f) r) (hg : Gl X x) (hm : X.mg x = some (.ref f)) (hk : PySem.W.keepIn X.K (.ref f) = true)
    (ha : PA X (e :: es) t) (hdb : (x == ("__debug__" : Str)) = false := by decide) (he : starEach (e :: es) X.env = (false, eval e X.env) :: starEach es X.env := by rfl) (hpl : (backTo pos (starEach es X.env)).any (·.1) = false := by rfl) :
    PE X (.Call (.Name x p) (e :: es) [] pos) (tCl r t) := by
  refine ⟨fun pins s σ H Q I h => ?_⟩
  refine wpAny_Call_Name_kw (ld_glob I hg hm ?_ hdb)
  refine PySem.W.callWith_K (h₀ := X.base) I.ok.mod.kin hk (thn (ha.run pos pins s σ H _ I h) fun us s1 ⟨vs, H1, I1, r, q⟩ => ⟨I1.kIn, ?_⟩) he hpl
  exact R pins s1 σ H1 vs us Q I1 r q
def tMt (C : Addr) (m : Str) (r : List V → Hp → VK → Prop) (ta : TE) (t : TA) : TE := fun σ H Q => ta σ H fun x H1 => ∃ a dx fs, x = .ref a ∧ H1 a = some (.ins C dx fs) ∧ fs.lookup m = none ∧ t σ H1 fun vs H2 => r (x :: vs) H2 Q
theorem pe_m {pl : Sem Bool} (he : PE X o ta) (c : Cls X.K C) (hm : Meth X.K C m f) (R : CallR X (.ref f) r) (ha : PA X (e :: es) t)
    (hst : starEach (e :: es) X.env = (false, eval e X.env) :: starEach es X.env := by rfl) (hpl : (backTo pos (starEach es X.env)).any (·.1) = false := by rfl)
    (ht : eval (.Call (.Attribute o m apos) (e :: es) [] pos) X.env = (do
      let ov ← eval o X.env
      standAt apos.atName
      let (f, first) ← holding [ov] (getMethod ov m pl)
      callWith pos f first (backTo pos (starEach (e :: es) X.env)) (backToKw pos (keywordEach [] X.env))) := by rfl) :
    PE X (.Call (.Attribute o m apos) (e :: es) [] pos) (tMt C m r ta t) := by
  refine ⟨fun pins s σ H Q I h => ?_⟩
  refine PySem.W.methodCall_KW (pl := pl) (thn (he.run pins s σ H _ I h) fun u s1 ⟨x, H1, I1, rx, a, dx, fs, ex, ea, l, q⟩ => ?_) ht
  subst ex
  obtain rfl : u = Value.ref a := rx
  refine getmeth_ok I1 ea c hm l ?_
  refine PySem.W.callWith_K (first := [.ref a]) (h₀ := X.base) I.ok.mod.kin hm.kp (thn (ha.run pos pins s1 σ H1 _ I1 q) fun us s2 ⟨vs, H2, I2, r, q2⟩ => ⟨I2.kIn, ?_⟩) hst hpl
  exact R pins s2 σ H2 (.ref a :: vs) (.ref a :: us) Q I2 (.cons rfl r) q2
def tPr (C : Addr) (sp : Sp) (dvs : List V) (E : XK) (ta : TE) : TE := fun σ H Q => ta σ H fun x H1 => ∃ a dx fs, x = .ref a ∧ H1 a = some (.ins C dx fs) ∧ sp (.ref a :: dvs) H1 Q E
end
end Gh
end
section
namespace Gh
open PySem PySem.Spec PyProof.Rows L2
theorem Keep.put {H H' : Hp} {p : Addr} {o : HO} (h : Keep H H' p) : Keep H (upd H' p o) p := fun a u e ne => by
  rw [upd_ne ne]
  exact h a u e ne
theorem PenAt.le {H : Hp} {p : Addr} {a b : Nat} (h : PenAt H p b) (k : a ≤ b) : PenAt H p a := by
  obtain ⟨c, ns, i, z, h1, h2, h3, h4, h5, h6⟩ := h
  exact ⟨c, ns, i, z, h1, h2, h3, h4, by omega, h6⟩
theorem dp_ints (K : PySem.W.Frag) (H : Hp) : ∀ ns : List Int, DpAll K H (ns.map V.int) (ns.map PyData.int)
  | [] => .nil
  | n :: r => .cons (.int n) (dp_ints K H r)
theorem eqv_nil (ds : List PyData) : PyData.eqv (.list ds) (.list []) = ds.isEmpty := by
  cases ds <;> rfl
theorem atI_int {ns : List Int} {i : Int} (h0 : 0 ≤ i) (h1 : i < ns.length) : ∃ v, atI (ns.map V.int) i = some (.int v) ∧ v ∈ ns := by
  obtain ⟨j, rfl⟩ : ∃ j : Nat, i = j := ⟨i.toNat, by omega⟩
  have hl : j < ns.length := by omega
  refine ⟨ns[j], atI_nat ?_, List.getElem_mem hl⟩
  rw [List.getElem?_map, List.getElem?_eq_getElem hl]
  rfl
theorem pow_lt {i : Int} (h0 : 0 ≤ i) (h1 : i < 18446744073709551616) : i.natAbs < 2 ^ 64 := by
  have e : (2 : Nat) ^ 64 = 18446744073709551616 := by decide
  rw [e]
  omega
theorem mix_ok {x i a b c : Int} (h0 : 0 ≤ x) (h1 : x < 4294967296) (h2 : 0 ≤ i) (h3 : i ≤ 1000000) (ha : 0 ≤ a ∧ a ≤ 1000000) (hb : 0 ≤ b ∧ b ≤ 1000000) (hc : 0 ≤ c ∧ c ≤ 1000000) : (x * (2 * i + a) + b * i * i + c).natAbs < 2 ^ 64 := by
  have hii : 0 ≤ i * i ∧ i * i ≤ 1000000 * 1000000 := ⟨Int.mul_nonneg h2 h2, Int.mul_le_mul h3 h3 h2 (by decide)⟩
  have hxi : 0 ≤ x * (2 * i + a) ∧ x * (2 * i + a) ≤ 4294967296 * 4000000 := ⟨Int.mul_nonneg h0 (by omega), Int.mul_le_mul (by omega) (by omega) (by omega) (by decide)⟩
  have hbi : 0 ≤ b * (i * i) ∧ b * (i * i) ≤ 1000000 * (1000000 * 1000000) := ⟨Int.mul_nonneg hb.1 hii.1, Int.mul_le_mul hb.2 hii.2 hii.1 (by decide)⟩
  have e : b * i * i = b * (i * i) := Int.mul_assoc _ _ _
  refine pow_lt ?_ ?_ <;> (rw [e]; omega)
theorem mod_lt (x : Int) {m : Int} (h : 0 < m) : 0 ≤ x % m ∧ x % m < m := ⟨Int.emod_nonneg _ (by omega), Int.emod_lt_of_pos _ h⟩
theorem cut_all {xs : List V} {n : Nat} (h : xs.length ≤ n) : cutV xs none (some (n : Int)) = xs := by
  unfold cutV
  rw [HT.sIx_none, HT.sIx_nat, Nat.min_eq_right h, List.drop_zero, Nat.sub_zero]
  exact List.take_length
abbrev rInt1 : List V → Hp → VK → Prop := fun xs H Q => (∃ i, xs = [V.int i] ∧ Q (V.int i) H) ∨ ∃ k, xs = [V.bl k] ∧ Q (V.int (if k = true then 1 else 0)) H
def tCut (t u : TS) : TS := fun D σ H => ∃ M : L2.St → Hp → Prop, t { D with nx := M } σ H ∧ ∀ σ' H', M σ' H' → u D σ' H'
theorem pss_cut {X : Cx} {st : Stmt} {rest : List Stmt} {t u : TS} (h1 : PS X st t) (h2 : PSs X rest u) : PSs X (st :: rest) (tCut t u) := by
  refine ⟨fun pins s σ H D I h => ?_⟩
  obtain ⟨M, hm, hu⟩ := h
  refine wpAny_execs_cons (thn (h1.run pins s σ H { D with nx := M } I hm) fun f s1 q => ?_)
  cases f with
  | next =>
    obtain ⟨σ1, H1, I1, q1⟩ := q
    exact h2.run pins s1 σ1 H1 D I1 (hu σ1 H1 q1)
  | ret v => exact q
  | brk => exact q
  | cont => exact q
end Gh
end
section
namespace Gh
open PySem PySem.Spec PyProof.Rows L2
theorem fnG0 {P : Program} {w : World} {K : PySem.W.Frag} {mg : Str → Option Value} {base : Heap} {CX : CXT} {k : Nat} {f : Addr} {fd : FuncData} {ps : List Str} {sp : Sp} {dvs : List V} {x qual : Str} {params : Arguments} {body : List Stmt} {scope : Scope} {kws : List (Str × V)} {N : List Str}
    (F : FunD K x qual params body scope dvs kws f fd) (S : FnScope N ps scope) (len : ∀ vs H Q E, sp vs H Q E → vs.length = ps.length)
    (hbody : ∀ (cdv : Value) (A : Around) (outer : List Env) (s : Shared) (H : Hp) (vs : List V) (Q : VK) (E : XK), Room k (A.deeper (envOfC qual scope s.heap.objs.size f cdv)) → (A.deeper (envOfC qual scope s.heap.objs.size f cdv)).guards = some [] → sp vs H Q E →
      ∃ t, PSs (cxOf CX P w K mg base N qual scope f cdv A outer s H E).nox body t ∧ t { nx := fun _ H' => Q .non H', rt := Q } (start N vs) H) : FnG P w K mg base CX (k + 1) f fd ps sp :=
  fnG_of F S len fun cdv A outer s H vs Q E hr hg h => by
    obtain ⟨t, ht, q⟩ := hbody cdv A outer s H vs Q E hr hg h
    exact ⟨t, PSs.nox ht, q⟩
section
variable {X : Cx} {K : PySem.W.Frag}
theorem ix_listK (h : X.K = K) : IxR X (rIxL K) := h ▸ ix_list
end
end Gh
end
section
namespace Gh
open PySem PySem.Spec PyProof.Rows L2
theorem exk_ok {P : Program} {w : World} {H : Hp} {h : Heap} {a C d : Addr} {o : Obj} {vs : Array Value} (h1 : h.get? a = some o) (h2 : o.cls = .ref C) (h3 : o.dict = some d) (h4 : o.data = .fields vs) : ObjOk P w H h a (exk a C d) :=
  ⟨⟨o, vs, h1, h2, h3, h4⟩, ⟨o, h1⟩, fun _ _ z k => by
    obtain ⟨o, vs, h1, h2, h3, h4⟩ := z
    exact ⟨o, vs, k _ h1, h2, h3, h4⟩⟩
theorem exk_at {P : Program} {w : World} {H : Hp} {h : Heap} {a C d : Addr} (hok : HOk P w H h) (e : H a = some (exk a C d)) : ∃ (o : Obj) (vs : Array Value), h.get? a = some o ∧ o.cls = .ref C ∧ o.dict = some d ∧ o.data = .fields vs :=
  (show ObjOk P w H h a (exk a C d) from hok a _ e).1
theorem exk0_at {P : Program} {w : World} {H : Hp} {h : Heap} {a C : Addr} (hok : HOk P w H h) (e : H a = some (exk0 a C)) : ∃ (o : Obj) (vs : Array Value), h.get? a = some o ∧ o.cls = .ref C ∧ o.dict = none ∧ o.data = .fields vs :=
  (show ObjOk P w H h a (exk0 a C) from hok a _ e).1
structure ErrT (K : PySem.W.Frag) (C : Addr) : Prop where
  hg : PySem.W.findIn K (.ref C) "__getattribute__" = some (some (.builtin "BaseException.__getattribute__"))
  hk : PySem.W.findIn K (.ref C) "__getattr__" = some none
  hs : PySem.W.subIn K (.ref C) (.type "BaseException") = some true
  hd : PySem.W.hasDictIn K C = true
  ha : PySem.W.findIn K (.ref C) "__class__" = some (some (.builtin "object.__class__"))
  hn : PySem.W.specialIn K (.builtin "object.__class__") "__get__" = some (some (.builtin "getset_descriptor.__get__"))
  htk : PySem.W.takesIn K (.builtin "object.__class__") = some true
  hm : PySem.W.mroIn K C (.type "object") = some true
theorem errB_ok {x : Str} {K : PySem.W.Frag} (h : errB x K = true) : ErrT K (gd x K) := by
  obtain ⟨h1, h⟩ := He.ba h
  obtain ⟨h2, h⟩ := He.ba h
  obtain ⟨h3, h⟩ := He.ba h
  obtain ⟨h4, h⟩ := He.ba h
  obtain ⟨h5, h⟩ := He.ba h
  obtain ⟨h6, h⟩ := He.ba h
  obtain ⟨h7, h8⟩ := He.ba h
  exact ⟨He.eqO_ok h1, He.eqO_ok h2, of_decide_eq_true h3, h4, He.eqO_ok h5, He.eqO_ok h6, of_decide_eq_true h7, of_decide_eq_true h8⟩
section
variable {X : Cx} {e : Expr} {te : TE} {pos : Pos} {n : Str}
theorem exk_inst {pins : List (Addr × Obj)} {σ : L2.St} {H : Hp} {s : Shared} {a C d : Addr} {fs : List (Str × V)} (I : Inv X pins σ H s) (h1 : H a = some (exk a C d)) (h2 : H d = some (.xd fs)) :
    ∃ o od mA, PySem.W.InstAt s.heap a o C (some od) ∧ s.heap.Ns1 d mA ∧ (∀ f, RelO (fs.lookup f) (mA f)) ∧ s.heap.get? d = some od := by
  obtain ⟨o, vs, k1, k2, k3, k4⟩ := exk_at I.hok h1
  obtain ⟨mA, hns, hr⟩ := (show ObjOk X.prog X.w H s.heap d (.xd fs) from I.hok d _ h2)
  obtain ⟨od, ho, hl⟩ := lookIn_ns hns
  exact ⟨o, od, mA, ⟨k1, k2, by unfold PySem.W.notCls; rw [k4] <;> rfl, by rw [k3]; exact ho⟩, hns, hr, ho⟩
def rIsiZ (K : PySem.W.Frag) : List V → Hp → VK → Prop := fun xs H Q => rIsi K xs H Q ∨ (∃ (a C : Addr) (c : V) (u : Value) (b : Bool), xs = [.ref a, c] ∧ ClsV c u ∧ H a = some (exk0 a C) ∧ ErrT K C ∧ PySem.W.kitOne K (.ref C) u = some b ∧ Q (.bl b) H) ∨ ∃ (a C d : Addr) (fs : List (Str × V)) (c : V) (u : Value) (b : Bool), xs = [.ref a, c] ∧ ClsV c u ∧ H a = some (exk a C d) ∧ H d = some (.xd fs) ∧ ErrT K C ∧ PySem.W.kitOne K (.ref C) u = some b ∧ Q (.bl b) H
theorem call_isiZ {K : PySem.W.Frag} (hK : X.K = K) : CallR X (.builtin "isinstance") (rIsiZ K) := by
  subst hK
  intro pins s σ H xs us Q I r h
  rcases h with h | ⟨a, C, c, u, b, rfl, k, ea, T, e, q⟩ | ⟨a, C, d, fs, c, u, b, rfl, k, ea, ed, T, e, q⟩
  · exact call_isi pins s σ H xs us Q I r h
  · obtain ⟨u1, u2, rfl, r1, r2⟩ := vals2 r
    obtain rfl : u1 = Value.ref a := r1
    have e2 := k.eq r2
    subst e2
    obtain ⟨o, vs, k1, k2, k3, k4⟩ := exk0_at I.hok ea
    have J : PySem.W.InstAt s.heap a o C none := ⟨k1, k2, by unfold PySem.W.notCls; rw [k4] <;> rfl, by rw [k3]; exact True.intro⟩
    have hcl : (PySem.W.clsIn X.K C).isSome = true := by
      obtain ⟨cd, hc, _⟩ := PySem.W.any_some T.hd
      rw [hc]
      rfl
    exact PySem.W.kia_one (PySem.W.kitx_exc hcl T.hg T.hk T.hs T.ha T.hn T.htk T.hm) I.kIn J e (fun z => nomatch z) fun tk => ⟨.bl b, H, I.tok tk, rfl, q⟩
  · obtain ⟨u1, u2, rfl, r1, r2⟩ := vals2 r
    obtain rfl : u1 = Value.ref a := r1
    have e2 := k.eq r2
    subst e2
    obtain ⟨o, od, mA, J, _⟩ := exk_inst I ea ed
    have hcl : (PySem.W.clsIn X.K C).isSome = true := by
      obtain ⟨cd, hc, _⟩ := PySem.W.any_some T.hd
      rw [hc]
      rfl
    exact PySem.W.kia_one (PySem.W.kitx_exc hcl T.hg T.hk T.hs T.ha T.hn T.htk T.hm) I.kIn J e (fun z => nomatch z) fun tk => ⟨.bl b, H, I.tok tk, rfl, q⟩
end
theorem inv_track {X : Cx} {pins : List (Addr × Obj)} {σ : L2.St} {H : Hp} {s : Shared} {a : Addr} {o : HO} (I : Inv X pins σ H s) (hn : H a = none) (n0 : X.s_0.heap.get? a = none) (nL : a ≠ X.env.locals) (nC : ∀ x c, X.env.cells.lookup x = some c → c ≠ a) (nP : ∀ p ∈ X.pn ++ pins, p.1 ≠ a)
    (ok : ObjOk X.prog X.w (upd H a o) s.heap a o) : Inv X pins σ (upd H a o) s := by
  have ne : ∀ {b : Addr} {u : HO}, H b = some u → b ≠ a := fun e => ne_of_none e hn
  refine ⟨I.ok, I.os, I.bare, ⟨I.base.keep, I.base.slot, fun b u e n hx => ?_, I.base.there, fun b xs e => ?_, fun b u v e => ?_, fun b ps e => ?_⟩, I.loc, I.cell, ?_, fun x c e => ?_, fun p hp => ?_, fun b u e => ?_, I.len⟩
  · rw [upd_ne (fun z => by rw [z, n0] at e; cases e)]
    exact I.base.free b u e n hx
  · have z := I.base.tups b xs e
    rw [upd_ne (ne z)]
    exact z
  · have z := I.base.frzs b u v e
    rw [upd_ne (ne z)]
    exact z
  · obtain ⟨more, z⟩ := I.base.tbls b ps e
    exact ⟨more, by rw [upd_ne (ne z)]; exact z⟩
  · rw [upd_ne nL.symm]
    exact I.free
  · rw [upd_ne (nC x c e)]
    exact I.freeC x c e
  · obtain ⟨z1, z2, z3⟩ := I.pin p hp
    exact ⟨z1, by rw [upd_ne (nP p hp)]; exact z2, z3⟩
  · by_cases hb : b = a
    · subst hb
      rw [upd_same] at e
      cases e
      exact ok
    · rw [upd_ne hb] at e
      exact (I.hok b u e).stay (fun _ _ _ q => q) (fun c hc => by rw [upd_ne (ne hc)]; exact hc) (fun c xs hc => by rw [upd_ne (ne hc)]; exact hc)
section
variable {X : Cx} {x n : Str} {c : Value} {i : Nat} {body suite : List Stmt} {b₀ : Stmt} {np pos pos' : Pos} {tb : WX → TS} {ts : Addr → Value → Option Addr → TS} {Wout : WX}
end
end Gh
end
section
namespace Gh
open PySem PySem.Spec PyProof.Rows L2
theorem law_callTsG {P : Program} {w : World} {K : PySem.W.Frag} {mg mb : Str → Option Value} {CX : CXT} {k : Nat} {fa a : Addr} {cs : List (Addr × Addr)} {fd : FuncData} {x : Str} {sp : Sp} {s₁ : Shared} {vs : List Value} {ns : List Int}
    (KX : K.In s₁.heap) (hns : s₁.heap.Ns mainGlobals mg) (hb : s₁.heap.Ns builtinsNs mb) (hbb : ∀ x : Str, x ≠ "__name__" → mb x = bootBuiltins x) (hlim : s₁.heap.NoLimit) (hg : s₁.gens = #[])
    (hT : ∀ p ∈ cs, s₁.heap.get? p.2 = some { cls := .none, data := .fields #[] }) (nT : ∀ p ∈ cs, K.lookup p.2 = none) (C : ∀ p ∈ cs, PySem.W.CodeHd s₁.heap p.1 p.2)
    (hbm : ∃ (bm : Addr) (ob : Obj), mg "__builtins__" = some (.ref bm) ∧ bm ≠ builtinsNs ∧ s₁.heap.get? bm = some ob ∧ ob.cls = .type "module" ∧ ob.dict = some builtinsNs ∧ ob.data = .plain)
    (ha : s₁.heap.get? a = some { cls := .type "list", data := .seq vs.toArray }) (hi : IntsAre vs ns) (hl : ns.length ≤ sizeLine) (hr : Room k callerA)
    (F : ∀ base : Heap, K.In base → base.Ns mainGlobals mg → (∀ p ∈ cs, LamX.TabB base mg p.1 p.2) → FnG P w K mg base CX k fa fd [x] sp) (hbind : ∀ (s : Shared) (u : Value), BindsTo s fd ⟨[u], []⟩ [(x, u)])
    (hsp : ∀ H : Hp, (∀ p ∈ cs, H p.2 = some (.tbl #[])) → SqL K H a (ns.map V.int) → sp [.ref a] H (fun v _ => v = .bl true) fun _ _ _ => False)
    (hCX : ∀ H e s', CX [] H s₁ (fun _ _ _ => False) e s' → False) :
    codeAny (model P w) callerA (.call (.ref fa) ⟨[.ref a], []⟩) (fun r s' => r = .ok (.ret (.bool true)) ∧ OldK s₁.heap s'.heap ∧ s'.os = s₁.os ∧ AllBare s'.gens) s₁ := by
  have rv := vals_ints hi
  have lenV := hi.length
  have isT : ∀ b : Addr, b ∈ cs.map (·.2) → s₁.heap.get? b = some { cls := .none, data := .fields #[] } := fun b hb => by
    obtain ⟨p, hp, e⟩ := List.mem_map.mp hb
    rw [← e]
    exact hT p hp
  have aT : a ∉ cs.map (·.2) := fun z => by
    have q := isT a z
    rw [ha] at q
    have z' : Data.seq vs.toArray _ = Data.fields #[] := congrArg Obj.data (Option.some.inj q)
    cases z'
  have memT : ∀ p ∈ cs, p.2 ∈ cs.map (·.2) := fun p hp => List.mem_map.mpr ⟨p, hp, rfl⟩
  -- from an abstract heap in which nothing but the script and the tables may be tracked
  have core : ∀ H : Hp, (∀ p ∈ cs, H p.2 = some (.tbl #[])) → (∀ b, H b = none ∨ b ∈ cs.map (·.2) ∨ ∃ o xs, H b = some (.frz o (.lst xs))) → SqL K H a (ns.map V.int) → HOk P w H s₁.heap → (∀ b, H b ≠ none → b = a ∨ b ∈ cs.map (·.2)) → (H a ≠ none → K.lookup a = none) →
      codeAny (model P w) callerA (.call (.ref fa) ⟨[.ref a], []⟩) (fun r s' => r = .ok (.ret (.bool true)) ∧ OldK s₁.heap s'.heap ∧ s'.os = s₁.os ∧ AllBare s'.gens) s₁ := by
    intro H hH hO hS hok hA hK
    have base_of : ∀ {b : Addr} {o : Obj}, s₁.heap.get? b = some o → H b = none → (hidT s₁.heap H).get? b = some o := fun e n => hidT_get e n
    have noD : ∀ {b : Addr} {o : Obj}, s₁.heap.get? b = some o → (∀ vs n, o.data ≠ .seq vs n) → o.data ≠ .fields #[] → H b = none := fun {b o} e h1 h2 => by
      cases q : H b with
      | none => rfl
      | some u =>
        rcases hA b (by rw [q]; simp) with e' | e'
        · rw [e', ha] at e
          cases e
          exact (h1 _ _ rfl).elim
        · rw [isT b e'] at e
          cases e
          exact (h2 rfl).elim
    have noA : ∀ {b : Addr} {o : Obj} {es : Array DictEntry} {ep : Nat}, s₁.heap.get? b = some o → o.data = .dict es ep → H b = none := fun {b o es ep} e d => by
      refine noD e (fun vs n z => ?_) fun z => ?_
      · rw [d] at z
        cases z
      · rw [d] at z
        cases z
    have nsK : ∀ {b : Addr} {m : Str → Option Value}, s₁.heap.Ns b m → (hidT s₁.heap H).Ns b m := fun {b m} ⟨o, es, ep, e, d, r⟩ => ⟨o, es, ep, base_of e (noA e d), d, r⟩
    have hKb : K.In (hidT s₁.heap H) := fun b o e => base_of (KX b o e) (by
      cases q : H b with
      | none => rfl
      | some u =>
        rcases hA b (by rw [q]; simp) with e' | e'
        · rw [e'] at e q
          rw [hK (by rw [q]; simp)] at e
          cases e
        · obtain ⟨p, hp, ep⟩ := List.mem_map.mp e'
          rw [← ep, nT p hp] at e
          cases e)
    have hM : L2.Mod K mg (hidT s₁.heap H) := ⟨hKb, nsK hns, ⟨mb, nsK hb, hbb⟩, let ⟨mc, h1, h2⟩ := hlim; ⟨mc, nsK h1, h2⟩⟩
    have TB : ∀ p ∈ cs, LamX.TabB (hidT s₁.heap H) mg p.1 p.2 := fun p hp => by
      have hTp := hT p hp
      refine ⟨?_, ?_, fun z => ?_⟩
      · obtain ⟨o, us, file, tf, flags, tg, inF, text, tt, e1, r1, r2, r3, r4, r5, r6, r7, r8, hne⟩ := C p hp
        refine ⟨o, us, file, tf, flags, tg, inF, text, tt, base_of e1 (noD e1 (fun vs n z => ?_) fun z => ?_), r1, r2, r3, r4, r5, r6, r7, r8, hne⟩
        · rw [r2] at z
          cases z
        · rw [r2] at z
          cases z
          simp at r3
      · obtain ⟨bm, ob, b1, b2, b3, b4, b5, b6⟩ := hbm
        have nG : bm ≠ mainGlobals := fun q => by
          obtain ⟨o, es, ep, e, hd, _⟩ := hns
          rw [q, e] at b3
          cases b3
          rw [hd] at b6
          cases b6
        have nP : bm ≠ p.2 := fun q => by
          rw [q, hTp] at b3
          cases b3
          cases b6
        refine ⟨bm, ob, b1, b2, nG, nP, base_of b3 (noD b3 (fun vs n z => ?_) fun z => ?_), b4, b5, b6⟩
        · rw [b6] at z
          cases z
        · rw [b6] at z
          cases z
      · obtain ⟨o, es, ep, e, hd, _⟩ := hns
        rw [z, hTp] at e
        cases e
        cases hd
    have e0 : Env0 P w K mg (hidT s₁.heap H) callerA [] s₁ H := ⟨rfl, hM, fun b o e => of_hidT e, Nat.le_of_eq (hidT_size _ _), trivial, fun b hb => absurd (show b ∈ ([] : List Addr) from hb) (by simp), hok, .of_eq hg⟩
    refine codeAny_mono ((F _ hKb (nsK hns) TB).run callerA [] s₁ H ⟨[.ref a], []⟩ [.ref a] [.ref a] _ _ hr rfl e0 (hbind s₁ (.ref a)) (.cons rfl .nil) (hsp H hH hS)) fun r s' h => ?_
    cases r with
    | error e => exact (hCX H e s' h).elim
    | ok fl =>
      cases fl with
      | next => exact False.elim h
      | brk => exact False.elim h
      | cont => exact False.elim h
      | ret u =>
        obtain ⟨v, H', os, bare, un, hok', r', q⟩ := h
        have q' : v = .bl true := q
        subst q'
        obtain rfl : u = Value.bool true := r'
        have key : ∀ b o, b ∉ cs.map (·.2) → s₁.heap.get? b = some o → s'.heap.get? b = some o := fun b o nb e => by
          cases q : H b with
          | none => exact un.keep b o e q (by intro z; exact absurd (show b ∈ ([] : List Addr) from z) (by simp)) (by simp)
          | some u =>
            rcases hO b with z | z | ⟨ob, xs, z⟩
            · rw [q] at z; cases z
            · exact absurd z nb
            · have z2 := un.frzs b ob _ z
              obtain ⟨e1, _⟩ := hok b _ z
              obtain ⟨e2, _⟩ := hok' b _ z2
              rw [e] at e1; cases e1
              exact e2
        have grown : ∀ p ∈ cs, ∃ more : Array Value, s'.heap.get? p.2 = some { cls := .none, data := .fields more } := fun p hp => by
          obtain ⟨more, z⟩ := un.tbls p.2 #[] (hH p hp)
          exact ⟨_, hok' p.2 _ z⟩
        refine ⟨rfl, ⟨fun b o e => ?_, fun b o e => ?_⟩, os, bare⟩
        · by_cases hb : b ∈ cs.map (·.2)
          · obtain ⟨p, hp, ep⟩ := List.mem_map.mp hb
            obtain ⟨more, hm⟩ := grown p hp
            rw [← ep] at e ⊢
            rw [hT p hp] at e
            cases e
            exact .inr (.inl ⟨((C p hp).tab (hT p hp)).isCodeTable, rfl, #[], more, rfl, by rw [Array.empty_append]; exact hm⟩)
          · exact .inl (key b o hb e)
        · by_cases hb : b ∈ cs.map (·.2)
          · obtain ⟨p, hp, ep⟩ := List.mem_map.mp hb
            obtain ⟨more, hm⟩ := grown p hp
            rw [← ep]
            exact ⟨_, hm⟩
          · exact ⟨o, key b o hb e⟩
  cases hk : K.lookup a with
  | some o =>
    have e := KX a o hk
    rw [ha] at e
    cases e
    refine core (fun b => if b ∈ cs.map (·.2) then some (.tbl #[]) else none) (fun p hp => if_pos (memT p hp)) (fun b => ?_) (.inr ⟨_, vs.toArray, _, hk, rfl, rfl, rfl, by rw [List.size_toArray, lenV]; exact hl, by simpa using rv⟩) (fun b u z => ?_) (fun b z => ?_) fun z => absurd (show (if a ∈ cs.map (·.2) then some (HO.tbl #[]) else none) = none from if_neg aT) z
    · by_cases hb : b ∈ cs.map (·.2)
      · exact .inr (.inl hb)
      · exact .inl (if_neg hb)
    · by_cases hb : b ∈ cs.map (·.2)
      · have z' := (if_pos hb).symm.trans z
        cases z'
        exact isT b hb
      · have z' := (if_neg hb).symm.trans z
        cases z'
    · by_cases hb : b ∈ cs.map (·.2)
      · exact .inr hb
      · exact absurd (if_neg hb) z
  | none =>
    refine core (fun b => if b = a then some (.frz { cls := .type "list", data := .seq vs.toArray } (.lst (ns.map V.int))) else if b ∈ cs.map (·.2) then some (.tbl #[]) else none) (fun p hp => (if_neg (show ¬ p.2 = a from fun z => aT (by rw [← z]; exact memT p hp))).trans (if_pos (memT p hp))) (fun b => ?_)
      (.inl (.inr ⟨{ cls := .type "list", data := .seq vs.toArray }, if_pos rfl⟩)) (fun b u z => ?_) (fun b z => ?_) fun _ => hk
    · by_cases hb : b = a
      · exact .inr (.inr ⟨_, _, if_pos hb⟩)
      · by_cases hb2 : b ∈ cs.map (·.2)
        · exact .inr (.inl hb2)
        · exact .inl ((if_neg hb).trans (if_neg hb2))
    · by_cases hb : b = a
      · have z' := (if_pos hb).symm.trans z
        cases z'
        rw [hb]
        exact ⟨ha, by rw [List.length_map]; exact hl, vs, _, rv, ha⟩
      · have z1 := (if_neg hb).symm.trans z
        by_cases hb2 : b ∈ cs.map (·.2)
        · have z' := (if_pos hb2).symm.trans z1
          cases z'
          exact isT b hb2
        · have z' := (if_neg hb2).symm.trans z1
          cases z'
    · by_cases hb : b = a
      · exact .inl hb
      · by_cases hb2 : b ∈ cs.map (·.2)
        · exact .inr hb2
        · exact absurd ((if_neg hb).trans (if_neg hb2)) z
theorem walk_ofTsG {l : PySem.W.OpenLaw} {n k : Nat} {q : Program} {loose : List Str} {XP : (Str → Option Value) → Heap → Prop} {YP : World → Heap → Prop} {d : DefRec} {CX : World → CXT} {x : Str}
    (hn : l.most = some n) (hn2 : n ≤ sizeLine) (hdf : d.params.defaults = []) (hr : Room k callerA)
    (F : ∀ (w : World) (mg : Str → Option Value) (fa : Addr) (h : Heap), YP w h → h.Ns mainGlobals mg → mg d.name = some (.ref fa) →
      ∃ (K : PySem.W.Frag) (fd : FuncData) (cs : List (Addr × Addr)) (sp : Sp), K.In h ∧ (∀ p ∈ cs, h.get? p.2 = some { cls := .none, data := .fields #[] }) ∧ (∀ p ∈ cs, K.lookup p.2 = none) ∧ (∀ p ∈ cs, PySem.W.CodeHd h p.1 p.2) ∧
        (∀ (s : Shared) (u : Value), BindsTo s fd ⟨[u], []⟩ [(x, u)]) ∧
        (∀ (H : Hp) (a : Addr) (ns : List Int), ns.length ≤ n → (∀ p ∈ cs, H p.2 = some (.tbl #[])) → SqL K H a (ns.map V.int) → sp [.ref a] H (fun v _ => v = .bl true) fun _ _ _ => False) ∧
        ∀ base : Heap, K.In base → base.Ns mainGlobals mg → (∀ p ∈ cs, LamX.TabB base mg p.1 p.2) → FnG l.prog w K mg base (CX w) k fa fd [x] sp)
    (hCX : ∀ (w : World) (H : Hp) (s : Shared) (e : Value) (s' : Shared), CX w [] H s (fun _ _ _ => False) e s' → False) :
    PySem.W.WalkO q loose XP YP l.row.toRowW d [] (fun f vs => PySem.call f vs) := by
  refine Att.attach_call hn hdf fun w s₀ s₁ mg mb fa o pm cd doc a vs ns G Y ho hd hcd hmg hobj hints hlen hg => ?_
  obtain ⟨K, fd, cs, sp, KX, hT, nT, C, hb, hsp, hF⟩ := F w mg fa _ Y G.T.g hmg
  exact law_callTsG KX G.T.g G.T.b G.T.builtins G.T.nolimit hg hT nT C G.T.bmain hobj hints (Nat.le_trans hlen hn2) hr hF hb (fun H hH hS => hsp H a ns hlen hH hS) fun H e s' => hCX w H s₁ e s'
end Gh
end
section
namespace Gh
open PySem PySem.Spec PyProof.Rows L2
theorem fnO0 {P : Program} {w : World} {K : PySem.W.Frag} {mg : Str → Option Value} {base : Heap} {CX : CXT} {k : Nat} {f : Addr} {fd : FuncData} {ps : List Str} {sp : Sp} {dvs : List V} {x qual : Str} {params : Arguments} {body : List Stmt} {scope : Scope} {kws : List (Str × V)} {N : List Str}
    (F : FunD K x qual params body scope dvs kws f fd) (S : FnScope N ps scope) (len : ∀ vs H Q E, sp vs H Q E → vs.length = ps.length)
    (hbody : ∀ (cdv : Value) (A : Around) (outer : List Env) (s : Shared) (H : Hp) (vs : List V) (Q : VK) (E : XK), Room k (A.deeper (envOfC qual scope s.heap.objs.size f cdv)) → sp vs H Q E →
      ∃ t, PSs (cxOf CX P w K mg base N qual scope f cdv A outer s H E).nox body t ∧ t { nx := fun _ H' => Q .non H', rt := Q } (start N vs) H) : FnOk P w K mg base CX (k + 1) f fd ps sp :=
  F.ok S len fun cdv A outer s H vs Q E hr h => by
    obtain ⟨t, ht, q⟩ := hbody cdv A outer s H vs Q E hr h
    exact ⟨t, PSs.nox ht, q⟩
section
variable {X : Cx} {CX : CXT} {k : Nat} {f g C : Addr} {sp : Sp} {dvs : List V} {E : XK} {m : Str} {pos : Pos} {o : Expr} {ta : TE}
theorem PromO.make (M : Mk X.K C f) (F : PromOX X CX k f dvs sp) (hr : Room (k + 1) X.A) (hx : Passes CX X E) : CallR X (.ref C) (rMk C sp dvs E) := by
  intro pins s σ H vs us Q I r h
  unfold rMk at h
  obtain ⟨fd, ps, ds, G, b, hd⟩ := F
  exact run_make M G hr b hd hx I r h
theorem pe_po {pp : Addr} (he : PE X o ta) (c : Cls X.K C) (hp : PropOf X.K C m pp g) (F : PromOX X CX k g dvs sp) (hr : Room (k + 1) X.A) (hx : Passes CX X.nox E)
    (hab : attributeBase o m X.env (eval o X.env) = eval o X.env := by rfl) : PE X (.Attribute o m pos) (tPr C sp dvs E ta) := by
  obtain ⟨fd, ps, ds, G, b, hd⟩ := F
  exact pe_prop he c hp G hr b hd hx hab
theorem pass_on (hs : X.stack = X.env :: X.outer) (hf : X.env.frame = some X.env.locals) (hex : X.ex = []) {E₁ : Value → Shared → Prop} (hx : X.xe = fun e s' => wpAny (model X.prog X.w) X.A (leaving X.env e) (fun _ s'' => L2.CX X.prog X.w X.outer X.H_0 X.s_0 E e s'') E₁ s') : Passes (L2.CX X.prog X.w) X E :=
  passes_call (takes_of hs hf hex hx) fun _ _ _ _ h => h
end
theorem oexB_ok {x : Str} {K : PySem.W.Frag} (h : oexB x K = true) : OexC K (gd x K) := by
  obtain ⟨h1, h⟩ := He.ba h
  obtain ⟨h2, h⟩ := He.ba h
  obtain ⟨h3, h⟩ := He.ba h
  obtain ⟨h4, h5⟩ := He.ba h
  refine ⟨?_, He.eqO_ok h2, of_decide_eq_true h3, of_decide_eq_true h4, h5⟩
  split at h1
  · rename_i c dd nm bs m bm ns qn hd sn sb ab col dl k0 k1 k2 k3 n k5 e
    obtain ⟨z1, h1⟩ := He.ba h1
    obtain ⟨z2, h1⟩ := He.ba h1
    obtain ⟨z3, h1⟩ := He.ba h1
    obtain ⟨z4, h1⟩ := He.ba h1
    obtain ⟨z5, z6⟩ := He.ba h1
    have y1 := of_decide_eq_true z1
    have y2 := of_decide_eq_true z2
    have y6 := of_decide_eq_true z6
    have y5 : dl = false := by simpa using z5
    subst y1 y6 y5 z4
    refine ⟨nm, qn, ns, bs, bm, sn, sb, ab, col, dd, k0, k1, k2, k3, k5, ?_, z3⟩
    rw [e, y2]
  · cases h1
def spErr1 (C : Addr) (f : Str) : Sp := fun vs H Q _ => ∃ (a : Addr) (v : V), vs = [.ref a, v] ∧ H a = some (exo a C none) ∧ ∀ d, H d = none → d ≠ a → Q .non (upd (upd H d (exd d [(f, v)])) a (exo a C (some d)))
theorem mk_err1 {C : Addr} {f : Str} {v : V} {H : Hp} {Q : XK} (h : ∀ d H', L2.Same H H' → H d = none → H' d = some (.xd [(f, v)]) → Q (.ref C) (some d) H') :
    ([v] : List V).length ≤ 1000 ∧ ∀ a, H a = none → spErr1 C f (.ref a :: ([v] ++ [])) (upd H a (exo a C none)) (fun u H2 => u = .non ∧ ∃ (d : Addr) (fs : List (Str × V)), H2 a = some (exo a C (some d)) ∧ H2 d = some (exd d fs) ∧ H d = none ∧ Q (.ref C) (some d) (upd (del H2 a) d (.xd fs))) (fun _ _ _ => False) := by
  refine ⟨by show 1 ≤ 1000; decide, fun a na => ⟨a, v, rfl, upd_same, fun d nd ne => ⟨rfl, d, [(f, v)], upd_same, ?_, ?_, ?_⟩⟩⟩
  · rw [upd_ne ne, upd_same]
  · rw [upd_ne ne] at nd
    exact nd
  · have nd0 : H d = none := by
      rw [upd_ne ne] at nd
      exact nd
    refine h d _ (fun b u e => ?_) nd0 upd_same
    have hb : b ≠ a := ne_of_none e na
    have hd : b ≠ d := ne_of_none e nd0
    rw [upd_ne hd, del_ne hb, upd_ne hb, upd_ne hd, upd_ne hb]
    exact e
end Gh
end
section
namespace Gh
open PySem PySem.Spec PyProof.Rows L2
@[irreducible] def rShow (K : PySem.W.Frag) : List V → Hp → VK → Prop := fun xs H Q => ∃ v t, xs = [v] ∧ Shw K H v t ∧ Q (.str t) H
theorem rShow_of {K : PySem.W.Frag} {v : V} {t : Str} {H : Hp} {Q : VK} (h : Shw K H v t) (q : Q (.str t) H) : rShow K [v] H Q := by
  unfold rShow
  exact ⟨v, t, rfl, h, q⟩
section
variable {X : Cx} {K : PySem.W.Frag}
theorem call_show (hK : X.K = K) (hu : X.A.units + 102 < cLine) (hg : X.A.guards = some []) : CallR X (.builtin "repr") (rShow K) := by
  subst hK
  intro pins s σ H xs us Q I r h
  unfold rShow at h
  obtain ⟨v, t, rfl, hs, q⟩ := h
  obtain ⟨u, rfl, ru⟩ := vals1 r
  cases hs with
  | non =>
    cases (show u = Value.none from ru)
    exact PySem.P.repr_of_none ⟨.str _, H, I.tok _, ⟨_, rfl⟩, q⟩
  | bl b =>
    cases (show u = Value.bool b from ru)
    exact PySem.P.repr_of_bool ⟨.str _, H, I.tok _, ⟨_, rfl⟩, q⟩
  | int i h =>
    obtain ⟨t, rfl⟩ := ru
    exact PySem.P.repr_of_int h ⟨.str _, H, I.tok _, ⟨_, rfl⟩, q⟩
  | str x h =>
    obtain ⟨t, rfl⟩ := ru
    exact PySem.P.repr_of_str ⟨.str _, H, I.tok _, ⟨_, rfl⟩, q⟩ (hsz := h)
  | dp hd h1 h2 h3 h4 =>
    rename_i a d
    cases (show u = Value.ref a from ru)
    obtain ⟨as, rd⟩ := Dp.reads I d _ _ hd rfl
    exact repr_of_reads' rd h1 (fun z => by rw [h2] at z; cases z) hg (by omega) (fun _ _ e => e) (fun h' u tk k => ⟨.str d.shown, H, I.kept k, ⟨u, rfl⟩, q⟩) h4
variable {CX : CXT} {x : Str} {C fI : Addr} {k : Nat} {sp : Sp} {dvs : List V} {e : Expr} {es : List Expr} {ta : TA} {p pos : Pos}
theorem passF : Passes (L2.CX X.prog X.w) X (fun _ _ _ => False) := fun _ _ _ _ _ _ _ h => by
  obtain ⟨_, _, _, _, _, _, _, _, _, _, _, _, z⟩ := h
  exact z.elim
theorem pmk_po (T : OexC X.K C) (iC : PySem.W.findIn X.K (.ref C) "__init__" = some (some (.ref fI))) (tI : PySem.W.typeIn X.K (.ref fI) = some (.type "function")) (F : PromOX X CX k fI dvs sp) (hr : Room (k + 1) X.A) (hx : Passes CX X (fun _ _ _ => False)) (hm : X.mg x = some (.ref C)) (ha : PA X (e :: es) ta) (hg : Gl X x := by rfl)
    (hdb : (x == ("__debug__" : Str)) = false := by decide) (he : starEach (e :: es) X.env = (false, eval e X.env) :: starEach es X.env := by rfl) (hpl : (backTo pos (starEach es X.env)).any (·.1) = false := by rfl) : PMk X (.Call (.Name x p) (e :: es) [] pos) (tMkO C sp dvs ta) := by
  obtain ⟨fd, ps, ds, G, b, hd⟩ := F
  exact pmk_oex T iC tI G hr b hd hx hg hm ha hdb he hpl
end
structure IniT (K : PySem.W.Frag) (C f : Addr) : Prop where
  iC : PySem.W.findIn K (.ref C) "__init__" = some (some (.ref f))
  tI : PySem.W.typeIn K (.ref f) = some (.type "function")
theorem iniB_ok {x : Str} {K : PySem.W.Frag} (h : iniB x K = true) : IniT K (gd x K) (md x "__init__" K) := by
  obtain ⟨h1, h2⟩ := He.ba h
  exact ⟨He.eqO_ok h1, of_decide_eq_true h2⟩
theorem PromO.raw {P : Program} {w : World} {K : PySem.W.Frag} {mg : Str → Option Value} {base : Heap} {CX : CXT} {k : Nat} {f : Addr} {sp : Sp} (F : PromO P w K mg base CX k f [] sp) : FnR P w K mg base CX k f sp := by
  obtain ⟨fd, ps, ds, G, b, hd⟩ := F
  have z := G.raw b hd
  intro A outer s H us vs Q E hr e0 r hs
  exact z A outer s H us vs Q E hr e0 r (show sp (vs ++ []) H Q E by rw [List.append_nil]; exact hs)
end Gh
end
section
namespace Gh
open PySem PySem.Spec PyProof.Rows L2
theorem meets_enumerate_newT (l : Addr) (items : Array Value) (n : Nat) (dct : Option Addr) (sl : Array (Option Value)) :
    Meets (Builtin.«enumerate.__new__» ⟨[.type "enumerate", .ref l], []⟩) (fun _ R s => s.heap.get? l = some { cls := .type "tuple", dict := dct, data := .seq items n, slots := sl } ∧
      R (.ok (.ret (.ref (s.heap.push { cls := .type "tuple_iterator", data := .fields #[.ref l, .int 0 0] }).objs.size)))
        { s with heap := (s.heap.push { cls := .type "tuple_iterator", data := .fields #[.ref l, .int 0 0] }).push { cls := .type "enumerate", data := .fields #[.none, .bool false, .ref s.heap.objs.size, rawInt 0, .none, .none] } }) :=
  .of_wp fun prog w A R s h => by
    obtain ⟨hp, g, d, tk, os⟩ := s; obtain ⟨hl, h⟩ := h
    have hsub := sub_enumerate
    have hL : Heap.IsTuple (Shared.heap ⟨hp, g, d, tk, os⟩) l items := ⟨_, hl, rfl, n, rfl⟩
    wp_walk using wpAny_loadPart' hl
    refine wpAny_stack_any fun st => wpAny_pure ?_
    split
    · rename_i c _ _ _ _ _
      cases (c == Value.type "enumerate")
      · wp_walk using wpAny_loadPart' hl, wpAny_pyIter_tuple hL
        exact ⟨_, rfl, h⟩
      · wp_walk using wpAny_loadPart' hl, wpAny_pyIter_tuple hL
        exact ⟨_, rfl, h⟩
    · wp_walk using wpAny_loadPart' hl, wpAny_pyIter_tuple hL
      exact ⟨_, rfl, h⟩
section
variable {prog : Program} {w : World} {A : Around} {E : Value → Shared → Prop} {s : Shared}
theorem call_enumerate_tup {l : Addr} {items : Array Value} {Q : Value → Shared → Prop} (hL : s.heap.IsTuple l items)
    (h : ∀ h', IsEnum h' (s.heap.objs.size + 1) s.heap.objs.size 0 .none → h'.IsTupleIter s.heap.objs.size l 0 → h'.objs.size = s.heap.objs.size + 2 →
      (∀ b o, s.heap.get? b = some o → h'.get? b = some o) → Q (.ref (s.heap.objs.size + 1)) { s with heap := h' }) :
    wpAny (model prog w) A (call (.type "enumerate") [.ref l]) Q E s := by
  obtain ⟨⟨c, dct, dt, sl⟩, hl, hc, n, hd⟩ := hL
  replace hc : c = .type "tuple" := hc
  replace hd : dt = .seq items n := hd
  subst hc hd
  refine callType_new F.called_enumerate (by decide) (F.typeCall_enumerate_1 _) (F.newCall_enumerate_1 _) (fun obj => F.args_object_init_2 obj _) F.entry_enumerate_new
    (meets_enumerate_newT l items n dct sl) ⟨hl, ?_⟩
  have hz : (s.heap.push { cls := .type "tuple_iterator", data := .fields #[.ref l, .int 0 0] }).objs.size = s.heap.objs.size + 1 := Heap.size_push ..
  show _ ∧ _
  rw [hz]
  have he : IsEnum ((s.heap.push { cls := .type "tuple_iterator", data := .fields #[.ref l, .int 0 0] }).push
      { cls := .type "enumerate", data := .fields #[.none, .bool false, .ref s.heap.objs.size, rawInt 0, .none, .none] }) (s.heap.objs.size + 1) s.heap.objs.size 0 .none := by
    have := Heap.get?_push_size (s.heap.push { cls := .type "tuple_iterator", data := .fields #[.ref l, .int 0 0] })
      (o := { cls := .type "enumerate", data := .fields #[.none, .bool false, .ref s.heap.objs.size, rawInt 0, .none, .none] }) rfl
    rw [hz] at this; exact this
  refine ⟨⟨_, he, rfl⟩, h _ he ⟨_, Heap.get?_push_of_some _ (Heap.get?_push_size _ rfl), rfl, rfl⟩ (by rw [Heap.size_push, hz]) fun b o x => Heap.get?_push_of_some _ (Heap.get?_push_of_some _ x)⟩
end
def Itu (K : PySem.W.Frag) (a : Addr) : It :=
  ⟨fun i H => ∃ (xs : List V) (x : V), SqT K H a xs ∧ xs[i]? = some x, fun i H v H' => ∃ T x, v = .ref T ∧ H T = none ∧ H' = upd H T (.tup [.int (i : Nat), x]) ∧ ∀ xs, SqT K H a xs → xs[i]? = some x, fun i H => ∃ xs : List V, SqT K H a xs ∧ xs.length = i⟩
theorem turn_enumT {P : Program} {w : World} {K : PySem.W.Frag} {elts : List Expr} {kk : Nat} {tpos : Pos} (a e it : Addr) :
    Turn P w K (.Tuple elts kk tpos) (Itu K a) [e, it] e (fun i h => (∃ old, IsEnum h e it ((i : Nat) : Int) old) ∧ h.IsTupleIter it a i ∧ e ≠ it ∧ a ≠ it ∧ e ≠ a) where
  mem := by simp
  obj := fun i h st b hb => by
    obtain ⟨⟨old, he⟩, ⟨o, ho, hc, hd⟩, _⟩ := st
    have e' : b = e ∨ b = it := by simpa using hb
    rcases e' with z | z
    · rw [z]; exact ⟨_, he, fun v q => nomatch q⟩
    · rw [z]; exact ⟨o, ho, fun v q => by rw [hd] at q; cases q⟩
  keep := fun i h h' st k => let ⟨⟨old, he⟩, hi, hne⟩ := st; ⟨⟨old, k e (by simp) _ he⟩, hi.at fun o q => k it (by simp) o q, hne⟩
  item := by
    intro X hP hw hK hc i pins s σ H E I hf st hg
    subst hP hw hK
    obtain ⟨⟨old, he⟩, hit, hne, hai, hea⟩ := st
    obtain ⟨xs, x, hq, hx⟩ := hg
    obtain ⟨its, rv, p, hz⟩ := I.tuple hq
    obtain ⟨u, hu, ru⟩ := rv.get hx
    have hel : e < s.heap.objs.size := Heap.lt_size he
    have hil : it < s.heap.objs.size := by obtain ⟨_, q, _⟩ := hit; exact Heap.lt_size q
    have hlt : i < its.toArray.size := by
      obtain ⟨z, _⟩ := List.getElem?_eq_some_iff.mp hu
      simpa using z
    refine wpAny_pyNext_enum_itemD (Draws.tuple (A := X.A.in1) (show X.A.in1.handled = none from I.ok.hd hc) it a hai its.toArray) he ⟨hit, p⟩ hlt hne (by simp; exact ⟨hne, hea⟩) fun u' h' tk pu ho hit' hT hsz hk => ?_
    have eu : u' = u := by
      have z : its.toArray[i]? = some u := by simpa using hu
      rw [z] at pu
      exact (Option.some.inj pu).symm
    subst eu
    refine ⟨_, rfl, wpAny_letOwnedTupleGo_enum (s := { s with heap := h', toks := tk + 1 }) ho fun h'' he' sb => ?_⟩
    have hT2 : h''.get? s.heap.objs.size = some { cls := .type "tuple", data := .seq #[.int i tk, u'] } := (sb.2 _ (Nat.ne_of_gt hel)).trans hT
    have new : ObjOk X.prog X.w (upd H s.heap.objs.size (.tup [.int (i : Nat), x])) h'' s.heap.objs.size (.tup [.int (i : Nat), x]) :=
      ⟨by show 2 ≤ sizeLine; decide, [.int i tk, u'], .cons ⟨_, rfl⟩ (.cons ru .nil), ⟨_, hT2, rfl, _, rfl⟩⟩
    have I1 : Inv X pins σ (upd H s.heap.objs.size (.tup [.int (i : Nat), x])) { s with heap := h'', toks := tk + 1 } :=
      I.turnedNew (ch := [e, it]) (fun b ob hb q => (sb.2 b (fun z => hb (by simp [z]))).trans (hk b ob (fun z => hb (by simp [z])) (fun z => hb (by simp [z])) q)) hf (Nat.le_refl _) new
    refine ⟨.ref s.heap.objs.size, _, I1, rfl, ⟨_, x, rfl, I.hok.fresh (Nat.le_refl _), rfl, fun ys hy => by rw [I.tuple_inj hy hq]; exact hx⟩, ⟨⟨u', ?_⟩, hit'.1.at fun o q => (sb.2 it (Ne.symm hne)).trans q, hne, hai, hea⟩, fun b hb => ?_⟩
    · have e1 : ((i + 1 : Nat) : Int) = (i : Int) + 1 := by omega
      rw [e1]; exact he'
    · have hb' : b < s.heap.objs.size := by
        have e' : b = e ∨ b = it := by simpa using hb
        rcases e' with z | z
        · rw [z]; exact hel
        · rw [z]; exact hil
      rw [upd_ne (Nat.ne_of_lt hb')]
      exact (hf b hb).1
  done := by
    intro X hP hw hK hc i pins s σ H E I hf st hg
    subst hP hw hK
    obtain ⟨⟨old, he⟩, hit, hne, hai, hea⟩ := st
    obtain ⟨xs, hq, hx⟩ := hg
    obtain ⟨its, rv, p, hz⟩ := I.tuple hq
    obtain ⟨f0, f1, f2, f3, f4, f5⟩ := hf it (by simp)
    have hl := rv.length
    have en : its.toArray.size = i := by
      rw [List.size_toArray]
      omega
    refine wpAny_pyNext_enum_endD (Draws.tuple (A := X.A.in1) (show X.A.in1.handled = none from I.ok.hd hc) it a hai its.toArray) he ⟨by rw [en]; exact hit, p⟩ fun h' eb => ⟨rfl, I.turned (t' := s.toks) (fun b o hb q => eb b o hb q) f0 f1 f3 f4 f5⟩
  self := fun A i s Q E st h => let ⟨⟨_, he⟩, _⟩ := st; wpAny_pyIter_enum he h
theorem PI.or {X : Cx} {tg iter : Expr} {w1 w2 : TI} (a : PI X tg iter w1) (b : PI X tg iter w2) : PI X tg iter (fun σ H R => w1 σ H R ∨ w2 σ H R) :=
  ⟨fun pins s σ H R I h => h.elim (a.run pins s σ H R I) (b.run pins s σ H R I)⟩
end Gh
end
section
namespace Gh
open PySem PySem.Spec PyProof.Rows L2
section
variable {X : Cx} {C f : Addr} {r : List V → Hp → VK → Prop}
@[irreducible] def rSetO (C : Addr) (r : List V → Hp → VK → Prop) : TSet := fun o i v H Q => ∃ a dx fs, o = .ref a ∧ H a = some (.ins C dx fs) ∧ r [o, i, v] H fun _ H' => Q H'
theorem set_own (hq : PySem.W.noSeq X.K C = true) (hs : PySem.W.findIn X.K (.ref C) "__setitem__" = some (some (.ref f))) (hf : PySem.W.isFn X.K (.ref f) = true) (R : CallR X (.ref f) r) : PSet X (rSetO C r) := by
  intro pins s σ H o i v ov iv u Q I ro ri rv h
  unfold rSetO at h
  obtain ⟨a, dx, fs, rfl, ha, q⟩ := h
  cases (show ov = Value.ref a from ro)
  obtain ⟨ox, od, J⟩ := ins_look I ha
  obtain ⟨m, hF⟩ := I.fr
  refine PySem.W.ksp_setItem hF I.ok.mod.kin J hq hs hf ?_
  exact wpAny_mono (R pins s σ H [.ref a, i, v] [.ref a, iv, u] _ I (.cons rfl (.cons ri (.cons rv .nil))) q) (fun w s' z => by
    obtain ⟨x, H', I', _, q'⟩ := z
    exact ⟨H', I', q'⟩) fun _ _ x => x
@[irreducible] def rIxO (C : Addr) (sp : Sp) (E : XK) : R2 := fun x y H Q => ∃ a dx fs, x = .ref a ∧ H a = some (.ins C dx fs) ∧ sp [x, y] H Q E
structure IxT (K : PySem.W.Frag) (C f : Addr) : Prop where
  at_ : PySem.W.findIn K (.ref C) "__getitem__" = some (some (.ref f))
  fi : PySem.W.fnIn K f = true
  fn : PySem.W.isFn K (.ref f) = true
theorem ixB_ok {x : Str} {K : PySem.W.Frag} (h : ixB x K = true) : IxT K (gd x K) (md x "__getitem__" K) := by
  obtain ⟨h1, h⟩ := He.ba h
  obtain ⟨h2, h3⟩ := He.ba h
  exact ⟨He.eqO_ok h1, h2, h3⟩
theorem pe_ixO {CX : CXT} {k : Nat} {sp : Sp} {E : XK} {value slice : Expr} {pos : Pos} {ta tb : TE} (hv : PE X value ta) (hs : PE X slice tb) (c : IxT X.K C f) (F : PromOX X CX k f [] sp) (hr : Room (k + 1) X.A) (hx : Passes CX X E)
    (hsl : ∀ o i, subscripted slice true o i = runValue (.builtin "lifetime.subscript" ⟨[o, i], []⟩) := by intro _ _; rfl) : PE X (.Subscript value slice pos) (tOp (rIxO C sp E) ta tb) := by
  refine ⟨fun pins s σ H Q I h => ?_⟩
  refine Subscript_ (thn (hv.run pins s σ H _ I h) fun u s1 ⟨x, H1, I1, rx, q1⟩ => thn (hs.run pins s1 σ H1 _ I1 q1) fun v s2 ⟨y, H2, I2, ry, q2⟩ => ?_)
  unfold rIxO at q2
  obtain ⟨a, dx, fs, rfl, ha, q⟩ := q2
  cases (show u = Value.ref a from rx)
  obtain ⟨ox, od, J⟩ := ins_look I2 ha
  obtain ⟨m, hF⟩ := I2.fr
  refine PySem.W.sub_K hF I2.ok.mod.kin J c.at_ c.fi c.fn ?_ (hsl _ _)
  refine wpAny_call (codeAny_mono ((PromO.raw F) X.A.in1 X.stack s2 H2 [.ref a, v] [.ref a, y] Q E hr.in1 I2.env0.in1 (.cons rfl (.cons ry .nil)) q) fun r s' hq => ?_)
  cases r with
  | error e => exact hx pins σ H2 s2 e s' I2 hq
  | ok fl =>
    cases fl with
    | ret u => exact I2.after hq
    | next => exact False.elim hq
    | brk => exact False.elim hq
    | cont => exact False.elim hq
end
end Gh
end
section
namespace Gh
open PySem PySem.Spec PyProof.Rows L2
theorem fnG1 {P : Program} {w : World} {K : PySem.W.Frag} {mg : Str → Option Value} {base : Heap} {CX : CXT} {k : Nat} {f : Addr} {fd : FuncData} {ps : List Str} {sp : Sp} {dvs : List V} {x qual : Str} {params : Arguments} {body : List Stmt} {scope : Scope} {kws : List (Str × V)} {N : List Str}
    (F : FunD K x qual params body scope dvs kws f fd) (S : FnScope N ps scope) (len : ∀ vs H Q E, sp vs H Q E → vs.length = ps.length)
    (hbody : ∀ (cdv : Value) (A : Around) (outer : List Env) (s : Shared) (H : Hp) (vs : List V) (Q : VK) (E : XK), cdv = fd.code → Room k (A.deeper (envOfC qual scope s.heap.objs.size f cdv)) → (A.deeper (envOfC qual scope s.heap.objs.size f cdv)).guards = some [] → sp vs H Q E →
      ∃ t, PSs (cxOf CX P w K mg base N qual scope f cdv A outer s H E).nox body t ∧ t { nx := fun _ H' => Q .non H', rt := Q } (start N vs) H) : FnG P w K mg base CX (k + 1) f fd ps sp := by
  obtain ⟨oc, od, dV, kV, doc, pm, an, cdv, ct, osl, rfl, lk, hcd, _, _⟩ := F.ex
  refine ⟨len, fun A outer s H args us vs Q E hr hg e0 hb r hsp => ?_⟩
  refine LamX.run_ofS (N := N) (ps := ps) lk hcd S hr e0 hb r (len _ _ _ _ hsp) fun hr' => ?_
  obtain ⟨t, ht, q⟩ := hbody cdv A outer s H vs Q E rfl hr' hg hsp
  exact ⟨t, PSs.nox ht, q⟩
theorem codeOf_fn {K : PySem.W.Frag} {x qual : Str} {params : Arguments} {body : List Stmt} {scope : Scope} {dvs : List V} {kws : List (Str × V)} {fd : FuncData} {p : Str × Option Str} (F : FunD K x qual params body scope dvs kws (He.fAd K p) fd) : fd.code = .ref (He.codeOf K p) := by
  obtain ⟨oc, od, dV, kV, doc, pm, an, cdv, ct, osl, rfl, lk, hcd, _, _⟩ := F.ex
  obtain ⟨c, rfl⟩ := He.codeIn_ref hcd
  exact (congrArg Value.ref (He.codeOf_eq lk rfl)).symm
section
variable {K : PySem.W.Frag} {H H' : Hp}
theorem sqL_extN {a : Addr} {xs : List V} (h : SqL K H a xs) (s : LamX.ExtN H H') : SqL K H' a xs := by
  rcases h with (h | ⟨o, h⟩) | h
  · exact .inl (.inl (s _ _ h (fun _ z => by cases z)))
  · exact .inl (.inr ⟨o, s _ _ h (fun _ z => by cases z)⟩)
  · exact .inr h
theorem sqT_extN {a : Addr} {xs : List V} (h : SqT K H a xs) (s : LamX.ExtN H H') : SqT K H' a xs := by
  rcases h with (h | ⟨o, h⟩) | h
  · exact .inl (.inl (s _ _ h (fun _ z => by cases z)))
  · exact .inl (.inr ⟨o, s _ _ h (fun _ z => by cases z)⟩)
  · exact .inr h
mutual
theorem dp_extN (s : LamX.ExtN H H') : ∀ {v : V} {d : PyData}, Dp K H v d → Dp K H' v d
  | _, _, .non => .non
  | _, _, .bl b => .bl b
  | _, _, .int i => .int i
  | _, _, .str x => .str x
  | _, _, .lst h a => .lst (sqL_extN h s) (dpAll_extN s a)
  | _, _, .tup h a => .tup (sqT_extN h s) (dpAll_extN s a)
theorem dpAll_extN (s : LamX.ExtN H H') : ∀ {vs : List V} {ds : List PyData}, DpAll K H vs ds → DpAll K H' vs ds
  | _, _, .nil => .nil
  | _, _, .cons a r => .cons (dp_extN s a) (dpAll_extN s r)
end
theorem Shw.extN {v : V} {t : Str} (h : Shw K H v t) (s : LamX.ExtN H H') : Shw K H' v t := by
  cases h with
  | non => exact .non
  | bl b => exact .bl b
  | int i h => exact .int i h
  | str x h => exact .str x h
  | dp a b c d e => exact .dp (dp_extN s a) b c d e
theorem Kd.extN {v : V} (k : Kd H v) (s : LamX.ExtN H H') : Kd H' v := by
  cases k with
  | non => exact .non
  | bl b => exact .bl b
  | int i => exact .int i
  | str x => exact .str x
  | lst h => exact .lst (s _ _ h (fun _ z => by cases z))
  | tup h => exact .tup (s _ _ h (fun _ z => by cases z))
  | dK h => exact .dK (s _ _ h (fun _ z => by cases z))
theorem PenAt.extN {p : Addr} {b : Nat} (h : PenAt H p b) (s : LamX.ExtN H H') : PenAt H' p b := by
  obtain ⟨c, ns, i, z, h1, h2, r⟩ := h
  exact ⟨c, ns, i, z, s _ _ h1 (fun _ z => by cases z), s _ _ h2 (fun _ z => by cases z), r⟩
end
end Gh
end
section
namespace Gh
open PySem PySem.Spec PyProof.Rows L2
section
variable {H H' : Hp} {p a l : Addr} {o u : HO}
theorem nw_upd (n : H p = none) : Nw H (upd H p o) p o := ⟨n, same_new n, upd_same⟩
theorem mu_upd : Mu H (upd H p o) p o := ⟨Keep.refl.put, upd_same⟩
theorem same_up (n : L2.Same H H') (h : H a = some u) : H' a = some u := n _ _ h
theorem keep_up (n : Keep H H' p) (e : a ≠ p) (h : H a = some u) : H' a = some u := n _ _ h e
end
section
variable {H H' : Hp} {p c a l : Addr} {o u : HO} {b k : Nat} {xs : List V} {C dx : Addr} {fs : List (Str × V)}
theorem Pen.le (h : Pen H p c b) (q : k ≤ b) : Pen H p c k := by
  obtain ⟨ns, i, z, h1, h2, h3, h4, h5, h6⟩ := h
  exact ⟨ns, i, z, h1, h2, h3, h4, by omega, h6⟩
theorem Pen.nw (n : Nw H H' l o) (h : Pen H p c b) : Pen H' p c b := h.same n.same
theorem Pen.mu (n : Mu H H' l o) (e1 : l ≠ p) (e2 : l ≠ c) (h : Pen H p c b) : Pen H' p c b := by
  obtain ⟨ns, i, z, h1, h2, h3⟩ := h
  exact ⟨ns, i, z, n.up e1.symm h1, n.up e2.symm h2, h3⟩
theorem nw_pen (n : Nw H H' l o) (h : Pen H p c b) : l ≠ p := by
  obtain ⟨ns, i, z, h1, h2, h3⟩ := h
  exact n.ne h1
theorem nw_cell (n : Nw H H' l o) (h : Pen H p c b) : l ≠ c := by
  obtain ⟨ns, i, z, h1, h2, h3⟩ := h
  exact n.ne h2
theorem tup_pen (n : H a = some (.tup xs)) (h : Pen H p c b) : a ≠ p := by
  obtain ⟨ns, i, z, h1, h2, h3⟩ := h
  exact ne_of n h1 (by intro e; cases e)
theorem tup_cell (n : H a = some (.tup xs)) (h : Pen H p c b) : a ≠ c := by
  obtain ⟨ns, i, z, h1, h2, h3⟩ := h
  exact ne_of n h2 (by intro e; cases e)
theorem ins_pen (n : H a = some (.ins C dx fs)) (h : Pen H p c b) : a ≠ p := by
  obtain ⟨ns, i, z, h1, h2, h3⟩ := h
  exact ne_of n h1 (by intro e; cases e)
theorem ins_cell (n : H a = some (.ins C dx fs)) (h : Pen H p c b) : a ≠ c := by
  obtain ⟨ns, i, z, h1, h2, h3⟩ := h
  exact ne_of n h2 (by intro e; cases e)
end
section
variable {H H' : Hp} {a t l : Addr} {o u : HO} {xs ys : List V} {C dx : Addr} {fs : List (Str × V)}
theorem ins_lst (h : H a = some (.ins C dx fs)) (k : H t = some (.lst xs)) : a ≠ t := ne_of h k (by intro e; cases e)
theorem ins_tup (h : H a = some (.ins C dx fs)) (k : H t = some (.tup xs)) : a ≠ t := ne_of h k (by intro e; cases e)
theorem tup_lst (h : H a = some (.tup ys)) (k : H t = some (.lst xs)) : a ≠ t := ne_of h k (by intro e; cases e)
theorem nw_ne (n : Nw H H' l o) (h : H a = some u) : l ≠ a := n.ne h
end
def spDr : Sp := fun vs H Q _ => ∃ (p c : Addr) (b : Nat) (m : Int), vs = [.ref p, .int m] ∧ 0 < m ∧ m.natAbs.log2 < 9000 ∧ Pen H p c (b + 1) ∧
  ∀ (d : Int) (H' : Hp), 0 ≤ d → d < m → Pen H' p c b → Keep H H' p → Q (.int d) H'
def spPn (K : PySem.W.Frag) : Sp := fun vs H Q _ => ∃ (a : Addr) (ns : List Int), vs = [.ref a] ∧ SqL K H a (ns.map V.int) ∧ ns.length ≤ 63 ∧ ∀ (p c : Addr) (H' : Hp), H p = none → Pen H' p c 1000000 → L2.Same H H' → Q (.ref p) H'
section
variable {H : Hp} {E : XK} {Q : VK} {p c l : Addr} {b : Nat} {m : Int} {xs : List V}
theorem log_of (h0 : 0 < m) (h : m < 10 ^ 100) : m.natAbs.log2 < 9000 := by
  have h2 : m.natAbs < 2 ^ 9000 := Nat.lt_of_lt_of_le (show m.natAbs < 10 ^ 100 by omega) (by decide)
  exact (Nat.log2_lt (by omega)).mpr h2
end
@[irreducible] def rLn (K : PySem.W.Frag) : List V → Hp → VK → Prop := fun xs H Q => ∃ x n, xs = [x] ∧ LenV K x H n ∧ Q (.int n) H
@[irreducible] def rListOf (K : PySem.W.Frag) : List V → Hp → VK → Prop := fun xs H Q => ∃ p ys, xs = [.ref p] ∧ (SqL K H p ys ∨ SqT K H p ys) ∧ ∀ l, H l = none → Q (.ref l) (upd H l (.lst ys))
@[irreducible] def rTupOf (K : PySem.W.Frag) : List V → Hp → VK → Prop := fun xs H Q => ∃ p ys, xs = [.ref p] ∧ ((SqL K H p ys ∧ ∀ l, H l = none → Q (.ref l) (upd H l (.tup ys))) ∨ (SqT K H p ys ∧ Q (.ref p) H))
@[irreducible] def rInt : List V → Hp → VK → Prop := rInt1
@[irreducible] def rAbs : List V → Hp → VK → Prop := fun xs H Q => ∃ i, xs = [.int i] ∧ Q (.int (if i < 0 then -i else i)) H
@[irreducible] def rIsN : R2 := fun x y H Q => y = .non ∧ Q (.bl (decide (x = .non))) H
@[irreducible] def rNotN : R2 := fun x y H Q => y = .non ∧ Q (.bl (!decide (x = .non))) H
section
variable {X : Cx} {K : PySem.W.Frag}
theorem cr_len (h : X.K = K) : CallR X (.builtin "len") (rLn K) := by unfold rLn; exact h ▸ call_len
theorem cr_listOf (h : X.K = K) : CallR X (.type "list") (rListOf K) := by unfold rListOf; exact h ▸ call_list_of
theorem cr_tupOf (h : X.K = K) : CallR X (.type "tuple") (rTupOf K) := by unfold rTupOf; exact h ▸ call_tuple_of
theorem cr_int : CallR X (.type "int") rInt := by unfold rInt; exact call_int1
theorem cr_abs : CallR X (.builtin "abs") rAbs := by unfold rAbs; exact call_abs
theorem or_isN : OpR X (compareOp .Is) rIsN := by unfold rIsN; exact op_isN
theorem or_notN : OpR X (compareOp .IsNot) rNotN := by unfold rNotN; exact op_notN
theorem sl_listK (h : X.K = K) : SlR X (rSlL K) := h ▸ sl_list
theorem op_neDK (h : X.K = K) (hu : X.A.units + 64 < cLine) : OpR X (compareOp .NotEq) (rNeD K) := h ▸ op_neD hu
theorem call_isiTK {X : Cx} {K : PySem.W.Frag} (h : X.K = K) : CallR X (.builtin "isinstance") (rIsiT K) := h ▸ call_isiT
@[irreducible] def rFld (C : Addr) (f : Str) : V → Hp → VK → Prop := fun x H Q => ∃ a dx fs v, x = .ref a ∧ H a = some (.ins C dx fs) ∧ fs.lookup f = some v ∧ Q v H
theorem pe_f {C : Addr} {e : Expr} {f : Str} {pos : Pos} {ta : TE} (he : PE X e ta) (c : Cls X.K C) (n : NoAttr X.K C f) (hb : attributeBase e f X.env (eval e X.env) = eval e X.env := by rfl) : PE X (.Attribute e f pos) (tUn (rFld C f) ta) := by
  refine ⟨fun pins s σ H Q I h => ?_⟩
  refine attr_of hb (thn (he.run pins s σ H _ I h) fun u s1 ⟨x, H1, I1, rx, q0⟩ => ?_)
  unfold rFld at q0
  obtain ⟨a, dx, fs, v, ex, ea, l, q⟩ := q0
  subst ex
  obtain rfl : u = Value.ref a := rx
  exact getattr_ok I1 ea c n l fun u' s2 I2 ru => ⟨v, H1, I2, ru, q⟩
@[irreducible] def sF (C : Addr) (ta tv : TE) (f : Str) : TS := fun D σ H => tv σ H fun y H1 => ta σ H1 fun x H2 => ∃ a dx fs, x = .ref a ∧ H2 a = some (.ins C dx fs) ∧ fs.length < 1000 ∧ D.nx σ (upd H2 a (.ins C dx (putF f y fs)))
theorem ps_f {C : Addr} {o value : Expr} {f : Str} {pos pos' : Pos} {ta tv : TE} (ha : PE X o ta) (hv : PE X value tv) (c : Cls X.K C) (n : NoAttr X.K C f) (hs : swapsWith value (some (.Attribute o f pos')) pos.line X.env = pure false := by rfl) : PS X (.Assign [.Attribute o f pos'] value pos) (sF C ta tv f) := by
  refine ⟨fun pins s σ H D I h => ?_⟩
  unfold sF at h
  refine plainObj_wpAny_Assign_Attribute (thn (hv.run pins s σ H _ I h) fun u s1 ⟨y, H1, I1, ry, q⟩ => thn (ha.run pins s1 σ H1 _ I1 q) fun ov s2 ⟨x, H2, I2, rx, a, dx, fs, ex, ea, l, q2⟩ => ?_) hs
  subst ex
  obtain rfl : ov = Value.ref a := rx
  exact setattr_ok I2 ea c n l ry fun s3 I3 => ⟨σ, _, I3, q2⟩
@[irreducible] def rConst (C : Addr) (f : Str) (v : V) : V → Hp → VK → Prop := fun x H Q => ∃ a dx fs, x = .ref a ∧ H a = some (.ins C dx fs) ∧ fs.lookup f = none ∧ Q v H
end
theorem len_ok {n : Nat} (h : n ≤ 100000) : n ≤ sizeLine := Nat.le_trans h (by decide)
@[irreducible] def rPowK (r : Int) : R2 := fun x y H Q => ∃ i j, x = .int i ∧ y = .int j ∧ CPow i j ∧ i ^ j.toNat = r ∧ Q (.int r) H
theorem op_powK {X : Cx} (r : Int) : OpR X (binaryOp .Pow) (rPowK r) := by
  intro pins s σ H x y v u Q I rx ry h
  unfold rPowK at h
  obtain ⟨i, j, h1, h2, h3, h4, q⟩ := h
  exact op_pow pins s σ H x y v u Q I rx ry ⟨i, j, h1, h2, h3, by show Q (.int (i ^ j.toNat)) H; rw [h4]; exact q⟩
section
variable {K : PySem.W.Frag} {H : Hp} {σ : L2.St} {Q : VK} {D : Ends} {i j n : Int} {x y v : V} {ta tb tc te tf : TE} {t u : TS} {c d : TT} {k : Bool} {a l p C dx : Addr} {xs ys : List V} {A B : Prop}
theorem st_seq (h : t { D with nx := u D } σ H) : tSeq t u D σ H := h
theorem st_nx (h : D.nx σ H) : tNext D σ H := h
theorem st_asg {g : TG} (h : te σ H fun x H1 => g x σ H1 D.nx) : tAsg te g D σ H := h
theorem st_name {m : Nat} {Q : L2.St → Hp → Prop} (h : Q (σ.set m (some v)) H) : gName m v σ H Q := h
theorem st_drop (h : te σ H fun _ H1 => D.nx σ H1) : tDrop te D σ H := h
theorem st_ret (h : te σ H D.rt) : tRet te D σ H := h
theorem st_retN (h : D.rt .non H) : tRetN D σ H := h
theorem st_ifS (h : c σ H fun b H1 => if b = true then t D σ H1 else u D σ H1) : tIfS c t u D σ H := h
theorem st_brk (h : D.bk σ H) : tBreak D σ H := h
theorem st_cnt (h : D.ct σ H) : tCont D σ H := h
theorem st_par {m m' : Nat} {t : TA} (h : t σ H fun vs H1 => ∃ v w, vs = [v, w] ∧ D.nx ((σ.set m (some v)).set m' (some w)) H1) : tPar m m' t D σ H := h
theorem st_par2 {P : V → V → Prop} (h : P x y) : ∃ v w, [x, y] = [v, w] ∧ P v w := ⟨x, y, rfl, h⟩
theorem st_aug {m : Nat} {ti : TIp} (e : σ[m]? = some (some x)) (h : te σ H fun y H1 => ti x y H1 fun z H2 => D.nx (σ.set m (some z)) H2) : tAug m te ti D σ H := ⟨x, e, h⟩
theorem st_var {m : Nat} (e : σ[m]? = some (some v)) (h : Q v H) : tVar m σ H Q := ⟨v, e, h⟩
theorem st_c (h : Q v H) : tC v σ H Q := h
theorem st_op {r : R2} (h : ta σ H fun x H1 => tb σ H1 fun y H2 => r x y H2 Q) : tOp r ta tb σ H Q := h
theorem st_un {r : V → Hp → VK → Prop} (h : ta σ H fun x H1 => r x H1 Q) : tUn r ta σ H Q := h
theorem st_rI0 {g : Int → Int → V} (h : Q (g i j) H) : rI0 g (.int i) (.int j) H Q := ⟨i, j, rfl, rfl, h⟩
theorem st_rI {g : Int → Int → V} {R : Int → Int → Prop} (hc : R i j) (h : Q (g i j) H) : rI R g (.int i) (.int j) H Q := ⟨i, j, rfl, rfl, hc, h⟩
theorem st_rU {g : Int → V} (h : Q (g i) H) : rU g (.int i) H Q := ⟨i, rfl, h⟩
theorem st_rAdd (h : Q (.int (i + j)) H) : rAdd (.int i) (.int j) H Q := ⟨i, j, rfl, rfl, h⟩
theorem st_rSub (h : Q (.int (i - j)) H) : rSub (.int i) (.int j) H Q := ⟨i, j, rfl, rfl, h⟩
theorem st_eq (e : scal x y = true) (h : Q (.bl (decide (x = y))) H) : rEq x y H Q := ⟨e, h⟩
theorem st_ne (e : scal x y = true) (h : Q (.bl (!decide (x = y))) H) : rNe x y H Q := ⟨e, h⟩
theorem st_isN (h : Q (.bl (decide (x = .non))) H) : rIsN x .non H Q := by unfold rIsN; exact ⟨rfl, h⟩
theorem st_notN (h : Q (.bl (!decide (x = .non))) H) : rNotN x .non H Q := by unfold rNotN; exact ⟨rfl, h⟩
theorem st_test {Q : Bool → Hp → Prop} (h : te σ H fun x H' => ∃ k, x = .bl k ∧ Q k H') : tTest te σ H Q := h
theorem st_tB {Q : Bool → Hp → Prop} (h : te σ H fun x H' => ∃ k, x = .bl k ∧ Q k H') : tB te σ H Q := h
theorem st_ebl {P : Bool → Prop} (h : P k) : ∃ k', V.bl k = .bl k' ∧ P k' := ⟨k, rfl, h⟩
theorem st_eint {P : Int → Prop} (h : P i) : ∃ k', V.int i = .int k' ∧ P k' := ⟨i, rfl, h⟩
theorem st_and {Q : Bool → Hp → Prop} (h : c σ H fun k H1 => if k = true then d σ H1 Q else Q false H1) : tAnd c d σ H Q := h
theorem st_or {Q : Bool → Hp → Prop} (h : c σ H fun k H1 => if k = true then Q true H1 else d σ H1 Q) : tOr c d σ H Q := h
theorem st_not {Q : Bool → Hp → Prop} (h : c σ H fun k H1 => Q (!k) H1) : tNot c σ H Q := h
theorem st_andV (h : ta σ H fun x H1 => ∃ c, x = .bl c ∧ if c = true then tb σ H1 Q else Q (.bl false) H1) : tAndV ta tb σ H Q := h
theorem st_orV (h : ta σ H fun x H1 => ∃ c, x = .bl c ∧ if c = true then Q (.bl true) H1 else tb σ H1 Q) : tOrV ta tb σ H Q := h
theorem st_notV (h : ta σ H fun x H1 => ∃ c, x = .bl c ∧ Q (.bl (!c)) H1) : tNotV ta σ H Q := h
theorem st_ifE (h : c σ H fun k H1 => if k = true then ta σ H1 Q else tb σ H1 Q) : tIf c ta tb σ H Q := h
theorem st_chain {r r' : R2} (h : ta σ H fun x H1 => tb σ H1 fun y H2 => r x y H2 fun z H3 => ∃ k, z = .bl k ∧ if k = true then tc σ H3 fun w H4 => r' y w H4 Q else Q (.bl false) H3) : tChain r r' ta tb tc σ H Q := h
theorem st_if1 (e : k = true) (h : A) : if k = true then A else B := by rw [if_pos e]; exact h
theorem st_if0 (e : k = false) (h : B) : if k = true then A else B := by rw [e, if_neg (by decide)]; exact h
theorem st_nil {Q : List V → Hp → Prop} (h : Q [] H) : tNil σ H Q := h
theorem st_cons {t : TA} {Q : List V → Hp → Prop} (h : ta σ H fun x H1 => t σ H1 fun xs H2 => Q (x :: xs) H2) : tCons ta t σ H Q := h
theorem st_cl {r : List V → Hp → VK → Prop} {t : TA} (h : t σ H fun vs H1 => r vs H1 Q) : tCl r t σ H Q := h
theorem st_cb {r : List V → Hp → VK → Prop} {t : TA} (h : t σ H fun vs H1 => r vs H1 Q) : tCB r t σ H Q := h
theorem st_mt {m : Str} {r : List V → Hp → VK → Prop} {t : TA} (h : ta σ H fun x H1 => ∃ a dx fs, x = .ref a ∧ H1 a = some (.ins C dx fs) ∧ fs.lookup m = none ∧ t σ H1 fun vs H2 => r (x :: vs) H2 Q) : tMt C m r ta t σ H Q := h
theorem st_emt {m : Str} {fs : List (Str × V)} {P : Prop} (h : H a = some (.ins C dx fs)) (e : fs.lookup m = none) (q : P) : ∃ a' dx fs, V.ref a = .ref a' ∧ H a' = some (.ins C dx fs) ∧ fs.lookup m = none ∧ P := ⟨a, dx, fs, rfl, h, e, q⟩
theorem st_pr {sp : Sp} {dvs : List V} {E : XK} (h : ta σ H fun x H1 => ∃ a dx fs, x = .ref a ∧ H1 a = some (.ins C dx fs) ∧ sp (.ref a :: dvs) H1 Q E) : tPr C sp dvs E ta σ H Q := h
theorem st_epr {fs : List (Str × V)} {sp : Sp} {dvs : List V} {E : XK} (h : H a = some (.ins C dx fs)) (q : rSp sp dvs E [.ref a] H Q) : ∃ a' dx fs, V.ref a = .ref a' ∧ H a' = some (.ins C dx fs) ∧ sp (.ref a' :: dvs) H Q E := ⟨a, dx, fs, rfl, h, q⟩
theorem st_fld {f : Str} {fs : List (Str × V)} (h : H a = some (.ins C dx fs)) (e : fs.lookup f = some v) (q : Q v H) : rFld C f (.ref a) H Q := by unfold rFld; exact ⟨a, dx, fs, v, rfl, h, e, q⟩
theorem st_const {f : Str} {fs : List (Str × V)} (h : H a = some (.ins C dx fs)) (e : fs.lookup f = none) (q : Q v H) : rConst C f v (.ref a) H Q := by unfold rConst; exact ⟨a, dx, fs, rfl, h, e, q⟩
def rSetF (C : Addr) (f : Str) (y x : V) (H : Hp) (P : Hp → Prop) : Prop := ∃ a dx fs, x = .ref a ∧ H a = some (.ins C dx fs) ∧ fs.length < 1000 ∧ P (upd H a (.ins C dx (putF f y fs)))
theorem st_sF {f : Str} (h : te σ H fun y H1 => ta σ H1 fun x H2 => rSetF C f y x H2 fun H3 => D.nx σ H3) : sF C ta te f D σ H := by unfold sF; exact h
theorem st_setF {f : Str} {fs : List (Str × V)} {P : Hp → Prop} (h : H a = some (.ins C dx fs)) (e : fs.length < 1000) (q : ∀ H', Mu H H' a (.ins C dx (putF f y fs)) → P H') : rSetF C f y (.ref a) H P := ⟨a, dx, fs, rfl, h, e, q _ mu_upd⟩
theorem st_powK {r : Int} (h1 : CPow i j) (h2 : i ^ j.toNat = r) (q : Q (.int r) H) : rPowK r (.int i) (.int j) H Q := by unfold rPowK; exact ⟨i, j, rfl, rfl, h1, h2, q⟩
def rNewL (xs : List V) (H : Hp) (Q : VK) : Prop := xs.length ≤ sizeLine ∧ ∀ p, H p = none → Q (.ref p) (upd H p (.lst xs))
def rNewT (xs : List V) (H : Hp) (Q : VK) : Prop := xs.length ≤ sizeLine ∧ ∀ p, H p = none → Q (.ref p) (upd H p (.tup xs))
theorem st_lst {t : TA} (h : t σ H fun xs H1 => rNewL xs H1 Q) : tLst t σ H Q := h
theorem st_tup {t : TA} (h : t σ H fun xs H1 => rNewT xs H1 Q) : tTup t σ H Q := h
theorem st_newL (e : xs.length ≤ sizeLine) (h : ∀ p H', Nw H H' p (.lst xs) → Q (.ref p) H') : rNewL xs H Q := ⟨e, fun p np => h p _ (nw_upd np)⟩
theorem st_newT (e : xs.length ≤ sizeLine) (h : ∀ p H', Nw H H' p (.tup xs) → Q (.ref p) H') : rNewT xs H Q := ⟨e, fun p np => h p _ (nw_upd np)⟩
theorem new_of {o : HO} (h : ∀ p H', Nw H H' p o → Q (.ref p) H') : ∀ p, H p = none → Q (.ref p) (upd H p o) := fun p np => h p _ (nw_upd np)
theorem st_ixL (h : H p = some (.lst xs)) (e : atI xs i = some v) (q : Q v H) : rIxL K (.ref p) (.int i) H Q := ⟨p, xs, i, v, rfl, rfl, SqL.of h, e, q⟩
theorem st_ixLs (h : SqL K H p xs) (e : atI xs i = some v) (q : Q v H) : rIxL K (.ref p) (.int i) H Q := ⟨p, xs, i, v, rfl, rfl, h, e, q⟩
theorem st_ixT (h : H p = some (.tup xs)) (e : atI xs i = some v) (q : Q v H) : rIxT K (.ref p) (.int i) H Q := ⟨p, xs, i, v, rfl, rfl, SqT.of h, e, q⟩
theorem st_ixTs (h : SqT K H p xs) (e : atI xs i = some v) (q : Q v H) : rIxT K (.ref p) (.int i) H Q := ⟨p, xs, i, v, rfl, rfl, h, e, q⟩
theorem st_lenL (h : H p = some (.lst xs)) (q : Q (.int xs.length) H) : rLn K [.ref p] H Q := by unfold rLn; exact ⟨_, _, rfl, .inl ⟨xs, SqL.of h, rfl⟩, q⟩
theorem st_lenT (h : H p = some (.tup xs)) (q : Q (.int xs.length) H) : rLn K [.ref p] H Q := by unfold rLn; exact ⟨_, _, rfl, .inr ⟨xs, SqT.of h, rfl⟩, q⟩
theorem st_lenS {z : Str} (e : z.length ≤ sizeLine) (q : Q (.int z.length) H) : rLn K [.str z] H Q := by unfold rLn; exact ⟨_, _, rfl, ⟨e, rfl⟩, q⟩
theorem st_listL (h : H p = some (.lst xs)) (q : ∀ l H', Nw H H' l (.lst xs) → Q (.ref l) H') : rListOf K [.ref p] H Q := by unfold rListOf; exact ⟨p, xs, rfl, .inl (SqL.of h), new_of q⟩
theorem st_listT (h : H p = some (.tup xs)) (q : ∀ l H', Nw H H' l (.lst xs) → Q (.ref l) H') : rListOf K [.ref p] H Q := by unfold rListOf; exact ⟨p, xs, rfl, .inr (SqT.of h), new_of q⟩
theorem st_tupL (h : H p = some (.lst xs)) (q : ∀ l H', Nw H H' l (.tup xs) → Q (.ref l) H') : rTupOf K [.ref p] H Q := by unfold rTupOf; exact ⟨p, xs, rfl, .inl ⟨SqL.of h, new_of q⟩⟩
theorem st_tupT (h : H p = some (.tup xs)) (q : Q (.ref p) H) : rTupOf K [.ref p] H Q := by unfold rTupOf; exact ⟨p, xs, rfl, .inr ⟨SqT.of h, q⟩⟩
theorem st_int (q : Q (.int i) H) : rInt [.int i] H Q := by unfold rInt; exact .inl ⟨i, rfl, q⟩
theorem st_intB (q : Q (.int (if k = true then 1 else 0)) H) : rInt [.bl k] H Q := by unfold rInt; exact .inr ⟨k, rfl, q⟩
theorem st_abs (q : Q (.int (if i < 0 then -i else i)) H) : rAbs [.int i] H Q := by unfold rAbs; exact ⟨i, rfl, q⟩
theorem st_sl {r : V → Option Int → Option Int → Hp → VK → Prop} {tl th : TO} (h : te σ H fun x H1 => tl σ H1 fun l H2 => th σ H2 fun u H3 => r x l u H3 Q) : tSl r te tl th σ H Q := h
theorem st_part {Q : Option Int → Hp → Prop} (h : te σ H fun x H1 => ∃ i, x = .int i ∧ Q (some i) H1) : tPart te σ H Q := h
theorem st_nopart {Q : Option Int → Hp → Prop} (h : Q none H) : tNoPart σ H Q := h
theorem st_slL {lo hi : Option Int} (h : H p = some (.lst xs)) (q : ∀ l H', Nw H H' l (.lst (cutV xs lo hi)) → Q (.ref l) H') : rSlL K (.ref p) lo hi H Q := ⟨p, xs, rfl, SqL.of h, new_of q⟩
theorem st_slLs {lo hi : Option Int} (h : SqL K H p xs) (q : ∀ l H', Nw H H' l (.lst (cutV xs lo hi)) → Q (.ref l) H') : rSlL K (.ref p) lo hi H Q := ⟨p, xs, rfl, h, new_of q⟩
theorem st_cat (h : H l = some (.lst xs)) (h' : H p = some (.lst ys)) (e : xs.length + ys.length ≤ sizeLine) (q : ∀ a H', Nw H H' a (.lst (xs ++ ys)) → Q (.ref a) H') : rCat (.ref l) (.ref p) H Q := ⟨l, p, xs, ys, rfl, rfl, h, h', e, new_of q⟩
theorem st_bm {T : String} {r : V → List V → Hp → VK → Prop} {t : TA} (h : te σ H fun x H1 => tyV K T x H1 ∧ t σ H1 fun xs H2 => r x xs H2 Q) : tBM K T r te t σ H Q := h
theorem st_bm0 {T : String} {r : V → List V → Hp → VK → Prop} (h : te σ H fun x H1 => tyV K T x H1 ∧ r x [] H1 Q) : tBM0 K T r te σ H Q := h
theorem st_tyL {P : Prop} (h : H p = some (.lst xs)) (q : P) : tyV K "list" (.ref p) H ∧ P := ⟨.inl ⟨rfl, xs, SqL.of h⟩, q⟩
theorem st_tyS {z : Str} {P : Prop} (q : P) : tyV K "str" (.str z) H ∧ P := ⟨rfl, q⟩
theorem st_gsub {to ti : TE} {ts : TSet} {Q : L2.St → Hp → Prop} (h : to σ H fun o H1 => ti σ H1 fun i H2 => ts o i v H2 fun H3 => Q σ H3) : gSub to ti ts v σ H Q := h
theorem st_setL {m : Nat} {Q : Hp → Prop} (h : H p = some (.lst xs)) (e : ixN xs.length i = some m) (q : ∀ H', Mu H H' p (.lst (xs.set m v)) → Q H') : rSetL (.ref p) (.int i) v H Q := ⟨p, xs, i, m, rfl, rfl, h, e, q _ mu_upd⟩
theorem st_neD {d e : PyData} (h1 : Dp K H x d) (h2 : Dp K H y e) (h3 : SeqAt.shaped d = true) (h4 : SeqAt.shaped e = true) (q : Q (.bl (!PyData.eqv d e)) H) : rNeD K x y H Q := ⟨d, e, h1, h2, h3, h4, q⟩
theorem st_gtup {m : Nat} {g : TGs} {Q : L2.St → Hp → Prop} (h : H a = some (.tup xs)) (e : xs.length = m) (q : g xs σ H Q) : gTup K m g (.ref a) σ H Q := ⟨a, xs, rfl, SqT.of h, e, q⟩
theorem st_gcons {g : TG} {gs : TGs} {Q : L2.St → Hp → Prop} (h : g v σ H fun σ' H' => gs xs σ' H' Q) : gCons g gs (v :: xs) σ H Q := ⟨v, xs, rfl, h⟩
theorem st_gnil {Q : L2.St → Hp → Prop} (h : Q σ H) : gNil [] σ H Q := ⟨rfl, h⟩
theorem st_list {R : It → Hp → Prop} (h : te σ H fun x H1 => ∃ a, x = .ref a ∧ (∃ xs, SqL K H1 a xs) ∧ R (Itl K a) H1) : iList K te σ H R := h
theorem st_elist {P : Addr → Prop} (h : H a = some (.lst xs)) (q : P a) : ∃ a', V.ref a = .ref a' ∧ (∃ xs, SqL K H a' xs) ∧ P a' := ⟨a, rfl, ⟨xs, SqL.of h⟩, q⟩
theorem st_itup {R : It → Hp → Prop} (h : te σ H fun x H1 => ∃ a, x = .ref a ∧ (∃ xs, SqT K H1 a xs) ∧ R (Itt K a) H1) : iTup K te σ H R := h
theorem st_eitup {P : Addr → Prop} (h : H a = some (.tup xs)) (q : P a) : ∃ a', V.ref a = .ref a' ∧ (∃ xs, SqT K H a' xs) ∧ P a' := ⟨a, rfl, ⟨xs, SqT.of h⟩, q⟩
end
end Gh
end
section
namespace Gh
open PySem PySem.Spec PyProof.Rows L2
section
variable {X : Cx} {a b c d : Expr} {ta tb tc td : TE} {pos : Pos}
def tChain3 (r r' r2 : R2) (ta tb tc td : TE) : TE := fun σ H Q => ta σ H fun x H1 => tb σ H1 fun y H2 => r x y H2 fun z H3 => ∃ k, z = .bl k ∧
  (if k = true then tc σ H3 fun w H4 => r' y w H4 fun z' H5 => ∃ k', z' = .bl k' ∧ (if k' = true then td σ H5 fun v H6 => r2 w v H6 Q else Q (.bl false) H5) else Q (.bl false) H3)
theorem pt_chain3 {op op' op2 : CmpOp} {r r' r2 : R2} (ho : OpR X (compareOp op) r) (ho' : OpR X (compareOp op') r') (ho2 : OpR X (compareOp op2) r2) (ha : PE X a ta) (hb : PE X b tb) (hc : PE X c tc) (hd : PE X d td)
    (hm : lastMarks [op, op', op2] [b, c, d] = false := by with_unfolding_all rfl) : PT X (.Compare a [op, op', op2] [b, c, d] pos) (tTest (tChain3 r r' r2 ta tb tc td)) := by
  refine ⟨fun pins s σ H Q I h => ?_⟩
  refine isTrue_chain (thn (ha.run pins s σ H _ I h) fun v s1 ⟨x, H1, I1, r1, q1⟩ => test_link (thn (hb.run pins s1 σ H1 _ I1 q1) fun u s2 ⟨y, H2, I2, rr2, q2⟩ =>
    thn (ho pins s2 σ H2 x y v u _ I2 r1 rr2 q2) fun d s3 ⟨z, H3, I3, r3, k, e, q3⟩ => ?_)) hm
  subst e
  cases r3
  refine wpAny_truthy_bool ?_
  cases k with
  | false =>
    obtain ⟨k', e', q'⟩ := q3
    cases e'
    exact ite_ff ⟨H3, I3, q'⟩
  | true =>
    refine ite_tt (test_link (thn (hc.run pins s3 σ H3 _ I3 q3) fun w' s4 ⟨z', H4, I4, r4, q4⟩ => thn (ho' pins s4 σ H4 y z' u w' _ I4 rr2 r4 q4) fun d' s5 ⟨z2, H5, I5, r5, k2, e2, q5⟩ => ?_))
    subst e2
    cases r5
    refine wpAny_truthy_bool ?_
    cases k2 with
    | false =>
      obtain ⟨k', e', q'⟩ := q5
      cases e'
      exact ite_ff ⟨H5, I5, q'⟩
    | true =>
      refine ite_tt (test_last (thn (hd.run pins s5 σ H5 _ I5 q5) fun w2 s6 ⟨z3, H6, I6, r6, q6⟩ => thn (ho2 pins s6 σ H6 z' z3 w' w2 _ I6 r4 r6 q6) fun d2 s7 ⟨z4, H7, I7, r7, k3, e3, q7⟩ => ?_))
      subst e3
      cases r7
      exact wpAny_truthy_bool ⟨H7, I7, q7⟩
theorem st_chain3 {σ : L2.St} {H : Hp} {Q : VK} {r r' r2 : R2} (h : ta σ H fun x H1 => tb σ H1 fun y H2 => r x y H2 fun z H3 => ∃ k, z = .bl k ∧
  (if k = true then tc σ H3 fun w H4 => r' y w H4 fun z' H5 => ∃ k', z' = .bl k' ∧ (if k' = true then td σ H5 fun v H6 => r2 w v H6 Q else Q (.bl false) H5) else Q (.bl false) H3)) : tChain3 r r' r2 ta tb tc td σ H Q := h
def gSl (to tl th : TE) : TG := fun v σ H Q => to σ H fun x H1 => tl σ H1 fun lo H2 => th σ H2 fun hi H3 => ∃ (l m : Addr) (i j : Int) (xs ys : List V), x = .ref l ∧ v = .ref m ∧ lo = .int i ∧ hi = .int j ∧ H3 l = some (.lst xs) ∧ H3 m = some (.lst ys) ∧ l ≠ m ∧ 0 ≤ i ∧ i ≤ j ∧ j ≤ xs.length ∧ xs.length + ys.length ≤ sizeLine ∧
  Q σ (upd H3 l (.lst (xs.take i.toNat ++ ys ++ xs.drop j.toNat)))
def rSlS (v x lo hi : V) (H : Hp) (P : Hp → Prop) : Prop := ∃ (l m : Addr) (i j : Int) (xs ys : List V), x = .ref l ∧ v = .ref m ∧ lo = .int i ∧ hi = .int j ∧ H l = some (.lst xs) ∧ H m = some (.lst ys) ∧ l ≠ m ∧ 0 ≤ i ∧ i ≤ j ∧ j ≤ xs.length ∧ xs.length + ys.length ≤ sizeLine ∧ P (upd H l (.lst (xs.take i.toNat ++ ys ++ xs.drop j.toNat)))
theorem st_gsl {σ : L2.St} {H : Hp} {v : V} {Q : L2.St → Hp → Prop} {to tl th : TE} (h : to σ H fun x H1 => tl σ H1 fun lo H2 => th σ H2 fun hi H3 => rSlS v x lo hi H3 fun H4 => Q σ H4) : gSl to tl th v σ H Q := h
end
def picks {α : Type} (l : List (Nat ⊕ Nat)) (its ws : List α) : List α := l.filterMap fun z => match z with
  | .inl i => ws[i]?
  | .inr j => its[j]?
theorem Vals.getO {zs : List V} {ws : List Value} (r : Vals zs ws) (i : Nat) : (zs[i]? = none ∧ ws[i]? = none) ∨ ∃ x v, zs[i]? = some x ∧ ws[i]? = some v ∧ RelV x v := by
  induction r generalizing i with
  | nil => exact .inl ⟨rfl, rfl⟩
  | cons h t ih =>
    cases i with
    | zero => exact .inr ⟨_, _, rfl, rfl, h⟩
    | succ i => exact ih i
theorem picks_rel (l : List (Nat ⊕ Nat)) {ds zs : List V} {its ws : List Value} (r1 : Vals ds its) (r2 : Vals zs ws) : Vals (picks l ds zs) (picks l its ws) := by
  induction l with
  | nil => exact .nil
  | cons z r ih =>
    unfold picks at ih ⊢
    rw [List.filterMap_cons, List.filterMap_cons]
    cases z with
    | inl i =>
      rcases Vals.getO r2 i with ⟨e1, e2⟩ | ⟨x, v, e1, e2, rv⟩
      · simp only [e1, e2]
        exact ih
      · simp only [e1, e2]
        exact .cons rv ih
    | inr j =>
      rcases Vals.getO r1 j with ⟨e1, e2⟩ | ⟨x, v, e1, e2, rv⟩
      · simp only [e1, e2]
        exact ih
      · simp only [e1, e2]
        exact .cons rv ih
section
variable {K : PySem.W.Frag} {x qual : Str} {params : Arguments} {body : List Stmt} {scope : Scope} {dvs : List V} {kws : List (Str × V)} {f : Addr} {fd : FuncData} {ps : List Str}
theorem FunD.kbN (F : FunD K x qual params body scope [] kws f fd) (n : Nat) (ks : List Str) (l : List (Nat ⊕ Nat))
    (h : ∀ (kV doc pm : Value) (an : Option Addr) (cdv ct : Value) (us ws : List Value), us.length = n → ws.length = ks.length → bindArgs (PySem.W.fnOf x qual params body scope .none kV doc pm an cdv ct) ⟨us, ks.zip ws⟩ = pure (ps.zip (us ++ picks l [] ws))) :
    KBn K fd ps n ks (fun us ws => us ++ picks l [] ws) (fun vs zs => vs ++ picks l [] zs) := by
  obtain ⟨oc, od, dV, kV, doc, pm, an, cdv, ct, osl, rfl, lk, hcd, hD, hK⟩ := F.ex
  rcases hD with ⟨_, rfl⟩ | ⟨e, _⟩
  · exact ⟨fun s us ws X l1 l2 => .of_eq (h kV doc pm an cdv ct us ws l1 l2), fun r1 r2 => r1.append (picks_rel l .nil r2)⟩
  · exact absurd rfl e
end
section
variable {X : Cx} {CX : CXT} {k n : Nat} {f C : Addr} {ks : List Str} {sp : Sp} {E : XK} {x m : Str} {p pos apos : Pos} {e o : Expr} {es : List Expr} {kws : List Keyword} {t tk : TA} {ta : TE} {gV : List V → List V → List V} {r : List V → List V → Hp → VK → Prop}
def rMkK (C : Addr) (n m : Nat) (gV : List V → List V → List V) (sp : Sp) (E : XK) : List V → List V → Hp → VK → Prop := fun vs zs H Q => vs.length = n ∧ zs.length = m ∧ rMk C (fun us H Q E => sp us H Q E) [] E (gV vs zs) H Q
theorem PromK.make (M : Mk X.K C f) (F : PromK X.prog X.w X.K X.mg X.base CX k f (n + 1) ks (fun vs zs => vs ++ gV [] zs) sp) (hr : Room (k + 1) X.A) (hx : Passes CX X E) : CallK X (.ref C) ks (rMkK C n ks.length (fun vs zs => vs ++ gV [] zs) sp E) := by
  intro pins s σ H vs zs us ws Q I rv rz ⟨l1, l2, h⟩
  obtain ⟨fd, ps, g, G, b⟩ := F
  refine run_makeN M G hr b hx I rv rz l1 l2 fun x dx nx ndx ne => ?_
  unfold rMk at h
  have z := h x dx nx ndx ne
  rw [List.append_nil] at z
  exact z
def tClK (r : List V → List V → Hp → VK → Prop) (t tk : TA) : TE := fun σ H Q => t σ H fun vs H1 => tk σ H1 fun zs H2 => r vs zs H2 Q
theorem pe_gk0 (R : CallK X (.ref f) ks r) (hg : Gl X x) (hm : X.mg x = some (.ref f)) (hk : PySem.W.keepIn X.K (.ref f) = true) (hkw : PK X kws tk) (hall : (backToKw pos (keywordEach kws X.env)).all (·.1.isSome) = true := by rfl) (hks : (backToKw pos (keywordEach kws X.env)).filterMap (·.1) = ks := by rfl)
    (hdb : (x == ("__debug__" : Str)) = false := by decide)
    (hpl : ((backTo pos (starEach [] X.env)).any (·.1) || (backToKw pos (keywordEach kws X.env)).any (·.1.isNone)) = false := by rfl) : PE X (.Call (.Name x p) [] kws pos) (tClK r tNil tk) := by
  refine ⟨fun pins s σ H Q I h => ?_⟩
  refine wpAny_Call_Name_kw (ld_glob I hg hm ?_ hdb)
  refine PySem.W.callWith_KW0 (h₀ := X.base) I.ok.mod.kin hk hall (thn (hkw.run pos pins s σ H _ I h) fun ws s2 ⟨zs, H2, I2, rz, q2⟩ => ⟨I2.kIn, ?_⟩) hpl
  rw [hks]
  exact R pins s2 σ H2 [] zs [] ws Q I2 .nil rz q2
def tMtK (C : Addr) (m : Str) (r : List V → List V → Hp → VK → Prop) (ta : TE) (t tk : TA) : TE := fun σ H Q => ta σ H fun x H1 => ∃ a dx fs, x = .ref a ∧ H1 a = some (.ins C dx fs) ∧ fs.lookup m = none ∧ t σ H1 fun vs H2 => tk σ H2 fun zs H3 => r (x :: vs) zs H3 Q
end
section
variable {H : Hp} {σ : L2.St} {Q : VK} {ta : TE} {t tk : TA} {r : List V → List V → Hp → VK → Prop} {C : Addr} {m : Str} {n k : Nat} {gV : List V → List V → List V} {sp : Sp} {E : XK} {vs zs : List V}
theorem st_clK (h : t σ H fun vs H1 => tk σ H1 fun zs H2 => r vs zs H2 Q) : tClK r t tk σ H Q := h
theorem st_mtK (h : ta σ H fun x H1 => ∃ a dx fs, x = .ref a ∧ H1 a = some (.ins C dx fs) ∧ fs.lookup m = none ∧ t σ H1 fun vs H2 => tk σ H2 fun zs H3 => r (x :: vs) zs H3 Q) : tMtK C m r ta t tk σ H Q := h
theorem st_spK (h1 : vs.length = n) (h2 : zs.length = k) (h : rSp sp [] E (gV vs zs) H Q) : rSpK n k gV sp E vs zs H Q := ⟨h1, h2, by
  unfold rSp at h
  rw [List.append_nil] at h
  exact h⟩
end
end Gh
end
section
namespace Gh
open PySem PySem.Spec PyProof.Rows L2
theorem Fn.le {d : PyData} {n b n' b' : Nat} (h : Fn d n b) (h1 : n ≤ n') (h2 : b ≤ b') : Fn d n' b' := ⟨h.cl, h.sh, h.nd, h.ls, Nat.le_trans h.dp h1, Nat.le_trans h.bk h2⟩
theorem Fn.shaped {d : PyData} {n b : Nat} (h : Fn d n b) (hn : n ≤ 64) : SeqAt.shaped d = true := by
  unfold SeqAt.shaped
  rw [h.cl, decide_eq_true (Nat.le_trans h.dp hn)] <;> rfl
theorem Fn.eqv {d : PyData} {n b : Nat} (h : Fn d n b) : PyData.eqv d d = true := SeqAt.eqv_refl d h.cl
section
variable {K : PySem.W.Frag} {H : Hp} {a : Addr} {ns : List Int}
end
section
variable {H H' : Hp} {a l p c : Addr} {u : HO} {b : Nat}
theorem none_ne (n : H l = none) (h : H a = some u) : l ≠ a := fun e => by
  rw [← e, n] at h
  cases h
theorem none_pen (n : H l = none) (h : Pen H p c b) : l ≠ p := by
  obtain ⟨ns, i, z, h1, h2, h3⟩ := h
  exact none_ne n h1
theorem none_cell (n : H l = none) (h : Pen H p c b) : l ≠ c := by
  obtain ⟨ns, i, z, h1, h2, h3⟩ := h
  exact none_ne n h2
def Keep2 (H H' : Hp) (p t : Addr) : Prop := ∀ a o, H a = some o → a ≠ p → a ≠ t → H' a = some o
theorem keep2_up {t : Addr} (n : Keep2 H H' p t) (e : a ≠ p) (e' : a ≠ t) (h : H a = some u) : H' a = some u := n _ _ h e e'
theorem st_setO {C dx : Addr} {fs : List (Str × V)} {r : List V → Hp → VK → Prop} {i v : V} {Q : Hp → Prop} (h : H a = some (.ins C dx fs)) (q : r [.ref a, i, v] H fun _ H' => Q H') : rSetO C r (.ref a) i v H Q := by
  unfold rSetO
  exact ⟨a, dx, fs, rfl, h, q⟩
theorem st_ixO {C dx : Addr} {fs : List (Str × V)} {sp : Sp} {E : XK} {y : V} {Q : VK} (h : H a = some (.ins C dx fs)) (q : rSp sp [] E [.ref a, y] H Q) : rIxO C sp E (.ref a) y H Q := by
  unfold rIxO
  exact ⟨a, dx, fs, rfl, h, q⟩
end
section
variable {K : PySem.W.Frag} {H : Hp} {σ : L2.St} {Q : VK} {m : Nat} {tt : TT} {te tl : TE} {vs : List Nat} {t : TA} {a : Addr} {xs : List V}
def rLc (J : It) (m : Nat) (tt : TT) (te : TE) (vs : List Nat) (σ : L2.St) (H : Hp) (Q : VK) : Prop := ∀ D, H D = none → ∃ W : Nat → Nat → Hp → Prop, (∃ k, W 0 k (upd H D (.lst []))) ∧ ∀ i k H, W i k H →
  (J.stop i H ∧ Q (.ref D) H) ∨ (J.go i H ∧ ∃ Nx : Hp → Prop, (∀ H', Nx H' → ∃ k', k' < k ∧ W (i + 1) k' H') ∧ ∀ x H', J.yld i H x H' → gName m x (wipe σ vs) H' fun σ2 H2 => wipe σ2 vs = wipe σ vs ∧ tt σ2 H2 fun b H3 =>
    if b = true then te σ2 H3 fun y H4 => ∃ acc, H4 D = some (.lst acc) ∧ acc.length < sizeLine ∧ Nx (upd H4 D (.lst (acc ++ [y]))) else Nx H3)
theorem st_lcR1 (h : t σ H fun us H1 => ∃ j : Int, us = [.int j] ∧ -(2 ^ 62) ≤ j ∧ j < 2 ^ 62 ∧ rLc (Itr 0 j.toNat) m tt te vs σ H1 Q) : tLc (iRng1 t) (gName m) tt te vs σ H Q := h
theorem st_lcR2 (h : t σ H fun us H1 => ∃ i j : Int, us = [.int i, .int j] ∧ (-(2 ^ 62) ≤ i ∧ i < 2 ^ 62 ∧ -(2 ^ 62) ≤ j ∧ j < 2 ^ 62) ∧ rLc (Itr i (j - i).toNat) m tt te vs σ H1 Q) : tLc (iRng2 t) (gName m) tt te vs σ H Q := h
theorem st_lcL (h : tl σ H fun x H1 => ∃ a, x = .ref a ∧ (∃ xs, SqL K H1 a xs) ∧ rLc (Itl K a) m tt te vs σ H1 Q) : tLc (iList K tl) (gName m) tt te vs σ H Q := h
theorem st_lcT (h : tl σ H fun x H1 => ∃ a, x = .ref a ∧ (∃ xs, SqT K H1 a xs) ∧ rLc (Itt K a) m tt te vs σ H1 Q) : tLc (iTup K tl) (gName m) tt te vs σ H Q := h
theorem st_eR1 {j : Int} {P : Int → Prop} (h0 : -(2 ^ 62) ≤ j) (h1 : j < 2 ^ 62) (h : P j) : ∃ j', [V.int j] = [.int j'] ∧ -(2 ^ 62) ≤ j' ∧ j' < 2 ^ 62 ∧ P j' := ⟨j, rfl, h0, h1, h⟩
theorem st_eR2 {i j : Int} {P : Int → Int → Prop} (h0 : -(2 ^ 62) ≤ i ∧ i < 2 ^ 62 ∧ -(2 ^ 62) ≤ j ∧ j < 2 ^ 62) (h : P i j) : ∃ i' j', [V.int i, V.int j] = [.int i', .int j'] ∧ (-(2 ^ 62) ≤ i' ∧ i' < 2 ^ 62 ∧ -(2 ^ 62) ≤ j' ∧ j' < 2 ^ 62) ∧ P i' j' := ⟨i, j, rfl, h0, h⟩
theorem st_yes {Q : Bool → Hp → Prop} (h : Q true H) : tYes σ H Q := h
end
section
variable {H H' : Hp} {a l p c : Addr} {u : HO} {b : Nat}
theorem nw_pen' {H0 : Hp} {b0 : Nat} {o : HO} (_ : Pen H0 p c b0) (n : Nw H H' l o) (h : Pen H p c b) : l ≠ p := nw_pen n h
theorem nw_cell' {H0 : Hp} {b0 : Nat} {o : HO} (_ : Pen H0 p c b0) (n : Nw H H' l o) (h : Pen H p c b) : l ≠ c := nw_cell n h
theorem none_pen' {H0 : Hp} {b0 : Nat} (_ : Pen H0 p c b0) (n : H l = none) (h : Pen H p c b) : l ≠ p := none_pen n h
theorem none_cell' {H0 : Hp} {b0 : Nat} (_ : Pen H0 p c b0) (n : H l = none) (h : Pen H p c b) : l ≠ c := none_cell n h
theorem tup_pen' {H0 : Hp} {b0 : Nat} {xs : List V} (_ : Pen H0 p c b0) (n : H l = some (.tup xs)) (h : Pen H p c b) : l ≠ p := tup_pen n h
theorem tup_cell' {H0 : Hp} {b0 : Nat} {xs : List V} (_ : Pen H0 p c b0) (n : H l = some (.tup xs)) (h : Pen H p c b) : l ≠ c := tup_cell n h
theorem ins_pen' {H0 : Hp} {b0 : Nat} {C dx : Addr} {fs : List (Str × V)} (_ : Pen H0 p c b0) (n : H l = some (.ins C dx fs)) (h : Pen H p c b) : l ≠ p := ins_pen n h
theorem ins_cell' {H0 : Hp} {b0 : Nat} {C dx : Addr} {fs : List (Str × V)} (_ : Pen H0 p c b0) (n : H l = some (.ins C dx fs)) (h : Pen H p c b) : l ≠ c := ins_cell n h
end
section
variable {K : PySem.W.Frag} {H : Hp} {σ : L2.St} {D : Ends} {m : Nat} {g : TG} {tb : TS} {tl : TE} {t : TA} {a : Addr} {xs : List V}
def rFor (J : It) (g : TG) (tb : TS) (D : Ends) (σ : L2.St) (H : Hp) : Prop := ∃ W : Nat → Nat → L2.St → Hp → Prop, (∃ m, W 0 m σ H) ∧ ∀ i m σ H, W i m σ H →
  (J.stop i H ∧ D.nx σ H) ∨ (J.go i H ∧ ∃ N : L2.St → Hp → Prop, (∀ σ' H', N σ' H' → ∃ m', m' < m ∧ W (i + 1) m' σ' H') ∧ ∀ x H', J.yld i H x H' → g x σ H' fun σ2 H2 => tb { D with nx := N, ct := N, bk := D.nx } σ2 H2)
theorem st_forR1 (h : t σ H fun us H1 => ∃ j : Int, us = [.int j] ∧ -(2 ^ 62) ≤ j ∧ j < 2 ^ 62 ∧ rFor (Itr 0 j.toNat) g tb D σ H1) : tFor (iRng1 t) g tb D σ H := h
theorem st_forR2 (h : t σ H fun us H1 => ∃ i j : Int, us = [.int i, .int j] ∧ (-(2 ^ 62) ≤ i ∧ i < 2 ^ 62 ∧ -(2 ^ 62) ≤ j ∧ j < 2 ^ 62) ∧ rFor (Itr i (j - i).toNat) g tb D σ H1) : tFor (iRng2 t) g tb D σ H := h
theorem st_forL (h : tl σ H fun x H1 => ∃ a, x = .ref a ∧ (∃ xs, SqL K H1 a xs) ∧ rFor (Itl K a) g tb D σ H1) : tFor (iList K tl) g tb D σ H := h
theorem st_forT (h : tl σ H fun x H1 => ∃ a, x = .ref a ∧ (∃ xs, SqT K H1 a xs) ∧ rFor (Itt K a) g tb D σ H1) : tFor (iTup K tl) g tb D σ H := h
theorem st_forE (h : t σ H fun us H1 => ∃ a xs, us = [.ref a] ∧ SqL K H1 a xs ∧ rFor (Ite K a) g tb D σ H1) : tFor (iEnum K t) g tb D σ H := h
theorem st_eE {P : Addr → Prop} (h : H a = some (.lst xs)) (q : P a) : ∃ a' xs, [V.ref a] = [.ref a'] ∧ SqL K H a' xs ∧ P a' := ⟨a, xs, rfl, SqL.of h, q⟩
end
section
end
end Gh
end
section
namespace Gh
open PySem PySem.Spec PyProof.Rows L2
section
variable {H H' : Hp} {a l p c t : Addr} {o u : HO} {b : Nat} {xs : List V} {T : List (Addr × Str)} {C dx : Addr} {fs : List (Str × V)}
theorem Pen.extN (n : LamX.ExtN H H') (h : Pen H p c b) : Pen H' p c b := by
  obtain ⟨ns, i, z, h1, h2, h3⟩ := h
  exact ⟨ns, i, z, n _ _ h1 (fun _ z => by cases z), n _ _ h2 (fun _ z => by cases z), h3⟩
theorem tabs_keepP (n : Keep H H' p) (pn : Pen H p c b) (h : LamX.Tabs T H) : LamX.Tabs T H' := by
  obtain ⟨ns, i, z, h1, h2, h3⟩ := pn
  exact tabs_keepL n h1 h
theorem tabs_muI (n : Mu H H' l o) (e : H l = some (.ins C dx fs)) (h : LamX.Tabs T H) : LamX.Tabs T H' :=
  tabs_of h (fun a ps q => n.up (ne_of q e (by intro z; cases z)) q) (fun a c q z => n.up (ne_of z e (by intro y; unfold LamX.CodeO at y; cases y)) z)
theorem keep_fr (n : Keep H H' p) : Fr H H' p := fun a o h e _ => n a o h e
theorem ext_fr (n : LamX.ExtN H H') : Fr H H' p := fun a o h _ z => n a o h z
end
section
variable {X : Cx} {H : Hp} {σ : L2.St} {Q : VK} {T : List (Addr × Str)} {TT : (XK → Hp → VK → Prop) → Hp → VK → Prop} {t : XK → TE}
def tAct (f c' : Addr) (q : Str) (tl : Hp → VK → Prop) : TE := fun σ H Q => σ[0]? = some (some (.ref f)) ∧ H c' = some (LamX.CodeO c' q) ∧ tl H Q
theorem takes_len {W : WX} (t : Takes X W) : Takes X (fun c d σ H => σ.length = X.N.length → W c d σ H) := fun u s' ⟨a, B, sI, pins, σ, H, cls, d, e, I, nb, up, sky, na, os, ag, w⟩ =>
  t u s' ⟨a, B, sI, pins, σ, H, cls, d, e, I, nb, up, sky, na, os, ag, w I.len⟩
def tTry (n : Nat) (body : XK → TS) : WX → TS := fun W D σ H => ∃ E : XK, (∀ cls d σ' H', E cls d H' → σ'.length = n → W cls d σ' H') ∧ body E D σ H
theorem try_act {W : WX} {st : List Stmt} {body : XK → TS} (n : Nat) (hn : X.N.length = n) (tk : Takes X W) (h : ∀ E : XK, (∃ W' : WX, Takes X W' ∧ ∀ cls d σ' H', E cls d H' → W' cls d σ' H') → PSs X st (body E)) : PSs X st (tTry n body W) := by
  refine ⟨fun pins s σ H D I h' => ?_⟩
  obtain ⟨E, hW, h1⟩ := h'
  refine (h E ⟨_, takes_len tk, fun cls d σ' H' e l => hW cls d σ' H' e (l.trans hn)⟩).run pins s σ H D I h1
end
end Gh
end
section
namespace Gh
open PySem PySem.Spec PyProof.Rows L2
section
variable {X : Cx} {CX : CXT} {k : Nat} {C f : Addr} {sp : Sp} {E : XK} {r : List V → Hp → VK → Prop}
theorem promO_in1 {pins : List (Addr × Obj)} {s : Shared} {σ : L2.St} {H : Hp} {vs : List V} {us : List Value} {Q : VK} (F : PromOX X CX k f [] sp) (hr : Room (k + 1) X.A) (hx : Passes CX X E) (I : Inv X pins σ H s) (rv : Vals vs us) (h : sp vs H Q E) :
    wpAny (model X.prog X.w) X.A.in1 (call (.ref f) us) (EP X pins σ Q) X.xe s := by
  refine wpAny_call (codeAny_mono ((PromO.raw F) X.A.in1 X.stack s H us vs Q E hr.in1 I.env0.in1 rv h) fun r s' hq => ?_)
  cases r with
  | error e => exact hx pins σ H s e s' I hq
  | ok fl =>
    cases fl with
    | ret u => exact I.after hq
    | next => exact False.elim hq
    | brk => exact False.elim hq
    | cont => exact False.elim hq
@[irreducible] def rLenO (C : Addr) (sp : Sp) (E : XK) : List V → Hp → VK → Prop := fun xs H Q => ∃ a dx fs, xs = [.ref a] ∧ H a = some (.ins C dx fs) ∧ sp [.ref a] H (fun v H' => ∃ n : Nat, v = .int n ∧ n < 2 ^ 62 ∧ Q (.int n) H') E
theorem cr_lenO (hm : Meth X.K C "__len__" f) (F : PromOX X CX k f [] sp) (hr : Room (k + 1) X.A) (hx : Passes CX X E) : CallR X (.builtin "len") (rLenO C sp E) := by
  intro pins s σ H xs us Q I rv h
  unfold rLenO at h
  obtain ⟨a, dx, fs, rfl, ha, q⟩ := h
  obtain ⟨u, rfl, ru⟩ := vals1 rv
  cases (show u = Value.ref a from ru)
  obtain ⟨ox, od, J⟩ := ins_look I ha
  obtain ⟨m, hF⟩ := I.fr
  refine PySem.W.len_K hF I.ok.mod.kin J hm.at_ hm.fn (wpAny_mono (promO_in1 (vs := [.ref a]) F hr hx I (.cons rfl .nil) q) (fun w s' z => ?_) fun _ _ x => x)
  obtain ⟨v, H', I', rv', n, rfl, hn, q'⟩ := z
  obtain ⟨t, rfl⟩ := rv'
  exact ⟨⟨by omega, by omega⟩, .int n, H', I'.tok _, ⟨_, rfl⟩, q'⟩
end
end Gh
end
section
namespace Gh
open PySem PySem.Spec PyProof.Rows L2
section
variable {K : PySem.W.Frag} {H : Hp} {Q : VK} {a C dx : Addr} {fs : List (Str × V)} {sp : Sp} {E : XK} {r : List V → Hp → VK → Prop} {x y : V} {tb : Value}
theorem st_lenO (h : H a = some (.ins C dx fs)) (q : rSp sp [] E [.ref a] H (fun v H' => ∃ n : Nat, v = .int n ∧ n < 2 ^ 62 ∧ Q (.int n) H')) : rLenO C sp E [.ref a] H Q := by
  unfold rLenO
  exact ⟨a, dx, fs, rfl, h, q⟩
end
end Gh
end
section
namespace Gp
open PySem PySem.Spec PyProof.Rows L2 Gh
section
variable {α β γ : Type}
def nox : Tr α → Tr α
  | .ok a => .ok a
  | .ex _ _ => .bad
  | .bad => .bad
  | .draw m f => .draw m fun d => nox (f d)
theorem bd_ok (a : α) (k : α → Tr β) : bd (.ok a) k = k a := rfl
theorem bd_bd (m : Tr α) (k : α → Tr β) (l : β → Tr γ) : bd (bd m k) l = bd m fun a => bd (k a) l := by
  induction m with
  | draw m f ih =>
    show Tr.draw m _ = Tr.draw m _
    congr 1
    funext d
    exact ih d
  | _ => rfl
theorem al_bd {P : β → Nat → Prop} {E : Str → Fs → Nat → Prop} {m : Tr α} {k : α → Tr β} {b : Nat} : Al P E (bd m k) b ↔ Al (fun a b1 => Al P E (k a) b1) E m b := by
  induction m generalizing b with
  | draw m f ih =>
    constructor
    · rintro ⟨b', e, h1, h2, h3⟩
      exact ⟨b', e, h1, h2, fun d d0 d1 => (ih d).mp (h3 d d0 d1)⟩
    · rintro ⟨b', e, h1, h2, h3⟩
      exact ⟨b', e, h1, h2, fun d d0 d1 => (ih d).mpr (h3 d d0 d1)⟩
  | _ => exact Iff.rfl
theorem al_nox {P : α → Nat → Prop} {E E' : Str → Fs → Nat → Prop} {m : Tr α} {b : Nat} (h : Al P E (nox m) b) : Al P E' m b := by
  induction m generalizing b with
  | ok a => exact h
  | ex c fs => exact h.elim
  | bad => exact h
  | draw m f ih =>
    obtain ⟨b', e, h1, h2, h3⟩ := h
    exact ⟨b', e, h1, h2, fun d d0 d1 => ih d (h3 d d0 d1)⟩
end
section
variable {g : Gw} {U U' : Addr → Prop} {H H' : Hp}
theorem DenL.take : ∀ {vs : List V} {ds : List D} (n : Nat), DenL g U H vs ds → DenL g U H (vs.take n) (ds.take n)
  | _, _, 0, _ => .nil
  | _, _, _ + 1, .nil => .nil
  | _, _, n + 1, .cons a r => .cons a (DenL.take n r)
theorem DenL.drop : ∀ {vs : List V} {ds : List D} (n : Nat), DenL g U H vs ds → DenL g U H (vs.drop n) (ds.drop n)
  | _, _, 0, r => r
  | _, _, _ + 1, .nil => .nil
  | _, _, n + 1, .cons a r => DenL.drop n r
theorem DenF.look0 : ∀ {vs : List (Str × V)} {ds : List (Str × D)} {n : Str}, DenF g U H vs ds → ds.lookup n = none → vs.lookup n = none
  | _, _, _, .nil, _ => rfl
  | _, _, n, .cons (n := m) a r, e => by
    simp only [List.lookup] at e ⊢
    cases q : (n == m) with
    | true => rw [q] at e; cases e
    | false => rw [q] at e; exact DenF.look0 r e
def putD (f : Str) (v : D) : List (Str × D) → List (Str × D)
  | [] => [(f, v)]
  | (g, x) :: r => if g = f then (g, v) :: r else (g, x) :: putD f v r
theorem DenF.put {f : Str} {v : V} {d : D} (h : Den g U H v d) : ∀ {vs : List (Str × V)} {ds : List (Str × D)}, DenF g U H vs ds → DenF g U H (putF f v vs) (putD f d ds)
  | _, _, .nil => .cons h .nil
  | _, _, .cons (n := m) a r => by
    unfold putF putD
    split
    · exact .cons h r
    · exact .cons a (DenF.put h r)
end
section
variable {g : Gw} {U U' : Addr → Prop} {H H' H1 H2 : Hp} {b : Nat}
end
instance : Coe (List D) Ow := ⟨.l⟩
section
variable {g : Gw} {U U' : Addr → Prop} {H H' H1 H2 : Hp} {b : Nat} {σ : L2.St} {ε : Env}
def okL (g : Gw) (U : Addr → Prop) (H : Hp) (Q : List V → Hp → Prop) : List D → Nat → Prop := fun d b => ∀ v H', DenL g U H' v d → Wd g H' b → Fr H H' g.p → Q v H'
def okB (g : Gw) (U : Addr → Prop) (H : Hp) (Q : Bool → Hp → Prop) : Bool → Nat → Prop := fun d b => ∀ H', Wd g H' b → Fr H H' g.p → Q d H'
def SE (g : Gw) (E : XK) (ε : Env) (t : TE) (m : Tr D) : Prop := ∀ U σ H b Q, Rel g U H σ ε → Wd g H b → UOk g U H → Al (okP g U H Q) (exP g U E H) m b → t σ H Q
def SA (g : Gw) (E : XK) (ε : Env) (t : TA) (m : Tr (List D)) : Prop := ∀ U σ H b Q, Rel g U H σ ε → Wd g H b → UOk g U H → Al (okL g U H Q) (exP g U E H) m b → t σ H Q
def ST (g : Gw) (E : XK) (ε : Env) (t : TT) (m : Tr Bool) : Prop := ∀ U σ H b Q, Rel g U H σ ε → Wd g H b → UOk g U H → Al (okB g U H Q) (exP g U E H) m b → t σ H Q
def SR1 (g : Gw) (E : XK) (r : V → Hp → VK → Prop) (f : D → Tr D) : Prop := ∀ U H b x dx Q, Den g U H x dx → Wd g H b → UOk g U H → Al (okP g U H Q) (exP g U E H) (f dx) b → r x H Q
def SR2 (g : Gw) (E : XK) (r : R2) (f : D → D → Tr D) : Prop := ∀ U H b x y dx dy Q, Den g U H x dx → Den g U H y dy → Wd g H b → UOk g U H → Al (okP g U H Q) (exP g U E H) (f dx dy) b → r x y H Q
def SRL (g : Gw) (E : XK) (r : List V → Hp → VK → Prop) (f : List D → Tr D) : Prop := ∀ U H b xs dxs Q, DenL g U H xs dxs → Wd g H b → UOk g U H → Al (okP g U H Q) (exP g U E H) (f dxs) b → r xs H Q
theorem al_frX {α : Type} {E : XK} {P : α → Nat → Prop} {m : Tr α} (f : Fr H H1 g.p) (h : Al P (exP g U E H) m b) : Al P (exP g U E H1) m b := h.mono (fun _ _ h => h) (fun _ _ _ h => h.fr f)
variable {E : XK} {ta tb tc : TE} {ma mb : Tr D}
theorem SE.step {α : Type} {k : D → Tr α} {P : α → Nat → Prop} {Q : VK} (ha : SE g E ε ta ma) (R : Rel g U H σ ε) (W : Wd g H b) (u : UOk g U H) (h : Al P (exP g U E H) (bd ma k) b)
    (hk : ∀ v d H1 b1, Den g U H1 v d → Wd g H1 b1 → Fr H H1 g.p → Rel g U H1 σ ε → UOk g U H1 → Al P (exP g U E H1) (k d) b1 → Q v H1) : ta σ H Q :=
  ha U σ H b Q R W u ((al_bd.mp h).mono (fun d b1 h1 v H1 d1 w1 f1 => hk v d H1 b1 d1 w1 f1 (R.fr u f1) (u.fr f1 w1) (al_frX f1 h1)) (fun _ _ _ h => h))
theorem SA.step {α : Type} {t : TA} {m : Tr (List D)} {k : List D → Tr α} {P : α → Nat → Prop} {Q : List V → Hp → Prop} (ha : SA g E ε t m) (R : Rel g U H σ ε) (W : Wd g H b) (u : UOk g U H) (h : Al P (exP g U E H) (bd m k) b)
    (hk : ∀ v d H1 b1, DenL g U H1 v d → Wd g H1 b1 → Fr H H1 g.p → Rel g U H1 σ ε → UOk g U H1 → Al P (exP g U E H1) (k d) b1 → Q v H1) : t σ H Q :=
  ha U σ H b Q R W u ((al_bd.mp h).mono (fun d b1 h1 v H1 d1 w1 f1 => hk v d H1 b1 d1 w1 f1 (R.fr u f1) (u.fr f1 w1) (al_frX f1 h1)) (fun _ _ _ h => h))
theorem ST.step {α : Type} {t : TT} {m : Tr Bool} {k : Bool → Tr α} {P : α → Nat → Prop} {Q : Bool → Hp → Prop} (ha : ST g E ε t m) (R : Rel g U H σ ε) (W : Wd g H b) (u : UOk g U H) (h : Al P (exP g U E H) (bd m k) b)
    (hk : ∀ d H1 b1, Wd g H1 b1 → Fr H H1 g.p → Rel g U H1 σ ε → UOk g U H1 → Al P (exP g U E H1) (k d) b1 → Q d H1) : t σ H Q :=
  ha U σ H b Q R W u ((al_bd.mp h).mono (fun d b1 h1 H1 w1 f1 => hk d H1 b1 w1 f1 (R.fr u f1) (u.fr f1 w1) (al_frX f1 h1)) (fun _ _ _ h => h))
theorem se_var {i : Nat} {d : D} (h : ε[i]? = some (.fz d) := by rfl) : SE g E ε (tVar i) (.ok d) := fun U σ H b Q R W u q => by
  obtain ⟨o, e, v, rfl, dn⟩ := R.at_ i _ h
  exact ⟨v, e, okP.here q W dn⟩
theorem se_c {v : V} {d : D} (h : ∀ U H, Den g U H v d) : SE g E ε (tC v) (.ok d) := fun U σ H b Q R W u q => okP.here q W (h U H)
theorem se_int {i : Int} : SE g E ε (tC (.int i)) (.ok (.int i)) := se_c fun _ _ => .int i
theorem se_bl {i : Bool} : SE g E ε (tC (.bl i)) (.ok (.bl i)) := se_c fun _ _ => .bl i
theorem se_non : SE g E ε (tC .non) (.ok .non) := se_c fun _ _ => .non
theorem se_str {x : Str} (h : x.length ≤ sizeLine) : SE g E ε (tC (.str x)) (.ok (.str x)) := se_c fun _ _ => .str x h
theorem se_op {r : R2} {f : D → D → Tr D} (hr : SR2 g E r f) (ha : SE g E ε ta ma) (hb : SE g E ε tb mb) : SE g E ε (tOp r ta tb) (bd ma fun x => bd mb fun y => f x y) := fun U σ H b Q R W u q =>
  ha.step R W u q fun v d H1 b1 d1 w1 f1 R1 u1 q1 => hb.step R1 w1 u1 q1 fun v2 e H2 b2 d2 w2 f2 R2 u2 q2 => hr U H2 b2 v v2 d e Q (d1.fr u1 f2) d2 w2 u2 (q2.mono (fun _ _ h => h.fr (f1.trans f2)) (fun _ _ _ h => h))
theorem se_un {r : V → Hp → VK → Prop} {f : D → Tr D} (hr : SR1 g E r f) (ha : SE g E ε ta ma) : SE g E ε (tUn r ta) (bd ma f) := fun U σ H b Q R W u q =>
  ha.step R W u q fun v d H1 b1 d1 w1 f1 R1 u1 q1 => hr U H1 b1 v d Q d1 w1 u1 (q1.mono (fun _ _ h => h.fr f1) (fun _ _ _ h => h))
theorem sa_nil : SA g E ε tNil (.ok []) := fun U σ H b Q R W u q => q [] H .nil W Fr.refl
theorem sa_cons {t : TA} {m : Tr (List D)} (ha : SE g E ε ta ma) (hb : SA g E ε t m) : SA g E ε (tCons ta t) (bd ma fun x => bd m fun xs => .ok (x :: xs)) := fun U σ H b Q R W u q =>
  ha.step R W u q fun v d H1 b1 d1 w1 f1 R1 u1 q1 => hb.step R1 w1 u1 q1 fun v2 e H2 b2 d2 w2 f2 R2 u2 q2 => q2 (v :: v2) H2 (.cons (d1.fr u1 f2) d2) w2 (f1.trans f2)
theorem se_cl {r : List V → Hp → VK → Prop} {f : List D → Tr D} {t : TA} {m : Tr (List D)} (hr : SRL g E r f) (ha : SA g E ε t m) : SE g E ε (tCl r t) (bd m f) := fun U σ H b Q R W u q =>
  ha.step R W u q fun v d H1 b1 d1 w1 f1 R1 u1 q1 => hr U H1 b1 v d Q d1 w1 u1 (q1.mono (fun _ _ h => h.fr f1) (fun _ _ _ h => h))
theorem se_cb {r : List V → Hp → VK → Prop} {f : List D → Tr D} {t : TA} {m : Tr (List D)} (hr : SRL g E r f) (ha : SA g E ε t m) : SE g E ε (tCB r t) (bd m f) := se_cl hr ha
theorem al_asB {P : Bool → Nat → Prop} {X : Str → Fs → Nat → Prop} {d : D} (h : Al P X (asB d) b) : ∃ k, d = .bl k ∧ P k b := by
  cases d with
  | bl k => exact ⟨k, rfl, h⟩
  | _ => exact h.elim
theorem al_asBk {α : Type} {P : α → Nat → Prop} {X : Str → Fs → Nat → Prop} {d : D} {k : Bool → Tr α} (h : Al P X (bd (asB d) k) b) : ∃ c, d = .bl c ∧ Al P X (k c) b := al_asB (al_bd.mp h)
theorem den_bl {v : V} {k : Bool} (h : Den g U H v (.bl k)) : v = .bl k := by cases h; rfl
theorem sb_tst (ha : SE g E ε ta ma) : ST g E ε (tTest ta) (bd ma asB) := fun U σ H b Q R W u q =>
  ha.step R W u q fun v d H1 b1 d1 w1 f1 R1 u1 q1 => by
    obtain ⟨k, rfl, q2⟩ := al_asB q1
    exact ⟨k, den_bl d1, q2 H1 w1 f1⟩
theorem sb_tb (ha : SE g E ε ta ma) : ST g E ε (tB ta) (bd ma asB) := sb_tst ha
theorem sb_and {c d : TT} {m n : Tr Bool} (ha : ST g E ε c m) (hb : ST g E ε d n) : ST g E ε (tAnd c d) (bd m fun k => if k = true then n else .ok false) := fun U σ H b Q R W u q =>
  ha.step R W u q fun k H1 b1 w1 f1 R1 u1 q1 => by
    cases k with
    | true => exact hb U σ H1 b1 Q R1 w1 u1 (q1.mono (fun _ _ h H' w f => h H' w (f1.trans f)) (fun _ _ _ h => h))
    | false => exact q1 H1 w1 f1
theorem sb_or {c d : TT} {m n : Tr Bool} (ha : ST g E ε c m) (hb : ST g E ε d n) : ST g E ε (tOr c d) (bd m fun k => if k = true then .ok true else n) := fun U σ H b Q R W u q =>
  ha.step R W u q fun k H1 b1 w1 f1 R1 u1 q1 => by
    cases k with
    | false => exact hb U σ H1 b1 Q R1 w1 u1 (q1.mono (fun _ _ h H' w f => h H' w (f1.trans f)) (fun _ _ _ h => h))
    | true => exact q1 H1 w1 f1
theorem sb_not {c : TT} {m : Tr Bool} (ha : ST g E ε c m) : ST g E ε (tNot c) (bd m fun k => .ok (!k)) := fun U σ H b Q R W u q =>
  ha.step R W u q fun k H1 b1 w1 f1 R1 u1 q1 => q1 H1 w1 f1
theorem se_andV (ha : SE g E ε ta ma) (hb : SE g E ε tb mb) : SE g E ε (tAndV ta tb) (bd (bd ma asB) fun k => if k = true then mb else .ok (.bl false)) := fun U σ H b Q R W u q => by
  rw [bd_bd] at q
  refine ha.step R W u q fun v d H1 b1 d1 w1 f1 R1 u1 q1 => ?_
  obtain ⟨k, rfl, q2⟩ := al_asBk q1
  refine ⟨k, den_bl d1, ?_⟩
  replace q2 := q2.mono (P' := okP g U H1 Q) (fun _ _ h => okP.fr f1 h) (fun _ _ _ h => h)
  cases k with
  | true => exact hb U σ H1 b1 Q R1 w1 u1 q2
  | false => exact okP.here q2 w1 (.bl false)
theorem se_notV (ha : SE g E ε ta ma) : SE g E ε (tNotV ta) (bd (bd ma asB) fun k => .ok (.bl (!k))) := fun U σ H b Q R W u q => by
  rw [bd_bd] at q
  refine ha.step R W u q fun v d H1 b1 d1 w1 f1 R1 u1 q1 => ?_
  obtain ⟨k, rfl, q2⟩ := al_asBk q1
  exact ⟨k, den_bl d1, q2 _ H1 (.bl (!k)) w1 f1⟩
theorem se_chain {r r' : R2} {f f' : D → D → Tr D} {mc : Tr D} (hr : SR2 g E r f) (hr' : SR2 g E r' f') (ha : SE g E ε ta ma) (hb : SE g E ε tb mb) (hc : SE g E ε tc mc) :
    SE g E ε (tChain r r' ta tb tc) (bd ma fun x => bd mb fun y => bd (bd (f x y) asB) fun k => if k = true then bd mc fun z => f' y z else .ok (.bl false)) := fun U σ H b Q R W u q =>
  ha.step R W u q fun v d H1 b1 d1 w1 f1 R1 u1 q1 => hb.step R1 w1 u1 q1 fun v2 e H2 b2 d2 w2 f2 R2 u2 q2 => by
    rw [bd_bd] at q2
    refine hr U H2 b2 v v2 d e _ (d1.fr u1 f2) d2 w2 u2 ((al_bd.mp q2).mono (fun z b3 h3 v3 H3 d3 w3 f3 => ?_) (fun _ _ _ h => h))
    obtain ⟨k, rfl, q3⟩ := al_asBk h3
    refine ⟨k, den_bl d3, ?_⟩
    have q4 := q3.mono (P' := okP g U H3 Q) (E' := exP g U E H3) (fun _ _ h => okP.fr ((f1.trans f2).trans f3) h) (fun _ _ _ h => h.fr f3)
    cases k with
    | false => exact okP.here q4 w3 (.bl false)
    | true =>
      refine hc.step (R2.fr u2 f3) w3 (u2.fr f3 w3) q4 fun v4 z H4 b4 d4 w4 f4 R4 u4 q5 => ?_
      exact hr' U H4 b4 v2 v4 e z Q (d2.fr u2 (f3.trans f4)) d4 w4 u4 (q5.mono (fun _ _ h => h.fr f4) (fun _ _ _ h => h))
theorem se_lst {t : TA} {m : Tr (List D)} (ha : SA g E ε t m) : SE g E ε (tLst t) (bd m fun ds => if ds.length ≤ sizeLine then .ok (.lst ds) else .bad) := fun U σ H b Q R W u q =>
  ha.step R W u q fun v d H1 b1 d1 w1 f1 R1 u1 q1 => by
    by_cases hl : d.length ≤ sizeLine
    · rw [if_pos hl] at q1
      have hl' : v.length ≤ sizeLine := by rw [d1.length]; exact hl
      refine ⟨hl', fun p np => ?_⟩
      have s := same_new (o := .lst v) np
      exact q1 _ _ (.lst upd_same (u1.new np) hl' (d1.ext (u1.extU (fr_same s)))) (w1.same s) (f1.trans (fr_same s))
    · rw [if_neg hl] at q1
      exact q1.elim
theorem se_tup {t : TA} {m : Tr (List D)} (ha : SA g E ε t m) : SE g E ε (tTup t) (bd m fun ds => if ds.length ≤ sizeLine then .ok (.tup ds) else .bad) := fun U σ H b Q R W u q =>
  ha.step R W u q fun v d H1 b1 d1 w1 f1 R1 u1 q1 => by
    by_cases hl : d.length ≤ sizeLine
    · rw [if_pos hl] at q1
      have hl' : v.length ≤ sizeLine := by rw [d1.length]; exact hl
      refine ⟨hl', fun p np => ?_⟩
      have s := same_new (o := .tup v) np
      exact q1 _ _ (.tup upd_same (u1.new np) hl' (d1.ext (u1.extU (fr_same s)))) (w1.same s) (f1.trans (fr_same s))
    · rw [if_neg hl] at q1
      exact q1.elim
theorem se_nox (ha : SE g (fun _ _ _ => False) ε ta ma) : SE g E ε ta (nox ma) := fun U σ H b Q R W u q => ha U σ H b Q R W u (al_nox q)
end
end Gp
end
section
namespace Gp
open PySem PySem.Spec PyProof.Rows L2 Gh
section
variable {g : Gw} {Mt U0 U U' : Addr → Prop} {H0 H H' H1 H2 : Hp} {b b1 : Nat} {σ : L2.St} {ε ε' : Env} {E : XK} {W L W' : Type}
def SS (g : Gw) (E : XK) (ε : Env) (t : TS) (env : W → Env) (envL : L → Env) (m : Tr (Fl W L)) : Prop := ∀ Mt U0 H0 U D σ H b, Stt g Mt U0 H0 U σ H b ε → Al (flP g Mt U0 H0 U H D env envL) (exS g Mt U0 H0 E) m b → t D σ H
theorem SE.sstep {t : TE} {m : Tr D} {k : D → Tr (Fl W L)} {Ds : Ends} {env : W → Env} {envL : L → Env} {Q : VK} (he : SE g E ε t m) (s : Stt g Mt U0 H0 U σ H b ε) (h : Al (flP g Mt U0 H0 U H Ds env envL) (exS g Mt U0 H0 E) (bd m k) b)
    (hk : ∀ v d H1 b1, Den g U H1 v d → Stt g Mt U0 H0 U σ H1 b1 ε → Al (flP g Mt U0 H0 U H1 Ds env envL) (exS g Mt U0 H0 E) (k d) b1 → Q v H1) : t σ H Q :=
  he U σ H b Q s.rel s.wd s.uok ((al_bd.mp h).mono (fun d b1 h1 v H1 d1 w1 f1 => hk v d H1 b1 d1 (s.fr f1 w1) (h1.mono (fun _ _ z => z.ev (s.uok.ev f1)) (fun _ _ _ z => z))) (fun _ _ _ h => exS.exP s h))
theorem SA.sstep {t : TA} {m : Tr (List D)} {k : (List D) → Tr (Fl W L)} {Ds : Ends} {env : W → Env} {envL : L → Env} {Q : List V → Hp → Prop} (he : SA g E ε t m) (s : Stt g Mt U0 H0 U σ H b ε) (h : Al (flP g Mt U0 H0 U H Ds env envL) (exS g Mt U0 H0 E) (bd m k) b)
    (hk : ∀ v d H1 b1, DenL g U H1 v d → Stt g Mt U0 H0 U σ H1 b1 ε → Al (flP g Mt U0 H0 U H1 Ds env envL) (exS g Mt U0 H0 E) (k d) b1 → Q v H1) : t σ H Q :=
  he U σ H b Q s.rel s.wd s.uok ((al_bd.mp h).mono (fun d b1 h1 v H1 d1 w1 f1 => hk v d H1 b1 d1 (s.fr f1 w1) (h1.mono (fun _ _ z => z.ev (s.uok.ev f1)) (fun _ _ _ z => z))) (fun _ _ _ h => exS.exP s h))
theorem ST.sstep {t : TT} {m : Tr Bool} {k : Bool → Tr (Fl W L)} {Ds : Ends} {env : W → Env} {envL : L → Env} {Q : Bool → Hp → Prop} (he : ST g E ε t m) (s : Stt g Mt U0 H0 U σ H b ε) (h : Al (flP g Mt U0 H0 U H Ds env envL) (exS g Mt U0 H0 E) (bd m k) b)
    (hk : ∀ d H1 b1,  Stt g Mt U0 H0 U σ H1 b1 ε → Al (flP g Mt U0 H0 U H1 Ds env envL) (exS g Mt U0 H0 E) (k d) b1 → Q d H1) : t σ H Q :=
  he U σ H b Q s.rel s.wd s.uok ((al_bd.mp h).mono (fun d b1 h1 H1 w1 f1 => hk d H1 b1 (s.fr f1 w1) (h1.mono (fun _ _ z => z.ev (s.uok.ev f1)) (fun _ _ _ z => z))) (fun _ _ _ h => exS.exP s h))
theorem ownAt_le (l : Le ε' ε) {i : Nat} {a : Addr} (h : OwnAt σ ε' i a) : OwnAt σ ε i a := by
  obtain ⟨h1, h2⟩ := h
  refine ⟨h1, ?_⟩
  rcases h2 with ⟨ds, h2⟩ | ⟨c, fs, h2⟩
  · rcases l.get h2 with ⟨z, _⟩ | z
    · cases z
    · exact .inl ⟨ds, z⟩
  · rcases l.get h2 with ⟨z, _⟩ | z
    · cases z
    · exact .inr ⟨c, fs, z⟩
theorem Stt.le (s : Stt g Mt U0 H0 U σ H b ε) (l : Le ε' ε) : Stt g Mt U0 H0 U σ H b ε' :=
  ⟨⟨s.rel.len.trans l.len.symm, fun i x e => by
    rcases l.get e with ⟨rfl, z, h⟩ | h
    · obtain ⟨o, h1, _⟩ := s.rel.at_ i z h
      exact ⟨o, h1, trivial⟩
    · exact s.rel.at_ i x h, fun i j a n h1 h2 => s.rel.apart i j a n (ownAt_le l h1) (ownAt_le l h2)⟩, s.wd, s.uok, s.sub, fun i a o => s.own i a (ownAt_le l o), s.ext, fun i ds a e1 e2 => (by
    rcases l.get e1 with ⟨z, _⟩ | z
    · cases z
    · exact s.nu0 i ds a z e2), fun i c fs a j0 e1 e2 => by
    rcases l.get e1 with ⟨z, _⟩ | z
    · cases z
    · exact s.oim i c fs a j0 z e2⟩
variable {env : W → Env} {envL : L → Env} {env' : W' → Env} {u ta tb : TS} {te : TE} {me : Tr D}
theorem ss_nx {w : W} (l : Le (env w) ε) : SS g E ε tNext env envL (.ok (.nx w)) := fun Mt U0 H0 U D σ H b s q => q U σ H Ev.refl (s.le l)
theorem ss_asg {i : Nat} {k : D → Tr (Fl W L)} (he : SE g E ε te me) (hk : ∀ d, SS g E (ε.set i (.fz d)) u env envL (k d)) : SS g E ε (tSeq (tAsg te (gName i)) u) env envL (bd me k) := fun Mt U0 H0 U D σ H b s q =>
  he.sstep s q fun v d H1 b1 d1 s1 q1 => hk d Mt U0 H0 U D _ H1 b1 (s1.set i d1) q1
theorem ss_ret (he : SE g E ε te me) : SS g E ε (tSeq (tRet te) u) env envL (bd me fun d => .ok (.rt d)) := fun Mt U0 H0 U D σ H b s q =>
  he.sstep s q fun v d H1 b1 d1 s1 q1 => q1 v H1 (d1.sub fun a _ z => s1.sub a z) s1.wd s1.ext
theorem ss_drop {k : Tr (Fl W L)} (he : SE g E ε te me) (hk : SS g E ε u env envL k) : SS g E ε (tSeq (tDrop te) u) env envL (bd me fun _ => k) := fun Mt U0 H0 U D σ H b s q =>
  he.sstep s q fun v d H1 b1 d1 s1 q1 => hk Mt U0 H0 U D σ H1 b1 s1 q1
def ul0 {α : Type} (k : Tr α) (ds : List D) : Tr α := match ds with
  | [] => k
  | _ => .bad
def ul2 {α : Type} (k : D → D → Tr α) (ds : List D) : Tr α := match ds with
  | [x, y] => k x y
  | _ => .bad
def ul3 {α : Type} (k : D → D → D → Tr α) (ds : List D) : Tr α := match ds with
  | [x, y, z] => k x y z
  | _ => .bad
def ul4 {α : Type} (k : D → D → D → D → Tr α) (ds : List D) : Tr α := match ds with
  | [x, y, z, w] => k x y z w
  | _ => .bad
section
variable {α : Type} {P : α → Nat → Prop} {X : Str → Fs → Nat → Prop} {ds : List D}
theorem al_ul1 {k : D → Tr α} (h : Al P X (ul1 k ds) b) : ∃ x, ds = [x] ∧ Al P X (k x) b := by
  unfold ul1 at h; split at h
  · exact ⟨_, rfl, h⟩
  · exact h.elim
theorem al_ul2 {k : D → D → Tr α} (h : Al P X (ul2 k ds) b) : ∃ x y, ds = [x, y] ∧ Al P X (k x y) b := by
  unfold ul2 at h; split at h
  · exact ⟨_, _, rfl, h⟩
  · exact h.elim
theorem al_ul3 {k : D → D → D → Tr α} (h : Al P X (ul3 k ds) b) : ∃ x y z, ds = [x, y, z] ∧ Al P X (k x y z) b := by
  unfold ul3 at h; split at h
  · exact ⟨_, _, _, rfl, h⟩
  · exact h.elim
end
theorem denL_nil {vs : List V} (h : DenL g U H vs []) : vs = [] := by cases h; rfl
theorem denL_cons {vs : List V} {d : D} {ds : List D} (h : DenL g U H vs (d :: ds)) : ∃ v r, vs = v :: r ∧ Den g U H v d ∧ DenL g U H r ds := by
  cases h with
  | cons a r => exact ⟨_, _, rfl, a, r⟩
theorem denL_1 {vs : List V} {x : D} (h : DenL g U H vs [x]) : ∃ v, vs = [v] ∧ Den g U H v x := by
  obtain ⟨v, r, rfl, h1, h2⟩ := denL_cons h
  cases denL_nil h2
  exact ⟨v, rfl, h1⟩
theorem denL_2 {vs : List V} {x y : D} (h : DenL g U H vs [x, y]) : ∃ v w, vs = [v, w] ∧ Den g U H v x ∧ Den g U H w y := by
  obtain ⟨v, r, rfl, h1, h2⟩ := denL_cons h
  obtain ⟨w, rfl, h3⟩ := denL_1 h2
  exact ⟨v, w, rfl, h1, h3⟩
def bdF (m : Tr (Fl W' L)) (k : W' → Tr (Fl W L)) : Tr (Fl W L) := bd m fun f => match f with
  | .nx w => k w
  | .rt d => .ok (.rt d)
  | .bk l => .ok (.bk l)
  | .ct l => .ok (.ct l)
theorem SS.seq {m : Tr (Fl W' L)} {k : W' → Tr (Fl W L)} (h1 : SS g E ε ta env' envL m) (h2 : ∀ w, SS g E (env' w) u env envL (k w)) : SS g E ε (tSeq ta u) env envL (bdF m k) := fun Mt U0 H0 U D σ H b s q => by
  refine h1 Mt U0 H0 U { D with nx := u D } σ H b s ((al_bd.mp q).mono (fun f b1 h => ?_) (fun _ _ _ h => h))
  cases f with
  | nx w => exact fun U1 σ1 H1 e1 s1 => h2 w Mt U0 H0 U1 D σ1 H1 b1 s1 (Al.mono (fun _ _ z => z.ev e1) (fun _ _ _ z => z) h)
  | rt d => exact h
  | bk l => exact h
  | ct l => exact h
theorem ss_if0 {c : TT} {mc : Tr Bool} {m n : Tr (Fl W' L)} (hc : ST g E ε c mc) (ha : SS g E ε ta env' envL m) (hb : SS g E ε tb env' envL n) : SS g E ε (tIfS c ta tb) env' envL (bd mc fun k => if k = true then m else n) := fun Mt U0 H0 U D σ H b s q =>
  hc.sstep s q fun k H1 b1 s1 q1 => by
    cases k with
    | true => exact ha Mt U0 H0 U D σ H1 b1 s1 q1
    | false => exact hb Mt U0 H0 U D σ H1 b1 s1 q1
theorem ss_if {c : TT} {mc : Tr Bool} {m n : Tr (Fl W' L)} {k : W' → Tr (Fl W L)} (env' : W' → Env) (hc : ST g E ε c mc) (ha : SS g E ε ta env' envL m) (hb : SS g E ε tb env' envL n) (hk : ∀ w, SS g E (env' w) u env envL (k w)) :
    SS g E ε (tSeq (tIfS c ta tb) u) env envL (bdF (bd mc fun k => if k = true then m else n) k) := (ss_if0 hc ha hb).seq hk
theorem sx_name {i : Nat} {d : D} {m : Tr (Fl W L)} (h : SS g E (ε.set i (.fz d)) tb env envL m) : SX g E ε d (gName i) tb env envL m := fun Mt U0 H0 U D σ H b v s dn q => h Mt U0 H0 U D _ H b (s.set i dn) q
def un2 {α : Type} (d : D) (k : D → D → Tr α) : Tr α := match d with
  | .tup [x, y] => k x y
  | _ => .bad
def un3 {α : Type} (d : D) (k : D → D → D → Tr α) : Tr α := match d with
  | .tup [x, y, z] => k x y z
  | _ => .bad
theorem den_tup {v : V} {ds : List D} (h : Den g U H v (.tup ds)) : ∃ a vs, v = .ref a ∧ SqT g.K H a vs ∧ vs.length ≤ sizeLine ∧ DenL g U H vs ds := by
  cases h with
  | tup h n l k => exact ⟨_, _, rfl, SqT.of h, l, k⟩
  | tupW h l k _ => exact ⟨_, _, rfl, h H, l, k⟩
theorem al_un2 {α : Type} {P : α → Nat → Prop} {X : Str → Fs → Nat → Prop} {d : D} {k : D → D → Tr α} (h : Al P X (un2 d k) b) : ∃ x y, d = .tup [x, y] ∧ Al P X (k x y) b := by
  unfold un2 at h
  split at h
  · exact ⟨_, _, rfl, h⟩
  · exact h.elim
theorem sx_tup2 {i j : Nat} {d : D} {m : D → D → Tr (Fl W L)} (h : ∀ x y, SS g E ((ε.set i (.fz x)).set j (.fz y)) tb env envL (m x y)) : SX g E ε d (gTup g.K 2 (gCons (gName i) (gCons (gName j) gNil))) tb env envL (un2 d m) := fun Mt U0 H0 U D σ H b v s dn q => by
  obtain ⟨x, y, rfl, q1⟩ := al_un2 q
  obtain ⟨a, vs, rfl, sq, _, k⟩ := den_tup dn
  obtain ⟨v1, v2, rfl, e1, e2⟩ := denL_2 k
  exact ⟨a, [v1, v2], rfl, sq, rfl, v1, [v2], rfl, v2, [], rfl, rfl, h x y Mt U0 H0 U D _ H b ((s.set i e1).set j e2) q1⟩
theorem ss_unp {gt : TG} {k : D → Tr (Fl W L)} (he : SE g E ε te me) (hk : ∀ d, SX g E ε d gt u env envL (k d)) : SS g E ε (tSeq (tAsg te gt) u) env envL (bd me k) := fun Mt U0 H0 U D σ H b s q =>
  he.sstep s q fun v d H1 b1 d1 s1 q1 => hk d Mt U0 H0 U D σ H1 b1 v s1 d1 q1
def ItD (g : Gw) (U : Addr → Prop) (H : Hp) (J : It) (ds : List D) : Prop := ∀ i U1 H1 b, Ev U H U1 H1 → Wd g H1 b → UOk g U1 H1 →
  (∀ d, ds[i]? = some d → J.go i H1 ∧ ∀ x H2, J.yld i H1 x H2 → Den g U1 H2 x d ∧ L2.Same H1 H2) ∧ (ds.length = i → J.stop i H1)
def okI (g : Gw) (U : Addr → Prop) (H : Hp) (R : It → Hp → Prop) : List D → Nat → Prop := fun ds b => ∀ J H', ds.length ≤ sizeLine → ItD g U H' J ds → Wd g H' b → Fr H H' g.p → R J H'
def SI (g : Gw) (E : XK) (ε : Env) (wi : TI) (m : Tr (List D)) : Prop := ∀ U σ H b R, Rel g U H σ ε → Wd g H b → UOk g U H → Al (okI g U H R) (exP g U E H) m b → wi σ H R
def forF (f : D → W → Tr (Fl W W)) : List D → W → Tr (Fl W L)
  | [], w => .ok (.nx w)
  | x :: xs, w => bd (f x w) fun r => match r with
    | .nx w' => forF f xs w'
    | .ct w' => forF f xs w'
    | .bk w' => .ok (.nx w')
    | .rt d => .ok (.rt d)
theorem forF_cons (f : D → W → Tr (Fl W W)) (x : D) (xs : List D) (w : W) : forF (L := L) f (x :: xs) w = bd (f x w) fun r => match r with
    | .nx w' => forF f xs w'
    | .ct w' => forF f xs w'
    | .bk w' => .ok (.nx w')
    | .rt d => .ok (.rt d) := rfl
theorem ss_for0 {wi : TI} {gt : TG} {mi : Tr (List D)} {f : D → W → Tr (Fl W W)} {w0 : W} {tb : TS} (hi : SI g E ε wi mi) (l : Le (env w0) ε) (hb : ∀ d w, SX g E (env w) d gt tb env env (f d w)) : SS g E ε (tFor wi gt tb) env envL (bd mi fun ds => forF f ds w0) := fun Mt U0 H0 U D σ H b s q => by
  refine hi U σ H b _ s.rel s.wd s.uok ((al_bd.mp q).mono (fun ds b1 h1 J H1 hsz it w1 f1 => ?_) (fun _ _ _ h => exS.exP s h))
  refine ⟨fun i m σ' H' => ∃ b' w U', m = ds.length - i ∧ i ≤ ds.length ∧ Stt g Mt U0 H0 U' σ' H' b' (env w) ∧ Ev U H1 U' H' ∧ Al (flP g Mt U0 H0 U' H' D env envL) (exS g Mt U0 H0 E) (forF f (ds.drop i) w) b',
    ⟨ds.length, b1, w0, U, by simp, Nat.zero_le _, (s.fr f1 w1).le l, Ev.refl, Al.mono (fun _ _ z => z.ev (s.uok.ev f1)) (fun _ _ _ z => z) h1⟩, ?_⟩
  rintro i m σ' H' ⟨b', w, U', rfl, hle, s', e', q'⟩
  obtain ⟨it1, it2⟩ := it i U' H' b' e' s'.wd s'.uok
  by_cases hlt : i < ds.length
  · have ei : ds[i]? = some ds[i] := List.getElem?_eq_getElem hlt
    obtain ⟨go, y⟩ := it1 _ ei
    rw [List.drop_eq_getElem_cons hlt, forF_cons] at q'
    refine .inr ⟨go, fun σ2 H2 => ∃ b' w U2, Stt g Mt U0 H0 U2 σ2 H2 b' (env w) ∧ Ev U H1 U2 H2 ∧ Al (flP g Mt U0 H0 U2 H2 D env envL) (exS g Mt U0 H0 E) (forF f (ds.drop (i + 1)) w) b', ?_, ?_⟩
    · rintro σ2 H2 ⟨b2, w2, U2, s2, e2, q2⟩
      exact ⟨ds.length - (i + 1), by omega, b2, w2, U2, rfl, hlt, s2, e2, q2⟩
    · intro x H2 hy
      obtain ⟨dn, sm⟩ := y x H2 hy
      have s2 := s'.fr (fr_same sm) (s'.wd.same sm)
      have ev2 : Ev U' H' U' H2 := s'.uok.ev (fr_same sm)
      refine hb _ w Mt U0 H0 U' _ σ' H2 b' x s2 dn ((al_bd.mp q').mono (fun r b2 h2 => ?_) (fun _ _ _ z => z))
      cases r with
      | nx w' => exact fun U3 σ3 H3 e3 s3 => ⟨b2, w', U3, s3, e'.trans (ev2.trans e3), Al.mono (fun _ _ z => z.ev (ev2.trans e3)) (fun _ _ _ z => z) h2⟩
      | ct w' => exact fun U3 σ3 H3 e3 s3 => ⟨b2, w', U3, s3, e'.trans (ev2.trans e3), Al.mono (fun _ _ z => z.ev (ev2.trans e3)) (fun _ _ _ z => z) h2⟩
      | bk w' => exact fun U3 σ3 H3 e3 s3 => h2 U3 σ3 H3 (ev2.trans e3) s3
      | rt d => exact h2
  · have e : i = ds.length := by omega
    subst e
    rw [List.drop_length] at q'
    exact .inl ⟨it2 (rfl), q' U' σ' H' Ev.refl s'⟩
end
end Gp
end
section
namespace Gp
open PySem PySem.Spec PyProof.Rows L2 Gh
section
variable {g : Gw} {Mt U0 U U' : Addr → Prop} {H0 H H' H1 H2 : Hp} {b b1 : Nat} {σ : L2.St} {ε ε' : Env} {E : XK} {W L W' : Type}
variable {env : W → Env} {envL : L → Env} {env' : W' → Env} {u ta tb : TS} {te : TE} {me : Tr D}
theorem ss_for {wi : TI} {gt : TG} {mi : Tr (List D)} {f : D → W' → Tr (Fl W' W')} {w0 : W'} {tb : TS} {k : W' → Tr (Fl W L)} (env' : W' → Env) (hi : SI g E ε wi mi) (l : Le (env' w0) ε) (hb : ∀ d w, SX g E (env' w) d gt tb env' env' (f d w)) (hk : ∀ w, SS g E (env' w) u env envL (k w)) :
    SS g E ε (tSeq (tFor wi gt tb) u) env envL (bdF (bd mi fun ds => forF f ds w0) k) := (ss_for0 hi l hb).seq hk
def itD : D → Tr (List D)
  | .lst ds => .ok ds
  | .tup ds => .ok ds
  | .str x => .ok (x.cps.toList.map fun c => .str ⟨#[c]⟩)
  | _ => .bad
theorem den_lst {v : V} {ds : List D} (h : Den g U H v (.lst ds)) : ∃ a vs, v = .ref a ∧ H a = some (.lst vs) ∧ ¬ U a ∧ vs.length ≤ sizeLine ∧ DenL g U H vs ds := by
  cases h with
  | lst h n l k => exact ⟨_, _, rfl, h, n, l, k⟩
theorem den_str {v : V} {x : Str} (h : Den g U H v (.str x)) : v = .str x ∧ x.length ≤ sizeLine := by
  cases h with
  | str x h => exact ⟨rfl, h⟩
theorem den_int {v : V} {i : Int} (h : Den g U H v (.int i)) : v = .int i := by cases h; rfl
theorem den1 {c : Nat} : Den g U H (.str ⟨#[c]⟩) (.str ⟨#[c]⟩) := .str _ (by show 1 ≤ sizeLine; decide)
theorem itd_lst {a : Addr} {vs : List V} {ds : List D} (h : H a = some (.lst vs)) (n : ¬ U a) (k : DenL g U H vs ds) : ItD g U H (Itl g.K a) ds := fun i U1 H1 b e w u => by
  have h1 : H1 a = some (.lst vs) := e.keep _ _ h n (fun _ z => by cases z)
  refine ⟨fun d hd => ?_, fun hl => ⟨vs, SqL.of h1, by rw [k.length]; exact Nat.le_of_eq hl⟩⟩
  obtain ⟨v, hv, dn⟩ := k.getD hd
  refine ⟨⟨vs, v, SqL.of h1, hv⟩, ?_⟩
  rintro x H2 ⟨rfl, hx⟩
  have e2 := hx vs (SqL.of h1)
  rw [hv] at e2
  cases e2
  exact ⟨dn.ev e, fun _ _ z => z⟩
theorem itd_tup {a : Addr} {vs : List V} {ds : List D} (h : ∀ U1 H1, Ev U H U1 H1 → SqT g.K H1 a vs) (k : DenL g U H vs ds) : ItD g U H (Itt g.K a) ds := fun i U1 H1 b e w u => by
  have h1 := h U1 H1 e
  refine ⟨fun d hd => ?_, fun hl => ⟨vs, h1, by rw [k.length]; exact Nat.le_of_eq hl⟩⟩
  obtain ⟨v, hv, dn⟩ := k.getD hd
  refine ⟨⟨vs, v, h1, hv⟩, ?_⟩
  rintro x H2 ⟨rfl, hx⟩
  have e2 := hx vs h1
  rw [hv] at e2
  cases e2
  exact ⟨dn.ev e, fun _ _ z => z⟩
theorem den_tupE {v : V} {ds : List D} (h : Den g U H v (.tup ds)) : ∃ a vs, v = .ref a ∧ (∀ U1 H1, Ev U H U1 H1 → SqT g.K H1 a vs) ∧ vs.length ≤ sizeLine ∧ DenL g U H vs ds := by
  cases h with
  | tup h n l k => exact ⟨_, _, rfl, fun U1 H1 e => SqT.of (e.keep _ _ h n (fun _ z => by cases z)), l, k⟩
  | tupW h l k _ => exact ⟨_, _, rfl, fun U1 H1 e => h H1, l, k⟩
theorem itd_str (x : Str) : ItD g U H (Its x) (x.cps.toList.map fun c => .str ⟨#[c]⟩) := fun i U1 H1 b e w u => by
  refine ⟨fun d hd => ?_, fun hl => by rw [List.length_map, Array.length_toList] at hl; exact Nat.le_of_eq hl⟩
  rw [List.getElem?_map] at hd
  cases q : x.cps.toList[i]? with
  | none => rw [q] at hd; cases hd
  | some c =>
    rw [q] at hd
    cases hd
    have hi : i < x.cps.size := by
      have := (List.getElem?_eq_some_iff.mp q).1
      rw [Array.length_toList] at this
      exact this
    refine ⟨hi, ?_⟩
    rintro y H2 ⟨rfl, c', hc, rfl⟩
    rw [Array.getElem?_toList] at q
    rw [q] at hc
    cases hc
    exact ⟨den1, fun _ _ z => z⟩
def iSeq (K : PySem.W.Frag) (te : TE) : TI := fun σ H R => te σ H fun x H1 => (∃ a, x = .ref a ∧ (∃ xs, SqL K H1 a xs) ∧ R (Itl K a) H1) ∨ (∃ a, x = .ref a ∧ (∃ xs, SqT K H1 a xs) ∧ R (Itt K a) H1) ∨ ∃ z, x = .str z ∧ R (Its z) H1
theorem pi_seq {X : Cx} {K : PySem.W.Frag} {tg e : Expr} {te : TE} (hK : X.K = K) (he : PE X e te) : PI X tg e (iSeq K te) := by
  subst hK
  refine ⟨fun pins s σ H R I h => ?_⟩
  refine thn (he.run pins s σ H _ I h) fun v s1 ⟨x, H1, I1, r1, q1⟩ => ?_
  rcases q1 with ⟨a, e, ⟨xs, hq⟩, q⟩ | ⟨a, e, ⟨xs, hq⟩, q⟩ | ⟨z, ex, q⟩
  · subst e
    cases r1
    obtain ⟨its, rv, p, hz⟩ := I1.list hq
    refine wpAny_pyIter_list p.isList ?_
    refine ⟨s1.heap.objs.size, [s1.heap.objs.size], _, _, H1, rfl, I1.kept (t' := s1.toks) fun b o e => Heap.get?_push_of_some _ e, turn_list a _, ⟨_, Heap.get?_push_size _ rfl, rfl, rfl⟩, fun b hb => ?_, q⟩
    have e : b = s1.heap.objs.size := by simpa using hb
    subst e
    exact I1.fpOk (Nat.le_refl _) (I1.hok.fresh (Nat.le_refl _))
  · subst e
    cases r1
    obtain ⟨its, rv, p, hz⟩ := I1.tuple hq
    refine wpAny_pyIter_tuple (show s1.heap.IsTuple a its.toArray from p) ?_
    refine ⟨s1.heap.objs.size, [s1.heap.objs.size], _, _, H1, rfl, I1.kept (t' := s1.toks) fun b o e => Heap.get?_push_of_some _ e, turn_tuple a _, ⟨_, Heap.get?_push_size _ rfl, rfl, rfl⟩, fun b hb => ?_, q⟩
    have e : b = s1.heap.objs.size := by simpa using hb
    subst e
    exact I1.fpOk (Nat.le_refl _) (I1.hok.fresh (Nat.le_refl _))
  · subst ex
    obtain ⟨t, rfl⟩ := r1
    cases ha : z.cps.all (· < 128)
    · exact wpAny_pyIter_wide ha (pi_one (tk := s1.toks) I1 _ (turn_str _ z t "str_iterator" (.inr rfl)) ⟨_, Heap.get?_push_size _ rfl, rfl, rfl⟩ q)
    · exact wpAny_pyIter_ascii ha (pi_one (tk := s1.toks) I1 _ (turn_str _ z t "str_ascii_iterator" (.inl rfl)) ⟨_, Heap.get?_push_size _ rfl, rfl, rfl⟩ q)
theorem si_seq (he : SE g E ε te me) : SI g E ε (iSeq g.K te) (bd me itD) := fun U σ H b R rl wd u q =>
  he.step rl wd u q fun v d H1 b1 d1 w1 f1 R1 u1 q1 => by
    cases d with
    | lst ds =>
      obtain ⟨a, vs, rfl, h, n, l, k⟩ := den_lst d1
      exact .inl ⟨a, rfl, ⟨vs, SqL.of h⟩, q1 _ H1 (by rw [← k.length]; exact l) (itd_lst h n k) w1 f1⟩
    | tup ds =>
      obtain ⟨a, vs, rfl, h, l, k⟩ := den_tupE d1
      exact .inr (.inl ⟨a, rfl, ⟨vs, h U H1 Ev.refl⟩, q1 _ H1 (by rw [← k.length]; exact l) (itd_tup h k) w1 f1⟩)
    | str x =>
      obtain ⟨rfl, l⟩ := den_str d1
      exact .inr (.inr ⟨x, rfl, q1 _ H1 (by rw [List.length_map, Array.length_toList]; exact l) (itd_str x) w1 f1⟩)
    | _ => exact q1.elim
def rgD (lo : Int) (n : Nat) : List D := (List.range n).map fun i => .int (lo + (i : Nat))
theorem itd_rg (lo : Int) (n : Nat) : ItD g U H (Itr lo n) (rgD lo n) := fun i U1 H1 b e w u => by
  refine ⟨fun d hd => ?_, fun hl => by unfold rgD at hl; rw [List.length_map, List.length_range] at hl; exact Nat.le_of_eq hl⟩
  unfold rgD at hd
  rw [List.getElem?_map] at hd
  have hi : i < n := by
    cases q : (List.range n)[i]? with
    | none => rw [q] at hd; cases hd
    | some c =>
      have := (List.getElem?_eq_some_iff.mp q).1
      rwa [List.length_range] at this
  rw [List.getElem?_range hi] at hd
  cases hd
  refine ⟨hi, ?_⟩
  rintro y H2 ⟨rfl, rfl⟩
  exact ⟨.int _, fun _ _ z => z⟩
def rg1 (x : D) : Tr (List D) := match x with
  | .int j => if -(2 ^ 62) ≤ j ∧ j ≤ 16777216 then .ok (rgD 0 j.toNat) else .bad
  | _ => .bad
theorem si_rg1 {t : TA} {m : Tr (List D)} (ha : SA g E ε t m) : SI g E ε (iRng1 t) (bd m (ul1 rg1)) := fun U σ H b R rl wd u q =>
  ha.step rl wd u q fun v d H1 b1 d1 w1 f1 R1 u1 q1 => by
    obtain ⟨x, rfl, q2⟩ := al_ul1 q1
    obtain ⟨v, rfl, e1⟩ := denL_1 d1
    cases x with
    | int j =>
      cases den_int e1
      unfold rg1 at q2
      dsimp only at q2
      split at q2
      · rename_i hj
        exact ⟨j, rfl, hj.1, by omega, q2 _ H1 (by unfold rgD; rw [List.length_map, List.length_range, sizeLine_eq]; omega) (itd_rg 0 _) w1 f1⟩
      · exact q2.elim
    | _ => exact q2.elim
def lcF (f : D → Tr (Option D)) : List D → Tr (List D)
  | [] => .ok []
  | x :: xs => bd (f x) fun o => bd (lcF f xs) fun r => .ok (match o with | some y => y :: r | none => r)
theorem lcF_nil (f : D → Tr (Option D)) : lcF f [] = .ok [] := rfl
theorem lcF_cons (f : D → Tr (Option D)) (x : D) (xs : List D) : lcF f (x :: xs) = bd (f x) fun o => bd (lcF f xs) fun r => .ok (match o with | some y => y :: r | none => r) := rfl
def okO (g : Gw) (U : Addr → Prop) (H : Hp) (Q : Option V → Hp → Prop) : Option D → Nat → Prop
  | some y, b => ∀ w H', Den g U H' w y → Wd g H' b → Fr H H' g.p → Q (some w) H'
  | none, b => ∀ H', Wd g H' b → Fr H H' g.p → Q none H'
def SC (g : Gw) (ε : Env) (d : D) (gt : TG) (tt : TT) (te : TE) (vs : List Nat) (m : Tr (Option D)) : Prop := ∀ U σ H b v (Q : Option V → Hp → Prop), Rel g U H σ ε → Wd g H b → UOk g U H → Den g U H v d → Al (okO g U H Q) (fun _ _ _ => False) m b →
  gt v (wipe σ vs) H fun σ2 H2 => wipe σ2 vs = wipe σ vs ∧ tt σ2 H2 fun k H3 => if k = true then te σ2 H3 (fun y H4 => Q (some y) H4) else Q none H3
theorem al_noX {α : Type} {P : α → Nat → Prop} {X : Str → Fs → Nat → Prop} {m : Tr α} (h : Al P X (nox m) b) : Al P (fun _ _ _ => False) m b := al_nox h
theorem se_lc {wi : TI} {gt : TG} {tt : TT} {vs : List Nat} {mi : Tr (List D)} {f : D → Tr (Option D)} (hi : SI g E ε wi mi) (hf : ∀ d, SC g ε d gt tt te vs (f d)) : SE g E ε (tLc wi gt tt te vs) (bd mi fun ds => bd (lcF (fun d => nox (f d)) ds) fun r => .ok (.lst r)) := fun U σ H b Q rl wd u q => by
  refine hi U σ H b _ rl wd u ((al_bd.mp q).mono (fun ds b1 h1 J H1 hsz it w1 f1 => ?_) (fun _ _ _ h => h))
  intro A nA
  have u1 := u.fr f1 w1
  have nUA : ¬ U A := u1.new nA
  have hp : A ≠ g.p := fun z => nUA (z ▸ u.p)
  have hc : A ≠ g.c := fun z => nUA (z ▸ u.c)
  have rl1 := (rl.fr u f1).grow nA
  generalize hV : (fun a => U a ∨ a = A) = V at rl1
  have VA : V A := by rw [← hV]; exact .inr rfl
  have VU : ∀ a, U a → V a := fun a z => by rw [← hV]; exact .inl z
  have VO : ∀ a o, H1 a = some o → ¬ U a → ¬ V a := fun a o e n => by
    rw [← hV]
    rintro (z | z)
    · exact n z
    · exact ne_of_none e nA z
  have uv : ∀ {H' : Hp} {b : Nat} {o : List L2.V}, Fr H1 H' g.p → Wd g H' b → H' A = some (.lst o) → UOk g V H' := fun f w h => ⟨VU _ u.p, VU _ u.c, fun a ha => by
    rw [← hV] at ha
    rcases ha with ha | rfl
    · exact (u1.fr f w).al a ha
    · exact ⟨_, h, (fun _ z => by cases z), (fun _ z => by cases z)⟩⟩
  refine ⟨fun i m H' => ∃ b' accV accD, m = ds.length - i ∧ i ≤ ds.length ∧ accV.length ≤ i ∧ H' A = some (.lst accV) ∧ DenL g V H' accV accD ∧ Wd g H' b' ∧ Fr H1 H' g.p ∧ Al (fun r b => okP g U H Q (.lst (accD ++ r)) b) (exP g U E H) (lcF (fun d => nox (f d)) (ds.drop i)) b', ?_, ?_⟩
  · refine ⟨ds.length, b1, [], [], by simp, Nat.zero_le _, Nat.zero_le _, upd_same, .nil, w1.same (same_new nA), fr_same (same_new nA), ?_⟩
    exact (al_bd.mp h1).mono (fun r b h => h) (fun _ _ _ h => h)
  · rintro i m H' ⟨b', accV, accD, rfl, hle, hla, hA, dA, w', f', q'⟩
    have u' := uv f' w' hA
    have ev' : Ev U H1 V H' := ⟨fun a o e n t => f' a o e (fun z => n (z ▸ u.p)) t, fun a o e n _ => VO a o e n⟩
    obtain ⟨it1, it2⟩ := it i V H' b' ev' w' u'
    by_cases hlt : i < ds.length
    · have ei : ds[i]? = some ds[i] := List.getElem?_eq_getElem hlt
      obtain ⟨go, y⟩ := it1 _ ei
      rw [List.drop_eq_getElem_cons hlt, lcF_cons] at q'
      refine .inr ⟨go, fun H' => ∃ b' accV accD, accV.length ≤ i + 1 ∧ H' A = some (.lst accV) ∧ DenL g V H' accV accD ∧ Wd g H' b' ∧ Fr H1 H' g.p ∧ Al (fun r b => okP g U H Q (.lst (accD ++ r)) b) (exP g U E H) (lcF (fun d => nox (f d)) (ds.drop (i + 1))) b', ?_, ?_⟩
      · rintro H2 ⟨b2, av, ad, h1, h2⟩
        exact ⟨ds.length - (i + 1), by omega, b2, av, ad, rfl, hlt, h1, h2⟩
      · intro x H2 hy
        obtain ⟨dn, sm⟩ := y x H2 hy
        have w2 := w'.same sm
        have f2 : Fr H1 H2 g.p := f'.trans (fr_same sm)
        have hA2 := sm _ _ hA
        refine hf ds[i] V σ H2 b' x (fun o H4 => match o with
          | some y => ∃ acc, H4 A = some (.lst acc) ∧ acc.length < sizeLine ∧ ∃ b' accV accD, accV.length ≤ i + 1 ∧ (upd H4 A (.lst (acc ++ [y]))) A = some (.lst accV) ∧ DenL g V (upd H4 A (.lst (acc ++ [y]))) accV accD ∧ Wd g (upd H4 A (.lst (acc ++ [y]))) b' ∧ Fr H1 (upd H4 A (.lst (acc ++ [y]))) g.p ∧ Al (fun r b => okP g U H Q (.lst (accD ++ r)) b) (exP g U E H) (lcF (fun d => nox (f d)) (ds.drop (i + 1))) b'
          | none => ∃ b' accV accD, accV.length ≤ i + 1 ∧ H4 A = some (.lst accV) ∧ DenL g V H4 accV accD ∧ Wd g H4 b' ∧ Fr H1 H4 g.p ∧ Al (fun r b => okP g U H Q (.lst (accD ++ r)) b) (exP g U E H) (lcF (fun d => nox (f d)) (ds.drop (i + 1))) b')
          (rl1.frp (VU _ u.p) f2) w2 (uv f2 w2 hA2) dn ((al_noX (al_bd.mp q')).mono (fun o b2 h2 => ?_) (fun _ _ _ z => z))
        have h3 := al_bd.mp h2
        cases o with
        | some y =>
          intro w H4 dw w4 f4
          have hA4 := f4 _ _ hA2 hp (fun _ z => by cases z)
          have e4 : ExtU V H4 (upd H4 A (.lst (accV ++ [w]))) := fun a o e n _ => by
            rw [upd_ne (fun z => n (by rw [z]; exact VA))]
            exact e
          have k4 : Keep H4 (upd H4 A (.lst (accV ++ [w]))) A := fun a o e n => by rw [upd_ne n]; exact e
          refine ⟨accV, hA4, Nat.lt_of_le_of_lt hla (Nat.lt_of_lt_of_le hlt hsz), b2, accV ++ [w], accD ++ [y], ?_, upd_same, ?_, ?_, ?_, ?_⟩
          · rw [List.length_append]
            exact Nat.add_le_add_right hla 1
          · exact DenL.append ((dA.ext (extU_of (VU _ u.p) ((fr_same sm).trans f4))).ext e4) (.cons (dw.ext e4) .nil)
          · exact ⟨w4.pen.keep k4 hp hc, tabs_keepL k4 hA4 w4.tabs⟩
          · intro a o e n t
            rw [upd_ne (ne_of_none e nA)]
            exact f4 _ _ (f2 a o e n t) n t
          · exact h3.mono (fun r b h => by
              have : okP g U H Q (.lst (accD ++ (y :: r))) b := h
              rw [List.append_cons] at this
              exact this) (fun _ _ _ z => z)
        | none =>
          intro H4 w4 f4
          exact ⟨b2, accV, accD, Nat.le_succ_of_le hla, f4 _ _ hA2 hp (fun _ z => by cases z), dA.ext (extU_of (VU _ u.p) ((fr_same sm).trans f4)), w4, f2.trans f4, h3.mono (fun r b h => h) (fun _ _ _ z => z)⟩
    · have e : i = ds.length := by omega
      subst e
      rw [List.drop_length, lcF_nil] at q'
      refine .inl ⟨it2 (rfl), ?_⟩
      have q2 : okP g U H Q (.lst (accD ++ [])) b' := q'
      rw [List.append_nil] at q2
      exact q2 _ H' (.lst hA nUA (Nat.le_trans hla hsz) (dA.sub fun a _ z => VU a z)) w' (f1.trans f')
end
end Gp
end
section
namespace Gp
open PySem PySem.Spec PyProof.Rows L2 Gh
section
variable {g : Gw} {Mt U0 U U' : Addr → Prop} {H0 H H' H1 H2 : Hp} {b b1 : Nat} {σ : L2.St} {ε ε' : Env} {E : XK} {W L W' : Type}
variable {env : W → Env} {envL : L → Env} {env' : W' → Env} {u ta tb : TS} {te : TE} {me : Tr D}
theorem sc_map {i : Nat} {d : D} (he : SE g EF (ε.set i (.fz d)) te me) : SC g ε d (gName i) tYes te [i] (bd me fun y => .ok (some y)) := fun U σ H b v Q rl wd u dn q => by
  have e1 : wipe σ [i] = σ.set i none := rfl
  rw [e1]
  show wipe ((σ.set i none).set i (some v)) [i] = _ ∧ _
  rw [List.set_set]
  refine ⟨?_, ?_⟩
  · show (σ.set i (some v)).set i none = _
    rw [List.set_set]
  · show te (σ.set i (some v)) H fun y H4 => Q (some y) H4
    refine he.step (rl.set i dn) wd u (q.mono (fun _ _ z => z) (fun _ _ _ z => exP.F z)) fun y e H2 b2 d2 w2 f2 R2 u2 q2 => ?_
    exact q2 y H2 d2 w2 f2
theorem ownAt_setO {i j : Nat} {v : V} {ds : Ow} {a : Addr} (h : OwnAt (σ.set i (some v)) (ε.set i (.ow ds)) j a) : (i = j ∧ v = .ref a) ∨ (i ≠ j ∧ OwnAt σ ε j a) := by
  obtain ⟨h1, h2⟩ := h
  by_cases e : i = j
  · subst e
    rw [List.getElem?_set_self'] at h1
    cases q : σ[i]? with
    | none => rw [q] at h1; cases h1
    | some z => rw [q] at h1; cases h1; exact .inl ⟨rfl, rfl⟩
  · rw [List.getElem?_set_ne e] at h1 h2
    exact .inr ⟨e, h1, h2⟩
theorem own_new {A : Addr} {vs : List V} {ds : List D} {i : Nat} (s : Stt g Mt U0 H0 U σ H b ε) (n : H A = none) (l : vs.length ≤ sizeLine) (dn : DenL g U H vs ds) (hA : A ≠ 0 ∨ True := .inr trivial) :
    Stt g Mt U0 H0 (fun a => U a ∨ a = A) (σ.set i (some (.ref A))) (upd H A (.lst vs)) b (ε.set i (.ow ds)) ∧ Ev U H (fun a => U a ∨ a = A) (upd H A (.lst vs)) := by
  have sm := same_new (o := .lst vs) n
  have nU : ¬ U A := s.uok.new n
  have hp : A ≠ g.p := fun z => nU (z ▸ s.uok.p)
  have hc : A ≠ g.c := fun z => nU (z ▸ s.uok.c)
  have r1 : Rel g (fun a => U a ∨ a = A) (upd H A (.lst vs)) σ ε := (s.rel.grow n).frp (.inl s.uok.p) (fr_same sm)
  have sig : ∀ j a, OwnAt σ ε j a → ∃ o, H a = some o := fun j a h => by
    obtain ⟨h1, ⟨ds, h2⟩ | ⟨c, fs, h2⟩⟩ := h
    · obtain ⟨o, e, a', vs, e2, h, _⟩ := s.rel.at_ j _ h2
      rw [h1] at e
      cases e
      cases e2
      exact ⟨_, h⟩
    · obtain ⟨o, e, a', dx, fvs, e2, h, _⟩ := s.rel.at_ j _ h2
      rw [h1] at e
      cases e
      cases e2
      exact ⟨_, h⟩
  refine ⟨⟨⟨by rw [List.length_set, List.length_set]; exact r1.len, fun j x e => ?_, fun j k a ne h1 h2 => ?_⟩, s.wd.same sm, ⟨.inl s.uok.p, .inl s.uok.c, fun a ha => ?_⟩, fun a z => .inl (s.sub a z), fun j a h => ?_, s.ext.trans (fr_same sm), fun j xs a e1 e2 => ?_, fun j c fs a j0 e1 e2 => ?_⟩, fun a o e _ _ => sm a o e, fun a o e n1 _ => ?_⟩
  · by_cases q : i = j
    · subst q
      have hl : i < ε.length := by
        cases z : ε[i]? with
        | none => rw [List.getElem?_set_self', z] at e; cases e
        | some w => exact (List.getElem?_eq_some_iff.mp z).1
      rw [List.getElem?_set_self hl] at e
      cases e
      exact ⟨_, List.getElem?_set_self (by rw [r1.len]; exact hl), A, _, rfl, upd_same, ⟨vs, rfl, l, (dn.grow n).ext (fun a o e _ _ => sm a o e)⟩, .inr rfl, hp, hc⟩
    · rw [List.getElem?_set_ne q] at e ⊢
      exact r1.at_ j x e
  · rcases ownAt_setO h1 with ⟨rfl, z1⟩ | ⟨n1, z1⟩ <;> rcases ownAt_setO h2 with ⟨rfl, z2⟩ | ⟨n2, z2⟩
    · exact ne rfl
    · cases z1
      obtain ⟨o, e⟩ := sig _ _ z2
      rw [n] at e
      cases e
    · cases z2
      obtain ⟨o, e⟩ := sig _ _ z1
      rw [n] at e
      cases e
    · exact s.rel.apart j k a ne z1 z2
  · rcases ha with ha | rfl
    · obtain ⟨o, e, t⟩ := s.uok.al a ha
      exact ⟨o, sm a o e, t⟩
    · exact ⟨_, upd_same, (fun _ z => by cases z), (fun _ z => by cases z)⟩
  · rcases ownAt_setO h with ⟨rfl, z⟩ | ⟨_, z⟩
    · cases z
      by_cases m : Mt A
      · exact .inl m
      · refine .inr fun o q => ?_
        by_cases t : ∃ ps, o = .tbl ps
        · exact t
        · have := s.ext A o q hp m (fun ps z => t ⟨ps, z⟩)
          rw [n] at this
          cases this
    · exact s.own j a z
  · by_cases q : i = j
    · subst q
      rw [List.getElem?_set_self'] at e2
      cases z : σ[i]? with
      | none => rw [z] at e2; cases e2
      | some w =>
        rw [z] at e2
        cases e2
        exact fun h => nU (s.sub _ h)
    · rw [List.getElem?_set_ne q] at e1 e2
      exact s.nu0 j xs a e1 e2
  · by_cases q : i = j
    · subst q
      cases z : ε[i]? with
      | none => rw [List.getElem?_set_self', z] at e1; cases e1
      | some w => rw [List.getElem?_set_self', z] at e1; cases e1
    · rw [List.getElem?_set_ne q] at e1 e2
      exact s.oim j c fs a j0 e1 e2
  · rintro (z | z)
    · exact n1 z
    · exact ne_of_none e n z
def okN (g : Gw) (U : Addr → Prop) (H : Hp) (Q : VK) : List D → Nat → Prop := fun ds b => ∀ A vs H1, H1 A = none → vs.length ≤ sizeLine → DenL g U H1 vs ds → Wd g H1 b → Fr H H1 g.p → Q (.ref A) (upd H1 A (.lst vs))
def SN (g : Gw) (E : XK) (ε : Env) (t : TE) (m : Tr (List D)) : Prop := ∀ U σ H b Q, Rel g U H σ ε → Wd g H b → UOk g U H → Al (okN g U H Q) (exP g U E H) m b → t σ H Q
theorem sn_lst {t : TA} {m : Tr (List D)} (ha : SA g E ε t m) : SN g E ε (tLst t) (bd m fun ds => if ds.length ≤ sizeLine then .ok ds else .bad) := fun U σ H b Q R W u q =>
  ha.step R W u q fun v d H1 b1 d1 w1 f1 R1 u1 q1 => by
    by_cases hl : d.length ≤ sizeLine
    · rw [if_pos hl] at q1
      have hl' : v.length ≤ sizeLine := by rw [d1.length]; exact hl
      exact ⟨hl', fun p np => q1 p v H1 np hl' d1 w1 f1⟩
    · rw [if_neg hl] at q1
      exact q1.elim
theorem own_mut {vs' : List V} {ds ds' : List D} {i : Nat} (s : Stt g Mt U0 H0 U σ H b ε) (hi : ε[i]? = some (.ow ds)) : ∃ a vs, σ[i]? = some (some (.ref a)) ∧ H a = some (.lst vs) ∧ vs.length ≤ sizeLine ∧ DenL g U H vs ds ∧ U a ∧ a ≠ g.p ∧ a ≠ g.c ∧
    ∀ (vs' : List V) (ds' : List D), vs'.length ≤ sizeLine → DenL g U H vs' ds' → Stt g Mt U0 H0 U σ (upd H a (.lst vs')) b (ε.set i (.ow ds')) ∧ Ev U H U (upd H a (.lst vs')) := by
  obtain ⟨o, eo, a, u0, rfl, h, ⟨vs, rfl, l, dn⟩, ua, n1, n2⟩ := s.rel.at_ i _ hi
  refine ⟨a, vs, eo, h, l, dn, ua, n1, n2, fun vs' ds' l' dn' => ?_⟩
  have kp : Keep H (upd H a (.lst vs')) a := fun x o e ne => by rw [upd_ne ne]; exact e
  have xt : ExtU U H (upd H a (.lst vs')) := fun x o e ne _ => kp x o e (fun z => ne (z ▸ ua))
  have il : i < ε.length := (List.getElem?_eq_some_iff.mp hi).1
  have ow : ∀ j x, OwnAt σ (ε.set i (.ow ds')) j x → OwnAt σ ε j x := fun j x z => by
    obtain ⟨z1, z2⟩ := z
    by_cases q : i = j
    · subst q
      exact ⟨z1, .inl ⟨ds, hi⟩⟩
    · rw [List.getElem?_set_ne q] at z2
      exact ⟨z1, z2⟩
  have apart : ∀ j x, i ≠ j → OwnAt σ ε j x → x ≠ a := fun j x ne z e => by
    subst e
    exact s.rel.apart i j x ne ⟨eo, .inl ⟨ds, hi⟩⟩ z
  refine ⟨⟨⟨by rw [List.length_set]; exact s.rel.len, fun j x e => ?_, fun j k x ne z1 z2 => s.rel.apart j k x ne (ow _ _ z1) (ow _ _ z2)⟩, ⟨s.wd.pen.keep kp n1 n2, tabs_keepL kp h s.wd.tabs⟩, ⟨s.uok.p, s.uok.c, fun x hx => ?_⟩, s.sub, fun j x z => s.own j x (ow _ _ z), fun x o e m1 m2 m3 => ?_, fun j xs x e1 e2 => ?_, fun j c fs x j0 e1 e2 => ?_⟩, xt, fun _ _ _ n _ => n⟩
  · by_cases q : i = j
    · subst q
      rw [List.getElem?_set_self il] at e
      cases e
      exact ⟨_, eo, a, _, rfl, upd_same, ⟨vs', rfl, l', dn'.ext xt⟩, ua, n1, n2⟩
    · rw [List.getElem?_set_ne q] at e
      obtain ⟨o, e1, e2⟩ := s.rel.at_ j x e
      refine ⟨o, e1, ?_⟩
      cases x with
      | no => trivial
      | fz d =>
        obtain ⟨v, e3, e4⟩ := e2
        exact ⟨v, e3, e4.ext xt⟩
      | ow ds2 =>
        obtain ⟨a2, v2, rfl, h2, d2, u2, m1, m2⟩ := e2
        have ne := apart j a2 q ⟨e1, .inl ⟨ds2, e⟩⟩
        exact ⟨a2, v2, rfl, kp _ _ h2 ne, d2.map (fun q => q.ext xt), u2, m1, m2⟩
      | oi c fs =>
        obtain ⟨a2, dx, v2, rfl, h2, d2, u2, m1, m2⟩ := e2
        have ne := apart j a2 q ⟨e1, .inr ⟨c, fs, e⟩⟩
        exact ⟨a2, dx, v2, rfl, kp _ _ h2 ne, d2.ext xt, u2, m1, m2⟩
  · by_cases q : x = a
    · subst q
      exact ⟨_, upd_same, (fun _ z => by cases z), (fun _ z => by cases z)⟩
    · obtain ⟨o, e, t⟩ := s.uok.al x hx
      exact ⟨o, kp x o e q, t⟩
  · have q : x ≠ a := fun z => by
      subst z
      rcases s.own i x ⟨eo, .inl ⟨ds, hi⟩⟩ with w | w
      · exact m2 w
      · obtain ⟨ps, z⟩ := w o e
        exact m3 ps z
    exact kp x o (s.ext x o e m1 m2 m3) q
  · by_cases q : i = j
    · subst q
      exact s.nu0 i ds x hi e2
    · rw [List.getElem?_set_ne q] at e1
      exact s.nu0 j xs x e1 e2
  · by_cases q : i = j
    · subst q
      rw [List.getElem?_set_self il] at e1
      cases e1
    · rw [List.getElem?_set_ne q] at e1
      exact s.oim j c fs x j0 e1 e2
theorem ss_app {i : Nat} {ds : List D} {k : D → Tr (Fl W L)} (he : SE g E ε te me) (hk : ∀ d, SS g E (ε.set i (.ow (.l (ds ++ [d])))) u env envL (k d)) (hi : ε[i]? = some (.ow ds) := by rfl) :
    SS g E ε (tSeq (tDrop (tBM g.K "list" rAppend (tVar i) (tCons te tNil))) u) env envL (bd me fun d => if ds.length < sizeLine then k d else .bad) := fun Mt U0 H0 U D σ H b s q => by
  obtain ⟨a, vs, e1, h1, l1, d1, ua, n1, n2, _⟩ := own_mut (vs' := []) (ds' := []) s hi
  refine ⟨.ref a, e1, .inl ⟨rfl, vs, SqL.of h1⟩, ?_⟩
  refine he.sstep s q fun v d H1 b1 dv s1 q1 => ?_
  obtain ⟨a', vs', e2, h2, l2, d2, _, _, _, mt⟩ := own_mut (vs' := []) (ds' := []) s1 hi
  rw [e1] at e2
  cases e2
  by_cases hl : ds.length < sizeLine
  · rw [if_pos hl] at q1
    have hl2 : vs'.length < sizeLine := by rw [d2.length]; exact hl
    obtain ⟨s2, ev⟩ := mt (vs' ++ [v]) (ds ++ [d]) (by rw [List.length_append]; exact hl2) (d2.append (.cons dv .nil))
    exact ⟨a, vs', v, rfl, rfl, h2, hl2, hk d Mt U0 H0 U D σ _ b1 s2 (q1.mono (fun _ _ z => z.ev ev) (fun _ _ _ z => z))⟩
  · rw [if_neg hl] at q1
    exact q1.elim
theorem ss_fz {i : Nat} {ds : List D} {m : Tr (Fl W L)} (hi : ε[i]? = some (.ow ds)) (h : SS g E (ε.set i (.fz (.lst ds))) u env envL m) : SS g E ε u env envL m := fun Mt U0 H0 U D σ H b s q => by
  obtain ⟨a, vs, e1, h1, l1, d1, ua, n1, n2, _⟩ := own_mut (vs' := []) (ds' := []) s hi
  have il : i < ε.length := (List.getElem?_eq_some_iff.mp hi).1
  have sub : ∀ x, (∃ o, H x = some o) → (U x ∧ x ≠ a) → U x := fun x _ z => z.1
  have ow : ∀ j x, OwnAt σ (ε.set i (.fz (.lst ds))) j x → i ≠ j ∧ OwnAt σ ε j x := fun j x z => by
    obtain ⟨z1, z2⟩ := z
    by_cases q : i = j
    · subst q
      exfalso
      rcases z2 with ⟨y, z2⟩ | ⟨y1, y2, z2⟩
      · rw [List.getElem?_set_self il] at z2
        cases z2
      · rw [List.getElem?_set_self il] at z2
        cases z2
    · rw [List.getElem?_set_ne q] at z2
      exact ⟨q, z1, z2⟩
  have apart : ∀ j x, i ≠ j → OwnAt σ ε j x → x ≠ a := fun j x ne z e => by
    subst e
    exact s.rel.apart i j x ne ⟨e1, .inl ⟨ds, hi⟩⟩ z
  have ev : Ev U H (fun x => U x ∧ x ≠ a) H := ⟨fun _ _ e _ _ => e, fun _ _ _ n _ z => n z.1⟩
  refine h Mt U0 H0 (fun x => U x ∧ x ≠ a) D σ H b ⟨⟨by rw [List.length_set]; exact s.rel.len, fun j x e => ?_, fun j k x ne z1 z2 => s.rel.apart j k x ne (ow _ _ z1).2 (ow _ _ z2).2⟩, s.wd, ⟨⟨s.uok.p, n1.symm⟩, ⟨s.uok.c, n2.symm⟩, fun x hx => s.uok.al x hx.1⟩, fun x z => ⟨s.sub x z, fun e => s.nu0 i ds x hi (by rw [e1, e]) z⟩, fun j x z => s.own j x (ow _ _ z).2, s.ext, fun j xs x z1 z2 => ?_, fun j c fs x j0 z1 z2 => ?_⟩ (q.mono (fun _ _ z => z.ev ev) (fun _ _ _ z => z))
  · by_cases q : i = j
    · subst q
      rw [List.getElem?_set_self il] at e
      cases e
      exact ⟨_, e1, _, rfl, .lst h1 (fun z => z.2 rfl) l1 (d1.sub sub)⟩
    · rw [List.getElem?_set_ne q] at e
      obtain ⟨o, e3, e2⟩ := s.rel.at_ j x e
      refine ⟨o, e3, ?_⟩
      cases x with
      | no => trivial
      | fz d =>
        obtain ⟨v, e4, e5⟩ := e2
        exact ⟨v, e4, e5.sub sub⟩
      | ow ds2 =>
        obtain ⟨a2, v2, rfl, h2, d2, u2, m1, m2⟩ := e2
        have ne := apart j a2 q ⟨e3, .inl ⟨ds2, e⟩⟩
        exact ⟨a2, v2, rfl, h2, d2.map (fun q => q.sub sub), ⟨u2, ne⟩, m1, m2⟩
      | oi c fs =>
        obtain ⟨a2, dx, v2, rfl, h2, d2, u2, m1, m2⟩ := e2
        have ne := apart j a2 q ⟨e3, .inr ⟨c, fs, e⟩⟩
        exact ⟨a2, dx, v2, rfl, h2, d2.sub sub, ⟨u2, ne⟩, m1, m2⟩
  · obtain ⟨q, _, z3⟩ := ow j x ⟨z2, .inl ⟨xs, z1⟩⟩
    rw [List.getElem?_set_ne q] at z1
    exact s.nu0 j xs x z1 z2
  · by_cases q : i = j
    · subst q
      rw [List.getElem?_set_self il] at z1
      cases z1
    · rw [List.getElem?_set_ne q] at z1
      exact s.oim j c fs x j0 z1 z2
end
end Gp
end
section
namespace Gp
open PySem PySem.Spec PyProof.Rows L2 Gh
section
variable {g : Gw} {Mt U0 U U' : Addr → Prop} {H0 H H' H1 H2 : Hp} {b b1 : Nat} {σ : L2.St} {ε ε' : Env} {E : XK} {W L W' : Type}
variable {env : W → Env} {envL : L → Env} {env' : W' → Env} {u ta tb : TS} {te : TE} {me : Tr D}
def spF (K : PySem.W.Frag) (T : List (Addr × Str)) (F : List D → Tr D) : Sp := fun vs H Q E => ∃ p c U ds b, DenL ⟨K, T, p, c⟩ U H vs ds ∧ Wd ⟨K, T, p, c⟩ H b ∧ UOk ⟨K, T, p, c⟩ U H ∧ Al (okP ⟨K, T, p, c⟩ U H Q) (exP ⟨K, T, p, c⟩ U E H) (F ds) b
def envE : Empty → Env := fun e => nomatch e
theorem rel_start {N : List Str} {vs : List V} {ds : List D} (h : DenL g U H vs ds) : Rel g U H (L2.start N vs) (ds.map Sl.fz ++ List.replicate (N.length - ds.length) Sl.no) := by
  have no : ∀ i a, ¬ OwnAt (L2.start N vs) (ds.map Sl.fz ++ List.replicate (N.length - ds.length) Sl.no) i a := fun i a ⟨_, z⟩ => by
    have : ∀ s : Sl, (ds.map Sl.fz ++ List.replicate (N.length - ds.length) Sl.no)[i]? = some s → (∃ d, s = .fz d) ∨ s = .no := fun s e => by
      have m := List.mem_of_getElem? e
      rcases List.mem_append.mp m with m | m
      · obtain ⟨d, _, e⟩ := List.mem_map.mp m
        exact .inl ⟨d, e.symm⟩
      · exact .inr (List.mem_replicate.mp m).2
    rcases z with ⟨x, z⟩ | ⟨x, y, z⟩
    · rcases this _ z with ⟨d, e⟩ | e <;> cases e
    · rcases this _ z with ⟨d, e⟩ | e <;> cases e
  have hl := h.length
  refine ⟨?_, fun i s e => ?_, fun i j a _ h1 _ => (no i a h1).elim⟩
  · unfold L2.start
    simp only [List.length_append, List.length_map, List.length_replicate, hl]
  · unfold L2.start
    by_cases q : i < ds.length
    · rw [List.getElem?_append_left (by rw [List.length_map]; exact q), List.getElem?_map] at e
      rw [List.getElem?_append_left (by rw [List.length_map, hl]; exact q), List.getElem?_map]
      cases z : ds[i]? with
      | none => rw [z] at e; cases e
      | some d =>
        rw [z] at e
        cases e
        obtain ⟨v, hv, dn⟩ := h.getD z
        rw [hv]
        exact ⟨some v, rfl, v, rfl, dn⟩
    · rw [List.getElem?_append_right (by rw [List.length_map]; omega), List.length_map] at e
      rw [List.getElem?_append_right (by rw [List.length_map, hl]; omega), List.length_map, hl]
      have m := List.mem_of_getElem? e
      obtain ⟨n0, rfl⟩ := List.mem_replicate.mp m
      have i1 := (List.getElem?_eq_some_iff.mp e).1
      rw [List.length_replicate] at i1
      exact ⟨none, by rw [List.getElem?_replicate, if_pos i1], trivial⟩
theorem fn_of {K : PySem.W.Frag} {T : List (Addr × Str)} {N : List Str} {F : List D → Tr D} {vs : List V} {Q : VK} {t : TS} {envU : Unit → Env} (h : spF K T F vs H Q E)
    (hs : ∀ p c ds, (∃ (P : D → Nat → Prop) (X : Str → Fs → Nat → Prop) (b : Nat), Al P X (F ds) b) → ∃ m, F ds = fin m ∧ SS ⟨K, T, p, c⟩ E (ds.map Sl.fz ++ List.replicate (N.length - ds.length) Sl.no) t envU envE m) : t { nx := fun _ H' => Q .non H', rt := Q } (L2.start N vs) H := by
  obtain ⟨p, c, U, ds, b, dn, wd, u, al⟩ := h
  obtain ⟨m, e, ss⟩ := hs p c ds ⟨_, _, _, al⟩
  rw [e] at al
  have nn : ∀ i a, ¬ OwnAt (L2.start N vs) (ds.map Sl.fz ++ List.replicate (N.length - ds.length) Sl.no) i a := fun i a ⟨_, z⟩ => by
    have : ∀ s : Sl, (ds.map Sl.fz ++ List.replicate (N.length - ds.length) Sl.no)[i]? = some s → (∃ d, s = .fz d) ∨ s = .no := fun s e => by
      have m := List.mem_of_getElem? e
      rcases List.mem_append.mp m with m | m
      · obtain ⟨d, _, e⟩ := List.mem_map.mp m
        exact .inl ⟨d, e.symm⟩
      · exact .inr (List.mem_replicate.mp m).2
    rcases z with ⟨x, z⟩ | ⟨x, y, z⟩
    · rcases this _ z with ⟨d, e⟩ | e <;> cases e
    · rcases this _ z with ⟨d, e⟩ | e <;> cases e
  refine ss (fun _ => False) U H U _ _ H b ⟨rel_start dn, wd, u, fun _ z => z, fun i a z => (nn i a z).elim, fun _ _ z _ _ _ => z, fun i ds' a z1 z2 => (nn i a ⟨z2, .inl ⟨ds', z1⟩⟩).elim, fun i c fs a _ z1 z2 => (nn i a ⟨z2, .inr ⟨c, fs, z1⟩⟩).elim⟩ ((al_bd.mp al).mono (fun f b1 h1 => ?_) (fun c fs b1 h1 => ?_))
  · cases f with
    | nx w => exact fun U' σ' H' e s => h1 .non H' .non s.wd fun a o z1 z2 z3 => s.ext a o z1 z2 (fun z => z) z3
    | rt d => exact fun v H' dn w f => h1 v H' dn w fun a o z1 z2 z3 => f a o z1 z2 (fun z => z) z3
    | bk e => exact nomatch e
    | ct e => exact nomatch e
  · exact fun dd fvs H' z1 z2 z3 z4 z5 => h1 dd fvs H' z1 z2 z3 z4 fun a o y1 y2 y3 => z5 a o y1 y2 (fun z => z) y3
theorem le_no : ∀ (ε : Env) {n : Nat}, ε.length = n → Le (List.replicate n Sl.no) ε
  | [], _, rfl => .nil
  | x :: r, _, rfl => by
    show Le (List.replicate (r.length + 1) Sl.no) (x :: r)
    rw [List.replicate_succ]
    exact .n (le_no r rfl)
theorem fn_of1 {K : PySem.W.Frag} {T : List (Addr × Str)} {N : List Str} {F : D → Tr D} {vs : List V} {Q : VK} {t : TS} {envU : Unit → Env} {m : D → Tr (Fl Unit Empty)} (h : spF K T (ul1 F) vs H Q E) (hF : ∀ x, F x = fin (m x)) (hs : ∀ p c x, SS ⟨K, T, p, c⟩ E ([x].map Sl.fz ++ List.replicate (N.length - 1) Sl.no) t envU envE (m x)) : t { nx := fun _ H' => Q .non H', rt := Q } (L2.start N vs) H :=
  fn_of h fun p c ds ⟨_, _, _, al⟩ => by
    obtain ⟨x, rfl, _⟩ := al_ul1 al
    exact ⟨m x, hF x, hs p c x⟩
theorem fn_of2 {K : PySem.W.Frag} {T : List (Addr × Str)} {N : List Str} {F : D → D → Tr D} {vs : List V} {Q : VK} {t : TS} {envU : Unit → Env} {m : D → D → Tr (Fl Unit Empty)} (h : spF K T (ul2 F) vs H Q E) (hF : ∀ x y, F x y = fin (m x y)) (hs : ∀ p c x y, SS ⟨K, T, p, c⟩ E ([x, y].map Sl.fz ++ List.replicate (N.length - 2) Sl.no) t envU envE (m x y)) : t { nx := fun _ H' => Q .non H', rt := Q } (L2.start N vs) H :=
  fn_of h fun p c ds ⟨_, _, _, al⟩ => by
    obtain ⟨x, y, rfl, _⟩ := al_ul2 al
    exact ⟨m x y, hF x y, hs p c x y⟩
theorem fn_of3 {K : PySem.W.Frag} {T : List (Addr × Str)} {N : List Str} {F : D → D → D → Tr D} {vs : List V} {Q : VK} {t : TS} {envU : Unit → Env} {m : D → D → D → Tr (Fl Unit Empty)} (h : spF K T (ul3 F) vs H Q E) (hF : ∀ x y z, F x y z = fin (m x y z)) (hs : ∀ p c x y z, SS ⟨K, T, p, c⟩ E ([x, y, z].map Sl.fz ++ List.replicate (N.length - 3) Sl.no) t envU envE (m x y z)) : t { nx := fun _ H' => Q .non H', rt := Q } (L2.start N vs) H :=
  fn_of h fun p c ds ⟨_, _, _, al⟩ => by
    obtain ⟨x, y, z, rfl, _⟩ := al_ul3 al
    exact ⟨m x y z, hF x y z, hs p c x y z⟩
theorem spF_len {K : PySem.W.Frag} {T : List (Addr × Str)} {F : List D → Tr D} {n : Nat} (hn : ∀ (P : D → Nat → Prop) (X : Str → Fs → Nat → Prop) ds b, Al P X (F ds) b → ds.length = n) {vs : List V} {Q : VK} (h : spF K T F vs H Q E) : vs.length = n := by
  obtain ⟨p, c, U, ds, b, dn, wd, u, al⟩ := h
  rw [dn.length]
  exact hn _ _ _ _ al
theorem len1 {F : D → Tr D} (P : D → Nat → Prop) (X : Str → Fs → Nat → Prop) (ds : List D) (b : Nat) (h : Al P X (ul1 F ds) b) : ds.length = 1 := by obtain ⟨_, rfl, _⟩ := al_ul1 h; rfl
theorem len2 {F : D → D → Tr D} (P : D → Nat → Prop) (X : Str → Fs → Nat → Prop) (ds : List D) (b : Nat) (h : Al P X (ul2 F ds) b) : ds.length = 2 := by obtain ⟨_, _, rfl, _⟩ := al_ul2 h; rfl
theorem len3 {F : D → D → D → Tr D} (P : D → Nat → Prop) (X : Str → Fs → Nat → Prop) (ds : List D) (b : Nat) (h : Al P X (ul3 F ds) b) : ds.length = 3 := by obtain ⟨_, _, _, rfl, _⟩ := al_ul3 h; rfl
theorem srl_sp0 {F : List D → Tr D} : SRL g E (rSp (spF g.K g.T F) [] E) F := fun U H b xs dxs Q dn wd u q =>
  ⟨g.p, g.c, U, dxs, b, by rw [List.append_nil]; exact dn, wd, u, q⟩
theorem al_isO {α : Type} {P : α → Nat → Prop} {X : Str → Fs → Nat → Prop} {c : Str} {o : D} {k : Fs → Tr α} (h : Al P X (isO c o k) b) : ∃ fs, o = .obj c fs ∧ Al P X (k fs) b := by
  unfold isO at h
  split at h
  · split at h
    · rename_i e
      subst e
      exact ⟨_, rfl, h⟩
    · exact h.elim
  · exact h.elim
theorem den_obj {v : V} {c : Str} {fs : Fs} (h : Den g U H v (.obj c fs)) : ∃ a dx fvs, v = .ref a ∧ H a = some (.ins (gd c g.K) dx fvs) ∧ ¬ U a ∧ DenF g U H fvs fs := by
  cases h with
  | obj h n k => exact ⟨_, _, _, rfl, h, n, k⟩
theorem se_mt {c m : Str} {r : List V → Hp → VK → Prop} {f : List D → Tr D} {ta : TE} {ma : Tr D} {t : TA} {mt : Tr (List D)} (hr : SRL g E r f) (ha : SE g E ε ta ma) (ht : SA g E ε t mt) :
    SE g E ε (tMt (gd c g.K) m r ta t) (bd ma fun o => isO c o fun fs => if fs.lookup m = none then bd mt fun ds => f (o :: ds) else .bad) := fun U σ H b Q R W u q =>
  ha.step R W u q fun v d H1 b1 d1 w1 f1 R1 u1 q1 => by
    obtain ⟨fs, rfl, q2⟩ := al_isO q1
    obtain ⟨a, dx, fvs, rfl, ea, na, df⟩ := den_obj d1
    by_cases hl : fs.lookup m = none
    · rw [if_pos hl] at q2
      refine ⟨a, dx, fvs, rfl, ea, df.look0 hl, ?_⟩
      refine ht.step R1 w1 u1 q2 fun vs ds H2 b2 d2 w2 f2 R2 u2 q3 => ?_
      exact hr U H2 b2 _ _ Q (.cons (d1.fr u1 f2) d2) w2 u2 (q3.mono (fun _ _ h => h.fr (f1.trans f2)) (fun _ _ _ h => h))
    · rw [if_neg hl] at q2
      exact q2.elim
theorem se_pr {c : Str} {F : List D → Tr D} {ta : TE} {ma : Tr D} (ha : SE g EF ε ta ma) : SE g EF ε (tPr (gd c g.K) (spF g.K g.T F) [] EF ta) (bd ma fun o => isO c o fun _ => F [o]) := fun U σ H b Q R W u q =>
  ha.step R W u q fun v d H1 b1 d1 w1 f1 R1 u1 q1 => by
    obtain ⟨fs, rfl, q2⟩ := al_isO q1
    obtain ⟨a, dx, fvs, rfl, ea, na, df⟩ := den_obj d1
    exact ⟨a, dx, fvs, rfl, ea, g.p, g.c, U, [.obj c fs], b1, .cons d1 .nil, w1, u1, q2.mono (fun _ _ h => h.fr f1) (fun _ _ _ h => h)⟩
def fldD (c f : Str) (o : D) : Tr D := isO c o fun fs => match fs.lookup f with
  | some d => .ok d
  | none => .bad
theorem sr_fld {c f : Str} : SR1 g E (rFld (gd c g.K) f) (fldD c f) := fun U H b x dx Q dn wd u q => by
  obtain ⟨fs, rfl, q2⟩ := al_isO q
  obtain ⟨a, dx, fvs, rfl, ea, na, df⟩ := den_obj dn
  cases e : fs.lookup f with
  | none => rw [e] at q2; exact q2.elim
  | some d =>
    rw [e] at q2
    obtain ⟨v, hv, d1⟩ := df.look e
    exact st_fld ea hv (okP.here q2 wd d1)
def spI (K : PySem.W.Frag) (T : List (Addr × Str)) (cn : Str) (F : Fs → List D → Tr Fs) : Sp := fun vs H Q E => ∃ p c U ds b x dx fvs fs rest, vs = .ref x :: rest ∧ H x = some (.ins (gd cn K) dx fvs) ∧ DenF ⟨K, T, p, c⟩ U H fvs fs ∧ U x ∧ x ≠ p ∧ x ≠ c ∧ DenL ⟨K, T, p, c⟩ U H rest ds ∧
  Wd ⟨K, T, p, c⟩ H b ∧ UOk ⟨K, T, p, c⟩ U H ∧ Al (fun fs' b' => ∀ dx' fvs' H', H' x = some (.ins (gd cn K) dx' fvs') → DenF ⟨K, T, p, c⟩ U H' fvs' fs' → Wd ⟨K, T, p, c⟩ H' b' → FrM ⟨K, T, p, c⟩ (· = x) H H' → Q .non H')
    (fun cn fs b => ∀ dd fvs H', H' dd = some (.xd fvs) → ¬ U dd → DenF ⟨K, T, p, c⟩ U H' fvs fs → Wd ⟨K, T, p, c⟩ H' b → FrM ⟨K, T, p, c⟩ (· = x) H H' → E (.ref (gd cn K)) (some dd) H') (F fs ds) b
theorem srl_mk {cn : Str} {F : Fs → List D → Tr Fs} {dvs : List V} {dds : List D} (hd : ∀ U H, DenL g U H dvs dds) : SRL g E (rMk (gd cn g.K) (spI g.K g.T cn F) dvs E) (fun ds => bd (F [] (ds ++ dds)) fun fs => .ok (.obj cn fs)) := fun U H b xs dxs Q dn wd u q => by
  unfold rMk
  intro x dx nx ndx ne
  have s1 : L2.Same H (upd (upd H dx (.own x)) x (.ins (gd cn g.K) dx [])) := fun a o e => by
    rw [upd_ne (ne_of_none e nx), upd_ne (ne_of_none e ndx)]
    exact e
  have nU : ¬ U x := u.new nx
  have hp : x ≠ g.p := fun z => nU (z ▸ u.p)
  have hc : x ≠ g.c := fun z => nU (z ▸ u.c)
  have sx : ∀ a, (∃ o, H a = some o) → (U a ∨ a = x) → U a := fun a ⟨o, e⟩ z => z.elim (fun z => z) (fun z => (ne_of_none e nx z).elim)
  have k1 : DenL g (fun a => U a ∨ a = x) (upd (upd H dx (.own x)) x (.ins (gd cn g.K) dx [])) (xs ++ dvs) (dxs ++ dds) := ((dn.append (hd U H)).grow nx).ext (fun a o e _ _ => s1 a o e)
  have k2 : UOk g (fun a => U a ∨ a = x) (upd (upd H dx (.own x)) x (.ins (gd cn g.K) dx [])) := ⟨.inl u.p, .inl u.c, fun a ha => by
    rcases ha with ha | rfl
    · obtain ⟨o, e, t⟩ := u.al a ha
      exact ⟨o, s1 a o e, t⟩
    · exact ⟨_, upd_same, (fun _ z => by cases z), (fun _ z => by cases z)⟩⟩
  have fr : ∀ {H' : Hp}, FrM g (· = x) (upd (upd H dx (.own x)) x (.ins (gd cn g.K) dx [])) H' → Fr H H' g.p := fun f1 a o e n t => f1 a o (s1 a o e) n (fun z => ne_of_none e nx z) t
  exact ⟨g.p, g.c, fun a => U a ∨ a = x, dxs ++ dds, b, x, dx, [], [], xs ++ dvs, rfl, upd_same, .nil, .inr rfl, hp, hc, k1, wd.same s1, k2,
    (al_bd.mp q).mono (fun fs b1 h1 dx' fvs' H' e1 d1 w1 f1 => ⟨rfl, h1 _ H' (.obj e1 nU (d1.sub fun a _ z => .inl z)) w1 (fr f1)⟩) (fun c fs b1 h1 dd fvs H' e1 n1 d1 w1 f1 => h1 dd fvs H' e1 (fun z => n1 (.inl z)) (d1.sub fun a _ z => .inl z) w1 (fr f1))⟩
theorem srl_mk0 {cn : Str} {F : Fs → List D → Tr Fs} : SRL g E (rMk (gd cn g.K) (spI g.K g.T cn F) [] E) (fun ds => bd (F [] ds) fun fs => .ok (.obj cn fs)) := by
  have h := srl_mk (g := g) (E := E) (cn := cn) (F := F) (dvs := []) (dds := []) (fun _ _ => .nil)
  intro U H b xs dxs Q dn wd u q
  refine h U H b xs dxs Q dn wd u ?_
  show Al _ _ (bd (F [] (dxs ++ [])) _) b
  rw [List.append_nil]
  exact q
def finI (m : Tr (Fl Fs Empty)) : Tr Fs := bd m fun f => match f with
  | .nx fs => .ok fs
  | .rt _ => .bad
  | .bk e => nomatch e
  | .ct e => nomatch e
theorem ini_of {K : PySem.W.Frag} {T : List (Addr × Str)} {N : List Str} {cn : Str} {F : Fs → List D → Tr Fs} {vs : List V} {Q : VK} {t : TS} {envI : Fs → Env} (h : spI K T cn F vs H Q E)
    (hs : ∀ p c fs ds, (∃ (P : Fs → Nat → Prop) (X : Str → Fs → Nat → Prop) (b : Nat), Al P X (F fs ds) b) → ∃ m, F fs ds = finI m ∧ SS ⟨K, T, p, c⟩ E (.oi cn fs :: (ds.map Sl.fz ++ List.replicate (N.length - (ds.length + 1)) Sl.no)) t envI envE m)
    (he : ∀ fs, (envI fs)[0]? = some (.oi cn fs)) : t { nx := fun _ H' => Q .non H', rt := Q } (L2.start N vs) H := by
  obtain ⟨p, c, U, ds, b, x, dx, fvs, fs, rest, rfl, hx, df, ux, np, nc, dn, wd, u, al⟩ := h
  obtain ⟨m, e, ss⟩ := hs p c fs ds ⟨_, _, _, al⟩
  rw [e] at al
  have st0 : L2.start N (.ref x :: rest) = some (.ref x) :: (rest.map some ++ List.replicate (N.length - (rest.length + 1)) none) := rfl
  have r1 : Rel ⟨K, T, p, c⟩ U H (rest.map some ++ List.replicate (N.length - (rest.length + 1)) none) (ds.map Sl.fz ++ List.replicate (N.length - (ds.length + 1)) Sl.no) := by
    have z := rel_start (g := ⟨K, T, p, c⟩) (N := N.drop 1) dn
    unfold L2.start at z
    rw [List.length_drop, Nat.sub_sub, Nat.sub_sub, Nat.add_comm 1, Nat.add_comm 1] at z
    exact z
  have nn : ∀ i a, ¬ OwnAt (rest.map some ++ List.replicate (N.length - (rest.length + 1)) none) (ds.map Sl.fz ++ List.replicate (N.length - (ds.length + 1)) Sl.no) i a := fun i a ⟨_, z⟩ => by
    have : ∀ s : Sl, (ds.map Sl.fz ++ List.replicate (N.length - (ds.length + 1)) Sl.no)[i]? = some s → (∃ d, s = .fz d) ∨ s = .no := fun s e => by
      have m := List.mem_of_getElem? e
      rcases List.mem_append.mp m with m | m
      · obtain ⟨d, _, e⟩ := List.mem_map.mp m
        exact .inl ⟨d, e.symm⟩
      · exact .inr (List.mem_replicate.mp m).2
    rcases z with ⟨x, z⟩ | ⟨x, y, z⟩
    · rcases this _ z with ⟨d, e⟩ | e <;> cases e
    · rcases this _ z with ⟨d, e⟩ | e <;> cases e
  have own : ∀ i a, OwnAt (L2.start N (.ref x :: rest)) (.oi cn fs :: (ds.map Sl.fz ++ List.replicate (N.length - (ds.length + 1)) Sl.no)) i a → i = 0 ∧ a = x := fun i a z => by
    rw [st0] at z
    obtain ⟨z1, z2⟩ := z
    cases i with
    | zero =>
      rw [List.getElem?_cons_zero] at z1
      cases z1
      exact ⟨rfl, rfl⟩
    | succ i =>
      rw [List.getElem?_cons_succ] at z1
      rw [List.getElem?_cons_succ] at z2
      exact (nn i a ⟨z1, z2⟩).elim
  refine ss (· = x) U H U _ _ H b ⟨⟨?_, fun i s e => ?_, fun i j a ne h1 h2 => ?_⟩, wd, u, fun _ z => z, fun i a z => .inl (own i a z).2, fun _ _ z _ _ _ => z, fun i ds' a z1 z2 => ?_, fun i c' fs' a _ z1 z2 => ⟨fun _ => (own i a ⟨z2, .inr ⟨c', fs', z1⟩⟩).2, fun n => absurd (own i a ⟨z2, .inr ⟨c', fs', z1⟩⟩).1 n⟩⟩ ((al_bd.mp al).mono (fun f b1 h1 => ?_) (fun c fs b1 h1 => ?_))
  · rw [st0, List.length_cons, List.length_cons, r1.len]
  · rw [st0]
    cases i with
    | zero =>
      rw [List.getElem?_cons_zero] at e
      cases e
      exact ⟨_, rfl, x, dx, fvs, rfl, hx, df, ux, np, nc⟩
    | succ i =>
      rw [List.getElem?_cons_succ] at e
      rw [List.getElem?_cons_succ]
      exact r1.at_ i s e
  · exact ne ((own _ _ h1).1.trans (own _ _ h2).1.symm)
  · obtain ⟨rfl, _⟩ := own i a ⟨z2, .inl ⟨ds', z1⟩⟩
    cases z1
  · cases f with
    | nx w =>
      intro U' σ' H' ev s
      obtain ⟨o, e1, a, dx', fvs', rfl, ha, da, ua, _, _⟩ := s.rel.at_ 0 _ (he w)
      have ea := (s.oim 0 cn w a trivial (he w) e1).1 rfl
      subst ea
      exact h1 dx' fvs' H' ha (da.sub fun z _ y => s.sub z y) s.wd s.ext
    | rt d => exact h1.elim
    | bk e => exact nomatch e
    | ct e => exact nomatch e
  · exact fun dd fvs H' z1 z2 z3 z4 z5 => h1 dd fvs H' z1 z2 z3 z4 z5
end
end Gp
end
section
namespace Gp
open PySem PySem.Spec PyProof.Rows L2 Gh
section
variable {g : Gw} {U : Addr → Prop} {H H' H1 : Hp} {b : Nat} {E : XK} {Q : VK}
theorem denL_dp {K : PySem.W.Frag} : ∀ {vs : List V} {ds : List D} {es : List PyData}, DenL g U H vs ds → (∀ d ∈ ds, ∀ v e, Den g U H v d → toPy d = some e → Dp g.K H v e) → toPyL ds = some es → DpAll g.K H vs es
  | _, _, _, .nil, _, h => by cases h; exact .nil
  | _, d :: ds, es, .cons a r, ih, h => by
    unfold toPyL at h
    cases e1 : toPy d with
    | none => rw [e1] at h; cases h
    | some e =>
      cases e2 : toPyL ds with
      | none => rw [e1, e2] at h; cases h
      | some es' =>
        rw [e1, e2] at h
        cases h
        exact .cons (ih d List.mem_cons_self _ _ a e1) (denL_dp (K := K) r (fun d hd => ih d (List.mem_cons_of_mem _ hd)) e2)
theorem den_dp : ∀ (d : D) {v : V} {e : PyData}, Den g U H v d → toPy d = some e → Dp g.K H v e
  | .non, _, _, h, z => by cases h; cases z; exact .non
  | .bl b, _, _, h, z => by cases h; cases z; exact .bl b
  | .int i, _, _, h, z => by cases h; cases z; exact .int i
  | .str x, _, _, h, z => by cases h; cases z; exact .str x
  | .tup ds, v, e, h, z => by
    unfold toPy at z
    cases q : toPyL ds with
    | none => rw [q] at z; cases z
    | some es =>
      rw [q] at z
      cases z
      obtain ⟨a, vs, rfl, sq, _, k⟩ := den_tup h
      exact .tup sq (denL_dp (K := g.K) k (fun d hd v e h1 h2 => den_dp d h1 h2) q)
  | .lst ds, v, e, h, z => by
    unfold toPy at z
    cases q : toPyL ds with
    | none => rw [q] at z; cases z
    | some es =>
      rw [q] at z
      cases z
      obtain ⟨a, vs, rfl, hh, _, _, k⟩ := den_lst h
      exact .lst (SqL.of hh) (denL_dp (K := g.K) k (fun d hd v e h1 h2 => den_dp d h1 h2) q)
  | .obj _ _, _, _, _, z => by cases z
  | .err _ _, _, _, _, z => by cases z
  | .pen, _, _, _, z => by cases z
theorem new_lst {vs : List V} {ds : List D} (q : okP g U H Q (.lst ds) b) (w : Wd g H b) (u : UOk g U H) (l : vs.length ≤ sizeLine) (dn : DenL g U H vs ds) : ∀ p, H p = none → Q (.ref p) (upd H p (.lst vs)) := fun p np =>
  q _ _ (.lst upd_same (u.new np) l (dn.ext (fun a o e _ _ => same_new np a o e))) (w.same (same_new np)) (fr_same (same_new np))
theorem new_tup {vs : List V} {ds : List D} (q : okP g U H Q (.tup ds) b) (w : Wd g H b) (u : UOk g U H) (l : vs.length ≤ sizeLine) (dn : DenL g U H vs ds) : ∀ p, H p = none → Q (.ref p) (upd H p (.tup vs)) := fun p np =>
  q _ _ (.tup upd_same (u.new np) l (dn.ext (fun a o e _ _ => same_new np a o e))) (w.same (same_new np)) (fr_same (same_new np))
def iicD (c : Int → Int → Prop) [∀ i j, Decidable (c i j)] (f : Int → Int → D) (x y : D) : Tr D := match x, y with
  | .int i, .int j => if c i j then .ok (f i j) else .bad
  | _, _ => .bad
theorem al_ii {P : D → Nat → Prop} {X : Str → Fs → Nat → Prop} {f : Int → Int → D} {x y : D} (h : Al P X (iiD f x y) b) : ∃ i j, x = .int i ∧ y = .int j ∧ P (f i j) b := by
  unfold iiD at h
  split at h
  · exact ⟨_, _, rfl, rfl, h⟩
  · exact h.elim
theorem sr_ii {f : Int → Int → D} {f' : Int → Int → V} (hf : ∀ i j U H, Den g U H (f' i j) (f i j)) : SR2 g E (rI0 f') (iiD f) := fun U H b x y dx dy Q d1 d2 w u q => by
  obtain ⟨i, j, rfl, rfl, q1⟩ := al_ii q
  cases den_int d1
  cases den_int d2
  exact ⟨i, j, rfl, rfl, okP.here q1 w (hf i j U H)⟩
def leD : D → D → Tr D := iiD fun i j => .bl (decide (i ≤ j))
def gtD : D → D → Tr D := iiD fun i j => .bl (decide (j < i))
def geD : D → D → Tr D := iiD fun i j => .bl (decide (j ≤ i))
def subD : D → D → Tr D := iiD fun i j => .int (i - j)
def modD : D → D → Tr D := iicD (fun _ j => 0 < j) fun i j => .int (i % j)
def divD : D → D → Tr D := iicD (fun _ j => 0 < j ∧ j < 10 ^ 100) fun i j => .int (i / j)
theorem sr_lt : SR2 g E (rI0 fun i j => .bl (decide (i < j))) ltD := sr_ii fun _ _ _ _ => .bl _
theorem sr_le : SR2 g E (rI0 fun i j => .bl (decide (i ≤ j))) leD := sr_ii fun _ _ _ _ => .bl _
theorem sr_gt : SR2 g E (rI0 fun i j => .bl (decide (j < i))) gtD := sr_ii fun _ _ _ _ => .bl _
theorem sr_sub : SR2 g E (rI0 fun i j => .int (i - j)) subD := sr_ii fun _ _ _ _ => .int _
theorem sr_neg : SR1 g E (rU fun i => .int (-i)) negD := fun U H b x dx Q d1 w u q => by
  cases dx with
  | int i =>
    cases den_int d1
    exact ⟨i, rfl, okP.here q w (.int _)⟩
  | _ => exact q.elim
def addD (x y : D) : Tr D := match x, y with
  | .int i, .int j => .ok (.int (i + j))
  | .str a, .str b => if a.length + b.length ≤ sizeLine then .ok (.str (a ++ b)) else .bad
  | .lst a, .lst b => if a.length + b.length ≤ sizeLine then .ok (.lst (a ++ b)) else .bad
  | .tup a, .tup b => if a.length + b.length ≤ sizeLine then .ok (.tup (a ++ b)) else .bad
  | _, _ => .bad
def rAddA (K : PySem.W.Frag) : R2 := fun x y H Q => rI0 (fun i j => .int (i + j)) x y H Q ∨ (∃ i j, x = .str i ∧ y = .str j ∧ i.length + j.length ≤ sizeLine ∧ Q (.str (i ++ j)) H) ∨ rCat x y H Q ∨ rCatA K x y H Q
theorem op_addA {X : Cx} {K : PySem.W.Frag} (h : X.K = K) : OpR X (binaryOp .Add) (rAddA K) := h ▸ op_add.or (op_add_str.or (op_cat.or op_catA))
theorem str_app_len (a b : Str) : (a ++ b).length = a.length + b.length := by
  show (a.cps ++ b.cps).size = _
  rw [Array.size_append]
  rfl
theorem sr_add : SR2 g E (rAddA g.K) addD := fun U H b x y dx dy Q d1 d2 w u q => by
  unfold addD at q
  split at q
  · rename_i i j
    cases den_int d1
    cases den_int d2
    exact .inl ⟨i, j, rfl, rfl, okP.here q w (.int _)⟩
  · rename_i a c
    split at q
    · rename_i h
      obtain ⟨rfl, l1⟩ := den_str d1
      obtain ⟨rfl, l2⟩ := den_str d2
      exact .inr (.inl ⟨a, c, rfl, rfl, h, okP.here q w (.str _ (by rw [str_app_len]; exact h))⟩)
    · exact q.elim
  · rename_i a c
    split at q
    · rename_i h
      obtain ⟨p1, v1, rfl, h1, n1, l1, k1⟩ := den_lst d1
      obtain ⟨p2, v2, rfl, h2, n2, l2, k2⟩ := den_lst d2
      have hl : v1.length + v2.length ≤ sizeLine := by rw [k1.length, k2.length]; exact h
      exact .inr (.inr (.inl ⟨p1, p2, v1, v2, rfl, rfl, h1, h2, hl, new_lst q w u (by rw [List.length_append]; exact hl) (k1.append k2)⟩))
    · exact q.elim
  · rename_i a c
    split at q
    · rename_i h
      obtain ⟨p1, v1, rfl, h1, l1, k1⟩ := den_tup d1
      obtain ⟨p2, v2, rfl, h2, l2, k2⟩ := den_tup d2
      have hl : v1.length + v2.length ≤ sizeLine := by rw [k1.length, k2.length]; exact h
      refine .inr (.inr (.inr ⟨p1, p2, v1, v2, rfl, rfl, h1, h2, hl, fun e => ?_, fun _ e => ?_, fun _ _ => new_tup q w u (by rw [List.length_append]; exact hl) (k1.append k2)⟩))
      · subst e
        cases k1
        exact okP.here q w d2
      · subst e
        cases k2
        rw [List.append_nil] at q
        exact okP.here q w d1
    · exact q.elim
  · exact q.elim
def mulD (x y : D) : Tr D := match x, y with
  | .int i, .int j => if (-(2 ^ 64) < i ∧ i < 2 ^ 64) ∨ (-(2 ^ 64) < j ∧ j < 2 ^ 64) then .ok (.int (i * j)) else .bad
  | .lst a, .int k => if -(2 ^ 63) ≤ k ∧ k < 2 ^ 63 ∧ a.length * k.toNat ≤ sizeLine then .ok (.lst (List.replicate k.toNat a).flatten) else .bad
  | _, _ => .bad
def rMulA : R2 := fun x y H Q => rI CMul (fun i j => .int (i * j)) x y H Q ∨ rRep x y H Q
theorem op_mulA {X : Cx} : OpR X (binaryOp .Mult) rMulA := op_mul.or op_rep
theorem denL_rep {vs : List V} {ds : List D} (h : DenL g U H vs ds) : ∀ n : Nat, DenL g U H (List.replicate n vs).flatten (List.replicate n ds).flatten
  | 0 => .nil
  | n + 1 => by
    rw [List.replicate_succ, List.replicate_succ, List.flatten_cons, List.flatten_cons]
    exact h.append (denL_rep h n)
theorem sr_mul : SR2 g E rMulA mulD := fun U H b x y dx dy Q d1 d2 w u q => by
  unfold mulD at q
  split at q
  · rename_i i j
    split at q
    · rename_i h
      cases den_int d1
      cases den_int d2
      exact .inl ⟨i, j, rfl, rfl, h, okP.here q w (.int _)⟩
    · exact q.elim
  · rename_i a k
    split at q
    · rename_i h
      obtain ⟨p1, v1, rfl, h1, n1, l1, k1⟩ := den_lst d1
      cases den_int d2
      have e : v1.length * k.toNat ≤ sizeLine := by rw [k1.length]; exact h.2.2
      refine .inr ⟨p1, k, v1, rfl, rfl, h1, h.1, h.2.1, e, new_lst q w u ?_ (denL_rep k1 _)⟩
      rw [(denL_rep k1 k.toNat).length, List.length_flatten, List.map_replicate, List.sum_replicate_nat, Nat.mul_comm]
      exact h.2.2
    · exact q.elim
  · exact q.elim
def eqS : D → D → Option Bool
  | .non, .non => some true | .non, .int _ => some false | .int _, .non => some false | .non, .bl _ => some false | .bl _, .non => some false | .non, .str _ => some false | .str _, .non => some false
  | .int i, .int j => some (decide (i = j)) | .bl a, .bl c => some (decide (a = c)) | .str a, .str c => some (decide (a = c))
  | .int _, .str _ => some false | .str _, .int _ => some false | .bl _, .str _ => some false | .str _, .bl _ => some false
  | _, _ => none
def eqB (x y : D) : Tr Bool := match eqS x y with
  | some b => .ok b
  | none => match toPy x, toPy y with
    | some a, some c => if SeqAt.shaped a = true ∧ SeqAt.shaped c = true then .ok (PyData.eqv a c) else .bad
    | _, _ => .bad
def eqD (x y : D) : Tr D := bd (eqB x y) fun k => .ok (.bl k)
def neD (x y : D) : Tr D := bd (eqB x y) fun k => .ok (.bl (!k))
def rEqA (K : PySem.W.Frag) : R2 := fun x y H Q => rEq x y H Q ∨ rEqD K x y H Q
def rNeA (K : PySem.W.Frag) : R2 := fun x y H Q => rNe x y H Q ∨ rNeD K x y H Q
theorem op_eqA {X : Cx} {K : PySem.W.Frag} (h : X.K = K) (hu : X.A.units + 64 < cLine) : OpR X (compareOp .Eq) (rEqA K) := h ▸ op_eq.or (op_eqD hu)
theorem op_neA {X : Cx} {K : PySem.W.Frag} (h : X.K = K) (hu : X.A.units + 64 < cLine) : OpR X (compareOp .NotEq) (rNeA K) := h ▸ op_ne.or (op_neD hu)
theorem eqS_scal {x y : D} {v w : V} {k : Bool} (h : eqS x y = some k) (d1 : Den g U H v x) (d2 : Den g U H w y) : scal v w = true ∧ decide (v = w) = k := by
  cases x <;> cases y <;> first
    | (cases h; done)
    | (cases d1; cases d2; cases h; exact ⟨rfl, by simp⟩)
theorem al_eqB {P : Bool → Nat → Prop} {X : Str → Fs → Nat → Prop} {x y : D} (h : Al P X (eqB x y) b) : (∃ k, eqS x y = some k ∧ P k b) ∨ ∃ a c, toPy x = some a ∧ toPy y = some c ∧ SeqAt.shaped a = true ∧ SeqAt.shaped c = true ∧ P (PyData.eqv a c) b := by
  unfold eqB at h
  split at h
  · exact .inl ⟨_, by assumption, h⟩
  · split at h
    · split at h
      · rename_i e1 e2 z
        exact .inr ⟨_, _, e1, e2, z.1, z.2, h⟩
      · exact h.elim
    · exact h.elim
theorem sr_eq : SR2 g E (rEqA g.K) eqD := fun U H b x y dx dy Q d1 d2 w u q => by
  rcases al_eqB (al_bd.mp q) with ⟨k, e, q1⟩ | ⟨a, c, e1, e2, s1, s2, q1⟩
  · obtain ⟨h1, h2⟩ := eqS_scal e d1 d2
    refine .inl ⟨h1, ?_⟩
    rw [h2]
    exact okP.here q1 w (.bl _)
  · exact .inr ⟨a, c, den_dp dx d1 e1, den_dp dy d2 e2, s1, s2, okP.here q1 w (.bl _)⟩
theorem sr_ne : SR2 g E (rNeA g.K) neD := fun U H b x y dx dy Q d1 d2 w u q => by
  rcases al_eqB (al_bd.mp q) with ⟨k, e, q1⟩ | ⟨a, c, e1, e2, s1, s2, q1⟩
  · obtain ⟨h1, h2⟩ := eqS_scal e d1 d2
    refine .inl ⟨h1, ?_⟩
    rw [h2]
    exact okP.here q1 w (.bl _)
  · exact .inr ⟨a, c, den_dp dx d1 e1, den_dp dy d2 e2, s1, s2, okP.here q1 w (.bl _)⟩
def isN (x : D) : Bool := match x with
  | .non => true
  | _ => false
theorem den_non {v : V} {d : D} (h : Den g U H v d) : decide (v = .non) = isN d := by
  cases h <;> simp [isN]
theorem sr_isN : SR2 g E rIsN (fun x y => match y with | .non => .ok (.bl (isN x)) | _ => .bad) := fun U H b x y dx dy Q d1 d2 w u q => by
  cases dy with
  | non =>
    cases d2
    refine st_isN ?_
    rw [den_non d1]
    exact okP.here q w (.bl _)
  | _ => exact q.elim
theorem sr_notN : SR2 g E rNotN (fun x y => match y with | .non => .ok (.bl (!isN x)) | _ => .bad) := fun U H b x y dx dy Q d1 d2 w u q => by
  cases dy with
  | non =>
    cases d2
    refine st_notN ?_
    rw [den_non d1]
    exact okP.here q w (.bl _)
  | _ => exact q.elim
def ixD (x y : D) : Tr D := match x, y with
  | .lst ds, .int i => match atI ds i with | some d => .ok d | none => .bad
  | .tup ds, .int i => match atI ds i with | some d => .ok d | none => .bad
  | .str z, .int i => match atI z.cps.toList i with | some c => .ok (.str ⟨#[c]⟩) | none => .bad
  | _, _ => .bad
theorem ix_seqK {X : Cx} {K : PySem.W.Frag} (h : X.K = K) : IxR X (rIx K) := h ▸ ix_seq
theorem denL_at {vs : List V} {ds : List D} {i : Int} {d : D} (h : DenL g U H vs ds) (e : atI ds i = some d) : ∃ v, atI vs i = some v ∧ Den g U H v d := by
  unfold atI at e ⊢
  rw [h.length]
  cases q : ixN ds.length i with
  | none => rw [q] at e; cases e
  | some j =>
    rw [q] at e
    exact h.getD e
theorem sr_ix : SR2 g E (rIx g.K) ixD := fun U H b x y dx dy Q d1 d2 w u q => by
  unfold ixD at q
  split at q
  · rename_i ds i
    split at q
    · rename_i d e
      obtain ⟨p, vs, rfl, h, n, l, k⟩ := den_lst d1
      cases den_int d2
      obtain ⟨v, hv, dv⟩ := denL_at k e
      exact .inl ⟨p, vs, i, v, rfl, rfl, SqL.of h, hv, okP.here q w dv⟩
    · exact q.elim
  · rename_i ds i
    split at q
    · rename_i d e
      obtain ⟨p, vs, rfl, h, l, k⟩ := den_tup d1
      cases den_int d2
      obtain ⟨v, hv, dv⟩ := denL_at k e
      exact .inr (.inl ⟨p, vs, i, v, rfl, rfl, h, hv, okP.here q w dv⟩)
    · exact q.elim
  · rename_i z i
    split at q
    · rename_i c e
      obtain ⟨rfl, l⟩ := den_str d1
      cases den_int d2
      exact .inr (.inr ⟨z, i, c, rfl, rfl, l, e, okP.here q w den1⟩)
    · exact q.elim
  · exact q.elim
def lenD (x : D) : Tr D := match x with
  | .lst ds => .ok (.int ds.length)
  | .tup ds => .ok (.int ds.length)
  | .str z => .ok (.int z.length)
  | _ => .bad
theorem srl_len : SRL g E (rLn g.K) (ul1 lenD) := fun U H b xs dxs Q dn w u q => by
  obtain ⟨x, rfl, q1⟩ := al_ul1 q
  obtain ⟨v, rfl, d1⟩ := denL_1 dn
  cases x with
  | lst ds =>
    obtain ⟨p, vs, rfl, h, n, l, k⟩ := den_lst d1
    refine st_lenL h ?_
    rw [k.length]
    exact okP.here q1 w (.int _)
  | tup ds =>
    obtain ⟨p, vs, rfl, h, l, k⟩ := den_tup d1
    unfold rLn
    exact ⟨_, _, rfl, .inr ⟨vs, h, rfl⟩, by rw [k.length]; exact okP.here q1 w (.int _)⟩
  | str z =>
    obtain ⟨rfl, l⟩ := den_str d1
    exact st_lenS l (okP.here q1 w (.int _))
  | _ => exact q1.elim
def listD (x : D) : Tr D := match x with
  | .lst ds => .ok (.lst ds)
  | .tup ds => .ok (.lst ds)
  | _ => .bad
theorem srl_list : SRL g E (rListOf g.K) (ul1 listD) := fun U H b xs dxs Q dn w u q => by
  obtain ⟨x, rfl, q1⟩ := al_ul1 q
  obtain ⟨v, rfl, d1⟩ := denL_1 dn
  unfold rListOf
  cases x with
  | lst ds =>
    obtain ⟨p, vs, rfl, h, n, l, k⟩ := den_lst d1
    exact ⟨p, vs, rfl, .inl (SqL.of h), new_lst q1 w u l k⟩
  | tup ds =>
    obtain ⟨p, vs, rfl, h, l, k⟩ := den_tup d1
    exact ⟨p, vs, rfl, .inr h, new_lst q1 w u l k⟩
  | _ => exact q1.elim
def tupD (x : D) : Tr D := match x with
  | .lst ds => .ok (.tup ds)
  | .tup ds => .ok (.tup ds)
  | _ => .bad
theorem srl_tup : SRL g E (rTupOf g.K) (ul1 tupD) := fun U H b xs dxs Q dn w u q => by
  obtain ⟨x, rfl, q1⟩ := al_ul1 q
  obtain ⟨v, rfl, d1⟩ := denL_1 dn
  unfold rTupOf
  cases x with
  | lst ds =>
    obtain ⟨p, vs, rfl, h, n, l, k⟩ := den_lst d1
    exact ⟨p, vs, rfl, .inl ⟨SqL.of h, new_tup q1 w u l k⟩⟩
  | tup ds =>
    obtain ⟨p, vs, rfl, h, l, k⟩ := den_tup d1
    exact ⟨p, vs, rfl, .inr ⟨h, okP.here q1 w d1⟩⟩
  | _ => exact q1.elim
def intD (x : D) : Tr D := match x with
  | .int i => .ok (.int i)
  | .bl k => .ok (.int (if k = true then 1 else 0))
  | _ => .bad
theorem srl_int : SRL g E rInt (ul1 intD) := fun U H b xs dxs Q dn w u q => by
  obtain ⟨x, rfl, q1⟩ := al_ul1 q
  obtain ⟨v, rfl, d1⟩ := denL_1 dn
  cases x with
  | int i => cases d1; exact st_int (okP.here q1 w (.int _))
  | bl k => cases d1; exact st_intB (okP.here q1 w (.int _))
  | _ => exact q1.elim
def absD (x : D) : Tr D := match x with
  | .int i => .ok (.int (if i < 0 then -i else i))
  | _ => .bad
end
end Gp
end
section
namespace Gp
open PySem PySem.Spec PyProof.Rows L2 Gh
section
variable {g : Gw} {Mt U0 U U' : Addr → Prop} {H0 H H' H1 H2 : Hp} {b b1 : Nat} {σ : L2.St} {ε ε' : Env} {E : XK} {Q : VK} {W L W' : Type}
variable {env : W → Env} {envL : L → Env} {env' : W' → Env} {u ta tb : TS} {te : TE} {me : Tr D}
def SO (g : Gw) (E : XK) (ε : Env) (t : TO) (m : Tr (Option Int)) : Prop := ∀ U σ H b (Q : Option Int → Hp → Prop), Rel g U H σ ε → Wd g H b → UOk g U H → Al (fun o b' => ∀ H', Wd g H' b' → Fr H H' g.p → Q o H') (exP g U E H) m b → t σ H Q
def asI (d : D) : Tr (Option Int) := match d with
  | .int i => .ok (some i)
  | _ => .bad
theorem so_some (he : SE g E ε te me) : SO g E ε (tPart te) (bd me asI) := fun U σ H b Q R W u q =>
  he.step R W u q fun v d H1 b1 d1 w1 f1 R1 u1 q1 => by
    cases d with
    | int i =>
      cases den_int d1
      exact ⟨i, rfl, q1 H1 w1 f1⟩
    | _ => exact q1.elim
theorem SO.step {α : Type} {t : TO} {m : Tr (Option Int)} {k : Option Int → Tr α} {P : α → Nat → Prop} {Q : Option Int → Hp → Prop} (ha : SO g E ε t m) (R : Rel g U H σ ε) (W : Wd g H b) (u : UOk g U H) (h : Al P (exP g U E H) (bd m k) b)
    (hk : ∀ d H1 b1, Wd g H1 b1 → Fr H H1 g.p → Rel g U H1 σ ε → UOk g U H1 → Al P (exP g U E H1) (k d) b1 → Q d H1) : t σ H Q :=
  ha U σ H b Q R W u ((al_bd.mp h).mono (fun d b1 h1 H1 w1 f1 => hk d H1 b1 w1 f1 (R.fr u f1) (u.fr f1 w1) (al_frX f1 h1)) (fun _ _ _ h => h))
def cutG {α : Type} (xs : List α) (lo hi : Option Int) : List α := (xs.drop (HT.sIx xs.length 0 lo)).take (HT.sIx xs.length xs.length hi - HT.sIx xs.length 0 lo)
def slD (x : D) (lo hi : Option Int) : Tr D := match x with
  | .lst ds => .ok (.lst (cutG ds lo hi))
  | .tup ds => .ok (.tup (cutG ds lo hi))
  | .str z => if (cutS z lo hi).length ≤ sizeLine then .ok (.str (cutS z lo hi)) else .bad
  | _ => .bad
def rSlAll (K : PySem.W.Frag) : V → Option Int → Option Int → Hp → VK → Prop := fun x lo hi H Q => rSlL K x lo hi H Q ∨ rSlA K x lo hi H Q ∨ L2.rSlS x lo hi H Q
theorem sl_all {X : Cx} {K : PySem.W.Frag} (h : X.K = K) : L2.SlR X (rSlAll K) := h ▸ sl_list.or (sl_tupA.or sl_str)
theorem denL_cut {vs : List V} {ds : List D} (k : DenL g U H vs ds) (lo hi : Option Int) : DenL g U H (cutV vs lo hi) (cutG ds lo hi) := by
  unfold cutV cutG
  rw [k.length]
  exact (k.drop _).take _
theorem se_sl {tl th : TO} {ml mh : Tr (Option Int)} (he : SE g E ε te me) (hl : SO g E ε tl ml) (hh : SO g E ε th mh) : SE g E ε (tSl (rSlAll g.K) te tl th) (bd me fun x => bd ml fun lo => bd mh fun hi => slD x lo hi) := fun U σ H b Q R W u q =>
  he.step R W u q fun v d H1 b1 d1 w1 f1 R1 u1 q1 => hl.step R1 w1 u1 q1 fun lo H2 b2 w2 f2 R2 u2 q2 => hh.step R2 w2 u2 q2 fun hi H3 b3 w3 f3 R3 u3 q3 => by
    have d3 := d1.fr u1 (f2.trans f3)
    have q4 := q3.mono (P' := okP g U H3 Q) (fun _ _ h => okP.fr ((f1.trans f2).trans f3) h) (fun _ _ _ h => h)
    cases d with
    | lst ds =>
      obtain ⟨p, vs, rfl, h, n, l, k⟩ := den_lst d3
      exact .inl ⟨p, vs, rfl, SqL.of h, new_lst q4 w3 u3 (Nat.le_trans (cutV_length _ _ _) l) (denL_cut k lo hi)⟩
    | tup ds =>
      obtain ⟨p, vs, rfl, h, l, k⟩ := den_tup d3
      refine .inr (.inl ⟨p, vs, rfl, h, fun e => ?_, fun _ => new_tup q4 w3 u3 (Nat.le_trans (cutV_length _ _ _) l) (denL_cut k lo hi)⟩)
      have e2 : cutG ds lo hi = ds := by
        unfold cutG
        rw [← k.length, e.1, e.2, List.drop_zero, Nat.sub_zero, k.length]
        exact List.take_length
      have q5 : okP g U H3 Q (.tup (cutG ds lo hi)) b3 := q4
      rw [e2] at q5
      exact okP.here q5 w3 d3
    | str z =>
      obtain ⟨rfl, l⟩ := den_str d3
      by_cases hz : (cutS z lo hi).length ≤ sizeLine
      · have q5 : Al (okP g U H3 Q) (exP g U E H3) (if (cutS z lo hi).length ≤ sizeLine then .ok (.str (cutS z lo hi)) else .bad) b3 := q4
        rw [if_pos hz] at q5
        exact .inr (.inr ⟨z, rfl, l, okP.here q5 w3 (.str _ hz)⟩)
      · have q5 : Al (okP g U H3 Q) (exP g U E H3) (if (cutS z lo hi).length ≤ sizeLine then .ok (.str (cutS z lo hi)) else .bad) b3 := q4
        rw [if_neg hz] at q5
        exact q5.elim
    | _ => exact q4.elim
def SRg (g : Gw) (E : XK) (ε : Env) (t : L2.St → Hp → (Int → Int → Hp → Prop) → Prop) (m : Tr (Int × Int)) : Prop := ∀ U σ H b (Q : Int → Int → Hp → Prop), Rel g U H σ ε → Wd g H b → UOk g U H → Al (fun o b' => ∀ H', Wd g H' b' → Fr H H' g.p → Q o.1 o.2 H') (exP g U E H) m b → t σ H Q
def rgA1 (d : D) : Tr (Int × Int) := match d with
  | .int n => .ok (0, n)
  | _ => .bad
theorem srg_1 (he : SE g E ε te me) : SRg g E ε (tRg1 te) (bd me rgA1) := fun U σ H b Q R W u q =>
  he.step R W u q fun v d H1 b1 d1 w1 f1 R1 u1 q1 => by
    cases d with
    | int i =>
      cases den_int d1
      exact ⟨i, rfl, q1 H1 w1 f1⟩
    | _ => exact q1.elim
def rgOk (a b : Int) : Prop := -(2 ^ 62) ≤ a ∧ a < 2 ^ 62 ∧ -(2 ^ 62) ≤ b ∧ b < 2 ^ 62 ∧ b - a ≤ 16777216
instance (a b : Int) : Decidable (rgOk a b) := by unfold rgOk; infer_instance
theorem denL_rg (a b : Int) : DenL g U H (rgV a b) (rgD a (b - a).toNat) := by
  have e : ∀ ns : List Nat, DenL g U H (ns.map fun i => V.int (a + (i : Nat))) (ns.map fun i => D.int (a + (i : Nat))) := fun ns => by
    induction ns with
    | nil => exact .nil
    | cons n r ih => exact .cons (.int _) ih
  exact e _
theorem rgV_ok {a b : Int} (h : rgOk a b) : (rgV a b).length ≤ sizeLine := by
  rw [rgV_length, sizeLine_eq]
  have := h.2.2.2.2
  omega
theorem se_lstRg {t : L2.St → Hp → (Int → Int → Hp → Prop) → Prop} {m : Tr (Int × Int)} (he : SRg g E ε t m) : SE g E ε (tLstRg t) (bd m fun r => if rgOk r.1 r.2 then .ok (.lst (rgD r.1 (r.2 - r.1).toNat)) else .bad) := fun U σ H b Q R W u q =>
  he U σ H b _ R W u ((al_bd.mp q).mono (fun r b1 h1 H1 w1 f1 => by
    by_cases h : rgOk r.1 r.2
    · rw [if_pos h] at h1
      exact ⟨⟨h.1, h.2.1, h.2.2.1, h.2.2.2.1, by have := h.2.2.2.2; omega⟩, new_lst (okP.fr f1 h1) w1 (u.fr f1 w1) (rgV_ok h) (denL_rg _ _)⟩
    · rw [if_neg h] at h1
      exact h1.elim) (fun _ _ _ h => h))
def IsT (g : Gw) (u : Value) (f : D → Option Bool) : Prop := ∀ U H v d k, Den g U H v d → f d = some k → (∃ t, TyX g.K H v t ∧ PySem.W.kitOne g.K t u = some k) ∨ (∃ a C, v = .ref a ∧ H a = some (exk0 a C) ∧ ErrT g.K C ∧ PySem.W.kitOne g.K (.ref C) u = some k) ∨ ∃ a C dd fvs, v = .ref a ∧ H a = some (exk a C dd) ∧ H dd = some (.xd fvs) ∧ ErrT g.K C ∧ PySem.W.kitOne g.K (.ref C) u = some k
theorem se_isi {cv : V} {u : Value} {f : D → Option Bool} (hc : ClsV cv u) (hT : IsT g u f) (he : SE g E ε te me) : SE g E ε (tCB (rIsiZ g.K) (tCons te (tCons (tC cv) tNil))) (bd me fun d => bd (opt (f d)) fun k => .ok (.bl k)) := fun U σ H b Q R W uo q =>
  he.step R W uo q fun v d H1 b1 d1 w1 f1 R1 u1 q1 => by
    cases e : f d with
    | none => rw [e] at q1; exact q1.elim
    | some k =>
      rw [e] at q1
      have q2 := okP.here (okP.fr f1 q1) w1 (.bl k)
      rcases hT U H1 v d k d1 e with ⟨t, h1, h2⟩ | ⟨a, C, rfl, h1, h3, h4⟩ | ⟨a, C, dd, fvs, rfl, h1, h2, h3, h4⟩
      · exact .inl ⟨v, cv, t, u, k, rfl, hc, h1, h2, q2⟩
      · exact .inr (.inl ⟨a, C, cv, u, k, rfl, hc, h1, h3, h4, q2⟩)
      · exact .inr (.inr ⟨a, C, dd, fvs, cv, u, k, rfl, hc, h1, h2, h3, h4, q2⟩)
theorem kd_ty {v : V} {d : D} {n : String} (h : Den g U H v d) (e : kdN d = some n) : TyX g.K H v (.type n) := by
  cases h with
  | non => cases e; exact .base .non
  | bl b => cases e; exact .base (.bl b)
  | int i => cases e; exact .base (.int i)
  | str x _ => cases e; exact .base (.str x)
  | tup h _ _ _ => cases e; exact .base (.tup h)
  | tupW h _ _ _ =>
    cases e
    rcases h (fun _ => none) with (z | ⟨o, z⟩) | ⟨o, its, n, z1, z2, _⟩
    · cases z
    · cases z
    · exact .kTuple z1 z2
  | lst h _ _ _ => cases e; exact .base (.lst h)
  | obj _ _ _ => cases e
  | err _ _ _ _ _ => cases e
  | pen => cases e
  | cls _ => cases e
  | er0 _ _ => cases e
  | dct h _ => cases e; exact .base (.dK h)
  | dic h _ _ _ => cases e; exact .base (.dK h)
  | dit _ _ _ _ => cases e
  | dik _ _ _ _ => cases e
theorem isT_of {u : Value} {kb : String → Option Bool} {tab etab : List (Str × Bool)} (h1 : ∀ n k, kb n = some k → PySem.W.kitOne g.K (.type n) u = some k) (h2 : ∀ c k, tab.lookup c = some k → Cls g.K (gd c g.K) ∧ InsT g.K (gd c g.K) ∧ PySem.W.kitOne g.K (.ref (gd c g.K)) u = some k)
    (h3 : ∀ c k, etab.lookup c = some k → ErrT g.K (gd c g.K) ∧ PySem.W.kitOne g.K (.ref (gd c g.K)) u = some k) : IsT g u (isF kb tab etab) := fun U H v d k dn e => by
  have base : ∀ d, Den g U H v d → (kdN d).bind kb = some k → ∃ t, TyX g.K H v t ∧ PySem.W.kitOne g.K t u = some k := fun d dn e => by
    cases q : kdN d with
    | none => rw [q] at e; cases e
    | some n =>
      rw [q] at e
      exact ⟨_, kd_ty dn q, h1 n k e⟩
  cases d with
  | obj c fs =>
    obtain ⟨a, dx, fvs, rfl, ea, _, _⟩ := den_obj dn
    obtain ⟨z1, z2, z3⟩ := h2 c k e
    exact .inl ⟨_, z2.ty z1 ea, z3⟩
  | err c fs =>
    cases dn with
    | err ha _ hd _ _ =>
      obtain ⟨z1, z2⟩ := h3 c k e
      exact .inr (.inr ⟨_, _, _, _, rfl, ha, hd, z1, z2⟩)
  | non => exact .inl (base _ dn e)
  | bl b => exact .inl (base _ dn e)
  | int i => exact .inl (base _ dn e)
  | str x => exact .inl (base _ dn e)
  | lst ds => exact .inl (base _ dn e)
  | tup ds => exact .inl (base _ dn e)
  | pen => exact .inl (base _ dn e)
  | cls c => exact .inl (base _ dn e)
  | er0 c =>
    cases dn with
    | er0 ha _ =>
      obtain ⟨z1, z2⟩ := h3 c k e
      exact .inr (.inl ⟨_, _, rfl, ha, z1, z2⟩)
  | dct => exact .inl (base _ dn e)
  | dic ps => exact .inl (base _ dn e)
  | dit ps => exact .inl (base _ dn e)
  | dik ps => exact .inl (base _ dn e)
theorem den_shw {v : V} {d : D} {x : Str} (h : Den g U H v d) (e : shwD d = some x) : Shw g.K H v x := by
  have cmp : ∀ {a : Addr}, v = .ref a → (match toPy d with
    | some e => if e.showable = true ∧ e.hasDict = false ∧ e.depth ≤ 100 ∧ e.shown.length ≤ sizeLine then some e.shown else none
    | none => none) = some x → Shw g.K H v x := fun {a} ev e => by
    subst ev
    split at e
    · split at e
      · rename_i q z
        cases e
        exact .dp (den_dp d h q) z.1 z.2.1 z.2.2.1 z.2.2.2
      · cases e
    · cases e
  cases d with
  | non => cases h; cases e; exact .non
  | bl b => cases h; cases e; exact .bl b
  | int i =>
    cases h
    unfold shwD at e
    dsimp only at e
    split at e
    · cases e; exact .int i (by assumption)
    · cases e
  | str y =>
    cases h
    unfold shwD at e
    dsimp only at e
    split at e
    · cases e; exact .str y (by assumption)
    · cases e
  | tup ds =>
    obtain ⟨a, _, rfl, _⟩ := den_tup h
    exact cmp rfl e
  | lst ds =>
    obtain ⟨a, _, rfl, _⟩ := den_lst h
    exact cmp rfl e
  | obj c fs => cases e
  | dic ps => cases e
  | dit ps => cases e
  | dik ps => cases e
  | err c fs => cases e
  | pen => cases e
  | cls c => cases e
  | er0 c => cases e
  | dct => cases e
theorem srl_repr : SRL g E (rShow g.K) (ul1 reprD) := fun U H b xs dxs Q dn w u q => by
  obtain ⟨x, rfl, q1⟩ := al_ul1 q
  obtain ⟨v, rfl, d1⟩ := denL_1 dn
  unfold reprD at q1
  split at q1
  · rename_i z e
    split at q1
    · exact rShow_of (den_shw d1 e) (okP.here q1 w (.str _ (by assumption)))
    · exact q1.elim
  · exact q1.elim
theorem ss_setf {c f : Str} {fs : Fs} {k : D → Tr (Fl W L)} (he : SE g E ε te me) (hk : ∀ d, SS g E (ε.set 0 (.oi c (putD f d fs))) u env envL (k d)) (hi : ε[0]? = some (.oi c fs) := by rfl) :
    SS g E ε (tSeq (sF (gd c g.K) (tVar 0) te f) u) env envL (bd me fun d => if fs.length < 900 then k d else .bad) := fun Mt U0 H0 U Ds σ H b s q => by
  refine st_sF ?_
  refine he.sstep s q fun y d H1 b1 dy s1 q1 => ?_
  by_cases hl : fs.length < 900
  · rw [if_pos hl] at q1
    obtain ⟨o, eo, a, dx, fvs, rfl, ha, df, ua, n1, n2⟩ := s1.rel.at_ 0 _ hi
    refine ⟨.ref a, eo, st_setF ha (by rw [df.length]; omega) fun H2 m2 => ?_⟩
    have kp := m2.keep
    have xt : ExtU U H1 H2 := fun x o e ne _ => kp x o e (fun z => ne (z ▸ ua))
    have il : 0 < ε.length := (List.getElem?_eq_some_iff.mp hi).1
    have ow : ∀ j x, OwnAt σ (ε.set 0 (.oi c (putD f d fs))) j x → OwnAt σ ε j x := fun j x z => by
      obtain ⟨z1, z2⟩ := z
      by_cases q : 0 = j
      · subst q
        exact ⟨z1, .inr ⟨c, fs, hi⟩⟩
      · rw [List.getElem?_set_ne q] at z2
        exact ⟨z1, z2⟩
    have apart : ∀ j x, 0 ≠ j → OwnAt σ ε j x → x ≠ a := fun j x ne z e => by
      subst e
      exact s1.rel.apart 0 j x ne ⟨eo, .inr ⟨c, fs, hi⟩⟩ z
    have hmt := (s1.oim 0 c fs a trivial hi eo).1 rfl
    have ev : Ev U H1 U H2 := ⟨xt, fun _ _ _ n _ => n⟩
    refine hk d Mt U0 H0 U Ds σ H2 b1 ⟨⟨by rw [List.length_set]; exact s1.rel.len, fun j x e => ?_, fun j k x ne z1 z2 => s1.rel.apart j k x ne (ow _ _ z1) (ow _ _ z2)⟩, ⟨s1.wd.pen.keep kp n1 n2, tabs_muI m2 ha s1.wd.tabs⟩, ⟨s1.uok.p, s1.uok.c, fun x hx => ?_⟩, s1.sub, fun j x z => s1.own j x (ow _ _ z), fun x o e m1 m2 m3 => ?_, fun j xs x e1 e2 => ?_, fun j c' fs' x j0 e1 e2 => ?_⟩ (q1.mono (fun _ _ z => z.ev ev) (fun _ _ _ z => z))
    · by_cases q : 0 = j
      · subst q
        rw [List.getElem?_set_self il] at e
        cases e
        exact ⟨_, eo, a, dx, _, rfl, m2.at_, (df.put dy).ext xt, ua, n1, n2⟩
      · rw [List.getElem?_set_ne q] at e
        obtain ⟨o, e1, e2⟩ := s1.rel.at_ j x e
        refine ⟨o, e1, ?_⟩
        cases x with
        | no => trivial
        | fz d =>
          obtain ⟨v, e3, e4⟩ := e2
          exact ⟨v, e3, e4.ext xt⟩
        | ow ds2 =>
          obtain ⟨a2, v2, rfl, h2, d2, u2, m1, m2⟩ := e2
          have ne := apart j a2 q ⟨e1, .inl ⟨ds2, e⟩⟩
          exact ⟨a2, v2, rfl, kp _ _ h2 ne, d2.map (fun q => q.ext xt), u2, m1, m2⟩
        | oi c fs =>
          obtain ⟨a2, dx, v2, rfl, h2, d2, u2, m1, m2⟩ := e2
          have ne := apart j a2 q ⟨e1, .inr ⟨c, fs, e⟩⟩
          exact ⟨a2, dx, v2, rfl, kp _ _ h2 ne, d2.ext xt, u2, m1, m2⟩
    · by_cases q : x = a
      · subst q
        exact ⟨_, m2.at_, (fun _ z => by cases z), (fun _ z => by cases z)⟩
      · obtain ⟨o, e, t⟩ := s1.uok.al x hx
        exact ⟨o, kp x o e q, t⟩
    · exact kp x o (s1.ext x o e m1 m2 m3) (fun z => m2 (z ▸ hmt))
    · by_cases q : 0 = j
      · subst q
        rw [List.getElem?_set_self il] at e1
        cases e1
      · rw [List.getElem?_set_ne q] at e1
        exact s1.nu0 j xs x e1 e2
    · by_cases q : 0 = j
      · subst q
        exact s1.oim 0 c fs x trivial hi e2
      · rw [List.getElem?_set_ne q] at e1
        exact s1.oim j c' fs' x j0 e1 e2
  · rw [if_neg hl] at q1
    exact q1.elim
theorem ss_raise1 {c f : Str} (he : SE g E ε te me) : SS g E ε (tSeq (fun _ σ H => tMkO (gd c g.K) (spErr1 (gd c g.K) f) [] (tCons te tNil) σ H (fun cls d H' => E cls d H')) u) env envL (bd me fun d => .ex c [(f, d)]) := fun Mt U0 H0 U Ds σ H b s q => by
  show te σ H _
  refine he.sstep s q fun v d H1 b1 dv s1 q1 => ?_
  refine mk_err1 fun dd H2 sm nd hd => ?_
  have q2 : exS g Mt U0 H0 E c [(f, d)] b1 := q1
  exact q2 dd _ H2 hd (fun z => s1.uok.new nd (s1.sub _ z)) (.cons ((dv.ext (fun a o e _ _ => sm a o e)).sub fun a _ z => s1.sub a z) .nil) (s1.wd.same sm) (s1.ext.trans (fr_same sm))
end
end Gp
end
section
namespace Gp
open PySem PySem.Spec PyProof.Rows L2 Gh
section
variable {g : Gw} {Mt U0 U U' : Addr → Prop} {H0 H H' H1 H2 : Hp} {b b1 : Nat} {σ : L2.St} {ε ε' : Env} {E : XK} {Q : VK} {W L W' : Type}
variable {env : W → Env} {envL : L → Env} {env' : W' → Env} {u ta tb : TS} {te : TE} {me : Tr D}
theorem se_powK {a c r : Int} (h1 : 0 ≤ c ∧ c ≤ 1000) (h2 : -(2 ^ 60) < a ∧ a < 2 ^ 60) (h3 : a ^ c.toNat = r) : SE g E ε (tOp (rPowK r) (tC (.int a)) (tC (.int c))) (.ok (.int r)) := fun U σ H b Q R W u q =>
  st_powK ⟨h1.1, by omega, by omega⟩ h3 (okP.here q W (.int _))
theorem passA {X : Cx} {E : XK} : Passes CX0 X E := fun _ _ _ _ _ _ _ h => h.elim
theorem PE.or {X : Cx} {e : Expr} {t1 t2 : TE} (a : PE X e t1) (c : PE X e t2) : PE X e (fun σ H Q => t1 σ H Q ∨ t2 σ H Q) := ⟨fun pins s σ H Q I h => h.elim (a.run pins s σ H Q I) (c.run pins s σ H Q I)⟩
def IsA (g : Gw) (us : List Value) (f : D → Option Bool) : Prop := ∀ U H v d k, Den g U H v d → f d = some k → ∃ t, TyX g.K H v t ∧ PySem.W.kitAny g.K t us = some k
theorem tyX_new {K : PySem.W.Frag} {v : V} {t : Value} {p : Addr} {o : HO} (np : H p = none) (h : TyX K H v t) : TyX K (upd H p o) v t := by
  have s := same_new (o := o) np
  cases h with
  | base h =>
    cases h with
    | non => exact .base .non
    | bl x => exact .base (.bl x)
    | int i => exact .base (.int i)
    | str x => exact .base (.str x)
    | flt x => exact .base (.flt x)
    | lst e => exact .base (.lst (s _ _ e))
    | frz e => exact .base (.frz (s _ _ e))
    | tup e => exact .base (.tup (s _ _ e))
    | dK e => exact .base (.dK (s _ _ e))
    | dT e => exact .base (.dT (s _ _ e))
    | ins e cl ha hn htk hm => exact .base (.ins (s _ _ e) cl ha hn htk hm)
  | byt b => exact .byt b
  | set e => exact .set (s _ _ e)
  | kList e c => exact .kList e c
  | kTuple e c => exact .kTuple e c
  | kDict e c => exact .kDict e c
  | fTuple e => exact .fTuple (s _ _ e)
  | fDict e => exact .fDict (s _ _ e)
theorem se_isiT {n1 n2 : String} {f : D → Option Bool} (hT : IsA g [.type n1, .type n2] f) (he : SE g E ε te me) : SE g E ε (tCB (rIsiT g.K) (tCons te (tCons (tTup (tCons (tC (.ty n1)) (tCons (tC (.ty n2)) tNil))) tNil))) (bd me fun d => bd (opt (f d)) fun k => .ok (.bl k)) := fun U σ H b Q R W uo q =>
  he.step R W uo q fun v d H1 b1 d1 w1 f1 R1 u1 q1 => by
    refine ⟨by show 2 ≤ sizeLine; decide, fun p np => ?_⟩
    cases e : f d with
    | none => rw [e] at q1; exact q1.elim
    | some k =>
      rw [e] at q1
      obtain ⟨t, h1, h2⟩ := hT U H1 v d k d1 e
      have s := same_new (o := .tup [V.ty n1, V.ty n2]) np
      exact ⟨v, p, _, t, _, k, rfl, upd_same, .cons (.ty _) (.cons (.ty _) .nil), tyX_new np h1, h2, q1 _ _ (.bl k) (w1.same s) (f1.trans (fr_same s))⟩
theorem isA_of {us : List Value} {kb : String → Option Bool} {tab : List (Str × Bool)} (h1 : ∀ n k, kb n = some k → PySem.W.kitAny g.K (.type n) us = some k) (h2 : ∀ c k, tab.lookup c = some k → Cls g.K (gd c g.K) ∧ InsT g.K (gd c g.K) ∧ PySem.W.kitAny g.K (.ref (gd c g.K)) us = some k) : IsA g us (isF kb tab []) := fun U H v d k dn e => by
  have base : ∀ d, Den g U H v d → (kdN d).bind kb = some k → ∃ t, TyX g.K H v t ∧ PySem.W.kitAny g.K t us = some k := fun d dn e => by
    cases q : kdN d with
    | none => rw [q] at e; cases e
    | some n =>
      rw [q] at e
      exact ⟨_, kd_ty dn q, h1 n k e⟩
  cases d with
  | obj c fs =>
    obtain ⟨a, dx, fvs, rfl, ea, _, _⟩ := den_obj dn
    obtain ⟨z1, z2, z3⟩ := h2 c k e
    exact ⟨_, z2.ty z1 ea, z3⟩
  | err c fs => cases e
  | er0 c => cases e
  | non => exact base _ dn e
  | bl b => exact base _ dn e
  | int i => exact base _ dn e
  | str x => exact base _ dn e
  | lst ds => exact base _ dn e
  | tup ds => exact base _ dn e
  | pen => exact base _ dn e
  | cls c => exact base _ dn e
  | dct => exact base _ dn e
  | dic ps => exact base _ dn e
  | dit ps => exact base _ dn e
  | dik ps => exact base _ dn e
theorem spI_len {K : PySem.W.Frag} {T : List (Addr × Str)} {cn : Str} {F : Fs → List D → Tr Fs} {n : Nat} (hn : ∀ fs (P : Fs → Nat → Prop) (X : Str → Fs → Nat → Prop) ds b, Al P X (F fs ds) b → ds.length = n) {vs : List V} (h : spI K T cn F vs H Q E) : vs.length = n + 1 := by
  obtain ⟨p, c, U, ds, b, x, dx, fvs, fs, rest, rfl, hx, df, ux, np, nc, dn, wd, u, al⟩ := h
  rw [List.length_cons, dn.length, hn _ _ _ _ _ al]
theorem lenI1 {F : Fs → D → Tr Fs} (fs : Fs) (P : Fs → Nat → Prop) (X : Str → Fs → Nat → Prop) (ds : List D) (b : Nat) (h : Al P X (ul1 (F fs) ds) b) : ds.length = 1 := by obtain ⟨_, rfl, _⟩ := al_ul1 h; rfl
section
variable {K : PySem.W.Frag} {T : List (Addr × Str)} {N : List Str} {cn : Str} {vs : List V} {t : TS} {envI : Fs → Env}
theorem ini_of1 {F : Fs → D → Tr Fs} {m : Fs → D → Tr (Fl Fs Empty)} (h : spI K T cn (fun fs => ul1 (F fs)) vs H Q E) (hF : ∀ fs x, F fs x = finI (m fs x)) (hs : ∀ p c fs x, SS ⟨K, T, p, c⟩ E (.oi cn fs :: ([x].map Sl.fz ++ List.replicate (N.length - (1 + 1)) Sl.no)) t envI envE (m fs x)) (he : ∀ fs, (envI fs)[0]? = some (.oi cn fs) := by intro _; rfl) : t { nx := fun _ H' => Q .non H', rt := Q } (L2.start N vs) H :=
  ini_of h (fun p c fs ds ⟨_, _, _, al⟩ => by
    obtain ⟨x, rfl, _⟩ := al_ul1 al
    exact ⟨m fs x, hF fs x, hs p c fs x⟩) he
end
def spLaw (K : PySem.W.Frag) (T : List (Addr × Str)) : Sp := fun vs H Q _ => ∃ (a : Addr) (ns : List Int), vs = [.ref a] ∧ SqL K H a (ns.map V.int) ∧ ns.length ≤ 63 ∧ LamX.Tabs T H ∧ ∀ H', Q (.bl true) H'
theorem spLaw_len {K : PySem.W.Frag} {T : List (Addr × Str)} {vs : List V} (h : spLaw K T vs H Q E) : vs.length = 1 := by
  obtain ⟨a, ns, rfl, _⟩ := h
  rfl
theorem law_of {K : PySem.W.Frag} {T : List (Addr × Str)} {N : List Str} {i n : Nat} {F : Tr D} {m : Tr (Fl Unit Empty)} {vs : List V} {t : TS} {envU : Unit → Env} (yes : Yes F) (h : spLaw K T vs H Q E) (hN : N.length = n + 1) (hi : i < n + 1) (h0 : i ≠ 0) (hF : F = fin m)
    (hs : ∀ p c, SS ⟨K, T, p, c⟩ EF ((List.replicate (n + 1) Sl.no).set i (.fz .pen)) t envU envE m) : tSeq (tAsg (tCl (rSp (spPn K) [] E) (tCons (tVar 0) tNil)) (gName i)) t { nx := fun _ H' => Q .non H', rt := Q } (L2.start N vs) H := by
  obtain ⟨a, ns, rfl, hS, hl, hT, q⟩ := h
  have st0 : L2.start N [V.ref a] = some (.ref a) :: List.replicate n none := by
    unfold L2.start
    rw [List.length_singleton, hN]
    rfl
  rw [st0]
  refine ⟨.ref a, rfl, ?_⟩
  refine ⟨a, ns, rfl, hS, hl, fun p c H1 np pn s => ?_⟩
  obtain ⟨ns', i', z', h1, h2, _⟩ := id pn
  have wd : Wd ⟨K, T, p, c⟩ H1 1000000 := ⟨pn, hT.ext s⟩
  have u : UOk ⟨K, T, p, c⟩ (fun x => x = p ∨ x = c) H1 := ⟨.inl rfl, .inr rfl, fun x hx => by
    rcases hx with rfl | rfl
    · exact ⟨_, h1, (fun _ z => by cases z), (fun _ z => by cases z)⟩
    · exact ⟨_, h2, (fun _ z => by cases z), (fun _ z => by cases z)⟩⟩
  have own : ∀ j x, ¬ OwnAt ((some (V.ref a) :: List.replicate n none).set i (some (.ref p))) ((List.replicate (n + 1) Sl.no).set i (.fz .pen)) j x := fun j x z => by
    obtain ⟨_, z2⟩ := ownAt_set z
    rcases z2.2 with ⟨ds, e⟩ | ⟨c, fs, e⟩
    · cases (List.mem_replicate.mp (List.mem_of_getElem? e)).2
    · cases (List.mem_replicate.mp (List.mem_of_getElem? e)).2
  have rl0 : Rel ⟨K, T, p, c⟩ (fun x => x = p ∨ x = c) H1 (some (V.ref a) :: List.replicate n none) (List.replicate (n + 1) Sl.no) := by
    refine ⟨by rw [List.length_cons, List.length_replicate, List.length_replicate], fun j s e => ?_, fun j k x ne z1 z2 => ?_⟩
    · have hj := (List.getElem?_eq_some_iff.mp e).1
      rw [List.length_replicate] at hj
      obtain ⟨_, rfl⟩ := List.mem_replicate.mp (List.mem_of_getElem? e)
      have hl2 : j < (some (V.ref a) :: List.replicate n (none : Option V)).length := by rw [List.length_cons, List.length_replicate]; exact hj
      exact ⟨_, List.getElem?_eq_getElem hl2, trivial⟩
    · rcases z1.2 with ⟨ds, e⟩ | ⟨c, fs, e⟩
      · cases (List.mem_replicate.mp (List.mem_of_getElem? e)).2
      · cases (List.mem_replicate.mp (List.mem_of_getElem? e)).2
  have rl := rl0.set i (v := .ref p) (d := .pen) .pen
  have yes' : Al (fun d _ => d = .bl true) (fun _ _ _ => False) (fin m) 1000000 := hF ▸ yes
  refine hs p c (fun _ => False) (fun x => x = p ∨ x = c) H1 (fun x => x = p ∨ x = c) _ _ H1 1000000 ⟨rl, wd, u, fun _ z => z, fun j x z => (own j x z).elim, fun _ _ z _ _ _ => z, fun j ds x z1 z2 => (own j x ⟨z2, .inl ⟨ds, z1⟩⟩).elim, fun j cc fs x _ z1 z2 => (own j x ⟨z2, .inr ⟨cc, fs, z1⟩⟩).elim⟩ ((al_bd.mp yes').mono (fun f b h => ?_) (fun _ _ _ z => z.elim))
  cases f with
  | nx w => cases (show D.non = .bl true from h)
  | rt d =>
    have h' : d = .bl true := h
    subst h'
    intro v H2 dn _ _
    cases dn
    exact q H2
  | bk e => exact nomatch e
  | ct e => exact nomatch e
def lenO (c : Str) (F : List D → Tr D) (x : D) : Tr D := isO c x fun _ => bd (F [x]) fun d => match d with
  | .int i => if 0 ≤ i ∧ i < 2 ^ 62 then .ok (.int i) else .bad
  | _ => .bad
theorem srl_lenO {c : Str} {F : List D → Tr D} : SRL g E (rLenO (gd c g.K) (spF g.K g.T F) E) (ul1 (lenO c F)) := fun U H b xs dxs Q dn w u q => by
  obtain ⟨x, rfl, q1⟩ := al_ul1 q
  obtain ⟨v, rfl, d1⟩ := denL_1 dn
  obtain ⟨fs, rfl, q2⟩ := al_isO q1
  obtain ⟨a, da, fa, rfl, ea, _, _⟩ := den_obj d1
  refine st_lenO ea ⟨g.p, g.c, U, _, b, .cons d1 .nil, w, u, (al_bd.mp q2).mono (fun d b1 h1 v H1 dv w1 f1 => ?_) (fun _ _ _ z => z)⟩
  cases d with
  | int i =>
    cases den_int dv
    dsimp only at h1
    split at h1
    · rename_i z
      have ei : (i.toNat : Int) = i := Int.toNat_of_nonneg z.1
      refine ⟨i.toNat, by rw [ei], by omega, ?_⟩
      rw [ei]
      exact h1 _ H1 (.int i) w1 f1
    · exact h1.elim
  | _ => exact h1.elim
def ixO (c : Str) (F : List D → Tr D) (x y : D) : Tr D := isO c x fun _ => F [x, y]
theorem sr_ixO {c : Str} {F : List D → Tr D} : SR2 g E (rIxO (gd c g.K) (spF g.K g.T F) E) (ixO c F) := fun U H b x y dx dy Q d1 d2 w u q => by
  obtain ⟨fs, rfl, q1⟩ := al_isO q
  obtain ⟨a, da, fa, rfl, ea, _, _⟩ := den_obj d1
  exact st_ixO ea ⟨g.p, g.c, U, _, b, .cons d1 (.cons d2 .nil), w, u, q1⟩
end
end Gp
namespace Gp
open PySem PySem.Spec PyProof.Rows L2 Gh
section
variable {g : Gw}
theorem kitAny2 {K : PySem.W.Frag} {n a c : String} {k : Bool} (h : ((kitB n a).bind fun x => (kitB n c).map fun y => x || y) = some k) : PySem.W.kitAny K (.type n) [.type a, .type c] = some k := by
  cases e1 : kitB n a with
  | none => rw [e1] at h; cases h
  | some x =>
    cases e2 : kitB n c with
    | none => rw [e1, e2] at h; cases h
    | some y =>
      rw [e1, e2] at h
      cases h
      cases x with
      | true => exact kitAny_cons (kit_ty e1) (fun z => by cases z) (fun _ => rfl)
      | false =>
        refine kitAny_cons (kit_ty e1) (fun _ => ?_) (fun z => by cases z)
        cases y with
        | true => exact kitAny_cons (kit_ty e2) (fun z => by cases z) (fun _ => rfl)
        | false => exact kitAny_cons (kit_ty e2) (fun _ => rfl) (fun z => by cases z)
end
end Gp
namespace Gp
open PySem PySem.Spec PyProof.Rows L2 Gh
theorem fnOk_weak {P : Program} {w : World} {K : PySem.W.Frag} {mg : Str → Option Value} {base : Heap} {CX : CXT} {k : Nat} {f : Addr} {fd : FuncData} {ps : List Str} {sp sp' : Sp} (F : FnOk P w K mg base CX k f fd ps sp) (h : ∀ vs H Q E, sp' vs H Q E → sp vs H Q E) : FnOk P w K mg base CX k f fd ps sp' :=
  ⟨fun vs H Q E z => F.len vs H Q E (h _ _ _ _ z), fun A o s H a us vs Q E hr e0 hb r z => F.run A o s H a us vs Q E hr e0 hb r (h _ _ _ _ z)⟩
def F_draw (x y : D) : Tr D := match x, y with
  | .pen, .int m => .draw m fun d => .ok (.int d)
  | _, _ => .bad
theorem F_draw_eq (m : Int) : F_draw .pen (.int m) = .draw m fun d => .ok (.int d) := rfl
theorem draw_of {K : PySem.W.Frag} {T : List (Addr × Str)} {vs : List V} {H : Hp} {Q : VK} {E : XK} (h : spF K T (ul2 F_draw) vs H Q E) : spDr vs H Q E := by
  obtain ⟨p, c, U, ds, b, dn, wd, u, al⟩ := h
  obtain ⟨x, y, rfl, al2⟩ := al_ul2 al
  obtain ⟨v, w, rfl, d1, d2⟩ := denL_2 dn
  unfold F_draw at al2
  split at al2
  · rename_i m
    cases d1
    cases d2
    obtain ⟨b', rfl, h0, h1, h2⟩ := al2
    refine ⟨p, c, b', m, rfl, h0, log_of h0 h1, wd.pen, fun d H' d0 d1 pn k => ?_⟩
    exact h2 d d0 d1 (.int d) H' (.int d) ⟨pn, tabs_keepP k wd.pen wd.tabs⟩ (keep_fr k)
  · exact al2.elim
end Gp
end
section
namespace Gp
open PySem PySem.Spec PyProof.Rows L2 Gh
def intsD : List D → Option (List Int)
  | [] => some []
  | .int i :: r => (intsD r).map (i :: ·)
  | _ => none
section
variable {g : Gw} {U : Addr → Prop} {H : Hp} {b : Nat} {E : XK} {Q : VK} {ε : Env} {te : TE} {me : Tr D}
theorem ints_den : ∀ {vs : List V} {ds : List D} {ns : List Int}, DenL g U H vs ds → intsD ds = some ns → vs = ns.map V.int
  | _, _, _, .nil, h => by cases h; rfl
  | _, d :: ds, ns, .cons a r, h => by
    cases d with
    | int i =>
      cases q : intsD ds with
      | none => unfold intsD at h; rw [q] at h; cases h
      | some z =>
        unfold intsD at h
        rw [q] at h
        cases h
        rw [den_int a, ints_den r q]
        rfl
    | _ => cases h
def lsI (x : D) (k : List Int → Tr D) : Tr D := match x with
  | .lst ds => match intsD ds with
    | some ns => k ns
    | none => .bad
  | _ => .bad
theorem al_lsI {P : D → Nat → Prop} {X : Str → Fs → Nat → Prop} {x : D} {k : List Int → Tr D} {v : V} (dn : Den g U H v x) (h : Al P X (lsI x k) b) : ∃ a ns, v = .ref a ∧ SqL g.K H a (ns.map V.int) ∧ x = .lst (ns.map D.int) ∧ ns.length ≤ sizeLine ∧ Al P X (k ns) b := by
  unfold lsI at h
  split at h
  · rename_i ds
    split at h
    · rename_i ns e
      obtain ⟨a, vs, rfl, hh, _, l, kk⟩ := den_lst dn
      have e2 := ints_den kk e
      subst e2
      refine ⟨a, ns, rfl, SqL.of hh, ?_, by rw [List.length_map] at l; exact l, h⟩
      congr 1
      clear kk l hh dn h
      induction ds generalizing ns with
      | nil => cases e; rfl
      | cons d r ih =>
        cases d with
        | int i =>
          unfold intsD at e
          cases q : intsD r with
          | none => rw [q] at e; cases e
          | some z =>
            rw [q] at e
            cases e
            rw [List.map_cons, ← ih z q]
        | _ => cases e
    · exact h.elim
  · exact h.elim
def minI : List Int → Int
  | [] => 0
  | [a] => a
  | a :: r => if a ≤ minI r then a else minI r
theorem minI_ok : ∀ (ns : List Int), 0 < ns.length → minI ns ∈ ns ∧ ∀ y ∈ ns, minI ns ≤ y
  | [], h => by cases h
  | [a], _ => ⟨List.mem_singleton.mpr rfl, fun y hy => by rw [List.mem_singleton.mp hy]; exact Int.le_refl _⟩
  | a :: c :: r, _ => by
    obtain ⟨h1, h2⟩ := minI_ok (c :: r) (Nat.succ_pos _)
    have e : minI (a :: c :: r) = if a ≤ minI (c :: r) then a else minI (c :: r) := rfl
    rw [e]
    split
    · refine ⟨List.mem_cons_self, fun y hy => ?_⟩
      rcases List.mem_cons.mp hy with rfl | hy
      · exact Int.le_refl _
      · exact Int.le_trans (by assumption) (h2 y hy)
    · refine ⟨List.mem_cons_of_mem _ h1, fun y hy => ?_⟩
      rcases List.mem_cons.mp hy with rfl | hy
      · omega
      · exact h2 y hy
def minD (x : D) : Tr D := lsI x fun ns => if 0 < ns.length then .ok (.int (minI ns)) else .bad
theorem cr_minK0 {X : Cx} {K : PySem.W.Frag} (h : X.K = K) (hc : X.calm = true) : CallR X (.builtin "min") (rMin K) := h ▸ cr_min hc
theorem srl_min : SRL g E (rMin g.K) (ul1 minD) := fun U H b xs dxs Q dn w u q => by
  obtain ⟨x, rfl, q1⟩ := al_ul1 q
  obtain ⟨v, rfl, d1⟩ := denL_1 dn
  obtain ⟨a, ns, rfl, h1, _, _, q2⟩ := al_lsI d1 q1
  by_cases h0 : 0 < ns.length
  · rw [if_pos h0] at q2
    obtain ⟨z1, z2⟩ := minI_ok ns h0
    refine ⟨a, ns, rfl, h1, h0, fun m hm hle => ?_⟩
    have e : m = minI ns := Int.le_antisymm (hle _ z1) (z2 m hm)
    rw [e]
    exact okP.here q2 w (.int _)
  · rw [if_neg h0] at q2
    exact q2.elim
end
end Gp
end
section
namespace Gp
open PySem PySem.Spec PyProof.Rows L2 Gh
def tryT {α β : Type} : Tr α → (α → Tr β) → (Str → Fs → Tr β) → Tr β
  | .ok a, k, _ => k a
  | .ex c fs, _, x => x c fs
  | .bad, _, _ => .bad
  | .draw m f, k, x => .draw m fun d => tryT (f d) k x
theorem al_try {α β : Type} {P : β → Nat → Prop} {E : Str → Fs → Nat → Prop} {m : Tr α} {k : α → Tr β} {x : Str → Fs → Tr β} {b : Nat} : Al P E (tryT m k x) b ↔ Al (fun a b1 => Al P E (k a) b1) (fun c fs b1 => Al P E (x c fs) b1) m b := by
  induction m generalizing b with
  | draw m f ih =>
    constructor
    · rintro ⟨b', e, h1, h2, h3⟩
      exact ⟨b', e, h1, h2, fun d d0 d1 => (ih d).mp (h3 d d0 d1)⟩
    · rintro ⟨b', e, h1, h2, h3⟩
      exact ⟨b', e, h1, h2, fun d d0 d1 => (ih d).mpr (h3 d d0 d1)⟩
  | _ => exact Iff.rfl
def THd (K : PySem.W.Frag) (T : List (Addr × Str)) (FH : Tr D → Tr D) : (XK → Hp → VK → Prop) → Hp → VK → Prop := fun tl H Q => ∃ p c U b m, Wd ⟨K, T, p, c⟩ H b ∧ UOk ⟨K, T, p, c⟩ U H ∧
  (∀ (E : XK) H' b' Q', Fr H H' p → Wd ⟨K, T, p, c⟩ H' b' → Al (okP ⟨K, T, p, c⟩ U H' Q') (exP ⟨K, T, p, c⟩ U E H') m b' → tl E H' Q') ∧ Al (okP ⟨K, T, p, c⟩ U H Q) (fun _ _ _ => False) (FH m) b
section
variable {g : Gw} {Mt U0 U U' : Addr → Prop} {H0 H H' H1 H2 : Hp} {b b1 : Nat} {σ : L2.St} {ε ε' : Env} {E : XK} {W L W' : Type}
variable {env : W → Env} {envL : L → Env} {env' : W' → Env} {u ta tb : TS} {te : TE} {me : Tr D}
theorem UOk.extN (u : UOk g U H) (n : LamX.ExtN H H') : UOk g U H' := ⟨u.p, u.c, fun a ha => by
  obtain ⟨o, h, z⟩ := u.al a ha
  exact ⟨o, n a o h z.tbl, z⟩⟩
theorem se_lam {FH : Tr D → Tr D} {t : XK → TE} {m : Tr D} (h : ∀ E, SE g E ε (t E) m) : SE g E ε (LamX.tLam g.T (THd g.K g.T FH) t) (nox (FH m)) := fun U σ H b Q R W u q => by
  refine ⟨W.tabs, fun H1 n t1 => ⟨g.p, g.c, U, b, m, ⟨W.pen.extN n, t1⟩, u.extN n, fun E H' b' Q' f w' a' => ?_, ?_⟩⟩
  · have f1 : Fr H H' g.p := (ext_fr n).trans f
    exact h E U σ H' b' Q' (R.fr u f1) w' (u.fr f1 w') a'
  · exact Al.mono (fun _ _ z => okP.fr (ext_fr n) z) (fun _ _ _ z => z) (al_nox (E' := fun _ _ _ => False) q)
theorem fin_al {P : D → Nat → Prop} {X : Str → Fs → Nat → Prop} {m : Tr (Fl Unit Empty)} (h : Al P X (fin m) b) : Al (fun f b => match f with | .nx _ => P .non b | .rt d => P d b | .bk e => nomatch e | .ct e => nomatch e) X m b := by
  refine (al_bd.mp h).mono (fun f b h => ?_) (fun _ _ _ h => h)
  cases f with
  | nx w => exact h
  | rt d => exact h
  | bk e => exact nomatch e
  | ct e => exact nomatch e
theorem run_rest {t : TS} {envU : Unit → Env} {m : Tr (Fl Unit Empty)} {Q : VK} (ss : SS g EF ε t envU envE m) (R : Rel g U H1 σ ε) (no : ∀ i a, ¬ OwnAt σ ε i a) (w : Wd g H1 b) (u : UOk g U H1) (f : Fr H H1 g.p) (al : Al (okP g U H Q) (fun _ _ _ => False) (fin m) b) :
    t { nx := fun _ H' => Q .non H', rt := Q } σ H1 := by
  refine ss (fun _ => False) U H U _ _ H1 b ⟨R, w, u, fun _ z => z, fun i a z => (no i a z).elim, fun a o z1 z2 _ z3 => f a o z1 z2 z3, fun i ds' a z1 z2 => (no i a ⟨z2, .inl ⟨ds', z1⟩⟩).elim, fun i c fs a _ z1 z2 => (no i a ⟨z2, .inr ⟨c, fs, z1⟩⟩).elim⟩ ((fin_al al).mono (fun f b1 h1 => ?_) (fun c fs b1 h1 => h1.elim))
  cases f with
  | nx w => exact fun U' σ' H' e s => h1 .non H' .non s.wd fun a o z1 z2 z3 => s.ext a o z1 z2 (fun z => z) z3
  | rt d => exact fun v H' dn w f => h1 v H' dn w fun a o z1 z2 z3 => f a o z1 z2 (fun z => z) z3
  | bk e => exact nomatch e
  | ct e => exact nomatch e
def ExH (g : Gw) (U : Addr → Prop) (H : Hp) (Q : VK) (x : Str → Fs → Tr D) : XK := fun cls d H' => ∃ cl fs b1 dd fvs, cls = .ref (gd cl g.K) ∧ d = some dd ∧ H' dd = some (.xd fvs) ∧ ¬ U dd ∧ DenF g U H' fvs fs ∧ Wd g H' b1 ∧ Fr H H' g.p ∧ Al (okP g U H Q) (fun _ _ _ => False) (x cl fs) b1
end
end Gp
end
section
namespace Gp
open PySem PySem.Spec PyProof.Rows L2 Gh
section
variable {g : Gw} {Mt U0 U U' : Addr → Prop} {H0 H H' H1 H2 : Hp} {b b1 b2 : Nat} {σ : L2.St} {ε ε' : Env} {E : XK} {W L W' : Type}
variable {env : W → Env} {envL : L → Env} {env' : W' → Env} {u ta tb : TS} {te : TE} {me : Tr D}
end
section
variable {K : PySem.W.Frag} {x qual file : Str} {params : Arguments} {body : List Stmt} {scope : Scope} {dvs : List V} {f B : Addr} {fd : FuncData} {ps : List Str}
theorem SupF.bindsN (F : SupF K x qual params body scope [] f B file fd)
    (h : ∀ (cl : List (Str × Addr)) (kV doc pm : Value) (an : Option Addr) (cdv ct : Value) (us : List Value), us.length = ps.length → bindArgs (PySem.W.fnX x qual params body scope cl .none kV doc pm an cdv ct) ⟨us, []⟩ = pure (ps.zip us)) : Binds K fd ps [] := by
  obtain ⟨oc, od, dV, kV, doc, pm, an, cda, ct, osl, cc, rfl, lk, hcd, hD, _⟩ := F.ex
  rcases hD with ⟨_, rfl⟩ | ⟨e, _⟩
  · exact .all (h _ kV doc pm an _ ct)
  · exact absurd rfl e
end
end Gp
end
section
namespace Gp
open PySem PySem.Spec PyProof.Rows L2 Gh
def iEnA (K : PySem.W.Frag) (ta : TA) : TI := fun σ H R => ta σ H fun vs H1 => (∃ a xs, vs = [.ref a] ∧ SqL K H1 a xs ∧ R (Ite K a) H1) ∨ ∃ a xs, vs = [.ref a] ∧ SqT K H1 a xs ∧ R (Itu K a) H1
def enD : D → Tr (List D)
  | .lst ds => .ok (ds.mapIdx fun i d => .tup [.int i, d])
  | .tup ds => .ok (ds.mapIdx fun i d => .tup [.int i, d])
  | _ => .bad
section
variable {g : Gw} {Mt U0 U U' : Addr → Prop} {H0 H H' H1 H2 : Hp} {b b1 b2 : Nat} {σ : L2.St} {ε ε' : Env} {E : XK}
theorem pi_enumA {X : Cx} {K : PySem.W.Frag} {e : Expr} {ta : TA} {p pos tpos : Pos} {elts : List Expr} {kk : Nat} (hK : X.K = K) (hg : Gl X "enumerate") (hm : X.mg "enumerate" = none) (ha : PA X [e] ta) (hs : starEach [e] X.env = [(false, eval e X.env)] := by rfl) :
    PI X (.Tuple elts kk tpos) (.Call (.Name "enumerate" p) [e] [] pos) (iEnA K ta) := by
  subst hK
  refine ⟨fun pins s σ H R I h => ?_⟩
  refine Call_ (ld_blt I hg hm boot_enumerate (PyProof.Rows.callWith_type1 (thn (ha.run pos pins s σ H _ I h) fun us s1 ⟨vs, H1, I1, r1, q1⟩ => ?_) hs rfl))
  have fp : ∀ b ∈ [s1.heap.objs.size + 1, s1.heap.objs.size], FpOk X pins H1 b := fun b hb => by
    have e' : b = s1.heap.objs.size + 1 ∨ b = s1.heap.objs.size := by simpa using hb
    have hle : s1.heap.objs.size ≤ b := by
      rcases e' with z | z
      · rw [z]; exact Nat.le_add_right _ _
      · rw [z]; exact Nat.le_refl _
    exact I1.fpOk hle (I1.hok.fresh hle)
  rcases q1 with ⟨a, xs, ex, hq, q⟩ | ⟨a, xs, ex, hq, q⟩
  · subst ex
    cases r1 with
    | cons r rr =>
      cases rr
      cases r
      obtain ⟨its, rv, p', hz⟩ := I1.list hq
      refine call_enumerate_list p'.isList fun h' he hit hsz hk => wpAny_pyIter_enum he ?_
      have I2 : Inv X pins σ H1 { s1 with heap := h' } := I1.kept (t' := s1.toks) hk
      exact ⟨s1.heap.objs.size + 1, [s1.heap.objs.size + 1, s1.heap.objs.size], _, _, H1, rfl, I2, turn_enum a (s1.heap.objs.size + 1) s1.heap.objs.size, ⟨⟨.none, he⟩, hit, Nat.succ_ne_self _⟩, fp, q⟩
  · subst ex
    cases r1 with
    | cons r rr =>
      cases rr
      cases r
      obtain ⟨its, rv, p', hz⟩ := I1.tuple hq
      have hal : a < s1.heap.objs.size := by obtain ⟨_, z, _⟩ := p'; exact Heap.lt_size z
      refine call_enumerate_tup p' fun h' he hit hsz hk => wpAny_pyIter_enum he ?_
      have I2 : Inv X pins σ H1 { s1 with heap := h' } := I1.kept (t' := s1.toks) hk
      exact ⟨s1.heap.objs.size + 1, [s1.heap.objs.size + 1, s1.heap.objs.size], _, _, H1, rfl, I2, turn_enumT a (s1.heap.objs.size + 1) s1.heap.objs.size, ⟨⟨.none, he⟩, hit, Nat.succ_ne_self _, Nat.ne_of_lt hal, Nat.ne_of_gt (Nat.lt_succ_of_lt hal)⟩, fp, q⟩
theorem den_pair {x : V} {d : D} {T : Addr} (i : Nat) (u : UOk g U H1) (n : H1 T = none) (h : Den g U H1 x d) : Den g U (upd H1 T (.tup [.int i, x])) (.ref T) (.tup [.int i, d]) := by
  have s := same_new (o := .tup [.int i, x]) n
  exact .tup upd_same (u.new n) (by show 2 ≤ sizeLine; decide) (.cons (.int _) (.cons (h.ext (u.extU (fr_same s))) .nil))
theorem itd_enL {a : Addr} {vs : List V} {ds : List D} (h : H a = some (.lst vs)) (n : ¬ U a) (k : DenL g U H vs ds) : ItD g U H (Ite g.K a) (ds.mapIdx fun i d => .tup [.int i, d]) := fun i U1 H1 b e w u => by
  have h1 : H1 a = some (.lst vs) := e.keep _ _ h n (fun _ z => by cases z)
  refine ⟨fun d hd => ?_, fun hl => ⟨vs, SqL.of h1, by rw [k.length]; rw [List.length_mapIdx] at hl; exact Nat.le_of_eq hl⟩⟩
  rw [List.getElem?_mapIdx] at hd
  cases q : ds[i]? with
  | none => rw [q] at hd; cases hd
  | some d0 =>
    rw [q] at hd
    cases hd
    obtain ⟨v, hv, dn⟩ := k.getD q
    refine ⟨⟨vs, v, SqL.of h1, hv⟩, ?_⟩
    rintro x H2 ⟨T, y, rfl, nT, rfl, hy⟩
    have e2 := hy vs (SqL.of h1)
    rw [hv] at e2
    cases e2
    exact ⟨den_pair i u nT (dn.ev e), same_new nT⟩
theorem itd_enT {a : Addr} {vs : List V} {ds : List D} (h : ∀ U1 H1, Ev U H U1 H1 → SqT g.K H1 a vs) (k : DenL g U H vs ds) : ItD g U H (Itu g.K a) (ds.mapIdx fun i d => .tup [.int i, d]) := fun i U1 H1 b e w u => by
  have h1 := h U1 H1 e
  refine ⟨fun d hd => ?_, fun hl => ⟨vs, h1, by rw [k.length]; rw [List.length_mapIdx] at hl; exact hl⟩⟩
  rw [List.getElem?_mapIdx] at hd
  cases q : ds[i]? with
  | none => rw [q] at hd; cases hd
  | some d0 =>
    rw [q] at hd
    cases hd
    obtain ⟨v, hv, dn⟩ := k.getD q
    refine ⟨⟨vs, v, h1, hv⟩, ?_⟩
    rintro x H2 ⟨T, y, rfl, nT, rfl, hy⟩
    have e2 := hy vs h1
    rw [hv] at e2
    cases e2
    exact ⟨den_pair i u nT (dn.ev e), same_new nT⟩
theorem si_enum {t : TA} {m : Tr (List D)} (ha : SA g E ε t m) : SI g E ε (iEnA g.K t) (bd m (ul1 enD)) := fun U σ H b R rl wd u q =>
  ha.step rl wd u q fun v d H1 b1 d1 w1 f1 R1 u1 q1 => by
    obtain ⟨x, rfl, q2⟩ := al_ul1 q1
    obtain ⟨v, rfl, e1⟩ := denL_1 d1
    cases x with
    | lst ds =>
      obtain ⟨a, vs, rfl, h, n, l, k⟩ := den_lst e1
      exact .inl ⟨a, vs, rfl, SqL.of h, q2 _ H1 (by rw [List.length_mapIdx, ← k.length]; exact l) (itd_enL h n k) w1 f1⟩
    | tup ds =>
      obtain ⟨a, vs, rfl, h, l, k⟩ := den_tupE e1
      exact .inr ⟨a, vs, rfl, h U H1 Ev.refl, q2 _ H1 (by rw [List.length_mapIdx, ← k.length]; exact l) (itd_enT h k) w1 f1⟩
    | _ => exact q2.elim
variable {W L : Type} {env : W → Env} {envL : L → Env} {a r : TS} {t : TS} {m : Tr (Fl W L)}
end
end Gp
end
section
namespace Gp
open PySem PySem.Spec PyProof.Rows L2 Gh
theorem obsL_eq {as : List Addr} {ex : List (PySem.W.Frag → Bool)} {fn : List Df} {tf : List He.Defn} {fs : List Ds} {file : Str} {g : Addr → Option Obj} {s : Shared} (h : ∀ a, g a = s.heap.get? a) : obsL as ex fn tf fs file g = (hookL as ex fn tf fs file).obs s := by
  have e : g = s.heap.get? := funext h
  rw [e] <;> rfl
end Gp
end
section
namespace Gp
open PySem PySem.Spec PyProof.Rows L2 Gh
section
variable {g : Gw} {Mt U0 U U' : Addr → Prop} {H0 H H' H1 H2 : Hp} {b b1 : Nat} {σ : L2.St} {ε ε' : Env} {W L W' : Type} {yd : List D}
variable {env : W → Env} {envL : L → Env} {env' : W' → Env} {u ta tb : TGn} {te : TE} {me : Tr D}
def SG (g : Gw) (ε : Env) (t : TGn) (env : W → Env) (envL : L → Env) (m : List D → Tr (List D × Fl W L)) : Prop := ∀ Mt U0 H0 U D ys yd σ H b, Stt g Mt U0 H0 U σ H b ε → DenL g U H ys yd → Al (gflP g Mt U0 H0 U H D env envL) (fun _ _ _ => False) (m yd) b → t D ys σ H
def bdG (m : Tr (List D × Fl W' L)) (k : W' → List D → Tr (List D × Fl W L)) : Tr (List D × Fl W L) := bd m fun r => match r with
  | (zs, .nx w) => k w zs
  | (zs, .rt d) => .ok (zs, .rt d)
  | (zs, .bk l) => .ok (zs, .bk l)
  | (zs, .ct l) => .ok (zs, .ct l)
theorem SG.seq {m : List D → Tr (List D × Fl W' L)} {k : W' → List D → Tr (List D × Fl W L)} (h1 : SG g ε ta env' envL m) (h2 : ∀ w, SG g (env' w) u env envL (k w)) : SG g ε (tGThen ta u) env envL (fun yd => bdG (m yd) k) := fun Mt U0 H0 U D ys yd σ H b s dn q => by
  refine h1 Mt U0 H0 U { D with nx := fun ys' σ' H' => u D ys' σ' H' } ys yd σ H b s dn ((al_bd.mp q).mono (fun r b1 h => ?_) (fun _ _ _ z => z))
  obtain ⟨zs, f⟩ := r
  cases f with
  | nx w => exact fun U1 σ1 H1 ys1 e1 s1 d1 => h2 w Mt U0 H0 U1 D ys1 zs σ1 H1 b1 s1 d1 (Al.mono (fun _ _ z => z.ev e1) (fun _ _ _ z => z) h)
  | rt d => exact h.elim
  | bk l => exact h
  | ct l => exact h
end
section
variable {P : Program} {w : World} {K : PySem.W.Frag} {mg : Str → Option Value} {base : Heap}
end
end Gp
end
section
namespace Gp
open PySem PySem.Spec PyProof.Rows L2 Gh
structure ClmT (K : PySem.W.Frag) (C : Addr) (m : Str) (p g : Addr) : Prop where
  r : ClX.CRead K C (.type "type")
  c : ClX.CMet K C (.type "type") m p g
theorem clmB_ok {x m : Str} {K : PySem.W.Frag} (h : clmB x m K = true) : ClmT K (gd x K) m (He.ma K (He.ga K x) m) (clsG x m K) := by
  obtain ⟨h1, h⟩ := He.ba h
  obtain ⟨h2, h⟩ := He.ba h
  obtain ⟨h3, h⟩ := He.ba h
  obtain ⟨h4, h5⟩ := He.ba h
  refine ⟨⟨h1, He.eqO_ok h2⟩, ⟨?_, ?_, h5⟩⟩
  · split at h3
    · rename_i b p C e
      obtain ⟨z1, z⟩ := He.ba h3
      obtain ⟨z2, z3⟩ := He.ba z
      rw [e, of_decide_eq_true z1, of_decide_eq_true z2, of_decide_eq_true z3]
    · cases h3
  · unfold clsG
    split at h4
    · rename_i g r e
      rw [e]
      exact ⟨r, rfl⟩
    · cases h4
theorem pe_cm {X : Cx} {CX : CXT} {k : Nat} {p q C : Addr} {sp : Sp} {E : XK} {m : Str} {apos pos : Pos} {o e : Expr} {es : List Expr} {ta : TE} {t : TA} {pl : Sem Bool} (he : PE X o ta) (c : ClmT X.K C m p q) (F : PromOX X CX k q [] sp) (hr : Room k X.A) (hx : Passes CX X E) (ha : PA X (e :: es) t)
    (hst : starEach (e :: es) X.env = (false, eval e X.env) :: starEach es X.env := by rfl) (hpl : (backTo pos (starEach es X.env)).any (·.1) = false := by rfl)
    (ht : eval (.Call (.Attribute o m apos) (e :: es) [] pos) X.env = (do
      let ov ← eval o X.env
      standAt apos.atName
      let (f, first) ← holding [ov] (getMethod ov m pl)
      callWith pos f first (backTo pos (starEach (e :: es) X.env)) (backToKw pos (keywordEach [] X.env))) := by rfl) : PE X (.Call (.Attribute o m apos) (e :: es) [] pos) (ClX.tCMeth C sp E ta t) :=
  ClX.pe_cmeth (pl := pl) he c.r c.c (PromO.raw F) hr hx ha hst hpl ht
def spK (K : PySem.W.Frag) (T : List (Addr × Str)) (cn : Str) (F : List D → Tr D) : Sp := fun vs H Q E => ∃ rest, vs = .ref (gd cn K) :: rest ∧ spF K T F rest H Q E
section
variable {g : Gw} {U : Addr → Prop} {H : Hp} {σ : L2.St} {ε : Env} {E : XK} {Q : VK}
theorem se_cm {c : Str} {F : List D → Tr D} {t : TA} {mt : Tr (List D)} (ht : SA g E ε t mt) : SE g E ε (ClX.tCMeth (gd c g.K) (spK g.K g.T c F) E (tC (.ref (gd c g.K))) t) (bd mt F) := fun U σ H b Q R W u q =>
  ⟨rfl, ht.step R W u q fun vs ds H2 b2 dv w2 f2 R2 u2 q2 => ⟨vs, rfl, g.p, g.c, U, ds, b2, dv, w2, u2, q2.mono (fun _ _ h => h.fr f2) (fun _ _ _ h => h)⟩⟩
theorem Rel.cons0 {v : V} {d : D} (dn : Den g U H v d) (r : Rel g U H σ ε) : Rel g U H (some v :: σ) (.fz d :: ε) := by
  have ow : ∀ i a, OwnAt (some v :: σ) (.fz d :: ε) i a → ∃ j, i = j + 1 ∧ OwnAt σ ε j a := fun i a ⟨z1, z2⟩ => by
    cases i with
    | zero => rcases z2 with ⟨ds, e⟩ | ⟨c, fs, e⟩ <;> cases e
    | succ j => exact ⟨j, rfl, z1, z2⟩
  refine ⟨congrArg (· + 1) r.len, fun i s e => ?_, fun i j a n h1 h2 => ?_⟩
  · cases i with
    | zero =>
      cases e
      exact ⟨some v, rfl, v, rfl, dn⟩
    | succ j => exact r.at_ j s e
  · obtain ⟨i', rfl, k1⟩ := ow i a h1
    obtain ⟨j', rfl, k2⟩ := ow j a h2
    exact r.apart i' j' a (fun z => n (by rw [z])) k1 k2
theorem fn_ofK {K : PySem.W.Frag} {T : List (Addr × Str)} {cn : Str} {n0 : Str} {N : List Str} {F : List D → Tr D} {vs : List V} {t : TS} {envU : Unit → Env} (h : spK K T cn F vs H Q E)
    (hs : ∀ p c ds, (∃ (P : D → Nat → Prop) (X : Str → Fs → Nat → Prop) (b : Nat), Al P X (F ds) b) → ∃ m, F ds = fin m ∧ SS ⟨K, T, p, c⟩ E (.fz (.cls cn) :: (ds.map Sl.fz ++ List.replicate (N.length - ds.length) Sl.no)) t envU envE m) : t { nx := fun _ H' => Q .non H', rt := Q } (L2.start (n0 :: N) vs) H := by
  obtain ⟨rest, rfl, p, c, U, ds, b, dn, wd, u, al⟩ := h
  obtain ⟨m, e, ss⟩ := hs p c ds ⟨_, _, _, al⟩
  have es : L2.start (n0 :: N) (.ref (gd cn K) :: rest) = some (.ref (gd cn K)) :: L2.start N rest := by
    unfold L2.start
    simp
  rw [es]
  have nn : ∀ i a, ¬ OwnAt (some (.ref (gd cn K)) :: L2.start N rest) (.fz (.cls cn) :: (ds.map Sl.fz ++ List.replicate (N.length - ds.length) Sl.no)) i a := fun i a ⟨_, z⟩ => by
    have : ∀ s : Sl, (Sl.fz (.cls cn) :: (ds.map Sl.fz ++ List.replicate (N.length - ds.length) Sl.no))[i]? = some s → (∃ d, s = .fz d) ∨ s = .no := fun s e => by
      rcases List.mem_cons.mp (List.mem_of_getElem? e) with m | m
      · exact .inl ⟨_, m⟩
      · rcases List.mem_append.mp m with m | m
        · obtain ⟨d, _, e⟩ := List.mem_map.mp m
          exact .inl ⟨d, e.symm⟩
        · exact .inr (List.mem_replicate.mp m).2
    rcases z with ⟨x, z⟩ | ⟨x, y, z⟩
    · rcases this _ z with ⟨d, e⟩ | e <;> cases e
    · rcases this _ z with ⟨d, e⟩ | e <;> cases e
  rw [e] at al
  refine ss (fun _ => False) U H U _ _ H b ⟨(rel_start dn).cons0 (.cls cn), wd, u, fun _ z => z, fun i a z => (nn i a z).elim, fun _ _ z _ _ _ => z, fun i ds' a z1 z2 => (nn i a ⟨z2, .inl ⟨ds', z1⟩⟩).elim, fun i c fs a _ z1 z2 => (nn i a ⟨z2, .inr ⟨c, fs, z1⟩⟩).elim⟩ ((al_bd.mp al).mono (fun f b1 h1 => ?_) (fun c fs b1 h1 => ?_))
  · cases f with
    | nx w => exact fun U' σ' H' e s => h1 .non H' .non s.wd fun a o z1 z2 z3 => s.ext a o z1 z2 (fun z => z) z3
    | rt d => exact fun v H' dn w f => h1 v H' dn w fun a o z1 z2 z3 => f a o z1 z2 (fun z => z) z3
    | bk e => exact nomatch e
    | ct e => exact nomatch e
  · exact fun dd fvs H' z1 z2 z3 z4 z5 => h1 dd fvs H' z1 z2 z3 z4 fun a o y1 y2 y3 => z5 a o y1 y2 (fun z => z) y3
theorem fn_ofK1 {K : PySem.W.Frag} {T : List (Addr × Str)} {cn : Str} {n0 : Str} {N : List Str} {F : D → Tr D} {vs : List V} {t : TS} {envU : Unit → Env} {m : D → Tr (Fl Unit Empty)} (h : spK K T cn (ul1 F) vs H Q E) (hF : ∀ x, F x = fin (m x))
    (hs : ∀ p c x, SS ⟨K, T, p, c⟩ E (.fz (.cls cn) :: ([x].map Sl.fz ++ List.replicate (N.length - 1) Sl.no)) t envU envE (m x)) : t { nx := fun _ H' => Q .non H', rt := Q } (L2.start (n0 :: N) vs) H :=
  fn_ofK h fun p c ds ⟨_, _, _, al⟩ => by
    obtain ⟨x, rfl, _⟩ := al_ul1 al
    exact ⟨m x, hF x, hs p c x⟩
theorem spK_len {K : PySem.W.Frag} {T : List (Addr × Str)} {cn : Str} {F : List D → Tr D} {n : Nat} (hn : ∀ (P : D → Nat → Prop) (X : Str → Fs → Nat → Prop) ds b, Al P X (F ds) b → ds.length = n) {vs : List V} (h : spK K T cn F vs H Q E) : vs.length = n + 1 := by
  obtain ⟨rest, rfl, h⟩ := h
  rw [List.length_cons, spF_len hn h]
end
def tCallV (C : Addr) (r : List V → Hp → VK → Prop) (tf : TE) (t : TA) : TE := fun σ H Q => tf σ H fun y H1 => y = V.ref C ∧ t σ H1 fun vs H2 => r vs H2 Q
theorem pe_callV {X : Cx} {f : Addr} {r : List V → Hp → VK → Prop} {fe e : Expr} {es : List Expr} {tf : TE} {t : TA} {pos : Pos} (hf : PE X fe tf) (hk : PySem.W.keepIn X.K (.ref f) = true) (R : CallR X (.ref f) r) (ha : PA X (e :: es) t)
    (ht : eval (.Call fe (e :: es) [] pos) X.env = (do callWith pos (← eval fe X.env) [] (backTo pos (starEach (e :: es) X.env)) (backToKw pos (keywordEach [] X.env))) := by rfl)
    (he : starEach (e :: es) X.env = (false, eval e X.env) :: starEach es X.env := by rfl) (hpl : (backTo pos (starEach es X.env)).any (·.1) = false := by rfl) : PE X (.Call fe (e :: es) [] pos) (tCallV f r tf t) := by
  refine ⟨fun pins s σ H Q I h => ?_⟩
  refine Call_ (thn (hf.run pins s σ H _ I h) fun u s1 ⟨y, H1, I1, ry, ey, q⟩ => ?_) ht
  subst ey
  obtain rfl : u = Value.ref f := ry
  refine PySem.W.callWith_K (h₀ := X.base) I1.ok.mod.kin hk (thn (ha.run pos pins s1 σ H1 _ I1 q) fun us s2 ⟨vs, H2, I2, r, q2⟩ => ⟨I2.kIn, ?_⟩) he hpl
  exact R pins s2 σ H2 vs us Q I2 r q2
theorem se_callK {g : Gw} {ε : Env} {E : XK} {i : Nat} {c : Str} {r : List V → Hp → VK → Prop} {f : List D → Tr D} {t : TA} {m : Tr (List D)} (hr : SRL g E r f) (ha : SA g E ε t m) (hi : ε[i]? = some (.fz (.cls c)) := by rfl) : SE g E ε (tCallV (gd c g.K) r (tVar i) t) (bd m f) := fun U σ H b Q R W u q => by
  obtain ⟨o, e, v, rfl, dn⟩ := R.at_ i _ hi
  cases dn
  exact ⟨_, e, rfl, ha.step R W u q fun vs ds H2 b2 d2 w2 f2 R2 u2 q2 => hr U H2 b2 vs ds Q d2 w2 u2 (q2.mono (fun _ _ h => h.fr f2) (fun _ _ _ h => h))⟩
theorem se_dct {g : Gw} {ε : Env} {E : XK} : SE g E ε tDNewK (.ok .dct) := fun U σ H b Q R W u q p np => by
  have s := same_new (o := .dK []) np
  exact q _ _ (.dct upd_same (u.new np)) (W.same s) (fr_same s)
end Gp
end
section
namespace Gp
open PySem PySem.Spec PyProof.Rows L2 Gh
section
variable {g : Gw} {Mt U0 U U' : Addr → Prop} {H0 H H' H1 H2 : Hp} {b b1 : Nat} {σ : L2.St} {ε ε' : Env} {E : XK} {W L W' : Type}
variable {env : W → Env} {envL : L → Env} {env' : W' → Env} {u ta tb : TS} {te ti : TE} {me mi : Tr D}
def setD (ds : List D) (x v : D) : Tr (List D) := match x with
  | .int z => match ixN ds.length z with
    | some j => .ok (ds.set j v)
    | none => .bad
  | _ => .bad
theorem SE.sstepF {t : TE} {m : Tr D} {k : D → Tr (Fl W L)} {Ds : Ends} {Q : VK} (he : SE g E ε t m) (s : Stt g Mt U0 H0 U σ H b ε) (h : Al (flP g Mt U0 H0 U H Ds env envL) (exS g Mt U0 H0 E) (bd m k) b)
    (hk : ∀ v d H1 b1, Den g U H1 v d → Fr H H1 g.p → Stt g Mt U0 H0 U σ H1 b1 ε → Al (flP g Mt U0 H0 U H1 Ds env envL) (exS g Mt U0 H0 E) (k d) b1 → Q v H1) : t σ H Q :=
  he U σ H b Q s.rel s.wd s.uok ((al_bd.mp h).mono (fun d b1 h1 v H1 d1 w1 f1 => hk v d H1 b1 d1 f1 (s.fr f1 w1) (h1.mono (fun _ _ z => z.ev (s.uok.ev f1)) (fun _ _ _ z => z))) (fun _ _ _ h => exS.exP s h))
theorem ss_setix {i : Nat} {ds : List D} {k : List D → Tr (Fl W L)} (he : SE g E ε te me) (hx : SE g E ε ti mi) (hk : ∀ ds' : List D, SS g E (ε.set i (.ow ds')) u env envL (k ds')) (hi : ε[i]? = some (.ow ds) := by rfl) :
    SS g E ε (tSeq (tAsg te (gSub (tVar i) ti rSetL)) u) env envL (bd me fun v => bd mi fun x => bd (setD ds x v) k) := fun Mt U0 H0 U D σ H b s q => by
  refine he.sstepF s q fun v d H1 b1 dv f1 s1 q1 => ?_
  obtain ⟨a, vs, e1, h1, l1, d1, ua, n1, n2, _⟩ := own_mut (vs' := []) (ds' := []) s1 hi
  refine ⟨.ref a, e1, ?_⟩
  refine hx.sstepF s1 q1 fun x dx H2 b2 dvx f2 s2 q2 => ?_
  obtain ⟨a', vs', e2, h2, l2, d2, _, _, _, mt⟩ := own_mut (vs' := []) (ds' := []) s2 hi
  rw [e1] at e2
  cases e2
  cases dx with
  | int z =>
    cases den_int dvx
    change Al _ _ (bd (match ixN ds.length z with | some j => .ok (ds.set j d) | none => .bad) k) b2 at q2
    cases ej : ixN ds.length z with
    | none => rw [ej] at q2; exact q2.elim
    | some j =>
      rw [ej] at q2
      have dv2 : Den g U H2 v d := dv.fr s1.uok f2
      obtain ⟨s3, ev⟩ := mt (vs'.set j v) (ds.set j d) (by rw [List.length_set]; exact l2) (d2.set j dv2)
      exact ⟨a, vs', z, j, rfl, rfl, h2, by rw [d2.length]; exact ej, hk (ds.set j d) Mt U0 H0 U D σ _ b2 s3 (q2.mono (fun _ _ z => z.ev ev) (fun _ _ _ z => z))⟩
  | _ => exact q2.elim
def listL (x : D) : Tr (List D) := match x with
  | .lst ds => .ok ds
  | .tup ds => .ok ds
  | _ => .bad
theorem sn_list (he : SE g E ε te me) : SN g E ε (tCB (rListOf g.K) (tCons te tNil)) (bd me listL) := fun U σ H b Q R W u q =>
  he.step R W u q fun v d H1 b1 d1 w1 f1 R1 u1 q1 => by
    show rListOf g.K [v] H1 Q
    unfold rListOf
    cases d with
    | lst ds =>
      obtain ⟨p, vs, rfl, h, n, l, k⟩ := den_lst d1
      exact ⟨p, vs, rfl, .inl (SqL.of h), fun A nA => q1 A vs H1 nA l k w1 f1⟩
    | tup ds =>
      obtain ⟨p, vs, rfl, h, l, k⟩ := den_tup d1
      exact ⟨p, vs, rfl, .inr h, fun A nA => q1 A vs H1 nA l k w1 f1⟩
    | _ => exact q1.elim
theorem own_sig (s : Stt g Mt U0 H0 U σ H b ε) {j : Nat} {a : Addr} (h : OwnAt σ ε j a) : ∃ o, H a = some o := by
  obtain ⟨h1, ⟨ds, h2⟩ | ⟨c, fs, h2⟩⟩ := h
  · obtain ⟨o, e, a', vs, e2, h, _⟩ := s.rel.at_ j _ h2
    rw [h1] at e
    cases e
    cases e2
    exact ⟨_, h⟩
  · obtain ⟨o, e, a', dx, fvs, e2, h, _⟩ := s.rel.at_ j _ h2
    rw [h1] at e
    cases e
    cases e2
    exact ⟨_, h⟩
theorem own_pend {A : Addr} {vs : List V} {ds : List D} (s : Stt g Mt U0 H0 U σ H b ε) (n : H A = none) (l : vs.length ≤ sizeLine) (dn : DenL g U H vs ds) :
    Stt g Mt U0 H0 (fun a => U a ∨ a = A) σ (upd H A (.lst vs)) b ε ∧ Ev U H (fun a => U a ∨ a = A) (upd H A (.lst vs)) ∧ Pnd g Mt U0 H0 (fun a => U a ∨ a = A) σ (upd H A (.lst vs)) ε A ds := by
  have sm := same_new (o := .lst vs) n
  have nU : ¬ U A := s.uok.new n
  have hp : A ≠ g.p := fun z => nU (z ▸ s.uok.p)
  have hc : A ≠ g.c := fun z => nU (z ▸ s.uok.c)
  have r1 : Rel g (fun a => U a ∨ a = A) (upd H A (.lst vs)) σ ε := (s.rel.grow n).frp (.inl s.uok.p) (fr_same sm)
  refine ⟨⟨r1, s.wd.same sm, ⟨.inl s.uok.p, .inl s.uok.c, fun a ha => ?_⟩, fun a z => .inl (s.sub a z), s.own, s.ext.trans (fr_same sm), s.nu0, s.oim⟩, ⟨fun a o e _ _ => sm a o e, fun a o e n1 _ => ?_⟩, ⟨⟨vs, upd_same, l, (dn.grow n).ext (fun a o e _ _ => sm a o e)⟩, .inr rfl, hp, hc, fun z => nU (s.sub _ z), fun j h => ?_, ?_⟩⟩
  · rcases ha with ha | rfl
    · obtain ⟨o, e, t⟩ := s.uok.al a ha
      exact ⟨o, sm a o e, t⟩
    · exact ⟨_, upd_same, (fun _ z => by cases z), (fun _ z => by cases z)⟩
  · rintro (z | z)
    · exact n1 z
    · exact ne_of_none e n z
  · obtain ⟨o, e⟩ := own_sig s h
    rw [n] at e
    cases e
  · by_cases m : Mt A
    · exact .inl m
    · refine .inr fun o q => ?_
      by_cases t : ∃ ps, o = .tbl ps
      · exact t
      · have := s.ext A o q hp m (fun ps z => t ⟨ps, z⟩)
        rw [n] at this
        cases this
def SQ (g : Gw) (E : XK) (ε : Env) (n : Nat) (t : TA) (m : Tr (List D)) : Prop := ∀ Mt U0 H0 U σ H b Q, Stt g Mt U0 H0 U σ H b ε →
  Al (fun ds b' => ∀ vs U' H', QR g Mt U0 H0 U' σ H' ε n vs ds → Ev U H U' H' → Stt g Mt U0 H0 U' σ H' b' ε → Q vs H') (exS g Mt U0 H0 E) m b → t σ H Q
theorem SQ.sstep {n : Nat} {t : TA} {m : Tr (List D)} {k : List D → Tr (Fl W L)} {Ds : Ends} {Q : List V → Hp → Prop} (he : SQ g E ε n t m) (s : Stt g Mt U0 H0 U σ H b ε) (h : Al (flP g Mt U0 H0 U H Ds env envL) (exS g Mt U0 H0 E) (bd m k) b)
    (hk : ∀ vs ds U' H1 b1, QR g Mt U0 H0 U' σ H1 ε n vs ds → Stt g Mt U0 H0 U' σ H1 b1 ε → Al (flP g Mt U0 H0 U' H1 Ds env envL) (exS g Mt U0 H0 E) (k ds) b1 → Q vs H1) : t σ H Q :=
  he Mt U0 H0 U σ H b Q s ((al_bd.mp h).mono (fun ds b1 h1 vs U' H' qr ev s1 => hk vs ds U' H' b1 qr s1 (h1.mono (fun _ _ z => z.ev ev) (fun _ _ _ z => z))) (fun _ _ _ h => h))
end
end Gp
end
section
namespace Gp
open PySem PySem.Spec PyProof.Rows L2 Gh
abbrev TSF : Type := Addr → Value → Option Addr → TS
def wMK (K : PySem.W.Frag) (Wout : WX) (D : Ends) : List (Value × Option Nat × TSF) → WX
  | [] => Wout
  | (c, some i, ts) :: r => fun cls d σ H => ∃ b, PySem.W.exmOne K cls c = some b ∧ (b = true → ∃ C dd, cls = .ref C ∧ d = some dd ∧ ∀ a, H a = none → ts a cls d { nx := fun σ' H' => H' a = none → D.nx (σ'.set i none) (upd H' a (exk a C dd)), rt := D.rt, bk := fun σ' H' => D.bk (σ'.set i none) H', ct := fun σ' H' => D.ct (σ'.set i none) H' } (σ.set i (some (.ref a))) H) ∧
    (b = false → wMK K Wout D r cls d σ H)
  | (c, none, ts) :: r => fun cls d σ H => ∃ b, PySem.W.exmOne K cls c = some b ∧ (b = true → ∀ a, H a = none → ts a cls d D σ H) ∧ (b = false → wMK K Wout D r cls d σ H)
inductive HdsK (X : Cx) : List ExceptHandler → List (Value × Option Nat × TSF) → Prop
  | nil : HdsK X [] []
  | as {x n : Str} {c : Value} {i : Nat} {ts : TSF} {b₀ : Stmt} {suite : List Stmt} {np pos' : Pos} {hds : List ExceptHandler} {l : List (Value × Option Nat × TSF)} (hi : X.N[i]? = some n) (hln : X.env.kindOf n = some .local) (hc : Names X x c)
      (hsu : ∀ (a : Addr) (oe : Obj) (cls : Value) (d : Option Addr) (pn : List (Addr × Obj)), Zc cls d oe → (∃ vs, oe.data = .fields vs) → PSs (X.suite a ((a, oe) :: pn)) (b₀ :: suite) (ts a cls d)) (r : HdsK X hds l) :
      HdsK X (.ExceptHandler (some (.Name x np)) (some n) (b₀ :: suite) pos' :: hds) ((c, some i, ts) :: l)
  | no {x : Str} {c : Value} {ts : TSF} {b₀ : Stmt} {suite : List Stmt} {np pos' : Pos} {hds : List ExceptHandler} {l : List (Value × Option Nat × TSF)} (hc : Names X x c)
      (hsu : ∀ (a : Addr) (oe : Obj) (cls : Value) (d : Option Addr) (pn : List (Addr × Obj)), Zc cls d oe → (∃ vs, oe.data = .fields vs) → PSs (X.suite a ((a, oe) :: pn)) (b₀ :: suite) (ts a cls d)) (r : HdsK X hds l) :
      HdsK X (.ExceptHandler (some (.Name x np)) none (b₀ :: suite) pos' :: hds) ((c, none, ts) :: l)
section
variable {X : Cx} {body : List Stmt} {h₀ : ExceptHandler} {hds : List ExceptHandler} {l : List (Value × Option Nat × TSF)} {pos : Pos} {tb : WX → TS} {Wout : WX}
theorem ps_try_mk (hex : X.ex = []) (hs : X.stack = X.env :: X.outer) (hf : X.env.frame = some X.env.locals) (hN : X.N.Nodup) (tk : Takes X Wout)
    (hb : ∀ (W : WX) (pn : List (Addr × Obj)) (xe : Value → Shared → Prop), Takes (X.tr pn xe) W → PassesOwn (model X.prog X.w) X.A X.env xe → PSs (X.tr pn xe) body (tb W))
    (hh : HdsK X (h₀ :: hds) l) : PS X (.Try body (h₀ :: hds) [] [] pos) (fun D σ H => tb (wMK X.K Wout D l) D σ H) := by
  refine ⟨fun pins s σ H D I h => ?_⟩
  have ok := I.ok
  have hfr : X.A.frames = some (X.env :: X.outer) := by rw [ok.frames, hs]
  refine wpAny_Try_except ?_
  refine wpAny_mono ((hb (wMK X.K Wout D l) (X.pn ++ pins) (fun e s₁ => wpAny (model X.prog X.w) X.A (noteFrame e X.env) (fun _ s₂ => wpAny (model X.prog X.w) X.A (setFlight e none) (fun _ s₃ =>
    wpAny (model X.prog X.w) X.A (handleBy e X.env (h₀ :: hds)) (SP X pins D) X.xe s₃) X.xe s₂) X.xe s₁) (fun u s' xx => ?_) PassesOwn.looking).run [] s σ H D (I.toTry _) h) (fun f s1 hsp => ?_) (fun e s1 he => he)
  · -- the catch
    obtain ⟨a, B, sI, pins', σ', H', cls, d, rfl, J', nb, up, sky, na, os, ag, w⟩ := xx
    have nB : B.get? a = none := by
      rcases sky with z | z | z
      · exact z.2.1
      · exact z.2.1
      · exact z.2.1
    have J : Inv X pins σ' H' sI := J'.ofTry ok
    have sky' : Sky B (X.env :: X.outer) a (Zc cls d) X.env.locals s'.heap := by rw [← hs]; exact sky
    show wpAny (model X.prog X.w) X.A (noteFrame (.ref a) X.env) _ _ _
    refine Sky.land Zc.steady hfr hf sky' fun h3 fl3 up3 => ?_
    have J3 : Inv X pins σ' H' { s' with heap := h3 } := J.landed nb fl3.1 (up.trans up3) os ag
    obtain ⟨oe3, vs3, he3, hz3, hd3⟩ := fl3.there
    have notFr : ∀ {h : Heap} {o : Obj} {vs : Array Value}, h.FunFrames B (X.env :: X.outer) → h.get? a = some o → o.data = .fields vs → a ∉ frs (X.env :: X.outer) := fun {h o vs} ff e dd hm => by
      obtain ⟨_, o', e', hnf⟩ := ff.mem hm
      rw [e] at e'; cases e'
      exact hnf _ dd
    have nfr := notFr fl3.2.2.1 he3 hd3
    have nL : a ≠ X.env.locals := fun z => nfr (List.mem_filterMap.mpr ⟨X.env, List.mem_cons_self, by rw [hf, z]⟩)
    have nF : a ∉ X.fs := fun hm => by
      obtain ⟨e, he, q⟩ := List.mem_filterMap.mp hm
      exact nfr (List.mem_filterMap.mpr ⟨e, List.mem_cons_of_mem _ he, q⟩)
    have nsI : sI.heap.get? a = none := by
      cases q : sI.heap.get? a with
      | none => rfl
      | some o =>
        have z := nb a o q (by rw [hs]; exact nfr)
        rw [nB] at z
        cases z
    have n0 : X.s_0.heap.get? a = none := by
      cases q : X.s_0.heap.get? a with
      | none => rfl
      | some o =>
        obtain ⟨o', z⟩ := J.base.there a o q (by rw [hex]; simp)
        rw [nsI] at z
        cases z
    have nP : ∀ p ∈ X.pn ++ pins, p.1 ≠ a := fun p hp z => by
      have y := (J.pin p hp).1
      rw [z, nsI] at y
      cases y
    have nC : ∀ x c, X.env.cells.lookup x = some c → c ≠ a := fun x c hx z => by
      obtain ⟨v, y⟩ := J.cell x c hx
      obtain ⟨o, y1, _⟩ := y
      rw [z, nsI] at y1
      cases y1
    have S3 := J3.suite he3 hd3 na nL nF
    have go : ∀ {hds' : List ExceptHandler} {l' : List (Value × Option Nat × TSF)}, HdsK X hds' l' → wMK X.K Wout D l' cls d σ' H' →
        wpAny (model X.prog X.w) X.A (handleBy (.ref a) X.env hds') (SP X pins D) X.xe { s' with heap := h3 } := by
      intro hds' l' hk
      induction hk with
      | nil =>
        intro w
        refine wpAny_handleBy_nil ?_
        obtain ⟨k1, k2, k3, oe, vs, T, oT, ts', he, hz, hd, h1, hr⟩ := id fl3
        unfold PySem.passOn
        refine wpAny_bind (wpAny_field he hd h1 ?_)
        rw [if_neg (show ¬ ((Value.ref T == Value.none) = true) from by simp)]
        have fin : wpAny (model X.prog X.w) X.A (setFlight (.ref a) X.env.frame) (fun _ s4 => wpAny (model X.prog X.w) X.A (throw (.ref a) : Sem Flow) (SP X pins D) X.xe s4) X.xe { s' with heap := h3 } := by
          rw [hf]
          refine HandSPX.setFlight_upZ fl3 fun h4 hh4 up4 => wpAny_throw (tk _ _ ?_)
          exact ⟨a, B, sI, pins, σ', H', cls, d, rfl, J, nb, (up.trans up3).trans up4, .inr (.inr (by rw [hs]; exact hh4)), na, os, ag, w⟩
        first
          | exact wpAny_bind (wpAny_pure (wpAny_bind fin))
          | exact wpAny_bind fin

      | @as x n c i ts b₀ suite np pos' hds2 l2 hi hln hc hsu r ih =>
        intro w
        obtain ⟨b, hb1, hyes, hno⟩ := w
        have hloc : Loc X.env.scope n := .inl hln
        refine wpAny_handleBy_cons (codeAny_handlers_test ?_) (by intro q; cases q)
        have LT : PySem.W.Looks (model X.prog X.w) h3 (typeOf (.ref a)) cls := fun A Q E s k q => wpAny_typeOf_ref (k _ _ he3) (by rw [hz3.1]; exact q)
        have LM := PySem.W.exm_one (M := model X.prog X.w) (J3.kIn) LT hb1
        have test : ∀ {Q : Value → Shared → Prop} {E : Value → Shared → Prop}, Q c { s' with heap := h3 } → wpAny (model X.prog X.w) (X.A.mark (some (.ref a))) (eval (.Name x np) X.env) Q E { s' with heap := h3 } := fun {Q E} q => by
          obtain ⟨hg, hdbg, hm | ⟨hm, hv, hnn⟩⟩ := hc
          · exact ld_glob (X := X.suite a ((a, oe3) :: (X.pn ++ pins))) S3 hg hm q hdbg
          · exact ld_blt (X := X.suite a ((a, oe3) :: (X.pn ++ pins))) S3 hg hm hv q hnn hdbg

        refine test (LM.here ?_)
        cases b with
        | true =>
          refine codeAny_handlers_suite_as ?_
          obtain ⟨C, dd, ecls, edd, hys⟩ := hyes rfl
          subst ecls
          subst edd
          refine HandSPX.lands_againZ fl3 fun h4 fl4 up4 => ?_
          have J4 : Inv X pins σ' H' { s' with heap := h4 } := J.landed nb fl4.1 ((up.trans up3).trans up4) os ag
          obtain ⟨oe4, vs4, he4, hz4, hd4⟩ := fl4.there
          have S4 := J4.suite he4 hd4 na nL nF
          refine store_ok (X := X.suite a ((a, oe4) :: (X.pn ++ pins))) (v := .ref a) S4 hN hi hloc rfl (fun s5 S5 => ?_) (.inr hln)
          refine wpAny_mono ((hsu a oe4 _ _ (X.pn ++ pins) hz4 ⟨_, hd4⟩).run [] s5 _ H' _ S5 (hys a na)) (fun f s6 hsp => ?_) (fun _ _ z => False.elim z)
          have end_ : ∀ {σ6 : L2.St} {H6 : Hp} {Q : Shared → Prop}, Inv (X.suite a ((a, oe4) :: (X.pn ++ pins))) [] σ6 H6 s6 → (∀ s7, Inv X pins (σ6.set i none) H6 s7 → Q s7) →
              wpAny (model X.prog X.w) X.A (do bindName X.env n .none; unbindBehindTheSuite X.env n pos') (fun _ s7 => Q s7) X.xe s6 := fun {σ6 H6 Q} S6 hq => gone_ok (S6.unsuite ok) hN hi hln hq
          cases f with
          | next =>
            obtain ⟨σ6, H6, S6, q6⟩ := hsp
            obtain ⟨ha6, hn6, _⟩ := S6.pin (a, oe4) (List.mem_append_left _ List.mem_cons_self)
            have J6 : Inv X pins σ6 (upd H6 a (exk a C dd)) s6 := inv_track (S6.unsuite ok) hn6 n0 nL nC nP (exk_ok ha6 hz4.1 hz4.2 hd4)
            exact gone_ok J6 hN hi hln fun s7 J7 => ⟨_, _, J7, q6 hn6⟩
          | brk =>
            obtain ⟨σ6, H6, S6, q6⟩ := hsp
            exact end_ S6 fun s7 J7 => ⟨_, _, J7, q6⟩
          | cont =>
            obtain ⟨σ6, H6, S6, q6⟩ := hsp
            exact end_ S6 fun s7 J7 => ⟨_, _, J7, q6⟩
          | ret u =>
            obtain ⟨v6, σ6, H6, S6, r6, q6⟩ := hsp
            exact end_ S6 fun s7 J7 => ⟨_, _, _, J7, r6, q6⟩

        | false =>
          show wpAny _ X.A (handleBy (.ref a) X.env hds2) _ _ _
          exact ih (hno rfl)
      | @no x c ts b₀ suite np pos' hds2 l2 hc hsu r ih =>
        intro w
        obtain ⟨b, hb1, hyes, hno⟩ := w
        refine wpAny_handleBy_cons (codeAny_handlers_test ?_) (by intro q; cases q)
        have LT : PySem.W.Looks (model X.prog X.w) h3 (typeOf (.ref a)) cls := fun A Q E s k q => wpAny_typeOf_ref (k _ _ he3) (by rw [hz3.1]; exact q)
        have LM := PySem.W.exm_one (M := model X.prog X.w) (J3.kIn) LT hb1
        have test : ∀ {Q : Value → Shared → Prop} {E : Value → Shared → Prop}, Q c { s' with heap := h3 } → wpAny (model X.prog X.w) (X.A.mark (some (.ref a))) (eval (.Name x np) X.env) Q E { s' with heap := h3 } := fun {Q E} q => by
          obtain ⟨hg, hdbg, hm | ⟨hm, hv, hnn⟩⟩ := hc
          · exact ld_glob (X := X.suite a ((a, oe3) :: (X.pn ++ pins))) S3 hg hm q hdbg
          · exact ld_blt (X := X.suite a ((a, oe3) :: (X.pn ++ pins))) S3 hg hm hv q hnn hdbg

        refine test (LM.here ?_)
        cases b with
        | true =>
          refine codeAny_handlers_suite ?_
          refine HandSPX.lands_againZ fl3 fun h4 fl4 up4 => ?_
          have J4 : Inv X pins σ' H' { s' with heap := h4 } := J.landed nb fl4.1 ((up.trans up3).trans up4) os ag
          obtain ⟨oe4, vs4, he4, hz4, hd4⟩ := fl4.there
          have S4 := J4.suite he4 hd4 na nL nF
          refine wpAny_mono ((hsu a oe4 cls d (X.pn ++ pins) hz4 ⟨_, hd4⟩).run [] _ _ H' _ S4 (hyes rfl a na)) (fun f s6 hsp => ?_) (fun _ _ z => False.elim z)
          cases f with
          | next =>
            obtain ⟨σ6, H6, S6, q6⟩ := hsp
            exact ⟨_, _, S6.unsuite ok, q6⟩
          | brk =>
            obtain ⟨σ6, H6, S6, q6⟩ := hsp
            exact ⟨_, _, S6.unsuite ok, q6⟩
          | cont =>
            obtain ⟨σ6, H6, S6, q6⟩ := hsp
            exact ⟨_, _, S6.unsuite ok, q6⟩
          | ret u =>
            obtain ⟨v6, σ6, H6, S6, r6, q6⟩ := hsp
            exact ⟨_, _, _, S6.unsuite ok, r6, q6⟩
        | false =>
          show wpAny _ X.A (handleBy (.ref a) X.env hds2) _ _ _
          exact ih (hno rfl)
    exact go hh w
  · cases f with
    | next =>
      obtain ⟨σ', H', J', q⟩ := hsp
      exact wpAny_execs_nil ⟨σ', H', J'.ofTry ok, q⟩
    | brk =>
      obtain ⟨σ', H', J', q⟩ := hsp
      exact ⟨σ', H', J'.ofTry ok, q⟩
    | cont =>
      obtain ⟨σ', H', J', q⟩ := hsp
      exact ⟨σ', H', J'.ofTry ok, q⟩
    | ret u =>
      obtain ⟨v, σ', H', J', r, q⟩ := hsp
      exact ⟨v, σ', H', J'.ofTry ok, r, q⟩
end
end Gp
end
section
namespace Gp
open PySem PySem.Spec PyProof.Rows L2 Gh
def ItH.te (a : Addr) (cls : Value) (d : Option Addr) (C : Addr) (i : Nat) : ItH → TE
  | .s x => tC (.str x)
  | .n k => tC (.int k)
  | .f x => tXf a cls d C x (tVar i)
section
variable {g : Gw} {U : Addr → Prop} {H H' : Hp} {b : Nat} {σ : L2.St} {ε : Env}
theorem fz_no {n : Nat} : Fz (List.replicate n .no) := fun s h => .inr (List.mem_replicate.mp h).2
theorem rel_no {n : Nat} (hl : σ.length = n) : Rel g U H σ (List.replicate n .no) := by
  refine ⟨by rw [List.length_replicate]; exact hl, fun i s e => ?_, fun _ _ _ _ h1 _ => (fz_no.own _ _ h1).elim⟩
  rw [List.getElem?_replicate] at e
  split at e
  · rename_i hk
    cases e
    exact ⟨_, List.getElem?_eq_getElem (by rw [hl]; exact hk), trivial⟩
  · cases e
theorem rel_fz {j : Nat} {v : V} {d : D} (R : Rel g U H σ ε) (h : Fz ε) (hj : j < σ.length) (dn : Den g U H v d) : Rel g U H (σ.set j (some v)) (ε.set j (.fz d)) := by
  refine ⟨by simp only [List.length_set]; exact R.len, fun k s e => ?_, fun _ _ _ _ h1 _ => (h.set.own _ _ h1).elim⟩
  by_cases q : j = k
  · subst q
    rw [List.getElem?_set_self (by rw [← R.len]; exact hj)] at e
    cases e
    exact ⟨_, List.getElem?_set_self hj, _, rfl, dn⟩
  · rw [List.getElem?_set_ne q] at e
    obtain ⟨o, h1, h2⟩ := R.at_ k s e
    exact ⟨o, by rw [List.getElem?_set_ne q]; exact h1, h2⟩
end
def HrdP (K : PySem.W.Frag) (d : Df) (ps : List Str) : Prop := ∃ fd, FnA K d fd ∧ L2.Binds K fd ps []
def qlOf (d : Df) (K : PySem.W.Frag) : Str := (envOfC d.qual (defScope d.st) 0 (d.adr K) .none).qual ++ "<lambda>"
structure LamD (base : Heap) (mg : Str → Option Value) (K : PySem.W.Frag) (Tb : List (Addr × Str)) (d : Df) (pn : He.Defn) : Prop where
  tb : LamX.TabB base mg (He.cT K pn).1 (He.cT K pn).2
  mem : ((He.cT K pn).2, qlOf d K) ∈ Tb
  hu : ∀ p ∈ Tb, p.1 = (He.cT K pn).2 → p.2 = qlOf d K
end Gp
end
section
namespace Gp
open PySem PySem.Spec PyProof.Rows L2 Gh
theorem pss_never {X : Cx} {rest : List Stmt} : PSs X rest tNever := ⟨fun _ _ _ _ _ _ h => False.elim h⟩
theorem ss_nev {W L : Type} {g : Gw} {E : XK} {ε : Env} {env : W → Env} {envL : L → Env} : SS g E ε tNever env envL .bad := fun Mt U0 H0 U D σ H b s q => q.elim
end Gp
end
section
namespace Gp
open PySem PySem.Spec PyProof.Rows L2 Gh
theorem tPairs_c {σ : L2.St} {Q : List (V × V) → Hp → Prop} : ∀ {kvs : List (Key × V)} {H : Hp}, Q (kvs.map fun kv => (kV kv.1, kv.2)) H → tPairs (kvs.map fun kv => (tC (kV kv.1), tC kv.2)) σ H Q
  | [], H, h => h
  | p :: kvs, H, h => tPairs_c (kvs := kvs) (Q := fun ps H3 => Q ((kV p.1, p.2) :: ps) H3) h
section
variable {g : Gw} {U : Addr → Prop} {H : Hp} {ε : Env} {E : XK}
theorem se_dispC {trs : List (TE × TE)} (kvs : List (Key × V)) (ps : List (Key × D)) (ht : trs = kvs.map fun kv => (tC (kV kv.1), tC kv.2)) (hk : kvs.map (·.1) = ps.map (·.1)) (hd : ∀ U H, DenL g U H (kvs.map (·.2)) (ps.map (·.2))) (hm : mergeK [] kvs = kvs) (h15 : kvs.length ≤ 15) :
    SE g E ε (tDisp trs) (.ok (.dic ps)) := fun U σ H b Q R W u q p np => by
  subst ht
  refine tPairs_c ?_
  have e : upd (upd H p (.dK [])) p (.dK (mergeK [] kvs)) = upd H p (.dK kvs) := by
    rw [hm]
    funext a
    by_cases z : a = p
    · subst z
      rw [upd_same, upd_same]
    · rw [upd_ne z, upd_ne z, upd_ne z]
  refine ⟨upd_same, kvs, rfl, h15, ?_⟩
  rw [e]
  have s := same_new (o := .dK kvs) np
  exact q _ _ (.dic upd_same (u.new np) hk (hd _ _)) (W.same s) (fr_same s)
end
end Gp
end
section
namespace Gz
open PySem PySem.Spec PyProof.Rows L2 GenW Gh
variable {X : Cx}
abbrev TQ (T : Type) := Pro T → QE T → Nat → T → L2.St → Hp → Prop
abbrev GpZ := List (Nat × GenState) → Prop
section
variable {T : Type} {Z : GpZ} {st : Stmt} {rest : List Stmt} {pos : Pos}
def tQThen (t u : TQ T) : TQ T := fun P D n γ σ H => t P { D with nx := fun n' γ' σ' H' => u P D n' γ' σ' H' } n γ σ H
end
end Gz
end
section
namespace Gz
open PySem PySem.Spec PyProof.Rows L2 GenW Gh
section
variable {X : Cx} {ip : List (Addr × Obj)} {σ : L2.St} {H : Hp} {s : Shared}
end
section
variable {T : Type} {X : Cx} {st : Stmt} {rest : List Stmt}
end
abbrev SpQ := (T : Type) → Pro T → Nat → T → Prop
abbrev SpH := Hp → SpQ
end Gz
end
section
namespace Gz
open PySem PySem.Spec PyProof.Rows L2 GenW Gh
section
variable {P : Program} {w : World} {A : Around} {E : Value → Shared → Prop} {s : Shared}
end
abbrev TQG := L2.St → Hp → (SpH → Hp → Prop) → Prop
section
variable {X : Cx} {k : Nat} {f C : Addr} {fd : FuncData} {ps : List Str} {sp : List V → Hp → XK → SpQ} {dvs : List V} {ds : List Value} {x m : Str} {p pos pos' apos : Pos} {o : Expr} {ta : TE}
end
end Gz
end
section
namespace Gp
open PySem PySem.Spec PyProof.Rows L2 Gh Gz
structure GT (α : Type) where
  out : List D
  res : Tr α
section
variable {W W' L : Type}
def gbF (m : GT (Fl W' L)) (k : W' → GT (Fl W L)) : GT (Fl W L) := match m.res with
  | .ok (.nx w) => ⟨m.out ++ (k w).out, (k w).res⟩
  | .ok (.rt d) => ⟨m.out, .ok (.rt d)⟩
  | .ok (.bk l) => ⟨m.out, .ok (.bk l)⟩
  | .ok (.ct l) => ⟨m.out, .ok (.ct l)⟩
  | _ => ⟨m.out, .bad⟩
end
abbrev TQA := (T : Type) → TQ T
section
variable {g : Gw} {T : Type} {P : Pro T} {all : List D} {N : Nat} {W W' L : Type}
def okQ {α : Type} (m : Tr α) (R : α → Prop) : Prop := match m with
  | .ok f => R f
  | _ => False
end
def YS {W L : Type} (g : Gw) (ε : Env) (t : TQA) (env : W → Env) (envL : L → Env) (m : GT (Fl W L)) : Prop := ∀ (T : Type) (P : Pro T) (all : List D) (N : Nat) (Y : PY g all N P) (D : QE T) γ U σ H n pre post,
  Stt g NoM (Y.U γ) (P.hp γ) U σ H (Y.B γ) ε → all = pre ++ (m.out ++ post) → n + pre.length = N → m.out.length ≤ n → ((m.out = [] ∨ m.out.length < n) → okQ m.res (gqP Y D env envL (n - m.out.length) U H)) → t T P D n γ σ H
section
variable {g : Gw} {W W' L : Type} {ε : Env} {env : W → Env} {envL : L → Env} {env' : W' → Env} {u ta tb : TQA} {te : TE} {me : Tr D}
theorem gbF_nx {m : GT (Fl W' L)} {k : W' → GT (Fl W L)} {w : W'} (e : m.res = .ok (.nx w)) : gbF m k = ⟨m.out ++ (k w).out, (k w).res⟩ := by unfold gbF; rw [e]
theorem YS.seq {m : GT (Fl W' L)} {k : W' → GT (Fl W L)} (h1 : YS g ε ta env' envL m) (h2 : ∀ w, YS g (env' w) u env envL (k w)) : YS g ε (fun T => tQThen (ta T) (u T)) env envL (gbF m k) := fun T P all N Y D γ U σ H n pre post s ha hn hl q => by
  have run : ∀ (R : List Gp.D), all = pre ++ (m.out ++ R) → m.out.length ≤ n → ((m.out = [] ∨ m.out.length < n) → okQ m.res (gqP Y { D with nx := fun n' γ' σ' H' => u T P D n' γ' σ' H' } env' envL (n - m.out.length) U H)) → tQThen (ta T) (u T) P D n γ σ H :=
    fun R hR hl' hq => h1 T P all N Y _ γ U σ H n pre R s hR hn hl' hq
  cases e : m.res with
  | ok f =>
    cases f with
    | nx w =>
      rw [gbF_nx e] at ha hl q
      have ha' : all = pre ++ (m.out ++ ((k w).out ++ post)) := by rw [ha]; simp [List.append_assoc]
      have hl' : m.out.length + (k w).out.length ≤ n := by rw [← List.length_append]; exact hl
      refine run _ ha' (by omega) fun hc => ?_
      rw [e]
      intro γ' U' σ' H' ev s'
      refine h2 w T P all N Y D γ' U' σ' H' (n - m.out.length) (pre ++ m.out) post s' (by rw [ha']; simp [List.append_assoc]) (by rw [List.length_append]; omega) (by omega) fun hc2 => ?_
      have z := q (by
        rcases hc2 with z | z
        · rw [z, List.append_nil]; exact hc
        · exact .inr (by show (m.out ++ (k w).out).length < n; rw [List.length_append]; omega))
      have e3 : n - (m.out ++ (k w).out).length = n - m.out.length - (k w).out.length := by rw [List.length_append]; omega
      change okQ (k w).res (gqP Y D env envL (n - (m.out ++ (k w).out).length) U H) at z
      rw [e3] at z
      cases e4 : (k w).res with
      | ok f2 => rw [e4] at z; exact gqP.ev ev z
      | ex c fs => rw [e4] at z; exact z.elim
      | bad => rw [e4] at z; exact z.elim
      | draw _ _ => rw [e4] at z; exact z.elim
    | rt d =>
      have e2 : gbF m k = ⟨m.out, .ok (.rt d)⟩ := by unfold gbF; rw [e]
      rw [e2] at ha hl q
      exact run post ha hl fun hc => by rw [e]; exact q hc
    | bk l =>
      have e2 : gbF m k = ⟨m.out, .ok (.bk l)⟩ := by unfold gbF; rw [e]
      rw [e2] at ha hl q
      exact run post ha hl fun hc => by rw [e]; exact q hc
    | ct l =>
      have e2 : gbF m k = ⟨m.out, .ok (.ct l)⟩ := by unfold gbF; rw [e]
      rw [e2] at ha hl q
      exact run post ha hl fun hc => by rw [e]; exact q hc
  | ex c fs =>
    have e2 : gbF m k = ⟨m.out, .bad⟩ := by unfold gbF; rw [e]
    rw [e2] at ha hl q
    exact run post ha hl fun hc => (q hc).elim
  | bad =>
    have e2 : gbF m k = ⟨m.out, .bad⟩ := by unfold gbF; rw [e]
    rw [e2] at ha hl q
    exact run post ha hl fun hc => (q hc).elim
  | draw _ _ =>
    have e2 : gbF m k = ⟨m.out, .bad⟩ := by unfold gbF; rw [e]
    rw [e2] at ha hl q
    exact run post ha hl fun hc => (q hc).elim
end
end Gp
end
section
namespace Gp
open PySem PySem.Spec PyProof.Rows L2 Gh Gz
section
variable {X : Cx} {CX : CXT} {k : Nat} {f g C : Addr} {E : XK} {m : Str} {apos pos : Pos} {o : Expr} {ta : TE} {tk : TA} {ks : List Str} {kws : List Keyword} {r : List V → List V → Hp → VK → Prop}
end
theorem denL_atO {g : Gw} {U : Addr → Prop} {H : Hp} {vs : List V} {ds : List D} (h : DenL g U H vs ds) : ∀ i : Nat, (vs[i]? = none ∧ ds[i]? = none) ∨ ∃ v d, vs[i]? = some v ∧ ds[i]? = some d ∧ Den g U H v d := by
  induction vs generalizing ds with
  | nil => cases h; exact fun i => .inl ⟨rfl, rfl⟩
  | cons v vs ih =>
    cases h with
    | cons a r =>
      intro i
      cases i with
      | zero => exact .inr ⟨_, _, rfl, rfl, a⟩
      | succ i => exact ih r i
theorem denL_picks {g : Gw} {U : Addr → Prop} {H : Hp} (l : List (Nat ⊕ Nat)) {dvs zs : List V} {dds es : List D} (h1 : DenL g U H dvs dds) (h2 : DenL g U H zs es) : DenL g U H (picks l dvs zs) (picks l dds es) := by
  induction l with
  | nil => exact .nil
  | cons z r ih =>
    unfold picks at ih ⊢
    rw [List.filterMap_cons, List.filterMap_cons]
    cases z with
    | inl i =>
      rcases denL_atO h2 i with ⟨e1, e2⟩ | ⟨x, v, e1, e2, rv⟩
      · simp only [e1, e2]; exact ih
      · simp only [e1, e2]; exact .cons rv ih
    | inr j =>
      rcases denL_atO h1 j with ⟨e1, e2⟩ | ⟨x, v, e1, e2, rv⟩
      · simp only [e1, e2]; exact ih
      · simp only [e1, e2]; exact .cons rv ih
section
variable {g : Gw} {E : XK} {ε : Env} {ta : TE} {ma : Tr D} {t tk : TA} {mt mk : Tr (List D)}
def SRK (g : Gw) (E : XK) (r : List V → List V → Hp → VK → Prop) (f : List D → List D → Tr D) : Prop := ∀ U H b vs zs ds es Q, DenL g U H vs ds → DenL g U H zs es → Wd g H b → UOk g U H → Al (okP g U H Q) (exP g U E H) (f ds es) b → r vs zs H Q
end
end Gp
end
section
namespace Gp
open PySem PySem.Spec PyProof.Rows L2 Gh
section
variable {X : Cx} {CX : CXT} {k n : Nat} {f C : Addr} {ks : List Str} {sp : Sp} {E : XK}
theorem makeP {l : List (Nat ⊕ Nat)} {dvs : List V} (M : Mk X.K C f) (F : PromK X.prog X.w X.K X.mg X.base CX k f (n + 1) ks (fun vs zs => vs ++ picks l dvs zs) sp) (hr : Room (k + 1) X.A) (hx : Passes CX X E) : CallK X (.ref C) ks (rMkK C n ks.length (fun vs zs => vs ++ picks l dvs zs) sp E) :=
  PromK.make (gV := fun _ zs => picks l dvs zs) M F hr hx
end
def kwM (c : Str) (n m : Nat) (l : List (Nat ⊕ Nat)) (dds : List D) (F : Fs → List D → Tr Fs) (ds es : List D) : Tr D := if ds.length = n ∧ es.length = m then bd (F [] (ds ++ picks l dds es)) fun fs => .ok (.obj c fs) else .bad
section
variable {g : Gw} {E : XK} {ε : Env} {tk : TA} {mk : Tr (List D)}
theorem srk_mk {cn : Str} {F : Fs → List D → Tr Fs} {n m : Nat} {l : List (Nat ⊕ Nat)} {dvs : List V} {dds : List D} (hd : ∀ U H, DenL g U H dvs dds) : SRK g E (rMkK (gd cn g.K) n m (fun vs zs => vs ++ picks l dvs zs) (spI g.K g.T cn F) E) (kwM cn n m l dds F) := fun U H b vs zs ds es Q dn en wd u q => by
  unfold kwM at q
  split at q
  · rename_i hl
    exact ⟨by rw [dn.length]; exact hl.1, by rw [en.length]; exact hl.2, srl_mk0 U H b _ _ Q (dn.append (denL_picks l (hd U H) en)) wd u q⟩
  · exact q.elim
theorem se_clK0 {r : List V → List V → Hp → VK → Prop} {f : List D → List D → Tr D} (hr : SRK g E r f) (hk : SA g E ε tk mk) : SE g E ε (tClK r tNil tk) (bd mk (f [])) := fun U σ H b Q R W u q =>
  hk.step R W u q fun zs es H1 b1 d1 w1 f1 R1 u1 q1 => hr U H1 b1 [] zs [] es Q .nil d1 w1 u1 (q1.mono (fun _ _ h => h.fr f1) (fun _ _ _ h => h))
end
section
variable {K : PySem.W.Frag} {x qual : Str} {params : Arguments} {body : List Stmt} {scope : Scope} {dvs : List V} {f B : Addr} {file : Str} {fd : FuncData} {ps : List Str}
theorem SupF.kbN (F : SupF K x qual params body scope [] f B file fd) (n : Nat) (ks : List Str) (l : List (Nat ⊕ Nat))
    (h : ∀ (cl : List (Str × Addr)) (kV doc pm : Value) (an : Option Addr) (cdv ct : Value) (us ws : List Value), us.length = n → ws.length = ks.length → bindArgs (PySem.W.fnX x qual params body scope cl .none kV doc pm an cdv ct) ⟨us, ks.zip ws⟩ = pure (ps.zip (us ++ picks l [] ws))) :
    KBn K fd ps n ks (fun us ws => us ++ picks l [] ws) (fun vs zs => vs ++ picks l [] zs) := by
  obtain ⟨oc, od, dV, kV, doc, pm, an, cda, ct, osl, cc, rfl, lk, hcd, hD, _⟩ := F.ex
  rcases hD with ⟨_, rfl⟩ | ⟨e, _⟩
  · exact ⟨fun s us ws X l1 l2 => .of_eq (h _ kV doc pm an _ ct us ws l1 l2), fun r1 r2 => r1.append (picks_rel l .nil r2)⟩
  · exact absurd rfl e
end
end Gp
end
section
namespace Gp
open PySem PySem.Spec PyProof.Rows L2 Gh
def rIsiX (K : PySem.W.Frag) (a : Addr) (cls : Value) (d : Option Addr) : List V → Hp → VK → Prop := fun xs H Q => ∃ (C dd : Addr) (fs : List (Str × V)) (c : V) (u : Value) (b : Bool), xs = [.ref a, c] ∧ ClsV c u ∧ cls = .ref C ∧ d = some dd ∧ H dd = some (.xd fs) ∧ ErrT K C ∧ PySem.W.kitOne K (.ref C) u = some b ∧ Q (.bl b) H
theorem call_isiX {X : Cx} {K : PySem.W.Frag} (hK : X.K = K) {a : Addr} {oe : Obj} {cls : Value} {d : Option Addr} {pn : List (Addr × Obj)} (hz : Zc cls d oe) (hf : ∃ vs, oe.data = .fields vs) : CallR (X.suite a ((a, oe) :: pn)) (.builtin "isinstance") (rIsiX K a cls d) := by
  subst hK
  intro pins s σ H xs us Q I r h
  obtain ⟨C, dd, fs, c, u, b, rfl, k, rfl, rfl, ed, T, e, q⟩ := h
  obtain ⟨u1, u2, rfl, r1, r2⟩ := vals2 r
  obtain rfl : u1 = Value.ref a := r1
  have e2 := k.eq r2
  subst e2
  obtain ⟨ha, _⟩ := I.pin (a, oe) (List.mem_append_left _ List.mem_cons_self)
  obtain ⟨vs, hd⟩ := hf
  obtain ⟨mA, hns, hr⟩ := (show ObjOk X.prog X.w H s.heap dd (.xd fs) from I.hok dd _ ed)
  obtain ⟨od, ho, hl⟩ := lookIn_ns hns
  have J : PySem.W.InstAt s.heap a oe C (some od) := ⟨ha, hz.1, by unfold PySem.W.notCls; rw [hd] <;> rfl, by rw [hz.2]; exact ho⟩
  have hcl : (PySem.W.clsIn X.K C).isSome = true := by
    obtain ⟨cd, hc, _⟩ := PySem.W.any_some T.hd
    rw [hc]
    rfl
  exact PySem.W.kia_one (PySem.W.kitx_exc hcl T.hg T.hk T.hs T.ha T.hn T.htk T.hm) I.kIn J e (fun z => nomatch z) fun tk => ⟨.bl b, H, I.tok tk, rfl, q⟩
def BX.te (K : PySem.W.Frag) (a : Addr) (cls : Value) (d : Option Addr) (i : Nat) : BX → TE
  | .lit b => tC (.bl b)
  | .own x => tCB (rIsiX K a cls d) (tCons (tVar i) (tCons (tC (.ref (gd x K))) tNil))
  | .ty x => tCB (rIsiX K a cls d) (tCons (tVar i) (tCons (tC (.ty x)) tNil))
  | .and p q => tAndV (p.te K a cls d i) (q.te K a cls d i)
section
variable {g : Gw} {U : Addr → Prop} {H H' : Hp} {b : Nat} {σ : L2.St} {ε : Env}
end
end Gp
end
section
namespace Gp
open PySem PySem.Spec PyProof.Rows L2 Gh
def keyPy : Key → PyData
  | .inl i => .int i
  | .inr x => .str x
mutual
def toPyX : D → Option PyData
  | .non => some .none
  | .bl b => some (.bool b)
  | .int i => some (.int i)
  | .str x => some (.str x)
  | .tup ds => (toPyXL ds).map .tuple
  | .lst ds => (toPyXL ds).map .list
  | .dct => some (.dict [])
  | .dic ps => (toPyXP ps).map .dict
  | .dit _ => none
  | .dik _ => none
  | .obj _ _ => none
  | .err _ _ => none
  | .pen => none
  | .cls _ => none
  | .er0 _ => none
def toPyXL : List D → Option (List PyData)
  | [] => some []
  | d :: ds => match toPyX d, toPyXL ds with
    | some e, some es => some (e :: es)
    | _, _ => none
def toPyXP : List (Key × D) → Option (List (PyData × PyData))
  | [] => some []
  | (k, d) :: ds => match toPyX d, toPyXP ds with
    | some e, some es => some ((keyPy k, e) :: es)
    | _, _ => none
end
theorem key_reads {h : Heap} {k : Key} {v : Value} (e : keyIs k v = true) : Reads h v (keyPy k) [] := by
  rcases keyIs_shape e with ⟨i, t, rfl, rfl⟩ | ⟨x, t, rfl, rfl⟩
  · exact .int i t
  · exact .str x t
section
variable {X : Cx} {pins : List (Addr × Obj)} {σ : L2.St} {H : Hp} {s : Shared} {g : Gw} {U : Addr → Prop}
theorem keys_reads {knd : PySem.KeyKind X.prog X.w Key} (hk : knd = mixKind X.prog X.w) {h : Heap} : ∀ {es : List DictEntry} {kvs : List (Key × Value)}, Pairs knd es kvs → ReadsAll h (es.map (·.key)) (kvs.map fun kv => keyPy kv.1) [] := by
  subst hk
  intro es kvs p
  induction p with
  | nil => exact .nil
  | cons a hv r ih => exact ReadsAll.cons (key_reads (show keyIs _ _ = true from a)) ih
theorem vals_of_pairs {knd : PySem.KeyKind X.prog X.w Key} : ∀ {es : List DictEntry} {kvs : List (Key × Value)}, Pairs knd es kvs → es.map (·.val) = kvs.map (·.2) := by
  intro es kvs p
  induction p with
  | nil => rfl
  | cons a hv r ih => rw [List.map_cons, List.map_cons, ih, hv]
theorem kv_parts {κ : Type} : ∀ {kvs : List (κ × V)} {vs : List (κ × Value)}, KV kvs vs → kvs.map (·.1) = vs.map (·.1) ∧ Vals (kvs.map (·.2)) (vs.map (·.2)) := by
  intro kvs vs p
  induction p with
  | nil => exact ⟨rfl, .nil⟩
  | cons a r ih => exact ⟨by rw [List.map_cons, List.map_cons, ih.1, a.1], .cons a.2 ih.2⟩
theorem xp_keys : ∀ {ps : List (Key × D)} {es : List (PyData × PyData)}, toPyXP ps = some es → es.map (·.1) = (ps.map (·.1)).map keyPy
  | [], _, h => by cases h; rfl
  | (k, d) :: ps, es, h => by
    unfold toPyXP at h
    cases e1 : toPyX d with
    | none => rw [e1] at h; cases h
    | some e =>
      cases e2 : toPyXP ps with
      | none => rw [e1, e2] at h; cases h
      | some es2 =>
        rw [e1, e2] at h
        cases h
        rw [List.map_cons, List.map_cons, List.map_cons, xp_keys e2]
mutual
theorem den_readsX (I : Inv X pins σ H s) (hK : X.K = g.K) : ∀ (d : D) (v : V) (u : Value) (e : PyData), Den g U H v d → RelV v u → toPyX d = some e → ∃ as, Reads s.heap u e as ∧ ∀ a ∈ as, H a ≠ none
  | .non, _, _, _, h, r, q => by
    cases h; cases r; cases q
    exact ⟨_, Reads.none, fun _ z => nomatch z⟩
  | .bl b, _, _, _, h, r, q => by
    cases h; cases r; cases q
    exact ⟨_, Reads.bool b, fun _ z => nomatch z⟩
  | .int i, _, _, _, h, r, q => by
    cases h; cases q
    obtain ⟨t, rfl⟩ := r
    exact ⟨_, Reads.int i t, fun _ z => nomatch z⟩
  | .str x, _, _, _, h, r, q => by
    cases h; cases q
    obtain ⟨t, rfl⟩ := r
    exact ⟨_, Reads.str x t, fun _ z => nomatch z⟩
  | .tup ds, _, _, _, h, r, q => by
    unfold toPyX at q
    obtain ⟨es, q1, rfl⟩ := Option.map_eq_some_iff.mp q
    obtain ⟨a, vs, rfl, hs, _, ha⟩ := den_tup h
    cases r
    rw [← hK] at hs
    obtain ⟨its, rv, ⟨o, ho, hc, n, hd⟩, _⟩ := I.tuple hs
    obtain ⟨as, hr, hn⟩ := den_readsXL I hK ds _ its es ha rv q1
    exact ⟨_, Reads.tuple ho hc hd hr, hn⟩
  | .lst ds, _, _, _, h, r, q => by
    unfold toPyX at q
    obtain ⟨es, q1, rfl⟩ := Option.map_eq_some_iff.mp q
    cases h with
    | lst hl nu len ha =>
      cases r
      obtain ⟨its, rv, ⟨o, n, ho, hc, _, hd⟩, _⟩ := I.list (SqL.of hl)
      obtain ⟨as, hr, hn⟩ := den_readsXL I hK ds _ its es ha rv q1
      refine ⟨_, Reads.list ho hc hd hr, fun x hx => ?_⟩
      rcases List.mem_cons.mp hx with rfl | hx
      · rw [hl]; exact fun z => nomatch z
      · exact hn x hx
  | .dct, _, _, _, h, r, q => by
    cases q
    cases h with
    | dct hl nu =>
      cases r
      obtain ⟨_, sm, vs, kv, o, es, ep, ho, hc, hd, _, hp, _⟩ := dk_of I.hok hl
      have e0 : vs = [] := by
        cases kv
        rfl
      subst e0
      have e1 : es.toList = [] := by
        cases hq : es.toList with
        | nil => rfl
        | cons x r => rw [hq] at hp; cases hp
      refine ⟨_, .dict (as := []) (bs := []) ho hc.1 hd (by rw [e1]; exact .nil) (by rw [e1]; exact .nil), fun x hx => ?_⟩
      rw [List.append_nil] at hx
      rw [List.mem_singleton.mp hx, hl]
      exact fun z => nomatch z
  | .dic ps, _, _, _, h, r, q => by
    unfold toPyX at q
    obtain ⟨es', q1, rfl⟩ := Option.map_eq_some_iff.mp q
    cases h with
    | dic hl nu hk ha =>
      cases r
      obtain ⟨_, sm, vs, kv, o, es, ep, ho, hc, hd, _, hp, _⟩ := dk_of I.hok hl
      obtain ⟨k1, k2⟩ := kv_parts kv
      obtain ⟨bs, hr, hn⟩ := den_readsXP I hK ps _ _ es' ha k2 q1
      have hkeys := keys_reads (X := X) rfl (h := s.heap) hp
      have e1 : (vs.map fun kv => keyPy kv.1) = es'.map (·.1) := by
        rw [xp_keys q1, ← hk, k1, List.map_map]
        rfl
      rw [e1] at hkeys
      rw [← vals_of_pairs (X := X) hp] at hr
      refine ⟨_, .dict ho hc.1 hd hkeys hr, fun x hx => ?_⟩
      rcases List.mem_append.mp hx with hx | hx
      · rw [List.mem_singleton.mp hx, hl]
        exact fun z => nomatch z
      · exact hn x hx
  | .dit _, _, _, _, _, _, q => by cases q
  | .dik _, _, _, _, _, _, q => by cases q
  | .obj _ _, _, _, _, _, _, q => by cases q
  | .err _ _, _, _, _, _, _, q => by cases q
  | .pen, _, _, _, _, _, q => by cases q
  | .cls _, _, _, _, _, _, q => by cases q
theorem den_readsXL (I : Inv X pins σ H s) (hK : X.K = g.K) : ∀ (ds : List D) (vs : List V) (us : List Value) (es : List PyData), DenL g U H vs ds → Vals vs us → toPyXL ds = some es → ∃ as, ReadsAll s.heap us es as ∧ ∀ a ∈ as, H a ≠ none
  | [], _, _, _, h, r, q => by
    cases h; cases r; cases q
    exact ⟨_, ReadsAll.nil, fun _ z => nomatch z⟩
  | d :: ds, _, _, _, h, r, q => by
    cases h with
    | cons h1 h2 =>
      cases r with
      | cons r1 r2 =>
        unfold toPyXL at q
        cases e1 : toPyX d with
        | none => rw [e1] at q; cases q
        | some e =>
          cases e2 : toPyXL ds with
          | none => rw [e1, e2] at q; cases q
          | some es =>
            rw [e1, e2] at q
            cases q
            obtain ⟨as, q1, n1⟩ := den_readsX I hK d _ _ _ h1 r1 e1
            obtain ⟨bs, q2, n2⟩ := den_readsXL I hK ds _ _ _ h2 r2 e2
            exact ⟨_, ReadsAll.cons q1 q2, fun a ha => (List.mem_append.mp ha).elim (n1 a) (n2 a)⟩
theorem den_readsXP (I : Inv X pins σ H s) (hK : X.K = g.K) : ∀ (ps : List (Key × D)) (vs : List V) (us : List Value) (es : List (PyData × PyData)), DenL g U H vs (ps.map (·.2)) → Vals vs us → toPyXP ps = some es → ∃ as, ReadsAll s.heap us (es.map (·.2)) as ∧ ∀ a ∈ as, H a ≠ none
  | [], _, _, _, h, r, q => by
    cases h; cases r; cases q
    exact ⟨_, ReadsAll.nil, fun _ z => nomatch z⟩
  | (k, d) :: ps, _, _, _, h, r, q => by
    rw [List.map_cons] at h
    cases h with
    | cons h1 h2 =>
      cases r with
      | cons r1 r2 =>
        unfold toPyXP at q
        cases e1 : toPyX d with
        | none => rw [e1] at q; cases q
        | some e =>
          cases e2 : toPyXP ps with
          | none => rw [e1, e2] at q; cases q
          | some es =>
            rw [e1, e2] at q
            cases q
            obtain ⟨as, q1, n1⟩ := den_readsX I hK d _ _ _ h1 r1 e1
            obtain ⟨bs, q2, n2⟩ := den_readsXP I hK ps _ _ _ h2 r2 e2
            exact ⟨_, ReadsAll.cons q1 q2, fun a ha => (List.mem_append.mp ha).elim (n1 a) (n2 a)⟩
end
end
@[irreducible] def rShowX (K : PySem.W.Frag) : List V → Hp → VK → Prop := fun xs H Q => rShow K xs H Q ∨ ∃ (g : Gw) (U : Addr → Prop) (d : D) (e : PyData) (a : Addr), g.K = K ∧ xs = [.ref a] ∧ Den g U H (.ref a) d ∧ toPyX d = some e ∧ e.showable = true ∧ e.depth ≤ 100 ∧ e.shown.length ≤ sizeLine ∧ Q (.str e.shown) H
section
variable {X : Cx} {K : PySem.W.Frag}
theorem call_showX (hK : X.K = K) (hs : sysB X.K = true) (hu : X.A.units + 102 < cLine) (hg : X.A.guards = some []) : CallR X (.builtin "repr") (rShowX K) := by
  intro pins s σ H xs us Q I r h
  unfold rShowX at h
  rcases h with h | ⟨g, U, d, e, a, hgK, rfl, dn, he, h1, h2, h3, q⟩
  · exact call_show hK hu hg pins s σ H xs us Q I r h
  · obtain ⟨u, rfl, ru⟩ := vals1 r
    cases (show u = Value.ref a from ru)
    obtain ⟨as, rd, hn⟩ := den_readsX (g := g) I (hK.trans hgK.symm) d _ _ e dn rfl he
    obtain ⟨o, ho⟩ := Option.isSome_iff_exists.mp hs
    have z : H sysModules = none := (I.bs sysModules o (I.ok.mod.kin _ _ ho)).2
    exact repr_of_reads' rd h1 (fun _ m => hn _ m z) hg (by omega) (fun _ _ e => e) (fun h' u tk k => ⟨.str e.shown, H, I.kept k, ⟨u, rfl⟩, q⟩) h3
end
def reprX (d : D) : Tr D := match shwD d with
  | some x => if x.length ≤ sizeLine then .ok (.str x) else .bad
  | none => match toPyX d with
    | some e => if e.showable = true ∧ e.depth ≤ 100 ∧ e.shown.length ≤ sizeLine then .ok (.str e.shown) else .bad
    | none => .bad
section
variable {g : Gw} {E : XK}
theorem den_ref {U : Addr → Prop} {H : Hp} {v : V} {d : D} {e : PyData} (h : Den g U H v d) (hs : shwD d = none) (e1 : toPyX d = some e) (e2 : e.showable = true) (e3 : e.shown.length ≤ sizeLine) : ∃ a, v = .ref a := by
  cases h with
  | non => cases hs
  | bl b => cases hs
  | int i =>
    cases e1
    unfold shwD at hs
    dsimp only at hs
    have : i.natAbs.log2 < 1920 := of_decide_eq_true (by simpa [PyData.showable] using e2)
    rw [if_pos this] at hs
    cases hs
  | str x hx =>
    cases e1
    unfold shwD at hs
    dsimp only at hs
    have : (reprText x).length ≤ sizeLine := by simpa [PyData.shown] using e3
    rw [if_pos this] at hs
    cases hs
  | _ => exact ⟨_, rfl⟩
theorem srl_reprX : SRL g E (rShowX g.K) (ul1 reprX) := fun U H b xs dxs Q dn w u q => by
  obtain ⟨x, rfl, q1⟩ := al_ul1 q
  unfold rShowX
  unfold reprX at q1
  cases e : shwD x with
  | some t =>
    refine .inl (srl_repr (E := E) U H b xs [x] Q dn w u ?_)
    show Al _ _ (reprD x) b
    unfold reprD
    rw [e] at q1 ⊢
    exact q1
  | none =>
    rw [e] at q1
    cases e1 : toPyX x with
    | none => rw [e1] at q1; exact q1.elim
    | some e2 =>
      rw [e1] at q1
      dsimp only at q1
      split at q1
      · rename_i z
        obtain ⟨v, rfl, d1⟩ := denL_1 dn
        obtain ⟨a, rfl⟩ := den_ref d1 e e1 z.1 z.2.2
        exact .inr ⟨g, U, x, e2, a, rfl, rfl, d1, e1, z.1, z.2.1, z.2.2, okP.here q1 w (.str _ z.2.2)⟩
      · exact q1.elim
end
end Gp
end
section
namespace Gp
open PySem PySem.Spec PyProof.Rows L2 Gh
def IX.te (K : PySem.W.Frag) (a : Addr) (cls : Value) (d : Option Addr) (i : Nat) : IX → TE
  | .s x => tC (.str x)
  | .n k => tC (.int k)
  | .f cn x => tXf a cls d (gd cn K) x (tVar i)
def ixTs (K : PySem.W.Frag) (a : Addr) (cls : Value) (d : Option Addr) (i : Nat) : List IX → TA
  | [] => tNil
  | x :: r => tCons (x.te K a cls d i) (ixTs K a cls d i r)
def rIsiX2 (K : PySem.W.Frag) (a : Addr) (cls : Value) (d : Option Addr) : List V → Hp → VK → Prop := fun xs H Q => ∃ (C dd tp c1 c2 : Addr) (fs : List (Str × V)) (b : Bool), xs = [.ref a, .ref tp] ∧ cls = .ref C ∧ d = some dd ∧ H dd = some (.xd fs) ∧ ErrT K C ∧ H tp = some (.tup [.ref c1, .ref c2]) ∧ PySem.W.kitAny K (.ref C) [.ref c1, .ref c2] = some b ∧ Q (.bl b) H
theorem call_isiX2 {X : Cx} {K : PySem.W.Frag} (hK : X.K = K) {a : Addr} {oe : Obj} {cls : Value} {d : Option Addr} {pn : List (Addr × Obj)} (hz : Zc cls d oe) (hf : ∃ vs, oe.data = .fields vs) : CallR (X.suite a ((a, oe) :: pn)) (.builtin "isinstance") (rIsiX2 K a cls d) := by
  subst hK
  intro pins s σ H xs us Q I r h
  obtain ⟨C, dd, tp, c1, c2, fs, b, rfl, rfl, rfl, ed, T, hT, e, q⟩ := h
  obtain ⟨u1, u2, rfl, r1, r2⟩ := vals2 r
  obtain rfl : u1 = Value.ref a := r1
  cases (show u2 = Value.ref tp from r2)
  obtain ⟨ha, _⟩ := I.pin (a, oe) (List.mem_append_left _ List.mem_cons_self)
  obtain ⟨vs, hd⟩ := hf
  obtain ⟨mA, hns, hr⟩ := (show ObjOk X.prog X.w H s.heap dd (.xd fs) from I.hok dd _ ed)
  obtain ⟨od, ho, hl⟩ := lookIn_ns hns
  have J : PySem.W.InstAt s.heap a oe C (some od) := ⟨ha, hz.1, by unfold PySem.W.notCls; rw [hd] <;> rfl, by rw [hz.2]; exact ho⟩
  have hcl : (PySem.W.clsIn X.K C).isSome = true := by
    obtain ⟨cd, hc, _⟩ := PySem.W.any_some T.hd
    rw [hc]
    rfl
  obtain ⟨_, its, rv, o, h1, h2, n, h3⟩ := (show ObjOk X.prog X.w H s.heap tp (.tup [.ref c1, .ref c2]) from I.hok tp _ hT)
  have e3 : its = [.ref c1, .ref c2] := by
    cases rv with
    | cons x1 rv =>
      cases rv with
      | cons x2 rv =>
        cases rv
        rw [show _ = Value.ref c1 from x1, show _ = Value.ref c2 from x2]
  subst e3
  obtain ⟨oc, od, dt, sl⟩ := o
  simp only at h2 h3
  subst h2 h3
  exact PySem.W.kia_tup (PySem.W.kitx_exc hcl T.hg T.hk T.hs T.ha T.hn T.htk T.hm) I.kIn J h1 e (fun z => nomatch z) fun tk => ⟨.bl b, H, I.tok tk, rfl, q⟩
def TX.tt (K : PySem.W.Frag) (a : Addr) (cls : Value) (d : Option Addr) (i : Nat) : TX → TT
  | .own x => tB (tCB (rIsiX K a cls d) (tCons (tVar i) (tCons (tC (.ref (gd x K))) tNil)))
  | .not p => tNot (p.tt K a cls d i)
  | .and p q => tAnd (p.tt K a cls d i) (q.tt K a cls d i)
  | .own2 x y => tB (tCB (rIsiX2 K a cls d) (tCons (tVar i) (tCons (tTup (tCons (tC (.ref (gd x K))) (tCons (tC (.ref (gd y K))) tNil))) tNil)))
def VX.te (K : PySem.W.Frag) (a : Addr) (cls : Value) (d : Option Addr) (i : Nat) : VX → TE
  | .one x => x.te K a cls d i
  | .lst l => tLst (ixTs K a cls d i l)
def S1X.ts (K : PySem.W.Frag) (a : Addr) (cls : Value) (d : Option Addr) (i j : Nat) : S1X → TS
  | .set v => tAsg (v.te K a cls d i) (gName j)
  | .sel t v u => tAsg (tIf (t.tt K a cls d i) (v.te K a cls d i) (u.te K a cls d i)) (gName j)
abbrev S2X : Type := TX × VX
def s2T (K : PySem.W.Frag) (a : Addr) (cls : Value) (d : Option Addr) (i j : Nat) (x : S2X) : TS := tIfS (x.1.tt K a cls d i) (tAsg (x.2.te K a cls d i) (gName j)) tNext
def s2Ts (K : PySem.W.Frag) (a : Addr) (cls : Value) (d : Option Addr) (i j : Nat) : S2X → List S2X → TS
  | x, [] => s2T K a cls d i j x
  | x, y :: r => tSeq (s2T K a cls d i j x) (s2Ts K a cls d i j y r)
def sxTs (K : PySem.W.Frag) (a : Addr) (cls : Value) (d : Option Addr) (i j : Nat) (x : S1X) : List S2X → TS
  | [] => x.ts K a cls d i j
  | y :: r => tSeq (x.ts K a cls d i j) (s2Ts K a cls d i j y r)
def s2Ds (ki : Str → Str → Option Bool) (cl : Str) (fs : Fs) : List S2X → D → Option D
  | [], t0 => some t0
  | x :: r, t0 => match x.1.v ki cl with
    | none => none
    | some true => (match x.2.d cl fs with
      | some t1 => s2Ds ki cl fs r t1
      | none => none)
    | some false => s2Ds ki cl fs r t0
def sxDs (ki : Str → Str → Option Bool) (cl : Str) (fs : Fs) (x : S1X) (r : List S2X) : Option D := match x.d ki cl fs with
  | some t1 => s2Ds ki cl fs r t1
  | none => none
def pickX (xh : Str → Bool) (ki : Str → Str → Option Bool) (x : S1X) (r : List S2X) (cl : Str) (fs : Fs) : Tr D :=
  if xh cl = true then (match sxDs ki cl fs x r with
    | some d => .ok d
    | none => .bad) else .bad
section
variable {g : Gw} {U : Addr → Prop} {H : Hp} {b : Nat} {σ : L2.St}
variable {a dd : Addr} {cl : Str} {i j n : Nat} {fvs : List (Str × V)} {fs : Fs} {ki : Str → Str → Option Bool}
theorem ix_run (hd : H dd = some (.xd fvs)) (df : DenF g U H fvs fs) (hi : σ[i]? = some (some (.ref a))) {x : IX} {d : D} {Q : VK} (e : x.d cl fs = some d) (q : ∀ v, Den g U H v d → Q v H) :
    x.te g.K a (.ref (gd cl g.K)) (some dd) i σ H Q := by
  cases x with
  | s y =>
    simp only [IX.d] at e
    split at e
    · rename_i hl
      cases e
      exact q _ (.str y hl)
    · cases e
  | n y =>
    cases e
    exact q _ (.int y)
  | f cn y =>
    simp only [IX.d] at e
    split at e
    · rename_i hc
      have hc' : cl = cn := by simpa using hc
      subst hc'
      obtain ⟨v, hv, dn⟩ := df.look e
      exact ⟨_, hi, rfl, rfl, dd, fvs, v, rfl, hd, hv, q v dn⟩
    · cases e
theorem ixs_run (hd : H dd = some (.xd fvs)) (df : DenF g U H fvs fs) (hi : σ[i]? = some (some (.ref a))) :
    ∀ {l : List IX} {ds : List D} {Q : List V → Hp → Prop}, ixDs cl fs l = some ds → (∀ vs, DenL g U H vs ds → Q vs H) → ixTs g.K a (.ref (gd cl g.K)) (some dd) i l σ H Q
  | [], ds, Q, e, q => by
    cases e
    exact q [] .nil
  | x :: r, ds, Q, e, q => by
    unfold ixDs at e
    cases e1 : x.d cl fs with
    | none => rw [e1] at e; cases e
    | some d =>
      cases e2 : ixDs cl fs r with
      | none => rw [e1, e2] at e; cases e
      | some es =>
        rw [e1, e2] at e
        cases e
        refine ix_run (cl := cl) hd df hi e1 fun v dv => ?_
        exact ixs_run hd df hi e2 fun vs dl => q _ (.cons dv dl)
theorem UOk.same' {U : Addr → Prop} {H H' : Hp} {g : Gw} (u : UOk g U H) (s : L2.Same H H') : UOk g U H' := ⟨u.p, u.c, fun a ha => by
  obtain ⟨o, e, t⟩ := u.al a ha
  exact ⟨o, s a o e, t⟩⟩
theorem tx_run (hi : σ[i]? = some (some (.ref a)))
    (hk : ∀ cl cn b, ki cl cn = some b → ErrT g.K (gd cl g.K) ∧ PySem.W.kitOne g.K (.ref (gd cl g.K)) (.ref (gd cn g.K)) = some b) :
    ∀ {p : TX} {k : Bool} {H : Hp} {Q : Bool → Hp → Prop}, H dd = some (.xd fvs) → p.v ki cl = some k → (∀ H', L2.Same H H' → Q k H') → p.tt g.K a (.ref (gd cl g.K)) (some dd) i σ H Q
  | .own x, k, H, Q, hd, e, q => by
    obtain ⟨T, h3⟩ := hk _ _ _ e
    exact ⟨_, hi, _, dd, fvs, _, _, k, rfl, .own _, rfl, rfl, hd, T, h3, k, rfl, q H (L2.Same.refl _)⟩
  | .own2 x y, k, H, Q, hd, e, q => by
    simp only [TX.v] at e
    cases e1 : ki cl x with
    | none => rw [e1] at e; cases e
    | some k1 =>
      cases e2 : ki cl y with
      | none => rw [e1, e2] at e; cases e
      | some k2 =>
        rw [e1, e2] at e
        cases e
        obtain ⟨T, h3⟩ := hk _ _ _ e1
        obtain ⟨_, h4⟩ := hk _ _ _ e2
        have ka : PySem.W.kitAny g.K (.ref (gd cl g.K)) [.ref (gd x g.K), .ref (gd y g.K)] = some (k1 || k2) := by
          cases k1
          · cases k2
            · exact kitAny_cons h3 (fun _ => kitAny_cons h4 (fun _ => rfl) (fun z => by cases z)) (fun z => by cases z)
            · exact kitAny_cons h3 (fun _ => kitAny_cons h4 (fun z => by cases z) (fun _ => rfl)) (fun z => by cases z)
          · exact kitAny_cons h3 (fun z => by cases z) (fun _ => rfl)
        refine ⟨_, hi, ?_⟩
        show 2 ≤ sizeLine ∧ ∀ p, H p = none → _
        refine ⟨by decide, fun p np => ?_⟩
        have s := same_new (o := .tup [V.ref (gd x g.K), V.ref (gd y g.K)]) np
        exact ⟨_, dd, p, _, _, fvs, _, rfl, rfl, rfl, s _ _ hd, T, upd_same, ka, _, rfl, q _ s⟩
  | .not p, k, H, Q, hd, e, q => by
    simp only [TX.v] at e
    cases e1 : p.v ki cl with
    | none => rw [e1] at e; cases e
    | some k' =>
      rw [e1] at e
      cases e
      exact tx_run hi hk (p := p) (Q := fun c H1 => Q (!c) H1) hd e1 q
  | .and p p', k, H, Q, hd, e, q => by
    simp only [TX.v] at e
    show p.tt g.K a _ (some dd) i σ H fun c H1 => if c = true then p'.tt g.K a _ (some dd) i σ H1 Q else Q false H1
    cases e1 : p.v ki cl with
    | none => rw [e1] at e; cases e
    | some k' =>
      rw [e1] at e
      refine tx_run hi hk hd e1 fun H1 s1 => ?_
      cases k' with
      | true => exact (if_pos rfl).mpr (tx_run hi hk (s1 _ _ hd) e fun H2 s2 => q H2 (s1.trans s2))
      | false =>
        cases e
        exact (if_neg Bool.false_ne_true).mpr (q H1 s1)
theorem vx_run (hd : H dd = some (.xd fvs)) (df : DenF g U H fvs fs) (u : UOk g U H) (hi : σ[i]? = some (some (.ref a))) {x : VX} {d : D} {Q : VK} (e : x.d cl fs = some d)
    (q : ∀ v H', L2.Same H H' → Den g U H' v d → Q v H') : x.te g.K a (.ref (gd cl g.K)) (some dd) i σ H Q := by
  cases x with
  | one x => exact ix_run (cl := cl) hd df hi e fun v dv => q v H (L2.Same.refl _) dv
  | lst l =>
    simp only [VX.d] at e
    cases e1 : ixDs cl fs l with
    | none => rw [e1] at e; cases e
    | some ds =>
      rw [e1] at e
      simp only at e
      split at e
      · rename_i hl
        cases e
        refine ixs_run (cl := cl) hd df hi e1 fun vs dl => ⟨by rw [dl.length]; exact hl, fun p np => ?_⟩
        have s := same_new (o := .lst vs) np
        exact q _ _ s (.lst upd_same (u.new np) (by rw [dl.length]; exact hl) (dl.ext (u.extU (fr_same s))))
      · cases e
theorem s1_run {De : Ends} (u : UOk g U H) (hd : H dd = some (.xd fvs)) (df : DenF g U H fvs fs) (hi : σ[i]? = some (some (.ref a)))
    (hk : ∀ cl cn b, ki cl cn = some b → ErrT g.K (gd cl g.K) ∧ PySem.W.kitOne g.K (.ref (gd cl g.K)) (.ref (gd cn g.K)) = some b) {x : S1X} {d : D} (e : x.d ki cl fs = some d)
    (q : ∀ v H', L2.Same H H' → Den g U H' v d → De.nx (σ.set j (some v)) H') : x.ts g.K a (.ref (gd cl g.K)) (some dd) i j De σ H := by
  cases x with
  | set v => exact vx_run (cl := cl) hd df u hi e fun v H' s dv => q v H' s dv
  | sel t v v' =>
    simp only [S1X.d] at e
    cases e1 : t.v ki cl with
    | none => rw [e1] at e; cases e
    | some k =>
      rw [e1] at e
      refine tx_run (ki := ki) hi hk hd e1 fun H1 s1 => ?_
      have u1 : UOk g U H1 := u.same' s1
      have df1 := df.ext (H' := H1) fun a o e _ _ => s1 a o e
      cases k with
      | true => exact (if_pos rfl).mpr (vx_run (cl := cl) (s1 _ _ hd) df1 u1 hi e fun v H' s dv => q v H' (s1.trans s) dv)
      | false => exact (if_neg Bool.false_ne_true).mpr (vx_run (cl := cl) (s1 _ _ hd) df1 u1 hi e fun v H' s dv => q v H' (s1.trans s) dv)
theorem s2_run {De : Ends} (hij : i ≠ j)
    (hk : ∀ cl cn b, ki cl cn = some b → ErrT g.K (gd cl g.K) ∧ PySem.W.kitOne g.K (.ref (gd cl g.K)) (.ref (gd cn g.K)) = some b) :
    ∀ {r : List S2X} {x : S2X} {t0 d : D} {v0 : V} {H : Hp}, Wd g H b → UOk g U H → H dd = some (.xd fvs) → DenF g U H fvs fs → σ[i]? = some (some (.ref a)) → Den g U H v0 t0 → s2Ds ki cl fs (x :: r) t0 = some d →
      (∀ v H', L2.Same H H' → Den g U H' v d → De.nx (σ.set j (some v)) H') → s2Ts g.K a (.ref (gd cl g.K)) (some dd) i j x r De (σ.set j (some v0)) H := by
  intro r
  induction r generalizing De with
  | nil =>
    intro x t0 d v0 H wd u hd df hi dv e q
    have hi' : (σ.set j (some v0))[i]? = some (some (.ref a)) := by rw [List.getElem?_set_ne (fun z => hij z.symm)]; exact hi
    unfold s2Ds at e
    cases e1 : x.1.v ki cl with
    | none => rw [e1] at e; cases e
    | some k =>
      rw [e1] at e
      refine tx_run (ki := ki) hi' hk hd e1 fun H1 s1 => ?_
      have u1 : UOk g U H1 := u.same' s1
      have df1 := df.ext (H' := H1) fun a o e _ _ => s1 a o e
      have dv1 := dv.ext (H' := H1) fun a o e _ _ => s1 a o e
      have hd1 := s1 _ _ hd
      have wd1 := wd.same s1
      cases k with
      | true =>
        refine (if_pos rfl).mpr ?_
        cases e2 : x.2.d cl fs with
        | none => rw [e2] at e; cases e
        | some t1 =>
          rw [e2] at e
          cases e
          refine vx_run (cl := cl) hd1 df1 u1 hi' e2 fun v H' s dv' => ?_
          show De.nx ((σ.set j (some v0)).set j (some v)) H'
          rw [List.set_set]
          exact q v H' (s1.trans s) dv'
      | false =>
        refine (if_neg Bool.false_ne_true).mpr ?_
        cases e
        exact q v0 H1 s1 dv1
  | cons y r ih =>
    intro x t0 d v0 H wd u hd df hi dv e q
    have hi' : (σ.set j (some v0))[i]? = some (some (.ref a)) := by rw [List.getElem?_set_ne (fun z => hij z.symm)]; exact hi
    unfold s2Ds at e
    cases e1 : x.1.v ki cl with
    | none => rw [e1] at e; cases e
    | some k =>
      rw [e1] at e
      refine tx_run (ki := ki) hi' hk hd e1 fun H1 s1 => ?_
      have u1 : UOk g U H1 := u.same' s1
      have df1 := df.ext (H' := H1) fun a o e _ _ => s1 a o e
      have dv1 := dv.ext (H' := H1) fun a o e _ _ => s1 a o e
      have hd1 := s1 _ _ hd
      have wd1 := wd.same s1
      cases k with
      | true =>
        refine (if_pos rfl).mpr ?_
        cases e2 : x.2.d cl fs with
        | none => rw [e2] at e; cases e
        | some t1 =>
          rw [e2] at e
          refine vx_run (cl := cl) hd1 df1 u1 hi' e2 fun v H' s dv' => ?_
          show s2Ts g.K a _ (some dd) i j y r De ((σ.set j (some v0)).set j (some v)) H'
          rw [List.set_set]
          exact ih (wd1.same s) (u1.fr (fr_same s) (wd1.same s)) (s _ _ hd1) (df1.ext (u1.extU (fr_same s))) hi dv' e fun v' H'' s' dv'' => q v' H'' (s1.trans (s.trans s')) dv''
      | false =>
        refine (if_neg Bool.false_ne_true).mpr ?_
        exact ih wd1 u1 hd1 df1 hi dv1 e fun v' H'' s' dv'' => q v' H'' (s1.trans s') dv''
theorem clauseX {trest : TS} {mrest : D → Tr (Fl Unit Empty)} {envU : Unit → Env} {xh : Str → Bool} {HE : Str} {Wout : WX} {Q : VK} {x0 : S1X} {ss : List S2X} (hi : i < n) (hj : j < n) (hij : i ≠ j)
    (hx : ∀ cl, xh cl = true → PySem.W.exmOne g.K (.ref (gd cl g.K)) (.ref (gd HE g.K)) = some true)
    (hk : ∀ cl cn b, ki cl cn = some b → ErrT g.K (gd cl g.K) ∧ PySem.W.kitOne g.K (.ref (gd cl g.K)) (.ref (gd cn g.K)) = some b)
    (hs : ∀ d, SS g EF ((List.replicate n Sl.no).set j (.fz d)) trest envU envE (mrest d)) (u : UOk g U H) :
    ∀ cls d σ' H', ExH g U H Q (fun cl fs => bd (pickX xh ki x0 ss cl fs) fun v => nox (fin (mrest v))) cls d H' → σ'.length = n →
      wMK g.K Wout { nx := trest { nx := fun _ H' => Q .non H', rt := Q }, rt := Q } [(.ref (gd HE g.K), some i, fun a cls d => sxTs g.K a cls d i j x0 ss)] cls d σ' H' := by
  rintro cls d σ' H' ⟨cl, fs, b1, dd, fvs, rfl, rfl, hd, nd, df, wd, f, al⟩ hl
  have al' : Al (okP g U H Q) (fun _ _ _ => False) (bd (pickX xh ki x0 ss cl fs) fun v => nox (fin (mrest v))) b1 := al
  unfold pickX at al'
  split at al'
  · rename_i hxc
    cases e : sxDs ki cl fs x0 ss with
    | none => rw [e] at al'; exact al'.elim
    | some d =>
      rw [e] at al'
      have al2 : Al (okP g U H Q) (fun _ _ _ => False) (nox (fin (mrest d))) b1 := al'
      refine ⟨true, hx cl hxc, fun _ => ⟨_, dd, rfl, rfl, fun a na => ?_⟩, fun z => by cases z⟩
      have u' := u.fr f wd
      have hi2 : (σ'.set i (some (V.ref a)))[i]? = some (some (.ref a)) := List.getElem?_set_self (by rw [hl]; exact hi)
      have last : ∀ (v : V) (H'' : Hp), L2.Same H' H'' → Den g U H'' v d → H'' a = none →
          trest { nx := fun _ H' => Q .non H', rt := Q } (((σ'.set i (some (.ref a))).set j (some v)).set i none) (upd H'' a (exk a (gd cl g.K) dd)) := fun v H'' s dv na' => by
        have s1 : L2.Same H'' (upd H'' a (exk a (gd cl g.K) dd)) := same_new na'
        have s2 := s.trans s1
        have u2 := u'.fr (fr_same s) (wd.same s)
        rw [List.set_comm _ _ (fun z => hij z.symm), List.set_set]
        exact run_rest (hs d) (rel_fz (rel_no (by rw [List.length_set]; exact hl)) fz_no (by rw [List.length_set, hl]; exact hj) (dv.ext (u2.extU (fr_same s1)))) fz_no.set.own (wd.same s2) (u'.fr (fr_same s2) (wd.same s2)) (f.trans (fr_same s2)) (al_nox al2)
      unfold sxDs at e
      cases e1 : x0.d ki cl fs with
      | none => rw [e1] at e; cases e
      | some t1 =>
        rw [e1] at e
        cases ss with
        | nil =>
          cases e
          exact s1_run (ki := ki) (cl := cl) u' hd df hi2 hk e1 fun v H'' s dv => last v H'' s dv
        | cons y r =>
          refine s1_run (ki := ki) (cl := cl) u' hd df hi2 hk e1 fun v H'' s dv => ?_
          exact s2_run (ki := ki) (cl := cl) hij hk (wd.same s) (u'.fr (fr_same s) (wd.same s)) (s _ _ hd) (df.ext (u'.extU (fr_same s))) hi2 dv e fun v' H3 s' dv' => last v' H3 (s.trans s') dv'
  · exact al'.elim
theorem heardX {N : List Str} {f c' : Addr} {q : Str} {tl : XK → Hp → VK → Prop} {m : Tr D} {trest : TS} {mN : Tr (Fl Unit Empty)} {mE : D → Tr (Fl Unit Empty)} {envU : Unit → Env} {xh : Str → Bool} {HE : Str} {x0 : S1X} {ss : List S2X} {Wout : WX} {Q : VK}
    (hn : (L2.start N [V.ref f]).length = n) (hi : i < n) (hj : j < n) (hij : i ≠ j) (hj0 : j ≠ 0)
    (hx : ∀ cl, xh cl = true → PySem.W.exmOne g.K (.ref (gd cl g.K)) (.ref (gd HE g.K)) = some true)
    (hk : ∀ cl cn b, ki cl cn = some b → ErrT g.K (gd cl g.K) ∧ PySem.W.kitOne g.K (.ref (gd cl g.K)) (.ref (gd cn g.K)) = some b)
    (hsN : SS g EF ((List.replicate n Sl.no).set j (.fz .non)) trest envU envE mN) (hs : ∀ d, SS g EF ((List.replicate n Sl.no).set j (.fz d)) trest envU envE (mE d))
    (hc : H c' = some (LamX.CodeO c' q)) (ha : ∀ (E : XK) H' b' Q', Fr H H' g.p → Wd g H' b' → Al (okP g U H' Q') (exP g U E H') m b' → tl E H' Q')
    (wd : Wd g H b) (u : UOk g U H) (al : Al (okP g U H Q) (fun _ _ _ => False) (tryT m (fun _ => nox (fin mN)) (fun cl fs => bd (pickX xh ki x0 ss cl fs) fun v => nox (fin (mE v)))) b) :
    tSeq (tAsg (tC .non) (gName j)) (tSeq (fun D σ H => tTry n (fun E => tDrop (tAct f c' q (tl E))) (wMK g.K Wout D [(.ref (gd HE g.K), some i, fun a cls d => sxTs g.K a cls d i j x0 ss)]) D σ H) trest) { nx := fun _ H' => Q .non H', rt := Q } (L2.start N [.ref f]) H := by
  refine ⟨ExH g U H Q (fun cl fs => bd (pickX xh ki x0 ss cl fs) fun v => nox (fin (mE v))), clauseX hi hj hij hx hk hs u, ?_⟩
  refine ⟨by rw [List.getElem?_set_ne hj0]; rfl, hc, ?_⟩
  refine ha _ H b _ Fr.refl wd ((al_try.mp al).mono (fun d b1 h v H1 dn w1 f1 => ?_) (fun cl fs b1 h dd fvs H' e1 e2 e3 e4 e5 => ⟨cl, fs, b1, dd, fvs, rfl, rfl, e1, e2, e3, e4, e5, h⟩))
  exact run_rest hsN (rel_fz (rel_no hn) fz_no (by rw [hn]; exact hj) .non) fz_no.set.own w1 (u.fr f1 w1) f1 (al_nox h)
end
end Gp
end
section
namespace Gp
open PySem PySem.Spec PyProof.Rows L2 Gh
def isS {α : Type} (x : D) (k : Str → Tr α) : Tr α := match x with
  | .str a => k a
  | _ => .bad
theorem isS_str {α : Type} (a : Str) (k : Str → Tr α) : isS (.str a) k = k a := rfl
section
variable {g : Gw} {U : Addr → Prop} {H : Hp} {b : Nat} {E : XK} {Q : VK} {ε : Env} {to te : TE} {mo me : Tr D}
end
section
variable {X : Cx} {e f : Expr} {te tf : TE} {es : List Expr} {ta : TA} {pos p : Pos}
end
end Gp
end
section
namespace Gp
open PySem PySem.Spec PyProof.Rows L2 Gh
section
variable {g : Gw} {E : XK} {ε : Env} {U : Addr → Prop} {H : Hp} {b : Nat} {W L : Type} {tb : TS} {env : W → Env} {envL : L → Env}
def un4 {α : Type} (d : D) (k : D → D → D → D → Tr α) : Tr α := match d with
  | .tup [x, y, z, w] => k x y z w
  | _ => .bad
end
end Gp
end
section
namespace Gp
open PySem PySem.Spec PyProof.Rows L2 Gh
section
variable {g : Gw} {Mt U0 U U' : Addr → Prop} {H0 H H' H1 H2 : Hp} {b b1 : Nat} {σ : L2.St} {ε ε' : Env} {E : XK} {W L W' : Type}
variable {env : W → Env} {envL : L → Env} {env' : W' → Env} {u ta tb : TS} {te : TE} {me : Tr D}
theorem set_here {α : Type} {x : α} : ∀ {l : List α} {i : Nat}, l[i]? = some x → l.set i x = l
  | [], i, h => by simp at h
  | a :: r, 0, h => by simp at h; subst h; rfl
  | a :: r, i + 1, h => by
    have h' : r[i]? = some x := by simpa using h
    rw [List.set_cons_succ, set_here h']
theorem Grp.done {i : Nat} {A l : Addr} {vs ws : List V} {a : List (List D)} {la : List D} (G : Grp g Mt U0 H0 U σ H b ε i A l vs ws a la) :
    Stt g Mt U0 H0 (fun x => (U x ∧ x ≠ l) ∧ x ≠ A) σ H b (ε.set i (.fz (.lst ((a ++ [la]).map D.lst)))) ∧ Ev U H (fun x => (U x ∧ x ≠ l) ∧ x ≠ A) H := by
  obtain ⟨s1, e1⟩ := lo_fz G.s G.ll
  obtain ⟨s2, e2⟩ := lo_fz s1 (G.lA.cut G.ne)
  have ev := e1.trans e2
  have dn : Den g (fun x => (U x ∧ x ≠ l) ∧ x ≠ A) H (.ref A) (.lst ((a ++ [la]).map D.lst)) := by
    refine .lst G.hA (fun q => q.2 rfl) ?_ ?_
    · rw [List.length_append, G.dA.length, List.length_map]
      exact G.zA
    · rw [List.map_append]
      exact (G.dA.ev ev).append (.cons (.lst G.hl (fun q => q.1.2 rfl) (by rw [G.dl.length]; exact G.zl) (G.dl.ev ev)) .nil)
  have z := s2.set i dn
  rw [set_here G.at_] at z
  exact ⟨z, ev⟩
end
section
variable {W L : Type} {g : Gw} {E : XK} {ε : Env} {tb : TS} {env : W → Env} {envL : L → Env}
end
end Gp
end
section
namespace Gp
open PySem PySem.Spec PyProof.Rows L2 Gh
section
variable {g : Gw} {U U' : Addr → Prop} {H : Hp} {a : Addr} {vs : List V}
end
section
variable {g : Gw} {U U' : Addr → Prop} {H : Hp}
end
section
variable {g : Gw} {Mt U0 U U' : Addr → Prop} {H0 H H' H1 H2 : Hp} {b b1 : Nat} {σ : L2.St} {ε ε' : Env} {E : XK} {W L W' : Type}
variable {env : W → Env} {envL : L → Env} {env' : W' → Env} {u ta tb : TS} {te tc t1 t2 : TE} {me : Tr D}
def NF (H : Hp) (A : Addr) : Prop := ∀ o, H A = some o → ∃ ps, o = .tbl ps
theorem NF.nu {A : Addr} (h : NF H A) (u : UOk g U H) : ¬ U A := fun z => by
  obtain ⟨o, e, n⟩ := u.al A z
  obtain ⟨ps, rfl⟩ := h o e
  exact n.tbl ps rfl
end
end Gp
end
section
namespace Gp
open PySem PySem.Spec PyProof.Rows L2 Gh
section
variable {g : Gw} {E : XK} {ε : Env} {W L : Type} {u : TS} {env : W → Env} {envL : L → Env} {te to ti : TE}
def setOD (c : Str) (f : List D → Tr D) : List D → Tr D
  | [x, o, i] => isO c o fun _ => bd (f [o, i, x]) fun _ => .ok .non
  | _ => .bad
theorem se_setO {c : Str} {r : List V → Hp → VK → Prop} {f : List D → Tr D} {ma : Tr (List D)} (hr : SRL g E r f) (ha : SA g E ε (tCons te (tCons to (tCons ti tNil))) ma) :
    SE g E ε (fun σ H Q => te σ H fun x H1 => to σ H1 fun o H2 => ti σ H2 fun i H3 => rSetO (gd c g.K) r o i x H3 fun H4 => Q .non H4) (bd ma (setOD c f)) := fun U σ H b Q R W u q => by
  have z : (tCons te (tCons to (tCons ti tNil))) σ H fun vs H1 => match vs with
    | [x, o, i] => rSetO (gd c g.K) r o i x H1 fun H4 => Q .non H4
    | _ => False := by
    refine ha.step R W u q fun vs ds H1 b1 d1 w1 f1 R1 u1 q1 => ?_
    match ds, d1, q1 with
    | [], d1, q1 => exact q1.elim
    | [_], d1, q1 => exact q1.elim
    | [_, _], d1, q1 => exact q1.elim
    | _ :: _ :: _ :: _ :: _, d1, q1 => exact q1.elim
    | [x, o, i], d1, q1 =>
      cases d1 with
      | cons dx d1 =>
        cases d1 with
        | cons do_ d1 =>
          cases d1 with
          | cons di d1 =>
            cases d1
            obtain ⟨fs, rfl, q2⟩ := al_isO (k := fun _ => bd (f [o, i, x]) fun _ => Tr.ok D.non) q1
            obtain ⟨a, dxx, fvs, rfl, ea, _, _⟩ := den_obj do_
            show rSetO _ _ _ _ _ _ _
            unfold rSetO
            refine ⟨a, dxx, fvs, rfl, ea, ?_⟩
            refine hr U H1 b1 _ _ _ (.cons do_ (.cons di (.cons dx .nil))) w1 u1 ?_
            refine (al_bd.mp q2).mono (fun d b2 h2 v H' dn w' f' => ?_) (fun _ _ _ h => h)
            exact h2 .non H' .non w' (f1.trans f')
  exact z
theorem ss_setO {c : Str} {r : List V → Hp → VK → Prop} {f : List D → Tr D} {ma : Tr (List D)} {k : Tr (Fl W L)} (hr : SRL g E r f) (ha : SA g E ε (tCons te (tCons to (tCons ti tNil))) ma) (hk : SS g E ε u env envL k) :
    SS g E ε (tSeq (tAsg te (gSub to ti (rSetO (gd c g.K) r))) u) env envL (bd (bd ma (setOD c f)) fun _ => k) := ss_drop (se_setO hr ha) hk
end
section
variable {g : Gw} {E : XK} {ε : Env} {ta tb tc td : TE} {ma mb md : Tr D}
theorem se_chain3 {r r' r2 : R2} {f f' f2 : D → D → Tr D} {mc : Tr D} (hr : SR2 g E r f) (hr' : SR2 g E r' f') (hr2 : SR2 g E r2 f2) (ha : SE g E ε ta ma) (hb : SE g E ε tb mb) (hc : SE g E ε tc mc) (hd : SE g E ε td md) :
    SE g E ε (tChain3 r r' r2 ta tb tc td) (bd ma fun x => bd mb fun y => bd (bd (f x y) asB) fun k => if k = true then (bd mc fun z => bd (bd (f' y z) asB) fun k => if k = true then bd md fun v => f2 z v else .ok (.bl false)) else .ok (.bl false)) := fun U σ H b Q R W u q =>
  ha.step R W u q fun v d H1 b1 d1 w1 f1 R1 u1 q1 => hb.step R1 w1 u1 q1 fun v2 e H2 b2 d2 w2 f2 R2 u2 q2 => by
    rw [bd_bd] at q2
    refine hr U H2 b2 v v2 d e _ (d1.fr u1 f2) d2 w2 u2 ((al_bd.mp q2).mono (fun z b3 h3 v3 H3 d3 w3 f3 => ?_) (fun _ _ _ h => h))
    obtain ⟨k, rfl, q3⟩ := al_asBk h3
    refine ⟨k, den_bl d3, ?_⟩
    have q4 := q3.mono (P' := okP g U H3 Q) (E' := exP g U E H3) (fun _ _ h => okP.fr ((f1.trans f2).trans f3) h) (fun _ _ _ h => h.fr f3)
    cases k with
    | false => exact okP.here q4 w3 (.bl false)
    | true =>
      refine hc.step (R2.fr u2 f3) w3 (u2.fr f3 w3) q4 fun v4 z H4 b4 d4 w4 f4 R4 u4 q5 => ?_
      rw [bd_bd] at q5
      refine hr' U H4 b4 v2 v4 e z _ (d2.fr u2 (f3.trans f4)) d4 w4 u4 ((al_bd.mp q5).mono (fun z5 b5 h5 v5 H5 d5 w5 f5 => ?_) (fun _ _ _ h => h))
      obtain ⟨k, rfl, q6⟩ := al_asBk h5
      refine ⟨k, den_bl d5, ?_⟩
      have q7 := q6.mono (P' := okP g U H5 Q) (E' := exP g U E H5) (fun _ _ h => okP.fr (f4.trans f5) h) (fun _ _ _ h => h.fr f5)
      cases k with
      | false => exact okP.here q7 w5 (.bl false)
      | true =>
        refine hd.step (R4.fr u4 f5) w5 (u4.fr f5 w5) q7 fun v6 z6 H6 b6 d6 w6 f6 R6 u6 q8 => ?_
        exact hr2 U H6 b6 v4 v6 z z6 Q (d4.fr u4 (f5.trans f6)) d6 w6 u6 (q8.mono (fun _ _ h => h.fr f6) (fun _ _ _ h => h))
end
section
variable {g : Gw} {E : XK} {ε : Env} {W L : Type} {u : TS} {env : W → Env} {envL : L → Env}
theorem ss_par2qq {i j : Nat} {t1 t2 : TE} {m1 m2 : Tr (List D)} {k : List D → List D → Tr (Fl W L)} (h1 : SN g E ε t1 m1) (h2 : SN g E ε t2 m2) (hk : ∀ ds es : List D, SS g E ((ε.set i (.ow ds)).set j (.ow es)) u env envL (k ds es)) :
    SS g E ε (tSeq (tPar i j (tCons t1 (tCons t2 tNil))) u) env envL (bd m1 fun ds => bd m2 fun es => k ds es) := fun Mt U0 H0 U D σ H b s q => by
  refine h1 U σ H b _ s.rel s.wd s.uok ((al_bd.mp q).mono (fun ds b1 q1 A vs H1 n l dn w f => ?_) (fun _ _ _ h => exS.exP s h))
  have sf := s.fr f w
  obtain ⟨s1, e1⟩ := own_new (i := i) sf n l dn
  obtain ⟨sP, eP, pd⟩ := own_pend sf n l dn
  refine h2 (fun a => U a ∨ a = A) σ (upd H1 A (.lst vs)) b1 _ sP.rel sP.wd sP.uok ((al_bd.mp q1).mono (fun es b2 q2 A2 vs2 H2 n2 l2 dn2 w2 f2 => ?_) (fun _ _ _ h => exS.exP sP h))
  obtain ⟨s2, e2⟩ := own_new (i := j) (s1.fr f2 w2) n2 l2 dn2
  refine ⟨.ref A, .ref A2, rfl, ?_⟩
  exact hk ds es Mt U0 H0 _ D _ _ b2 s2 (q2.mono (fun _ _ z => z.ev ((((s.uok.ev f).trans e1).trans (s1.uok.ev f2)).trans e2)) (fun _ _ _ z => z))
end
structure SetT (K : PySem.W.Frag) (C f : Addr) : Prop where
  nq : PySem.W.noSeq K C = true
  at_ : PySem.W.findIn K (.ref C) "__setitem__" = some (some (.ref f))
  fn : PySem.W.isFn K (.ref f) = true
theorem setB_ok {x : Str} {K : PySem.W.Frag} (h : setB x K = true) : SetT K (gd x K) (md x "__setitem__" K) := by
  obtain ⟨h1, h⟩ := He.ba h
  obtain ⟨h2, h3⟩ := He.ba h
  exact ⟨h1, He.eqO_ok h2, h3⟩
theorem set_ownT {X : Cx} {C f : Addr} {r : List V → Hp → VK → Prop} (T : SetT X.K C f) (R : CallR X (.ref f) r) : PSet X (rSetO C r) := set_own T.nq T.at_ T.fn R
def prD : List D → Option (List (Key × D))
  | [] => some []
  | .tup [.int k, v] :: r => (prD r).map ((.inl k, v) :: ·)
  | _ => none
def dictP : D → Tr D
  | .lst ds => match prD ds with
    | some ps => if (ps.map (·.1)).Nodup then .ok (.dic ps) else .bad
    | none => .bad
  | _ => .bad
section
variable {g : Gw} {U : Addr → Prop} {H : Hp} {E : XK}
def rDictP (K : PySem.W.Frag) : List V → Hp → VK → Prop := fun xs H Q => ∃ (a : Addr) (ps : List Addr) (kvs : List (Key × V)), xs = [.ref a] ∧ SqL K H a (ps.map V.ref) ∧ Paired (fun p kv => SqT K H p [kV kv.1, kv.2]) ps kvs ∧
    ∀ p, H p = none → Q (.ref p) (upd H p (.dK (mergeK [] kvs)))
theorem call_dictP' {X : Cx} {K : PySem.W.Frag} (hK : X.K = K) (hc : X.calm = true) : CallR X (.type "dict") (rDictP K) := by
  subst hK
  exact call_dictP hc
theorem putK_new {k : Key} {v : V} {kvs : List (Key × V)} (h : k ∉ kvs.map (·.1)) : putK kvs k v = kvs ++ [(k, v)] := by
  unfold putK
  rw [if_neg]
  intro z
  rw [List.any_eq_true] at z
  obtain ⟨p, hp, e⟩ := z
  exact h (List.mem_map.mpr ⟨p, hp, of_decide_eq_true e⟩)
theorem mergeK_new : ∀ {more kvs : List (Key × V)}, (kvs.map (·.1) ++ more.map (·.1)).Nodup → mergeK kvs more = kvs ++ more
  | [], kvs, _ => by
    unfold mergeK
    simp
  | (k, v) :: r, kvs, h => by
    have h1 : k ∉ kvs.map (·.1) := fun z => by
      rw [List.nodup_append] at h
      exact h.2.2 k z k (by simp) rfl
    have e : mergeK kvs ((k, v) :: r) = mergeK (putK kvs k v) r := rfl
    rw [e, putK_new h1, mergeK_new]
    · simp
    · rw [List.map_append, List.append_assoc]
      exact h
theorem den_prs : ∀ {vs : List V} {ds : List D} {ps : List (Key × D)}, DenL g U H vs ds → prD ds = some ps →
    ∃ (as : List Addr) (kvs : List (Key × V)), vs = as.map V.ref ∧ Paired (fun p kv => SqT g.K H p [kV kv.1, kv.2]) as kvs ∧ kvs.map (·.1) = ps.map (·.1) ∧ DenL g U H (kvs.map (·.2)) (ps.map (·.2))
  | _, _, _, .nil, h => by
    cases h
    exact ⟨[], [], rfl, .nil, rfl, .nil⟩
  | _, d :: ds, ps, .cons (v := v) a r, h => by
    unfold prD at h
    split at h
    · rename_i z
      cases z
    · rename_i k x r' z
      injection z with z1 z2
      subst z1 z2
      obtain ⟨ps', h1, rfl⟩ := Option.map_eq_some_iff.mp h
      obtain ⟨as, kvs, rfl, hp, hk, hd⟩ := den_prs r h1
      obtain ⟨p, y, rfl, hs, dy⟩ : ∃ (p : Addr) (y : V), v = .ref p ∧ SqT g.K H p [.int k, y] ∧ Den g U H y x := by
        cases a with
        | tup ha _ _ hl =>
          cases hl with
          | cons d1 hl =>
            cases hl with
            | cons d2 hl =>
              cases hl
              cases d1
              exact ⟨_, _, rfl, .of ha, d2⟩
        | tupW ha _ hl _ =>
          cases hl with
          | cons d1 hl =>
            cases hl with
            | cons d2 hl =>
              cases hl
              cases d1
              exact ⟨_, _, rfl, ha H, d2⟩
      exact ⟨p :: as, (.inl k, y) :: kvs, rfl, .cons hs hp, by simp [hk], .cons dy hd⟩
    · cases h
theorem srl_dictP : SRL g E (rDictP g.K) (ul1 dictP) := fun U H b xs dxs Q dn wd u q => by
  obtain ⟨x, rfl, q1⟩ := al_ul1 q
  obtain ⟨v, rfl, d1⟩ := denL_1 dn
  cases x with
  | lst ds =>
    unfold dictP at q1
    dsimp only at q1
    cases e : prD ds with
    | none => rw [e] at q1; exact q1.elim
    | some ps =>
      rw [e] at q1
      dsimp only at q1
      by_cases hn : (ps.map (·.1)).Nodup
      · rw [if_pos hn] at q1
        cases d1 with
        | lst ha nu len hl =>
          obtain ⟨as, kvs, rfl, hp, hk, hd⟩ := den_prs hl e
          refine ⟨_, as, kvs, rfl, .of ha, hp, fun p np => ?_⟩
          have em : mergeK [] kvs = kvs := by
            rw [mergeK_new]
            · rfl
            · rw [List.map_nil, List.nil_append, hk]
              exact hn
          rw [em]
          have s := same_new (o := .dK kvs) np
          exact q1 _ _ (.dic upd_same (u.new np) hk (hd.ext (u.extU (fr_same s)))) (wd.same s) (fr_same s)
      · rw [if_neg hn] at q1
        exact q1.elim
  | _ => exact q1.elim
end
end Gp
namespace L2
open PySem PySem.Spec PyProof.Rows
theorem tuple_mul1 (l : Addr) (items : Array Value) (n : Nat) (dd : Option Addr) (sl : Array (Option Value)) (u : Tok) (c1 : items.isEmpty = false) :
    Meets (Builtin.«tuple.__mul__» ⟨[.ref l, .int 1 u], []⟩) (fun _ R s => s.heap.get? l = some { cls := .type "tuple", dict := dd, data := .seq items n, slots := sl } ∧ R (.ok (.ret (Value.ref l))) s) :=
  .of_wp fun prog w A R s h => by
    obtain ⟨hp, g, d, tk, os⟩ := s
    obtain ⟨hl, h⟩ := h
    have f1 := AutoSeq1.idx_int
    wp_walk using wpAny_loadPart' hl
    repeat (first
      | (refine wpAny_ite_false (by decide) ?_; wp_walk using wpAny_loadPart' hl)
      | (refine wpAny_ite_true (by simp) ?_; wp_walk using wpAny_loadPart' hl))
    exact ⟨_, rfl, h⟩
def rRepU (K : PySem.W.Frag) : R2 := fun x y H Q => ∃ l k xs, x = .ref l ∧ y = .int k ∧ SqT K H l xs ∧ xs ≠ [] ∧ ((k = 1 ∧ Q (.ref l) H) ∨ (2 ≤ k ∧ k ≤ 10000 ∧ xs.length ≤ 50 ∧ ∀ p, H p = none → Q (.ref p) (upd H p (.tup (List.replicate k.toNat xs).flatten))))
theorem op_repU {X : Cx} {K : PySem.W.Frag} (hK : X.K = K) : OpR X (binaryOp .Mult) (rRepU K) := by
  subst hK
  intro pins s σ H x y v u Q I rx ry h
  obtain ⟨l, k, xs, rfl, rfl, hT, hne, h⟩ := h
  cases rx
  obtain ⟨t, rfl⟩ := ry
  obtain ⟨its, r, ⟨⟨cls, dd, data, sl⟩, ho, hc, n, hd⟩, hs⟩ := I.tuple hT
  simp only at hc hd
  subst hc hd
  have hle : its.length = xs.length := r.length.symm
  have hn : its ≠ [] := fun e => hne (by
    rw [e] at hle
    exact List.eq_nil_of_length_eq_zero hle.symm)
  have hi : its.toArray.isEmpty = false := by
    cases its with
    | nil => exact absurd rfl hn
    | cons a b => rfl
  rcases h with ⟨rfl, q⟩ | ⟨h1, h2, hz, q⟩
  · exact wpAny_binaryOp_repeat_ref (T := "tuple") (U := "int") (by decide) ⟨_, ho, rfl⟩ (fun s' => typeIs_int s' 1 t) noFill_tuple_mul F.fills_int_mul F.slot_int_rmul repeat_tuple F.slot_int_index.lookup
      (call_meets F.slot_int_rmul (typeIs_int s 1 t) F.entry_int_rmul (F.args_int_rmul_2 _ _) (int_rmul_tuple 1 t l its.toArray n dd sl)
        ⟨ho, rfl, ⟨_, ho, rfl⟩, call_meets F.slot_tuple_mul ⟨_, ho, rfl⟩ F.entry_tuple_mul (F.args_tuple_mul_2 _ _) (tuple_mul1 l its.toArray n dd sl t hi) ⟨ho, ⟨.ref l, H, I, rfl, q⟩⟩⟩)
  have hsz0 : its.toArray.size = xs.length := by rw [List.size_toArray, hle]
  have hm : ((its.toArray.size : Nat) : Int) * k ≤ 1000000 := by
    rw [hsz0]
    have a1 : ((xs.length : Nat) : Int) * k ≤ 50 * k := Int.mul_le_mul_of_nonneg_right (by omega) (by omega)
    omega
  have flen : (List.replicate k.toNat its).flatten.length ≤ sizeLine := by
    rw [PyProof.Rows.lm_len_rep_flat, hle, sizeLine_eq]
    have a1 : k.toNat * xs.length ≤ 10000 * 50 := Nat.mul_le_mul (by omega) hz
    omega
  have c0 : (decide (k < -(2 ^ 63)) || decide (k ≥ 2 ^ 63)) = false := by
    rw [decide_eq_false (by omega), decide_eq_false (by omega)] <;> rfl
  have c1 : (its.toArray.isEmpty || k == 1) = false := by
    rw [hi, Bool.false_or]
    exact beq_eq_false_iff_ne.mpr (by omega)
  have c2 : (decide (k ≤ 0) || its.toArray.isEmpty) = false := by
    rw [hi, Bool.or_false]
    exact decide_eq_false (by omega)
  have c4 : Builtin.Tuple.tupleTooMany (((its.toArray.size : Nat) : Int) * k) = false := by
    unfold Builtin.Tuple.tupleTooMany
    rw [sizeLine_eq]
    exact decide_eq_false (by omega)
  refine wpAny_binaryOp_repeat_ref (T := "tuple") (U := "int") (by decide) ⟨_, ho, rfl⟩ (fun s' => typeIs_int s' k t) noFill_tuple_mul F.fills_int_mul F.slot_int_rmul repeat_tuple F.slot_int_index.lookup
    (call_meets F.slot_int_rmul (typeIs_int s k t) F.entry_int_rmul (F.args_int_rmul_2 _ _) (int_rmul_tuple k t l its.toArray n dd sl)
      ⟨ho, rfl, ⟨_, ho, rfl⟩, call_meets F.slot_tuple_mul ⟨_, ho, rfl⟩ F.entry_tuple_mul (F.args_tuple_mul_2 _ _) (tuple_mulW l its.toArray n dd sl k t c0 c1 c2 (by omega) c4 (by rw [size_rep, List.size_toArray]; exact flen)) ⟨ho, ?_⟩⟩)
  rw [size_rep]
  refine ⟨.ref s.heap.objs.size, _, I.laid (t' := s.toks) (o := .tup (List.replicate k.toNat xs).flatten) (fun b ob q => Heap.get?_push_of_some _ q) (Nat.le_refl _) ?_, rfl, q _ (I.hok.fresh (Nat.le_refl _))⟩
  exact ⟨by rw [PyProof.Rows.lm_len_rep_flat, sizeLine_eq]; have a1 : k.toNat * xs.length ≤ 10000 * 50 := Nat.mul_le_mul (by omega) hz; omega, _, r.rep k.toNat, IsTup.new _ _⟩
end L2
namespace Gp
open PySem PySem.Spec PyProof.Rows L2 Gh
def mulU (x y : D) : Tr D := match x, y with
  | .tup a, .int k => if a ≠ [] ∧ k = 1 then .ok (.tup a) else if a ≠ [] ∧ 2 ≤ k ∧ k ≤ 10000 ∧ a.length ≤ 50 then .ok (.tup (List.replicate k.toNat a).flatten) else .bad
  | _, _ => .bad
theorem sr_mulU {g : Gw} {E : XK} : SR2 g E (rRepU g.K) mulU := fun U H b x y dx dy Q d1 d2 w u q => by
  unfold mulU at q
  split at q
  · rename_i a k
    obtain ⟨l, vs, rfl, hT, hl⟩ : ∃ l vs, x = .ref l ∧ SqT g.K H l vs ∧ DenL g U H vs a := by
      cases d1 with
      | tup h _ _ r => exact ⟨_, _, rfl, .of h, r⟩
      | tupW h _ r _ => exact ⟨_, _, rfl, h H, r⟩
    have d1' := d1
    cases d2
    have ln : vs.length = a.length := hl.length
    have ne : ∀ z : a ≠ [], vs ≠ [] := fun z e => z (by
      rw [e] at ln
      exact List.eq_nil_of_length_eq_zero ln.symm)
    by_cases h1 : a ≠ [] ∧ k = 1
    · rw [if_pos h1] at q
      exact ⟨l, k, vs, rfl, rfl, hT, ne h1.1, .inl ⟨h1.2, okP.here q w d1'⟩⟩
    · rw [if_neg h1] at q
      by_cases h2 : a ≠ [] ∧ 2 ≤ k ∧ k ≤ 10000 ∧ a.length ≤ 50
      · rw [if_pos h2] at q
        refine ⟨l, k, vs, rfl, rfl, hT, ne h2.1, .inr ⟨h2.2.1, h2.2.2.1, by rw [ln]; exact h2.2.2.2, fun p np => ?_⟩⟩
        have s := same_new (o := .tup (List.replicate k.toNat vs).flatten) np
        refine q _ _ (.tup upd_same (u.new np) ?_ ((denL_rep hl k.toNat).ext (u.extU (fr_same s)))) (w.same s) (fr_same s)
        rw [PyProof.Rows.lm_len_rep_flat, ln, sizeLine_eq]
        have a1 : k.toNat * a.length ≤ 10000 * 50 := Nat.mul_le_mul (by omega) h2.2.2.2
        omega
      · rw [if_neg h2] at q
        exact q.elim
  · exact q.elim
end Gp
end
section
set_option maxHeartbeats 0
namespace Lw
open PySem PySem.Spec PyProof.Rows L2 Gh Gp
theorem ob_eq (s : PySem.W.SharedT) : ob s = hk.obs s.abs := Gp.obsL_eq (HandSHeadRun.getT_eq s)
structure Tx (K : PySem.W.Frag) (mg : Str → Option Value) : Prop where
  f_abs : mg "abs" = none
  f_bool : mg "bool" = none
  f_dict : mg "dict" = none
  f_enumerate : mg "enumerate" = none
  f_int : mg "int" = none
  f_isinstance : mg "isinstance" = none
  f_len : mg "len" = none
  f_list : mg "list" = none
  f_min : mg "min" = none
  f_range : mg "range" = none
  f_repr : mg "repr" = none
  f_tuple : mg "tuple" = none
  g__law_pen : mg "_law_pen" = some (.ref (gd "_law_pen" K))
  k__law_pen : PySem.W.keepIn K (.ref (gd "_law_pen" K)) = true
  g__law_draw : mg "_law_draw" = some (.ref (gd "_law_draw" K))
  k__law_draw : PySem.W.keepIn K (.ref (gd "_law_draw" K)) = true
  g_is_integer : mg "is_integer" = some (.ref (gd "is_integer" K))
  k_is_integer : PySem.W.keepIn K (.ref (gd "is_integer" K)) = true
  g_is_within : mg "is_within" = some (.ref (gd "is_within" K))
  k_is_within : PySem.W.keepIn K (.ref (gd "is_within" K)) = true
  g_is_item : mg "is_item" = some (.ref (gd "is_item" K))
  k_is_item : PySem.W.keepIn K (.ref (gd "is_item" K)) = true
  g_need_items : mg "need_items" = some (.ref (gd "need_items" K))
  k_need_items : PySem.W.keepIn K (.ref (gd "need_items" K)) = true
  g__law_pick : mg "_law_pick" = some (.ref (gd "_law_pick" K))
  k__law_pick : PySem.W.keepIn K (.ref (gd "_law_pick" K)) = true
  g__law_heard : mg "_law_heard" = some (.ref (gd "_law_heard" K))
  k__law_heard : PySem.W.keepIn K (.ref (gd "_law_heard" K)) = true
  g__law_is : mg "_law_is" = some (.ref (gd "_law_is" K))
  k__law_is : PySem.W.keepIn K (.ref (gd "_law_is" K)) = true
  g__law_odd_item : mg "_law_odd_item" = some (.ref (gd "_law_odd_item" K))
  k__law_odd_item : PySem.W.keepIn K (.ref (gd "_law_odd_item" K)) = true
  g__law_bent : mg "_law_bent" = some (.ref (gd "_law_bent" K))
  k__law_bent : PySem.W.keepIn K (.ref (gd "_law_bent" K)) = true
  g__law_made_right : mg "_law_made_right" = some (.ref (gd "_law_made_right" K))
  k__law_made_right : PySem.W.keepIn K (.ref (gd "_law_made_right" K)) = true
  g__law_store : mg "_law_store" = some (.ref (gd "_law_store" K))
  k__law_store : PySem.W.keepIn K (.ref (gd "_law_store" K)) = true
  g__law_odd_index : mg "_law_odd_index" = some (.ref (gd "_law_odd_index" K))
  k__law_odd_index : PySem.W.keepIn K (.ref (gd "_law_odd_index" K)) = true
  g__law_indexes_right : mg "_law_indexes_right" = some (.ref (gd "_law_indexes_right" K))
  k__law_indexes_right : PySem.W.keepIn K (.ref (gd "_law_indexes_right" K)) = true
  g__law_puts_right : mg "_law_puts_right" = some (.ref (gd "_law_puts_right" K))
  k__law_puts_right : PySem.W.keepIn K (.ref (gd "_law_puts_right" K)) = true
  g_BadLength : mg "BadLength" = some (.ref (gd "BadLength" K))
  k_BadLength : PySem.W.keepIn K (.ref (gd "BadLength" K)) = true
  g_BadPlace : mg "BadPlace" = some (.ref (gd "BadPlace" K))
  k_BadPlace : PySem.W.keepIn K (.ref (gd "BadPlace" K)) = true
  g_BadRow : mg "BadRow" = some (.ref (gd "BadRow" K))
  k_BadRow : PySem.W.keepIn K (.ref (gd "BadRow" K)) = true
  g_Row : mg "Row" = some (.ref (gd "Row" K))
  k_Row : PySem.W.keepIn K (.ref (gd "Row" K)) = true
  g_HuntError : mg "HuntError" = some (.ref (gd "HuntError" K))
  k_HuntError : PySem.W.keepIn K (.ref (gd "HuntError" K)) = true
  m_BEYOND_ITEMS : ∃ t, mg "BEYOND_ITEMS" = some (.int 1000000000000000000000000000000 t)
  m_MOST_ITEMS : ∃ t, mg "MOST_ITEMS" = some (.int 2000 t)
  n_BadLength_value : NoAttr K (gd "BadLength" K) "value"
  er_BadLength : ErrT K (gd "BadLength" K)
  ox_BadLength : OexC K (gd "BadLength" K)
  in_BadLength : IniT K (gd "BadLength" K) (md "BadLength" "__init__" K)
  xh_BadLength : PySem.W.exmOne K (.ref (gd "BadLength" K)) (.ref (gd "HuntError" K)) = some true
  n_BadPlace_value : NoAttr K (gd "BadPlace" K) "value"
  er_BadPlace : ErrT K (gd "BadPlace" K)
  ox_BadPlace : OexC K (gd "BadPlace" K)
  in_BadPlace : IniT K (gd "BadPlace" K) (md "BadPlace" "__init__" K)
  xh_BadPlace : PySem.W.exmOne K (.ref (gd "BadPlace" K)) (.ref (gd "HuntError" K)) = some true
  n_BadRow_at : NoAttr K (gd "BadRow" K) "at"
  er_BadRow : ErrT K (gd "BadRow" K)
  ox_BadRow : OexC K (gd "BadRow" K)
  in_BadRow : IniT K (gd "BadRow" K) (md "BadRow" "__init__" K)
  xh_BadRow : PySem.W.exmOne K (.ref (gd "BadRow" K)) (.ref (gd "HuntError" K)) = some true
  cl_Row : Cls K (gd "Row" K)
  ty_Row : InsT K (gd "Row" K)
  n_Row_own_items : NoAttr K (gd "Row" K) "own_items"
  mk_Row : Mk K (gd "Row" K) (md "Row" "__init__" K)
  pr_Row_contents : PropOf K (gd "Row" K) "contents" (He.ma K (He.ga K "Row") "contents") (propG "Row" "contents" K)
  mt_Row_need_place : Meth K (gd "Row" K) "need_place" (md "Row" "need_place" K)
  mt_Row_need_stretch : Meth K (gd "Row" K) "need_stretch" (md "Row" "need_stretch" K)
  mt_Row_exchange : Meth K (gd "Row" K) "exchange" (md "Row" "exchange" K)
  mt_Row___len__ : Meth K (gd "Row" K) "__len__" (md "Row" "__len__" K)
  mt_Row___getitem__ : Meth K (gd "Row" K) "__getitem__" (md "Row" "__getitem__" K)
  ix_Row : IxT K (gd "Row" K) (md "Row" "__getitem__" K)
  mt_Row___setitem__ : Meth K (gd "Row" K) "__setitem__" (md "Row" "__setitem__" K)
  ns_Row : PySem.W.noSeq K (gd "Row" K) = true
  sysm : Gp.sysB K = true
  cm_Row_home : ClmT K (gd "Row" K) "home" (He.ma K (He.ga K "Row") "home") (clsG "Row" "home" K)
  xf_BadLength : XfC K (gd "BadLength" K)
  xf_BadPlace : XfC K (gd "BadPlace" K)
  xf_BadRow : XfC K (gd "BadRow" K)
  tn__law_made_right__law_indexes_right : (He.cT K ("_law_made_right", none)).2 ≠ (He.cT K ("_law_indexes_right", none)).2
  tn__law_made_right__law_puts_right : (He.cT K ("_law_made_right", none)).2 ≠ (He.cT K ("_law_puts_right", none)).2
  tn__law_made_right_law : (He.cT K ("_law_made_right", none)).2 ≠ (He.cT K ("law", none)).2
  tn__law_indexes_right__law_puts_right : (He.cT K ("_law_indexes_right", none)).2 ≠ (He.cT K ("_law_puts_right", none)).2
  tn__law_indexes_right_law : (He.cT K ("_law_indexes_right", none)).2 ≠ (He.cT K ("law", none)).2
  tn__law_puts_right_law : (He.cT K ("_law_puts_right", none)).2 ≠ (He.cT K ("law", none)).2
  ki_BadLength_BadRow : PySem.W.kitOne K (.ref (gd "BadLength" K)) (.ref (gd "BadRow" K)) = some false
  ki_BadPlace_BadRow : PySem.W.kitOne K (.ref (gd "BadPlace" K)) (.ref (gd "BadRow" K)) = some false
  ki_BadRow_BadRow : PySem.W.kitOne K (.ref (gd "BadRow" K)) (.ref (gd "BadRow" K)) = some true
  ki_BadLength_BadLength : PySem.W.kitOne K (.ref (gd "BadLength" K)) (.ref (gd "BadLength" K)) = some true
  ki_BadPlace_BadLength : PySem.W.kitOne K (.ref (gd "BadPlace" K)) (.ref (gd "BadLength" K)) = some false
  ki_BadRow_BadLength : PySem.W.kitOne K (.ref (gd "BadRow" K)) (.ref (gd "BadLength" K)) = some false
  ki_BadLength_BadPlace : PySem.W.kitOne K (.ref (gd "BadLength" K)) (.ref (gd "BadPlace" K)) = some false
  ki_BadPlace_BadPlace : PySem.W.kitOne K (.ref (gd "BadPlace" K)) (.ref (gd "BadPlace" K)) = some true
  ki_BadRow_BadPlace : PySem.W.kitOne K (.ref (gd "BadRow" K)) (.ref (gd "BadPlace" K)) = some false
  sti_Row : SetT K (gd "Row" K) (md "Row" "__setitem__" K)
theorem tx_of {K : PySem.W.Frag} {h : Heap} {mg : Str → Option Value} (X : K.In h) (G : h.Ns mainGlobals mg) (c : Says exs fns K) : Tx K mg :=
  ⟨(He.free_ok X G (c.fact 0 rfl)), (He.free_ok X G (c.fact 1 rfl)), (He.free_ok X G (c.fact 2 rfl)), (He.free_ok X G (c.fact 3 rfl)), (He.free_ok X G (c.fact 4 rfl)), (He.free_ok X G (c.fact 5 rfl)), (He.free_ok X G (c.fact 6 rfl)), (He.free_ok X G (c.fact 7 rfl)), (He.free_ok X G (c.fact 8 rfl)), (He.free_ok X G (c.fact 9 rfl)), (He.free_ok X G (c.fact 10 rfl)), (He.free_ok X G (c.fact 11 rfl)), (He.glo_ok X G (c.fact 12 rfl)), ((c.fact 13 rfl)), (He.glo_ok X G (c.fact 14 rfl)), ((c.fact 15 rfl)), (He.glo_ok X G (c.fact 16 rfl)), ((c.fact 17 rfl)), (He.glo_ok X G (c.fact 18 rfl)), ((c.fact 19 rfl)), (He.glo_ok X G (c.fact 20 rfl)), ((c.fact 21 rfl)), (He.glo_ok X G (c.fact 22 rfl)), ((c.fact 23 rfl)), (He.glo_ok X G (c.fact 24 rfl)), ((c.fact 25 rfl)), (He.glo_ok X G (c.fact 26 rfl)), ((c.fact 27 rfl)), (He.glo_ok X G (c.fact 28 rfl)), ((c.fact 29 rfl)), (He.glo_ok X G (c.fact 30 rfl)), ((c.fact 31 rfl)), (He.glo_ok X G (c.fact 32 rfl)), ((c.fact 33 rfl)), (He.glo_ok X G (c.fact 34 rfl)), ((c.fact 35 rfl)), (He.glo_ok X G (c.fact 36 rfl)), ((c.fact 37 rfl)), (He.glo_ok X G (c.fact 38 rfl)), ((c.fact 39 rfl)), (He.glo_ok X G (c.fact 40 rfl)), ((c.fact 41 rfl)), (He.glo_ok X G (c.fact 42 rfl)), ((c.fact 43 rfl)), (He.glo_ok X G (c.fact 44 rfl)), ((c.fact 45 rfl)), (He.glo_ok X G (c.fact 46 rfl)), ((c.fact 47 rfl)), (He.glo_ok X G (c.fact 48 rfl)), ((c.fact 49 rfl)), (He.glo_ok X G (c.fact 50 rfl)), ((c.fact 51 rfl)), (He.glo_ok X G (c.fact 52 rfl)), ((c.fact 53 rfl)), (He.int_ok X G (c.fact 54 rfl)), (He.int_ok X G (c.fact 55 rfl)), (He.eqO_ok (c.fact 56 rfl)), (errB_ok (c.fact 57 rfl)), (oexB_ok (c.fact 58 rfl)), (iniB_ok (c.fact 59 rfl)), (of_decide_eq_true (c.fact 60 rfl)), (He.eqO_ok (c.fact 61 rfl)), (errB_ok (c.fact 62 rfl)), (oexB_ok (c.fact 63 rfl)), (iniB_ok (c.fact 64 rfl)), (of_decide_eq_true (c.fact 65 rfl)), (He.eqO_ok (c.fact 66 rfl)), (errB_ok (c.fact 67 rfl)), (oexB_ok (c.fact 68 rfl)), (iniB_ok (c.fact 69 rfl)), (of_decide_eq_true (c.fact 70 rfl)), (He.cls_ok (c.fact 71 rfl)), (insB_ok (c.fact 72 rfl)), (He.eqO_ok (c.fact 73 rfl)), (He.mkr_ok (c.fact 74 rfl)), (propB_ok (c.fact 75 rfl)), (He.meth_ok (c.fact 76 rfl)), (He.meth_ok (c.fact 77 rfl)), (He.meth_ok (c.fact 78 rfl)), (He.meth_ok (c.fact 79 rfl)), (He.meth_ok (c.fact 80 rfl)), (ixB_ok (c.fact 81 rfl)), (He.meth_ok (c.fact 82 rfl)), ((c.fact 83 rfl)), ((c.fact 84 rfl)), (clmB_ok (c.fact 85 rfl)), (xfB_ok (c.fact 86 rfl)), (xfB_ok (c.fact 87 rfl)), (xfB_ok (c.fact 88 rfl)), (of_decide_eq_true (c.fact 89 rfl)), (of_decide_eq_true (c.fact 90 rfl)), (of_decide_eq_true (c.fact 91 rfl)), (of_decide_eq_true (c.fact 92 rfl)), (of_decide_eq_true (c.fact 93 rfl)), (of_decide_eq_true (c.fact 94 rfl)), (of_decide_eq_true (c.fact 95 rfl)), (of_decide_eq_true (c.fact 96 rfl)), (of_decide_eq_true (c.fact 97 rfl)), (of_decide_eq_true (c.fact 98 rfl)), (of_decide_eq_true (c.fact 99 rfl)), (of_decide_eq_true (c.fact 100 rfl)), (of_decide_eq_true (c.fact 101 rfl)), (of_decide_eq_true (c.fact 102 rfl)), (of_decide_eq_true (c.fact 103 rfl)), (setB_ok (c.fact 104 rfl))⟩
section
variable {K : PySem.W.Frag} {mg : Str → Option Value} {Tb : List (Addr × Str)} {p c : Addr}
def isi_int : D → Option Bool := isF (fun n => kitB n "int") [("Row", false)] []
theorem isT_int (T : Tx K mg) : IsT ⟨K, Tb, p, c⟩ (.type "int") isi_int := isT_of (fun n k h => kit_ty h) (fun c k h => (look_cons h).elim (fun e => by obtain ⟨rfl, rfl⟩ := e; exact ⟨T.cl_Row, T.ty_Row, T.ty_Row.out _ (by decide)⟩) (fun h => nomatch h)) (fun c k h => nomatch h)
def isi_bool : D → Option Bool := isF (fun n => kitB n "bool") [("Row", false)] []
theorem isT_bool (T : Tx K mg) : IsT ⟨K, Tb, p, c⟩ (.type "bool") isi_bool := isT_of (fun n k h => kit_ty h) (fun c k h => (look_cons h).elim (fun e => by obtain ⟨rfl, rfl⟩ := e; exact ⟨T.cl_Row, T.ty_Row, T.ty_Row.out _ (by decide)⟩) (fun h => nomatch h)) (fun c k h => nomatch h)
def isi_list_tuple : D → Option Bool := isF (fun n => (kitB n "list").bind fun a => (kitB n "tuple").map fun b => a || b) [("Row", false)] []
theorem isT_list_tuple (T : Tx K mg) : IsA ⟨K, Tb, p, c⟩ [.type "list", .type "tuple"] isi_list_tuple := isA_of (fun n k h => kitAny2 h) (fun c k h => (look_cons h).elim (fun e => by obtain ⟨rfl, rfl⟩ := e; exact ⟨T.cl_Row, T.ty_Row, kitAny_cons (T.ty_Row.out _ (by decide)) (fun _ => kitAny_cons (T.ty_Row.out _ (by decide)) (fun _ => rfl) (fun z => by cases z)) (fun z => by cases z)⟩) (fun h => nomatch h))
def isi_tuple : D → Option Bool := isF (fun n => kitB n "tuple") [("Row", false)] []
theorem isT_tuple (T : Tx K mg) : IsT ⟨K, Tb, p, c⟩ (.type "tuple") isi_tuple := isT_of (fun n k h => kit_ty h) (fun c k h => (look_cons h).elim (fun e => by obtain ⟨rfl, rfl⟩ := e; exact ⟨T.cl_Row, T.ty_Row, T.ty_Row.out _ (by decide)⟩) (fun h => nomatch h)) (fun c k h => nomatch h)
end
end Lw
end
section
set_option pp.maxSteps 600
namespace Lw
open PySem PySem.Spec PyProof.Rows L2 Gh
local macro_rules | `(tactic| nofun) => `(tactic| (first | assumption | exact Ne.symm (by assumption) | (apply nw_pen'; (· assumption); (· assumption); (· ac_rfl)) | (apply Ne.symm; apply nw_pen'; (· assumption); (· assumption); (· ac_rfl)) | (apply nw_cell'; (· assumption); (· assumption); (· ac_rfl)) | (apply Ne.symm; apply nw_cell'; (· assumption); (· assumption); (· ac_rfl)) | (apply none_pen'; (· assumption); (· assumption); (· ac_rfl)) | (apply Ne.symm; apply none_pen'; (· assumption); (· assumption); (· ac_rfl)) | (apply none_cell'; (· assumption); (· assumption); (· ac_rfl)) | (apply Ne.symm; apply none_cell'; (· assumption); (· assumption); (· ac_rfl)) | (apply tup_pen'; (· assumption); (· assumption); (· ac_rfl)) | (apply Ne.symm; apply tup_pen'; (· assumption); (· assumption); (· ac_rfl)) | (apply tup_cell'; (· assumption); (· assumption); (· ac_rfl)) | (apply Ne.symm; apply tup_cell'; (· assumption); (· assumption); (· ac_rfl)) | (apply ins_pen'; (· assumption); (· assumption); (· ac_rfl)) | (apply Ne.symm; apply ins_pen'; (· assumption); (· assumption); (· ac_rfl)) | (apply ins_cell'; (· assumption); (· assumption); (· ac_rfl)) | (apply Ne.symm; apply ins_cell'; (· assumption); (· assumption); (· ac_rfl)) | (apply ins_lst; (· assumption); (· infer_instance)) | (apply Ne.symm; apply ins_lst; (· assumption); (· infer_instance)) | (apply ins_tup; (· assumption); (· infer_instance)) | (apply Ne.symm; apply ins_tup; (· assumption); (· infer_instance)) | (apply tup_lst; (· assumption); (· infer_instance)) | (apply Ne.symm; apply tup_lst; (· assumption); (· infer_instance)) | (apply nw_ne; (· assumption); (· infer_instance)) | (apply Ne.symm; apply nw_ne; (· assumption); (· infer_instance)) | (apply none_ne; (· assumption); (· infer_instance)) | (apply Ne.symm; apply none_ne; (· assumption); (· infer_instance))))
local macro_rules | `(tactic| ac_rfl) => `(tactic| ((repeat (first | assumption | (apply Pen.nw; (focus assumption)) | (apply Pen.same; (focus assumption)) | (apply Pen.mu; (focus assumption); (focus nofun); (focus nofun)) | (apply Pen.keep; (focus assumption); (focus nofun); (focus nofun)))); done))
local macro_rules | `(tactic| infer_instance) => `(tactic| ((repeat (first | assumption | (apply Nw.at_; assumption) | (apply Mu.at_; assumption) | (apply Nw.up; (focus assumption)) | (apply same_up; (focus assumption)) | (apply Mu.up; (focus assumption); (focus nofun)) | (apply keep_up; (focus assumption); (focus nofun)) | (apply keep2_up; (focus assumption); (focus nofun); (focus nofun)))); done))
local macro_rules | `(tactic| symm_saturate) => `(tactic| (repeat (first | with_reducible refine st_seq ?_ | with_reducible refine st_asg ?_ | with_reducible refine st_name ?_ | with_reducible refine st_ret ?_ | with_reducible refine st_drop ?_ | with_reducible refine st_ifS ?_ | with_reducible refine st_nx ?_ | with_reducible refine st_brk ?_ | with_reducible refine st_cnt ?_ | with_reducible refine st_c ?_ | with_reducible refine st_op ?_ | with_reducible refine st_un ?_ | with_reducible refine st_rI0 ?_ | with_reducible refine st_cons ?_ | with_reducible refine st_nil ?_ | with_reducible refine st_cl ?_ | with_reducible refine st_cb ?_ | with_reducible refine st_mt ?_ | with_reducible refine st_pr ?_ | with_reducible refine st_test ?_ | with_reducible refine st_ebl ?_ | with_reducible refine st_eint ?_ | with_reducible refine st_par ?_ | with_reducible refine st_par2 ?_ | with_reducible refine st_and ?_ | with_reducible refine st_or ?_ | with_reducible refine st_not ?_ | with_reducible refine st_andV ?_ | with_reducible refine st_orV ?_ | with_reducible refine st_notV ?_ | with_reducible refine st_ifE ?_ | with_reducible refine st_chain ?_ | with_reducible refine st_lst ?_ | with_reducible refine st_tup ?_ | with_reducible refine st_retN ?_ | with_reducible refine st_rU ?_ | with_reducible refine st_rAdd ?_ | with_reducible refine st_rSub ?_ | with_reducible refine st_isN ?_ | with_reducible refine st_notN ?_ | with_reducible refine st_sF ?_ | with_reducible refine st_int ?_ | with_reducible refine st_intB ?_ | with_reducible refine st_abs ?_ | with_reducible refine st_sl ?_ | with_reducible refine st_part ?_ | with_reducible refine st_nopart ?_ | with_reducible refine st_bm ?_ | with_reducible refine st_bm0 ?_ | with_reducible refine st_tyS ?_ | with_reducible refine st_gsub ?_ | with_reducible refine st_gcons ?_ | with_reducible refine st_gnil ?_ | with_reducible refine st_chain3 ?_ | with_reducible refine st_gsl ?_ | with_reducible refine st_clK ?_ | with_reducible refine st_mtK ?_ | with_reducible refine st_lcR1 ?_ | with_reducible refine st_lcR2 ?_ | with_reducible refine st_lcL ?_ | with_reducible refine st_lcT ?_ | with_reducible refine st_yes ?_ | with_reducible refine st_forR1 ?_ | with_reducible refine st_forR2 ?_ | with_reducible refine st_forL ?_ | with_reducible refine st_forT ?_ | with_reducible refine st_forE ?_ | with_reducible refine st_list ?_ | with_reducible refine st_itup ?_ | with_reducible refine st_tB ?_ | ((with_reducible apply st_var); exact rfl) | ((with_reducible apply st_aug); exact rfl) | ((with_reducible apply st_eq); exact rfl) | ((with_reducible apply st_ne); exact rfl) | ((with_reducible apply st_spK); (focus exact rfl); (focus exact rfl)) | ((with_reducible apply st_rI); (first | decide | (refine Or.inl ⟨?_, ?_⟩ <;> omega) | (refine Or.inr ⟨?_, ?_⟩ <;> omega) | (show (0 : Int) < _; omega) | exact ⟨by omega, log_of (by omega) (by omega)⟩ | exact ⟨by decide, by decide, by decide⟩)) | ((with_reducible apply st_powK); (focus exact ⟨by decide, by decide, by decide⟩); (focus decide)) | ((with_reducible apply st_eR1); (focus omega); (focus omega)) | ((with_reducible apply st_eR2); (focus omega)) | ((with_reducible apply st_if1); (first | with_reducible rfl | assumption | exact rfl | decide | (simp only [decide_eq_true_eq, decide_eq_false_iff_not, Bool.not_eq_true', Bool.not_eq_false', Bool.not_true, Bool.not_false, Bool.true_and, Bool.and_true, Bool.false_and, Bool.and_false, V.int.injEq, V.str.injEq, V.bl.injEq, V.ref.injEq, reduceCtorEq, not_true, not_false_eq_true, decide_true, decide_false, Int.not_lt, Int.not_le, ne_eq, List.length_cons, List.length_nil, List.length_map, List.length_append, List.length_set, List.length_take, List.length_drop] <;> omega))) | ((with_reducible apply st_if0); (first | with_reducible rfl | assumption | exact rfl | decide | (simp only [decide_eq_true_eq, decide_eq_false_iff_not, Bool.not_eq_true', Bool.not_eq_false', Bool.not_true, Bool.not_false, Bool.true_and, Bool.and_true, Bool.false_and, Bool.and_false, V.int.injEq, V.str.injEq, V.bl.injEq, V.ref.injEq, reduceCtorEq, not_true, not_false_eq_true, decide_true, decide_false, Int.not_lt, Int.not_le, ne_eq, List.length_cons, List.length_nil, List.length_map, List.length_append, List.length_set, List.length_take, List.length_drop] <;> omega))) | ((with_reducible apply st_lenL); (focus infer_instance)) | ((with_reducible apply st_lenT); (focus infer_instance)) | ((with_reducible apply st_tupT); (focus infer_instance)) | ((with_reducible apply st_tyL); (focus infer_instance)) | ((with_reducible apply st_elist); (focus infer_instance)) | ((with_reducible apply st_eitup); (focus infer_instance)) | ((with_reducible apply st_eE); (focus infer_instance)) | ((with_reducible apply st_epr); (focus infer_instance)) | ((with_reducible apply st_setO); (focus infer_instance)) | ((with_reducible apply st_ixO); (focus infer_instance)) | ((with_reducible apply st_ixLs); (focus assumption); (focus (first | exact rfl | exact atI_nat (by assumption)))) | ((with_reducible apply st_ixTs); (focus assumption); (focus (first | exact rfl | exact atI_nat (by assumption)))) | ((with_reducible apply st_fld); (focus infer_instance); (focus exact rfl)) | ((with_reducible apply st_const); (focus infer_instance); (focus exact rfl)) | ((with_reducible apply st_emt); (focus infer_instance); (focus exact rfl)) | ((with_reducible apply st_ixL); (focus infer_instance); (focus (first | exact rfl | exact atI_nat (by assumption)))) | ((with_reducible apply st_ixT); (focus infer_instance); (focus (first | exact rfl | exact atI_nat (by assumption)))) | ((with_reducible apply st_gtup); (focus infer_instance); (focus (first | exact rfl | exact atI_nat (by assumption)))))))
local macro_rules | `(tactic| subst_eqs) => `(tactic| (repeat (first | with_reducible refine st_seq ?_ | with_reducible refine st_asg ?_ | with_reducible refine st_name ?_ | with_reducible refine st_ret ?_ | with_reducible refine st_drop ?_ | with_reducible refine st_ifS ?_ | with_reducible refine st_nx ?_ | with_reducible refine st_brk ?_ | with_reducible refine st_cnt ?_ | with_reducible refine st_c ?_ | with_reducible refine st_op ?_ | with_reducible refine st_un ?_ | with_reducible refine st_rI0 ?_ | with_reducible refine st_cons ?_ | with_reducible refine st_nil ?_ | with_reducible refine st_cl ?_ | with_reducible refine st_cb ?_ | with_reducible refine st_mt ?_ | with_reducible refine st_pr ?_ | with_reducible refine st_test ?_ | with_reducible refine st_ebl ?_ | with_reducible refine st_eint ?_ | with_reducible refine st_par ?_ | with_reducible refine st_par2 ?_ | with_reducible refine st_and ?_ | with_reducible refine st_or ?_ | with_reducible refine st_not ?_ | with_reducible refine st_andV ?_ | with_reducible refine st_orV ?_ | with_reducible refine st_notV ?_ | with_reducible refine st_ifE ?_ | with_reducible refine st_chain ?_ | with_reducible refine st_lst ?_ | with_reducible refine st_tup ?_ | with_reducible refine st_retN ?_ | with_reducible refine st_rU ?_ | with_reducible refine st_rAdd ?_ | with_reducible refine st_rSub ?_ | with_reducible refine st_isN ?_ | with_reducible refine st_notN ?_ | with_reducible refine st_sF ?_ | with_reducible refine st_int ?_ | with_reducible refine st_intB ?_ | with_reducible refine st_abs ?_ | with_reducible refine st_sl ?_ | with_reducible refine st_part ?_ | with_reducible refine st_nopart ?_ | with_reducible refine st_bm ?_ | with_reducible refine st_bm0 ?_ | with_reducible refine st_tyS ?_ | with_reducible refine st_gsub ?_ | with_reducible refine st_gcons ?_ | with_reducible refine st_gnil ?_ | with_reducible refine st_chain3 ?_ | with_reducible refine st_gsl ?_ | with_reducible refine st_clK ?_ | with_reducible refine st_mtK ?_ | with_reducible refine st_lcR1 ?_ | with_reducible refine st_lcR2 ?_ | with_reducible refine st_lcL ?_ | with_reducible refine st_lcT ?_ | with_reducible refine st_yes ?_ | with_reducible refine st_forR1 ?_ | with_reducible refine st_forR2 ?_ | with_reducible refine st_forL ?_ | with_reducible refine st_forT ?_ | with_reducible refine st_forE ?_ | with_reducible refine st_list ?_ | with_reducible refine st_itup ?_ | with_reducible refine st_tB ?_ | ((with_reducible apply st_var); exact rfl) | ((with_reducible apply st_aug); exact rfl) | ((with_reducible apply st_eq); exact rfl) | ((with_reducible apply st_ne); exact rfl) | ((with_reducible apply st_spK); (focus exact rfl); (focus exact rfl)) | ((with_reducible apply st_rI); (first | decide | (refine Or.inl ⟨?_, ?_⟩ <;> omega) | (refine Or.inr ⟨?_, ?_⟩ <;> omega) | (show (0 : Int) < _; omega) | exact ⟨by omega, log_of (by omega) (by omega)⟩ | exact ⟨by decide, by decide, by decide⟩)) | ((with_reducible apply st_powK); (focus exact ⟨by decide, by decide, by decide⟩); (focus decide)) | ((with_reducible apply st_eR1); (focus omega); (focus omega)) | ((with_reducible apply st_eR2); (focus omega)) | ((with_reducible apply st_if1); (first | with_reducible rfl | assumption | exact rfl | decide | (simp only [decide_eq_true_eq, decide_eq_false_iff_not, Bool.not_eq_true', Bool.not_eq_false', Bool.not_true, Bool.not_false, Bool.true_and, Bool.and_true, Bool.false_and, Bool.and_false, V.int.injEq, V.str.injEq, V.bl.injEq, V.ref.injEq, reduceCtorEq, not_true, not_false_eq_true, decide_true, decide_false, Int.not_lt, Int.not_le, ne_eq, List.length_cons, List.length_nil, List.length_map, List.length_append, List.length_set, List.length_take, List.length_drop] <;> omega))) | ((with_reducible apply st_if0); (first | with_reducible rfl | assumption | exact rfl | decide | (simp only [decide_eq_true_eq, decide_eq_false_iff_not, Bool.not_eq_true', Bool.not_eq_false', Bool.not_true, Bool.not_false, Bool.true_and, Bool.and_true, Bool.false_and, Bool.and_false, V.int.injEq, V.str.injEq, V.bl.injEq, V.ref.injEq, reduceCtorEq, not_true, not_false_eq_true, decide_true, decide_false, Int.not_lt, Int.not_le, ne_eq, List.length_cons, List.length_nil, List.length_map, List.length_append, List.length_set, List.length_take, List.length_drop] <;> omega))) | ((with_reducible apply st_lenL); (focus infer_instance)) | ((with_reducible apply st_lenT); (focus infer_instance)) | ((with_reducible apply st_tupT); (focus infer_instance)) | ((with_reducible apply st_tyL); (focus infer_instance)) | ((with_reducible apply st_elist); (focus infer_instance)) | ((with_reducible apply st_eitup); (focus infer_instance)) | ((with_reducible apply st_eE); (focus infer_instance)) | ((with_reducible apply st_epr); (focus infer_instance)) | ((with_reducible apply st_setO); (focus infer_instance)) | ((with_reducible apply st_ixO); (focus infer_instance)) | ((with_reducible apply st_ixLs); (focus assumption); (focus (first | exact rfl | exact atI_nat (by assumption)))) | ((with_reducible apply st_ixTs); (focus assumption); (focus (first | exact rfl | exact atI_nat (by assumption)))) | ((with_reducible apply st_fld); (focus infer_instance); (focus exact rfl)) | ((with_reducible apply st_const); (focus infer_instance); (focus exact rfl)) | ((with_reducible apply st_emt); (focus infer_instance); (focus exact rfl)) | ((with_reducible apply st_ixL); (focus infer_instance); (focus (first | exact rfl | exact atI_nat (by assumption)))) | ((with_reducible apply st_ixT); (focus infer_instance); (focus (first | exact rfl | exact atI_nat (by assumption)))) | ((with_reducible apply st_gtup); (focus infer_instance); (focus (first | exact rfl | exact atI_nat (by assumption)))) | ((with_reducible apply st_newL); (focus (refine len_ok ?_; simp only [List.length_cons, List.length_nil, List.length_append, List.length_map, List.length_set, List.length_take, List.length_drop]; omega)); intro l Hn nw) | ((with_reducible apply st_newT); (focus (refine len_ok ?_; simp only [List.length_cons, List.length_nil, List.length_append, List.length_map, List.length_set, List.length_take, List.length_drop]; omega)); intro l Hn nw) | ((with_reducible apply st_listL); (focus infer_instance); intro l Hn nw) | ((with_reducible apply st_listT); (focus infer_instance); intro l Hn nw) | ((with_reducible apply st_tupL); (focus infer_instance); intro l Hn nw) | ((with_reducible apply st_slL); (focus infer_instance); intro l Hn nw) | ((with_reducible apply st_cat); (focus infer_instance); (focus infer_instance); (focus (refine len_ok ?_; simp only [List.length_cons, List.length_nil, List.length_append, List.length_map, List.length_set, List.length_take, List.length_drop]; omega)); intro l Hn nw))))
section
variable {P : Program} {w : World} {K : PySem.W.Frag} {mg : Str → Option Value} {base : Heap} {f : Addr} {fd : FuncData} {Tb : List (Addr × Str)}
abbrev N__law_pen : List Str := ["_law_script"]
theorem sc__law_pen : FnScope N__law_pen ["_law_script"] (defScope s__law_pen) := ⟨rfl, rfl, rfl, by decide +kernel, rfl, by decide +kernel, by decide +kernel⟩
theorem ok0__law_pen (F : FnA K d__law_pen fd) (T : Tx K mg) : FnOk P w K mg base CX0 1 (d__law_pen.adr K) fd ["_law_script"] (spPn K) := by
  refine fnO0 F sc__law_pen (fun vs H Q E h => by (repeat (first | (obtain ⟨rfl, _⟩ := h; rfl) | (obtain ⟨_, h⟩ := h)))) (fun cdv A outer s H vs Q E hr h => ?_)
  refine ⟨_, (pss_one (ps_ret (pe_lst (pa_cons (pe_callTy (cr_listOf (K := K) rfl) (by rfl) T.f_list (by decide +kernel) (pa_cons (pe_slice (sl_listK (K := K) rfl) (pv 0) po_none (po_some pe_int)) pa_nil)) (pa_cons pe_int (pa_cons pe_int pa_nil)))))), ?_⟩
  obtain ⟨a, ns, rfl, hS, hl, q⟩ := h
  have ec : cutV (ns.map V.int) none (some 63) = ns.map V.int := cut_all (by rw [List.length_map]; exact hl)
  symm_saturate
  refine st_slLs hS fun c H1 n1 => ?_
  rw [ec] at n1
  symm_saturate
  refine st_listL (by infer_instance) fun e H2 n2 => ?_
  symm_saturate
  refine st_newL (by (refine len_ok ?_; simp only [List.length_cons, List.length_nil, List.length_append, List.length_map, List.length_set, List.length_take, List.length_drop]; omega)) fun p H3 n3 => ?_
  refine q p e _ (n1.same.free (n2.same.free n3.no)) ⟨ns, 0, 0, by infer_instance, by infer_instance, hl, Int.le_refl _, by decide, Int.le_refl _⟩ (n1.same.trans (n2.same.trans n3.same))
abbrev N__law_draw : List Str := ["_law_pen_here", "_law_many", "_law_taken", "_law_cell", "_law_mixed", "_law_digit", "_law_great"]
theorem sc__law_draw : FnScope N__law_draw ["_law_pen_here", "_law_many"] (defScope s__law_draw) := ⟨rfl, rfl, rfl, by decide +kernel, rfl, by decide +kernel, by decide +kernel⟩
theorem ok0__law_draw (F : FnA K d__law_draw fd) (T : Tx K mg) : FnOk P w K mg base CX0 1 (d__law_draw.adr K) fd ["_law_pen_here", "_law_many"] spDr := by
  refine fnO0 F sc__law_draw (fun vs H Q E h => by (repeat (first | (obtain ⟨rfl, _⟩ := h; rfl) | (obtain ⟨_, h⟩ := h)))) (fun cdv A outer s H vs Q E hr h => ?_)
  refine ⟨_, (pss_cons (ps_if (pt_cmpR op_gt (pe_ix (ix_listK (K := K) rfl) (pv 0) pe_int (fun _ _ => rfl)) pe_int (nomark _))
      (pss_cons (ps_set (i := 5) sc__law_draw.nd rfl (.inl rfl) (pe_op op_mod (pe_callTy cr_int (by rfl) T.f_int (by decide +kernel) (pa_cons (pe_ix (ix_listK (K := K) rfl) (pv 0) pe_int (fun _ _ => rfl)) pa_nil)) (pv 1)))
      (pss_cons (ps_asg (pe_op op_fdivW (pe_callTy cr_int (by rfl) T.f_int (by decide +kernel) (pa_cons (pe_ix (ix_listK (K := K) rfl) (pv 0) pe_int (fun _ _ => rfl)) pa_nil)) (pv 1)) (pg_sub (pv 0) pe_int set_list))
      (pss_one (ps_ret (pv 5))))) pss_nil)
      (pss_cons (ps_set (i := 2) sc__law_draw.nd rfl (.inl rfl) (pe_ix (ix_listK (K := K) rfl) (pv 0) pe_int (fun _ _ => rfl)))
      (pss_cons (ps_asg (pe_op op_add (pv 2) pe_int) (pg_sub (pv 0) pe_int set_list))
      (pss_cons (ps_set (i := 3) sc__law_draw.nd rfl (.inl rfl) (pe_op op_add (pe_op op_mul pe_int (pv 2)) pe_int))
      (pss_cut (ps_if (pt_cmpR (op_neDK (K := K) rfl hr.units) (pe_ix (ix_listK (K := K) rfl) (pv 0) pe_int (fun _ _ => rfl)) (pe_lst pa_nil) (nomark _))
      (pss_one (ps_set (i := 3) sc__law_draw.nd rfl (.inl rfl) (pe_ix (ix_listK (K := K) rfl) (pe_ix (ix_listK (K := K) rfl) (pv 0) pe_int (fun _ _ => rfl)) (pe_op op_mod (pe_callTy cr_int (by rfl) T.f_int (by decide +kernel) (pa_cons (pv 2) pa_nil)) (pe_callB (cr_len (K := K) rfl) (by rfl) T.f_len (by decide +kernel) (pa_cons (pe_ix (ix_listK (K := K) rfl) (pv 0) pe_int (fun _ _ => rfl)) pa_nil))) (fun _ _ => rfl)))) pss_nil)
      (pss_cut (ps_if (PW.pt (pw_and (pt_cmpR op_lt (pv 2) (pe_callB (cr_len (K := K) rfl) (by rfl) T.f_len (by decide +kernel) (pa_cons (pe_ix (ix_listK (K := K) rfl) (pv 0) pe_int (fun _ _ => rfl)) pa_nil)) (nomark _)) (pw_and1 (pt_cmpR op_ge (pe_callB cr_abs (by rfl) T.f_abs (by decide +kernel) (pa_cons (pv 3) pa_nil)) (pe_op (op_powK 1000000000000000000) pe_int pe_int) (nomark _)))))
      (pss_cons (ps_set (i := 6) sc__law_draw.nd rfl (.inl rfl) (pe_op op_add (pe_op op_mul pe_int (pe_op op_sub (pe_callB cr_abs (by rfl) T.f_abs (by decide +kernel) (pa_cons (pv 3) pa_nil)) (pe_op (op_powK 1000000000000000000) pe_int pe_int))) (pe_callTy cr_int (by rfl) T.f_int (by decide +kernel) (pa_cons (pe_cmpR op_lt (pv 3) pe_int (nomark _)) pa_nil))))
      (pss_cons (ps_asg (pe_op op_fdivW (pe_callTy cr_int (by rfl) T.f_int (by decide +kernel) (pa_cons (pv 6) pa_nil)) (pv 1)) (pg_sub (pv 0) pe_int set_list))
      (pss_one (ps_ret (pe_op op_mod (pe_callTy cr_int (by rfl) T.f_int (by decide +kernel) (pa_cons (pv 6) pa_nil)) (pv 1)))))) pss_nil)
      (pss_cons (ps_set (i := 4) sc__law_draw.nd rfl (.inl rfl) (pe_op op_mod (pe_callTy cr_int (by rfl) T.f_int (by decide +kernel) (pa_cons (pe_op op_pow (pe_op op_add (pe_op op_add (pe_op op_mod (pe_callTy cr_int (by rfl) T.f_int (by decide +kernel) (pa_cons (pv 3) pa_nil)) pe_int) (pe_op op_mul pe_int (pv 2))) pe_int) pe_int) pa_nil)) pe_int))
      (pss_cons (ps_set (i := 4) sc__law_draw.nd rfl (.inl rfl) (pe_op op_mod (pe_callTy cr_int (by rfl) T.f_int (by decide +kernel) (pa_cons (pe_op op_pow (pe_op op_add (pe_op op_add (pe_op op_mul (pv 4) (pe_op op_add (pe_op op_mul pe_int (pv 2)) pe_int)) (pe_op op_mul (pe_op op_mul pe_int (pv 2)) (pv 2))) pe_int) pe_int) pa_nil)) pe_int))
      (pss_one (ps_ret (pe_op op_mod (pe_callTy cr_int (by rfl) T.f_int (by decide +kernel) (pa_cons (pe_op op_fdivW (pv 4) pe_int) pa_nil)) (pv 1)))))))))))), ?_⟩
  obtain ⟨p, c, b, m, rfl, hm, hlog, ⟨ns, i, z, hp, hc, hl, hi, hb, hz⟩, q⟩ := h
  have ncp : c ≠ p := pen_ne hp hc
  have mm := fun x : Int => mod_lt x hm
  have hdiv : ∀ x, CDivW x m := fun _ => ⟨hm, hlog⟩
  symm_saturate
  refine ite2 (fun h1 => ?_) (fun h1 => ?_)
  · symm_saturate
    refine st_rI (hdiv _) ?_
    symm_saturate
    refine st_setL hp rfl fun H1 n1 => ?_
    symm_saturate
    exact q _ _ (mm z).1 (mm z).2 ⟨ns, i, z / m, by infer_instance, by infer_instance, hl, hi, by omega, Int.ediv_nonneg hz (by omega)⟩ n1.keep
  · have z0 : z = 0 := by
      have : ¬ (z > 0) := by simpa using h1
      omega
    subst z0
    symm_saturate
    refine st_setL hp rfl fun H2 n2 => ?_
    have hp2 : H2 p = some (.lst [.ref c, .int (i + 1), .int 0]) := n2.at_
    have hc2 : H2 c = some (.lst (ns.map V.int)) := by infer_instance
    have k2 := n2.keep
    clear n2
    symm_saturate
    refine ⟨fun σ' H' => ∃ cell : Int, σ' = [some (.ref p), some (.int m), some (.int i), some (.int cell), none, none, none] ∧ H' p = some (.lst [.ref c, .int (i + 1), .int 0]) ∧ H' c = some (.lst (ns.map V.int)) ∧ Keep H H' p, ?_, ?_⟩
    · -- if the cells are not empty
      symm_saturate
      refine st_newL (by (refine len_ok ?_; simp only [List.length_cons, List.length_nil, List.length_append, List.length_map, List.length_set, List.length_take, List.length_drop]; omega)) fun e H3 n3 => ?_
      have hp3 : H3 p = some (.lst [.ref c, .int (i + 1), .int 0]) := by infer_instance
      have hc3 : H3 c = some (.lst (ns.map V.int)) := by infer_instance
      have k3 : Keep H H3 p := fun a o h1 h2 => n3.up (k2 _ _ h1 h2)
      refine st_neD (.lst (SqL.of hc3) (dp_ints K _ ns)) (.lst (SqL.of n3.at_) .nil) (PySem.W.ke_shaped_ints ns) (by decide +kernel) ?_
      clear n3
      symm_saturate
      refine ite2 (fun h2 => ?_) (fun h2 => ?_)
      · have hne : 0 < ns.length := by
          rw [eqv_nil] at h2
          cases ns with
          | nil => cases h2
          | cons a r => exact Nat.succ_pos _
        have hlen : (0 : Int) < ((ns.map V.int).length : Int) := by rw [List.length_map]; omega
        have mi := mod_lt i hlen
        obtain ⟨v, ev, _⟩ := atI_int (ns := ns) (i := i % ((ns.map V.int).length : Int)) mi.1 (by have := mi.2; rw [List.length_map] at this ⊢; exact this)
        symm_saturate
        refine st_ixL hc3 ev ?_
        symm_saturate
        exact ⟨v, rfl, hp3, hc3, k3⟩
      · symm_saturate
        exact ⟨_, rfl, hp3, hc3, k3⟩
    · rintro σ' H' ⟨cell, rfl, hp3, hc3, k3⟩
      -- a great cell?
      refine ⟨fun σ1 H1 => σ1 = [some (.ref p), some (.int m), some (.int i), some (.int cell), none, none, none] ∧ H1 = H', ?_, ?_⟩
      · symm_saturate
        refine ite2 (fun _ => ?_) (fun _ => ?_)
        · symm_saturate
          refine ite2 (fun h3 => ?_) (fun _ => ?_)
          · have hab : 1000000000000000000 ≤ (if cell < 0 then -cell else cell) := by simpa using h3
            symm_saturate
            have hgr : 0 ≤ 2 * ((if cell < 0 then -cell else cell) - 1000000000000000000) + (if decide (cell < 0) = true then 1 else 0) := by
              have : (0 : Int) ≤ (if decide (cell < 0) = true then 1 else 0) := by split <;> decide
              omega
            refine st_rI (hdiv _) ?_
            symm_saturate
            refine st_setL hp3 rfl fun H4 n4 => ?_
            symm_saturate
            refine q _ _ (mm _).1 (mm _).2 ⟨ns, i + 1, _, n4.at_, by infer_instance, hl, by omega, by omega, Int.ediv_nonneg hgr (by omega)⟩ (k3.trans n4.keep)
          · symm_saturate
            exact ⟨rfl, rfl⟩
        · symm_saturate
          exact ⟨rfl, rfl⟩
      · rintro σ1 H1 ⟨rfl, rfl⟩
        have hi2 : i ≤ 1000000 := by omega
        -- the first mix
        symm_saturate
        refine st_rI ⟨by decide, by decide, ?_⟩ ?_
        · refine pow_lt ?_ ?_ <;> omega
        have hx := mod_lt ((cell % 2147483549 + 83299 * i + 109) ^ (3 : Int).toNat) (show (0 : Int) < 2147483587 by decide)
        -- the second one
        symm_saturate
        refine st_rI ⟨by decide, by decide, ?_⟩ ?_
        · exact mix_ok hx.1 (Int.lt_trans hx.2 (by decide)) hi hi2 ⟨by decide, by decide⟩ ⟨by decide, by decide⟩ ⟨by decide, by decide⟩
        symm_saturate
        exact q _ _ (mm _).1 (mm _).2 ⟨ns, i + 1, 0, hp3, hc3, hl, by omega, by omega, Int.le_refl _⟩ k3
theorem ok__law_pen (F : FnA K d__law_pen fd) (T : Tx K mg) : FnOk P w K mg base CX0 1 (d__law_pen.adr K) fd ["_law_script"] (spPn K) := ok0__law_pen F T
theorem ok__law_draw (F : FnA K d__law_draw fd) (T : Tx K mg) : FnOk P w K mg base CX0 1 (d__law_draw.adr K) fd ["_law_pen_here", "_law_many"] (Gp.spF K Tb (Gp.ul2 Gp.F_draw)) := Gp.fnOk_weak (ok0__law_draw F T) fun _ _ _ _ => Gp.draw_of
end
end Lw
end
section
set_option pp.maxSteps 600
namespace Lw
open PySem PySem.Spec PyProof.Rows L2 Gh Gp Gz
section
variable {P : Program} {w : World} {K : PySem.W.Frag} {mg : Str → Option Value} {base : Heap} {f : Addr} {fd : FuncData} {Tb : List (Addr × Str)}
abbrev N_BadLength___init__ : List Str := ["self", "value"]
theorem sc_BadLength___init__ : FnScope N_BadLength___init__ ["self", "value"] (defScope s_BadLength___init__) := ⟨rfl, rfl, rfl, by decide +kernel, rfl, by decide +kernel, by decide +kernel⟩
theorem ok_BadLength___init__ (F : FnA K d_BadLength___init__ fd) (T : Tx K mg) : FnOk P w K mg base CX0 1 (d_BadLength___init__.adr K) fd ["self", "value"] (spErr1 (gd "BadLength" K) "value") := by
  refine fnO0 F sc_BadLength___init__ (fun vs H Q E h => ?_) (fun cdv A outer s H vs Q E hr h => ?_)
  · obtain ⟨a, v, rfl, _⟩ := h
    rfl
  · obtain ⟨a, v, rfl, ha, q⟩ := h
    refine ⟨_, pss_one (ps_ost (pv 0) (pv 1)), ?_⟩
    exact ⟨_, rfl, _, rfl, a, _, rfl, T.ox_BadLength, T.n_BadLength_value, .inl ⟨ha, q⟩⟩
abbrev N_BadPlace___init__ : List Str := ["self", "value"]
theorem sc_BadPlace___init__ : FnScope N_BadPlace___init__ ["self", "value"] (defScope s_BadPlace___init__) := ⟨rfl, rfl, rfl, by decide +kernel, rfl, by decide +kernel, by decide +kernel⟩
theorem ok_BadPlace___init__ (F : FnA K d_BadPlace___init__ fd) (T : Tx K mg) : FnOk P w K mg base CX0 1 (d_BadPlace___init__.adr K) fd ["self", "value"] (spErr1 (gd "BadPlace" K) "value") := by
  refine fnO0 F sc_BadPlace___init__ (fun vs H Q E h => ?_) (fun cdv A outer s H vs Q E hr h => ?_)
  · obtain ⟨a, v, rfl, _⟩ := h
    rfl
  · obtain ⟨a, v, rfl, ha, q⟩ := h
    refine ⟨_, pss_one (ps_ost (pv 0) (pv 1)), ?_⟩
    exact ⟨_, rfl, _, rfl, a, _, rfl, T.ox_BadPlace, T.n_BadPlace_value, .inl ⟨ha, q⟩⟩
abbrev N_BadRow___init__ : List Str := ["self", "at"]
theorem sc_BadRow___init__ : FnScope N_BadRow___init__ ["self", "at"] (defScope s_BadRow___init__) := ⟨rfl, rfl, rfl, by decide +kernel, rfl, by decide +kernel, by decide +kernel⟩
theorem ok_BadRow___init__ (F : FnA K d_BadRow___init__ fd) (T : Tx K mg) : FnOk P w K mg base CX0 1 (d_BadRow___init__.adr K) fd ["self", "at"] (spErr1 (gd "BadRow" K) "at") := by
  refine fnO0 F sc_BadRow___init__ (fun vs H Q E h => ?_) (fun cdv A outer s H vs Q E hr h => ?_)
  · obtain ⟨a, v, rfl, _⟩ := h
    rfl
  · obtain ⟨a, v, rfl, ha, q⟩ := h
    refine ⟨_, pss_one (ps_ost (pv 0) (pv 1)), ?_⟩
    exact ⟨_, rfl, _, rfl, a, _, rfl, T.ox_BadRow, T.n_BadRow_at, .inl ⟨ha, q⟩⟩
abbrev N_is_integer : List Str := ["value"]
theorem sc_is_integer : FnScope N_is_integer ["value"] (defScope s_is_integer) := ⟨rfl, rfl, rfl, by decide +kernel, rfl, by decide +kernel, by decide +kernel⟩
def F_is_integer (value : D) : Tr D :=
  fin (bd (bd (bd (bd (.ok value) fun d => bd (opt (isi_int d)) fun k => .ok (.bl k)) asB) fun k => if k = true then (bd (bd (bd (.ok value) fun d => bd (opt (isi_bool d)) fun k => .ok (.bl k)) asB) fun k => .ok (.bl (!k))) else .ok (.bl false)) fun d => .ok (.rt d))
theorem ok_is_integer (F : FnA K d_is_integer fd) (T : Tx K mg)  : FnOk P w K mg base CX0 1 (d_is_integer.adr K) fd ["value"] (spF K Tb (ul1 F_is_integer)) := by
  refine fnO0 F sc_is_integer (fun vs H Q E h => spF_len len1 h) (fun cdv A outer s H vs Q E hr h => ?_)
  refine ⟨_, (pss_cons (ps_ret (pe_and (pe_callB (call_isiZ (K := K) rfl) (by rfl) T.f_isinstance (by decide +kernel) (pa_cons (pv 0) (pa_cons (pe_bltn (v := .ty "int") (by rfl) T.f_int (by decide +kernel) rfl) pa_nil))) (pe_one (pe_not (pe_callB (call_isiZ (K := K) rfl) (by rfl) T.f_isinstance (by decide +kernel) (pa_cons (pv 0) (pa_cons (pe_bltn (v := .ty "bool") (by rfl) T.f_bool (by decide +kernel) rfl) pa_nil))))))) pss_nil), ?_⟩
  exact fn_of1 (F := F_is_integer) (envU := fun _ => List.replicate 1 .no) h (fun value => rfl) (fun p c value => (ss_ret (se_andV (se_isi (.ty _) (isT_int T) se_var) (se_notV (se_isi (.ty _) (isT_bool T) se_var)))))
abbrev N_is_within : List Str := ["value", "least", "most"]
theorem sc_is_within : FnScope N_is_within ["value", "least", "most"] (defScope s_is_within) := ⟨rfl, rfl, rfl, by decide +kernel, rfl, by decide +kernel, by decide +kernel⟩
def F_is_within (value least most : D) : Tr D :=
  fin (bd (bd (bd (bd (bd (.ok value) fun v1 => (bd (.ok []) fun r2 => .ok (v1 :: r2))) (ul1 F_is_integer)) asB) fun k => if k = true then (bd (.ok least) fun v3 => (bd (.ok value) fun v4 => (bd (bd (leD v3 v4) asB) fun k => if k = true then (bd (.ok most) fun v5 => leD v4 v5) else .ok (.bl false)))) else .ok (.bl false)) fun d => .ok (.rt d))
theorem ok_is_within (F : FnA K d_is_within fd) (T : Tx K mg) (G_is_integer : PromO P w K mg base CX0 1 (gd "is_integer" K) [] (spF K Tb (ul1 F_is_integer))) : FnOk P w K mg base CX0 2 (d_is_within.adr K) fd ["value", "least", "most"] (spF K Tb (ul3 F_is_within)) := by
  refine fnO0 F sc_is_within (fun vs H Q E h => spF_len len3 h) (fun cdv A outer s H vs Q E hr h => ?_)
  refine ⟨_, (pss_cons (ps_ret (pe_and (pe_g (PromO.call G_is_integer (hr.mono (by decide)) (passA (E := E))) (by rfl) T.g_is_integer T.k_is_integer (pa_cons (pv 0) pa_nil)) (pe_one (pe_chain op_le op_le (pv 1) (pv 0) (pv 2))))) pss_nil), ?_⟩
  exact fn_of3 (F := F_is_within) (envU := fun _ => List.replicate 3 .no) h (fun value least most => rfl) (fun p c value least most => (ss_ret (se_andV (se_cl srl_sp0 (sa_cons se_var sa_nil)) (se_chain sr_le sr_le se_var se_var se_var))))
abbrev N_is_item : List Str := ["value"]
theorem sc_is_item : FnScope N_is_item ["value"] (defScope s_is_item) := ⟨rfl, rfl, rfl, by decide +kernel, rfl, by decide +kernel, by decide +kernel⟩
def F_is_item (value : D) : Tr D :=
  fin (bd (bd (bd (bd (bd (.ok value) fun v1 => (bd (.ok []) fun r2 => .ok (v1 :: r2))) (ul1 F_is_integer)) asB) fun k => if k = true then (bd (bd (.ok (.int 1000000000000000000000000000000)) negD) fun v3 => (bd (.ok value) fun v4 => (bd (bd (ltD v3 v4) asB) fun k => if k = true then (bd (.ok (.int 1000000000000000000000000000000)) fun v5 => ltD v4 v5) else .ok (.bl false)))) else .ok (.bl false)) fun d => .ok (.rt d))
theorem ok_is_item (F : FnA K d_is_item fd) (T : Tx K mg) (G_is_integer : PromO P w K mg base CX0 1 (gd "is_integer" K) [] (spF K Tb (ul1 F_is_integer))) : FnOk P w K mg base CX0 2 (d_is_item.adr K) fd ["value"] (spF K Tb (ul1 F_is_item)) := by
  refine fnO0 F sc_is_item (fun vs H Q E h => spF_len len1 h) (fun cdv A outer s H vs Q E hr h => ?_)
  refine ⟨_, (pss_cons (ps_ret (pe_and (pe_g (PromO.call G_is_integer (hr.mono (by decide)) (passA (E := E))) (by rfl) T.g_is_integer T.k_is_integer (pa_cons (pv 0) pa_nil)) (pe_one (pe_chain op_lt op_lt (pe_un un_neg (pe_gi T.m_BEYOND_ITEMS (by rfl))) (pv 0) (pe_gi T.m_BEYOND_ITEMS (by rfl)))))) pss_nil), ?_⟩
  exact fn_of1 (F := F_is_item) (envU := fun _ => List.replicate 1 .no) h (fun value => rfl) (fun p c value => (ss_ret (se_andV (se_cl srl_sp0 (sa_cons se_var sa_nil)) (se_chain sr_lt sr_lt (se_un sr_neg se_int) se_var se_int))))
abbrev N_need_items : List Str := ["values", "many", "at", "value"]
theorem sc_need_items : FnScope N_need_items ["values", "many"] (defScope s_need_items) := ⟨rfl, rfl, rfl, by decide +kernel, rfl, by decide +kernel, by decide +kernel⟩
def F_need_items (values many : D) : Tr D :=
  fin (bdF (W' := Unit) (bd (bd (bd (bd (.ok values) fun d => bd (opt (isi_list_tuple d)) fun k => .ok (.bl k)) asB) fun k => .ok (!k)) fun k => if k = true then (bd (.ok .non) fun d => .ex "BadRow" [("at", d)]) else (.ok (.nx ()))) fun (w1 : Unit) => (bdF (W' := Unit) (bd (bd (bd (bd (bd (.ok many) fun (v4 : D) => (bd (.ok .non) fun (v5 : D) => (match v5 with | .non => .ok (.bl (!isN v4)) | _ => .bad))) asB) fun k => if k = true then (bd (bd (bd (bd (.ok values) fun v6 => (bd (.ok []) fun r7 => .ok (v6 :: r7))) (ul1 lenD)) fun v8 => (bd (.ok many) fun v9 => neD v8 v9)) asB) else .ok false) fun k => if k = true then .ok true else (bd (bd (bd (bd (.ok (.int 1)) fun v12 => (bd (bd (bd (.ok values) fun v10 => (bd (.ok []) fun r11 => .ok (v10 :: r11))) (ul1 lenD)) fun v13 => (bd (bd (leD v12 v13) asB) fun k => if k = true then (bd (.ok (.int 2000)) fun v14 => leD v13 v14) else .ok (.bl false)))) asB) fun k => .ok (!k)) fun k => if k = true then (bd (bd (.ok many) fun (v15 : D) => (bd (.ok .non) fun (v16 : D) => (match v16 with | .non => .ok (.bl (isN v15)) | _ => .bad))) asB) else .ok false)) fun k => if k = true then (bd (.ok .non) fun d => .ex "BadRow" [("at", d)]) else (.ok (.nx ()))) fun (w17 : Unit) => (bdF (bd (bd (bd (.ok values) fun v20 => (bd (.ok []) fun r21 => .ok (v20 :: r21))) (ul1 enD)) fun ds => forF (fun (d23 : D) (w22 : Unit) => (un2 d23 fun at_23 value23 => (bdF (W' := Unit) (bd (bd (bd (bd (bd (.ok value23) fun v25 => (bd (.ok []) fun r26 => .ok (v25 :: r26))) (ul1 F_is_item)) asB) fun k => .ok (!k)) fun k => if k = true then (bd (.ok at_23) fun d => .ex "BadRow" [("at", d)]) else (.ok (.nx ()))) fun (w27 : Unit) => (.ok (.nx ()))))) ds ()) fun (w22 : Unit) => (.ok (.nx ())))))
theorem ok_need_items (F : FnA K d_need_items fd) (T : Tx K mg) (G_BadRow___init__ : PromO P w K mg base CX0 1 (md "BadRow" "__init__" K) [] (spErr1 (gd "BadRow" K) "at")) (G_is_item : PromO P w K mg base CX0 2 (gd "is_item" K) [] (spF K Tb (ul1 F_is_item))) : FnOk P w K mg base (L2.CX P w) 3 (d_need_items.adr K) fd ["values", "many"] (spF K Tb (ul2 F_need_items)) := by
  refine F.ok sc_need_items (fun vs H Q E h => spF_len len2 h) (fun cdv A outer s H vs Q E hr h => ?_)
  refine ⟨_, (pss_cons (ps_if (pt_not (pt_val (pe_callB (call_isiTK (K := K) rfl) (by rfl) T.f_isinstance (by decide +kernel) (pa_cons (pv 0) (pa_cons (pe_tup (pa_cons (pe_bltn (v := .ty "list") (by rfl) T.f_list (by decide +kernel) rfl) (pa_cons (pe_bltn (v := .ty "tuple") (by rfl) T.f_tuple (by decide +kernel) rfl) pa_nil))) pa_nil)))))
      (pss_cons (ps_raise rfl (takes_of rfl rfl rfl rfl) (pmk_po T.ox_BadRow T.in_BadRow.iC T.in_BadRow.tI G_BadRow___init__ (hr.mono (by decide)) pass0 T.g_BadRow (pa_cons pe_non pa_nil))) pss_nil) pss_nil)
      (pss_cons (ps_if (PW.pt (pw_or (PW.pt (pw_and (pt_cmpR or_notN (pv 1) pe_non (nomark _)) (pw_and1 (pt_cmpR (op_neA (K := K) rfl hr.units) (pe_callB (cr_len (K := K) rfl) (by rfl) T.f_len (by decide +kernel) (pa_cons (pv 0) pa_nil)) (pv 1) (nomark _))))) (pw_or1 (PW.pt (pw_and (pt_not (pt_chain op_le op_le pe_int (pe_callB (cr_len (K := K) rfl) (by rfl) T.f_len (by decide +kernel) (pa_cons (pv 0) pa_nil)) (pe_gi T.m_MOST_ITEMS (by rfl)))) (pw_and1 (pt_cmpR or_isN (pv 1) pe_non (nomark _))))))))
      (pss_cons (ps_raise rfl (takes_of rfl rfl rfl rfl) (pmk_po T.ox_BadRow T.in_BadRow.iC T.in_BadRow.tI G_BadRow___init__ (hr.mono (by decide)) pass0 T.g_BadRow (pa_cons pe_non pa_nil))) pss_nil) pss_nil)
      (pss_cons (ps_for (passes_of rfl) rfl (pi_enumA (K := K) rfl (by rfl) T.f_enumerate (pa_cons (pv 0) pa_nil)) (pg_tup rfl (pgs_cons (pg_name (i := 2) sc_need_items.nd rfl (.inl rfl)) (pgs_cons (pg_name (i := 3) sc_need_items.nd rfl (.inl rfl)) pgs_nil)))
      (pss_cons (ps_if (pt_not (pt_val (pe_g (PromO.call G_is_item (hr.mono (by decide)) (passA (E := E))) (by rfl) T.g_is_item T.k_is_item (pa_cons (pv 3) pa_nil))))
      (pss_cons (ps_raise rfl (takes_of rfl rfl rfl rfl) (pmk_po T.ox_BadRow T.in_BadRow.iC T.in_BadRow.tI G_BadRow___init__ (hr.mono (by decide)) pass0 T.g_BadRow (pa_cons (pv 2) pa_nil))) pss_nil) pss_nil)
      pss_nil))
      pss_nil))), ?_⟩
  exact fn_of2 (F := F_need_items) (envU := fun _ => List.replicate 4 .no) h (fun values many => rfl) (fun p c values many => (ss_if (fun (w1 : Unit) => [.fz values, .fz many, .no, .no]) (sb_not (sb_tb (se_isiT (isT_list_tuple T) se_var))) (ss_raise1 se_non) (ss_nx (.s (.s (.s (.s .nil))))) (fun (w1 : Unit) => (ss_if (fun (w17 : Unit) => [.fz values, .fz many, .no, .no]) (sb_or (sb_and (sb_tst (se_op sr_notN se_var se_non)) (sb_tst (se_op sr_ne (se_cb srl_len (sa_cons se_var sa_nil)) se_var))) (sb_and (sb_not (sb_tst (se_chain sr_le sr_le se_int (se_cb srl_len (sa_cons se_var sa_nil)) se_int))) (sb_tst (se_op sr_isN se_var se_non)))) (ss_raise1 se_non) (ss_nx (.s (.s (.s (.s .nil))))) (fun (w17 : Unit) => (ss_for (fun (w22 : Unit) => [.fz values, .fz many, .no, .no]) (si_enum (sa_cons se_var sa_nil)) (.s (.s (.s (.s .nil)))) (fun (d23 : D) (w22 : Unit) => (sx_tup2 (fun at_23 value23 => (ss_if (fun (w27 : Unit) => [.fz values, .fz many, .fz at_23, .fz value23]) (sb_not (sb_tb (se_cl srl_sp0 (sa_cons se_var sa_nil)))) (ss_raise1 se_var) (ss_nx (.s (.s (.s (.s .nil))))) (fun (w27 : Unit) => (ss_nx (.s (.s (.n (.n .nil)))))))))) (fun (w22 : Unit) => (ss_nx (le_no _ rfl)))))))))
abbrev N_Row___init__ : List Str := ["self", "items"]
theorem sc_Row___init__ : FnScope N_Row___init__ ["self", "items"] (defScope s_Row___init__) := ⟨rfl, rfl, rfl, by decide +kernel, rfl, by decide +kernel, by decide +kernel⟩
def F_Row___init__ (fs : Fs) (items : D) : Tr Fs :=
  finI (bd (bd (bd (.ok items) fun v3 => (bd (bd (.ok .non) fun v1 => (bd (.ok []) fun r2 => .ok (v1 :: r2))) fun r4 => .ok (v3 :: r4))) (ul2 F_need_items)) fun _ => (bd (bd (bd (.ok items) fun v5 => (bd (.ok []) fun r6 => .ok (v5 :: r6))) (ul1 listD)) fun own_items7 => if fs.length < 900 then (.ok (.nx (putD "own_items" own_items7 fs))) else .bad))
theorem ok_Row___init__ (F : FnA K d_Row___init__ fd) (T : Tx K mg) (G_need_items : PromO P w K mg base (L2.CX P w) 3 (gd "need_items" K) [] (spF K Tb (ul2 F_need_items))) : FnOk P w K mg base (L2.CX P w) 4 (d_Row___init__.adr K) fd ["self", "items"] (spI K Tb "Row" (fun fs => ul1 (F_Row___init__ fs))) := by
  refine F.ok sc_Row___init__ (fun vs H Q E h => spI_len lenI1 h) (fun cdv A outer s H vs Q E hr h => ?_)
  refine ⟨_, (pss_cons (ps_expr (pe_g (PromO.call G_need_items (hr.mono (by decide)) (pass_on rfl rfl rfl rfl)) (by rfl) T.g_need_items T.k_need_items (pa_cons (pv 1) (pa_cons pe_non pa_nil))))
      (pss_cons (ps_f (pv 0) (pe_callTy (cr_listOf (K := K) rfl) (by rfl) T.f_list (by decide +kernel) (pa_cons (pv 1) pa_nil)) T.cl_Row T.n_Row_own_items)
      pss_nil)), ?_⟩
  exact ini_of1 (F := F_Row___init__) (envI := fun fs => .oi "Row" fs :: List.replicate 1 .no) h (fun fs items => rfl) (fun p c fs items => (ss_drop (se_cl srl_sp0 (sa_cons se_var (sa_cons se_non sa_nil))) (ss_setf (se_cb srl_list (sa_cons se_var sa_nil)) (fun own_items7 => (ss_nx (.s (le_no _ rfl)))))))
abbrev N_Row_home : List Str := ["cls", "n"]
theorem sc_Row_home : FnScope N_Row_home ["cls", "n"] (defScope s_Row_home) := ⟨rfl, rfl, rfl, by decide +kernel, rfl, by decide +kernel, by decide +kernel⟩
def F_Row_home (n : D) : Tr D :=
  fin (bdF (W' := Unit) (bd (bd (bd (bd (bd (.ok n) fun v5 => (bd (bd (.ok (.int 1)) fun v3 => (bd (bd (.ok (.int 2000)) fun v1 => (bd (.ok []) fun r2 => .ok (v1 :: r2))) fun r4 => .ok (v3 :: r4))) fun r6 => .ok (v5 :: r6))) (ul3 F_is_within)) asB) fun k => .ok (!k)) fun k => if k = true then (bd (.ok n) fun d => .ex "BadLength" [("value", d)]) else (.ok (.nx ()))) fun (w7 : Unit) => (bd (bd (bd (bd (bd (.ok n) rgA1) fun r => if rgOk r.1 r.2 then .ok (.lst (rgD r.1 (r.2 - r.1).toNat)) else .bad) fun v10 => (bd (.ok []) fun r11 => .ok (v10 :: r11))) (fun ds => bd ((fun fs => ul1 (F_Row___init__ fs)) [] ds) fun fs => .ok (.obj "Row" fs))) fun d => .ok (.rt d)))
theorem ok_Row_home (F : FnA K d_Row_home fd) (T : Tx K mg) (G_is_within : PromO P w K mg base CX0 2 (gd "is_within" K) [] (spF K Tb (ul3 F_is_within))) (G_BadLength___init__ : PromO P w K mg base CX0 1 (md "BadLength" "__init__" K) [] (spErr1 (gd "BadLength" K) "value")) (G_Row___init__ : PromO P w K mg base (L2.CX P w) 4 (md "Row" "__init__" K) [] (spI K Tb "Row" (fun fs => ul1 (F_Row___init__ fs)))) : FnOk P w K mg base (L2.CX P w) 6 (d_Row_home.adr K) fd ["cls", "n"] (spK K Tb "Row" (ul1 F_Row_home)) := by
  refine F.ok sc_Row_home (fun vs H Q E h => spK_len len1 h) (fun cdv A outer s H vs Q E hr h => ?_)
  refine ⟨_, (pss_cons (ps_if (pt_not (pt_val (pe_g (PromO.call G_is_within (hr.mono (by decide)) (passA (E := E))) (by rfl) T.g_is_within T.k_is_within (pa_cons (pv 1) (pa_cons pe_int (pa_cons (pe_gi T.m_MOST_ITEMS (by rfl)) pa_nil))))))
      (pss_cons (ps_raise rfl (takes_of rfl rfl rfl rfl) (pmk_po T.ox_BadLength T.in_BadLength.iC T.in_BadLength.tI G_BadLength___init__ (hr.mono (by decide)) pass0 T.g_BadLength (pa_cons (pv 1) pa_nil))) pss_nil) pss_nil)
      (pss_cons (ps_ret (pe_callV (pv 0) T.k_Row (PromO.make T.mk_Row G_Row___init__ (hr.mono (by decide)) (pass_on rfl rfl rfl rfl)) (pa_cons (pe_listRg rfl (by rfl) T.f_list (prg_1 (by rfl) T.f_range (pv 1))) pa_nil))) pss_nil)), ?_⟩
  exact fn_ofK1 (F := F_Row_home) (envU := fun _ => List.replicate 2 .no) h (fun n => rfl) (fun p c n => (ss_if (fun (w7 : Unit) => [.fz (.cls "Row"), .fz n]) (sb_not (sb_tb (se_cl srl_sp0 (sa_cons se_var (sa_cons se_int (sa_cons se_int sa_nil)))))) (ss_raise1 se_var) (ss_nx (.s (.s .nil))) (fun (w7 : Unit) => (ss_ret (se_callK (i := 0) srl_mk0 (sa_cons (se_lstRg (srg_1 se_var)) sa_nil))))))
abbrev N_Row_contents : List Str := ["self"]
theorem sc_Row_contents : FnScope N_Row_contents ["self"] (defScope s_Row_contents) := ⟨rfl, rfl, rfl, by decide +kernel, rfl, by decide +kernel, by decide +kernel⟩
def F_Row_contents (self : D) : Tr D :=
  fin (bd (bd (bd (bd (.ok self) (fldD "Row" "own_items")) fun v1 => (bd (.ok []) fun r2 => .ok (v1 :: r2))) (ul1 tupD)) fun d => .ok (.rt d))
theorem ok_Row_contents (F : FnA K d_Row_contents fd) (T : Tx K mg)  : FnOk P w K mg base CX0 1 (d_Row_contents.adr K) fd ["self"] (spF K Tb (ul1 F_Row_contents)) := by
  refine fnO0 F sc_Row_contents (fun vs H Q E h => spF_len len1 h) (fun cdv A outer s H vs Q E hr h => ?_)
  refine ⟨_, (pss_cons (ps_ret (pe_callTy (cr_tupOf (K := K) rfl) (by rfl) T.f_tuple (by decide +kernel) (pa_cons (pe_f (pv 0) T.cl_Row T.n_Row_own_items) pa_nil))) pss_nil), ?_⟩
  exact fn_of1 (F := F_Row_contents) (envU := fun _ => List.replicate 1 .no) h (fun self => rfl) (fun p c self => (ss_ret (se_cb srl_tup (sa_cons (se_un sr_fld se_var) sa_nil))))
abbrev N_Row_need_place : List Str := ["self", "value"]
theorem sc_Row_need_place : FnScope N_Row_need_place ["self", "value"] (defScope s_Row_need_place) := ⟨rfl, rfl, rfl, by decide +kernel, rfl, by decide +kernel, by decide +kernel⟩
def F_Row_need_place (self value : D) : Tr D :=
  fin (bdF (W' := Unit) (bd (bd (bd (bd (bd (.ok value) fun v9 => (bd (bd (.ok (.int 0)) fun v7 => (bd (bd (bd (bd (bd (bd (.ok self) (fldD "Row" "own_items")) fun v1 => (bd (.ok []) fun r2 => .ok (v1 :: r2))) (ul1 lenD)) fun v3 => (bd (.ok (.int 1)) fun v4 => subD v3 v4)) fun v5 => (bd (.ok []) fun r6 => .ok (v5 :: r6))) fun r8 => .ok (v7 :: r8))) fun r10 => .ok (v9 :: r10))) (ul3 F_is_within)) asB) fun k => .ok (!k)) fun k => if k = true then (bd (.ok value) fun d => .ex "BadPlace" [("value", d)]) else (.ok (.nx ()))) fun (w11 : Unit) => (.ok (.nx ())))
theorem ok_Row_need_place (F : FnA K d_Row_need_place fd) (T : Tx K mg) (G_is_within : PromO P w K mg base CX0 2 (gd "is_within" K) [] (spF K Tb (ul3 F_is_within))) (G_BadPlace___init__ : PromO P w K mg base CX0 1 (md "BadPlace" "__init__" K) [] (spErr1 (gd "BadPlace" K) "value")) : FnOk P w K mg base (L2.CX P w) 3 (d_Row_need_place.adr K) fd ["self", "value"] (spF K Tb (ul2 F_Row_need_place)) := by
  refine F.ok sc_Row_need_place (fun vs H Q E h => spF_len len2 h) (fun cdv A outer s H vs Q E hr h => ?_)
  refine ⟨_, (pss_cons (ps_if (pt_not (pt_val (pe_g (PromO.call G_is_within (hr.mono (by decide)) (passA (E := E))) (by rfl) T.g_is_within T.k_is_within (pa_cons (pv 1) (pa_cons pe_int (pa_cons (pe_op op_sub (pe_callB (cr_len (K := K) rfl) (by rfl) T.f_len (by decide +kernel) (pa_cons (pe_f (pv 0) T.cl_Row T.n_Row_own_items) pa_nil)) pe_int) pa_nil))))))
      (pss_cons (ps_raise rfl (takes_of rfl rfl rfl rfl) (pmk_po T.ox_BadPlace T.in_BadPlace.iC T.in_BadPlace.tI G_BadPlace___init__ (hr.mono (by decide)) pass0 T.g_BadPlace (pa_cons (pv 1) pa_nil))) pss_nil) pss_nil)
      pss_nil), ?_⟩
  exact fn_of2 (F := F_Row_need_place) (envU := fun _ => List.replicate 2 .no) h (fun self value => rfl) (fun p c self value => (ss_if (fun (w11 : Unit) => [.fz self, .fz value]) (sb_not (sb_tb (se_cl srl_sp0 (sa_cons se_var (sa_cons se_int (sa_cons (se_op sr_sub (se_cb srl_len (sa_cons (se_un sr_fld se_var) sa_nil)) se_int) sa_nil)))))) (ss_raise1 se_var) (ss_nx (.s (.s .nil))) (fun (w11 : Unit) => (ss_nx (le_no _ rfl)))))
abbrev N_Row_need_stretch : List Str := ["self", "value"]
theorem sc_Row_need_stretch : FnScope N_Row_need_stretch ["self", "value"] (defScope s_Row_need_stretch) := ⟨rfl, rfl, rfl, by decide +kernel, rfl, by decide +kernel, by decide +kernel⟩
def F_Row_need_stretch (self value : D) : Tr D :=
  fin (bdF (W' := Unit) (bd (bd (bd (bd (bd (bd (.ok value) fun v1 => (bd (.ok []) fun r2 => .ok (v1 :: r2))) (ul1 lenD)) fun v3 => (bd (.ok (.int 2)) fun v4 => neD v3 v4)) asB) fun k => if k = true then .ok true else (bd (bd (bd (bd (bd (bd (.ok value) fun v5 => (bd (.ok (.int 0)) fun v6 => ixD v5 v6)) fun v7 => (bd (.ok []) fun r8 => .ok (v7 :: r8))) (ul1 F_is_integer)) asB) fun k => .ok (!k)) fun k => if k = true then .ok true else (bd (bd (bd (bd (bd (.ok value) fun v9 => (bd (.ok (.int 1)) fun v10 => ixD v9 v10)) fun v11 => (bd (.ok []) fun r12 => .ok (v11 :: r12))) (ul1 F_is_integer)) asB) fun k => .ok (!k)))) fun k => if k = true then (bd (.ok value) fun d => .ex "BadPlace" [("value", d)]) else (.ok (.nx ()))) fun (w13 : Unit) => (bdF (W' := Unit) (bd (bd (bd (bd (.ok (.int 0)) fun v22 => (bd (bd (.ok value) fun v16 => (bd (.ok (.int 0)) fun v17 => ixD v16 v17)) fun v23 => (bd (bd (leD v22 v23) asB) fun k => if k = true then (bd (bd (.ok value) fun v18 => (bd (.ok (.int 1)) fun v19 => ixD v18 v19)) fun v24 => (bd (bd (leD v23 v24) asB) fun k => if k = true then (bd (bd (bd (bd (.ok self) (fldD "Row" "own_items")) fun v20 => (bd (.ok []) fun r21 => .ok (v20 :: r21))) (ul1 lenD)) fun v25 => leD v24 v25) else .ok (.bl false))) else .ok (.bl false)))) asB) fun k => .ok (!k)) fun k => if k = true then (bd (.ok value) fun d => .ex "BadPlace" [("value", d)]) else (.ok (.nx ()))) fun (w26 : Unit) => (.ok (.nx ()))))
theorem ok_Row_need_stretch (F : FnA K d_Row_need_stretch fd) (T : Tx K mg) (G_is_integer : PromO P w K mg base CX0 1 (gd "is_integer" K) [] (spF K Tb (ul1 F_is_integer))) (G_BadPlace___init__ : PromO P w K mg base CX0 1 (md "BadPlace" "__init__" K) [] (spErr1 (gd "BadPlace" K) "value")) : FnOk P w K mg base (L2.CX P w) 3 (d_Row_need_stretch.adr K) fd ["self", "value"] (spF K Tb (ul2 F_Row_need_stretch)) := by
  refine F.ok sc_Row_need_stretch (fun vs H Q E h => spF_len len2 h) (fun cdv A outer s H vs Q E hr h => ?_)
  refine ⟨_, (pss_cons (ps_if (PW.pt (pw_or (pt_cmpR (op_neA (K := K) rfl hr.units) (pe_callB (cr_len (K := K) rfl) (by rfl) T.f_len (by decide +kernel) (pa_cons (pv 1) pa_nil)) pe_int (nomark _)) (pw_or (pt_not (pt_val (pe_g (PromO.call G_is_integer (hr.mono (by decide)) (passA (E := E))) (by rfl) T.g_is_integer T.k_is_integer (pa_cons (pe_ix (ix_seqK (K := K) rfl) (pv 1) pe_int (fun _ _ => rfl)) pa_nil)))) (pw_or1 (pt_not (pt_val (pe_g (PromO.call G_is_integer (hr.mono (by decide)) (passA (E := E))) (by rfl) T.g_is_integer T.k_is_integer (pa_cons (pe_ix (ix_seqK (K := K) rfl) (pv 1) pe_int (fun _ _ => rfl)) pa_nil))))))))
      (pss_cons (ps_raise rfl (takes_of rfl rfl rfl rfl) (pmk_po T.ox_BadPlace T.in_BadPlace.iC T.in_BadPlace.tI G_BadPlace___init__ (hr.mono (by decide)) pass0 T.g_BadPlace (pa_cons (pv 1) pa_nil))) pss_nil) pss_nil)
      (pss_cons (ps_if (pt_not (pt_chain3 op_le op_le op_le pe_int (pe_ix (ix_seqK (K := K) rfl) (pv 1) pe_int (fun _ _ => rfl)) (pe_ix (ix_seqK (K := K) rfl) (pv 1) pe_int (fun _ _ => rfl)) (pe_callB (cr_len (K := K) rfl) (by rfl) T.f_len (by decide +kernel) (pa_cons (pe_f (pv 0) T.cl_Row T.n_Row_own_items) pa_nil))))
      (pss_cons (ps_raise rfl (takes_of rfl rfl rfl rfl) (pmk_po T.ox_BadPlace T.in_BadPlace.iC T.in_BadPlace.tI G_BadPlace___init__ (hr.mono (by decide)) pass0 T.g_BadPlace (pa_cons (pv 1) pa_nil))) pss_nil) pss_nil)
      pss_nil)), ?_⟩
  exact fn_of2 (F := F_Row_need_stretch) (envU := fun _ => List.replicate 2 .no) h (fun self value => rfl) (fun p c self value => (ss_if (fun (w13 : Unit) => [.fz self, .fz value]) (sb_or (sb_tst (se_op sr_ne (se_cb srl_len (sa_cons se_var sa_nil)) se_int)) (sb_or (sb_not (sb_tb (se_cl srl_sp0 (sa_cons (se_op sr_ix se_var se_int) sa_nil)))) (sb_not (sb_tb (se_cl srl_sp0 (sa_cons (se_op sr_ix se_var se_int) sa_nil)))))) (ss_raise1 se_var) (ss_nx (.s (.s .nil))) (fun (w13 : Unit) => (ss_if (fun (w26 : Unit) => [.fz self, .fz value]) (sb_not (sb_tst (se_chain3 sr_le sr_le sr_le se_int (se_op sr_ix se_var se_int) (se_op sr_ix se_var se_int) (se_cb srl_len (sa_cons (se_un sr_fld se_var) sa_nil))))) (ss_raise1 se_var) (ss_nx (.s (.s .nil))) (fun (w26 : Unit) => (ss_nx (le_no _ rfl)))))))
abbrev N_Row_exchange : List Str := ["self", "p"]
theorem sc_Row_exchange : FnScope N_Row_exchange ["self", "p"] (defScope s_Row_exchange) := ⟨rfl, rfl, rfl, by decide +kernel, rfl, by decide +kernel, by decide +kernel⟩
def F_Row_exchange (self p : D) : Tr D :=
  fin (bdF (W' := Unit) (bd (bd (bd (bd (bd (.ok p) fun v9 => (bd (bd (.ok (.int 0)) fun v7 => (bd (bd (bd (bd (bd (bd (.ok self) (fldD "Row" "own_items")) fun v1 => (bd (.ok []) fun r2 => .ok (v1 :: r2))) (ul1 lenD)) fun v3 => (bd (.ok (.int 2)) fun v4 => subD v3 v4)) fun v5 => (bd (.ok []) fun r6 => .ok (v5 :: r6))) fun r8 => .ok (v7 :: r8))) fun r10 => .ok (v9 :: r10))) (ul3 F_is_within)) asB) fun k => .ok (!k)) fun k => if k = true then (bd (.ok p) fun d => .ex "BadPlace" [("value", d)]) else (.ok (.nx ()))) fun (w11 : Unit) => .bad)
theorem ok_Row_exchange (F : FnA K d_Row_exchange fd) (T : Tx K mg) (G_is_within : PromO P w K mg base CX0 2 (gd "is_within" K) [] (spF K Tb (ul3 F_is_within))) (G_BadPlace___init__ : PromO P w K mg base CX0 1 (md "BadPlace" "__init__" K) [] (spErr1 (gd "BadPlace" K) "value")) : FnOk P w K mg base (L2.CX P w) 3 (d_Row_exchange.adr K) fd ["self", "p"] (spF K Tb (ul2 F_Row_exchange)) := by
  refine F.ok sc_Row_exchange (fun vs H Q E h => spF_len len2 h) (fun cdv A outer s H vs Q E hr h => ?_)
  refine ⟨_, (pss_cons (ps_if (pt_not (pt_val (pe_g (PromO.call G_is_within (hr.mono (by decide)) (passA (E := E))) (by rfl) T.g_is_within T.k_is_within (pa_cons (pv 1) (pa_cons pe_int (pa_cons (pe_op op_sub (pe_callB (cr_len (K := K) rfl) (by rfl) T.f_len (by decide +kernel) (pa_cons (pe_f (pv 0) T.cl_Row T.n_Row_own_items) pa_nil)) pe_int) pa_nil))))))
      (pss_cons (ps_raise rfl (takes_of rfl rfl rfl rfl) (pmk_po T.ox_BadPlace T.in_BadPlace.iC T.in_BadPlace.tI G_BadPlace___init__ (hr.mono (by decide)) pass0 T.g_BadPlace (pa_cons (pv 1) pa_nil))) pss_nil) pss_nil)
      Gp.pss_never), ?_⟩
  exact fn_of2 (F := F_Row_exchange) (envU := fun _ => List.replicate 2 .no) h (fun self p => rfl) (fun p c self p => (ss_if (fun (w11 : Unit) => [.fz self, .fz p]) (sb_not (sb_tb (se_cl srl_sp0 (sa_cons se_var (sa_cons se_int (sa_cons (se_op sr_sub (se_cb srl_len (sa_cons (se_un sr_fld se_var) sa_nil)) se_int) sa_nil)))))) (ss_raise1 se_var) (ss_nx (.s (.s .nil))) (fun (w11 : Unit) => Gp.ss_nev)))
abbrev N_Row___len__ : List Str := ["self"]
theorem sc_Row___len__ : FnScope N_Row___len__ ["self"] (defScope s_Row___len__) := ⟨rfl, rfl, rfl, by decide +kernel, rfl, by decide +kernel, by decide +kernel⟩
def F_Row___len__ (self : D) : Tr D :=
  fin (bd (bd (bd (bd (.ok self) (fldD "Row" "own_items")) fun v1 => (bd (.ok []) fun r2 => .ok (v1 :: r2))) (ul1 lenD)) fun d => .ok (.rt d))
theorem ok_Row___len__ (F : FnA K d_Row___len__ fd) (T : Tx K mg)  : FnOk P w K mg base CX0 1 (d_Row___len__.adr K) fd ["self"] (spF K Tb (ul1 F_Row___len__)) := by
  refine fnO0 F sc_Row___len__ (fun vs H Q E h => spF_len len1 h) (fun cdv A outer s H vs Q E hr h => ?_)
  refine ⟨_, (pss_cons (ps_ret (pe_callB (cr_len (K := K) rfl) (by rfl) T.f_len (by decide +kernel) (pa_cons (pe_f (pv 0) T.cl_Row T.n_Row_own_items) pa_nil))) pss_nil), ?_⟩
  exact fn_of1 (F := F_Row___len__) (envU := fun _ => List.replicate 1 .no) h (fun self => rfl) (fun p c self => (ss_ret (se_cb srl_len (sa_cons (se_un sr_fld se_var) sa_nil))))
abbrev N_Row___getitem__ : List Str := ["self", "index"]
theorem sc_Row___getitem__ : FnScope N_Row___getitem__ ["self", "index"] (defScope s_Row___getitem__) := ⟨rfl, rfl, rfl, by decide +kernel, rfl, by decide +kernel, by decide +kernel⟩
def F_Row___getitem__ (self index : D) : Tr D :=
  fin (bdF (W' := Unit) (bd (bd (bd (.ok index) fun d => bd (opt (isi_tuple d)) fun k => .ok (.bl k)) asB) fun k => if k = true then (bd (bd (.ok self) fun o4 => (isO "Row" o4 fun fs => if fs.lookup ("need_stretch" : Str) = none then bd (bd (.ok index) fun v2 => (bd (.ok []) fun r3 => .ok (v2 :: r3))) fun ds => (ul2 F_Row_need_stretch) (o4 :: ds) else .bad)) fun _ => (bd (bd (bd (.ok self) (fldD "Row" "own_items")) fun v5 => (bd (bd (bd (.ok index) fun v7 => (bd (.ok (.int 0)) fun v8 => ixD v7 v8)) asI) fun lo => bd (bd (bd (.ok index) fun v9 => (bd (.ok (.int 1)) fun v10 => ixD v9 v10)) asI) fun hi => slD v5 lo hi)) fun d => .ok (.rt d))) else (.ok (.nx ()))) fun (w1 : Unit) => (bd (bd (.ok self) fun o13 => (isO "Row" o13 fun fs => if fs.lookup ("need_place" : Str) = none then bd (bd (.ok index) fun v11 => (bd (.ok []) fun r12 => .ok (v11 :: r12))) fun ds => (ul2 F_Row_need_place) (o13 :: ds) else .bad)) fun _ => (bd (bd (bd (.ok self) (fldD "Row" "own_items")) fun v14 => (bd (.ok index) fun v15 => ixD v14 v15)) fun d => .ok (.rt d))))
theorem ok_Row___getitem__ (F : FnA K d_Row___getitem__ fd) (T : Tx K mg) (G_Row_need_stretch : PromO P w K mg base (L2.CX P w) 3 (md "Row" "need_stretch" K) [] (spF K Tb (ul2 F_Row_need_stretch))) (G_Row_need_place : PromO P w K mg base (L2.CX P w) 3 (md "Row" "need_place" K) [] (spF K Tb (ul2 F_Row_need_place))) : FnOk P w K mg base (L2.CX P w) 4 (d_Row___getitem__.adr K) fd ["self", "index"] (spF K Tb (ul2 F_Row___getitem__)) := by
  refine F.ok sc_Row___getitem__ (fun vs H Q E h => spF_len len2 h) (fun cdv A outer s H vs Q E hr h => ?_)
  refine ⟨_, (pss_cons (ps_if (pt_val (pe_callB (call_isiZ (K := K) rfl) (by rfl) T.f_isinstance (by decide +kernel) (pa_cons (pv 1) (pa_cons (pe_bltn (v := .ty "tuple") (by rfl) T.f_tuple (by decide +kernel) rfl) pa_nil))))
      (pss_cons (ps_expr (pe_m (pv 0) T.cl_Row T.mt_Row_need_stretch (PromO.call G_Row_need_stretch (hr.mono (by decide)) (pass_on rfl rfl rfl rfl)) (pa_cons (pv 1) pa_nil)))
      (pss_cons (ps_ret (pe_slice (sl_all (K := K) rfl) (pe_f (pv 0) T.cl_Row T.n_Row_own_items) (po_some (pe_ix (ix_seqK (K := K) rfl) (pv 1) pe_int (fun _ _ => rfl))) (po_some (pe_ix (ix_seqK (K := K) rfl) (pv 1) pe_int (fun _ _ => rfl))))) pss_nil)) pss_nil)
      (pss_cons (ps_expr (pe_m (pv 0) T.cl_Row T.mt_Row_need_place (PromO.call G_Row_need_place (hr.mono (by decide)) (pass_on rfl rfl rfl rfl)) (pa_cons (pv 1) pa_nil)))
      (pss_cons (ps_ret (pe_ix (ix_seqK (K := K) rfl) (pe_f (pv 0) T.cl_Row T.n_Row_own_items) (pv 1) (fun _ _ => rfl))) pss_nil))), ?_⟩
  exact fn_of2 (F := F_Row___getitem__) (envU := fun _ => List.replicate 2 .no) h (fun self index => rfl) (fun p c self index => (ss_if (fun (w1 : Unit) => [.fz self, .fz index]) (sb_tb (se_isi (.ty _) (isT_tuple T) se_var)) (ss_drop (se_mt srl_sp0 se_var (sa_cons se_var sa_nil)) (ss_ret (se_sl (se_un sr_fld se_var) (so_some (se_op sr_ix se_var se_int)) (so_some (se_op sr_ix se_var se_int))))) (ss_nx (.s (.s .nil))) (fun (w1 : Unit) => (ss_drop (se_mt srl_sp0 se_var (sa_cons se_var sa_nil)) (ss_ret (se_op sr_ix (se_un sr_fld se_var) se_var))))))
abbrev N_Row___setitem__ : List Str := ["self", "index", "value"]
theorem sc_Row___setitem__ : FnScope N_Row___setitem__ ["self", "index", "value"] (defScope s_Row___setitem__) := ⟨rfl, rfl, rfl, by decide +kernel, rfl, by decide +kernel, by decide +kernel⟩
def F_Row___setitem__ (self index value : D) : Tr D :=
  fin (bdF (W' := Unit) (bd (bd (bd (.ok index) fun d => bd (opt (isi_tuple d)) fun k => .ok (.bl k)) asB) fun k => if k = true then (bd (bd (.ok self) fun o4 => (isO "Row" o4 fun fs => if fs.lookup ("need_stretch" : Str) = none then bd (bd (.ok index) fun v2 => (bd (.ok []) fun r3 => .ok (v2 :: r3))) fun ds => (ul2 F_Row_need_stretch) (o4 :: ds) else .bad)) fun _ => (bd (bd (bd (.ok value) fun v13 => (bd (bd (bd (bd (.ok index) fun v5 => (bd (.ok (.int 1)) fun v6 => ixD v5 v6)) fun v9 => (bd (bd (.ok index) fun v7 => (bd (.ok (.int 0)) fun v8 => ixD v7 v8)) fun v10 => subD v9 v10)) fun v11 => (bd (.ok []) fun r12 => .ok (v11 :: r12))) fun r14 => .ok (v13 :: r14))) (ul2 F_need_items)) fun _ => .bad)) else (bd (bd (.ok self) fun o17 => (isO "Row" o17 fun fs => if fs.lookup ("need_place" : Str) = none then bd (bd (.ok index) fun v15 => (bd (.ok []) fun r16 => .ok (v15 :: r16))) fun ds => (ul2 F_Row_need_place) (o17 :: ds) else .bad)) fun _ => (bdF (W' := Unit) (bd (bd (bd (bd (bd (.ok value) fun v18 => (bd (.ok []) fun r19 => .ok (v18 :: r19))) (ul1 F_is_item)) asB) fun k => .ok (!k)) fun k => if k = true then (bd (.ok (.int 0)) fun d => .ex "BadRow" [("at", d)]) else (.ok (.nx ()))) fun (w20 : Unit) => .bad))) fun (w1 : Unit) => (.ok (.nx ())))
theorem ok_Row___setitem__ (F : FnA K d_Row___setitem__ fd) (T : Tx K mg) (G_Row_need_stretch : PromO P w K mg base (L2.CX P w) 3 (md "Row" "need_stretch" K) [] (spF K Tb (ul2 F_Row_need_stretch))) (G_need_items : PromO P w K mg base (L2.CX P w) 3 (gd "need_items" K) [] (spF K Tb (ul2 F_need_items))) (G_Row_need_place : PromO P w K mg base (L2.CX P w) 3 (md "Row" "need_place" K) [] (spF K Tb (ul2 F_Row_need_place))) (G_is_item : PromO P w K mg base CX0 2 (gd "is_item" K) [] (spF K Tb (ul1 F_is_item))) (G_BadRow___init__ : PromO P w K mg base CX0 1 (md "BadRow" "__init__" K) [] (spErr1 (gd "BadRow" K) "at")) : FnOk P w K mg base (L2.CX P w) 4 (d_Row___setitem__.adr K) fd ["self", "index", "value"] (spF K Tb (ul3 F_Row___setitem__)) := by
  refine F.ok sc_Row___setitem__ (fun vs H Q E h => spF_len len3 h) (fun cdv A outer s H vs Q E hr h => ?_)
  refine ⟨_, (pss_cons (ps_if (pt_val (pe_callB (call_isiZ (K := K) rfl) (by rfl) T.f_isinstance (by decide +kernel) (pa_cons (pv 1) (pa_cons (pe_bltn (v := .ty "tuple") (by rfl) T.f_tuple (by decide +kernel) rfl) pa_nil))))
      (pss_cons (ps_expr (pe_m (pv 0) T.cl_Row T.mt_Row_need_stretch (PromO.call G_Row_need_stretch (hr.mono (by decide)) (pass_on rfl rfl rfl rfl)) (pa_cons (pv 1) pa_nil)))
      (pss_cons (ps_expr (pe_g (PromO.call G_need_items (hr.mono (by decide)) (pass_on rfl rfl rfl rfl)) (by rfl) T.g_need_items T.k_need_items (pa_cons (pv 2) (pa_cons (pe_op op_sub (pe_ix (ix_seqK (K := K) rfl) (pv 1) pe_int (fun _ _ => rfl)) (pe_ix (ix_seqK (K := K) rfl) (pv 1) pe_int (fun _ _ => rfl))) pa_nil))))
      Gp.pss_never)) (pss_cons (ps_expr (pe_m (pv 0) T.cl_Row T.mt_Row_need_place (PromO.call G_Row_need_place (hr.mono (by decide)) (pass_on rfl rfl rfl rfl)) (pa_cons (pv 1) pa_nil)))
      (pss_cons (ps_if (pt_not (pt_val (pe_g (PromO.call G_is_item (hr.mono (by decide)) (passA (E := E))) (by rfl) T.g_is_item T.k_is_item (pa_cons (pv 2) pa_nil))))
      (pss_cons (ps_raise rfl (takes_of rfl rfl rfl rfl) (pmk_po T.ox_BadRow T.in_BadRow.iC T.in_BadRow.tI G_BadRow___init__ (hr.mono (by decide)) pass0 T.g_BadRow (pa_cons pe_int pa_nil))) pss_nil) pss_nil)
      Gp.pss_never)))
      pss_nil), ?_⟩
  exact fn_of3 (F := F_Row___setitem__) (envU := fun _ => List.replicate 3 .no) h (fun self index value => rfl) (fun p c self index value => (ss_if (fun (w1 : Unit) => [.fz self, .fz index, .fz value]) (sb_tb (se_isi (.ty _) (isT_tuple T) se_var)) (ss_drop (se_mt srl_sp0 se_var (sa_cons se_var sa_nil)) (ss_drop (se_cl srl_sp0 (sa_cons se_var (sa_cons (se_op sr_sub (se_op sr_ix se_var se_int) (se_op sr_ix se_var se_int)) sa_nil))) Gp.ss_nev)) (ss_drop (se_mt srl_sp0 se_var (sa_cons se_var sa_nil)) (ss_if (fun (w20 : Unit) => [.fz self, .fz index, .fz value]) (sb_not (sb_tb (se_cl srl_sp0 (sa_cons se_var sa_nil)))) (ss_raise1 se_int) (ss_nx (.s (.s (.s .nil)))) (fun (w20 : Unit) => Gp.ss_nev))) (fun (w1 : Unit) => (ss_nx (le_no _ rfl)))))
end
end Lw
end
section
set_option pp.maxSteps 600
namespace Lw
open PySem PySem.Spec PyProof.Rows L2 Gh Gp Gz
section
variable {P : Program} {w : World} {K : PySem.W.Frag} {mg : Str → Option Value} {base : Heap} {f : Addr} {fd : FuncData} {Tb : List (Addr × Str)}
abbrev N__law_pick : List Str := ["_law_pen_here", "_law_some"]
theorem sc__law_pick : FnScope N__law_pick ["_law_pen_here", "_law_some"] (defScope s__law_pick) := ⟨rfl, rfl, rfl, by decide +kernel, rfl, by decide +kernel, by decide +kernel⟩
def F__law_pick (l_pen_here l_some : D) : Tr D :=
  fin (bd (bd (.ok l_some) fun v1 => (bd (bd (bd (.ok l_pen_here) fun v7 => (bd (bd (bd (bd (.ok l_some) fun v3 => (bd (.ok []) fun r4 => .ok (v3 :: r4))) (ul1 lenD)) fun v5 => (bd (.ok []) fun r6 => .ok (v5 :: r6))) fun r8 => .ok (v7 :: r8))) (ul2 F_draw)) fun v2 => ixD v1 v2)) fun d => .ok (.rt d))
theorem ok__law_pick (F : FnA K d__law_pick fd) (T : Tx K mg) (G__law_draw : PromO P w K mg base CX0 1 (gd "_law_draw" K) [] (spF K Tb (ul2 F_draw))) : FnOk P w K mg base CX0 2 (d__law_pick.adr K) fd ["_law_pen_here", "_law_some"] (spF K Tb (ul2 F__law_pick)) := by
  refine fnO0 F sc__law_pick (fun vs H Q E h => spF_len len2 h) (fun cdv A outer s H vs Q E hr h => ?_)
  refine ⟨_, (pss_cons (ps_ret (pe_ix (ix_seqK (K := K) rfl) (pv 1) (pe_g (PromO.call G__law_draw (hr.mono (by decide)) (passA (E := E))) (by rfl) T.g__law_draw T.k__law_draw (pa_cons (pv 0) (pa_cons (pe_callB (cr_len (K := K) rfl) (by rfl) T.f_len (by decide +kernel) (pa_cons (pv 1) pa_nil)) pa_nil))) (fun _ _ => rfl))) pss_nil), ?_⟩
  exact fn_of2 (F := F__law_pick) (envU := fun _ => List.replicate 2 .no) h (fun l_pen_here l_some => rfl) (fun p c l_pen_here l_some => (ss_ret (se_op sr_ix se_var (se_cl srl_sp0 (sa_cons se_var (sa_cons (se_cb srl_len (sa_cons se_var sa_nil)) sa_nil))))))
abbrev N__law_heard : List Str := ["_law_ask", "_law_told", "error"]
theorem sc__law_heard : FnScope N__law_heard ["_law_ask"] (defScope s__law_heard) := ⟨rfl, rfl, rfl, by decide +kernel, rfl, by decide +kernel, by decide +kernel⟩
def xh__law_heard (cl : Str) : Bool := decide (cl ∈ (["BadLength", "BadPlace", "BadRow"] : List Str))
theorem xhT__law_heard (T : Tx K mg) : ∀ cl, xh__law_heard cl = true → PySem.W.exmOne K (.ref (gd cl K)) (.ref (gd "HuntError" K)) = some true := by
  intro cl h
  unfold xh__law_heard at h
  simp only [decide_eq_true_eq, List.mem_cons, List.mem_nil_iff, or_false] at h
  rcases h with rfl | rfl | rfl
  · exact T.xh_BadLength
  · exact T.xh_BadPlace
  · exact T.xh_BadRow
def ex__law_heard (cl cn : Str) : Option Bool := match ([("BadRow", [("BadLength", false), ("BadPlace", false), ("BadRow", true)]), ("BadLength", [("BadLength", true), ("BadPlace", false), ("BadRow", false)]), ("BadPlace", [("BadLength", false), ("BadPlace", true), ("BadRow", false)])] : List (Str × List (Str × Bool))).lookup cn with
  | some l => l.lookup cl
  | none => none
theorem exT__law_heard (T : Tx K mg) : ∀ cl cn b, ex__law_heard cl cn = some b → ErrT K (gd cl K) ∧ PySem.W.kitOne K (.ref (gd cl K)) (.ref (gd cn K)) = some b := by
  intro cl cn b h
  unfold ex__law_heard at h
  split at h
  · rename_i l h2
    exact (look_cons h2).elim (fun e => by obtain ⟨rfl, rfl⟩ := e; exact (look_cons h).elim (fun e => by obtain ⟨rfl, rfl⟩ := e; exact ⟨T.er_BadLength, T.ki_BadLength_BadRow⟩) (fun h => (look_cons h).elim (fun e => by obtain ⟨rfl, rfl⟩ := e; exact ⟨T.er_BadPlace, T.ki_BadPlace_BadRow⟩) (fun h => (look_cons h).elim (fun e => by obtain ⟨rfl, rfl⟩ := e; exact ⟨T.er_BadRow, T.ki_BadRow_BadRow⟩) (fun h => nomatch h)))) (fun h2 => (look_cons h2).elim (fun e => by obtain ⟨rfl, rfl⟩ := e; exact (look_cons h).elim (fun e => by obtain ⟨rfl, rfl⟩ := e; exact ⟨T.er_BadLength, T.ki_BadLength_BadLength⟩) (fun h => (look_cons h).elim (fun e => by obtain ⟨rfl, rfl⟩ := e; exact ⟨T.er_BadPlace, T.ki_BadPlace_BadLength⟩) (fun h => (look_cons h).elim (fun e => by obtain ⟨rfl, rfl⟩ := e; exact ⟨T.er_BadRow, T.ki_BadRow_BadLength⟩) (fun h => nomatch h)))) (fun h2 => (look_cons h2).elim (fun e => by obtain ⟨rfl, rfl⟩ := e; exact (look_cons h).elim (fun e => by obtain ⟨rfl, rfl⟩ := e; exact ⟨T.er_BadLength, T.ki_BadLength_BadPlace⟩) (fun h => (look_cons h).elim (fun e => by obtain ⟨rfl, rfl⟩ := e; exact ⟨T.er_BadPlace, T.ki_BadPlace_BadPlace⟩) (fun h => (look_cons h).elim (fun e => by obtain ⟨rfl, rfl⟩ := e; exact ⟨T.er_BadRow, T.ki_BadRow_BadPlace⟩) (fun h => nomatch h)))) (fun h2 => nomatch h2)))
  · cases h
def F__law_heard (m : Tr D) : Tr D := tryT m (fun _ => nox (fin (bd (.ok .non) fun d => .ok (.rt d)))) (fun cl fs => bd (pickX xh__law_heard ex__law_heard (.set (.lst [.s "other"])) [((.and (.own "BadRow") (.not (.own2 "BadLength" "BadPlace"))), (.lst [.s "row", .f "BadRow" "at"])), ((.and (.own "BadLength") (.not (.own2 "BadRow" "BadPlace"))), (.lst [.s "length", .f "BadLength" "value"])), ((.and (.own "BadPlace") (.not (.own2 "BadRow" "BadLength"))), (.lst [.s "place", .f "BadPlace" "value"]))] cl fs) fun d => nox (fin (bd (.ok d) fun d => .ok (.rt d))))
theorem ok__law_heard {X : Cx} {Tb : List (Addr × Str)} (T : Tx X.K X.mg) {g : Addr} {cdv : Value} {q : Str} : LamX.GivesTo X N__law_heard "_law_heard" (defScope s__law_heard) g cdv (defBody s__law_heard) "_law_ask" q (THd X.K Tb F__law_heard) := by
  intro f c' s H Q tl act hc h
  obtain ⟨p, c, U, b, m, wd, u, ha, al⟩ := h
  refine ⟨_, pss_cons (ps_set (i := 1) sc__law_heard.nd rfl (.inl rfl) pe_non) (pss_cons (ps_try_mk (X := (cxOf C8.CX0 X.prog X.w X.K X.mg X.base N__law_heard "_law_heard" (defScope s__law_heard) g cdv X.A X.stack s H C8.E0).nox) (Wout := fun _ _ _ _ => False) (tb := fun W => tTry 3 (fun E => (tDrop (tAct f c' q (tl E)))) W) rfl rfl rfl sc__law_heard.nd LamX.takes0 (fun W pn xe tk _ => try_act 3 rfl tk fun E ⟨W', tk', hW⟩ => pss_one (ps_expr (act W' pn xe E _ _ tk' hW))) (HdsK.as (i := 2) rfl rfl ⟨rfl, by decide, .inl T.g_HuntError⟩ (fun a oe cls d pn hz hf => (pss_cons (ps_set (i := 1) sc__law_heard.nd rfl (.inl rfl) (pe_lst (pa_cons pe_str pa_nil))) (pss_cons (ps_if (PW.pt (pw_and (pt_val (pe_callB (call_isiX (X := (cxOf C8.CX0 X.prog X.w X.K X.mg X.base N__law_heard "_law_heard" (defScope s__law_heard) g cdv X.A X.stack s H C8.E0).nox) (K := X.K) (by rfl) hz hf) (by rfl) T.f_isinstance (by decide +kernel) (pa_cons (pv 2) (pa_cons (pe_glob (v := .ref _) (by rfl) T.g_BadRow (by rfl)) pa_nil)))) (pw_and1 (pt_not (pt_val (pe_callB (call_isiX2 (X := (cxOf C8.CX0 X.prog X.w X.K X.mg X.base N__law_heard "_law_heard" (defScope s__law_heard) g cdv X.A X.stack s H C8.E0).nox) (K := X.K) (by rfl) hz hf) (by rfl) T.f_isinstance (by decide +kernel) (pa_cons (pv 2) (pa_cons (pe_tup (pa_cons (pe_glob (v := .ref _) (by rfl) T.g_BadLength (by rfl)) (pa_cons (pe_glob (v := .ref _) (by rfl) T.g_BadPlace (by rfl)) pa_nil))) pa_nil)))))))) (pss_one (ps_set (i := 1) sc__law_heard.nd rfl (.inl rfl) (pe_lst (pa_cons pe_str (pa_cons (pe_xf T.xf_BadRow T.n_BadRow_at hz hf (pv 2)) pa_nil))))) pss_nil) (pss_cons (ps_if (PW.pt (pw_and (pt_val (pe_callB (call_isiX (X := (cxOf C8.CX0 X.prog X.w X.K X.mg X.base N__law_heard "_law_heard" (defScope s__law_heard) g cdv X.A X.stack s H C8.E0).nox) (K := X.K) (by rfl) hz hf) (by rfl) T.f_isinstance (by decide +kernel) (pa_cons (pv 2) (pa_cons (pe_glob (v := .ref _) (by rfl) T.g_BadLength (by rfl)) pa_nil)))) (pw_and1 (pt_not (pt_val (pe_callB (call_isiX2 (X := (cxOf C8.CX0 X.prog X.w X.K X.mg X.base N__law_heard "_law_heard" (defScope s__law_heard) g cdv X.A X.stack s H C8.E0).nox) (K := X.K) (by rfl) hz hf) (by rfl) T.f_isinstance (by decide +kernel) (pa_cons (pv 2) (pa_cons (pe_tup (pa_cons (pe_glob (v := .ref _) (by rfl) T.g_BadRow (by rfl)) (pa_cons (pe_glob (v := .ref _) (by rfl) T.g_BadPlace (by rfl)) pa_nil))) pa_nil)))))))) (pss_one (ps_set (i := 1) sc__law_heard.nd rfl (.inl rfl) (pe_lst (pa_cons pe_str (pa_cons (pe_xf T.xf_BadLength T.n_BadLength_value hz hf (pv 2)) pa_nil))))) pss_nil) (pss_one (ps_if (PW.pt (pw_and (pt_val (pe_callB (call_isiX (X := (cxOf C8.CX0 X.prog X.w X.K X.mg X.base N__law_heard "_law_heard" (defScope s__law_heard) g cdv X.A X.stack s H C8.E0).nox) (K := X.K) (by rfl) hz hf) (by rfl) T.f_isinstance (by decide +kernel) (pa_cons (pv 2) (pa_cons (pe_glob (v := .ref _) (by rfl) T.g_BadPlace (by rfl)) pa_nil)))) (pw_and1 (pt_not (pt_val (pe_callB (call_isiX2 (X := (cxOf C8.CX0 X.prog X.w X.K X.mg X.base N__law_heard "_law_heard" (defScope s__law_heard) g cdv X.A X.stack s H C8.E0).nox) (K := X.K) (by rfl) hz hf) (by rfl) T.f_isinstance (by decide +kernel) (pa_cons (pv 2) (pa_cons (pe_tup (pa_cons (pe_glob (v := .ref _) (by rfl) T.g_BadRow (by rfl)) (pa_cons (pe_glob (v := .ref _) (by rfl) T.g_BadLength (by rfl)) pa_nil))) pa_nil)))))))) (pss_one (ps_set (i := 1) sc__law_heard.nd rfl (.inl rfl) (pe_lst (pa_cons pe_str (pa_cons (pe_xf T.xf_BadPlace T.n_BadPlace_value hz hf (pv 2)) pa_nil))))) pss_nil)))))) .nil))
      (pss_cons (ps_ret (pv 1)) pss_nil)), ?_⟩
  exact heardX (g := ⟨X.K, Tb, p, c⟩) (n := 3) (i := 2) (j := 1) (envU := fun _ => List.replicate 3 .no) (xh := xh__law_heard) (ki := ex__law_heard) (HE := "HuntError") (x0 := (.set (.lst [.s "other"]))) (ss := [((.and (.own "BadRow") (.not (.own2 "BadLength" "BadPlace"))), (.lst [.s "row", .f "BadRow" "at"])), ((.and (.own "BadLength") (.not (.own2 "BadRow" "BadPlace"))), (.lst [.s "length", .f "BadLength" "value"])), ((.and (.own "BadPlace") (.not (.own2 "BadRow" "BadLength"))), (.lst [.s "place", .f "BadPlace" "value"]))]) rfl (by decide) (by decide) (by decide) (by decide) (xhT__law_heard T) (exT__law_heard T) (ss_ret se_var) (fun d => (ss_ret se_var)) hc ha wd u al
abbrev N__law_is : List Str := ["_law_heard_here", "_law_due"]
theorem sc__law_is : FnScope N__law_is ["_law_heard_here", "_law_due"] (defScope s__law_is) := ⟨rfl, rfl, rfl, by decide +kernel, rfl, by decide +kernel, by decide +kernel⟩
def F__law_is (l_heard_here l_due : D) : Tr D :=
  fin (bd (bd (bd (bd (.ok l_heard_here) fun v1 => (bd (.ok []) fun r2 => .ok (v1 :: r2))) (ul1 reprX)) fun v5 => (bd (bd (bd (.ok l_due) fun v3 => (bd (.ok []) fun r4 => .ok (v3 :: r4))) (ul1 reprX)) fun v6 => eqD v5 v6)) fun d => .ok (.rt d))
theorem ok__law_is (F : FnA K d__law_is fd) (T : Tx K mg)  : FnG P w K mg base CX0 1 (d__law_is.adr K) fd ["_law_heard_here", "_law_due"] (spF K Tb (ul2 F__law_is)) := by
  refine fnG0 F sc__law_is (fun vs H Q E h => spF_len len2 h) (fun cdv A outer s H vs Q E hr hg h => ?_)
  have hu100 := Nat.lt_of_le_of_lt (Nat.add_le_add_left (show 102 ≤ 16 * 0 + 200 by decide) _) (show _ + (16 * 0 + 200) < cLine from hr.un)
  refine ⟨_, (pss_cons (ps_ret (pe_cmpR (op_eqA (K := K) rfl hr.units) (pe_callB (call_showX (K := K) rfl T.sysm hu100 hg) (by rfl) T.f_repr (by decide +kernel) (pa_cons (pv 0) pa_nil)) (pe_callB (call_showX (K := K) rfl T.sysm hu100 hg) (by rfl) T.f_repr (by decide +kernel) (pa_cons (pv 1) pa_nil)) (nomark _))) pss_nil), ?_⟩
  exact fn_of2 (F := F__law_is) (envU := fun _ => List.replicate 2 .no) h (fun l_heard_here l_due => rfl) (fun p c l_heard_here l_due => (ss_ret (se_op sr_eq (se_cb srl_reprX (sa_cons se_var sa_nil)) (se_cb srl_reprX (sa_cons se_var sa_nil)))))
abbrev N__law_odd_item : List Str := ["_law_pen_here"]
theorem sc__law_odd_item : FnScope N__law_odd_item ["_law_pen_here"] (defScope s__law_odd_item) := ⟨rfl, rfl, rfl, by decide +kernel, rfl, by decide +kernel, by decide +kernel⟩
def F__law_odd_item (l_pen_here : D) : Tr D :=
  fin (bd (bd (bd (.ok l_pen_here) fun v29 => (bd (bd (bd (bd (.ok .non) fun v25 => (bd (bd (.ok (.bl true)) fun v23 => (bd (bd (.ok (.bl false)) fun v21 => (bd (bd (.ok (.str "1")) fun v19 => (bd (bd (.ok (.str "")) fun v17 => (bd (bd (bd (bd (.ok (.int 1)) fun v1 => (bd (.ok []) fun r2 => .ok (v1 :: r2))) fun ds => if ds.length ≤ sizeLine then .ok (.lst ds) else .bad) fun v15 => (bd (bd (bd (bd (.ok (.int 1)) fun v3 => (bd (.ok []) fun r4 => .ok (v3 :: r4))) fun ds => if ds.length ≤ sizeLine then .ok (.tup ds) else .bad) fun v13 => (bd (bd (.ok .dct) fun v11 => (bd (bd (.ok (.int 1000000000000000000000000000000)) fun v9 => (bd (bd (bd (.ok (.int 1000000000000000000000000000000)) negD) fun v7 => (bd (bd (.ok (.int 100000000000000000000000000000000000000000000000000000000000)) fun v5 => (bd (.ok []) fun r6 => .ok (v5 :: r6))) fun r8 => .ok (v7 :: r8))) fun r10 => .ok (v9 :: r10))) fun r12 => .ok (v11 :: r12))) fun r14 => .ok (v13 :: r14))) fun r16 => .ok (v15 :: r16))) fun r18 => .ok (v17 :: r18))) fun r20 => .ok (v19 :: r20))) fun r22 => .ok (v21 :: r22))) fun r24 => .ok (v23 :: r24))) fun r26 => .ok (v25 :: r26))) fun ds => if ds.length ≤ sizeLine then .ok (.lst ds) else .bad) fun v27 => (bd (.ok []) fun r28 => .ok (v27 :: r28))) fun r30 => .ok (v29 :: r30))) (ul2 F__law_pick)) fun d => .ok (.rt d))
theorem ok__law_odd_item (F : FnA K d__law_odd_item fd) (T : Tx K mg) (G__law_pick : PromO P w K mg base CX0 2 (gd "_law_pick" K) [] (spF K Tb (ul2 F__law_pick))) : FnOk P w K mg base CX0 3 (d__law_odd_item.adr K) fd ["_law_pen_here"] (spF K Tb (ul1 F__law_odd_item)) := by
  refine fnO0 F sc__law_odd_item (fun vs H Q E h => spF_len len1 h) (fun cdv A outer s H vs Q E hr h => ?_)
  refine ⟨_, (pss_cons (ps_ret (pe_g (PromO.call G__law_pick (hr.mono (by decide)) (passA (E := E))) (by rfl) T.g__law_pick T.k__law_pick (pa_cons (pv 0) (pa_cons (pe_lst (pa_cons pe_non (pa_cons pe_bl (pa_cons pe_bl (pa_cons pe_str (pa_cons pe_str (pa_cons (pe_lst (pa_cons pe_int pa_nil)) (pa_cons (pe_tup (pa_cons pe_int pa_nil)) (pa_cons pe_dnewK (pa_cons (pe_op (op_powK 1000000000000000000000000000000) pe_int pe_int) (pa_cons (pe_un un_neg (pe_op (op_powK 1000000000000000000000000000000) pe_int pe_int)) (pa_cons (pe_op (op_powK 100000000000000000000000000000000000000000000000000000000000) pe_int pe_int) pa_nil)))))))))))) pa_nil)))) pss_nil), ?_⟩
  exact fn_of1 (F := F__law_odd_item) (envU := fun _ => List.replicate 1 .no) h (fun l_pen_here => rfl) (fun p c l_pen_here => (ss_ret (se_cl srl_sp0 (sa_cons se_var (sa_cons (se_lst (sa_cons se_non (sa_cons se_bl (sa_cons se_bl (sa_cons (se_str (by decide)) (sa_cons (se_str (by decide)) (sa_cons (se_lst (sa_cons se_int sa_nil)) (sa_cons (se_tup (sa_cons se_int sa_nil)) (sa_cons se_dct (sa_cons (se_powK (by decide) (by decide) (by decide)) (sa_cons (se_un sr_neg (se_powK (by decide) (by decide) (by decide))) (sa_cons (se_powK (by decide) (by decide) (by decide)) sa_nil)))))))))))) sa_nil)))))
abbrev N__law_bent : List Str := ["_law_pen_here", "_law_lot", "_law_again", "_law_found", "_law_spots", "_law_at"]
theorem sc__law_bent : FnScope N__law_bent ["_law_pen_here", "_law_lot"] (defScope s__law_bent) := ⟨rfl, rfl, rfl, by decide +kernel, rfl, by decide +kernel, by decide +kernel⟩
def F__law_bent (l_pen_here l_lot : D) : Tr D :=
  fin (bd (bd (.ok l_lot) listL) fun (l_found0 : List D) => bd (bd (.ok []) fun ds => if ds.length ≤ sizeLine then .ok ds else .bad) fun (l_spots0 : List D) => (bdF (bd (bd (bd (bd (.ok (.int 1)) fun v6 => (bd (bd (bd (.ok l_pen_here) fun v4 => (bd (bd (.ok (.int 2)) fun v2 => (bd (.ok []) fun r3 => .ok (v2 :: r3))) fun r5 => .ok (v4 :: r5))) (ul2 F_draw)) fun v7 => addD v6 v7)) fun v8 => (bd (.ok []) fun r9 => .ok (v8 :: r9))) (ul1 rg1)) fun ds => forF (fun (d11 : D) (w10 : List D × List D) => (bd (bd (bd (.ok l_pen_here) fun v18 => (bd (bd (bd (bd (.ok l_lot) fun v14 => (bd (.ok []) fun r15 => .ok (v14 :: r15))) (ul1 lenD)) fun v16 => (bd (.ok []) fun r17 => .ok (v16 :: r17))) fun r19 => .ok (v18 :: r19))) (ul2 F_draw)) fun l_at12 => (bd (bd (bd (.ok l_pen_here) fun v20 => (bd (.ok []) fun r21 => .ok (v20 :: r21))) (ul1 F__law_odd_item)) fun v22 => bd (.ok l_at12) fun v23 => bd (setD w10.1 v23 v22) fun l_found23 => (bd (.ok l_at12) fun (v25 : D) => if w10.2.length < sizeLine then (.ok (.nx (l_found23, (w10.2 ++ [v25])))) else .bad)))) ds (l_found0, l_spots0)) fun (w10 : List D × List D) => (bd (bd (bd (.ok (.lst w10.1)) fun v33 => (bd (bd (bd (bd (bd (bd (.ok (.lst w10.2)) itD) fun ds => bd (lcF (fun l_at25 => nox (bd (bd (bd (.ok l_at25) fun v27 => (bd (.ok []) fun r28 => .ok (v27 :: r28))) (ul1 intD)) fun y => .ok (some y))) ds) fun r => .ok (.lst r)) fun v29 => (bd (.ok []) fun r30 => .ok (v29 :: r30))) (ul1 minD)) fun v31 => (bd (.ok []) fun r32 => .ok (v31 :: r32))) fun r34 => .ok (v33 :: r34))) fun ds => if ds.length ≤ sizeLine then .ok (.tup ds) else .bad) fun d => .ok (.rt d))))
theorem ok__law_bent (F : FnA K d__law_bent fd) (T : Tx K mg) (G__law_draw : PromO P w K mg base CX0 1 (gd "_law_draw" K) [] (spF K Tb (ul2 F_draw))) (G__law_odd_item : PromO P w K mg base CX0 3 (gd "_law_odd_item" K) [] (spF K Tb (ul1 F__law_odd_item))) : FnOk P w K mg base CX0 4 (d__law_bent.adr K) fd ["_law_pen_here", "_law_lot"] (spF K Tb (ul2 F__law_bent)) := by
  refine fnO0 F sc__law_bent (fun vs H Q E h => spF_len len2 h) (fun cdv A outer s H vs Q E hr h => ?_)
  refine ⟨_, (pss_cons (ps_par (i := 3) (j := 4) (by rfl) sc__law_bent.nd rfl rfl (by decide) rfl rfl (pa_cons (pe_callTy (cr_listOf (K := K) rfl) (by rfl) T.f_list (by decide +kernel) (pa_cons (pv 1) pa_nil)) (pa_cons (pe_lst pa_nil) pa_nil)) (by rfl))
      (pss_cons (ps_for PassesOwn.never rfl (pi_range1 (by rfl) T.f_range (pa_cons (pe_op (op_addA (K := K) rfl) pe_int (pe_g (PromO.call G__law_draw (hr.mono (by decide)) (passA (E := E))) (by rfl) T.g__law_draw T.k__law_draw (pa_cons (pv 0) (pa_cons pe_int pa_nil)))) pa_nil)) (pg_name (i := 2) sc__law_bent.nd rfl (.inl rfl))
      (pss_cons (ps_set (i := 5) sc__law_bent.nd rfl (.inl rfl) (pe_g (PromO.call G__law_draw (hr.mono (by decide)) (passA (E := E))) (by rfl) T.g__law_draw T.k__law_draw (pa_cons (pv 0) (pa_cons (pe_callB (cr_len (K := K) rfl) (by rfl) T.f_len (by decide +kernel) (pa_cons (pv 1) pa_nil)) pa_nil))))
      (pss_cons (ps_asg (pe_g (PromO.call G__law_odd_item (hr.mono (by decide)) (passA (E := E))) (by rfl) T.g__law_odd_item T.k__law_odd_item (pa_cons (pv 0) pa_nil)) (pg_sub (pv 3) (pv 5) set_list))
      (pss_cons (ps_expr (pe_bm PySem.F.plainAttrs_list PySem.F.slot_list_append PySem.F.type_list_append mt_append (pv 4) (pa_cons (pv 5) pa_nil)))
      pss_nil))))
      (pss_cons (ps_ret (pe_tup (pa_cons (pv 3) (pa_cons (pe_callB (cr_minK0 (K := K) rfl rfl) (by rfl) T.f_min (by decide +kernel) (pa_cons (pe_lc (own := [("_law_at", 5)]) (g := gName 5) (by rfl) sc__law_bent.nd (pi_seq (K := K) rfl (pv 4)) (blkOk_by (own := [("_law_at", 5)]) (N := N__law_bent) (sc := defScope s__law_bent) (by decide +kernel)) (fun _ _ _ _ _ => pg_name (i := 5) sc__law_bent.nd rfl (Or.inl rfl)) (fun _ _ _ _ _ => pts_nil) (fun _ _ _ _ _ => (pe_callTy cr_int (by rfl) T.f_int (by decide +kernel) (pa_cons (pv 5) pa_nil)))) pa_nil)) pa_nil)))) pss_nil))), ?_⟩
  exact fn_of2 (F := F__law_bent) (envU := fun _ => List.replicate 6 .no) h (fun l_pen_here l_lot => rfl) (fun p c l_pen_here l_lot => (ss_par2qq (sn_list se_var) (sn_lst sa_nil) (fun l_found0 l_spots0 => (ss_for (fun (w10 : List D × List D) => [.fz l_pen_here, .fz l_lot, .no, .ow w10.1, .ow w10.2, .no]) (si_rg1 (sa_cons (se_op sr_add se_int (se_cl srl_sp0 (sa_cons se_var (sa_cons se_int sa_nil)))) sa_nil)) (.s (.s (.s (.s (.s (.s .nil)))))) (fun (d11 : D) (w10 : List D × List D) => (sx_name (ss_asg (se_cl srl_sp0 (sa_cons se_var (sa_cons (se_cb srl_len (sa_cons se_var sa_nil)) sa_nil))) (fun l_at12 => (ss_setix (se_cl srl_sp0 (sa_cons se_var sa_nil)) se_var (fun l_found23 => (ss_app se_var (fun v25 => (ss_nx (.s (.s (.n (.s (.s (.n .nil))))))))))))))) (fun (w10 : List D × List D) => (ss_fz (i := 4) rfl (ss_fz (i := 3) rfl (ss_ret (se_tup (sa_cons se_var (sa_cons (se_cb srl_min (sa_cons (se_lc (si_seq se_var) (fun l_at25 => (sc_map (se_cb srl_int (sa_cons se_var sa_nil))))) sa_nil)) sa_nil)))))))))))
abbrev N__law_made_right : List Str := ["_law_pen_here", "_law_lot", "_law_some", "_law_odd", "_law_size", "_law_bent_here", "_law_first"]
theorem sc__law_made_right : FnScope N__law_made_right ["_law_pen_here", "_law_lot"] (defScope s__law_made_right) := ⟨rfl, rfl, rfl, by decide +kernel, rfl, by decide +kernel, by decide +kernel⟩
def F__law_made_right (l_pen_here l_lot : D) : Tr D :=
  fin (bd (bd (bd (.ok .non) fun v34 => (bd (bd (.ok (.int 0)) fun v32 => (bd (bd (.ok (.bl true)) fun v30 => (bd (bd (.ok (.str "12")) fun v28 => (bd (bd (.ok (.str "")) fun v26 => (bd (bd (.ok .dct) fun v24 => (bd (bd (bd (.ok []) fun ds => if ds.length ≤ sizeLine then .ok (.tup ds) else .bad) fun v22 => (bd (bd (bd (.ok []) fun ds => if ds.length ≤ sizeLine then .ok (.lst ds) else .bad) fun v20 => (bd (bd (.ok (.dic [(.inr "a", .int 1)])) fun v18 => (bd (bd (.ok (.dic [(.inl 1, .int 2)])) fun v16 => (bd (bd (bd (bd (.ok (.int 2001)) rgA1) fun r => if rgOk r.1 r.2 then .ok (.lst (rgD r.1 (r.2 - r.1).toNat)) else .bad) fun v14 => (bd (bd (bd (bd (bd (.ok (.int 7)) fun v2 => (bd (.ok []) fun r3 => .ok (v2 :: r3))) fun ds => if ds.length ≤ sizeLine then .ok (.tup ds) else .bad) fun v4 => (bd (.ok (.int 2001)) fun v5 => mulU v4 v5)) fun v12 => (bd (bd (bd (bd (bd (.ok .non) fun v6 => (bd (.ok []) fun r7 => .ok (v6 :: r7))) fun ds => if ds.length ≤ sizeLine then .ok (.lst ds) else .bad) fun v8 => (bd (.ok (.int 2001)) fun v9 => mulD v8 v9)) fun v10 => (bd (.ok []) fun r11 => .ok (v10 :: r11))) fun r13 => .ok (v12 :: r13))) fun r15 => .ok (v14 :: r15))) fun r17 => .ok (v16 :: r17))) fun r19 => .ok (v18 :: r19))) fun r21 => .ok (v20 :: r21))) fun r23 => .ok (v22 :: r23))) fun r25 => .ok (v24 :: r25))) fun r27 => .ok (v26 :: r27))) fun r29 => .ok (v28 :: r29))) fun r31 => .ok (v30 :: r31))) fun r33 => .ok (v32 :: r33))) fun r35 => .ok (v34 :: r35))) fun ds => if ds.length ≤ sizeLine then .ok (.lst ds) else .bad) fun l_some0 => (bd (bd (bd (.ok l_pen_here) fun v53 => (bd (bd (bd (.ok l_some0) fun v49 => (bd (bd (bd (nox (bd (bd (bd (bd (.ok (.int 1)) fun v39 => (bd (bd (.ok (.int 2)) fun v37 => (bd (.ok []) fun r38 => .ok (v37 :: r38))) fun r40 => .ok (v39 :: r40))) fun ds => if ds.length ≤ sizeLine then .ok (.lst ds) else .bad) fun v41 => (bd (.ok []) fun r42 => .ok (v41 :: r42))) (fun ds => bd ((fun fs => ul1 (F_Row___init__ fs)) [] ds) fun fs => .ok (.obj "Row" fs)))) fun v47 => (bd (bd (nox (bd (bd (.ok (.int 3)) fun v43 => (bd (.ok []) fun r44 => .ok (v43 :: r44))) (ul1 F_Row_home))) fun v45 => (bd (.ok []) fun r46 => .ok (v45 :: r46))) fun r48 => .ok (v47 :: r48))) fun ds => if ds.length ≤ sizeLine then .ok (.lst ds) else .bad) fun v50 => addD v49 v50)) fun v51 => (bd (.ok []) fun r52 => .ok (v51 :: r52))) fun r54 => .ok (v53 :: r54))) (ul2 F__law_pick)) fun l_odd35 => (bdF (W' := Unit) (bd (bd (bd (bd (bd (nox (F__law_heard (bd (bd (.ok l_odd35) fun v55 => (bd (.ok []) fun r56 => .ok (v55 :: r56))) (fun ds => bd ((fun fs => ul1 (F_Row___init__ fs)) [] ds) fun fs => .ok (.obj "Row" fs))))) fun v63 => (bd (bd (bd (bd (.ok (.str "row")) fun v59 => (bd (bd (.ok .non) fun v57 => (bd (.ok []) fun r58 => .ok (v57 :: r58))) fun r60 => .ok (v59 :: r60))) fun ds => if ds.length ≤ sizeLine then .ok (.lst ds) else .bad) fun v61 => (bd (.ok []) fun r62 => .ok (v61 :: r62))) fun r64 => .ok (v63 :: r64))) (ul2 F__law_is)) asB) fun k => .ok (!k)) fun k => if k = true then (bd (.ok (.bl false)) fun d => .ok (.rt d)) else (.ok (.nx ()))) fun (w65 : Unit) => (bd (bd (bd (.ok l_pen_here) fun v68 => (bd (bd (.ok l_lot) fun v66 => (bd (.ok []) fun r67 => .ok (v66 :: r67))) fun r69 => .ok (v68 :: r69))) (ul2 F__law_bent)) fun d71 => un2 d71 fun l_bent_here69 l_first69 => (bdF (W' := Unit) (bd (bd (bd (bd (bd (nox (F__law_heard (bd (bd (.ok l_bent_here69) fun v72 => (bd (.ok []) fun r73 => .ok (v72 :: r73))) (fun ds => bd ((fun fs => ul1 (F_Row___init__ fs)) [] ds) fun fs => .ok (.obj "Row" fs))))) fun v80 => (bd (bd (bd (bd (.ok (.str "row")) fun v76 => (bd (bd (.ok l_first69) fun v74 => (bd (.ok []) fun r75 => .ok (v74 :: r75))) fun r77 => .ok (v76 :: r77))) fun ds => if ds.length ≤ sizeLine then .ok (.lst ds) else .bad) fun v78 => (bd (.ok []) fun r79 => .ok (v78 :: r79))) fun r81 => .ok (v80 :: r81))) (ul2 F__law_is)) asB) fun k => .ok (!k)) fun k => if k = true then (bd (.ok (.bl false)) fun d => .ok (.rt d)) else (.ok (.nx ()))) fun (w82 : Unit) => (bdF (W' := Unit) (bd (bd (bd (bd (bd (nox (F__law_heard (bd (bd (bd (bd (.ok l_bent_here69) fun v83 => (bd (.ok []) fun r84 => .ok (v83 :: r84))) (ul1 tupD)) fun v85 => (bd (.ok []) fun r86 => .ok (v85 :: r86))) ((kwM "Row" 0 1 [.inl 0] [] (fun fs => ul1 (F_Row___init__ fs))) [])))) fun v93 => (bd (bd (bd (bd (.ok (.str "row")) fun v89 => (bd (bd (.ok l_first69) fun v87 => (bd (.ok []) fun r88 => .ok (v87 :: r88))) fun r90 => .ok (v89 :: r90))) fun ds => if ds.length ≤ sizeLine then .ok (.lst ds) else .bad) fun v91 => (bd (.ok []) fun r92 => .ok (v91 :: r92))) fun r94 => .ok (v93 :: r94))) (ul2 F__law_is)) asB) fun k => .ok (!k)) fun k => if k = true then (bd (.ok (.bl false)) fun d => .ok (.rt d)) else (.ok (.nx ()))) fun (w95 : Unit) => (bd (bd (bd (.ok l_pen_here) fun v123 => (bd (bd (bd (bd (.ok (.int 0)) fun v119 => (bd (bd (bd (.ok (.int 1)) negD) fun v117 => (bd (bd (.ok (.int 2001)) fun v115 => (bd (bd (.ok .non) fun v113 => (bd (bd (.ok (.bl true)) fun v111 => (bd (bd (.ok (.str "5")) fun v109 => (bd (bd (bd (bd (.ok (.int 5)) fun v97 => (bd (.ok []) fun r98 => .ok (v97 :: r98))) fun ds => if ds.length ≤ sizeLine then .ok (.lst ds) else .bad) fun v107 => (bd (bd (bd (bd (.ok (.int 1)) fun v99 => (bd (.ok []) fun r100 => .ok (v99 :: r100))) fun ds => if ds.length ≤ sizeLine then .ok (.tup ds) else .bad) fun v105 => (bd (bd (.ok .dct) fun v103 => (bd (bd (.ok (.int 10000000000000000000000000000000000000000)) fun v101 => (bd (.ok []) fun r102 => .ok (v101 :: r102))) fun r104 => .ok (v103 :: r104))) fun r106 => .ok (v105 :: r106))) fun r108 => .ok (v107 :: r108))) fun r110 => .ok (v109 :: r110))) fun r112 => .ok (v111 :: r112))) fun r114 => .ok (v113 :: r114))) fun r116 => .ok (v115 :: r116))) fun r118 => .ok (v117 :: r118))) fun r120 => .ok (v119 :: r120))) fun ds => if ds.length ≤ sizeLine then .ok (.lst ds) else .bad) fun v121 => (bd (.ok []) fun r122 => .ok (v121 :: r122))) fun r124 => .ok (v123 :: r124))) (ul2 F__law_pick)) fun l_size95 => (bd (bd (bd (nox (F__law_heard (bd (bd (.ok l_size95) fun v125 => (bd (.ok []) fun r126 => .ok (v125 :: r126))) (ul1 F_Row_home)))) fun v133 => (bd (bd (bd (bd (.ok (.str "length")) fun v129 => (bd (bd (.ok l_size95) fun v127 => (bd (.ok []) fun r128 => .ok (v127 :: r128))) fun r130 => .ok (v129 :: r130))) fun ds => if ds.length ≤ sizeLine then .ok (.lst ds) else .bad) fun v131 => (bd (.ok []) fun r132 => .ok (v131 :: r132))) fun r134 => .ok (v133 :: r134))) (ul2 F__law_is)) fun d => .ok (.rt d)))))))))
theorem ok__law_made_right (F : FnA K d__law_made_right fd) (T : Tx K mg) (G__law_pick : PromO P w K mg base CX0 2 (gd "_law_pick" K) [] (spF K Tb (ul2 F__law_pick))) (G_Row___init__ : PromO P w K mg base (L2.CX P w) 4 (md "Row" "__init__" K) [] (spI K Tb "Row" (fun fs => ul1 (F_Row___init__ fs)))) (G_Row_home : PromO P w K mg base (L2.CX P w) 6 (clsG "Row" "home" K) [] (spK K Tb "Row" (ul1 F_Row_home))) (G__law_is : Prom P w K mg base CX0 1 (gd "_law_is" K) [] (spF K Tb (ul2 F__law_is))) (GH__law_heard : HrdP K d__law_heard ["_law_ask"]) (LD__law_made_right : LamD base mg K Tb d__law_made_right ("_law_made_right", none)) (G__law_bent : PromO P w K mg base CX0 4 (gd "_law_bent" K) [] (spF K Tb (ul2 F__law_bent))) (GK_Row___init___1_items : PromK P w K mg base (L2.CX P w) 4 (md "Row" "__init__" K) 1 ["items"] (fun vs zs => vs ++ picks [.inl 0] [] zs) (spI K Tb "Row" (fun fs => ul1 (F_Row___init__ fs)))) : FnG P w K mg base CX0 9 (d__law_made_right.adr K) fd ["_law_pen_here", "_law_lot"] (spF K Tb (ul2 F__law_made_right)) := by
  obtain ⟨fdH, FH, hbH⟩ := GH__law_heard
  obtain ⟨ocH, odH, dVH, kVH, docH, pmH, anH, cdvH, ctH, oslH, rfl, lkH, hcH, _, _⟩ := FH.ex
  have ecode : fd.code = .ref (He.cT K ("_law_made_right", none)).1 := codeOf_fn (p := ("_law_made_right", none)) F
  refine fnG1 F sc__law_made_right (fun vs H Q E h => spF_len len2 h) (fun cdv A outer s H vs Q E hcdv hr hg h => ?_)
  have hcode : cdv = .ref (He.cT K ("_law_made_right", none)).1 := hcdv.trans ecode
  have hu100 := Nat.lt_of_le_of_lt (Nat.add_le_add_left (show 102 ≤ 16 * 8 + 200 by decide) _) (show _ + (16 * 8 + 200) < cLine from hr.un)
  refine ⟨_, (pss_cons (ps_set (i := 2) sc__law_made_right.nd rfl (.inl rfl) (pe_lst (pa_cons pe_non (pa_cons pe_int (pa_cons pe_bl (pa_cons pe_str (pa_cons pe_str (pa_cons pe_dnewK (pa_cons (pe_tup pa_nil) (pa_cons (pe_lst pa_nil) (pa_cons (pe_disp (pps_cons pe_str pe_int pps_nil) (by rfl) (by rfl) (by intro z; cases z) (by decide)) (pa_cons (pe_disp (pps_cons pe_int pe_int pps_nil) (by rfl) (by rfl) (by intro z; cases z) (by decide)) (pa_cons (pe_listRg rfl (by rfl) T.f_list (prg_1 (by rfl) T.f_range pe_int)) (pa_cons (pe_op (op_repU (K := K) rfl) (pe_tup (pa_cons pe_int pa_nil)) pe_int) (pa_cons (pe_op op_mulA (pe_lst (pa_cons pe_non pa_nil)) pe_int) pa_nil)))))))))))))))
      (pss_cons (ps_set (i := 3) sc__law_made_right.nd rfl (.inr rfl) (pe_g (PromO.call G__law_pick (hr.mono (by decide)) (passA (E := E))) (by rfl) T.g__law_pick T.k__law_pick (pa_cons (pv 0) (pa_cons (pe_op (op_addA (K := K) rfl) (pv 2) (pe_lst (pa_cons (pe_g (PromO.make T.mk_Row G_Row___init__ (hr.mono (by decide)) passF) (by rfl) T.g_Row T.k_Row (pa_cons (pe_lst (pa_cons pe_int (pa_cons pe_int pa_nil))) pa_nil)) (pa_cons (pe_cm (pe_glob (v := .ref _) rfl T.g_Row rfl) T.cm_Row_home G_Row_home (hr.mono (by decide)) passF (pa_cons pe_int pa_nil)) pa_nil)))) pa_nil))))
      (pss_cons (ps_if (pt_not (pt_val (pe_g (Prom.call G__law_is (hr.mono (by decide)) hg (passA (E := E))) (by rfl) T.g__law_is T.k__law_is (pa_cons (LamX.pe_lamcall (T := Tb) (k := 6) (by rfl) T.g__law_heard T.k__law_heard lkH hcH hbH sc__law_heard rfl (.inl rfl) (ok__law_heard (Tb := Tb) T) LD__law_made_right.tb hcode LD__law_made_right.mem LD__law_made_right.hu (hr.mono (by decide)) (LamX.lamS_by (by show LamX.lamSB (defScope s__law_made_right) _ = true; decide +kernel)) rfl (fun _ _ _ _ _ => rfl) (fun A outer s H E f c' hr => (pe_g (PromO.make T.mk_Row G_Row___init__ (hr.mono (by decide)) (pass_on rfl rfl rfl rfl)) (by rfl) T.g_Row T.k_Row (pa_cons (pv 3) pa_nil)))) (pa_cons (pe_lst (pa_cons pe_str (pa_cons pe_non pa_nil))) pa_nil)))))
      (pss_cons (ps_ret pe_bl) pss_nil) pss_nil)
      (pss_cons (ps_asg (pe_g (PromO.call G__law_bent (hr.mono (by decide)) (passA (E := E))) (by rfl) T.g__law_bent T.k__law_bent (pa_cons (pv 0) (pa_cons (pv 1) pa_nil))) (pg_tup rfl (pgs_cons (pg_name (i := 5) sc__law_made_right.nd rfl (.inr rfl)) (pgs_cons (pg_name (i := 6) sc__law_made_right.nd rfl (.inl rfl)) pgs_nil))))
      (pss_cons (ps_if (pt_not (pt_val (pe_g (Prom.call G__law_is (hr.mono (by decide)) hg (passA (E := E))) (by rfl) T.g__law_is T.k__law_is (pa_cons (LamX.pe_lamcall (T := Tb) (k := 6) (by rfl) T.g__law_heard T.k__law_heard lkH hcH hbH sc__law_heard rfl (.inl rfl) (ok__law_heard (Tb := Tb) T) LD__law_made_right.tb hcode LD__law_made_right.mem LD__law_made_right.hu (hr.mono (by decide)) (LamX.lamS_by (by show LamX.lamSB (defScope s__law_made_right) _ = true; decide +kernel)) rfl (fun _ _ _ _ _ => rfl) (fun A outer s H E f c' hr => (pe_g (PromO.make T.mk_Row G_Row___init__ (hr.mono (by decide)) (pass_on rfl rfl rfl rfl)) (by rfl) T.g_Row T.k_Row (pa_cons (pv 5) pa_nil)))) (pa_cons (pe_lst (pa_cons pe_str (pa_cons (pv 6) pa_nil))) pa_nil)))))
      (pss_cons (ps_ret pe_bl) pss_nil) pss_nil)
      (pss_cons (ps_if (pt_not (pt_val (pe_g (Prom.call G__law_is (hr.mono (by decide)) hg (passA (E := E))) (by rfl) T.g__law_is T.k__law_is (pa_cons (LamX.pe_lamcall (T := Tb) (k := 6) (by rfl) T.g__law_heard T.k__law_heard lkH hcH hbH sc__law_heard rfl (.inl rfl) (ok__law_heard (Tb := Tb) T) LD__law_made_right.tb hcode LD__law_made_right.mem LD__law_made_right.hu (hr.mono (by decide)) (LamX.lamS_by (by show LamX.lamSB (defScope s__law_made_right) _ = true; decide +kernel)) rfl (fun _ _ _ _ _ => rfl) (fun A outer s H E f c' hr => (pe_gk0 (makeP T.mk_Row GK_Row___init___1_items (hr.mono (by decide)) (pass_on rfl rfl rfl rfl)) (by rfl) T.g_Row T.k_Row (pk_cons (pe_callTy (cr_tupOf (K := K) rfl) (by rfl) T.f_tuple (by decide +kernel) (pa_cons (pv 5) pa_nil)) pk_nil)))) (pa_cons (pe_lst (pa_cons pe_str (pa_cons (pv 6) pa_nil))) pa_nil)))))
      (pss_cons (ps_ret pe_bl) pss_nil) pss_nil)
      (pss_cons (ps_set (i := 4) sc__law_made_right.nd rfl (.inr rfl) (pe_g (PromO.call G__law_pick (hr.mono (by decide)) (passA (E := E))) (by rfl) T.g__law_pick T.k__law_pick (pa_cons (pv 0) (pa_cons (pe_lst (pa_cons pe_int (pa_cons (pe_un un_neg pe_int) (pa_cons pe_int (pa_cons pe_non (pa_cons pe_bl (pa_cons pe_str (pa_cons (pe_lst (pa_cons pe_int pa_nil)) (pa_cons (pe_tup (pa_cons pe_int pa_nil)) (pa_cons pe_dnewK (pa_cons (pe_op (op_powK 10000000000000000000000000000000000000000) pe_int pe_int) pa_nil))))))))))) pa_nil))))
      (pss_cons (ps_ret (pe_g (Prom.call G__law_is (hr.mono (by decide)) hg (passA (E := E))) (by rfl) T.g__law_is T.k__law_is (pa_cons (LamX.pe_lamcall (T := Tb) (k := 6) (by rfl) T.g__law_heard T.k__law_heard lkH hcH hbH sc__law_heard rfl (.inl rfl) (ok__law_heard (Tb := Tb) T) LD__law_made_right.tb hcode LD__law_made_right.mem LD__law_made_right.hu (hr.mono (by decide)) (LamX.lamS_by (by show LamX.lamSB (defScope s__law_made_right) _ = true; decide +kernel)) rfl (fun _ _ _ _ _ => rfl) (fun A outer s H E f c' hr => (pe_cm (pe_glob (v := .ref _) rfl T.g_Row rfl) T.cm_Row_home G_Row_home (hr.mono (by decide)) (pass_on rfl rfl rfl rfl) (pa_cons (pv 4) pa_nil)))) (pa_cons (pe_lst (pa_cons pe_str (pa_cons (pv 4) pa_nil))) pa_nil)))) pss_nil)))))))), ?_⟩
  exact fn_of2 (F := F__law_made_right) (envU := fun _ => List.replicate 7 .no) h (fun l_pen_here l_lot => rfl) (fun p c l_pen_here l_lot => (ss_asg (se_lst (sa_cons se_non (sa_cons se_int (sa_cons se_bl (sa_cons (se_str (by decide)) (sa_cons (se_str (by decide)) (sa_cons se_dct (sa_cons (se_tup sa_nil) (sa_cons (se_lst sa_nil) (sa_cons (se_dispC (trs := _) [(.inr "a", .int 1)] [(.inr "a", .int 1)] rfl rfl (fun _ _ => (.cons (.int _) .nil)) (by rfl) (by decide)) (sa_cons (se_dispC (trs := _) [(.inl 1, .int 2)] [(.inl 1, .int 2)] rfl rfl (fun _ _ => (.cons (.int _) .nil)) (by rfl) (by decide)) (sa_cons (se_lstRg (srg_1 se_int)) (sa_cons (se_op sr_mulU (se_tup (sa_cons se_int sa_nil)) se_int) (sa_cons (se_op sr_mul (se_lst (sa_cons se_non sa_nil)) se_int) sa_nil)))))))))))))) (fun l_some0 => (ss_asg (se_cl srl_sp0 (sa_cons se_var (sa_cons (se_op sr_add se_var (se_lst (sa_cons (se_nox (se_cl srl_mk0 (sa_cons (se_lst (sa_cons se_int (sa_cons se_int sa_nil))) sa_nil))) (sa_cons (se_nox (se_cm (sa_cons se_int sa_nil))) sa_nil)))) sa_nil))) (fun l_odd35 => (ss_if (fun (w65 : Unit) => [.fz l_pen_here, .fz l_lot, .fz l_some0, .fz l_odd35, .no, .no, .no]) (sb_not (sb_tb (se_cl srl_sp0 (sa_cons (se_lam fun E => (se_cl srl_mk0 (sa_cons se_var sa_nil))) (sa_cons (se_lst (sa_cons (se_str (by decide)) (sa_cons se_non sa_nil))) sa_nil))))) (ss_ret se_bl) (ss_nx (.s (.s (.s (.s (.s (.s (.s .nil)))))))) (fun (w65 : Unit) => (ss_unp (se_cl srl_sp0 (sa_cons se_var (sa_cons se_var sa_nil))) (fun d71 => sx_tup2 (fun l_bent_here69 l_first69 => (ss_if (fun (w82 : Unit) => [.fz l_pen_here, .fz l_lot, .fz l_some0, .fz l_odd35, .no, .fz l_bent_here69, .fz l_first69]) (sb_not (sb_tb (se_cl srl_sp0 (sa_cons (se_lam fun E => (se_cl srl_mk0 (sa_cons se_var sa_nil))) (sa_cons (se_lst (sa_cons (se_str (by decide)) (sa_cons se_var sa_nil))) sa_nil))))) (ss_ret se_bl) (ss_nx (.s (.s (.s (.s (.s (.s (.s .nil)))))))) (fun (w82 : Unit) => (ss_if (fun (w95 : Unit) => [.fz l_pen_here, .fz l_lot, .fz l_some0, .fz l_odd35, .no, .fz l_bent_here69, .fz l_first69]) (sb_not (sb_tb (se_cl srl_sp0 (sa_cons (se_lam fun E => (se_clK0 (srk_mk (dvs := []) (dds := []) fun _ _ => .nil) (sa_cons (se_cb srl_tup (sa_cons se_var sa_nil)) sa_nil))) (sa_cons (se_lst (sa_cons (se_str (by decide)) (sa_cons se_var sa_nil))) sa_nil))))) (ss_ret se_bl) (ss_nx (.s (.s (.s (.s (.s (.s (.s .nil)))))))) (fun (w95 : Unit) => (ss_asg (se_cl srl_sp0 (sa_cons se_var (sa_cons (se_lst (sa_cons se_int (sa_cons (se_un sr_neg se_int) (sa_cons se_int (sa_cons se_non (sa_cons se_bl (sa_cons (se_str (by decide)) (sa_cons (se_lst (sa_cons se_int sa_nil)) (sa_cons (se_tup (sa_cons se_int sa_nil)) (sa_cons se_dct (sa_cons (se_powK (by decide) (by decide) (by decide)) sa_nil))))))))))) sa_nil))) (fun l_size95 => (ss_ret (se_cl srl_sp0 (sa_cons (se_lam fun E => (se_cm (sa_cons se_var sa_nil))) (sa_cons (se_lst (sa_cons (se_str (by decide)) (sa_cons se_var sa_nil))) sa_nil))))))))))))))))))))
abbrev N__law_store : List Str := ["_law_row", "_law_index", "_law_value"]
theorem sc__law_store : FnScope N__law_store ["_law_row", "_law_index", "_law_value"] (defScope s__law_store) := ⟨rfl, rfl, rfl, by decide +kernel, rfl, by decide +kernel, by decide +kernel⟩
def F__law_store (l_row l_index l_value : D) : Tr D :=
  fin (bd (bd (bd (.ok l_value) fun v5 => (bd (bd (.ok l_row) fun v3 => (bd (bd (.ok l_index) fun v1 => (bd (.ok []) fun r2 => .ok (v1 :: r2))) fun r4 => .ok (v3 :: r4))) fun r6 => .ok (v5 :: r6))) (setOD "Row" (ul3 F_Row___setitem__))) fun _ => (.ok (.nx ())))
theorem ok__law_store (F : FnA K d__law_store fd) (T : Tx K mg) (G_Row___setitem__ : PromO P w K mg base (L2.CX P w) 4 (md "Row" "__setitem__" K) [] (spF K Tb (ul3 F_Row___setitem__))) : FnOk P w K mg base (L2.CX P w) 5 (d__law_store.adr K) fd ["_law_row", "_law_index", "_law_value"] (spF K Tb (ul3 F__law_store)) := by
  refine F.ok sc__law_store (fun vs H Q E h => spF_len len3 h) (fun cdv A outer s H vs Q E hr h => ?_)
  refine ⟨_, (pss_cons (ps_asg (pv 2) (pg_sub (pv 0) (pv 1) (set_ownT T.sti_Row (PromO.call G_Row___setitem__ (hr.mono (by decide)) (pass_on rfl rfl rfl rfl)))))
      pss_nil), ?_⟩
  exact fn_of3 (F := F__law_store) (envU := fun _ => List.replicate 3 .no) h (fun l_row l_index l_value => rfl) (fun p c l_row l_index l_value => (ss_setO srl_sp0 (sa_cons se_var (sa_cons se_var (sa_cons se_var sa_nil))) (ss_nx (le_no _ rfl))))
abbrev N__law_odd_index : List Str := ["_law_pen_here", "_law_size", "_law_odd"]
theorem sc__law_odd_index : FnScope N__law_odd_index ["_law_pen_here", "_law_size"] (defScope s__law_odd_index) := ⟨rfl, rfl, rfl, by decide +kernel, rfl, by decide +kernel, by decide +kernel⟩
def F__law_odd_index (l_pen_here l_size : D) : Tr D :=
  fin (bd (bd (bd (.ok .non) fun v54 => (bd (bd (.ok (.bl true)) fun v52 => (bd (bd (.ok (.bl false)) fun v50 => (bd (bd (.ok (.str "0")) fun v48 => (bd (bd (bd (bd (.ok (.int 0)) fun v2 => (bd (.ok []) fun r3 => .ok (v2 :: r3))) fun ds => if ds.length ≤ sizeLine then .ok (.lst ds) else .bad) fun v46 => (bd (bd (.ok .dct) fun v44 => (bd (bd (.ok l_size) fun v42 => (bd (bd (bd (.ok (.int 1)) negD) fun v40 => (bd (bd (.ok (.int 10000000000000000000000000000000000000000)) fun v38 => (bd (bd (bd (.ok []) fun ds => if ds.length ≤ sizeLine then .ok (.tup ds) else .bad) fun v36 => (bd (bd (bd (bd (.ok (.int 0)) fun v4 => (bd (.ok []) fun r5 => .ok (v4 :: r5))) fun ds => if ds.length ≤ sizeLine then .ok (.tup ds) else .bad) fun v34 => (bd (bd (bd (bd (.ok (.int 0)) fun v10 => (bd (bd (.ok (.int 1)) fun v8 => (bd (bd (.ok (.int 1)) fun v6 => (bd (.ok []) fun r7 => .ok (v6 :: r7))) fun r9 => .ok (v8 :: r9))) fun r11 => .ok (v10 :: r11))) fun ds => if ds.length ≤ sizeLine then .ok (.tup ds) else .bad) fun v32 => (bd (bd (bd (bd (.ok (.int 1)) fun v14 => (bd (bd (.ok (.int 0)) fun v12 => (bd (.ok []) fun r13 => .ok (v12 :: r13))) fun r15 => .ok (v14 :: r15))) fun ds => if ds.length ≤ sizeLine then .ok (.tup ds) else .bad) fun v30 => (bd (bd (bd (bd (bd (.ok (.int 1)) negD) fun v18 => (bd (bd (.ok (.int 0)) fun v16 => (bd (.ok []) fun r17 => .ok (v16 :: r17))) fun r19 => .ok (v18 :: r19))) fun ds => if ds.length ≤ sizeLine then .ok (.tup ds) else .bad) fun v28 => (bd (bd (bd (bd (.ok (.int 0)) fun v24 => (bd (bd (bd (.ok l_size) fun v20 => (bd (.ok (.int 1)) fun v21 => addD v20 v21)) fun v22 => (bd (.ok []) fun r23 => .ok (v22 :: r23))) fun r25 => .ok (v24 :: r25))) fun ds => if ds.length ≤ sizeLine then .ok (.tup ds) else .bad) fun v26 => (bd (.ok []) fun r27 => .ok (v26 :: r27))) fun r29 => .ok (v28 :: r29))) fun r31 => .ok (v30 :: r31))) fun r33 => .ok (v32 :: r33))) fun r35 => .ok (v34 :: r35))) fun r37 => .ok (v36 :: r37))) fun r39 => .ok (v38 :: r39))) fun r41 => .ok (v40 :: r41))) fun r43 => .ok (v42 :: r43))) fun r45 => .ok (v44 :: r45))) fun r47 => .ok (v46 :: r47))) fun r49 => .ok (v48 :: r49))) fun r51 => .ok (v50 :: r51))) fun r53 => .ok (v52 :: r53))) fun r55 => .ok (v54 :: r55))) fun ds => if ds.length ≤ sizeLine then .ok (.lst ds) else .bad) fun l_odd0 => (bd (bd (bd (.ok l_pen_here) fun v100 => (bd (bd (bd (.ok l_odd0) fun v96 => (bd (bd (bd (bd (bd (.ok (.bl true)) fun v58 => (bd (bd (.ok (.int 1)) fun v56 => (bd (.ok []) fun r57 => .ok (v56 :: r57))) fun r59 => .ok (v58 :: r59))) fun ds => if ds.length ≤ sizeLine then .ok (.tup ds) else .bad) fun v94 => (bd (bd (bd (bd (.ok (.int 0)) fun v62 => (bd (bd (.ok .non) fun v60 => (bd (.ok []) fun r61 => .ok (v60 :: r61))) fun r63 => .ok (v62 :: r63))) fun ds => if ds.length ≤ sizeLine then .ok (.tup ds) else .bad) fun v92 => (bd (bd (bd (bd (.ok (.int 0)) fun v66 => (bd (bd (.ok (.str "1")) fun v64 => (bd (.ok []) fun r65 => .ok (v64 :: r65))) fun r67 => .ok (v66 :: r67))) fun ds => if ds.length ≤ sizeLine then .ok (.tup ds) else .bad) fun v90 => (bd (bd (bd (bd (bd (.ok l_size) fun v68 => (bd (.ok (.int 1)) fun v69 => addD v68 v69)) fun v74 => (bd (bd (bd (.ok l_size) fun v70 => (bd (.ok (.int 1)) fun v71 => addD v70 v71)) fun v72 => (bd (.ok []) fun r73 => .ok (v72 :: r73))) fun r75 => .ok (v74 :: r75))) fun ds => if ds.length ≤ sizeLine then .ok (.tup ds) else .bad) fun v88 => (bd (bd (bd (bd (.ok (.int 0)) fun v78 => (bd (bd (.ok (.int 1)) fun v76 => (bd (.ok []) fun r77 => .ok (v76 :: r77))) fun r79 => .ok (v78 :: r79))) fun ds => if ds.length ≤ sizeLine then .ok (.lst ds) else .bad) fun v86 => (bd (bd (bd (bd (.ok (.int 0)) fun v82 => (bd (bd (.ok (.bl false)) fun v80 => (bd (.ok []) fun r81 => .ok (v80 :: r81))) fun r83 => .ok (v82 :: r83))) fun ds => if ds.length ≤ sizeLine then .ok (.tup ds) else .bad) fun v84 => (bd (.ok []) fun r85 => .ok (v84 :: r85))) fun r87 => .ok (v86 :: r87))) fun r89 => .ok (v88 :: r89))) fun r91 => .ok (v90 :: r91))) fun r93 => .ok (v92 :: r93))) fun r95 => .ok (v94 :: r95))) fun ds => if ds.length ≤ sizeLine then .ok (.lst ds) else .bad) fun v97 => addD v96 v97)) fun v98 => (bd (.ok []) fun r99 => .ok (v98 :: r99))) fun r101 => .ok (v100 :: r101))) (ul2 F__law_pick)) fun d => .ok (.rt d)))
theorem ok__law_odd_index (F : FnA K d__law_odd_index fd) (T : Tx K mg) (G__law_pick : PromO P w K mg base CX0 2 (gd "_law_pick" K) [] (spF K Tb (ul2 F__law_pick))) : FnOk P w K mg base CX0 3 (d__law_odd_index.adr K) fd ["_law_pen_here", "_law_size"] (spF K Tb (ul2 F__law_odd_index)) := by
  refine fnO0 F sc__law_odd_index (fun vs H Q E h => spF_len len2 h) (fun cdv A outer s H vs Q E hr h => ?_)
  refine ⟨_, (pss_cons (ps_set (i := 2) sc__law_odd_index.nd rfl (.inl rfl) (pe_lst (pa_cons pe_non (pa_cons pe_bl (pa_cons pe_bl (pa_cons pe_str (pa_cons (pe_lst (pa_cons pe_int pa_nil)) (pa_cons pe_dnewK (pa_cons (pv 1) (pa_cons (pe_un un_neg pe_int) (pa_cons (pe_op (op_powK 10000000000000000000000000000000000000000) pe_int pe_int) (pa_cons (pe_tup pa_nil) (pa_cons (pe_tup (pa_cons pe_int pa_nil)) (pa_cons (pe_tup (pa_cons pe_int (pa_cons pe_int (pa_cons pe_int pa_nil)))) (pa_cons (pe_tup (pa_cons pe_int (pa_cons pe_int pa_nil))) (pa_cons (pe_tup (pa_cons (pe_un un_neg pe_int) (pa_cons pe_int pa_nil))) (pa_cons (pe_tup (pa_cons pe_int (pa_cons (pe_op (op_addA (K := K) rfl) (pv 1) pe_int) pa_nil))) pa_nil)))))))))))))))))
      (pss_cons (ps_ret (pe_g (PromO.call G__law_pick (hr.mono (by decide)) (passA (E := E))) (by rfl) T.g__law_pick T.k__law_pick (pa_cons (pv 0) (pa_cons (pe_op (op_addA (K := K) rfl) (pv 2) (pe_lst (pa_cons (pe_tup (pa_cons pe_bl (pa_cons pe_int pa_nil))) (pa_cons (pe_tup (pa_cons pe_int (pa_cons pe_non pa_nil))) (pa_cons (pe_tup (pa_cons pe_int (pa_cons pe_str pa_nil))) (pa_cons (pe_tup (pa_cons (pe_op (op_addA (K := K) rfl) (pv 1) pe_int) (pa_cons (pe_op (op_addA (K := K) rfl) (pv 1) pe_int) pa_nil))) (pa_cons (pe_lst (pa_cons pe_int (pa_cons pe_int pa_nil))) (pa_cons (pe_tup (pa_cons pe_int (pa_cons pe_bl pa_nil))) pa_nil)))))))) pa_nil)))) pss_nil)), ?_⟩
  exact fn_of2 (F := F__law_odd_index) (envU := fun _ => List.replicate 3 .no) h (fun l_pen_here l_size => rfl) (fun p c l_pen_here l_size => (ss_asg (se_lst (sa_cons se_non (sa_cons se_bl (sa_cons se_bl (sa_cons (se_str (by decide)) (sa_cons (se_lst (sa_cons se_int sa_nil)) (sa_cons se_dct (sa_cons se_var (sa_cons (se_un sr_neg se_int) (sa_cons (se_powK (by decide) (by decide) (by decide)) (sa_cons (se_tup sa_nil) (sa_cons (se_tup (sa_cons se_int sa_nil)) (sa_cons (se_tup (sa_cons se_int (sa_cons se_int (sa_cons se_int sa_nil)))) (sa_cons (se_tup (sa_cons se_int (sa_cons se_int sa_nil))) (sa_cons (se_tup (sa_cons (se_un sr_neg se_int) (sa_cons se_int sa_nil))) (sa_cons (se_tup (sa_cons se_int (sa_cons (se_op sr_add se_var se_int) sa_nil))) sa_nil)))))))))))))))) (fun l_odd0 => (ss_ret (se_cl srl_sp0 (sa_cons se_var (sa_cons (se_op sr_add se_var (se_lst (sa_cons (se_tup (sa_cons se_bl (sa_cons se_int sa_nil))) (sa_cons (se_tup (sa_cons se_int (sa_cons se_non sa_nil))) (sa_cons (se_tup (sa_cons se_int (sa_cons (se_str (by decide)) sa_nil))) (sa_cons (se_tup (sa_cons (se_op sr_add se_var se_int) (sa_cons (se_op sr_add se_var se_int) sa_nil))) (sa_cons (se_lst (sa_cons se_int (sa_cons se_int sa_nil))) (sa_cons (se_tup (sa_cons se_int (sa_cons se_bl sa_nil))) sa_nil)))))))) sa_nil)))))))
abbrev N__law_indexes_right : List Str := ["_law_pen_here", "_law_row", "_law_size", "_law_other", "_law_odd", "_law_value"]
theorem sc__law_indexes_right : FnScope N__law_indexes_right ["_law_pen_here", "_law_row", "_law_size"] (defScope s__law_indexes_right) := ⟨rfl, rfl, rfl, by decide +kernel, rfl, by decide +kernel, by decide +kernel⟩
def F__law_indexes_right (l_pen_here l_row l_size : D) : Tr D :=
  fin (bd (bd (bd (bd (bd (.ok l_pen_here) fun v3 => (bd (bd (.ok l_size) fun v1 => (bd (.ok []) fun r2 => .ok (v1 :: r2))) fun r4 => .ok (v3 :: r4))) (ul2 F__law_odd_index)) fun v23 => (bd (bd (bd (bd (.ok l_pen_here) fun v19 => (bd (bd (bd (bd (.ok (.int 3)) fun v15 => (bd (bd (.ok .non) fun v13 => (bd (bd (bd (.ok []) fun ds => if ds.length ≤ sizeLine then .ok (.lst ds) else .bad) fun v11 => (bd (bd (bd (bd (.ok (.int 1)) fun v5 => (bd (.ok []) fun r6 => .ok (v5 :: r6))) fun ds => if ds.length ≤ sizeLine then .ok (.lst ds) else .bad) fun v9 => (bd (bd (.ok (.str "x")) fun v7 => (bd (.ok []) fun r8 => .ok (v7 :: r8))) fun r10 => .ok (v9 :: r10))) fun r12 => .ok (v11 :: r12))) fun r14 => .ok (v13 :: r14))) fun r16 => .ok (v15 :: r16))) fun ds => if ds.length ≤ sizeLine then .ok (.lst ds) else .bad) fun v17 => (bd (.ok []) fun r18 => .ok (v17 :: r18))) fun r20 => .ok (v19 :: r20))) (ul2 F__law_pick)) fun v21 => (bd (.ok []) fun r22 => .ok (v21 :: r22))) fun r24 => .ok (v23 :: r24))) fun ds => if ds.length ≤ sizeLine then .ok (.tup ds) else .bad) fun d26 => un2 d26 fun l_odd24 l_value24 => (bdF (W' := Unit) (bd (bd (bd (bd (bd (nox (F__law_heard (bd (.ok l_row) fun v27 => (bd (.ok l_odd24) fun v28 => ixO "Row" (ul2 F_Row___getitem__) v27 v28)))) fun v35 => (bd (bd (bd (bd (.ok (.str "place")) fun v31 => (bd (bd (.ok l_odd24) fun v29 => (bd (.ok []) fun r30 => .ok (v29 :: r30))) fun r32 => .ok (v31 :: r32))) fun ds => if ds.length ≤ sizeLine then .ok (.lst ds) else .bad) fun v33 => (bd (.ok []) fun r34 => .ok (v33 :: r34))) fun r36 => .ok (v35 :: r36))) (ul2 F__law_is)) asB) fun k => .ok (!k)) fun k => if k = true then (bd (.ok (.bl false)) fun d => .ok (.rt d)) else (.ok (.nx ()))) fun (w37 : Unit) => (bdF (W' := Unit) (bd (bd (bd (bd (bd (nox (F__law_heard (bd (bd (.ok l_row) fun v42 => (bd (bd (.ok l_odd24) fun v40 => (bd (bd (.ok l_value24) fun v38 => (bd (.ok []) fun r39 => .ok (v38 :: r39))) fun r41 => .ok (v40 :: r41))) fun r43 => .ok (v42 :: r43))) (ul3 F__law_store)))) fun v50 => (bd (bd (bd (bd (.ok (.str "place")) fun v46 => (bd (bd (.ok l_odd24) fun v44 => (bd (.ok []) fun r45 => .ok (v44 :: r45))) fun r47 => .ok (v46 :: r47))) fun ds => if ds.length ≤ sizeLine then .ok (.lst ds) else .bad) fun v48 => (bd (.ok []) fun r49 => .ok (v48 :: r49))) fun r51 => .ok (v50 :: r51))) (ul2 F__law_is)) asB) fun k => .ok (!k)) fun k => if k = true then (bd (.ok (.bl false)) fun d => .ok (.rt d)) else (.ok (.nx ()))) fun (w52 : Unit) => (bd (bd (bd (.ok l_pen_here) fun v78 => (bd (bd (bd (bd (bd (.ok l_size) fun v54 => (bd (.ok (.int 1)) fun v55 => subD v54 v55)) fun v74 => (bd (bd (.ok l_size) fun v72 => (bd (bd (bd (.ok (.int 1)) negD) fun v70 => (bd (bd (.ok .non) fun v68 => (bd (bd (.ok (.bl true)) fun v66 => (bd (bd (.ok (.str "0")) fun v64 => (bd (bd (bd (bd (.ok (.int 0)) fun v58 => (bd (bd (.ok (.int 1)) fun v56 => (bd (.ok []) fun r57 => .ok (v56 :: r57))) fun r59 => .ok (v58 :: r59))) fun ds => if ds.length ≤ sizeLine then .ok (.tup ds) else .bad) fun v62 => (bd (bd (.ok (.int 10000000000000000000000000000000000000000)) fun v60 => (bd (.ok []) fun r61 => .ok (v60 :: r61))) fun r63 => .ok (v62 :: r63))) fun r65 => .ok (v64 :: r65))) fun r67 => .ok (v66 :: r67))) fun r69 => .ok (v68 :: r69))) fun r71 => .ok (v70 :: r71))) fun r73 => .ok (v72 :: r73))) fun r75 => .ok (v74 :: r75))) fun ds => if ds.length ≤ sizeLine then .ok (.lst ds) else .bad) fun v76 => (bd (.ok []) fun r77 => .ok (v76 :: r77))) fun r79 => .ok (v78 :: r79))) (ul2 F__law_pick)) fun l_other52 => (bd (bd (bd (nox (F__law_heard (bd (.ok l_row) fun o82 => (isO "Row" o82 fun fs => if fs.lookup ("exchange" : Str) = none then bd (bd (.ok l_other52) fun v80 => (bd (.ok []) fun r81 => .ok (v80 :: r81))) fun ds => (ul2 F_Row_exchange) (o82 :: ds) else .bad)))) fun v89 => (bd (bd (bd (bd (.ok (.str "place")) fun v85 => (bd (bd (.ok l_other52) fun v83 => (bd (.ok []) fun r84 => .ok (v83 :: r84))) fun r86 => .ok (v85 :: r86))) fun ds => if ds.length ≤ sizeLine then .ok (.lst ds) else .bad) fun v87 => (bd (.ok []) fun r88 => .ok (v87 :: r88))) fun r90 => .ok (v89 :: r90))) (ul2 F__law_is)) fun d => .ok (.rt d))))))
theorem ok__law_indexes_right (F : FnA K d__law_indexes_right fd) (T : Tx K mg) (G__law_odd_index : PromO P w K mg base CX0 3 (gd "_law_odd_index" K) [] (spF K Tb (ul2 F__law_odd_index))) (G__law_pick : PromO P w K mg base CX0 2 (gd "_law_pick" K) [] (spF K Tb (ul2 F__law_pick))) (G__law_is : Prom P w K mg base CX0 1 (gd "_law_is" K) [] (spF K Tb (ul2 F__law_is))) (GH__law_heard : HrdP K d__law_heard ["_law_ask"]) (LD__law_indexes_right : LamD base mg K Tb d__law_indexes_right ("_law_indexes_right", none)) (G_Row___getitem__ : PromO P w K mg base (L2.CX P w) 4 (md "Row" "__getitem__" K) [] (spF K Tb (ul2 F_Row___getitem__))) (G__law_store : PromO P w K mg base (L2.CX P w) 5 (gd "_law_store" K) [] (spF K Tb (ul3 F__law_store))) (G_Row_exchange : PromO P w K mg base (L2.CX P w) 3 (md "Row" "exchange" K) [] (spF K Tb (ul2 F_Row_exchange))) : FnG P w K mg base CX0 8 (d__law_indexes_right.adr K) fd ["_law_pen_here", "_law_row", "_law_size"] (spF K Tb (ul3 F__law_indexes_right)) := by
  obtain ⟨fdH, FH, hbH⟩ := GH__law_heard
  obtain ⟨ocH, odH, dVH, kVH, docH, pmH, anH, cdvH, ctH, oslH, rfl, lkH, hcH, _, _⟩ := FH.ex
  have ecode : fd.code = .ref (He.cT K ("_law_indexes_right", none)).1 := codeOf_fn (p := ("_law_indexes_right", none)) F
  refine fnG1 F sc__law_indexes_right (fun vs H Q E h => spF_len len3 h) (fun cdv A outer s H vs Q E hcdv hr hg h => ?_)
  have hcode : cdv = .ref (He.cT K ("_law_indexes_right", none)).1 := hcdv.trans ecode
  have hu100 := Nat.lt_of_le_of_lt (Nat.add_le_add_left (show 102 ≤ 16 * 7 + 200 by decide) _) (show _ + (16 * 7 + 200) < cLine from hr.un)
  refine ⟨_, (pss_cons (ps_asg (pe_tup (pa_cons (pe_g (PromO.call G__law_odd_index (hr.mono (by decide)) (passA (E := E))) (by rfl) T.g__law_odd_index T.k__law_odd_index (pa_cons (pv 0) (pa_cons (pv 2) pa_nil))) (pa_cons (pe_g (PromO.call G__law_pick (hr.mono (by decide)) (passA (E := E))) (by rfl) T.g__law_pick T.k__law_pick (pa_cons (pv 0) (pa_cons (pe_lst (pa_cons pe_int (pa_cons pe_non (pa_cons (pe_lst pa_nil) (pa_cons (pe_lst (pa_cons pe_int pa_nil)) (pa_cons pe_str pa_nil)))))) pa_nil))) pa_nil))) (pg_tup rfl (pgs_cons (pg_name (i := 4) sc__law_indexes_right.nd rfl (.inr rfl)) (pgs_cons (pg_name (i := 5) sc__law_indexes_right.nd rfl (.inr rfl)) pgs_nil))))
      (pss_cons (ps_if (pt_not (pt_val (pe_g (Prom.call G__law_is (hr.mono (by decide)) hg (passA (E := E))) (by rfl) T.g__law_is T.k__law_is (pa_cons (LamX.pe_lamcall (T := Tb) (k := 5) (by rfl) T.g__law_heard T.k__law_heard lkH hcH hbH sc__law_heard rfl (.inl rfl) (ok__law_heard (Tb := Tb) T) LD__law_indexes_right.tb hcode LD__law_indexes_right.mem LD__law_indexes_right.hu (hr.mono (by decide)) (LamX.lamS_by (by show LamX.lamSB (defScope s__law_indexes_right) _ = true; decide +kernel)) rfl (fun _ _ _ _ _ => rfl) (fun A outer s H E f c' hr => (pe_ixO (pv 1) (pv 4) T.ix_Row G_Row___getitem__ (hr.mono (by decide)) (pass_on rfl rfl rfl rfl)))) (pa_cons (pe_lst (pa_cons pe_str (pa_cons (pv 4) pa_nil))) pa_nil)))))
      (pss_cons (ps_ret pe_bl) pss_nil) pss_nil)
      (pss_cons (ps_if (pt_not (pt_val (pe_g (Prom.call G__law_is (hr.mono (by decide)) hg (passA (E := E))) (by rfl) T.g__law_is T.k__law_is (pa_cons (LamX.pe_lamcall (T := Tb) (k := 5) (by rfl) T.g__law_heard T.k__law_heard lkH hcH hbH sc__law_heard rfl (.inl rfl) (ok__law_heard (Tb := Tb) T) LD__law_indexes_right.tb hcode LD__law_indexes_right.mem LD__law_indexes_right.hu (hr.mono (by decide)) (LamX.lamS_by (by show LamX.lamSB (defScope s__law_indexes_right) _ = true; decide +kernel)) rfl (fun _ _ _ _ _ => rfl) (fun A outer s H E f c' hr => (pe_g (PromO.call G__law_store (hr.mono (by decide)) (pass_on rfl rfl rfl rfl)) (by rfl) T.g__law_store T.k__law_store (pa_cons (pv 1) (pa_cons (pv 4) (pa_cons (pv 5) pa_nil)))))) (pa_cons (pe_lst (pa_cons pe_str (pa_cons (pv 4) pa_nil))) pa_nil)))))
      (pss_cons (ps_ret pe_bl) pss_nil) pss_nil)
      (pss_cons (ps_set (i := 3) sc__law_indexes_right.nd rfl (.inr rfl) (pe_g (PromO.call G__law_pick (hr.mono (by decide)) (passA (E := E))) (by rfl) T.g__law_pick T.k__law_pick (pa_cons (pv 0) (pa_cons (pe_lst (pa_cons (pe_op op_sub (pv 2) pe_int) (pa_cons (pv 2) (pa_cons (pe_un un_neg pe_int) (pa_cons pe_non (pa_cons pe_bl (pa_cons pe_str (pa_cons (pe_tup (pa_cons pe_int (pa_cons pe_int pa_nil))) (pa_cons (pe_op (op_powK 10000000000000000000000000000000000000000) pe_int pe_int) pa_nil))))))))) pa_nil))))
      (pss_cons (ps_ret (pe_g (Prom.call G__law_is (hr.mono (by decide)) hg (passA (E := E))) (by rfl) T.g__law_is T.k__law_is (pa_cons (LamX.pe_lamcall (T := Tb) (k := 5) (by rfl) T.g__law_heard T.k__law_heard lkH hcH hbH sc__law_heard rfl (.inl rfl) (ok__law_heard (Tb := Tb) T) LD__law_indexes_right.tb hcode LD__law_indexes_right.mem LD__law_indexes_right.hu (hr.mono (by decide)) (LamX.lamS_by (by show LamX.lamSB (defScope s__law_indexes_right) _ = true; decide +kernel)) rfl (fun _ _ _ _ _ => rfl) (fun A outer s H E f c' hr => (pe_m (pv 1) T.cl_Row T.mt_Row_exchange (PromO.call G_Row_exchange (hr.mono (by decide)) (pass_on rfl rfl rfl rfl)) (pa_cons (pv 3) pa_nil)))) (pa_cons (pe_lst (pa_cons pe_str (pa_cons (pv 3) pa_nil))) pa_nil)))) pss_nil))))), ?_⟩
  exact fn_of3 (F := F__law_indexes_right) (envU := fun _ => List.replicate 6 .no) h (fun l_pen_here l_row l_size => rfl) (fun p c l_pen_here l_row l_size => (ss_unp (se_tup (sa_cons (se_cl srl_sp0 (sa_cons se_var (sa_cons se_var sa_nil))) (sa_cons (se_cl srl_sp0 (sa_cons se_var (sa_cons (se_lst (sa_cons se_int (sa_cons se_non (sa_cons (se_lst sa_nil) (sa_cons (se_lst (sa_cons se_int sa_nil)) (sa_cons (se_str (by decide)) sa_nil)))))) sa_nil))) sa_nil))) (fun d26 => sx_tup2 (fun l_odd24 l_value24 => (ss_if (fun (w37 : Unit) => [.fz l_pen_here, .fz l_row, .fz l_size, .no, .fz l_odd24, .fz l_value24]) (sb_not (sb_tb (se_cl srl_sp0 (sa_cons (se_lam fun E => (se_op sr_ixO se_var se_var)) (sa_cons (se_lst (sa_cons (se_str (by decide)) (sa_cons se_var sa_nil))) sa_nil))))) (ss_ret se_bl) (ss_nx (.s (.s (.s (.s (.s (.s .nil))))))) (fun (w37 : Unit) => (ss_if (fun (w52 : Unit) => [.fz l_pen_here, .fz l_row, .fz l_size, .no, .fz l_odd24, .fz l_value24]) (sb_not (sb_tb (se_cl srl_sp0 (sa_cons (se_lam fun E => (se_cl srl_sp0 (sa_cons se_var (sa_cons se_var (sa_cons se_var sa_nil))))) (sa_cons (se_lst (sa_cons (se_str (by decide)) (sa_cons se_var sa_nil))) sa_nil))))) (ss_ret se_bl) (ss_nx (.s (.s (.s (.s (.s (.s .nil))))))) (fun (w52 : Unit) => (ss_asg (se_cl srl_sp0 (sa_cons se_var (sa_cons (se_lst (sa_cons (se_op sr_sub se_var se_int) (sa_cons se_var (sa_cons (se_un sr_neg se_int) (sa_cons se_non (sa_cons se_bl (sa_cons (se_str (by decide)) (sa_cons (se_tup (sa_cons se_int (sa_cons se_int sa_nil))) (sa_cons (se_powK (by decide) (by decide) (by decide)) sa_nil))))))))) sa_nil))) (fun l_other52 => (ss_ret (se_cl srl_sp0 (sa_cons (se_lam fun E => (se_mt srl_sp0 se_var (sa_cons se_var sa_nil))) (sa_cons (se_lst (sa_cons (se_str (by decide)) (sa_cons se_var sa_nil))) sa_nil))))))))))))))
abbrev N__law_puts_right : List Str := ["_law_pen_here", "_law_row", "_law_size", "_law_begin", "_law_end", "_law_many", "_law_values", "_law_wrong", "_law_passed", "_law_place", "_law_odd", "_law_bent_here", "_law_first", "_law_k"]
theorem sc__law_puts_right : FnScope N__law_puts_right ["_law_pen_here", "_law_row", "_law_size"] (defScope s__law_puts_right) := ⟨rfl, rfl, rfl, by decide +kernel, rfl, by decide +kernel, by decide +kernel⟩
def F__law_puts_right (l_pen_here l_row l_size : D) : Tr D :=
  fin (bd (bd (bd (bd (bd (.ok l_pen_here) fun v3 => (bd (bd (.ok l_size) fun v1 => (bd (.ok []) fun r2 => .ok (v1 :: r2))) fun r4 => .ok (v3 :: r4))) (ul2 F_draw)) fun v9 => (bd (bd (bd (bd (.ok l_pen_here) fun v5 => (bd (.ok []) fun r6 => .ok (v5 :: r6))) (ul1 F__law_odd_item)) fun v7 => (bd (.ok []) fun r8 => .ok (v7 :: r8))) fun r10 => .ok (v9 :: r10))) fun ds => if ds.length ≤ sizeLine then .ok (.tup ds) else .bad) fun d12 => un2 d12 fun l_place10 l_odd10 => (bdF (W' := Unit) (bd (bd (bd (bd (bd (nox (F__law_heard (bd (bd (.ok l_row) fun v17 => (bd (bd (.ok l_place10) fun v15 => (bd (bd (.ok l_odd10) fun v13 => (bd (.ok []) fun r14 => .ok (v13 :: r14))) fun r16 => .ok (v15 :: r16))) fun r18 => .ok (v17 :: r18))) (ul3 F__law_store)))) fun v25 => (bd (bd (bd (bd (.ok (.str "row")) fun v21 => (bd (bd (.ok (.int 0)) fun v19 => (bd (.ok []) fun r20 => .ok (v19 :: r20))) fun r22 => .ok (v21 :: r22))) fun ds => if ds.length ≤ sizeLine then .ok (.lst ds) else .bad) fun v23 => (bd (.ok []) fun r24 => .ok (v23 :: r24))) fun r26 => .ok (v25 :: r26))) (ul2 F__law_is)) asB) fun k => .ok (!k)) fun k => if k = true then (bd (.ok (.bl false)) fun d => .ok (.rt d)) else (.ok (.nx ()))) fun (w27 : Unit) => (bd (bd (bd (.ok l_pen_here) fun v33 => (bd (bd (bd (.ok l_size) fun v29 => (bd (.ok (.int 1)) fun v30 => addD v29 v30)) fun v31 => (bd (.ok []) fun r32 => .ok (v31 :: r32))) fun r34 => .ok (v33 :: r34))) (ul2 F_draw)) fun l_begin27 => (bd (bd (.ok l_begin27) fun v44 => (bd (bd (bd (.ok l_pen_here) fun v42 => (bd (bd (bd (bd (.ok l_size) fun v36 => (bd (.ok (.int 1)) fun v37 => addD v36 v37)) fun v38 => (bd (.ok l_begin27) fun v39 => subD v38 v39)) fun v40 => (bd (.ok []) fun r41 => .ok (v40 :: r41))) fun r43 => .ok (v42 :: r43))) (ul2 F_draw)) fun v45 => addD v44 v45)) fun l_end34 => (bd (bd (.ok l_end34) fun v47 => (bd (.ok l_begin27) fun v48 => subD v47 v48)) fun l_many45 => (bd (bd (bd (.ok .non) fun v80 => (bd (bd (.ok (.int 5)) fun v78 => (bd (bd (.ok (.str "")) fun v76 => (bd (bd (.ok .dct) fun v74 => (bd (bd (bd (bd (bd (.ok (.int 1)) fun v50 => (bd (.ok []) fun r51 => .ok (v50 :: r51))) fun ds => if ds.length ≤ sizeLine then .ok (.lst ds) else .bad) fun v54 => (bd (bd (.ok l_many45) fun v52 => (bd (.ok (.int 1)) fun v53 => addD v52 v53)) fun v55 => mulD v54 v55)) fun v72 => (bd (bd (bd (bd (bd (.ok (.int 2)) fun v56 => (bd (.ok []) fun r57 => .ok (v56 :: r57))) fun ds => if ds.length ≤ sizeLine then .ok (.tup ds) else .bad) fun v60 => (bd (bd (.ok l_many45) fun v58 => (bd (.ok (.int 1)) fun v59 => addD v58 v59)) fun v61 => mulU v60 v61)) fun v70 => (bd (bd (bd (bd (bd (.ok .non) fun v62 => (bd (.ok []) fun r63 => .ok (v62 :: r63))) fun ds => if ds.length ≤ sizeLine then .ok (.lst ds) else .bad) fun v66 => (bd (bd (.ok l_many45) fun v64 => (bd (.ok (.int 2)) fun v65 => addD v64 v65)) fun v67 => mulD v66 v67)) fun v68 => (bd (.ok []) fun r69 => .ok (v68 :: r69))) fun r71 => .ok (v70 :: r71))) fun r73 => .ok (v72 :: r73))) fun r75 => .ok (v74 :: r75))) fun r77 => .ok (v76 :: r77))) fun r79 => .ok (v78 :: r79))) fun r81 => .ok (v80 :: r81))) fun ds => if ds.length ≤ sizeLine then .ok (.lst ds) else .bad) fun l_values48 => (bdF (W' := D) (bd (bd (bd (.ok l_many45) fun v82 => (bd (.ok (.int 0)) fun v83 => gtD v82 v83)) asB) fun k => if k = true then (bd (bd (.ok l_values48) fun v117 => (bd (bd (bd (bd (.ok []) fun ds => if ds.length ≤ sizeLine then .ok (.lst ds) else .bad) fun v115 => (bd (bd (bd (.ok []) fun ds => if ds.length ≤ sizeLine then .ok (.tup ds) else .bad) fun v113 => (bd (bd (bd (bd (bd (.ok .non) fun v86 => (bd (.ok []) fun r87 => .ok (v86 :: r87))) fun ds => if ds.length ≤ sizeLine then .ok (.lst ds) else .bad) fun v90 => (bd (bd (.ok l_many45) fun v88 => (bd (.ok (.int 1)) fun v89 => subD v88 v89)) fun v91 => mulD v90 v91)) fun v111 => (bd (bd (nox (bd (bd (bd (bd (bd (.ok (.int 1)) fun v92 => (bd (.ok []) fun r93 => .ok (v92 :: r93))) fun ds => if ds.length ≤ sizeLine then .ok (.lst ds) else .bad) fun v94 => (bd (.ok l_many45) fun v95 => mulD v94 v95)) fun v96 => (bd (.ok []) fun r97 => .ok (v96 :: r97))) (fun ds => bd ((fun fs => ul1 (F_Row___init__ fs)) [] ds) fun fs => .ok (.obj "Row" fs)))) fun v109 => (bd (bd (bd (bd (bd (bd (bd (.ok l_many45) fun v98 => (bd (.ok []) fun r99 => .ok (v98 :: r99))) (ul1 rg1)) fun ds => bd (lcF (fun l_k99 => nox (bd (bd (bd (.ok l_k99) fun v103 => (bd (bd (.ok (.int 1)) fun v101 => (bd (.ok []) fun r102 => .ok (v101 :: r102))) fun r104 => .ok (v103 :: r104))) fun ds => if ds.length ≤ sizeLine then .ok (.tup ds) else .bad) fun y => .ok (some y))) ds) fun r => .ok (.lst r)) fun v105 => (bd (.ok []) fun r106 => .ok (v105 :: r106))) (ul1 dictP)) fun v107 => (bd (.ok []) fun r108 => .ok (v107 :: r108))) fun r110 => .ok (v109 :: r110))) fun r112 => .ok (v111 :: r112))) fun r114 => .ok (v113 :: r114))) fun r116 => .ok (v115 :: r116))) fun ds => if ds.length ≤ sizeLine then .ok (.lst ds) else .bad) fun v118 => addD v117 v118)) fun l_values84 => (.ok (.nx l_values84))) else (.ok (.nx l_values48))) fun (w84 : D) => (bd (bd (bd (.ok l_pen_here) fun v122 => (bd (bd (.ok w84) fun v120 => (bd (.ok []) fun r121 => .ok (v120 :: r121))) fun r123 => .ok (v122 :: r123))) (ul2 F__law_pick)) fun l_wrong118 => (bdF (W' := Unit) (bd (bd (bd (bd (bd (nox (F__law_heard (bd (bd (.ok l_row) fun v132 => (bd (bd (bd (bd (.ok l_begin27) fun v126 => (bd (bd (.ok l_end34) fun v124 => (bd (.ok []) fun r125 => .ok (v124 :: r125))) fun r127 => .ok (v126 :: r127))) fun ds => if ds.length ≤ sizeLine then .ok (.tup ds) else .bad) fun v130 => (bd (bd (.ok l_wrong118) fun v128 => (bd (.ok []) fun r129 => .ok (v128 :: r129))) fun r131 => .ok (v130 :: r131))) fun r133 => .ok (v132 :: r133))) (ul3 F__law_store)))) fun v140 => (bd (bd (bd (bd (.ok (.str "row")) fun v136 => (bd (bd (.ok .non) fun v134 => (bd (.ok []) fun r135 => .ok (v134 :: r135))) fun r137 => .ok (v136 :: r137))) fun ds => if ds.length ≤ sizeLine then .ok (.lst ds) else .bad) fun v138 => (bd (.ok []) fun r139 => .ok (v138 :: r139))) fun r141 => .ok (v140 :: r141))) (ul2 F__law_is)) asB) fun k => .ok (!k)) fun k => if k = true then (bd (.ok (.bl false)) fun d => .ok (.rt d)) else (.ok (.nx ()))) fun (w142 : Unit) => (bdF (W' := Unit) (bd (bd (bd (.ok l_many45) fun v143 => (bd (.ok (.int 0)) fun v144 => eqD v143 v144)) asB) fun k => if k = true then (bd (.ok (.bl true)) fun d => .ok (.rt d)) else (.ok (.nx ()))) fun (w145 : Unit) => (bd (bd (bd (.ok l_pen_here) fun v152 => (bd (bd (bd (bd (bd (.ok (.int 4)) fun v146 => (bd (.ok []) fun r147 => .ok (v146 :: r147))) fun ds => if ds.length ≤ sizeLine then .ok (.lst ds) else .bad) fun v148 => (bd (.ok l_many45) fun v149 => mulD v148 v149)) fun v150 => (bd (.ok []) fun r151 => .ok (v150 :: r151))) fun r153 => .ok (v152 :: r153))) (ul2 F__law_bent)) fun d155 => un2 d155 fun l_bent_here153 l_first153 => (bd (bd (bd (.ok l_pen_here) fun v165 => (bd (bd (bd (bd (.ok l_bent_here153) fun v161 => (bd (bd (bd (bd (.ok l_bent_here153) fun v157 => (bd (.ok []) fun r158 => .ok (v157 :: r158))) (ul1 tupD)) fun v159 => (bd (.ok []) fun r160 => .ok (v159 :: r160))) fun r162 => .ok (v161 :: r162))) fun ds => if ds.length ≤ sizeLine then .ok (.lst ds) else .bad) fun v163 => (bd (.ok []) fun r164 => .ok (v163 :: r164))) fun r166 => .ok (v165 :: r166))) (ul2 F__law_pick)) fun l_passed155 => (bd (bd (bd (nox (F__law_heard (bd (bd (.ok l_row) fun v175 => (bd (bd (bd (bd (.ok l_begin27) fun v169 => (bd (bd (.ok l_end34) fun v167 => (bd (.ok []) fun r168 => .ok (v167 :: r168))) fun r170 => .ok (v169 :: r170))) fun ds => if ds.length ≤ sizeLine then .ok (.tup ds) else .bad) fun v173 => (bd (bd (.ok l_passed155) fun v171 => (bd (.ok []) fun r172 => .ok (v171 :: r172))) fun r174 => .ok (v173 :: r174))) fun r176 => .ok (v175 :: r176))) (ul3 F__law_store)))) fun v183 => (bd (bd (bd (bd (.ok (.str "row")) fun v179 => (bd (bd (.ok l_first153) fun v177 => (bd (.ok []) fun r178 => .ok (v177 :: r178))) fun r180 => .ok (v179 :: r180))) fun ds => if ds.length ≤ sizeLine then .ok (.lst ds) else .bad) fun v181 => (bd (.ok []) fun r182 => .ok (v181 :: r182))) fun r184 => .ok (v183 :: r184))) (ul2 F__law_is)) fun d => .ok (.rt d))))))))))))))
theorem ok__law_puts_right (F : FnA K d__law_puts_right fd) (T : Tx K mg) (G__law_draw : PromO P w K mg base CX0 1 (gd "_law_draw" K) [] (spF K Tb (ul2 F_draw))) (G__law_odd_item : PromO P w K mg base CX0 3 (gd "_law_odd_item" K) [] (spF K Tb (ul1 F__law_odd_item))) (G__law_is : Prom P w K mg base CX0 1 (gd "_law_is" K) [] (spF K Tb (ul2 F__law_is))) (GH__law_heard : HrdP K d__law_heard ["_law_ask"]) (LD__law_puts_right : LamD base mg K Tb d__law_puts_right ("_law_puts_right", none)) (G__law_store : PromO P w K mg base (L2.CX P w) 5 (gd "_law_store" K) [] (spF K Tb (ul3 F__law_store))) (G_Row___init__ : PromO P w K mg base (L2.CX P w) 4 (md "Row" "__init__" K) [] (spI K Tb "Row" (fun fs => ul1 (F_Row___init__ fs)))) (G__law_pick : PromO P w K mg base CX0 2 (gd "_law_pick" K) [] (spF K Tb (ul2 F__law_pick))) (G__law_bent : PromO P w K mg base CX0 4 (gd "_law_bent" K) [] (spF K Tb (ul2 F__law_bent))) : FnG P w K mg base CX0 8 (d__law_puts_right.adr K) fd ["_law_pen_here", "_law_row", "_law_size"] (spF K Tb (ul3 F__law_puts_right)) := by
  obtain ⟨fdH, FH, hbH⟩ := GH__law_heard
  obtain ⟨ocH, odH, dVH, kVH, docH, pmH, anH, cdvH, ctH, oslH, rfl, lkH, hcH, _, _⟩ := FH.ex
  have ecode : fd.code = .ref (He.cT K ("_law_puts_right", none)).1 := codeOf_fn (p := ("_law_puts_right", none)) F
  refine fnG1 F sc__law_puts_right (fun vs H Q E h => spF_len len3 h) (fun cdv A outer s H vs Q E hcdv hr hg h => ?_)
  have hcode : cdv = .ref (He.cT K ("_law_puts_right", none)).1 := hcdv.trans ecode
  have hu100 := Nat.lt_of_le_of_lt (Nat.add_le_add_left (show 102 ≤ 16 * 7 + 200 by decide) _) (show _ + (16 * 7 + 200) < cLine from hr.un)
  refine ⟨_, (pss_cons (ps_asg (pe_tup (pa_cons (pe_g (PromO.call G__law_draw (hr.mono (by decide)) (passA (E := E))) (by rfl) T.g__law_draw T.k__law_draw (pa_cons (pv 0) (pa_cons (pv 2) pa_nil))) (pa_cons (pe_g (PromO.call G__law_odd_item (hr.mono (by decide)) (passA (E := E))) (by rfl) T.g__law_odd_item T.k__law_odd_item (pa_cons (pv 0) pa_nil)) pa_nil))) (pg_tup rfl (pgs_cons (pg_name (i := 9) sc__law_puts_right.nd rfl (.inr rfl)) (pgs_cons (pg_name (i := 10) sc__law_puts_right.nd rfl (.inr rfl)) pgs_nil))))
      (pss_cons (ps_if (pt_not (pt_val (pe_g (Prom.call G__law_is (hr.mono (by decide)) hg (passA (E := E))) (by rfl) T.g__law_is T.k__law_is (pa_cons (LamX.pe_lamcall (T := Tb) (k := 5) (by rfl) T.g__law_heard T.k__law_heard lkH hcH hbH sc__law_heard rfl (.inl rfl) (ok__law_heard (Tb := Tb) T) LD__law_puts_right.tb hcode LD__law_puts_right.mem LD__law_puts_right.hu (hr.mono (by decide)) (LamX.lamS_by (by show LamX.lamSB (defScope s__law_puts_right) _ = true; decide +kernel)) rfl (fun _ _ _ _ _ => rfl) (fun A outer s H E f c' hr => (pe_g (PromO.call G__law_store (hr.mono (by decide)) (pass_on rfl rfl rfl rfl)) (by rfl) T.g__law_store T.k__law_store (pa_cons (pv 1) (pa_cons (pv 9) (pa_cons (pv 10) pa_nil)))))) (pa_cons (pe_lst (pa_cons pe_str (pa_cons pe_int pa_nil))) pa_nil)))))
      (pss_cons (ps_ret pe_bl) pss_nil) pss_nil)
      (pss_cons (ps_set (i := 3) sc__law_puts_right.nd rfl (.inr rfl) (pe_g (PromO.call G__law_draw (hr.mono (by decide)) (passA (E := E))) (by rfl) T.g__law_draw T.k__law_draw (pa_cons (pv 0) (pa_cons (pe_op (op_addA (K := K) rfl) (pv 2) pe_int) pa_nil))))
      (pss_cons (ps_set (i := 4) sc__law_puts_right.nd rfl (.inr rfl) (pe_op (op_addA (K := K) rfl) (pv 3) (pe_g (PromO.call G__law_draw (hr.mono (by decide)) (passA (E := E))) (by rfl) T.g__law_draw T.k__law_draw (pa_cons (pv 0) (pa_cons (pe_op op_sub (pe_op (op_addA (K := K) rfl) (pv 2) pe_int) (pv 3)) pa_nil)))))
      (pss_cons (ps_set (i := 5) sc__law_puts_right.nd rfl (.inl rfl) (pe_op op_sub (pv 4) (pv 3)))
      (pss_cons (ps_set (i := 6) sc__law_puts_right.nd rfl (.inl rfl) (pe_lst (pa_cons pe_non (pa_cons pe_int (pa_cons pe_str (pa_cons pe_dnewK (pa_cons (pe_op op_mulA (pe_lst (pa_cons pe_int pa_nil)) (pe_op (op_addA (K := K) rfl) (pv 5) pe_int)) (pa_cons (pe_op (op_repU (K := K) rfl) (pe_tup (pa_cons pe_int pa_nil)) (pe_op (op_addA (K := K) rfl) (pv 5) pe_int)) (pa_cons (pe_op op_mulA (pe_lst (pa_cons pe_non pa_nil)) (pe_op (op_addA (K := K) rfl) (pv 5) pe_int)) pa_nil)))))))))
      (pss_cons (ps_if (pt_cmpR op_gt (pv 5) pe_int (nomark _))
      (pss_cons (ps_set (i := 6) sc__law_puts_right.nd rfl (.inl rfl) (pe_op (op_addA (K := K) rfl) (pv 6) (pe_lst (pa_cons (pe_lst pa_nil) (pa_cons (pe_tup pa_nil) (pa_cons (pe_op op_mulA (pe_lst (pa_cons pe_non pa_nil)) (pe_op op_sub (pv 5) pe_int)) (pa_cons (pe_g (PromO.make T.mk_Row G_Row___init__ (hr.mono (by decide)) passF) (by rfl) T.g_Row T.k_Row (pa_cons (pe_op op_mulA (pe_lst (pa_cons pe_int pa_nil)) (pv 5)) pa_nil)) (pa_cons (pe_callTy (call_dictP' (K := K) rfl rfl) (by rfl) T.f_dict (by decide +kernel) (pa_cons (pe_lc (own := [("_law_k", 13)]) (g := gName 13) (by rfl) sc__law_puts_right.nd (pi_range1 (by rfl) T.f_range (pa_cons (pv 5) pa_nil)) (blkOk_by (own := [("_law_k", 13)]) (N := N__law_puts_right) (sc := defScope s__law_puts_right) (by decide +kernel)) (fun _ _ _ _ _ => pg_name (i := 13) sc__law_puts_right.nd rfl (Or.inl rfl)) (fun _ _ _ _ _ => pts_nil) (fun _ _ _ _ _ => (pe_tup (pa_cons (pv 13) (pa_cons pe_int pa_nil))))) pa_nil)) pa_nil))))))))
      pss_nil) pss_nil)
      (pss_cons (ps_set (i := 7) sc__law_puts_right.nd rfl (.inr rfl) (pe_g (PromO.call G__law_pick (hr.mono (by decide)) (passA (E := E))) (by rfl) T.g__law_pick T.k__law_pick (pa_cons (pv 0) (pa_cons (pv 6) pa_nil))))
      (pss_cons (ps_if (pt_not (pt_val (pe_g (Prom.call G__law_is (hr.mono (by decide)) hg (passA (E := E))) (by rfl) T.g__law_is T.k__law_is (pa_cons (LamX.pe_lamcall (T := Tb) (k := 5) (by rfl) T.g__law_heard T.k__law_heard lkH hcH hbH sc__law_heard rfl (.inl rfl) (ok__law_heard (Tb := Tb) T) LD__law_puts_right.tb hcode LD__law_puts_right.mem LD__law_puts_right.hu (hr.mono (by decide)) (LamX.lamS_by (by show LamX.lamSB (defScope s__law_puts_right) _ = true; decide +kernel)) rfl (fun _ _ _ _ _ => rfl) (fun A outer s H E f c' hr => (pe_g (PromO.call G__law_store (hr.mono (by decide)) (pass_on rfl rfl rfl rfl)) (by rfl) T.g__law_store T.k__law_store (pa_cons (pv 1) (pa_cons (pe_tup (pa_cons (pv 3) (pa_cons (pv 4) pa_nil))) (pa_cons (pv 7) pa_nil)))))) (pa_cons (pe_lst (pa_cons pe_str (pa_cons pe_non pa_nil))) pa_nil)))))
      (pss_cons (ps_ret pe_bl) pss_nil) pss_nil)
      (pss_cons (ps_if (pt_cmpR (op_eqA (K := K) rfl hr.units) (pv 5) pe_int (nomark _))
      (pss_cons (ps_ret pe_bl) pss_nil) pss_nil)
      (pss_cons (ps_asg (pe_g (PromO.call G__law_bent (hr.mono (by decide)) (passA (E := E))) (by rfl) T.g__law_bent T.k__law_bent (pa_cons (pv 0) (pa_cons (pe_op op_mulA (pe_lst (pa_cons pe_int pa_nil)) (pv 5)) pa_nil))) (pg_tup rfl (pgs_cons (pg_name (i := 11) sc__law_puts_right.nd rfl (.inl rfl)) (pgs_cons (pg_name (i := 12) sc__law_puts_right.nd rfl (.inl rfl)) pgs_nil))))
      (pss_cons (ps_set (i := 8) sc__law_puts_right.nd rfl (.inr rfl) (pe_g (PromO.call G__law_pick (hr.mono (by decide)) (passA (E := E))) (by rfl) T.g__law_pick T.k__law_pick (pa_cons (pv 0) (pa_cons (pe_lst (pa_cons (pv 11) (pa_cons (pe_callTy (cr_tupOf (K := K) rfl) (by rfl) T.f_tuple (by decide +kernel) (pa_cons (pv 11) pa_nil)) pa_nil))) pa_nil))))
      (pss_cons (ps_ret (pe_g (Prom.call G__law_is (hr.mono (by decide)) hg (passA (E := E))) (by rfl) T.g__law_is T.k__law_is (pa_cons (LamX.pe_lamcall (T := Tb) (k := 5) (by rfl) T.g__law_heard T.k__law_heard lkH hcH hbH sc__law_heard rfl (.inl rfl) (ok__law_heard (Tb := Tb) T) LD__law_puts_right.tb hcode LD__law_puts_right.mem LD__law_puts_right.hu (hr.mono (by decide)) (LamX.lamS_by (by show LamX.lamSB (defScope s__law_puts_right) _ = true; decide +kernel)) rfl (fun _ _ _ _ _ => rfl) (fun A outer s H E f c' hr => (pe_g (PromO.call G__law_store (hr.mono (by decide)) (pass_on rfl rfl rfl rfl)) (by rfl) T.g__law_store T.k__law_store (pa_cons (pv 1) (pa_cons (pe_tup (pa_cons (pv 3) (pa_cons (pv 4) pa_nil))) (pa_cons (pv 8) pa_nil)))))) (pa_cons (pe_lst (pa_cons pe_str (pa_cons (pv 12) pa_nil))) pa_nil)))) pss_nil))))))))))))), ?_⟩
  exact fn_of3 (F := F__law_puts_right) (envU := fun _ => List.replicate 14 .no) h (fun l_pen_here l_row l_size => rfl) (fun p c l_pen_here l_row l_size => (ss_unp (se_tup (sa_cons (se_cl srl_sp0 (sa_cons se_var (sa_cons se_var sa_nil))) (sa_cons (se_cl srl_sp0 (sa_cons se_var sa_nil)) sa_nil))) (fun d12 => sx_tup2 (fun l_place10 l_odd10 => (ss_if (fun (w27 : Unit) => [.fz l_pen_here, .fz l_row, .fz l_size, .no, .no, .no, .no, .no, .no, .fz l_place10, .fz l_odd10, .no, .no, .no]) (sb_not (sb_tb (se_cl srl_sp0 (sa_cons (se_lam fun E => (se_cl srl_sp0 (sa_cons se_var (sa_cons se_var (sa_cons se_var sa_nil))))) (sa_cons (se_lst (sa_cons (se_str (by decide)) (sa_cons se_int sa_nil))) sa_nil))))) (ss_ret se_bl) (ss_nx (.s (.s (.s (.s (.s (.s (.s (.s (.s (.s (.s (.s (.s (.s .nil))))))))))))))) (fun (w27 : Unit) => (ss_asg (se_cl srl_sp0 (sa_cons se_var (sa_cons (se_op sr_add se_var se_int) sa_nil))) (fun l_begin27 => (ss_asg (se_op sr_add se_var (se_cl srl_sp0 (sa_cons se_var (sa_cons (se_op sr_sub (se_op sr_add se_var se_int) se_var) sa_nil)))) (fun l_end34 => (ss_asg (se_op sr_sub se_var se_var) (fun l_many45 => (ss_asg (se_lst (sa_cons se_non (sa_cons se_int (sa_cons (se_str (by decide)) (sa_cons se_dct (sa_cons (se_op sr_mul (se_lst (sa_cons se_int sa_nil)) (se_op sr_add se_var se_int)) (sa_cons (se_op sr_mulU (se_tup (sa_cons se_int sa_nil)) (se_op sr_add se_var se_int)) (sa_cons (se_op sr_mul (se_lst (sa_cons se_non sa_nil)) (se_op sr_add se_var se_int)) sa_nil)))))))) (fun l_values48 => (ss_if (fun (w84 : D) => [.fz l_pen_here, .fz l_row, .fz l_size, .fz l_begin27, .fz l_end34, .fz l_many45, .fz w84, .no, .no, .fz l_place10, .fz l_odd10, .no, .no, .no]) (sb_tst (se_op sr_gt se_var se_int)) (ss_asg (se_op sr_add se_var (se_lst (sa_cons (se_lst sa_nil) (sa_cons (se_tup sa_nil) (sa_cons (se_op sr_mul (se_lst (sa_cons se_non sa_nil)) (se_op sr_sub se_var se_int)) (sa_cons (se_nox (se_cl srl_mk0 (sa_cons (se_op sr_mul (se_lst (sa_cons se_int sa_nil)) se_var) sa_nil))) (sa_cons (se_cb srl_dictP (sa_cons (se_lc (si_rg1 (sa_cons se_var sa_nil)) (fun l_k99 => (sc_map (se_tup (sa_cons se_var (sa_cons se_int sa_nil)))))) sa_nil)) sa_nil))))))) (fun l_values84 => (ss_nx (.s (.s (.s (.s (.s (.s (.s (.s (.s (.s (.s (.s (.s (.s .nil))))))))))))))))) (ss_nx (.s (.s (.s (.s (.s (.s (.s (.s (.s (.s (.s (.s (.s (.s .nil))))))))))))))) (fun (w84 : D) => (ss_asg (se_cl srl_sp0 (sa_cons se_var (sa_cons se_var sa_nil))) (fun l_wrong118 => (ss_if (fun (w142 : Unit) => [.fz l_pen_here, .fz l_row, .fz l_size, .fz l_begin27, .fz l_end34, .fz l_many45, .fz w84, .fz l_wrong118, .no, .fz l_place10, .fz l_odd10, .no, .no, .no]) (sb_not (sb_tb (se_cl srl_sp0 (sa_cons (se_lam fun E => (se_cl srl_sp0 (sa_cons se_var (sa_cons (se_tup (sa_cons se_var (sa_cons se_var sa_nil))) (sa_cons se_var sa_nil))))) (sa_cons (se_lst (sa_cons (se_str (by decide)) (sa_cons se_non sa_nil))) sa_nil))))) (ss_ret se_bl) (ss_nx (.s (.s (.s (.s (.s (.s (.s (.s (.s (.s (.s (.s (.s (.s .nil))))))))))))))) (fun (w142 : Unit) => (ss_if (fun (w145 : Unit) => [.fz l_pen_here, .fz l_row, .fz l_size, .fz l_begin27, .fz l_end34, .fz l_many45, .fz w84, .fz l_wrong118, .no, .fz l_place10, .fz l_odd10, .no, .no, .no]) (sb_tst (se_op sr_eq se_var se_int)) (ss_ret se_bl) (ss_nx (.s (.s (.s (.s (.s (.s (.s (.s (.s (.s (.s (.s (.s (.s .nil))))))))))))))) (fun (w145 : Unit) => (ss_unp (se_cl srl_sp0 (sa_cons se_var (sa_cons (se_op sr_mul (se_lst (sa_cons se_int sa_nil)) se_var) sa_nil))) (fun d155 => sx_tup2 (fun l_bent_here153 l_first153 => (ss_asg (se_cl srl_sp0 (sa_cons se_var (sa_cons (se_lst (sa_cons se_var (sa_cons (se_cb srl_tup (sa_cons se_var sa_nil)) sa_nil))) sa_nil))) (fun l_passed155 => (ss_ret (se_cl srl_sp0 (sa_cons (se_lam fun E => (se_cl srl_sp0 (sa_cons se_var (sa_cons (se_tup (sa_cons se_var (sa_cons se_var sa_nil))) (sa_cons se_var sa_nil))))) (sa_cons (se_lst (sa_cons (se_str (by decide)) (sa_cons se_var sa_nil))) sa_nil)))))))))))))))))))))))))))))))
abbrev N_law : List Str := ["_law_script", "_law_pen_here", "_law_turn", "_law_lot", "_law_row", "_law_again", "_law_most", "_law_k"]
theorem sc_law : FnScope N_law ["_law_script"] (defScope s_law) := ⟨rfl, rfl, rfl, by decide +kernel, rfl, by decide +kernel, by decide +kernel⟩
def F_law : Tr D :=
  fin (bdF (bd (bd (bd (.ok (.int 5)) fun v1 => (bd (.ok []) fun r2 => .ok (v1 :: r2))) (ul1 rg1)) fun ds => forF (fun (d4 : D) (w3 : Unit) => (bd (bd (bd (bd (bd (.ok (.int 1)) fun v11 => (bd (bd (bd (.ok .pen) fun v9 => (bd (bd (.ok (.int 7)) fun v7 => (bd (.ok []) fun r8 => .ok (v7 :: r8))) fun r10 => .ok (v9 :: r10))) (ul2 F_draw)) fun v12 => addD v11 v12)) fun v13 => (bd (.ok []) fun r14 => .ok (v13 :: r14))) (ul1 rg1)) fun ds => bd (lcF (fun l_k14 => nox (bd (bd (bd (.ok .pen) fun v18 => (bd (bd (.ok (.int 9)) fun v16 => (bd (.ok []) fun r17 => .ok (v16 :: r17))) fun r19 => .ok (v18 :: r19))) (ul2 F_draw)) fun y => .ok (some y))) ds) fun r => .ok (.lst r)) fun l_lot5 => (bdF (W' := Unit) (bd (bd (bd (bd (bd (.ok .pen) fun v22 => (bd (bd (.ok l_lot5) fun v20 => (bd (.ok []) fun r21 => .ok (v20 :: r21))) fun r23 => .ok (v22 :: r23))) (ul2 F__law_made_right)) asB) fun k => .ok (!k)) fun k => if k = true then (bd (.ok (.bl false)) fun d => .ok (.rt d)) else (.ok (.nx ()))) fun (w24 : Unit) => (bd (nox (bd (bd (.ok l_lot5) fun v26 => (bd (.ok []) fun r27 => .ok (v26 :: r27))) (fun ds => bd ((fun fs => ul1 (F_Row___init__ fs)) [] ds) fun fs => .ok (.obj "Row" fs)))) fun l_row24 => (bdF (bd (bd (bd (.ok (.int 3)) fun v28 => (bd (.ok []) fun r29 => .ok (v28 :: r29))) (ul1 rg1)) fun ds => forF (fun (d31 : D) (w30 : Unit) => (bdF (W' := Unit) (bd (bd (bd (bd (bd (bd (.ok .pen) fun v39 => (bd (bd (.ok l_row24) fun v37 => (bd (bd (bd (bd (.ok l_lot5) fun v33 => (bd (.ok []) fun r34 => .ok (v33 :: r34))) (ul1 lenD)) fun v35 => (bd (.ok []) fun r36 => .ok (v35 :: r36))) fun r38 => .ok (v37 :: r38))) fun r40 => .ok (v39 :: r40))) (ul3 F__law_indexes_right)) asB) fun k => .ok (!k)) fun k => if k = true then .ok true else (bd (bd (bd (bd (.ok .pen) fun v47 => (bd (bd (.ok l_row24) fun v45 => (bd (bd (bd (bd (.ok l_lot5) fun v41 => (bd (.ok []) fun r42 => .ok (v41 :: r42))) (ul1 lenD)) fun v43 => (bd (.ok []) fun r44 => .ok (v43 :: r44))) fun r46 => .ok (v45 :: r46))) fun r48 => .ok (v47 :: r48))) (ul3 F__law_puts_right)) asB) fun k => .ok (!k))) fun k => if k = true then (bd (.ok (.bl false)) fun d => .ok (.rt d)) else (.ok (.nx ()))) fun (w49 : Unit) => (.ok (.nx ())))) ds ()) fun (w30 : Unit) => (bdF (W' := Unit) (bd (bd (bd (nox (bd (.ok l_row24) fun o50 => (isO "Row" o50 fun _ => (ul1 F_Row_contents) [o50]))) fun v53 => (bd (bd (bd (.ok l_lot5) fun v51 => (bd (.ok []) fun r52 => .ok (v51 :: r52))) (ul1 tupD)) fun v54 => neD v53 v54)) asB) fun k => if k = true then (bd (.ok (.bl false)) fun d => .ok (.rt d)) else (.ok (.nx ()))) fun (w55 : Unit) => (.ok (.nx ())))))))) ds ()) fun (w3 : Unit) => (bd (bd (bd (bd (bd (bd (.ok (.int 1)) fun v56 => (bd (.ok []) fun r57 => .ok (v56 :: r57))) fun ds => if ds.length ≤ sizeLine then .ok (.lst ds) else .bad) fun v58 => (bd (.ok (.int 1999)) fun v59 => mulD v58 v59)) fun v68 => (bd (bd (nox (bd (bd (bd (bd (.ok (.int 4)) fun v62 => (bd (bd (.ok (.int 5)) fun v60 => (bd (.ok []) fun r61 => .ok (v60 :: r61))) fun r63 => .ok (v62 :: r63))) fun ds => if ds.length ≤ sizeLine then .ok (.lst ds) else .bad) fun v64 => (bd (.ok []) fun r65 => .ok (v64 :: r65))) (fun ds => bd ((fun fs => ul1 (F_Row___init__ fs)) [] ds) fun fs => .ok (.obj "Row" fs)))) fun v66 => (bd (.ok []) fun r67 => .ok (v66 :: r67))) fun r69 => .ok (v68 :: r69))) fun ds => if ds.length ≤ sizeLine then .ok (.tup ds) else .bad) fun d71 => un2 d71 fun l_most69 l_row69 => (bdF (W' := Unit) (bd (bd (bd (bd (bd (nox (F__law_heard (bd (bd (.ok l_row69) fun v72 => (bd (.ok []) fun r73 => .ok (v72 :: r73))) (fun ds => bd ((fun fs => ul1 (F_Row___init__ fs)) [] ds) fun fs => .ok (.obj "Row" fs))))) fun v80 => (bd (bd (bd (bd (.ok (.str "row")) fun v76 => (bd (bd (.ok .non) fun v74 => (bd (.ok []) fun r75 => .ok (v74 :: r75))) fun r77 => .ok (v76 :: r77))) fun ds => if ds.length ≤ sizeLine then .ok (.lst ds) else .bad) fun v78 => (bd (.ok []) fun r79 => .ok (v78 :: r79))) fun r81 => .ok (v80 :: r81))) (ul2 F__law_is)) asB) fun k => .ok (!k)) fun k => if k = true then (bd (.ok (.bl false)) fun d => .ok (.rt d)) else (.ok (.nx ()))) fun (w82 : Unit) => (bdF (W' := Unit) (bd (bd (bd (bd (bd (nox (F__law_heard (bd (bd (.ok (.dic [(.inl 1, .int 2)])) fun v83 => (bd (.ok []) fun r84 => .ok (v83 :: r84))) (fun ds => bd ((fun fs => ul1 (F_Row___init__ fs)) [] ds) fun fs => .ok (.obj "Row" fs))))) fun v91 => (bd (bd (bd (bd (.ok (.str "row")) fun v87 => (bd (bd (.ok .non) fun v85 => (bd (.ok []) fun r86 => .ok (v85 :: r86))) fun r88 => .ok (v87 :: r88))) fun ds => if ds.length ≤ sizeLine then .ok (.lst ds) else .bad) fun v89 => (bd (.ok []) fun r90 => .ok (v89 :: r90))) fun r92 => .ok (v91 :: r92))) (ul2 F__law_is)) asB) fun k => .ok (!k)) fun k => if k = true then (bd (.ok (.bl false)) fun d => .ok (.rt d)) else (.ok (.nx ()))) fun (w93 : Unit) => (bdF (W' := Unit) (bd (bd (bd (bd (bd (nox (F__law_heard (bd (bd (.ok l_row69) fun v108 => (bd (bd (bd (bd (.ok (.int 0)) fun v96 => (bd (bd (.ok (.int 2)) fun v94 => (bd (.ok []) fun r95 => .ok (v94 :: r95))) fun r97 => .ok (v96 :: r97))) fun ds => if ds.length ≤ sizeLine then .ok (.tup ds) else .bad) fun v106 => (bd (bd (bd (bd (bd (bd (.ok (.int 1)) fun v100 => (bd (bd (.ok (.int 2)) fun v98 => (bd (.ok []) fun r99 => .ok (v98 :: r99))) fun r101 => .ok (v100 :: r101))) fun ds => if ds.length ≤ sizeLine then .ok (.lst ds) else .bad) fun v102 => (bd (.ok []) fun r103 => .ok (v102 :: r103))) (fun ds => bd ((fun fs => ul1 (F_Row___init__ fs)) [] ds) fun fs => .ok (.obj "Row" fs))) fun v104 => (bd (.ok []) fun r105 => .ok (v104 :: r105))) fun r107 => .ok (v106 :: r107))) fun r109 => .ok (v108 :: r109))) (ul3 F__law_store)))) fun v116 => (bd (bd (bd (bd (.ok (.str "row")) fun v112 => (bd (bd (.ok .non) fun v110 => (bd (.ok []) fun r111 => .ok (v110 :: r111))) fun r113 => .ok (v112 :: r113))) fun ds => if ds.length ≤ sizeLine then .ok (.lst ds) else .bad) fun v114 => (bd (.ok []) fun r115 => .ok (v114 :: r115))) fun r117 => .ok (v116 :: r117))) (ul2 F__law_is)) asB) fun k => .ok (!k)) fun k => if k = true then (bd (.ok (.bl false)) fun d => .ok (.rt d)) else (.ok (.nx ()))) fun (w118 : Unit) => (bd (bd (bd (bd (bd (nox (F__law_heard (bd (bd (bd (.ok l_most69) fun v121 => (bd (bd (bd (.ok (.bl true)) fun v119 => (bd (.ok []) fun r120 => .ok (v119 :: r120))) fun ds => if ds.length ≤ sizeLine then .ok (.lst ds) else .bad) fun v122 => addD v121 v122)) fun v123 => (bd (.ok []) fun r124 => .ok (v123 :: r124))) (fun ds => bd ((fun fs => ul1 (F_Row___init__ fs)) [] ds) fun fs => .ok (.obj "Row" fs))))) fun v131 => (bd (bd (bd (bd (.ok (.str "row")) fun v127 => (bd (bd (.ok (.int 1999)) fun v125 => (bd (.ok []) fun r126 => .ok (v125 :: r126))) fun r128 => .ok (v127 :: r128))) fun ds => if ds.length ≤ sizeLine then .ok (.lst ds) else .bad) fun v129 => (bd (.ok []) fun r130 => .ok (v129 :: r130))) fun r132 => .ok (v131 :: r132))) (ul2 F__law_is)) asB) fun k => if k = true then (bd (bd (bd (nox (bd (bd (bd (.ok l_most69) fun v135 => (bd (bd (bd (.ok (.int 2)) fun v133 => (bd (.ok []) fun r134 => .ok (v133 :: r134))) fun ds => if ds.length ≤ sizeLine then .ok (.lst ds) else .bad) fun v136 => addD v135 v136)) fun v137 => (bd (.ok []) fun r138 => .ok (v137 :: r138))) (fun ds => bd ((fun fs => ul1 (F_Row___init__ fs)) [] ds) fun fs => .ok (.obj "Row" fs)))) fun v139 => (bd (.ok []) fun r140 => .ok (v139 :: r140))) (ul1 (lenO "Row" (ul1 F_Row___len__)))) fun v141 => (bd (.ok (.int 2000)) fun v142 => eqD v141 v142)) else .ok (.bl false)) fun d => .ok (.rt d)))))))
theorem ok_law (F : FnA K d_law fd) (T : Tx K mg) (hyes : Yes F_law) (G__law_pen : PromO P w K mg base CX0 1 (gd "_law_pen" K) [] (spPn K)) (G__law_draw : PromO P w K mg base CX0 1 (gd "_law_draw" K) [] (spF K Tb (ul2 F_draw))) (G__law_made_right : Prom P w K mg base CX0 9 (gd "_law_made_right" K) [] (spF K Tb (ul2 F__law_made_right))) (G_Row___init__ : PromO P w K mg base (L2.CX P w) 4 (md "Row" "__init__" K) [] (spI K Tb "Row" (fun fs => ul1 (F_Row___init__ fs)))) (G__law_indexes_right : Prom P w K mg base CX0 8 (gd "_law_indexes_right" K) [] (spF K Tb (ul3 F__law_indexes_right))) (G__law_puts_right : Prom P w K mg base CX0 8 (gd "_law_puts_right" K) [] (spF K Tb (ul3 F__law_puts_right))) (G_Row_contents : PromO P w K mg base CX0 1 (propG "Row" "contents" K) [] (spF K Tb (ul1 F_Row_contents))) (G__law_is : Prom P w K mg base CX0 1 (gd "_law_is" K) [] (spF K Tb (ul2 F__law_is))) (GH__law_heard : HrdP K d__law_heard ["_law_ask"]) (LD_law : LamD base mg K Tb d_law ("law", none)) (G__law_store : PromO P w K mg base (L2.CX P w) 5 (gd "_law_store" K) [] (spF K Tb (ul3 F__law_store))) (G_Row___len__ : PromO P w K mg base CX0 1 (md "Row" "__len__" K) [] (spF K Tb (ul1 F_Row___len__))) : FnG P w K mg base CX0 10 (d_law.adr K) fd ["_law_script"] (spLaw K Tb) := by
  obtain ⟨fdH, FH, hbH⟩ := GH__law_heard
  obtain ⟨ocH, odH, dVH, kVH, docH, pmH, anH, cdvH, ctH, oslH, rfl, lkH, hcH, _, _⟩ := FH.ex
  have ecode : fd.code = .ref (He.cT K ("law", none)).1 := codeOf_fn (p := ("law", none)) F
  refine fnG1 F sc_law (fun vs H Q E h => spLaw_len h) (fun cdv A outer s H vs Q E hcdv hr hg h => ?_)
  have hcode : cdv = .ref (He.cT K ("law", none)).1 := hcdv.trans ecode
  have hu100 := Nat.lt_of_le_of_lt (Nat.add_le_add_left (show 102 ≤ 16 * 9 + 200 by decide) _) (show _ + (16 * 9 + 200) < cLine from hr.un)
  refine ⟨_, pss_cons (ps_set (i := 1) sc_law.nd rfl (.inr rfl) (pe_g (PromO.call G__law_pen (hr.mono (by decide)) (passA (E := E))) (by rfl) T.g__law_pen T.k__law_pen (pa_cons (pv 0) pa_nil)))
      (pss_cons (ps_for PassesOwn.never rfl (pi_range1 (by rfl) T.f_range (pa_cons pe_int pa_nil)) (pg_name (i := 2) sc_law.nd rfl (.inl rfl))
      (pss_cons (ps_setLc (i := 3) (own := [("_law_k", 7)]) (g := gName 7) (by rfl) sc_law.nd rfl rfl (sw_true rfl rfl rfl (by decide +kernel)) (pi_range1 (by rfl) T.f_range (pa_cons (pe_op (op_addA (K := K) rfl) pe_int (pe_g (PromO.call G__law_draw (hr.mono (by decide)) (passA (E := EF))) (by rfl) T.g__law_draw T.k__law_draw (pa_cons (pv 1) (pa_cons pe_int pa_nil)))) pa_nil)) (blkOk_by (own := [("_law_k", 7)]) (N := N_law) (sc := defScope s_law) (by decide +kernel)) (fun _ _ _ _ _ => pg_name (i := 7) sc_law.nd rfl (Or.inl rfl)) (fun _ _ _ _ _ => pts_nil) (fun _ _ _ _ _ => (pe_g (PromO.call G__law_draw (hr.mono (by decide)) (passA (E := EF))) (by rfl) T.g__law_draw T.k__law_draw (pa_cons (pv 1) (pa_cons pe_int pa_nil)))))
      (pss_cons (ps_if (pt_not (pt_val (pe_g (Prom.call G__law_made_right (hr.mono (by decide)) hg (passA (E := EF))) (by rfl) T.g__law_made_right T.k__law_made_right (pa_cons (pv 1) (pa_cons (pv 3) pa_nil)))))
      (pss_cons (ps_ret pe_bl) pss_nil) pss_nil)
      (pss_cons (ps_set (i := 4) sc_law.nd rfl (.inr rfl) (pe_g (PromO.make T.mk_Row G_Row___init__ (hr.mono (by decide)) passF) (by rfl) T.g_Row T.k_Row (pa_cons (pv 3) pa_nil)))
      (pss_cons (ps_for PassesOwn.never rfl (pi_range1 (by rfl) T.f_range (pa_cons pe_int pa_nil)) (pg_name (i := 5) sc_law.nd rfl (.inl rfl))
      (pss_cons (ps_if (PW.pt (pw_or (pt_not (pt_val (pe_g (Prom.call G__law_indexes_right (hr.mono (by decide)) hg (passA (E := EF))) (by rfl) T.g__law_indexes_right T.k__law_indexes_right (pa_cons (pv 1) (pa_cons (pv 4) (pa_cons (pe_callB (cr_len (K := K) rfl) (by rfl) T.f_len (by decide +kernel) (pa_cons (pv 3) pa_nil)) pa_nil)))))) (pw_or1 (pt_not (pt_val (pe_g (Prom.call G__law_puts_right (hr.mono (by decide)) hg (passA (E := EF))) (by rfl) T.g__law_puts_right T.k__law_puts_right (pa_cons (pv 1) (pa_cons (pv 4) (pa_cons (pe_callB (cr_len (K := K) rfl) (by rfl) T.f_len (by decide +kernel) (pa_cons (pv 3) pa_nil)) pa_nil)))))))))
      (pss_cons (ps_ret pe_bl) pss_nil) pss_nil)
      pss_nil))
      (pss_cons (ps_if (pt_cmpR (op_neA (K := K) rfl hr.units) (pe_po (pv 4) T.cl_Row T.pr_Row_contents G_Row_contents (hr.mono (by decide)) (passA (E := EF))) (pe_callTy (cr_tupOf (K := K) rfl) (by rfl) T.f_tuple (by decide +kernel) (pa_cons (pv 3) pa_nil)) (nomark _))
      (pss_cons (ps_ret pe_bl) pss_nil) pss_nil)
      pss_nil))))))
      (pss_cons (ps_asg (pe_tup (pa_cons (pe_op op_mulA (pe_lst (pa_cons pe_int pa_nil)) pe_int) (pa_cons (pe_g (PromO.make T.mk_Row G_Row___init__ (hr.mono (by decide)) passF) (by rfl) T.g_Row T.k_Row (pa_cons (pe_lst (pa_cons pe_int (pa_cons pe_int pa_nil))) pa_nil)) pa_nil))) (pg_tup rfl (pgs_cons (pg_name (i := 6) sc_law.nd rfl (.inr rfl)) (pgs_cons (pg_name (i := 4) sc_law.nd rfl (.inr rfl)) pgs_nil))))
      (pss_cons (ps_if (pt_not (pt_val (pe_g (Prom.call G__law_is (hr.mono (by decide)) hg (passA (E := EF))) (by rfl) T.g__law_is T.k__law_is (pa_cons (LamX.pe_lamcall (T := Tb) (k := 7) (by rfl) T.g__law_heard T.k__law_heard lkH hcH hbH sc__law_heard rfl (.inl rfl) (ok__law_heard (Tb := Tb) T) LD_law.tb hcode LD_law.mem LD_law.hu (hr.mono (by decide)) (LamX.lamS_by (by show LamX.lamSB (defScope s_law) _ = true; decide +kernel)) rfl (fun _ _ _ _ _ => rfl) (fun A outer s H E f c' hr => (pe_g (PromO.make T.mk_Row G_Row___init__ (hr.mono (by decide)) (pass_on rfl rfl rfl rfl)) (by rfl) T.g_Row T.k_Row (pa_cons (pv 4) pa_nil)))) (pa_cons (pe_lst (pa_cons pe_str (pa_cons pe_non pa_nil))) pa_nil)))))
      (pss_cons (ps_ret pe_bl) pss_nil) pss_nil)
      (pss_cons (ps_if (pt_not (pt_val (pe_g (Prom.call G__law_is (hr.mono (by decide)) hg (passA (E := EF))) (by rfl) T.g__law_is T.k__law_is (pa_cons (LamX.pe_lamcall (T := Tb) (k := 7) (by rfl) T.g__law_heard T.k__law_heard lkH hcH hbH sc__law_heard rfl (.inl rfl) (ok__law_heard (Tb := Tb) T) LD_law.tb hcode LD_law.mem LD_law.hu (hr.mono (by decide)) (LamX.lamS_by (by show LamX.lamSB (defScope s_law) _ = true; decide +kernel)) rfl (fun _ _ _ _ _ => rfl) (fun A outer s H E f c' hr => (pe_g (PromO.make T.mk_Row G_Row___init__ (hr.mono (by decide)) (pass_on rfl rfl rfl rfl)) (by rfl) T.g_Row T.k_Row (pa_cons (pe_disp (pps_cons pe_int pe_int pps_nil) (by rfl) (by rfl) (by intro z; cases z) (by decide)) pa_nil)))) (pa_cons (pe_lst (pa_cons pe_str (pa_cons pe_non pa_nil))) pa_nil)))))
      (pss_cons (ps_ret pe_bl) pss_nil) pss_nil)
      (pss_cons (ps_if (pt_not (pt_val (pe_g (Prom.call G__law_is (hr.mono (by decide)) hg (passA (E := EF))) (by rfl) T.g__law_is T.k__law_is (pa_cons (LamX.pe_lamcall (T := Tb) (k := 7) (by rfl) T.g__law_heard T.k__law_heard lkH hcH hbH sc__law_heard rfl (.inl rfl) (ok__law_heard (Tb := Tb) T) LD_law.tb hcode LD_law.mem LD_law.hu (hr.mono (by decide)) (LamX.lamS_by (by show LamX.lamSB (defScope s_law) _ = true; decide +kernel)) rfl (fun _ _ _ _ _ => rfl) (fun A outer s H E f c' hr => (pe_g (PromO.call G__law_store (hr.mono (by decide)) (pass_on rfl rfl rfl rfl)) (by rfl) T.g__law_store T.k__law_store (pa_cons (pv 4) (pa_cons (pe_tup (pa_cons pe_int (pa_cons pe_int pa_nil))) (pa_cons (pe_g (PromO.make T.mk_Row G_Row___init__ (hr.mono (by decide)) (pass_on rfl rfl rfl rfl)) (by rfl) T.g_Row T.k_Row (pa_cons (pe_lst (pa_cons pe_int (pa_cons pe_int pa_nil))) pa_nil)) pa_nil)))))) (pa_cons (pe_lst (pa_cons pe_str (pa_cons pe_non pa_nil))) pa_nil)))))
      (pss_cons (ps_ret pe_bl) pss_nil) pss_nil)
      (pss_cons (ps_ret (pe_and (pe_g (Prom.call G__law_is (hr.mono (by decide)) hg (passA (E := EF))) (by rfl) T.g__law_is T.k__law_is (pa_cons (LamX.pe_lamcall (T := Tb) (k := 7) (by rfl) T.g__law_heard T.k__law_heard lkH hcH hbH sc__law_heard rfl (.inl rfl) (ok__law_heard (Tb := Tb) T) LD_law.tb hcode LD_law.mem LD_law.hu (hr.mono (by decide)) (LamX.lamS_by (by show LamX.lamSB (defScope s_law) _ = true; decide +kernel)) rfl (fun _ _ _ _ _ => rfl) (fun A outer s H E f c' hr => (pe_g (PromO.make T.mk_Row G_Row___init__ (hr.mono (by decide)) (pass_on rfl rfl rfl rfl)) (by rfl) T.g_Row T.k_Row (pa_cons (pe_op (op_addA (K := K) rfl) (pv 6) (pe_lst (pa_cons pe_bl pa_nil))) pa_nil)))) (pa_cons (pe_lst (pa_cons pe_str (pa_cons pe_int pa_nil))) pa_nil))) (pe_one (pe_cmpR (op_eqA (K := K) rfl hr.units) (pe_callB (cr_lenO T.mt_Row___len__ G_Row___len__ (hr.mono (by decide)) (passA (E := EF))) (by rfl) T.f_len (by decide +kernel) (pa_cons (pe_g (PromO.make T.mk_Row G_Row___init__ (hr.mono (by decide)) passF) (by rfl) T.g_Row T.k_Row (pa_cons (pe_op (op_addA (K := K) rfl) (pv 6) (pe_lst (pa_cons pe_int pa_nil))) pa_nil)) pa_nil)) pe_int (nomark _))))) pss_nil)))))), ?_⟩
  exact law_of (N := N_law) (i := 1) (n := 7) (F := F_law) (envU := fun _ => List.replicate 8 .no) hyes h rfl (by decide) (by decide) rfl (fun p c => (ss_for (fun (w3 : Unit) => [.no, .fz .pen, .no, .no, .no, .no, .no, .no]) (si_rg1 (sa_cons se_int sa_nil)) (.s (.s (.s (.s (.s (.s (.s (.s .nil)))))))) (fun (d4 : D) (w3 : Unit) => (sx_name (ss_asg (se_lc (si_rg1 (sa_cons (se_op sr_add se_int (se_cl srl_sp0 (sa_cons se_var (sa_cons se_int sa_nil)))) sa_nil)) (fun l_k14 => (sc_map (se_cl srl_sp0 (sa_cons se_var (sa_cons se_int sa_nil)))))) (fun l_lot5 => (ss_if (fun (w24 : Unit) => [.no, .fz .pen, .fz d4, .fz l_lot5, .no, .no, .no, .no]) (sb_not (sb_tb (se_cl srl_sp0 (sa_cons se_var (sa_cons se_var sa_nil))))) (ss_ret se_bl) (ss_nx (.s (.s (.s (.s (.s (.s (.s (.s .nil))))))))) (fun (w24 : Unit) => (ss_asg (se_nox (se_cl srl_mk0 (sa_cons se_var sa_nil))) (fun l_row24 => (ss_for (fun (w30 : Unit) => [.no, .fz .pen, .fz d4, .fz l_lot5, .fz l_row24, .no, .no, .no]) (si_rg1 (sa_cons se_int sa_nil)) (.s (.s (.s (.s (.s (.s (.s (.s .nil)))))))) (fun (d31 : D) (w30 : Unit) => (sx_name (ss_if (fun (w49 : Unit) => [.no, .fz .pen, .fz d4, .fz l_lot5, .fz l_row24, .fz d31, .no, .no]) (sb_or (sb_not (sb_tb (se_cl srl_sp0 (sa_cons se_var (sa_cons se_var (sa_cons (se_cb srl_len (sa_cons se_var sa_nil)) sa_nil)))))) (sb_not (sb_tb (se_cl srl_sp0 (sa_cons se_var (sa_cons se_var (sa_cons (se_cb srl_len (sa_cons se_var sa_nil)) sa_nil))))))) (ss_ret se_bl) (ss_nx (.s (.s (.s (.s (.s (.s (.s (.s .nil))))))))) (fun (w49 : Unit) => (ss_nx (.s (.s (.s (.s (.s (.n (.s (.s .nil))))))))))))) (fun (w30 : Unit) => (ss_if (fun (w55 : Unit) => [.no, .fz .pen, .fz d4, .fz l_lot5, .fz l_row24, .no, .no, .no]) (sb_tst (se_op sr_ne (se_nox (se_pr se_var)) (se_cb srl_tup (sa_cons se_var sa_nil)))) (ss_ret se_bl) (ss_nx (.s (.s (.s (.s (.s (.s (.s (.s .nil))))))))) (fun (w55 : Unit) => (ss_nx (.s (.s (.n (.n (.n (.s (.s (.s .nil))))))))))))))))))))) (fun (w3 : Unit) => (ss_unp (se_tup (sa_cons (se_op sr_mul (se_lst (sa_cons se_int sa_nil)) se_int) (sa_cons (se_nox (se_cl srl_mk0 (sa_cons (se_lst (sa_cons se_int (sa_cons se_int sa_nil))) sa_nil))) sa_nil))) (fun d71 => sx_tup2 (fun l_most69 l_row69 => (ss_if (fun (w82 : Unit) => [.no, .fz .pen, .no, .no, .fz l_row69, .no, .fz l_most69, .no]) (sb_not (sb_tb (se_cl srl_sp0 (sa_cons (se_lam fun E => (se_cl srl_mk0 (sa_cons se_var sa_nil))) (sa_cons (se_lst (sa_cons (se_str (by decide)) (sa_cons se_non sa_nil))) sa_nil))))) (ss_ret se_bl) (ss_nx (.s (.s (.s (.s (.s (.s (.s (.s .nil))))))))) (fun (w82 : Unit) => (ss_if (fun (w93 : Unit) => [.no, .fz .pen, .no, .no, .fz l_row69, .no, .fz l_most69, .no]) (sb_not (sb_tb (se_cl srl_sp0 (sa_cons (se_lam fun E => (se_cl srl_mk0 (sa_cons (se_dispC (trs := _) [(.inl 1, .int 2)] [(.inl 1, .int 2)] rfl rfl (fun _ _ => (.cons (.int _) .nil)) (by rfl) (by decide)) sa_nil))) (sa_cons (se_lst (sa_cons (se_str (by decide)) (sa_cons se_non sa_nil))) sa_nil))))) (ss_ret se_bl) (ss_nx (.s (.s (.s (.s (.s (.s (.s (.s .nil))))))))) (fun (w93 : Unit) => (ss_if (fun (w118 : Unit) => [.no, .fz .pen, .no, .no, .fz l_row69, .no, .fz l_most69, .no]) (sb_not (sb_tb (se_cl srl_sp0 (sa_cons (se_lam fun E => (se_cl srl_sp0 (sa_cons se_var (sa_cons (se_tup (sa_cons se_int (sa_cons se_int sa_nil))) (sa_cons (se_cl srl_mk0 (sa_cons (se_lst (sa_cons se_int (sa_cons se_int sa_nil))) sa_nil)) sa_nil))))) (sa_cons (se_lst (sa_cons (se_str (by decide)) (sa_cons se_non sa_nil))) sa_nil))))) (ss_ret se_bl) (ss_nx (.s (.s (.s (.s (.s (.s (.s (.s .nil))))))))) (fun (w118 : Unit) => (ss_ret (se_andV (se_cl srl_sp0 (sa_cons (se_lam fun E => (se_cl srl_mk0 (sa_cons (se_op sr_add se_var (se_lst (sa_cons se_bl sa_nil))) sa_nil))) (sa_cons (se_lst (sa_cons (se_str (by decide)) (sa_cons se_int sa_nil))) sa_nil))) (se_op sr_eq (se_cb srl_lenO (sa_cons (se_nox (se_cl srl_mk0 (sa_cons (se_op sr_add se_var (se_lst (sa_cons se_int sa_nil))) sa_nil))) sa_nil)) se_int)))))))))))))))
end
end Lw
end
section
namespace Gp
open PySem
section
variable {α β γ : Type}
def Bo (P : α → Prop) : Tr α → Nat → Prop
  | .ok a, _ => P a
  | .ex _ _, _ => False
  | .bad, _ => False
  | .draw m k, n => ∃ n', n = n' + 1 ∧ 0 < m ∧ m < 10 ^ 100 ∧ ∀ d, 0 ≤ d → d < m → Bo P (k d) n'
theorem Bo.mono {P Q : α → Prop} (h : ∀ a, P a → Q a) : ∀ {m : Tr α} {n k : Nat}, n ≤ k → Bo P m n → Bo Q m k
  | .ok a, _, _, _, z => h a z
  | .ex _ _, _, _, _, z => z
  | .bad, _, _, _, z => z
  | .draw m f, n, k, l, ⟨n', e, h1, h2, h3⟩ => ⟨k - 1, by omega, h1, h2, fun d d0 d1 => Bo.mono h (m := f d) (n := n') (by omega) (h3 d d0 d1)⟩
theorem Bo.bd {P : α → Prop} {Q : β → Prop} {k : α → Tr β} {b : Nat} : ∀ {m : Tr α} {a : Nat}, Bo P m a → (∀ x, P x → Bo Q (k x) b) → Bo Q (bd m k) (a + b)
  | .ok x, a, h, hk => (hk x h).mono (fun _ z => z) (Nat.le_add_left _ _)
  | .ex _ _, _, h, _ => h
  | .bad, _, h, _ => h
  | .draw m f, a, ⟨n', e, h1, h2, h3⟩, hk => ⟨n' + b, by omega, h1, h2, fun d d0 d1 => Bo.bd (m := f d) (h3 d d0 d1) hk⟩
theorem Bo.al {P : α → Prop} {Q : α → Nat → Prop} {E : Str → Fs → Nat → Prop} (h : ∀ a b, P a → Q a b) : ∀ {m : Tr α} {n : Nat}, Bo P m n → Al Q E m n
  | .ok a, _, z => h a _ z
  | .ex _ _, _, z => z.elim
  | .bad, _, z => z
  | .draw m f, n, ⟨n', e, h1, h2, h3⟩ => ⟨n', e, h1, h2, fun d d0 d1 => Bo.al (m := f d) h (h3 d d0 d1)⟩
theorem Bo.yes {F : Tr D} {n : Nat} (hn : n ≤ 1000000) (h : Bo (fun d => d = .bl true) F n) : Yes F :=
  Bo.al (fun _ _ z => z) (h.mono (fun _ z => z) hn)
theorem bo_ok {P : α → Prop} {a : α} {n : Nat} (h : P a) : Bo P (.ok a) n := h
theorem bo_draw {P : α → Prop} {m : Int} {k : Int → Tr α} {n : Nat} (h1 : 0 < m) (h2 : m < 10 ^ 100) (h : ∀ d, 0 ≤ d → d < m → Bo P (k d) n) : Bo P (.draw m k) (n + 1) := ⟨n, rfl, h1, h2, h⟩
variable {W L : Type}
theorem lcF_map {f : D → Tr (Option D)} {g : D → D} : ∀ {ds : List D}, (∀ d ∈ ds, f d = .ok (some (g d))) → lcF f ds = .ok (ds.map g)
  | [], _ => rfl
  | d :: ds, h => by
    rw [lcF_cons, h d List.mem_cons_self, bd_ok, lcF_map fun x hx => h x (List.mem_cons_of_mem _ hx)]
    rfl
end
end Gp
end
section
namespace Gp
open PySem
@[simp] theorem s_bd {α β : Type} (a : α) (k : α → Tr β) : bd (.ok a) k = k a := rfl
@[simp] theorem s_bdx {α β : Type} (c : Str) (fs : Fs) (k : α → Tr β) : bd (.ex c fs) k = .ex c fs := rfl
@[simp] theorem s_bdd {α β : Type} (m : Int) (f : Int → Tr α) (k : α → Tr β) : bd (.draw m f) k = .draw m fun d => bd (f d) k := rfl
@[simp] theorem s_nox {α : Type} (a : α) : nox (.ok a) = .ok a := rfl
@[simp] theorem s_bdF {W W' L : Type} (w : W') (k : W' → Tr (Fl W L)) : bdF (.ok (.nx w)) k = k w := rfl
@[simp] theorem s_bdFr {W W' L : Type} (d : D) (k : W' → Tr (Fl W L)) : bdF (.ok (.rt d)) k = .ok (.rt d) := rfl
@[simp] theorem s_finr (d : D) : fin (.ok (.rt d)) = .ok d := rfl
@[simp] theorem s_finn (w : Unit) : fin (.ok (.nx w)) = .ok .non := rfl
@[simp] theorem s_finI (fs : Fs) : finI (.ok (.nx fs)) = .ok fs := rfl
@[simp] theorem s_asB (b : Bool) : asB (.bl b) = .ok b := rfl
@[simp] theorem s_ul0 {α : Type} (k : Tr α) : ul0 k [] = k := rfl
@[simp] theorem s_ul1 {α : Type} (k : D → Tr α) (x : D) : ul1 k [x] = k x := rfl
@[simp] theorem s_ul2 {α : Type} (k : D → D → Tr α) (x y : D) : ul2 k [x, y] = k x y := rfl
@[simp] theorem s_ul3 {α : Type} (k : D → D → D → Tr α) (x y z : D) : ul3 k [x, y, z] = k x y z := rfl
@[simp] theorem s_ul4 {α : Type} (k : D → D → D → D → Tr α) (x y z w : D) : ul4 k [x, y, z, w] = k x y z w := rfl
@[simp] theorem s_isO {α : Type} (c : Str) (fs : Fs) (k : Fs → Tr α) : isO c (.obj c fs) k = k fs := by unfold isO; simp
@[simp] theorem s_lt (i j : Int) : ltD (.int i) (.int j) = .ok (.bl (decide (i < j))) := rfl
@[simp] theorem s_le (i j : Int) : leD (.int i) (.int j) = .ok (.bl (decide (i ≤ j))) := rfl
@[simp] theorem s_gt (i j : Int) : gtD (.int i) (.int j) = .ok (.bl (decide (j < i))) := rfl
@[simp] theorem s_ge (i j : Int) : geD (.int i) (.int j) = .ok (.bl (decide (j ≤ i))) := rfl
@[simp] theorem s_sub (i j : Int) : subD (.int i) (.int j) = .ok (.int (i - j)) := rfl
@[simp] theorem s_add (i j : Int) : addD (.int i) (.int j) = .ok (.int (i + j)) := rfl
@[simp] theorem s_neg (i : Int) : negD (.int i) = .ok (.int (-i)) := rfl
@[simp] theorem s_eq (i j : Int) : eqD (.int i) (.int j) = .ok (.bl (decide (i = j))) := rfl
@[simp] theorem s_eqs (i j : Str) : eqD (.str i) (.str j) = .ok (.bl (decide (i = j))) := rfl
@[simp] theorem s_eqb (i j : Bool) : eqD (.bl i) (.bl j) = .ok (.bl (decide (i = j))) := rfl
@[simp] theorem s_len (ds : List D) : lenD (.lst ds) = .ok (.int ds.length) := rfl
@[simp] theorem s_itl (ds : List D) : itD (.lst ds) = .ok ds := rfl
@[simp] theorem s_itt (ds : List D) : itD (.tup ds) = .ok ds := rfl
@[simp] theorem s_int (i : Int) : intD (.int i) = .ok (.int i) := rfl
@[simp] theorem s_intb (k : Bool) : intD (.bl k) = .ok (.int (if k = true then 1 else 0)) := rfl
@[simp] theorem s_abs (i : Int) : absD (.int i) = .ok (.int (if i < 0 then -i else i)) := rfl
@[simp] theorem s_opt {α : Type} (a : α) : opt (some a) = .ok a := rfl
@[simp] theorem s_mod2 (i : Int) : modD (.int i) (.int 2) = .ok (.int (i % 2)) := rfl
@[simp] theorem s_div2 (i : Int) : divD (.int i) (.int 2) = .ok (.int (i / 2)) := rfl
end Gp
namespace Gp
open PySem PyProof.Rows L2
theorem toPyL_ints : ∀ l : List Int, toPyL (l.map D.int) = some (l.map PyData.int)
  | [] => rfl
  | a :: r => by
    rw [List.map_cons]
    unfold toPyL
    rw [toPyL_ints r]
    rfl
theorem eqv_ints : ∀ l m : List Int, PyData.eqvAll (l.map PyData.int) (m.map PyData.int) = decide (l = m)
  | [], [] => by simp [PyData.eqvAll]
  | [], _ :: _ => by simp [PyData.eqvAll]
  | _ :: _, [] => by simp [PyData.eqvAll]
  | a :: r, b :: s => by
    simp only [List.map_cons, PyData.eqvAll, PyData.eqv, eqv_ints r s]
    by_cases h : a = b <;> by_cases h' : r = s <;> simp [h, h']
theorem canLayAll_ints : ∀ ns : List Int, PyData.canLayAll0 (ns.map PyData.int) = true
  | [] => rfl
  | _ :: r => by simp [PyData.canLayAll0, PyData.canLay0, canLayAll_ints r]
theorem depthAll_ints : ∀ ns : List Int, PyData.depthAll (ns.map PyData.int) = 0
  | [] => rfl
  | _ :: r => by simp [PyData.depthAll, PyData.depth, depthAll_ints r]
@[simp] theorem s_find (m : Int) (f : Int → Tr (Fl Unit Empty)) : fin (.draw m f) = .draw m fun d => fin (f d) := rfl
@[simp] theorem s_bdFd {W W' L : Type} (m : Int) (f : Int → Tr (Fl W' L)) (k : W' → Tr (Fl W L)) : bdF (.draw m f) k = .draw m fun d => bdF (f d) k := rfl
theorem bd_ok_id {α : Type} (m : Tr α) : bd m .ok = m := by
  induction m with
  | draw m f ih => show Tr.draw m _ = _; congr 1; funext d; exact ih d
  | _ => rfl
@[simp] theorem s_bdbd {α β γ : Type} (m : Tr α) (k : α → Tr β) (l : β → Tr γ) : bd (bd m k) l = bd m fun a => bd (k a) l := bd_bd ..
@[simp] theorem s_finbd {α : Type} (m : Tr α) (k : α → Tr (Fl Unit Empty)) : fin (bd m k) = bd m fun a => fin (k a) := bd_bd ..
@[simp] theorem s_bdFbd {α W W' L : Type} (m : Tr α) (f : α → Tr (Fl W' L)) (k : W' → Tr (Fl W L)) : bdF (bd m f) k = bd m fun a => bdF (f a) k := bd_bd ..
@[simp] theorem s_finIbd {α : Type} (m : Tr α) (k : α → Tr (Fl Fs Empty)) : finI (bd m k) = bd m fun a => finI (k a) := bd_bd ..
@[simp] theorem s_bdok {α : Type} (m : Tr α) : bd m (fun a => .ok a) = m := bd_ok_id m
@[simp] theorem s_ne (i j : Int) : neD (.int i) (.int j) = .ok (.bl (!decide (i = j))) := rfl
@[simp] theorem s_nes (i j : Str) : neD (.str i) (.str j) = .ok (.bl (!decide (i = j))) := rfl
theorem s_ixL {ds : List D} {i : Int} {d : D} (h0 : 0 ≤ i) (h : ds[i.toNat]? = some d) : ixD (.lst ds) (.int i) = .ok d := by
  have hl := (List.getElem?_eq_some_iff.mp h).1
  have e : atI ds i = some d := by
    unfold atI ixN
    rw [if_pos h0, if_pos (by omega)]
    exact h
  unfold ixD
  dsimp only
  rw [e]
theorem bo_pick {P : D → Prop} {ds : List D} (h0 : 0 < ds.length) (h1 : ds.length ≤ 100000) (h : ∀ d ∈ ds, P d) : Bo P (.draw ds.length fun i => ixD (.lst ds) (.int i)) 1 := by
  refine bo_draw (n := 0) (by omega) (by omega) fun d d0 d1 => ?_
  have hl : d.toNat < ds.length := by omega
  rw [s_ixL d0 (List.getElem?_eq_getElem hl)]
  exact h _ (List.getElem_mem hl)
end Gp
end
section
set_option maxHeartbeats 400000
namespace Gp
open PySem PyProof.Rows L2 Gh
structure Sh (d : D) (n b : Nat) : Prop where
  ex : ∃ e, toPy d = some e ∧ Fn e n b
structure ShL (ds : List D) (n b : Nat) : Prop where
  ex : ∃ es, toPyL ds = some es ∧ FnAll es n b
theorem Sh.le {d : D} {n b n' b' : Nat} (h : Sh d n b) (h1 : n ≤ n') (h2 : b ≤ b') : Sh d n' b' := by
  obtain ⟨e, h3, h4⟩ := h.ex
  exact ⟨e, h3, h4.le h1 h2⟩
theorem Sh.int {i : Int} (h1 : -(10 ^ 100) < i) (h2 : i < 10 ^ 100) : Sh (.int i) 0 0 := ⟨_, rfl, .int h1 h2⟩
theorem Sh.bl (b : Bool) : Sh (.bl b) 0 0 := ⟨_, rfl, .bool b⟩
theorem Sh.non : Sh .non 0 0 := ⟨_, rfl, .none⟩
theorem Sh.str {x : Str} (h0 : (PyData.str x).canLay0 = true) (h : (x.cps.toList.all fun c => decide (c < 16 ^ 8)) = true) : Sh (.str x) 0 x.cps.size := ⟨_, rfl, .str h0 h⟩
theorem ShL.nil {n b : Nat} : ShL [] n b := ⟨_, rfl, .nil⟩
theorem ShL.cons {d : D} {ds : List D} {n b c : Nat} (h : Sh d n b) (k : ShL ds n c) : ShL (d :: ds) n (b + 1 + c) := by
  obtain ⟨e, h3, h4⟩ := h.ex
  obtain ⟨es, h5, h6⟩ := k.ex
  refine ⟨e :: es, ?_, .cons h4 h6⟩
  unfold toPyL
  rw [h3, h5]
theorem ShL.le {ds : List D} {n b n' b' : Nat} (h : ShL ds n b) (h1 : n ≤ n') (h2 : b ≤ b') : ShL ds n' b' := by
  obtain ⟨e, h3, h4⟩ := h.ex
  exact ⟨e, h3, h4.cl, h4.sh, h4.nd, h4.ls, Nat.le_trans h4.dp h1, Nat.le_trans h4.bk h2⟩
theorem Sh.lst {ds : List D} {n b : Nat} (h : ShL ds n b) : Sh (.lst ds) (n + 1) b := by
  obtain ⟨es, h3, h4⟩ := h.ex
  refine ⟨.list es, ?_, .list h4⟩
  unfold toPy
  rw [h3]
  rfl
theorem Sh.tup {ds : List D} {n b : Nat} (h : ShL ds n b) : Sh (.tup ds) (n + 1) b := by
  obtain ⟨es, h3, h4⟩ := h.ex
  refine ⟨.tuple es, ?_, .tuple h4⟩
  unfold toPy
  rw [h3]
  rfl
theorem fn_len {e : PyData} {n b : Nat} (f : Fn e n b) (hb : b ≤ 80000) : e.shown.length ≤ sizeLine := by
  have z := PyData.shown_le_bulk 200 (by decide) e f.ls
  have := f.bk
  rw [sizeLine_eq]
  omega
theorem Sh.repr {d : D} {n b : Nat} (h : Sh d n b) (hn : n ≤ 100) (hb : b ≤ 80000) : ∃ x, reprD d = .ok (.str x) := by
  obtain ⟨e, h1, f⟩ := h.ex
  have l := fn_len f hb
  have key : ∀ {x : Str}, shwD d = some x → x.length ≤ sizeLine → ∃ x, reprD d = .ok (.str x) := fun {x} e1 e2 => ⟨x, by
    unfold reprD
    rw [e1]
    dsimp only
    rw [if_pos e2]⟩
  have big : (∀ i, d ≠ .int i) → (∀ x, d ≠ .str x) → (∀ x, d ≠ .bl x) → d ≠ .non → ∃ x, reprD d = .ok (.str x) := fun n1 n2 n3 n4 => by
    refine key (x := e.shown) ?_ l
    have g : (if e.showable = true ∧ e.hasDict = false ∧ e.depth ≤ 100 ∧ e.shown.length ≤ sizeLine then some e.shown else none) = some e.shown := if_pos ⟨f.sh, f.nd, Nat.le_trans f.dp hn, l⟩
    cases d with
    | int i => exact absurd rfl (n1 i)
    | str x => exact absurd rfl (n2 x)
    | bl x => exact absurd rfl (n3 x)
    | non => exact absurd rfl n4
    | tup ds => unfold shwD; dsimp only; rw [h1]; exact g
    | lst ds => unfold shwD; dsimp only; rw [h1]; exact g
    | obj c fs => unfold toPy at h1; cases h1
    | err c fs => unfold toPy at h1; cases h1
    | pen => unfold toPy at h1; cases h1
    | cls c => unfold toPy at h1; cases h1
    | er0 c => unfold toPy at h1; cases h1
    | dct => unfold toPy at h1; cases h1
    | dic ps => unfold toPy at h1; cases h1
    | dit ps => unfold toPy at h1; cases h1
    | dik ps => unfold toPy at h1; cases h1
  cases d with
  | non => exact ⟨_, rfl⟩
  | bl b => cases b <;> exact ⟨_, rfl⟩
  | int i =>
    unfold toPy at h1
    cases h1
    have h2 : i.natAbs.log2 < 1920 := of_decide_eq_true f.sh
    refine key (x := Str.ofString (toString i)) ?_ l
    unfold shwD
    dsimp only
    rw [if_pos h2]
  | str x =>
    unfold toPy at h1
    cases h1
    have l2 : (reprText x).length ≤ sizeLine := l
    refine key (x := reprText x) ?_ l2
    unfold shwD
    dsimp only
    rw [if_pos l2]
  | tup ds => exact big (fun _ z => by cases z) (fun _ z => by cases z) (fun _ z => by cases z) (fun z => by cases z)
  | lst ds => exact big (fun _ z => by cases z) (fun _ z => by cases z) (fun _ z => by cases z) (fun z => by cases z)
  | obj c fs => unfold toPy at h1; cases h1
  | err c fs => unfold toPy at h1; cases h1
  | pen => unfold toPy at h1; cases h1
  | cls c => unfold toPy at h1; cases h1
  | er0 c => unfold toPy at h1; cases h1
  | dct => unfold toPy at h1; cases h1
  | dic ps => unfold toPy at h1; cases h1
  | dit ps => unfold toPy at h1; cases h1
  | dik ps => unfold toPy at h1; cases h1
end Gp
end
section
set_option maxHeartbeats 400000
namespace Gp
open PySem
theorem bo_then {α β : Type} {P : α → Prop} {Q : β → Prop} {m : Tr α} {k : α → Tr β} {a b n : Nat} (h : Bo P m a) (hk : ∀ x, P x → Bo Q (k x) b) (l : a + b ≤ n) : Bo Q (bd m k) n := (h.bd hk).mono (fun _ z => z) l
theorem bo_forU {L : Type} {f : D → Unit → Tr (Fl Unit Unit)} {c : Nat} : ∀ {ds : List D}, (∀ d ∈ ds, Bo (fun r : Fl Unit Unit => r = .nx ()) (f d ()) c) → Bo (fun r : Fl Unit L => r = .nx ()) (forF f ds ()) (c * ds.length)
  | [], _ => bo_ok rfl
  | d :: ds, h => by
    rw [forF_cons]
    refine bo_then (b := c * ds.length) (h d List.mem_cons_self) (fun r hr => ?_) (by rw [List.length_cons, Nat.mul_succ]; omega)
    subst hr
    exact bo_forU fun x hx => h x (List.mem_cons_of_mem _ hx)
end Gp
end
section
set_option maxHeartbeats 400000
namespace Gp
open PySem
@[irreducible] def Bx {α : Type} (P : α → Prop) (m : Tr α) (n : Nat) : Prop := Bo P m n
theorem Bx.bo {α : Type} {P : α → Prop} {m : Tr α} {n : Nat} (h : Bx P m n) : Bo P m n := by
  unfold Bx at h
  exact h
theorem bx_of {α : Type} {P : α → Prop} {m : Tr α} {n : Nat} (h : Bo P m n) : Bx P m n := by
  unfold Bx
  exact h
theorem bx_draw {α : Type} {P : α → Prop} {m : Int} {k : Int → Tr α} {n : Nat} (h1 : 0 < m) (h2 : m < 10 ^ 100) (h : ∀ d, 0 ≤ d → d < m → Bx P (k d) n) : Bx P (.draw m k) (n + 1) := bx_of (bo_draw h1 h2 fun d a b => (h d a b).bo)
theorem bx_then {α β : Type} {P : α → Prop} {Q : β → Prop} {m : Tr α} {k : α → Tr β} {a b n : Nat} (h : Bo P m a) (hk : ∀ x, P x → Bx Q (k x) b) (l : a + b ≤ n) : Bx Q (bd m k) n := bx_of (bo_then h (fun x z => (hk x z).bo) l)
theorem bx_ok {α : Type} {P : α → Prop} {a : α} {n : Nat} (h : P a) : Bx P (.ok a) n := bx_of (bo_ok h)
theorem bx_loopU {f : D → Unit → Tr (Fl Unit Unit)} {ds : List D} {K : Unit → Tr (Fl Unit Empty)} {Q : D → Prop} {c b n : Nat} (h : ∀ d ∈ ds, Bx (fun r : Fl Unit Unit => r = .nx ()) (f d ()) c) (hk : Bx Q (fin (K ())) b) (l : c * ds.length + b ≤ n) : Bx Q (fin (bdF (forF f ds ()) K)) n := by
  refine bx_of ?_
  unfold fin bdF
  rw [bd_bd]
  refine bo_then (b := b) (bo_forU fun d hd => (h d hd).bo) (fun r hr => ?_) l
  subst hr
  exact hk.bo
theorem bx_thenX {α β : Type} {P : α → Prop} {Q : β → Prop} {m : Tr α} {k : α → Tr β} {a b n : Nat} (h : Bx P m a) (hk : ∀ x, P x → Bx Q (k x) b) (l : a + b ≤ n) : Bx Q (bd m k) n := bx_then h.bo hk l
end Gp
end
section
namespace Gp
open PySem
inductive Dp {α : Type} (a : α) : Type
  | u
def bdk {α β : Type} (x : Tr α) (f : α → Tr β) (u : Dp f := .u) : Tr β := bd x f
def bdFk {W W' L : Type} (x : Tr (Fl W' L)) (k : W' → Tr (Fl W L)) (u : Dp k := .u) : Tr (Fl W L) := bdF x k
def forFk {W L : Type} (f : D → W → Tr (Fl W W)) (ds : List D) (w : W) (u : Dp f := .u) : Tr (Fl W L) := forF f ds w
theorem k_bd {α β : Type} (a : α) (k : α → Tr β) (u : Dp k) : bdk (.ok a) k u = k a := rfl
theorem k_bdx {α β : Type} (c : Str) (fs : Fs) (k : α → Tr β) (u : Dp k) : bdk (.ex c fs) k u = .ex c fs := rfl
theorem k_bdd {α β : Type} (m : Int) (f : Int → Tr α) (k : α → Tr β) (u : Dp k) : bdk (.draw m f) k u = .draw m fun d => bdk (f d) k := rfl
theorem k_bdF {W W' L : Type} (w : W') (k : W' → Tr (Fl W L)) (u : Dp k) : bdFk (.ok (.nx w)) k u = k w := rfl
theorem k_bdFr {W W' L : Type} (d : D) (k : W' → Tr (Fl W L)) (u : Dp k) : bdFk (.ok (.rt d)) k u = .ok (.rt d) := rfl
theorem k_bdFx {W W' L : Type} (c : Str) (fs : Fs) (k : W' → Tr (Fl W L)) (u : Dp k) : bdFk (.ex c fs) k u = .ex c fs := rfl
theorem k_bdFd {W W' L : Type} (m : Int) (f : Int → Tr (Fl W' L)) (k : W' → Tr (Fl W L)) (u : Dp k) : bdFk (.draw m f) k u = .draw m fun d => bdFk (f d) k := rfl
theorem k_bdbd {α β γ : Type} (m : Tr α) (k : α → Tr β) (u : Dp k) (l : β → Tr γ) (v : Dp l) : bdk (bdk m k u) l v = bdk m fun a => bdk (k a) l := bd_bd ..
theorem k_finbd {α : Type} (m : Tr α) (k : α → Tr (Fl Unit Empty)) (u : Dp k) : fin (bdk m k u) = bdk m fun a => fin (k a) := bd_bd ..
theorem k_bdFbd {α W W' L : Type} (m : Tr α) (f : α → Tr (Fl W' L)) (u : Dp f) (k : W' → Tr (Fl W L)) (v : Dp k) : bdFk (bdk m f u) k v = bdk m fun a => bdFk (f a) k := bd_bd ..
theorem bk_then {α β : Type} {P : α → Prop} {Q : β → Prop} {m : Tr α} {k : α → Tr β} {u : Dp k} {a b n : Nat} (h : Bx P m a) (hk : ∀ x, P x → Bx Q (k x) b) (l : a + b ≤ n) : Bx Q (bdk m k u) n := bx_thenX h hk l
theorem bk_loopU {f : D → Unit → Tr (Fl Unit Unit)} {u : Dp f} {ds : List D} {K : Unit → Tr (Fl Unit Empty)} {v : Dp K} {Q : D → Prop} {c b n : Nat} (h : ∀ d ∈ ds, Bx (fun r : Fl Unit Unit => r = .nx ()) (f d ()) c) (hk : Bx Q (fin (K ())) b) (l : c * ds.length + b ≤ n) : Bx Q (fin (bdFk (forFk f ds () u) K v)) n := bx_loopU h hk l
end Gp
end
section
set_option maxHeartbeats 1000000
namespace Gp
open PySem PyProof.Rows L2
theorem z0L : (0 ≤ sizeLine) = True := eq_true (by decide)
theorem z1L : (1 ≤ sizeLine) = True := eq_true (by decide)
theorem z2L : (2 ≤ sizeLine) = True := eq_true (by decide)
theorem z3L : (3 ≤ sizeLine) = True := eq_true (by decide)
theorem z4L : (4 ≤ sizeLine) = True := eq_true (by decide)
theorem z5L : (5 ≤ sizeLine) = True := eq_true (by decide)
theorem z6L : (6 ≤ sizeLine) = True := eq_true (by decide)
theorem z7L : (7 ≤ sizeLine) = True := eq_true (by decide)
theorem z8L : (8 ≤ sizeLine) = True := eq_true (by decide)
theorem z9L : (9 ≤ sizeLine) = True := eq_true (by decide)
theorem z10L : (10 ≤ sizeLine) = True := eq_true (by decide)
theorem z11L : (11 ≤ sizeLine) = True := eq_true (by decide)
theorem z12L : (12 ≤ sizeLine) = True := eq_true (by decide)
theorem z0l : (0 < sizeLine) = True := eq_true (by decide)
theorem z1l : (1 < sizeLine) = True := eq_true (by decide)
theorem z2l : (2 < sizeLine) = True := eq_true (by decide)
theorem z3l : (3 < sizeLine) = True := eq_true (by decide)
theorem z4l : (4 < sizeLine) = True := eq_true (by decide)
theorem l_finx (c : Str) (fs : Fs) : fin (.ex c fs) = .ex c fs := rfl
theorem l_finIx (c : Str) (fs : Fs) : finI (.ex c fs) = .ex c fs := rfl
theorem l_finI (fs : Fs) : finI (.ok (.nx fs)) = .ok fs := rfl
theorem l_asI (d : Int) : asI (.int d) = .ok (some d) := rfl
theorem l_un2 {α : Type} (x y : D) (k : D → D → Tr α) : un2 (.tup [x, y]) k = k x y := rfl
theorem l_un3 {α : Type} (x y z : D) (k : D → D → D → Tr α) : un3 (.tup [x, y, z]) k = k x y z := rfl
theorem l_un4 {α : Type} (x y z w : D) (k : D → D → D → D → Tr α) : un4 (.tup [x, y, z, w]) k = k x y z w := rfl
theorem l_ne (i j : Int) : neD (.int i) (.int j) = .ok (.bl (!decide (i = j))) := rfl
theorem l_nes (i j : Str) : neD (.str i) (.str j) = .ok (.bl (!decide (i = j))) := rfl
theorem l_neb (i j : Bool) : neD (.bl i) (.bl j) = .ok (.bl (!decide (i = j))) := rfl
theorem l_gt (i j : Int) : gtD (.int i) (.int j) = .ok (.bl (decide (j < i))) := rfl
theorem l_at {ds : List D} {n : Nat} {a : D} (h : ds[n]? = some a) : atI ds (n : Int) = some a := by
  have hn : n < ds.length := by
    rcases Nat.lt_or_ge n ds.length with h1 | h1
    · exact h1
    · rw [List.getElem?_eq_none h1] at h
      cases h
  unfold atI ixN
  rw [if_pos (Int.natCast_nonneg n), if_pos (by omega)]
  exact h
theorem l_ixl {ds : List D} {n : Nat} {a : D} (h : ds[n]? = some a) : ixD (.lst ds) (.int (n : Int)) = .ok a := by
  unfold ixD
  dsimp only
  rw [l_at h]
theorem l_ixt {ds : List D} {n : Nat} {a : D} (h : ds[n]? = some a) : ixD (.tup ds) (.int (n : Int)) = .ok a := by
  unfold ixD
  dsimp only
  rw [l_at h]
theorem l_ix0 (a : D) (r : List D) : ixD (.lst (a :: r)) (.int 0) = .ok a := l_ixl (n := 0) rfl
theorem l_ix1 (a b : D) (r : List D) : ixD (.lst (a :: b :: r)) (.int 1) = .ok b := l_ixl (n := 1) rfl
theorem l_ix2 (a b c : D) (r : List D) : ixD (.lst (a :: b :: c :: r)) (.int 2) = .ok c := l_ixl (n := 2) rfl
theorem l_ix3 (a b c d : D) (r : List D) : ixD (.lst (a :: b :: c :: d :: r)) (.int 3) = .ok d := l_ixl (n := 3) rfl
theorem l_it0 (a : D) (r : List D) : ixD (.tup (a :: r)) (.int 0) = .ok a := l_ixt (n := 0) rfl
theorem l_it1 (a b : D) (r : List D) : ixD (.tup (a :: b :: r)) (.int 1) = .ok b := l_ixt (n := 1) rfl
theorem l_it2 (a b c : D) (r : List D) : ixD (.tup (a :: b :: c :: r)) (.int 2) = .ok c := l_ixt (n := 2) rfl
theorem l_it3 (a b c d : D) (r : List D) : ixD (.tup (a :: b :: c :: d :: r)) (.int 3) = .ok d := l_ixt (n := 3) rfl
theorem l_neq {a b : D} (h : eqD a b = .ok (.bl true)) : neD a b = .ok (.bl false) := by
  unfold eqD at h
  unfold neD
  cases e : eqB a b with
  | ok k =>
    rw [e] at h
    injection h with h
    injection h with h
    subst h
    rfl
  | ex c fs => rw [e] at h; cases h
  | bad => rw [e] at h; cases h
  | draw m f => rw [e] at h; cases h
end Gp
end
section
set_option maxHeartbeats 1000000
namespace Gp
open PySem
end Gp
namespace Gp
open PySem
end Gp
namespace Gp
open PySem
theorem bx_forX {W L : Type} {f : D → W → Tr (Fl W W)} {I : Nat → W → Prop} {c : Nat} : ∀ {ds : List D} {i : Nat} {w : W}, (∀ j d, ds[j]? = some d → ∀ w, I (i + j) w → Bx (fun r => ∃ w', r = .nx w' ∧ I (i + j + 1) w') (f d w) c) → I i w → Bx (fun r : Fl W L => ∃ w', r = .nx w' ∧ I (i + ds.length) w') (forF f ds w) (c * ds.length)
  | [], i, w, _, h => bx_ok ⟨w, rfl, h⟩
  | d :: r, i, w, h, hw => by
    rw [forF_cons]
    refine bx_thenX (b := c * r.length) (h 0 d rfl w hw) (fun x hx => ?_) (by rw [List.length_cons, Nat.mul_succ]; omega)
    obtain ⟨v, rfl, hv⟩ := hx
    rw [List.length_cons, show i + (r.length + 1) = i + 1 + r.length by omega]
    exact bx_forX (I := I) (i := i + 1) (fun j y hy w hw => by
      have z := h (j + 1) y hy w (by rw [show i + (j + 1) = i + 1 + j by omega]; exact hw)
      rw [show i + (j + 1) + 1 = i + 1 + j + 1 by omega] at z
      exact z) hv
theorem bk_loopX {W W2 L : Type} {f : D → W → Tr (Fl W W)} {u : Dp f} {ds : List D} {w : W} {K : W → Tr (Fl W2 L)} {v : Dp K} {I : Nat → W → Prop} {Q : Fl W2 L → Prop} {c b n : Nat} (h : ∀ j d, ds[j]? = some d → ∀ w, I j w → Bx (fun r => ∃ w', r = .nx w' ∧ I (j + 1) w') (f d w) c) (hw : I 0 w) (hk : ∀ w, I ds.length w → Bx Q (K w) b) (l : c * ds.length + b ≤ n) : Bx Q (bdFk (forFk f ds w u) K v) n := by
  unfold bdFk forFk bdF
  refine bx_thenX (bx_forX (I := I) (i := 0) (fun j d hd w hw => by
    rw [Nat.zero_add] at hw ⊢
    exact h j d hd w hw) hw) (fun r hr => ?_) l
  obtain ⟨w', rfl, hw'⟩ := hr
  rw [Nat.zero_add] at hw'
  exact hk w' hw'
theorem bk_loopF {W : Type} {f : D → W → Tr (Fl W W)} {u : Dp f} {ds : List D} {w : W} {K : W → Tr (Fl Unit Empty)} {v : Dp K} {I : Nat → W → Prop} {Q : D → Prop} {c b n : Nat} (h : ∀ j d, ds[j]? = some d → ∀ w, I j w → Bx (fun r => ∃ w', r = .nx w' ∧ I (j + 1) w') (f d w) c) (hw : I 0 w) (hk : ∀ w, I ds.length w → Bx Q (fin (K w)) b) (l : c * ds.length + b ≤ n) : Bx Q (fin (bdFk (forFk f ds w u) K v)) n := by
  unfold bdFk forFk fin bdF
  rw [bd_bd]
  refine bx_thenX (bx_forX (I := I) (i := 0) (fun j d hd w hw => by
    rw [Nat.zero_add] at hw ⊢
    exact h j d hd w hw) hw) (fun r hr => ?_) l
  obtain ⟨w', rfl, hw'⟩ := hr
  rw [Nat.zero_add] at hw'
  exact hk w' hw'
end Gp
end
section
namespace Lw
open PySem Gp Gh Gz
def L_is_integer (value : D) : Tr D :=
  fin (bdk (bdk (bdk (bdk (.ok value) fun d => bdk (opt (isi_int d)) fun k => .ok (.bl k)) asB) fun k => if k = true then (bdk (bdk (bdk (.ok value) fun d => bdk (opt (isi_bool d)) fun k => .ok (.bl k)) asB) fun k => .ok (.bl (!k))) else .ok (.bl false)) fun d => .ok (.rt d))
theorem lz_is_integer : F_is_integer = L_is_integer := rfl
def L_is_within (value least most : D) : Tr D :=
  fin (bdk (bdk (bdk (bdk (bdk (.ok value) fun v1 => (bdk (.ok []) fun r2 => .ok (v1 :: r2))) (ul1 F_is_integer)) asB) fun k => if k = true then (bdk (.ok least) fun v3 => (bdk (.ok value) fun v4 => (bdk (bdk (leD v3 v4) asB) fun k => if k = true then (bdk (.ok most) fun v5 => leD v4 v5) else .ok (.bl false)))) else .ok (.bl false)) fun d => .ok (.rt d))
theorem lz_is_within : F_is_within = L_is_within := rfl
def L_is_item (value : D) : Tr D :=
  fin (bdk (bdk (bdk (bdk (bdk (.ok value) fun v1 => (bdk (.ok []) fun r2 => .ok (v1 :: r2))) (ul1 F_is_integer)) asB) fun k => if k = true then (bdk (bdk (.ok (.int 1000000000000000000000000000000)) negD) fun v3 => (bdk (.ok value) fun v4 => (bdk (bdk (ltD v3 v4) asB) fun k => if k = true then (bdk (.ok (.int 1000000000000000000000000000000)) fun v5 => ltD v4 v5) else .ok (.bl false)))) else .ok (.bl false)) fun d => .ok (.rt d))
theorem lz_is_item : F_is_item = L_is_item := rfl
def L_need_items (values many : D) : Tr D :=
  fin (bdFk (W' := Unit) (bdk (bdk (bdk (bdk (.ok values) fun d => bdk (opt (isi_list_tuple d)) fun k => .ok (.bl k)) asB) fun k => .ok (!k)) fun k => if k = true then (bdk (.ok .non) fun d => .ex "BadRow" [("at", d)]) else (.ok (.nx ()))) fun (w1 : Unit) => (bdFk (W' := Unit) (bdk (bdk (bdk (bdk (bdk (.ok many) fun (v4 : D) => (bdk (.ok .non) fun (v5 : D) => (match v5 with | .non => .ok (.bl (!isN v4)) | _ => .bad))) asB) fun k => if k = true then (bdk (bdk (bdk (bdk (.ok values) fun v6 => (bdk (.ok []) fun r7 => .ok (v6 :: r7))) (ul1 lenD)) fun v8 => (bdk (.ok many) fun v9 => neD v8 v9)) asB) else .ok false) fun k => if k = true then .ok true else (bdk (bdk (bdk (bdk (.ok (.int 1)) fun v12 => (bdk (bdk (bdk (.ok values) fun v10 => (bdk (.ok []) fun r11 => .ok (v10 :: r11))) (ul1 lenD)) fun v13 => (bdk (bdk (leD v12 v13) asB) fun k => if k = true then (bdk (.ok (.int 2000)) fun v14 => leD v13 v14) else .ok (.bl false)))) asB) fun k => .ok (!k)) fun k => if k = true then (bdk (bdk (.ok many) fun (v15 : D) => (bdk (.ok .non) fun (v16 : D) => (match v16 with | .non => .ok (.bl (isN v15)) | _ => .bad))) asB) else .ok false)) fun k => if k = true then (bdk (.ok .non) fun d => .ex "BadRow" [("at", d)]) else (.ok (.nx ()))) fun (w17 : Unit) => (bdFk (bdk (bdk (bdk (.ok values) fun v20 => (bdk (.ok []) fun r21 => .ok (v20 :: r21))) (ul1 enD)) fun ds => forFk (fun (d23 : D) (w22 : Unit) => (un2 d23 fun at_23 value23 => (bdFk (W' := Unit) (bdk (bdk (bdk (bdk (bdk (.ok value23) fun v25 => (bdk (.ok []) fun r26 => .ok (v25 :: r26))) (ul1 F_is_item)) asB) fun k => .ok (!k)) fun k => if k = true then (bdk (.ok at_23) fun d => .ex "BadRow" [("at", d)]) else (.ok (.nx ()))) fun (w27 : Unit) => (.ok (.nx ()))))) ds ()) fun (w22 : Unit) => (.ok (.nx ())))))
theorem lz_need_items : F_need_items = L_need_items := rfl
def L_Row___init__ (fs : Fs) (items : D) : Tr Fs :=
  finI (bdk (bdk (bdk (.ok items) fun v3 => (bdk (bdk (.ok .non) fun v1 => (bdk (.ok []) fun r2 => .ok (v1 :: r2))) fun r4 => .ok (v3 :: r4))) (ul2 F_need_items)) fun _ => (bdk (bdk (bdk (.ok items) fun v5 => (bdk (.ok []) fun r6 => .ok (v5 :: r6))) (ul1 listD)) fun own_items7 => if fs.length < 900 then (.ok (.nx (putD "own_items" own_items7 fs))) else .bad))
theorem lz_Row___init__ : F_Row___init__ = L_Row___init__ := rfl
def L_Row_need_place (self value : D) : Tr D :=
  fin (bdFk (W' := Unit) (bdk (bdk (bdk (bdk (bdk (.ok value) fun v9 => (bdk (bdk (.ok (.int 0)) fun v7 => (bdk (bdk (bdk (bdk (bdk (bdk (.ok self) (fldD "Row" "own_items")) fun v1 => (bdk (.ok []) fun r2 => .ok (v1 :: r2))) (ul1 lenD)) fun v3 => (bdk (.ok (.int 1)) fun v4 => subD v3 v4)) fun v5 => (bdk (.ok []) fun r6 => .ok (v5 :: r6))) fun r8 => .ok (v7 :: r8))) fun r10 => .ok (v9 :: r10))) (ul3 F_is_within)) asB) fun k => .ok (!k)) fun k => if k = true then (bdk (.ok value) fun d => .ex "BadPlace" [("value", d)]) else (.ok (.nx ()))) fun (w11 : Unit) => (.ok (.nx ())))
theorem lz_Row_need_place : F_Row_need_place = L_Row_need_place := rfl
def L_Row_need_stretch (self value : D) : Tr D :=
  fin (bdFk (W' := Unit) (bdk (bdk (bdk (bdk (bdk (bdk (.ok value) fun v1 => (bdk (.ok []) fun r2 => .ok (v1 :: r2))) (ul1 lenD)) fun v3 => (bdk (.ok (.int 2)) fun v4 => neD v3 v4)) asB) fun k => if k = true then .ok true else (bdk (bdk (bdk (bdk (bdk (bdk (.ok value) fun v5 => (bdk (.ok (.int 0)) fun v6 => ixD v5 v6)) fun v7 => (bdk (.ok []) fun r8 => .ok (v7 :: r8))) (ul1 F_is_integer)) asB) fun k => .ok (!k)) fun k => if k = true then .ok true else (bdk (bdk (bdk (bdk (bdk (.ok value) fun v9 => (bdk (.ok (.int 1)) fun v10 => ixD v9 v10)) fun v11 => (bdk (.ok []) fun r12 => .ok (v11 :: r12))) (ul1 F_is_integer)) asB) fun k => .ok (!k)))) fun k => if k = true then (bdk (.ok value) fun d => .ex "BadPlace" [("value", d)]) else (.ok (.nx ()))) fun (w13 : Unit) => (bdFk (W' := Unit) (bdk (bdk (bdk (bdk (.ok (.int 0)) fun v22 => (bdk (bdk (.ok value) fun v16 => (bdk (.ok (.int 0)) fun v17 => ixD v16 v17)) fun v23 => (bdk (bdk (leD v22 v23) asB) fun k => if k = true then (bdk (bdk (.ok value) fun v18 => (bdk (.ok (.int 1)) fun v19 => ixD v18 v19)) fun v24 => (bdk (bdk (leD v23 v24) asB) fun k => if k = true then (bdk (bdk (bdk (bdk (.ok self) (fldD "Row" "own_items")) fun v20 => (bdk (.ok []) fun r21 => .ok (v20 :: r21))) (ul1 lenD)) fun v25 => leD v24 v25) else .ok (.bl false))) else .ok (.bl false)))) asB) fun k => .ok (!k)) fun k => if k = true then (bdk (.ok value) fun d => .ex "BadPlace" [("value", d)]) else (.ok (.nx ()))) fun (w26 : Unit) => (.ok (.nx ()))))
theorem lz_Row_need_stretch : F_Row_need_stretch = L_Row_need_stretch := rfl
def L_Row___len__ (self : D) : Tr D :=
  fin (bdk (bdk (bdk (bdk (.ok self) (fldD "Row" "own_items")) fun v1 => (bdk (.ok []) fun r2 => .ok (v1 :: r2))) (ul1 lenD)) fun d => .ok (.rt d))
theorem lz_Row___len__ : F_Row___len__ = L_Row___len__ := rfl
def L_Row___getitem__ (self index : D) : Tr D :=
  fin (bdFk (W' := Unit) (bdk (bdk (bdk (.ok index) fun d => bdk (opt (isi_tuple d)) fun k => .ok (.bl k)) asB) fun k => if k = true then (bdk (bdk (.ok self) fun o4 => (isO "Row" o4 fun fs => if fs.lookup ("need_stretch" : Str) = none then bdk (bdk (.ok index) fun v2 => (bdk (.ok []) fun r3 => .ok (v2 :: r3))) fun ds => (ul2 F_Row_need_stretch) (o4 :: ds) else .bad)) fun _ => (bdk (bdk (bdk (.ok self) (fldD "Row" "own_items")) fun v5 => (bdk (bdk (bdk (.ok index) fun v7 => (bdk (.ok (.int 0)) fun v8 => ixD v7 v8)) asI) fun lo => bdk (bdk (bdk (.ok index) fun v9 => (bdk (.ok (.int 1)) fun v10 => ixD v9 v10)) asI) fun hi => slD v5 lo hi)) fun d => .ok (.rt d))) else (.ok (.nx ()))) fun (w1 : Unit) => (bdk (bdk (.ok self) fun o13 => (isO "Row" o13 fun fs => if fs.lookup ("need_place" : Str) = none then bdk (bdk (.ok index) fun v11 => (bdk (.ok []) fun r12 => .ok (v11 :: r12))) fun ds => (ul2 F_Row_need_place) (o13 :: ds) else .bad)) fun _ => (bdk (bdk (bdk (.ok self) (fldD "Row" "own_items")) fun v14 => (bdk (.ok index) fun v15 => ixD v14 v15)) fun d => .ok (.rt d))))
theorem lz_Row___getitem__ : F_Row___getitem__ = L_Row___getitem__ := rfl
def L_Row___setitem__ (self index value : D) : Tr D :=
  fin (bdFk (W' := Unit) (bdk (bdk (bdk (.ok index) fun d => bdk (opt (isi_tuple d)) fun k => .ok (.bl k)) asB) fun k => if k = true then (bdk (bdk (.ok self) fun o4 => (isO "Row" o4 fun fs => if fs.lookup ("need_stretch" : Str) = none then bdk (bdk (.ok index) fun v2 => (bdk (.ok []) fun r3 => .ok (v2 :: r3))) fun ds => (ul2 F_Row_need_stretch) (o4 :: ds) else .bad)) fun _ => (bdk (bdk (bdk (.ok value) fun v13 => (bdk (bdk (bdk (bdk (.ok index) fun v5 => (bdk (.ok (.int 1)) fun v6 => ixD v5 v6)) fun v9 => (bdk (bdk (.ok index) fun v7 => (bdk (.ok (.int 0)) fun v8 => ixD v7 v8)) fun v10 => subD v9 v10)) fun v11 => (bdk (.ok []) fun r12 => .ok (v11 :: r12))) fun r14 => .ok (v13 :: r14))) (ul2 F_need_items)) fun _ => .bad)) else (bdk (bdk (.ok self) fun o17 => (isO "Row" o17 fun fs => if fs.lookup ("need_place" : Str) = none then bdk (bdk (.ok index) fun v15 => (bdk (.ok []) fun r16 => .ok (v15 :: r16))) fun ds => (ul2 F_Row_need_place) (o17 :: ds) else .bad)) fun _ => (bdFk (W' := Unit) (bdk (bdk (bdk (bdk (bdk (.ok value) fun v18 => (bdk (.ok []) fun r19 => .ok (v18 :: r19))) (ul1 F_is_item)) asB) fun k => .ok (!k)) fun k => if k = true then (bdk (.ok (.int 0)) fun d => .ex "BadRow" [("at", d)]) else (.ok (.nx ()))) fun (w20 : Unit) => .bad))) fun (w1 : Unit) => (.ok (.nx ())))
theorem lz_Row___setitem__ : F_Row___setitem__ = L_Row___setitem__ := rfl
def L__law_is (l_heard_here l_due : D) : Tr D :=
  fin (bdk (bdk (bdk (bdk (.ok l_heard_here) fun v1 => (bdk (.ok []) fun r2 => .ok (v1 :: r2))) (ul1 reprX)) fun v5 => (bdk (bdk (bdk (.ok l_due) fun v3 => (bdk (.ok []) fun r4 => .ok (v3 :: r4))) (ul1 reprX)) fun v6 => eqD v5 v6)) fun d => .ok (.rt d))
theorem lz__law_is : F__law_is = L__law_is := rfl
def L__law_odd_item (l_pen_here : D) : Tr D :=
  fin (bdk (bdk (bdk (.ok l_pen_here) fun v29 => (bdk (bdk (bdk (bdk (.ok .non) fun v25 => (bdk (bdk (.ok (.bl true)) fun v23 => (bdk (bdk (.ok (.bl false)) fun v21 => (bdk (bdk (.ok (.str "1")) fun v19 => (bdk (bdk (.ok (.str "")) fun v17 => (bdk (bdk (bdk (bdk (.ok (.int 1)) fun v1 => (bdk (.ok []) fun r2 => .ok (v1 :: r2))) fun ds => if ds.length ≤ sizeLine then .ok (.lst ds) else .bad) fun v15 => (bdk (bdk (bdk (bdk (.ok (.int 1)) fun v3 => (bdk (.ok []) fun r4 => .ok (v3 :: r4))) fun ds => if ds.length ≤ sizeLine then .ok (.tup ds) else .bad) fun v13 => (bdk (bdk (.ok .dct) fun v11 => (bdk (bdk (.ok (.int 1000000000000000000000000000000)) fun v9 => (bdk (bdk (bdk (.ok (.int 1000000000000000000000000000000)) negD) fun v7 => (bdk (bdk (.ok (.int 100000000000000000000000000000000000000000000000000000000000)) fun v5 => (bdk (.ok []) fun r6 => .ok (v5 :: r6))) fun r8 => .ok (v7 :: r8))) fun r10 => .ok (v9 :: r10))) fun r12 => .ok (v11 :: r12))) fun r14 => .ok (v13 :: r14))) fun r16 => .ok (v15 :: r16))) fun r18 => .ok (v17 :: r18))) fun r20 => .ok (v19 :: r20))) fun r22 => .ok (v21 :: r22))) fun r24 => .ok (v23 :: r24))) fun r26 => .ok (v25 :: r26))) fun ds => if ds.length ≤ sizeLine then .ok (.lst ds) else .bad) fun v27 => (bdk (.ok []) fun r28 => .ok (v27 :: r28))) fun r30 => .ok (v29 :: r30))) (ul2 F__law_pick)) fun d => .ok (.rt d))
theorem lz__law_odd_item : F__law_odd_item = L__law_odd_item := rfl
def L__law_bent (l_pen_here l_lot : D) : Tr D :=
  fin (bdk (bdk (.ok l_lot) listL) fun (l_found0 : List D) => bdk (bdk (.ok []) fun ds => if ds.length ≤ sizeLine then .ok ds else .bad) fun (l_spots0 : List D) => (bdFk (bdk (bdk (bdk (bdk (.ok (.int 1)) fun v6 => (bdk (bdk (bdk (.ok l_pen_here) fun v4 => (bdk (bdk (.ok (.int 2)) fun v2 => (bdk (.ok []) fun r3 => .ok (v2 :: r3))) fun r5 => .ok (v4 :: r5))) (ul2 F_draw)) fun v7 => addD v6 v7)) fun v8 => (bdk (.ok []) fun r9 => .ok (v8 :: r9))) (ul1 rg1)) fun ds => forFk (fun (d11 : D) (w10 : List D × List D) => (bdk (bdk (bdk (.ok l_pen_here) fun v18 => (bdk (bdk (bdk (bdk (.ok l_lot) fun v14 => (bdk (.ok []) fun r15 => .ok (v14 :: r15))) (ul1 lenD)) fun v16 => (bdk (.ok []) fun r17 => .ok (v16 :: r17))) fun r19 => .ok (v18 :: r19))) (ul2 F_draw)) fun l_at12 => (bdk (bdk (bdk (.ok l_pen_here) fun v20 => (bdk (.ok []) fun r21 => .ok (v20 :: r21))) (ul1 F__law_odd_item)) fun v22 => bdk (.ok l_at12) fun v23 => bdk (setD w10.1 v23 v22) fun l_found23 => (bdk (.ok l_at12) fun (v25 : D) => if w10.2.length < sizeLine then (.ok (.nx (l_found23, (w10.2 ++ [v25])))) else .bad)))) ds (l_found0, l_spots0)) fun (w10 : List D × List D) => (bdk (bdk (bdk (.ok (.lst w10.1)) fun v33 => (bdk (bdk (bdk (bdk (bdk (bdk (.ok (.lst w10.2)) itD) fun ds => bdk (lcF (fun l_at25 => nox (bdk (bdk (bdk (.ok l_at25) fun v27 => (bdk (.ok []) fun r28 => .ok (v27 :: r28))) (ul1 intD)) fun y => .ok (some y))) ds) fun r => .ok (.lst r)) fun v29 => (bdk (.ok []) fun r30 => .ok (v29 :: r30))) (ul1 minD)) fun v31 => (bdk (.ok []) fun r32 => .ok (v31 :: r32))) fun r34 => .ok (v33 :: r34))) fun ds => if ds.length ≤ sizeLine then .ok (.tup ds) else .bad) fun d => .ok (.rt d))))
theorem lz__law_bent : F__law_bent = L__law_bent := rfl
def L__law_made_right (l_pen_here l_lot : D) : Tr D :=
  fin (bdk (bdk (bdk (.ok .non) fun v34 => (bdk (bdk (.ok (.int 0)) fun v32 => (bdk (bdk (.ok (.bl true)) fun v30 => (bdk (bdk (.ok (.str "12")) fun v28 => (bdk (bdk (.ok (.str "")) fun v26 => (bdk (bdk (.ok .dct) fun v24 => (bdk (bdk (bdk (.ok []) fun ds => if ds.length ≤ sizeLine then .ok (.tup ds) else .bad) fun v22 => (bdk (bdk (bdk (.ok []) fun ds => if ds.length ≤ sizeLine then .ok (.lst ds) else .bad) fun v20 => (bdk (bdk (.ok (.dic [(.inr "a", .int 1)])) fun v18 => (bdk (bdk (.ok (.dic [(.inl 1, .int 2)])) fun v16 => (bdk (bdk (bdk (bdk (.ok (.int 2001)) rgA1) fun r => if rgOk r.1 r.2 then .ok (.lst (rgD r.1 (r.2 - r.1).toNat)) else .bad) fun v14 => (bdk (bdk (bdk (bdk (bdk (.ok (.int 7)) fun v2 => (bdk (.ok []) fun r3 => .ok (v2 :: r3))) fun ds => if ds.length ≤ sizeLine then .ok (.tup ds) else .bad) fun v4 => (bdk (.ok (.int 2001)) fun v5 => mulU v4 v5)) fun v12 => (bdk (bdk (bdk (bdk (bdk (.ok .non) fun v6 => (bdk (.ok []) fun r7 => .ok (v6 :: r7))) fun ds => if ds.length ≤ sizeLine then .ok (.lst ds) else .bad) fun v8 => (bdk (.ok (.int 2001)) fun v9 => mulD v8 v9)) fun v10 => (bdk (.ok []) fun r11 => .ok (v10 :: r11))) fun r13 => .ok (v12 :: r13))) fun r15 => .ok (v14 :: r15))) fun r17 => .ok (v16 :: r17))) fun r19 => .ok (v18 :: r19))) fun r21 => .ok (v20 :: r21))) fun r23 => .ok (v22 :: r23))) fun r25 => .ok (v24 :: r25))) fun r27 => .ok (v26 :: r27))) fun r29 => .ok (v28 :: r29))) fun r31 => .ok (v30 :: r31))) fun r33 => .ok (v32 :: r33))) fun r35 => .ok (v34 :: r35))) fun ds => if ds.length ≤ sizeLine then .ok (.lst ds) else .bad) fun l_some0 => (bdk (bdk (bdk (.ok l_pen_here) fun v53 => (bdk (bdk (bdk (.ok l_some0) fun v49 => (bdk (bdk (bdk (nox (bdk (bdk (bdk (bdk (.ok (.int 1)) fun v39 => (bdk (bdk (.ok (.int 2)) fun v37 => (bdk (.ok []) fun r38 => .ok (v37 :: r38))) fun r40 => .ok (v39 :: r40))) fun ds => if ds.length ≤ sizeLine then .ok (.lst ds) else .bad) fun v41 => (bdk (.ok []) fun r42 => .ok (v41 :: r42))) (fun ds => bdk ((fun fs => ul1 (F_Row___init__ fs)) [] ds) fun fs => .ok (.obj "Row" fs)))) fun v47 => (bdk (bdk (nox (bdk (bdk (.ok (.int 3)) fun v43 => (bdk (.ok []) fun r44 => .ok (v43 :: r44))) (ul1 F_Row_home))) fun v45 => (bdk (.ok []) fun r46 => .ok (v45 :: r46))) fun r48 => .ok (v47 :: r48))) fun ds => if ds.length ≤ sizeLine then .ok (.lst ds) else .bad) fun v50 => addD v49 v50)) fun v51 => (bdk (.ok []) fun r52 => .ok (v51 :: r52))) fun r54 => .ok (v53 :: r54))) (ul2 F__law_pick)) fun l_odd35 => (bdFk (W' := Unit) (bdk (bdk (bdk (bdk (bdk (nox (F__law_heard (bdk (bdk (.ok l_odd35) fun v55 => (bdk (.ok []) fun r56 => .ok (v55 :: r56))) (fun ds => bdk ((fun fs => ul1 (F_Row___init__ fs)) [] ds) fun fs => .ok (.obj "Row" fs))))) fun v63 => (bdk (bdk (bdk (bdk (.ok (.str "row")) fun v59 => (bdk (bdk (.ok .non) fun v57 => (bdk (.ok []) fun r58 => .ok (v57 :: r58))) fun r60 => .ok (v59 :: r60))) fun ds => if ds.length ≤ sizeLine then .ok (.lst ds) else .bad) fun v61 => (bdk (.ok []) fun r62 => .ok (v61 :: r62))) fun r64 => .ok (v63 :: r64))) (ul2 F__law_is)) asB) fun k => .ok (!k)) fun k => if k = true then (bdk (.ok (.bl false)) fun d => .ok (.rt d)) else (.ok (.nx ()))) fun (w65 : Unit) => (bdk (bdk (bdk (.ok l_pen_here) fun v68 => (bdk (bdk (.ok l_lot) fun v66 => (bdk (.ok []) fun r67 => .ok (v66 :: r67))) fun r69 => .ok (v68 :: r69))) (ul2 F__law_bent)) fun d71 => un2 d71 fun l_bent_here69 l_first69 => (bdFk (W' := Unit) (bdk (bdk (bdk (bdk (bdk (nox (F__law_heard (bdk (bdk (.ok l_bent_here69) fun v72 => (bdk (.ok []) fun r73 => .ok (v72 :: r73))) (fun ds => bdk ((fun fs => ul1 (F_Row___init__ fs)) [] ds) fun fs => .ok (.obj "Row" fs))))) fun v80 => (bdk (bdk (bdk (bdk (.ok (.str "row")) fun v76 => (bdk (bdk (.ok l_first69) fun v74 => (bdk (.ok []) fun r75 => .ok (v74 :: r75))) fun r77 => .ok (v76 :: r77))) fun ds => if ds.length ≤ sizeLine then .ok (.lst ds) else .bad) fun v78 => (bdk (.ok []) fun r79 => .ok (v78 :: r79))) fun r81 => .ok (v80 :: r81))) (ul2 F__law_is)) asB) fun k => .ok (!k)) fun k => if k = true then (bdk (.ok (.bl false)) fun d => .ok (.rt d)) else (.ok (.nx ()))) fun (w82 : Unit) => (bdFk (W' := Unit) (bdk (bdk (bdk (bdk (bdk (nox (F__law_heard (bdk (bdk (bdk (bdk (.ok l_bent_here69) fun v83 => (bdk (.ok []) fun r84 => .ok (v83 :: r84))) (ul1 tupD)) fun v85 => (bdk (.ok []) fun r86 => .ok (v85 :: r86))) ((kwM "Row" 0 1 [.inl 0] [] (fun fs => ul1 (F_Row___init__ fs))) [])))) fun v93 => (bdk (bdk (bdk (bdk (.ok (.str "row")) fun v89 => (bdk (bdk (.ok l_first69) fun v87 => (bdk (.ok []) fun r88 => .ok (v87 :: r88))) fun r90 => .ok (v89 :: r90))) fun ds => if ds.length ≤ sizeLine then .ok (.lst ds) else .bad) fun v91 => (bdk (.ok []) fun r92 => .ok (v91 :: r92))) fun r94 => .ok (v93 :: r94))) (ul2 F__law_is)) asB) fun k => .ok (!k)) fun k => if k = true then (bdk (.ok (.bl false)) fun d => .ok (.rt d)) else (.ok (.nx ()))) fun (w95 : Unit) => (bdk (bdk (bdk (.ok l_pen_here) fun v123 => (bdk (bdk (bdk (bdk (.ok (.int 0)) fun v119 => (bdk (bdk (bdk (.ok (.int 1)) negD) fun v117 => (bdk (bdk (.ok (.int 2001)) fun v115 => (bdk (bdk (.ok .non) fun v113 => (bdk (bdk (.ok (.bl true)) fun v111 => (bdk (bdk (.ok (.str "5")) fun v109 => (bdk (bdk (bdk (bdk (.ok (.int 5)) fun v97 => (bdk (.ok []) fun r98 => .ok (v97 :: r98))) fun ds => if ds.length ≤ sizeLine then .ok (.lst ds) else .bad) fun v107 => (bdk (bdk (bdk (bdk (.ok (.int 1)) fun v99 => (bdk (.ok []) fun r100 => .ok (v99 :: r100))) fun ds => if ds.length ≤ sizeLine then .ok (.tup ds) else .bad) fun v105 => (bdk (bdk (.ok .dct) fun v103 => (bdk (bdk (.ok (.int 10000000000000000000000000000000000000000)) fun v101 => (bdk (.ok []) fun r102 => .ok (v101 :: r102))) fun r104 => .ok (v103 :: r104))) fun r106 => .ok (v105 :: r106))) fun r108 => .ok (v107 :: r108))) fun r110 => .ok (v109 :: r110))) fun r112 => .ok (v111 :: r112))) fun r114 => .ok (v113 :: r114))) fun r116 => .ok (v115 :: r116))) fun r118 => .ok (v117 :: r118))) fun r120 => .ok (v119 :: r120))) fun ds => if ds.length ≤ sizeLine then .ok (.lst ds) else .bad) fun v121 => (bdk (.ok []) fun r122 => .ok (v121 :: r122))) fun r124 => .ok (v123 :: r124))) (ul2 F__law_pick)) fun l_size95 => (bdk (bdk (bdk (nox (F__law_heard (bdk (bdk (.ok l_size95) fun v125 => (bdk (.ok []) fun r126 => .ok (v125 :: r126))) (ul1 F_Row_home)))) fun v133 => (bdk (bdk (bdk (bdk (.ok (.str "length")) fun v129 => (bdk (bdk (.ok l_size95) fun v127 => (bdk (.ok []) fun r128 => .ok (v127 :: r128))) fun r130 => .ok (v129 :: r130))) fun ds => if ds.length ≤ sizeLine then .ok (.lst ds) else .bad) fun v131 => (bdk (.ok []) fun r132 => .ok (v131 :: r132))) fun r134 => .ok (v133 :: r134))) (ul2 F__law_is)) fun d => .ok (.rt d)))))))))
theorem lz__law_made_right : F__law_made_right = L__law_made_right := rfl
def L__law_store (l_row l_index l_value : D) : Tr D :=
  fin (bdk (bdk (bdk (.ok l_value) fun v5 => (bdk (bdk (.ok l_row) fun v3 => (bdk (bdk (.ok l_index) fun v1 => (bdk (.ok []) fun r2 => .ok (v1 :: r2))) fun r4 => .ok (v3 :: r4))) fun r6 => .ok (v5 :: r6))) (setOD "Row" (ul3 F_Row___setitem__))) fun _ => (.ok (.nx ())))
theorem lz__law_store : F__law_store = L__law_store := rfl
def L__law_odd_index (l_pen_here l_size : D) : Tr D :=
  fin (bdk (bdk (bdk (.ok .non) fun v54 => (bdk (bdk (.ok (.bl true)) fun v52 => (bdk (bdk (.ok (.bl false)) fun v50 => (bdk (bdk (.ok (.str "0")) fun v48 => (bdk (bdk (bdk (bdk (.ok (.int 0)) fun v2 => (bdk (.ok []) fun r3 => .ok (v2 :: r3))) fun ds => if ds.length ≤ sizeLine then .ok (.lst ds) else .bad) fun v46 => (bdk (bdk (.ok .dct) fun v44 => (bdk (bdk (.ok l_size) fun v42 => (bdk (bdk (bdk (.ok (.int 1)) negD) fun v40 => (bdk (bdk (.ok (.int 10000000000000000000000000000000000000000)) fun v38 => (bdk (bdk (bdk (.ok []) fun ds => if ds.length ≤ sizeLine then .ok (.tup ds) else .bad) fun v36 => (bdk (bdk (bdk (bdk (.ok (.int 0)) fun v4 => (bdk (.ok []) fun r5 => .ok (v4 :: r5))) fun ds => if ds.length ≤ sizeLine then .ok (.tup ds) else .bad) fun v34 => (bdk (bdk (bdk (bdk (.ok (.int 0)) fun v10 => (bdk (bdk (.ok (.int 1)) fun v8 => (bdk (bdk (.ok (.int 1)) fun v6 => (bdk (.ok []) fun r7 => .ok (v6 :: r7))) fun r9 => .ok (v8 :: r9))) fun r11 => .ok (v10 :: r11))) fun ds => if ds.length ≤ sizeLine then .ok (.tup ds) else .bad) fun v32 => (bdk (bdk (bdk (bdk (.ok (.int 1)) fun v14 => (bdk (bdk (.ok (.int 0)) fun v12 => (bdk (.ok []) fun r13 => .ok (v12 :: r13))) fun r15 => .ok (v14 :: r15))) fun ds => if ds.length ≤ sizeLine then .ok (.tup ds) else .bad) fun v30 => (bdk (bdk (bdk (bdk (bdk (.ok (.int 1)) negD) fun v18 => (bdk (bdk (.ok (.int 0)) fun v16 => (bdk (.ok []) fun r17 => .ok (v16 :: r17))) fun r19 => .ok (v18 :: r19))) fun ds => if ds.length ≤ sizeLine then .ok (.tup ds) else .bad) fun v28 => (bdk (bdk (bdk (bdk (.ok (.int 0)) fun v24 => (bdk (bdk (bdk (.ok l_size) fun v20 => (bdk (.ok (.int 1)) fun v21 => addD v20 v21)) fun v22 => (bdk (.ok []) fun r23 => .ok (v22 :: r23))) fun r25 => .ok (v24 :: r25))) fun ds => if ds.length ≤ sizeLine then .ok (.tup ds) else .bad) fun v26 => (bdk (.ok []) fun r27 => .ok (v26 :: r27))) fun r29 => .ok (v28 :: r29))) fun r31 => .ok (v30 :: r31))) fun r33 => .ok (v32 :: r33))) fun r35 => .ok (v34 :: r35))) fun r37 => .ok (v36 :: r37))) fun r39 => .ok (v38 :: r39))) fun r41 => .ok (v40 :: r41))) fun r43 => .ok (v42 :: r43))) fun r45 => .ok (v44 :: r45))) fun r47 => .ok (v46 :: r47))) fun r49 => .ok (v48 :: r49))) fun r51 => .ok (v50 :: r51))) fun r53 => .ok (v52 :: r53))) fun r55 => .ok (v54 :: r55))) fun ds => if ds.length ≤ sizeLine then .ok (.lst ds) else .bad) fun l_odd0 => (bdk (bdk (bdk (.ok l_pen_here) fun v100 => (bdk (bdk (bdk (.ok l_odd0) fun v96 => (bdk (bdk (bdk (bdk (bdk (.ok (.bl true)) fun v58 => (bdk (bdk (.ok (.int 1)) fun v56 => (bdk (.ok []) fun r57 => .ok (v56 :: r57))) fun r59 => .ok (v58 :: r59))) fun ds => if ds.length ≤ sizeLine then .ok (.tup ds) else .bad) fun v94 => (bdk (bdk (bdk (bdk (.ok (.int 0)) fun v62 => (bdk (bdk (.ok .non) fun v60 => (bdk (.ok []) fun r61 => .ok (v60 :: r61))) fun r63 => .ok (v62 :: r63))) fun ds => if ds.length ≤ sizeLine then .ok (.tup ds) else .bad) fun v92 => (bdk (bdk (bdk (bdk (.ok (.int 0)) fun v66 => (bdk (bdk (.ok (.str "1")) fun v64 => (bdk (.ok []) fun r65 => .ok (v64 :: r65))) fun r67 => .ok (v66 :: r67))) fun ds => if ds.length ≤ sizeLine then .ok (.tup ds) else .bad) fun v90 => (bdk (bdk (bdk (bdk (bdk (.ok l_size) fun v68 => (bdk (.ok (.int 1)) fun v69 => addD v68 v69)) fun v74 => (bdk (bdk (bdk (.ok l_size) fun v70 => (bdk (.ok (.int 1)) fun v71 => addD v70 v71)) fun v72 => (bdk (.ok []) fun r73 => .ok (v72 :: r73))) fun r75 => .ok (v74 :: r75))) fun ds => if ds.length ≤ sizeLine then .ok (.tup ds) else .bad) fun v88 => (bdk (bdk (bdk (bdk (.ok (.int 0)) fun v78 => (bdk (bdk (.ok (.int 1)) fun v76 => (bdk (.ok []) fun r77 => .ok (v76 :: r77))) fun r79 => .ok (v78 :: r79))) fun ds => if ds.length ≤ sizeLine then .ok (.lst ds) else .bad) fun v86 => (bdk (bdk (bdk (bdk (.ok (.int 0)) fun v82 => (bdk (bdk (.ok (.bl false)) fun v80 => (bdk (.ok []) fun r81 => .ok (v80 :: r81))) fun r83 => .ok (v82 :: r83))) fun ds => if ds.length ≤ sizeLine then .ok (.tup ds) else .bad) fun v84 => (bdk (.ok []) fun r85 => .ok (v84 :: r85))) fun r87 => .ok (v86 :: r87))) fun r89 => .ok (v88 :: r89))) fun r91 => .ok (v90 :: r91))) fun r93 => .ok (v92 :: r93))) fun r95 => .ok (v94 :: r95))) fun ds => if ds.length ≤ sizeLine then .ok (.lst ds) else .bad) fun v97 => addD v96 v97)) fun v98 => (bdk (.ok []) fun r99 => .ok (v98 :: r99))) fun r101 => .ok (v100 :: r101))) (ul2 F__law_pick)) fun d => .ok (.rt d)))
theorem lz__law_odd_index : F__law_odd_index = L__law_odd_index := rfl
def L__law_indexes_right (l_pen_here l_row l_size : D) : Tr D :=
  fin (bdk (bdk (bdk (bdk (bdk (.ok l_pen_here) fun v3 => (bdk (bdk (.ok l_size) fun v1 => (bdk (.ok []) fun r2 => .ok (v1 :: r2))) fun r4 => .ok (v3 :: r4))) (ul2 F__law_odd_index)) fun v23 => (bdk (bdk (bdk (bdk (.ok l_pen_here) fun v19 => (bdk (bdk (bdk (bdk (.ok (.int 3)) fun v15 => (bdk (bdk (.ok .non) fun v13 => (bdk (bdk (bdk (.ok []) fun ds => if ds.length ≤ sizeLine then .ok (.lst ds) else .bad) fun v11 => (bdk (bdk (bdk (bdk (.ok (.int 1)) fun v5 => (bdk (.ok []) fun r6 => .ok (v5 :: r6))) fun ds => if ds.length ≤ sizeLine then .ok (.lst ds) else .bad) fun v9 => (bdk (bdk (.ok (.str "x")) fun v7 => (bdk (.ok []) fun r8 => .ok (v7 :: r8))) fun r10 => .ok (v9 :: r10))) fun r12 => .ok (v11 :: r12))) fun r14 => .ok (v13 :: r14))) fun r16 => .ok (v15 :: r16))) fun ds => if ds.length ≤ sizeLine then .ok (.lst ds) else .bad) fun v17 => (bdk (.ok []) fun r18 => .ok (v17 :: r18))) fun r20 => .ok (v19 :: r20))) (ul2 F__law_pick)) fun v21 => (bdk (.ok []) fun r22 => .ok (v21 :: r22))) fun r24 => .ok (v23 :: r24))) fun ds => if ds.length ≤ sizeLine then .ok (.tup ds) else .bad) fun d26 => un2 d26 fun l_odd24 l_value24 => (bdFk (W' := Unit) (bdk (bdk (bdk (bdk (bdk (nox (F__law_heard (bdk (.ok l_row) fun v27 => (bdk (.ok l_odd24) fun v28 => ixO "Row" (ul2 F_Row___getitem__) v27 v28)))) fun v35 => (bdk (bdk (bdk (bdk (.ok (.str "place")) fun v31 => (bdk (bdk (.ok l_odd24) fun v29 => (bdk (.ok []) fun r30 => .ok (v29 :: r30))) fun r32 => .ok (v31 :: r32))) fun ds => if ds.length ≤ sizeLine then .ok (.lst ds) else .bad) fun v33 => (bdk (.ok []) fun r34 => .ok (v33 :: r34))) fun r36 => .ok (v35 :: r36))) (ul2 F__law_is)) asB) fun k => .ok (!k)) fun k => if k = true then (bdk (.ok (.bl false)) fun d => .ok (.rt d)) else (.ok (.nx ()))) fun (w37 : Unit) => (bdFk (W' := Unit) (bdk (bdk (bdk (bdk (bdk (nox (F__law_heard (bdk (bdk (.ok l_row) fun v42 => (bdk (bdk (.ok l_odd24) fun v40 => (bdk (bdk (.ok l_value24) fun v38 => (bdk (.ok []) fun r39 => .ok (v38 :: r39))) fun r41 => .ok (v40 :: r41))) fun r43 => .ok (v42 :: r43))) (ul3 F__law_store)))) fun v50 => (bdk (bdk (bdk (bdk (.ok (.str "place")) fun v46 => (bdk (bdk (.ok l_odd24) fun v44 => (bdk (.ok []) fun r45 => .ok (v44 :: r45))) fun r47 => .ok (v46 :: r47))) fun ds => if ds.length ≤ sizeLine then .ok (.lst ds) else .bad) fun v48 => (bdk (.ok []) fun r49 => .ok (v48 :: r49))) fun r51 => .ok (v50 :: r51))) (ul2 F__law_is)) asB) fun k => .ok (!k)) fun k => if k = true then (bdk (.ok (.bl false)) fun d => .ok (.rt d)) else (.ok (.nx ()))) fun (w52 : Unit) => (bdk (bdk (bdk (.ok l_pen_here) fun v78 => (bdk (bdk (bdk (bdk (bdk (.ok l_size) fun v54 => (bdk (.ok (.int 1)) fun v55 => subD v54 v55)) fun v74 => (bdk (bdk (.ok l_size) fun v72 => (bdk (bdk (bdk (.ok (.int 1)) negD) fun v70 => (bdk (bdk (.ok .non) fun v68 => (bdk (bdk (.ok (.bl true)) fun v66 => (bdk (bdk (.ok (.str "0")) fun v64 => (bdk (bdk (bdk (bdk (.ok (.int 0)) fun v58 => (bdk (bdk (.ok (.int 1)) fun v56 => (bdk (.ok []) fun r57 => .ok (v56 :: r57))) fun r59 => .ok (v58 :: r59))) fun ds => if ds.length ≤ sizeLine then .ok (.tup ds) else .bad) fun v62 => (bdk (bdk (.ok (.int 10000000000000000000000000000000000000000)) fun v60 => (bdk (.ok []) fun r61 => .ok (v60 :: r61))) fun r63 => .ok (v62 :: r63))) fun r65 => .ok (v64 :: r65))) fun r67 => .ok (v66 :: r67))) fun r69 => .ok (v68 :: r69))) fun r71 => .ok (v70 :: r71))) fun r73 => .ok (v72 :: r73))) fun r75 => .ok (v74 :: r75))) fun ds => if ds.length ≤ sizeLine then .ok (.lst ds) else .bad) fun v76 => (bdk (.ok []) fun r77 => .ok (v76 :: r77))) fun r79 => .ok (v78 :: r79))) (ul2 F__law_pick)) fun l_other52 => (bdk (bdk (bdk (nox (F__law_heard (bdk (.ok l_row) fun o82 => (isO "Row" o82 fun fs => if fs.lookup ("exchange" : Str) = none then bdk (bdk (.ok l_other52) fun v80 => (bdk (.ok []) fun r81 => .ok (v80 :: r81))) fun ds => (ul2 F_Row_exchange) (o82 :: ds) else .bad)))) fun v89 => (bdk (bdk (bdk (bdk (.ok (.str "place")) fun v85 => (bdk (bdk (.ok l_other52) fun v83 => (bdk (.ok []) fun r84 => .ok (v83 :: r84))) fun r86 => .ok (v85 :: r86))) fun ds => if ds.length ≤ sizeLine then .ok (.lst ds) else .bad) fun v87 => (bdk (.ok []) fun r88 => .ok (v87 :: r88))) fun r90 => .ok (v89 :: r90))) (ul2 F__law_is)) fun d => .ok (.rt d))))))
theorem lz__law_indexes_right : F__law_indexes_right = L__law_indexes_right := rfl
def L__law_puts_right (l_pen_here l_row l_size : D) : Tr D :=
  fin (bdk (bdk (bdk (bdk (bdk (.ok l_pen_here) fun v3 => (bdk (bdk (.ok l_size) fun v1 => (bdk (.ok []) fun r2 => .ok (v1 :: r2))) fun r4 => .ok (v3 :: r4))) (ul2 F_draw)) fun v9 => (bdk (bdk (bdk (bdk (.ok l_pen_here) fun v5 => (bdk (.ok []) fun r6 => .ok (v5 :: r6))) (ul1 F__law_odd_item)) fun v7 => (bdk (.ok []) fun r8 => .ok (v7 :: r8))) fun r10 => .ok (v9 :: r10))) fun ds => if ds.length ≤ sizeLine then .ok (.tup ds) else .bad) fun d12 => un2 d12 fun l_place10 l_odd10 => (bdFk (W' := Unit) (bdk (bdk (bdk (bdk (bdk (nox (F__law_heard (bdk (bdk (.ok l_row) fun v17 => (bdk (bdk (.ok l_place10) fun v15 => (bdk (bdk (.ok l_odd10) fun v13 => (bdk (.ok []) fun r14 => .ok (v13 :: r14))) fun r16 => .ok (v15 :: r16))) fun r18 => .ok (v17 :: r18))) (ul3 F__law_store)))) fun v25 => (bdk (bdk (bdk (bdk (.ok (.str "row")) fun v21 => (bdk (bdk (.ok (.int 0)) fun v19 => (bdk (.ok []) fun r20 => .ok (v19 :: r20))) fun r22 => .ok (v21 :: r22))) fun ds => if ds.length ≤ sizeLine then .ok (.lst ds) else .bad) fun v23 => (bdk (.ok []) fun r24 => .ok (v23 :: r24))) fun r26 => .ok (v25 :: r26))) (ul2 F__law_is)) asB) fun k => .ok (!k)) fun k => if k = true then (bdk (.ok (.bl false)) fun d => .ok (.rt d)) else (.ok (.nx ()))) fun (w27 : Unit) => (bdk (bdk (bdk (.ok l_pen_here) fun v33 => (bdk (bdk (bdk (.ok l_size) fun v29 => (bdk (.ok (.int 1)) fun v30 => addD v29 v30)) fun v31 => (bdk (.ok []) fun r32 => .ok (v31 :: r32))) fun r34 => .ok (v33 :: r34))) (ul2 F_draw)) fun l_begin27 => (bdk (bdk (.ok l_begin27) fun v44 => (bdk (bdk (bdk (.ok l_pen_here) fun v42 => (bdk (bdk (bdk (bdk (.ok l_size) fun v36 => (bdk (.ok (.int 1)) fun v37 => addD v36 v37)) fun v38 => (bdk (.ok l_begin27) fun v39 => subD v38 v39)) fun v40 => (bdk (.ok []) fun r41 => .ok (v40 :: r41))) fun r43 => .ok (v42 :: r43))) (ul2 F_draw)) fun v45 => addD v44 v45)) fun l_end34 => (bdk (bdk (.ok l_end34) fun v47 => (bdk (.ok l_begin27) fun v48 => subD v47 v48)) fun l_many45 => (bdk (bdk (bdk (.ok .non) fun v80 => (bdk (bdk (.ok (.int 5)) fun v78 => (bdk (bdk (.ok (.str "")) fun v76 => (bdk (bdk (.ok .dct) fun v74 => (bdk (bdk (bdk (bdk (bdk (.ok (.int 1)) fun v50 => (bdk (.ok []) fun r51 => .ok (v50 :: r51))) fun ds => if ds.length ≤ sizeLine then .ok (.lst ds) else .bad) fun v54 => (bdk (bdk (.ok l_many45) fun v52 => (bdk (.ok (.int 1)) fun v53 => addD v52 v53)) fun v55 => mulD v54 v55)) fun v72 => (bdk (bdk (bdk (bdk (bdk (.ok (.int 2)) fun v56 => (bdk (.ok []) fun r57 => .ok (v56 :: r57))) fun ds => if ds.length ≤ sizeLine then .ok (.tup ds) else .bad) fun v60 => (bdk (bdk (.ok l_many45) fun v58 => (bdk (.ok (.int 1)) fun v59 => addD v58 v59)) fun v61 => mulU v60 v61)) fun v70 => (bdk (bdk (bdk (bdk (bdk (.ok .non) fun v62 => (bdk (.ok []) fun r63 => .ok (v62 :: r63))) fun ds => if ds.length ≤ sizeLine then .ok (.lst ds) else .bad) fun v66 => (bdk (bdk (.ok l_many45) fun v64 => (bdk (.ok (.int 2)) fun v65 => addD v64 v65)) fun v67 => mulD v66 v67)) fun v68 => (bdk (.ok []) fun r69 => .ok (v68 :: r69))) fun r71 => .ok (v70 :: r71))) fun r73 => .ok (v72 :: r73))) fun r75 => .ok (v74 :: r75))) fun r77 => .ok (v76 :: r77))) fun r79 => .ok (v78 :: r79))) fun r81 => .ok (v80 :: r81))) fun ds => if ds.length ≤ sizeLine then .ok (.lst ds) else .bad) fun l_values48 => (bdFk (W' := D) (bdk (bdk (bdk (.ok l_many45) fun v82 => (bdk (.ok (.int 0)) fun v83 => gtD v82 v83)) asB) fun k => if k = true then (bdk (bdk (.ok l_values48) fun v117 => (bdk (bdk (bdk (bdk (.ok []) fun ds => if ds.length ≤ sizeLine then .ok (.lst ds) else .bad) fun v115 => (bdk (bdk (bdk (.ok []) fun ds => if ds.length ≤ sizeLine then .ok (.tup ds) else .bad) fun v113 => (bdk (bdk (bdk (bdk (bdk (.ok .non) fun v86 => (bdk (.ok []) fun r87 => .ok (v86 :: r87))) fun ds => if ds.length ≤ sizeLine then .ok (.lst ds) else .bad) fun v90 => (bdk (bdk (.ok l_many45) fun v88 => (bdk (.ok (.int 1)) fun v89 => subD v88 v89)) fun v91 => mulD v90 v91)) fun v111 => (bdk (bdk (nox (bdk (bdk (bdk (bdk (bdk (.ok (.int 1)) fun v92 => (bdk (.ok []) fun r93 => .ok (v92 :: r93))) fun ds => if ds.length ≤ sizeLine then .ok (.lst ds) else .bad) fun v94 => (bdk (.ok l_many45) fun v95 => mulD v94 v95)) fun v96 => (bdk (.ok []) fun r97 => .ok (v96 :: r97))) (fun ds => bdk ((fun fs => ul1 (F_Row___init__ fs)) [] ds) fun fs => .ok (.obj "Row" fs)))) fun v109 => (bdk (bdk (bdk (bdk (bdk (bdk (bdk (.ok l_many45) fun v98 => (bdk (.ok []) fun r99 => .ok (v98 :: r99))) (ul1 rg1)) fun ds => bdk (lcF (fun l_k99 => nox (bdk (bdk (bdk (.ok l_k99) fun v103 => (bdk (bdk (.ok (.int 1)) fun v101 => (bdk (.ok []) fun r102 => .ok (v101 :: r102))) fun r104 => .ok (v103 :: r104))) fun ds => if ds.length ≤ sizeLine then .ok (.tup ds) else .bad) fun y => .ok (some y))) ds) fun r => .ok (.lst r)) fun v105 => (bdk (.ok []) fun r106 => .ok (v105 :: r106))) (ul1 dictP)) fun v107 => (bdk (.ok []) fun r108 => .ok (v107 :: r108))) fun r110 => .ok (v109 :: r110))) fun r112 => .ok (v111 :: r112))) fun r114 => .ok (v113 :: r114))) fun r116 => .ok (v115 :: r116))) fun ds => if ds.length ≤ sizeLine then .ok (.lst ds) else .bad) fun v118 => addD v117 v118)) fun l_values84 => (.ok (.nx l_values84))) else (.ok (.nx l_values48))) fun (w84 : D) => (bdk (bdk (bdk (.ok l_pen_here) fun v122 => (bdk (bdk (.ok w84) fun v120 => (bdk (.ok []) fun r121 => .ok (v120 :: r121))) fun r123 => .ok (v122 :: r123))) (ul2 F__law_pick)) fun l_wrong118 => (bdFk (W' := Unit) (bdk (bdk (bdk (bdk (bdk (nox (F__law_heard (bdk (bdk (.ok l_row) fun v132 => (bdk (bdk (bdk (bdk (.ok l_begin27) fun v126 => (bdk (bdk (.ok l_end34) fun v124 => (bdk (.ok []) fun r125 => .ok (v124 :: r125))) fun r127 => .ok (v126 :: r127))) fun ds => if ds.length ≤ sizeLine then .ok (.tup ds) else .bad) fun v130 => (bdk (bdk (.ok l_wrong118) fun v128 => (bdk (.ok []) fun r129 => .ok (v128 :: r129))) fun r131 => .ok (v130 :: r131))) fun r133 => .ok (v132 :: r133))) (ul3 F__law_store)))) fun v140 => (bdk (bdk (bdk (bdk (.ok (.str "row")) fun v136 => (bdk (bdk (.ok .non) fun v134 => (bdk (.ok []) fun r135 => .ok (v134 :: r135))) fun r137 => .ok (v136 :: r137))) fun ds => if ds.length ≤ sizeLine then .ok (.lst ds) else .bad) fun v138 => (bdk (.ok []) fun r139 => .ok (v138 :: r139))) fun r141 => .ok (v140 :: r141))) (ul2 F__law_is)) asB) fun k => .ok (!k)) fun k => if k = true then (bdk (.ok (.bl false)) fun d => .ok (.rt d)) else (.ok (.nx ()))) fun (w142 : Unit) => (bdFk (W' := Unit) (bdk (bdk (bdk (.ok l_many45) fun v143 => (bdk (.ok (.int 0)) fun v144 => eqD v143 v144)) asB) fun k => if k = true then (bdk (.ok (.bl true)) fun d => .ok (.rt d)) else (.ok (.nx ()))) fun (w145 : Unit) => (bdk (bdk (bdk (.ok l_pen_here) fun v152 => (bdk (bdk (bdk (bdk (bdk (.ok (.int 4)) fun v146 => (bdk (.ok []) fun r147 => .ok (v146 :: r147))) fun ds => if ds.length ≤ sizeLine then .ok (.lst ds) else .bad) fun v148 => (bdk (.ok l_many45) fun v149 => mulD v148 v149)) fun v150 => (bdk (.ok []) fun r151 => .ok (v150 :: r151))) fun r153 => .ok (v152 :: r153))) (ul2 F__law_bent)) fun d155 => un2 d155 fun l_bent_here153 l_first153 => (bdk (bdk (bdk (.ok l_pen_here) fun v165 => (bdk (bdk (bdk (bdk (.ok l_bent_here153) fun v161 => (bdk (bdk (bdk (bdk (.ok l_bent_here153) fun v157 => (bdk (.ok []) fun r158 => .ok (v157 :: r158))) (ul1 tupD)) fun v159 => (bdk (.ok []) fun r160 => .ok (v159 :: r160))) fun r162 => .ok (v161 :: r162))) fun ds => if ds.length ≤ sizeLine then .ok (.lst ds) else .bad) fun v163 => (bdk (.ok []) fun r164 => .ok (v163 :: r164))) fun r166 => .ok (v165 :: r166))) (ul2 F__law_pick)) fun l_passed155 => (bdk (bdk (bdk (nox (F__law_heard (bdk (bdk (.ok l_row) fun v175 => (bdk (bdk (bdk (bdk (.ok l_begin27) fun v169 => (bdk (bdk (.ok l_end34) fun v167 => (bdk (.ok []) fun r168 => .ok (v167 :: r168))) fun r170 => .ok (v169 :: r170))) fun ds => if ds.length ≤ sizeLine then .ok (.tup ds) else .bad) fun v173 => (bdk (bdk (.ok l_passed155) fun v171 => (bdk (.ok []) fun r172 => .ok (v171 :: r172))) fun r174 => .ok (v173 :: r174))) fun r176 => .ok (v175 :: r176))) (ul3 F__law_store)))) fun v183 => (bdk (bdk (bdk (bdk (.ok (.str "row")) fun v179 => (bdk (bdk (.ok l_first153) fun v177 => (bdk (.ok []) fun r178 => .ok (v177 :: r178))) fun r180 => .ok (v179 :: r180))) fun ds => if ds.length ≤ sizeLine then .ok (.lst ds) else .bad) fun v181 => (bdk (.ok []) fun r182 => .ok (v181 :: r182))) fun r184 => .ok (v183 :: r184))) (ul2 F__law_is)) fun d => .ok (.rt d))))))))))))))
theorem lz__law_puts_right : F__law_puts_right = L__law_puts_right := rfl
def L_law : Tr D :=
  fin (bdFk (bdk (bdk (bdk (.ok (.int 5)) fun v1 => (bdk (.ok []) fun r2 => .ok (v1 :: r2))) (ul1 rg1)) fun ds => forFk (fun (d4 : D) (w3 : Unit) => (bdk (bdk (bdk (bdk (bdk (.ok (.int 1)) fun v11 => (bdk (bdk (bdk (.ok .pen) fun v9 => (bdk (bdk (.ok (.int 7)) fun v7 => (bdk (.ok []) fun r8 => .ok (v7 :: r8))) fun r10 => .ok (v9 :: r10))) (ul2 F_draw)) fun v12 => addD v11 v12)) fun v13 => (bdk (.ok []) fun r14 => .ok (v13 :: r14))) (ul1 rg1)) fun ds => bdk (lcF (fun l_k14 => nox (bdk (bdk (bdk (.ok .pen) fun v18 => (bdk (bdk (.ok (.int 9)) fun v16 => (bdk (.ok []) fun r17 => .ok (v16 :: r17))) fun r19 => .ok (v18 :: r19))) (ul2 F_draw)) fun y => .ok (some y))) ds) fun r => .ok (.lst r)) fun l_lot5 => (bdFk (W' := Unit) (bdk (bdk (bdk (bdk (bdk (.ok .pen) fun v22 => (bdk (bdk (.ok l_lot5) fun v20 => (bdk (.ok []) fun r21 => .ok (v20 :: r21))) fun r23 => .ok (v22 :: r23))) (ul2 F__law_made_right)) asB) fun k => .ok (!k)) fun k => if k = true then (bdk (.ok (.bl false)) fun d => .ok (.rt d)) else (.ok (.nx ()))) fun (w24 : Unit) => (bdk (nox (bdk (bdk (.ok l_lot5) fun v26 => (bdk (.ok []) fun r27 => .ok (v26 :: r27))) (fun ds => bdk ((fun fs => ul1 (F_Row___init__ fs)) [] ds) fun fs => .ok (.obj "Row" fs)))) fun l_row24 => (bdFk (bdk (bdk (bdk (.ok (.int 3)) fun v28 => (bdk (.ok []) fun r29 => .ok (v28 :: r29))) (ul1 rg1)) fun ds => forFk (fun (d31 : D) (w30 : Unit) => (bdFk (W' := Unit) (bdk (bdk (bdk (bdk (bdk (bdk (.ok .pen) fun v39 => (bdk (bdk (.ok l_row24) fun v37 => (bdk (bdk (bdk (bdk (.ok l_lot5) fun v33 => (bdk (.ok []) fun r34 => .ok (v33 :: r34))) (ul1 lenD)) fun v35 => (bdk (.ok []) fun r36 => .ok (v35 :: r36))) fun r38 => .ok (v37 :: r38))) fun r40 => .ok (v39 :: r40))) (ul3 F__law_indexes_right)) asB) fun k => .ok (!k)) fun k => if k = true then .ok true else (bdk (bdk (bdk (bdk (.ok .pen) fun v47 => (bdk (bdk (.ok l_row24) fun v45 => (bdk (bdk (bdk (bdk (.ok l_lot5) fun v41 => (bdk (.ok []) fun r42 => .ok (v41 :: r42))) (ul1 lenD)) fun v43 => (bdk (.ok []) fun r44 => .ok (v43 :: r44))) fun r46 => .ok (v45 :: r46))) fun r48 => .ok (v47 :: r48))) (ul3 F__law_puts_right)) asB) fun k => .ok (!k))) fun k => if k = true then (bdk (.ok (.bl false)) fun d => .ok (.rt d)) else (.ok (.nx ()))) fun (w49 : Unit) => (.ok (.nx ())))) ds ()) fun (w30 : Unit) => (bdFk (W' := Unit) (bdk (bdk (bdk (nox (bdk (.ok l_row24) fun o50 => (isO "Row" o50 fun _ => (ul1 F_Row_contents) [o50]))) fun v53 => (bdk (bdk (bdk (.ok l_lot5) fun v51 => (bdk (.ok []) fun r52 => .ok (v51 :: r52))) (ul1 tupD)) fun v54 => neD v53 v54)) asB) fun k => if k = true then (bdk (.ok (.bl false)) fun d => .ok (.rt d)) else (.ok (.nx ()))) fun (w55 : Unit) => (.ok (.nx ())))))))) ds ()) fun (w3 : Unit) => (bdk (bdk (bdk (bdk (bdk (bdk (.ok (.int 1)) fun v56 => (bdk (.ok []) fun r57 => .ok (v56 :: r57))) fun ds => if ds.length ≤ sizeLine then .ok (.lst ds) else .bad) fun v58 => (bdk (.ok (.int 1999)) fun v59 => mulD v58 v59)) fun v68 => (bdk (bdk (nox (bdk (bdk (bdk (bdk (.ok (.int 4)) fun v62 => (bdk (bdk (.ok (.int 5)) fun v60 => (bdk (.ok []) fun r61 => .ok (v60 :: r61))) fun r63 => .ok (v62 :: r63))) fun ds => if ds.length ≤ sizeLine then .ok (.lst ds) else .bad) fun v64 => (bdk (.ok []) fun r65 => .ok (v64 :: r65))) (fun ds => bdk ((fun fs => ul1 (F_Row___init__ fs)) [] ds) fun fs => .ok (.obj "Row" fs)))) fun v66 => (bdk (.ok []) fun r67 => .ok (v66 :: r67))) fun r69 => .ok (v68 :: r69))) fun ds => if ds.length ≤ sizeLine then .ok (.tup ds) else .bad) fun d71 => un2 d71 fun l_most69 l_row69 => (bdFk (W' := Unit) (bdk (bdk (bdk (bdk (bdk (nox (F__law_heard (bdk (bdk (.ok l_row69) fun v72 => (bdk (.ok []) fun r73 => .ok (v72 :: r73))) (fun ds => bdk ((fun fs => ul1 (F_Row___init__ fs)) [] ds) fun fs => .ok (.obj "Row" fs))))) fun v80 => (bdk (bdk (bdk (bdk (.ok (.str "row")) fun v76 => (bdk (bdk (.ok .non) fun v74 => (bdk (.ok []) fun r75 => .ok (v74 :: r75))) fun r77 => .ok (v76 :: r77))) fun ds => if ds.length ≤ sizeLine then .ok (.lst ds) else .bad) fun v78 => (bdk (.ok []) fun r79 => .ok (v78 :: r79))) fun r81 => .ok (v80 :: r81))) (ul2 F__law_is)) asB) fun k => .ok (!k)) fun k => if k = true then (bdk (.ok (.bl false)) fun d => .ok (.rt d)) else (.ok (.nx ()))) fun (w82 : Unit) => (bdFk (W' := Unit) (bdk (bdk (bdk (bdk (bdk (nox (F__law_heard (bdk (bdk (.ok (.dic [(.inl 1, .int 2)])) fun v83 => (bdk (.ok []) fun r84 => .ok (v83 :: r84))) (fun ds => bdk ((fun fs => ul1 (F_Row___init__ fs)) [] ds) fun fs => .ok (.obj "Row" fs))))) fun v91 => (bdk (bdk (bdk (bdk (.ok (.str "row")) fun v87 => (bdk (bdk (.ok .non) fun v85 => (bdk (.ok []) fun r86 => .ok (v85 :: r86))) fun r88 => .ok (v87 :: r88))) fun ds => if ds.length ≤ sizeLine then .ok (.lst ds) else .bad) fun v89 => (bdk (.ok []) fun r90 => .ok (v89 :: r90))) fun r92 => .ok (v91 :: r92))) (ul2 F__law_is)) asB) fun k => .ok (!k)) fun k => if k = true then (bdk (.ok (.bl false)) fun d => .ok (.rt d)) else (.ok (.nx ()))) fun (w93 : Unit) => (bdFk (W' := Unit) (bdk (bdk (bdk (bdk (bdk (nox (F__law_heard (bdk (bdk (.ok l_row69) fun v108 => (bdk (bdk (bdk (bdk (.ok (.int 0)) fun v96 => (bdk (bdk (.ok (.int 2)) fun v94 => (bdk (.ok []) fun r95 => .ok (v94 :: r95))) fun r97 => .ok (v96 :: r97))) fun ds => if ds.length ≤ sizeLine then .ok (.tup ds) else .bad) fun v106 => (bdk (bdk (bdk (bdk (bdk (bdk (.ok (.int 1)) fun v100 => (bdk (bdk (.ok (.int 2)) fun v98 => (bdk (.ok []) fun r99 => .ok (v98 :: r99))) fun r101 => .ok (v100 :: r101))) fun ds => if ds.length ≤ sizeLine then .ok (.lst ds) else .bad) fun v102 => (bdk (.ok []) fun r103 => .ok (v102 :: r103))) (fun ds => bdk ((fun fs => ul1 (F_Row___init__ fs)) [] ds) fun fs => .ok (.obj "Row" fs))) fun v104 => (bdk (.ok []) fun r105 => .ok (v104 :: r105))) fun r107 => .ok (v106 :: r107))) fun r109 => .ok (v108 :: r109))) (ul3 F__law_store)))) fun v116 => (bdk (bdk (bdk (bdk (.ok (.str "row")) fun v112 => (bdk (bdk (.ok .non) fun v110 => (bdk (.ok []) fun r111 => .ok (v110 :: r111))) fun r113 => .ok (v112 :: r113))) fun ds => if ds.length ≤ sizeLine then .ok (.lst ds) else .bad) fun v114 => (bdk (.ok []) fun r115 => .ok (v114 :: r115))) fun r117 => .ok (v116 :: r117))) (ul2 F__law_is)) asB) fun k => .ok (!k)) fun k => if k = true then (bdk (.ok (.bl false)) fun d => .ok (.rt d)) else (.ok (.nx ()))) fun (w118 : Unit) => (bdk (bdk (bdk (bdk (bdk (nox (F__law_heard (bdk (bdk (bdk (.ok l_most69) fun v121 => (bdk (bdk (bdk (.ok (.bl true)) fun v119 => (bdk (.ok []) fun r120 => .ok (v119 :: r120))) fun ds => if ds.length ≤ sizeLine then .ok (.lst ds) else .bad) fun v122 => addD v121 v122)) fun v123 => (bdk (.ok []) fun r124 => .ok (v123 :: r124))) (fun ds => bdk ((fun fs => ul1 (F_Row___init__ fs)) [] ds) fun fs => .ok (.obj "Row" fs))))) fun v131 => (bdk (bdk (bdk (bdk (.ok (.str "row")) fun v127 => (bdk (bdk (.ok (.int 1999)) fun v125 => (bdk (.ok []) fun r126 => .ok (v125 :: r126))) fun r128 => .ok (v127 :: r128))) fun ds => if ds.length ≤ sizeLine then .ok (.lst ds) else .bad) fun v129 => (bdk (.ok []) fun r130 => .ok (v129 :: r130))) fun r132 => .ok (v131 :: r132))) (ul2 F__law_is)) asB) fun k => if k = true then (bdk (bdk (bdk (nox (bdk (bdk (bdk (.ok l_most69) fun v135 => (bdk (bdk (bdk (.ok (.int 2)) fun v133 => (bdk (.ok []) fun r134 => .ok (v133 :: r134))) fun ds => if ds.length ≤ sizeLine then .ok (.lst ds) else .bad) fun v136 => addD v135 v136)) fun v137 => (bdk (.ok []) fun r138 => .ok (v137 :: r138))) (fun ds => bdk ((fun fs => ul1 (F_Row___init__ fs)) [] ds) fun fs => .ok (.obj "Row" fs)))) fun v139 => (bdk (.ok []) fun r140 => .ok (v139 :: r140))) (ul1 (lenO "Row" (ul1 F_Row___len__)))) fun v141 => (bdk (.ok (.int 2000)) fun v142 => eqD v141 v142)) else .ok (.bl false)) fun d => .ok (.rt d)))))))
theorem lz_law : F_law = L_law := rfl
end Lw
end
section
set_option maxHeartbeats 1000000
namespace Lw
open PySem Gp Gh PyProof.Rows L2
@[simp] theorem s_drawP (m : Int) : F_draw .pen (.int m) = .draw m fun d => .ok (.int d) := rfl
theorem q_pick (ds : List D) : F__law_pick .pen (.lst ds) = .draw ds.length fun i => ixD (.lst ds) (.int i) := by
  simp [F__law_pick]
theorem b_pick {P : D → Prop} {ds : List D} (h0 : 0 < ds.length) (h1 : ds.length ≤ 100000) (h : ∀ d ∈ ds, P d) : Bo P (F__law_pick .pen (.lst ds)) 1 := by
  rw [q_pick]
  exact bo_pick h0 h1 h
structure Fe (e : PyData) (k m : Nat) : Prop where
  sh : e.showable = true
  ls : e.leavesShort 200 = true
  dp : e.depth ≤ k
  bk : e.bulk ≤ m
def Fx (d : D) : Prop := ∃ e, toPyX d = some e ∧ Fe e 5 100
theorem fe_shown {e : PyData} {k m : Nat} (f : Fe e k m) (hm : m ≤ 1000) : e.shown.length ≤ sizeLine := by
  have z := PyData.shown_le_bulk 200 (by decide) e f.ls
  have := f.bk
  rw [sizeLine_eq]
  omega
theorem rx_list {ds : List D} {es : List PyData} (h : toPyXL ds = some es) (f : Fe (.list es) 10 1000) : ∃ x, reprX (.lst ds) = .ok (.str x) := by
  have hx : toPyX (.lst ds) = some (.list es) := by
    unfold toPyX
    rw [h]
    rfl
  have l := fe_shown f (Nat.le_refl _)
  unfold reprX
  cases e : shwD (.lst ds) with
  | none =>
    dsimp only
    rw [hx]
    dsimp only
    rw [if_pos ⟨f.sh, Nat.le_trans f.dp (by decide), l⟩]
    exact ⟨_, rfl⟩
  | some y =>
    have ly : y.length ≤ sizeLine := by
      unfold shwD at e
      dsimp only at e
      split at e
      · split at e
        · rename_i q
          cases e
          exact q.2.2.2
        · cases e
      · cases e
    dsimp only
    rw [if_pos ly]
    exact ⟨_, rfl⟩
theorem rx_2 {a b : D} (ha : Fx a) (hb : Fx b) : ∃ x, reprX (.lst [a, b]) = .ok (.str x) := by
  obtain ⟨e, h, f⟩ := ha
  obtain ⟨e', h', f'⟩ := hb
  have hl : toPyXL [a, b] = some [e, e'] := by
    unfold toPyXL
    rw [h]
    unfold toPyXL
    rw [h']
    unfold toPyXL
    rfl
  refine rx_list hl ⟨?_, ?_, ?_, ?_⟩
  · simp only [PyData.showable, PyData.showableAll, f.sh, f'.sh, Bool.and_true]
  · simp only [PyData.leavesShort, PyData.leavesShortAll, f.ls, f'.ls, Bool.and_true]
  · have := f.dp
    have := f'.dp
    simp only [PyData.depth, PyData.depthAll]
    omega
  · have := f.bk
    have := f'.bk
    simp only [PyData.bulk, PyData.bulkAll]
    omega
theorem fx_int {x : Int} (h1 : -(10 ^ 100) < x) (h2 : x < 10 ^ 100) : Fx (.int x) := by
  have f := Fn.int (i := x) h1 h2
  exact ⟨.int x, rfl, f.sh, f.ls, Nat.le_trans f.dp (by decide), Nat.le_trans f.bk (by decide)⟩
theorem fx_row : Fx (.str "row") := ⟨_, rfl, by constructor <;> decide +kernel⟩
theorem fx_len : Fx (.str "length") := ⟨_, rfl, by constructor <;> decide +kernel⟩
theorem fx_place : Fx (.str "place") := ⟨_, rfl, by constructor <;> decide +kernel⟩
theorem fx_non : Fx .non := ⟨_, rfl, by constructor <;> decide⟩
def It (d : D) (b : Bool) : Prop := F_is_item d = .ok (.bl b)
theorem it_int {n : Int} (h : -(10 ^ 30) < n ∧ n < 10 ^ 30) : It (.int n) true := by
  unfold It
  have e1 : isi_int (.int n) = some true := rfl
  have e2 : isi_bool (.int n) = some false := rfl
  have e3 : negD (.int 1000000000000000000000000000000) = .ok (.int (-1000000000000000000000000000000)) := rfl
  have e4 : ltD (.int (-1000000000000000000000000000000)) (.int n) = .ok (.bl true) := by
    show Tr.ok (D.bl (decide _)) = _
    rw [decide_eq_true (by omega)]
  have e5 : ltD (.int n) (.int 1000000000000000000000000000000) = .ok (.bl true) := by
    show Tr.ok (D.bl (decide _)) = _
    rw [decide_eq_true (by omega)]
  have ei : F_is_integer (.int n) = .ok (.bl true) := by
    rw [lz_is_integer]
    unfold L_is_integer
    simp -implicitDefEqProofs -dsimp only [implies_true, isS_str, s_bdx, s_bd, ↓k_bd, k_bd, k_bdx, k_bdd, s_nox, k_bdF, k_bdFr, k_bdFx, s_finr, s_finn, s_find, k_bdFd, ↓reduceIte, s_asB, s_ul1, s_ul2, s_ul3, s_sub, s_add, s_neg, s_eq, s_len, s_itl, s_itt, s_opt, List.length_cons, List.length_nil, decide_true, decide_false, Bool.not_true, Bool.not_false, if_true, if_false, Bool.false_eq_true, Nat.reduceAdd, z0L, z1L, z2L, z3L, z4L, z5L, z6L, z7L, z8L, z9L, z10L, z11L, z12L, z0l, z1l, z2l, z3l, z4l, l_asI, l_finx, l_finIx, l_finI, l_un2, l_un3, l_un4, l_ne, l_nes, l_neb, l_gt, l_ix0, l_ix1, l_ix2, l_ix3, l_it0, l_it1, l_it2, l_it3, F_draw_eq, List.cons_append, List.nil_append, k_bdbd, k_bdFbd, k_finbd, e1, e2]
  rw [lz_is_item]
  unfold L_is_item
  simp -implicitDefEqProofs -dsimp only [implies_true, isS_str, s_bdx, s_bd, ↓k_bd, k_bd, k_bdx, k_bdd, s_nox, k_bdF, k_bdFr, k_bdFx, s_finr, s_finn, s_find, k_bdFd, ↓reduceIte, s_asB, s_ul1, s_ul2, s_ul3, s_sub, s_add, s_neg, s_eq, s_len, s_itl, s_itt, s_opt, List.length_cons, List.length_nil, decide_true, decide_false, Bool.not_true, Bool.not_false, if_true, if_false, Bool.false_eq_true, Nat.reduceAdd, z0L, z1L, z2L, z3L, z4L, z5L, z6L, z7L, z8L, z9L, z10L, z11L, z12L, z0l, z1l, z2l, z3l, z4l, l_asI, l_finx, l_finIx, l_finI, l_un2, l_un3, l_un4, l_ne, l_nes, l_neb, l_gt, l_ix0, l_ix1, l_ix2, l_ix3, l_it0, l_it1, l_it2, l_it3, F_draw_eq, List.cons_append, List.nil_append, k_bdbd, k_bdFbd, k_finbd, ei, e3, e4, e5]
def oddI : List D := [.non, .bl true, .bl false, .str "1", .str "", .lst [.int 1], .tup [.int 1], .dct, .int 1000000000000000000000000000000, .int (-1000000000000000000000000000000), .int 100000000000000000000000000000000000000000000000000000000000]
theorem it_odd : ∀ d ∈ oddI, It d false := by
  intro d hd
  unfold It
  simp only [oddI, List.mem_cons, List.mem_nil_iff, or_false] at hd
  rcases hd with rfl | rfl | rfl | rfl | rfl | rfl | rfl | rfl | rfl | rfl | rfl <;> kernel_rfl
end Lw
end
section
set_option maxHeartbeats 1000000
namespace Lw
open PySem Gp Gh PyProof.Rows L2
def enF : Nat → List D → List D
  | _, [] => []
  | k, d :: r => .tup [.int k, d] :: enF (k + 1) r
theorem en_go : ∀ (ds : List D) (k : Nat), ds.mapIdx (fun i d => D.tup [.int ((i + k : Nat) : Int), d]) = enF k ds
  | [], _ => rfl
  | d :: r, k => by
    rw [List.mapIdx_cons]
    unfold enF
    have h := en_go r (k + 1)
    have e : (fun (i : Nat) (d : D) => D.tup [.int (((i + 1) + k : Nat) : Int), d]) = fun i d => D.tup [.int ((i + (k + 1) : Nat) : Int), d] := by
      funext i d
      rw [Nat.add_right_comm, Nat.add_assoc]
    rw [e, h, Nat.zero_add]
theorem en_eq (ds : List D) : ds.mapIdx (fun i d => D.tup [.int i, d]) = enF 0 ds := en_go ds 0
def sq (t : Bool) (ds : List D) : D := match t with
  | true => .tup ds
  | false => .lst ds
theorem sq_is (t : Bool) (ds : List D) : isi_list_tuple (sq t ds) = some true := by cases t <;> rfl
theorem sq_len (t : Bool) (ds : List D) : lenD (sq t ds) = .ok (.int ds.length) := by cases t <;> rfl
theorem sq_en (t : Bool) (ds : List D) : enD (sq t ds) = .ok (enF 0 ds) := by
  rw [← en_eq]
  cases t <;> rfl
theorem sq_list (t : Bool) (ds : List D) : listD (sq t ds) = .ok (.lst ds) := by cases t <;> rfl
section
variable {L : Type} {f : D → Unit → Tr (Fl Unit Unit)} {u : Dp f}
theorem en_good {ds : List D} {k : Nat} (h : ∀ d ∈ ds, It d true) (hg : ∀ (k : Nat) d, It d true → f (.tup [.int k, d]) () = .ok (.nx ())) : forFk (L := L) f (enF k ds) () u = .ok (.nx ()) := by
  unfold forFk
  induction ds generalizing k with
  | nil => rfl
  | cons d r ih =>
    unfold enF
    rw [forF_cons, hg k d (h d List.mem_cons_self), s_bd]
    exact ih fun x hx => h x (List.mem_cons_of_mem _ hx)
theorem en_bad {ds : List D} {k j : Nat} (hj : j < ds.length) (hp : ∀ i (hi : i < j), It (ds[i]'(Nat.lt_trans hi hj)) true) (h : It ds[j] false) (hg : ∀ (k : Nat) d, It d true → f (.tup [.int k, d]) () = .ok (.nx ()))
    (hb : ∀ (k : Nat) d, It d false → f (.tup [.int k, d]) () = .ex "BadRow" [("at", .int k)]) : forFk (L := L) f (enF k ds) () u = .ex "BadRow" [("at", .int ((k + j : Nat) : Int))] := by
  unfold forFk
  induction ds generalizing k j with
  | nil => exact absurd hj (by simp)
  | cons d r ih =>
    unfold enF
    cases j with
    | zero =>
      rw [forF_cons, hb k d h]
      rfl
    | succ j =>
      rw [forF_cons, hg k d (hp 0 (Nat.succ_pos _)), s_bd]
      have z := ih (k := k + 1) (j := j) (by simpa using hj) (fun i hi => hp (i + 1) (by omega)) h
      rw [show k + (j + 1) = k + 1 + j by omega]
      exact z
end
theorem n_kind {v m : D} (h : isi_list_tuple v = some false) : F_need_items v m = .ex "BadRow" [("at", .non)] := by
  rw [lz_need_items]
  unfold L_need_items
  simp -implicitDefEqProofs -dsimp only [implies_true, isS_str, s_bdx, s_bd, ↓k_bd, k_bd, k_bdx, k_bdd, s_nox, k_bdF, k_bdFr, k_bdFx, s_finr, s_finn, s_find, k_bdFd, ↓reduceIte, s_asB, s_ul1, s_ul2, s_ul3, s_sub, s_add, s_neg, s_eq, s_len, s_itl, s_itt, s_opt, List.length_cons, List.length_nil, decide_true, decide_false, Bool.not_true, Bool.not_false, if_true, if_false, Bool.false_eq_true, Nat.reduceAdd, z0L, z1L, z2L, z3L, z4L, z5L, z6L, z7L, z8L, z9L, z10L, z11L, z12L, z0l, z1l, z2l, z3l, z4l, l_asI, l_finx, l_finIx, l_finI, l_un2, l_un3, l_un4, l_ne, l_nes, l_neb, l_gt, l_ix0, l_ix1, l_ix2, l_ix3, l_it0, l_it1, l_it2, l_it3, F_draw_eq, List.cons_append, List.nil_append, k_bdbd, k_bdFbd, k_finbd, h]
theorem n_len {t : Bool} {ds : List D} (h : ds.length = 0 ∨ 2000 < ds.length) : F_need_items (sq t ds) .non = .ex "BadRow" [("at", .non)] := by
  rw [lz_need_items]
  unfold L_need_items
  have e0 : isN .non = true := rfl
  have e1 : leD (.int 1) (.int ds.length) = .ok (.bl (decide ((1 : Int) ≤ ds.length))) := rfl
  have e2 : leD (.int ds.length) (.int 2000) = .ok (.bl (decide ((ds.length : Int) ≤ 2000))) := rfl
  rcases h with h | h
  · have d1 : decide ((1 : Int) ≤ ds.length) = false := decide_eq_false (by omega)
    simp -implicitDefEqProofs -dsimp only [implies_true, isS_str, s_bdx, s_bd, ↓k_bd, k_bd, k_bdx, k_bdd, s_nox, k_bdF, k_bdFr, k_bdFx, s_finr, s_finn, s_find, k_bdFd, ↓reduceIte, s_asB, s_ul1, s_ul2, s_ul3, s_sub, s_add, s_neg, s_eq, s_len, s_itl, s_itt, s_opt, List.length_cons, List.length_nil, decide_true, decide_false, Bool.not_true, Bool.not_false, if_true, if_false, Bool.false_eq_true, Nat.reduceAdd, z0L, z1L, z2L, z3L, z4L, z5L, z6L, z7L, z8L, z9L, z10L, z11L, z12L, z0l, z1l, z2l, z3l, z4l, l_asI, l_finx, l_finIx, l_finI, l_un2, l_un3, l_un4, l_ne, l_nes, l_neb, l_gt, l_ix0, l_ix1, l_ix2, l_ix3, l_it0, l_it1, l_it2, l_it3, F_draw_eq, List.cons_append, List.nil_append, k_bdbd, k_bdFbd, k_finbd, sq_is, sq_len, e0, e1, d1]
  · have d1 : decide ((1 : Int) ≤ ds.length) = true := decide_eq_true (by omega)
    have d2 : decide ((ds.length : Int) ≤ 2000) = false := decide_eq_false (by omega)
    simp -implicitDefEqProofs -dsimp only [implies_true, isS_str, s_bdx, s_bd, ↓k_bd, k_bd, k_bdx, k_bdd, s_nox, k_bdF, k_bdFr, k_bdFx, s_finr, s_finn, s_find, k_bdFd, ↓reduceIte, s_asB, s_ul1, s_ul2, s_ul3, s_sub, s_add, s_neg, s_eq, s_len, s_itl, s_itt, s_opt, List.length_cons, List.length_nil, decide_true, decide_false, Bool.not_true, Bool.not_false, if_true, if_false, Bool.false_eq_true, Nat.reduceAdd, z0L, z1L, z2L, z3L, z4L, z5L, z6L, z7L, z8L, z9L, z10L, z11L, z12L, z0l, z1l, z2l, z3l, z4l, l_asI, l_finx, l_finIx, l_finI, l_un2, l_un3, l_un4, l_ne, l_nes, l_neb, l_gt, l_ix0, l_ix1, l_ix2, l_ix3, l_it0, l_it1, l_it2, l_it3, F_draw_eq, List.cons_append, List.nil_append, k_bdbd, k_bdFbd, k_finbd, sq_is, sq_len, e0, e1, d1, e2, d2]
theorem n_many {t : Bool} {ds : List D} {m : Int} (h : (ds.length : Int) ≠ m) : F_need_items (sq t ds) (.int m) = .ex "BadRow" [("at", .non)] := by
  rw [lz_need_items]
  unfold L_need_items
  have e0 : isN (.int m) = false := rfl
  have e1 : neD (.int ds.length) (.int m) = .ok (.bl (!decide ((ds.length : Int) = m))) := rfl
  have d1 : decide ((ds.length : Int) = m) = false := decide_eq_false h
  simp -implicitDefEqProofs -dsimp only [implies_true, isS_str, s_bdx, s_bd, ↓k_bd, k_bd, k_bdx, k_bdd, s_nox, k_bdF, k_bdFr, k_bdFx, s_finr, s_finn, s_find, k_bdFd, ↓reduceIte, s_asB, s_ul1, s_ul2, s_ul3, s_sub, s_add, s_neg, s_eq, s_len, s_itl, s_itt, s_opt, List.length_cons, List.length_nil, decide_true, decide_false, Bool.not_true, Bool.not_false, if_true, if_false, Bool.false_eq_true, Nat.reduceAdd, z0L, z1L, z2L, z3L, z4L, z5L, z6L, z7L, z8L, z9L, z10L, z11L, z12L, z0l, z1l, z2l, z3l, z4l, l_asI, l_finx, l_finIx, l_finI, l_un2, l_un3, l_un4, l_ne, l_nes, l_neb, l_gt, l_ix0, l_ix1, l_ix2, l_ix3, l_it0, l_it1, l_it2, l_it3, F_draw_eq, List.cons_append, List.nil_append, k_bdbd, k_bdFbd, k_finbd, sq_is, sq_len, e0, e1, d1]
def Mny (m : D) (n : Nat) : Prop := (m = .non ∧ 1 ≤ n ∧ n ≤ 2000) ∨ m = .int n
theorem n_good {t : Bool} {ds : List D} {m : D} (hm : Mny m ds.length) (h : ∀ d ∈ ds, It d true) : F_need_items (sq t ds) m = .ok .non := by
  rw [lz_need_items]
  unfold L_need_items
  have e1 : leD (.int 1) (.int ds.length) = .ok (.bl (decide ((1 : Int) ≤ ds.length))) := rfl
  have e2 : leD (.int ds.length) (.int 2000) = .ok (.bl (decide ((ds.length : Int) ≤ 2000))) := rfl
  rcases hm with ⟨rfl, h1, h2⟩ | rfl
  · have e0 : isN .non = true := rfl
    have d1 : decide ((1 : Int) ≤ ds.length) = true := decide_eq_true (by omega)
    have d2 : decide ((ds.length : Int) ≤ 2000) = true := decide_eq_true (by omega)
    simp -implicitDefEqProofs -dsimp only [implies_true, isS_str, s_bdx, s_bd, ↓k_bd, k_bd, k_bdx, k_bdd, s_nox, k_bdF, k_bdFr, k_bdFx, s_finr, s_finn, s_find, k_bdFd, ↓reduceIte, s_asB, s_ul1, s_ul2, s_ul3, s_sub, s_add, s_neg, s_eq, s_len, s_itl, s_itt, s_opt, List.length_cons, List.length_nil, decide_true, decide_false, Bool.not_true, Bool.not_false, if_true, if_false, Bool.false_eq_true, Nat.reduceAdd, z0L, z1L, z2L, z3L, z4L, z5L, z6L, z7L, z8L, z9L, z10L, z11L, z12L, z0l, z1l, z2l, z3l, z4l, l_asI, l_finx, l_finIx, l_finI, l_un2, l_un3, l_un4, l_ne, l_nes, l_neb, l_gt, l_ix0, l_ix1, l_ix2, l_ix3, l_it0, l_it1, l_it2, l_it3, F_draw_eq, List.cons_append, List.nil_append, k_bdbd, k_bdFbd, k_finbd, sq_is, sq_len, e0, e1, d1, e2, d2, sq_en]
    rw [en_good h]
    · simp -implicitDefEqProofs -dsimp only [implies_true, isS_str, s_bdx, s_bd, ↓k_bd, k_bd, k_bdx, k_bdd, s_nox, k_bdF, k_bdFr, k_bdFx, s_finr, s_finn, s_find, k_bdFd, ↓reduceIte, s_asB, s_ul1, s_ul2, s_ul3, s_sub, s_add, s_neg, s_eq, s_len, s_itl, s_itt, s_opt, List.length_cons, List.length_nil, decide_true, decide_false, Bool.not_true, Bool.not_false, if_true, if_false, Bool.false_eq_true, Nat.reduceAdd, z0L, z1L, z2L, z3L, z4L, z5L, z6L, z7L, z8L, z9L, z10L, z11L, z12L, z0l, z1l, z2l, z3l, z4l, l_asI, l_finx, l_finIx, l_finI, l_un2, l_un3, l_un4, l_ne, l_nes, l_neb, l_gt, l_ix0, l_ix1, l_ix2, l_ix3, l_it0, l_it1, l_it2, l_it3, F_draw_eq, List.cons_append, List.nil_append, k_bdbd, k_bdFbd, k_finbd]
    · intro k d hd
      simp -implicitDefEqProofs -dsimp only [implies_true, isS_str, s_bdx, s_bd, ↓k_bd, k_bd, k_bdx, k_bdd, s_nox, k_bdF, k_bdFr, k_bdFx, s_finr, s_finn, s_find, k_bdFd, ↓reduceIte, s_asB, s_ul1, s_ul2, s_ul3, s_sub, s_add, s_neg, s_eq, s_len, s_itl, s_itt, s_opt, List.length_cons, List.length_nil, decide_true, decide_false, Bool.not_true, Bool.not_false, if_true, if_false, Bool.false_eq_true, Nat.reduceAdd, z0L, z1L, z2L, z3L, z4L, z5L, z6L, z7L, z8L, z9L, z10L, z11L, z12L, z0l, z1l, z2l, z3l, z4l, l_asI, l_finx, l_finIx, l_finI, l_un2, l_un3, l_un4, l_ne, l_nes, l_neb, l_gt, l_ix0, l_ix1, l_ix2, l_ix3, l_it0, l_it1, l_it2, l_it3, F_draw_eq, List.cons_append, List.nil_append, k_bdbd, k_bdFbd, k_finbd, show F_is_item d = .ok (.bl true) from hd]
  · have e0 : isN (.int ds.length) = false := rfl
    have e3 : neD (.int ds.length) (.int ds.length) = .ok (.bl false) := by
      show Tr.ok (D.bl (!decide _)) = _
      rw [decide_eq_true rfl]
      rfl
    cases z1 : decide ((1 : Int) ≤ ds.length) <;> cases z2 : decide ((ds.length : Int) ≤ 2000) <;>
    · simp -implicitDefEqProofs -dsimp only [implies_true, isS_str, s_bdx, s_bd, ↓k_bd, k_bd, k_bdx, k_bdd, s_nox, k_bdF, k_bdFr, k_bdFx, s_finr, s_finn, s_find, k_bdFd, ↓reduceIte, s_asB, s_ul1, s_ul2, s_ul3, s_sub, s_add, s_neg, s_eq, s_len, s_itl, s_itt, s_opt, List.length_cons, List.length_nil, decide_true, decide_false, Bool.not_true, Bool.not_false, if_true, if_false, Bool.false_eq_true, Nat.reduceAdd, z0L, z1L, z2L, z3L, z4L, z5L, z6L, z7L, z8L, z9L, z10L, z11L, z12L, z0l, z1l, z2l, z3l, z4l, l_asI, l_finx, l_finIx, l_finI, l_un2, l_un3, l_un4, l_ne, l_nes, l_neb, l_gt, l_ix0, l_ix1, l_ix2, l_ix3, l_it0, l_it1, l_it2, l_it3, F_draw_eq, List.cons_append, List.nil_append, k_bdbd, k_bdFbd, k_finbd, sq_is, sq_len, e0, e1, z1, e2, z2, e3, sq_en]
      rw [en_good h]
      · simp -implicitDefEqProofs -dsimp only [implies_true, isS_str, s_bdx, s_bd, ↓k_bd, k_bd, k_bdx, k_bdd, s_nox, k_bdF, k_bdFr, k_bdFx, s_finr, s_finn, s_find, k_bdFd, ↓reduceIte, s_asB, s_ul1, s_ul2, s_ul3, s_sub, s_add, s_neg, s_eq, s_len, s_itl, s_itt, s_opt, List.length_cons, List.length_nil, decide_true, decide_false, Bool.not_true, Bool.not_false, if_true, if_false, Bool.false_eq_true, Nat.reduceAdd, z0L, z1L, z2L, z3L, z4L, z5L, z6L, z7L, z8L, z9L, z10L, z11L, z12L, z0l, z1l, z2l, z3l, z4l, l_asI, l_finx, l_finIx, l_finI, l_un2, l_un3, l_un4, l_ne, l_nes, l_neb, l_gt, l_ix0, l_ix1, l_ix2, l_ix3, l_it0, l_it1, l_it2, l_it3, F_draw_eq, List.cons_append, List.nil_append, k_bdbd, k_bdFbd, k_finbd]
      · intro k d hd
        simp -implicitDefEqProofs -dsimp only [implies_true, isS_str, s_bdx, s_bd, ↓k_bd, k_bd, k_bdx, k_bdd, s_nox, k_bdF, k_bdFr, k_bdFx, s_finr, s_finn, s_find, k_bdFd, ↓reduceIte, s_asB, s_ul1, s_ul2, s_ul3, s_sub, s_add, s_neg, s_eq, s_len, s_itl, s_itt, s_opt, List.length_cons, List.length_nil, decide_true, decide_false, Bool.not_true, Bool.not_false, if_true, if_false, Bool.false_eq_true, Nat.reduceAdd, z0L, z1L, z2L, z3L, z4L, z5L, z6L, z7L, z8L, z9L, z10L, z11L, z12L, z0l, z1l, z2l, z3l, z4l, l_asI, l_finx, l_finIx, l_finI, l_un2, l_un3, l_un4, l_ne, l_nes, l_neb, l_gt, l_ix0, l_ix1, l_ix2, l_ix3, l_it0, l_it1, l_it2, l_it3, F_draw_eq, List.cons_append, List.nil_append, k_bdbd, k_bdFbd, k_finbd, show F_is_item d = .ok (.bl true) from hd]
structure Bent (ds : List D) (j : Nat) : Prop where
  lt : j < ds.length
  pre : ∀ i (hi : i < j), It (ds[i]'(Nat.lt_trans hi lt)) true
  at_ : It ds[j] false
theorem n_bent {t : Bool} {ds : List D} {m : D} {j : Nat} (hm : Mny m ds.length) (h : Bent ds j) : F_need_items (sq t ds) m = .ex "BadRow" [("at", .int j)] := by
  rw [lz_need_items]
  unfold L_need_items
  have e1 : leD (.int 1) (.int ds.length) = .ok (.bl (decide ((1 : Int) ≤ ds.length))) := rfl
  have e2 : leD (.int ds.length) (.int 2000) = .ok (.bl (decide ((ds.length : Int) ≤ 2000))) := rfl
  rcases hm with ⟨rfl, h1, h2⟩ | rfl
  · have e0 : isN .non = true := rfl
    have d1 : decide ((1 : Int) ≤ ds.length) = true := decide_eq_true (by omega)
    have d2 : decide ((ds.length : Int) ≤ 2000) = true := decide_eq_true (by omega)
    simp -implicitDefEqProofs -dsimp only [implies_true, isS_str, s_bdx, s_bd, ↓k_bd, k_bd, k_bdx, k_bdd, s_nox, k_bdF, k_bdFr, k_bdFx, s_finr, s_finn, s_find, k_bdFd, ↓reduceIte, s_asB, s_ul1, s_ul2, s_ul3, s_sub, s_add, s_neg, s_eq, s_len, s_itl, s_itt, s_opt, List.length_cons, List.length_nil, decide_true, decide_false, Bool.not_true, Bool.not_false, if_true, if_false, Bool.false_eq_true, Nat.reduceAdd, z0L, z1L, z2L, z3L, z4L, z5L, z6L, z7L, z8L, z9L, z10L, z11L, z12L, z0l, z1l, z2l, z3l, z4l, l_asI, l_finx, l_finIx, l_finI, l_un2, l_un3, l_un4, l_ne, l_nes, l_neb, l_gt, l_ix0, l_ix1, l_ix2, l_ix3, l_it0, l_it1, l_it2, l_it3, F_draw_eq, List.cons_append, List.nil_append, k_bdbd, k_bdFbd, k_finbd, sq_is, sq_len, e0, e1, d1, e2, d2, sq_en]
    rw [en_bad h.lt h.pre h.at_]
    · simp -implicitDefEqProofs -dsimp only [implies_true, isS_str, s_bdx, s_bd, ↓k_bd, k_bd, k_bdx, k_bdd, s_nox, k_bdF, k_bdFr, k_bdFx, s_finr, s_finn, s_find, k_bdFd, ↓reduceIte, s_asB, s_ul1, s_ul2, s_ul3, s_sub, s_add, s_neg, s_eq, s_len, s_itl, s_itt, s_opt, List.length_cons, List.length_nil, decide_true, decide_false, Bool.not_true, Bool.not_false, if_true, if_false, Bool.false_eq_true, Nat.reduceAdd, z0L, z1L, z2L, z3L, z4L, z5L, z6L, z7L, z8L, z9L, z10L, z11L, z12L, z0l, z1l, z2l, z3l, z4l, l_asI, l_finx, l_finIx, l_finI, l_un2, l_un3, l_un4, l_ne, l_nes, l_neb, l_gt, l_ix0, l_ix1, l_ix2, l_ix3, l_it0, l_it1, l_it2, l_it3, F_draw_eq, List.cons_append, List.nil_append, k_bdbd, k_bdFbd, k_finbd, Nat.zero_add]
    · intro k d hd
      simp -implicitDefEqProofs -dsimp only [implies_true, isS_str, s_bdx, s_bd, ↓k_bd, k_bd, k_bdx, k_bdd, s_nox, k_bdF, k_bdFr, k_bdFx, s_finr, s_finn, s_find, k_bdFd, ↓reduceIte, s_asB, s_ul1, s_ul2, s_ul3, s_sub, s_add, s_neg, s_eq, s_len, s_itl, s_itt, s_opt, List.length_cons, List.length_nil, decide_true, decide_false, Bool.not_true, Bool.not_false, if_true, if_false, Bool.false_eq_true, Nat.reduceAdd, z0L, z1L, z2L, z3L, z4L, z5L, z6L, z7L, z8L, z9L, z10L, z11L, z12L, z0l, z1l, z2l, z3l, z4l, l_asI, l_finx, l_finIx, l_finI, l_un2, l_un3, l_un4, l_ne, l_nes, l_neb, l_gt, l_ix0, l_ix1, l_ix2, l_ix3, l_it0, l_it1, l_it2, l_it3, F_draw_eq, List.cons_append, List.nil_append, k_bdbd, k_bdFbd, k_finbd, show F_is_item d = .ok (.bl true) from hd]
    · intro k d hd
      simp -implicitDefEqProofs -dsimp only [implies_true, isS_str, s_bdx, s_bd, ↓k_bd, k_bd, k_bdx, k_bdd, s_nox, k_bdF, k_bdFr, k_bdFx, s_finr, s_finn, s_find, k_bdFd, ↓reduceIte, s_asB, s_ul1, s_ul2, s_ul3, s_sub, s_add, s_neg, s_eq, s_len, s_itl, s_itt, s_opt, List.length_cons, List.length_nil, decide_true, decide_false, Bool.not_true, Bool.not_false, if_true, if_false, Bool.false_eq_true, Nat.reduceAdd, z0L, z1L, z2L, z3L, z4L, z5L, z6L, z7L, z8L, z9L, z10L, z11L, z12L, z0l, z1l, z2l, z3l, z4l, l_asI, l_finx, l_finIx, l_finI, l_un2, l_un3, l_un4, l_ne, l_nes, l_neb, l_gt, l_ix0, l_ix1, l_ix2, l_ix3, l_it0, l_it1, l_it2, l_it3, F_draw_eq, List.cons_append, List.nil_append, k_bdbd, k_bdFbd, k_finbd, show F_is_item d = .ok (.bl false) from hd]
  · have e0 : isN (.int ds.length) = false := rfl
    have e3 : neD (.int ds.length) (.int ds.length) = .ok (.bl false) := by
      show Tr.ok (D.bl (!decide _)) = _
      rw [decide_eq_true rfl]
      rfl
    cases z1 : decide ((1 : Int) ≤ ds.length) <;> cases z2 : decide ((ds.length : Int) ≤ 2000) <;>
    · simp -implicitDefEqProofs -dsimp only [implies_true, isS_str, s_bdx, s_bd, ↓k_bd, k_bd, k_bdx, k_bdd, s_nox, k_bdF, k_bdFr, k_bdFx, s_finr, s_finn, s_find, k_bdFd, ↓reduceIte, s_asB, s_ul1, s_ul2, s_ul3, s_sub, s_add, s_neg, s_eq, s_len, s_itl, s_itt, s_opt, List.length_cons, List.length_nil, decide_true, decide_false, Bool.not_true, Bool.not_false, if_true, if_false, Bool.false_eq_true, Nat.reduceAdd, z0L, z1L, z2L, z3L, z4L, z5L, z6L, z7L, z8L, z9L, z10L, z11L, z12L, z0l, z1l, z2l, z3l, z4l, l_asI, l_finx, l_finIx, l_finI, l_un2, l_un3, l_un4, l_ne, l_nes, l_neb, l_gt, l_ix0, l_ix1, l_ix2, l_ix3, l_it0, l_it1, l_it2, l_it3, F_draw_eq, List.cons_append, List.nil_append, k_bdbd, k_bdFbd, k_finbd, sq_is, sq_len, e0, e1, z1, e2, z2, e3, sq_en]
      rw [en_bad h.lt h.pre h.at_]
      · simp -implicitDefEqProofs -dsimp only [implies_true, isS_str, s_bdx, s_bd, ↓k_bd, k_bd, k_bdx, k_bdd, s_nox, k_bdF, k_bdFr, k_bdFx, s_finr, s_finn, s_find, k_bdFd, ↓reduceIte, s_asB, s_ul1, s_ul2, s_ul3, s_sub, s_add, s_neg, s_eq, s_len, s_itl, s_itt, s_opt, List.length_cons, List.length_nil, decide_true, decide_false, Bool.not_true, Bool.not_false, if_true, if_false, Bool.false_eq_true, Nat.reduceAdd, z0L, z1L, z2L, z3L, z4L, z5L, z6L, z7L, z8L, z9L, z10L, z11L, z12L, z0l, z1l, z2l, z3l, z4l, l_asI, l_finx, l_finIx, l_finI, l_un2, l_un3, l_un4, l_ne, l_nes, l_neb, l_gt, l_ix0, l_ix1, l_ix2, l_ix3, l_it0, l_it1, l_it2, l_it3, F_draw_eq, List.cons_append, List.nil_append, k_bdbd, k_bdFbd, k_finbd, Nat.zero_add]
      · intro k d hd
        simp -implicitDefEqProofs -dsimp only [implies_true, isS_str, s_bdx, s_bd, ↓k_bd, k_bd, k_bdx, k_bdd, s_nox, k_bdF, k_bdFr, k_bdFx, s_finr, s_finn, s_find, k_bdFd, ↓reduceIte, s_asB, s_ul1, s_ul2, s_ul3, s_sub, s_add, s_neg, s_eq, s_len, s_itl, s_itt, s_opt, List.length_cons, List.length_nil, decide_true, decide_false, Bool.not_true, Bool.not_false, if_true, if_false, Bool.false_eq_true, Nat.reduceAdd, z0L, z1L, z2L, z3L, z4L, z5L, z6L, z7L, z8L, z9L, z10L, z11L, z12L, z0l, z1l, z2l, z3l, z4l, l_asI, l_finx, l_finIx, l_finI, l_un2, l_un3, l_un4, l_ne, l_nes, l_neb, l_gt, l_ix0, l_ix1, l_ix2, l_ix3, l_it0, l_it1, l_it2, l_it3, F_draw_eq, List.cons_append, List.nil_append, k_bdbd, k_bdFbd, k_finbd, show F_is_item d = .ok (.bl true) from hd]
      · intro k d hd
        simp -implicitDefEqProofs -dsimp only [implies_true, isS_str, s_bdx, s_bd, ↓k_bd, k_bd, k_bdx, k_bdd, s_nox, k_bdF, k_bdFr, k_bdFx, s_finr, s_finn, s_find, k_bdFd, ↓reduceIte, s_asB, s_ul1, s_ul2, s_ul3, s_sub, s_add, s_neg, s_eq, s_len, s_itl, s_itt, s_opt, List.length_cons, List.length_nil, decide_true, decide_false, Bool.not_true, Bool.not_false, if_true, if_false, Bool.false_eq_true, Nat.reduceAdd, z0L, z1L, z2L, z3L, z4L, z5L, z6L, z7L, z8L, z9L, z10L, z11L, z12L, z0l, z1l, z2l, z3l, z4l, l_asI, l_finx, l_finIx, l_finI, l_un2, l_un3, l_un4, l_ne, l_nes, l_neb, l_gt, l_ix0, l_ix1, l_ix2, l_ix3, l_it0, l_it1, l_it2, l_it3, F_draw_eq, List.cons_append, List.nil_append, k_bdbd, k_bdFbd, k_finbd, show F_is_item d = .ok (.bl false) from hd]
def rfs (ds : List D) : Fs := [("own_items", .lst ds)]
def rowD (ds : List D) : D := .obj "Row" (rfs ds)
theorem r_ex {v : D} {w : D} (h : F_need_items v .non = .ex "BadRow" [("at", w)]) : F_Row___init__ [] v = .ex "BadRow" [("at", w)] := by
  rw [lz_Row___init__]
  unfold L_Row___init__
  simp -implicitDefEqProofs -dsimp only [implies_true, isS_str, s_bdx, s_bd, ↓k_bd, k_bd, k_bdx, k_bdd, s_nox, k_bdF, k_bdFr, k_bdFx, s_finr, s_finn, s_find, k_bdFd, ↓reduceIte, s_asB, s_ul1, s_ul2, s_ul3, s_sub, s_add, s_neg, s_eq, s_len, s_itl, s_itt, s_opt, List.length_cons, List.length_nil, decide_true, decide_false, Bool.not_true, Bool.not_false, if_true, if_false, Bool.false_eq_true, Nat.reduceAdd, z0L, z1L, z2L, z3L, z4L, z5L, z6L, z7L, z8L, z9L, z10L, z11L, z12L, z0l, z1l, z2l, z3l, z4l, l_asI, l_finx, l_finIx, l_finI, l_un2, l_un3, l_un4, l_ne, l_nes, l_neb, l_gt, l_ix0, l_ix1, l_ix2, l_ix3, l_it0, l_it1, l_it2, l_it3, F_draw_eq, List.cons_append, List.nil_append, k_bdbd, k_bdFbd, k_finbd, h]
theorem r_ok {t : Bool} {ds : List D} (h1 : 1 ≤ ds.length) (h2 : ds.length ≤ 2000) (h : ∀ d ∈ ds, It d true) : F_Row___init__ [] (sq t ds) = .ok (rfs ds) := by
  rw [lz_Row___init__]
  unfold L_Row___init__
  have e : (([] : Fs).length < 900) = True := eq_true (by decide)
  simp -implicitDefEqProofs -dsimp only [implies_true, isS_str, s_bdx, s_bd, ↓k_bd, k_bd, k_bdx, k_bdd, s_nox, k_bdF, k_bdFr, k_bdFx, s_finr, s_finn, s_find, k_bdFd, ↓reduceIte, s_asB, s_ul1, s_ul2, s_ul3, s_sub, s_add, s_neg, s_eq, s_len, s_itl, s_itt, s_opt, List.length_cons, List.length_nil, decide_true, decide_false, Bool.not_true, Bool.not_false, if_true, if_false, Bool.false_eq_true, Nat.reduceAdd, z0L, z1L, z2L, z3L, z4L, z5L, z6L, z7L, z8L, z9L, z10L, z11L, z12L, z0l, z1l, z2l, z3l, z4l, l_asI, l_finx, l_finIx, l_finI, l_un2, l_un3, l_un4, l_ne, l_nes, l_neb, l_gt, l_ix0, l_ix1, l_ix2, l_ix3, l_it0, l_it1, l_it2, l_it3, F_draw_eq, List.cons_append, List.nil_append, k_bdbd, k_bdFbd, k_finbd, n_good (t := t) (m := .non) (.inl ⟨rfl, h1, h2⟩) h, sq_list, e]
  rfl
end Lw
end
section
set_option maxHeartbeats 1000000
namespace Lw
open PySem Gp Gh PyProof.Rows L2
theorem h_row (d : D) : F__law_heard (.ex "BadRow" [("at", d)]) = .ok (.lst [.str "row", d]) := by kernel_rfl
theorem h_len (d : D) : F__law_heard (.ex "BadLength" [("value", d)]) = .ok (.lst [.str "length", d]) := by kernel_rfl
theorem h_place (d : D) : F__law_heard (.ex "BadPlace" [("value", d)]) = .ok (.lst [.str "place", d]) := by kernel_rfl
theorem q_is {x : D} {s : Str} (h : reprX x = .ok (.str s)) : F__law_is x x = .ok (.bl true) := by
  rw [lz__law_is]
  unfold L__law_is
  have e : eqD (.str s) (.str s) = .ok (.bl true) := by
    show Tr.ok (D.bl (decide (s = s))) = _
    rw [decide_eq_true rfl]
  simp -implicitDefEqProofs -dsimp only [implies_true, isS_str, s_bdx, s_bd, ↓k_bd, k_bd, k_bdx, k_bdd, s_nox, k_bdF, k_bdFr, k_bdFx, s_finr, s_finn, s_find, k_bdFd, ↓reduceIte, s_asB, s_ul1, s_ul2, s_ul3, s_sub, s_add, s_neg, s_eq, s_len, s_itl, s_itt, s_opt, List.length_cons, List.length_nil, decide_true, decide_false, Bool.not_true, Bool.not_false, if_true, if_false, Bool.false_eq_true, Nat.reduceAdd, z0L, z1L, z2L, z3L, z4L, z5L, z6L, z7L, z8L, z9L, z10L, z11L, z12L, z0l, z1l, z2l, z3l, z4l, l_asI, l_finx, l_finIx, l_finI, l_un2, l_un3, l_un4, l_ne, l_nes, l_neb, l_gt, l_ix0, l_ix1, l_ix2, l_ix3, l_it0, l_it1, l_it2, l_it3, F_draw_eq, List.cons_append, List.nil_append, k_bdbd, k_bdFbd, k_finbd, h, e]
theorem is_row {d : D} (h : Fx d) : F__law_is (.lst [.str "row", d]) (.lst [.str "row", d]) = .ok (.bl true) := by
  obtain ⟨s, e⟩ := rx_2 fx_row h
  exact q_is e
theorem is_len {d : D} (h : Fx d) : F__law_is (.lst [.str "length", d]) (.lst [.str "length", d]) = .ok (.bl true) := by
  obtain ⟨s, e⟩ := rx_2 fx_len h
  exact q_is e
theorem is_place {d : D} (h : Fx d) : F__law_is (.lst [.str "place", d]) (.lst [.str "place", d]) = .ok (.bl true) := by
  obtain ⟨s, e⟩ := rx_2 fx_place h
  exact q_is e
theorem b_oddI : Bx (fun d => d ∈ oddI) (F__law_odd_item .pen) 1 := by
  rw [lz__law_odd_item]
  unfold L__law_odd_item
  have n1 : negD (.int 1000000000000000000000000000000) = .ok (.int (-1000000000000000000000000000000)) := rfl
  simp -implicitDefEqProofs -dsimp only [implies_true, isS_str, s_bdx, s_bd, ↓k_bd, k_bd, k_bdx, k_bdd, s_nox, k_bdF, k_bdFr, k_bdFx, s_finr, s_finn, s_find, k_bdFd, ↓reduceIte, s_asB, s_ul1, s_ul2, s_ul3, s_sub, s_add, s_neg, s_eq, s_len, s_itl, s_itt, s_opt, List.length_cons, List.length_nil, decide_true, decide_false, Bool.not_true, Bool.not_false, if_true, if_false, Bool.false_eq_true, Nat.reduceAdd, z0L, z1L, z2L, z3L, z4L, z5L, z6L, z7L, z8L, z9L, z10L, z11L, z12L, z0l, z1l, z2l, z3l, z4l, l_asI, l_finx, l_finIx, l_finI, l_un2, l_un3, l_un4, l_ne, l_nes, l_neb, l_gt, l_ix0, l_ix1, l_ix2, l_ix3, l_it0, l_it1, l_it2, l_it3, F_draw_eq, List.cons_append, List.nil_append, k_bdbd, k_bdFbd, k_finbd, n1]
  refine bk_then (a := 1) (b := 0) (bx_of (b_pick (ds := oddI) (P := fun d => d ∈ oddI) (by decide) (by decide) fun d hd => hd)) (fun d hd => ?_) (by decide)
  simp -implicitDefEqProofs -dsimp only [implies_true, isS_str, s_bdx, s_bd, ↓k_bd, k_bd, k_bdx, k_bdd, s_nox, k_bdF, k_bdFr, k_bdFx, s_finr, s_finn, s_find, k_bdFd, ↓reduceIte, s_asB, s_ul1, s_ul2, s_ul3, s_sub, s_add, s_neg, s_eq, s_len, s_itl, s_itt, s_opt, List.length_cons, List.length_nil, decide_true, decide_false, Bool.not_true, Bool.not_false, if_true, if_false, Bool.false_eq_true, Nat.reduceAdd, z0L, z1L, z2L, z3L, z4L, z5L, z6L, z7L, z8L, z9L, z10L, z11L, z12L, z0l, z1l, z2l, z3l, z4l, l_asI, l_finx, l_finIx, l_finI, l_un2, l_un3, l_un4, l_ne, l_nes, l_neb, l_gt, l_ix0, l_ix1, l_ix2, l_ix3, l_it0, l_it1, l_it2, l_it3, F_draw_eq, List.cons_append, List.nil_append, k_bdbd, k_bdFbd, k_finbd]
  exact bx_ok hd
def Inv (n : Nat) (k : Nat) (w : List D × List D) : Prop := ∃ sp : List Nat, w.2 = sp.map (fun a : Nat => D.int a) ∧ sp.length = k ∧ (∀ a ∈ sp, a < n) ∧ w.1.length = n ∧ ∀ i (hi : i < w.1.length), It w.1[i] (decide (i ∉ sp))
theorem bent_of {n m : Nat} {ds : List D} {sp : List Nat} (hm : m ∈ sp) (hle : ∀ a ∈ sp, m ≤ a) (hr : ∀ a ∈ sp, a < n) (hn : ds.length = n) (h : ∀ i (hi : i < ds.length), It ds[i] (decide (i ∉ sp))) : Bent ds m := by
  have hl : m < ds.length := by rw [hn]; exact hr m hm
  refine ⟨hl, fun i hi => ?_, ?_⟩
  · have z := h i (Nat.lt_trans hi hl)
    have e : i ∉ sp := fun q => by have := hle i q; omega
    rwa [decide_eq_true e] at z
  · have z := h m hl
    have e : ¬ (m ∉ sp) := fun q => q hm
    rwa [decide_eq_false e] at z
theorem ix_in {n : Nat} {z : Int} (h0 : 0 ≤ z) (h1 : z < n) : L2.ixN n z = some z.toNat := by
  unfold L2.ixN
  simp [h0, h1]
theorem b_bent {lot : List D} (h0 : 0 < lot.length) (h1 : lot.length ≤ 1000) (hl : ∀ d ∈ lot, It d true) : Bx (fun r => ∃ ds m, r = .tup [.lst ds, .int (m : Nat)] ∧ ds.length = lot.length ∧ Bent ds m) (F__law_bent .pen (.lst lot)) 5 := by
  rw [lz__law_bent]
  unfold L__law_bent
  have ll : listL (.lst lot) = .ok lot := rfl
  simp -implicitDefEqProofs -dsimp only [implies_true, isS_str, s_bdx, s_bd, ↓k_bd, k_bd, k_bdx, k_bdd, s_nox, k_bdF, k_bdFr, k_bdFx, s_finr, s_finn, s_find, k_bdFd, ↓reduceIte, s_asB, s_ul1, s_ul2, s_ul3, s_sub, s_add, s_neg, s_eq, s_len, s_itl, s_itt, s_opt, List.length_cons, List.length_nil, decide_true, decide_false, Bool.not_true, Bool.not_false, if_true, if_false, Bool.false_eq_true, Nat.reduceAdd, z0L, z1L, z2L, z3L, z4L, z5L, z6L, z7L, z8L, z9L, z10L, z11L, z12L, z0l, z1l, z2l, z3l, z4l, l_asI, l_finx, l_finIx, l_finI, l_un2, l_un3, l_un4, l_ne, l_nes, l_neb, l_gt, l_ix0, l_ix1, l_ix2, l_ix3, l_it0, l_it1, l_it2, l_it3, F_draw_eq, List.cons_append, List.nil_append, k_bdbd, k_bdFbd, k_finbd, ll]
  refine bx_draw (n := 4) (by decide) (by decide) fun d d0 d1 => ?_
  obtain ⟨k, L, hk, hL, rg⟩ : ∃ (k : Nat) (L : List D), (k = 1 ∨ k = 2) ∧ L.length = k ∧ rg1 (.int (1 + d)) = .ok L := by
    rcases (show d = 0 ∨ d = 1 by omega) with rfl | rfl
    · exact ⟨1, rgD 0 1, .inl rfl, rfl, rfl⟩
    · exact ⟨2, rgD 0 2, .inr rfl, rfl, rfl⟩
  have ad : addD (.int 1) (.int d) = .ok (.int (1 + d)) := rfl
  have lln : lenD (.lst lot) = .ok (.int lot.length) := rfl
  have z2 : (2 ≤ sizeLine) = True := z2L
  simp -implicitDefEqProofs -dsimp only [implies_true, isS_str, s_bdx, s_bd, ↓k_bd, k_bd, k_bdx, k_bdd, s_nox, k_bdF, k_bdFr, k_bdFx, s_finr, s_finn, s_find, k_bdFd, ↓reduceIte, s_asB, s_ul1, s_ul2, s_ul3, s_sub, s_add, s_neg, s_eq, s_len, s_itl, s_itt, s_opt, List.length_cons, List.length_nil, decide_true, decide_false, Bool.not_true, Bool.not_false, if_true, if_false, Bool.false_eq_true, Nat.reduceAdd, z0L, z1L, z2L, z3L, z4L, z5L, z6L, z7L, z8L, z9L, z10L, z11L, z12L, z0l, z1l, z2l, z3l, z4l, l_asI, l_finx, l_finIx, l_finI, l_un2, l_un3, l_un4, l_ne, l_nes, l_neb, l_gt, l_ix0, l_ix1, l_ix2, l_ix3, l_it0, l_it1, l_it2, l_it3, F_draw_eq, List.cons_append, List.nil_append, k_bdbd, k_bdFbd, k_finbd, ad, rg]
  refine bk_loopF (I := Inv lot.length) (c := 2) (b := 0) (fun j x hx w hw => ?_) ⟨[], rfl, rfl, by simp, rfl, fun i hi => ?_⟩ (fun w hw => ?_) (by omega)
  · obtain ⟨fo, spD⟩ := w
    obtain ⟨sp, e1, e2, e3, e4, e5⟩ := hw
    dsimp only at e1 e4 e5
    subst e1
    have hj : j < L.length := (List.getElem?_eq_some_iff.mp hx).1
    have sl : (sp.map (fun a : Nat => D.int a)).length < sizeLine := Nat.lt_of_lt_of_le (show _ < 3 by rw [List.length_map, e2]; omega) (by decide)
    simp -implicitDefEqProofs -dsimp only [implies_true, isS_str, s_bdx, s_bd, ↓k_bd, k_bd, k_bdx, k_bdd, s_nox, k_bdF, k_bdFr, k_bdFx, s_finr, s_finn, s_find, k_bdFd, ↓reduceIte, s_asB, s_ul1, s_ul2, s_ul3, s_sub, s_add, s_neg, s_eq, s_len, s_itl, s_itt, s_opt, List.length_cons, List.length_nil, decide_true, decide_false, Bool.not_true, Bool.not_false, if_true, if_false, Bool.false_eq_true, Nat.reduceAdd, z0L, z1L, z2L, z3L, z4L, z5L, z6L, z7L, z8L, z9L, z10L, z11L, z12L, z0l, z1l, z2l, z3l, z4l, l_asI, l_finx, l_finIx, l_finI, l_un2, l_un3, l_un4, l_ne, l_nes, l_neb, l_gt, l_ix0, l_ix1, l_ix2, l_ix3, l_it0, l_it1, l_it2, l_it3, F_draw_eq, List.cons_append, List.nil_append, k_bdbd, k_bdFbd, k_finbd, lln]
    refine bx_draw (n := 1) (by omega) (by omega) fun a a0 a1 => ?_
    refine bk_then (a := 1) (b := 0) b_oddI (fun o ho => ?_) (Nat.le_refl _)
    have hs : setD fo (.int a) o = .ok (fo.set a.toNat o) := by
      show (match L2.ixN fo.length a with | some j => Tr.ok (fo.set j o) | none => .bad) = _
      rw [e4, ix_in a0 a1]
    simp -implicitDefEqProofs -dsimp only [implies_true, isS_str, s_bdx, s_bd, ↓k_bd, k_bd, k_bdx, k_bdd, s_nox, k_bdF, k_bdFr, k_bdFx, s_finr, s_finn, s_find, k_bdFd, ↓reduceIte, s_asB, s_ul1, s_ul2, s_ul3, s_sub, s_add, s_neg, s_eq, s_len, s_itl, s_itt, s_opt, List.length_cons, List.length_nil, decide_true, decide_false, Bool.not_true, Bool.not_false, if_true, if_false, Bool.false_eq_true, Nat.reduceAdd, z0L, z1L, z2L, z3L, z4L, z5L, z6L, z7L, z8L, z9L, z10L, z11L, z12L, z0l, z1l, z2l, z3l, z4l, l_asI, l_finx, l_finIx, l_finI, l_un2, l_un3, l_un4, l_ne, l_nes, l_neb, l_gt, l_ix0, l_ix1, l_ix2, l_ix3, l_it0, l_it1, l_it2, l_it3, F_draw_eq, List.cons_append, List.nil_append, k_bdbd, k_bdFbd, k_finbd, hs, sl]
    refine bx_ok ⟨_, rfl, sp ++ [a.toNat], ?_, by simp [e2], ?_, by simp [e4], fun i hi => ?_⟩
    · rw [List.map_append, List.map_cons, List.map_nil]
      show _ ++ [D.int a] = _ ++ [D.int ((a.toNat : Nat) : Int)]
      rw [Int.toNat_of_nonneg a0]
    · intro x hx
      rcases List.mem_append.mp hx with h | h
      · exact e3 x h
      · rw [List.mem_singleton.mp h]
        omega
    · have hi' : i < fo.length := by simpa using hi
      by_cases q : a.toNat = i
      · subst q
        have e : ¬ (a.toNat ∉ sp ++ [a.toNat]) := fun z => z (by simp)
        rw [decide_eq_false e]
        simp only [List.getElem_set_self]
        exact it_odd o ho
      · simp only [List.getElem_set_ne q]
        have z := e5 i hi'
        have e : (i ∉ sp ++ [a.toNat]) ↔ i ∉ sp := by
          simp only [List.mem_append, List.mem_singleton, not_or]
          exact ⟨fun z => z.1, fun z => ⟨z, fun y => q y.symm⟩⟩
        rw [decide_eq_decide.mpr e]
        exact z
  · have e : i ∉ ([] : List Nat) := by simp
    rw [decide_eq_true e]
    exact hl _ (List.getElem_mem hi)
  · obtain ⟨fo, spD⟩ := w
    obtain ⟨sp, e1, e2, e3, e4, e5⟩ := hw
    dsimp only at e1 e4 e5
    subst e1
    rw [hL] at e2
    rcases hk with rfl | rfl
    · obtain ⟨a, rfl⟩ : ∃ a, sp = [a] := by
        match sp, e2 with
        | [a], _ => exact ⟨a, rfl⟩
      have mi : minD (.lst [D.int (a : Nat)]) = .ok (.int (a : Nat)) := rfl
      simp -implicitDefEqProofs -dsimp only [implies_true, isS_str, s_bdx, s_bd, ↓k_bd, k_bd, k_bdx, k_bdd, s_nox, k_bdF, k_bdFr, k_bdFx, s_finr, s_finn, s_find, k_bdFd, ↓reduceIte, s_asB, s_ul1, s_ul2, s_ul3, s_sub, s_add, s_neg, s_eq, s_len, s_itl, s_itt, s_opt, List.length_cons, List.length_nil, decide_true, decide_false, Bool.not_true, Bool.not_false, if_true, if_false, Bool.false_eq_true, Nat.reduceAdd, z0L, z1L, z2L, z3L, z4L, z5L, z6L, z7L, z8L, z9L, z10L, z11L, z12L, z0l, z1l, z2l, z3l, z4l, l_asI, l_finx, l_finIx, l_finI, l_un2, l_un3, l_un4, l_ne, l_nes, l_neb, l_gt, l_ix0, l_ix1, l_ix2, l_ix3, l_it0, l_it1, l_it2, l_it3, F_draw_eq, List.cons_append, List.nil_append, k_bdbd, k_bdFbd, k_finbd, List.map_cons, List.map_nil, lcF_cons, lcF_nil, s_int, mi]
      exact bx_ok ⟨fo, a, rfl, e4, bent_of (sp := [a]) (by simp) (by simp) e3 e4 e5⟩
    · obtain ⟨a, b, rfl⟩ : ∃ a b, sp = [a, b] := by
        match sp, e2 with
        | [a, b], _ => exact ⟨a, b, rfl⟩
      have mi : minD (.lst [D.int (a : Nat), D.int (b : Nat)]) = .ok (.int (if (a : Int) ≤ b then (a : Int) else b)) := rfl
      by_cases q : (a : Int) ≤ b
      · rw [if_pos q] at mi
        simp -implicitDefEqProofs -dsimp only [implies_true, isS_str, s_bdx, s_bd, ↓k_bd, k_bd, k_bdx, k_bdd, s_nox, k_bdF, k_bdFr, k_bdFx, s_finr, s_finn, s_find, k_bdFd, ↓reduceIte, s_asB, s_ul1, s_ul2, s_ul3, s_sub, s_add, s_neg, s_eq, s_len, s_itl, s_itt, s_opt, List.length_cons, List.length_nil, decide_true, decide_false, Bool.not_true, Bool.not_false, if_true, if_false, Bool.false_eq_true, Nat.reduceAdd, z0L, z1L, z2L, z3L, z4L, z5L, z6L, z7L, z8L, z9L, z10L, z11L, z12L, z0l, z1l, z2l, z3l, z4l, l_asI, l_finx, l_finIx, l_finI, l_un2, l_un3, l_un4, l_ne, l_nes, l_neb, l_gt, l_ix0, l_ix1, l_ix2, l_ix3, l_it0, l_it1, l_it2, l_it3, F_draw_eq, List.cons_append, List.nil_append, k_bdbd, k_bdFbd, k_finbd, List.map_cons, List.map_nil, lcF_cons, lcF_nil, s_int, mi]
        exact bx_ok ⟨fo, a, rfl, e4, bent_of (sp := [a, b]) (by simp) (fun x hx => by
          simp only [List.mem_cons, List.mem_nil_iff, or_false] at hx
          omega) e3 e4 e5⟩
      · rw [if_neg q] at mi
        simp -implicitDefEqProofs -dsimp only [implies_true, isS_str, s_bdx, s_bd, ↓k_bd, k_bd, k_bdx, k_bdd, s_nox, k_bdF, k_bdFr, k_bdFx, s_finr, s_finn, s_find, k_bdFd, ↓reduceIte, s_asB, s_ul1, s_ul2, s_ul3, s_sub, s_add, s_neg, s_eq, s_len, s_itl, s_itt, s_opt, List.length_cons, List.length_nil, decide_true, decide_false, Bool.not_true, Bool.not_false, if_true, if_false, Bool.false_eq_true, Nat.reduceAdd, z0L, z1L, z2L, z3L, z4L, z5L, z6L, z7L, z8L, z9L, z10L, z11L, z12L, z0l, z1l, z2l, z3l, z4l, l_asI, l_finx, l_finIx, l_finI, l_un2, l_un3, l_un4, l_ne, l_nes, l_neb, l_gt, l_ix0, l_ix1, l_ix2, l_ix3, l_it0, l_it1, l_it2, l_it3, F_draw_eq, List.cons_append, List.nil_append, k_bdbd, k_bdFbd, k_finbd, List.map_cons, List.map_nil, lcF_cons, lcF_nil, s_int, mi]
        exact bx_ok ⟨fo, b, rfl, e4, bent_of (sp := [a, b]) (by simp) (fun x hx => by
          simp only [List.mem_cons, List.mem_nil_iff, or_false] at hx
          omega) e3 e4 e5⟩
end Lw
end
section
set_option maxHeartbeats 1000000
namespace Lw
open PySem Gp Gh PyProof.Rows L2
def sevens : List D := (List.replicate 2001 [D.int 7]).flatten
def nones : List D := (List.replicate 2001 [D.non]).flatten
def rngs : List D := rgD 0 2001
theorem q_sevens : mulU (.tup [.int 7]) (.int 2001) = .ok (.tup sevens) := by
  unfold mulU
  dsimp only
  rw [if_neg (by simp), if_pos ⟨by simp, by decide, by decide, by decide⟩]
  rfl
theorem q_nones : mulD (.lst [.non]) (.int 2001) = .ok (.lst nones) := by
  show (if -(2 ^ 63) ≤ (2001 : Int) ∧ (2001 : Int) < 2 ^ 63 ∧ [D.non].length * (2001 : Int).toNat ≤ sizeLine then Tr.ok (D.lst (List.replicate (2001 : Int).toNat [D.non]).flatten) else .bad) = _
  rw [if_pos ⟨by decide, by decide, by decide⟩]
  rfl
theorem len_flat (n : Nat) (d : D) : (List.replicate n [d]).flatten.length = n := by
  rw [PyProof.Rows.lm_len_rep_flat]
  simp
theorem l_sevens : sevens.length = 2001 := len_flat _ _
theorem l_nones : nones.length = 2001 := len_flat _ _
theorem l_rgD (n : Nat) (i : Int) : (rgD i n).length = n := by
  unfold rgD
  simp
theorem s_addl' {l m : List D} (h : l.length + m.length ≤ sizeLine) : addD (.lst l) (.lst m) = .ok (.lst (l ++ m)) := by
  show (if l.length + m.length ≤ sizeLine then Tr.ok (D.lst (l ++ m)) else .bad) = _
  rw [if_pos h]
theorem l_rngs : rngs.length = 2001 := l_rgD _ _
theorem q_rngs : rgA1 (.int 2001) = .ok (0, 2001) := rfl
theorem ok_rngs : rgOk 0 2001 := by decide
theorem n_rngs : rgD 0 (2001 - 0 : Int).toNat = rngs := rfl
theorem r_12 : F_Row___init__ [] (.lst [.int 1, .int 2]) = .ok (rfs [.int 1, .int 2]) := by kernel_rfl
theorem r_h3 : F_Row_home (.int 3) = .ok (rowD [.int 0, .int 1, .int 2]) := by kernel_rfl
def NR (d : D) : Prop := F_need_items d .non = .ex "BadRow" [("at", .non)]
def noR : List D := [.non, .int 0, .bl true, .str "12", .str "", .dct, .tup [], .lst [], .dic [(.inr "a", .int 1)], .dic [(.inl 1, .int 2)], .lst rngs, .tup sevens, .lst nones, rowD [.int 1, .int 2], rowD [.int 0, .int 1, .int 2]]
theorem nr_all : ∀ d ∈ noR, NR d := by
  intro d hd
  simp only [noR, List.mem_cons, List.mem_nil_iff, or_false] at hd
  rcases hd with rfl | rfl | rfl | rfl | rfl | rfl | rfl | rfl | rfl | rfl | rfl | rfl | rfl | rfl | rfl
  · exact n_kind rfl
  · exact n_kind rfl
  · exact n_kind rfl
  · exact n_kind rfl
  · exact n_kind rfl
  · exact n_kind rfl
  · exact n_len (t := true) (.inl rfl)
  · exact n_len (t := false) (.inl rfl)
  · exact n_kind rfl
  · exact n_kind rfl
  · exact n_len (t := false) (.inr (by rw [l_rngs]; decide))
  · exact n_len (t := true) (.inr (by rw [l_sevens]; decide))
  · exact n_len (t := false) (.inr (by rw [l_nones]; decide))
  · exact n_kind rfl
  · exact n_kind rfl
def noL' : List D := [.int 0, .int (-1), .int 2001, .non, .bl true, .str "5", .lst [.int 5], .tup [.int 1], .dct, .int 10000000000000000000000000000000000000000]
theorem nl_all : ∀ d ∈ noL', F_Row_home d = .ex "BadLength" [("value", d)] ∧ Fx d := by
  intro d hd
  simp only [noL', List.mem_cons, List.mem_nil_iff, or_false] at hd
  rcases hd with rfl | rfl | rfl | rfl | rfl | rfl | rfl | rfl | rfl | rfl
  · exact ⟨by kernel_rfl, fx_int (by decide) (by decide)⟩
  · exact ⟨by kernel_rfl, fx_int (by decide) (by decide)⟩
  · exact ⟨by kernel_rfl, fx_int (by decide) (by decide)⟩
  · exact ⟨by kernel_rfl, fx_non⟩
  · exact ⟨by kernel_rfl, _, rfl, by constructor <;> decide⟩
  · exact ⟨by kernel_rfl, _, rfl, by constructor <;> decide +kernel⟩
  · exact ⟨by kernel_rfl, _, rfl, by constructor <;> decide +kernel⟩
  · exact ⟨by kernel_rfl, _, rfl, by constructor <;> decide +kernel⟩
  · exact ⟨by kernel_rfl, _, rfl, by constructor <;> decide +kernel⟩
  · exact ⟨by kernel_rfl, fx_int (by decide) (by decide)⟩
theorem fx_nat {m : Nat} (h : m ≤ 100000) : Fx (.int (m : Nat)) := fx_int (by omega) (by omega)
theorem b_made {lot : List D} (h0 : 1 ≤ lot.length) (h1 : lot.length ≤ 1000) (hl : ∀ d ∈ lot, It d true) : Bx (fun d => d = .bl true) (F__law_made_right .pen (.lst lot)) 7 := by
  rw [lz__law_made_right]
  unfold L__law_made_right
  have z13 : (13 ≤ sizeLine) = True := eq_true (by decide)
  have n1 : negD (.int 1) = .ok (.int (-1)) := rfl
  have z10 : (10 ≤ sizeLine) = True := eq_true (by decide)
  have ad : ∀ l m : List D, l.length = 13 → m.length = 2 → addD (.lst l) (.lst m) = .ok (.lst (l ++ m)) := fun l m h1 h2 => s_addl' (by rw [h1, h2]; decide)
  have ro : (D.obj "Row" (rfs [.int 1, .int 2])) = rowD [.int 1, .int 2] := rfl
  simp -implicitDefEqProofs -dsimp only [implies_true, isS_str, s_bdx, s_bd, ↓k_bd, k_bd, k_bdx, k_bdd, s_nox, k_bdF, k_bdFr, k_bdFx, s_finr, s_finn, s_find, k_bdFd, ↓reduceIte, s_asB, s_ul1, s_ul2, s_ul3, s_sub, s_add, s_neg, s_eq, s_len, s_itl, s_itt, s_opt, List.length_cons, List.length_nil, decide_true, decide_false, Bool.not_true, Bool.not_false, if_true, if_false, Bool.false_eq_true, Nat.reduceAdd, z0L, z1L, z2L, z3L, z4L, z5L, z6L, z7L, z8L, z9L, z10L, z11L, z12L, z0l, z1l, z2l, z3l, z4l, l_asI, l_finx, l_finIx, l_finI, l_un2, l_un3, l_un4, l_ne, l_nes, l_neb, l_gt, l_ix0, l_ix1, l_ix2, l_ix3, l_it0, l_it1, l_it2, l_it3, F_draw_eq, List.cons_append, List.nil_append, k_bdbd, k_bdFbd, k_finbd, q_sevens, q_nones, q_rngs, ok_rngs, n_rngs, r_12, r_h3, z13, ro, n1, z10]
  rw [ad _ _ rfl rfl]
  simp -implicitDefEqProofs -dsimp only [implies_true, isS_str, s_bdx, s_bd, ↓k_bd, k_bd, k_bdx, k_bdd, s_nox, k_bdF, k_bdFr, k_bdFx, s_finr, s_finn, s_find, k_bdFd, ↓reduceIte, s_asB, s_ul1, s_ul2, s_ul3, s_sub, s_add, s_neg, s_eq, s_len, s_itl, s_itt, s_opt, List.length_cons, List.length_nil, decide_true, decide_false, Bool.not_true, Bool.not_false, if_true, if_false, Bool.false_eq_true, Nat.reduceAdd, z0L, z1L, z2L, z3L, z4L, z5L, z6L, z7L, z8L, z9L, z10L, z11L, z12L, z0l, z1l, z2l, z3l, z4l, l_asI, l_finx, l_finIx, l_finI, l_un2, l_un3, l_un4, l_ne, l_nes, l_neb, l_gt, l_ix0, l_ix1, l_ix2, l_ix3, l_it0, l_it1, l_it2, l_it3, F_draw_eq, List.cons_append, List.nil_append, k_bdbd, k_bdFbd, k_finbd]
  refine bk_then (a := 1) (b := 6) (bx_of (b_pick (ds := noR) (P := NR) (by decide) (by decide) nr_all)) (fun d hd => ?_) (by decide)
  simp -implicitDefEqProofs -dsimp only [implies_true, isS_str, s_bdx, s_bd, ↓k_bd, k_bd, k_bdx, k_bdd, s_nox, k_bdF, k_bdFr, k_bdFx, s_finr, s_finn, s_find, k_bdFd, ↓reduceIte, s_asB, s_ul1, s_ul2, s_ul3, s_sub, s_add, s_neg, s_eq, s_len, s_itl, s_itt, s_opt, List.length_cons, List.length_nil, decide_true, decide_false, Bool.not_true, Bool.not_false, if_true, if_false, Bool.false_eq_true, Nat.reduceAdd, z0L, z1L, z2L, z3L, z4L, z5L, z6L, z7L, z8L, z9L, z10L, z11L, z12L, z0l, z1l, z2l, z3l, z4l, l_asI, l_finx, l_finIx, l_finI, l_un2, l_un3, l_un4, l_ne, l_nes, l_neb, l_gt, l_ix0, l_ix1, l_ix2, l_ix3, l_it0, l_it1, l_it2, l_it3, F_draw_eq, List.cons_append, List.nil_append, k_bdbd, k_bdFbd, k_finbd, r_ex hd, h_row, is_row fx_non]
  refine bk_then (a := 5) (b := 1) (b_bent h0 h1 hl) (fun r hr => ?_) (by decide)
  obtain ⟨ds, m, rfl, el, hb⟩ := hr
  have hm : Mny .non ds.length := .inl ⟨rfl, by omega, by omega⟩
  have lm : m ≤ 100000 := by have := hb.lt; omega
  have x1 := r_ex (n_bent (t := false) hm hb)
  have x2 := r_ex (n_bent (t := true) hm hb)
  unfold sq at x1 x2
  dsimp only at x1 x2
  have tp : tupD (.lst ds) = .ok (.tup ds) := rfl
  have kw : ∀ e : D, kwM "Row" 0 1 [.inl 0] [] (fun fs => ul1 (F_Row___init__ fs)) [] [e] = bd (F_Row___init__ [] e) fun fs => .ok (.obj "Row" fs) := fun _ => rfl
  simp -implicitDefEqProofs -dsimp only [implies_true, isS_str, s_bdx, s_bd, ↓k_bd, k_bd, k_bdx, k_bdd, s_nox, k_bdF, k_bdFr, k_bdFx, s_finr, s_finn, s_find, k_bdFd, ↓reduceIte, s_asB, s_ul1, s_ul2, s_ul3, s_sub, s_add, s_neg, s_eq, s_len, s_itl, s_itt, s_opt, List.length_cons, List.length_nil, decide_true, decide_false, Bool.not_true, Bool.not_false, if_true, if_false, Bool.false_eq_true, Nat.reduceAdd, z0L, z1L, z2L, z3L, z4L, z5L, z6L, z7L, z8L, z9L, z10L, z11L, z12L, z0l, z1l, z2l, z3l, z4l, l_asI, l_finx, l_finIx, l_finI, l_un2, l_un3, l_un4, l_ne, l_nes, l_neb, l_gt, l_ix0, l_ix1, l_ix2, l_ix3, l_it0, l_it1, l_it2, l_it3, F_draw_eq, List.cons_append, List.nil_append, k_bdbd, k_bdFbd, k_finbd, x1, x2, h_row, is_row (fx_nat lm), tp, kw]
  refine bk_then (a := 1) (b := 0) (bx_of (b_pick (ds := noL') (P := fun d => F_Row_home d = .ex "BadLength" [("value", d)] ∧ Fx d) (by decide) (by decide) nl_all)) (fun d hd => ?_) (by decide)
  obtain ⟨e1, e2⟩ := hd
  simp -implicitDefEqProofs -dsimp only [implies_true, isS_str, s_bdx, s_bd, ↓k_bd, k_bd, k_bdx, k_bdd, s_nox, k_bdF, k_bdFr, k_bdFx, s_finr, s_finn, s_find, k_bdFd, ↓reduceIte, s_asB, s_ul1, s_ul2, s_ul3, s_sub, s_add, s_neg, s_eq, s_len, s_itl, s_itt, s_opt, List.length_cons, List.length_nil, decide_true, decide_false, Bool.not_true, Bool.not_false, if_true, if_false, Bool.false_eq_true, Nat.reduceAdd, z0L, z1L, z2L, z3L, z4L, z5L, z6L, z7L, z8L, z9L, z10L, z11L, z12L, z0l, z1l, z2l, z3l, z4l, l_asI, l_finx, l_finIx, l_finI, l_un2, l_un3, l_un4, l_ne, l_nes, l_neb, l_gt, l_ix0, l_ix1, l_ix2, l_ix3, l_it0, l_it1, l_it2, l_it3, F_draw_eq, List.cons_append, List.nil_append, k_bdbd, k_bdFbd, k_finbd, e1, h_len, is_len e2]
  exact bx_ok rfl
end Lw
end
section
set_option maxHeartbeats 1000000
namespace Lw
open PySem Gp Gh PyProof.Rows L2
def rowN (n : Nat) : D := rowD (List.replicate n .non)
theorem f_own (ds : List D) : fldD "Row" "own_items" (rowD ds) = .ok (.lst ds) := rfl
theorem l_own (ds : List D) : lenD (.lst ds) = .ok (.int ds.length) := rfl
theorem np_eq {ds : List D} {n : Nat} (h : ds.length = n) (d : D) : F_Row_need_place (rowD ds) d = F_Row_need_place (rowN n) d := by
  unfold rowN
  simp only [F_Row_need_place, bd_ok, f_own, s_ul1, l_own, List.length_replicate, h]
theorem ns_eq {ds : List D} {n : Nat} (h : ds.length = n) (d : D) : F_Row_need_stretch (rowD ds) d = F_Row_need_stretch (rowN n) d := by
  unfold rowN
  simp only [F_Row_need_stretch, bd_ok, f_own, s_ul1, l_own, List.length_replicate, h]
theorem xc_eq {ds : List D} {n : Nat} (h : ds.length = n) (d : D) : F_Row_exchange (rowD ds) d = F_Row_exchange (rowN n) d := by
  unfold rowN
  simp only [F_Row_exchange, bd_ok, f_own, s_ul1, l_own, List.length_replicate, h]
def ns17 : List Nat := [1, 2, 3, 4, 5, 6, 7]
def oddP (n : Nat) : List D := [.non, .bl true, .bl false, .str "0", .lst [.int 0], .dct, .int n, .int (-1), .int 10000000000000000000000000000000000000000, .lst [.int 0, .int 1]]
def oddT (n : Nat) : List D := [.tup [], .tup [.int 0], .tup [.int 0, .int 1, .int 1], .tup [.int 1, .int 0], .tup [.int (-1), .int 0], .tup [.int 0, .int (n + 1)], .tup [.bl true, .int 1], .tup [.int 0, .non], .tup [.int 0, .str "1"], .tup [.int (n + 1), .int (n + 1)], .tup [.int 0, .bl false]]
theorem np_all : ∀ n ∈ ns17, ∀ d ∈ oddP n, F_Row_need_place (rowN n) d = .ex "BadPlace" [("value", d)] := by
  intro n hn d hd
  simp only [ns17, List.mem_cons, List.mem_nil_iff, or_false] at hn
  simp only [oddP, List.mem_cons, List.mem_nil_iff, or_false] at hd
  rcases hn with rfl | rfl | rfl | rfl | rfl | rfl | rfl <;> rcases hd with rfl | rfl | rfl | rfl | rfl | rfl | rfl | rfl | rfl | rfl <;> kernel_rfl
theorem ns_all : ∀ n ∈ ns17, ∀ d ∈ oddT n, F_Row_need_stretch (rowN n) d = .ex "BadPlace" [("value", d)] := by
  intro n hn d hd
  simp only [ns17, List.mem_cons, List.mem_nil_iff, or_false] at hn
  simp only [oddT, List.mem_cons, List.mem_nil_iff, or_false] at hd
  rcases hn with rfl | rfl | rfl | rfl | rfl | rfl | rfl <;> rcases hd with rfl | rfl | rfl | rfl | rfl | rfl | rfl | rfl | rfl | rfl | rfl <;> kernel_rfl
def oddX (n : Nat) : List D := [.int (n - 1), .int n, .int (-1), .non, .bl true, .str "0", .tup [.int 0, .int 1], .int 10000000000000000000000000000000000000000]
theorem xc_all : ∀ n ∈ ns17, ∀ d ∈ oddX n, F_Row_exchange (rowN n) d = .ex "BadPlace" [("value", d)] := by
  intro n hn d hd
  simp only [ns17, List.mem_cons, List.mem_nil_iff, or_false] at hn
  simp only [oddX, List.mem_cons, List.mem_nil_iff, or_false] at hd
  rcases hn with rfl | rfl | rfl | rfl | rfl | rfl | rfl <;> rcases hd with rfl | rfl | rfl | rfl | rfl | rfl | rfl | rfl <;> kernel_rfl
theorem isO_row {α : Type} (ds : List D) (k : Fs → Tr α) : isO "Row" (rowD ds) k = k (rfs ds) := by
  unfold rowD isO
  simp
theorem lk1 (ds : List D) : ((rfs ds).lookup ("need_stretch" : Str) = none) = True := eq_true rfl
theorem lk2 (ds : List D) : ((rfs ds).lookup ("need_place" : Str) = none) = True := eq_true rfl
theorem lk3 (ds : List D) : ((rfs ds).lookup ("exchange" : Str) = none) = True := eq_true rfl
structure Ref (ds : List D) (d : D) : Prop where
  get : F_Row___getitem__ (rowD ds) d = .ex "BadPlace" [("value", d)]
  set : ∀ v, F_Row___setitem__ (rowD ds) d v = .ex "BadPlace" [("value", d)]
  fx : Fx d
theorem ref_t {ds : List D} {d : D} (h1 : isi_tuple d = some true) (h : F_Row_need_stretch (rowD ds) d = .ex "BadPlace" [("value", d)]) (hf : Fx d) : Ref ds d := by
  refine ⟨?_, fun v => ?_, hf⟩
  · rw [lz_Row___getitem__]
    unfold L_Row___getitem__
    simp -implicitDefEqProofs -dsimp only [implies_true, isS_str, s_bdx, s_bd, ↓k_bd, k_bd, k_bdx, k_bdd, s_nox, k_bdF, k_bdFr, k_bdFx, s_finr, s_finn, s_find, k_bdFd, ↓reduceIte, s_asB, s_ul1, s_ul2, s_ul3, s_sub, s_add, s_neg, s_eq, s_len, s_itl, s_itt, s_opt, List.length_cons, List.length_nil, decide_true, decide_false, Bool.not_true, Bool.not_false, if_true, if_false, Bool.false_eq_true, Nat.reduceAdd, z0L, z1L, z2L, z3L, z4L, z5L, z6L, z7L, z8L, z9L, z10L, z11L, z12L, z0l, z1l, z2l, z3l, z4l, l_asI, l_finx, l_finIx, l_finI, l_un2, l_un3, l_un4, l_ne, l_nes, l_neb, l_gt, l_ix0, l_ix1, l_ix2, l_ix3, l_it0, l_it1, l_it2, l_it3, F_draw_eq, List.cons_append, List.nil_append, k_bdbd, k_bdFbd, k_finbd, h1, isO_row, lk1, h]
  · rw [lz_Row___setitem__]
    unfold L_Row___setitem__
    simp -implicitDefEqProofs -dsimp only [implies_true, isS_str, s_bdx, s_bd, ↓k_bd, k_bd, k_bdx, k_bdd, s_nox, k_bdF, k_bdFr, k_bdFx, s_finr, s_finn, s_find, k_bdFd, ↓reduceIte, s_asB, s_ul1, s_ul2, s_ul3, s_sub, s_add, s_neg, s_eq, s_len, s_itl, s_itt, s_opt, List.length_cons, List.length_nil, decide_true, decide_false, Bool.not_true, Bool.not_false, if_true, if_false, Bool.false_eq_true, Nat.reduceAdd, z0L, z1L, z2L, z3L, z4L, z5L, z6L, z7L, z8L, z9L, z10L, z11L, z12L, z0l, z1l, z2l, z3l, z4l, l_asI, l_finx, l_finIx, l_finI, l_un2, l_un3, l_un4, l_ne, l_nes, l_neb, l_gt, l_ix0, l_ix1, l_ix2, l_ix3, l_it0, l_it1, l_it2, l_it3, F_draw_eq, List.cons_append, List.nil_append, k_bdbd, k_bdFbd, k_finbd, h1, isO_row, lk1, h]
theorem ref_p {ds : List D} {d : D} (h1 : isi_tuple d = some false) (h : F_Row_need_place (rowD ds) d = .ex "BadPlace" [("value", d)]) (hf : Fx d) : Ref ds d := by
  refine ⟨?_, fun v => ?_, hf⟩
  · rw [lz_Row___getitem__]
    unfold L_Row___getitem__
    simp -implicitDefEqProofs -dsimp only [implies_true, isS_str, s_bdx, s_bd, ↓k_bd, k_bd, k_bdx, k_bdd, s_nox, k_bdF, k_bdFr, k_bdFx, s_finr, s_finn, s_find, k_bdFd, ↓reduceIte, s_asB, s_ul1, s_ul2, s_ul3, s_sub, s_add, s_neg, s_eq, s_len, s_itl, s_itt, s_opt, List.length_cons, List.length_nil, decide_true, decide_false, Bool.not_true, Bool.not_false, if_true, if_false, Bool.false_eq_true, Nat.reduceAdd, z0L, z1L, z2L, z3L, z4L, z5L, z6L, z7L, z8L, z9L, z10L, z11L, z12L, z0l, z1l, z2l, z3l, z4l, l_asI, l_finx, l_finIx, l_finI, l_un2, l_un3, l_un4, l_ne, l_nes, l_neb, l_gt, l_ix0, l_ix1, l_ix2, l_ix3, l_it0, l_it1, l_it2, l_it3, F_draw_eq, List.cons_append, List.nil_append, k_bdbd, k_bdFbd, k_finbd, h1, isO_row, lk2, h]
  · rw [lz_Row___setitem__]
    unfold L_Row___setitem__
    simp -implicitDefEqProofs -dsimp only [implies_true, isS_str, s_bdx, s_bd, ↓k_bd, k_bd, k_bdx, k_bdd, s_nox, k_bdF, k_bdFr, k_bdFx, s_finr, s_finn, s_find, k_bdFd, ↓reduceIte, s_asB, s_ul1, s_ul2, s_ul3, s_sub, s_add, s_neg, s_eq, s_len, s_itl, s_itt, s_opt, List.length_cons, List.length_nil, decide_true, decide_false, Bool.not_true, Bool.not_false, if_true, if_false, Bool.false_eq_true, Nat.reduceAdd, z0L, z1L, z2L, z3L, z4L, z5L, z6L, z7L, z8L, z9L, z10L, z11L, z12L, z0l, z1l, z2l, z3l, z4l, l_asI, l_finx, l_finIx, l_finI, l_un2, l_un3, l_un4, l_ne, l_nes, l_neb, l_gt, l_ix0, l_ix1, l_ix2, l_ix3, l_it0, l_it1, l_it2, l_it3, F_draw_eq, List.cons_append, List.nil_append, k_bdbd, k_bdFbd, k_finbd, h1, isO_row, lk2, h]
theorem fx_P {n : Nat} (hn : n ∈ ns17) : ∀ d ∈ oddP n, Fx d ∧ isi_tuple d = some false := by
  intro d hd
  have l : n ≤ 7 := by
    simp only [ns17, List.mem_cons, List.mem_nil_iff, or_false] at hn
    omega
  simp only [oddP, List.mem_cons, List.mem_nil_iff, or_false] at hd
  rcases hd with rfl | rfl | rfl | rfl | rfl | rfl | rfl | rfl | rfl | rfl
  · exact ⟨fx_non, rfl⟩
  · exact ⟨⟨_, rfl, by constructor <;> decide⟩, rfl⟩
  · exact ⟨⟨_, rfl, by constructor <;> decide⟩, rfl⟩
  · exact ⟨⟨_, rfl, by constructor <;> decide +kernel⟩, rfl⟩
  · exact ⟨⟨_, rfl, by constructor <;> decide +kernel⟩, rfl⟩
  · exact ⟨⟨_, rfl, by constructor <;> decide +kernel⟩, rfl⟩
  · exact ⟨fx_nat (by omega), rfl⟩
  · exact ⟨fx_int (by decide) (by decide), rfl⟩
  · exact ⟨fx_int (by decide) (by decide), rfl⟩
  · exact ⟨⟨_, rfl, by constructor <;> decide +kernel⟩, rfl⟩
theorem fx_T : ∀ n ∈ ns17, ∀ d ∈ oddT n, Fx d ∧ isi_tuple d = some true := by
  intro n hn d hd
  simp only [ns17, List.mem_cons, List.mem_nil_iff, or_false] at hn
  simp only [oddT, List.mem_cons, List.mem_nil_iff, or_false] at hd
  rcases hn with rfl | rfl | rfl | rfl | rfl | rfl | rfl <;> rcases hd with rfl | rfl | rfl | rfl | rfl | rfl | rfl | rfl | rfl | rfl | rfl <;> exact ⟨⟨_, rfl, by constructor <;> decide +kernel⟩, rfl⟩
theorem fx_X {n : Nat} (hn : n ∈ ns17) : ∀ d ∈ oddX n, Fx d := by
  intro d hd
  have l : 1 ≤ n ∧ n ≤ 7 := by
    simp only [ns17, List.mem_cons, List.mem_nil_iff, or_false] at hn
    omega
  simp only [oddX, List.mem_cons, List.mem_nil_iff, or_false] at hd
  rcases hd with rfl | rfl | rfl | rfl | rfl | rfl | rfl | rfl
  · exact fx_int (by omega) (by omega)
  · exact fx_nat (by omega)
  · exact fx_int (by decide) (by decide)
  · exact fx_non
  · exact ⟨_, rfl, by constructor <;> decide⟩
  · exact ⟨_, rfl, by constructor <;> decide +kernel⟩
  · exact ⟨_, rfl, by constructor <;> decide +kernel⟩
  · exact fx_int (by decide) (by decide)
theorem ref_all {ds : List D} {n : Nat} (hn : n ∈ ns17) (hl : ds.length = n) : ∀ d, d ∈ oddP n ∨ d ∈ oddT n → Ref ds d := by
  intro d hd
  rcases hd with hd | hd
  · obtain ⟨f, i⟩ := fx_P hn d hd
    exact ref_p i ((np_eq hl d).trans (np_all n hn d hd)) f
  · obtain ⟨f, i⟩ := fx_T n hn d hd
    exact ref_t i ((ns_eq hl d).trans (ns_all n hn d hd)) f
def oddI' (n : Nat) : List D := [.non, .bl true, .bl false, .str "0", .lst [.int 0], .dct, .int n, .int (-1), .int 10000000000000000000000000000000000000000, .tup [], .tup [.int 0], .tup [.int 0, .int 1, .int 1], .tup [.int 1, .int 0], .tup [.int (-1), .int 0], .tup [.int 0, .int (n + 1)], .tup [.bl true, .int 1], .tup [.int 0, .non], .tup [.int 0, .str "1"], .tup [.int (n + 1), .int (n + 1)], .lst [.int 0, .int 1], .tup [.int 0, .bl false]]
theorem odd_in {n : Nat} : ∀ d ∈ oddI' n, d ∈ oddP n ∨ d ∈ oddT n := by
  intro d hd
  simp only [oddI', List.mem_cons, List.mem_nil_iff, or_false] at hd
  simp only [oddP, oddT, List.mem_cons, List.mem_nil_iff, or_false]
  rcases hd with h | h | h | h | h | h | h | h | h | h | h | h | h | h | h | h | h | h | h | h | h <;> simp [h]
theorem b_oddx {n : Nat} : Bx (fun d => d ∈ oddI' n) (F__law_odd_index .pen (.int n)) 1 := by
  rw [lz__law_odd_index]
  unfold L__law_odd_index
  have n1 : negD (.int 1) = .ok (.int (-1)) := rfl
  have a1 : addD (.int n) (.int 1) = .ok (.int (n + 1)) := rfl
  have z15 : (15 ≤ sizeLine) = True := eq_true (by decide)
  have ad : ∀ l m : List D, l.length = 15 → m.length = 6 → addD (.lst l) (.lst m) = .ok (.lst (l ++ m)) := fun l m h1 h2 => s_addl' (by rw [h1, h2]; decide)
  simp -implicitDefEqProofs -dsimp only [implies_true, isS_str, s_bdx, s_bd, ↓k_bd, k_bd, k_bdx, k_bdd, s_nox, k_bdF, k_bdFr, k_bdFx, s_finr, s_finn, s_find, k_bdFd, ↓reduceIte, s_asB, s_ul1, s_ul2, s_ul3, s_sub, s_add, s_neg, s_eq, s_len, s_itl, s_itt, s_opt, List.length_cons, List.length_nil, decide_true, decide_false, Bool.not_true, Bool.not_false, if_true, if_false, Bool.false_eq_true, Nat.reduceAdd, z0L, z1L, z2L, z3L, z4L, z5L, z6L, z7L, z8L, z9L, z10L, z11L, z12L, z0l, z1l, z2l, z3l, z4l, l_asI, l_finx, l_finIx, l_finI, l_un2, l_un3, l_un4, l_ne, l_nes, l_neb, l_gt, l_ix0, l_ix1, l_ix2, l_ix3, l_it0, l_it1, l_it2, l_it3, F_draw_eq, List.cons_append, List.nil_append, k_bdbd, k_bdFbd, k_finbd, n1, a1, z15]
  rw [ad _ _ rfl rfl]
  simp -implicitDefEqProofs -dsimp only [implies_true, isS_str, s_bdx, s_bd, ↓k_bd, k_bd, k_bdx, k_bdd, s_nox, k_bdF, k_bdFr, k_bdFx, s_finr, s_finn, s_find, k_bdFd, ↓reduceIte, s_asB, s_ul1, s_ul2, s_ul3, s_sub, s_add, s_neg, s_eq, s_len, s_itl, s_itt, s_opt, List.length_cons, List.length_nil, decide_true, decide_false, Bool.not_true, Bool.not_false, if_true, if_false, Bool.false_eq_true, Nat.reduceAdd, z0L, z1L, z2L, z3L, z4L, z5L, z6L, z7L, z8L, z9L, z10L, z11L, z12L, z0l, z1l, z2l, z3l, z4l, l_asI, l_finx, l_finIx, l_finI, l_un2, l_un3, l_un4, l_ne, l_nes, l_neb, l_gt, l_ix0, l_ix1, l_ix2, l_ix3, l_it0, l_it1, l_it2, l_it3, F_draw_eq, List.cons_append, List.nil_append, k_bdbd, k_bdFbd, k_finbd]
  refine bk_then (a := 1) (b := 0) (bx_of (b_pick (ds := oddI' n) (P := fun d => d ∈ oddI' n) (by show 0 < 21; decide) (by show 21 ≤ _; decide) fun d hd => hd)) (fun d hd => ?_) (by decide)
  simp -implicitDefEqProofs -dsimp only [implies_true, isS_str, s_bdx, s_bd, ↓k_bd, k_bd, k_bdx, k_bdd, s_nox, k_bdF, k_bdFr, k_bdFx, s_finr, s_finn, s_find, k_bdFd, ↓reduceIte, s_asB, s_ul1, s_ul2, s_ul3, s_sub, s_add, s_neg, s_eq, s_len, s_itl, s_itt, s_opt, List.length_cons, List.length_nil, decide_true, decide_false, Bool.not_true, Bool.not_false, if_true, if_false, Bool.false_eq_true, Nat.reduceAdd, z0L, z1L, z2L, z3L, z4L, z5L, z6L, z7L, z8L, z9L, z10L, z11L, z12L, z0l, z1l, z2l, z3l, z4l, l_asI, l_finx, l_finIx, l_finI, l_un2, l_un3, l_un4, l_ne, l_nes, l_neb, l_gt, l_ix0, l_ix1, l_ix2, l_ix3, l_it0, l_it1, l_it2, l_it3, F_draw_eq, List.cons_append, List.nil_append, k_bdbd, k_bdFbd, k_finbd]
  exact bx_ok hd
theorem q_ixO (ds : List D) (d : D) : ixO "Row" (ul2 F_Row___getitem__) (rowD ds) d = F_Row___getitem__ (rowD ds) d := rfl
theorem q_store {ds : List D} {d v : D} {c : Str} {fs : Fs} (h : F_Row___setitem__ (rowD ds) d v = .ex c fs) : F__law_store (rowD ds) d v = .ex c fs := by
  rw [lz__law_store]
  unfold L__law_store
  have e : setOD "Row" (ul3 F_Row___setitem__) [v, rowD ds, d] = .ex c fs := by
    unfold setOD
    simp only [isO_row, s_ul3, h]
    rfl
  simp -implicitDefEqProofs -dsimp only [implies_true, isS_str, s_bdx, s_bd, ↓k_bd, k_bd, k_bdx, k_bdd, s_nox, k_bdF, k_bdFr, k_bdFx, s_finr, s_finn, s_find, k_bdFd, ↓reduceIte, s_asB, s_ul1, s_ul2, s_ul3, s_sub, s_add, s_neg, s_eq, s_len, s_itl, s_itt, s_opt, List.length_cons, List.length_nil, decide_true, decide_false, Bool.not_true, Bool.not_false, if_true, if_false, Bool.false_eq_true, Nat.reduceAdd, z0L, z1L, z2L, z3L, z4L, z5L, z6L, z7L, z8L, z9L, z10L, z11L, z12L, z0l, z1l, z2l, z3l, z4l, l_asI, l_finx, l_finIx, l_finI, l_un2, l_un3, l_un4, l_ne, l_nes, l_neb, l_gt, l_ix0, l_ix1, l_ix2, l_ix3, l_it0, l_it1, l_it2, l_it3, F_draw_eq, List.cons_append, List.nil_append, k_bdbd, k_bdFbd, k_finbd, e]
theorem b_index {ds : List D} {n : Nat} (hn : n ∈ ns17) (hl : ds.length = n) : Bx (fun d => d = .bl true) (F__law_indexes_right .pen (rowD ds) (.int n)) 3 := by
  rw [lz__law_indexes_right]
  unfold L__law_indexes_right
  have n1 : negD (.int 1) = .ok (.int (-1)) := rfl
  have s1 : subD (.int n) (.int 1) = .ok (.int (n - 1)) := rfl
  simp -implicitDefEqProofs -dsimp only [implies_true, isS_str, s_bdx, s_bd, ↓k_bd, k_bd, k_bdx, k_bdd, s_nox, k_bdF, k_bdFr, k_bdFx, s_finr, s_finn, s_find, k_bdFd, ↓reduceIte, s_asB, s_ul1, s_ul2, s_ul3, s_sub, s_add, s_neg, s_eq, s_len, s_itl, s_itt, s_opt, List.length_cons, List.length_nil, decide_true, decide_false, Bool.not_true, Bool.not_false, if_true, if_false, Bool.false_eq_true, Nat.reduceAdd, z0L, z1L, z2L, z3L, z4L, z5L, z6L, z7L, z8L, z9L, z10L, z11L, z12L, z0l, z1l, z2l, z3l, z4l, l_asI, l_finx, l_finIx, l_finI, l_un2, l_un3, l_un4, l_ne, l_nes, l_neb, l_gt, l_ix0, l_ix1, l_ix2, l_ix3, l_it0, l_it1, l_it2, l_it3, F_draw_eq, List.cons_append, List.nil_append, k_bdbd, k_bdFbd, k_finbd]
  refine bk_then (a := 1) (b := 2) b_oddx (fun o ho => ?_) (by decide)
  have R := ref_all hn hl o (odd_in o ho)
  simp -implicitDefEqProofs -dsimp only [implies_true, isS_str, s_bdx, s_bd, ↓k_bd, k_bd, k_bdx, k_bdd, s_nox, k_bdF, k_bdFr, k_bdFx, s_finr, s_finn, s_find, k_bdFd, ↓reduceIte, s_asB, s_ul1, s_ul2, s_ul3, s_sub, s_add, s_neg, s_eq, s_len, s_itl, s_itt, s_opt, List.length_cons, List.length_nil, decide_true, decide_false, Bool.not_true, Bool.not_false, if_true, if_false, Bool.false_eq_true, Nat.reduceAdd, z0L, z1L, z2L, z3L, z4L, z5L, z6L, z7L, z8L, z9L, z10L, z11L, z12L, z0l, z1l, z2l, z3l, z4l, l_asI, l_finx, l_finIx, l_finI, l_un2, l_un3, l_un4, l_ne, l_nes, l_neb, l_gt, l_ix0, l_ix1, l_ix2, l_ix3, l_it0, l_it1, l_it2, l_it3, F_draw_eq, List.cons_append, List.nil_append, k_bdbd, k_bdFbd, k_finbd]
  refine bk_then (a := 1) (b := 1) (bx_of (b_pick (P := fun _ => True) (by show 0 < 5; decide) (by show 5 ≤ _; decide) fun _ _ => trivial)) (fun v _ => ?_) (by decide)
  simp -implicitDefEqProofs -dsimp only [implies_true, isS_str, s_bdx, s_bd, ↓k_bd, k_bd, k_bdx, k_bdd, s_nox, k_bdF, k_bdFr, k_bdFx, s_finr, s_finn, s_find, k_bdFd, ↓reduceIte, s_asB, s_ul1, s_ul2, s_ul3, s_sub, s_add, s_neg, s_eq, s_len, s_itl, s_itt, s_opt, List.length_cons, List.length_nil, decide_true, decide_false, Bool.not_true, Bool.not_false, if_true, if_false, Bool.false_eq_true, Nat.reduceAdd, z0L, z1L, z2L, z3L, z4L, z5L, z6L, z7L, z8L, z9L, z10L, z11L, z12L, z0l, z1l, z2l, z3l, z4l, l_asI, l_finx, l_finIx, l_finI, l_un2, l_un3, l_un4, l_ne, l_nes, l_neb, l_gt, l_ix0, l_ix1, l_ix2, l_ix3, l_it0, l_it1, l_it2, l_it3, F_draw_eq, List.cons_append, List.nil_append, k_bdbd, k_bdFbd, k_finbd, q_ixO, R.get, h_place, is_place R.fx, q_store (R.set v), n1, s1]
  refine bk_then (a := 1) (b := 0) (bx_of (b_pick (ds := oddX n) (P := fun d => d ∈ oddX n) (by show 0 < 8; decide) (by show 8 ≤ _; decide) fun d hd => hd)) (fun x hx => ?_) (by decide)
  have xc := (xc_eq hl x).trans (xc_all n hn x hx)
  simp -implicitDefEqProofs -dsimp only [implies_true, isS_str, s_bdx, s_bd, ↓k_bd, k_bd, k_bdx, k_bdd, s_nox, k_bdF, k_bdFr, k_bdFx, s_finr, s_finn, s_find, k_bdFd, ↓reduceIte, s_asB, s_ul1, s_ul2, s_ul3, s_sub, s_add, s_neg, s_eq, s_len, s_itl, s_itt, s_opt, List.length_cons, List.length_nil, decide_true, decide_false, Bool.not_true, Bool.not_false, if_true, if_false, Bool.false_eq_true, Nat.reduceAdd, z0L, z1L, z2L, z3L, z4L, z5L, z6L, z7L, z8L, z9L, z10L, z11L, z12L, z0l, z1l, z2l, z3l, z4l, l_asI, l_finx, l_finIx, l_finI, l_un2, l_un3, l_un4, l_ne, l_nes, l_neb, l_gt, l_ix0, l_ix1, l_ix2, l_ix3, l_it0, l_it1, l_it2, l_it3, F_draw_eq, List.cons_append, List.nil_append, k_bdbd, k_bdFbd, k_finbd, isO_row, lk3, xc, h_place, is_place (fx_X hn x hx)]
  exact bx_ok rfl
end Lw
end
section
set_option maxHeartbeats 1000000
namespace Lw
open PySem Gp Gh PyProof.Rows L2
theorem q_integer (n : Int) : F_is_integer (.int n) = .ok (.bl true) := by
  have e1 : isi_int (.int n) = some true := rfl
  have e2 : isi_bool (.int n) = some false := rfl
  rw [lz_is_integer]
  unfold L_is_integer
  simp -implicitDefEqProofs -dsimp only [implies_true, isS_str, s_bdx, s_bd, ↓k_bd, k_bd, k_bdx, k_bdd, s_nox, k_bdF, k_bdFr, k_bdFx, s_finr, s_finn, s_find, k_bdFd, ↓reduceIte, s_asB, s_ul1, s_ul2, s_ul3, s_sub, s_add, s_neg, s_eq, s_len, s_itl, s_itt, s_opt, List.length_cons, List.length_nil, decide_true, decide_false, Bool.not_true, Bool.not_false, if_true, if_false, Bool.false_eq_true, Nat.reduceAdd, z0L, z1L, z2L, z3L, z4L, z5L, z6L, z7L, z8L, z9L, z10L, z11L, z12L, z0l, z1l, z2l, z3l, z4l, l_asI, l_finx, l_finIx, l_finI, l_un2, l_un3, l_un4, l_ne, l_nes, l_neb, l_gt, l_ix0, l_ix1, l_ix2, l_ix3, l_it0, l_it1, l_it2, l_it3, F_draw_eq, List.cons_append, List.nil_append, k_bdbd, k_bdFbd, k_finbd, e1, e2]
theorem le_t {a b : Int} (h : a ≤ b) : leD (.int a) (.int b) = .ok (.bl true) := by
  show Tr.ok (D.bl (decide _)) = _
  rw [decide_eq_true h]
theorem q_within {p a b : Int} (h0 : a ≤ p) (h1 : p ≤ b) : F_is_within (.int p) (.int a) (.int b) = .ok (.bl true) := by
  rw [lz_is_within]
  unfold L_is_within
  simp -implicitDefEqProofs -dsimp only [implies_true, isS_str, s_bdx, s_bd, ↓k_bd, k_bd, k_bdx, k_bdd, s_nox, k_bdF, k_bdFr, k_bdFx, s_finr, s_finn, s_find, k_bdFd, ↓reduceIte, s_asB, s_ul1, s_ul2, s_ul3, s_sub, s_add, s_neg, s_eq, s_len, s_itl, s_itt, s_opt, List.length_cons, List.length_nil, decide_true, decide_false, Bool.not_true, Bool.not_false, if_true, if_false, Bool.false_eq_true, Nat.reduceAdd, z0L, z1L, z2L, z3L, z4L, z5L, z6L, z7L, z8L, z9L, z10L, z11L, z12L, z0l, z1l, z2l, z3l, z4l, l_asI, l_finx, l_finIx, l_finI, l_un2, l_un3, l_un4, l_ne, l_nes, l_neb, l_gt, l_ix0, l_ix1, l_ix2, l_ix3, l_it0, l_it1, l_it2, l_it3, F_draw_eq, List.cons_append, List.nil_append, k_bdbd, k_bdFbd, k_finbd, q_integer, le_t h0, le_t h1]
theorem pl_ok {ds : List D} {p : Int} (h0 : 0 ≤ p) (h1 : p < ds.length) : F_Row_need_place (rowD ds) (.int p) = .ok .non := by
  have s1 : subD (.int ds.length) (.int 1) = .ok (.int (ds.length - 1)) := rfl
  rw [lz_Row_need_place]
  unfold L_Row_need_place
  simp -implicitDefEqProofs -dsimp only [implies_true, isS_str, s_bdx, s_bd, ↓k_bd, k_bd, k_bdx, k_bdd, s_nox, k_bdF, k_bdFr, k_bdFx, s_finr, s_finn, s_find, k_bdFd, ↓reduceIte, s_asB, s_ul1, s_ul2, s_ul3, s_sub, s_add, s_neg, s_eq, s_len, s_itl, s_itt, s_opt, List.length_cons, List.length_nil, decide_true, decide_false, Bool.not_true, Bool.not_false, if_true, if_false, Bool.false_eq_true, Nat.reduceAdd, z0L, z1L, z2L, z3L, z4L, z5L, z6L, z7L, z8L, z9L, z10L, z11L, z12L, z0l, z1l, z2l, z3l, z4l, l_asI, l_finx, l_finIx, l_finI, l_un2, l_un3, l_un4, l_ne, l_nes, l_neb, l_gt, l_ix0, l_ix1, l_ix2, l_ix3, l_it0, l_it1, l_it2, l_it3, F_draw_eq, List.cons_append, List.nil_append, k_bdbd, k_bdFbd, k_finbd, f_own, l_own, s1, q_within h0 (show p ≤ (ds.length : Int) - 1 by omega)]
theorem st_ok {ds : List D} {a e : Int} (h0 : 0 ≤ a) (h1 : a ≤ e) (h2 : e ≤ ds.length) : F_Row_need_stretch (rowD ds) (.tup [.int a, .int e]) = .ok .non := by
  rw [lz_Row_need_stretch]
  unfold L_Row_need_stretch
  have l2 : lenD (.tup [.int a, .int e]) = .ok (.int 2) := rfl
  have n2 : neD (.int 2) (.int 2) = .ok (.bl false) := by kernel_rfl
  simp -implicitDefEqProofs -dsimp only [implies_true, isS_str, s_bdx, s_bd, ↓k_bd, k_bd, k_bdx, k_bdd, s_nox, k_bdF, k_bdFr, k_bdFx, s_finr, s_finn, s_find, k_bdFd, ↓reduceIte, s_asB, s_ul1, s_ul2, s_ul3, s_sub, s_add, s_neg, s_eq, s_len, s_itl, s_itt, s_opt, List.length_cons, List.length_nil, decide_true, decide_false, Bool.not_true, Bool.not_false, if_true, if_false, Bool.false_eq_true, Nat.reduceAdd, z0L, z1L, z2L, z3L, z4L, z5L, z6L, z7L, z8L, z9L, z10L, z11L, z12L, z0l, z1l, z2l, z3l, z4l, l_asI, l_finx, l_finIx, l_finI, l_un2, l_un3, l_un4, l_ne, l_nes, l_neb, l_gt, l_ix0, l_ix1, l_ix2, l_ix3, l_it0, l_it1, l_it2, l_it3, F_draw_eq, List.cons_append, List.nil_append, k_bdbd, k_bdFbd, k_finbd, f_own, l_own, l2, n2, q_integer, le_t h0, le_t h1, le_t h2]
theorem set_p {ds : List D} {p : Int} {o : D} (h0 : 0 ≤ p) (h1 : p < ds.length) (ho : It o false) : F_Row___setitem__ (rowD ds) (.int p) o = .ex "BadRow" [("at", .int 0)] := by
  rw [lz_Row___setitem__]
  unfold L_Row___setitem__
  have i1 : isi_tuple (.int p) = some false := rfl
  simp -implicitDefEqProofs -dsimp only [implies_true, isS_str, s_bdx, s_bd, ↓k_bd, k_bd, k_bdx, k_bdd, s_nox, k_bdF, k_bdFr, k_bdFx, s_finr, s_finn, s_find, k_bdFd, ↓reduceIte, s_asB, s_ul1, s_ul2, s_ul3, s_sub, s_add, s_neg, s_eq, s_len, s_itl, s_itt, s_opt, List.length_cons, List.length_nil, decide_true, decide_false, Bool.not_true, Bool.not_false, if_true, if_false, Bool.false_eq_true, Nat.reduceAdd, z0L, z1L, z2L, z3L, z4L, z5L, z6L, z7L, z8L, z9L, z10L, z11L, z12L, z0l, z1l, z2l, z3l, z4l, l_asI, l_finx, l_finIx, l_finI, l_un2, l_un3, l_un4, l_ne, l_nes, l_neb, l_gt, l_ix0, l_ix1, l_ix2, l_ix3, l_it0, l_it1, l_it2, l_it3, F_draw_eq, List.cons_append, List.nil_append, k_bdbd, k_bdFbd, k_finbd, i1, isO_row, lk2, pl_ok h0 h1, show F_is_item o = .ok (.bl false) from ho]
theorem set_s {ds : List D} {a e k : Int} {w x : D} (h0 : 0 ≤ a) (h1 : a ≤ e) (h2 : e ≤ ds.length) (hk : e - a = k) (h : F_need_items w (.int k) = .ex "BadRow" [("at", x)]) : F_Row___setitem__ (rowD ds) (.tup [.int a, .int e]) w = .ex "BadRow" [("at", x)] := by
  rw [lz_Row___setitem__]
  unfold L_Row___setitem__
  have i1 : isi_tuple (.tup [.int a, .int e]) = some true := rfl
  have s1 : subD (.int e) (.int a) = .ok (.int k) := by
    show Tr.ok (D.int (e - a)) = _
    rw [hk]
  simp -implicitDefEqProofs -dsimp only [implies_true, isS_str, s_bdx, s_bd, ↓k_bd, k_bd, k_bdx, k_bdd, s_nox, k_bdF, k_bdFr, k_bdFx, s_finr, s_finn, s_find, k_bdFd, ↓reduceIte, s_asB, s_ul1, s_ul2, s_ul3, s_sub, s_add, s_neg, s_eq, s_len, s_itl, s_itt, s_opt, List.length_cons, List.length_nil, decide_true, decide_false, Bool.not_true, Bool.not_false, if_true, if_false, Bool.false_eq_true, Nat.reduceAdd, z0L, z1L, z2L, z3L, z4L, z5L, z6L, z7L, z8L, z9L, z10L, z11L, z12L, z0l, z1l, z2l, z3l, z4l, l_asI, l_finx, l_finIx, l_finI, l_un2, l_un3, l_un4, l_ne, l_nes, l_neb, l_gt, l_ix0, l_ix1, l_ix2, l_ix3, l_it0, l_it1, l_it2, l_it3, F_draw_eq, List.cons_append, List.nil_append, k_bdbd, k_bdFbd, k_finbd, i1, isO_row, lk1, st_ok h0 h1 h2, s1, h]
def rp (k : Int) (d : D) : List D := (List.replicate k.toNat [d]).flatten
theorem l_rp (k : Int) (d : D) : (rp k d).length = k.toNat := len_flat _ _
theorem m_rp {k : Int} {d x : D} (h : x ∈ rp k d) : x = d := by
  unfold rp at h
  rw [List.mem_flatten] at h
  obtain ⟨l, h1, h2⟩ := h
  rw [(List.mem_replicate.mp h1).2] at h2
  exact List.mem_singleton.mp h2
theorem q_rep {k : Int} {d : D} (h0 : 0 ≤ k) (h1 : k ≤ 100) : mulD (.lst [d]) (.int k) = .ok (.lst (rp k d)) := by
  show (if -(2 ^ 63) ≤ k ∧ k < 2 ^ 63 ∧ [d].length * k.toNat ≤ sizeLine then Tr.ok (D.lst (List.replicate k.toNat [d]).flatten) else .bad) = _
  rw [if_pos ⟨by omega, by omega, Nat.le_trans (show _ ≤ 100 by rw [List.length_singleton]; omega) (by decide)⟩]
  rfl
theorem q_repT {k : Int} {d : D} (h0 : 1 ≤ k) (h1 : k ≤ 100) : mulU (.tup [d]) (.int k) = .ok (.tup (rp k d)) := by
  unfold mulU
  dsimp only
  by_cases q : k = 1
  · subst q
    rw [if_pos ⟨by simp, rfl⟩]
    rfl
  · rw [if_neg (fun z => q z.2), if_pos ⟨by simp, by omega, by omega, by simp⟩]
    rfl
def dks (k : Nat) : List (Key × D) := (List.range k).map fun i => (.inl (i : Nat), .int 1)
theorem q_dict {k : Int} (h0 : 1 ≤ k) (h1 : k ≤ 7) : dictP (.lst ((rgD 0 k.toNat).map fun d => .tup [d, .int 1])) = .ok (.dic (dks k.toNat)) := by
  rcases (show k = 1 ∨ k = 2 ∨ k = 3 ∨ k = 4 ∨ k = 5 ∨ k = 6 ∨ k = 7 by omega) with rfl | rfl | rfl | rfl | rfl | rfl | rfl <;> kernel_rfl
def NM (k : Int) (d : D) : Prop := F_need_items d (.int k) = .ex "BadRow" [("at", .non)]
def vs1 (k : Int) : List D := [.non, .int 5, .str "", .dct, .lst (rp (k + 1) (.int 1)), .tup (rp (k + 1) (.int 2)), .lst (rp (k + 2) .non)]
def vs2 (k : Int) : List D := vs1 k ++ [.lst [], .tup [], .lst (rp (k - 1) .non), rowD (rp k (.int 1)), .dic (dks k.toNat)]
theorem nm_1 {k : Int} (h0 : 0 ≤ k) : ∀ d ∈ vs1 k, NM k d := by
  intro d hd
  simp only [vs1, List.mem_cons, List.mem_nil_iff, or_false] at hd
  rcases hd with rfl | rfl | rfl | rfl | rfl | rfl | rfl
  · exact n_kind rfl
  · exact n_kind rfl
  · exact n_kind rfl
  · exact n_kind rfl
  · exact n_many (t := false) (by rw [l_rp]; omega)
  · exact n_many (t := true) (by rw [l_rp]; omega)
  · exact n_many (t := false) (by rw [l_rp]; omega)
theorem nm_2 {k : Int} (h0 : 1 ≤ k) : ∀ d ∈ vs2 k, NM k d := by
  intro d hd
  rcases List.mem_append.mp hd with hd | hd
  · exact nm_1 (by omega) d hd
  simp only [List.mem_cons, List.mem_nil_iff, or_false] at hd
  rcases hd with rfl | rfl | rfl | rfl | rfl
  · exact n_many (t := false) (by simp; omega)
  · exact n_many (t := true) (by simp; omega)
  · exact n_many (t := false) (by rw [l_rp]; omega)
  · exact n_kind rfl
  · exact n_kind rfl
theorem b_puts {ds : List D} {n : Nat} (hn : n ∈ ns17) (hl : ds.length = n) : Bx (fun d => d = .bl true) (F__law_puts_right .pen (rowD ds) (.int n)) 11 := by
  have ln : 1 ≤ n ∧ n ≤ 7 := by
    simp only [ns17, List.mem_cons, List.mem_nil_iff, or_false] at hn
    omega
  rw [lz__law_puts_right]
  unfold L__law_puts_right
  simp -implicitDefEqProofs -dsimp only [implies_true, isS_str, s_bdx, s_bd, ↓k_bd, k_bd, k_bdx, k_bdd, s_nox, k_bdF, k_bdFr, k_bdFx, s_finr, s_finn, s_find, k_bdFd, ↓reduceIte, s_asB, s_ul1, s_ul2, s_ul3, s_sub, s_add, s_neg, s_eq, s_len, s_itl, s_itt, s_opt, List.length_cons, List.length_nil, decide_true, decide_false, Bool.not_true, Bool.not_false, if_true, if_false, Bool.false_eq_true, Nat.reduceAdd, z0L, z1L, z2L, z3L, z4L, z5L, z6L, z7L, z8L, z9L, z10L, z11L, z12L, z0l, z1l, z2l, z3l, z4l, l_asI, l_finx, l_finIx, l_finI, l_un2, l_un3, l_un4, l_ne, l_nes, l_neb, l_gt, l_ix0, l_ix1, l_ix2, l_ix3, l_it0, l_it1, l_it2, l_it3, F_draw_eq, List.cons_append, List.nil_append, k_bdbd, k_bdFbd, k_finbd]
  refine bx_draw (n := 10) (by omega) (by omega) fun p p0 p1 => ?_
  refine bk_then (a := 1) (b := 9) b_oddI (fun o ho => ?_) (by decide)
  have hp : p < ds.length := by omega
  have a1 : addD (.int n) (.int 1) = .ok (.int (n + 1)) := rfl
  simp -implicitDefEqProofs -dsimp only [implies_true, isS_str, s_bdx, s_bd, ↓k_bd, k_bd, k_bdx, k_bdd, s_nox, k_bdF, k_bdFr, k_bdFx, s_finr, s_finn, s_find, k_bdFd, ↓reduceIte, s_asB, s_ul1, s_ul2, s_ul3, s_sub, s_add, s_neg, s_eq, s_len, s_itl, s_itt, s_opt, List.length_cons, List.length_nil, decide_true, decide_false, Bool.not_true, Bool.not_false, if_true, if_false, Bool.false_eq_true, Nat.reduceAdd, z0L, z1L, z2L, z3L, z4L, z5L, z6L, z7L, z8L, z9L, z10L, z11L, z12L, z0l, z1l, z2l, z3l, z4l, l_asI, l_finx, l_finIx, l_finI, l_un2, l_un3, l_un4, l_ne, l_nes, l_neb, l_gt, l_ix0, l_ix1, l_ix2, l_ix3, l_it0, l_it1, l_it2, l_it3, F_draw_eq, List.cons_append, List.nil_append, k_bdbd, k_bdFbd, k_finbd, q_store (set_p p0 hp (it_odd o ho)), h_row, is_row (fx_int (x := 0) (by decide) (by decide)), a1]
  refine bx_draw (n := 8) (by omega) (by omega) fun a a0 a1 => ?_
  have s1 : subD (.int (n + 1)) (.int a) = .ok (.int (n + 1 - a)) := rfl
  refine bx_draw (n := 7) (by omega) (by omega) fun k k0 k1 => ?_
  have e1 : addD (.int a) (.int k) = .ok (.int (a + k)) := rfl
  have e2 : subD (.int (a + k)) (.int a) = .ok (.int k) := by
    show Tr.ok (D.int (a + k - a)) = _
    rw [show a + k - a = k by omega]
  have e3 : addD (.int k) (.int 1) = .ok (.int (k + 1)) := rfl
  have e4 : addD (.int k) (.int 2) = .ok (.int (k + 2)) := rfl
  have e5 : subD (.int k) (.int 1) = .ok (.int (k - 1)) := rfl
  have g0 : gtD (.int k) (.int 0) = .ok (.bl (decide (k > 0))) := rfl
  have q0 : eqD (.int k) (.int 0) = .ok (.bl (decide (k = 0))) := rfl
  have hk7 : k ≤ 7 := by omega
  have ek : a + k - a = k := by omega
  have m1 := q_rep (k := k + 1) (d := .int 1) (by omega) (by omega)
  have m2 := q_repT (k := k + 1) (d := .int 2) (by omega) (by omega)
  have m3 := q_rep (k := k + 2) (d := .non) (by omega) (by omega)
  have sw : ∀ w x, F_need_items w (.int k) = .ex "BadRow" [("at", x)] → F__law_store (rowD ds) (.tup [.int a, .int (a + k)]) w = .ex "BadRow" [("at", x)] := fun w x h => q_store (set_s a0 (by omega) (by omega) (by omega) h)
  by_cases hk : k = 0
  · have d0 : decide (k > 0) = false := decide_eq_false (by omega)
    have d1 : decide (k = 0) = true := decide_eq_true hk
    simp -implicitDefEqProofs -dsimp only [implies_true, isS_str, s_bdx, s_bd, ↓k_bd, k_bd, k_bdx, k_bdd, s_nox, k_bdF, k_bdFr, k_bdFx, s_finr, s_finn, s_find, k_bdFd, ↓reduceIte, s_asB, s_ul1, s_ul2, s_ul3, s_sub, s_add, s_neg, s_eq, s_len, s_itl, s_itt, s_opt, List.length_cons, List.length_nil, decide_true, decide_false, Bool.not_true, Bool.not_false, if_true, if_false, Bool.false_eq_true, Nat.reduceAdd, z0L, z1L, z2L, z3L, z4L, z5L, z6L, z7L, z8L, z9L, z10L, z11L, z12L, z0l, z1l, z2l, z3l, z4l, l_asI, l_finx, l_finIx, l_finI, l_un2, l_un3, l_un4, l_ne, l_nes, l_neb, l_gt, l_ix0, l_ix1, l_ix2, l_ix3, l_it0, l_it1, l_it2, l_it3, F_draw_eq, List.cons_append, List.nil_append, k_bdbd, k_bdFbd, k_finbd, ek, e1, e2, e3, e4, m1, m2, m3, g0, d0]
    refine bk_then (a := 1) (b := 0) (bx_of (b_pick (ds := vs1 k) (P := NM k) (by show 0 < 7; decide) (by show 7 ≤ _; decide) (nm_1 k0))) (fun w hw => ?_) (by decide)
    simp -implicitDefEqProofs -dsimp only [implies_true, isS_str, s_bdx, s_bd, ↓k_bd, k_bd, k_bdx, k_bdd, s_nox, k_bdF, k_bdFr, k_bdFx, s_finr, s_finn, s_find, k_bdFd, ↓reduceIte, s_asB, s_ul1, s_ul2, s_ul3, s_sub, s_add, s_neg, s_eq, s_len, s_itl, s_itt, s_opt, List.length_cons, List.length_nil, decide_true, decide_false, Bool.not_true, Bool.not_false, if_true, if_false, Bool.false_eq_true, Nat.reduceAdd, z0L, z1L, z2L, z3L, z4L, z5L, z6L, z7L, z8L, z9L, z10L, z11L, z12L, z0l, z1l, z2l, z3l, z4l, l_asI, l_finx, l_finIx, l_finI, l_un2, l_un3, l_un4, l_ne, l_nes, l_neb, l_gt, l_ix0, l_ix1, l_ix2, l_ix3, l_it0, l_it1, l_it2, l_it3, F_draw_eq, List.cons_append, List.nil_append, k_bdbd, k_bdFbd, k_finbd, ek, sw w _ hw, h_row, is_row fx_non, q0, d1]
    exact bx_ok rfl
  · have d0 : decide (k > 0) = true := decide_eq_true (by omega)
    have d1 : decide (k = 0) = false := decide_eq_false hk
    have m4 := q_rep (k := k - 1) (d := .non) (by omega) (by omega)
    have m5 := q_rep (k := k) (d := .int 1) (by omega) (by omega)
    have m6 := q_rep (k := k) (d := .int 4) (by omega) (by omega)
    have kt : ((k.toNat : Nat) : Int) = k := Int.toNat_of_nonneg k0
    have ro := r_ok (t := false) (ds := rp k (.int 1)) (by rw [l_rp]; omega) (by rw [l_rp]; omega) (fun d hd => by rw [m_rp hd]; exact it_int (by decide))
    unfold sq at ro
    dsimp only at ro
    have ro2 : D.obj "Row" (rfs (rp k (.int 1))) = rowD (rp k (.int 1)) := rfl
    have rg : rg1 (.int k) = .ok (rgD 0 k.toNat) := by
      rcases (show k = 1 ∨ k = 2 ∨ k = 3 ∨ k = 4 ∨ k = 5 ∨ k = 6 ∨ k = 7 by omega) with rfl | rfl | rfl | rfl | rfl | rfl | rfl <;> rfl
    simp -implicitDefEqProofs -dsimp only [implies_true, isS_str, s_bdx, s_bd, ↓k_bd, k_bd, k_bdx, k_bdd, s_nox, k_bdF, k_bdFr, k_bdFx, s_finr, s_finn, s_find, k_bdFd, ↓reduceIte, s_asB, s_ul1, s_ul2, s_ul3, s_sub, s_add, s_neg, s_eq, s_len, s_itl, s_itt, s_opt, List.length_cons, List.length_nil, decide_true, decide_false, Bool.not_true, Bool.not_false, if_true, if_false, Bool.false_eq_true, Nat.reduceAdd, z0L, z1L, z2L, z3L, z4L, z5L, z6L, z7L, z8L, z9L, z10L, z11L, z12L, z0l, z1l, z2l, z3l, z4l, l_asI, l_finx, l_finIx, l_finI, l_un2, l_un3, l_un4, l_ne, l_nes, l_neb, l_gt, l_ix0, l_ix1, l_ix2, l_ix3, l_it0, l_it1, l_it2, l_it3, F_draw_eq, List.cons_append, List.nil_append, k_bdbd, k_bdFbd, k_finbd, ek, e1, e2, e3, e4, e5, m1, m2, m3, g0, d0, m4, m5, ro, ro2, rg]
    rw [lcF_map (g := fun d => .tup [d, .int 1])]
    rotate_left
    · intro d hd
      simp -implicitDefEqProofs -dsimp only [implies_true, isS_str, s_bdx, s_bd, ↓k_bd, k_bd, k_bdx, k_bdd, s_nox, k_bdF, k_bdFr, k_bdFx, s_finr, s_finn, s_find, k_bdFd, ↓reduceIte, s_asB, s_ul1, s_ul2, s_ul3, s_sub, s_add, s_neg, s_eq, s_len, s_itl, s_itt, s_opt, List.length_cons, List.length_nil, decide_true, decide_false, Bool.not_true, Bool.not_false, if_true, if_false, Bool.false_eq_true, Nat.reduceAdd, z0L, z1L, z2L, z3L, z4L, z5L, z6L, z7L, z8L, z9L, z10L, z11L, z12L, z0l, z1l, z2l, z3l, z4l, l_asI, l_finx, l_finIx, l_finI, l_un2, l_un3, l_un4, l_ne, l_nes, l_neb, l_gt, l_ix0, l_ix1, l_ix2, l_ix3, l_it0, l_it1, l_it2, l_it3, F_draw_eq, List.cons_append, List.nil_append, k_bdbd, k_bdFbd, k_finbd, ek]
    have ad : ∀ l m : List D, l.length = 7 → m.length = 5 → addD (.lst l) (.lst m) = .ok (.lst (l ++ m)) := fun l m h1 h2 => s_addl' (by rw [h1, h2]; decide)
    simp -implicitDefEqProofs -dsimp only [implies_true, isS_str, s_bdx, s_bd, ↓k_bd, k_bd, k_bdx, k_bdd, s_nox, k_bdF, k_bdFr, k_bdFx, s_finr, s_finn, s_find, k_bdFd, ↓reduceIte, s_asB, s_ul1, s_ul2, s_ul3, s_sub, s_add, s_neg, s_eq, s_len, s_itl, s_itt, s_opt, List.length_cons, List.length_nil, decide_true, decide_false, Bool.not_true, Bool.not_false, if_true, if_false, Bool.false_eq_true, Nat.reduceAdd, z0L, z1L, z2L, z3L, z4L, z5L, z6L, z7L, z8L, z9L, z10L, z11L, z12L, z0l, z1l, z2l, z3l, z4l, l_asI, l_finx, l_finIx, l_finI, l_un2, l_un3, l_un4, l_ne, l_nes, l_neb, l_gt, l_ix0, l_ix1, l_ix2, l_ix3, l_it0, l_it1, l_it2, l_it3, F_draw_eq, List.cons_append, List.nil_append, k_bdbd, k_bdFbd, k_finbd, ek, q_dict (show 1 ≤ k by omega) hk7]
    rw [ad _ _ rfl rfl]
    simp -implicitDefEqProofs -dsimp only [implies_true, isS_str, s_bdx, s_bd, ↓k_bd, k_bd, k_bdx, k_bdd, s_nox, k_bdF, k_bdFr, k_bdFx, s_finr, s_finn, s_find, k_bdFd, ↓reduceIte, s_asB, s_ul1, s_ul2, s_ul3, s_sub, s_add, s_neg, s_eq, s_len, s_itl, s_itt, s_opt, List.length_cons, List.length_nil, decide_true, decide_false, Bool.not_true, Bool.not_false, if_true, if_false, Bool.false_eq_true, Nat.reduceAdd, z0L, z1L, z2L, z3L, z4L, z5L, z6L, z7L, z8L, z9L, z10L, z11L, z12L, z0l, z1l, z2l, z3l, z4l, l_asI, l_finx, l_finIx, l_finI, l_un2, l_un3, l_un4, l_ne, l_nes, l_neb, l_gt, l_ix0, l_ix1, l_ix2, l_ix3, l_it0, l_it1, l_it2, l_it3, F_draw_eq, List.cons_append, List.nil_append, k_bdbd, k_bdFbd, k_finbd, ek]
    refine bk_then (a := 1) (b := 6) (bx_of (b_pick (ds := vs2 k) (P := NM k) (by show 0 < 12; decide) (by show 12 ≤ _; decide) (nm_2 (by omega)))) (fun w hw => ?_) (by decide)
    simp -implicitDefEqProofs -dsimp only [implies_true, isS_str, s_bdx, s_bd, ↓k_bd, k_bd, k_bdx, k_bdd, s_nox, k_bdF, k_bdFr, k_bdFx, s_finr, s_finn, s_find, k_bdFd, ↓reduceIte, s_asB, s_ul1, s_ul2, s_ul3, s_sub, s_add, s_neg, s_eq, s_len, s_itl, s_itt, s_opt, List.length_cons, List.length_nil, decide_true, decide_false, Bool.not_true, Bool.not_false, if_true, if_false, Bool.false_eq_true, Nat.reduceAdd, z0L, z1L, z2L, z3L, z4L, z5L, z6L, z7L, z8L, z9L, z10L, z11L, z12L, z0l, z1l, z2l, z3l, z4l, l_asI, l_finx, l_finIx, l_finI, l_un2, l_un3, l_un4, l_ne, l_nes, l_neb, l_gt, l_ix0, l_ix1, l_ix2, l_ix3, l_it0, l_it1, l_it2, l_it3, F_draw_eq, List.cons_append, List.nil_append, k_bdbd, k_bdFbd, k_finbd, ek, sw w _ hw, h_row, is_row fx_non, q0, d1, m6]
    refine bk_then (a := 5) (b := 1) (b_bent (lot := rp k (.int 4)) (by rw [l_rp]; omega) (by rw [l_rp]; omega) (fun d hd => by rw [m_rp hd]; exact it_int (by decide))) (fun r hr => ?_) (by decide)
    obtain ⟨es, m, rfl, el, hb⟩ := hr
    rw [l_rp] at el
    have hm : Mny (.int k) es.length := .inr (by rw [el, kt])
    have lm : m ≤ 100000 := by have := hb.lt; omega
    have tp : tupD (.lst es) = .ok (.tup es) := rfl
    simp -implicitDefEqProofs -dsimp only [implies_true, isS_str, s_bdx, s_bd, ↓k_bd, k_bd, k_bdx, k_bdd, s_nox, k_bdF, k_bdFr, k_bdFx, s_finr, s_finn, s_find, k_bdFd, ↓reduceIte, s_asB, s_ul1, s_ul2, s_ul3, s_sub, s_add, s_neg, s_eq, s_len, s_itl, s_itt, s_opt, List.length_cons, List.length_nil, decide_true, decide_false, Bool.not_true, Bool.not_false, if_true, if_false, Bool.false_eq_true, Nat.reduceAdd, z0L, z1L, z2L, z3L, z4L, z5L, z6L, z7L, z8L, z9L, z10L, z11L, z12L, z0l, z1l, z2l, z3l, z4l, l_asI, l_finx, l_finIx, l_finI, l_un2, l_un3, l_un4, l_ne, l_nes, l_neb, l_gt, l_ix0, l_ix1, l_ix2, l_ix3, l_it0, l_it1, l_it2, l_it3, F_draw_eq, List.cons_append, List.nil_append, k_bdbd, k_bdFbd, k_finbd, ek, tp]
    refine bk_then (a := 1) (b := 0) (bx_of (b_pick (ds := [.lst es, .tup es]) (P := fun d => ∃ t, d = sq t es) (by show 0 < 2; decide) (by show 2 ≤ _; decide) fun d hd => ?_)) (fun x hx => ?_) (by decide)
    · simp only [List.mem_cons, List.mem_nil_iff, or_false] at hd
      rcases hd with rfl | rfl
      · exact ⟨false, rfl⟩
      · exact ⟨true, rfl⟩
    · obtain ⟨t, rfl⟩ := hx
      simp -implicitDefEqProofs -dsimp only [implies_true, isS_str, s_bdx, s_bd, ↓k_bd, k_bd, k_bdx, k_bdd, s_nox, k_bdF, k_bdFr, k_bdFx, s_finr, s_finn, s_find, k_bdFd, ↓reduceIte, s_asB, s_ul1, s_ul2, s_ul3, s_sub, s_add, s_neg, s_eq, s_len, s_itl, s_itt, s_opt, List.length_cons, List.length_nil, decide_true, decide_false, Bool.not_true, Bool.not_false, if_true, if_false, Bool.false_eq_true, Nat.reduceAdd, z0L, z1L, z2L, z3L, z4L, z5L, z6L, z7L, z8L, z9L, z10L, z11L, z12L, z0l, z1l, z2l, z3l, z4l, l_asI, l_finx, l_finIx, l_finI, l_un2, l_un3, l_un4, l_ne, l_nes, l_neb, l_gt, l_ix0, l_ix1, l_ix2, l_ix3, l_it0, l_it1, l_it2, l_it3, F_draw_eq, List.cons_append, List.nil_append, k_bdbd, k_bdFbd, k_finbd, ek, sw _ _ (n_bent (t := t) hm hb), h_row, is_row (fx_nat lm)]
      exact bx_ok rfl
end Lw
end
section
set_option maxHeartbeats 1000000
namespace Lw
open PySem Gp Gh PyProof.Rows L2
theorem shaped_intsT (ns : List Int) : SeqAt.shaped (.tuple (ns.map PyData.int)) = true := by
  simp [SeqAt.shaped, PyData.canLay0, PyData.depth, Gp.canLayAll_ints, Gp.depthAll_ints]
theorem s_eqt_ints (l m : List Int) : eqD (.tup (l.map D.int)) (.tup (m.map D.int)) = .ok (.bl (decide (l = m))) := by
  have e : ∀ l : List Int, toPy (.tup (l.map D.int)) = some (.tuple (l.map PyData.int)) := fun l => by
    unfold toPy
    rw [toPyL_ints]
    rfl
  have e2 : eqB (.tup (l.map D.int)) (.tup (m.map D.int)) = .ok (decide (l = m)) := by
    unfold eqB
    rw [show eqS (.tup (l.map D.int)) (.tup (m.map D.int)) = none from rfl]
    dsimp only
    rw [e l, e m]
    dsimp only
    rw [if_pos ⟨shaped_intsT l, shaped_intsT m⟩]
    unfold PyData.eqv
    rw [eqv_ints]
  unfold eqD
  rw [e2]
  rfl
theorem ne_same (l : List Int) : neD (.tup (l.map D.int)) (.tup (l.map D.int)) = .ok (.bl false) := by
  have z := s_eqt_ints l l
  rw [decide_eq_true rfl] at z
  exact l_neq z
theorem bx_ints {f : D → Tr (Option D)} : ∀ {ds : List D}, (∀ d ∈ ds, Bx (fun o => ∃ x : Int, o = some (.int x) ∧ 0 ≤ x ∧ x < 9) (f d) 1) → Bx (fun r => ∃ l : List Int, r = l.map D.int ∧ l.length = ds.length ∧ ∀ x ∈ l, 0 ≤ x ∧ x < 9) (lcF f ds) ds.length
  | [], _ => bx_ok ⟨[], rfl, rfl, by simp⟩
  | d :: r, h => by
    rw [lcF_cons]
    refine bx_thenX (h d List.mem_cons_self) (fun o ho => ?_) (show 1 + r.length ≤ _ by rw [List.length_cons]; omega)
    obtain ⟨w, rfl, h1⟩ := ho
    refine bx_thenX (b := 0) (bx_ints fun x hx => h x (List.mem_cons_of_mem _ hx)) (fun ws hw => ?_) (Nat.le_refl _)
    obtain ⟨l, rfl, hl, h2⟩ := hw
    refine bx_ok ⟨w :: l, rfl, by rw [List.length_cons, List.length_cons, hl], fun x hx => ?_⟩
    rcases List.mem_cons.mp hx with rfl | hx
    · exact h1
    · exact h2 x hx
theorem bx_ints' {f : D → Tr (Option D)} {ds : List D} {m : Nat} (hm : ds.length = m) (h : ∀ d ∈ ds, Bx (fun o => ∃ x : Int, o = some (.int x) ∧ 0 ≤ x ∧ x < 9) (f d) 1) : Bx (fun r => ∃ l : List Int, r = l.map D.int ∧ l.length = m ∧ ∀ x ∈ l, 0 ≤ x ∧ x < 9) (lcF f ds) m := by
  subst hm
  exact bx_ints h
theorem it_ints {l : List Int} (h : ∀ x ∈ l, 0 ≤ x ∧ x < 9) : ∀ d ∈ l.map D.int, It d true := by
  intro d hd
  obtain ⟨x, hx, rfl⟩ := List.mem_map.mp hd
  have := h x hx
  exact it_int (by omega)
theorem rg5' : rg1 (.int 5) = .ok (rgD 0 5) := rfl
theorem rg3' : rg1 (.int 3) = .ok (rgD 0 3) := rfl
def ones : List D := rp 1999 (.int 1)
theorem q_ones : mulD (.lst [.int 1]) (.int 1999) = .ok (.lst ones) := by
  show (if -(2 ^ 63) ≤ (1999 : Int) ∧ (1999 : Int) < 2 ^ 63 ∧ [D.int 1].length * (1999 : Int).toNat ≤ sizeLine then Tr.ok (D.lst (List.replicate (1999 : Int).toNat [D.int 1]).flatten) else .bad) = _
  rw [if_pos ⟨by decide, by decide, by decide⟩]
  rfl
theorem l_ones : ones.length = 1999 := l_rp _ _
theorem it_ones : ∀ d ∈ ones, It d true := fun d hd => by
  rw [m_rp hd]
  exact it_int (by decide)
theorem bent_ones : Bent (ones ++ [.bl true]) 1999 := by
  have hl : (ones ++ [D.bl true]).length = 2000 := by rw [List.length_append, l_ones]; rfl
  refine ⟨by rw [hl]; decide, fun i hi => ?_, ?_⟩
  · rw [List.getElem_append_left (by rw [l_ones]; exact hi)]
    exact it_ones _ (List.getElem_mem _)
  · rw [List.getElem_append_right (by rw [l_ones]; exact Nat.le_refl _)]
    simp only [l_ones, Nat.sub_self, List.getElem_cons_zero]
    exact it_odd _ (by simp [oddI])
theorem r_45 : F_Row___init__ [] (.lst [.int 4, .int 5]) = .ok (rfs [.int 4, .int 5]) := by kernel_rfl
theorem law_yes : Yes F_law := by
  refine Bo.yes (n := 57 * 5 + 0) (by decide) ?_
  refine Bx.bo ?_
  rw [lz_law]
  unfold L_law
  simp -implicitDefEqProofs -dsimp only [implies_true, isS_str, s_bdx, s_bd, ↓k_bd, k_bd, k_bdx, k_bdd, s_nox, k_bdF, k_bdFr, k_bdFx, s_finr, s_finn, s_find, k_bdFd, ↓reduceIte, s_asB, s_ul1, s_ul2, s_ul3, s_sub, s_add, s_neg, s_eq, s_len, s_itl, s_itt, s_opt, List.length_cons, List.length_nil, decide_true, decide_false, Bool.not_true, Bool.not_false, if_true, if_false, Bool.false_eq_true, Nat.reduceAdd, z0L, z1L, z2L, z3L, z4L, z5L, z6L, z7L, z8L, z9L, z10L, z11L, z12L, z0l, z1l, z2l, z3l, z4l, l_asI, l_finx, l_finIx, l_finI, l_un2, l_un3, l_un4, l_ne, l_nes, l_neb, l_gt, l_ix0, l_ix1, l_ix2, l_ix3, l_it0, l_it1, l_it2, l_it3, F_draw_eq, List.cons_append, List.nil_append, k_bdbd, k_bdFbd, k_finbd, rg5']
  refine bk_loopU (c := 57) (b := 0) (fun d _ => ?_) ?_ (by decide)
  · simp -implicitDefEqProofs -dsimp only [implies_true, isS_str, s_bdx, s_bd, ↓k_bd, k_bd, k_bdx, k_bdd, s_nox, k_bdF, k_bdFr, k_bdFx, s_finr, s_finn, s_find, k_bdFd, ↓reduceIte, s_asB, s_ul1, s_ul2, s_ul3, s_sub, s_add, s_neg, s_eq, s_len, s_itl, s_itt, s_opt, List.length_cons, List.length_nil, decide_true, decide_false, Bool.not_true, Bool.not_false, if_true, if_false, Bool.false_eq_true, Nat.reduceAdd, z0L, z1L, z2L, z3L, z4L, z5L, z6L, z7L, z8L, z9L, z10L, z11L, z12L, z0l, z1l, z2l, z3l, z4l, l_asI, l_finx, l_finIx, l_finI, l_un2, l_un3, l_un4, l_ne, l_nes, l_neb, l_gt, l_ix0, l_ix1, l_ix2, l_ix3, l_it0, l_it1, l_it2, l_it3, F_draw_eq, List.cons_append, List.nil_append, k_bdbd, k_bdFbd, k_finbd]
    refine bx_draw (n := 56) (by decide) (by decide) fun k k0 k1 => ?_
    have a1 : addD (.int 1) (.int k) = .ok (.int (1 + k)) := rfl
    obtain ⟨m, hm, rg⟩ : ∃ m : Nat, m ∈ ns17 ∧ rg1 (.int (1 + k)) = .ok (rgD 0 m) := by
      rcases (show k = 0 ∨ k = 1 ∨ k = 2 ∨ k = 3 ∨ k = 4 ∨ k = 5 ∨ k = 6 by omega) with rfl | rfl | rfl | rfl | rfl | rfl | rfl
      · exact ⟨1, by decide, rfl⟩
      · exact ⟨2, by decide, rfl⟩
      · exact ⟨3, by decide, rfl⟩
      · exact ⟨4, by decide, rfl⟩
      · exact ⟨5, by decide, rfl⟩
      · exact ⟨6, by decide, rfl⟩
      · exact ⟨7, by decide, rfl⟩
    have lm : 1 ≤ m ∧ m ≤ 7 := by
      have h := hm
      simp only [ns17, List.mem_cons, List.mem_nil_iff, or_false] at h
      omega
    simp -implicitDefEqProofs -dsimp only [implies_true, isS_str, s_bdx, s_bd, ↓k_bd, k_bd, k_bdx, k_bdd, s_nox, k_bdF, k_bdFr, k_bdFx, s_finr, s_finn, s_find, k_bdFd, ↓reduceIte, s_asB, s_ul1, s_ul2, s_ul3, s_sub, s_add, s_neg, s_eq, s_len, s_itl, s_itt, s_opt, List.length_cons, List.length_nil, decide_true, decide_false, Bool.not_true, Bool.not_false, if_true, if_false, Bool.false_eq_true, Nat.reduceAdd, z0L, z1L, z2L, z3L, z4L, z5L, z6L, z7L, z8L, z9L, z10L, z11L, z12L, z0l, z1l, z2l, z3l, z4l, l_asI, l_finx, l_finIx, l_finI, l_un2, l_un3, l_un4, l_ne, l_nes, l_neb, l_gt, l_ix0, l_ix1, l_ix2, l_ix3, l_it0, l_it1, l_it2, l_it3, F_draw_eq, List.cons_append, List.nil_append, k_bdbd, k_bdFbd, k_finbd, a1, rg]
    refine bk_then (a := m) (b := 49) (P := fun r => ∃ l : List Int, r = l.map D.int ∧ l.length = m ∧ ∀ x ∈ l, 0 ≤ x ∧ x < 9) ?_ (fun r hr => ?_) (by omega)
    · refine bx_ints' (l_rgD m 0) fun d hd => ?_
      show Bx _ (.draw 9 fun d => nox (.ok (some (D.int d)))) 1
      exact bx_draw (n := 0) (by decide) (by decide) fun x x0 x1 => bx_ok ⟨x, rfl, x0, x1⟩
    · obtain ⟨l, rfl, ll, hr⟩ := hr
      have hl : (l.map D.int).length = m := by rw [List.length_map, ll]
      have it := it_ints hr
      simp -implicitDefEqProofs -dsimp only [implies_true, isS_str, s_bdx, s_bd, ↓k_bd, k_bd, k_bdx, k_bdd, s_nox, k_bdF, k_bdFr, k_bdFx, s_finr, s_finn, s_find, k_bdFd, ↓reduceIte, s_asB, s_ul1, s_ul2, s_ul3, s_sub, s_add, s_neg, s_eq, s_len, s_itl, s_itt, s_opt, List.length_cons, List.length_nil, decide_true, decide_false, Bool.not_true, Bool.not_false, if_true, if_false, Bool.false_eq_true, Nat.reduceAdd, z0L, z1L, z2L, z3L, z4L, z5L, z6L, z7L, z8L, z9L, z10L, z11L, z12L, z0l, z1l, z2l, z3l, z4l, l_asI, l_finx, l_finIx, l_finI, l_un2, l_un3, l_un4, l_ne, l_nes, l_neb, l_gt, l_ix0, l_ix1, l_ix2, l_ix3, l_it0, l_it1, l_it2, l_it3, F_draw_eq, List.cons_append, List.nil_append, k_bdbd, k_bdFbd, k_finbd]
      refine bk_then (a := 7) (b := 42) (b_made (by omega) (by omega) it) (fun x hx => ?_) (by decide)
      subst hx
      have ro := r_ok (t := false) (ds := l.map D.int) (by omega) (by omega) it
      unfold sq at ro
      dsimp only at ro
      have ro2 : D.obj "Row" (rfs (l.map D.int)) = rowD (l.map D.int) := rfl
      have le : lenD (.lst (l.map D.int)) = .ok (.int m) := by rw [l_own, hl]
      simp -implicitDefEqProofs -dsimp only [implies_true, isS_str, s_bdx, s_bd, ↓k_bd, k_bd, k_bdx, k_bdd, s_nox, k_bdF, k_bdFr, k_bdFx, s_finr, s_finn, s_find, k_bdFd, ↓reduceIte, s_asB, s_ul1, s_ul2, s_ul3, s_sub, s_add, s_neg, s_eq, s_len, s_itl, s_itt, s_opt, List.length_cons, List.length_nil, decide_true, decide_false, Bool.not_true, Bool.not_false, if_true, if_false, Bool.false_eq_true, Nat.reduceAdd, z0L, z1L, z2L, z3L, z4L, z5L, z6L, z7L, z8L, z9L, z10L, z11L, z12L, z0l, z1l, z2l, z3l, z4l, l_asI, l_finx, l_finIx, l_finI, l_un2, l_un3, l_un4, l_ne, l_nes, l_neb, l_gt, l_ix0, l_ix1, l_ix2, l_ix3, l_it0, l_it1, l_it2, l_it3, F_draw_eq, List.cons_append, List.nil_append, k_bdbd, k_bdFbd, k_finbd, ro, ro2, rg3']
      refine bk_loopX (I := fun _ _ => True) (c := 14) (b := 0) (fun j d hd w _ => ?_) trivial (fun _ _ => ?_) (by rw [l_rgD]; decide)
      · simp -implicitDefEqProofs -dsimp only [implies_true, isS_str, s_bdx, s_bd, ↓k_bd, k_bd, k_bdx, k_bdd, s_nox, k_bdF, k_bdFr, k_bdFx, s_finr, s_finn, s_find, k_bdFd, ↓reduceIte, s_asB, s_ul1, s_ul2, s_ul3, s_sub, s_add, s_neg, s_eq, s_len, s_itl, s_itt, s_opt, List.length_cons, List.length_nil, decide_true, decide_false, Bool.not_true, Bool.not_false, if_true, if_false, Bool.false_eq_true, Nat.reduceAdd, z0L, z1L, z2L, z3L, z4L, z5L, z6L, z7L, z8L, z9L, z10L, z11L, z12L, z0l, z1l, z2l, z3l, z4l, l_asI, l_finx, l_finIx, l_finI, l_un2, l_un3, l_un4, l_ne, l_nes, l_neb, l_gt, l_ix0, l_ix1, l_ix2, l_ix3, l_it0, l_it1, l_it2, l_it3, F_draw_eq, List.cons_append, List.nil_append, k_bdbd, k_bdFbd, k_finbd, le]
        refine bk_then (a := 3) (b := 11) (b_index hm hl) (fun x hx => ?_) (by decide)
        subst hx
        simp -implicitDefEqProofs -dsimp only [implies_true, isS_str, s_bdx, s_bd, ↓k_bd, k_bd, k_bdx, k_bdd, s_nox, k_bdF, k_bdFr, k_bdFx, s_finr, s_finn, s_find, k_bdFd, ↓reduceIte, s_asB, s_ul1, s_ul2, s_ul3, s_sub, s_add, s_neg, s_eq, s_len, s_itl, s_itt, s_opt, List.length_cons, List.length_nil, decide_true, decide_false, Bool.not_true, Bool.not_false, if_true, if_false, Bool.false_eq_true, Nat.reduceAdd, z0L, z1L, z2L, z3L, z4L, z5L, z6L, z7L, z8L, z9L, z10L, z11L, z12L, z0l, z1l, z2l, z3l, z4l, l_asI, l_finx, l_finIx, l_finI, l_un2, l_un3, l_un4, l_ne, l_nes, l_neb, l_gt, l_ix0, l_ix1, l_ix2, l_ix3, l_it0, l_it1, l_it2, l_it3, F_draw_eq, List.cons_append, List.nil_append, k_bdbd, k_bdFbd, k_finbd, le]
        refine bk_then (a := 11) (b := 0) (b_puts hm hl) (fun x hx => ?_) (by decide)
        subst hx
        simp -implicitDefEqProofs -dsimp only [implies_true, isS_str, s_bdx, s_bd, ↓k_bd, k_bd, k_bdx, k_bdd, s_nox, k_bdF, k_bdFr, k_bdFx, s_finr, s_finn, s_find, k_bdFd, ↓reduceIte, s_asB, s_ul1, s_ul2, s_ul3, s_sub, s_add, s_neg, s_eq, s_len, s_itl, s_itt, s_opt, List.length_cons, List.length_nil, decide_true, decide_false, Bool.not_true, Bool.not_false, if_true, if_false, Bool.false_eq_true, Nat.reduceAdd, z0L, z1L, z2L, z3L, z4L, z5L, z6L, z7L, z8L, z9L, z10L, z11L, z12L, z0l, z1l, z2l, z3l, z4l, l_asI, l_finx, l_finIx, l_finI, l_un2, l_un3, l_un4, l_ne, l_nes, l_neb, l_gt, l_ix0, l_ix1, l_ix2, l_ix3, l_it0, l_it1, l_it2, l_it3, F_draw_eq, List.cons_append, List.nil_append, k_bdbd, k_bdFbd, k_finbd]
        exact bx_ok ⟨_, rfl, trivial⟩
      · have rc : F_Row_contents (rowD (l.map D.int)) = .ok (.tup (l.map D.int)) := rfl
        have tp : tupD (.lst (l.map D.int)) = .ok (.tup (l.map D.int)) := rfl
        simp -implicitDefEqProofs -dsimp only [implies_true, isS_str, s_bdx, s_bd, ↓k_bd, k_bd, k_bdx, k_bdd, s_nox, k_bdF, k_bdFr, k_bdFx, s_finr, s_finn, s_find, k_bdFd, ↓reduceIte, s_asB, s_ul1, s_ul2, s_ul3, s_sub, s_add, s_neg, s_eq, s_len, s_itl, s_itt, s_opt, List.length_cons, List.length_nil, decide_true, decide_false, Bool.not_true, Bool.not_false, if_true, if_false, Bool.false_eq_true, Nat.reduceAdd, z0L, z1L, z2L, z3L, z4L, z5L, z6L, z7L, z8L, z9L, z10L, z11L, z12L, z0l, z1l, z2l, z3l, z4l, l_asI, l_finx, l_finIx, l_finI, l_un2, l_un3, l_un4, l_ne, l_nes, l_neb, l_gt, l_ix0, l_ix1, l_ix2, l_ix3, l_it0, l_it1, l_it2, l_it3, F_draw_eq, List.cons_append, List.nil_append, k_bdbd, k_bdFbd, k_finbd, isO_row, rc, tp, ne_same]
        exact bx_ok rfl
  · have x1 := r_ex (n_kind (m := .non) (v := rowD [.int 4, .int 5]) rfl)
    have x2 := r_ex (n_kind (m := .non) (v := .dic [(.inl 1, .int 2)]) rfl)
    have x3 : F__law_store (rowD [.int 4, .int 5]) (.tup [.int 0, .int 2]) (rowD [.int 1, .int 2]) = .ex "BadRow" [("at", .non)] := q_store (set_s (k := 2) (by decide) (by decide) (by decide) (by decide) (n_kind rfl))
    have x4 := r_ex (n_bent (t := false) (m := .non) (.inl ⟨rfl, by rw [List.length_append, l_ones]; decide, by rw [List.length_append, l_ones]; decide⟩) bent_ones)
    have l2 : (ones ++ [D.int 2]).length = 2000 := by rw [List.length_append, l_ones]; rfl
    have x5 := r_ok (t := false) (ds := ones ++ [D.int 2]) (by rw [l2]; decide) (by rw [l2]; decide) (fun d hd => by
      rcases List.mem_append.mp hd with h | h
      · exact it_ones d h
      · rw [List.mem_singleton.mp h]
        exact it_int (by decide))
    unfold sq at x4 x5
    dsimp only at x4 x5
    have x4 : F_Row___init__ [] (.lst (ones ++ [.bl true])) = .ex "BadRow" [("at", .int 1999)] := x4
    have i9 : F__law_is (.lst [.str "row", .int 1999]) (.lst [.str "row", .int 1999]) = .ok (.bl true) := is_row (fx_nat (m := 1999) (by decide))
    have ro2 : ∀ ds, D.obj "Row" (rfs ds) = rowD ds := fun _ => rfl
    have a1 : addD (.lst ones) (.lst [.bl true]) = .ok (.lst (ones ++ [.bl true])) := s_addl' (by rw [l_ones]; decide)
    have a2 : addD (.lst ones) (.lst [.int 2]) = .ok (.lst (ones ++ [.int 2])) := s_addl' (by rw [l_ones]; decide)
    have ln : lenO "Row" (ul1 F_Row___len__) (rowD (ones ++ [.int 2])) = .ok (.int 2000) := by
      have q : F_Row___len__ (rowD (ones ++ [.int 2])) = .ok (.int 2000) := by
        rw [lz_Row___len__]
        unfold L_Row___len__
        simp -implicitDefEqProofs -dsimp only [implies_true, isS_str, s_bdx, s_bd, ↓k_bd, k_bd, k_bdx, k_bdd, s_nox, k_bdF, k_bdFr, k_bdFx, s_finr, s_finn, s_find, k_bdFd, ↓reduceIte, s_asB, s_ul1, s_ul2, s_ul3, s_sub, s_add, s_neg, s_eq, s_len, s_itl, s_itt, s_opt, List.length_cons, List.length_nil, decide_true, decide_false, Bool.not_true, Bool.not_false, if_true, if_false, Bool.false_eq_true, Nat.reduceAdd, z0L, z1L, z2L, z3L, z4L, z5L, z6L, z7L, z8L, z9L, z10L, z11L, z12L, z0l, z1l, z2l, z3l, z4l, l_asI, l_finx, l_finIx, l_finI, l_un2, l_un3, l_un4, l_ne, l_nes, l_neb, l_gt, l_ix0, l_ix1, l_ix2, l_ix3, l_it0, l_it1, l_it2, l_it3, F_draw_eq, List.cons_append, List.nil_append, k_bdbd, k_bdFbd, k_finbd, f_own, l_own, l2]
        rfl
      unfold lenO
      rw [isO_row, s_ul1, q]
      rfl
    have e1 : eqD (.int 2000) (.int 2000) = .ok (.bl true) := by kernel_rfl
    simp -implicitDefEqProofs -dsimp only [implies_true, isS_str, s_bdx, s_bd, ↓k_bd, k_bd, k_bdx, k_bdd, s_nox, k_bdF, k_bdFr, k_bdFx, s_finr, s_finn, s_find, k_bdFd, ↓reduceIte, s_asB, s_ul1, s_ul2, s_ul3, s_sub, s_add, s_neg, s_eq, s_len, s_itl, s_itt, s_opt, List.length_cons, List.length_nil, decide_true, decide_false, Bool.not_true, Bool.not_false, if_true, if_false, Bool.false_eq_true, Nat.reduceAdd, z0L, z1L, z2L, z3L, z4L, z5L, z6L, z7L, z8L, z9L, z10L, z11L, z12L, z0l, z1l, z2l, z3l, z4l, l_asI, l_finx, l_finIx, l_finI, l_un2, l_un3, l_un4, l_ne, l_nes, l_neb, l_gt, l_ix0, l_ix1, l_ix2, l_ix3, l_it0, l_it1, l_it2, l_it3, F_draw_eq, List.cons_append, List.nil_append, k_bdbd, k_bdFbd, k_finbd, q_ones, r_45, ro2, x1, x2, h_row, is_row fx_non, r_12, x3, a1, a2, x4, i9, x5, ln, e1]
    exact bx_ok rfl
end Lw
end
section
set_option pp.maxSteps 600
namespace Lw
open PySem PySem.Spec PyProof.Rows L2 Gh Gp Gz
theorem pm_PromO {P : Program} {w : World} {K : PySem.W.Frag} {mg : Str → Option Value} {base : Heap} {CX : CXT} {k : Nat} {f : Addr} {fd : FuncData} {ps : List Str} {sp : Sp} (G : FnOk P w K mg base CX k f fd ps sp) (b : Binds K fd ps []) : PromO P w K mg base CX k f [] sp := ⟨fd, ps, [], G, b, .nil⟩
theorem pm_Prom {P : Program} {w : World} {K : PySem.W.Frag} {mg : Str → Option Value} {base : Heap} {CX : CXT} {k : Nat} {f : Addr} {fd : FuncData} {ps : List Str} {sp : Sp} (G : FnG P w K mg base CX k f fd ps sp) (b : Binds K fd ps []) : Prom P w K mg base CX k f [] sp := ⟨fd, ps, [], G, b, .nil⟩
def TTl (K : PySem.W.Frag) : List (Addr × Str) := [((He.cT K ("_law_made_right", none)).2, Gp.qlOf d__law_made_right K), ((He.cT K ("_law_indexes_right", none)).2, Gp.qlOf d__law_indexes_right K), ((He.cT K ("_law_puts_right", none)).2, Gp.qlOf d__law_puts_right K), ((He.cT K ("law", none)).2, Gp.qlOf d_law K)]
theorem facts {P : Program} {w : World} {K : PySem.W.Frag} {h : Heap} {mg : Str → Option Value} {f : Addr} (X : K.In h) (G : h.Ns mainGlobals mg) (hfa : mg ("law" : Str) = some (.ref f)) (c2 : Gp.SaysS exs fns tfs sds pfile h K) (gl : (He.Fa.glo "law").ok K = true) (hP : ((P.main.file : Str) == pfile) = true ∧ (P.main.scope.names.lookup ("super" : Str)).isSome = false) :
    ∃ fd : FuncData, (∀ (s : Shared) (v : Value), BindsTo s fd ⟨[v], []⟩ [("_law_script", v)]) ∧ ∀ base : Heap, K.In base → base.Ns mainGlobals mg → (∀ p ∈ tfs.map (He.cT K), LamX.TabB base mg p.1 p.2) → FnG P w K mg base CX0 10 f fd ["_law_script"] (spLaw K (TTl K)) := by
  have c := c2.s.t
  have T : Tx K mg := tx_of X G c
  have e := hfa.symm.trans (He.glo_ok X G gl)
  cases e
  obtain ⟨f0, F0⟩ := c.def_ 0 (d := d_BadLength___init__) rfl
  obtain ⟨f1, F1⟩ := c.def_ 1 (d := d_BadPlace___init__) rfl
  obtain ⟨f2, F2⟩ := c.def_ 2 (d := d_BadRow___init__) rfl
  obtain ⟨f3, F3⟩ := c.def_ 3 (d := d__law_pen) rfl
  obtain ⟨f4, F4⟩ := c.def_ 4 (d := d__law_draw) rfl
  obtain ⟨f5, F5⟩ := c.def_ 5 (d := d_is_integer) rfl
  obtain ⟨f6, F6⟩ := c.def_ 6 (d := d_is_within) rfl
  obtain ⟨f7, F7⟩ := c.def_ 7 (d := d_is_item) rfl
  obtain ⟨f8, F8⟩ := c.def_ 8 (d := d_need_items) rfl
  obtain ⟨f9, F9⟩ := c.def_ 9 (d := d_Row___init__) rfl
  obtain ⟨f10, F10⟩ := c.def_ 10 (d := d_Row_home) rfl
  obtain ⟨f11, F11⟩ := c.def_ 11 (d := d_Row_contents) rfl
  obtain ⟨f12, F12⟩ := c.def_ 12 (d := d_Row_need_place) rfl
  obtain ⟨f13, F13⟩ := c.def_ 13 (d := d_Row_need_stretch) rfl
  obtain ⟨f14, F14⟩ := c.def_ 14 (d := d_Row_exchange) rfl
  obtain ⟨f15, F15⟩ := c.def_ 15 (d := d_Row___len__) rfl
  obtain ⟨f16, F16⟩ := c.def_ 16 (d := d_Row___getitem__) rfl
  obtain ⟨f17, F17⟩ := c.def_ 17 (d := d_Row___setitem__) rfl
  obtain ⟨f18, F18⟩ := c.def_ 18 (d := d__law_pick) rfl
  obtain ⟨f19, F19⟩ := c.def_ 19 (d := d__law_heard) rfl
  obtain ⟨f20, F20⟩ := c.def_ 20 (d := d__law_is) rfl
  obtain ⟨f21, F21⟩ := c.def_ 21 (d := d__law_odd_item) rfl
  obtain ⟨f22, F22⟩ := c.def_ 22 (d := d__law_bent) rfl
  obtain ⟨f23, F23⟩ := c.def_ 23 (d := d__law_made_right) rfl
  obtain ⟨f24, F24⟩ := c.def_ 24 (d := d__law_store) rfl
  obtain ⟨f25, F25⟩ := c.def_ 25 (d := d__law_odd_index) rfl
  obtain ⟨f26, F26⟩ := c.def_ 26 (d := d__law_indexes_right) rfl
  obtain ⟨f27, F27⟩ := c.def_ 27 (d := d__law_puts_right) rfl
  obtain ⟨f28, F28⟩ := c.def_ 28 (d := d_law) rfl
  have b28 := FunD.bindsA (ps := ["_law_script"]) F28 fun _ _ _ _ _ _ us hl => match us, hl with | [_], _ => rfl
  refine ⟨f28, fun s v => b28 s [v] rfl, fun base _ _ TB => ?_⟩
  have lm__law_made_right : LamD base mg K (TTl K) d__law_made_right ("_law_made_right", none) := ⟨TB _ (List.mem_map.mpr ⟨_, by decide, rfl⟩), by simp only [TTl, List.mem_cons, true_or, or_true], fun p hp e => by
      simp only [TTl, List.mem_cons, List.mem_nil_iff, or_false] at hp
      rcases hp with rfl | rfl | rfl | rfl
      · rfl
      · exact absurd e (T.tn__law_made_right__law_indexes_right).symm
      · exact absurd e (T.tn__law_made_right__law_puts_right).symm
      · exact absurd e (T.tn__law_made_right_law).symm⟩
  have lm__law_indexes_right : LamD base mg K (TTl K) d__law_indexes_right ("_law_indexes_right", none) := ⟨TB _ (List.mem_map.mpr ⟨_, by decide, rfl⟩), by simp only [TTl, List.mem_cons, true_or, or_true], fun p hp e => by
      simp only [TTl, List.mem_cons, List.mem_nil_iff, or_false] at hp
      rcases hp with rfl | rfl | rfl | rfl
      · exact absurd e T.tn__law_made_right__law_indexes_right
      · rfl
      · exact absurd e (T.tn__law_indexes_right__law_puts_right).symm
      · exact absurd e (T.tn__law_indexes_right_law).symm⟩
  have lm__law_puts_right : LamD base mg K (TTl K) d__law_puts_right ("_law_puts_right", none) := ⟨TB _ (List.mem_map.mpr ⟨_, by decide, rfl⟩), by simp only [TTl, List.mem_cons, true_or, or_true], fun p hp e => by
      simp only [TTl, List.mem_cons, List.mem_nil_iff, or_false] at hp
      rcases hp with rfl | rfl | rfl | rfl
      · exact absurd e T.tn__law_made_right__law_puts_right
      · exact absurd e T.tn__law_indexes_right__law_puts_right
      · rfl
      · exact absurd e (T.tn__law_puts_right_law).symm⟩
  have lm_law : LamD base mg K (TTl K) d_law ("law", none) := ⟨TB _ (List.mem_map.mpr ⟨_, by decide, rfl⟩), by simp only [TTl, List.mem_cons, true_or, or_true], fun p hp e => by
      simp only [TTl, List.mem_cons, List.mem_nil_iff, or_false] at hp
      rcases hp with rfl | rfl | rfl | rfl
      · exact absurd e T.tn__law_made_right_law
      · exact absurd e T.tn__law_indexes_right_law
      · exact absurd e T.tn__law_puts_right_law
      · rfl⟩
  have p0 : PromO P w K mg base CX0 1 (md "BadLength" "__init__" K) [] (spErr1 (gd "BadLength" K) "value") := pm_PromO (ok_BadLength___init__ F0 T ) (F0.bindsN fun _ _ _ _ _ _ us hl => match us, hl with | [_, _], _ => rfl)
  have p1 : PromO P w K mg base CX0 1 (md "BadPlace" "__init__" K) [] (spErr1 (gd "BadPlace" K) "value") := pm_PromO (ok_BadPlace___init__ F1 T ) (F1.bindsN fun _ _ _ _ _ _ us hl => match us, hl with | [_, _], _ => rfl)
  have p2 : PromO P w K mg base CX0 1 (md "BadRow" "__init__" K) [] (spErr1 (gd "BadRow" K) "at") := pm_PromO (ok_BadRow___init__ F2 T ) (F2.bindsN fun _ _ _ _ _ _ us hl => match us, hl with | [_, _], _ => rfl)
  have p3 : PromO P w K mg base CX0 1 (gd "_law_pen" K) [] (spPn K) := pm_PromO (ok__law_pen F3 T ) (F3.bindsN fun _ _ _ _ _ _ us hl => match us, hl with | [_], _ => rfl)
  have p4 : PromO P w K mg base CX0 1 (gd "_law_draw" K) [] (spF K (TTl K) (ul2 F_draw)) := pm_PromO (ok__law_draw (Tb := TTl K) F4 T ) (F4.bindsN fun _ _ _ _ _ _ us hl => match us, hl with | [_, _], _ => rfl)
  have p5 : PromO P w K mg base CX0 1 (gd "is_integer" K) [] (spF K (TTl K) (ul1 F_is_integer)) := pm_PromO (ok_is_integer (Tb := TTl K) F5 T ) (F5.bindsN fun _ _ _ _ _ _ us hl => match us, hl with | [_], _ => rfl)
  have p6 : PromO P w K mg base CX0 2 (gd "is_within" K) [] (spF K (TTl K) (ul3 F_is_within)) := pm_PromO (ok_is_within (Tb := TTl K) F6 T p5) (F6.bindsN fun _ _ _ _ _ _ us hl => match us, hl with | [_, _, _], _ => rfl)
  have p7 : PromO P w K mg base CX0 2 (gd "is_item" K) [] (spF K (TTl K) (ul1 F_is_item)) := pm_PromO (ok_is_item (Tb := TTl K) F7 T p5) (F7.bindsN fun _ _ _ _ _ _ us hl => match us, hl with | [_], _ => rfl)
  have p8 : PromO P w K mg base (L2.CX P w) 3 (gd "need_items" K) [] (spF K (TTl K) (ul2 F_need_items)) := pm_PromO (ok_need_items (Tb := TTl K) F8 T p2 p7) (F8.bindsN fun _ _ _ _ _ _ us hl => match us, hl with | [_, _], _ => rfl)
  have p9 : PromO P w K mg base (L2.CX P w) 4 (md "Row" "__init__" K) [] (spI K (TTl K) "Row" (fun fs => ul1 (F_Row___init__ fs))) := pm_PromO (ok_Row___init__ (Tb := TTl K) F9 T p8) (F9.bindsN fun _ _ _ _ _ _ us hl => match us, hl with | [_, _], _ => rfl)
  have pk9_1_items : PromK P w K mg base (L2.CX P w) 4 (md "Row" "__init__" K) 1 ["items"] (fun vs zs => vs ++ picks [.inl 0] [] zs) (spI K (TTl K) "Row" (fun fs => ul1 (F_Row___init__ fs))) := ⟨_, _, _, (ok_Row___init__ (Tb := TTl K) F9 T p8), FunD.kbN F9 1 ["items"] [.inl 0] fun _ _ _ _ _ _ us ws h1 h2 => match us, h1, ws, h2 with | [_], _, [_], _ => rfl⟩
  have p10 : PromO P w K mg base (L2.CX P w) 6 (clsG "Row" "home" K) [] (spK K (TTl K) "Row" (ul1 F_Row_home)) := pm_PromO (ok_Row_home (Tb := TTl K) F10 T p6 p0 p9) (F10.bindsN fun _ _ _ _ _ _ us hl => match us, hl with | [_, _], _ => rfl)
  have p11 : PromO P w K mg base CX0 1 (propG "Row" "contents" K) [] (spF K (TTl K) (ul1 F_Row_contents)) := pm_PromO (ok_Row_contents (Tb := TTl K) F11 T ) (F11.bindsN fun _ _ _ _ _ _ us hl => match us, hl with | [_], _ => rfl)
  have p12 : PromO P w K mg base (L2.CX P w) 3 (md "Row" "need_place" K) [] (spF K (TTl K) (ul2 F_Row_need_place)) := pm_PromO (ok_Row_need_place (Tb := TTl K) F12 T p6 p1) (F12.bindsN fun _ _ _ _ _ _ us hl => match us, hl with | [_, _], _ => rfl)
  have p13 : PromO P w K mg base (L2.CX P w) 3 (md "Row" "need_stretch" K) [] (spF K (TTl K) (ul2 F_Row_need_stretch)) := pm_PromO (ok_Row_need_stretch (Tb := TTl K) F13 T p5 p1) (F13.bindsN fun _ _ _ _ _ _ us hl => match us, hl with | [_, _], _ => rfl)
  have p14 : PromO P w K mg base (L2.CX P w) 3 (md "Row" "exchange" K) [] (spF K (TTl K) (ul2 F_Row_exchange)) := pm_PromO (ok_Row_exchange (Tb := TTl K) F14 T p6 p1) (F14.bindsN fun _ _ _ _ _ _ us hl => match us, hl with | [_, _], _ => rfl)
  have p15 : PromO P w K mg base CX0 1 (md "Row" "__len__" K) [] (spF K (TTl K) (ul1 F_Row___len__)) := pm_PromO (ok_Row___len__ (Tb := TTl K) F15 T ) (F15.bindsN fun _ _ _ _ _ _ us hl => match us, hl with | [_], _ => rfl)
  have p16 : PromO P w K mg base (L2.CX P w) 4 (md "Row" "__getitem__" K) [] (spF K (TTl K) (ul2 F_Row___getitem__)) := pm_PromO (ok_Row___getitem__ (Tb := TTl K) F16 T p13 p12) (F16.bindsN fun _ _ _ _ _ _ us hl => match us, hl with | [_, _], _ => rfl)
  have p17 : PromO P w K mg base (L2.CX P w) 4 (md "Row" "__setitem__" K) [] (spF K (TTl K) (ul3 F_Row___setitem__)) := pm_PromO (ok_Row___setitem__ (Tb := TTl K) F17 T p13 p8 p12 p7 p2) (F17.bindsN fun _ _ _ _ _ _ us hl => match us, hl with | [_, _, _], _ => rfl)
  have p18 : PromO P w K mg base CX0 2 (gd "_law_pick" K) [] (spF K (TTl K) (ul2 F__law_pick)) := pm_PromO (ok__law_pick (Tb := TTl K) F18 T p4) (F18.bindsN fun _ _ _ _ _ _ us hl => match us, hl with | [_, _], _ => rfl)
  have p19 : HrdP K d__law_heard ["_law_ask"] := ⟨f19, F19, F19.bindsN fun _ _ _ _ _ _ us hl => match us, hl with | [_], _ => rfl⟩
  have p20 : Prom P w K mg base CX0 1 (gd "_law_is" K) [] (spF K (TTl K) (ul2 F__law_is)) := pm_Prom (ok__law_is (Tb := TTl K) F20 T ) (F20.bindsN fun _ _ _ _ _ _ us hl => match us, hl with | [_, _], _ => rfl)
  have p21 : PromO P w K mg base CX0 3 (gd "_law_odd_item" K) [] (spF K (TTl K) (ul1 F__law_odd_item)) := pm_PromO (ok__law_odd_item (Tb := TTl K) F21 T p18) (F21.bindsN fun _ _ _ _ _ _ us hl => match us, hl with | [_], _ => rfl)
  have p22 : PromO P w K mg base CX0 4 (gd "_law_bent" K) [] (spF K (TTl K) (ul2 F__law_bent)) := pm_PromO (ok__law_bent (Tb := TTl K) F22 T p4 p21) (F22.bindsN fun _ _ _ _ _ _ us hl => match us, hl with | [_, _], _ => rfl)
  have p23 : Prom P w K mg base CX0 9 (gd "_law_made_right" K) [] (spF K (TTl K) (ul2 F__law_made_right)) := pm_Prom (ok__law_made_right (Tb := TTl K) F23 T p18 p9 p10 p20 p19 lm__law_made_right p22 pk9_1_items) (F23.bindsN fun _ _ _ _ _ _ us hl => match us, hl with | [_, _], _ => rfl)
  have p24 : PromO P w K mg base (L2.CX P w) 5 (gd "_law_store" K) [] (spF K (TTl K) (ul3 F__law_store)) := pm_PromO (ok__law_store (Tb := TTl K) F24 T p17) (F24.bindsN fun _ _ _ _ _ _ us hl => match us, hl with | [_, _, _], _ => rfl)
  have p25 : PromO P w K mg base CX0 3 (gd "_law_odd_index" K) [] (spF K (TTl K) (ul2 F__law_odd_index)) := pm_PromO (ok__law_odd_index (Tb := TTl K) F25 T p18) (F25.bindsN fun _ _ _ _ _ _ us hl => match us, hl with | [_, _], _ => rfl)
  have p26 : Prom P w K mg base CX0 8 (gd "_law_indexes_right" K) [] (spF K (TTl K) (ul3 F__law_indexes_right)) := pm_Prom (ok__law_indexes_right (Tb := TTl K) F26 T p25 p18 p20 p19 lm__law_indexes_right p16 p24 p14) (F26.bindsN fun _ _ _ _ _ _ us hl => match us, hl with | [_, _, _], _ => rfl)
  have p27 : Prom P w K mg base CX0 8 (gd "_law_puts_right" K) [] (spF K (TTl K) (ul3 F__law_puts_right)) := pm_Prom (ok__law_puts_right (Tb := TTl K) F27 T p4 p21 p20 p19 lm__law_puts_right p24 p9 p18 p22) (F27.bindsN fun _ _ _ _ _ _ us hl => match us, hl with | [_, _, _], _ => rfl)
  exact ok_law (Tb := TTl K) F28 T law_yes p3 p4 p23 p9 p26 p27 p11 p20 p19 lm_law p24 p15
end Lw
open PySem PySem.W PySem.Calls PyProof.Rows
set_option maxRecDepth 100000 in
set_option maxHeartbeats 0 in
theorem PySem.Challenge.cw_everyhunt_k08_rows_refused_holds : PySem.Challenge.rw_everyhunt_k08_rows_refused.Holds := by
  w_on; o_law
  refine HandSHeadRun.head_any (r := OpenLaw.row PySem.Challenge.rw_everyhunt_k08_rows_refused) (q := view (OpenLaw.row PySem.Challenge.rw_everyhunt_k08_rows_refused).prog [31]) (H := Lw.hk) (ob := Lw.ob) (M := 20000) (loose := Lw.loose) (d := HandSHeadRun.topDef (OpenLaw.row PySem.Challenge.rw_everyhunt_k08_rows_refused).prog 31) (kwd := []) Lw.ob_eq
    (by kernel_rfl) (fun s => by kernel_rfl) Lw.run (by kernel_rfl) (by kernel_rfl) (by kernel_rfl) (by rfl) (by first | assumption | decide +kernel) (by decide +kernel) ⟨rfl, rfl, rfl, rfl, rfl, by decide +kernel⟩ ?hw ?hc
  case hw => w_witness2
  case hc =>
    refine Gh.walk_ofTsG (l := PySem.Challenge.rw_everyhunt_k08_rows_refused) (n := 63) (k := 10) (x := "_law_script") (CX := fun _ => L2.CX0) rfl (by decide) (by kernel_rfl) ⟨rfl, by decide, by decide⟩ ?F (fun _ _ _ _ _ z => z)
    intro w mg fa h Y G hmg0
    obtain ⟨K, KX, c⟩ := Y
    have hmg : mg ("law" : PySem.Str) = some (.ref fa) := by
      have e : (HandSHeadRun.topDef (OpenLaw.row PySem.Challenge.rw_everyhunt_k08_rows_refused).prog 31).name = ("law" : PySem.Str) := by kernel_rfl
      rw [← e]
      exact hmg0
    obtain ⟨fd, hb, hF⟩ := Lw.facts (P := (PySem.Challenge.rw_everyhunt_k08_rows_refused).prog) (w := w) KX G hmg c (c.s.t.fact 105 rfl) ⟨by kernel_rfl, by kernel_rfl⟩
    refine ⟨K, fd, Lw.tfs.map (He.cT K), Gp.spLaw K (Lw.TTl K), KX, fun p hp => ?_, fun p hp => ?_, fun p hp => ?_, hb, fun H a ns hl hT hS => ⟨a, ns, rfl, hS, hl, fun p hp => ?_, fun _ => rfl⟩, fun base h1 h2 h3 => hF base h1 h2 h3⟩
    · obtain ⟨d, hd, rfl⟩ := List.mem_map.mp hp
      exact c.s.empty d hd
    · obtain ⟨d, hd, rfl⟩ := List.mem_map.mp hp
      exact c.s.out d hd
    · obtain ⟨d, hd, rfl⟩ := List.mem_map.mp hp
      exact PySem.W.codeHd_of_K KX (c.s.hd d hd)
    · have e : ∀ p ∈ Lw.TTl K, ∃ d ∈ Lw.tfs.map (He.cT K), p.1 = d.2 := fun p hp => by
        have z : (Lw.TTl K).map (·.1) = (Lw.tfs.map (He.cT K)).map (·.2) := rfl
        have m : p.1 ∈ (Lw.tfs.map (He.cT K)).map (·.2) := by rw [← z]; exact List.mem_map.mpr ⟨p, hp, rfl⟩
        obtain ⟨d, hd, e⟩ := List.mem_map.mp m
        exact ⟨d, hd, e.symm⟩
      obtain ⟨d, hd, ed⟩ := e p hp
      exact LamX.TabS.nil (by rw [ed]; exact hT d hd)
#print axioms PySem.Challenge.cw_everyhunt_k08_rows_refused_holds
end
