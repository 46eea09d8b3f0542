import PyProof.Rows.All
import Wide.All
import OpenK.AllK
import Wide.FinOn
import KE.KStateDown
import KE.KOpsOwn
import HandS.ForMost
import HandS.More
import HandS.Exc
import HandS.WordsExc
import HandS.Defaults
import HandS.Property
import HandS.IsInst
import HandS.Wide
import HandS.Head0
import HandS.Head1
import HandS.Head2
import HandS.HeadEnd
import HandS.HeadHook1
import HandS.HeadHook2
import PyProof.ReprRoads
import HandS.ExcInit
import HandS.ExcField
import HandS.ExcIs
import KE.KExcIs
import HandS.EndTab
import HandS.HeadHook4
import HandS.Star
import HandS.ClsMeth
import HandS.Lambda
import HandS.RaiseMore
import HandS.Iter
import KE.GoesMore
import PyProof.EnumMake
import HandS.MakeKw
import KE.KCallOwn
import PyProof.InstNe
import HandS.GenList
import PyProof.GenComp
import HandS.TupAny
import HandS.SortInts
import HandS.OwnEq
import HandS.Style
import HandS.Conv
import KE.KSuper
import HandS.NestedK
import HandS.SetFor
import HandS.Strs
import HandS.Zip
import HandS.TryMany
import HandS.FStr
import HandS.TupLe
import HandS.NoneIn
import HandS.Text
import PyProof.EnumFor
import PyProof.Conv_bool
import PyProof.EqKinds
import PyProof.FactsAll.dict_1
import KE.LtData
import PyProof.Claim2Refuses
import HandS.ReplaceLit
import PyProof.NeKinds
import KE.KEqDict
import HandS.TupLen
import HandS.DictTup
import HandS.TupMul
import PySem.Challenge.RW_everyhunt_k12_whole_rows_led
set_option linter.all false
set_option maxRecDepth 100000
set_option maxHeartbeats 4000000
set_option Elab.async false
section
namespace Gh
open PySem PySem.Spec PyProof.Rows L2
structure Df where
  adr : PySem.W.Frag → Addr
  name : Str
  qual : Str
  st : Stmt
  dfl : List He.Dv := []
def Df.val (d : Df) : He.FnW := some (d.name, d.qual, defArgs d.st, .stmts (defBody d.st), defScope d.st, mainGlobals, [], builtinsNs)
def Df.dvs (K : PySem.W.Frag) (d : Df) : List V := d.dfl.map (He.Dv.v K)
def fnAt (K : PySem.W.Frag) (a : Addr) : He.FnW := match K.lookup a with
  | some ⟨_, _, .func fd, _⟩ => some (fd.name, fd.qualname, fd.params, fd.body, fd.scope, fd.globals, fd.closure, fd.builtins)
  | _ => none
def Df.ok (K : PySem.W.Frag) (d : Df) : Bool := PySem.W.keepIn K (.ref (d.adr K)) && (match K.lookup (d.adr K) with
  | some ⟨_, _, .func fd, _⟩ => PySem.W.codeIn K fd.code d.qual && (He.dflB K fd.defaults (d.dvs K) && He.kwdB K fd.kwdefaults [])
  | _ => false)
abbrev Al : Type := Bool × List He.FnW
def obs (ex : List (PySem.W.Frag → Bool)) (fn : List Df) (K : PySem.W.Frag) : Al := ((ex.all fun f => f K) && fn.all fun d => d.ok K, fn.map fun d => fnAt K (d.adr K))
def val (fn : List Df) : Al := (true, fn.map Df.val)
def Says (ex : List (PySem.W.Frag → Bool)) (fn : List Df) (K : PySem.W.Frag) : Prop := obs ex fn K = val fn
def propG (x m : Str) (K : PySem.W.Frag) : Addr := match PySem.W.recIn K (He.ma K (He.ga K x) m) "property" with
  | some (.ref g :: _) => g
  | _ => 0
def propB (x m : Str) (K : PySem.W.Frag) : Bool := He.eqO (PySem.W.findIn K (.ref (He.ga K x)) m) (some (some (.ref (He.ma K (He.ga K x) m)))) &&
  (He.eqO (PySem.W.specialIn K (.ref (He.ma K (He.ga K x) m)) "__get__") (some (some (.builtin "property.__get__"))) &&
  (decide (PySem.W.takesIn K (.ref (He.ma K (He.ga K x) m)) = some true) && (match PySem.W.recIn K (He.ma K (He.ga K x) m) "property" with
    | some (.ref _ :: _) => true
    | _ => false)))
def gd (x : Str) : PySem.W.Frag → Addr := fun K => He.ga K x
def md (x m : Str) : PySem.W.Frag → Addr := fun K => He.ma K (He.ga K x) m
def fa (f : He.Fa) : PySem.W.Frag → Bool := fun K => f.ok K
structure InsT (K : PySem.W.Frag) (C : Addr) : Prop where
  ha : PySem.W.findIn K (.ref C) "__class__" = some (some (.builtin "object.__class__"))
  hn : PySem.W.specialIn K (.builtin "object.__class__") "__get__" = some (some (.builtin "getset_descriptor.__get__"))
  htk : PySem.W.takesIn K (.builtin "object.__class__") = some true
  hm : PySem.W.mroIn K C (.type "object") = some true
  yes : PySem.W.kitOne K (.ref C) (.ref C) = some true
  no : ∀ n ∈ (["NoneType", "bool", "int", "str", "list", "tuple", "dict"] : List String), PySem.W.kitOne K (.type n) (.ref C) = some false
  out : ∀ n ∈ (["NoneType", "bool", "int", "str", "list", "tuple", "dict"] : List String), PySem.W.kitOne K (.ref C) (.type n) = some false
def insB (x : Str) (K : PySem.W.Frag) : Bool := He.eqO (PySem.W.findIn K (.ref (gd x K)) "__class__") (some (some (.builtin "object.__class__"))) &&
  (He.eqO (PySem.W.specialIn K (.builtin "object.__class__") "__get__") (some (some (.builtin "getset_descriptor.__get__"))) &&
  (decide (PySem.W.takesIn K (.builtin "object.__class__") = some true) && (decide (PySem.W.mroIn K (gd x K) (.type "object") = some true) &&
  (decide (PySem.W.kitOne K (.ref (gd x K)) (.ref (gd x K)) = some true) && (((["NoneType", "bool", "int", "str", "list", "tuple", "dict"] : List String).all fun n => decide (PySem.W.kitOne K (.type n) (.ref (gd x K)) = some false)) &&
  ((["NoneType", "bool", "int", "str", "list", "tuple", "dict"] : List String).all fun n => decide (PySem.W.kitOne K (.ref (gd x K)) (.type n) = some false)))))))
def ownB (x : Str) (K : PySem.W.Frag) : Bool := PySem.W.selfFirst K (gd x K) && (PySem.W.notFirst K (gd x K) (.ref (gd x K)) && decide (PySem.W.subIn K (.type "int") (.ref (gd x K)) = some false))
end Gh
end
section
namespace Gh
open PySem PySem.Spec PyProof.Rows L2
structure FnG (P : Program) (w : World) (K : PySem.W.Frag) (mg : Str → Option Value) (base : Heap) (CX : CXT) (k : Nat) (f : Addr) (fd : FuncData) (ps : List Str) (sp : Sp) : Prop where
  len : ∀ vs H Q E, sp vs H Q E → vs.length = ps.length
  run : ∀ (A : Around) (outer : List Env) (s : Shared) (H : Hp) (args : Args) (us : List Value) (vs : List V) (Q : VK) (E : XK), Room k A → A.guards = some [] → Env0 P w K mg base A outer s H → BindsTo s fd args (ps.zip us) → Vals vs us → sp vs H Q E →
    codeAny (model P w) A (.call (.ref f) args) (CR CX outer P w H s Q E) s
def Prom (P : Program) (w : World) (K : PySem.W.Frag) (mg : Str → Option Value) (base : Heap) (CX : CXT) (k : Nat) (f : Addr) (dvs : List V) (sp : Sp) : Prop :=
  ∃ (fd : FuncData) (ps : List Str) (ds : List Value), FnG P w K mg base CX k f fd ps sp ∧ Binds K fd ps ds ∧ Vals dvs ds
section
variable {P : Program} {w : World} {K : PySem.W.Frag} {mg : Str → Option Value} {base : Heap} {CX : CXT} {j k : Nat} {f : Addr} {fd : FuncData} {ps : List Str} {sp : Sp} {dvs : List V}
theorem FnG.mono (F : FnG P w K mg base CX j f fd ps sp) (h : j ≤ k) : FnG P w K mg base CX k f fd ps sp := ⟨F.len, fun A o s H a us vs Q E hr => F.run A o s H a us vs Q E (hr.mono h)⟩
theorem Prom.mono (F : Prom P w K mg base CX j f dvs sp) (h : j ≤ k) : Prom P w K mg base CX k f dvs sp := by
  obtain ⟨fd, ps, ds, G, b, v⟩ := F
  exact ⟨fd, ps, ds, G.mono h, b, v⟩
end
section
variable {X : Cx} {CX : CXT} {k : Nat} {f g C : Addr} {sp : Sp} {dvs : List V} {E : XK} {x m : Str} {p pos apos : Pos} {e o : Expr} {es : List Expr} {ta tb : TE} {t : TA} {r : List V → Hp → VK → Prop}
abbrev PromX (X : Cx) (CX : CXT) (k : Nat) (f : Addr) (dvs : List V) (sp : Sp) : Prop := Prom X.prog X.w X.K X.mg X.base CX k f dvs sp
def rSp (sp : Sp) (dvs : List V) (E : XK) : List V → Hp → VK → Prop := fun xs H Q => sp (xs ++ dvs) H Q E
theorem Prom.call (F : PromX X CX k f dvs sp) (hr : Room k X.A) (hg : X.A.guards = some []) (hx : Passes CX X E) : CallR X (.ref f) (rSp sp dvs E) := by
  intro pins s σ H xs us Q I r h
  obtain ⟨fd, ps, ds, G, b, hd⟩ := F
  have r2 : Vals (xs ++ dvs) (us ++ ds) := r.append hd
  have hl : (us ++ ds).length = ps.length := by rw [← r2.length]; exact G.len _ _ _ _ h
  refine wpAny_call (codeAny_mono (G.run X.A X.stack s H ⟨us, []⟩ (us ++ ds) (xs ++ dvs) Q E hr hg I.env0 (b s us I.kIn hl) r2 h) fun r s' hq => ?_)
  cases r with
  | error e => exact hx pins σ H s e s' I hq
  | ok fl =>
    cases fl with
    | ret u => exact I.after hq
    | next => exact False.elim hq
    | brk => exact False.elim hq
    | cont => exact False.elim hq
theorem ins_look {pins : List (Addr × Obj)} {σ : L2.St} {H : Hp} {s : Shared} {a dx : Addr} {fs : List (Str × V)} (I : Inv X pins σ H s) (h : H a = some (.ins C dx fs)) : ∃ ox od, PySem.W.InstAt s.heap a ox C od := by
  obtain ⟨mA, O, _, _, _, _⟩ := ins_get I.hok h
  obtain ⟨od, J, _⟩ := O.look
  exact ⟨_, _, J⟩
end
end Gh
end
section
namespace Gh
open PySem PySem.Spec PyProof.Rows L2
def Keep (H H' : Hp) (p : Addr) : Prop := ∀ a o, H a = some o → a ≠ p → H' a = some o
theorem Keep.refl {H : Hp} {p : Addr} : Keep H H p := fun _ _ h _ => h
theorem Keep.trans {H H' H'' : Hp} {p : Addr} (h : Keep H H' p) (k : Keep H' H'' p) : Keep H H'' p := fun a o e n => k a o (h a o e n) n
theorem Keep.new {H H' : Hp} {p q : Addr} {o : HO} (h : Keep H H' p) (n : H' q = none) : Keep H (upd H' q o) p := fun a u e ne => by
  rw [upd_ne (ne_of_none (h a u e ne) n)]
  exact h a u e ne
def PenAt (H : Hp) (p : Addr) (b : Nat) : Prop := ∃ (c : Addr) (ns : List Int) (i z : Int), H p = some (.lst [.ref c, .int i, .int z]) ∧ H c = some (.lst (ns.map V.int)) ∧ ns.length ≤ 63 ∧ 0 ≤ i ∧ i + b ≤ 1000000 ∧ 0 ≤ z
theorem pen_ne {H : Hp} {p c : Addr} {ns : List Int} {i z : Int} (h : H p = some (.lst [.ref c, .int i, .int z])) (k : H c = some (.lst (ns.map V.int))) : c ≠ p := by
  refine ne_of k h fun e => ?_
  have e2 : ns.map V.int = [.ref c, .int i, .int z] := HO.lst.inj e
  cases ns with
  | nil => cases e2
  | cons n r => cases (List.cons.inj e2).1
theorem PenAt.new {H : Hp} {p q : Addr} {b : Nat} {o : HO} (h : PenAt H p b) (n : H q = none) : PenAt (upd H q o) p b := by
  obtain ⟨c, ns, i, z, h1, h2, h3⟩ := h
  exact ⟨c, ns, i, z, by rw [upd_ne (ne_of_none h1 n)]; exact h1, by rw [upd_ne (ne_of_none h2 n)]; exact h2, h3⟩
theorem PenAt.same {H H' : Hp} {p : Addr} {b : Nat} (h : PenAt H p b) (n : L2.Same H H') : PenAt H' p b := by
  obtain ⟨c, ns, i, z, h1, h2, h3⟩ := h
  exact ⟨c, ns, i, z, n _ _ h1, n _ _ h2, h3⟩
theorem same_new {H : Hp} {q : Addr} {o : HO} (n : H q = none) : L2.Same H (upd H q o) := fun a u e => by
  rw [upd_ne (ne_of_none e n)]
  exact e
end Gh
end
section
namespace Gh
open PySem PySem.Spec PyProof.Rows L2
theorem PenAt.ne {H : Hp} {p c : Addr} {b : Nat} (h : PenAt H p b) (n : H c = none) : c ≠ p := by
  obtain ⟨d, ns, i, z, h1, _⟩ := h
  exact (ne_of_none h1 n).symm
section
variable {X : Cx} {K : PySem.W.Frag}
end
end Gh
end
section
namespace Gh
open PySem PySem.Spec PyProof.Rows L2
def exk (a C d : Addr) : HO := .ext fun h => ∃ (o : Obj) (vs : Array Value), h.get? a = some o ∧ o.cls = .ref C ∧ o.dict = some d ∧ o.data = .fields vs
def exk0 (a C : Addr) : HO := .ext fun h => ∃ (o : Obj) (vs : Array Value), h.get? a = some o ∧ o.cls = .ref C ∧ o.dict = none ∧ o.data = .fields vs
structure ErrT (K : PySem.W.Frag) (C : Addr) : Prop where
  hg : PySem.W.findIn K (.ref C) "__getattribute__" = some (some (.builtin "BaseException.__getattribute__"))
  hk : PySem.W.findIn K (.ref C) "__getattr__" = some none
  hs : PySem.W.subIn K (.ref C) (.type "BaseException") = some true
  hd : PySem.W.hasDictIn K C = true
  ha : PySem.W.findIn K (.ref C) "__class__" = some (some (.builtin "object.__class__"))
  hn : PySem.W.specialIn K (.builtin "object.__class__") "__get__" = some (some (.builtin "getset_descriptor.__get__"))
  htk : PySem.W.takesIn K (.builtin "object.__class__") = some true
  hm : PySem.W.mroIn K C (.type "object") = some true
section
variable {X : Cx} {e : Expr} {te : TE} {pos : Pos} {n : Str}
end
section
variable {X : Cx} {x n : Str} {c : Value} {i : Nat} {body suite : List Stmt} {b₀ : Stmt} {np pos pos' : Pos} {tb : WX → TS} {ts : Addr → Value → Option Addr → TS} {Wout : WX}
end
end Gh
end
section
namespace Gh
open PySem PySem.Spec PyProof.Rows L2
structure SaysT (ex : List (PySem.W.Frag → Bool)) (fn : List Df) (tf : List He.Defn) (h : Heap) (K : PySem.W.Frag) : Prop where
  t : Says ex fn K
  hd : ∀ p ∈ tf, PySem.W.codeHdIn K (He.cT K p).1 (He.cT K p).2 = true
  out : ∀ p ∈ tf, K.lookup (He.cT K p).2 = none
  empty : ∀ p ∈ tf, h.get? (He.cT K p).2 = some { cls := .none, data := .fields #[] }
abbrev AlT : Type := Al × Bool
end Gh
end
section
namespace Gh
open PySem PySem.Spec PyProof.Rows L2
def PromO (P : Program) (w : World) (K : PySem.W.Frag) (mg : Str → Option Value) (base : Heap) (CX : CXT) (k : Nat) (f : Addr) (dvs : List V) (sp : Sp) : Prop :=
  ∃ (fd : FuncData) (ps : List Str) (ds : List Value), FnOk P w K mg base CX k f fd ps sp ∧ Binds K fd ps ds ∧ Vals dvs ds
section
variable {X : Cx} {CX : CXT} {k : Nat} {f g C : Addr} {sp : Sp} {dvs : List V} {E : XK} {m : Str} {pos : Pos} {o : Expr} {ta : TE}
abbrev PromOX (X : Cx) (CX : CXT) (k : Nat) (f : Addr) (dvs : List V) (sp : Sp) : Prop := PromO X.prog X.w X.K X.mg X.base CX k f dvs sp
theorem PromO.call (F : PromOX X CX k f dvs sp) (hr : Room k X.A) (hx : Passes CX X E) : CallR X (.ref f) (rSp sp dvs E) := by
  intro pins s σ H xs us Q I r h
  obtain ⟨fd, ps, ds, G, b, hd⟩ := F
  exact run_fn G hr b hd hx I r h
end
inductive Kd (H : Hp) : V → Prop
  | non : Kd H .non
  | bl (b : Bool) : Kd H (.bl b)
  | int (i : Int) : Kd H (.int i)
  | str (x : Str) : Kd H (.str x)
  | lst {a : Addr} {xs : List V} (h : H a = some (.lst xs)) : Kd H (.ref a)
  | tup {a : Addr} {xs : List V} (h : H a = some (.tup xs)) : Kd H (.ref a)
  | dK {a : Addr} {kvs : List (Key × V)} (h : H a = some (.dK kvs)) : Kd H (.ref a)
theorem Kd.ty {K : PySem.W.Frag} {H : Hp} {v : V} (k : Kd H v) : ∃ n : String, TyX K H v (.type n) ∧ ((∃ i, v = .int i) ∧ n = "int" ∨ (∃ b, v = .bl b) ∧ n = "bool" ∨ (∀ i, v ≠ .int i) ∧ (∀ b, v ≠ .bl b) ∧ n ∈ (["NoneType", "str", "list", "tuple", "dict"] : List String)) := by
  cases k with
  | non => exact ⟨_, .base .non, .inr (.inr ⟨fun _ => nofun, fun _ => nofun, by decide⟩)⟩
  | bl b => exact ⟨_, .base (.bl b), .inr (.inl ⟨⟨b, rfl⟩, rfl⟩)⟩
  | int i => exact ⟨_, .base (.int i), .inl ⟨⟨i, rfl⟩, rfl⟩⟩
  | str x => exact ⟨_, .base (.str x), .inr (.inr ⟨fun _ => nofun, fun _ => nofun, by decide⟩)⟩
  | lst h => exact ⟨_, .base (.lst h), .inr (.inr ⟨fun _ => nofun, fun _ => nofun, by decide⟩)⟩
  | tup h => exact ⟨_, .base (.tup h), .inr (.inr ⟨fun _ => nofun, fun _ => nofun, by decide⟩)⟩
  | dK h => exact ⟨_, .base (.dK h), .inr (.inr ⟨fun _ => nofun, fun _ => nofun, by decide⟩)⟩
theorem Kd.same {H H' : Hp} {v : V} (k : Kd H v) (s : L2.Same H H') : Kd H' v := by
  cases k with
  | non => exact .non
  | bl b => exact .bl b
  | int i => exact .int i
  | str x => exact .str x
  | lst h => exact .lst (s _ _ h)
  | tup h => exact .tup (s _ _ h)
  | dK h => exact .dK (s _ _ h)
end Gh
end
section
namespace Gh
open PySem PySem.Spec PyProof.Rows L2
inductive Shw (K : PySem.W.Frag) (H : Hp) : V → Str → Prop
  | non : Shw K H .non "None"
  | bl (b : Bool) : Shw K H (.bl b) (if b then "True" else "False")
  | int (i : Int) : i.natAbs.log2 < 1920 → Shw K H (.int i) (toString i)
  | str (x : Str) : (reprText x).length ≤ sizeLine → Shw K H (.str x) (reprText x)
  | dp {a : Addr} {d : PyData} : Dp K H (.ref a) d → d.showable = true → d.hasDict = false → d.depth ≤ 100 → d.shown.length ≤ sizeLine → Shw K H (.ref a) d.shown
theorem sqL_same {K : PySem.W.Frag} {H H' : Hp} {a : Addr} {xs : List V} (h : SqL K H a xs) (s : L2.Same H H') : SqL K H' a xs := by
  rcases h with (h | ⟨o, h⟩) | h
  · exact .inl (.inl (s _ _ h))
  · exact .inl (.inr ⟨o, s _ _ h⟩)
  · exact .inr h
theorem sqT_same {K : PySem.W.Frag} {H H' : Hp} {a : Addr} {xs : List V} (h : SqT K H a xs) (s : L2.Same H H') : SqT K H' a xs := by
  rcases h with (h | ⟨o, h⟩) | h
  · exact .inl (.inl (s _ _ h))
  · exact .inl (.inr ⟨o, s _ _ h⟩)
  · exact .inr h
mutual
theorem dp_same {K : PySem.W.Frag} {H H' : Hp} (s : L2.Same H H') : ∀ {v : V} {d : PyData}, Dp K H v d → Dp K H' v d
  | _, _, .non => .non
  | _, _, .bl b => .bl b
  | _, _, .int i => .int i
  | _, _, .str x => .str x
  | _, _, .lst h a => .lst (sqL_same h s) (dpAll_same s a)
  | _, _, .tup h a => .tup (sqT_same h s) (dpAll_same s a)
theorem dpAll_same {K : PySem.W.Frag} {H H' : Hp} (s : L2.Same H H') : ∀ {vs : List V} {ds : List PyData}, DpAll K H vs ds → DpAll K H' vs ds
  | _, _, .nil => .nil
  | _, _, .cons a r => .cons (dp_same s a) (dpAll_same s r)
end
theorem Shw.same {K : PySem.W.Frag} {H H' : Hp} {v : V} {t : Str} (h : Shw K H v t) (s : L2.Same H H') : Shw K H' v t := by
  cases h with
  | non => exact .non
  | bl b => exact .bl b
  | int i h => exact .int i h
  | str x h => exact .str x h
  | dp a b c d e => exact .dp (dp_same s a) b c d e
section
variable {X : Cx} {K : PySem.W.Frag}
variable {CX : CXT} {x : Str} {C fI : Addr} {k : Nat} {sp : Sp} {dvs : List V} {e : Expr} {es : List Expr} {ta : TA} {p pos : Pos}
end
end Gh
end
section
namespace Gh
open PySem PySem.Spec PyProof.Rows L2
structure Nw (H H' : Hp) (p : Addr) (o : HO) : Prop where
  no : H p = none
  same : L2.Same H H'
  at_ : H' p = some o
structure Mu (H H' : Hp) (p : Addr) (o : HO) : Prop where
  keep : Keep H H' p
  at_ : H' p = some o
section
variable {H H' : Hp} {p a l : Addr} {o u : HO}
theorem Nw.up (n : Nw H H' p o) (h : H a = some u) : H' a = some u := n.same _ _ h
theorem Mu.up (n : Mu H H' p o) (e : a ≠ p) (h : H a = some u) : H' a = some u := n.keep _ _ h e
theorem Mu.free (n : Mu H H' p o) (h : H' a = none) : H a = none := by
  cases e : H a with
  | none => rfl
  | some u =>
    by_cases q : a = p
    · subst q
      rw [n.at_] at h
      cases h
    · rw [n.up q e] at h
      cases h
theorem Nw.ne (n : Nw H H' l o) (h : H a = some u) : l ≠ a := fun e => by
  rw [← e, n.no] at h
  cases h
end
def Pen (H : Hp) (p c : Addr) (b : Nat) : Prop := ∃ (ns : List Int) (i z : Int), H p = some (.lst [.ref c, .int i, .int z]) ∧ H c = some (.lst (ns.map V.int)) ∧ ns.length ≤ 63 ∧ 0 ≤ i ∧ i + b ≤ 1000000 ∧ 0 ≤ z
section
variable {H H' : Hp} {p c a l : Addr} {o u : HO} {b k : Nat} {xs : List V} {C dx : Addr} {fs : List (Str × V)}
theorem Pen.same (n : L2.Same H H') (h : Pen H p c b) : Pen H' p c b := by
  obtain ⟨ns, i, z, h1, h2, h3⟩ := h
  exact ⟨ns, i, z, n _ _ h1, n _ _ h2, h3⟩
theorem Pen.keep (n : Keep H H' l) (e1 : l ≠ p) (e2 : l ≠ c) (h : Pen H p c b) : Pen H' p c b := by
  obtain ⟨ns, i, z, h1, h2, h3⟩ := h
  exact ⟨ns, i, z, n _ _ h1 e1.symm, n _ _ h2 e2.symm, h3⟩
theorem Pen.cells (h : Pen H p c b) : c ≠ p := by
  obtain ⟨ns, i, z, h1, h2, h3⟩ := h
  exact pen_ne h1 h2
end
section
variable {H H' : Hp} {a t l : Addr} {o u : HO} {xs ys : List V} {C dx : Addr} {fs : List (Str × V)}
end
section
variable {H : Hp} {E : XK} {Q : VK} {p c l : Addr} {b : Nat} {m : Int} {xs : List V}
end
section
variable {X : Cx} {K : PySem.W.Frag}
end
section
variable {K : PySem.W.Frag} {H : Hp} {σ : L2.St} {Q : VK} {D : Ends} {i j n : Int} {x y v : V} {ta tb tc te tf : TE} {t u : TS} {c d : TT} {k : Bool} {a l p C dx : Addr} {xs ys : List V} {A B : Prop}
end
end Gh
end
section
namespace Gh
open PySem PySem.Spec PyProof.Rows L2
section
variable {X : Cx} {a b c d : Expr} {ta tb tc td : TE} {pos : Pos}
end
def CallK (X : Cx) (u : Value) (ks : List Str) (r : List V → List V → Hp → VK → Prop) : Prop := ∀ (pins : List (Addr × Obj)) (s : Shared) (σ : L2.St) (H : Hp) (vs zs : List V) (us ws : List Value) (Q : VK), Inv X pins σ H s → Vals vs us → Vals zs ws → r vs zs H Q → wpAny (model X.prog X.w) X.A (call u us (ks.zip ws)) (EP X pins σ Q) X.xe s
def PromK (P : Program) (w : World) (K : PySem.W.Frag) (mg : Str → Option Value) (base : Heap) (CX : CXT) (k : Nat) (f : Addr) (n : Nat) (ks : List Str) (gV : List V → List V → List V) (sp : Sp) : Prop :=
  ∃ (fd : FuncData) (ps : List Str) (g : List Value → List Value → List Value), FnOk P w K mg base CX k f fd ps sp ∧ KBn K fd ps n ks g gV
section
variable {K : PySem.W.Frag} {x qual : Str} {params : Arguments} {body : List Stmt} {scope : Scope} {dvs : List V} {kws : List (Str × V)} {f : Addr} {fd : FuncData} {ps : List Str}
end
section
variable {X : Cx} {CX : CXT} {k n : Nat} {f C : Addr} {ks : List Str} {sp : Sp} {E : XK} {x m : Str} {p pos apos : Pos} {e o : Expr} {es : List Expr} {kws : List Keyword} {t tk : TA} {ta : TE} {gV : List V → List V → List V} {r : List V → List V → Hp → VK → Prop}
def rSpK (n m : Nat) (gV : List V → List V → List V) (sp : Sp) (E : XK) : List V → List V → Hp → VK → Prop := fun vs zs H Q => vs.length = n ∧ zs.length = m ∧ sp (gV vs zs) H Q E
theorem PromK.call (F : PromK X.prog X.w X.K X.mg X.base CX k f n ks gV sp) (hr : Room k X.A) (hx : Passes CX X E) : CallK X (.ref f) ks (rSpK n ks.length gV sp E) := by
  intro pins s σ H vs zs us ws Q I rv rz ⟨l1, l2, h⟩
  obtain ⟨fd, ps, g, G, b⟩ := F
  exact run_fnN G hr b hx I rv rz l1 l2 h
end
section
variable {H : Hp} {σ : L2.St} {Q : VK} {ta : TE} {t tk : TA} {r : List V → List V → Hp → VK → Prop} {C : Addr} {m : Str} {n k : Nat} {gV : List V → List V → List V} {sp : Sp} {E : XK} {vs zs : List V}
end
end Gh
end
section
namespace Gh
open PySem PySem.Spec PyProof.Rows L2
structure Fn (d : PyData) (n b : Nat) : Prop where
  cl : d.canLay0 = true
  sh : d.showable = true
  nd : d.hasDict = false
  ls : d.leavesShort 200 = true
  dp : d.depth ≤ n
  bk : d.bulk ≤ b
structure FnAll (ds : List PyData) (n b : Nat) : Prop where
  cl : PyData.canLayAll0 ds = true
  sh : PyData.showableAll ds = true
  nd : PyData.hasDictAll ds = false
  ls : PyData.leavesShortAll 200 ds = true
  dp : PyData.depthAll ds ≤ n
  bk : PyData.bulkAll ds ≤ b
theorem log_lt100 {i : Int} (h1 : -(10 ^ 100) < i) (h2 : i < 10 ^ 100) : i.natAbs.log2 < 1920 := by
  have h : i.natAbs < 2 ^ 1920 := Nat.lt_of_lt_of_le (show i.natAbs < 10 ^ 100 by omega) (by decide)
  by_cases h0 : i.natAbs = 0
  · rw [h0]
    decide
  · exact (Nat.log2_lt h0).mpr h
theorem Fn.int {i : Int} (h1 : -(10 ^ 100) < i) (h2 : i < 10 ^ 100) : Fn (.int i) 0 0 := by
  refine ⟨rfl, decide_eq_true (log_lt100 h1 h2), rfl, ?_, Nat.le_refl _, Nat.le_refl _⟩
  have e := int_text_length_le10 (a := i) (k := 100) (by decide) (by omega)
  refine decide_eq_true ?_
  show (Str.ofString (toString i)).length ≤ 200
  rw [PySem.ofString_length]
  omega
theorem Fn.bool (b : Bool) : Fn (.bool b) 0 0 := ⟨rfl, rfl, rfl, rfl, Nat.le_refl _, Nat.le_refl _⟩
theorem Fn.none : Fn .none 0 0 := ⟨rfl, rfl, rfl, rfl, Nat.le_refl _, Nat.le_refl _⟩
theorem Fn.str {x : Str} (h0 : (PyData.str x).canLay0 = true) (h : (x.cps.toList.all fun c => decide (c < 16 ^ 8)) = true) : Fn (.str x) 0 x.cps.size := ⟨h0, rfl, rfl, h, Nat.le_refl _, Nat.le_refl _⟩
theorem FnAll.nil {n b : Nat} : FnAll [] n b := ⟨rfl, rfl, rfl, rfl, Nat.zero_le _, Nat.zero_le _⟩
theorem FnAll.cons {d : PyData} {ds : List PyData} {n b c : Nat} (h : Fn d n b) (k : FnAll ds n c) : FnAll (d :: ds) n (b + 1 + c) := by
  refine ⟨?_, ?_, ?_, ?_, ?_, ?_⟩
  · show (d.canLay0 && _) = true
    rw [h.cl, k.cl] <;> rfl
  · show (d.showable && _) = true
    rw [h.sh, k.sh] <;> rfl
  · show (d.hasDict || _) = false
    rw [h.nd, k.nd] <;> rfl
  · show (d.leavesShort 200 && _) = true
    rw [h.ls, k.ls] <;> rfl
  · show max _ _ ≤ n
    exact Nat.max_le.mpr ⟨h.dp, k.dp⟩
  · show d.bulk + 1 + _ ≤ _
    have := h.bk
    have := k.bk
    omega
theorem Fn.list {ds : List PyData} {n b : Nat} (h : FnAll ds n b) : Fn (.list ds) (n + 1) b := ⟨h.cl, h.sh, h.nd, h.ls, Nat.succ_le_succ h.dp, h.bk⟩
theorem Fn.tuple {ds : List PyData} {n b : Nat} (h : FnAll ds n b) : Fn (.tuple ds) (n + 1) b := ⟨h.cl, h.sh, h.nd, h.ls, Nat.succ_le_succ h.dp, h.bk⟩
theorem Fn.shaped {d : PyData} {n b : Nat} (h : Fn d n b) (hn : n ≤ 64) : SeqAt.shaped d = true := by
  unfold SeqAt.shaped
  rw [h.cl, decide_eq_true (Nat.le_trans h.dp hn)] <;> rfl
theorem Fn.eqv {d : PyData} {n b : Nat} (h : Fn d n b) : PyData.eqv d d = true := SeqAt.eqv_refl d h.cl
section
variable {K : PySem.W.Frag} {H : Hp} {a : Addr} {ns : List Int}
end
section
variable {H H' : Hp} {a l p c : Addr} {u : HO} {b : Nat}
end
section
variable {K : PySem.W.Frag} {H : Hp} {σ : L2.St} {Q : VK} {m : Nat} {tt : TT} {te tl : TE} {vs : List Nat} {t : TA} {a : Addr} {xs : List V}
end
section
variable {H H' : Hp} {a l p c : Addr} {u : HO} {b : Nat}
end
section
variable {K : PySem.W.Frag} {H : Hp} {σ : L2.St} {D : Ends} {m : Nat} {g : TG} {tb : TS} {tl : TE} {t : TA} {a : Addr} {xs : List V}
end
section
end
end Gh
end
section
namespace Gh
open PySem PySem.Spec PyProof.Rows L2
section
variable {H H' : Hp} {a l p c t : Addr} {o u : HO} {b : Nat} {xs : List V} {T : List (Addr × Str)} {C dx : Addr} {fs : List (Str × V)}
theorem tabs_of (h : LamX.Tabs T H) (k1 : ∀ a ps, H a = some (.tbl ps) → H' a = some (.tbl ps)) (k2 : ∀ a c q, H a = some (LamX.CodeO c q) → H' a = some (LamX.CodeO c q)) : LamX.Tabs T H' := fun q hq => by
  obtain ⟨ps, h1, h2, h3⟩ := h q hq
  refine ⟨ps, k1 _ _ h1, h2, fun pos cv hc => ?_⟩
  obtain ⟨c', e1, e2⟩ := h3 pos cv hc
  exact ⟨c', e1, k2 _ _ _ e2⟩
theorem tabs_keepL (n : Keep H H' l) (e : H l = some (.lst xs)) (h : LamX.Tabs T H) : LamX.Tabs T H' :=
  tabs_of h (fun a ps q => n _ _ q (ne_of q e (by intro z; cases z))) (fun a c q z => n _ _ z (ne_of z e (by intro y; unfold LamX.CodeO at y; cases y)))
def Fr (H H' : Hp) (p : Addr) : Prop := ∀ a o, H a = some o → a ≠ p → (∀ ps, o ≠ .tbl ps) → H' a = some o
theorem Fr.refl : Fr H H p := fun _ _ h _ _ => h
theorem Fr.trans {H1 : Hp} (n : Fr H H1 p) (k : Fr H1 H' p) : Fr H H' p := fun a o h e z => k a o (n a o h e z) e z
end
section
variable {X : Cx} {H : Hp} {σ : L2.St} {Q : VK} {T : List (Addr × Str)} {TT : (XK → Hp → VK → Prop) → Hp → VK → Prop} {t : XK → TE}
end
end Gh
end
section
namespace Gh
open PySem PySem.Spec PyProof.Rows L2
section
variable {X : Cx} {CX : CXT} {k : Nat} {C f : Addr} {sp : Sp} {E : XK} {r : List V → Hp → VK → Prop}
def nfB (x : Str) (K : PySem.W.Frag) : Bool := (["NoneType", "bool", "int", "str", "list", "tuple", "dict"] : List String).all fun n => PySem.W.notFirst K (gd x K) (.type n)
theorem InsT.ty {K : PySem.W.Frag} {H : Hp} {a C dx : Addr} {fs : List (Str × V)} (t : InsT K C) (c : Cls K C) (h : H a = some (.ins C dx fs)) : TyX K H (.ref a) (.ref C) := .base (.ins h c t.ha t.hn t.htk t.hm)
end
end Gh
end
section
namespace Gh
open PySem PySem.Spec PyProof.Rows L2
section
variable {prog : Program} {w : World} {A : Around} {E : Value → Shared → Prop} {s : Shared} {K : PySem.W.Frag} {x C f L : Addr} {h₀ : Heap} {m : Str → Option Value} {ox : Obj} {od : Option Obj} {b tb : Value}
end
section
variable {X : Cx} {CX : CXT} {k : Nat} {C f : Addr} {sp : Sp} {E : XK}
def neB (x : Str) (K : PySem.W.Frag) : Bool := He.eqO (PySem.W.findIn K (.ref (gd x K)) "__ne__") (some (some (.builtin "object.__ne__"))) && decide (PySem.W.subIn K (.ref (gd x K)) (.type "object") = some true)
end
end Gh
end
section
namespace Gp
open PySem PySem.Spec PyProof.Rows L2 Gh
inductive D where
  | non | bl (b : Bool) | int (i : Int) | str (x : Str) | tup (ds : List D) | lst (ds : List D)
  | obj (c : Str) (fs : List (Str × D)) | err (c : Str) (fs : List (Str × D)) | pen
  | cls (c : Str) | er0 (c : Str) | dct | dic (ps : List (Key × D)) | dit (ps : List (List Key × D)) | dik (ps : List (Key × D))
abbrev Fs := List (Str × D)
inductive Tr (α : Type) where
  | ok (a : α) | ex (c : Str) (fs : Fs) | bad | draw (m : Int) (k : Int → Tr α)
section
variable {α β γ : Type}
def bd : Tr α → (α → Tr β) → Tr β
  | .ok a, k => k a
  | .ex c fs, _ => .ex c fs
  | .bad, _ => .bad
  | .draw m f, k => .draw m fun d => bd (f d) k
def Al (P : α → Nat → Prop) (E : Str → Fs → Nat → Prop) : Tr α → Nat → Prop
  | .ok a, b => P a b
  | .ex c fs, b => E c fs b
  | .bad, _ => False
  | .draw m k, b => ∃ b', b = b' + 1 ∧ 0 < m ∧ m < 10 ^ 100 ∧ ∀ d, 0 ≤ d → d < m → Al P E (k d) b'
def nox : Tr α → Tr α
  | .ok a => .ok a
  | .ex _ _ => .bad
  | .bad => .bad
  | .draw m f => .draw m fun d => nox (f d)
theorem bd_bd (m : Tr α) (k : α → Tr β) (l : β → Tr γ) : bd (bd m k) l = bd m fun a => bd (k a) l := by
  induction m with
  | draw m f ih =>
    show Tr.draw m _ = Tr.draw m _
    congr 1
    funext d
    exact ih d
  | _ => rfl
theorem Al.mono {P P' : α → Nat → Prop} {E E' : Str → Fs → Nat → Prop} (hP : ∀ a b, P a b → P' a b) (hE : ∀ c fs b, E c fs b → E' c fs b) {m : Tr α} {b : Nat} (h : Al P E m b) : Al P' E' m b := by
  induction m generalizing b with
  | ok a => exact hP _ _ h
  | ex c fs => exact hE _ _ _ h
  | bad => exact h
  | draw m f ih =>
    obtain ⟨b', e, h1, h2, h3⟩ := h
    exact ⟨b', e, h1, h2, fun d d0 d1 => ih d (h3 d d0 d1)⟩
end
def pr2 : List D → Bool
  | [.int _, .int _] => true
  | _ => false
structure Gw where
  K : PySem.W.Frag
  T : List (Addr × Str)
  p : Addr
  c : Addr
mutual
inductive Den (g : Gw) (U : Addr → Prop) (H : Hp) : V → D → Prop
  | non : Den g U H .non .non
  | bl (b : Bool) : Den g U H (.bl b) (.bl b)
  | int (i : Int) : Den g U H (.int i) (.int i)
  | str (x : Str) : x.length ≤ sizeLine → Den g U H (.str x) (.str x)
  | tup {a : Addr} {vs : List V} {ds : List D} : H a = some (.tup vs) → ¬ U a → vs.length ≤ sizeLine → DenL g U H vs ds → Den g U H (.ref a) (.tup ds)
  | tupW {a : Addr} {vs : List V} {ds : List D} : (∀ H', SqT g.K H' a vs) → vs.length ≤ sizeLine → DenL g U H vs ds → pr2 ds = false → Den g U H (.ref a) (.tup ds)
  | lst {a : Addr} {vs : List V} {ds : List D} : H a = some (.lst vs) → ¬ U a → vs.length ≤ sizeLine → DenL g U H vs ds → Den g U H (.ref a) (.lst ds)
  | obj {a dx : Addr} {c : Str} {fvs : List (Str × V)} {fs : List (Str × D)} : H a = some (.ins (gd c g.K) dx fvs) → ¬ U a → DenF g U H fvs fs → Den g U H (.ref a) (.obj c fs)
  | err {a d : Addr} {c : Str} {fvs : List (Str × V)} {fs : List (Str × D)} : H a = some (exk a (gd c g.K) d) → ¬ U a → H d = some (.xd fvs) → ¬ U d → DenF g U H fvs fs → Den g U H (.ref a) (.err c fs)
  | pen : Den g U H (.ref g.p) .pen
  | cls (c : Str) : Den g U H (.ref (gd c g.K)) (.cls c)
  | er0 {a : Addr} {c : Str} : H a = some (exk0 a (gd c g.K)) → ¬ U a → Den g U H (.ref a) (.er0 c)
  | dct {a : Addr} : H a = some (.dK []) → ¬ U a → Den g U H (.ref a) .dct
  | dic {a : Addr} {kvs : List (Key × V)} {ps : List (Key × D)} : H a = some (.dK kvs) → ¬ U a → kvs.map (·.1) = ps.map (·.1) → DenL g U H (kvs.map (·.2)) (ps.map (·.2)) → Den g U H (.ref a) (.dic ps)
  | dit {a : Addr} {ob : Obj} {kvs : List (List Key × V)} {ps : List (List Key × D)} : H a = some (.frz ob (.dT kvs)) → ¬ U a → kvs.map (·.1) = ps.map (·.1) → DenL g U H (kvs.map (·.2)) (ps.map (·.2)) → Den g U H (.ref a) (.dit ps)
  | dik {a : Addr} {ob : Obj} {kvs : List (Key × V)} {ps : List (Key × D)} : H a = some (.frz ob (.dK kvs)) → ¬ U a → kvs.map (·.1) = ps.map (·.1) → DenL g U H (kvs.map (·.2)) (ps.map (·.2)) → Den g U H (.ref a) (.dik ps)
inductive DenL (g : Gw) (U : Addr → Prop) (H : Hp) : List V → List D → Prop
  | nil : DenL g U H [] []
  | cons {v : V} {vs : List V} {d : D} {ds : List D} : Den g U H v d → DenL g U H vs ds → DenL g U H (v :: vs) (d :: ds)
inductive DenF (g : Gw) (U : Addr → Prop) (H : Hp) : List (Str × V) → List (Str × D) → Prop
  | nil : DenF g U H [] []
  | cons {n : Str} {v : V} {vs : List (Str × V)} {d : D} {ds : List (Str × D)} : Den g U H v d → DenF g U H vs ds → DenF g U H ((n, v) :: vs) ((n, d) :: ds)
end
section
variable {g : Gw} {U U' : Addr → Prop} {H H' : Hp}
def ExtU (U : Addr → Prop) (H H' : Hp) : Prop := ∀ a o, H a = some o → ¬ U a → (∀ ps, o ≠ .tbl ps) → H' a = some o
mutual
theorem Den.ext (e : ExtU U H H') : ∀ {v : V} {d : D}, Den g U H v d → Den g U H' v d
  | _, _, .non => .non
  | _, _, .bl b => .bl b
  | _, _, .int i => .int i
  | _, _, .str x h => .str x h
  | _, _, .tup h n l k => .tup (e _ _ h n (fun _ z => by cases z)) n l (DenL.ext e k)
  | _, _, .tupW h l k nk => .tupW h l (DenL.ext e k) nk
  | _, _, .lst h n l k => .lst (e _ _ h n (fun _ z => by cases z)) n l (DenL.ext e k)
  | _, _, .obj h n k => .obj (e _ _ h n (fun _ z => by cases z)) n (DenF.ext e k)
  | _, _, .err h n h2 n2 k => .err (e _ _ h n (fun _ z => by unfold exk at z; cases z)) n (e _ _ h2 n2 (fun _ z => by cases z)) n2 (DenF.ext e k)
  | _, _, .pen => .pen
  | _, _, .cls c => .cls c
  | _, _, .er0 h n => .er0 (e _ _ h n (fun _ z => by unfold exk0 at z; cases z)) n
  | _, _, .dct h n => .dct (e _ _ h n (fun _ z => by cases z)) n
  | _, _, .dic h n l k => .dic (e _ _ h n (fun _ z => by cases z)) n l (DenL.ext e k)
  | _, _, .dit h n l k => .dit (e _ _ h n (fun _ z => by cases z)) n l (DenL.ext e k)
  | _, _, .dik h n l k => .dik (e _ _ h n (fun _ z => by cases z)) n l (DenL.ext e k)
theorem DenL.ext (e : ExtU U H H') : ∀ {vs : List V} {ds : List D}, DenL g U H vs ds → DenL g U H' vs ds
  | _, _, .nil => .nil
  | _, _, .cons a r => .cons (Den.ext e a) (DenL.ext e r)
theorem DenF.ext (e : ExtU U H H') : ∀ {vs : List (Str × V)} {ds : List (Str × D)}, DenF g U H vs ds → DenF g U H' vs ds
  | _, _, .nil => .nil
  | _, _, .cons a r => .cons (Den.ext e a) (DenF.ext e r)
end
mutual
theorem Den.sub (e : ∀ a, (∃ o, H a = some o) → U' a → U a) : ∀ {v : V} {d : D}, Den g U H v d → Den g U' H v d
  | _, _, .non => .non
  | _, _, .bl b => .bl b
  | _, _, .int i => .int i
  | _, _, .str x h => .str x h
  | _, _, .tup h n l k => .tup h (fun z => n (e _ ⟨_, h⟩ z)) l (DenL.sub e k)
  | _, _, .tupW h l k nk => .tupW h l (DenL.sub e k) nk
  | _, _, .lst h n l k => .lst h (fun z => n (e _ ⟨_, h⟩ z)) l (DenL.sub e k)
  | _, _, .obj h n k => .obj h (fun z => n (e _ ⟨_, h⟩ z)) (DenF.sub e k)
  | _, _, .err h n h2 n2 k => .err h (fun z => n (e _ ⟨_, h⟩ z)) h2 (fun z => n2 (e _ ⟨_, h2⟩ z)) (DenF.sub e k)
  | _, _, .pen => .pen
  | _, _, .cls c => .cls c
  | _, _, .er0 h n => .er0 h (fun z => n (e _ ⟨_, h⟩ z))
  | _, _, .dct h n => .dct h (fun z => n (e _ ⟨_, h⟩ z))
  | _, _, .dic h n l k => .dic h (fun z => n (e _ ⟨_, h⟩ z)) l (DenL.sub e k)
  | _, _, .dit h n l k => .dit h (fun z => n (e _ ⟨_, h⟩ z)) l (DenL.sub e k)
  | _, _, .dik h n l k => .dik h (fun z => n (e _ ⟨_, h⟩ z)) l (DenL.sub e k)
theorem DenL.sub (e : ∀ a, (∃ o, H a = some o) → U' a → U a) : ∀ {vs : List V} {ds : List D}, DenL g U H vs ds → DenL g U' H vs ds
  | _, _, .nil => .nil
  | _, _, .cons a r => .cons (Den.sub e a) (DenL.sub e r)
theorem DenF.sub (e : ∀ a, (∃ o, H a = some o) → U' a → U a) : ∀ {vs : List (Str × V)} {ds : List (Str × D)}, DenF g U H vs ds → DenF g U' H vs ds
  | _, _, .nil => .nil
  | _, _, .cons a r => .cons (Den.sub e a) (DenF.sub e r)
end
theorem DenL.length : ∀ {vs : List V} {ds : List D}, DenL g U H vs ds → vs.length = ds.length
  | _, _, .nil => rfl
  | _, _, .cons _ r => congrArg (· + 1) (DenL.length r)
theorem DenL.append : ∀ {vs ws : List V} {ds es : List D}, DenL g U H vs ds → DenL g U H ws es → DenL g U H (vs ++ ws) (ds ++ es)
  | _, _, _, _, .nil, k => k
  | _, _, _, _, .cons a r, k => .cons a (DenL.append r k)
theorem DenL.getD : ∀ {vs : List V} {ds : List D} {i : Nat} {d : D}, DenL g U H vs ds → ds[i]? = some d → ∃ v, vs[i]? = some v ∧ Den g U H v d
  | _, _, i, v, .nil, e => by simp at e
  | _, _, 0, v, .cons a r, e => by simp at e; subst e; exact ⟨_, rfl, a⟩
  | _, _, i + 1, v, .cons a r, e => by
    obtain ⟨d, h1, h2⟩ := DenL.getD (i := i) (d := v) r (by simpa using e)
    exact ⟨d, by simpa using h1, h2⟩
theorem DenL.set : ∀ {vs : List V} {ds : List D} (n : Nat) {v : V} {d : D}, Den g U H v d → DenL g U H vs ds → DenL g U H (vs.set n v) (ds.set n d)
  | _, _, _, _, _, _, .nil => .nil
  | _, _, 0, _, _, h, .cons _ r => .cons h r
  | _, _, n + 1, _, _, h, .cons a r => .cons a (DenL.set n h r)
theorem DenF.look : ∀ {vs : List (Str × V)} {ds : List (Str × D)} {n : Str} {d : D}, DenF g U H vs ds → ds.lookup n = some d → ∃ v, vs.lookup n = some v ∧ Den g U H v d
  | _, _, _, _, .nil, e => by cases e
  | _, _, n, d, .cons (n := m) a r, e => by
    simp only [List.lookup] at e ⊢
    cases q : (n == m) with
    | true => rw [q] at e; cases e; exact ⟨_, rfl, a⟩
    | false => rw [q] at e; exact DenF.look r e
def putD (f : Str) (v : D) : List (Str × D) → List (Str × D)
  | [] => [(f, v)]
  | (g, x) :: r => if g = f then (g, v) :: r else (g, x) :: putD f v r
theorem DenF.length : ∀ {vs : List (Str × V)} {ds : List (Str × D)}, DenF g U H vs ds → vs.length = ds.length
  | _, _, .nil => rfl
  | _, _, .cons _ r => congrArg (· + 1) (DenF.length r)
end
structure Wd (g : Gw) (H : Hp) (b : Nat) : Prop where
  pen : Pen H g.p g.c b
  tabs : LamX.Tabs g.T H
structure Nt (o : HO) : Prop where
  tbl : ∀ ps, o ≠ .tbl ps
  tup : ∀ xs, o ≠ .tup xs
structure UOk (g : Gw) (U : Addr → Prop) (H : Hp) : Prop where
  p : U g.p
  c : U g.c
  al : ∀ a, U a → ∃ o, H a = some o ∧ Nt o
section
variable {g : Gw} {U U' : Addr → Prop} {H H' H1 H2 : Hp} {b : Nat}
theorem UOk.extU (u : UOk g U H) (f : Fr H H' g.p) : ExtU U H H' := fun a o h n z => f a o h (fun e => n (e ▸ u.p)) z
theorem UOk.fr (u : UOk g U H) (f : Fr H H' g.p) (w : Wd g H' b) : UOk g U H' := ⟨u.p, u.c, fun a ha => by
  by_cases e : a = g.p
  · subst e
    obtain ⟨ns, i, z, h, _⟩ := w.pen
    exact ⟨_, h, (fun _ z => by cases z), (fun _ z => by cases z)⟩
  · obtain ⟨o, h, n⟩ := u.al a ha
    exact ⟨o, f a o h e n.tbl, n⟩⟩
theorem Den.fr (u : UOk g U H) (f : Fr H H' g.p) {v : V} {d : D} (h : Den g U H v d) : Den g U H' v d := h.ext (u.extU f)
theorem DenL.fr (u : UOk g U H) (f : Fr H H' g.p) {v : List V} {d : List D} (h : DenL g U H v d) : DenL g U H' v d := h.ext (u.extU f)
theorem Wd.same (w : Wd g H b) (s : L2.Same H H') : Wd g H' b := ⟨w.pen.same s, w.tabs.ext s⟩
theorem fr_same (s : L2.Same H H') {p : Addr} : Fr H H' p := fun a o h _ _ => s a o h
theorem UOk.new (u : UOk g U H) {a : Addr} (h : H a = none) : ¬ U a := fun z => by
  obtain ⟨o, e, _⟩ := u.al a z
  rw [h] at e
  cases e
end
inductive Ow where
  | l (ds : List D) | d (x : D)
inductive DcR (g : Gw) (U : Addr → Prop) (H : Hp) : HO → D → Prop
  | k {kvs : List (Key × V)} {ps : List (Key × D)} : kvs.map (·.1) = ps.map (·.1) → DenL g U H (kvs.map (·.2)) (ps.map (·.2)) → DcR g U H (.dK kvs) (.dik ps)
  | t {kvs : List (List Key × V)} {ps : List (List Key × D)} : kvs.map (·.1) = ps.map (·.1) → DenL g U H (kvs.map (·.2)) (ps.map (·.2)) → DcR g U H (.dT kvs) (.dit ps)
def OwR (g : Gw) (U : Addr → Prop) (H : Hp) (o : HO) : Ow → Prop
  | .l ds => ∃ vs, o = .lst vs ∧ vs.length ≤ sizeLine ∧ DenL g U H vs ds
  | .d x => DcR g U H o x
theorem OwR.map {g : Gw} {U U' : Addr → Prop} {H H' : Hp} {o : HO} (f : ∀ {vs : List V} {ds : List D}, DenL g U H vs ds → DenL g U' H' vs ds) : ∀ {x : Ow}, OwR g U H o x → OwR g U' H' o x
  | .l ds, ⟨vs, e, l, k⟩ => ⟨vs, e, l, f k⟩
  | .d x, h => by
    cases h with
    | k a b => exact .k a (f b)
    | t a b => exact .t a (f b)
theorem OwR.no {g : Gw} {U : Addr → Prop} {H : Hp} {o : HO} : ∀ {x : Ow}, OwR g U H o x → (∃ vs, o = .lst vs) ∨ (∃ ks, o = .dK ks) ∨ ∃ ks, o = .dT ks
  | .l ds, ⟨vs, e, l, k⟩ => .inl ⟨vs, e⟩
  | .d x, h => by
    cases h with
    | k a b => exact .inr (.inl ⟨_, rfl⟩)
    | t a b => exact .inr (.inr ⟨_, rfl⟩)
theorem OwR.tbl {g : Gw} {U : Addr → Prop} {H : Hp} {o : HO} {x : Ow} (h : OwR g U H o x) : ∀ ps, o ≠ .tbl ps := fun ps e => by
  rcases h.no with ⟨vs, z⟩ | ⟨vs, z⟩ | ⟨vs, z⟩ <;> (rw [e] at z; cases z)
inductive Sl where
  | no | fz (d : D) | ow (ds : Ow) | oi (c : Str) (fs : Fs)
abbrev Env := List Sl
def SlR (g : Gw) (U : Addr → Prop) (H : Hp) (o : Option V) : Sl → Prop
  | .no => True
  | .fz d => ∃ v, o = some v ∧ Den g U H v d
  | .ow ds => ∃ a u, o = some (.ref a) ∧ H a = some u ∧ OwR g U H u ds ∧ U a ∧ a ≠ g.p ∧ a ≠ g.c
  | .oi c fs => ∃ a dx fvs, o = some (.ref a) ∧ H a = some (.ins (gd c g.K) dx fvs) ∧ DenF g U H fvs fs ∧ U a ∧ a ≠ g.p ∧ a ≠ g.c
def OwnAt (σ : L2.St) (ε : Env) (i : Nat) (a : Addr) : Prop := σ[i]? = some (some (.ref a)) ∧ ((∃ ds, ε[i]? = some (.ow ds)) ∨ ∃ c fs, ε[i]? = some (.oi c fs))
structure Rel (g : Gw) (U : Addr → Prop) (H : Hp) (σ : L2.St) (ε : Env) : Prop where
  len : σ.length = ε.length
  at_ : ∀ (i : Nat) (s : Sl), ε[i]? = some s → ∃ o, σ[i]? = some o ∧ SlR g U H o s
  apart : ∀ (i j : Nat) (a : Addr), i ≠ j → OwnAt σ ε i a → OwnAt σ ε j a → False
section
variable {g : Gw} {U U' : Addr → Prop} {H H' H1 H2 : Hp} {b : Nat} {σ : L2.St} {ε : Env}
theorem extU_of (hp : U g.p) (f : Fr H H' g.p) : ExtU U H H' := fun a o h n z => f a o h (fun e => n (e ▸ hp)) z
theorem SlR.frp (hp : U g.p) (f : Fr H H' g.p) {o : Option V} : ∀ {s : Sl}, SlR g U H o s → SlR g U H' o s
  | .no, _ => trivial
  | .fz d, ⟨v, e, h⟩ => ⟨v, e, h.ext (extU_of hp f)⟩
  | .ow ds, ⟨a, vs, e, h, k, ua, n1, n2⟩ => ⟨a, vs, e, f _ _ h n1 k.tbl, k.map (fun q => q.ext (extU_of hp f)), ua, n1, n2⟩
  | .oi c fs, ⟨a, dx, fvs, e, h, k, ua, n1, n2⟩ => ⟨a, dx, fvs, e, f _ _ h n1 (fun _ z => by cases z), k.ext (extU_of hp f), ua, n1, n2⟩
theorem SlR.fr (u : UOk g U H) (f : Fr H H' g.p) {o : Option V} {s : Sl} (h : SlR g U H o s) : SlR g U H' o s := h.frp u.p f
theorem Rel.frp (r : Rel g U H σ ε) (hp : U g.p) (f : Fr H H' g.p) : Rel g U H' σ ε := ⟨r.len, fun i s e => by
  obtain ⟨o, h1, h2⟩ := r.at_ i s e
  exact ⟨o, h1, h2.frp hp f⟩, r.apart⟩
theorem Rel.fr (r : Rel g U H σ ε) (u : UOk g U H) (f : Fr H H' g.p) : Rel g U H' σ ε := ⟨r.len, fun i s e => by
  obtain ⟨o, h1, h2⟩ := r.at_ i s e
  exact ⟨o, h1, h2.fr u f⟩, r.apart⟩
mutual
theorem Den.grow {x : Addr} (n : H x = none) : ∀ {v : V} {d : D}, Den g U H v d → Den g (fun a => U a ∨ a = x) H v d
  | _, _, .non => .non
  | _, _, .bl b => .bl b
  | _, _, .int i => .int i
  | _, _, .str x h => .str x h
  | _, _, .tup h k l r => .tup h (fun z => z.elim k (ne_of_none h n)) l (DenL.grow n r)
  | _, _, .tupW h l r nk => .tupW h l (DenL.grow n r) nk
  | _, _, .lst h k l r => .lst h (fun z => z.elim k (ne_of_none h n)) l (DenL.grow n r)
  | _, _, .obj h k r => .obj h (fun z => z.elim k (ne_of_none h n)) (DenF.grow n r)
  | _, _, .err h k h2 k2 r => .err h (fun z => z.elim k (ne_of_none h n)) h2 (fun z => z.elim k2 (ne_of_none h2 n)) (DenF.grow n r)
  | _, _, .pen => .pen
  | _, _, .cls c => .cls c
  | _, _, .er0 h k => .er0 h (fun z => z.elim k (ne_of_none h n))
  | _, _, .dct h k => .dct h (fun z => z.elim k (ne_of_none h n))
  | _, _, .dic h k l r => .dic h (fun z => z.elim k (ne_of_none h n)) l (DenL.grow n r)
  | _, _, .dit h k l r => .dit h (fun z => z.elim k (ne_of_none h n)) l (DenL.grow n r)
  | _, _, .dik h k l r => .dik h (fun z => z.elim k (ne_of_none h n)) l (DenL.grow n r)
theorem DenL.grow {x : Addr} (n : H x = none) : ∀ {vs : List V} {ds : List D}, DenL g U H vs ds → DenL g (fun a => U a ∨ a = x) H vs ds
  | _, _, .nil => .nil
  | _, _, .cons a r => .cons (Den.grow n a) (DenL.grow n r)
theorem DenF.grow {x : Addr} (n : H x = none) : ∀ {vs : List (Str × V)} {ds : List (Str × D)}, DenF g U H vs ds → DenF g (fun a => U a ∨ a = x) H vs ds
  | _, _, .nil => .nil
  | _, _, .cons a r => .cons (Den.grow n a) (DenF.grow n r)
end
theorem SlR.grow {x : Addr} (n : H x = none) {o : Option V} : ∀ {s : Sl}, SlR g U H o s → SlR g (fun a => U a ∨ a = x) H o s
  | .no, _ => trivial
  | .fz d, ⟨v, e, h⟩ => ⟨v, e, h.grow n⟩
  | .ow ds, ⟨a, vs, e, h, k, ua, n1, n2⟩ => ⟨a, vs, e, h, k.map (fun q => q.grow n), .inl ua, n1, n2⟩
  | .oi c fs, ⟨a, dx, fvs, e, h, k, ua, n1, n2⟩ => ⟨a, dx, fvs, e, h, k.grow n, .inl ua, n1, n2⟩
theorem Rel.grow {x : Addr} (r : Rel g U H σ ε) (n : H x = none) : Rel g (fun a => U a ∨ a = x) H σ ε := ⟨r.len, fun i s e => by
  obtain ⟨o, h1, h2⟩ := r.at_ i s e
  exact ⟨o, h1, h2.grow n⟩, r.apart⟩
def okP (g : Gw) (U : Addr → Prop) (H : Hp) (Q : VK) : D → Nat → Prop := fun d b => ∀ v H', Den g U H' v d → Wd g H' b → Fr H H' g.p → Q v H'
def exP (g : Gw) (U : Addr → Prop) (E : XK) (H : Hp) : Str → Fs → Nat → Prop := fun c fs b => ∀ dd fvs H', H' dd = some (.xd fvs) → ¬ U dd → DenF g U H' fvs fs → Wd g H' b → Fr H H' g.p → E (.ref (gd c g.K)) (some dd) H'
theorem exP.fr {E : XK} {c : Str} {fs : Fs} (f : Fr H H1 g.p) (h : exP g U E H c fs b) : exP g U E H1 c fs b := fun dd fvs H' h1 h2 h3 h4 h5 => h dd fvs H' h1 h2 h3 h4 (f.trans h5)
theorem okP.fr {Q : VK} {d : D} (f : Fr H H1 g.p) (h : okP g U H Q d b) : okP g U H1 Q d b := fun v H' h1 h2 h3 => h v H' h1 h2 (f.trans h3)
theorem okP.here {Q : VK} {d : D} {v : V} (h : okP g U H Q d b) (w : Wd g H b) (dn : Den g U H v d) : Q v H := h v H dn w Fr.refl
variable {E : XK} {ta tb tc : TE} {ma mb : Tr D}
def asB : D → Tr Bool
  | .bl b => .ok b
  | _ => .bad
end
end Gp
end
section
namespace Gp
open PySem PySem.Spec PyProof.Rows L2 Gh
inductive Fl (W L : Type) where
  | nx (w : W) | rt (d : D) | bk (l : L) | ct (l : L)
def FrM (g : Gw) (Mt : Addr → Prop) (H H' : Hp) : Prop := ∀ a o, H a = some o → a ≠ g.p → ¬ Mt a → (∀ ps, o ≠ .tbl ps) → H' a = some o
def OiM (Mt U0 : Addr → Prop) (i : Nat) (a : Addr) : Prop := (i = 0 → Mt a) ∧ (i ≠ 0 → ¬ U0 a)
structure Stt (g : Gw) (Mt U0 : Addr → Prop) (H0 : Hp) (U : Addr → Prop) (σ : L2.St) (H : Hp) (b : Nat) (ε : Env) : Prop where
  rel : Rel g U H σ ε
  wd : Wd g H b
  uok : UOk g U H
  sub : ∀ a, U0 a → U a
  own : ∀ i a, OwnAt σ ε i a → Mt a ∨ ∀ o, H0 a = some o → ∃ ps, o = .tbl ps
  ext : FrM g Mt H0 H
  nu0 : ∀ (i : Nat) (ds : Ow) (a : Addr), ε[i]? = some (.ow ds) → σ[i]? = some (some (.ref a)) → ¬ U0 a
  oim : ∀ (i : Nat) (c : Str) (fs : Fs) (a : Addr), True → ε[i]? = some (.oi c fs) → σ[i]? = some (some (.ref a)) → OiM Mt U0 i a
section
variable {g : Gw} {Mt U0 U U' : Addr → Prop} {H0 H H' H1 H2 : Hp} {b b1 : Nat} {σ : L2.St} {ε ε' : Env} {E : XK} {W L W' : Type}
structure Ev (U : Addr → Prop) (H : Hp) (U' : Addr → Prop) (H' : Hp) : Prop where
  keep : ∀ a o, H a = some o → ¬ U a → (∀ ps, o ≠ .tbl ps) → H' a = some o
  out : ∀ a o, H a = some o → ¬ U a → (∀ ps, o ≠ .tbl ps) → ¬ U' a
theorem Ev.refl : Ev U H U H := ⟨fun _ _ h _ _ => h, fun _ _ _ n _ => n⟩
theorem Ev.trans {U1 : Addr → Prop} {H1 : Hp} (h : Ev U H U1 H1) (k : Ev U1 H1 U' H') : Ev U H U' H' := ⟨fun a o e n t => k.keep a o (h.keep a o e n t) (h.out a o e n t) t, fun a o e n t => k.out a o (h.keep a o e n t) (h.out a o e n t) t⟩
theorem UOk.ev (u : UOk g U H) (f : Fr H H' g.p) : Ev U H U H' := ⟨fun a o e n t => f a o e (fun z => n (z ▸ u.p)) t, fun _ _ _ n _ => n⟩
mutual
theorem Den.ev (e : Ev U H U' H') : ∀ {v : V} {d : D}, Den g U H v d → Den g U' H' v d
  | _, _, .non => .non
  | _, _, .bl b => .bl b
  | _, _, .int i => .int i
  | _, _, .str x h => .str x h
  | _, _, .tup h n l k => .tup (e.keep _ _ h n (fun _ z => by cases z)) (e.out _ _ h n (fun _ z => by cases z)) l (DenL.ev e k)
  | _, _, .tupW h l k nk => .tupW h l (DenL.ev e k) nk
  | _, _, .lst h n l k => .lst (e.keep _ _ h n (fun _ z => by cases z)) (e.out _ _ h n (fun _ z => by cases z)) l (DenL.ev e k)
  | _, _, .obj h n k => .obj (e.keep _ _ h n (fun _ z => by cases z)) (e.out _ _ h n (fun _ z => by cases z)) (DenF.ev e k)
  | _, _, .err h n h2 n2 k => .err (e.keep _ _ h n (fun _ z => by unfold exk at z; cases z)) (e.out _ _ h n (fun _ z => by unfold exk at z; cases z)) (e.keep _ _ h2 n2 (fun _ z => by cases z)) (e.out _ _ h2 n2 (fun _ z => by cases z)) (DenF.ev e k)
  | _, _, .pen => .pen
  | _, _, .cls c => .cls c
  | _, _, .er0 h n => .er0 (e.keep _ _ h n (fun _ z => by unfold exk0 at z; cases z)) (e.out _ _ h n (fun _ z => by unfold exk0 at z; cases z))
  | _, _, .dct h n => .dct (e.keep _ _ h n (fun _ z => by cases z)) (e.out _ _ h n (fun _ z => by cases z))
  | _, _, .dic h n l k => .dic (e.keep _ _ h n (fun _ z => by cases z)) (e.out _ _ h n (fun _ z => by cases z)) l (DenL.ev e k)
  | _, _, .dit h n l k => .dit (e.keep _ _ h n (fun _ z => by cases z)) (e.out _ _ h n (fun _ z => by cases z)) l (DenL.ev e k)
  | _, _, .dik h n l k => .dik (e.keep _ _ h n (fun _ z => by cases z)) (e.out _ _ h n (fun _ z => by cases z)) l (DenL.ev e k)
theorem DenL.ev (e : Ev U H U' H') : ∀ {vs : List V} {ds : List D}, DenL g U H vs ds → DenL g U' H' vs ds
  | _, _, .nil => .nil
  | _, _, .cons a r => .cons (Den.ev e a) (DenL.ev e r)
theorem DenF.ev (e : Ev U H U' H') : ∀ {vs : List (Str × V)} {ds : List (Str × D)}, DenF g U H vs ds → DenF g U' H' vs ds
  | _, _, .nil => .nil
  | _, _, .cons a r => .cons (Den.ev e a) (DenF.ev e r)
end
theorem FrM.trans (h : FrM g Mt H0 H) (f : Fr H H' g.p) : FrM g Mt H0 H' := fun a o e n1 n2 n3 => f a o (h a o e n1 n2 n3) n1 n3
theorem Stt.fr (s : Stt g Mt U0 H0 U σ H b ε) (f : Fr H H' g.p) (w : Wd g H' b1) : Stt g Mt U0 H0 U σ H' b1 ε := ⟨s.rel.fr s.uok f, w, s.uok.fr f w, s.sub, s.own, s.ext.trans f, s.nu0, s.oim⟩
def flP (g : Gw) (Mt U0 : Addr → Prop) (H0 : Hp) (U : Addr → Prop) (H : Hp) (D : Ends) (env : W → Env) (envL : L → Env) : Fl W L → Nat → Prop
  | .nx w, b => ∀ U' σ' H', Ev U H U' H' → Stt g Mt U0 H0 U' σ' H' b (env w) → D.nx σ' H'
  | .rt d, b => ∀ v H, Den g U0 H v d → Wd g H b → FrM g Mt H0 H → D.rt v H
  | .bk w, b => ∀ U' σ' H', Ev U H U' H' → Stt g Mt U0 H0 U' σ' H' b (envL w) → D.bk σ' H'
  | .ct w, b => ∀ U' σ' H', Ev U H U' H' → Stt g Mt U0 H0 U' σ' H' b (envL w) → D.ct σ' H'
theorem flP.ev {U1 : Addr → Prop} {H1 : Hp} {D : Ends} {env : W → Env} {envL : L → Env} (e : Ev U H U1 H1) : ∀ {f : Fl W L}, flP g Mt U0 H0 U H D env envL f b → flP g Mt U0 H0 U1 H1 D env envL f b
  | .nx w, h => fun U' σ' H' e1 => h U' σ' H' (e.trans e1)
  | .rt d, h => h
  | .bk w, h => fun U' σ' H' e1 => h U' σ' H' (e.trans e1)
  | .ct w, h => fun U' σ' H' e1 => h U' σ' H' (e.trans e1)
def exS (g : Gw) (Mt U0 : Addr → Prop) (H0 : Hp) (E : XK) : Str → Fs → Nat → Prop := fun c fs b => ∀ dd fvs H, H dd = some (.xd fvs) → ¬ U0 dd → DenF g U0 H fvs fs → Wd g H b → FrM g Mt H0 H → E (.ref (gd c g.K)) (some dd) H
theorem exS.exP (s : Stt g Mt U0 H0 U σ H b ε) {c : Str} {fs : Fs} (h : exS g Mt U0 H0 E c fs b1) : exP g U E H c fs b1 := fun dd fvs H' h1 h2 h3 h4 h5 =>
  h dd fvs H' h1 (fun z => h2 (s.sub _ z)) (h3.sub fun a _ z => s.sub a z) h4 (s.ext.trans h5)
theorem ownAt_set {i j : Nat} {v : V} {d : D} {a : Addr} (h : OwnAt (σ.set i (some v)) (ε.set i (.fz d)) j a) : i ≠ j ∧ OwnAt σ ε j a := by
  obtain ⟨h1, h2⟩ := h
  by_cases e : i = j
  · subst e
    exfalso
    rcases h2 with ⟨ds, h2⟩ | ⟨c, fs, h2⟩
    · rw [List.getElem?_set_self' ] at h2
      cases q : ε[i]? with
      | none => rw [q] at h2; cases h2
      | some z => rw [q] at h2; cases h2
    · rw [List.getElem?_set_self'] at h2
      cases q : ε[i]? with
      | none => rw [q] at h2; cases h2
      | some z => rw [q] at h2; cases h2
  · rw [List.getElem?_set_ne e] at h1 h2
    exact ⟨e, h1, h2⟩
theorem Rel.set (r : Rel g U H σ ε) {v : V} {d : D} (i : Nat) (h : Den g U H v d) : Rel g U H (σ.set i (some v)) (ε.set i (.fz d)) := by
  refine ⟨by rw [List.length_set, List.length_set]; exact r.len, fun j s e => ?_, fun j k a n h1 h2 => r.apart j k a n (ownAt_set h1).2 (ownAt_set h2).2⟩
  by_cases q : i = j
  · subst q
    have hl : i < ε.length := by
      cases z : ε[i]? with
      | none => rw [List.getElem?_set_self', z] at e; cases e
      | some w => exact (List.getElem?_eq_some_iff.mp z).1
    rw [List.getElem?_set_self hl] at e
    cases e
    exact ⟨some v, List.getElem?_set_self (by rw [r.len]; exact hl), v, rfl, h⟩
  · rw [List.getElem?_set_ne q] at e ⊢
    exact r.at_ j s e
theorem Stt.set (s : Stt g Mt U0 H0 U σ H b ε) {v : V} {d : D} (i : Nat) (h : Den g U H v d) : Stt g Mt U0 H0 U (σ.set i (some v)) H b (ε.set i (.fz d)) :=
  ⟨s.rel.set i h, s.wd, s.uok, s.sub, fun j a o => s.own j a (ownAt_set o).2, s.ext, fun j ds a e1 e2 => (by
    obtain ⟨_, e3, e4⟩ := ownAt_set (a := a) (j := j) ⟨e2, .inl ⟨ds, e1⟩⟩
    rcases e4 with ⟨ds', e4⟩ | ⟨_, _, e4⟩
    · exact s.nu0 j ds' a e4 e3
    · by_cases q : i = j
      · subst q
        cases z : ε[i]? with
        | none => rw [List.getElem?_set_self', z] at e1; cases e1
        | some w => rw [List.getElem?_set_self', z] at e1; cases e1
      · rw [List.getElem?_set_ne q, e4] at e1
        cases e1), fun j c fs a j0 e1 e2 => by
    by_cases q : i = j
    · subst q
      cases z : ε[i]? with
      | none => rw [List.getElem?_set_self', z] at e1; cases e1
      | some w => rw [List.getElem?_set_self', z] at e1; cases e1
    · rw [List.getElem?_set_ne q] at e1 e2
      exact s.oim j c fs a j0 e1 e2⟩
inductive Le : Env → Env → Prop
  | nil : Le [] []
  | s {x : Sl} {a b : Env} : Le a b → Le (x :: a) (x :: b)
  | n {x : Sl} {a b : Env} : Le a b → Le (.no :: a) (x :: b)
theorem Le.refl : ∀ ε : Env, Le ε ε
  | [] => .nil
  | _ :: r => .s (Le.refl r)
theorem Le.len : ∀ {a b : Env}, Le a b → a.length = b.length
  | _, _, .nil => rfl
  | _, _, .s h => congrArg (· + 1) h.len
  | _, _, .n h => congrArg (· + 1) h.len
variable {env : W → Env} {envL : L → Env} {env' : W' → Env} {u ta tb : TS} {te : TE} {me : Tr D}
def ul1 {α : Type} (k : D → Tr α) (ds : List D) : Tr α := match ds with
  | [x] => k x
  | _ => .bad
def ul2 {α : Type} (k : D → D → Tr α) (ds : List D) : Tr α := match ds with
  | [x, y] => k x y
  | _ => .bad
def ul3 {α : Type} (k : D → D → D → Tr α) (ds : List D) : Tr α := match ds with
  | [x, y, z] => k x y z
  | _ => .bad
section
variable {α : Type} {P : α → Nat → Prop} {X : Str → Fs → Nat → Prop} {ds : List D}
end
def bdF (m : Tr (Fl W' L)) (k : W' → Tr (Fl W L)) : Tr (Fl W L) := bd m fun f => match f with
  | .nx w => k w
  | .rt d => .ok (.rt d)
  | .bk l => .ok (.bk l)
  | .ct l => .ok (.ct l)
def SX (g : Gw) (E : XK) (ε : Env) (d : D) (gt : TG) (tb : TS) (env : W → Env) (envL : L → Env) (m : Tr (Fl W L)) : Prop := ∀ Mt U0 H0 U D σ H b v, Stt g Mt U0 H0 U σ H b ε → Den g U H v d → Al (flP g Mt U0 H0 U H D env envL) (exS g Mt U0 H0 E) m b → gt v σ H fun σ2 H2 => tb D σ2 H2
def un2 {α : Type} (d : D) (k : D → D → Tr α) : Tr α := match d with
  | .tup [x, y] => k x y
  | _ => .bad
def un3 {α : Type} (d : D) (k : D → D → D → Tr α) : Tr α := match d with
  | .tup [x, y, z] => k x y z
  | _ => .bad
def forF (f : D → W → Tr (Fl W W)) : List D → W → Tr (Fl W L)
  | [], w => .ok (.nx w)
  | x :: xs, w => bd (f x w) fun r => match r with
    | .nx w' => forF f xs w'
    | .ct w' => forF f xs w'
    | .bk w' => .ok (.nx w')
    | .rt d => .ok (.rt d)
theorem forF_cons (f : D → W → Tr (Fl W W)) (x : D) (xs : List D) (w : W) : forF (L := L) f (x :: xs) w = bd (f x w) fun r => match r with
    | .nx w' => forF f xs w'
    | .ct w' => forF f xs w'
    | .bk w' => .ok (.nx w')
    | .rt d => .ok (.rt d) := rfl
end
end Gp
end
section
namespace Gp
open PySem PySem.Spec PyProof.Rows L2 Gh
section
variable {g : Gw} {Mt U0 U U' : Addr → Prop} {H0 H H' H1 H2 : Hp} {b b1 : Nat} {σ : L2.St} {ε ε' : Env} {E : XK} {W L W' : Type}
variable {env : W → Env} {envL : L → Env} {env' : W' → Env} {u ta tb : TS} {te : TE} {me : Tr D}
def itD : D → Tr (List D)
  | .lst ds => .ok ds
  | .tup ds => .ok ds
  | .str x => .ok (x.cps.toList.map fun c => .str ⟨#[c]⟩)
  | _ => .bad
def lcF (f : D → Tr (Option D)) : List D → Tr (List D)
  | [] => .ok []
  | x :: xs => bd (f x) fun o => bd (lcF f xs) fun r => .ok (match o with | some y => y :: r | none => r)
theorem lcF_cons (f : D → Tr (Option D)) (x : D) (xs : List D) : lcF f (x :: xs) = bd (f x) fun o => bd (lcF f xs) fun r => .ok (match o with | some y => y :: r | none => r) := rfl
end
end Gp
end
section
namespace Gp
open PySem PySem.Spec PyProof.Rows L2 Gh
section
variable {g : Gw} {Mt U0 U U' : Addr → Prop} {H0 H H' H1 H2 : Hp} {b b1 : Nat} {σ : L2.St} {ε ε' : Env} {E : XK} {W L W' : Type}
variable {env : W → Env} {envL : L → Env} {env' : W' → Env} {u ta tb : TS} {te : TE} {me : Tr D}
abbrev EF : XK := fun _ _ _ => False
theorem exP.F {c : Str} {fs : Fs} (h : False) : exP g U EF H c fs b := h.elim
end
end Gp
end
section
namespace Gp
open PySem PySem.Spec PyProof.Rows L2 Gh
section
variable {g : Gw} {Mt U0 U U' : Addr → Prop} {H0 H H' H1 H2 : Hp} {b b1 : Nat} {σ : L2.St} {ε ε' : Env} {E : XK} {W L W' : Type}
variable {env : W → Env} {envL : L → Env} {env' : W' → Env} {u ta tb : TS} {te : TE} {me : Tr D}
def fin (m : Tr (Fl Unit Empty)) : Tr D := bd m fun f => match f with
  | .nx _ => .ok .non
  | .rt d => .ok d
  | .bk e => nomatch e
  | .ct e => nomatch e
def isO {α : Type} (c : Str) (o : D) (k : Fs → Tr α) : Tr α := match o with
  | .obj c' fs => if c' = c then k fs else .bad
  | _ => .bad
def fldD (c f : Str) (o : D) : Tr D := isO c o fun fs => match fs.lookup f with
  | some d => .ok d
  | none => .bad
def finI (m : Tr (Fl Fs Empty)) : Tr Fs := bd m fun f => match f with
  | .nx fs => .ok fs
  | .rt _ => .bad
  | .bk e => nomatch e
  | .ct e => nomatch e
end
end Gp
end
section
namespace Gp
open PySem PySem.Spec PyProof.Rows L2 Gh
mutual
def toPy : D → Option PyData
  | .non => some .none
  | .bl b => some (.bool b)
  | .int i => some (.int i)
  | .str x => some (.str x)
  | .tup ds => (toPyL ds).map .tuple
  | .lst ds => (toPyL ds).map .list
  | .obj _ _ => none
  | .err _ _ => none
  | .pen => none
  | .cls _ => none
  | .er0 _ => none
  | .dct => none
  | .dic _ => none
  | .dit _ => none
  | .dik _ => none
def toPyL : List D → Option (List PyData)
  | [] => some []
  | d :: ds => match toPy d, toPyL ds with
    | some e, some es => some (e :: es)
    | _, _ => none
end
section
variable {g : Gw} {U : Addr → Prop} {H H' H1 : Hp} {b : Nat} {E : XK} {Q : VK}
def iiD (f : Int → Int → D) (x y : D) : Tr D := match x, y with
  | .int i, .int j => .ok (f i j)
  | _, _ => .bad
def iicD (c : Int → Int → Prop) [∀ i j, Decidable (c i j)] (f : Int → Int → D) (x y : D) : Tr D := match x, y with
  | .int i, .int j => if c i j then .ok (f i j) else .bad
  | _, _ => .bad
def ltD : D → D → Tr D := iiD fun i j => .bl (decide (i < j))
def leD : D → D → Tr D := iiD fun i j => .bl (decide (i ≤ j))
def gtD : D → D → Tr D := iiD fun i j => .bl (decide (j < i))
def subD : D → D → Tr D := iiD fun i j => .int (i - j)
def modD : D → D → Tr D := iicD (fun _ j => 0 < j) fun i j => .int (i % j)
def negD (x : D) : Tr D := match x with
  | .int i => .ok (.int (-i))
  | _ => .bad
def addD (x y : D) : Tr D := match x, y with
  | .int i, .int j => .ok (.int (i + j))
  | .str a, .str b => if a.length + b.length ≤ sizeLine then .ok (.str (a ++ b)) else .bad
  | .lst a, .lst b => if a.length + b.length ≤ sizeLine then .ok (.lst (a ++ b)) else .bad
  | .tup a, .tup b => if a.length + b.length ≤ sizeLine then .ok (.tup (a ++ b)) else .bad
  | _, _ => .bad
def eqS : D → D → Option Bool
  | .non, .non => some true | .non, .int _ => some false | .int _, .non => some false | .non, .bl _ => some false | .bl _, .non => some false | .non, .str _ => some false | .str _, .non => some false
  | .int i, .int j => some (decide (i = j)) | .bl a, .bl c => some (decide (a = c)) | .str a, .str c => some (decide (a = c))
  | .int _, .str _ => some false | .str _, .int _ => some false | .bl _, .str _ => some false | .str _, .bl _ => some false
  | _, _ => none
def eqB (x y : D) : Tr Bool := match eqS x y with
  | some b => .ok b
  | none => match toPy x, toPy y with
    | some a, some c => if SeqAt.shaped a = true ∧ SeqAt.shaped c = true then .ok (PyData.eqv a c) else .bad
    | _, _ => .bad
def eqD (x y : D) : Tr D := bd (eqB x y) fun k => .ok (.bl k)
def neD (x y : D) : Tr D := bd (eqB x y) fun k => .ok (.bl (!k))
def ixD (x y : D) : Tr D := match x, y with
  | .lst ds, .int i => match atI ds i with | some d => .ok d | none => .bad
  | .tup ds, .int i => match atI ds i with | some d => .ok d | none => .bad
  | .str z, .int i => match atI z.cps.toList i with | some c => .ok (.str ⟨#[c]⟩) | none => .bad
  | _, _ => .bad
def lenD (x : D) : Tr D := match x with
  | .lst ds => .ok (.int ds.length)
  | .tup ds => .ok (.int ds.length)
  | .str z => .ok (.int z.length)
  | _ => .bad
def intD (x : D) : Tr D := match x with
  | .int i => .ok (.int i)
  | .bl k => .ok (.int (if k = true then 1 else 0))
  | _ => .bad
end
end Gp
end
section
namespace Gp
open PySem PySem.Spec PyProof.Rows L2 Gh
section
variable {g : Gw} {Mt U0 U U' : Addr → Prop} {H0 H H' H1 H2 : Hp} {b b1 : Nat} {σ : L2.St} {ε ε' : Env} {E : XK} {Q : VK} {W L W' : Type}
variable {env : W → Env} {envL : L → Env} {env' : W' → Env} {u ta tb : TS} {te : TE} {me : Tr D}
def asI (d : D) : Tr (Option Int) := match d with
  | .int i => .ok (some i)
  | _ => .bad
def opt {α : Type} (o : Option α) : Tr α := match o with
  | some a => .ok a
  | none => .bad
def kdN : D → Option String
  | .non => some "NoneType"
  | .bl _ => some "bool"
  | .int _ => some "int"
  | .str _ => some "str"
  | .lst _ => some "list"
  | .tup _ => some "tuple"
  | .dct => some "dict"
  | .dic _ => some "dict"
  | _ => none
def isF (kb : String → Option Bool) (tab etab : List (Str × Bool)) (d : D) : Option Bool := match d with
  | .obj c _ => tab.lookup c
  | .err c _ => etab.lookup c
  | .er0 c => etab.lookup c
  | d => (kdN d).bind kb
def strD (d : D) : Tr D := match d with
  | .int i => if i.natAbs.log2 < 1920 ∧ (Str.ofString (toString i)).length ≤ sizeLine then .ok (.str (toString i)) else .bad
  | _ => .bad
end
end Gp
end
section
namespace Gp
open PySem PySem.Spec PyProof.Rows L2 Gh
section
variable {g : Gw} {Mt U0 U U' : Addr → Prop} {H0 H H' H1 H2 : Hp} {b b1 : Nat} {σ : L2.St} {ε ε' : Env} {E : XK} {Q : VK} {W L W' : Type}
variable {env : W → Env} {envL : L → Env} {env' : W' → Env} {u ta tb : TS} {te : TE} {me : Tr D}
theorem look_cons {α : Type} {a c : Str} {x k : α} {r : List (Str × α)} (h : ((a, x) :: r).lookup c = some k) : (c = a ∧ k = x) ∨ r.lookup c = some k := by
  simp only [List.lookup] at h
  split at h
  · rename_i z
    cases h
    exact .inl ⟨beq_iff_eq.mp z, rfl⟩
  · exact .inr h
section
variable {K : PySem.W.Frag} {T : List (Addr × Str)} {N : List Str} {cn : Str} {vs : List V} {t : TS} {envI : Fs → Env}
end
def Yes (F : Tr D) : Prop := Al (fun d _ => d = .bl true) (fun _ _ _ => False) F 1000000
def eqO (c : Str) (f : D → Bool) (F : List D → Tr D) (x y : D) : Tr D := isO c x fun _ => if f y = true then F [x, y] else .bad
end
end Gp
namespace Gp
open PySem PySem.Spec PyProof.Rows L2 Gh
section
variable {g : Gw}
end
end Gp
namespace Gp
open PySem PySem.Spec PyProof.Rows L2 Gh
end Gp
end
section
namespace Gp
open PySem PySem.Spec PyProof.Rows L2 Gh
def intsD : List D → Option (List Int)
  | [] => some []
  | .int i :: r => (intsD r).map (i :: ·)
  | _ => none
theorem intsD_map (ns : List Int) : intsD (ns.map D.int) = some ns := by
  induction ns with
  | nil => rfl
  | cons n r ih => show (intsD (r.map D.int)).map (n :: ·) = _; rw [ih]; rfl
section
variable {g : Gw} {U : Addr → Prop} {H : Hp} {b : Nat} {E : XK} {Q : VK} {ε : Env} {te : TE} {me : Tr D}
def lsI (x : D) (k : List Int → Tr D) : Tr D := match x with
  | .lst ds => match intsD ds with
    | some ns => k ns
    | none => .bad
  | _ => .bad
def insI (a : Int) : List Int → List Int
  | [] => [a]
  | b :: r => if a ≤ b then a :: b :: r else b :: insI a r
def sortI : List Int → List Int
  | [] => []
  | a :: r => insI a (sortI r)
end
end Gp
end
section
namespace Gp
open PySem PySem.Spec PyProof.Rows L2 Gh
structure SupX (X : Cx) (D f cda cc : Addr) (ar : Str) : Prop where
  fu : X.env.func = some f
  co : X.env.code = .ref cda
  lkf : ∃ oc od fd osl a, X.K.lookup f = some ⟨oc, od, .func fd, osl⟩ ∧ (fd.params.posonlyargs ++ fd.params.args).head? = some a ∧ a.arg = ar
  lkc : ∃ ccl cdd vs ccs file tf, X.K.lookup cda = some ⟨ccl, cdd, .fields vs, ccs⟩ ∧ vs[2]? = some (.str file tf) ∧ ((X.prog.main.file : Str) == file) = true
  top : (X.prog.main.scope.names.lookup ("super" : Str)).isSome = false
  ks : X.env.kindOf "super" = some .globalImplicit
  kc : X.env.kindOf "__class__" = some .free
  cell : X.env.cells.lookup ("__class__" : Str) = some cc
  lkl : ∃ cl cld csl, X.K.lookup cc = some ⟨cl, cld, .cell (some (.ref D)), csl⟩
  cD : ∃ cd, PySem.W.clsIn X.K D = some cd
  mg : X.mg "super" = none
  st : PySem.W.nsIn X.K cStatics "thirdparty.any" = some none
  n0 : X.N[0]? = some ar
  ka : X.env.kindOf ar = some .local
structure SupC (K : PySem.W.Frag) (C D : Addr) (m : Str) (f2 : Addr) : Prop where
  sub : PySem.W.mroIn K C (.ref D) = some true
  sup : PySem.W.ks_superIn K C D m = some (some (.ref f2))
  ty : PySem.W.typeIn K (.ref f2) = some (.type "function")
  fn : PySem.W.fnIn K f2 = true
theorem sup_run {X : Cx} {D f cda cc f2 : Addr} {ar m : Str} {body : List Stmt} {p0 p1 apos pos epos : Pos} {e : Expr} {es : List Expr} {ta : TA} {CX : CXT} {k : Nat} {dvs : List V} {sp : Sp} {E : XK} {pl : Sem Bool} {pins : List (Addr × Obj)} {s : Shared} {σ : L2.St} {H : Hp} {Dn : L2.St → Hp → Prop}
    (S : SupX X D f cda cc ar) (hm : (m == ("__class__" : Str)) = false) (ha : PA X (e :: es) ta) (G : PromOX X CX k f2 dvs sp) (hr : Room k X.A) (hx : Passes CX X E) (I : Inv X pins σ H s)
    (h : ∃ a C dx fs, σ[0]? = some (some (.ref a)) ∧ H a = some (.ins C dx fs) ∧ SupC X.K C D m f2 ∧ ta σ H fun vs H1 => sp (.ref a :: (vs ++ dvs)) H1 (fun _ H2 => Dn σ H2) E)
    (hst : starEach (e :: es) X.env = (false, eval e X.env) :: starEach es X.env := by rfl) (hpl : (backTo pos (starEach es X.env)).any (·.1) = false := by rfl)
    (he : eval (.Call (.Attribute (.Call (.Name "super" p0) [] [] p1) m apos) (e :: es) [] pos) X.env = (do
      let ov ← attributeBase (.Call (.Name "super" p0) [] [] p1) m X.env (eval (.Call (.Name "super" p0) [] [] p1) X.env)
      standAt apos.atName
      let (f, first) ← holding [ov] (getMethod ov m pl)
      callWith pos f first (backTo pos (starEach (e :: es) X.env)) []) := by rfl)
    (hsw : swapsWith (.Call (.Attribute (.Call (.Name "super" p0) [] [] p1) m apos) (e :: es) [] pos) none epos.line X.env = pure false := by rfl) :
    _root_.PySem.wpAt (model X.prog X.w) X.A (.func body X.env) (exec (.Expr (.Call (.Attribute (.Call (.Name "super" p0) [] [] p1) m apos) (e :: es) [] pos) epos) X.env) (fun fl s' => fl = .next ∧ ∃ H', Inv X pins σ H' s' ∧ Dn σ H') X.xe s := by
  obtain ⟨a, C, dx, fs, h0, hi, sc, q⟩ := h
  have KX := I.kIn
  obtain ⟨oc, od, fd, osl, ag, lkf, hp, rfl⟩ := S.lkf
  obtain ⟨ccl, cdd, vs, ccs, file, tf, lkc, hvs, hfile⟩ := S.lkc
  obtain ⟨cl, cld, csl, lkl⟩ := S.lkl
  obtain ⟨cdD, hD⟩ := S.cD
  obtain ⟨ox, od', J⟩ := ins_look I hi
  obtain ⟨oD, hD1, hD2⟩ : ∃ oD, s.heap.get? D = some oD ∧ oD.data = .cls cdD := by
    unfold PySem.W.clsIn at hD
    split at hD
    · rename_i ho
      cases hD
      exact ⟨_, KX _ _ ho, rfl⟩
    · cases hD
  have nc : ∀ c, ox.data ≠ .cls c := fun c e => by
    have := J.no
    unfold PySem.W.notCls at this
    rw [e] at this
    exact Bool.noConfusion this
  refine ks_wpAt_Expr_any (ks_wpAt_MethodCall (pl := pl) (ks_wpAt_super_base S.ks S.kc hm S.fu (KX _ _ lkf) rfl hp S.co (KX _ _ lkc) rfl hvs hfile S.top ?_) he) I.quiet hsw
  obtain ⟨mb, b1, b2⟩ := I.mod.blt
  refine PySem.W.ks_loadName_global I.ok.kind S.ks (Calls.loadGlobal_builtin (by rw [I.ok.glob]; exact I.mod.glob.keeps I.bk) S.mg (by rw [I.ok.blt]; exact b1.keeps I.bk) ((b2 "super" (by decide)).trans (show bootBuiltins "super" = some (.type "super") by decide +kernel)) ⟨rfl, ?_⟩)
  refine wpAny_loadName_free I.ok.kind S.kc S.cell ⟨_, KX _ _ lkl, rfl⟩ ?_
  obtain ⟨mm, hn, hl⟩ := I.loc
  obtain ⟨u, ru, hu⟩ := hl 0 ag.arg (.ref a) S.n0 h0 (.inl S.ka)
  have eu : u = Value.ref a := ru
  subst eu
  have hv : mm ag.arg = some (.ref a) := by
    rcases hu with z | ⟨z, _⟩
    · exact z.2
    · rcases z with z | z <;> rw [S.ka] at z <;> cases z
  refine wpAny_loadName_local I.ok.kind S.ka hn hv ?_
  obtain ⟨hh, g, d, t, os⟩ := s
  refine ks_wpAny_isType_cls hD1 hD2 ⟨rfl, ?_⟩
  refine ks_wpAny_call_super hD1 hD2 J.at_ J.cls nc (PySem.W.looks_mroIn KX sc.sub) (fun h1 e1 k1 => ?_)
  cases hcC : PySem.W.clsIn X.K C with
  | none =>
    have z := sc.sup
    unfold PySem.W.ks_superIn at z
    rw [hcC] at z
    cases z
  | some cdC =>
    have K1 : X.K.In h1 := KX.keeps k1
    obtain ⟨of, hof, hofc⟩ : ∃ of, h1.get? f2 = some of ∧ of.cls = .type "function" := by
      have ht' : (X.K.lookup f2).map (·.cls) = some (.type "function") := sc.ty
      cases z : X.K.lookup f2 with
      | none => rw [z] at ht'; cases ht'
      | some of => rw [z] at ht'; exact ⟨of, K1 _ _ z, Option.some.inj ht'⟩
    have hsup := sc.sup
    unfold PySem.W.ks_superIn at hsup
    rw [hcC] at hsup
    refine ks_wpAny_getMethod_super e1 (PySem.W.looks_opaque K1 S.st) (l₀ := cdC.mro) ?_ rfl K1 hsup hof hofc (PySem.W.ks_ne KX J hcC) hm ?_
    · exact fun A Q E s k q => wpAny_bind ((PySem.W.looks_clsIn K1 hcC) A _ E s k (wpAny_pure q))
    · have k2 : ∀ b o, hh.get? b = some o → (h1.push { cls := .type "method", data := .fields #[.ref f2, .ref a] }).get? b = some o := fun b o eb => Heap.get?_push_of_some _ (k1 b o eb)
      have I2 : Inv X pins σ H ⟨h1.push { cls := .type "method", data := .fields #[.ref f2, .ref a] }, g, d, t + 1, os⟩ := I.kept (t' := t + 1) k2
      have hsz : hh.objs.size ≤ h1.objs.size := by
        have := Heap.lt_size e1
        exact Nat.le_of_lt this
      have fp := I.fpOk (H' := H) (b := h1.objs.size) hsz (I.hok.fresh hsz)
      have hq1 : (h1.push { cls := .type "method", data := .fields #[.ref f2, .ref a] }).get? h1.objs.size = some (PySem.W.methodObj (.ref f2) (.ref a)) := Heap.get?_push_size _ rfl
      have I3 : Inv X ((h1.objs.size, PySem.W.methodObj (.ref f2) (.ref a)) :: pins) σ H ⟨h1.push { cls := .type "method", data := .fields #[.ref f2, .ref a] }, g, d, t + 1, os⟩ := I2.pins_of fun p hp => by
        rcases List.mem_cons.mp hp with rfl | hp
        · exact ⟨hq1, fp.1, fp.2.1, fp.2.2.1, fun v z => by cases z⟩
        · exact I2.pin p (List.mem_append_right _ hp)
      show wpAny _ _ (callWith pos (.ref h1.objs.size) [] (backTo pos (starEach (e :: es) X.env)) []) _ _ _
      rw [hst]
      refine PySem.W.callWith_of (P := PySem.W.MethP X.K h1.objs.size f2 (.ref a)) (by show ((false || (backTo pos (starEach es X.env)).any (·.1)) || false) = false; rw [hpl]; rfl) (PySem.W.keeps_M sc.fn) (PySem.Calls.evalArgs_plain ?_)
      show wpAny _ _ (spliced (backTo pos ((false, eval e X.env) :: starEach es X.env))) _ _ _
      rw [← hst]
      refine thn (ha.run pos _ _ σ H _ I3 q) fun us s3 ⟨ws, H1, I4, rv, q2⟩ => ?_
      have pq := (I4.pin (h1.objs.size, PySem.W.methodObj (.ref f2) (.ref a)) (List.mem_append_right _ List.mem_cons_self)).1
      refine ⟨⟨pq, I4.kIn⟩, ?_⟩
      have I5 : Inv X pins σ H1 s3 := I4.pins_of fun p hp => I4.pin p (List.mem_append_right _ (List.mem_cons_of_mem _ hp))
      obtain ⟨fd2, ps2, ds2, G2, b2', hd2⟩ := G
      have r2 : Vals (.ref a :: (ws ++ dvs)) (.ref a :: (us ++ ds2)) := .cons rfl (rv.append hd2)
      have hl2 : ((Value.ref a :: us) ++ ds2).length = ps2.length := by
        rw [← G2.len _ _ _ _ q2]
        exact r2.length.symm
      refine wpAny_call (ks_codeAny_call_bound pq (codeAny_mono (G2.run X.A X.stack s3 H1 ⟨.ref a :: us, []⟩ (.ref a :: (us ++ ds2)) (.ref a :: (ws ++ dvs)) _ E hr I5.env0 (b2' s3 (.ref a :: us) I5.kIn hl2) r2 q2) fun r s' hq => ?_))
      cases r with
      | error er => exact hx pins σ H1 s3 er s' I5 hq
      | ok fl =>
        cases fl with
        | ret u =>
          obtain ⟨v, H', I6, _, q3⟩ := I5.after hq
          exact ⟨rfl, H', I6, q3⟩
        | next => exact False.elim hq
        | brk => exact False.elim hq
        | cont => exact False.elim hq
end Gp
end
section
namespace Gp
open PySem PySem.Spec PyProof.Rows L2 Gh
theorem execs_app (env : PySem.Env) (rest : List Stmt) : ∀ pre : List Stmt, execs (pre ++ rest) env = (execs pre env >>= fun f => match f with
  | .next => execs rest env
  | f => pure f)
  | [] => by
    show execs rest env = (pure Flow.next >>= _)
    rw [pure_bind]
  | st :: pre => by
    show execs (st :: (pre ++ rest)) env = _
    rw [execs_cons, execs_cons, bind_assoc]
    congr 1
    funext f
    cases f with
    | next => exact execs_app env rest pre
    | _ => rw [pure_bind]
theorem wpAt_app {M : Model} {A : Around} {c : Code} {env : PySem.Env} {pre rest : List Stmt} {Q : Flow → Shared → Prop} {E : Value → Shared → Prop} {s : Shared}
    (h : wpAny M A (execs pre env) (fun f s' => match f with
      | .next => _root_.PySem.wpAt M A c (execs rest env) Q E s'
      | f => Q f s') E s) : _root_.PySem.wpAt M A c (execs (pre ++ rest) env) Q E s := by
  rw [execs_app]
  refine _root_.PySem.wpAt_bind (_root_.PySem.wpAt_of_wpAny (wpAny_mono h (fun f s' hf => ?_) fun _ _ z => z))
  cases f with
  | next => exact hf
  | _ => exact _root_.PySem.wpAt_of_wpAny (wpAny_pure hf)
structure SupF (K : PySem.W.Frag) (x qual : Str) (params : Arguments) (body : List Stmt) (scope : Scope) (dvs : List V) (f D : Addr) (file : Str) (fd : FuncData) : Prop where
  ex : ∃ (oc : Value) (od : Option Addr) (dV kV doc pm : Value) (an : Option Addr) (cda : Addr) (ct : Value) (osl : Array (Option Value)) (cc : Addr),
    fd = PySem.W.fnX x qual params body scope [("__class__", cc)] dV kV doc pm an (.ref cda) ct ∧ K.lookup f = some ⟨oc, od, .func fd, osl⟩ ∧ PySem.W.codeIn K (.ref cda) qual = true ∧ DflV K dV dvs ∧
    (∃ cl cld csl, K.lookup cc = some ⟨cl, cld, .cell (some (.ref D)), csl⟩) ∧ ∃ ccl cdd vs ccs tf, K.lookup cda = some ⟨ccl, cdd, .fields vs, ccs⟩ ∧ vs[2]? = some (.str file tf)
  kp : PySem.W.keepIn K (.ref f) = true
structure SupT (K : PySem.W.Frag) (mg : Str → Option Value) (D : Addr) : Prop where
  cD : ∃ cd, PySem.W.clsIn K D = some cd
  mg : mg "super" = none
  st : PySem.W.nsIn K cStatics "thirdparty.any" = some none
section
variable {P : Program} {w : World} {K : PySem.W.Frag} {mg : Str → Option Value} {base : Heap} {CX : CXT} {k : Nat} {x qual file m ar : Str} {params : Arguments} {body : List Stmt} {scope : Scope} {dvs : List V} {f D : Addr} {fd : FuncData} {N ps : List Str} {sp : Sp}
abbrev scx (CX : CXT) (P : Program) (w : World) (K : PySem.W.Frag) (mg : Str → Option Value) (base : Heap) (N : List Str) (x qual : Str) (params : Arguments) (body : List Stmt) (scope : Scope) (cc cda f : Addr) (A : Around) (outer : List PySem.Env) (s : Shared) (H : Hp) (E : XK) : Cx :=
  NdefX.ncx CX P w K mg base N ⟨x, qual, params, body, scope, [("__class__", cc)], cda⟩ f A outer s H E
theorem SupF.ok {pre post : List Stmt} {p0 p1 apos pos epos : Pos} {e : Expr} {es : List Expr} (eb : body = pre ++ .Expr (.Call (.Attribute (.Call (.Name "super" p0) [] [] p1) m apos) (e :: es) [] pos) epos :: post) (F : SupF K x qual params body scope dvs f D file fd) (T : SupT K mg D) (S : NdefX.NScope N ps ["__class__"] scope)
    (len : ∀ vs H Q E, sp vs H Q E → vs.length = ps.length) (hfile : ((P.main.file : Str) == file) = true) (htop : (P.main.scope.names.lookup ("super" : Str)).isSome = false) (hm : (m == ("__class__" : Str)) = false) (hks : scope.names.lookup ("super" : Str) = some .globalImplicit)
    (har : ((params.posonlyargs ++ params.args).head?).map (·.arg) = some ar) (hn0 : N[0]? = some ar) (hka : scope.names.lookup ar = some .local)
    (hbody : ∀ (cc cda : Addr) (A : Around) (outer : List PySem.Env) (s : Shared) (H : Hp) (vs : List V) (Q : VK) (E : XK), Room k (scx CX P w K mg base N x qual params body scope cc cda f A outer s H E).A → sp vs H Q E →
      ∃ t1 ta t2 CX2 k2 f2 dvs2 sp2 E2, PSs (scx CX P w K mg base N x qual params body scope cc cda f A outer s H E) pre t1 ∧
        PA (scx CX P w K mg base N x qual params body scope cc cda f A outer s H E) (e :: es) ta ∧
        PSs (scx CX P w K mg base N x qual params body scope cc cda f A outer s H E) post t2 ∧
        PromO P w K mg base CX2 k2 f2 dvs2 sp2 ∧ k2 ≤ k ∧ Passes CX2 (scx CX P w K mg base N x qual params body scope cc cda f A outer s H E) E2 ∧
        t1 { nx := fun σ1 H1 => ∃ a C dx fs, σ1[0]? = some (some (.ref a)) ∧ H1 a = some (.ins C dx fs) ∧ SupC K C D m f2 ∧ ta σ1 H1 fun us H2 => sp2 (.ref a :: (us ++ dvs2)) H2 (fun _ H3 => t2 { nx := fun _ H' => Q .non H', rt := Q } σ1 H3) E2, rt := Q } (L2.start N vs) H)
    (hst : ∀ env : PySem.Env, starEach (e :: es) env = (false, eval e env) :: starEach es env := by intro _; rfl) (hpl : ∀ env : PySem.Env, (backTo pos (starEach es env)).any (·.1) = false := by intro _; rfl)
    (pl : PySem.Env → Sem Bool)
    (he : ∀ env : PySem.Env, eval (.Call (.Attribute (.Call (.Name "super" p0) [] [] p1) m apos) (e :: es) [] pos) env = (do
      let ov ← attributeBase (.Call (.Name "super" p0) [] [] p1) m env (eval (.Call (.Name "super" p0) [] [] p1) env)
      standAt apos.atName
      let (f, first) ← holding [ov] (getMethod ov m (pl env))
      callWith pos f first (backTo pos (starEach (e :: es) env)) []))
    (hsw : ∀ env : PySem.Env, swapsWith (.Call (.Attribute (.Call (.Name "super" p0) [] [] p1) m apos) (e :: es) [] pos) none epos.line env = pure false := by intro _; rfl) :
    FnOk P w K mg base CX (k + 1) f fd ps sp := by
  obtain ⟨oc, od, dV, kV, doc, pm, an, cda, ct, osl, cc, rfl, lk, hcd, _, ⟨cl, cld, csl, lkl⟩, ccl, cdd, vsc, ccs, tf, lkc, hvs⟩ := F.ex
  refine ⟨len, fun A outer s H args us vs Q E hr e0 hb r hsp => ?_⟩
  have KX : K.In s.heap := e0.mod.kin.keeps fun b o e => (e0.bs b o e).1
  have lim : s.heap.NoLimit := e0.mod.nolimit.keeps fun b o e => (e0.bs b o e).1
  have hl := len _ _ _ _ hsp
  have hpl2 : ps.length + 1 ≤ N.length := by
    have q := congrArg List.length S.pre
    rw [List.length_take, List.length_append] at q
    have : (["__class__"] : List Str).length = 1 := rfl
    omega
  refine ks_codeAny_call_defAt hr.depth (KX _ _ lk) rfl lim (PySem.W.codeRec_of KX hcd) rfl hb S.nocell (fun ⟨n, _⟩ hy => S.par n (List.of_mem_zip hy).1) (fun h₁ hns kp => ?_) S.co S.gen S.kind
  obtain ⟨t1, ta, t2, CX2, k2, f2, dvs2, sp2, E2, h1, h2, h3, G, hk2, hx2, hq⟩ := hbody cc cda A outer s H vs Q E (hr.deeper _) hsp
  have C : NdefX.CellsAt [(("__class__" : Str), cc)] ["__class__"] [none] s.heap H := by
    have hc : s.heap.get? cc = some ⟨cl, cld, .cell (some (.ref D)), csl⟩ := KX _ _ lkl
    have hH : H cc = none := by
      have hb : base.get? cc = some ⟨cl, cld, .cell (some (.ref D)), csl⟩ := e0.mod.kin _ _ lkl
      exact (e0.bs _ _ hb).2
    have one : ∀ (y : Str) (c : Addr), ([(("__class__" : Str), cc)] : List (Str × Addr)).lookup y = some c → y = "__class__" ∧ c = cc := fun y c hy => by
      rcases look_cons hy with ⟨e1, e2⟩ | z
      · exact ⟨e1, e2⟩
      · cases z
    refine ⟨rfl, fun y c hy => ?_, fun x y c hx hy => (one x c hx).1.trans (one y c hy).1.symm, fun i y hy => ?_⟩
    · obtain ⟨_, rfl⟩ := one y c hy
      exact ⟨hH, _, _, hc, rfl⟩
    · have e2 : y = "__class__" := by
        cases i with
        | zero => cases hy; rfl
        | succ i => cases hy
      subst e2
      refine ⟨cc, rfl, fun v hv => ?_⟩
      cases i with
      | zero => cases hv
      | succ i => cases hv
  have I := NdefX.inv_startN (CX := CX) (P := P) (w := w) (K := K) (mg := mg) (base := base) (N := N) (F := ⟨x, qual, params, body, scope, [("__class__", cc)], cda⟩) (f := f) (E := E) (tk := s.toks + (ps.zip us).length) S hr.hd e0 hl r C hns kp
  have est : NdefX.startF N vs [none] = L2.start N vs := by
    unfold NdefX.startF L2.start
    congr 1
    rw [List.length_singleton, ← List.singleton_append]
    have : N.length - vs.length = (N.length - vs.length - 1) + 1 := by omega
    rw [this, List.replicate_succ]
    rfl
  rw [est] at I
  have SX : SupX (scx CX P w K mg base N x qual params body scope cc cda f A outer s H E) D f cda cc ar := by
    refine ⟨rfl, rfl, ?_, ⟨ccl, cdd, vsc, ccs, file, tf, lkc, hvs, hfile⟩, htop, hks, S.frk _ (List.mem_singleton.mpr rfl), rfl, ⟨cl, cld, csl, lkl⟩, T.cD, T.mg, T.st, hn0, hka⟩
    cases z : (params.posonlyargs ++ params.args).head? with
    | none => rw [z] at har; cases har
    | some a =>
      rw [z] at har
      exact ⟨_, _, _, _, a, lk, z, Option.some.inj har⟩
  have fin : ∀ {s' : Shared} {σ' : L2.St} {H' : Hp} {v : V} {u : Value}, Inv (scx CX P w K mg base N x qual params body scope cc cda f A outer s H E) [] σ' H' s' → L2.RelV v u → Q v H' → CE outer P w H s Q u s' :=
    fun {s' σ' H' v u} J rv q => ⟨v, H', J.os, J.bare, J.base, J.hok, rv, q⟩
  have eb2 : execs body (scx CX P w K mg base N x qual params body scope cc cda f A outer s H E).env = execs (pre ++ .Expr (.Call (.Attribute (.Call (.Name "super" p0) [] [] p1) m apos) (e :: es) [] pos) epos :: post) (scx CX P w K mg base N x qual params body scope cc cda f A outer s H E).env := by rw [← eb]
  show _root_.PySem.wpAt _ _ _ (execs body _) _ _ _
  refine eb2 ▸ wpAt_app (wpAny_mono (h1.run [] _ (L2.start N vs) H _ I hq) (fun fl s' hs => ?_) fun _ _ z => z)
  cases fl with
  | ret u =>
    obtain ⟨v, σ', H', J, rv, q⟩ := hs
    exact fin J rv q
  | brk =>
    obtain ⟨_, _, _, q⟩ := hs
    exact False.elim q
  | cont =>
    obtain ⟨_, _, _, q⟩ := hs
    exact False.elim q
  | next =>
    obtain ⟨σ', H', J, q⟩ := hs
    refine ks_wpAt_execs_cons (_root_.PySem.wpAt_mono (sup_run (pl := pl _) SX hm h2 G ((hr.deeper _).mono hk2) hx2 J q (hst _) (hpl _) (he _) (hsw _)) (fun fl2 s2 hq2 => ?_) fun _ _ z => z)
    obtain ⟨rfl, H2, J2, q2⟩ := hq2
    refine _root_.PySem.wpAt_of_wpAny (wpAny_mono (h3.run [] s2 σ' H2 _ J2 q2) (fun fl s' hs => ?_) fun _ _ z => z)
    cases fl with
    | ret u =>
      obtain ⟨v, σ', H', J, rv, q⟩ := hs
      exact fin J rv q
    | next =>
      obtain ⟨σ', H', J, q⟩ := hs
      exact fin (v := V.non) (u := Value.none) J rfl q
    | brk =>
      obtain ⟨_, _, _, q⟩ := hs
      exact False.elim q
    | cont =>
      obtain ⟨_, _, _, q⟩ := hs
      exact False.elim q
end
end Gp
end
section
namespace Gp
open PySem PySem.Spec PyProof.Rows L2 Gh
structure Ds where
  d : Df
  own : PySem.W.Frag → Addr
def fnAtS (K : PySem.W.Frag) (a : Addr) : He.FnW := match K.lookup a with
  | some ⟨_, _, .func fd, _⟩ => some (fd.name, fd.qualname, fd.params, fd.body, fd.scope, fd.globals, fd.closure.map (fun q => (q.1, 0)), fd.builtins)
  | _ => none
def Ds.val (d : Ds) : He.FnW := some (d.d.name, d.d.qual, defArgs d.d.st, .stmts (defBody d.d.st), defScope d.d.st, mainGlobals, [("__class__", 0)], builtinsNs)
def fileB (K : PySem.W.Frag) (file : Str) : Value → Bool
  | .ref c => (match K.lookup c with
    | some ⟨_, _, Data.fields vs, _⟩ => (match (vs[2]? : Option Value) with
      | some (Value.str f _) => decide (f = file)
      | _ => false)
    | _ => false)
  | _ => false
def cellB (K : PySem.W.Frag) (B : Addr) : List (Str × Addr) → Bool
  | [(_, c)] => (match K.lookup c with
    | some ⟨_, _, .cell (some (.ref b)), _⟩ => decide (b = B)
    | _ => false)
  | _ => false
def Ds.ok (file : Str) (K : PySem.W.Frag) (d : Ds) : Bool := PySem.W.keepIn K (.ref (d.d.adr K)) && (match K.lookup (d.d.adr K) with
  | some ⟨_, _, .func fd, _⟩ => PySem.W.codeIn K fd.code d.d.qual && (He.dflB K fd.defaults (d.d.dvs K) && (fileB K file fd.code && cellB K (d.own K) fd.closure))
  | _ => false)
structure SaysS (ex : List (PySem.W.Frag → Bool)) (fn : List Df) (tf : List He.Defn) (fs : List Ds) (file : Str) (h : Heap) (K : PySem.W.Frag) : Prop where
  s : SaysT ex fn tf h K
  o : (fs.all fun d => d.ok file K) = true
  v : (fs.map fun d => fnAtS K (d.d.adr K)) = fs.map Ds.val
abbrev AlS : Type := AlT × Bool × List He.FnW
def supCB (c b : Str) (m : Str) (f2 : PySem.W.Frag → Addr) (K : PySem.W.Frag) : Bool := decide (PySem.W.mroIn K (gd c K) (.ref (gd b K)) = some true) && (He.eqO (PySem.W.ks_superIn K (gd c K) (gd b K) m) (some (some (.ref (f2 K)))) && (decide (PySem.W.typeIn K (.ref (f2 K)) = some (.type "function")) && PySem.W.fnIn K (f2 K)))
end Gp
end
section
namespace Gp
open PySem PySem.Spec PyProof.Rows L2 Gh
section
variable {P : Program} {w : World} {K : PySem.W.Frag} {mg : Str → Option Value} {base : Heap} {CX : CXT} {k : Nat} {x qual file m ar : Str} {params : Arguments} {body : List Stmt} {scope : Scope} {dvs : List V} {f D : Addr} {fd : FuncData} {N ps : List Str} {sp : Sp}
theorem SupF.run {A : Around} {outer : List PySem.Env} {s : Shared} {H : Hp} {args : Args} {Q : VK} {E : XK} {G : List V → Hp → Prop} {pre post : List Stmt} {p0 p1 apos pos epos : Pos} {e : Expr} {es : List Expr} (eb : body = pre ++ .Expr (.Call (.Attribute (.Call (.Name "super" p0) [] [] p1) m apos) (e :: es) [] pos) epos :: post) (F : SupF K x qual params body scope dvs f D file fd) (T : SupT K mg D) (S : NdefX.NScope N ps ["__class__"] scope)
    (hr : Room (k + 1) A) (e0 : Env0 P w K mg base A outer s H) (hb : StX.Bnd CX P w K mg base fd args ps A outer s H E G) (hfile : ((P.main.file : Str) == file) = true) (htop : (P.main.scope.names.lookup ("super" : Str)).isSome = false) (hm : (m == ("__class__" : Str)) = false) (hks : scope.names.lookup ("super" : Str) = some .globalImplicit)
    (har : ((params.posonlyargs ++ params.args).head?).map (·.arg) = some ar) (hn0 : N[0]? = some ar) (hka : scope.names.lookup ar = some .local)
    (hbody : ∀ (cc cda : Addr) (s : Shared) (H : Hp) (vs : List V), Room k (scx CX P w K mg base N x qual params body scope cc cda f A outer s H E).A → G vs H →
      ∃ t1 ta t2 CX2 k2 f2 dvs2 sp2 E2, PSs (scx CX P w K mg base N x qual params body scope cc cda f A outer s H E) pre t1 ∧
        PA (scx CX P w K mg base N x qual params body scope cc cda f A outer s H E) (e :: es) ta ∧
        PSs (scx CX P w K mg base N x qual params body scope cc cda f A outer s H E) post t2 ∧
        PromO P w K mg base CX2 k2 f2 dvs2 sp2 ∧ k2 ≤ k ∧ Passes CX2 (scx CX P w K mg base N x qual params body scope cc cda f A outer s H E) E2 ∧
        t1 { nx := fun σ1 H1 => ∃ a C dx fs, σ1[0]? = some (some (.ref a)) ∧ H1 a = some (.ins C dx fs) ∧ SupC K C D m f2 ∧ ta σ1 H1 fun us H2 => sp2 (.ref a :: (us ++ dvs2)) H2 (fun _ H3 => t2 { nx := fun _ H' => Q .non H', rt := Q } σ1 H3) E2, rt := Q } (L2.start N vs) H)
    (hst : ∀ env : PySem.Env, starEach (e :: es) env = (false, eval e env) :: starEach es env := by intro _; rfl) (hpl : ∀ env : PySem.Env, (backTo pos (starEach es env)).any (·.1) = false := by intro _; rfl)
    (pl : PySem.Env → Sem Bool)
    (he : ∀ env : PySem.Env, eval (.Call (.Attribute (.Call (.Name "super" p0) [] [] p1) m apos) (e :: es) [] pos) env = (do
      let ov ← attributeBase (.Call (.Name "super" p0) [] [] p1) m env (eval (.Call (.Name "super" p0) [] [] p1) env)
      standAt apos.atName
      let (f, first) ← holding [ov] (getMethod ov m (pl env))
      callWith pos f first (backTo pos (starEach (e :: es) env)) []))
    (hsw : ∀ env : PySem.Env, swapsWith (.Call (.Attribute (.Call (.Name "super" p0) [] [] p1) m apos) (e :: es) [] pos) none epos.line env = pure false := by intro _; rfl) :
    codeAny (model P w) A (.call (.ref f) args) (CR CX outer P w H s Q E) s := by
  obtain ⟨oc, od, dV, kV, doc, pm, an, cda, ct, osl, cc, rfl, lk, hcd, _, ⟨cl, cld, csl, lkl⟩, ccl, cdd, vsc, ccs, tf, lkc, hvs⟩ := F.ex
  have KX0 : K.In s.heap := e0.mod.kin.keeps fun b o e => (e0.bs b o e).1
  refine codeAny_call_function hr.depth (KX0 _ _ lk) rfl S.co S.gen rfl (PySem.W.codeRec_of KX0 hcd) ?_
  refine hb _ _ _ fun s2 H2 vs us e2 un ho hxx r hl gg => ?_
  have KX : K.In s2.heap := e0.mod.kin.keeps fun b o e => (e2.bs b o e).1
  have lim : s2.heap.NoLimit := e0.mod.nolimit.keeps fun b o e => (e2.bs b o e).1
  have hpl2 : ps.length + 1 ≤ N.length := by
    have q := congrArg List.length S.pre
    rw [List.length_take, List.length_append] at q
    have : (["__class__"] : List Str).length = 1 := rfl
    omega
  refine wpAny_newFunctionEnv S.nocell (fun ⟨n, _⟩ hy => S.par n (List.of_mem_zip hy).1) (fun h₁ hns hsb => ⟨lim.fresh _ hsb, ks_codeAny_funcAt ?_⟩) S.kind
  have kp : ∀ b o, s2.heap.get? b = some o → h₁.get? b = some o := fun b o e => hsb.extBut b o (Nat.ne_of_lt (Heap.lt_size e)) (Heap.get?_push_of_some _ e)
  refine _root_.PySem.wpAt_mono (Q := fun fl s' => CR CX outer P w H s Q E (.ok (.ret (match fl with | .ret v => v | _ => .none))) s') (E := (scx CX P w K mg base N x qual params body scope cc cda f A outer s2 H2 E).xe) ?_ (fun _ _ z => z) (fun e s' hs => wpAny_mono hs (fun _ s'' z => hxx e s'' z) fun e' s'' z => hxx e' s'' z)
  obtain ⟨t1, ta, t2, CX2, k2, f2, dvs2, sp2, E2, h1, h2, h3, G, hk2, hx2, hq⟩ := hbody cc cda s2 H2 vs (hr.deeper _) gg
  have C : NdefX.CellsAt [(("__class__" : Str), cc)] ["__class__"] [none] s2.heap H2 := by
    have hc : s2.heap.get? cc = some ⟨cl, cld, .cell (some (.ref D)), csl⟩ := KX _ _ lkl
    have hH : H2 cc = none := by
      have hb : base.get? cc = some ⟨cl, cld, .cell (some (.ref D)), csl⟩ := e0.mod.kin _ _ lkl
      exact (e2.bs _ _ hb).2
    have one : ∀ (y : Str) (c : Addr), ([(("__class__" : Str), cc)] : List (Str × Addr)).lookup y = some c → y = "__class__" ∧ c = cc := fun y c hy => by
      rcases look_cons hy with ⟨e1, e2⟩ | z
      · exact ⟨e1, e2⟩
      · cases z
    refine ⟨rfl, fun y c hy => ?_, fun x y c hx hy => (one x c hx).1.trans (one y c hy).1.symm, fun i y hy => ?_⟩
    · obtain ⟨_, rfl⟩ := one y c hy
      exact ⟨hH, _, _, hc, rfl⟩
    · have e2 : y = "__class__" := by
        cases i with
        | zero => cases hy; rfl
        | succ i => cases hy
      subst e2
      refine ⟨cc, rfl, fun v hv => ?_⟩
      cases i with
      | zero => cases hv
      | succ i => cases hv
  have I := NdefX.inv_startN (CX := CX) (P := P) (w := w) (K := K) (mg := mg) (base := base) (N := N) (F := ⟨x, qual, params, body, scope, [("__class__", cc)], cda⟩) (f := f) (E := E) (tk := s2.toks + (ps.zip us).length) S hr.hd e2 hl r C hns kp
  have est : NdefX.startF N vs [none] = L2.start N vs := by
    unfold NdefX.startF L2.start
    congr 1
    rw [List.length_singleton, ← List.singleton_append]
    have : N.length - vs.length = (N.length - vs.length - 1) + 1 := by omega
    rw [this, List.replicate_succ]
    rfl
  rw [est] at I
  have SX : SupX (scx CX P w K mg base N x qual params body scope cc cda f A outer s2 H2 E) D f cda cc ar := by
    refine ⟨rfl, rfl, ?_, ⟨ccl, cdd, vsc, ccs, file, tf, lkc, hvs, hfile⟩, htop, hks, S.frk _ (List.mem_singleton.mpr rfl), rfl, ⟨cl, cld, csl, lkl⟩, T.cD, T.mg, T.st, hn0, hka⟩
    cases z : (params.posonlyargs ++ params.args).head? with
    | none => rw [z] at har; cases har
    | some a =>
      rw [z] at har
      exact ⟨_, _, _, _, a, lk, z, Option.some.inj har⟩
  have fin : ∀ {s' : Shared} {σ' : L2.St} {H' : Hp} {v : V} {u : Value}, Inv (scx CX P w K mg base N x qual params body scope cc cda f A outer s2 H2 E) [] σ' H' s' → L2.RelV v u → Q v H' → CE outer P w H s Q u s' :=
    fun {s' σ' H' v u} J rv q => ⟨v, H', J.os.trans ho, J.bare, un.trans J.base, J.hok, rv, q⟩
  have eb2 : execs body (scx CX P w K mg base N x qual params body scope cc cda f A outer s2 H2 E).env = execs (pre ++ .Expr (.Call (.Attribute (.Call (.Name "super" p0) [] [] p1) m apos) (e :: es) [] pos) epos :: post) (scx CX P w K mg base N x qual params body scope cc cda f A outer s2 H2 E).env := by rw [← eb]
  show _root_.PySem.wpAt _ _ _ (execs body _) _ _ _
  refine eb2 ▸ wpAt_app (wpAny_mono (h1.run [] _ (L2.start N vs) H2 _ I hq) (fun fl s' hs => ?_) fun _ _ z => z)
  cases fl with
  | ret u =>
    obtain ⟨v, σ', H', J, rv, q⟩ := hs
    exact fin J rv q
  | brk =>
    obtain ⟨_, _, _, q⟩ := hs
    exact False.elim q
  | cont =>
    obtain ⟨_, _, _, q⟩ := hs
    exact False.elim q
  | next =>
    obtain ⟨σ', H', J, q⟩ := hs
    refine ks_wpAt_execs_cons (_root_.PySem.wpAt_mono (sup_run (pl := pl _) SX hm h2 G ((hr.deeper _).mono hk2) hx2 J q (hst _) (hpl _) (he _) (hsw _)) (fun fl2 s3 hq2 => ?_) fun _ _ z => z)
    obtain ⟨rfl, H3, J2, q2⟩ := hq2
    refine _root_.PySem.wpAt_of_wpAny (wpAny_mono (h3.run [] s3 σ' H3 _ J2 q2) (fun fl s' hs => ?_) fun _ _ z => z)
    cases fl with
    | ret u =>
      obtain ⟨v, σ', H', J, rv, q⟩ := hs
      exact fin J rv q
    | next =>
      obtain ⟨σ', H', J, q⟩ := hs
      exact fin (v := V.non) (u := Value.none) J rfl q
    | brk =>
      obtain ⟨_, _, _, q⟩ := hs
      exact False.elim q
    | cont =>
      obtain ⟨_, _, _, q⟩ := hs
      exact False.elim q
end
section
variable {g : Gw} {Mt U0 U U' : Addr → Prop} {H0 H H' H1 H2 : Hp} {b b1 b2 : Nat} {σ : L2.St} {ε ε' : Env} {E : XK}
end
end Gp
end
section
namespace Gp
open PySem PySem.Spec PyProof.Rows L2 Gh
def enD : D → Tr (List D)
  | .lst ds => .ok (ds.mapIdx fun i d => .tup [.int i, d])
  | .tup ds => .ok (ds.mapIdx fun i d => .tup [.int i, d])
  | _ => .bad
section
variable {g : Gw} {Mt U0 U U' : Addr → Prop} {H0 H H' H1 H2 : Hp} {b b1 b2 : Nat} {σ : L2.St} {ε ε' : Env} {E : XK}
variable {W L : Type} {env : W → Env} {envL : L → Env} {a r : TS} {t : TS} {m : Tr (Fl W L)}
end
end Gp
end
section
namespace Gp
open PySem PySem.Spec PyProof.Rows L2 Gh
def frL {α : Type} : List (Addr × Obj) → (List (Addr × Obj) → α) → α
  | [], k => k []
  | (a, o) :: r, k => frL r fun r' => k ((a, o) :: r')
theorem frL_eq {α : Type} : ∀ (l : List (Addr × Obj)) (k : List (Addr × Obj) → α), frL l k = k l
  | [], _ => rfl
  | (a, o) :: r, k => by
    show frL r (fun r' => k ((a, o) :: r')) = _
    rw [frL_eq r]
def obsK (ex : List (PySem.W.Frag → Bool)) (fn : List Df) (tf : List He.Defn) (fs : List Ds) (file : Str) (g : Addr → Option Obj) (K : PySem.W.Frag) : AlS :=
  ((obs ex fn K, He.tabsB g tf K), (fs.all fun d => d.ok file K), fs.map fun d => fnAtS K (d.d.adr K))
def obsL (as : List Addr) (ex : List (PySem.W.Frag → Bool)) (fn : List Df) (tf : List He.Defn) (fs : List Ds) (file : Str) (g : Addr → Option Obj) : AlS := frL (He.frT g as) fun K => obsK ex fn tf fs file g K
theorem saysL_of {as : List Addr} {ex : List (PySem.W.Frag → Bool)} {fn : List Df} {tf : List He.Defn} {h : Heap} (e1 : obs ex fn (He.frT h.get? as) = val fn) (e2 : He.tabsB h.get? tf (He.frT h.get? as) = true) : SaysT ex fn tf h (He.frT h.get? as) := by
  have key : ∀ p ∈ tf, PySem.W.codeHdIn (He.frT h.get? as) (He.cT (He.frT h.get? as) p).1 (He.cT (He.frT h.get? as) p).2 = true ∧ ∃ o, h.get? (He.cT (He.frT h.get? as) p).2 = some o ∧ He.emptyTab o = true := fun p hp => by
    obtain ⟨h3, h4⟩ := He.ba (List.all_eq_true.mp e2 p hp)
    refine ⟨h3, ?_⟩
    cases q : h.get? (He.cT (He.frT h.get? as) p).2 with
    | none =>
      rw [q] at h4
      cases h4
    | some o =>
      rw [q] at h4
      exact ⟨o, rfl, h4⟩
  exact ⟨e1, fun p hp => (key p hp).1, fun p hp => by
    obtain ⟨_, o, q, z⟩ := key p hp
    exact He.frT_none q z, fun p hp => by
    obtain ⟨_, o, q, z⟩ := key p hp
    rw [q, He.emptyTab_eq z]⟩
def hookL (as : List Addr) (ex : List (PySem.W.Frag → Bool)) (fn : List Df) (tf : List He.Defn) (fs : List Ds) (file : Str) : PySem.W.Hook where
  α := AlS
  obs := fun s => obsL as ex fn tf fs file s.heap.get?
  val := fun _ => ((Gh.val fn, true), true, fs.map Ds.val)
  says := fun _ h => ∃ K : PySem.W.Frag, K.In h ∧ SaysS ex fn tf fs file h K
  of := fun _ s e => by
    have e' : obsK ex fn tf fs file _ (He.frT _ as) = ((Gh.val fn, true), true, fs.map Ds.val) := (frL_eq _ _).symm.trans e
    exact ⟨_, He.frT_in, ⟨saysL_of (congrArg (fun z : AlS => z.1.1) e') (congrArg (fun z : AlS => z.1.2) e'), congrArg (fun z : AlS => z.2.1) e', congrArg (fun z : AlS => z.2.2) e'⟩⟩
  keeps := fun _ _ _ ⟨K, hK, c⟩ k => ⟨K, PySem.W.Frag.In.keeps hK k, ⟨⟨c.s.t, c.s.hd, c.s.out, fun p hp => k _ _ (c.s.empty p hp)⟩, c.o, c.v⟩⟩
end Gp
end
section
namespace Gp
open PySem PySem.Spec PyProof.Rows L2 Gh
def insS (a : Int) : List Int → List Int
  | [] => [a]
  | b :: r => if a < b then a :: b :: r else if a = b then b :: r else b :: insS a r
def setI : List Int → List Int
  | [] => []
  | a :: r => insS a (setI r)
theorem mem_insS {x a : Int} : ∀ {l : List Int}, x ∈ insS a l ↔ x = a ∨ x ∈ l
  | [] => by simp [insS]
  | b :: r => by
    unfold insS
    split
    · simp
    · split
      · rename_i h
        subst h
        simp
      · rw [List.mem_cons, mem_insS, List.mem_cons]
        constructor
        · rintro (h | h | h)
          · exact .inr (.inl h)
          · exact .inl h
          · exact .inr (.inr h)
        · rintro (h | h | h)
          · exact .inr (.inl h)
          · exact .inl h
          · exact .inr (.inr h)
theorem mem_setI {x : Int} : ∀ {l : List Int}, x ∈ setI l ↔ x ∈ l
  | [] => Iff.rfl
  | a :: r => by
    unfold setI
    rw [mem_insS, mem_setI, List.mem_cons]
theorem ris_insS {a : Int} : ∀ {l : List Int}, l.Pairwise (· < ·) → (insS a l).Pairwise (· < ·)
  | [], _ => List.pairwise_singleton _ _
  | b :: r, h => by
    obtain ⟨h1, h2⟩ := List.pairwise_cons.mp h
    unfold insS
    split
    · rename_i q
      refine List.pairwise_cons.mpr ⟨fun x hx => ?_, h⟩
      rcases List.mem_cons.mp hx with rfl | hx
      · exact q
      · exact Int.lt_trans q (h1 x hx)
    · split
      · exact h
      · rename_i q1 q2
        refine List.pairwise_cons.mpr ⟨fun x hx => ?_, ris_insS h2⟩
        rcases mem_insS.mp hx with rfl | hx
        · omega
        · exact h1 x hx
theorem ris_setI : ∀ l : List Int, (setI l).Pairwise (· < ·)
  | [] => List.Pairwise.nil
  | a :: r => ris_insS (ris_setI r)
theorem len_insS {a : Int} : ∀ {l : List Int}, (insS a l).length ≤ l.length + 1
  | [] => Nat.le_refl _
  | b :: r => by
    unfold insS
    split
    · exact Nat.le_refl _
    · split
      · exact Nat.le_succ _
      · exact Nat.succ_le_succ len_insS
theorem len_setI : ∀ l : List Int, (setI l).length ≤ l.length
  | [] => Nat.le_refl _
  | a :: r => Nat.le_trans len_insS (Nat.succ_le_succ (len_setI r))
end Gp
namespace Gp
open PySem PySem.Spec PyProof.Rows L2 Gh
section
variable {P : Program} {w : World} {A : Around} {E : Value → Shared → Prop} {s : Shared}
end
end Gp
end
section
namespace Gp
open PySem PySem.Spec PyProof.Rows L2 Gh
section
variable {g : Gw} {E : XK} {ε : Env} {te : TE} {me : Tr D} {w : World}
def sortSD (x : D) : Tr D := lsI x fun ns => if ns.length < 64 then .ok (.lst ((setI ns).map .int)) else .bad
end
end Gp
end
section
namespace Gp
open PySem PySem.Spec PyProof.Rows L2 Gh
section
variable {g : Gw} {Mt U0 U U' : Addr → Prop} {H0 H H' H1 H2 : Hp} {b b1 : Nat} {σ : L2.St} {ε ε' : Env} {E : XK} {W L W' : Type}
variable {env : W → Env} {envL : L → Env} {env' : W' → Env} {u ta tb : TS} {te : TE} {me : Tr D}
def asL (x : D) : Tr (List D) := match x with
  | .lst ds => .ok ds
  | _ => .bad
end
end Gp
end
section
namespace Gp
open PySem PySem.Spec PyProof.Rows L2 Gh
section
variable {g : Gw} {Mt U0 U U' : Addr → Prop} {H0 H H' H1 H2 : Hp} {b b1 : Nat} {σ : L2.St} {ε ε' : Env} {W L W' : Type} {yd : List D}
variable {env : W → Env} {envL : L → Env} {env' : W' → Env} {u ta tb : TGn} {te : TE} {me : Tr D}
def gflP (g : Gw) (Mt U0 : Addr → Prop) (H0 : Hp) (U : Addr → Prop) (H : Hp) (D : GEnds) (env : W → Env) (envL : L → Env) : List Gp.D × Fl W L → Nat → Prop
  | (zs, .nx w), b => ∀ U' σ' H' ys', Ev U H U' H' → Stt g Mt U0 H0 U' σ' H' b (env w) → DenL g U' H' ys' zs → D.nx ys' σ' H'
  | (_, .rt _), _ => False
  | (zs, .bk w), b => ∀ U' σ' H' ys', Ev U H U' H' → Stt g Mt U0 H0 U' σ' H' b (envL w) → DenL g U' H' ys' zs → D.bk ys' σ' H'
  | (zs, .ct w), b => ∀ U' σ' H' ys', Ev U H U' H' → Stt g Mt U0 H0 U' σ' H' b (envL w) → DenL g U' H' ys' zs → D.ct ys' σ' H'
theorem gflP.ev {U1 : Addr → Prop} {H1 : Hp} {D : GEnds} {env : W → Env} {envL : L → Env} (e : Ev U H U1 H1) : ∀ {f : List Gp.D × Fl W L}, gflP g Mt U0 H0 U H D env envL f b → gflP g Mt U0 H0 U1 H1 D env envL f b
  | (_, .nx w), h => fun U' σ' H' ys' e1 => h U' σ' H' ys' (e.trans e1)
  | (_, .rt d), h => h
  | (_, .bk w), h => fun U' σ' H' ys' e1 => h U' σ' H' ys' (e.trans e1)
  | (_, .ct w), h => fun U' σ' H' ys' e1 => h U' σ' H' ys' (e.trans e1)
end
section
variable {P : Program} {w : World} {K : PySem.W.Frag} {mg : Str → Option Value} {base : Heap}
end
end Gp
end
section
namespace Gp
open PySem PySem.Spec PyProof.Rows L2 Gh
section
variable {g : Gw} {E : XK} {ε : Env} {te : TE} {me : Tr D}
def seqD (x : D) : Tr (List D) := match x with
  | .lst ds => .ok ds
  | .tup ds => .ok ds
  | _ => .bad
end
end Gp
end
section
namespace Gp
open PySem PySem.Spec PyProof.Rows L2 Gh
section
variable {g : Gw} {Mt U0 U U' : Addr → Prop} {H0 H H' H1 H2 : Hp} {b b1 : Nat} {σ : L2.St} {ε ε' : Env} {E : XK} {W L W' : Type}
variable {env : W → Env} {envL : L → Env} {env' : W' → Env} {u ta tb : TS} {te ti : TE} {me mi : Tr D}
def setD (ds : List D) (x v : D) : Tr (List D) := match x with
  | .int z => match ixN ds.length z with
    | some j => .ok (ds.set j v)
    | none => .bad
  | _ => .bad
def listL (x : D) : Tr (List D) := match x with
  | .lst ds => .ok ds
  | .tup ds => .ok ds
  | _ => .bad
structure Pnd (g : Gw) (Mt U0 : Addr → Prop) (H0 : Hp) (U : Addr → Prop) (σ : L2.St) (H : Hp) (ε : Env) (A : Addr) (ds : List D) : Prop where
  at_ : ∃ vs, H A = some (.lst vs) ∧ vs.length ≤ sizeLine ∧ DenL g U H vs ds
  u : U A
  np : A ≠ g.p
  nc : A ≠ g.c
  n0 : ¬ U0 A
  no : ∀ j, ¬ OwnAt σ ε j A
  mt : Mt A ∨ ∀ o, H0 A = some o → ∃ ps, o = .tbl ps
theorem Pnd.fr {A : Addr} {ds : List D} (uo : UOk g U H) (p : Pnd g Mt U0 H0 U σ H ε A ds) (f : Fr H H' g.p) : Pnd g Mt U0 H0 U σ H' ε A ds := by
  obtain ⟨⟨vs, hA, l, dn⟩, uA, hp, hc, n0, no, mt⟩ := p
  exact ⟨⟨vs, f _ _ hA hp (fun _ z => by cases z), l, dn.fr uo f⟩, uA, hp, hc, n0, no, mt⟩
theorem Pnd.set {A : Addr} {ds : List D} (p : Pnd g Mt U0 H0 U σ H ε A ds) (i : Nat) (v : V) (d : D) : Pnd g Mt U0 H0 U (σ.set i (some v)) H (ε.set i (.fz d)) A ds :=
  ⟨p.at_, p.u, p.np, p.nc, p.n0, fun j h => p.no j (ownAt_set h).2, p.mt⟩
inductive QR (g : Gw) (Mt U0 : Addr → Prop) (H0 : Hp) (U : Addr → Prop) (σ : L2.St) (H : Hp) (ε : Env) : Nat → List V → List D → Prop
  | here {A : Addr} {ds : List D} {vs : List V} {xs : List D} : Pnd g Mt U0 H0 U σ H ε A ds → DenL g U H vs xs → QR g Mt U0 H0 U σ H ε 0 (.ref A :: vs) (.lst ds :: xs)
  | next {n : Nat} {v : V} {d : D} {vs : List V} {ds : List D} : Den g U H v d → QR g Mt U0 H0 U σ H ε n vs ds → QR g Mt U0 H0 U σ H ε (n + 1) (v :: vs) (d :: ds)
theorem QR.length {n : Nat} : ∀ {vs : List V} {ds : List D}, QR g Mt U0 H0 U σ H ε n vs ds → vs.length = ds.length
  | _, _, .here _ k => congrArg (· + 1) k.length
  | _, _, .next _ r => congrArg (· + 1) r.length
end
end Gp
end
section
namespace Gp
open PySem PySem.Spec PyProof.Rows L2 Gh
inductive ItH where
  | s (x : Str) | n (i : Int) | f (x : Str)
def ItH.te (a : Addr) (cls : Value) (d : Option Addr) (C : Addr) (i : Nat) : ItH → TE
  | .s x => tC (.str x)
  | .n k => tC (.int k)
  | .f x => tXf a cls d C x (tVar i)
def ItH.d (fs : Fs) : ItH → Option D
  | .s x => if x.length ≤ sizeLine then some (.str x) else none
  | .n k => some (.int k)
  | .f x => fs.lookup x
section
variable {g : Gw} {U : Addr → Prop} {H H' : Hp} {b : Nat} {σ : L2.St} {ε : Env}
def Fz (ε : Env) : Prop := ∀ s ∈ ε, (∃ d, s = .fz d) ∨ s = .no
theorem Fz.set {j : Nat} {d : D} (h : Fz ε) : Fz (ε.set j (.fz d)) := fun s m => by
  rcases List.mem_or_eq_of_mem_set m with m | m
  · exact h s m
  · exact .inl ⟨_, m⟩
theorem Fz.own (h : Fz ε) : ∀ i a, ¬ OwnAt σ ε i a := fun i a ⟨_, z⟩ => by
  rcases z with ⟨x, z⟩ | ⟨x, y, z⟩
  · rcases h _ (List.mem_of_getElem? z) with ⟨d, e⟩ | e <;> cases e
  · rcases h _ (List.mem_of_getElem? z) with ⟨d, e⟩ | e <;> cases e
end
end Gp
end
section
namespace Gz
open PySem
open Sem (wp)
def pois : GenState → GenState
  | .suspended _ l c p fs cl => .suspended (fun _ => .unsupported "") l c p fs cl
  | x => x
def IsSusp (x : GenState) : Prop := ∃ k l c p fs cl, x = .suspended k l c p fs cl
def Fixd (x : GenState) : Prop := IsSusp x ∨ x = .running
theorem fixd_run : Fixd .running := .inr rfl
abbrev Map := Nat → Option GenState
def rest (ρ : Map) (G : Array GenState) : Array GenState := G.mapIdx fun i x => (ρ i).getD x
structure Held (ρ : Map) (G : Array GenState) : Prop where
  at_ : ∀ i x, ρ i = some x → Fixd x ∧ G[i]? = some (pois x)
  fr : ∀ i k l c p fs cl, ρ i = none → G[i]? = some (.suspended k l c p fs cl) → ∀ g kk ll cc pp, Frame.gen g kk ll cc pp ∈ fs → ρ g = none
def FsOk (ρ : Map) (fs : List Frame) : Prop := ∀ g kk ll cc pp, Frame.gen g kk ll cc pp ∈ fs → ρ g = none
theorem rest_size (ρ : Map) (G : Array GenState) : (rest ρ G).size = G.size := by unfold rest; exact Array.size_mapIdx
theorem rest_get (ρ : Map) (G : Array GenState) (i : Nat) : (rest ρ G)[i]? = (G[i]?).map fun x => (ρ i).getD x := by
  unfold rest
  exact Array.getElem?_mapIdx
theorem Held.lt {ρ : Map} {G : Array GenState} (h : Held ρ G) {i : Nat} {x : GenState} (e : ρ i = some x) : i < G.size := by
  obtain ⟨_, q⟩ := h.at_ i x e
  exact (Array.getElem?_eq_some_iff.mp q).1
theorem Held.push {ρ : Map} {G : Array GenState} (h : Held ρ G) (c : Code) : Held ρ (G.push (.fresh c)) ∧ rest ρ (G.push (.fresh c)) = (rest ρ G).push (.fresh c) := by
  have hn : ρ G.size = none := by
    cases e : ρ G.size with
    | none => rfl
    | some x => exact absurd (h.lt e) (Nat.lt_irrefl _)
  refine ⟨⟨fun i x e => ?_, fun i k l c' p fs cl e q => ?_⟩, ?_⟩
  · obtain ⟨a, b⟩ := h.at_ i x e
    refine ⟨a, ?_⟩
    rw [Array.getElem?_push, if_neg (Nat.ne_of_lt (h.lt e))]
    exact b
  · rw [Array.getElem?_push] at q
    split at q
    · cases q
    · exact h.fr i k l c' p fs cl e q
  · apply Array.ext_getElem?
    intro i
    rw [rest_get, Array.getElem?_push, Array.getElem?_push, rest_size]
    by_cases e : i = G.size
    · rw [if_pos e, if_pos e, e, hn]
      rfl
    · rw [if_neg e, if_neg e, rest_get]
theorem Held.set {ρ : Map} {G : Array GenState} (h : Held ρ G) {g : Nat} (hg : ρ g = none) {y : GenState} (hy : ∀ k l c p fs cl, y = .suspended k l c p fs cl → FsOk ρ fs) :
    Held ρ (G.setIfInBounds g y) ∧ rest ρ (G.setIfInBounds g y) = (rest ρ G).setIfInBounds g y := by
  refine ⟨⟨fun i x e => ?_, fun i k l c p fs cl e q => ?_⟩, ?_⟩
  · obtain ⟨a, b⟩ := h.at_ i x e
    refine ⟨a, ?_⟩
    rw [Array.getElem?_setIfInBounds_ne (fun z => by rw [z, e] at hg; cases hg)]
    exact b
  · by_cases z : g = i
    · subst z
      rw [Array.getElem?_setIfInBounds_self] at q
      split at q
      · exact hy _ _ _ _ _ _ (Option.some.inj q)
      · cases q
    · rw [Array.getElem?_setIfInBounds_ne z] at q
      exact h.fr i k l c p fs cl e q
  · apply Array.ext_getElem?
    intro i
    rw [rest_get]
    by_cases z : g = i
    · subst z
      rw [Array.getElem?_setIfInBounds_self, Array.getElem?_setIfInBounds_self, rest_size, hg]
      split <;> rfl
    · rw [Array.getElem?_setIfInBounds_ne z, Array.getElem?_setIfInBounds_ne z, rest_get]
abbrev up (ρ : Map) (s : Shared) : Shared := { s with gens := rest ρ s.gens }
theorem Held.run {ρ : Map} {G : Array GenState} (h : Held ρ G) {g : Nat} (e : G[g]? = some .running) : (rest ρ G)[g]? = some .running := by
  rw [rest_get, e]
  cases q : ρ g with
  | none => rfl
  | some y =>
    obtain ⟨hy, b⟩ := h.at_ g y q
    rw [e] at b
    rcases hy with ⟨k, l, c, p, fs, cl, rfl⟩ | rfl
    · cases b
    · rfl
def Sleep (s s1 : Shared) : Prop := ∀ (i : Nat) (x : GenState), Fixd x → s.gens[i]? = some x → s1.gens[i]? = some x
theorem Sleep.refl {s : Shared} : Sleep s s := fun _ _ _ h => h
theorem Sleep.trans {a b c : Shared} (h : Sleep a b) (k : Sleep b c) : Sleep a c := fun i x hx e => k i x hx (h i x hx e)
end Gz
end
section
namespace Gz
open PySem PySem.Spec PyProof.Rows L2 GenW Gh
abbrev EndI (ι : Type) := Nat → ι → Result → Shared → Prop
abbrev ProI (ι : Type) := Nat → ι → Value → Shared → (Resume → ι → Shared → Prop) → Prop
section
variable {ι : Type} {M : Model} {A : Around} {R : EndI ι} {Y : ProI ι} {n : Nat} {i : ι} {c : Code} {fs : List Frame} {s : Shared}
def endI (R : EndI ι) (Y : ProI ι) (n : Nat) (go : ι → Code → Sem PySem.Fin → List Frame → Shared → Prop) (i : ι) : End → Shared → Prop
  | .ret r, s' => R n i r s'
  | .susp v g l k c p fs, s' => (End.susp v g l k c p fs).quiet = true ∧ Y (n - 1) i v s' fun r j s'' => go j c (k r) fs s''
def GSeg (M : Model) (A : Around) (R : EndI ι) (Y : ProI ι) : Nat → ι → Code → Sem PySem.Fin → List Frame → Shared → Prop
  | 0, i, c, t, fs, s => ∀ Γ p, Γ.code = c → Γ.Woken A → ∃ e s', Runs M Γ p t fs s e s' ∧ endI R Y 0 (fun _ _ _ _ _ => False) i e s'
  | n + 1, i, c, t, fs, s => ∀ Γ p, Γ.code = c → Γ.Woken A → ∃ e s', Runs M Γ p t fs s e s' ∧ endI R Y (n + 1) (GSeg M A R Y n) i e s'
section
variable {α β : Type} {m : Sem α} {H : Value → Sem PySem.Fin} {gd : Bool → Bool} {lv : List Value → List Value}
end
section
variable {env : PySem.Env} {K : Flow → Sem PySem.Fin} {H : Value → Sem PySem.Fin} {gd : Bool → Bool} {lv : List Value → List Value}
end
section
variable {prog : Program} {w : World} {env : PySem.Env}
end
def GGoes (M : Model) (A : Around) (R : EndI ι) (Y : ProI ι) (n : Nat) (i : ι) : GenState → Resume → Shared → Prop
  | .fresh c, r, s => r = .send .none ∧ GSeg M A R Y n i c (M.den c) [] s
  | .suspended k _ c _ fs _, r, s => GSeg M A R Y n i c (k r) fs s
  | _, _, _ => False
end
end Gz
end
section
namespace Gz
open PySem PySem.Spec PyProof.Rows L2 GenW Gh
variable {X : Cx}
def cut (h : Heap) (n : Nat) : Heap := { h with objs := h.objs.extract 0 n }
abbrev cutS (s : Shared) (n : Nat) : Shared := { s with heap := cut s.heap n }
abbrev reb (X : Cx) (s0 : Shared) (H0 : Hp) : Cx := { X with s_0 := s0, H_0 := H0, xe := fun _ _ => False }
def RunS (s s1 : Shared) : Prop := ∀ i : Nat, s.gens[i]? = some .running → s1.gens[i]? = some .running
theorem RunS.refl {s : Shared} : RunS s s := fun _ h => h
theorem RunS.trans {a b c : Shared} (h : RunS a b) (k : RunS b c) : RunS a c := fun i e => k i (h i e)
theorem Sleep.runs {a b : Shared} (h : Sleep a b) : RunS a b := fun i e => h i _ fixd_run e
structure Pro (T : Type) where
  hp : T → Hp
  src : T → Shared → Shared
  out : Nat → T → V → Hp → Prop
  lk : Nat → T → Hp → T → Prop
  fin : Nat → T → Hp → Prop
structure QE (T : Type) where
  nx : Nat → T → L2.St → Hp → Prop
  rt : Nat → T → V → Hp → Prop
  bk : Nat → T → L2.St → Hp → Prop := fun _ _ _ _ => False
  ct : Nat → T → L2.St → Hp → Prop := fun _ _ _ _ => False
def QE.at {T : Type} (D : QE T) (n : Nat) (γ : T) : Ends := { nx := D.nx n γ, rt := D.rt n γ, bk := D.bk n γ, ct := D.ct n γ }
structure QI {T : Type} (X : Cx) (g n0 : Nat) (P : Pro T) (ip : List (Addr × Obj)) (gp : List (Nat × GenState)) (γ : T) (s₀ : Shared) (σ : L2.St) (H : Hp) (s : Shared) : Prop where
  inv : Inv (reb X (cutS (P.src γ s₀) n0) (P.hp γ)) ip σ H s
  run : s.gens[g]? = some .running
  sz : n0 ≤ (P.src γ s₀).heap.objs.size
  ips : ∀ p ∈ ip, n0 ≤ p.1
  slp : RunS s₀ s
  gpn : ∀ q ∈ gp, IsSusp q.2 ∧ s.gens[q.1]? = some q.2
def QY {T : Type} (X : Cx) (g n0 : Nat) (P : Pro T) : ProI (T × Shared) := fun n i v s kap =>
  ∃ σ ip gp x H, QI X g n0 P ip gp i.1 i.2 σ H s ∧ RelV x v ∧ P.out n i.1 x H ∧
    ∀ s' γ', QI X g n0 P ip gp γ' s' σ (P.hp γ') s' → P.lk n i.1 H γ' → kap (.send .none) (γ', s') s'
def QR {T : Type} (X : Cx) (g n0 : Nat) (P : Pro T) (N : Nat) (Er : Value → Shared → Prop) : EndI (T × Shared) := fun n i r s1 =>
  ((r = .ok (.ret .none) ∨ r = .ok .next) ∧ ∃ σ ip gp H, QI X g n0 P ip gp i.1 i.2 σ H s1 ∧ P.fin n i.1 H) ∨ ∃ e, r = .error e ∧ (n = N ∧ Er e s1)
section
variable {T : Type} {Z : GpZ} {st : Stmt} {rest : List Stmt} {pos : Pos}
end
end Gz
end
section
namespace Gz
open PySem PySem.Spec PyProof.Rows L2 GenW Gh
section
variable {X : Cx} {ip : List (Addr × Obj)} {σ : L2.St} {H : Hp} {s : Shared}
end
structure HxOk (n : Nat) (H H2 : Hp) : Prop where
  low : ∀ {b : Addr}, b < n → H2 b = H b
  ext : ∀ {b : Addr} {o : HO}, H b = some o → H2 b = some o
  tup : ∀ {b : Addr} {xs : List V}, H2 b = some (.tup xs) → H b = some (.tup xs)
  frz : ∀ {b : Addr} {od : Obj} {u : HO}, H2 b = some (.frz od u) → H b = some (.frz od u)
  tbl : ∀ {b : Addr} {ps : Array Value}, H2 b = some (.tbl ps) → H b = some (.tbl ps)
theorem HxOk.sub {n : Nat} {H H2 : Hp} (h : HxOk n H H2) {b : Addr} (e : H2 b = none) : H b = none := by
  cases q : H b with
  | none => rfl
  | some o =>
    rw [h.ext q] at e
    cases e
theorem HxOk.mono {n m : Nat} {H H2 : Hp} (h : HxOk n H H2) (l : m ≤ n) : HxOk m H H2 := ⟨fun q => h.low (Nat.lt_of_lt_of_le q l), h.ext, h.tup, h.frz, h.tbl⟩
theorem HxOk.same {n : Nat} {H H2 : Hp} (h : H2 = H) : HxOk n H H2 := by
  subst h
  exact ⟨fun _ => rfl, fun e => e, fun e => e, fun e => e, fun e => e⟩
theorem HxOk.trans {n : Nat} {H H2 H3 : Hp} (h : HxOk n H H2) (k : HxOk n H2 H3) : HxOk n H H3 :=
  ⟨fun q => (k.low q).trans (h.low q), fun e => k.ext (h.ext e), fun e => h.tup (k.tup e), fun e => h.frz (k.frz e), fun e => h.tbl (k.tbl e)⟩
theorem HxOk.one {n : Nat} {H H2 : Hp} (z : ∃ S o, n ≤ S ∧ H S = none ∧ (∀ xs, o ≠ .tup xs) ∧ (∀ od u, o ≠ .frz od u) ∧ (∀ ps, o ≠ .tbl ps) ∧ H2 = upd H S o) : HxOk n H H2 := by
  obtain ⟨S, o, h0, h1, h2, h3, h4, rfl⟩ := z
  refine ⟨fun l => ?_, fun e => ?_, fun {b xs} e => ?_, fun {b od u} e => ?_, fun {b ps} e => ?_⟩
  · rw [upd_ne (Nat.ne_of_lt (Nat.lt_of_lt_of_le l h0))]
  · rw [upd_ne (ne_of_none e h1)]; exact e
  · by_cases q : b = S
    · rw [q, upd_same] at e; cases e; exact absurd rfl (h2 _)
    · rwa [upd_ne q] at e
  · by_cases q : b = S
    · rw [q, upd_same] at e; cases e; exact absurd rfl (h3 _ _)
    · rwa [upd_ne q] at e
  · by_cases q : b = S
    · rw [q, upd_same] at e; cases e; exact absurd rfl (h4 _)
    · rwa [upd_ne q] at e
section
variable {T : Type} {X : Cx} {st : Stmt} {rest : List Stmt}
end
structure GX (X : Cx) (P : Program) (w : World) (base : Heap) (outer : List Env) (a : Addr) (g n0 : Nat) : Prop where
  prog : X.prog = P
  w : X.w = w
  base : X.base = base
  outer : X.outer = outer
  ex : X.ex = []
  cel : ∀ x c, X.env.cells.lookup x = some c → False
  gen : ∀ h : Heap, (∀ p ∈ X.pn, h.get? p.1 = some p.2) → h.IsGen a g
  loc : n0 ≤ X.env.locals
  pns : ∀ p ∈ X.pn, n0 ≤ p.1
end Gz
end
section
namespace Gz
open PySem PySem.Spec PyProof.Rows L2 GenW Gh
def wrapP {T : Type} (P : Pro T) : Pro (T × Option Shared) := { hp := fun γ => P.hp γ.1, src := fun γ s => γ.2.getD s, out := fun n γ => P.out n γ.1, lk := fun n γ H γ' => P.lk n γ.1 H γ'.1, fin := fun n γ => P.fin n γ.1 }
section
variable {Xc X : Cx} {pins ip : List (Addr × Obj)} {σc σ : L2.St} {h1 h2 H1 : Hp} {s s' : Shared} {n0 : Nat}
end
structure SameC (X Y : Cx) : Prop where
  prog : Y.prog = X.prog
  w : Y.w = X.w
  base : Y.base = X.base
  stack : Y.stack = X.stack
theorem SameC.refl {X : Cx} : SameC X X := ⟨rfl, rfl, rfl, rfl⟩
structure Older (X XG : Cx) (pins : List (Addr × Obj)) (a : Addr) (g ns : Nat) : Prop where
  gx : GX XG X.prog X.w X.base X.stack a g ns
  s0 : X.s_0.heap.objs.size ≤ ns
  lo : X.env.locals < ns
  cl : ∀ x c, X.env.cells.lookup x = some c → c < ns
  pl : ∀ p ∈ X.pn ++ pins, p.1 < ns
  fs : ∀ b ∈ X.fs, b < ns
theorem Older.of {X XG : Cx} {pins : List (Addr × Obj)} {a : Addr} {g : Nat} {σ : L2.St} {H : Hp} {sc : Shared} (gx : GX XG X.prog X.w X.base X.stack a g sc.heap.objs.size) (I1 : Inv X pins σ H sc) : Older X XG pins a g sc.heap.objs.size :=
  ⟨gx, I1.sz, I1.lt, fun x c e => by
    obtain ⟨v, o, q, _⟩ := I1.cell x c e
    exact Heap.lt_size q, fun p hp => Heap.lt_size (I1.pin p hp).1, fun b hb => by
    obtain ⟨_, o, e, _⟩ := I1.ok.funs.mem hb
    exact Nat.lt_of_lt_of_le (Heap.lt_size e) I1.sz⟩
def Fst {T : Type} (X : Cx) (pins : List (Addr × Obj)) (P : Pro T) (ns : Nat) (γ : T × Option Shared) (σ : L2.St) : Prop :=
  ∀ s', γ.2 = some s' → s'.heap.objs.size = ns ∧ ∃ H1, Inv X pins σ H1 s' ∧ HxOk ns H1 (P.hp γ.1)
def Pulled {T : Type} (M : Model) (P : Pro T) (XG : Cx) (ns : Nat) (a : Addr) (g : Nat) (A : Around) (ER : Value → Shared → Prop) (N n : Nat) (γ : T × Option Shared) (s : Shared) : Prop :=
  s.heap.IsGen a g ∧ ∃ gs, s.gens[g]? = some gs ∧ GGoes M A.in1 (QR XG g ns (wrapP P) (N + 1) ER) (QY XG g ns (wrapP P)) (n + 1) (γ, s.setGen g .running) gs (.send .none) (s.setGen g .running)
section
variable {T : Type} {X XG : Cx} {pins : List (Addr × Obj)} {P : Pro T} {s s4 : Shared} {a : Addr} {g ns N n : Nat} {A : Around} {ER : Value → Shared → Prop} {σ σg : L2.St} {H4 : Hp} {γ : T × Option Shared} {ip : List (Addr × Obj)} {gp : List (Nat × GenState)} {gs' : GenState}
end
def PullS {T : Type} (X : Cx) (pins : List (Addr × Obj)) (P : Pro T) (I : Nat → T → L2.St → Prop) (sc : Shared) (XG : Cx) (a : Addr) (g : Nat) (A : Around) (H1 : Hp) (E : XK) (N n : Nat) (s : Shared) : Prop :=
  ∃ γ : T × Option Shared, ∃ σ, I n γ.1 σ ∧ Inv X pins σ (P.hp γ.1) s ∧ Fst X pins P sc.heap.objs.size γ σ ∧ Pulled (model X.prog X.w) P XG sc.heap.objs.size a g A (fun e s1 => CX X.prog X.w X.stack H1 sc E e s1 ∧ s1.heap.IsGen a g) N n γ s
section
variable {T : Type} {X XG : Cx} {pins : List (Addr × Obj)} {P : Pro T} {I : Nat → T → L2.St → Prop} {sc s : Shared} {a : Addr} {g N n : Nat} {A : Around} {H1 : Hp} {E : XK} {σ1 : L2.St}
theorem PullS.inv (h : PullS X pins P I sc XG a g A H1 E N n s) : ∃ γ σ, I n γ σ ∧ Inv X pins σ (P.hp γ) s := by
  obtain ⟨γ, σ, h1, h2, _⟩ := h
  exact ⟨γ.1, σ, h1, h2⟩
theorem PullS.gen (h : PullS X pins P I sc XG a g A H1 E N n s) : s.heap.IsGen a g := by
  obtain ⟨γ, _, _, _, _, h, _⟩ := h
  exact h
end
section
variable {X : Cx} {tg iter : Expr} {body : List Stmt} {tq : TQG} {gt : TG} {tb : TS} {pos : Pos} {k : Nat} {E : XK}
end
end Gz
end
section
namespace Gp
open PySem PySem.Spec PyProof.Rows L2 Gh Gz
structure GT (α : Type) where
  out : List D
  res : Tr α
section
variable {W W' L : Type}
def gbF (m : GT (Fl W' L)) (k : W' → GT (Fl W L)) : GT (Fl W L) := match m.res with
  | .ok (.nx w) => ⟨m.out ++ (k w).out, (k w).res⟩
  | .ok (.rt d) => ⟨m.out, .ok (.rt d)⟩
  | .ok (.bk l) => ⟨m.out, .ok (.bk l)⟩
  | .ok (.ct l) => ⟨m.out, .ok (.ct l)⟩
  | _ => ⟨m.out, .bad⟩
def gpl (m : Tr (Fl W L)) : GT (Fl W L) := ⟨[], m⟩
def gyl (m : Tr D) (w : W) : GT (Fl W L) := match m with
  | .ok d => ⟨[d], .ok (.nx w)⟩
  | _ => ⟨[], .bad⟩
def gif (c : Tr Bool) (m n : GT (Fl W L)) : GT (Fl W L) := match c with
  | .ok k => if k = true then m else n
  | _ => ⟨[], .bad⟩
def forY (f : D → W → GT (Fl W W)) : List D → W → GT (Fl W L)
  | [], w => ⟨[], .ok (.nx w)⟩
  | x :: xs, w => match (f x w).res with
    | .ok (.nx w') => ⟨(f x w).out ++ (forY f xs w').out, (forY f xs w').res⟩
    | .ok (.ct w') => ⟨(f x w).out ++ (forY f xs w').out, (forY f xs w').res⟩
    | .ok (.bk w') => ⟨(f x w).out, .ok (.nx w')⟩
    | _ => ⟨(f x w).out, .bad⟩
def gfin (m : GT (Fl Unit Empty)) : GT Unit := match m.res with
  | .ok (.nx _) => ⟨m.out, .ok ()⟩
  | _ => ⟨m.out, .bad⟩
def gpre (m : Tr (Fl W Empty)) (k : W → GT Unit) : GT Unit := match m with
  | .ok (.nx w) => k w
  | .ex c fs => ⟨[], .ex c fs⟩
  | _ => ⟨[], .bad⟩
def endY (l : List Str) (m : GT Unit) : Tr Unit := match m.res with
  | .ok _ => .ok ()
  | .ex c fs => if (m.out.isEmpty && l.contains c) = true then .ex c fs else .bad
  | _ => .bad
end
structure PY (g : Gw) (all : List D) (N : Nat) {T : Type} (P : Pro T) where
  U : T → Addr → Prop
  B : T → Nat
  ok : Prop
  out : ∀ n γ x H1 d, n + 1 ≤ N → all[N - (n + 1)]? = some d → Den g (U γ) H1 x d → Wd g H1 (B γ) → Fr (P.hp γ) H1 g.p → P.out n γ x H1
  lk : ∀ n γ H1 γ', P.lk n γ H1 γ' → 0 < n ∧ Ev (U γ) H1 (U γ') (P.hp γ') ∧ UOk g (U γ') (P.hp γ') ∧ Wd g (P.hp γ') (B γ')
  fin : ∀ n γ H1, ok → n + all.length = N → Wd g H1 (B γ) → Fr (P.hp γ) H1 g.p → P.fin n γ H1
abbrev NoM : Addr → Prop := fun _ => False
section
variable {g : Gw} {T : Type} {P : Pro T} {all : List D} {N : Nat} {W W' L : Type}
def gqP (Y : PY g all N P) (D : QE T) (env : W → Env) (envL : L → Env) (n : Nat) (U : Addr → Prop) (H : Hp) : Fl W L → Prop
  | .nx w => ∀ γ' U' σ' H', Ev U H U' H' → Stt g NoM (Y.U γ') (P.hp γ') U' σ' H' (Y.B γ') (env w) → D.nx n γ' σ' H'
  | .rt _ => False
  | .bk w => ∀ γ' U' σ' H', Ev U H U' H' → Stt g NoM (Y.U γ') (P.hp γ') U' σ' H' (Y.B γ') (envL w) → D.bk n γ' σ' H'
  | .ct w => ∀ γ' U' σ' H', Ev U H U' H' → Stt g NoM (Y.U γ') (P.hp γ') U' σ' H' (Y.B γ') (envL w) → D.ct n γ' σ' H'
theorem gqP.ev {Y : PY g all N P} {D : QE T} {env : W → Env} {envL : L → Env} {n : Nat} {U U1 : Addr → Prop} {H H1 : Hp} (e : Ev U H U1 H1) : ∀ {f : Fl W L}, gqP Y D env envL n U H f → gqP Y D env envL n U1 H1 f
  | .nx w, h => fun γ' U' σ' H' e1 => h γ' U' σ' H' (e.trans e1)
  | .rt _, h => h
  | .bk w, h => fun γ' U' σ' H' e1 => h γ' U' σ' H' (e.trans e1)
  | .ct w, h => fun γ' U' σ' H' e1 => h γ' U' σ' H' (e.trans e1)
end
theorem Ev.sup {U U1 U' : Addr → Prop} {H H' : Hp} (h : Ev U H U' H') (s : ∀ a, U a → U1 a) : Ev U1 H U' H' := ⟨fun a o e n t => h.keep a o e (fun z => n (s a z)) t, fun a o e n t => h.out a o e (fun z => n (s a z)) t⟩
section
variable {g : Gw} {W W' L : Type} {ε : Env} {env : W → Env} {envL : L → Env} {env' : W' → Env} {u ta tb : TQA} {te : TE} {me : Tr D}
end
end Gp
end
section
namespace Gp
open PySem PySem.Spec PyProof.Rows L2 Gh Gz
section
variable {g : Gw} {W W' L : Type} {ε : Env} {env : W → Env} {envL : L → Env} {env' : W' → Env} {u ta tb : TQA} {te : TE} {me : Tr D}
def yfor (mi : Tr (List D)) (f : D → W → GT (Fl W W)) (w0 : W) : GT (Fl W L) := match mi with
  | .ok ds => forY f ds w0
  | _ => ⟨[], .bad⟩
theorem forY_cons (f : D → W → GT (Fl W W)) (x : D) (xs : List D) (w : W) : forY (L := L) f (x :: xs) w = match (f x w).res with
    | .ok (.nx w') => ⟨(f x w).out ++ (forY (L := L) f xs w').out, (forY f xs w').res⟩
    | .ok (.ct w') => ⟨(f x w).out ++ (forY (L := L) f xs w').out, (forY f xs w').res⟩
    | .ok (.bk w') => ⟨(f x w).out, .ok (.nx w')⟩
    | _ => ⟨(f x w).out, .bad⟩ := rfl
end
section
variable {g : Gw} {W : Type} {ε : Env} {E : XK} {u : TQA} {t : TS}
end
end Gp
end
section
namespace Gp
open PySem PySem.Spec PyProof.Rows L2 Gh Gz
def yl2 (F : D → D → GT Unit) : List D → GT Unit
  | [x, y] => F x y
  | _ => ⟨[], .bad⟩
section
variable {K : PySem.W.Frag} {Tb : List (Addr × Str)} {Nn : List Str} {vs : List V} {t : TQA} {H : Hp} {E : XK} {T : Type} {P : Pro T} {N : Nat} {γ : T}
end
section
variable {P : Program} {w : World} {K : PySem.W.Frag} {mg : Str → Option Value} {base : Heap}
end
section
variable {g : Gw} {E E' : XK} {W W' L : Type} {ε : Env} {env : W → Env} {envL : L → Env} {u tb : TS} {t : TA} {mt : Tr (List D)} {tx : TE} {ma : Tr D}
end
end Gp
end
section
namespace Gp
open PySem PySem.Spec PyProof.Rows L2 Gh Gz
def listY (lst : List Str) (m : GT Unit) : Tr D := bd (endY lst m) fun _ => if m.out.length ≤ sizeLine then .ok (.lst m.out) else .bad
section
variable {g : Gw} {E E' : XK} {ε : Env} {U : Addr → Prop} {H1 : Hp} {b1 : Nat}
end
section
variable {X : Cx} {k : Nat} {E : XK} {tq : TQG}
end
end Gp
end
section
namespace Gp
open PySem PySem.Spec PyProof.Rows L2 Gh
def rIsiX (K : PySem.W.Frag) (a : Addr) (cls : Value) (d : Option Addr) : List V → Hp → VK → Prop := fun xs H Q => ∃ (C dd : Addr) (fs : List (Str × V)) (c : V) (u : Value) (b : Bool), xs = [.ref a, c] ∧ ClsV c u ∧ cls = .ref C ∧ d = some dd ∧ H dd = some (.xd fs) ∧ ErrT K C ∧ PySem.W.kitOne K (.ref C) u = some b ∧ Q (.bl b) H
inductive BX where
  | lit (b : Bool) | own (x : Str) | ty (x : String) | and (p q : BX)
def BX.te (K : PySem.W.Frag) (a : Addr) (cls : Value) (d : Option Addr) (i : Nat) : BX → TE
  | .lit b => tC (.bl b)
  | .own x => tCB (rIsiX K a cls d) (tCons (tVar i) (tCons (tC (.ref (gd x K))) tNil))
  | .ty x => tCB (rIsiX K a cls d) (tCons (tVar i) (tCons (tC (.ty x)) tNil))
  | .and p q => tAndV (p.te K a cls d i) (q.te K a cls d i)
def BX.v : BX → Bool
  | .lit b => b
  | .own _ => true
  | .ty _ => true
  | .and p q => p.v && q.v
def BX.free : BX → Bool
  | .lit _ => true
  | .own _ => false
  | .ty _ => false
  | .and p q => p.free && q.free
section
variable {g : Gw} {U : Addr → Prop} {H H' : Hp} {b : Nat} {σ : L2.St} {ε : Env}
end
end Gp
end
section
namespace Gp
open PySem PySem.Spec PyProof.Rows L2 Gh
inductive IX where
  | s (x : Str) | n (i : Int) | f (cn x : Str)
def IX.te (K : PySem.W.Frag) (a : Addr) (cls : Value) (d : Option Addr) (i : Nat) : IX → TE
  | .s x => tC (.str x)
  | .n k => tC (.int k)
  | .f cn x => tXf a cls d (gd cn K) x (tVar i)
def ixTs (K : PySem.W.Frag) (a : Addr) (cls : Value) (d : Option Addr) (i : Nat) : List IX → TA
  | [] => tNil
  | x :: r => tCons (x.te K a cls d i) (ixTs K a cls d i r)
def IX.d (cl : Str) (fs : Fs) : IX → Option D
  | .s x => if x.length ≤ sizeLine then some (.str x) else none
  | .n k => some (.int k)
  | .f cn x => if (cl == cn) = true then fs.lookup x else none
def ixDs (cl : Str) (fs : Fs) : List IX → Option (List D)
  | [] => some []
  | x :: r => match x.d cl fs, ixDs cl fs r with
    | some d, some ds => some (d :: ds)
    | _, _ => none
def rIsiX2 (K : PySem.W.Frag) (a : Addr) (cls : Value) (d : Option Addr) : List V → Hp → VK → Prop := fun xs H Q => ∃ (C dd tp c1 c2 : Addr) (fs : List (Str × V)) (b : Bool), xs = [.ref a, .ref tp] ∧ cls = .ref C ∧ d = some dd ∧ H dd = some (.xd fs) ∧ ErrT K C ∧ H tp = some (.tup [.ref c1, .ref c2]) ∧ PySem.W.kitAny K (.ref C) [.ref c1, .ref c2] = some b ∧ Q (.bl b) H
inductive TX where
  | own (x : Str) | not (p : TX) | and (p q : TX) | own2 (x y : Str)
def TX.tt (K : PySem.W.Frag) (a : Addr) (cls : Value) (d : Option Addr) (i : Nat) : TX → TT
  | .own x => tB (tCB (rIsiX K a cls d) (tCons (tVar i) (tCons (tC (.ref (gd x K))) tNil)))
  | .not p => tNot (p.tt K a cls d i)
  | .and p q => tAnd (p.tt K a cls d i) (q.tt K a cls d i)
  | .own2 x y => tB (tCB (rIsiX2 K a cls d) (tCons (tVar i) (tCons (tTup (tCons (tC (.ref (gd x K))) (tCons (tC (.ref (gd y K))) tNil))) tNil)))
def TX.v (ki : Str → Str → Option Bool) (cl : Str) : TX → Option Bool
  | .own x => ki cl x
  | .not p => (p.v ki cl).map (!·)
  | .and p q => match p.v ki cl with
    | none => none
    | some false => some false
    | some true => q.v ki cl
  | .own2 x y => match ki cl x, ki cl y with
    | some a, some b => some (a || b)
    | _, _ => none
inductive VX where
  | one (x : IX) | lst (l : List IX)
def VX.te (K : PySem.W.Frag) (a : Addr) (cls : Value) (d : Option Addr) (i : Nat) : VX → TE
  | .one x => x.te K a cls d i
  | .lst l => tLst (ixTs K a cls d i l)
def VX.d (cl : Str) (fs : Fs) : VX → Option D
  | .one x => x.d cl fs
  | .lst l => match ixDs cl fs l with
    | some ds => if ds.length ≤ sizeLine then some (.lst ds) else none
    | none => none
inductive S1X where
  | set (v : VX) | sel (t : TX) (v u : VX)
def S1X.ts (K : PySem.W.Frag) (a : Addr) (cls : Value) (d : Option Addr) (i j : Nat) : S1X → TS
  | .set v => tAsg (v.te K a cls d i) (gName j)
  | .sel t v u => tAsg (tIf (t.tt K a cls d i) (v.te K a cls d i) (u.te K a cls d i)) (gName j)
def S1X.d (ki : Str → Str → Option Bool) (cl : Str) (fs : Fs) : S1X → Option D
  | .set v => v.d cl fs
  | .sel t v u => match t.v ki cl with
    | none => none
    | some true => v.d cl fs
    | some false => u.d cl fs
section
variable {g : Gw} {U : Addr → Prop} {H : Hp} {b : Nat} {σ : L2.St}
variable {a dd : Addr} {cl : Str} {i j n : Nat} {fvs : List (Str × V)} {fs : Fs} {ki : Str → Str → Option Bool}
end
end Gp
end
section
namespace Gp
open PySem PySem.Spec PyProof.Rows L2 Gh
mutual
def noO : D → Bool
  | .non => true
  | .bl _ => true
  | .int _ => true
  | .str _ => true
  | .tup ds => noOL ds
  | .lst ds => noOL ds
  | _ => false
def noOL : List D → Bool
  | [] => true
  | d :: r => noO d && noOL r
end
def vwA {α : Type} (p : α → Bool) : Tr α → Tr α
  | .ok a => if p a = true then .ok a else .bad
  | .ex c fs => if fs.all (fun z => noO z.2) = true then .ex c fs else .bad
  | .bad => .bad
  | .draw m k => .draw m fun d => vwA p (k d)
theorem vw_ok {α : Type} {p : α → Bool} {a : α} (h : p a = true) : vwA p (.ok a) = .ok a := if_pos h
section
variable {g : Gw} {U U' : Addr → Prop} {H : Hp}
end
section
variable {g : Gw} {Mt U0 U U' : Addr → Prop} {H0 H H' H1 H2 : Hp} {b b1 b2 : Nat} {σ : L2.St} {ε ε' : Env} {E : XK} {W L W' : Type}
variable {env : W → Env} {envL : L → Env} {env' : W' → Env} {u ta tb : TS} {te : TE} {me : Tr D}
end
end Gp
end
section
namespace Gp
open PySem PySem.Spec PyProof.Rows L2 Gh
section
variable {g : Gw} {Mt U0 U U' : Addr → Prop} {H0 H H' H1 H2 : Hp} {b b1 b2 : Nat} {σ : L2.St} {ε ε' : Env} {E : XK} {W L W' : Type}
variable {env : W → Env} {envL : L → Env} {env' : W' → Env} {u ta tb : TS} {te : TE} {me : Tr D}
def bdT {W' : Type} (m : Tr (Fl W' Empty)) (k : W' → Tr (D × Fs)) : Tr (D × Fs) := bd m fun f => match f with
  | .nx w => k w
  | _ => .bad
end
end Gp
end
section
namespace Gp
open PySem PySem.Spec PyProof.Rows L2 Gh
def isS {α : Type} (x : D) (k : Str → Tr α) : Tr α := match x with
  | .str a => k a
  | _ => .bad
theorem isS_str {α : Type} (a : Str) (k : Str → Tr α) : isS (.str a) k = k a := rfl
section
variable {g : Gw} {U : Addr → Prop} {H : Hp} {b : Nat} {E : XK} {Q : VK} {ε : Env} {to te : TE} {mo me : Tr D}
end
section
variable {X : Cx} {e f : Expr} {te tf : TE} {es : List Expr} {ta : TA} {pos p : Pos}
end
end Gp
end
section
namespace Gp
open PySem PySem.Spec PyProof.Rows L2 Gh
section
variable {g : Gw} {E : XK} {ε : Env} {U : Addr → Prop} {H : Hp} {b : Nat} {W L : Type} {tb : TS} {env : W → Env} {envL : L → Env}
def un4 {α : Type} (d : D) (k : D → D → D → D → Tr α) : Tr α := match d with
  | .tup [x, y, z, w] => k x y z w
  | _ => .bad
end
end Gp
end
section
namespace Gp
open PySem PySem.Spec PyProof.Rows L2 Gh
section
variable {g : Gw} {Mt U0 U U' : Addr → Prop} {H0 H H' H1 H2 : Hp} {b b1 b2 : Nat} {σ : L2.St} {ε ε' : Env} {E : XK} {W L W' : Type}
variable {env : W → Env} {envL : L → Env} {env' : W' → Env} {u ta tb : TS} {te : TE} {me : Tr D}
def frP (g : Gw) (U : Addr → Prop) (H : Hp) (c : Str) (Q : VK) : Fs → Nat → Prop := fun fs b' => ∀ x dx fvs H', (∀ o, H x = some o → ∃ ps, o = .tbl ps) → H' x = some (.ins (gd c g.K) dx fvs) → DenF g (fun a => U a ∨ a = x) H' fvs fs → Wd g H' b' → Fr H H' g.p → Q (.ref x) H'
theorem fresh_back {g : Gw} {H H' : Hp} {b : Nat} (w : Wd g H' b) (f : Fr H H' g.p) {x : Addr} (n : ∀ o, H' x = some o → ∃ ps, o = .tbl ps) : ∀ o, H x = some o → ∃ ps, o = .tbl ps := fun o e => by
  by_cases t : ∃ ps, o = .tbl ps
  · exact t
  · by_cases hp : x = g.p
    · subst hp
      obtain ⟨ns, i, z, h, _⟩ := w.pen
      obtain ⟨ps, q⟩ := n _ h
      cases q
    · exact n o (f x o e hp fun ps z => t ⟨ps, z⟩)
theorem frP.fr {c : Str} {Q : VK} {fs : Fs} (w : Wd g H1 b1) (f : Fr H H1 g.p) (h : frP g U H c Q fs b) : frP g U H1 c Q fs b := fun x dx fvs H' n hx df w' f' => h x dx fvs H' (fresh_back w f n) hx df w' (f.trans f')
def iopB (x m : Str) (op : Operator) (K : PySem.W.Frag) : Bool := PySem.W.selfFirst K (gd x K) && (He.eqO (PySem.W.findIn K (.ref (gd x K)) (dunderI op.info.2)) (some (some (.ref (md x m K)))) && PySem.W.isFn K (.ref (md x m K)))
end
end Gp
end
section
namespace Gp
open PySem PySem.Spec PyProof.Rows L2 Gh
section
variable {g : Gw} {Mt U0 U U' : Addr → Prop} {H0 H H' H1 H2 : Hp} {b b1 b2 : Nat} {σ : L2.St} {ε ε' : Env} {E : XK} {W L W' : Type}
variable {env : W → Env} {envL : L → Env} {env' : W' → Env} {u ta tb : TS} {te : TE} {me : Tr D}
def KeepJ (js : List Nat) (σ σ' : L2.St) : Prop := ∀ j ∈ js, σ'[j]? = σ[j]?
def flJ (js : List Nat) (σ0 : L2.St) (g : Gw) (Mt U0 : Addr → Prop) (H0 : Hp) (U : Addr → Prop) (H : Hp) (D : Ends) (env : W → Env) (envL : L → Env) : Fl W L → Nat → Prop
  | .nx w, b => ∀ U' σ' H', Ev U H U' H' → Stt g Mt U0 H0 U' σ' H' b (env w) → KeepJ js σ0 σ' → D.nx σ' H'
  | .rt d, b => ∀ v H, Den g U0 H v d → Wd g H b → FrM g Mt H0 H → D.rt v H
  | .bk w, b => ∀ U' σ' H', Ev U H U' H' → Stt g Mt U0 H0 U' σ' H' b (envL w) → KeepJ js σ0 σ' → D.bk σ' H'
  | .ct w, b => ∀ U' σ' H', Ev U H U' H' → Stt g Mt U0 H0 U' σ' H' b (envL w) → KeepJ js σ0 σ' → D.ct σ' H'
theorem flJ.ev {js : List Nat} {σ0 : L2.St} {U1 : Addr → Prop} {H1 : Hp} {D : Ends} {env : W → Env} {envL : L → Env} (e : Ev U H U1 H1) : ∀ {f : Fl W L}, flJ js σ0 g Mt U0 H0 U H D env envL f b → flJ js σ0 g Mt U0 H0 U1 H1 D env envL f b
  | .nx w, h => fun U' σ' H' e1 => h U' σ' H' (e.trans e1)
  | .rt d, h => h
  | .bk w, h => fun U' σ' H' e1 => h U' σ' H' (e.trans e1)
  | .ct w, h => fun U' σ' H' e1 => h U' σ' H' (e.trans e1)
end
end Gp
end
section
namespace Gp
open PySem PySem.Spec PyProof.Rows L2 Gh
section
variable {X : Cx}
end
section
variable {κ : Type} [DecidableEq κ] {α : Type}
end
section
variable {κ : Type} [DecidableEq κ] {g : Gw} {U : Addr → Prop} {H : Hp}
end
section
variable {g : Gw} {Mt U0 U U' : Addr → Prop} {H0 H H' H1 H2 : Hp} {b b1 : Nat} {σ : L2.St} {ε ε' : Env} {E : XK} {W L W' : Type}
variable {env : W → Env} {envL : L → Env} {env' : W' → Env} {u ta tb : TS} {te td ty tv : TE} {me : Tr D}
theorem OwR.code {o : HO} {x : Ow} (h : OwR g U H o x) (c q) : LamX.CodeO c q ≠ o := fun e => by
  unfold LamX.CodeO at e
  rcases h.no with ⟨vs, z⟩ | ⟨vs, z⟩ | ⟨vs, z⟩ <;> (rw [z] at e; cases e)
end
end Gp
end
section
namespace Gp
open PySem PySem.Spec PyProof.Rows L2 Gh
structure Lo (g : Gw) (Mt U0 : Addr → Prop) (H0 : Hp) (U : Addr → Prop) (σ : L2.St) (ε : Env) (l : Addr) : Prop where
  u : U l
  p : l ≠ g.p
  c : l ≠ g.c
  ow : ∀ j, ¬ OwnAt σ ε j l
  h0 : Mt l ∨ ∀ o, H0 l = some o → ∃ ps, o = .tbl ps
  u0 : ¬ U0 l
section
variable {g : Gw} {Mt U0 U U' : Addr → Prop} {H0 H H' H1 H2 : Hp} {b b1 : Nat} {σ : L2.St} {ε ε' : Env} {E : XK} {W L W' : Type}
variable {env : W → Env} {envL : L → Env} {env' : W' → Env} {u ta tb : TS} {te : TE} {me : Tr D}
theorem own_there (s : Stt g Mt U0 H0 U σ H b ε) {j : Nat} {a : Addr} (h : OwnAt σ ε j a) : ∃ o, H a = some o := by
  obtain ⟨h1, ⟨ds, h2⟩ | ⟨c, fs, h2⟩⟩ := h
  · obtain ⟨o, e, a', vs, e2, h, _⟩ := s.rel.at_ j _ h2
    rw [h1] at e
    cases e
    cases e2
    exact ⟨_, h⟩
  · obtain ⟨o, e, a', dx, fvs, e2, h, _⟩ := s.rel.at_ j _ h2
    rw [h1] at e
    cases e
    cases e2
    exact ⟨_, h⟩
theorem lo_new {A : Addr} {vs : List V} (s : Stt g Mt U0 H0 U σ H b ε) (n : H A = none) :
    Stt g Mt U0 H0 (fun a => U a ∨ a = A) σ (upd H A (.lst vs)) b ε ∧ Lo g Mt U0 H0 (fun a => U a ∨ a = A) σ ε A ∧ Ev U H (fun a => U a ∨ a = A) (upd H A (.lst vs)) := by
  have sm := same_new (o := .lst vs) n
  have nU : ¬ U A := s.uok.new n
  have hp : A ≠ g.p := fun z => nU (z ▸ s.uok.p)
  have hc : A ≠ g.c := fun z => nU (z ▸ s.uok.c)
  have r1 : Rel g (fun a => U a ∨ a = A) (upd H A (.lst vs)) σ ε := (s.rel.grow n).frp (.inl s.uok.p) (fr_same sm)
  refine ⟨⟨r1, s.wd.same sm, ⟨.inl s.uok.p, .inl s.uok.c, fun a ha => ?_⟩, fun a z => .inl (s.sub a z), s.own, s.ext.trans (fr_same sm), s.nu0, s.oim⟩, ⟨.inr rfl, hp, hc, fun j h => ?_, ?_, fun h => nU (s.sub _ h)⟩, fun a o e _ _ => sm a o e, fun a o e n1 _ => ?_⟩
  · rcases ha with ha | rfl
    · obtain ⟨o, e, t⟩ := s.uok.al a ha
      exact ⟨o, sm a o e, t⟩
    · exact ⟨_, upd_same, (fun _ z => by cases z), (fun _ z => by cases z)⟩
  · obtain ⟨o, e⟩ := own_there s h
    rw [n] at e
    cases e
  · by_cases m : Mt A
    · exact .inl m
    · refine .inr fun o q => ?_
      by_cases t : ∃ ps, o = .tbl ps
      · exact t
      · have := s.ext A o q hp m (fun ps z => t ⟨ps, z⟩)
        rw [n] at this
        cases this
  · rintro (z | z)
    · exact n1 z
    · exact ne_of_none e n z
theorem lo_mut {l : Addr} {vs : List V} (s : Stt g Mt U0 H0 U σ H b ε) (lo : Lo g Mt U0 H0 U σ ε l) (h : H l = some (.lst vs)) (vs' : List V) :
    Stt g Mt U0 H0 U σ (upd H l (.lst vs')) b ε ∧ Ev U H U (upd H l (.lst vs')) := by
  have kp : Keep H (upd H l (.lst vs')) l := fun x o e ne => by rw [upd_ne ne]; exact e
  have xt : ExtU U H (upd H l (.lst vs')) := fun x o e ne _ => kp x o e (fun z => ne (z ▸ lo.u))
  have apart : ∀ j x, OwnAt σ ε j x → x ≠ l := fun j x z e => by
    subst e
    exact lo.ow j z
  refine ⟨⟨⟨s.rel.len, fun j x e => ?_, s.rel.apart⟩, ⟨s.wd.pen.keep kp lo.p lo.c, tabs_keepL kp h s.wd.tabs⟩, ⟨s.uok.p, s.uok.c, fun x hx => ?_⟩, s.sub, s.own, fun x o e m1 m2 m3 => ?_, s.nu0, s.oim⟩, xt, fun _ _ _ n _ => n⟩
  · obtain ⟨o, e1, e2⟩ := s.rel.at_ j x e
    refine ⟨o, e1, ?_⟩
    cases x with
    | no => trivial
    | fz d =>
      obtain ⟨v, e3, e4⟩ := e2
      exact ⟨v, e3, e4.ext xt⟩
    | ow ds2 =>
      obtain ⟨a2, v2, rfl, h2, d2, u2, m1, m2⟩ := e2
      have ne := apart j a2 ⟨e1, .inl ⟨ds2, e⟩⟩
      exact ⟨a2, v2, rfl, kp _ _ h2 ne, d2.map (fun q => q.ext xt), u2, m1, m2⟩
    | oi c fs =>
      obtain ⟨a2, dx, v2, rfl, h2, d2, u2, m1, m2⟩ := e2
      have ne := apart j a2 ⟨e1, .inr ⟨c, fs, e⟩⟩
      exact ⟨a2, dx, v2, rfl, kp _ _ h2 ne, d2.ext xt, u2, m1, m2⟩
  · by_cases q : x = l
    · subst q
      exact ⟨_, upd_same, (fun _ z => by cases z), (fun _ z => by cases z)⟩
    · obtain ⟨o, e, t⟩ := s.uok.al x hx
      exact ⟨o, kp x o e q, t⟩
  · have q : x ≠ l := fun z => by
      subst z
      rcases lo.h0 with w | w
      · exact m2 w
      · obtain ⟨ps, z⟩ := w o e
        exact m3 ps z
    exact kp x o (s.ext x o e m1 m2 m3) q
theorem lo_fz {l : Addr} (s : Stt g Mt U0 H0 U σ H b ε) (lo : Lo g Mt U0 H0 U σ ε l) :
    Stt g Mt U0 H0 (fun x => U x ∧ x ≠ l) σ H b ε ∧ Ev U H (fun x => U x ∧ x ≠ l) H := by
  have sub : ∀ x, (∃ o, H x = some o) → (U x ∧ x ≠ l) → U x := fun x _ z => z.1
  refine ⟨⟨⟨s.rel.len, fun j x e => ?_, s.rel.apart⟩, s.wd, ⟨⟨s.uok.p, lo.p.symm⟩, ⟨s.uok.c, lo.c.symm⟩, fun x hx => s.uok.al x hx.1⟩, fun x z => ⟨s.sub x z, fun e => lo.u0 (e ▸ z)⟩, s.own, s.ext, s.nu0, s.oim⟩, fun _ _ e _ _ => e, fun _ _ _ n _ z => n z.1⟩
  obtain ⟨o, e3, e2⟩ := s.rel.at_ j x e
  refine ⟨o, e3, ?_⟩
  cases x with
  | no => trivial
  | fz d =>
    obtain ⟨v, e4, e5⟩ := e2
    exact ⟨v, e4, e5.sub sub⟩
  | ow ds2 =>
    obtain ⟨a2, v2, rfl, h2, d2, u2, m1, m2⟩ := e2
    exact ⟨a2, v2, rfl, h2, d2.map (fun q => q.sub sub), ⟨u2, fun z => lo.ow j ⟨z ▸ e3, .inl ⟨ds2, e⟩⟩⟩, m1, m2⟩
  | oi c fs =>
    obtain ⟨a2, dx, v2, rfl, h2, d2, u2, m1, m2⟩ := e2
    exact ⟨a2, dx, v2, rfl, h2, d2.sub sub, ⟨u2, fun z => lo.ow j ⟨z ▸ e3, .inr ⟨c, fs, e⟩⟩⟩, m1, m2⟩
theorem Lo.grow {l A : Addr} (lo : Lo g Mt U0 H0 U σ ε l) : Lo g Mt U0 H0 (fun a => U a ∨ a = A) σ ε l := ⟨.inl lo.u, lo.p, lo.c, lo.ow, lo.h0, lo.u0⟩
theorem Lo.cut {l A : Addr} (lo : Lo g Mt U0 H0 U σ ε l) (n : l ≠ A) : Lo g Mt U0 H0 (fun a => U a ∧ a ≠ A) σ ε l := ⟨⟨lo.u, n⟩, lo.p, lo.c, lo.ow, lo.h0, lo.u0⟩
theorem Lo.keep {l : Addr} {σ' : L2.St} (lo : Lo g Mt U0 H0 U σ ε l) (h : ∀ j, OwnAt σ' ε' j l → OwnAt σ ε j l) : Lo g Mt U0 H0 U σ' ε' l := ⟨lo.u, lo.p, lo.c, fun j z => lo.ow j (h j z), lo.h0, lo.u0⟩
structure Grp (g : Gw) (Mt U0 : Addr → Prop) (H0 : Hp) (U : Addr → Prop) (σ : L2.St) (H : Hp) (b : Nat) (ε : Env) (i : Nat) (A l : Addr) (vs ws : List V) (a : List (List D)) (la : List D) : Prop where
  s : Stt g Mt U0 H0 U σ H b ε
  lA : Lo g Mt U0 H0 U σ ε A
  ll : Lo g Mt U0 H0 U σ ε l
  ne : A ≠ l
  at_ : σ[i]? = some (some (.ref A))
  hA : H A = some (.lst (vs ++ [.ref l]))
  hl : H l = some (.lst ws)
  dA : DenL g U H vs (a.map D.lst)
  dl : DenL g U H ws la
  zA : a.length + 1 ≤ sizeLine
  zl : la.length ≤ sizeLine
theorem Grp.fr {i : Nat} {A l : Addr} {vs ws : List V} {a : List (List D)} {la : List D} (G : Grp g Mt U0 H0 U σ H b ε i A l vs ws a la) (f : Fr H H' g.p) (w : Wd g H' b1) : Grp g Mt U0 H0 U σ H' b1 ε i A l vs ws a la :=
  ⟨G.s.fr f w, G.lA, G.ll, G.ne, G.at_, f _ _ G.hA G.lA.p (fun _ z => by cases z), f _ _ G.hl G.ll.p (fun _ z => by cases z), G.dA.fr G.s.uok f, G.dl.fr G.s.uok f, G.zA, G.zl⟩
theorem set_here {α : Type} {x : α} : ∀ {l : List α} {i : Nat}, l[i]? = some x → l.set i x = l
  | [], i, h => by simp at h
  | a :: r, 0, h => by simp at h; subst h; rfl
  | a :: r, i + 1, h => by
    have h' : r[i]? = some x := by simpa using h
    rw [List.set_cons_succ, set_here h']
theorem Grp.push {i : Nat} {A l l' : Addr} {vs ws : List V} {a : List (List D)} {la : List D} (G : Grp g Mt U0 H0 U σ H b ε i A l vs ws a la) (n : H l' = none) (z : a.length + 1 < sizeLine) :
    Grp g Mt U0 H0 (fun x => (U x ∨ x = l') ∧ x ≠ l) σ (upd (upd H l' (.lst [])) A (.lst ((vs ++ [.ref l]) ++ [.ref l']))) b ε i A l' (vs ++ [.ref l]) [] (a ++ [la]) [] ∧ Ev U H (fun x => (U x ∨ x = l') ∧ x ≠ l) (upd (upd H l' (.lst [])) A (.lst ((vs ++ [.ref l]) ++ [.ref l']))) := by
  obtain ⟨s1, lo1, e1⟩ := lo_new (vs := []) G.s n
  have nA : l' ≠ A := fun q => by
    rw [q, G.hA] at n
    cases n
  have nl : l' ≠ l := fun q => by
    rw [q, G.hl] at n
    cases n
  have hA1 : upd H l' (.lst []) A = some (.lst (vs ++ [.ref l])) := by rw [upd_ne nA.symm]; exact G.hA
  have hl1 : upd H l' (.lst []) l = some (.lst ws) := by rw [upd_ne nl.symm]; exact G.hl
  obtain ⟨s2, e2⟩ := lo_fz s1 (G.ll.grow (A := l'))
  have lA2 := (G.lA.grow (A := l')).cut G.ne
  have lo2 := lo1.cut nl
  obtain ⟨s3, e3⟩ := lo_mut s2 lA2 hA1 ((vs ++ [.ref l]) ++ [.ref l'])
  have ev := (e1.trans e2).trans e3
  have hl3 : upd (upd H l' (.lst [])) A (.lst ((vs ++ [.ref l]) ++ [.ref l'])) l = some (.lst ws) := by rw [upd_ne G.ne.symm]; exact hl1
  refine ⟨⟨s3, lA2, lo2, nA.symm, G.at_, upd_same, ?_, ?_, .nil, ?_, Nat.zero_le _⟩, ev⟩
  · rw [upd_ne nA]
    exact upd_same
  · rw [List.map_append]
    exact (G.dA.ev ev).append (.cons (.lst hl3 (fun q => q.2 rfl) (by rw [G.dl.length]; exact G.zl) (G.dl.ev ev)) .nil)
  · rw [List.length_append]
    exact z
theorem Grp.done {i : Nat} {A l : Addr} {vs ws : List V} {a : List (List D)} {la : List D} (G : Grp g Mt U0 H0 U σ H b ε i A l vs ws a la) :
    Stt g Mt U0 H0 (fun x => (U x ∧ x ≠ l) ∧ x ≠ A) σ H b (ε.set i (.fz (.lst ((a ++ [la]).map D.lst)))) ∧ Ev U H (fun x => (U x ∧ x ≠ l) ∧ x ≠ A) H := by
  obtain ⟨s1, e1⟩ := lo_fz G.s G.ll
  obtain ⟨s2, e2⟩ := lo_fz s1 (G.lA.cut G.ne)
  have ev := e1.trans e2
  have dn : Den g (fun x => (U x ∧ x ≠ l) ∧ x ≠ A) H (.ref A) (.lst ((a ++ [la]).map D.lst)) := by
    refine .lst G.hA (fun q => q.2 rfl) ?_ ?_
    · rw [List.length_append, G.dA.length, List.length_map]
      exact G.zA
    · rw [List.map_append]
      exact (G.dA.ev ev).append (.cons (.lst G.hl (fun q => q.1.2 rfl) (by rw [G.dl.length]; exact G.zl) (G.dl.ev ev)) .nil)
  have z := s2.set i dn
  rw [set_here G.at_] at z
  exact ⟨z, ev⟩
end
section
variable {W L : Type} {g : Gw} {E : XK} {ε : Env} {tb : TS} {env : W → Env} {envL : L → Env}
end
end Gp
end
section
namespace Gp
open PySem PySem.Spec PyProof.Rows L2 Gh
section
variable {g : Gw} {U U' : Addr → Prop} {H : Hp} {a : Addr} {vs : List V}
end
section
variable {g : Gw} {U U' : Addr → Prop} {H : Hp}
end
section
variable {g : Gw} {Mt U0 U U' : Addr → Prop} {H0 H H' H1 H2 : Hp} {b b1 : Nat} {σ : L2.St} {ε ε' : Env} {E : XK} {W L W' : Type}
variable {env : W → Env} {envL : L → Env} {env' : W' → Env} {u ta tb : TS} {te tc t1 t2 : TE} {me : Tr D}
def Lent (g : Gw) (Mt U0 : Addr → Prop) (H0 : Hp) (U : Addr → Prop) (σ : L2.St) (H : Hp) (ε : Env) (i n c : Nat) : Prop :=
  ∃ A vs, σ[i]? = some (some (.ref A)) ∧ Lo g Mt U0 H0 U σ ε A ∧ H A = some (.lst vs) ∧ vs.length = n ∧ ∀ (k : Nat) (v : V), vs[k]? = some v → ∃ l ws, v = .ref l ∧ l ≠ A ∧ Lo g Mt U0 H0 U σ ε l ∧ H l = some (.lst ws) ∧ ws.length + c ≤ sizeLine
theorem Lent.fr {i n c : Nat} (l : Lent g Mt U0 H0 U σ H ε i n c) (f : Fr H H' g.p) : Lent g Mt U0 H0 U σ H' ε i n c := by
  obtain ⟨A, vs, e, lA, hA, hn, ls⟩ := l
  refine ⟨A, vs, e, lA, f _ _ hA lA.p (fun _ z => by cases z), hn, fun k v hv => ?_⟩
  obtain ⟨l, ws, e1, e2, e3, e4, e5⟩ := ls k v hv
  exact ⟨l, ws, e1, e2, e3, f _ _ e4 e3.p (fun _ z => by cases z), e5⟩
end
end Gp
end
section
namespace Gp
open PySem PySem.Spec PyProof.Rows L2 Gh
section
variable {g : Gw} {Mt U0 U U' : Addr → Prop} {H0 H H' H1 H2 : Hp} {b b1 b2 : Nat} {σ : L2.St} {ε ε' : Env} {E : XK} {W L W' : Type}
variable {env : W → Env} {envL : L → Env} {env' : W' → Env} {u ta tb : TS} {te : TE} {me : Tr D}
theorem frP.frz {c : Str} {Q : VK} {fs : Fs} (u : UOk g U H) (h : okP g U H Q (.obj c fs) b) : frP g U H c Q fs b := fun x dx fvs H' n hx df w f => by
  have nU : ¬ U x := fun z => by
    obtain ⟨o, e, t⟩ := u.al x z
    obtain ⟨ps, q⟩ := n o e
    exact t.tbl ps q
  exact h (.ref x) H' (.obj hx nU (df.sub fun a _ z => .inl z)) w f
end
end Gp
end
section
set_option maxHeartbeats 0
namespace Lw
open PySem PySem.Spec PyProof.Rows L2 Gh Gp
def top (i : Nat) : Stmt := PySem.Challenge.pw_everyhunt_k12_whole_rows_led.main.body.getD i (.Pass ⟨0, 0, 0, 0⟩)
abbrev s__law_pen : Stmt := top 39
def d__law_pen : Df := ⟨gd "_law_pen", "_law_pen", "_law_pen", s__law_pen, []⟩
abbrev s__law_draw : Stmt := top 40
def d__law_draw : Df := ⟨gd "_law_draw", "_law_draw", "_law_draw", s__law_draw, []⟩
abbrev s_is_integer : Stmt := top 10
def d_is_integer : Df := ⟨gd "is_integer", "is_integer", "is_integer", s_is_integer, []⟩
abbrev s_is_within : Stmt := top 11
def d_is_within : Df := ⟨gd "is_within", "is_within", "is_within", s_is_within, []⟩
abbrev s_is_length : Stmt := top 12
def d_is_length : Df := ⟨gd "is_length", "is_length", "is_length", s_is_length, []⟩
abbrev s_need_length : Stmt := top 13
def d_need_length : Df := ⟨gd "need_length", "need_length", "need_length", s_need_length, []⟩
abbrev s_need_place : Stmt := top 14
def d_need_place : Df := ⟨gd "need_place", "need_place", "need_place", s_need_place, []⟩
abbrev s_is_item : Stmt := top 20
def d_is_item : Df := ⟨gd "is_item", "is_item", "is_item", s_is_item, []⟩
abbrev s_need_items : Stmt := top 21
def d_need_items : Df := ⟨gd "need_items", "need_items", "need_items", s_need_items, []⟩
abbrev s_Row___init__ : Stmt := inClass (top 22) 1
def d_Row___init__ : Df := ⟨md "Row" "__init__", "__init__", "Row.__init__", s_Row___init__, []⟩
abbrev s_Row_contents : Stmt := inClass (top 22) 4
def d_Row_contents : Df := ⟨propG "Row" "contents", "contents", "Row.contents", s_Row_contents, []⟩
abbrev s_Row___eq__ : Stmt := inClass (top 22) 23
def d_Row___eq__ : Df := ⟨md "Row" "__eq__", "__eq__", "Row.__eq__", s_Row___eq__, []⟩
abbrev s_are_told : Stmt := top 32
def d_are_told : Df := ⟨gd "are_told", "are_told", "are_told", s_are_told, []⟩
abbrev s_ascending : Stmt := top 33
def d_ascending : Df := ⟨gd "ascending", "ascending", "ascending", s_ascending, []⟩
abbrev s_Sided___init___at_Change : Stmt := inClass (top 25) 0
def d_Sided___init___at_Change : Df := ⟨md "Sided" "__init__", "__init__", "Sided.__init__", s_Sided___init___at_Change, []⟩
abbrev s_Change___init__ : Stmt := inClass (top 34) 2
def ds_Change___init__ : Gp.Ds := ⟨⟨md "Change" "__init__", "__init__", "Change.__init__", s_Change___init__, [.adr (He.dflAt ("Change", some "__init__") 0), .adr (He.dflAt ("Change", some "__init__") 1), .str "front"]⟩, gd "Change"⟩
abbrev s_Change_places_told : Stmt := inClass (top 34) 7
def d_Change_places_told : Df := ⟨md "Change" "places_told", "places_told", "Change.places_told", s_Change_places_told, []⟩
abbrev s_Change_runs : Stmt := inClass (top 34) 8
def d_Change_runs : Df := ⟨md "Change" "runs", "runs", "Change.runs", s_Change_runs, []⟩
abbrev s_Change_first_pair : Stmt := inClass (top 34) 9
def d_Change_first_pair : Df := ⟨md "Change" "first_pair", "first_pair", "Change.first_pair", s_Change_first_pair, []⟩
abbrev s_Change_led_in : Stmt := inClass (top 34) 13
def d_Change_led_in : Df := ⟨md "Change" "led_in", "led_in", "Change.led_in", s_Change_led_in, []⟩
abbrev s_Change_to : Stmt := inClass (top 34) 12
def d_Change_to : Df := ⟨md "Change" "to", "to", "Change.to", s_Change_to, []⟩
abbrev s_Row_led : Stmt := inClass (top 22) 11
def d_Row_led : Df := ⟨md "Row" "led", "led", "Row.led", s_Row_led, []⟩
abbrev s_Row_led_by : Stmt := inClass (top 22) 12
def d_Row_led_by : Df := ⟨md "Row" "led_by", "led_by", "Row.led_by", s_Row_led_by, []⟩
abbrev s_Row_do : Stmt := inClass (top 22) 13
def d_Row_do : Df := ⟨md "Row" "do", "do", "Row.do", s_Row_do, []⟩
abbrev s_Row___imul__ : Stmt := inClass (top 22) 22
def d_Row___imul__ : Df := ⟨md "Row" "__imul__", "__imul__", "Row.__imul__", s_Row___imul__, []⟩
abbrev s__law_pick : Stmt := top 41
def d__law_pick : Df := ⟨gd "_law_pick", "_law_pick", "_law_pick", s__law_pick, []⟩
abbrev s__law_item : Stmt := top 42
def d__law_item : Df := ⟨gd "_law_item", "_law_item", "_law_item", s__law_item, []⟩
abbrev s__law_told : Stmt := top 43
def d__law_told : Df := ⟨gd "_law_told", "_law_told", "_law_told", s__law_told, []⟩
abbrev s__law_pairs : Stmt := top 44
def d__law_pairs : Df := ⟨gd "_law_pairs", "_law_pairs", "_law_pairs", s__law_pairs, []⟩
abbrev s__law_places : Stmt := top 45
def d__law_places : Df := ⟨gd "_law_places", "_law_places", "_law_places", s__law_places, []⟩
abbrev s__law_part : Stmt := top 46
def d__law_part : Df := ⟨gd "_law_part", "_law_part", "_law_part", s__law_part, []⟩
abbrev s__law_made : Stmt := top 47
def d__law_made : Df := ⟨gd "_law_made", "_law_made", "_law_made", s__law_made, []⟩
abbrev s__law_behind : Stmt := top 48
def d__law_behind : Df := ⟨gd "_law_behind", "_law_behind", "_law_behind", s__law_behind, []⟩
abbrev s__law_step : Stmt := top 49
def d__law_step : Df := ⟨gd "_law_step", "_law_step", "_law_step", s__law_step, []⟩
abbrev s_law : Stmt := top 50
def d_law : Df := ⟨gd "law", "law", "law", s_law, []⟩
def fns : List Df := [d__law_pen, d__law_draw, d_is_integer, d_is_within, d_is_length, d_need_length, d_need_place, d_is_item, d_need_items, d_Row___init__, d_Row_contents, d_Row___eq__, d_are_told, d_ascending, d_Sided___init___at_Change, d_Change_places_told, d_Change_runs, d_Change_first_pair, d_Change_led_in, d_Change_to, d_Row_led, d_Row_led_by, d_Row_do, d_Row___imul__, d__law_pick, d__law_item, d__law_told, d__law_pairs, d__law_places, d__law_part, d__law_made, d__law_behind, d__law_step, d_law]
def sds : List Gp.Ds := [ds_Change___init__]
def pfile : Str := PySem.Challenge.pw_everyhunt_k12_whole_rows_led.main.file
def exs : List (PySem.W.Frag → Bool) := [fa (.free "abs"), fa (.free "all"), fa (.free "bool"), fa (.free "enumerate"), fa (.free "int"), fa (.free "isinstance"), fa (.free "len"), fa (.free "list"), fa (.free "max"), fa (.free "min"), fa (.free "range"), fa (.free "set"), fa (.free "sorted"), fa (.free "str"), fa (.free "super"), fa (.free "tuple"), fa (.glo "_law_pen"), fa (.keep "_law_pen"), fa (.glo "_law_draw"), fa (.keep "_law_draw"), fa (.glo "is_integer"), fa (.keep "is_integer"), fa (.glo "is_within"), fa (.keep "is_within"), fa (.glo "is_length"), fa (.keep "is_length"), fa (.glo "need_length"), fa (.keep "need_length"), fa (.glo "need_place"), fa (.keep "need_place"),
  fa (.glo "is_item"), fa (.keep "is_item"), fa (.glo "need_items"), fa (.keep "need_items"), fa (.glo "are_told"), fa (.keep "are_told"), fa (.glo "ascending"), fa (.keep "ascending"), fa (.glo "_law_pick"), fa (.keep "_law_pick"), fa (.glo "_law_item"), fa (.keep "_law_item"), fa (.glo "_law_told"), fa (.keep "_law_told"), fa (.glo "_law_pairs"), fa (.keep "_law_pairs"), fa (.glo "_law_places"), fa (.keep "_law_places"), fa (.glo "_law_part"), fa (.keep "_law_part"), fa (.glo "_law_made"), fa (.keep "_law_made"), fa (.glo "_law_behind"), fa (.keep "_law_behind"), fa (.glo "_law_step"), fa (.keep "_law_step"), fa (.glo "Row"), fa (.keep "Row"), fa (.glo "Sided"), fa (.keep "Sided"),
  fa (.glo "Change"), fa (.keep "Change"), fa (.int "BEYOND_ITEMS" 1000000000000000000000000000000), fa (.int "FARTHEST" 15), fa (.int "GREATEST_LENGTH" 10000000000000000000000000000000000000000), fa (.int "MOST_ITEMS" 2000), fa (.int "MOST_TOLD" 8), fa (.cls "Row"), insB "Row", fa (.noat "Row" "own_items"), fa (.mkr "Row"), propB "Row" "contents", fa (.meth "Row" "__eq__"), ownB "Row", fa (.meth "Row" "led"), fa (.meth "Row" "led_by"), fa (.meth "Row" "do"), fa (.meth "Row" "__imul__"), fa (.cls "Sided"), insB "Sided", fa (.cls "Change"), insB "Change", fa (.noat "Change" "side"), fa (.noat "Change" "front"), fa (.noat "Change" "back"), fa (.mkr "Change"), fa (.meth "Change" "places_told"), fa (.meth "Change" "runs"), fa (.meth "Change" "first_pair"), fa (.meth "Change" "led_in"),
  fa (.meth "Change" "to"), fa (.glo "SIDES"), (fun K => He.tupB K "SIDES" [.str "front", .str "back"]), (fun K => He.eqO (PySem.W.nsIn K cStatics "thirdparty.any") (some none)), (fun K => (PySem.W.clsIn K (gd "Change" K)).isSome), supCB "Change" "Change" "__init__" (md "Sided" "__init__"), Gp.iopB "Row" "__imul__" .Mult, (fun K => decide (PySem.W.kitOne K (.ref (gd "Change" K)) (.ref (gd "Row" K)) = some false)), nfB "Row", neB "Row", (fun K => PySem.W.notFirst K (gd "Row" K) (.ref (gd "Change" K))), (fun K => PySem.W.notFirst K (gd "Row" K) (.ref (gd "Row" K))), fa (.glo "law")]
def loose0 : List Str := ["_wall", "__name__", "HuntError", "BadLength", "BadPlace", "BadRow", "BadChange", "BadText", "GREATEST_LENGTH", "is_integer", "is_within", "is_length"]
def loose1 : List Str := ["need_length", "need_place", "number_in", "MOST_ITEMS", "BEYOND_ITEMS", "is_item", "need_items", "Row", "Step", "Sided", "Words", "FARTHEST"]
def loose2 : List Str := ["MOST_TOLD", "SIDES", "are_told", "ascending", "Change", "places_in", "side_in", "change_in", "_law_pen", "_law_draw", "_law_pick", "_law_item"]
def loose3 : List Str := ["_law_told", "_law_pairs", "_law_places", "_law_part", "_law_made", "_law_behind", "_law_step"]
def loose : List Str := loose0 ++ loose1 ++ loose2 ++ loose3
abbrev R : PySem.W.OpenRow := PySem.W.OpenLaw.row PySem.Challenge.rw_everyhunt_k12_whole_rows_led
def tfs : List He.Defn := []
def adrs : List Addr := [3, 136, 143, 150, 157, 164, 176, 183, 366, 404, 425, 492, 497, 502, 640, 670, 677, 684, 691, 696, 703, 708, 715, 722, 729, 736, 741, 135, 142, 149, 156, 163, 175, 182, 365, 403, 424, 496, 501, 639, 669, 676, 683, 690, 695, 702, 707, 714, 721, 728, 735, 740, 197, 225, 274, 281, 288, 351, 358, 422, 521, 562, 569, 576, 597, 604, 196, 224, 273, 280, 287, 350, 357, 421, 520, 513, 506, 561, 568, 575, 596, 603, 223, 2]
abbrev hk : PySem.W.Hook := Gp.hookL adrs exs fns tfs sds pfile
def ob (s : PySem.W.SharedT) : Gp.AlS := Gp.obsL adrs exs fns tfs sds pfile (HandSHeadRun.getT s)
theorem run (w : World) : HandSHeadRun.RunEq R (PySem.W.view R.prog [50]) hk ob 20000 loose w := by
  intro os
  kernel_rfl
section
variable {K : PySem.W.Frag} {mg : Str → Option Value} {Tb : List (Addr × Str)} {p c : Addr}
end
end Lw
end
section
namespace Gh
open PySem PySem.Spec PyProof.Rows L2
abbrev FnA (K : PySem.W.Frag) (d : Df) (fd : FuncData) : Prop := FunD K d.name d.qual (defArgs d.st) (defBody d.st) (defScope d.st) (d.dvs K) [] (d.adr K) fd
theorem Df.funD {K : PySem.W.Frag} {d : Df} (e : fnAt K (d.adr K) = d.val) (c : d.ok K = true) : ∃ fd, FnA K d fd := by
  obtain ⟨kp, c2⟩ := He.ba c
  unfold fnAt at e
  cases q : K.lookup (d.adr K) with
  | none =>
    rw [q] at c2
    cases c2
  | some o =>
    obtain ⟨oc, od, dt, osl⟩ := o
    rw [q] at c2 e
    cases dt with
    | func fd =>
      obtain ⟨n1, n2, n3, n4, n5, n6, n7, n8, n9, n10, n11, n12, n13, n14, n15⟩ := fd
      have e2 : (some (n1, n2, n3, n4, n5, n6, n7, n15) : He.FnW) = some (d.name, d.qual, defArgs d.st, .stmts (defBody d.st), defScope d.st, mainGlobals, [], builtinsNs) := e
      simp only [Option.some.injEq, Prod.mk.injEq] at e2
      obtain ⟨h1, h2, h3, h4, h5, h6, h7, h8⟩ := e2
      subst h1 h2 h3 h4 h5 h6 h7 h8
      have c3 : (PySem.W.codeIn K n13 d.qual && (He.dflB K n8 (d.dvs K) && He.kwdB K n9 [])) = true := c2
      obtain ⟨k1, k2⟩ := He.ba c3
      obtain ⟨k3, k4⟩ := He.ba k2
      exact ⟨_, ⟨oc, od, n8, n9, n10, n11, n12, n13, n14, osl, rfl, q, k1, He.dflB_ok k3, He.kwdB_ok k4⟩, kp⟩
    | _ => cases c2
theorem Says.fact {ex : List (PySem.W.Frag → Bool)} {fn : List Df} {K : PySem.W.Frag} (c : Says ex fn K) (i : Nat) {f : PySem.W.Frag → Bool} (h : ex[i]? = some f := by rfl) : f K = true := by
  have c1 := (He.ba (show ((ex.all fun f => f K) && fn.all fun d => d.ok K) = true from congrArg (fun z : Al => z.1) c)).1
  exact List.all_eq_true.mp c1 f (List.mem_of_getElem? h)
theorem Says.def_ {ex : List (PySem.W.Frag → Bool)} {fn : List Df} {K : PySem.W.Frag} (c : Says ex fn K) (i : Nat) {d : Df} (h : fn[i]? = some d := by rfl) : ∃ fd, FnA K d fd := by
  have c2 := (He.ba (show ((ex.all fun f => f K) && fn.all fun d => d.ok K) = true from congrArg (fun z : Al => z.1) c)).2
  have e : fn.map (fun d => fnAt K (d.adr K)) = fn.map Df.val := congrArg (fun z : Al => z.2) c
  have e2 : (fn.map fun d => fnAt K (d.adr K))[i]? = (fn.map Df.val)[i]? := by rw [e]
  rw [List.getElem?_map, List.getElem?_map, h] at e2
  exact Df.funD (Option.some.inj e2) (List.all_eq_true.mp c2 d (List.mem_of_getElem? h))
theorem propB_ok {x m : Str} {K : PySem.W.Frag} (h : propB x m K = true) : PropOf K (He.ga K x) m (He.ma K (He.ga K x) m) (propG x m K) := by
  obtain ⟨h1, h2⟩ := He.ba h
  obtain ⟨h3, h4⟩ := He.ba h2
  obtain ⟨h5, h6⟩ := He.ba h4
  refine ⟨He.eqO_ok h1, He.eqO_ok h3, of_decide_eq_true h5, ?_⟩
  unfold propG
  cases q : PySem.W.recIn K (He.ma K (He.ga K x) m) "property" with
  | none =>
    rw [q] at h6
    cases h6
  | some l =>
    rw [q] at h6
    cases l with
    | nil => cases h6
    | cons v r =>
      cases v with
      | ref g => exact ⟨r, rfl⟩
      | _ => cases h6
theorem insB_ok {x : Str} {K : PySem.W.Frag} (h : insB x K = true) : InsT K (gd x K) := by
  obtain ⟨h1, h⟩ := He.ba h
  obtain ⟨h2, h⟩ := He.ba h
  obtain ⟨h3, h⟩ := He.ba h
  obtain ⟨h4, h⟩ := He.ba h
  obtain ⟨h5, h⟩ := He.ba h
  obtain ⟨h6, h7⟩ := He.ba h
  exact ⟨He.eqO_ok h1, He.eqO_ok h2, of_decide_eq_true h3, of_decide_eq_true h4, of_decide_eq_true h5, fun n hn => of_decide_eq_true (List.all_eq_true.mp h6 n hn), fun n hn => of_decide_eq_true (List.all_eq_true.mp h7 n hn)⟩
structure OwnT (K : PySem.W.Frag) (C : Addr) : Prop where
  first : PySem.W.selfFirst K C = true
  nf : PySem.W.notFirst K C (.ref C) = true
  sub : PySem.W.subIn K (.type "int") (.ref C) = some false
theorem ownB_ok {x : Str} {K : PySem.W.Frag} (h : ownB x K = true) : OwnT K (gd x K) := by
  obtain ⟨h1, h⟩ := He.ba h
  obtain ⟨h2, h3⟩ := He.ba h
  exact ⟨h1, h2, of_decide_eq_true h3⟩
theorem pe_gi {X : Cx} {x : Str} {i : Int} {pos : Pos} (h : ∃ t, X.mg x = some (.int i t)) (hg : Gl X x) (hd : (x == ("__debug__" : Str)) = false := by decide) : PE X (.Name x pos) (tC (.int i)) := by
  obtain ⟨t, e⟩ := h
  exact pe_glob hg e ⟨t, rfl⟩ hd
end Gh
end
section
namespace Gh
open PySem PySem.Spec PyProof.Rows L2
section
variable {P : Program} {w : World} {K : PySem.W.Frag} {mg : Str → Option Value} {base : Heap} {CX : CXT} {j k : Nat} {f : Addr} {fd : FuncData} {ps : List Str} {sp : Sp} {dvs : List V}
end
section
variable {X : Cx} {CX : CXT} {k : Nat} {f g C : Addr} {sp : Sp} {dvs : List V} {E : XK} {x m : Str} {p pos apos : Pos} {e o : Expr} {es : List Expr} {ta tb : TE} {t : TA} {r : List V → Hp → VK → Prop}
@[irreducible] def rMk (C : Addr) (sp : Sp) (dvs : List V) (E : XK) : List V → Hp → VK → Prop := fun vs H Q =>
  ∀ x dx, H x = none → H dx = none → dx ≠ x → sp (.ref x :: (vs ++ dvs)) (upd (upd H dx (.own x)) x (.ins C dx [])) (fun v H2 => v = .non ∧ Q (.ref x) H2) E
theorem guards_make {A : Around} {us : List Value} {kw : List (Str × Value)} (h : A.guards = some []) : (A.under (.builtin "type.__call__" ⟨.ref C :: us, kw⟩)).guards = some [] := by
  show pushGuards (Code.guards (.builtin "type.__call__" ⟨.ref C :: us, kw⟩)) A.guards = some []
  have e : Code.guards (.builtin "type.__call__" ⟨.ref C :: us, kw⟩) = [] := by
    unfold Code.guards
    rw [if_neg (by show ¬ (guardIds.contains "type.__call__" = true); decide)]
  rw [e]
  exact h
theorem Prom.make (M : Mk X.K C f) (F : PromX X CX k f dvs sp) (hr : Room (k + 1) X.A) (hg : X.A.guards = some []) (hx : Passes CX X E) : CallR X (.ref C) (rMk C sp dvs E) := by
  intro pins s σ H vs us Q I r h
  unfold rMk at h
  obtain ⟨fd, ps, ds, G, b, hd⟩ := F
  have hq := h (s.heap.objs.size + 1) s.heap.objs.size (I.hok.fresh (Nat.le_succ _)) (I.hok.fresh (Nat.le_refl _)) (Nat.ne_of_lt (Nat.lt_succ_self _))
  have I2 := Inv.made (C := C) I
  have r2 : Vals (V.ref (s.heap.objs.size + 1) :: (vs ++ dvs)) (Value.ref (s.heap.objs.size + 1) :: (us ++ ds)) := .cons rfl (r.append hd)
  have hl : (Value.ref (s.heap.objs.size + 1) :: us ++ ds).length = ps.length := by
    have e := r2.length
    rw [G.len _ _ _ _ hq] at e
    exact e.symm
  refine wpAny_call (make_map (f := f) I.kIn M.makes M.init (beq_iff_eq.mp M.fn) (codeAny_mono (G.run _ X.stack _ _ ⟨Value.ref (s.heap.objs.size + 1) :: us, []⟩ (Value.ref (s.heap.objs.size + 1) :: (us ++ ds)) _ _ E (hr.make C us []) (guards_make hg)
    (I2.env0.make C us []) (b _ (Value.ref (s.heap.objs.size + 1) :: us) I2.kIn hl) r2 hq) fun r s' hq' => ?_))
  cases r with
  | error e => exact hx pins σ _ _ e s' I2 hq'
  | ok fl =>
    cases fl with
    | ret u =>
      obtain ⟨v, H', I3, rv, ev, q3⟩ := I2.after hq'
      subst ev
      exact ⟨rv, ⟨V.ref (s.heap.objs.size + 1), H', I3, rfl, q3⟩⟩
    | next => exact False.elim hq'
    | brk => exact False.elim hq'
    | cont => exact False.elim hq'
def tCl (r : List V → Hp → VK → Prop) (t : TA) : TE := fun σ H Q => t σ H fun vs H1 => r vs H1 Q
theorem pe_g (R : CallR X (.ref f) r) (hg : Gl X x) (hm : X.mg x = some (.ref f)) (hk : PySem.W.keepIn X.K (.ref f) = true)
    (ha : PA X (e :: es) t) (hdb : (x == ("__debug__" : Str)) = false := by decide) (he : starEach (e :: es) X.env = (false, eval e X.env) :: starEach es X.env := by rfl) (hpl : (backTo pos (starEach es X.env)).any (·.1) = false := by rfl) :
    PE X (.Call (.Name x p) (e :: es) [] pos) (tCl r t) := by
  refine ⟨fun pins s σ H Q I h => ?_⟩
  refine wpAny_Call_Name_kw (ld_glob I hg hm ?_ hdb)
  refine PySem.W.callWith_K (h₀ := X.base) I.ok.mod.kin hk (thn (ha.run pos pins s σ H _ I h) fun us s1 ⟨vs, H1, I1, r, q⟩ => ⟨I1.kIn, ?_⟩) he hpl
  exact R pins s1 σ H1 vs us Q I1 r q
def tMt (C : Addr) (m : Str) (r : List V → Hp → VK → Prop) (ta : TE) (t : TA) : TE := fun σ H Q => ta σ H fun x H1 => ∃ a dx fs, x = .ref a ∧ H1 a = some (.ins C dx fs) ∧ fs.lookup m = none ∧ t σ H1 fun vs H2 => r (x :: vs) H2 Q
theorem pe_m {pl : Sem Bool} (he : PE X o ta) (c : Cls X.K C) (hm : Meth X.K C m f) (R : CallR X (.ref f) r) (ha : PA X (e :: es) t)
    (hst : starEach (e :: es) X.env = (false, eval e X.env) :: starEach es X.env := by rfl) (hpl : (backTo pos (starEach es X.env)).any (·.1) = false := by rfl)
    (ht : eval (.Call (.Attribute o m apos) (e :: es) [] pos) X.env = (do
      let ov ← eval o X.env
      standAt apos.atName
      let (f, first) ← holding [ov] (getMethod ov m pl)
      callWith pos f first (backTo pos (starEach (e :: es) X.env)) (backToKw pos (keywordEach [] X.env))) := by rfl) :
    PE X (.Call (.Attribute o m apos) (e :: es) [] pos) (tMt C m r ta t) := by
  refine ⟨fun pins s σ H Q I h => ?_⟩
  refine PySem.W.methodCall_KW (pl := pl) (thn (he.run pins s σ H _ I h) fun u s1 ⟨x, H1, I1, rx, a, dx, fs, ex, ea, l, q⟩ => ?_) ht
  subst ex
  obtain rfl : u = Value.ref a := rx
  refine getmeth_ok I1 ea c hm l ?_
  refine PySem.W.callWith_K (first := [.ref a]) (h₀ := X.base) I.ok.mod.kin hm.kp (thn (ha.run pos pins s1 σ H1 _ I1 q) fun us s2 ⟨vs, H2, I2, r, q2⟩ => ⟨I2.kIn, ?_⟩) hst hpl
  exact R pins s2 σ H2 (.ref a :: vs) (.ref a :: us) Q I2 (.cons rfl r) q2
def tPr (C : Addr) (sp : Sp) (dvs : List V) (E : XK) (ta : TE) : TE := fun σ H Q => ta σ H fun x H1 => ∃ a dx fs, x = .ref a ∧ H1 a = some (.ins C dx fs) ∧ sp (.ref a :: dvs) H1 Q E
theorem cmp_back {pins : List (Addr × Obj)} {σ : L2.St} {Q : VK} {u : Value} {s' : Shared} (h : EP X pins σ Q u s') : PySem.W.CmpBack (EP X pins σ Q) u s' := by
  obtain ⟨v, H', I', rv, q⟩ := h
  cases v with
  | non => cases (show u = Value.none from rv); exact ⟨.non, H', I', rfl, q⟩
  | bl b => cases (show u = Value.bool b from rv); exact ⟨.bl b, H', I', rfl, q⟩
  | int i => obtain ⟨t, z⟩ := (show ∃ t, u = Value.int i t from rv); subst z; exact ⟨.int i, H', I', ⟨t, rfl⟩, q⟩
  | str i => obtain ⟨t, z⟩ := (show ∃ t, u = Value.str i t from rv); subst z; exact ⟨.str i, H', I', ⟨t, rfl⟩, q⟩
  | byt i => obtain ⟨t, z⟩ := (show ∃ t, u = Value.bytes i t from rv); subst z; exact ⟨.byt i, H', I', ⟨t, rfl⟩, q⟩
  | flt i => obtain ⟨t, z⟩ := (show ∃ t, u = Value.float i t from rv); subst z; exact ⟨.flt i, H', I', ⟨t, rfl⟩, q⟩
  | ref a => cases (show u = Value.ref a from rv); exact ⟨.ref a, H', I', rfl, q⟩
  | ty n => cases (show u = Value.type n from rv); exact ⟨.ty n, H', I', rfl, q⟩
end
end Gh
end
section
namespace Gh
open PySem PySem.Spec PyProof.Rows L2
theorem law_callG {P : Program} {w : World} {K : PySem.W.Frag} {mg mb : Str → Option Value} {CX : CXT} {k : Nat} {fa a : Addr} {fd : FuncData} {x : Str} {sp : Sp} {s₁ : Shared} {vs : List Value} {ns : List Int}
    (KX : K.In s₁.heap) (hns : s₁.heap.Ns mainGlobals mg) (hb : s₁.heap.Ns builtinsNs mb) (hbb : ∀ x : Str, x ≠ "__name__" → mb x = bootBuiltins x) (hlim : s₁.heap.NoLimit) (hg : s₁.gens = #[])
    (ha : s₁.heap.get? a = some { cls := .type "list", data := .seq vs.toArray }) (hi : IntsAre vs ns) (hl : ns.length ≤ sizeLine) (hr : Room k callerA)
    (F : ∀ base : Heap, K.In base → base.Ns mainGlobals mg → FnG P w K mg base CX k fa fd [x] sp) (hbind : ∀ (s : Shared) (u : Value), BindsTo s fd ⟨[u], []⟩ [(x, u)])
    (hsp : ∀ H : Hp, Only H → SqL K H a (ns.map V.int) → sp [.ref a] H (fun v _ => v = .bl true) fun _ _ _ => False)
    (hCX : ∀ H e s', CX [] H s₁ (fun _ _ _ => False) e s' → False) :
    codeAny (model P w) callerA (.call (.ref fa) ⟨[.ref a], []⟩) (fun r s' => r = .ok (.ret (.bool true)) ∧ OldK s₁.heap s'.heap ∧ s'.os = s₁.os ∧ AllBare s'.gens) s₁ := by
  have rv := vals_ints hi
  have lenV := hi.length
  -- from an abstract heap in which nothing but the script may be tracked
  have core : ∀ H : Hp, Only H → SqL K H a (ns.map V.int) → HOk P w H s₁.heap → (∀ b, H b ≠ none → b = a) → (H a ≠ none → K.lookup a = none) →
      codeAny (model P w) callerA (.call (.ref fa) ⟨[.ref a], []⟩) (fun r s' => r = .ok (.ret (.bool true)) ∧ OldK s₁.heap s'.heap ∧ s'.os = s₁.os ∧ AllBare s'.gens) s₁ := by
    intro H hO hS hok hA hK
    have base_of : ∀ {b : Addr} {o : Obj}, s₁.heap.get? b = some o → H b = none → (hidT s₁.heap H).get? b = some o := fun e n => hidT_get e n
    have noA : ∀ {b : Addr} {o : Obj} {es : Array DictEntry} {ep : Nat}, s₁.heap.get? b = some o → o.data = .dict es ep → H b = none := fun {b o es ep} e d => by
      cases q : H b with
      | none => rfl
      | some u =>
        have e' : b = a := hA b (by rw [q]; simp)
        subst e'
        rw [ha] at e; cases e
        have d' : Data.seq vs.toArray _ = Data.dict es ep := d
        cases d'
    have nsK : ∀ {b : Addr} {m : Str → Option Value}, s₁.heap.Ns b m → (hidT s₁.heap H).Ns b m := fun {b m} ⟨o, es, ep, e, d, r⟩ => ⟨o, es, ep, base_of e (noA e d), d, r⟩
    have hKb : K.In (hidT s₁.heap H) := fun b o e => base_of (KX b o e) (by
      cases q : H b with
      | none => rfl
      | some u =>
        have e' : b = a := hA b (by rw [q]; simp)
        subst e'
        rw [hK (by rw [q]; simp)] at e; cases e)
    have hM : Mod K mg (hidT s₁.heap H) := ⟨hKb, nsK hns, ⟨mb, nsK hb, hbb⟩, let ⟨mc, h1, h2⟩ := hlim; ⟨mc, nsK h1, h2⟩⟩
    have e0 : Env0 P w K mg (hidT s₁.heap H) callerA [] s₁ H := ⟨rfl, hM, fun b o e => of_hidT e, Nat.le_of_eq (hidT_size _ _), trivial, fun b hb => absurd (show b ∈ ([] : List Addr) from hb) (by simp), hok, .of_eq hg⟩
    refine codeAny_mono ((F _ hKb (nsK hns)).run callerA [] s₁ H ⟨[.ref a], []⟩ [.ref a] [.ref a] _ _ hr rfl e0 (hbind s₁ (.ref a)) (.cons rfl .nil) (hsp H hO hS)) fun r s' h => ?_
    cases r with
    | error e => exact (hCX H e s' h).elim
    | ok fl =>
      cases fl with
      | next => exact False.elim h
      | brk => exact False.elim h
      | cont => exact False.elim h
      | ret u =>
        obtain ⟨v, H', os, bare, un, hok', r', q⟩ := h
        have q' : v = .bl true := q
        subst q'
        obtain rfl : u = Value.bool true := r'
        refine ⟨rfl, OldK.of_keep fun b o e => ?_, os, bare⟩
        cases q : H b with
        | none => exact un.keep b o e q (by intro z; exact absurd (show b ∈ ([] : List Addr) from z) (by simp)) (by simp)
        | some u =>
          rcases hO b with z | ⟨ob, xs, z⟩
          · rw [q] at z; cases z
          · have z2 := un.frzs b ob _ z
            obtain ⟨e1, _⟩ := hok b _ z
            obtain ⟨e2, _⟩ := hok' b _ z2
            rw [e] at e1; cases e1
            exact e2
  cases hk : K.lookup a with
  | some o =>
    -- the script is one of the module's own objects
    have e := KX a o hk
    rw [ha] at e
    cases e
    refine core (fun _ => none) (fun _ => .inl rfl) (.inr ⟨_, vs.toArray, _, hk, rfl, rfl, rfl, by rw [List.size_toArray, lenV]; exact hl, by simpa using rv⟩) (fun b u z => by have z' : (none : Option HO) = some u := z; cases z') (fun b z => absurd rfl z) fun z => absurd rfl z
  | none =>
    refine core (fun b => if b = a then some (.frz { cls := .type "list", data := .seq vs.toArray } (.lst (ns.map V.int))) else none) (fun b => ?_) (.inl (.inr ⟨{ cls := .type "list", data := .seq vs.toArray }, if_pos rfl⟩)) (fun b u z => ?_) (fun b z => ?_) fun _ => hk
    · by_cases hb : b = a
      · exact .inr ⟨_, _, if_pos hb⟩
      · exact .inl (if_neg hb)
    · by_cases hb : b = a
      · have z' := (if_pos hb).symm.trans z
        cases z'
        subst hb
        exact ⟨ha, by rw [List.length_map]; exact hl, vs, _, rv, ha⟩
      · have z' := (if_neg hb).symm.trans z
        cases z'
    · by_cases hb : b = a
      · exact hb
      · exact absurd (if_neg hb) z
theorem walk_ofG {l : PySem.W.OpenLaw} {n k : Nat} {q : Program} {loose : List Str} {XP : (Str → Option Value) → Heap → Prop} {YP : World → Heap → Prop} {d : DefRec} {CX : World → CXT} {x : Str}
    (hn : l.most = some n) (hn2 : n ≤ sizeLine) (hdf : d.params.defaults = []) (hr : Room k callerA)
    (F : ∀ (w : World) (mg : Str → Option Value) (fa : Addr) (h : Heap), YP w h → h.Ns mainGlobals mg → mg d.name = some (.ref fa) →
      ∃ (K : PySem.W.Frag) (fd : FuncData) (sp : Sp), K.In h ∧ (∀ (s : Shared) (u : Value), BindsTo s fd ⟨[u], []⟩ [(x, u)]) ∧
        (∀ (H : Hp) (a : Addr) (ns : List Int), ns.length ≤ n → Only H → SqL K H a (ns.map V.int) → sp [.ref a] H (fun v _ => v = .bl true) fun _ _ _ => False) ∧
        ∀ base : Heap, K.In base → base.Ns mainGlobals mg → FnG l.prog w K mg base (CX w) k fa fd [x] sp)
    (hCX : ∀ (w : World) (H : Hp) (s : Shared) (e : Value) (s' : Shared), CX w [] H s (fun _ _ _ => False) e s' → False) :
    PySem.W.WalkO q loose XP YP l.row.toRowW d [] (fun f vs => PySem.call f vs) := by
  refine Att.attach_call hn hdf fun w s₀ s₁ mg mb fa o pm cd doc a vs ns G Y ho hd hcd hmg hobj hints hlen hg => ?_
  obtain ⟨K, fd, sp, KX, hb, hsp, hF⟩ := F w mg fa _ Y G.T.g hmg
  exact law_callG KX G.T.g G.T.b G.T.builtins G.T.nolimit hg hobj hints (Nat.le_trans hlen hn2) hr hF hb (fun H hO hS => hsp H a ns hlen hO hS) fun H e s' => hCX w H s₁ e s'
end Gh
end
section
namespace Gh
open PySem PySem.Spec PyProof.Rows L2
theorem Keep.put {H H' : Hp} {p : Addr} {o : HO} (h : Keep H H' p) : Keep H (upd H' p o) p := fun a u e ne => by
  rw [upd_ne ne]
  exact h a u e ne
theorem PenAt.le {H : Hp} {p : Addr} {a b : Nat} (h : PenAt H p b) (k : a ≤ b) : PenAt H p a := by
  obtain ⟨c, ns, i, z, h1, h2, h3, h4, h5, h6⟩ := h
  exact ⟨c, ns, i, z, h1, h2, h3, h4, by omega, h6⟩
theorem dp_ints (K : PySem.W.Frag) (H : Hp) : ∀ ns : List Int, DpAll K H (ns.map V.int) (ns.map PyData.int)
  | [] => .nil
  | n :: r => .cons (.int n) (dp_ints K H r)
theorem eqv_nil (ds : List PyData) : PyData.eqv (.list ds) (.list []) = ds.isEmpty := by
  cases ds <;> rfl
theorem atI_int {ns : List Int} {i : Int} (h0 : 0 ≤ i) (h1 : i < ns.length) : ∃ v, atI (ns.map V.int) i = some (.int v) ∧ v ∈ ns := by
  obtain ⟨j, rfl⟩ : ∃ j : Nat, i = j := ⟨i.toNat, by omega⟩
  have hl : j < ns.length := by omega
  refine ⟨ns[j], atI_nat ?_, List.getElem_mem hl⟩
  rw [List.getElem?_map, List.getElem?_eq_getElem hl]
  rfl
theorem pow_lt {i : Int} (h0 : 0 ≤ i) (h1 : i < 18446744073709551616) : i.natAbs < 2 ^ 64 := by
  have e : (2 : Nat) ^ 64 = 18446744073709551616 := by decide
  rw [e]
  omega
theorem mix_ok {x i a b c : Int} (h0 : 0 ≤ x) (h1 : x < 4294967296) (h2 : 0 ≤ i) (h3 : i ≤ 1000000) (ha : 0 ≤ a ∧ a ≤ 1000000) (hb : 0 ≤ b ∧ b ≤ 1000000) (hc : 0 ≤ c ∧ c ≤ 1000000) : (x * (2 * i + a) + b * i * i + c).natAbs < 2 ^ 64 := by
  have hii : 0 ≤ i * i ∧ i * i ≤ 1000000 * 1000000 := ⟨Int.mul_nonneg h2 h2, Int.mul_le_mul h3 h3 h2 (by decide)⟩
  have hxi : 0 ≤ x * (2 * i + a) ∧ x * (2 * i + a) ≤ 4294967296 * 4000000 := ⟨Int.mul_nonneg h0 (by omega), Int.mul_le_mul (by omega) (by omega) (by omega) (by decide)⟩
  have hbi : 0 ≤ b * (i * i) ∧ b * (i * i) ≤ 1000000 * (1000000 * 1000000) := ⟨Int.mul_nonneg hb.1 hii.1, Int.mul_le_mul hb.2 hii.2 hii.1 (by decide)⟩
  have e : b * i * i = b * (i * i) := Int.mul_assoc _ _ _
  refine pow_lt ?_ ?_ <;> (rw [e]; omega)
theorem mod_lt (x : Int) {m : Int} (h : 0 < m) : 0 ≤ x % m ∧ x % m < m := ⟨Int.emod_nonneg _ (by omega), Int.emod_lt_of_pos _ h⟩
theorem cut_all {xs : List V} {n : Nat} (h : xs.length ≤ n) : cutV xs none (some (n : Int)) = xs := by
  unfold cutV
  rw [HT.sIx_none, HT.sIx_nat, Nat.min_eq_right h, List.drop_zero, Nat.sub_zero]
  exact List.take_length
abbrev rInt1 : List V → Hp → VK → Prop := fun xs H Q => (∃ i, xs = [V.int i] ∧ Q (V.int i) H) ∨ ∃ k, xs = [V.bl k] ∧ Q (V.int (if k = true then 1 else 0)) H
def tCut (t u : TS) : TS := fun D σ H => ∃ M : L2.St → Hp → Prop, t { D with nx := M } σ H ∧ ∀ σ' H', M σ' H' → u D σ' H'
theorem pss_cut {X : Cx} {st : Stmt} {rest : List Stmt} {t u : TS} (h1 : PS X st t) (h2 : PSs X rest u) : PSs X (st :: rest) (tCut t u) := by
  refine ⟨fun pins s σ H D I h => ?_⟩
  obtain ⟨M, hm, hu⟩ := h
  refine wpAny_execs_cons (thn (h1.run pins s σ H { D with nx := M } I hm) fun f s1 q => ?_)
  cases f with
  | next =>
    obtain ⟨σ1, H1, I1, q1⟩ := q
    exact h2.run pins s1 σ1 H1 D I1 (hu σ1 H1 q1)
  | ret v => exact q
  | brk => exact q
  | cont => exact q
end Gh
end
section
namespace Gh
open PySem PySem.Spec PyProof.Rows L2
section
variable {X : Cx} {K : PySem.W.Frag}
theorem ix_listK (h : X.K = K) : IxR X (rIxL K) := h ▸ ix_list
end
end Gh
end
section
namespace Gh
open PySem PySem.Spec PyProof.Rows L2
theorem exk_at {P : Program} {w : World} {H : Hp} {h : Heap} {a C d : Addr} (hok : HOk P w H h) (e : H a = some (exk a C d)) : ∃ (o : Obj) (vs : Array Value), h.get? a = some o ∧ o.cls = .ref C ∧ o.dict = some d ∧ o.data = .fields vs :=
  (show ObjOk P w H h a (exk a C d) from hok a _ e).1
theorem exk0_at {P : Program} {w : World} {H : Hp} {h : Heap} {a C : Addr} (hok : HOk P w H h) (e : H a = some (exk0 a C)) : ∃ (o : Obj) (vs : Array Value), h.get? a = some o ∧ o.cls = .ref C ∧ o.dict = none ∧ o.data = .fields vs :=
  (show ObjOk P w H h a (exk0 a C) from hok a _ e).1
section
variable {X : Cx} {e : Expr} {te : TE} {pos : Pos} {n : Str}
theorem exk_inst {pins : List (Addr × Obj)} {σ : L2.St} {H : Hp} {s : Shared} {a C d : Addr} {fs : List (Str × V)} (I : Inv X pins σ H s) (h1 : H a = some (exk a C d)) (h2 : H d = some (.xd fs)) :
    ∃ o od mA, PySem.W.InstAt s.heap a o C (some od) ∧ s.heap.Ns1 d mA ∧ (∀ f, RelO (fs.lookup f) (mA f)) ∧ s.heap.get? d = some od := by
  obtain ⟨o, vs, k1, k2, k3, k4⟩ := exk_at I.hok h1
  obtain ⟨mA, hns, hr⟩ := (show ObjOk X.prog X.w H s.heap d (.xd fs) from I.hok d _ h2)
  obtain ⟨od, ho, hl⟩ := lookIn_ns hns
  exact ⟨o, od, mA, ⟨k1, k2, by unfold PySem.W.notCls; rw [k4] <;> rfl, by rw [k3]; exact ho⟩, hns, hr, ho⟩
def rIsiZ (K : PySem.W.Frag) : List V → Hp → VK → Prop := fun xs H Q => rIsi K xs H Q ∨ (∃ (a C : Addr) (c : V) (u : Value) (b : Bool), xs = [.ref a, c] ∧ ClsV c u ∧ H a = some (exk0 a C) ∧ ErrT K C ∧ PySem.W.kitOne K (.ref C) u = some b ∧ Q (.bl b) H) ∨ ∃ (a C d : Addr) (fs : List (Str × V)) (c : V) (u : Value) (b : Bool), xs = [.ref a, c] ∧ ClsV c u ∧ H a = some (exk a C d) ∧ H d = some (.xd fs) ∧ ErrT K C ∧ PySem.W.kitOne K (.ref C) u = some b ∧ Q (.bl b) H
theorem call_isiZ {K : PySem.W.Frag} (hK : X.K = K) : CallR X (.builtin "isinstance") (rIsiZ K) := by
  subst hK
  intro pins s σ H xs us Q I r h
  rcases h with h | ⟨a, C, c, u, b, rfl, k, ea, T, e, q⟩ | ⟨a, C, d, fs, c, u, b, rfl, k, ea, ed, T, e, q⟩
  · exact call_isi pins s σ H xs us Q I r h
  · obtain ⟨u1, u2, rfl, r1, r2⟩ := vals2 r
    obtain rfl : u1 = Value.ref a := r1
    have e2 := k.eq r2
    subst e2
    obtain ⟨o, vs, k1, k2, k3, k4⟩ := exk0_at I.hok ea
    have J : PySem.W.InstAt s.heap a o C none := ⟨k1, k2, by unfold PySem.W.notCls; rw [k4] <;> rfl, by rw [k3]; exact True.intro⟩
    have hcl : (PySem.W.clsIn X.K C).isSome = true := by
      obtain ⟨cd, hc, _⟩ := PySem.W.any_some T.hd
      rw [hc]
      rfl
    exact PySem.W.kia_one (PySem.W.kitx_exc hcl T.hg T.hk T.hs T.ha T.hn T.htk T.hm) I.kIn J e (fun z => nomatch z) fun tk => ⟨.bl b, H, I.tok tk, rfl, q⟩
  · obtain ⟨u1, u2, rfl, r1, r2⟩ := vals2 r
    obtain rfl : u1 = Value.ref a := r1
    have e2 := k.eq r2
    subst e2
    obtain ⟨o, od, mA, J, _⟩ := exk_inst I ea ed
    have hcl : (PySem.W.clsIn X.K C).isSome = true := by
      obtain ⟨cd, hc, _⟩ := PySem.W.any_some T.hd
      rw [hc]
      rfl
    exact PySem.W.kia_one (PySem.W.kitx_exc hcl T.hg T.hk T.hs T.ha T.hn T.htk T.hm) I.kIn J e (fun z => nomatch z) fun tk => ⟨.bl b, H, I.tok tk, rfl, q⟩
end
section
variable {X : Cx} {x n : Str} {c : Value} {i : Nat} {body suite : List Stmt} {b₀ : Stmt} {np pos pos' : Pos} {tb : WX → TS} {ts : Addr → Value → Option Addr → TS} {Wout : WX}
end
end Gh
end
section
namespace Gh
open PySem PySem.Spec PyProof.Rows L2
theorem FnOk.toG {P : Program} {w : World} {K : PySem.W.Frag} {mg : Str → Option Value} {base : Heap} {CX : CXT} {k : Nat} {f : Addr} {fd : FuncData} {ps : List Str} {sp : Sp} (F : FnOk P w K mg base CX k f fd ps sp) : FnG P w K mg base CX k f fd ps sp :=
  ⟨F.len, fun A o s H a us vs Q E hr _ => F.run A o s H a us vs Q E hr⟩
theorem PromO.toG {P : Program} {w : World} {K : PySem.W.Frag} {mg : Str → Option Value} {base : Heap} {CX : CXT} {k : Nat} {f : Addr} {dvs : List V} {sp : Sp} (F : PromO P w K mg base CX k f dvs sp) : Prom P w K mg base CX k f dvs sp := by
  obtain ⟨fd, ps, ds, G, b, v⟩ := F
  exact ⟨fd, ps, ds, FnOk.toG G, b, v⟩
theorem fnO0 {P : Program} {w : World} {K : PySem.W.Frag} {mg : Str → Option Value} {base : Heap} {CX : CXT} {k : Nat} {f : Addr} {fd : FuncData} {ps : List Str} {sp : Sp} {dvs : List V} {x qual : Str} {params : Arguments} {body : List Stmt} {scope : Scope} {kws : List (Str × V)} {N : List Str}
    (F : FunD K x qual params body scope dvs kws f fd) (S : FnScope N ps scope) (len : ∀ vs H Q E, sp vs H Q E → vs.length = ps.length)
    (hbody : ∀ (cdv : Value) (A : Around) (outer : List Env) (s : Shared) (H : Hp) (vs : List V) (Q : VK) (E : XK), Room k (A.deeper (envOfC qual scope s.heap.objs.size f cdv)) → sp vs H Q E →
      ∃ t, PSs (cxOf CX P w K mg base N qual scope f cdv A outer s H E).nox body t ∧ t { nx := fun _ H' => Q .non H', rt := Q } (start N vs) H) : FnOk P w K mg base CX (k + 1) f fd ps sp :=
  F.ok S len fun cdv A outer s H vs Q E hr h => by
    obtain ⟨t, ht, q⟩ := hbody cdv A outer s H vs Q E hr h
    exact ⟨t, PSs.nox ht, q⟩
section
variable {X : Cx} {CX : CXT} {k : Nat} {f g C : Addr} {sp : Sp} {dvs : List V} {E : XK} {m : Str} {pos : Pos} {o : Expr} {ta : TE}
theorem PromO.make (M : Mk X.K C f) (F : PromOX X CX k f dvs sp) (hr : Room (k + 1) X.A) (hx : Passes CX X E) : CallR X (.ref C) (rMk C sp dvs E) := by
  intro pins s σ H vs us Q I r h
  unfold rMk at h
  obtain ⟨fd, ps, ds, G, b, hd⟩ := F
  exact run_make M G hr b hd hx I r h
theorem pe_po {pp : Addr} (he : PE X o ta) (c : Cls X.K C) (hp : PropOf X.K C m pp g) (F : PromOX X CX k g dvs sp) (hr : Room (k + 1) X.A) (hx : Passes CX X.nox E)
    (hab : attributeBase o m X.env (eval o X.env) = eval o X.env := by rfl) : PE X (.Attribute o m pos) (tPr C sp dvs E ta) := by
  obtain ⟨fd, ps, ds, G, b, hd⟩ := F
  exact pe_prop he c hp G hr b hd hx hab
end
end Gh
end
section
namespace Gh
open PySem PySem.Spec PyProof.Rows L2
section
variable {X : Cx} {K : PySem.W.Frag}
variable {CX : CXT} {x : Str} {C fI : Addr} {k : Nat} {sp : Sp} {dvs : List V} {e : Expr} {es : List Expr} {ta : TA} {p pos : Pos}
theorem passF : Passes (L2.CX X.prog X.w) X (fun _ _ _ => False) := fun _ _ _ _ _ _ _ h => by
  obtain ⟨_, _, _, _, _, _, _, _, _, _, _, _, z⟩ := h
  exact z.elim
end
theorem PromO.raw {P : Program} {w : World} {K : PySem.W.Frag} {mg : Str → Option Value} {base : Heap} {CX : CXT} {k : Nat} {f : Addr} {sp : Sp} (F : PromO P w K mg base CX k f [] sp) : FnR P w K mg base CX k f sp := by
  obtain ⟨fd, ps, ds, G, b, hd⟩ := F
  have z := G.raw b hd
  intro A outer s H us vs Q E hr e0 r hs
  exact z A outer s H us vs Q E hr e0 r (show sp (vs ++ []) H Q E by rw [List.append_nil]; exact hs)
end Gh
end
section
namespace Gh
open PySem PySem.Spec PyProof.Rows L2
theorem meets_enumerate_newT (l : Addr) (items : Array Value) (n : Nat) (dct : Option Addr) (sl : Array (Option Value)) :
    Meets (Builtin.«enumerate.__new__» ⟨[.type "enumerate", .ref l], []⟩) (fun _ R s => s.heap.get? l = some { cls := .type "tuple", dict := dct, data := .seq items n, slots := sl } ∧
      R (.ok (.ret (.ref (s.heap.push { cls := .type "tuple_iterator", data := .fields #[.ref l, .int 0 0] }).objs.size)))
        { s with heap := (s.heap.push { cls := .type "tuple_iterator", data := .fields #[.ref l, .int 0 0] }).push { cls := .type "enumerate", data := .fields #[.none, .bool false, .ref s.heap.objs.size, rawInt 0, .none, .none] } }) :=
  .of_wp fun prog w A R s h => by
    obtain ⟨hp, g, d, tk, os⟩ := s; obtain ⟨hl, h⟩ := h
    have hsub := sub_enumerate
    have hL : Heap.IsTuple (Shared.heap ⟨hp, g, d, tk, os⟩) l items := ⟨_, hl, rfl, n, rfl⟩
    wp_walk using wpAny_loadPart' hl
    refine wpAny_stack_any fun st => wpAny_pure ?_
    split
    · rename_i c _ _ _ _ _
      cases (c == Value.type "enumerate")
      · wp_walk using wpAny_loadPart' hl, wpAny_pyIter_tuple hL
        exact ⟨_, rfl, h⟩
      · wp_walk using wpAny_loadPart' hl, wpAny_pyIter_tuple hL
        exact ⟨_, rfl, h⟩
    · wp_walk using wpAny_loadPart' hl, wpAny_pyIter_tuple hL
      exact ⟨_, rfl, h⟩
section
variable {prog : Program} {w : World} {A : Around} {E : Value → Shared → Prop} {s : Shared}
theorem call_enumerate_tup {l : Addr} {items : Array Value} {Q : Value → Shared → Prop} (hL : s.heap.IsTuple l items)
    (h : ∀ h', IsEnum h' (s.heap.objs.size + 1) s.heap.objs.size 0 .none → h'.IsTupleIter s.heap.objs.size l 0 → h'.objs.size = s.heap.objs.size + 2 →
      (∀ b o, s.heap.get? b = some o → h'.get? b = some o) → Q (.ref (s.heap.objs.size + 1)) { s with heap := h' }) :
    wpAny (model prog w) A (call (.type "enumerate") [.ref l]) Q E s := by
  obtain ⟨⟨c, dct, dt, sl⟩, hl, hc, n, hd⟩ := hL
  replace hc : c = .type "tuple" := hc
  replace hd : dt = .seq items n := hd
  subst hc hd
  refine callType_new F.called_enumerate (by decide) (F.typeCall_enumerate_1 _) (F.newCall_enumerate_1 _) (fun obj => F.args_object_init_2 obj _) F.entry_enumerate_new
    (meets_enumerate_newT l items n dct sl) ⟨hl, ?_⟩
  have hz : (s.heap.push { cls := .type "tuple_iterator", data := .fields #[.ref l, .int 0 0] }).objs.size = s.heap.objs.size + 1 := Heap.size_push ..
  show _ ∧ _
  rw [hz]
  have he : IsEnum ((s.heap.push { cls := .type "tuple_iterator", data := .fields #[.ref l, .int 0 0] }).push
      { cls := .type "enumerate", data := .fields #[.none, .bool false, .ref s.heap.objs.size, rawInt 0, .none, .none] }) (s.heap.objs.size + 1) s.heap.objs.size 0 .none := by
    have := Heap.get?_push_size (s.heap.push { cls := .type "tuple_iterator", data := .fields #[.ref l, .int 0 0] })
      (o := { cls := .type "enumerate", data := .fields #[.none, .bool false, .ref s.heap.objs.size, rawInt 0, .none, .none] }) rfl
    rw [hz] at this; exact this
  refine ⟨⟨_, he, rfl⟩, h _ he ⟨_, Heap.get?_push_of_some _ (Heap.get?_push_size _ rfl), rfl, rfl⟩ (by rw [Heap.size_push, hz]) fun b o x => Heap.get?_push_of_some _ (Heap.get?_push_of_some _ x)⟩
end
def Itu (K : PySem.W.Frag) (a : Addr) : It :=
  ⟨fun i H => ∃ (xs : List V) (x : V), SqT K H a xs ∧ xs[i]? = some x, fun i H v H' => ∃ T x, v = .ref T ∧ H T = none ∧ H' = upd H T (.tup [.int (i : Nat), x]) ∧ ∀ xs, SqT K H a xs → xs[i]? = some x, fun i H => ∃ xs : List V, SqT K H a xs ∧ xs.length = i⟩
theorem turn_enumT {P : Program} {w : World} {K : PySem.W.Frag} {elts : List Expr} {kk : Nat} {tpos : Pos} (a e it : Addr) :
    Turn P w K (.Tuple elts kk tpos) (Itu K a) [e, it] e (fun i h => (∃ old, IsEnum h e it ((i : Nat) : Int) old) ∧ h.IsTupleIter it a i ∧ e ≠ it ∧ a ≠ it ∧ e ≠ a) where
  mem := by simp
  obj := fun i h st b hb => by
    obtain ⟨⟨old, he⟩, ⟨o, ho, hc, hd⟩, _⟩ := st
    have e' : b = e ∨ b = it := by simpa using hb
    rcases e' with z | z
    · rw [z]; exact ⟨_, he, fun v q => nomatch q⟩
    · rw [z]; exact ⟨o, ho, fun v q => by rw [hd] at q; cases q⟩
  keep := fun i h h' st k => let ⟨⟨old, he⟩, hi, hne⟩ := st; ⟨⟨old, k e (by simp) _ he⟩, hi.at fun o q => k it (by simp) o q, hne⟩
  item := by
    intro X hP hw hK hc i pins s σ H E I hf st hg
    subst hP hw hK
    obtain ⟨⟨old, he⟩, hit, hne, hai, hea⟩ := st
    obtain ⟨xs, x, hq, hx⟩ := hg
    obtain ⟨its, rv, p, hz⟩ := I.tuple hq
    obtain ⟨u, hu, ru⟩ := rv.get hx
    have hel : e < s.heap.objs.size := Heap.lt_size he
    have hil : it < s.heap.objs.size := by obtain ⟨_, q, _⟩ := hit; exact Heap.lt_size q
    have hlt : i < its.toArray.size := by
      obtain ⟨z, _⟩ := List.getElem?_eq_some_iff.mp hu
      simpa using z
    refine wpAny_pyNext_enum_itemD (Draws.tuple (A := X.A.in1) (show X.A.in1.handled = none from I.ok.hd hc) it a hai its.toArray) he ⟨hit, p⟩ hlt hne (by simp; exact ⟨hne, hea⟩) fun u' h' tk pu ho hit' hT hsz hk => ?_
    have eu : u' = u := by
      have z : its.toArray[i]? = some u := by simpa using hu
      rw [z] at pu
      exact (Option.some.inj pu).symm
    subst eu
    refine ⟨_, rfl, wpAny_letOwnedTupleGo_enum (s := { s with heap := h', toks := tk + 1 }) ho fun h'' he' sb => ?_⟩
    have hT2 : h''.get? s.heap.objs.size = some { cls := .type "tuple", data := .seq #[.int i tk, u'] } := (sb.2 _ (Nat.ne_of_gt hel)).trans hT
    have new : ObjOk X.prog X.w (upd H s.heap.objs.size (.tup [.int (i : Nat), x])) h'' s.heap.objs.size (.tup [.int (i : Nat), x]) :=
      ⟨by show 2 ≤ sizeLine; decide, [.int i tk, u'], .cons ⟨_, rfl⟩ (.cons ru .nil), ⟨_, hT2, rfl, _, rfl⟩⟩
    have I1 : Inv X pins σ (upd H s.heap.objs.size (.tup [.int (i : Nat), x])) { s with heap := h'', toks := tk + 1 } :=
      I.turnedNew (ch := [e, it]) (fun b ob hb q => (sb.2 b (fun z => hb (by simp [z]))).trans (hk b ob (fun z => hb (by simp [z])) (fun z => hb (by simp [z])) q)) hf (Nat.le_refl _) new
    refine ⟨.ref s.heap.objs.size, _, I1, rfl, ⟨_, x, rfl, I.hok.fresh (Nat.le_refl _), rfl, fun ys hy => by rw [I.tuple_inj hy hq]; exact hx⟩, ⟨⟨u', ?_⟩, hit'.1.at fun o q => (sb.2 it (Ne.symm hne)).trans q, hne, hai, hea⟩, fun b hb => ?_⟩
    · have e1 : ((i + 1 : Nat) : Int) = (i : Int) + 1 := by omega
      rw [e1]; exact he'
    · have hb' : b < s.heap.objs.size := by
        have e' : b = e ∨ b = it := by simpa using hb
        rcases e' with z | z
        · rw [z]; exact hel
        · rw [z]; exact hil
      rw [upd_ne (Nat.ne_of_lt hb')]
      exact (hf b hb).1
  done := by
    intro X hP hw hK hc i pins s σ H E I hf st hg
    subst hP hw hK
    obtain ⟨⟨old, he⟩, hit, hne, hai, hea⟩ := st
    obtain ⟨xs, hq, hx⟩ := hg
    obtain ⟨its, rv, p, hz⟩ := I.tuple hq
    obtain ⟨f0, f1, f2, f3, f4, f5⟩ := hf it (by simp)
    have hl := rv.length
    have en : its.toArray.size = i := by
      rw [List.size_toArray]
      omega
    refine wpAny_pyNext_enum_endD (Draws.tuple (A := X.A.in1) (show X.A.in1.handled = none from I.ok.hd hc) it a hai its.toArray) he ⟨by rw [en]; exact hit, p⟩ fun h' eb => ⟨rfl, I.turned (t' := s.toks) (fun b o hb q => eb b o hb q) f0 f1 f3 f4 f5⟩
  self := fun A i s Q E st h => let ⟨⟨_, he⟩, _⟩ := st; wpAny_pyIter_enum he h
theorem PI.or {X : Cx} {tg iter : Expr} {w1 w2 : TI} (a : PI X tg iter w1) (b : PI X tg iter w2) : PI X tg iter (fun σ H R => w1 σ H R ∨ w2 σ H R) :=
  ⟨fun pins s σ H R I h => h.elim (a.run pins s σ H R I) (b.run pins s σ H R I)⟩
end Gh
end
section
namespace Gh
open PySem PySem.Spec PyProof.Rows L2
section
variable {X : Cx} {C f : Addr} {r : List V → Hp → VK → Prop}
@[irreducible] def rSetO (C : Addr) (r : List V → Hp → VK → Prop) : TSet := fun o i v H Q => ∃ a dx fs, o = .ref a ∧ H a = some (.ins C dx fs) ∧ r [o, i, v] H fun _ H' => Q H'
@[irreducible] def rIxO (C : Addr) (sp : Sp) (E : XK) : R2 := fun x y H Q => ∃ a dx fs, x = .ref a ∧ H a = some (.ins C dx fs) ∧ sp [x, y] H Q E
end
end Gh
end
section
namespace Gh
open PySem PySem.Spec PyProof.Rows L2
section
variable {H H' : Hp} {p a l : Addr} {o u : HO}
theorem nw_upd (n : H p = none) : Nw H (upd H p o) p o := ⟨n, same_new n, upd_same⟩
theorem mu_upd : Mu H (upd H p o) p o := ⟨Keep.refl.put, upd_same⟩
theorem same_up (n : L2.Same H H') (h : H a = some u) : H' a = some u := n _ _ h
theorem keep_up (n : Keep H H' p) (e : a ≠ p) (h : H a = some u) : H' a = some u := n _ _ h e
end
section
variable {H H' : Hp} {p c a l : Addr} {o u : HO} {b k : Nat} {xs : List V} {C dx : Addr} {fs : List (Str × V)}
theorem Pen.le (h : Pen H p c b) (q : k ≤ b) : Pen H p c k := by
  obtain ⟨ns, i, z, h1, h2, h3, h4, h5, h6⟩ := h
  exact ⟨ns, i, z, h1, h2, h3, h4, by omega, h6⟩
theorem Pen.nw (n : Nw H H' l o) (h : Pen H p c b) : Pen H' p c b := h.same n.same
theorem Pen.mu (n : Mu H H' l o) (e1 : l ≠ p) (e2 : l ≠ c) (h : Pen H p c b) : Pen H' p c b := by
  obtain ⟨ns, i, z, h1, h2, h3⟩ := h
  exact ⟨ns, i, z, n.up e1.symm h1, n.up e2.symm h2, h3⟩
theorem nw_pen (n : Nw H H' l o) (h : Pen H p c b) : l ≠ p := by
  obtain ⟨ns, i, z, h1, h2, h3⟩ := h
  exact n.ne h1
theorem nw_cell (n : Nw H H' l o) (h : Pen H p c b) : l ≠ c := by
  obtain ⟨ns, i, z, h1, h2, h3⟩ := h
  exact n.ne h2
theorem tup_pen (n : H a = some (.tup xs)) (h : Pen H p c b) : a ≠ p := by
  obtain ⟨ns, i, z, h1, h2, h3⟩ := h
  exact ne_of n h1 (by intro e; cases e)
theorem tup_cell (n : H a = some (.tup xs)) (h : Pen H p c b) : a ≠ c := by
  obtain ⟨ns, i, z, h1, h2, h3⟩ := h
  exact ne_of n h2 (by intro e; cases e)
theorem ins_pen (n : H a = some (.ins C dx fs)) (h : Pen H p c b) : a ≠ p := by
  obtain ⟨ns, i, z, h1, h2, h3⟩ := h
  exact ne_of n h1 (by intro e; cases e)
theorem ins_cell (n : H a = some (.ins C dx fs)) (h : Pen H p c b) : a ≠ c := by
  obtain ⟨ns, i, z, h1, h2, h3⟩ := h
  exact ne_of n h2 (by intro e; cases e)
end
section
variable {H H' : Hp} {a t l : Addr} {o u : HO} {xs ys : List V} {C dx : Addr} {fs : List (Str × V)}
theorem ins_lst (h : H a = some (.ins C dx fs)) (k : H t = some (.lst xs)) : a ≠ t := ne_of h k (by intro e; cases e)
theorem ins_tup (h : H a = some (.ins C dx fs)) (k : H t = some (.tup xs)) : a ≠ t := ne_of h k (by intro e; cases e)
theorem tup_lst (h : H a = some (.tup ys)) (k : H t = some (.lst xs)) : a ≠ t := ne_of h k (by intro e; cases e)
theorem nw_ne (n : Nw H H' l o) (h : H a = some u) : l ≠ a := n.ne h
end
def spDr : Sp := fun vs H Q _ => ∃ (p c : Addr) (b : Nat) (m : Int), vs = [.ref p, .int m] ∧ 0 < m ∧ m.natAbs.log2 < 9000 ∧ Pen H p c (b + 1) ∧
  ∀ (d : Int) (H' : Hp), 0 ≤ d → d < m → Pen H' p c b → Keep H H' p → Q (.int d) H'
def spPn (K : PySem.W.Frag) : Sp := fun vs H Q _ => ∃ (a : Addr) (ns : List Int), vs = [.ref a] ∧ SqL K H a (ns.map V.int) ∧ ns.length ≤ 63 ∧ ∀ (p c : Addr) (H' : Hp), H p = none → Pen H' p c 1000000 → L2.Same H H' → Q (.ref p) H'
section
variable {H : Hp} {E : XK} {Q : VK} {p c l : Addr} {b : Nat} {m : Int} {xs : List V}
theorem log_of (h0 : 0 < m) (h : m < 10 ^ 100) : m.natAbs.log2 < 9000 := by
  have h2 : m.natAbs < 2 ^ 9000 := Nat.lt_of_lt_of_le (show m.natAbs < 10 ^ 100 by omega) (by decide)
  exact (Nat.log2_lt (by omega)).mpr h2
end
@[irreducible] def rLn (K : PySem.W.Frag) : List V → Hp → VK → Prop := fun xs H Q => ∃ x n, xs = [x] ∧ LenV K x H n ∧ Q (.int n) H
@[irreducible] def rListOf (K : PySem.W.Frag) : List V → Hp → VK → Prop := fun xs H Q => ∃ p ys, xs = [.ref p] ∧ (SqL K H p ys ∨ SqT K H p ys) ∧ ∀ l, H l = none → Q (.ref l) (upd H l (.lst ys))
@[irreducible] def rTupOf (K : PySem.W.Frag) : List V → Hp → VK → Prop := fun xs H Q => ∃ p ys, xs = [.ref p] ∧ ((SqL K H p ys ∧ ∀ l, H l = none → Q (.ref l) (upd H l (.tup ys))) ∨ (SqT K H p ys ∧ Q (.ref p) H))
@[irreducible] def rInt : List V → Hp → VK → Prop := rInt1
@[irreducible] def rAbs : List V → Hp → VK → Prop := fun xs H Q => ∃ i, xs = [.int i] ∧ Q (.int (if i < 0 then -i else i)) H
@[irreducible] def rIsN : R2 := fun x y H Q => y = .non ∧ Q (.bl (decide (x = .non))) H
@[irreducible] def rNotN : R2 := fun x y H Q => y = .non ∧ Q (.bl (!decide (x = .non))) H
section
variable {X : Cx} {K : PySem.W.Frag}
theorem cr_len (h : X.K = K) : CallR X (.builtin "len") (rLn K) := by unfold rLn; exact h ▸ call_len
theorem cr_listOf (h : X.K = K) : CallR X (.type "list") (rListOf K) := by unfold rListOf; exact h ▸ call_list_of
theorem cr_tupOf (h : X.K = K) : CallR X (.type "tuple") (rTupOf K) := by unfold rTupOf; exact h ▸ call_tuple_of
theorem cr_int : CallR X (.type "int") rInt := by unfold rInt; exact call_int1
theorem cr_abs : CallR X (.builtin "abs") rAbs := by unfold rAbs; exact call_abs
theorem or_isN : OpR X (compareOp .Is) rIsN := by unfold rIsN; exact op_isN
theorem or_notN : OpR X (compareOp .IsNot) rNotN := by unfold rNotN; exact op_notN
theorem sl_listK (h : X.K = K) : SlR X (rSlL K) := h ▸ sl_list
theorem op_neDK (h : X.K = K) (hu : X.A.units + 64 < cLine) : OpR X (compareOp .NotEq) (rNeD K) := h ▸ op_neD hu
theorem call_isiTK {X : Cx} {K : PySem.W.Frag} (h : X.K = K) : CallR X (.builtin "isinstance") (rIsiT K) := h ▸ call_isiT
@[irreducible] def rFld (C : Addr) (f : Str) : V → Hp → VK → Prop := fun x H Q => ∃ a dx fs v, x = .ref a ∧ H a = some (.ins C dx fs) ∧ fs.lookup f = some v ∧ Q v H
theorem pe_f {C : Addr} {e : Expr} {f : Str} {pos : Pos} {ta : TE} (he : PE X e ta) (c : Cls X.K C) (n : NoAttr X.K C f) (hb : attributeBase e f X.env (eval e X.env) = eval e X.env := by rfl) : PE X (.Attribute e f pos) (tUn (rFld C f) ta) := by
  refine ⟨fun pins s σ H Q I h => ?_⟩
  refine attr_of hb (thn (he.run pins s σ H _ I h) fun u s1 ⟨x, H1, I1, rx, q0⟩ => ?_)
  unfold rFld at q0
  obtain ⟨a, dx, fs, v, ex, ea, l, q⟩ := q0
  subst ex
  obtain rfl : u = Value.ref a := rx
  exact getattr_ok I1 ea c n l fun u' s2 I2 ru => ⟨v, H1, I2, ru, q⟩
@[irreducible] def sF (C : Addr) (ta tv : TE) (f : Str) : TS := fun D σ H => tv σ H fun y H1 => ta σ H1 fun x H2 => ∃ a dx fs, x = .ref a ∧ H2 a = some (.ins C dx fs) ∧ fs.length < 1000 ∧ D.nx σ (upd H2 a (.ins C dx (putF f y fs)))
theorem ps_f {C : Addr} {o value : Expr} {f : Str} {pos pos' : Pos} {ta tv : TE} (ha : PE X o ta) (hv : PE X value tv) (c : Cls X.K C) (n : NoAttr X.K C f) (hs : swapsWith value (some (.Attribute o f pos')) pos.line X.env = pure false := by rfl) : PS X (.Assign [.Attribute o f pos'] value pos) (sF C ta tv f) := by
  refine ⟨fun pins s σ H D I h => ?_⟩
  unfold sF at h
  refine plainObj_wpAny_Assign_Attribute (thn (hv.run pins s σ H _ I h) fun u s1 ⟨y, H1, I1, ry, q⟩ => thn (ha.run pins s1 σ H1 _ I1 q) fun ov s2 ⟨x, H2, I2, rx, a, dx, fs, ex, ea, l, q2⟩ => ?_) hs
  subst ex
  obtain rfl : ov = Value.ref a := rx
  exact setattr_ok I2 ea c n l ry fun s3 I3 => ⟨σ, _, I3, q2⟩
@[irreducible] def rConst (C : Addr) (f : Str) (v : V) : V → Hp → VK → Prop := fun x H Q => ∃ a dx fs, x = .ref a ∧ H a = some (.ins C dx fs) ∧ fs.lookup f = none ∧ Q v H
end
theorem len_ok {n : Nat} (h : n ≤ 100000) : n ≤ sizeLine := Nat.le_trans h (by decide)
@[irreducible] def rPowK (r : Int) : R2 := fun x y H Q => ∃ i j, x = .int i ∧ y = .int j ∧ CPow i j ∧ i ^ j.toNat = r ∧ Q (.int r) H
theorem op_powK {X : Cx} (r : Int) : OpR X (binaryOp .Pow) (rPowK r) := by
  intro pins s σ H x y v u Q I rx ry h
  unfold rPowK at h
  obtain ⟨i, j, h1, h2, h3, h4, q⟩ := h
  exact op_pow pins s σ H x y v u Q I rx ry ⟨i, j, h1, h2, h3, by show Q (.int (i ^ j.toNat)) H; rw [h4]; exact q⟩
section
variable {K : PySem.W.Frag} {H : Hp} {σ : L2.St} {Q : VK} {D : Ends} {i j n : Int} {x y v : V} {ta tb tc te tf : TE} {t u : TS} {c d : TT} {k : Bool} {a l p C dx : Addr} {xs ys : List V} {A B : Prop}
theorem st_seq (h : t { D with nx := u D } σ H) : tSeq t u D σ H := h
theorem st_nx (h : D.nx σ H) : tNext D σ H := h
theorem st_asg {g : TG} (h : te σ H fun x H1 => g x σ H1 D.nx) : tAsg te g D σ H := h
theorem st_name {m : Nat} {Q : L2.St → Hp → Prop} (h : Q (σ.set m (some v)) H) : gName m v σ H Q := h
theorem st_drop (h : te σ H fun _ H1 => D.nx σ H1) : tDrop te D σ H := h
theorem st_ret (h : te σ H D.rt) : tRet te D σ H := h
theorem st_retN (h : D.rt .non H) : tRetN D σ H := h
theorem st_ifS (h : c σ H fun b H1 => if b = true then t D σ H1 else u D σ H1) : tIfS c t u D σ H := h
theorem st_brk (h : D.bk σ H) : tBreak D σ H := h
theorem st_cnt (h : D.ct σ H) : tCont D σ H := h
theorem st_par {m m' : Nat} {t : TA} (h : t σ H fun vs H1 => ∃ v w, vs = [v, w] ∧ D.nx ((σ.set m (some v)).set m' (some w)) H1) : tPar m m' t D σ H := h
theorem st_par2 {P : V → V → Prop} (h : P x y) : ∃ v w, [x, y] = [v, w] ∧ P v w := ⟨x, y, rfl, h⟩
theorem st_aug {m : Nat} {ti : TIp} (e : σ[m]? = some (some x)) (h : te σ H fun y H1 => ti x y H1 fun z H2 => D.nx (σ.set m (some z)) H2) : tAug m te ti D σ H := ⟨x, e, h⟩
theorem st_var {m : Nat} (e : σ[m]? = some (some v)) (h : Q v H) : tVar m σ H Q := ⟨v, e, h⟩
theorem st_c (h : Q v H) : tC v σ H Q := h
theorem st_op {r : R2} (h : ta σ H fun x H1 => tb σ H1 fun y H2 => r x y H2 Q) : tOp r ta tb σ H Q := h
theorem st_un {r : V → Hp → VK → Prop} (h : ta σ H fun x H1 => r x H1 Q) : tUn r ta σ H Q := h
theorem st_rI0 {g : Int → Int → V} (h : Q (g i j) H) : rI0 g (.int i) (.int j) H Q := ⟨i, j, rfl, rfl, h⟩
theorem st_rI {g : Int → Int → V} {R : Int → Int → Prop} (hc : R i j) (h : Q (g i j) H) : rI R g (.int i) (.int j) H Q := ⟨i, j, rfl, rfl, hc, h⟩
theorem st_rU {g : Int → V} (h : Q (g i) H) : rU g (.int i) H Q := ⟨i, rfl, h⟩
theorem st_rAdd (h : Q (.int (i + j)) H) : rAdd (.int i) (.int j) H Q := ⟨i, j, rfl, rfl, h⟩
theorem st_rSub (h : Q (.int (i - j)) H) : rSub (.int i) (.int j) H Q := ⟨i, j, rfl, rfl, h⟩
theorem st_eq (e : scal x y = true) (h : Q (.bl (decide (x = y))) H) : rEq x y H Q := ⟨e, h⟩
theorem st_ne (e : scal x y = true) (h : Q (.bl (!decide (x = y))) H) : rNe x y H Q := ⟨e, h⟩
theorem st_isN (h : Q (.bl (decide (x = .non))) H) : rIsN x .non H Q := by unfold rIsN; exact ⟨rfl, h⟩
theorem st_notN (h : Q (.bl (!decide (x = .non))) H) : rNotN x .non H Q := by unfold rNotN; exact ⟨rfl, h⟩
theorem st_test {Q : Bool → Hp → Prop} (h : te σ H fun x H' => ∃ k, x = .bl k ∧ Q k H') : tTest te σ H Q := h
theorem st_tB {Q : Bool → Hp → Prop} (h : te σ H fun x H' => ∃ k, x = .bl k ∧ Q k H') : tB te σ H Q := h
theorem st_ebl {P : Bool → Prop} (h : P k) : ∃ k', V.bl k = .bl k' ∧ P k' := ⟨k, rfl, h⟩
theorem st_eint {P : Int → Prop} (h : P i) : ∃ k', V.int i = .int k' ∧ P k' := ⟨i, rfl, h⟩
theorem st_and {Q : Bool → Hp → Prop} (h : c σ H fun k H1 => if k = true then d σ H1 Q else Q false H1) : tAnd c d σ H Q := h
theorem st_or {Q : Bool → Hp → Prop} (h : c σ H fun k H1 => if k = true then Q true H1 else d σ H1 Q) : tOr c d σ H Q := h
theorem st_not {Q : Bool → Hp → Prop} (h : c σ H fun k H1 => Q (!k) H1) : tNot c σ H Q := h
theorem st_andV (h : ta σ H fun x H1 => ∃ c, x = .bl c ∧ if c = true then tb σ H1 Q else Q (.bl false) H1) : tAndV ta tb σ H Q := h
theorem st_orV (h : ta σ H fun x H1 => ∃ c, x = .bl c ∧ if c = true then Q (.bl true) H1 else tb σ H1 Q) : tOrV ta tb σ H Q := h
theorem st_notV (h : ta σ H fun x H1 => ∃ c, x = .bl c ∧ Q (.bl (!c)) H1) : tNotV ta σ H Q := h
theorem st_ifE (h : c σ H fun k H1 => if k = true then ta σ H1 Q else tb σ H1 Q) : tIf c ta tb σ H Q := h
theorem st_chain {r r' : R2} (h : ta σ H fun x H1 => tb σ H1 fun y H2 => r x y H2 fun z H3 => ∃ k, z = .bl k ∧ if k = true then tc σ H3 fun w H4 => r' y w H4 Q else Q (.bl false) H3) : tChain r r' ta tb tc σ H Q := h
theorem st_if1 (e : k = true) (h : A) : if k = true then A else B := by rw [if_pos e]; exact h
theorem st_if0 (e : k = false) (h : B) : if k = true then A else B := by rw [e, if_neg (by decide)]; exact h
theorem st_nil {Q : List V → Hp → Prop} (h : Q [] H) : tNil σ H Q := h
theorem st_cons {t : TA} {Q : List V → Hp → Prop} (h : ta σ H fun x H1 => t σ H1 fun xs H2 => Q (x :: xs) H2) : tCons ta t σ H Q := h
theorem st_cl {r : List V → Hp → VK → Prop} {t : TA} (h : t σ H fun vs H1 => r vs H1 Q) : tCl r t σ H Q := h
theorem st_cb {r : List V → Hp → VK → Prop} {t : TA} (h : t σ H fun vs H1 => r vs H1 Q) : tCB r t σ H Q := h
theorem st_mt {m : Str} {r : List V → Hp → VK → Prop} {t : TA} (h : ta σ H fun x H1 => ∃ a dx fs, x = .ref a ∧ H1 a = some (.ins C dx fs) ∧ fs.lookup m = none ∧ t σ H1 fun vs H2 => r (x :: vs) H2 Q) : tMt C m r ta t σ H Q := h
theorem st_emt {m : Str} {fs : List (Str × V)} {P : Prop} (h : H a = some (.ins C dx fs)) (e : fs.lookup m = none) (q : P) : ∃ a' dx fs, V.ref a = .ref a' ∧ H a' = some (.ins C dx fs) ∧ fs.lookup m = none ∧ P := ⟨a, dx, fs, rfl, h, e, q⟩
theorem st_pr {sp : Sp} {dvs : List V} {E : XK} (h : ta σ H fun x H1 => ∃ a dx fs, x = .ref a ∧ H1 a = some (.ins C dx fs) ∧ sp (.ref a :: dvs) H1 Q E) : tPr C sp dvs E ta σ H Q := h
theorem st_epr {fs : List (Str × V)} {sp : Sp} {dvs : List V} {E : XK} (h : H a = some (.ins C dx fs)) (q : rSp sp dvs E [.ref a] H Q) : ∃ a' dx fs, V.ref a = .ref a' ∧ H a' = some (.ins C dx fs) ∧ sp (.ref a' :: dvs) H Q E := ⟨a, dx, fs, rfl, h, q⟩
theorem st_fld {f : Str} {fs : List (Str × V)} (h : H a = some (.ins C dx fs)) (e : fs.lookup f = some v) (q : Q v H) : rFld C f (.ref a) H Q := by unfold rFld; exact ⟨a, dx, fs, v, rfl, h, e, q⟩
theorem st_const {f : Str} {fs : List (Str × V)} (h : H a = some (.ins C dx fs)) (e : fs.lookup f = none) (q : Q v H) : rConst C f v (.ref a) H Q := by unfold rConst; exact ⟨a, dx, fs, rfl, h, e, q⟩
def rSetF (C : Addr) (f : Str) (y x : V) (H : Hp) (P : Hp → Prop) : Prop := ∃ a dx fs, x = .ref a ∧ H a = some (.ins C dx fs) ∧ fs.length < 1000 ∧ P (upd H a (.ins C dx (putF f y fs)))
theorem st_sF {f : Str} (h : te σ H fun y H1 => ta σ H1 fun x H2 => rSetF C f y x H2 fun H3 => D.nx σ H3) : sF C ta te f D σ H := by unfold sF; exact h
theorem st_setF {f : Str} {fs : List (Str × V)} {P : Hp → Prop} (h : H a = some (.ins C dx fs)) (e : fs.length < 1000) (q : ∀ H', Mu H H' a (.ins C dx (putF f y fs)) → P H') : rSetF C f y (.ref a) H P := ⟨a, dx, fs, rfl, h, e, q _ mu_upd⟩
theorem st_powK {r : Int} (h1 : CPow i j) (h2 : i ^ j.toNat = r) (q : Q (.int r) H) : rPowK r (.int i) (.int j) H Q := by unfold rPowK; exact ⟨i, j, rfl, rfl, h1, h2, q⟩
def rNewL (xs : List V) (H : Hp) (Q : VK) : Prop := xs.length ≤ sizeLine ∧ ∀ p, H p = none → Q (.ref p) (upd H p (.lst xs))
def rNewT (xs : List V) (H : Hp) (Q : VK) : Prop := xs.length ≤ sizeLine ∧ ∀ p, H p = none → Q (.ref p) (upd H p (.tup xs))
theorem st_lst {t : TA} (h : t σ H fun xs H1 => rNewL xs H1 Q) : tLst t σ H Q := h
theorem st_tup {t : TA} (h : t σ H fun xs H1 => rNewT xs H1 Q) : tTup t σ H Q := h
theorem st_newL (e : xs.length ≤ sizeLine) (h : ∀ p H', Nw H H' p (.lst xs) → Q (.ref p) H') : rNewL xs H Q := ⟨e, fun p np => h p _ (nw_upd np)⟩
theorem st_newT (e : xs.length ≤ sizeLine) (h : ∀ p H', Nw H H' p (.tup xs) → Q (.ref p) H') : rNewT xs H Q := ⟨e, fun p np => h p _ (nw_upd np)⟩
theorem new_of {o : HO} (h : ∀ p H', Nw H H' p o → Q (.ref p) H') : ∀ p, H p = none → Q (.ref p) (upd H p o) := fun p np => h p _ (nw_upd np)
theorem st_ixL (h : H p = some (.lst xs)) (e : atI xs i = some v) (q : Q v H) : rIxL K (.ref p) (.int i) H Q := ⟨p, xs, i, v, rfl, rfl, SqL.of h, e, q⟩
theorem st_ixLs (h : SqL K H p xs) (e : atI xs i = some v) (q : Q v H) : rIxL K (.ref p) (.int i) H Q := ⟨p, xs, i, v, rfl, rfl, h, e, q⟩
theorem st_ixT (h : H p = some (.tup xs)) (e : atI xs i = some v) (q : Q v H) : rIxT K (.ref p) (.int i) H Q := ⟨p, xs, i, v, rfl, rfl, SqT.of h, e, q⟩
theorem st_ixTs (h : SqT K H p xs) (e : atI xs i = some v) (q : Q v H) : rIxT K (.ref p) (.int i) H Q := ⟨p, xs, i, v, rfl, rfl, h, e, q⟩
theorem st_lenL (h : H p = some (.lst xs)) (q : Q (.int xs.length) H) : rLn K [.ref p] H Q := by unfold rLn; exact ⟨_, _, rfl, .inl ⟨xs, SqL.of h, rfl⟩, q⟩
theorem st_lenT (h : H p = some (.tup xs)) (q : Q (.int xs.length) H) : rLn K [.ref p] H Q := by unfold rLn; exact ⟨_, _, rfl, .inr ⟨xs, SqT.of h, rfl⟩, q⟩
theorem st_lenS {z : Str} (e : z.length ≤ sizeLine) (q : Q (.int z.length) H) : rLn K [.str z] H Q := by unfold rLn; exact ⟨_, _, rfl, ⟨e, rfl⟩, q⟩
theorem st_listL (h : H p = some (.lst xs)) (q : ∀ l H', Nw H H' l (.lst xs) → Q (.ref l) H') : rListOf K [.ref p] H Q := by unfold rListOf; exact ⟨p, xs, rfl, .inl (SqL.of h), new_of q⟩
theorem st_listT (h : H p = some (.tup xs)) (q : ∀ l H', Nw H H' l (.lst xs) → Q (.ref l) H') : rListOf K [.ref p] H Q := by unfold rListOf; exact ⟨p, xs, rfl, .inr (SqT.of h), new_of q⟩
theorem st_tupL (h : H p = some (.lst xs)) (q : ∀ l H', Nw H H' l (.tup xs) → Q (.ref l) H') : rTupOf K [.ref p] H Q := by unfold rTupOf; exact ⟨p, xs, rfl, .inl ⟨SqL.of h, new_of q⟩⟩
theorem st_tupT (h : H p = some (.tup xs)) (q : Q (.ref p) H) : rTupOf K [.ref p] H Q := by unfold rTupOf; exact ⟨p, xs, rfl, .inr ⟨SqT.of h, q⟩⟩
theorem st_int (q : Q (.int i) H) : rInt [.int i] H Q := by unfold rInt; exact .inl ⟨i, rfl, q⟩
theorem st_intB (q : Q (.int (if k = true then 1 else 0)) H) : rInt [.bl k] H Q := by unfold rInt; exact .inr ⟨k, rfl, q⟩
theorem st_abs (q : Q (.int (if i < 0 then -i else i)) H) : rAbs [.int i] H Q := by unfold rAbs; exact ⟨i, rfl, q⟩
theorem st_sl {r : V → Option Int → Option Int → Hp → VK → Prop} {tl th : TO} (h : te σ H fun x H1 => tl σ H1 fun l H2 => th σ H2 fun u H3 => r x l u H3 Q) : tSl r te tl th σ H Q := h
theorem st_part {Q : Option Int → Hp → Prop} (h : te σ H fun x H1 => ∃ i, x = .int i ∧ Q (some i) H1) : tPart te σ H Q := h
theorem st_nopart {Q : Option Int → Hp → Prop} (h : Q none H) : tNoPart σ H Q := h
theorem st_slL {lo hi : Option Int} (h : H p = some (.lst xs)) (q : ∀ l H', Nw H H' l (.lst (cutV xs lo hi)) → Q (.ref l) H') : rSlL K (.ref p) lo hi H Q := ⟨p, xs, rfl, SqL.of h, new_of q⟩
theorem st_slLs {lo hi : Option Int} (h : SqL K H p xs) (q : ∀ l H', Nw H H' l (.lst (cutV xs lo hi)) → Q (.ref l) H') : rSlL K (.ref p) lo hi H Q := ⟨p, xs, rfl, h, new_of q⟩
theorem st_cat (h : H l = some (.lst xs)) (h' : H p = some (.lst ys)) (e : xs.length + ys.length ≤ sizeLine) (q : ∀ a H', Nw H H' a (.lst (xs ++ ys)) → Q (.ref a) H') : rCat (.ref l) (.ref p) H Q := ⟨l, p, xs, ys, rfl, rfl, h, h', e, new_of q⟩
theorem st_bm {T : String} {r : V → List V → Hp → VK → Prop} {t : TA} (h : te σ H fun x H1 => tyV K T x H1 ∧ t σ H1 fun xs H2 => r x xs H2 Q) : tBM K T r te t σ H Q := h
theorem st_bm0 {T : String} {r : V → List V → Hp → VK → Prop} (h : te σ H fun x H1 => tyV K T x H1 ∧ r x [] H1 Q) : tBM0 K T r te σ H Q := h
theorem st_tyL {P : Prop} (h : H p = some (.lst xs)) (q : P) : tyV K "list" (.ref p) H ∧ P := ⟨.inl ⟨rfl, xs, SqL.of h⟩, q⟩
theorem st_tyS {z : Str} {P : Prop} (q : P) : tyV K "str" (.str z) H ∧ P := ⟨rfl, q⟩
theorem st_gsub {to ti : TE} {ts : TSet} {Q : L2.St → Hp → Prop} (h : to σ H fun o H1 => ti σ H1 fun i H2 => ts o i v H2 fun H3 => Q σ H3) : gSub to ti ts v σ H Q := h
theorem st_setL {m : Nat} {Q : Hp → Prop} (h : H p = some (.lst xs)) (e : ixN xs.length i = some m) (q : ∀ H', Mu H H' p (.lst (xs.set m v)) → Q H') : rSetL (.ref p) (.int i) v H Q := ⟨p, xs, i, m, rfl, rfl, h, e, q _ mu_upd⟩
theorem st_neD {d e : PyData} (h1 : Dp K H x d) (h2 : Dp K H y e) (h3 : SeqAt.shaped d = true) (h4 : SeqAt.shaped e = true) (q : Q (.bl (!PyData.eqv d e)) H) : rNeD K x y H Q := ⟨d, e, h1, h2, h3, h4, q⟩
theorem st_gtup {m : Nat} {g : TGs} {Q : L2.St → Hp → Prop} (h : H a = some (.tup xs)) (e : xs.length = m) (q : g xs σ H Q) : gTup K m g (.ref a) σ H Q := ⟨a, xs, rfl, SqT.of h, e, q⟩
theorem st_gcons {g : TG} {gs : TGs} {Q : L2.St → Hp → Prop} (h : g v σ H fun σ' H' => gs xs σ' H' Q) : gCons g gs (v :: xs) σ H Q := ⟨v, xs, rfl, h⟩
theorem st_gnil {Q : L2.St → Hp → Prop} (h : Q σ H) : gNil [] σ H Q := ⟨rfl, h⟩
theorem st_list {R : It → Hp → Prop} (h : te σ H fun x H1 => ∃ a, x = .ref a ∧ (∃ xs, SqL K H1 a xs) ∧ R (Itl K a) H1) : iList K te σ H R := h
theorem st_elist {P : Addr → Prop} (h : H a = some (.lst xs)) (q : P a) : ∃ a', V.ref a = .ref a' ∧ (∃ xs, SqL K H a' xs) ∧ P a' := ⟨a, rfl, ⟨xs, SqL.of h⟩, q⟩
theorem st_itup {R : It → Hp → Prop} (h : te σ H fun x H1 => ∃ a, x = .ref a ∧ (∃ xs, SqT K H1 a xs) ∧ R (Itt K a) H1) : iTup K te σ H R := h
theorem st_eitup {P : Addr → Prop} (h : H a = some (.tup xs)) (q : P a) : ∃ a', V.ref a = .ref a' ∧ (∃ xs, SqT K H a' xs) ∧ P a' := ⟨a, rfl, ⟨xs, SqT.of h⟩, q⟩
end
end Gh
end
section
namespace Gh
open PySem PySem.Spec PyProof.Rows L2
section
variable {X : Cx} {a b c d : Expr} {ta tb tc td : TE} {pos : Pos}
def tChain3 (r r' r2 : R2) (ta tb tc td : TE) : TE := fun σ H Q => ta σ H fun x H1 => tb σ H1 fun y H2 => r x y H2 fun z H3 => ∃ k, z = .bl k ∧
  (if k = true then tc σ H3 fun w H4 => r' y w H4 fun z' H5 => ∃ k', z' = .bl k' ∧ (if k' = true then td σ H5 fun v H6 => r2 w v H6 Q else Q (.bl false) H5) else Q (.bl false) H3)
theorem st_chain3 {σ : L2.St} {H : Hp} {Q : VK} {r r' r2 : R2} (h : ta σ H fun x H1 => tb σ H1 fun y H2 => r x y H2 fun z H3 => ∃ k, z = .bl k ∧
  (if k = true then tc σ H3 fun w H4 => r' y w H4 fun z' H5 => ∃ k', z' = .bl k' ∧ (if k' = true then td σ H5 fun v H6 => r2 w v H6 Q else Q (.bl false) H5) else Q (.bl false) H3)) : tChain3 r r' r2 ta tb tc td σ H Q := h
def gSl (to tl th : TE) : TG := fun v σ H Q => to σ H fun x H1 => tl σ H1 fun lo H2 => th σ H2 fun hi H3 => ∃ (l m : Addr) (i j : Int) (xs ys : List V), x = .ref l ∧ v = .ref m ∧ lo = .int i ∧ hi = .int j ∧ H3 l = some (.lst xs) ∧ H3 m = some (.lst ys) ∧ l ≠ m ∧ 0 ≤ i ∧ i ≤ j ∧ j ≤ xs.length ∧ xs.length + ys.length ≤ sizeLine ∧
  Q σ (upd H3 l (.lst (xs.take i.toNat ++ ys ++ xs.drop j.toNat)))
def rSlS (v x lo hi : V) (H : Hp) (P : Hp → Prop) : Prop := ∃ (l m : Addr) (i j : Int) (xs ys : List V), x = .ref l ∧ v = .ref m ∧ lo = .int i ∧ hi = .int j ∧ H l = some (.lst xs) ∧ H m = some (.lst ys) ∧ l ≠ m ∧ 0 ≤ i ∧ i ≤ j ∧ j ≤ xs.length ∧ xs.length + ys.length ≤ sizeLine ∧ P (upd H l (.lst (xs.take i.toNat ++ ys ++ xs.drop j.toNat)))
theorem st_gsl {σ : L2.St} {H : Hp} {v : V} {Q : L2.St → Hp → Prop} {to tl th : TE} (h : to σ H fun x H1 => tl σ H1 fun lo H2 => th σ H2 fun hi H3 => rSlS v x lo hi H3 fun H4 => Q σ H4) : gSl to tl th v σ H Q := h
end
def picks {α : Type} (l : List (Nat ⊕ Nat)) (its ws : List α) : List α := l.filterMap fun z => match z with
  | .inl i => ws[i]?
  | .inr j => its[j]?
theorem Vals.getO {zs : List V} {ws : List Value} (r : Vals zs ws) (i : Nat) : (zs[i]? = none ∧ ws[i]? = none) ∨ ∃ x v, zs[i]? = some x ∧ ws[i]? = some v ∧ RelV x v := by
  induction r generalizing i with
  | nil => exact .inl ⟨rfl, rfl⟩
  | cons h t ih =>
    cases i with
    | zero => exact .inr ⟨_, _, rfl, rfl, h⟩
    | succ i => exact ih i
theorem picks_rel (l : List (Nat ⊕ Nat)) {ds zs : List V} {its ws : List Value} (r1 : Vals ds its) (r2 : Vals zs ws) : Vals (picks l ds zs) (picks l its ws) := by
  induction l with
  | nil => exact .nil
  | cons z r ih =>
    unfold picks at ih ⊢
    rw [List.filterMap_cons, List.filterMap_cons]
    cases z with
    | inl i =>
      rcases Vals.getO r2 i with ⟨e1, e2⟩ | ⟨x, v, e1, e2, rv⟩
      · simp only [e1, e2]
        exact ih
      · simp only [e1, e2]
        exact .cons rv ih
    | inr j =>
      rcases Vals.getO r1 j with ⟨e1, e2⟩ | ⟨x, v, e1, e2, rv⟩
      · simp only [e1, e2]
        exact ih
      · simp only [e1, e2]
        exact .cons rv ih
section
variable {K : PySem.W.Frag} {x qual : Str} {params : Arguments} {body : List Stmt} {scope : Scope} {dvs : List V} {kws : List (Str × V)} {f : Addr} {fd : FuncData} {ps : List Str}
theorem FunD.kbN (F : FunD K x qual params body scope [] kws f fd) (n : Nat) (ks : List Str) (l : List (Nat ⊕ Nat))
    (h : ∀ (kV doc pm : Value) (an : Option Addr) (cdv ct : Value) (us ws : List Value), us.length = n → ws.length = ks.length → bindArgs (PySem.W.fnOf x qual params body scope .none kV doc pm an cdv ct) ⟨us, ks.zip ws⟩ = pure (ps.zip (us ++ picks l [] ws))) :
    KBn K fd ps n ks (fun us ws => us ++ picks l [] ws) (fun vs zs => vs ++ picks l [] zs) := by
  obtain ⟨oc, od, dV, kV, doc, pm, an, cdv, ct, osl, rfl, lk, hcd, hD, hK⟩ := F.ex
  rcases hD with ⟨_, rfl⟩ | ⟨e, _⟩
  · exact ⟨fun s us ws X l1 l2 => .of_eq (h kV doc pm an cdv ct us ws l1 l2), fun r1 r2 => r1.append (picks_rel l .nil r2)⟩
  · exact absurd rfl e
end
section
variable {X : Cx} {CX : CXT} {k n : Nat} {f C : Addr} {ks : List Str} {sp : Sp} {E : XK} {x m : Str} {p pos apos : Pos} {e o : Expr} {es : List Expr} {kws : List Keyword} {t tk : TA} {ta : TE} {gV : List V → List V → List V} {r : List V → List V → Hp → VK → Prop}
def rMkK (C : Addr) (n m : Nat) (gV : List V → List V → List V) (sp : Sp) (E : XK) : List V → List V → Hp → VK → Prop := fun vs zs H Q => vs.length = n ∧ zs.length = m ∧ rMk C (fun us H Q E => sp us H Q E) [] E (gV vs zs) H Q
theorem PromK.make (M : Mk X.K C f) (F : PromK X.prog X.w X.K X.mg X.base CX k f (n + 1) ks (fun vs zs => vs ++ gV [] zs) sp) (hr : Room (k + 1) X.A) (hx : Passes CX X E) : CallK X (.ref C) ks (rMkK C n ks.length (fun vs zs => vs ++ gV [] zs) sp E) := by
  intro pins s σ H vs zs us ws Q I rv rz ⟨l1, l2, h⟩
  obtain ⟨fd, ps, g, G, b⟩ := F
  refine run_makeN M G hr b hx I rv rz l1 l2 fun x dx nx ndx ne => ?_
  unfold rMk at h
  have z := h x dx nx ndx ne
  rw [List.append_nil] at z
  exact z
def tClK (r : List V → List V → Hp → VK → Prop) (t tk : TA) : TE := fun σ H Q => t σ H fun vs H1 => tk σ H1 fun zs H2 => r vs zs H2 Q
def tMtK (C : Addr) (m : Str) (r : List V → List V → Hp → VK → Prop) (ta : TE) (t tk : TA) : TE := fun σ H Q => ta σ H fun x H1 => ∃ a dx fs, x = .ref a ∧ H1 a = some (.ins C dx fs) ∧ fs.lookup m = none ∧ t σ H1 fun vs H2 => tk σ H2 fun zs H3 => r (x :: vs) zs H3 Q
theorem pe_mk0 {pl : Sem Bool} (he : PE X o ta) (c : Cls X.K C) (hm : Meth X.K C m f) (R : CallK X (.ref f) ks r) (hkw : PK X kws tk) (hall : (backToKw pos (keywordEach kws X.env)).all (·.1.isSome) = true := by rfl) (hks : (backToKw pos (keywordEach kws X.env)).filterMap (·.1) = ks := by rfl)
    (hpl : ((backTo pos (starEach [] X.env)).any (·.1) || (backToKw pos (keywordEach kws X.env)).any (·.1.isNone)) = false := by rfl)
    (ht : eval (.Call (.Attribute o m apos) [] kws pos) X.env = (do
      let ov ← eval o X.env
      standAt apos.atName
      let (f, first) ← holding [ov] (getMethod ov m pl)
      callWith pos f first (backTo pos (starEach [] X.env)) (backToKw pos (keywordEach kws X.env))) := by rfl) :
    PE X (.Call (.Attribute o m apos) [] kws pos) (tMtK C m r ta tNil tk) := by
  refine ⟨fun pins s σ H Q I h => ?_⟩
  refine PySem.W.methodCall_KW (pl := pl) (thn (he.run pins s σ H _ I h) fun u s1 ⟨x, H1, I1, rx, a, dx, fs, ex, ea, l, q⟩ => ?_) ht
  subst ex
  obtain rfl : u = Value.ref a := rx
  refine getmeth_ok I1 ea c hm l ?_
  refine PySem.W.callWith_KW0 (first := [.ref a]) (h₀ := X.base) I.ok.mod.kin hm.kp hall (thn (hkw.run pos pins s1 σ H1 _ I1 q) fun ws s3 ⟨zs, H3, I3, rz, q3⟩ => ⟨I3.kIn, ?_⟩) hpl
  rw [hks]
  exact R pins s3 σ H3 [.ref a] zs [.ref a] ws Q I3 (.cons rfl .nil) rz q3
end
section
variable {H : Hp} {σ : L2.St} {Q : VK} {ta : TE} {t tk : TA} {r : List V → List V → Hp → VK → Prop} {C : Addr} {m : Str} {n k : Nat} {gV : List V → List V → List V} {sp : Sp} {E : XK} {vs zs : List V}
theorem st_clK (h : t σ H fun vs H1 => tk σ H1 fun zs H2 => r vs zs H2 Q) : tClK r t tk σ H Q := h
theorem st_mtK (h : ta σ H fun x H1 => ∃ a dx fs, x = .ref a ∧ H1 a = some (.ins C dx fs) ∧ fs.lookup m = none ∧ t σ H1 fun vs H2 => tk σ H2 fun zs H3 => r (x :: vs) zs H3 Q) : tMtK C m r ta t tk σ H Q := h
theorem st_spK (h1 : vs.length = n) (h2 : zs.length = k) (h : rSp sp [] E (gV vs zs) H Q) : rSpK n k gV sp E vs zs H Q := ⟨h1, h2, by
  unfold rSp at h
  rw [List.append_nil] at h
  exact h⟩
end
end Gh
end
section
namespace Gh
open PySem PySem.Spec PyProof.Rows L2
theorem Fn.le {d : PyData} {n b n' b' : Nat} (h : Fn d n b) (h1 : n ≤ n') (h2 : b ≤ b') : Fn d n' b' := ⟨h.cl, h.sh, h.nd, h.ls, Nat.le_trans h.dp h1, Nat.le_trans h.bk h2⟩
theorem FnAll.each {n b : Nat} : ∀ {ds : List PyData}, (∀ d ∈ ds, Fn d n b) → FnAll ds n ((b + 1) * ds.length)
  | [], _ => FnAll.nil
  | d :: r, h => by
    have z := FnAll.cons (h d List.mem_cons_self) (FnAll.each fun e he => h e (List.mem_cons_of_mem _ he))
    have e : b + 1 + (b + 1) * r.length = (b + 1) * (d :: r).length := by
      rw [List.length_cons, Nat.mul_add, Nat.mul_one, Nat.add_comm]
    rw [e] at z
    exact z
theorem FnAll.ints {ns : List Int} (h : ∀ n ∈ ns, -(10 ^ 100) < n ∧ n < 10 ^ 100) : FnAll (ns.map PyData.int) 0 ns.length := by
  have z := FnAll.each (n := 0) (b := 0) (ds := ns.map PyData.int) fun d hd => by
    obtain ⟨n, hn, rfl⟩ := List.mem_map.mp hd
    exact Fn.int (h n hn).1 (h n hn).2
  rw [List.length_map, Nat.zero_add, Nat.one_mul] at z
  exact z
section
variable {K : PySem.W.Frag} {H : Hp} {a : Addr} {ns : List Int}
end
section
variable {H H' : Hp} {a l p c : Addr} {u : HO} {b : Nat}
theorem none_ne (n : H l = none) (h : H a = some u) : l ≠ a := fun e => by
  rw [← e, n] at h
  cases h
theorem none_pen (n : H l = none) (h : Pen H p c b) : l ≠ p := by
  obtain ⟨ns, i, z, h1, h2, h3⟩ := h
  exact none_ne n h1
theorem none_cell (n : H l = none) (h : Pen H p c b) : l ≠ c := by
  obtain ⟨ns, i, z, h1, h2, h3⟩ := h
  exact none_ne n h2
def Keep2 (H H' : Hp) (p t : Addr) : Prop := ∀ a o, H a = some o → a ≠ p → a ≠ t → H' a = some o
theorem keep2_up {t : Addr} (n : Keep2 H H' p t) (e : a ≠ p) (e' : a ≠ t) (h : H a = some u) : H' a = some u := n _ _ h e e'
theorem st_setO {C dx : Addr} {fs : List (Str × V)} {r : List V → Hp → VK → Prop} {i v : V} {Q : Hp → Prop} (h : H a = some (.ins C dx fs)) (q : r [.ref a, i, v] H fun _ H' => Q H') : rSetO C r (.ref a) i v H Q := by
  unfold rSetO
  exact ⟨a, dx, fs, rfl, h, q⟩
theorem st_ixO {C dx : Addr} {fs : List (Str × V)} {sp : Sp} {E : XK} {y : V} {Q : VK} (h : H a = some (.ins C dx fs)) (q : rSp sp [] E [.ref a, y] H Q) : rIxO C sp E (.ref a) y H Q := by
  unfold rIxO
  exact ⟨a, dx, fs, rfl, h, q⟩
end
section
variable {K : PySem.W.Frag} {H : Hp} {σ : L2.St} {Q : VK} {m : Nat} {tt : TT} {te tl : TE} {vs : List Nat} {t : TA} {a : Addr} {xs : List V}
def rLc (J : It) (m : Nat) (tt : TT) (te : TE) (vs : List Nat) (σ : L2.St) (H : Hp) (Q : VK) : Prop := ∀ D, H D = none → ∃ W : Nat → Nat → Hp → Prop, (∃ k, W 0 k (upd H D (.lst []))) ∧ ∀ i k H, W i k H →
  (J.stop i H ∧ Q (.ref D) H) ∨ (J.go i H ∧ ∃ Nx : Hp → Prop, (∀ H', Nx H' → ∃ k', k' < k ∧ W (i + 1) k' H') ∧ ∀ x H', J.yld i H x H' → gName m x (wipe σ vs) H' fun σ2 H2 => wipe σ2 vs = wipe σ vs ∧ tt σ2 H2 fun b H3 =>
    if b = true then te σ2 H3 fun y H4 => ∃ acc, H4 D = some (.lst acc) ∧ acc.length < sizeLine ∧ Nx (upd H4 D (.lst (acc ++ [y]))) else Nx H3)
theorem st_lcR1 (h : t σ H fun us H1 => ∃ j : Int, us = [.int j] ∧ -(2 ^ 62) ≤ j ∧ j < 2 ^ 62 ∧ rLc (Itr 0 j.toNat) m tt te vs σ H1 Q) : tLc (iRng1 t) (gName m) tt te vs σ H Q := h
theorem st_lcR2 (h : t σ H fun us H1 => ∃ i j : Int, us = [.int i, .int j] ∧ (-(2 ^ 62) ≤ i ∧ i < 2 ^ 62 ∧ -(2 ^ 62) ≤ j ∧ j < 2 ^ 62) ∧ rLc (Itr i (j - i).toNat) m tt te vs σ H1 Q) : tLc (iRng2 t) (gName m) tt te vs σ H Q := h
theorem st_lcL (h : tl σ H fun x H1 => ∃ a, x = .ref a ∧ (∃ xs, SqL K H1 a xs) ∧ rLc (Itl K a) m tt te vs σ H1 Q) : tLc (iList K tl) (gName m) tt te vs σ H Q := h
theorem st_lcT (h : tl σ H fun x H1 => ∃ a, x = .ref a ∧ (∃ xs, SqT K H1 a xs) ∧ rLc (Itt K a) m tt te vs σ H1 Q) : tLc (iTup K tl) (gName m) tt te vs σ H Q := h
theorem st_eR1 {j : Int} {P : Int → Prop} (h0 : -(2 ^ 62) ≤ j) (h1 : j < 2 ^ 62) (h : P j) : ∃ j', [V.int j] = [.int j'] ∧ -(2 ^ 62) ≤ j' ∧ j' < 2 ^ 62 ∧ P j' := ⟨j, rfl, h0, h1, h⟩
theorem st_eR2 {i j : Int} {P : Int → Int → Prop} (h0 : -(2 ^ 62) ≤ i ∧ i < 2 ^ 62 ∧ -(2 ^ 62) ≤ j ∧ j < 2 ^ 62) (h : P i j) : ∃ i' j', [V.int i, V.int j] = [.int i', .int j'] ∧ (-(2 ^ 62) ≤ i' ∧ i' < 2 ^ 62 ∧ -(2 ^ 62) ≤ j' ∧ j' < 2 ^ 62) ∧ P i' j' := ⟨i, j, rfl, h0, h⟩
theorem st_yes {Q : Bool → Hp → Prop} (h : Q true H) : tYes σ H Q := h
end
section
variable {H H' : Hp} {a l p c : Addr} {u : HO} {b : Nat}
theorem nw_pen' {H0 : Hp} {b0 : Nat} {o : HO} (_ : Pen H0 p c b0) (n : Nw H H' l o) (h : Pen H p c b) : l ≠ p := nw_pen n h
theorem nw_cell' {H0 : Hp} {b0 : Nat} {o : HO} (_ : Pen H0 p c b0) (n : Nw H H' l o) (h : Pen H p c b) : l ≠ c := nw_cell n h
theorem none_pen' {H0 : Hp} {b0 : Nat} (_ : Pen H0 p c b0) (n : H l = none) (h : Pen H p c b) : l ≠ p := none_pen n h
theorem none_cell' {H0 : Hp} {b0 : Nat} (_ : Pen H0 p c b0) (n : H l = none) (h : Pen H p c b) : l ≠ c := none_cell n h
theorem tup_pen' {H0 : Hp} {b0 : Nat} {xs : List V} (_ : Pen H0 p c b0) (n : H l = some (.tup xs)) (h : Pen H p c b) : l ≠ p := tup_pen n h
theorem tup_cell' {H0 : Hp} {b0 : Nat} {xs : List V} (_ : Pen H0 p c b0) (n : H l = some (.tup xs)) (h : Pen H p c b) : l ≠ c := tup_cell n h
theorem ins_pen' {H0 : Hp} {b0 : Nat} {C dx : Addr} {fs : List (Str × V)} (_ : Pen H0 p c b0) (n : H l = some (.ins C dx fs)) (h : Pen H p c b) : l ≠ p := ins_pen n h
theorem ins_cell' {H0 : Hp} {b0 : Nat} {C dx : Addr} {fs : List (Str × V)} (_ : Pen H0 p c b0) (n : H l = some (.ins C dx fs)) (h : Pen H p c b) : l ≠ c := ins_cell n h
end
section
variable {K : PySem.W.Frag} {H : Hp} {σ : L2.St} {D : Ends} {m : Nat} {g : TG} {tb : TS} {tl : TE} {t : TA} {a : Addr} {xs : List V}
def rFor (J : It) (g : TG) (tb : TS) (D : Ends) (σ : L2.St) (H : Hp) : Prop := ∃ W : Nat → Nat → L2.St → Hp → Prop, (∃ m, W 0 m σ H) ∧ ∀ i m σ H, W i m σ H →
  (J.stop i H ∧ D.nx σ H) ∨ (J.go i H ∧ ∃ N : L2.St → Hp → Prop, (∀ σ' H', N σ' H' → ∃ m', m' < m ∧ W (i + 1) m' σ' H') ∧ ∀ x H', J.yld i H x H' → g x σ H' fun σ2 H2 => tb { D with nx := N, ct := N, bk := D.nx } σ2 H2)
theorem st_forR1 (h : t σ H fun us H1 => ∃ j : Int, us = [.int j] ∧ -(2 ^ 62) ≤ j ∧ j < 2 ^ 62 ∧ rFor (Itr 0 j.toNat) g tb D σ H1) : tFor (iRng1 t) g tb D σ H := h
theorem st_forR2 (h : t σ H fun us H1 => ∃ i j : Int, us = [.int i, .int j] ∧ (-(2 ^ 62) ≤ i ∧ i < 2 ^ 62 ∧ -(2 ^ 62) ≤ j ∧ j < 2 ^ 62) ∧ rFor (Itr i (j - i).toNat) g tb D σ H1) : tFor (iRng2 t) g tb D σ H := h
theorem st_forL (h : tl σ H fun x H1 => ∃ a, x = .ref a ∧ (∃ xs, SqL K H1 a xs) ∧ rFor (Itl K a) g tb D σ H1) : tFor (iList K tl) g tb D σ H := h
theorem st_forT (h : tl σ H fun x H1 => ∃ a, x = .ref a ∧ (∃ xs, SqT K H1 a xs) ∧ rFor (Itt K a) g tb D σ H1) : tFor (iTup K tl) g tb D σ H := h
theorem st_forE (h : t σ H fun us H1 => ∃ a xs, us = [.ref a] ∧ SqL K H1 a xs ∧ rFor (Ite K a) g tb D σ H1) : tFor (iEnum K t) g tb D σ H := h
theorem st_eE {P : Addr → Prop} (h : H a = some (.lst xs)) (q : P a) : ∃ a' xs, [V.ref a] = [.ref a'] ∧ SqL K H a' xs ∧ P a' := ⟨a, xs, rfl, SqL.of h, q⟩
end
section
end
end Gh
end
section
namespace Gh
open PySem PySem.Spec PyProof.Rows L2
section
variable {H H' : Hp} {a l p c t : Addr} {o u : HO} {b : Nat} {xs : List V} {T : List (Addr × Str)} {C dx : Addr} {fs : List (Str × V)}
theorem tabs_keepP (n : Keep H H' p) (pn : Pen H p c b) (h : LamX.Tabs T H) : LamX.Tabs T H' := by
  obtain ⟨ns, i, z, h1, h2, h3⟩ := pn
  exact tabs_keepL n h1 h
theorem tabs_muI (n : Mu H H' l o) (e : H l = some (.ins C dx fs)) (h : LamX.Tabs T H) : LamX.Tabs T H' :=
  tabs_of h (fun a ps q => n.up (ne_of q e (by intro z; cases z)) q) (fun a c q z => n.up (ne_of z e (by intro y; unfold LamX.CodeO at y; cases y)) z)
theorem keep_fr (n : Keep H H' p) : Fr H H' p := fun a o h e _ => n a o h e
end
section
variable {X : Cx} {H : Hp} {σ : L2.St} {Q : VK} {T : List (Addr × Str)} {TT : (XK → Hp → VK → Prop) → Hp → VK → Prop} {t : XK → TE}
end
end Gh
end
section
namespace Gh
open PySem PySem.Spec PyProof.Rows L2
section
variable {X : Cx} {CX : CXT} {k : Nat} {C f : Addr} {sp : Sp} {E : XK} {r : List V → Hp → VK → Prop}
theorem promO_in1 {pins : List (Addr × Obj)} {s : Shared} {σ : L2.St} {H : Hp} {vs : List V} {us : List Value} {Q : VK} (F : PromOX X CX k f [] sp) (hr : Room (k + 1) X.A) (hx : Passes CX X E) (I : Inv X pins σ H s) (rv : Vals vs us) (h : sp vs H Q E) :
    wpAny (model X.prog X.w) X.A.in1 (call (.ref f) us) (EP X pins σ Q) X.xe s := by
  refine wpAny_call (codeAny_mono ((PromO.raw F) X.A.in1 X.stack s H us vs Q E hr.in1 I.env0.in1 rv h) fun r s' hq => ?_)
  cases r with
  | error e => exact hx pins σ H s e s' I hq
  | ok fl =>
    cases fl with
    | ret u => exact I.after hq
    | next => exact False.elim hq
    | brk => exact False.elim hq
    | cont => exact False.elim hq
@[irreducible] def rEqO (K : PySem.W.Frag) (C : Addr) (r : List V → Hp → VK → Prop) : R2 := fun x y H Q => ∃ a dx fs tb, x = .ref a ∧ H a = some (.ins C dx fs) ∧ TyX K H y tb ∧ PySem.W.notFirst K C tb = true ∧ r [x, y] H Q
theorem op_eqO {K : PySem.W.Frag} (hK : X.K = K) (hm : Meth X.K C "__eq__" f) (hu : X.A.units < cLine) (R : CallR X (.ref f) r) : OpR X (compareOp .Eq) (rEqO K C r) := by
  subst hK
  intro pins s σ H x y v u Q I rx ry h
  unfold rEqO at h
  obtain ⟨a, dx, fs, tb, rfl, ha, ty, hn, q⟩ := h
  cases (show v = Value.ref a from rx)
  obtain ⟨ox, od, J⟩ := ins_look I ha
  obtain ⟨m, hF⟩ := I.fr
  obtain ⟨P, Z, p, hx⟩ := kit_of I ry ty
  refine PySem.W.cmp_K (op := .Eq) (tb := tb) hu hF I.ok.mod.kin J (Z.ty _ _ I.kIn p) hn hm.at_ hm.fn ?_
  exact wpAny_mono (R pins s σ H [.ref a, y] [.ref a, u] Q I (.cons rfl (.cons ry .nil)) q) (fun w s' z => cmp_back z) fun _ _ x => x
structure NfT (K : PySem.W.Frag) (C : Addr) : Prop where
  ok : ∀ n ∈ (["NoneType", "bool", "int", "str", "list", "tuple", "dict"] : List String), PySem.W.notFirst K C (.type n) = true
  me : PySem.W.notFirst K C (.ref C) = true
theorem nfB_ok {x : Str} {K : PySem.W.Frag} (h : nfB x K = true) : NfT K (gd x K) := ⟨fun n hn => List.all_eq_true.mp h n hn, by
  unfold PySem.W.notFirst
  simp⟩
end
end Gh
end
section
namespace Gh
open PySem PySem.Spec PyProof.Rows L2
section
variable {prog : Program} {w : World} {A : Around} {E : Value → Shared → Prop} {s : Shared} {K : PySem.W.Frag} {x C f L : Addr} {h₀ : Heap} {m : Str → Option Value} {ox : Obj} {od : Option Obj} {b tb : Value}
open PySem.W in
theorem ifBoundB_K {M : Model} {name : Str} {id : String} {args : List Value} {Q : Option Value → Shared → Prop} (X : K.In s.heap) (I : InstAt s.heap x ox C od) (hs : findIn K (.ref C) name = some (some (.builtin id))) (hb : ∀ self, bindSpecial (.builtin id) self = pure (.builtin id, [self]))
    (h : wpAny M A (call (.builtin id) (.ref x :: args)) (fun v => Q (some v)) E s) : wpAny M A (callSpecialIfBound? (.ref x) name args) Q E s := by
  simp only [callSpecialIfBound?, bindSpecialIfBound?]
  refine wpAny_holding (wpAny_bind (wpAny_bind (wpAny_bind (I.type.here ((looks_findIn X hs).here ?_)))))
  refine wpAny_bind (wpAny_askSetting (wpAny_ite ?_))
  have fin : wpAny M A (call (.builtin id) ([.ref x] ++ args) >>= fun v => pure (some v)) Q E s := wpAny_bind (wpAny_mono h (fun v s' h' => wpAny_pure h') fun _ _ h' => h')
  simp only [hb]
  split
  · exact wpAny_bind (wpAny_pure (wpAny_pure fin))
  · exact wpAny_tryCatch (wpAny_bind (wpAny_pure (wpAny_pure fin)))
open PySem.W in
theorem ne_K {Q : Value → Shared → Prop} (hu : A.units + 1 < cLine) (F : PyProof.Rows.Fr h₀ L s.heap m) (X₀ : K.In h₀) (I : InstAt s.heap x ox C od) (hb : Looks (model prog w) s.heap (typeOf b) tb) (hn : notFirst K C tb = true)
    (h1 : findIn K (.ref C) "__ne__" = some (some (.builtin "object.__ne__"))) (ho : subIn K (.ref C) (.type "object") = some true) (h2 : findIn K (.ref C) "__eq__" = some (some (.ref f))) (hf : isFn K (.ref f) = true)
    (h : wpAny (model prog w) A.in1 (call (.ref f) [.ref x, b]) (fun v s' => ∃ k, v = .bool k ∧ Q (.bool (!k)) s') E s) : wpAny (model prog w) A (richCompare .NotEq (.ref x) b) Q E s := by
  have X := X₀.keeps F.keep
  have one : wpAny (model prog w) A (tryCompare (.ref x) "__ne__" b) (fun r s' => ∃ v, r = some v ∧ Q v s') E s := by
    simp only [tryCompare]
    refine wpAny_bind (ifBoundB_K X I h1 (fun _ => rfl) (wpAny_call (codeAny_call_builtin (by decide +kernel) PySem.F.cmpEntry_ne
      (@check_slot (model prog w) _ _ s "object.__ne__" "object" "__ne__" (.ref x) [b] [] _ PySem.F.cmpKind_ne PySem.F.cmpSplit_ne (I.type.andThen (looks_subIn X ho)) (PySem.F.cmpArgs_ne _ _) ?_))))
    unfold Builtin.«object.__ne__»
    refine wpAny_bind (m := slotArgs "__ne__" 1 _) (wpAny_pure ?_)
    refine wpAny_bind (wpAny_cRoomFor (show A.in1.units < cLine by show A.units + 1 < cLine; exact hu) ?_)
    refine wpAny_bind (ifBound_K X I h2 hf (wpAny_mono h (fun v s' hv => ?_) fun _ _ e => e))
    obtain ⟨k, rfl, hq⟩ := hv
    exact wpAny_bind (wpAny_truthy_bool (wpAny_pure (wpAny_pure ⟨_, rfl, hq⟩)))
  unfold richCompare
  simp only [oneThing_ref]
  refine wpAny_holding (wpAny_bind (wpAny_cRoomFor (Nat.lt_of_succ_lt hu) ?_))
  refine wpAny_bind (I.type.here (wpAny_bind (hb.here ?_)))
  split
  · rename_i q
    have e : subIn K tb (.ref C) = some false := by
      rcases Bool.or_eq_true_iff.mp hn with e | e
      · rw [beq_iff_eq.mp e] at q; simp at q
      · exact beq_iff_eq.mp e
    refine wpAny_bind ((looks_subIn X e).here ?_)
    simp only [Bool.false_eq_true, if_false]
    refine wpAny_bind (wpAny_mono one (fun r s' z => ?_) fun _ _ e => e)
    obtain ⟨v, rfl, hq⟩ := z
    exact wpAny_pure hq
  · refine wpAny_bind (wpAny_pure ?_)
    simp only [Bool.false_eq_true, if_false]
    refine wpAny_bind (wpAny_mono one (fun r s' z => ?_) fun _ _ e => e)
    obtain ⟨v, rfl, hq⟩ := z
    exact wpAny_pure hq
end
section
variable {X : Cx} {CX : CXT} {k : Nat} {C f : Addr} {sp : Sp} {E : XK}
structure NeT (K : PySem.W.Frag) (C : Addr) : Prop where
  ne : PySem.W.findIn K (.ref C) "__ne__" = some (some (.builtin "object.__ne__"))
  ob : PySem.W.subIn K (.ref C) (.type "object") = some true
theorem neB_ok {x : Str} {K : PySem.W.Frag} (h : neB x K = true) : NeT K (gd x K) := by
  obtain ⟨h1, h2⟩ := He.ba h
  exact ⟨He.eqO_ok h1, of_decide_eq_true h2⟩
@[irreducible] def rNeO (K : PySem.W.Frag) (C : Addr) (sp : Sp) (E : XK) : R2 := fun x y H Q => ∃ a dx fs tb, x = .ref a ∧ H a = some (.ins C dx fs) ∧ TyX K H y tb ∧ PySem.W.notFirst K C tb = true ∧ sp [x, y] H (fun v H' => ∃ b, v = .bl b ∧ Q (.bl (!b)) H') E
theorem op_neO {K : PySem.W.Frag} (hK : X.K = K) (hm : Meth X.K C "__eq__" f) (hn : NeT X.K C) (F : PromOX X CX k f [] sp) (hr : Room (k + 1) X.A) (hx : Passes CX X E) : OpR X (compareOp .NotEq) (rNeO K C sp E) := by
  subst hK
  intro pins s σ H x y v u Q I rx ry h
  unfold rNeO at h
  obtain ⟨a, dx, fs, tb, rfl, ha, ty, nf, q⟩ := h
  cases (show v = Value.ref a from rx)
  obtain ⟨ox, od, J⟩ := ins_look I ha
  obtain ⟨m, hF⟩ := I.fr
  obtain ⟨P, Z, p, hx'⟩ := kit_of I ry ty
  refine ne_K (b := u) (tb := tb) (by have := hr.un; omega) hF I.ok.mod.kin J (Z.ty _ _ I.kIn p) nf hn.ne hn.ob hm.at_ hm.fn (wpAny_mono (promO_in1 (vs := [.ref a, y]) F hr hx I (.cons rfl (.cons ry .nil)) q) (fun w s' z => ?_) fun _ _ x => x)
  obtain ⟨v', H', I', rv', b, rfl, q'⟩ := z
  cases (show w = Value.bool b from rv')
  exact ⟨b, rfl, .bl (!b), H', I', rfl, q'⟩
end
end Gh
end
section
namespace Gh
open PySem PySem.Spec PyProof.Rows L2 GenW
def loopEx (env : Env) (e : Value) : Sem PySem.Fin := (do noteFrame e env; theTreesLotGoes e : Sem Unit).wrap (fun _ => .raise e) .raise id id
section
variable {prog : Program} {w : World} {A : Around} {R : GenEnd} {Y : Protocol} {n : Nat} {s₀ : Shared} {fs : List Frame} {s : Shared} {env : Env}
end
section
variable {X : Cx}
end
end Gh
end
section
namespace Gh
open PySem PySem.Spec PyProof.Rows L2
section
variable {K : PySem.W.Frag} {H : Hp} {Q : VK} {a C dx : Addr} {fs : List (Str × V)} {sp : Sp} {E : XK} {r : List V → Hp → VK → Prop} {x y : V} {tb : Value}
theorem st_eqO (h : H a = some (.ins C dx fs)) (ty : TyX K H y tb) (nf : PySem.W.notFirst K C tb = true) (q : r [.ref a, y] H Q) : rEqO K C r (.ref a) y H Q := by
  unfold rEqO
  exact ⟨a, dx, fs, tb, rfl, h, ty, nf, q⟩
theorem st_neO (h : H a = some (.ins C dx fs)) (ty : TyX K H y tb) (nf : PySem.W.notFirst K C tb = true) (q : rSp sp [] E [.ref a, y] H (fun v H' => ∃ b, v = .bl b ∧ Q (.bl (!b)) H')) : rNeO K C sp E (.ref a) y H Q := by
  unfold rNeO
  exact ⟨a, dx, fs, tb, rfl, h, ty, nf, q⟩
end
end Gh
end
section
namespace Gp
open PySem PySem.Spec PyProof.Rows L2 Gh
section
variable {α β γ : Type}
theorem al_bd {P : β → Nat → Prop} {E : Str → Fs → Nat → Prop} {m : Tr α} {k : α → Tr β} {b : Nat} : Al P E (bd m k) b ↔ Al (fun a b1 => Al P E (k a) b1) E m b := by
  induction m generalizing b with
  | draw m f ih =>
    constructor
    · rintro ⟨b', e, h1, h2, h3⟩
      exact ⟨b', e, h1, h2, fun d d0 d1 => (ih d).mp (h3 d d0 d1)⟩
    · rintro ⟨b', e, h1, h2, h3⟩
      exact ⟨b', e, h1, h2, fun d d0 d1 => (ih d).mpr (h3 d d0 d1)⟩
  | _ => exact Iff.rfl
theorem al_nox {P : α → Nat → Prop} {E E' : Str → Fs → Nat → Prop} {m : Tr α} {b : Nat} (h : Al P E (nox m) b) : Al P E' m b := by
  induction m generalizing b with
  | ok a => exact h
  | ex c fs => exact h.elim
  | bad => exact h
  | draw m f ih =>
    obtain ⟨b', e, h1, h2, h3⟩ := h
    exact ⟨b', e, h1, h2, fun d d0 d1 => ih d (h3 d d0 d1)⟩
end
section
variable {g : Gw} {U U' : Addr → Prop} {H H' : Hp}
theorem DenL.get : ∀ {vs : List V} {ds : List D} {i : Nat} {v : V}, DenL g U H vs ds → vs[i]? = some v → ∃ d, ds[i]? = some d ∧ Den g U H v d
  | _, _, i, v, .nil, e => by simp at e
  | _, _, 0, v, .cons a r, e => by simp at e; subst e; exact ⟨_, rfl, a⟩
  | _, _, i + 1, v, .cons a r, e => by
    obtain ⟨d, h1, h2⟩ := DenL.get (i := i) (v := v) r (by simpa using e)
    exact ⟨d, by simpa using h1, h2⟩
theorem DenL.take : ∀ {vs : List V} {ds : List D} (n : Nat), DenL g U H vs ds → DenL g U H (vs.take n) (ds.take n)
  | _, _, 0, _ => .nil
  | _, _, _ + 1, .nil => .nil
  | _, _, n + 1, .cons a r => .cons a (DenL.take n r)
theorem DenL.drop : ∀ {vs : List V} {ds : List D} (n : Nat), DenL g U H vs ds → DenL g U H (vs.drop n) (ds.drop n)
  | _, _, 0, r => r
  | _, _, _ + 1, .nil => .nil
  | _, _, n + 1, .cons a r => DenL.drop n r
theorem DenL.ints : ∀ ns : List Int, DenL g U H (ns.map V.int) (ns.map D.int)
  | [] => .nil
  | n :: r => .cons (.int n) (DenL.ints r)
theorem DenF.look0 : ∀ {vs : List (Str × V)} {ds : List (Str × D)} {n : Str}, DenF g U H vs ds → ds.lookup n = none → vs.lookup n = none
  | _, _, _, .nil, _ => rfl
  | _, _, n, .cons (n := m) a r, e => by
    simp only [List.lookup] at e ⊢
    cases q : (n == m) with
    | true => rw [q] at e; cases e
    | false => rw [q] at e; exact DenF.look0 r e
theorem DenF.put {f : Str} {v : V} {d : D} (h : Den g U H v d) : ∀ {vs : List (Str × V)} {ds : List (Str × D)}, DenF g U H vs ds → DenF g U H (putF f v vs) (putD f d ds)
  | _, _, .nil => .cons h .nil
  | _, _, .cons (n := m) a r => by
    unfold putF putD
    split
    · exact .cons h r
    · exact .cons a (DenF.put h r)
end
section
variable {g : Gw} {U U' : Addr → Prop} {H H' H1 H2 : Hp} {b : Nat}
end
instance : Coe (List D) Ow := ⟨.l⟩
theorem OwR.nt {g : Gw} {U : Addr → Prop} {H : Hp} {o : HO} {x : Ow} (h : OwR g U H o x) : Nt o := ⟨h.tbl, fun ps e => by
  rcases h.no with ⟨vs, z⟩ | ⟨vs, z⟩ | ⟨vs, z⟩ <;> (rw [e] at z; cases z)⟩
section
variable {g : Gw} {U U' : Addr → Prop} {H H' H1 H2 : Hp} {b : Nat} {σ : L2.St} {ε : Env}
def okL (g : Gw) (U : Addr → Prop) (H : Hp) (Q : List V → Hp → Prop) : List D → Nat → Prop := fun d b => ∀ v H', DenL g U H' v d → Wd g H' b → Fr H H' g.p → Q v H'
def okB (g : Gw) (U : Addr → Prop) (H : Hp) (Q : Bool → Hp → Prop) : Bool → Nat → Prop := fun d b => ∀ H', Wd g H' b → Fr H H' g.p → Q d H'
def SE (g : Gw) (E : XK) (ε : Env) (t : TE) (m : Tr D) : Prop := ∀ U σ H b Q, Rel g U H σ ε → Wd g H b → UOk g U H → Al (okP g U H Q) (exP g U E H) m b → t σ H Q
def SA (g : Gw) (E : XK) (ε : Env) (t : TA) (m : Tr (List D)) : Prop := ∀ U σ H b Q, Rel g U H σ ε → Wd g H b → UOk g U H → Al (okL g U H Q) (exP g U E H) m b → t σ H Q
def ST (g : Gw) (E : XK) (ε : Env) (t : TT) (m : Tr Bool) : Prop := ∀ U σ H b Q, Rel g U H σ ε → Wd g H b → UOk g U H → Al (okB g U H Q) (exP g U E H) m b → t σ H Q
def SR1 (g : Gw) (E : XK) (r : V → Hp → VK → Prop) (f : D → Tr D) : Prop := ∀ U H b x dx Q, Den g U H x dx → Wd g H b → UOk g U H → Al (okP g U H Q) (exP g U E H) (f dx) b → r x H Q
def SR2 (g : Gw) (E : XK) (r : R2) (f : D → D → Tr D) : Prop := ∀ U H b x y dx dy Q, Den g U H x dx → Den g U H y dy → Wd g H b → UOk g U H → Al (okP g U H Q) (exP g U E H) (f dx dy) b → r x y H Q
def SRL (g : Gw) (E : XK) (r : List V → Hp → VK → Prop) (f : List D → Tr D) : Prop := ∀ U H b xs dxs Q, DenL g U H xs dxs → Wd g H b → UOk g U H → Al (okP g U H Q) (exP g U E H) (f dxs) b → r xs H Q
theorem al_frX {α : Type} {E : XK} {P : α → Nat → Prop} {m : Tr α} (f : Fr H H1 g.p) (h : Al P (exP g U E H) m b) : Al P (exP g U E H1) m b := h.mono (fun _ _ h => h) (fun _ _ _ h => h.fr f)
variable {E : XK} {ta tb tc : TE} {ma mb : Tr D}
theorem SE.step {α : Type} {k : D → Tr α} {P : α → Nat → Prop} {Q : VK} (ha : SE g E ε ta ma) (R : Rel g U H σ ε) (W : Wd g H b) (u : UOk g U H) (h : Al P (exP g U E H) (bd ma k) b)
    (hk : ∀ v d H1 b1, Den g U H1 v d → Wd g H1 b1 → Fr H H1 g.p → Rel g U H1 σ ε → UOk g U H1 → Al P (exP g U E H1) (k d) b1 → Q v H1) : ta σ H Q :=
  ha U σ H b Q R W u ((al_bd.mp h).mono (fun d b1 h1 v H1 d1 w1 f1 => hk v d H1 b1 d1 w1 f1 (R.fr u f1) (u.fr f1 w1) (al_frX f1 h1)) (fun _ _ _ h => h))
theorem SA.step {α : Type} {t : TA} {m : Tr (List D)} {k : List D → Tr α} {P : α → Nat → Prop} {Q : List V → Hp → Prop} (ha : SA g E ε t m) (R : Rel g U H σ ε) (W : Wd g H b) (u : UOk g U H) (h : Al P (exP g U E H) (bd m k) b)
    (hk : ∀ v d H1 b1, DenL g U H1 v d → Wd g H1 b1 → Fr H H1 g.p → Rel g U H1 σ ε → UOk g U H1 → Al P (exP g U E H1) (k d) b1 → Q v H1) : t σ H Q :=
  ha U σ H b Q R W u ((al_bd.mp h).mono (fun d b1 h1 v H1 d1 w1 f1 => hk v d H1 b1 d1 w1 f1 (R.fr u f1) (u.fr f1 w1) (al_frX f1 h1)) (fun _ _ _ h => h))
theorem ST.step {α : Type} {t : TT} {m : Tr Bool} {k : Bool → Tr α} {P : α → Nat → Prop} {Q : Bool → Hp → Prop} (ha : ST g E ε t m) (R : Rel g U H σ ε) (W : Wd g H b) (u : UOk g U H) (h : Al P (exP g U E H) (bd m k) b)
    (hk : ∀ d H1 b1, Wd g H1 b1 → Fr H H1 g.p → Rel g U H1 σ ε → UOk g U H1 → Al P (exP g U E H1) (k d) b1 → Q d H1) : t σ H Q :=
  ha U σ H b Q R W u ((al_bd.mp h).mono (fun d b1 h1 H1 w1 f1 => hk d H1 b1 w1 f1 (R.fr u f1) (u.fr f1 w1) (al_frX f1 h1)) (fun _ _ _ h => h))
theorem se_var {i : Nat} {d : D} (h : ε[i]? = some (.fz d) := by rfl) : SE g E ε (tVar i) (.ok d) := fun U σ H b Q R W u q => by
  obtain ⟨o, e, v, rfl, dn⟩ := R.at_ i _ h
  exact ⟨v, e, okP.here q W dn⟩
theorem se_c {v : V} {d : D} (h : ∀ U H, Den g U H v d) : SE g E ε (tC v) (.ok d) := fun U σ H b Q R W u q => okP.here q W (h U H)
theorem se_int {i : Int} : SE g E ε (tC (.int i)) (.ok (.int i)) := se_c fun _ _ => .int i
theorem se_bl {i : Bool} : SE g E ε (tC (.bl i)) (.ok (.bl i)) := se_c fun _ _ => .bl i
theorem se_non : SE g E ε (tC .non) (.ok .non) := se_c fun _ _ => .non
theorem se_str {x : Str} (h : x.length ≤ sizeLine) : SE g E ε (tC (.str x)) (.ok (.str x)) := se_c fun _ _ => .str x h
theorem se_op {r : R2} {f : D → D → Tr D} (hr : SR2 g E r f) (ha : SE g E ε ta ma) (hb : SE g E ε tb mb) : SE g E ε (tOp r ta tb) (bd ma fun x => bd mb fun y => f x y) := fun U σ H b Q R W u q =>
  ha.step R W u q fun v d H1 b1 d1 w1 f1 R1 u1 q1 => hb.step R1 w1 u1 q1 fun v2 e H2 b2 d2 w2 f2 R2 u2 q2 => hr U H2 b2 v v2 d e Q (d1.fr u1 f2) d2 w2 u2 (q2.mono (fun _ _ h => h.fr (f1.trans f2)) (fun _ _ _ h => h))
theorem se_un {r : V → Hp → VK → Prop} {f : D → Tr D} (hr : SR1 g E r f) (ha : SE g E ε ta ma) : SE g E ε (tUn r ta) (bd ma f) := fun U σ H b Q R W u q =>
  ha.step R W u q fun v d H1 b1 d1 w1 f1 R1 u1 q1 => hr U H1 b1 v d Q d1 w1 u1 (q1.mono (fun _ _ h => h.fr f1) (fun _ _ _ h => h))
theorem sa_nil : SA g E ε tNil (.ok []) := fun U σ H b Q R W u q => q [] H .nil W Fr.refl
theorem sa_cons {t : TA} {m : Tr (List D)} (ha : SE g E ε ta ma) (hb : SA g E ε t m) : SA g E ε (tCons ta t) (bd ma fun x => bd m fun xs => .ok (x :: xs)) := fun U σ H b Q R W u q =>
  ha.step R W u q fun v d H1 b1 d1 w1 f1 R1 u1 q1 => hb.step R1 w1 u1 q1 fun v2 e H2 b2 d2 w2 f2 R2 u2 q2 => q2 (v :: v2) H2 (.cons (d1.fr u1 f2) d2) w2 (f1.trans f2)
theorem se_cl {r : List V → Hp → VK → Prop} {f : List D → Tr D} {t : TA} {m : Tr (List D)} (hr : SRL g E r f) (ha : SA g E ε t m) : SE g E ε (tCl r t) (bd m f) := fun U σ H b Q R W u q =>
  ha.step R W u q fun v d H1 b1 d1 w1 f1 R1 u1 q1 => hr U H1 b1 v d Q d1 w1 u1 (q1.mono (fun _ _ h => h.fr f1) (fun _ _ _ h => h))
theorem se_cb {r : List V → Hp → VK → Prop} {f : List D → Tr D} {t : TA} {m : Tr (List D)} (hr : SRL g E r f) (ha : SA g E ε t m) : SE g E ε (tCB r t) (bd m f) := se_cl hr ha
theorem al_asB {P : Bool → Nat → Prop} {X : Str → Fs → Nat → Prop} {d : D} (h : Al P X (asB d) b) : ∃ k, d = .bl k ∧ P k b := by
  cases d with
  | bl k => exact ⟨k, rfl, h⟩
  | _ => exact h.elim
theorem al_asBk {α : Type} {P : α → Nat → Prop} {X : Str → Fs → Nat → Prop} {d : D} {k : Bool → Tr α} (h : Al P X (bd (asB d) k) b) : ∃ c, d = .bl c ∧ Al P X (k c) b := al_asB (al_bd.mp h)
theorem den_bl {v : V} {k : Bool} (h : Den g U H v (.bl k)) : v = .bl k := by cases h; rfl
theorem sb_tst (ha : SE g E ε ta ma) : ST g E ε (tTest ta) (bd ma asB) := fun U σ H b Q R W u q =>
  ha.step R W u q fun v d H1 b1 d1 w1 f1 R1 u1 q1 => by
    obtain ⟨k, rfl, q2⟩ := al_asB q1
    exact ⟨k, den_bl d1, q2 H1 w1 f1⟩
theorem sb_tb (ha : SE g E ε ta ma) : ST g E ε (tB ta) (bd ma asB) := sb_tst ha
theorem sb_and {c d : TT} {m n : Tr Bool} (ha : ST g E ε c m) (hb : ST g E ε d n) : ST g E ε (tAnd c d) (bd m fun k => if k = true then n else .ok false) := fun U σ H b Q R W u q =>
  ha.step R W u q fun k H1 b1 w1 f1 R1 u1 q1 => by
    cases k with
    | true => exact hb U σ H1 b1 Q R1 w1 u1 (q1.mono (fun _ _ h H' w f => h H' w (f1.trans f)) (fun _ _ _ h => h))
    | false => exact q1 H1 w1 f1
theorem sb_or {c d : TT} {m n : Tr Bool} (ha : ST g E ε c m) (hb : ST g E ε d n) : ST g E ε (tOr c d) (bd m fun k => if k = true then .ok true else n) := fun U σ H b Q R W u q =>
  ha.step R W u q fun k H1 b1 w1 f1 R1 u1 q1 => by
    cases k with
    | false => exact hb U σ H1 b1 Q R1 w1 u1 (q1.mono (fun _ _ h H' w f => h H' w (f1.trans f)) (fun _ _ _ h => h))
    | true => exact q1 H1 w1 f1
theorem sb_not {c : TT} {m : Tr Bool} (ha : ST g E ε c m) : ST g E ε (tNot c) (bd m fun k => .ok (!k)) := fun U σ H b Q R W u q =>
  ha.step R W u q fun k H1 b1 w1 f1 R1 u1 q1 => q1 H1 w1 f1
theorem se_if {c : TT} {m : Tr Bool} (hc : ST g E ε c m) (ha : SE g E ε ta ma) (hb : SE g E ε tb mb) : SE g E ε (tIf c ta tb) (bd m fun k => if k = true then ma else mb) := fun U σ H b Q R W u q =>
  hc.step R W u q fun k H1 b1 w1 f1 R1 u1 q1 => by
    have q2 := q1.mono (P' := okP g U H1 Q) (fun _ _ h => okP.fr f1 h) (fun _ _ _ h => h)
    cases k with
    | true => exact ha U σ H1 b1 Q R1 w1 u1 q2
    | false => exact hb U σ H1 b1 Q R1 w1 u1 q2
theorem se_andV (ha : SE g E ε ta ma) (hb : SE g E ε tb mb) : SE g E ε (tAndV ta tb) (bd (bd ma asB) fun k => if k = true then mb else .ok (.bl false)) := fun U σ H b Q R W u q => by
  rw [bd_bd] at q
  refine ha.step R W u q fun v d H1 b1 d1 w1 f1 R1 u1 q1 => ?_
  obtain ⟨k, rfl, q2⟩ := al_asBk q1
  refine ⟨k, den_bl d1, ?_⟩
  replace q2 := q2.mono (P' := okP g U H1 Q) (fun _ _ h => okP.fr f1 h) (fun _ _ _ h => h)
  cases k with
  | true => exact hb U σ H1 b1 Q R1 w1 u1 q2
  | false => exact okP.here q2 w1 (.bl false)
theorem se_notV (ha : SE g E ε ta ma) : SE g E ε (tNotV ta) (bd (bd ma asB) fun k => .ok (.bl (!k))) := fun U σ H b Q R W u q => by
  rw [bd_bd] at q
  refine ha.step R W u q fun v d H1 b1 d1 w1 f1 R1 u1 q1 => ?_
  obtain ⟨k, rfl, q2⟩ := al_asBk q1
  exact ⟨k, den_bl d1, q2 _ H1 (.bl (!k)) w1 f1⟩
theorem se_chain {r r' : R2} {f f' : D → D → Tr D} {mc : Tr D} (hr : SR2 g E r f) (hr' : SR2 g E r' f') (ha : SE g E ε ta ma) (hb : SE g E ε tb mb) (hc : SE g E ε tc mc) :
    SE g E ε (tChain r r' ta tb tc) (bd ma fun x => bd mb fun y => bd (bd (f x y) asB) fun k => if k = true then bd mc fun z => f' y z else .ok (.bl false)) := fun U σ H b Q R W u q =>
  ha.step R W u q fun v d H1 b1 d1 w1 f1 R1 u1 q1 => hb.step R1 w1 u1 q1 fun v2 e H2 b2 d2 w2 f2 R2 u2 q2 => by
    rw [bd_bd] at q2
    refine hr U H2 b2 v v2 d e _ (d1.fr u1 f2) d2 w2 u2 ((al_bd.mp q2).mono (fun z b3 h3 v3 H3 d3 w3 f3 => ?_) (fun _ _ _ h => h))
    obtain ⟨k, rfl, q3⟩ := al_asBk h3
    refine ⟨k, den_bl d3, ?_⟩
    have q4 := q3.mono (P' := okP g U H3 Q) (E' := exP g U E H3) (fun _ _ h => okP.fr ((f1.trans f2).trans f3) h) (fun _ _ _ h => h.fr f3)
    cases k with
    | false => exact okP.here q4 w3 (.bl false)
    | true =>
      refine hc.step (R2.fr u2 f3) w3 (u2.fr f3 w3) q4 fun v4 z H4 b4 d4 w4 f4 R4 u4 q5 => ?_
      exact hr' U H4 b4 v2 v4 e z Q (d2.fr u2 (f3.trans f4)) d4 w4 u4 (q5.mono (fun _ _ h => h.fr f4) (fun _ _ _ h => h))
theorem se_lst {t : TA} {m : Tr (List D)} (ha : SA g E ε t m) : SE g E ε (tLst t) (bd m fun ds => if ds.length ≤ sizeLine then .ok (.lst ds) else .bad) := fun U σ H b Q R W u q =>
  ha.step R W u q fun v d H1 b1 d1 w1 f1 R1 u1 q1 => by
    by_cases hl : d.length ≤ sizeLine
    · rw [if_pos hl] at q1
      have hl' : v.length ≤ sizeLine := by rw [d1.length]; exact hl
      refine ⟨hl', fun p np => ?_⟩
      have s := same_new (o := .lst v) np
      exact q1 _ _ (.lst upd_same (u1.new np) hl' (d1.ext (u1.extU (fr_same s)))) (w1.same s) (f1.trans (fr_same s))
    · rw [if_neg hl] at q1
      exact q1.elim
theorem se_tup {t : TA} {m : Tr (List D)} (ha : SA g E ε t m) : SE g E ε (tTup t) (bd m fun ds => if ds.length ≤ sizeLine then .ok (.tup ds) else .bad) := fun U σ H b Q R W u q =>
  ha.step R W u q fun v d H1 b1 d1 w1 f1 R1 u1 q1 => by
    by_cases hl : d.length ≤ sizeLine
    · rw [if_pos hl] at q1
      have hl' : v.length ≤ sizeLine := by rw [d1.length]; exact hl
      refine ⟨hl', fun p np => ?_⟩
      have s := same_new (o := .tup v) np
      exact q1 _ _ (.tup upd_same (u1.new np) hl' (d1.ext (u1.extU (fr_same s)))) (w1.same s) (f1.trans (fr_same s))
    · rw [if_neg hl] at q1
      exact q1.elim
theorem se_nox (ha : SE g (fun _ _ _ => False) ε ta ma) : SE g E ε ta (nox ma) := fun U σ H b Q R W u q => ha U σ H b Q R W u (al_nox q)
end
end Gp
end
section
namespace Gp
open PySem PySem.Spec PyProof.Rows L2 Gh
section
variable {g : Gw} {Mt U0 U U' : Addr → Prop} {H0 H H' H1 H2 : Hp} {b b1 : Nat} {σ : L2.St} {ε ε' : Env} {E : XK} {W L W' : Type}
def SS (g : Gw) (E : XK) (ε : Env) (t : TS) (env : W → Env) (envL : L → Env) (m : Tr (Fl W L)) : Prop := ∀ Mt U0 H0 U D σ H b, Stt g Mt U0 H0 U σ H b ε → Al (flP g Mt U0 H0 U H D env envL) (exS g Mt U0 H0 E) m b → t D σ H
theorem SE.sstep {t : TE} {m : Tr D} {k : D → Tr (Fl W L)} {Ds : Ends} {env : W → Env} {envL : L → Env} {Q : VK} (he : SE g E ε t m) (s : Stt g Mt U0 H0 U σ H b ε) (h : Al (flP g Mt U0 H0 U H Ds env envL) (exS g Mt U0 H0 E) (bd m k) b)
    (hk : ∀ v d H1 b1, Den g U H1 v d → Stt g Mt U0 H0 U σ H1 b1 ε → Al (flP g Mt U0 H0 U H1 Ds env envL) (exS g Mt U0 H0 E) (k d) b1 → Q v H1) : t σ H Q :=
  he U σ H b Q s.rel s.wd s.uok ((al_bd.mp h).mono (fun d b1 h1 v H1 d1 w1 f1 => hk v d H1 b1 d1 (s.fr f1 w1) (h1.mono (fun _ _ z => z.ev (s.uok.ev f1)) (fun _ _ _ z => z))) (fun _ _ _ h => exS.exP s h))
theorem SA.sstep {t : TA} {m : Tr (List D)} {k : (List D) → Tr (Fl W L)} {Ds : Ends} {env : W → Env} {envL : L → Env} {Q : List V → Hp → Prop} (he : SA g E ε t m) (s : Stt g Mt U0 H0 U σ H b ε) (h : Al (flP g Mt U0 H0 U H Ds env envL) (exS g Mt U0 H0 E) (bd m k) b)
    (hk : ∀ v d H1 b1, DenL g U H1 v d → Stt g Mt U0 H0 U σ H1 b1 ε → Al (flP g Mt U0 H0 U H1 Ds env envL) (exS g Mt U0 H0 E) (k d) b1 → Q v H1) : t σ H Q :=
  he U σ H b Q s.rel s.wd s.uok ((al_bd.mp h).mono (fun d b1 h1 v H1 d1 w1 f1 => hk v d H1 b1 d1 (s.fr f1 w1) (h1.mono (fun _ _ z => z.ev (s.uok.ev f1)) (fun _ _ _ z => z))) (fun _ _ _ h => exS.exP s h))
theorem ST.sstep {t : TT} {m : Tr Bool} {k : Bool → Tr (Fl W L)} {Ds : Ends} {env : W → Env} {envL : L → Env} {Q : Bool → Hp → Prop} (he : ST g E ε t m) (s : Stt g Mt U0 H0 U σ H b ε) (h : Al (flP g Mt U0 H0 U H Ds env envL) (exS g Mt U0 H0 E) (bd m k) b)
    (hk : ∀ d H1 b1,  Stt g Mt U0 H0 U σ H1 b1 ε → Al (flP g Mt U0 H0 U H1 Ds env envL) (exS g Mt U0 H0 E) (k d) b1 → Q d H1) : t σ H Q :=
  he U σ H b Q s.rel s.wd s.uok ((al_bd.mp h).mono (fun d b1 h1 H1 w1 f1 => hk d H1 b1 (s.fr f1 w1) (h1.mono (fun _ _ z => z.ev (s.uok.ev f1)) (fun _ _ _ z => z))) (fun _ _ _ h => exS.exP s h))
theorem Le.get : ∀ {a b : Env}, Le a b → ∀ {i : Nat} {s : Sl}, a[i]? = some s → s = .no ∧ (∃ z, b[i]? = some z) ∨ b[i]? = some s
  | _, _, .nil, _, _, e => by simp at e
  | _, _, .s h, 0, _, e => .inr e
  | _, _, .n h, 0, _, e => by simp at e; exact .inl ⟨e.symm, _, rfl⟩
  | _, _, .s h, i + 1, z, e => by simpa using h.get (i := i) (s := z) (by simpa using e)
  | _, _, .n h, i + 1, z, e => by simpa using h.get (i := i) (s := z) (by simpa using e)
theorem ownAt_le (l : Le ε' ε) {i : Nat} {a : Addr} (h : OwnAt σ ε' i a) : OwnAt σ ε i a := by
  obtain ⟨h1, h2⟩ := h
  refine ⟨h1, ?_⟩
  rcases h2 with ⟨ds, h2⟩ | ⟨c, fs, h2⟩
  · rcases l.get h2 with ⟨z, _⟩ | z
    · cases z
    · exact .inl ⟨ds, z⟩
  · rcases l.get h2 with ⟨z, _⟩ | z
    · cases z
    · exact .inr ⟨c, fs, z⟩
theorem Stt.le (s : Stt g Mt U0 H0 U σ H b ε) (l : Le ε' ε) : Stt g Mt U0 H0 U σ H b ε' :=
  ⟨⟨s.rel.len.trans l.len.symm, fun i x e => by
    rcases l.get e with ⟨rfl, z, h⟩ | h
    · obtain ⟨o, h1, _⟩ := s.rel.at_ i z h
      exact ⟨o, h1, trivial⟩
    · exact s.rel.at_ i x h, fun i j a n h1 h2 => s.rel.apart i j a n (ownAt_le l h1) (ownAt_le l h2)⟩, s.wd, s.uok, s.sub, fun i a o => s.own i a (ownAt_le l o), s.ext, fun i ds a e1 e2 => (by
    rcases l.get e1 with ⟨z, _⟩ | z
    · cases z
    · exact s.nu0 i ds a z e2), fun i c fs a j0 e1 e2 => by
    rcases l.get e1 with ⟨z, _⟩ | z
    · cases z
    · exact s.oim i c fs a j0 z e2⟩
variable {env : W → Env} {envL : L → Env} {env' : W' → Env} {u ta tb : TS} {te : TE} {me : Tr D}
theorem ss_nx {w : W} (l : Le (env w) ε) : SS g E ε tNext env envL (.ok (.nx w)) := fun Mt U0 H0 U D σ H b s q => q U σ H Ev.refl (s.le l)
theorem ss_asg {i : Nat} {k : D → Tr (Fl W L)} (he : SE g E ε te me) (hk : ∀ d, SS g E (ε.set i (.fz d)) u env envL (k d)) : SS g E ε (tSeq (tAsg te (gName i)) u) env envL (bd me k) := fun Mt U0 H0 U D σ H b s q =>
  he.sstep s q fun v d H1 b1 d1 s1 q1 => hk d Mt U0 H0 U D _ H1 b1 (s1.set i d1) q1
theorem ss_ret (he : SE g E ε te me) : SS g E ε (tSeq (tRet te) u) env envL (bd me fun d => .ok (.rt d)) := fun Mt U0 H0 U D σ H b s q =>
  he.sstep s q fun v d H1 b1 d1 s1 q1 => q1 v H1 (d1.sub fun a _ z => s1.sub a z) s1.wd s1.ext
theorem ss_drop {k : Tr (Fl W L)} (he : SE g E ε te me) (hk : SS g E ε u env envL k) : SS g E ε (tSeq (tDrop te) u) env envL (bd me fun _ => k) := fun Mt U0 H0 U D σ H b s q =>
  he.sstep s q fun v d H1 b1 d1 s1 q1 => hk Mt U0 H0 U D σ H1 b1 s1 q1
theorem ss_never : SS g E ε (tSeq tNever u) env envL .bad := fun Mt U0 H0 U D σ H b s q => q.elim
def ul0 {α : Type} (k : Tr α) (ds : List D) : Tr α := match ds with
  | [] => k
  | _ => .bad
def ul4 {α : Type} (k : D → D → D → D → Tr α) (ds : List D) : Tr α := match ds with
  | [x, y, z, w] => k x y z w
  | _ => .bad
section
variable {α : Type} {P : α → Nat → Prop} {X : Str → Fs → Nat → Prop} {ds : List D}
theorem al_ul1 {k : D → Tr α} (h : Al P X (ul1 k ds) b) : ∃ x, ds = [x] ∧ Al P X (k x) b := by
  unfold ul1 at h; split at h
  · exact ⟨_, rfl, h⟩
  · exact h.elim
theorem al_ul2 {k : D → D → Tr α} (h : Al P X (ul2 k ds) b) : ∃ x y, ds = [x, y] ∧ Al P X (k x y) b := by
  unfold ul2 at h; split at h
  · exact ⟨_, _, rfl, h⟩
  · exact h.elim
theorem al_ul3 {k : D → D → D → Tr α} (h : Al P X (ul3 k ds) b) : ∃ x y z, ds = [x, y, z] ∧ Al P X (k x y z) b := by
  unfold ul3 at h; split at h
  · exact ⟨_, _, _, rfl, h⟩
  · exact h.elim
end
theorem denL_nil {vs : List V} (h : DenL g U H vs []) : vs = [] := by cases h; rfl
theorem denL_cons {vs : List V} {d : D} {ds : List D} (h : DenL g U H vs (d :: ds)) : ∃ v r, vs = v :: r ∧ Den g U H v d ∧ DenL g U H r ds := by
  cases h with
  | cons a r => exact ⟨_, _, rfl, a, r⟩
theorem denL_1 {vs : List V} {x : D} (h : DenL g U H vs [x]) : ∃ v, vs = [v] ∧ Den g U H v x := by
  obtain ⟨v, r, rfl, h1, h2⟩ := denL_cons h
  cases denL_nil h2
  exact ⟨v, rfl, h1⟩
theorem denL_2 {vs : List V} {x y : D} (h : DenL g U H vs [x, y]) : ∃ v w, vs = [v, w] ∧ Den g U H v x ∧ Den g U H w y := by
  obtain ⟨v, r, rfl, h1, h2⟩ := denL_cons h
  obtain ⟨w, rfl, h3⟩ := denL_1 h2
  exact ⟨v, w, rfl, h1, h3⟩
theorem ss_par {i j : Nat} {t : TA} {m : Tr (List D)} {k : D → D → Tr (Fl W L)} (he : SA g E ε t m) (hk : ∀ x y, SS g E ((ε.set i (.fz x)).set j (.fz y)) u env envL (k x y)) :
    SS g E ε (tSeq (tPar i j t) u) env envL (bd m (ul2 k)) := fun Mt U0 H0 U D σ H b s q =>
  he.sstep s q fun v d H1 b1 d1 s1 q1 => by
    obtain ⟨x, y, rfl, q2⟩ := al_ul2 q1
    obtain ⟨v1, v2, rfl, e1, e2⟩ := denL_2 d1
    exact ⟨v1, v2, rfl, hk x y Mt U0 H0 U D _ H1 b1 ((s1.set i e1).set j e2) q2⟩
theorem SS.seq {m : Tr (Fl W' L)} {k : W' → Tr (Fl W L)} (h1 : SS g E ε ta env' envL m) (h2 : ∀ w, SS g E (env' w) u env envL (k w)) : SS g E ε (tSeq ta u) env envL (bdF m k) := fun Mt U0 H0 U D σ H b s q => by
  refine h1 Mt U0 H0 U { D with nx := u D } σ H b s ((al_bd.mp q).mono (fun f b1 h => ?_) (fun _ _ _ h => h))
  cases f with
  | nx w => exact fun U1 σ1 H1 e1 s1 => h2 w Mt U0 H0 U1 D σ1 H1 b1 s1 (Al.mono (fun _ _ z => z.ev e1) (fun _ _ _ z => z) h)
  | rt d => exact h
  | bk l => exact h
  | ct l => exact h
theorem ss_if0 {c : TT} {mc : Tr Bool} {m n : Tr (Fl W' L)} (hc : ST g E ε c mc) (ha : SS g E ε ta env' envL m) (hb : SS g E ε tb env' envL n) : SS g E ε (tIfS c ta tb) env' envL (bd mc fun k => if k = true then m else n) := fun Mt U0 H0 U D σ H b s q =>
  hc.sstep s q fun k H1 b1 s1 q1 => by
    cases k with
    | true => exact ha Mt U0 H0 U D σ H1 b1 s1 q1
    | false => exact hb Mt U0 H0 U D σ H1 b1 s1 q1
theorem ss_if {c : TT} {mc : Tr Bool} {m n : Tr (Fl W' L)} {k : W' → Tr (Fl W L)} (env' : W' → Env) (hc : ST g E ε c mc) (ha : SS g E ε ta env' envL m) (hb : SS g E ε tb env' envL n) (hk : ∀ w, SS g E (env' w) u env envL (k w)) :
    SS g E ε (tSeq (tIfS c ta tb) u) env envL (bdF (bd mc fun k => if k = true then m else n) k) := (ss_if0 hc ha hb).seq hk
theorem sx_name {i : Nat} {d : D} {m : Tr (Fl W L)} (h : SS g E (ε.set i (.fz d)) tb env envL m) : SX g E ε d (gName i) tb env envL m := fun Mt U0 H0 U D σ H b v s dn q => h Mt U0 H0 U D _ H b (s.set i dn) q
theorem den_tup {v : V} {ds : List D} (h : Den g U H v (.tup ds)) : ∃ a vs, v = .ref a ∧ SqT g.K H a vs ∧ vs.length ≤ sizeLine ∧ DenL g U H vs ds := by
  cases h with
  | tup h n l k => exact ⟨_, _, rfl, SqT.of h, l, k⟩
  | tupW h l k _ => exact ⟨_, _, rfl, h H, l, k⟩
theorem al_un2 {α : Type} {P : α → Nat → Prop} {X : Str → Fs → Nat → Prop} {d : D} {k : D → D → Tr α} (h : Al P X (un2 d k) b) : ∃ x y, d = .tup [x, y] ∧ Al P X (k x y) b := by
  unfold un2 at h
  split at h
  · exact ⟨_, _, rfl, h⟩
  · exact h.elim
theorem sx_tup2 {i j : Nat} {d : D} {m : D → D → Tr (Fl W L)} (h : ∀ x y, SS g E ((ε.set i (.fz x)).set j (.fz y)) tb env envL (m x y)) : SX g E ε d (gTup g.K 2 (gCons (gName i) (gCons (gName j) gNil))) tb env envL (un2 d m) := fun Mt U0 H0 U D σ H b v s dn q => by
  obtain ⟨x, y, rfl, q1⟩ := al_un2 q
  obtain ⟨a, vs, rfl, sq, _, k⟩ := den_tup dn
  obtain ⟨v1, v2, rfl, e1, e2⟩ := denL_2 k
  exact ⟨a, [v1, v2], rfl, sq, rfl, v1, [v2], rfl, v2, [], rfl, rfl, h x y Mt U0 H0 U D _ H b ((s.set i e1).set j e2) q1⟩
theorem ss_unp {gt : TG} {k : D → Tr (Fl W L)} (he : SE g E ε te me) (hk : ∀ d, SX g E ε d gt u env envL (k d)) : SS g E ε (tSeq (tAsg te gt) u) env envL (bd me k) := fun Mt U0 H0 U D σ H b s q =>
  he.sstep s q fun v d H1 b1 d1 s1 q1 => hk d Mt U0 H0 U D σ H1 b1 v s1 d1 q1
def ItD (g : Gw) (U : Addr → Prop) (H : Hp) (J : It) (ds : List D) : Prop := ∀ i U1 H1 b, Ev U H U1 H1 → Wd g H1 b → UOk g U1 H1 →
  (∀ d, ds[i]? = some d → J.go i H1 ∧ ∀ x H2, J.yld i H1 x H2 → Den g U1 H2 x d ∧ L2.Same H1 H2) ∧ (ds.length = i → J.stop i H1)
def okI (g : Gw) (U : Addr → Prop) (H : Hp) (R : It → Hp → Prop) : List D → Nat → Prop := fun ds b => ∀ J H', ds.length ≤ sizeLine → ItD g U H' J ds → Wd g H' b → Fr H H' g.p → R J H'
def SI (g : Gw) (E : XK) (ε : Env) (wi : TI) (m : Tr (List D)) : Prop := ∀ U σ H b R, Rel g U H σ ε → Wd g H b → UOk g U H → Al (okI g U H R) (exP g U E H) m b → wi σ H R
theorem ss_for0 {wi : TI} {gt : TG} {mi : Tr (List D)} {f : D → W → Tr (Fl W W)} {w0 : W} {tb : TS} (hi : SI g E ε wi mi) (l : Le (env w0) ε) (hb : ∀ d w, SX g E (env w) d gt tb env env (f d w)) : SS g E ε (tFor wi gt tb) env envL (bd mi fun ds => forF f ds w0) := fun Mt U0 H0 U D σ H b s q => by
  refine hi U σ H b _ s.rel s.wd s.uok ((al_bd.mp q).mono (fun ds b1 h1 J H1 hsz it w1 f1 => ?_) (fun _ _ _ h => exS.exP s h))
  refine ⟨fun i m σ' H' => ∃ b' w U', m = ds.length - i ∧ i ≤ ds.length ∧ Stt g Mt U0 H0 U' σ' H' b' (env w) ∧ Ev U H1 U' H' ∧ Al (flP g Mt U0 H0 U' H' D env envL) (exS g Mt U0 H0 E) (forF f (ds.drop i) w) b',
    ⟨ds.length, b1, w0, U, by simp, Nat.zero_le _, (s.fr f1 w1).le l, Ev.refl, Al.mono (fun _ _ z => z.ev (s.uok.ev f1)) (fun _ _ _ z => z) h1⟩, ?_⟩
  rintro i m σ' H' ⟨b', w, U', rfl, hle, s', e', q'⟩
  obtain ⟨it1, it2⟩ := it i U' H' b' e' s'.wd s'.uok
  by_cases hlt : i < ds.length
  · have ei : ds[i]? = some ds[i] := List.getElem?_eq_getElem hlt
    obtain ⟨go, y⟩ := it1 _ ei
    rw [List.drop_eq_getElem_cons hlt, forF_cons] at q'
    refine .inr ⟨go, fun σ2 H2 => ∃ b' w U2, Stt g Mt U0 H0 U2 σ2 H2 b' (env w) ∧ Ev U H1 U2 H2 ∧ Al (flP g Mt U0 H0 U2 H2 D env envL) (exS g Mt U0 H0 E) (forF f (ds.drop (i + 1)) w) b', ?_, ?_⟩
    · rintro σ2 H2 ⟨b2, w2, U2, s2, e2, q2⟩
      exact ⟨ds.length - (i + 1), by omega, b2, w2, U2, rfl, hlt, s2, e2, q2⟩
    · intro x H2 hy
      obtain ⟨dn, sm⟩ := y x H2 hy
      have s2 := s'.fr (fr_same sm) (s'.wd.same sm)
      have ev2 : Ev U' H' U' H2 := s'.uok.ev (fr_same sm)
      refine hb _ w Mt U0 H0 U' _ σ' H2 b' x s2 dn ((al_bd.mp q').mono (fun r b2 h2 => ?_) (fun _ _ _ z => z))
      cases r with
      | nx w' => exact fun U3 σ3 H3 e3 s3 => ⟨b2, w', U3, s3, e'.trans (ev2.trans e3), Al.mono (fun _ _ z => z.ev (ev2.trans e3)) (fun _ _ _ z => z) h2⟩
      | ct w' => exact fun U3 σ3 H3 e3 s3 => ⟨b2, w', U3, s3, e'.trans (ev2.trans e3), Al.mono (fun _ _ z => z.ev (ev2.trans e3)) (fun _ _ _ z => z) h2⟩
      | bk w' => exact fun U3 σ3 H3 e3 s3 => h2 U3 σ3 H3 (ev2.trans e3) s3
      | rt d => exact h2
  · have e : i = ds.length := by omega
    subst e
    rw [List.drop_length] at q'
    exact .inl ⟨it2 (rfl), q' U' σ' H' Ev.refl s'⟩
end
end Gp
end
section
namespace Gp
open PySem PySem.Spec PyProof.Rows L2 Gh
section
variable {g : Gw} {Mt U0 U U' : Addr → Prop} {H0 H H' H1 H2 : Hp} {b b1 : Nat} {σ : L2.St} {ε ε' : Env} {E : XK} {W L W' : Type}
variable {env : W → Env} {envL : L → Env} {env' : W' → Env} {u ta tb : TS} {te : TE} {me : Tr D}
theorem ss_for {wi : TI} {gt : TG} {mi : Tr (List D)} {f : D → W' → Tr (Fl W' W')} {w0 : W'} {tb : TS} {k : W' → Tr (Fl W L)} (env' : W' → Env) (hi : SI g E ε wi mi) (l : Le (env' w0) ε) (hb : ∀ d w, SX g E (env' w) d gt tb env' env' (f d w)) (hk : ∀ w, SS g E (env' w) u env envL (k w)) :
    SS g E ε (tSeq (tFor wi gt tb) u) env envL (bdF (bd mi fun ds => forF f ds w0) k) := (ss_for0 hi l hb).seq hk
def whF (c : W → Tr Bool) (f : W → Tr (Fl W W)) : Nat → W → Tr (Fl W L)
  | 0, _ => .bad
  | n + 1, w => bd (c w) fun k => if k = true then bd (f w) fun r => match r with
    | .nx w' => whF c f n w'
    | .ct w' => whF c f n w'
    | .bk w' => .ok (.nx w')
    | .rt d => .ok (.rt d) else .ok (.nx w)
theorem whF_succ (c : W → Tr Bool) (f : W → Tr (Fl W W)) (n : Nat) (w : W) : whF (L := L) c f (n + 1) w = bd (c w) fun k => if k = true then bd (f w) fun r => match r with
    | .nx w' => whF c f n w'
    | .ct w' => whF c f n w'
    | .bk w' => .ok (.nx w')
    | .rt d => .ok (.rt d) else .ok (.nx w) := rfl
theorem ss_wh0 {c : TT} {mc : W → Tr Bool} {f : W → Tr (Fl W W)} {w0 : W} (n : Nat) (l : Le (env w0) ε) (hc : ∀ w, ST g E (env w) c (mc w)) (hb : ∀ w, SS g E (env w) tb env env (f w)) : SS g E ε (tWhile c tb) env envL (whF mc f n w0) := fun Mt U0 H0 U D σ H b s q => by
  refine ⟨fun m σ' H' => ∃ b' w U', Stt g Mt U0 H0 U' σ' H' b' (env w) ∧ Al (flP g Mt U0 H0 U' H' D env envL) (exS g Mt U0 H0 E) (whF mc f m w) b', ⟨n, b, w0, U, s.le l, q⟩, ?_⟩
  rintro m σ' H' ⟨b', w, U', s', q'⟩
  cases m with
  | zero => exact q'.elim
  | succ m =>
    rw [whF_succ] at q'
    refine (hc w).sstep s' q' fun k H1 b1 s1 q1 => ?_
    cases k with
    | false => exact q1 U' σ' H1 Ev.refl s1
    | true =>
      refine ⟨fun σ2 H2 => ∃ b' w U', Stt g Mt U0 H0 U' σ2 H2 b' (env w) ∧ Al (flP g Mt U0 H0 U' H2 D env envL) (exS g Mt U0 H0 E) (whF mc f m w) b', fun σ2 H2 h => ⟨m, Nat.lt_succ_self _, h⟩, ?_⟩
      refine hb w Mt U0 H0 U' _ σ' H1 b1 s1 ((al_bd.mp q1).mono (fun r b2 h2 => ?_) (fun _ _ _ z => z))
      cases r with
      | nx w' => exact fun U3 σ3 H3 e3 s3 => ⟨b2, w', U3, s3, Al.mono (fun _ _ z => z.ev e3) (fun _ _ _ z => z) h2⟩
      | ct w' => exact fun U3 σ3 H3 e3 s3 => ⟨b2, w', U3, s3, Al.mono (fun _ _ z => z.ev e3) (fun _ _ _ z => z) h2⟩
      | bk w' => exact fun U3 σ3 H3 e3 s3 => h2 U3 σ3 H3 e3 s3
      | rt d => exact h2
theorem ss_wh {c : TT} {mc : W' → Tr Bool} {f : W' → Tr (Fl W' W')} {w0 : W'} {k : W' → Tr (Fl W L)} (env' : W' → Env) (n : Nat) (l : Le (env' w0) ε) (hc : ∀ w, ST g E (env' w) c (mc w)) (hb : ∀ w, SS g E (env' w) tb env' env' (f w)) (hk : ∀ w, SS g E (env' w) u env envL (k w)) :
    SS g E ε (tSeq (tWhile c tb) u) env envL (bdF (whF mc f n w0) k) := (ss_wh0 n l hc hb).seq hk
theorem den_lst {v : V} {ds : List D} (h : Den g U H v (.lst ds)) : ∃ a vs, v = .ref a ∧ H a = some (.lst vs) ∧ ¬ U a ∧ vs.length ≤ sizeLine ∧ DenL g U H vs ds := by
  cases h with
  | lst h n l k => exact ⟨_, _, rfl, h, n, l, k⟩
theorem den_str {v : V} {x : Str} (h : Den g U H v (.str x)) : v = .str x ∧ x.length ≤ sizeLine := by
  cases h with
  | str x h => exact ⟨rfl, h⟩
theorem den_int {v : V} {i : Int} (h : Den g U H v (.int i)) : v = .int i := by cases h; rfl
theorem den1 {c : Nat} : Den g U H (.str ⟨#[c]⟩) (.str ⟨#[c]⟩) := .str _ (by show 1 ≤ sizeLine; decide)
theorem itd_lst {a : Addr} {vs : List V} {ds : List D} (h : H a = some (.lst vs)) (n : ¬ U a) (k : DenL g U H vs ds) : ItD g U H (Itl g.K a) ds := fun i U1 H1 b e w u => by
  have h1 : H1 a = some (.lst vs) := e.keep _ _ h n (fun _ z => by cases z)
  refine ⟨fun d hd => ?_, fun hl => ⟨vs, SqL.of h1, by rw [k.length]; exact Nat.le_of_eq hl⟩⟩
  obtain ⟨v, hv, dn⟩ := k.getD hd
  refine ⟨⟨vs, v, SqL.of h1, hv⟩, ?_⟩
  rintro x H2 ⟨rfl, hx⟩
  have e2 := hx vs (SqL.of h1)
  rw [hv] at e2
  cases e2
  exact ⟨dn.ev e, fun _ _ z => z⟩
theorem itd_tup {a : Addr} {vs : List V} {ds : List D} (h : ∀ U1 H1, Ev U H U1 H1 → SqT g.K H1 a vs) (k : DenL g U H vs ds) : ItD g U H (Itt g.K a) ds := fun i U1 H1 b e w u => by
  have h1 := h U1 H1 e
  refine ⟨fun d hd => ?_, fun hl => ⟨vs, h1, by rw [k.length]; exact Nat.le_of_eq hl⟩⟩
  obtain ⟨v, hv, dn⟩ := k.getD hd
  refine ⟨⟨vs, v, h1, hv⟩, ?_⟩
  rintro x H2 ⟨rfl, hx⟩
  have e2 := hx vs h1
  rw [hv] at e2
  cases e2
  exact ⟨dn.ev e, fun _ _ z => z⟩
theorem den_tupE {v : V} {ds : List D} (h : Den g U H v (.tup ds)) : ∃ a vs, v = .ref a ∧ (∀ U1 H1, Ev U H U1 H1 → SqT g.K H1 a vs) ∧ vs.length ≤ sizeLine ∧ DenL g U H vs ds := by
  cases h with
  | tup h n l k => exact ⟨_, _, rfl, fun U1 H1 e => SqT.of (e.keep _ _ h n (fun _ z => by cases z)), l, k⟩
  | tupW h l k _ => exact ⟨_, _, rfl, fun U1 H1 e => h H1, l, k⟩
theorem itd_str (x : Str) : ItD g U H (Its x) (x.cps.toList.map fun c => .str ⟨#[c]⟩) := fun i U1 H1 b e w u => by
  refine ⟨fun d hd => ?_, fun hl => by rw [List.length_map, Array.length_toList] at hl; exact Nat.le_of_eq hl⟩
  rw [List.getElem?_map] at hd
  cases q : x.cps.toList[i]? with
  | none => rw [q] at hd; cases hd
  | some c =>
    rw [q] at hd
    cases hd
    have hi : i < x.cps.size := by
      have := (List.getElem?_eq_some_iff.mp q).1
      rw [Array.length_toList] at this
      exact this
    refine ⟨hi, ?_⟩
    rintro y H2 ⟨rfl, c', hc, rfl⟩
    rw [Array.getElem?_toList] at q
    rw [q] at hc
    cases hc
    exact ⟨den1, fun _ _ z => z⟩
def iSeq (K : PySem.W.Frag) (te : TE) : TI := fun σ H R => te σ H fun x H1 => (∃ a, x = .ref a ∧ (∃ xs, SqL K H1 a xs) ∧ R (Itl K a) H1) ∨ (∃ a, x = .ref a ∧ (∃ xs, SqT K H1 a xs) ∧ R (Itt K a) H1) ∨ ∃ z, x = .str z ∧ R (Its z) H1
theorem pi_seq {X : Cx} {K : PySem.W.Frag} {tg e : Expr} {te : TE} (hK : X.K = K) (he : PE X e te) : PI X tg e (iSeq K te) := by
  subst hK
  refine ⟨fun pins s σ H R I h => ?_⟩
  refine thn (he.run pins s σ H _ I h) fun v s1 ⟨x, H1, I1, r1, q1⟩ => ?_
  rcases q1 with ⟨a, e, ⟨xs, hq⟩, q⟩ | ⟨a, e, ⟨xs, hq⟩, q⟩ | ⟨z, ex, q⟩
  · subst e
    cases r1
    obtain ⟨its, rv, p, hz⟩ := I1.list hq
    refine wpAny_pyIter_list p.isList ?_
    refine ⟨s1.heap.objs.size, [s1.heap.objs.size], _, _, H1, rfl, I1.kept (t' := s1.toks) fun b o e => Heap.get?_push_of_some _ e, turn_list a _, ⟨_, Heap.get?_push_size _ rfl, rfl, rfl⟩, fun b hb => ?_, q⟩
    have e : b = s1.heap.objs.size := by simpa using hb
    subst e
    exact I1.fpOk (Nat.le_refl _) (I1.hok.fresh (Nat.le_refl _))
  · subst e
    cases r1
    obtain ⟨its, rv, p, hz⟩ := I1.tuple hq
    refine wpAny_pyIter_tuple (show s1.heap.IsTuple a its.toArray from p) ?_
    refine ⟨s1.heap.objs.size, [s1.heap.objs.size], _, _, H1, rfl, I1.kept (t' := s1.toks) fun b o e => Heap.get?_push_of_some _ e, turn_tuple a _, ⟨_, Heap.get?_push_size _ rfl, rfl, rfl⟩, fun b hb => ?_, q⟩
    have e : b = s1.heap.objs.size := by simpa using hb
    subst e
    exact I1.fpOk (Nat.le_refl _) (I1.hok.fresh (Nat.le_refl _))
  · subst ex
    obtain ⟨t, rfl⟩ := r1
    cases ha : z.cps.all (· < 128)
    · exact wpAny_pyIter_wide ha (pi_one (tk := s1.toks) I1 _ (turn_str _ z t "str_iterator" (.inr rfl)) ⟨_, Heap.get?_push_size _ rfl, rfl, rfl⟩ q)
    · exact wpAny_pyIter_ascii ha (pi_one (tk := s1.toks) I1 _ (turn_str _ z t "str_ascii_iterator" (.inl rfl)) ⟨_, Heap.get?_push_size _ rfl, rfl, rfl⟩ q)
theorem si_seq (he : SE g E ε te me) : SI g E ε (iSeq g.K te) (bd me itD) := fun U σ H b R rl wd u q =>
  he.step rl wd u q fun v d H1 b1 d1 w1 f1 R1 u1 q1 => by
    cases d with
    | lst ds =>
      obtain ⟨a, vs, rfl, h, n, l, k⟩ := den_lst d1
      exact .inl ⟨a, rfl, ⟨vs, SqL.of h⟩, q1 _ H1 (by rw [← k.length]; exact l) (itd_lst h n k) w1 f1⟩
    | tup ds =>
      obtain ⟨a, vs, rfl, h, l, k⟩ := den_tupE d1
      exact .inr (.inl ⟨a, rfl, ⟨vs, h U H1 Ev.refl⟩, q1 _ H1 (by rw [← k.length]; exact l) (itd_tup h k) w1 f1⟩)
    | str x =>
      obtain ⟨rfl, l⟩ := den_str d1
      exact .inr (.inr ⟨x, rfl, q1 _ H1 (by rw [List.length_map, Array.length_toList]; exact l) (itd_str x) w1 f1⟩)
    | _ => exact q1.elim
def rgD (lo : Int) (n : Nat) : List D := (List.range n).map fun i => .int (lo + (i : Nat))
theorem itd_rg (lo : Int) (n : Nat) : ItD g U H (Itr lo n) (rgD lo n) := fun i U1 H1 b e w u => by
  refine ⟨fun d hd => ?_, fun hl => by unfold rgD at hl; rw [List.length_map, List.length_range] at hl; exact Nat.le_of_eq hl⟩
  unfold rgD at hd
  rw [List.getElem?_map] at hd
  have hi : i < n := by
    cases q : (List.range n)[i]? with
    | none => rw [q] at hd; cases hd
    | some c =>
      have := (List.getElem?_eq_some_iff.mp q).1
      rwa [List.length_range] at this
  rw [List.getElem?_range hi] at hd
  cases hd
  refine ⟨hi, ?_⟩
  rintro y H2 ⟨rfl, rfl⟩
  exact ⟨.int _, fun _ _ z => z⟩
def rg1 (x : D) : Tr (List D) := match x with
  | .int j => if -(2 ^ 62) ≤ j ∧ j ≤ 16777216 then .ok (rgD 0 j.toNat) else .bad
  | _ => .bad
theorem si_rg1 {t : TA} {m : Tr (List D)} (ha : SA g E ε t m) : SI g E ε (iRng1 t) (bd m (ul1 rg1)) := fun U σ H b R rl wd u q =>
  ha.step rl wd u q fun v d H1 b1 d1 w1 f1 R1 u1 q1 => by
    obtain ⟨x, rfl, q2⟩ := al_ul1 q1
    obtain ⟨v, rfl, e1⟩ := denL_1 d1
    cases x with
    | int j =>
      cases den_int e1
      unfold rg1 at q2
      dsimp only at q2
      split at q2
      · rename_i hj
        exact ⟨j, rfl, hj.1, by omega, q2 _ H1 (by unfold rgD; rw [List.length_map, List.length_range, sizeLine_eq]; omega) (itd_rg 0 _) w1 f1⟩
      · exact q2.elim
    | _ => exact q2.elim
theorem lcF_nil (f : D → Tr (Option D)) : lcF f [] = .ok [] := rfl
def okO (g : Gw) (U : Addr → Prop) (H : Hp) (Q : Option V → Hp → Prop) : Option D → Nat → Prop
  | some y, b => ∀ w H', Den g U H' w y → Wd g H' b → Fr H H' g.p → Q (some w) H'
  | none, b => ∀ H', Wd g H' b → Fr H H' g.p → Q none H'
def SC (g : Gw) (ε : Env) (d : D) (gt : TG) (tt : TT) (te : TE) (vs : List Nat) (m : Tr (Option D)) : Prop := ∀ U σ H b v (Q : Option V → Hp → Prop), Rel g U H σ ε → Wd g H b → UOk g U H → Den g U H v d → Al (okO g U H Q) (fun _ _ _ => False) m b →
  gt v (wipe σ vs) H fun σ2 H2 => wipe σ2 vs = wipe σ vs ∧ tt σ2 H2 fun k H3 => if k = true then te σ2 H3 (fun y H4 => Q (some y) H4) else Q none H3
theorem al_noX {α : Type} {P : α → Nat → Prop} {X : Str → Fs → Nat → Prop} {m : Tr α} (h : Al P X (nox m) b) : Al P (fun _ _ _ => False) m b := al_nox h
theorem se_lc {wi : TI} {gt : TG} {tt : TT} {vs : List Nat} {mi : Tr (List D)} {f : D → Tr (Option D)} (hi : SI g E ε wi mi) (hf : ∀ d, SC g ε d gt tt te vs (f d)) : SE g E ε (tLc wi gt tt te vs) (bd mi fun ds => bd (lcF (fun d => nox (f d)) ds) fun r => .ok (.lst r)) := fun U σ H b Q rl wd u q => by
  refine hi U σ H b _ rl wd u ((al_bd.mp q).mono (fun ds b1 h1 J H1 hsz it w1 f1 => ?_) (fun _ _ _ h => h))
  intro A nA
  have u1 := u.fr f1 w1
  have nUA : ¬ U A := u1.new nA
  have hp : A ≠ g.p := fun z => nUA (z ▸ u.p)
  have hc : A ≠ g.c := fun z => nUA (z ▸ u.c)
  have rl1 := (rl.fr u f1).grow nA
  generalize hV : (fun a => U a ∨ a = A) = V at rl1
  have VA : V A := by rw [← hV]; exact .inr rfl
  have VU : ∀ a, U a → V a := fun a z => by rw [← hV]; exact .inl z
  have VO : ∀ a o, H1 a = some o → ¬ U a → ¬ V a := fun a o e n => by
    rw [← hV]
    rintro (z | z)
    · exact n z
    · exact ne_of_none e nA z
  have uv : ∀ {H' : Hp} {b : Nat} {o : List L2.V}, Fr H1 H' g.p → Wd g H' b → H' A = some (.lst o) → UOk g V H' := fun f w h => ⟨VU _ u.p, VU _ u.c, fun a ha => by
    rw [← hV] at ha
    rcases ha with ha | rfl
    · exact (u1.fr f w).al a ha
    · exact ⟨_, h, (fun _ z => by cases z), (fun _ z => by cases z)⟩⟩
  refine ⟨fun i m H' => ∃ b' accV accD, m = ds.length - i ∧ i ≤ ds.length ∧ accV.length ≤ i ∧ H' A = some (.lst accV) ∧ DenL g V H' accV accD ∧ Wd g H' b' ∧ Fr H1 H' g.p ∧ Al (fun r b => okP g U H Q (.lst (accD ++ r)) b) (exP g U E H) (lcF (fun d => nox (f d)) (ds.drop i)) b', ?_, ?_⟩
  · refine ⟨ds.length, b1, [], [], by simp, Nat.zero_le _, Nat.zero_le _, upd_same, .nil, w1.same (same_new nA), fr_same (same_new nA), ?_⟩
    exact (al_bd.mp h1).mono (fun r b h => h) (fun _ _ _ h => h)
  · rintro i m H' ⟨b', accV, accD, rfl, hle, hla, hA, dA, w', f', q'⟩
    have u' := uv f' w' hA
    have ev' : Ev U H1 V H' := ⟨fun a o e n t => f' a o e (fun z => n (z ▸ u.p)) t, fun a o e n _ => VO a o e n⟩
    obtain ⟨it1, it2⟩ := it i V H' b' ev' w' u'
    by_cases hlt : i < ds.length
    · have ei : ds[i]? = some ds[i] := List.getElem?_eq_getElem hlt
      obtain ⟨go, y⟩ := it1 _ ei
      rw [List.drop_eq_getElem_cons hlt, lcF_cons] at q'
      refine .inr ⟨go, fun H' => ∃ b' accV accD, accV.length ≤ i + 1 ∧ H' A = some (.lst accV) ∧ DenL g V H' accV accD ∧ Wd g H' b' ∧ Fr H1 H' g.p ∧ Al (fun r b => okP g U H Q (.lst (accD ++ r)) b) (exP g U E H) (lcF (fun d => nox (f d)) (ds.drop (i + 1))) b', ?_, ?_⟩
      · rintro H2 ⟨b2, av, ad, h1, h2⟩
        exact ⟨ds.length - (i + 1), by omega, b2, av, ad, rfl, hlt, h1, h2⟩
      · intro x H2 hy
        obtain ⟨dn, sm⟩ := y x H2 hy
        have w2 := w'.same sm
        have f2 : Fr H1 H2 g.p := f'.trans (fr_same sm)
        have hA2 := sm _ _ hA
        refine hf ds[i] V σ H2 b' x (fun o H4 => match o with
          | some y => ∃ acc, H4 A = some (.lst acc) ∧ acc.length < sizeLine ∧ ∃ b' accV accD, accV.length ≤ i + 1 ∧ (upd H4 A (.lst (acc ++ [y]))) A = some (.lst accV) ∧ DenL g V (upd H4 A (.lst (acc ++ [y]))) accV accD ∧ Wd g (upd H4 A (.lst (acc ++ [y]))) b' ∧ Fr H1 (upd H4 A (.lst (acc ++ [y]))) g.p ∧ Al (fun r b => okP g U H Q (.lst (accD ++ r)) b) (exP g U E H) (lcF (fun d => nox (f d)) (ds.drop (i + 1))) b'
          | none => ∃ b' accV accD, accV.length ≤ i + 1 ∧ H4 A = some (.lst accV) ∧ DenL g V H4 accV accD ∧ Wd g H4 b' ∧ Fr H1 H4 g.p ∧ Al (fun r b => okP g U H Q (.lst (accD ++ r)) b) (exP g U E H) (lcF (fun d => nox (f d)) (ds.drop (i + 1))) b')
          (rl1.frp (VU _ u.p) f2) w2 (uv f2 w2 hA2) dn ((al_noX (al_bd.mp q')).mono (fun o b2 h2 => ?_) (fun _ _ _ z => z))
        have h3 := al_bd.mp h2
        cases o with
        | some y =>
          intro w H4 dw w4 f4
          have hA4 := f4 _ _ hA2 hp (fun _ z => by cases z)
          have e4 : ExtU V H4 (upd H4 A (.lst (accV ++ [w]))) := fun a o e n _ => by
            rw [upd_ne (fun z => n (by rw [z]; exact VA))]
            exact e
          have k4 : Keep H4 (upd H4 A (.lst (accV ++ [w]))) A := fun a o e n => by rw [upd_ne n]; exact e
          refine ⟨accV, hA4, Nat.lt_of_le_of_lt hla (Nat.lt_of_lt_of_le hlt hsz), b2, accV ++ [w], accD ++ [y], ?_, upd_same, ?_, ?_, ?_, ?_⟩
          · rw [List.length_append]
            exact Nat.add_le_add_right hla 1
          · exact DenL.append ((dA.ext (extU_of (VU _ u.p) ((fr_same sm).trans f4))).ext e4) (.cons (dw.ext e4) .nil)
          · exact ⟨w4.pen.keep k4 hp hc, tabs_keepL k4 hA4 w4.tabs⟩
          · intro a o e n t
            rw [upd_ne (ne_of_none e nA)]
            exact f4 _ _ (f2 a o e n t) n t
          · exact h3.mono (fun r b h => by
              have : okP g U H Q (.lst (accD ++ (y :: r))) b := h
              rw [List.append_cons] at this
              exact this) (fun _ _ _ z => z)
        | none =>
          intro H4 w4 f4
          exact ⟨b2, accV, accD, Nat.le_succ_of_le hla, f4 _ _ hA2 hp (fun _ z => by cases z), dA.ext (extU_of (VU _ u.p) ((fr_same sm).trans f4)), w4, f2.trans f4, h3.mono (fun r b h => h) (fun _ _ _ z => z)⟩
    · have e : i = ds.length := by omega
      subst e
      rw [List.drop_length, lcF_nil] at q'
      refine .inl ⟨it2 (rfl), ?_⟩
      have q2 : okP g U H Q (.lst (accD ++ [])) b' := q'
      rw [List.append_nil] at q2
      exact q2 _ H' (.lst hA nUA (Nat.le_trans hla hsz) (dA.sub fun a _ z => VU a z)) w' (f1.trans f')
end
end Gp
end
section
namespace Gp
open PySem PySem.Spec PyProof.Rows L2 Gh
section
variable {g : Gw} {Mt U0 U U' : Addr → Prop} {H0 H H' H1 H2 : Hp} {b b1 : Nat} {σ : L2.St} {ε ε' : Env} {E : XK} {W L W' : Type}
variable {env : W → Env} {envL : L → Env} {env' : W' → Env} {u ta tb : TS} {te : TE} {me : Tr D}
theorem sc_name {i : Nat} {d : D} {tt : TT} {mt : Tr Bool} (ht : ST g EF (ε.set i (.fz d)) tt mt) (he : SE g EF (ε.set i (.fz d)) te me) : SC g ε d (gName i) tt te [i] (bd mt fun k => if k = true then bd me fun y => .ok (some y) else .ok none) := fun U σ H b v Q rl wd u dn q => by
  have e1 : wipe σ [i] = σ.set i none := rfl
  rw [e1]
  show wipe ((σ.set i none).set i (some v)) [i] = _ ∧ _
  rw [List.set_set]
  refine ⟨?_, ?_⟩
  · show (σ.set i (some v)).set i none = _
    rw [List.set_set]
  · refine ht.step (rl.set i dn) wd u (q.mono (fun _ _ z => z) (fun _ _ _ z => exP.F z)) fun k H1 b1 w1 f1 R1 u1 q1 => ?_
    cases k with
    | true =>
      refine he.step R1 w1 u1 q1 fun y e H2 b2 d2 w2 f2 R2 u2 q2 => ?_
      exact q2 y H2 d2 w2 (f1.trans f2)
    | false => exact q1 H1 w1 f1
theorem sc_map {i : Nat} {d : D} (he : SE g EF (ε.set i (.fz d)) te me) : SC g ε d (gName i) tYes te [i] (bd me fun y => .ok (some y)) := fun U σ H b v Q rl wd u dn q => by
  have e1 : wipe σ [i] = σ.set i none := rfl
  rw [e1]
  show wipe ((σ.set i none).set i (some v)) [i] = _ ∧ _
  rw [List.set_set]
  refine ⟨?_, ?_⟩
  · show (σ.set i (some v)).set i none = _
    rw [List.set_set]
  · show te (σ.set i (some v)) H fun y H4 => Q (some y) H4
    refine he.step (rl.set i dn) wd u (q.mono (fun _ _ z => z) (fun _ _ _ z => exP.F z)) fun y e H2 b2 d2 w2 f2 R2 u2 q2 => ?_
    exact q2 y H2 d2 w2 f2
theorem ownAt_setO {i j : Nat} {v : V} {ds : Ow} {a : Addr} (h : OwnAt (σ.set i (some v)) (ε.set i (.ow ds)) j a) : (i = j ∧ v = .ref a) ∨ (i ≠ j ∧ OwnAt σ ε j a) := by
  obtain ⟨h1, h2⟩ := h
  by_cases e : i = j
  · subst e
    rw [List.getElem?_set_self'] at h1
    cases q : σ[i]? with
    | none => rw [q] at h1; cases h1
    | some z => rw [q] at h1; cases h1; exact .inl ⟨rfl, rfl⟩
  · rw [List.getElem?_set_ne e] at h1 h2
    exact .inr ⟨e, h1, h2⟩
theorem own_new {A : Addr} {vs : List V} {ds : List D} {i : Nat} (s : Stt g Mt U0 H0 U σ H b ε) (n : H A = none) (l : vs.length ≤ sizeLine) (dn : DenL g U H vs ds) (hA : A ≠ 0 ∨ True := .inr trivial) :
    Stt g Mt U0 H0 (fun a => U a ∨ a = A) (σ.set i (some (.ref A))) (upd H A (.lst vs)) b (ε.set i (.ow ds)) ∧ Ev U H (fun a => U a ∨ a = A) (upd H A (.lst vs)) := by
  have sm := same_new (o := .lst vs) n
  have nU : ¬ U A := s.uok.new n
  have hp : A ≠ g.p := fun z => nU (z ▸ s.uok.p)
  have hc : A ≠ g.c := fun z => nU (z ▸ s.uok.c)
  have r1 : Rel g (fun a => U a ∨ a = A) (upd H A (.lst vs)) σ ε := (s.rel.grow n).frp (.inl s.uok.p) (fr_same sm)
  have sig : ∀ j a, OwnAt σ ε j a → ∃ o, H a = some o := fun j a h => by
    obtain ⟨h1, ⟨ds, h2⟩ | ⟨c, fs, h2⟩⟩ := h
    · obtain ⟨o, e, a', vs, e2, h, _⟩ := s.rel.at_ j _ h2
      rw [h1] at e
      cases e
      cases e2
      exact ⟨_, h⟩
    · obtain ⟨o, e, a', dx, fvs, e2, h, _⟩ := s.rel.at_ j _ h2
      rw [h1] at e
      cases e
      cases e2
      exact ⟨_, h⟩
  refine ⟨⟨⟨by rw [List.length_set, List.length_set]; exact r1.len, fun j x e => ?_, fun j k a ne h1 h2 => ?_⟩, s.wd.same sm, ⟨.inl s.uok.p, .inl s.uok.c, fun a ha => ?_⟩, fun a z => .inl (s.sub a z), fun j a h => ?_, s.ext.trans (fr_same sm), fun j xs a e1 e2 => ?_, fun j c fs a j0 e1 e2 => ?_⟩, fun a o e _ _ => sm a o e, fun a o e n1 _ => ?_⟩
  · by_cases q : i = j
    · subst q
      have hl : i < ε.length := by
        cases z : ε[i]? with
        | none => rw [List.getElem?_set_self', z] at e; cases e
        | some w => exact (List.getElem?_eq_some_iff.mp z).1
      rw [List.getElem?_set_self hl] at e
      cases e
      exact ⟨_, List.getElem?_set_self (by rw [r1.len]; exact hl), A, _, rfl, upd_same, ⟨vs, rfl, l, (dn.grow n).ext (fun a o e _ _ => sm a o e)⟩, .inr rfl, hp, hc⟩
    · rw [List.getElem?_set_ne q] at e ⊢
      exact r1.at_ j x e
  · rcases ownAt_setO h1 with ⟨rfl, z1⟩ | ⟨n1, z1⟩ <;> rcases ownAt_setO h2 with ⟨rfl, z2⟩ | ⟨n2, z2⟩
    · exact ne rfl
    · cases z1
      obtain ⟨o, e⟩ := sig _ _ z2
      rw [n] at e
      cases e
    · cases z2
      obtain ⟨o, e⟩ := sig _ _ z1
      rw [n] at e
      cases e
    · exact s.rel.apart j k a ne z1 z2
  · rcases ha with ha | rfl
    · obtain ⟨o, e, t⟩ := s.uok.al a ha
      exact ⟨o, sm a o e, t⟩
    · exact ⟨_, upd_same, (fun _ z => by cases z), (fun _ z => by cases z)⟩
  · rcases ownAt_setO h with ⟨rfl, z⟩ | ⟨_, z⟩
    · cases z
      by_cases m : Mt A
      · exact .inl m
      · refine .inr fun o q => ?_
        by_cases t : ∃ ps, o = .tbl ps
        · exact t
        · have := s.ext A o q hp m (fun ps z => t ⟨ps, z⟩)
          rw [n] at this
          cases this
    · exact s.own j a z
  · by_cases q : i = j
    · subst q
      rw [List.getElem?_set_self'] at e2
      cases z : σ[i]? with
      | none => rw [z] at e2; cases e2
      | some w =>
        rw [z] at e2
        cases e2
        exact fun h => nU (s.sub _ h)
    · rw [List.getElem?_set_ne q] at e1 e2
      exact s.nu0 j xs a e1 e2
  · by_cases q : i = j
    · subst q
      cases z : ε[i]? with
      | none => rw [List.getElem?_set_self', z] at e1; cases e1
      | some w => rw [List.getElem?_set_self', z] at e1; cases e1
    · rw [List.getElem?_set_ne q] at e1 e2
      exact s.oim j c fs a j0 e1 e2
  · rintro (z | z)
    · exact n1 z
    · exact ne_of_none e n z
def okN (g : Gw) (U : Addr → Prop) (H : Hp) (Q : VK) : List D → Nat → Prop := fun ds b => ∀ A vs H1, H1 A = none → vs.length ≤ sizeLine → DenL g U H1 vs ds → Wd g H1 b → Fr H H1 g.p → Q (.ref A) (upd H1 A (.lst vs))
def SN (g : Gw) (E : XK) (ε : Env) (t : TE) (m : Tr (List D)) : Prop := ∀ U σ H b Q, Rel g U H σ ε → Wd g H b → UOk g U H → Al (okN g U H Q) (exP g U E H) m b → t σ H Q
theorem sn_lst {t : TA} {m : Tr (List D)} (ha : SA g E ε t m) : SN g E ε (tLst t) (bd m fun ds => if ds.length ≤ sizeLine then .ok ds else .bad) := fun U σ H b Q R W u q =>
  ha.step R W u q fun v d H1 b1 d1 w1 f1 R1 u1 q1 => by
    by_cases hl : d.length ≤ sizeLine
    · rw [if_pos hl] at q1
      have hl' : v.length ≤ sizeLine := by rw [d1.length]; exact hl
      exact ⟨hl', fun p np => q1 p v H1 np hl' d1 w1 f1⟩
    · rw [if_neg hl] at q1
      exact q1.elim
theorem ss_own {i : Nat} {t : TE} {m : Tr (List D)} {k : List D → Tr (Fl W L)} (he : SN g E ε t m) (hk : ∀ ds : List D, SS g E (ε.set i (.ow ds)) u env envL (k ds)) : SS g E ε (tSeq (tAsg t (gName i)) u) env envL (bd m k) := fun Mt U0 H0 U D σ H b s q =>
  he U σ H b _ s.rel s.wd s.uok ((al_bd.mp q).mono (fun ds b1 h1 A vs H1 n l dn w f => by
    obtain ⟨s1, e1⟩ := own_new (i := i) (s.fr f w) n l dn
    exact hk ds Mt U0 H0 _ D _ _ b1 s1 (h1.mono (fun _ _ z => z.ev ((s.uok.ev f).trans e1)) (fun _ _ _ z => z))) (fun _ _ _ h => exS.exP s h))
theorem own_mut {vs' : List V} {ds ds' : List D} {i : Nat} (s : Stt g Mt U0 H0 U σ H b ε) (hi : ε[i]? = some (.ow ds)) : ∃ a vs, σ[i]? = some (some (.ref a)) ∧ H a = some (.lst vs) ∧ vs.length ≤ sizeLine ∧ DenL g U H vs ds ∧ U a ∧ a ≠ g.p ∧ a ≠ g.c ∧
    ∀ (vs' : List V) (ds' : List D), vs'.length ≤ sizeLine → DenL g U H vs' ds' → Stt g Mt U0 H0 U σ (upd H a (.lst vs')) b (ε.set i (.ow ds')) ∧ Ev U H U (upd H a (.lst vs')) := by
  obtain ⟨o, eo, a, u0, rfl, h, ⟨vs, rfl, l, dn⟩, ua, n1, n2⟩ := s.rel.at_ i _ hi
  refine ⟨a, vs, eo, h, l, dn, ua, n1, n2, fun vs' ds' l' dn' => ?_⟩
  have kp : Keep H (upd H a (.lst vs')) a := fun x o e ne => by rw [upd_ne ne]; exact e
  have xt : ExtU U H (upd H a (.lst vs')) := fun x o e ne _ => kp x o e (fun z => ne (z ▸ ua))
  have il : i < ε.length := (List.getElem?_eq_some_iff.mp hi).1
  have ow : ∀ j x, OwnAt σ (ε.set i (.ow ds')) j x → OwnAt σ ε j x := fun j x z => by
    obtain ⟨z1, z2⟩ := z
    by_cases q : i = j
    · subst q
      exact ⟨z1, .inl ⟨ds, hi⟩⟩
    · rw [List.getElem?_set_ne q] at z2
      exact ⟨z1, z2⟩
  have apart : ∀ j x, i ≠ j → OwnAt σ ε j x → x ≠ a := fun j x ne z e => by
    subst e
    exact s.rel.apart i j x ne ⟨eo, .inl ⟨ds, hi⟩⟩ z
  refine ⟨⟨⟨by rw [List.length_set]; exact s.rel.len, fun j x e => ?_, fun j k x ne z1 z2 => s.rel.apart j k x ne (ow _ _ z1) (ow _ _ z2)⟩, ⟨s.wd.pen.keep kp n1 n2, tabs_keepL kp h s.wd.tabs⟩, ⟨s.uok.p, s.uok.c, fun x hx => ?_⟩, s.sub, fun j x z => s.own j x (ow _ _ z), fun x o e m1 m2 m3 => ?_, fun j xs x e1 e2 => ?_, fun j c fs x j0 e1 e2 => ?_⟩, xt, fun _ _ _ n _ => n⟩
  · by_cases q : i = j
    · subst q
      rw [List.getElem?_set_self il] at e
      cases e
      exact ⟨_, eo, a, _, rfl, upd_same, ⟨vs', rfl, l', dn'.ext xt⟩, ua, n1, n2⟩
    · rw [List.getElem?_set_ne q] at e
      obtain ⟨o, e1, e2⟩ := s.rel.at_ j x e
      refine ⟨o, e1, ?_⟩
      cases x with
      | no => trivial
      | fz d =>
        obtain ⟨v, e3, e4⟩ := e2
        exact ⟨v, e3, e4.ext xt⟩
      | ow ds2 =>
        obtain ⟨a2, v2, rfl, h2, d2, u2, m1, m2⟩ := e2
        have ne := apart j a2 q ⟨e1, .inl ⟨ds2, e⟩⟩
        exact ⟨a2, v2, rfl, kp _ _ h2 ne, d2.map (fun q => q.ext xt), u2, m1, m2⟩
      | oi c fs =>
        obtain ⟨a2, dx, v2, rfl, h2, d2, u2, m1, m2⟩ := e2
        have ne := apart j a2 q ⟨e1, .inr ⟨c, fs, e⟩⟩
        exact ⟨a2, dx, v2, rfl, kp _ _ h2 ne, d2.ext xt, u2, m1, m2⟩
  · by_cases q : x = a
    · subst q
      exact ⟨_, upd_same, (fun _ z => by cases z), (fun _ z => by cases z)⟩
    · obtain ⟨o, e, t⟩ := s.uok.al x hx
      exact ⟨o, kp x o e q, t⟩
  · have q : x ≠ a := fun z => by
      subst z
      rcases s.own i x ⟨eo, .inl ⟨ds, hi⟩⟩ with w | w
      · exact m2 w
      · obtain ⟨ps, z⟩ := w o e
        exact m3 ps z
    exact kp x o (s.ext x o e m1 m2 m3) q
  · by_cases q : i = j
    · subst q
      exact s.nu0 i ds x hi e2
    · rw [List.getElem?_set_ne q] at e1
      exact s.nu0 j xs x e1 e2
  · by_cases q : i = j
    · subst q
      rw [List.getElem?_set_self il] at e1
      cases e1
    · rw [List.getElem?_set_ne q] at e1
      exact s.oim j c fs x j0 e1 e2
theorem ss_app {i : Nat} {ds : List D} {k : D → Tr (Fl W L)} (he : SE g E ε te me) (hk : ∀ d, SS g E (ε.set i (.ow (.l (ds ++ [d])))) u env envL (k d)) (hi : ε[i]? = some (.ow ds) := by rfl) :
    SS g E ε (tSeq (tDrop (tBM g.K "list" rAppend (tVar i) (tCons te tNil))) u) env envL (bd me fun d => if ds.length < sizeLine then k d else .bad) := fun Mt U0 H0 U D σ H b s q => by
  obtain ⟨a, vs, e1, h1, l1, d1, ua, n1, n2, _⟩ := own_mut (vs' := []) (ds' := []) s hi
  refine ⟨.ref a, e1, .inl ⟨rfl, vs, SqL.of h1⟩, ?_⟩
  refine he.sstep s q fun v d H1 b1 dv s1 q1 => ?_
  obtain ⟨a', vs', e2, h2, l2, d2, _, _, _, mt⟩ := own_mut (vs' := []) (ds' := []) s1 hi
  rw [e1] at e2
  cases e2
  by_cases hl : ds.length < sizeLine
  · rw [if_pos hl] at q1
    have hl2 : vs'.length < sizeLine := by rw [d2.length]; exact hl
    obtain ⟨s2, ev⟩ := mt (vs' ++ [v]) (ds ++ [d]) (by rw [List.length_append]; exact hl2) (d2.append (.cons dv .nil))
    exact ⟨a, vs', v, rfl, rfl, h2, hl2, hk d Mt U0 H0 U D σ _ b1 s2 (q1.mono (fun _ _ z => z.ev ev) (fun _ _ _ z => z))⟩
  · rw [if_neg hl] at q1
    exact q1.elim
theorem ss_fz {i : Nat} {ds : List D} {m : Tr (Fl W L)} (hi : ε[i]? = some (.ow ds)) (h : SS g E (ε.set i (.fz (.lst ds))) u env envL m) : SS g E ε u env envL m := fun Mt U0 H0 U D σ H b s q => by
  obtain ⟨a, vs, e1, h1, l1, d1, ua, n1, n2, _⟩ := own_mut (vs' := []) (ds' := []) s hi
  have il : i < ε.length := (List.getElem?_eq_some_iff.mp hi).1
  have sub : ∀ x, (∃ o, H x = some o) → (U x ∧ x ≠ a) → U x := fun x _ z => z.1
  have ow : ∀ j x, OwnAt σ (ε.set i (.fz (.lst ds))) j x → i ≠ j ∧ OwnAt σ ε j x := fun j x z => by
    obtain ⟨z1, z2⟩ := z
    by_cases q : i = j
    · subst q
      exfalso
      rcases z2 with ⟨y, z2⟩ | ⟨y1, y2, z2⟩
      · rw [List.getElem?_set_self il] at z2
        cases z2
      · rw [List.getElem?_set_self il] at z2
        cases z2
    · rw [List.getElem?_set_ne q] at z2
      exact ⟨q, z1, z2⟩
  have apart : ∀ j x, i ≠ j → OwnAt σ ε j x → x ≠ a := fun j x ne z e => by
    subst e
    exact s.rel.apart i j x ne ⟨e1, .inl ⟨ds, hi⟩⟩ z
  have ev : Ev U H (fun x => U x ∧ x ≠ a) H := ⟨fun _ _ e _ _ => e, fun _ _ _ n _ z => n z.1⟩
  refine h Mt U0 H0 (fun x => U x ∧ x ≠ a) D σ H b ⟨⟨by rw [List.length_set]; exact s.rel.len, fun j x e => ?_, fun j k x ne z1 z2 => s.rel.apart j k x ne (ow _ _ z1).2 (ow _ _ z2).2⟩, s.wd, ⟨⟨s.uok.p, n1.symm⟩, ⟨s.uok.c, n2.symm⟩, fun x hx => s.uok.al x hx.1⟩, fun x z => ⟨s.sub x z, fun e => s.nu0 i ds x hi (by rw [e1, e]) z⟩, fun j x z => s.own j x (ow _ _ z).2, s.ext, fun j xs x z1 z2 => ?_, fun j c fs x j0 z1 z2 => ?_⟩ (q.mono (fun _ _ z => z.ev ev) (fun _ _ _ z => z))
  · by_cases q : i = j
    · subst q
      rw [List.getElem?_set_self il] at e
      cases e
      exact ⟨_, e1, _, rfl, .lst h1 (fun z => z.2 rfl) l1 (d1.sub sub)⟩
    · rw [List.getElem?_set_ne q] at e
      obtain ⟨o, e3, e2⟩ := s.rel.at_ j x e
      refine ⟨o, e3, ?_⟩
      cases x with
      | no => trivial
      | fz d =>
        obtain ⟨v, e4, e5⟩ := e2
        exact ⟨v, e4, e5.sub sub⟩
      | ow ds2 =>
        obtain ⟨a2, v2, rfl, h2, d2, u2, m1, m2⟩ := e2
        have ne := apart j a2 q ⟨e3, .inl ⟨ds2, e⟩⟩
        exact ⟨a2, v2, rfl, h2, d2.map (fun q => q.sub sub), ⟨u2, ne⟩, m1, m2⟩
      | oi c fs =>
        obtain ⟨a2, dx, v2, rfl, h2, d2, u2, m1, m2⟩ := e2
        have ne := apart j a2 q ⟨e3, .inr ⟨c, fs, e⟩⟩
        exact ⟨a2, dx, v2, rfl, h2, d2.sub sub, ⟨u2, ne⟩, m1, m2⟩
  · obtain ⟨q, _, z3⟩ := ow j x ⟨z2, .inl ⟨xs, z1⟩⟩
    rw [List.getElem?_set_ne q] at z1
    exact s.nu0 j xs x z1 z2
  · by_cases q : i = j
    · subst q
      rw [List.getElem?_set_self il] at z1
      cases z1
    · rw [List.getElem?_set_ne q] at z1
      exact s.oim j c fs x j0 z1 z2
end
end Gp
end
section
namespace Gp
open PySem PySem.Spec PyProof.Rows L2 Gh
section
variable {g : Gw} {Mt U0 U U' : Addr → Prop} {H0 H H' H1 H2 : Hp} {b b1 : Nat} {σ : L2.St} {ε ε' : Env} {E : XK} {W L W' : Type}
variable {env : W → Env} {envL : L → Env} {env' : W' → Env} {u ta tb : TS} {te : TE} {me : Tr D}
def spF (K : PySem.W.Frag) (T : List (Addr × Str)) (F : List D → Tr D) : Sp := fun vs H Q E => ∃ p c U ds b, DenL ⟨K, T, p, c⟩ U H vs ds ∧ Wd ⟨K, T, p, c⟩ H b ∧ UOk ⟨K, T, p, c⟩ U H ∧ Al (okP ⟨K, T, p, c⟩ U H Q) (exP ⟨K, T, p, c⟩ U E H) (F ds) b
def envE : Empty → Env := fun e => nomatch e
theorem rel_start {N : List Str} {vs : List V} {ds : List D} (h : DenL g U H vs ds) : Rel g U H (L2.start N vs) (ds.map Sl.fz ++ List.replicate (N.length - ds.length) Sl.no) := by
  have no : ∀ i a, ¬ OwnAt (L2.start N vs) (ds.map Sl.fz ++ List.replicate (N.length - ds.length) Sl.no) i a := fun i a ⟨_, z⟩ => by
    have : ∀ s : Sl, (ds.map Sl.fz ++ List.replicate (N.length - ds.length) Sl.no)[i]? = some s → (∃ d, s = .fz d) ∨ s = .no := fun s e => by
      have m := List.mem_of_getElem? e
      rcases List.mem_append.mp m with m | m
      · obtain ⟨d, _, e⟩ := List.mem_map.mp m
        exact .inl ⟨d, e.symm⟩
      · exact .inr (List.mem_replicate.mp m).2
    rcases z with ⟨x, z⟩ | ⟨x, y, z⟩
    · rcases this _ z with ⟨d, e⟩ | e <;> cases e
    · rcases this _ z with ⟨d, e⟩ | e <;> cases e
  have hl := h.length
  refine ⟨?_, fun i s e => ?_, fun i j a _ h1 _ => (no i a h1).elim⟩
  · unfold L2.start
    simp only [List.length_append, List.length_map, List.length_replicate, hl]
  · unfold L2.start
    by_cases q : i < ds.length
    · rw [List.getElem?_append_left (by rw [List.length_map]; exact q), List.getElem?_map] at e
      rw [List.getElem?_append_left (by rw [List.length_map, hl]; exact q), List.getElem?_map]
      cases z : ds[i]? with
      | none => rw [z] at e; cases e
      | some d =>
        rw [z] at e
        cases e
        obtain ⟨v, hv, dn⟩ := h.getD z
        rw [hv]
        exact ⟨some v, rfl, v, rfl, dn⟩
    · rw [List.getElem?_append_right (by rw [List.length_map]; omega), List.length_map] at e
      rw [List.getElem?_append_right (by rw [List.length_map, hl]; omega), List.length_map, hl]
      have m := List.mem_of_getElem? e
      obtain ⟨n0, rfl⟩ := List.mem_replicate.mp m
      have i1 := (List.getElem?_eq_some_iff.mp e).1
      rw [List.length_replicate] at i1
      exact ⟨none, by rw [List.getElem?_replicate, if_pos i1], trivial⟩
theorem fn_of {K : PySem.W.Frag} {T : List (Addr × Str)} {N : List Str} {F : List D → Tr D} {vs : List V} {Q : VK} {t : TS} {envU : Unit → Env} (h : spF K T F vs H Q E)
    (hs : ∀ p c ds, (∃ (P : D → Nat → Prop) (X : Str → Fs → Nat → Prop) (b : Nat), Al P X (F ds) b) → ∃ m, F ds = fin m ∧ SS ⟨K, T, p, c⟩ E (ds.map Sl.fz ++ List.replicate (N.length - ds.length) Sl.no) t envU envE m) : t { nx := fun _ H' => Q .non H', rt := Q } (L2.start N vs) H := by
  obtain ⟨p, c, U, ds, b, dn, wd, u, al⟩ := h
  obtain ⟨m, e, ss⟩ := hs p c ds ⟨_, _, _, al⟩
  rw [e] at al
  have nn : ∀ i a, ¬ OwnAt (L2.start N vs) (ds.map Sl.fz ++ List.replicate (N.length - ds.length) Sl.no) i a := fun i a ⟨_, z⟩ => by
    have : ∀ s : Sl, (ds.map Sl.fz ++ List.replicate (N.length - ds.length) Sl.no)[i]? = some s → (∃ d, s = .fz d) ∨ s = .no := fun s e => by
      have m := List.mem_of_getElem? e
      rcases List.mem_append.mp m with m | m
      · obtain ⟨d, _, e⟩ := List.mem_map.mp m
        exact .inl ⟨d, e.symm⟩
      · exact .inr (List.mem_replicate.mp m).2
    rcases z with ⟨x, z⟩ | ⟨x, y, z⟩
    · rcases this _ z with ⟨d, e⟩ | e <;> cases e
    · rcases this _ z with ⟨d, e⟩ | e <;> cases e
  refine ss (fun _ => False) U H U _ _ H b ⟨rel_start dn, wd, u, fun _ z => z, fun i a z => (nn i a z).elim, fun _ _ z _ _ _ => z, fun i ds' a z1 z2 => (nn i a ⟨z2, .inl ⟨ds', z1⟩⟩).elim, fun i c fs a _ z1 z2 => (nn i a ⟨z2, .inr ⟨c, fs, z1⟩⟩).elim⟩ ((al_bd.mp al).mono (fun f b1 h1 => ?_) (fun c fs b1 h1 => ?_))
  · cases f with
    | nx w => exact fun U' σ' H' e s => h1 .non H' .non s.wd fun a o z1 z2 z3 => s.ext a o z1 z2 (fun z => z) z3
    | rt d => exact fun v H' dn w f => h1 v H' dn w fun a o z1 z2 z3 => f a o z1 z2 (fun z => z) z3
    | bk e => exact nomatch e
    | ct e => exact nomatch e
  · exact fun dd fvs H' z1 z2 z3 z4 z5 => h1 dd fvs H' z1 z2 z3 z4 fun a o y1 y2 y3 => z5 a o y1 y2 (fun z => z) y3
theorem le_no : ∀ (ε : Env) {n : Nat}, ε.length = n → Le (List.replicate n Sl.no) ε
  | [], _, rfl => .nil
  | x :: r, _, rfl => by
    show Le (List.replicate (r.length + 1) Sl.no) (x :: r)
    rw [List.replicate_succ]
    exact .n (le_no r rfl)
theorem fn_of1 {K : PySem.W.Frag} {T : List (Addr × Str)} {N : List Str} {F : D → Tr D} {vs : List V} {Q : VK} {t : TS} {envU : Unit → Env} {m : D → Tr (Fl Unit Empty)} (h : spF K T (ul1 F) vs H Q E) (hF : ∀ x, F x = fin (m x)) (hs : ∀ p c x, SS ⟨K, T, p, c⟩ E ([x].map Sl.fz ++ List.replicate (N.length - 1) Sl.no) t envU envE (m x)) : t { nx := fun _ H' => Q .non H', rt := Q } (L2.start N vs) H :=
  fn_of h fun p c ds ⟨_, _, _, al⟩ => by
    obtain ⟨x, rfl, _⟩ := al_ul1 al
    exact ⟨m x, hF x, hs p c x⟩
theorem fn_of2 {K : PySem.W.Frag} {T : List (Addr × Str)} {N : List Str} {F : D → D → Tr D} {vs : List V} {Q : VK} {t : TS} {envU : Unit → Env} {m : D → D → Tr (Fl Unit Empty)} (h : spF K T (ul2 F) vs H Q E) (hF : ∀ x y, F x y = fin (m x y)) (hs : ∀ p c x y, SS ⟨K, T, p, c⟩ E ([x, y].map Sl.fz ++ List.replicate (N.length - 2) Sl.no) t envU envE (m x y)) : t { nx := fun _ H' => Q .non H', rt := Q } (L2.start N vs) H :=
  fn_of h fun p c ds ⟨_, _, _, al⟩ => by
    obtain ⟨x, y, rfl, _⟩ := al_ul2 al
    exact ⟨m x y, hF x y, hs p c x y⟩
theorem fn_of3 {K : PySem.W.Frag} {T : List (Addr × Str)} {N : List Str} {F : D → D → D → Tr D} {vs : List V} {Q : VK} {t : TS} {envU : Unit → Env} {m : D → D → D → Tr (Fl Unit Empty)} (h : spF K T (ul3 F) vs H Q E) (hF : ∀ x y z, F x y z = fin (m x y z)) (hs : ∀ p c x y z, SS ⟨K, T, p, c⟩ E ([x, y, z].map Sl.fz ++ List.replicate (N.length - 3) Sl.no) t envU envE (m x y z)) : t { nx := fun _ H' => Q .non H', rt := Q } (L2.start N vs) H :=
  fn_of h fun p c ds ⟨_, _, _, al⟩ => by
    obtain ⟨x, y, z, rfl, _⟩ := al_ul3 al
    exact ⟨m x y z, hF x y z, hs p c x y z⟩
theorem spF_len {K : PySem.W.Frag} {T : List (Addr × Str)} {F : List D → Tr D} {n : Nat} (hn : ∀ (P : D → Nat → Prop) (X : Str → Fs → Nat → Prop) ds b, Al P X (F ds) b → ds.length = n) {vs : List V} {Q : VK} (h : spF K T F vs H Q E) : vs.length = n := by
  obtain ⟨p, c, U, ds, b, dn, wd, u, al⟩ := h
  rw [dn.length]
  exact hn _ _ _ _ al
theorem len1 {F : D → Tr D} (P : D → Nat → Prop) (X : Str → Fs → Nat → Prop) (ds : List D) (b : Nat) (h : Al P X (ul1 F ds) b) : ds.length = 1 := by obtain ⟨_, rfl, _⟩ := al_ul1 h; rfl
theorem len2 {F : D → D → Tr D} (P : D → Nat → Prop) (X : Str → Fs → Nat → Prop) (ds : List D) (b : Nat) (h : Al P X (ul2 F ds) b) : ds.length = 2 := by obtain ⟨_, _, rfl, _⟩ := al_ul2 h; rfl
theorem len3 {F : D → D → D → Tr D} (P : D → Nat → Prop) (X : Str → Fs → Nat → Prop) (ds : List D) (b : Nat) (h : Al P X (ul3 F ds) b) : ds.length = 3 := by obtain ⟨_, _, _, rfl, _⟩ := al_ul3 h; rfl
theorem srl_sp0 {F : List D → Tr D} : SRL g E (rSp (spF g.K g.T F) [] E) F := fun U H b xs dxs Q dn wd u q =>
  ⟨g.p, g.c, U, dxs, b, by rw [List.append_nil]; exact dn, wd, u, q⟩
theorem al_isO {α : Type} {P : α → Nat → Prop} {X : Str → Fs → Nat → Prop} {c : Str} {o : D} {k : Fs → Tr α} (h : Al P X (isO c o k) b) : ∃ fs, o = .obj c fs ∧ Al P X (k fs) b := by
  unfold isO at h
  split at h
  · split at h
    · rename_i e
      subst e
      exact ⟨_, rfl, h⟩
    · exact h.elim
  · exact h.elim
theorem den_obj {v : V} {c : Str} {fs : Fs} (h : Den g U H v (.obj c fs)) : ∃ a dx fvs, v = .ref a ∧ H a = some (.ins (gd c g.K) dx fvs) ∧ ¬ U a ∧ DenF g U H fvs fs := by
  cases h with
  | obj h n k => exact ⟨_, _, _, rfl, h, n, k⟩
theorem se_mt {c m : Str} {r : List V → Hp → VK → Prop} {f : List D → Tr D} {ta : TE} {ma : Tr D} {t : TA} {mt : Tr (List D)} (hr : SRL g E r f) (ha : SE g E ε ta ma) (ht : SA g E ε t mt) :
    SE g E ε (tMt (gd c g.K) m r ta t) (bd ma fun o => isO c o fun fs => if fs.lookup m = none then bd mt fun ds => f (o :: ds) else .bad) := fun U σ H b Q R W u q =>
  ha.step R W u q fun v d H1 b1 d1 w1 f1 R1 u1 q1 => by
    obtain ⟨fs, rfl, q2⟩ := al_isO q1
    obtain ⟨a, dx, fvs, rfl, ea, na, df⟩ := den_obj d1
    by_cases hl : fs.lookup m = none
    · rw [if_pos hl] at q2
      refine ⟨a, dx, fvs, rfl, ea, df.look0 hl, ?_⟩
      refine ht.step R1 w1 u1 q2 fun vs ds H2 b2 d2 w2 f2 R2 u2 q3 => ?_
      exact hr U H2 b2 _ _ Q (.cons (d1.fr u1 f2) d2) w2 u2 (q3.mono (fun _ _ h => h.fr (f1.trans f2)) (fun _ _ _ h => h))
    · rw [if_neg hl] at q2
      exact q2.elim
theorem se_pr {c : Str} {F : List D → Tr D} {ta : TE} {ma : Tr D} (ha : SE g EF ε ta ma) : SE g EF ε (tPr (gd c g.K) (spF g.K g.T F) [] EF ta) (bd ma fun o => isO c o fun _ => F [o]) := fun U σ H b Q R W u q =>
  ha.step R W u q fun v d H1 b1 d1 w1 f1 R1 u1 q1 => by
    obtain ⟨fs, rfl, q2⟩ := al_isO q1
    obtain ⟨a, dx, fvs, rfl, ea, na, df⟩ := den_obj d1
    exact ⟨a, dx, fvs, rfl, ea, g.p, g.c, U, [.obj c fs], b1, .cons d1 .nil, w1, u1, q2.mono (fun _ _ h => h.fr f1) (fun _ _ _ h => h)⟩
theorem sr_fld {c f : Str} : SR1 g E (rFld (gd c g.K) f) (fldD c f) := fun U H b x dx Q dn wd u q => by
  obtain ⟨fs, rfl, q2⟩ := al_isO q
  obtain ⟨a, dx, fvs, rfl, ea, na, df⟩ := den_obj dn
  cases e : fs.lookup f with
  | none => rw [e] at q2; exact q2.elim
  | some d =>
    rw [e] at q2
    obtain ⟨v, hv, d1⟩ := df.look e
    exact st_fld ea hv (okP.here q2 wd d1)
def spI (K : PySem.W.Frag) (T : List (Addr × Str)) (cn : Str) (F : Fs → List D → Tr Fs) : Sp := fun vs H Q E => ∃ p c U ds b x dx fvs fs rest, vs = .ref x :: rest ∧ H x = some (.ins (gd cn K) dx fvs) ∧ DenF ⟨K, T, p, c⟩ U H fvs fs ∧ U x ∧ x ≠ p ∧ x ≠ c ∧ DenL ⟨K, T, p, c⟩ U H rest ds ∧
  Wd ⟨K, T, p, c⟩ H b ∧ UOk ⟨K, T, p, c⟩ U H ∧ Al (fun fs' b' => ∀ dx' fvs' H', H' x = some (.ins (gd cn K) dx' fvs') → DenF ⟨K, T, p, c⟩ U H' fvs' fs' → Wd ⟨K, T, p, c⟩ H' b' → FrM ⟨K, T, p, c⟩ (· = x) H H' → Q .non H')
    (fun cn fs b => ∀ dd fvs H', H' dd = some (.xd fvs) → ¬ U dd → DenF ⟨K, T, p, c⟩ U H' fvs fs → Wd ⟨K, T, p, c⟩ H' b → FrM ⟨K, T, p, c⟩ (· = x) H H' → E (.ref (gd cn K)) (some dd) H') (F fs ds) b
theorem srl_mk {cn : Str} {F : Fs → List D → Tr Fs} {dvs : List V} {dds : List D} (hd : ∀ U H, DenL g U H dvs dds) : SRL g E (rMk (gd cn g.K) (spI g.K g.T cn F) dvs E) (fun ds => bd (F [] (ds ++ dds)) fun fs => .ok (.obj cn fs)) := fun U H b xs dxs Q dn wd u q => by
  unfold rMk
  intro x dx nx ndx ne
  have s1 : L2.Same H (upd (upd H dx (.own x)) x (.ins (gd cn g.K) dx [])) := fun a o e => by
    rw [upd_ne (ne_of_none e nx), upd_ne (ne_of_none e ndx)]
    exact e
  have nU : ¬ U x := u.new nx
  have hp : x ≠ g.p := fun z => nU (z ▸ u.p)
  have hc : x ≠ g.c := fun z => nU (z ▸ u.c)
  have sx : ∀ a, (∃ o, H a = some o) → (U a ∨ a = x) → U a := fun a ⟨o, e⟩ z => z.elim (fun z => z) (fun z => (ne_of_none e nx z).elim)
  have k1 : DenL g (fun a => U a ∨ a = x) (upd (upd H dx (.own x)) x (.ins (gd cn g.K) dx [])) (xs ++ dvs) (dxs ++ dds) := ((dn.append (hd U H)).grow nx).ext (fun a o e _ _ => s1 a o e)
  have k2 : UOk g (fun a => U a ∨ a = x) (upd (upd H dx (.own x)) x (.ins (gd cn g.K) dx [])) := ⟨.inl u.p, .inl u.c, fun a ha => by
    rcases ha with ha | rfl
    · obtain ⟨o, e, t⟩ := u.al a ha
      exact ⟨o, s1 a o e, t⟩
    · exact ⟨_, upd_same, (fun _ z => by cases z), (fun _ z => by cases z)⟩⟩
  have fr : ∀ {H' : Hp}, FrM g (· = x) (upd (upd H dx (.own x)) x (.ins (gd cn g.K) dx [])) H' → Fr H H' g.p := fun f1 a o e n t => f1 a o (s1 a o e) n (fun z => ne_of_none e nx z) t
  exact ⟨g.p, g.c, fun a => U a ∨ a = x, dxs ++ dds, b, x, dx, [], [], xs ++ dvs, rfl, upd_same, .nil, .inr rfl, hp, hc, k1, wd.same s1, k2,
    (al_bd.mp q).mono (fun fs b1 h1 dx' fvs' H' e1 d1 w1 f1 => ⟨rfl, h1 _ H' (.obj e1 nU (d1.sub fun a _ z => .inl z)) w1 (fr f1)⟩) (fun c fs b1 h1 dd fvs H' e1 n1 d1 w1 f1 => h1 dd fvs H' e1 (fun z => n1 (.inl z)) (d1.sub fun a _ z => .inl z) w1 (fr f1))⟩
theorem srl_mk0 {cn : Str} {F : Fs → List D → Tr Fs} : SRL g E (rMk (gd cn g.K) (spI g.K g.T cn F) [] E) (fun ds => bd (F [] ds) fun fs => .ok (.obj cn fs)) := by
  have h := srl_mk (g := g) (E := E) (cn := cn) (F := F) (dvs := []) (dds := []) (fun _ _ => .nil)
  intro U H b xs dxs Q dn wd u q
  refine h U H b xs dxs Q dn wd u ?_
  show Al _ _ (bd (F [] (dxs ++ [])) _) b
  rw [List.append_nil]
  exact q
theorem ini_of {K : PySem.W.Frag} {T : List (Addr × Str)} {N : List Str} {cn : Str} {F : Fs → List D → Tr Fs} {vs : List V} {Q : VK} {t : TS} {envI : Fs → Env} (h : spI K T cn F vs H Q E)
    (hs : ∀ p c fs ds, (∃ (P : Fs → Nat → Prop) (X : Str → Fs → Nat → Prop) (b : Nat), Al P X (F fs ds) b) → ∃ m, F fs ds = finI m ∧ SS ⟨K, T, p, c⟩ E (.oi cn fs :: (ds.map Sl.fz ++ List.replicate (N.length - (ds.length + 1)) Sl.no)) t envI envE m)
    (he : ∀ fs, (envI fs)[0]? = some (.oi cn fs)) : t { nx := fun _ H' => Q .non H', rt := Q } (L2.start N vs) H := by
  obtain ⟨p, c, U, ds, b, x, dx, fvs, fs, rest, rfl, hx, df, ux, np, nc, dn, wd, u, al⟩ := h
  obtain ⟨m, e, ss⟩ := hs p c fs ds ⟨_, _, _, al⟩
  rw [e] at al
  have st0 : L2.start N (.ref x :: rest) = some (.ref x) :: (rest.map some ++ List.replicate (N.length - (rest.length + 1)) none) := rfl
  have r1 : Rel ⟨K, T, p, c⟩ U H (rest.map some ++ List.replicate (N.length - (rest.length + 1)) none) (ds.map Sl.fz ++ List.replicate (N.length - (ds.length + 1)) Sl.no) := by
    have z := rel_start (g := ⟨K, T, p, c⟩) (N := N.drop 1) dn
    unfold L2.start at z
    rw [List.length_drop, Nat.sub_sub, Nat.sub_sub, Nat.add_comm 1, Nat.add_comm 1] at z
    exact z
  have nn : ∀ i a, ¬ OwnAt (rest.map some ++ List.replicate (N.length - (rest.length + 1)) none) (ds.map Sl.fz ++ List.replicate (N.length - (ds.length + 1)) Sl.no) i a := fun i a ⟨_, z⟩ => by
    have : ∀ s : Sl, (ds.map Sl.fz ++ List.replicate (N.length - (ds.length + 1)) Sl.no)[i]? = some s → (∃ d, s = .fz d) ∨ s = .no := fun s e => by
      have m := List.mem_of_getElem? e
      rcases List.mem_append.mp m with m | m
      · obtain ⟨d, _, e⟩ := List.mem_map.mp m
        exact .inl ⟨d, e.symm⟩
      · exact .inr (List.mem_replicate.mp m).2
    rcases z with ⟨x, z⟩ | ⟨x, y, z⟩
    · rcases this _ z with ⟨d, e⟩ | e <;> cases e
    · rcases this _ z with ⟨d, e⟩ | e <;> cases e
  have own : ∀ i a, OwnAt (L2.start N (.ref x :: rest)) (.oi cn fs :: (ds.map Sl.fz ++ List.replicate (N.length - (ds.length + 1)) Sl.no)) i a → i = 0 ∧ a = x := fun i a z => by
    rw [st0] at z
    obtain ⟨z1, z2⟩ := z
    cases i with
    | zero =>
      rw [List.getElem?_cons_zero] at z1
      cases z1
      exact ⟨rfl, rfl⟩
    | succ i =>
      rw [List.getElem?_cons_succ] at z1
      rw [List.getElem?_cons_succ] at z2
      exact (nn i a ⟨z1, z2⟩).elim
  refine ss (· = x) U H U _ _ H b ⟨⟨?_, fun i s e => ?_, fun i j a ne h1 h2 => ?_⟩, wd, u, fun _ z => z, fun i a z => .inl (own i a z).2, fun _ _ z _ _ _ => z, fun i ds' a z1 z2 => ?_, fun i c' fs' a _ z1 z2 => ⟨fun _ => (own i a ⟨z2, .inr ⟨c', fs', z1⟩⟩).2, fun n => absurd (own i a ⟨z2, .inr ⟨c', fs', z1⟩⟩).1 n⟩⟩ ((al_bd.mp al).mono (fun f b1 h1 => ?_) (fun c fs b1 h1 => ?_))
  · rw [st0, List.length_cons, List.length_cons, r1.len]
  · rw [st0]
    cases i with
    | zero =>
      rw [List.getElem?_cons_zero] at e
      cases e
      exact ⟨_, rfl, x, dx, fvs, rfl, hx, df, ux, np, nc⟩
    | succ i =>
      rw [List.getElem?_cons_succ] at e
      rw [List.getElem?_cons_succ]
      exact r1.at_ i s e
  · exact ne ((own _ _ h1).1.trans (own _ _ h2).1.symm)
  · obtain ⟨rfl, _⟩ := own i a ⟨z2, .inl ⟨ds', z1⟩⟩
    cases z1
  · cases f with
    | nx w =>
      intro U' σ' H' ev s
      obtain ⟨o, e1, a, dx', fvs', rfl, ha, da, ua, _, _⟩ := s.rel.at_ 0 _ (he w)
      have ea := (s.oim 0 cn w a trivial (he w) e1).1 rfl
      subst ea
      exact h1 dx' fvs' H' ha (da.sub fun z _ y => s.sub z y) s.wd s.ext
    | rt d => exact h1.elim
    | bk e => exact nomatch e
    | ct e => exact nomatch e
  · exact fun dd fvs H' z1 z2 z3 z4 z5 => h1 dd fvs H' z1 z2 z3 z4 z5
end
end Gp
end
section
namespace Gp
open PySem PySem.Spec PyProof.Rows L2 Gh
section
variable {g : Gw} {U : Addr → Prop} {H H' H1 : Hp} {b : Nat} {E : XK} {Q : VK}
theorem denL_dp {K : PySem.W.Frag} : ∀ {vs : List V} {ds : List D} {es : List PyData}, DenL g U H vs ds → (∀ d ∈ ds, ∀ v e, Den g U H v d → toPy d = some e → Dp g.K H v e) → toPyL ds = some es → DpAll g.K H vs es
  | _, _, _, .nil, _, h => by cases h; exact .nil
  | _, d :: ds, es, .cons a r, ih, h => by
    unfold toPyL at h
    cases e1 : toPy d with
    | none => rw [e1] at h; cases h
    | some e =>
      cases e2 : toPyL ds with
      | none => rw [e1, e2] at h; cases h
      | some es' =>
        rw [e1, e2] at h
        cases h
        exact .cons (ih d List.mem_cons_self _ _ a e1) (denL_dp (K := K) r (fun d hd => ih d (List.mem_cons_of_mem _ hd)) e2)
theorem den_dp : ∀ (d : D) {v : V} {e : PyData}, Den g U H v d → toPy d = some e → Dp g.K H v e
  | .non, _, _, h, z => by cases h; cases z; exact .non
  | .bl b, _, _, h, z => by cases h; cases z; exact .bl b
  | .int i, _, _, h, z => by cases h; cases z; exact .int i
  | .str x, _, _, h, z => by cases h; cases z; exact .str x
  | .tup ds, v, e, h, z => by
    unfold toPy at z
    cases q : toPyL ds with
    | none => rw [q] at z; cases z
    | some es =>
      rw [q] at z
      cases z
      obtain ⟨a, vs, rfl, sq, _, k⟩ := den_tup h
      exact .tup sq (denL_dp (K := g.K) k (fun d hd v e h1 h2 => den_dp d h1 h2) q)
  | .lst ds, v, e, h, z => by
    unfold toPy at z
    cases q : toPyL ds with
    | none => rw [q] at z; cases z
    | some es =>
      rw [q] at z
      cases z
      obtain ⟨a, vs, rfl, hh, _, _, k⟩ := den_lst h
      exact .lst (SqL.of hh) (denL_dp (K := g.K) k (fun d hd v e h1 h2 => den_dp d h1 h2) q)
  | .obj _ _, _, _, _, z => by cases z
  | .err _ _, _, _, _, z => by cases z
  | .pen, _, _, _, z => by cases z
theorem new_lst {vs : List V} {ds : List D} (q : okP g U H Q (.lst ds) b) (w : Wd g H b) (u : UOk g U H) (l : vs.length ≤ sizeLine) (dn : DenL g U H vs ds) : ∀ p, H p = none → Q (.ref p) (upd H p (.lst vs)) := fun p np =>
  q _ _ (.lst upd_same (u.new np) l (dn.ext (fun a o e _ _ => same_new np a o e))) (w.same (same_new np)) (fr_same (same_new np))
theorem new_tup {vs : List V} {ds : List D} (q : okP g U H Q (.tup ds) b) (w : Wd g H b) (u : UOk g U H) (l : vs.length ≤ sizeLine) (dn : DenL g U H vs ds) : ∀ p, H p = none → Q (.ref p) (upd H p (.tup vs)) := fun p np =>
  q _ _ (.tup upd_same (u.new np) l (dn.ext (fun a o e _ _ => same_new np a o e))) (w.same (same_new np)) (fr_same (same_new np))
theorem al_ii {P : D → Nat → Prop} {X : Str → Fs → Nat → Prop} {f : Int → Int → D} {x y : D} (h : Al P X (iiD f x y) b) : ∃ i j, x = .int i ∧ y = .int j ∧ P (f i j) b := by
  unfold iiD at h
  split at h
  · exact ⟨_, _, rfl, rfl, h⟩
  · exact h.elim
theorem al_iic {P : D → Nat → Prop} {X : Str → Fs → Nat → Prop} {c : Int → Int → Prop} [∀ i j, Decidable (c i j)] {f : Int → Int → D} {x y : D} (h : Al P X (iicD c f x y) b) : ∃ i j, x = .int i ∧ y = .int j ∧ c i j ∧ P (f i j) b := by
  unfold iicD at h
  split at h
  · split at h
    · exact ⟨_, _, rfl, rfl, by assumption, h⟩
    · exact h.elim
  · exact h.elim
theorem sr_ii {f : Int → Int → D} {f' : Int → Int → V} (hf : ∀ i j U H, Den g U H (f' i j) (f i j)) : SR2 g E (rI0 f') (iiD f) := fun U H b x y dx dy Q d1 d2 w u q => by
  obtain ⟨i, j, rfl, rfl, q1⟩ := al_ii q
  cases den_int d1
  cases den_int d2
  exact ⟨i, j, rfl, rfl, okP.here q1 w (hf i j U H)⟩
theorem sr_iic {c : Int → Int → Prop} [∀ i j, Decidable (c i j)] {c' : Int → Int → Prop} {f : Int → Int → D} {f' : Int → Int → V} (hc : ∀ i j, c i j → c' i j) (hf : ∀ i j U H, Den g U H (f' i j) (f i j)) : SR2 g E (rI c' f') (iicD c f) := fun U H b x y dx dy Q d1 d2 w u q => by
  obtain ⟨i, j, rfl, rfl, hij, q1⟩ := al_iic q
  cases den_int d1
  cases den_int d2
  exact ⟨i, j, rfl, rfl, hc i j hij, okP.here q1 w (hf i j U H)⟩
def geD : D → D → Tr D := iiD fun i j => .bl (decide (j ≤ i))
def divD : D → D → Tr D := iicD (fun _ j => 0 < j ∧ j < 10 ^ 100) fun i j => .int (i / j)
theorem sr_lt : SR2 g E (rI0 fun i j => .bl (decide (i < j))) ltD := sr_ii fun _ _ _ _ => .bl _
theorem sr_le : SR2 g E (rI0 fun i j => .bl (decide (i ≤ j))) leD := sr_ii fun _ _ _ _ => .bl _
theorem sr_gt : SR2 g E (rI0 fun i j => .bl (decide (j < i))) gtD := sr_ii fun _ _ _ _ => .bl _
theorem sr_sub : SR2 g E (rI0 fun i j => .int (i - j)) subD := sr_ii fun _ _ _ _ => .int _
theorem sr_mod : SR2 g E (rI (fun _ j => 0 < j) fun i j => .int (i % j)) modD := sr_iic (fun _ _ h => h) fun _ _ _ _ => .int _
theorem sr_neg : SR1 g E (rU fun i => .int (-i)) negD := fun U H b x dx Q d1 w u q => by
  cases dx with
  | int i =>
    cases den_int d1
    exact ⟨i, rfl, okP.here q w (.int _)⟩
  | _ => exact q.elim
def rAddA (K : PySem.W.Frag) : R2 := fun x y H Q => rI0 (fun i j => .int (i + j)) x y H Q ∨ (∃ i j, x = .str i ∧ y = .str j ∧ i.length + j.length ≤ sizeLine ∧ Q (.str (i ++ j)) H) ∨ rCat x y H Q ∨ rCatA K x y H Q
theorem op_addA {X : Cx} {K : PySem.W.Frag} (h : X.K = K) : OpR X (binaryOp .Add) (rAddA K) := h ▸ op_add.or (op_add_str.or (op_cat.or op_catA))
theorem str_app_len (a b : Str) : (a ++ b).length = a.length + b.length := by
  show (a.cps ++ b.cps).size = _
  rw [Array.size_append]
  rfl
theorem sr_add : SR2 g E (rAddA g.K) addD := fun U H b x y dx dy Q d1 d2 w u q => by
  unfold addD at q
  split at q
  · rename_i i j
    cases den_int d1
    cases den_int d2
    exact .inl ⟨i, j, rfl, rfl, okP.here q w (.int _)⟩
  · rename_i a c
    split at q
    · rename_i h
      obtain ⟨rfl, l1⟩ := den_str d1
      obtain ⟨rfl, l2⟩ := den_str d2
      exact .inr (.inl ⟨a, c, rfl, rfl, h, okP.here q w (.str _ (by rw [str_app_len]; exact h))⟩)
    · exact q.elim
  · rename_i a c
    split at q
    · rename_i h
      obtain ⟨p1, v1, rfl, h1, n1, l1, k1⟩ := den_lst d1
      obtain ⟨p2, v2, rfl, h2, n2, l2, k2⟩ := den_lst d2
      have hl : v1.length + v2.length ≤ sizeLine := by rw [k1.length, k2.length]; exact h
      exact .inr (.inr (.inl ⟨p1, p2, v1, v2, rfl, rfl, h1, h2, hl, new_lst q w u (by rw [List.length_append]; exact hl) (k1.append k2)⟩))
    · exact q.elim
  · rename_i a c
    split at q
    · rename_i h
      obtain ⟨p1, v1, rfl, h1, l1, k1⟩ := den_tup d1
      obtain ⟨p2, v2, rfl, h2, l2, k2⟩ := den_tup d2
      have hl : v1.length + v2.length ≤ sizeLine := by rw [k1.length, k2.length]; exact h
      refine .inr (.inr (.inr ⟨p1, p2, v1, v2, rfl, rfl, h1, h2, hl, fun e => ?_, fun _ e => ?_, fun _ _ => new_tup q w u (by rw [List.length_append]; exact hl) (k1.append k2)⟩))
      · subst e
        cases k1
        exact okP.here q w d2
      · subst e
        cases k2
        rw [List.append_nil] at q
        exact okP.here q w d1
    · exact q.elim
  · exact q.elim
def rEqA (K : PySem.W.Frag) : R2 := fun x y H Q => rEq x y H Q ∨ rEqD K x y H Q
def rNeA (K : PySem.W.Frag) : R2 := fun x y H Q => rNe x y H Q ∨ rNeD K x y H Q
theorem op_eqA {X : Cx} {K : PySem.W.Frag} (h : X.K = K) (hu : X.A.units + 64 < cLine) : OpR X (compareOp .Eq) (rEqA K) := h ▸ op_eq.or (op_eqD hu)
theorem op_neA {X : Cx} {K : PySem.W.Frag} (h : X.K = K) (hu : X.A.units + 64 < cLine) : OpR X (compareOp .NotEq) (rNeA K) := h ▸ op_ne.or (op_neD hu)
theorem eqS_scal {x y : D} {v w : V} {k : Bool} (h : eqS x y = some k) (d1 : Den g U H v x) (d2 : Den g U H w y) : scal v w = true ∧ decide (v = w) = k := by
  cases x <;> cases y <;> first
    | (cases h; done)
    | (cases d1; cases d2; cases h; exact ⟨rfl, by simp⟩)
theorem al_eqB {P : Bool → Nat → Prop} {X : Str → Fs → Nat → Prop} {x y : D} (h : Al P X (eqB x y) b) : (∃ k, eqS x y = some k ∧ P k b) ∨ ∃ a c, toPy x = some a ∧ toPy y = some c ∧ SeqAt.shaped a = true ∧ SeqAt.shaped c = true ∧ P (PyData.eqv a c) b := by
  unfold eqB at h
  split at h
  · exact .inl ⟨_, by assumption, h⟩
  · split at h
    · split at h
      · rename_i e1 e2 z
        exact .inr ⟨_, _, e1, e2, z.1, z.2, h⟩
      · exact h.elim
    · exact h.elim
theorem sr_eq : SR2 g E (rEqA g.K) eqD := fun U H b x y dx dy Q d1 d2 w u q => by
  rcases al_eqB (al_bd.mp q) with ⟨k, e, q1⟩ | ⟨a, c, e1, e2, s1, s2, q1⟩
  · obtain ⟨h1, h2⟩ := eqS_scal e d1 d2
    refine .inl ⟨h1, ?_⟩
    rw [h2]
    exact okP.here q1 w (.bl _)
  · exact .inr ⟨a, c, den_dp dx d1 e1, den_dp dy d2 e2, s1, s2, okP.here q1 w (.bl _)⟩
theorem sr_ne : SR2 g E (rNeA g.K) neD := fun U H b x y dx dy Q d1 d2 w u q => by
  rcases al_eqB (al_bd.mp q) with ⟨k, e, q1⟩ | ⟨a, c, e1, e2, s1, s2, q1⟩
  · obtain ⟨h1, h2⟩ := eqS_scal e d1 d2
    refine .inl ⟨h1, ?_⟩
    rw [h2]
    exact okP.here q1 w (.bl _)
  · exact .inr ⟨a, c, den_dp dx d1 e1, den_dp dy d2 e2, s1, s2, okP.here q1 w (.bl _)⟩
def isN (x : D) : Bool := match x with
  | .non => true
  | _ => false
theorem den_non {v : V} {d : D} (h : Den g U H v d) : decide (v = .non) = isN d := by
  cases h <;> simp [isN]
theorem sr_isN : SR2 g E rIsN (fun x y => match y with | .non => .ok (.bl (isN x)) | _ => .bad) := fun U H b x y dx dy Q d1 d2 w u q => by
  cases dy with
  | non =>
    cases d2
    refine st_isN ?_
    rw [den_non d1]
    exact okP.here q w (.bl _)
  | _ => exact q.elim
theorem sr_notN : SR2 g E rNotN (fun x y => match y with | .non => .ok (.bl (!isN x)) | _ => .bad) := fun U H b x y dx dy Q d1 d2 w u q => by
  cases dy with
  | non =>
    cases d2
    refine st_notN ?_
    rw [den_non d1]
    exact okP.here q w (.bl _)
  | _ => exact q.elim
theorem ix_seqK {X : Cx} {K : PySem.W.Frag} (h : X.K = K) : IxR X (rIx K) := h ▸ ix_seq
theorem denL_at {vs : List V} {ds : List D} {i : Int} {d : D} (h : DenL g U H vs ds) (e : atI ds i = some d) : ∃ v, atI vs i = some v ∧ Den g U H v d := by
  unfold atI at e ⊢
  rw [h.length]
  cases q : ixN ds.length i with
  | none => rw [q] at e; cases e
  | some j =>
    rw [q] at e
    exact h.getD e
theorem sr_ix : SR2 g E (rIx g.K) ixD := fun U H b x y dx dy Q d1 d2 w u q => by
  unfold ixD at q
  split at q
  · rename_i ds i
    split at q
    · rename_i d e
      obtain ⟨p, vs, rfl, h, n, l, k⟩ := den_lst d1
      cases den_int d2
      obtain ⟨v, hv, dv⟩ := denL_at k e
      exact .inl ⟨p, vs, i, v, rfl, rfl, SqL.of h, hv, okP.here q w dv⟩
    · exact q.elim
  · rename_i ds i
    split at q
    · rename_i d e
      obtain ⟨p, vs, rfl, h, l, k⟩ := den_tup d1
      cases den_int d2
      obtain ⟨v, hv, dv⟩ := denL_at k e
      exact .inr (.inl ⟨p, vs, i, v, rfl, rfl, h, hv, okP.here q w dv⟩)
    · exact q.elim
  · rename_i z i
    split at q
    · rename_i c e
      obtain ⟨rfl, l⟩ := den_str d1
      cases den_int d2
      exact .inr (.inr ⟨z, i, c, rfl, rfl, l, e, okP.here q w den1⟩)
    · exact q.elim
  · exact q.elim
theorem srl_len : SRL g E (rLn g.K) (ul1 lenD) := fun U H b xs dxs Q dn w u q => by
  obtain ⟨x, rfl, q1⟩ := al_ul1 q
  obtain ⟨v, rfl, d1⟩ := denL_1 dn
  cases x with
  | lst ds =>
    obtain ⟨p, vs, rfl, h, n, l, k⟩ := den_lst d1
    refine st_lenL h ?_
    rw [k.length]
    exact okP.here q1 w (.int _)
  | tup ds =>
    obtain ⟨p, vs, rfl, h, l, k⟩ := den_tup d1
    unfold rLn
    exact ⟨_, _, rfl, .inr ⟨vs, h, rfl⟩, by rw [k.length]; exact okP.here q1 w (.int _)⟩
  | str z =>
    obtain ⟨rfl, l⟩ := den_str d1
    exact st_lenS l (okP.here q1 w (.int _))
  | _ => exact q1.elim
def listD (x : D) : Tr D := match x with
  | .lst ds => .ok (.lst ds)
  | .tup ds => .ok (.lst ds)
  | _ => .bad
theorem srl_list : SRL g E (rListOf g.K) (ul1 listD) := fun U H b xs dxs Q dn w u q => by
  obtain ⟨x, rfl, q1⟩ := al_ul1 q
  obtain ⟨v, rfl, d1⟩ := denL_1 dn
  unfold rListOf
  cases x with
  | lst ds =>
    obtain ⟨p, vs, rfl, h, n, l, k⟩ := den_lst d1
    exact ⟨p, vs, rfl, .inl (SqL.of h), new_lst q1 w u l k⟩
  | tup ds =>
    obtain ⟨p, vs, rfl, h, l, k⟩ := den_tup d1
    exact ⟨p, vs, rfl, .inr h, new_lst q1 w u l k⟩
  | _ => exact q1.elim
def tupD (x : D) : Tr D := match x with
  | .lst ds => .ok (.tup ds)
  | .tup ds => .ok (.tup ds)
  | _ => .bad
theorem srl_tup : SRL g E (rTupOf g.K) (ul1 tupD) := fun U H b xs dxs Q dn w u q => by
  obtain ⟨x, rfl, q1⟩ := al_ul1 q
  obtain ⟨v, rfl, d1⟩ := denL_1 dn
  unfold rTupOf
  cases x with
  | lst ds =>
    obtain ⟨p, vs, rfl, h, n, l, k⟩ := den_lst d1
    exact ⟨p, vs, rfl, .inl ⟨SqL.of h, new_tup q1 w u l k⟩⟩
  | tup ds =>
    obtain ⟨p, vs, rfl, h, l, k⟩ := den_tup d1
    exact ⟨p, vs, rfl, .inr ⟨h, okP.here q1 w d1⟩⟩
  | _ => exact q1.elim
theorem srl_int : SRL g E rInt (ul1 intD) := fun U H b xs dxs Q dn w u q => by
  obtain ⟨x, rfl, q1⟩ := al_ul1 q
  obtain ⟨v, rfl, d1⟩ := denL_1 dn
  cases x with
  | int i => cases d1; exact st_int (okP.here q1 w (.int _))
  | bl k => cases d1; exact st_intB (okP.here q1 w (.int _))
  | _ => exact q1.elim
def absD (x : D) : Tr D := match x with
  | .int i => .ok (.int (if i < 0 then -i else i))
  | _ => .bad
end
end Gp
end
section
namespace Gp
open PySem PySem.Spec PyProof.Rows L2 Gh
section
variable {g : Gw} {Mt U0 U U' : Addr → Prop} {H0 H H' H1 H2 : Hp} {b b1 : Nat} {σ : L2.St} {ε ε' : Env} {E : XK} {Q : VK} {W L W' : Type}
variable {env : W → Env} {envL : L → Env} {env' : W' → Env} {u ta tb : TS} {te : TE} {me : Tr D}
def flatD : D → Bool
  | .non => true
  | .bl _ => true
  | .int _ => true
  | .str _ => true
  | _ => false
def eqF : D → D → Bool
  | .non, .non => true
  | .bl a, .bl b => a == b
  | .bl a, .int b => (if a then 1 else 0) == b
  | .int a, .bl b => a == (if b then 1 else 0)
  | .int a, .int b => a == b
  | .str a, .str b => a == b
  | _, _ => false
theorem flat_den {v : V} {d : D} (h : Den g U H v d) (f : flatD d = true) : flatV v = true := by
  cases h <;> first
    | rfl
    | cases f
theorem eqF_den {v w : V} {d e : D} (h : Den g U H v d) (k : Den g U H w e) : eqF d e = eqV v w := by
  cases h <;> cases k <;> rfl
def inD (x : D) (ds : List D) : Bool := ds.any fun y => eqF y x
theorem inD_den {v : V} {d : D} (h : Den g U H v d) : ∀ {vs : List V} {ds : List D}, DenL g U H vs ds → inD d ds = inV v vs
  | _, _, .nil => rfl
  | _, _, .cons a r => by
    have := inD_den h r
    unfold inD inV at this ⊢
    rw [List.any_cons, List.any_cons, eqF_den a h, this]
theorem flats_den : ∀ {vs : List V} {ds : List D}, DenL g U H vs ds → ds.all flatD = true → vs.all flatV = true
  | _, _, .nil, _ => rfl
  | _, _, .cons a r, f => by
    rw [List.all_cons, Bool.and_eq_true] at f ⊢
    exact ⟨flat_den a f.1, flats_den r f.2⟩
def inB (x y : D) : Tr Bool := match y with
  | .lst ds => if flatD x = true ∧ ds.all flatD = true then .ok (inD x ds) else .bad
  | .tup ds => if flatD x = true ∧ ds.all flatD = true then .ok (inD x ds) else .bad
  | .str j => match x with
    | .str i => .ok (!(Builtin.Str.occurrences j i 0 j.length 1).isEmpty)
    | _ => .bad
  | _ => .bad
def inOD (x y : D) : Tr D := bd (inB x y) fun k => .ok (.bl k)
def notinD (x y : D) : Tr D := bd (inB x y) fun k => .ok (.bl (!k))
def rNotInA (K : PySem.W.Frag) : R2 := fun x y H Q => rIn K true x y H Q ∨ ∃ i j, x = .str i ∧ y = .str j ∧ Q (.bl (!(!(Builtin.Str.occurrences j i 0 j.length 1).isEmpty))) H
theorem op_notinA {X : Cx} {K : PySem.W.Frag} (h : X.K = K) : OpR X (compareOp .NotIn) (rNotInA K) := h ▸ op_notIn_seq.or op_notin_str
theorem al_inB {P : Bool → Nat → Prop} {Z : Str → Fs → Nat → Prop} {x y : D} {v w : V} (d1 : Den g U H v x) (d2 : Den g U H w y) (h : Al P Z (inB x y) b) :
    (∃ p vs, w = .ref p ∧ (SqL g.K H p vs ∨ SqT g.K H p vs) ∧ flatV v = true ∧ vs.all flatV = true ∧ P (inV v vs) b) ∨ ∃ i j, v = .str i ∧ w = .str j ∧ P (!(Builtin.Str.occurrences j i 0 j.length 1).isEmpty) b := by
  unfold inB at h
  split at h
  · split at h
    · rename_i z
      obtain ⟨p, vs, rfl, hh, _, _, k⟩ := den_lst d2
      rw [inD_den d1 k] at h
      exact .inl ⟨p, vs, rfl, .inl (SqL.of hh), flat_den d1 z.1, flats_den k z.2, h⟩
    · exact h.elim
  · split at h
    · rename_i z
      obtain ⟨p, vs, rfl, hh, _, k⟩ := den_tup d2
      rw [inD_den d1 k] at h
      exact .inl ⟨p, vs, rfl, .inr hh, flat_den d1 z.1, flats_den k z.2, h⟩
    · exact h.elim
  · split at h
    · obtain ⟨rfl, _⟩ := den_str d1
      obtain ⟨rfl, _⟩ := den_str d2
      exact .inr ⟨_, _, rfl, rfl, h⟩
    · exact h.elim
  · exact h.elim
theorem sr_notin : SR2 g E (rNotInA g.K) notinD := fun U H b x y dx dy Q d1 d2 w u q => by
  rcases al_inB d1 d2 (al_bd.mp q) with ⟨p, vs, rfl, h1, h2, h3, h4⟩ | ⟨i, j, rfl, rfl, h⟩
  · exact .inl ⟨p, vs, rfl, h1, h2, h3, okP.here h4 w (.bl _)⟩
  · exact .inr ⟨i, j, rfl, rfl, okP.here h w (.bl _)⟩
def SO (g : Gw) (E : XK) (ε : Env) (t : TO) (m : Tr (Option Int)) : Prop := ∀ U σ H b (Q : Option Int → Hp → Prop), Rel g U H σ ε → Wd g H b → UOk g U H → Al (fun o b' => ∀ H', Wd g H' b' → Fr H H' g.p → Q o H') (exP g U E H) m b → t σ H Q
theorem SO.step {α : Type} {t : TO} {m : Tr (Option Int)} {k : Option Int → Tr α} {P : α → Nat → Prop} {Q : Option Int → Hp → Prop} (ha : SO g E ε t m) (R : Rel g U H σ ε) (W : Wd g H b) (u : UOk g U H) (h : Al P (exP g U E H) (bd m k) b)
    (hk : ∀ d H1 b1, Wd g H1 b1 → Fr H H1 g.p → Rel g U H1 σ ε → UOk g U H1 → Al P (exP g U E H1) (k d) b1 → Q d H1) : t σ H Q :=
  ha U σ H b Q R W u ((al_bd.mp h).mono (fun d b1 h1 H1 w1 f1 => hk d H1 b1 w1 f1 (R.fr u f1) (u.fr f1 w1) (al_frX f1 h1)) (fun _ _ _ h => h))
theorem DenL.reverse : ∀ {vs : List V} {ds : List D}, DenL g U H vs ds → DenL g U H vs.reverse ds.reverse
  | _, _, .nil => .nil
  | _, _, .cons a r => by
    rw [List.reverse_cons, List.reverse_cons]
    exact (DenL.reverse r).append (.cons a .nil)
def SRg (g : Gw) (E : XK) (ε : Env) (t : L2.St → Hp → (Int → Int → Hp → Prop) → Prop) (m : Tr (Int × Int)) : Prop := ∀ U σ H b (Q : Int → Int → Hp → Prop), Rel g U H σ ε → Wd g H b → UOk g U H → Al (fun o b' => ∀ H', Wd g H' b' → Fr H H' g.p → Q o.1 o.2 H') (exP g U E H) m b → t σ H Q
def rgA1 (d : D) : Tr (Int × Int) := match d with
  | .int n => .ok (0, n)
  | _ => .bad
theorem srg_1 (he : SE g E ε te me) : SRg g E ε (tRg1 te) (bd me rgA1) := fun U σ H b Q R W u q =>
  he.step R W u q fun v d H1 b1 d1 w1 f1 R1 u1 q1 => by
    cases d with
    | int i =>
      cases den_int d1
      exact ⟨i, rfl, q1 H1 w1 f1⟩
    | _ => exact q1.elim
def rgOk (a b : Int) : Prop := -(2 ^ 62) ≤ a ∧ a < 2 ^ 62 ∧ -(2 ^ 62) ≤ b ∧ b < 2 ^ 62 ∧ b - a ≤ 16777216
instance (a b : Int) : Decidable (rgOk a b) := by unfold rgOk; infer_instance
theorem denL_rg (a b : Int) : DenL g U H (rgV a b) (rgD a (b - a).toNat) := by
  have e : ∀ ns : List Nat, DenL g U H (ns.map fun i => V.int (a + (i : Nat))) (ns.map fun i => D.int (a + (i : Nat))) := fun ns => by
    induction ns with
    | nil => exact .nil
    | cons n r ih => exact .cons (.int _) ih
  exact e _
theorem rgV_ok {a b : Int} (h : rgOk a b) : (rgV a b).length ≤ sizeLine := by
  rw [rgV_length, sizeLine_eq]
  have := h.2.2.2.2
  omega
theorem se_lstRg {t : L2.St → Hp → (Int → Int → Hp → Prop) → Prop} {m : Tr (Int × Int)} (he : SRg g E ε t m) : SE g E ε (tLstRg t) (bd m fun r => if rgOk r.1 r.2 then .ok (.lst (rgD r.1 (r.2 - r.1).toNat)) else .bad) := fun U σ H b Q R W u q =>
  he U σ H b _ R W u ((al_bd.mp q).mono (fun r b1 h1 H1 w1 f1 => by
    by_cases h : rgOk r.1 r.2
    · rw [if_pos h] at h1
      exact ⟨⟨h.1, h.2.1, h.2.2.1, h.2.2.2.1, by have := h.2.2.2.2; omega⟩, new_lst (okP.fr f1 h1) w1 (u.fr f1 w1) (rgV_ok h) (denL_rg _ _)⟩
    · rw [if_neg h] at h1
      exact h1.elim) (fun _ _ _ h => h))
def IsT (g : Gw) (u : Value) (f : D → Option Bool) : Prop := ∀ U H v d k, Den g U H v d → f d = some k → (∃ t, TyX g.K H v t ∧ PySem.W.kitOne g.K t u = some k) ∨ (∃ a C, v = .ref a ∧ H a = some (exk0 a C) ∧ ErrT g.K C ∧ PySem.W.kitOne g.K (.ref C) u = some k) ∨ ∃ a C dd fvs, v = .ref a ∧ H a = some (exk a C dd) ∧ H dd = some (.xd fvs) ∧ ErrT g.K C ∧ PySem.W.kitOne g.K (.ref C) u = some k
theorem se_isi {cv : V} {u : Value} {f : D → Option Bool} (hc : ClsV cv u) (hT : IsT g u f) (he : SE g E ε te me) : SE g E ε (tCB (rIsiZ g.K) (tCons te (tCons (tC cv) tNil))) (bd me fun d => bd (opt (f d)) fun k => .ok (.bl k)) := fun U σ H b Q R W uo q =>
  he.step R W uo q fun v d H1 b1 d1 w1 f1 R1 u1 q1 => by
    cases e : f d with
    | none => rw [e] at q1; exact q1.elim
    | some k =>
      rw [e] at q1
      have q2 := okP.here (okP.fr f1 q1) w1 (.bl k)
      rcases hT U H1 v d k d1 e with ⟨t, h1, h2⟩ | ⟨a, C, rfl, h1, h3, h4⟩ | ⟨a, C, dd, fvs, rfl, h1, h2, h3, h4⟩
      · exact .inl ⟨v, cv, t, u, k, rfl, hc, h1, h2, q2⟩
      · exact .inr (.inl ⟨a, C, cv, u, k, rfl, hc, h1, h3, h4, q2⟩)
      · exact .inr (.inr ⟨a, C, dd, fvs, cv, u, k, rfl, hc, h1, h2, h3, h4, q2⟩)
theorem kd_ty {v : V} {d : D} {n : String} (h : Den g U H v d) (e : kdN d = some n) : TyX g.K H v (.type n) := by
  cases h with
  | non => cases e; exact .base .non
  | bl b => cases e; exact .base (.bl b)
  | int i => cases e; exact .base (.int i)
  | str x _ => cases e; exact .base (.str x)
  | tup h _ _ _ => cases e; exact .base (.tup h)
  | tupW h _ _ _ =>
    cases e
    rcases h (fun _ => none) with (z | ⟨o, z⟩) | ⟨o, its, n, z1, z2, _⟩
    · cases z
    · cases z
    · exact .kTuple z1 z2
  | lst h _ _ _ => cases e; exact .base (.lst h)
  | obj _ _ _ => cases e
  | err _ _ _ _ _ => cases e
  | pen => cases e
  | cls _ => cases e
  | er0 _ _ => cases e
  | dct h _ => cases e; exact .base (.dK h)
  | dic h _ _ _ => cases e; exact .base (.dK h)
  | dit _ _ _ _ => cases e
  | dik _ _ _ _ => cases e
theorem isT_of {u : Value} {kb : String → Option Bool} {tab etab : List (Str × Bool)} (h1 : ∀ n k, kb n = some k → PySem.W.kitOne g.K (.type n) u = some k) (h2 : ∀ c k, tab.lookup c = some k → Cls g.K (gd c g.K) ∧ InsT g.K (gd c g.K) ∧ PySem.W.kitOne g.K (.ref (gd c g.K)) u = some k)
    (h3 : ∀ c k, etab.lookup c = some k → ErrT g.K (gd c g.K) ∧ PySem.W.kitOne g.K (.ref (gd c g.K)) u = some k) : IsT g u (isF kb tab etab) := fun U H v d k dn e => by
  have base : ∀ d, Den g U H v d → (kdN d).bind kb = some k → ∃ t, TyX g.K H v t ∧ PySem.W.kitOne g.K t u = some k := fun d dn e => by
    cases q : kdN d with
    | none => rw [q] at e; cases e
    | some n =>
      rw [q] at e
      exact ⟨_, kd_ty dn q, h1 n k e⟩
  cases d with
  | obj c fs =>
    obtain ⟨a, dx, fvs, rfl, ea, _, _⟩ := den_obj dn
    obtain ⟨z1, z2, z3⟩ := h2 c k e
    exact .inl ⟨_, z2.ty z1 ea, z3⟩
  | err c fs =>
    cases dn with
    | err ha _ hd _ _ =>
      obtain ⟨z1, z2⟩ := h3 c k e
      exact .inr (.inr ⟨_, _, _, _, rfl, ha, hd, z1, z2⟩)
  | non => exact .inl (base _ dn e)
  | bl b => exact .inl (base _ dn e)
  | int i => exact .inl (base _ dn e)
  | str x => exact .inl (base _ dn e)
  | lst ds => exact .inl (base _ dn e)
  | tup ds => exact .inl (base _ dn e)
  | pen => exact .inl (base _ dn e)
  | cls c => exact .inl (base _ dn e)
  | er0 c =>
    cases dn with
    | er0 ha _ =>
      obtain ⟨z1, z2⟩ := h3 c k e
      exact .inr (.inl ⟨_, _, rfl, ha, z1, z2⟩)
  | dct => exact .inl (base _ dn e)
  | dic ps => exact .inl (base _ dn e)
  | dit ps => exact .inl (base _ dn e)
  | dik ps => exact .inl (base _ dn e)
theorem ss_setf {c f : Str} {fs : Fs} {k : D → Tr (Fl W L)} (he : SE g E ε te me) (hk : ∀ d, SS g E (ε.set 0 (.oi c (putD f d fs))) u env envL (k d)) (hi : ε[0]? = some (.oi c fs) := by rfl) :
    SS g E ε (tSeq (sF (gd c g.K) (tVar 0) te f) u) env envL (bd me fun d => if fs.length < 900 then k d else .bad) := fun Mt U0 H0 U Ds σ H b s q => by
  refine st_sF ?_
  refine he.sstep s q fun y d H1 b1 dy s1 q1 => ?_
  by_cases hl : fs.length < 900
  · rw [if_pos hl] at q1
    obtain ⟨o, eo, a, dx, fvs, rfl, ha, df, ua, n1, n2⟩ := s1.rel.at_ 0 _ hi
    refine ⟨.ref a, eo, st_setF ha (by rw [df.length]; omega) fun H2 m2 => ?_⟩
    have kp := m2.keep
    have xt : ExtU U H1 H2 := fun x o e ne _ => kp x o e (fun z => ne (z ▸ ua))
    have il : 0 < ε.length := (List.getElem?_eq_some_iff.mp hi).1
    have ow : ∀ j x, OwnAt σ (ε.set 0 (.oi c (putD f d fs))) j x → OwnAt σ ε j x := fun j x z => by
      obtain ⟨z1, z2⟩ := z
      by_cases q : 0 = j
      · subst q
        exact ⟨z1, .inr ⟨c, fs, hi⟩⟩
      · rw [List.getElem?_set_ne q] at z2
        exact ⟨z1, z2⟩
    have apart : ∀ j x, 0 ≠ j → OwnAt σ ε j x → x ≠ a := fun j x ne z e => by
      subst e
      exact s1.rel.apart 0 j x ne ⟨eo, .inr ⟨c, fs, hi⟩⟩ z
    have hmt := (s1.oim 0 c fs a trivial hi eo).1 rfl
    have ev : Ev U H1 U H2 := ⟨xt, fun _ _ _ n _ => n⟩
    refine hk d Mt U0 H0 U Ds σ H2 b1 ⟨⟨by rw [List.length_set]; exact s1.rel.len, fun j x e => ?_, fun j k x ne z1 z2 => s1.rel.apart j k x ne (ow _ _ z1) (ow _ _ z2)⟩, ⟨s1.wd.pen.keep kp n1 n2, tabs_muI m2 ha s1.wd.tabs⟩, ⟨s1.uok.p, s1.uok.c, fun x hx => ?_⟩, s1.sub, fun j x z => s1.own j x (ow _ _ z), fun x o e m1 m2 m3 => ?_, fun j xs x e1 e2 => ?_, fun j c' fs' x j0 e1 e2 => ?_⟩ (q1.mono (fun _ _ z => z.ev ev) (fun _ _ _ z => z))
    · by_cases q : 0 = j
      · subst q
        rw [List.getElem?_set_self il] at e
        cases e
        exact ⟨_, eo, a, dx, _, rfl, m2.at_, (df.put dy).ext xt, ua, n1, n2⟩
      · rw [List.getElem?_set_ne q] at e
        obtain ⟨o, e1, e2⟩ := s1.rel.at_ j x e
        refine ⟨o, e1, ?_⟩
        cases x with
        | no => trivial
        | fz d =>
          obtain ⟨v, e3, e4⟩ := e2
          exact ⟨v, e3, e4.ext xt⟩
        | ow ds2 =>
          obtain ⟨a2, v2, rfl, h2, d2, u2, m1, m2⟩ := e2
          have ne := apart j a2 q ⟨e1, .inl ⟨ds2, e⟩⟩
          exact ⟨a2, v2, rfl, kp _ _ h2 ne, d2.map (fun q => q.ext xt), u2, m1, m2⟩
        | oi c fs =>
          obtain ⟨a2, dx, v2, rfl, h2, d2, u2, m1, m2⟩ := e2
          have ne := apart j a2 q ⟨e1, .inr ⟨c, fs, e⟩⟩
          exact ⟨a2, dx, v2, rfl, kp _ _ h2 ne, d2.ext xt, u2, m1, m2⟩
    · by_cases q : x = a
      · subst q
        exact ⟨_, m2.at_, (fun _ z => by cases z), (fun _ z => by cases z)⟩
      · obtain ⟨o, e, t⟩ := s1.uok.al x hx
        exact ⟨o, kp x o e q, t⟩
    · exact kp x o (s1.ext x o e m1 m2 m3) (fun z => m2 (z ▸ hmt))
    · by_cases q : 0 = j
      · subst q
        rw [List.getElem?_set_self il] at e1
        cases e1
      · rw [List.getElem?_set_ne q] at e1
        exact s1.nu0 j xs x e1 e2
    · by_cases q : 0 = j
      · subst q
        exact s1.oim 0 c fs x trivial hi e2
      · rw [List.getElem?_set_ne q] at e1
        exact s1.oim j c' fs' x j0 e1 e2
  · rw [if_neg hl] at q1
    exact q1.elim
end
end Gp
end
section
namespace Gp
open PySem PySem.Spec PyProof.Rows L2 Gh
section
variable {g : Gw} {Mt U0 U U' : Addr → Prop} {H0 H H' H1 H2 : Hp} {b b1 : Nat} {σ : L2.St} {ε ε' : Env} {E : XK} {Q : VK} {W L W' : Type}
variable {env : W → Env} {envL : L → Env} {env' : W' → Env} {u ta tb : TS} {te : TE} {me : Tr D}
theorem se_powK {a c r : Int} (h1 : 0 ≤ c ∧ c ≤ 1000) (h2 : -(2 ^ 60) < a ∧ a < 2 ^ 60) (h3 : a ^ c.toNat = r) : SE g E ε (tOp (rPowK r) (tC (.int a)) (tC (.int c))) (.ok (.int r)) := fun U σ H b Q R W u q =>
  st_powK ⟨h1.1, by omega, by omega⟩ h3 (okP.here q W (.int _))
theorem passA {X : Cx} {E : XK} : Passes CX0 X E := fun _ _ _ _ _ _ _ h => h.elim
theorem PE.or {X : Cx} {e : Expr} {t1 t2 : TE} (a : PE X e t1) (c : PE X e t2) : PE X e (fun σ H Q => t1 σ H Q ∨ t2 σ H Q) := ⟨fun pins s σ H Q I h => h.elim (a.run pins s σ H Q I) (c.run pins s σ H Q I)⟩
def IsA (g : Gw) (us : List Value) (f : D → Option Bool) : Prop := ∀ U H v d k, Den g U H v d → f d = some k → ∃ t, TyX g.K H v t ∧ PySem.W.kitAny g.K t us = some k
theorem tyX_new {K : PySem.W.Frag} {v : V} {t : Value} {p : Addr} {o : HO} (np : H p = none) (h : TyX K H v t) : TyX K (upd H p o) v t := by
  have s := same_new (o := o) np
  cases h with
  | base h =>
    cases h with
    | non => exact .base .non
    | bl x => exact .base (.bl x)
    | int i => exact .base (.int i)
    | str x => exact .base (.str x)
    | flt x => exact .base (.flt x)
    | lst e => exact .base (.lst (s _ _ e))
    | frz e => exact .base (.frz (s _ _ e))
    | tup e => exact .base (.tup (s _ _ e))
    | dK e => exact .base (.dK (s _ _ e))
    | dT e => exact .base (.dT (s _ _ e))
    | ins e cl ha hn htk hm => exact .base (.ins (s _ _ e) cl ha hn htk hm)
  | byt b => exact .byt b
  | set e => exact .set (s _ _ e)
  | kList e c => exact .kList e c
  | kTuple e c => exact .kTuple e c
  | kDict e c => exact .kDict e c
  | fTuple e => exact .fTuple (s _ _ e)
  | fDict e => exact .fDict (s _ _ e)
theorem se_isiT {n1 n2 : String} {f : D → Option Bool} (hT : IsA g [.type n1, .type n2] f) (he : SE g E ε te me) : SE g E ε (tCB (rIsiT g.K) (tCons te (tCons (tTup (tCons (tC (.ty n1)) (tCons (tC (.ty n2)) tNil))) tNil))) (bd me fun d => bd (opt (f d)) fun k => .ok (.bl k)) := fun U σ H b Q R W uo q =>
  he.step R W uo q fun v d H1 b1 d1 w1 f1 R1 u1 q1 => by
    refine ⟨by show 2 ≤ sizeLine; decide, fun p np => ?_⟩
    cases e : f d with
    | none => rw [e] at q1; exact q1.elim
    | some k =>
      rw [e] at q1
      obtain ⟨t, h1, h2⟩ := hT U H1 v d k d1 e
      have s := same_new (o := .tup [V.ty n1, V.ty n2]) np
      exact ⟨v, p, _, t, _, k, rfl, upd_same, .cons (.ty _) (.cons (.ty _) .nil), tyX_new np h1, h2, q1 _ _ (.bl k) (w1.same s) (f1.trans (fr_same s))⟩
theorem isA_of {us : List Value} {kb : String → Option Bool} {tab : List (Str × Bool)} (h1 : ∀ n k, kb n = some k → PySem.W.kitAny g.K (.type n) us = some k) (h2 : ∀ c k, tab.lookup c = some k → Cls g.K (gd c g.K) ∧ InsT g.K (gd c g.K) ∧ PySem.W.kitAny g.K (.ref (gd c g.K)) us = some k) : IsA g us (isF kb tab []) := fun U H v d k dn e => by
  have base : ∀ d, Den g U H v d → (kdN d).bind kb = some k → ∃ t, TyX g.K H v t ∧ PySem.W.kitAny g.K t us = some k := fun d dn e => by
    cases q : kdN d with
    | none => rw [q] at e; cases e
    | some n =>
      rw [q] at e
      exact ⟨_, kd_ty dn q, h1 n k e⟩
  cases d with
  | obj c fs =>
    obtain ⟨a, dx, fvs, rfl, ea, _, _⟩ := den_obj dn
    obtain ⟨z1, z2, z3⟩ := h2 c k e
    exact ⟨_, z2.ty z1 ea, z3⟩
  | err c fs => cases e
  | er0 c => cases e
  | non => exact base _ dn e
  | bl b => exact base _ dn e
  | int i => exact base _ dn e
  | str x => exact base _ dn e
  | lst ds => exact base _ dn e
  | tup ds => exact base _ dn e
  | pen => exact base _ dn e
  | cls c => exact base _ dn e
  | dct => exact base _ dn e
  | dic ps => exact base _ dn e
  | dit ps => exact base _ dn e
  | dik ps => exact base _ dn e
theorem spI_len {K : PySem.W.Frag} {T : List (Addr × Str)} {cn : Str} {F : Fs → List D → Tr Fs} {n : Nat} (hn : ∀ fs (P : Fs → Nat → Prop) (X : Str → Fs → Nat → Prop) ds b, Al P X (F fs ds) b → ds.length = n) {vs : List V} (h : spI K T cn F vs H Q E) : vs.length = n + 1 := by
  obtain ⟨p, c, U, ds, b, x, dx, fvs, fs, rest, rfl, hx, df, ux, np, nc, dn, wd, u, al⟩ := h
  rw [List.length_cons, dn.length, hn _ _ _ _ _ al]
theorem lenI1 {F : Fs → D → Tr Fs} (fs : Fs) (P : Fs → Nat → Prop) (X : Str → Fs → Nat → Prop) (ds : List D) (b : Nat) (h : Al P X (ul1 (F fs) ds) b) : ds.length = 1 := by obtain ⟨_, rfl, _⟩ := al_ul1 h; rfl
theorem lenI3 {F : Fs → D → D → D → Tr Fs} (fs : Fs) (P : Fs → Nat → Prop) (X : Str → Fs → Nat → Prop) (ds : List D) (b : Nat) (h : Al P X (ul3 (F fs) ds) b) : ds.length = 3 := by obtain ⟨_, _, _, rfl, _⟩ := al_ul3 h; rfl
section
variable {K : PySem.W.Frag} {T : List (Addr × Str)} {N : List Str} {cn : Str} {vs : List V} {t : TS} {envI : Fs → Env}
theorem ini_of1 {F : Fs → D → Tr Fs} {m : Fs → D → Tr (Fl Fs Empty)} (h : spI K T cn (fun fs => ul1 (F fs)) vs H Q E) (hF : ∀ fs x, F fs x = finI (m fs x)) (hs : ∀ p c fs x, SS ⟨K, T, p, c⟩ E (.oi cn fs :: ([x].map Sl.fz ++ List.replicate (N.length - (1 + 1)) Sl.no)) t envI envE (m fs x)) (he : ∀ fs, (envI fs)[0]? = some (.oi cn fs) := by intro _; rfl) : t { nx := fun _ H' => Q .non H', rt := Q } (L2.start N vs) H :=
  ini_of h (fun p c fs ds ⟨_, _, _, al⟩ => by
    obtain ⟨x, rfl, _⟩ := al_ul1 al
    exact ⟨m fs x, hF fs x, hs p c fs x⟩) he
theorem ini_of3 {F : Fs → D → D → D → Tr Fs} {m : Fs → D → D → D → Tr (Fl Fs Empty)} (h : spI K T cn (fun fs => ul3 (F fs)) vs H Q E) (hF : ∀ fs x y z, F fs x y z = finI (m fs x y z)) (hs : ∀ p c fs x y z, SS ⟨K, T, p, c⟩ E (.oi cn fs :: ([x, y, z].map Sl.fz ++ List.replicate (N.length - (3 + 1)) Sl.no)) t envI envE (m fs x y z)) (he : ∀ fs, (envI fs)[0]? = some (.oi cn fs) := by intro _; rfl) : t { nx := fun _ H' => Q .non H', rt := Q } (L2.start N vs) H :=
  ini_of h (fun p c fs ds ⟨_, _, _, al⟩ => by
    obtain ⟨x, y, z, rfl, _⟩ := al_ul3 al
    exact ⟨m fs x y z, hF fs x y z, hs p c fs x y z⟩) he
end
def spLaw (K : PySem.W.Frag) (T : List (Addr × Str)) : Sp := fun vs H Q _ => ∃ (a : Addr) (ns : List Int), vs = [.ref a] ∧ SqL K H a (ns.map V.int) ∧ ns.length ≤ 63 ∧ LamX.Tabs T H ∧ ∀ H', Q (.bl true) H'
theorem spLaw_len {K : PySem.W.Frag} {T : List (Addr × Str)} {vs : List V} (h : spLaw K T vs H Q E) : vs.length = 1 := by
  obtain ⟨a, ns, rfl, _⟩ := h
  rfl
theorem law_of {K : PySem.W.Frag} {T : List (Addr × Str)} {N : List Str} {i n : Nat} {F : Tr D} {m : Tr (Fl Unit Empty)} {vs : List V} {t : TS} {envU : Unit → Env} (yes : Yes F) (h : spLaw K T vs H Q E) (hN : N.length = n + 1) (hi : i < n + 1) (h0 : i ≠ 0) (hF : F = fin m)
    (hs : ∀ p c, SS ⟨K, T, p, c⟩ EF ((List.replicate (n + 1) Sl.no).set i (.fz .pen)) t envU envE m) : tSeq (tAsg (tCl (rSp (spPn K) [] E) (tCons (tVar 0) tNil)) (gName i)) t { nx := fun _ H' => Q .non H', rt := Q } (L2.start N vs) H := by
  obtain ⟨a, ns, rfl, hS, hl, hT, q⟩ := h
  have st0 : L2.start N [V.ref a] = some (.ref a) :: List.replicate n none := by
    unfold L2.start
    rw [List.length_singleton, hN]
    rfl
  rw [st0]
  refine ⟨.ref a, rfl, ?_⟩
  refine ⟨a, ns, rfl, hS, hl, fun p c H1 np pn s => ?_⟩
  obtain ⟨ns', i', z', h1, h2, _⟩ := id pn
  have wd : Wd ⟨K, T, p, c⟩ H1 1000000 := ⟨pn, hT.ext s⟩
  have u : UOk ⟨K, T, p, c⟩ (fun x => x = p ∨ x = c) H1 := ⟨.inl rfl, .inr rfl, fun x hx => by
    rcases hx with rfl | rfl
    · exact ⟨_, h1, (fun _ z => by cases z), (fun _ z => by cases z)⟩
    · exact ⟨_, h2, (fun _ z => by cases z), (fun _ z => by cases z)⟩⟩
  have own : ∀ j x, ¬ OwnAt ((some (V.ref a) :: List.replicate n none).set i (some (.ref p))) ((List.replicate (n + 1) Sl.no).set i (.fz .pen)) j x := fun j x z => by
    obtain ⟨_, z2⟩ := ownAt_set z
    rcases z2.2 with ⟨ds, e⟩ | ⟨c, fs, e⟩
    · cases (List.mem_replicate.mp (List.mem_of_getElem? e)).2
    · cases (List.mem_replicate.mp (List.mem_of_getElem? e)).2
  have rl0 : Rel ⟨K, T, p, c⟩ (fun x => x = p ∨ x = c) H1 (some (V.ref a) :: List.replicate n none) (List.replicate (n + 1) Sl.no) := by
    refine ⟨by rw [List.length_cons, List.length_replicate, List.length_replicate], fun j s e => ?_, fun j k x ne z1 z2 => ?_⟩
    · have hj := (List.getElem?_eq_some_iff.mp e).1
      rw [List.length_replicate] at hj
      obtain ⟨_, rfl⟩ := List.mem_replicate.mp (List.mem_of_getElem? e)
      have hl2 : j < (some (V.ref a) :: List.replicate n (none : Option V)).length := by rw [List.length_cons, List.length_replicate]; exact hj
      exact ⟨_, List.getElem?_eq_getElem hl2, trivial⟩
    · rcases z1.2 with ⟨ds, e⟩ | ⟨c, fs, e⟩
      · cases (List.mem_replicate.mp (List.mem_of_getElem? e)).2
      · cases (List.mem_replicate.mp (List.mem_of_getElem? e)).2
  have rl := rl0.set i (v := .ref p) (d := .pen) .pen
  have yes' : Al (fun d _ => d = .bl true) (fun _ _ _ => False) (fin m) 1000000 := hF ▸ yes
  refine hs p c (fun _ => False) (fun x => x = p ∨ x = c) H1 (fun x => x = p ∨ x = c) _ _ H1 1000000 ⟨rl, wd, u, fun _ z => z, fun j x z => (own j x z).elim, fun _ _ z _ _ _ => z, fun j ds x z1 z2 => (own j x ⟨z2, .inl ⟨ds, z1⟩⟩).elim, fun j cc fs x _ z1 z2 => (own j x ⟨z2, .inr ⟨cc, fs, z1⟩⟩).elim⟩ ((al_bd.mp yes').mono (fun f b h => ?_) (fun _ _ _ z => z.elim))
  cases f with
  | nx w => cases (show D.non = .bl true from h)
  | rt d =>
    have h' : d = .bl true := h
    subst h'
    intro v H2 dn _ _
    cases dn
    exact q H2
  | bk e => exact nomatch e
  | ct e => exact nomatch e
def EqR (g : Gw) (c : Str) (f : D → Bool) : Prop := ∀ U H v d, Den g U H v d → f d = true → ∃ tb, TyX g.K H v tb ∧ PySem.W.notFirst g.K (gd c g.K) tb = true
theorem sr_eqO {c : Str} {f : D → Bool} {r : List V → Hp → VK → Prop} {F : List D → Tr D} (hf : EqR g c f) (hr : SRL g E r F) : SR2 g E (rEqO g.K (gd c g.K) r) (eqO c f F) := fun U H b x y dx dy Q d1 d2 w u q => by
  obtain ⟨fs, rfl, q1⟩ := al_isO q
  obtain ⟨a, da, fa, rfl, ea, _, _⟩ := den_obj d1
  by_cases h : f dy = true
  · rw [if_pos h] at q1
    obtain ⟨tb, h1, h2⟩ := hf U H y dy d2 h
    exact st_eqO ea h1 h2 (hr U H b _ _ Q (.cons d1 (.cons d2 .nil)) w u q1)
  · rw [if_neg h] at q1
    exact q1.elim
def neO (c : Str) (f : D → Bool) (F : List D → Tr D) (x y : D) : Tr D := isO c x fun _ => if f y = true then bd (bd (F [x, y]) asB) fun k => .ok (.bl (!k)) else .bad
theorem sr_neO {c : Str} {f : D → Bool} {F : List D → Tr D} (hf : EqR g c f) : SR2 g E (rNeO g.K (gd c g.K) (spF g.K g.T F) E) (neO c f F) := fun U H b x y dx dy Q d1 d2 w u q => by
  obtain ⟨fs, rfl, q1⟩ := al_isO q
  obtain ⟨a, da, fa, rfl, ea, _, _⟩ := den_obj d1
  by_cases h : f dy = true
  · rw [if_pos h, bd_bd] at q1
    obtain ⟨tb, h1, h2⟩ := hf U H y dy d2 h
    refine st_neO ea h1 h2 ⟨g.p, g.c, U, _, b, .cons d1 (.cons d2 .nil), w, u, (al_bd.mp q1).mono (fun d b1 h1 v H1 dv w1 f1 => ?_) (fun _ _ _ z => z)⟩
    obtain ⟨k, rfl, q2⟩ := al_asBk h1
    exact ⟨k, den_bl dv, q2 _ H1 (.bl _) w1 f1⟩
  · rw [if_neg h] at q1
    exact q1.elim
end
end Gp
namespace Gp
open PySem PySem.Spec PyProof.Rows L2 Gh
section
variable {g : Gw}
theorem kitAny2 {K : PySem.W.Frag} {n a c : String} {k : Bool} (h : ((kitB n a).bind fun x => (kitB n c).map fun y => x || y) = some k) : PySem.W.kitAny K (.type n) [.type a, .type c] = some k := by
  cases e1 : kitB n a with
  | none => rw [e1] at h; cases h
  | some x =>
    cases e2 : kitB n c with
    | none => rw [e1, e2] at h; cases h
    | some y =>
      rw [e1, e2] at h
      cases h
      cases x with
      | true => exact kitAny_cons (kit_ty e1) (fun z => by cases z) (fun _ => rfl)
      | false =>
        refine kitAny_cons (kit_ty e1) (fun _ => ?_) (fun z => by cases z)
        cases y with
        | true => exact kitAny_cons (kit_ty e2) (fun z => by cases z) (fun _ => rfl)
        | false => exact kitAny_cons (kit_ty e2) (fun _ => rfl) (fun z => by cases z)
def eqF0 (cs : List Str) (d : D) : Bool := match d with
  | .obj c _ => cs.contains c
  | d => (kdN d).isSome
theorem eqR_of {c : Str} {cs : List Str} (h1 : ∀ n ∈ (["NoneType", "bool", "int", "str", "list", "tuple", "dict"] : List String), PySem.W.notFirst g.K (gd c g.K) (.type n) = true) (h2 : ∀ c' ∈ cs, Cls g.K (gd c' g.K) ∧ InsT g.K (gd c' g.K) ∧ PySem.W.notFirst g.K (gd c g.K) (.ref (gd c' g.K)) = true) : EqR g c (eqF0 cs) := fun U H v d dn e => by
  have base : ∀ d, Den g U H v d → (kdN d).isSome = true → ∃ tb, TyX g.K H v tb ∧ PySem.W.notFirst g.K (gd c g.K) tb = true := fun d dn e => by
    cases q : kdN d with
    | none => rw [q] at e; cases e
    | some n =>
      refine ⟨_, kd_ty dn q, h1 n ?_⟩
      cases d <;> cases q <;> decide
  cases d with
  | obj c' fs =>
    obtain ⟨a, dx, fvs, rfl, ea, _, _⟩ := den_obj dn
    obtain ⟨z1, z2, z3⟩ := h2 c' (by simpa [eqF0] using e)
    exact ⟨_, z2.ty z1 ea, z3⟩
  | err c fs => exact base _ dn e
  | non => exact base _ dn e
  | bl b => exact base _ dn e
  | int i => exact base _ dn e
  | str x => exact base _ dn e
  | lst ds => exact base _ dn e
  | tup ds => exact base _ dn e
  | pen => exact base _ dn e
  | cls c => exact base _ dn e
  | er0 c => exact base _ dn e
  | dct => exact base _ dn e
  | dic ps => exact base _ dn e
  | dit ps => exact base _ dn e
  | dik ps => exact base _ dn e
end
end Gp
namespace Gp
open PySem PySem.Spec PyProof.Rows L2 Gh
theorem fnOk_weak {P : Program} {w : World} {K : PySem.W.Frag} {mg : Str → Option Value} {base : Heap} {CX : CXT} {k : Nat} {f : Addr} {fd : FuncData} {ps : List Str} {sp sp' : Sp} (F : FnOk P w K mg base CX k f fd ps sp) (h : ∀ vs H Q E, sp' vs H Q E → sp vs H Q E) : FnOk P w K mg base CX k f fd ps sp' :=
  ⟨fun vs H Q E z => F.len vs H Q E (h _ _ _ _ z), fun A o s H a us vs Q E hr e0 hb r z => F.run A o s H a us vs Q E hr e0 hb r (h _ _ _ _ z)⟩
def F_draw (x y : D) : Tr D := match x, y with
  | .pen, .int m => .draw m fun d => .ok (.int d)
  | _, _ => .bad
theorem draw_of {K : PySem.W.Frag} {T : List (Addr × Str)} {vs : List V} {H : Hp} {Q : VK} {E : XK} (h : spF K T (ul2 F_draw) vs H Q E) : spDr vs H Q E := by
  obtain ⟨p, c, U, ds, b, dn, wd, u, al⟩ := h
  obtain ⟨x, y, rfl, al2⟩ := al_ul2 al
  obtain ⟨v, w, rfl, d1, d2⟩ := denL_2 dn
  unfold F_draw at al2
  split at al2
  · rename_i m
    cases d1
    cases d2
    obtain ⟨b', rfl, h0, h1, h2⟩ := al2
    refine ⟨p, c, b', m, rfl, h0, log_of h0 h1, wd.pen, fun d H' d0 d1 pn k => ?_⟩
    exact h2 d d0 d1 (.int d) H' (.int d) ⟨pn, tabs_keepP k wd.pen wd.tabs⟩ (keep_fr k)
  · exact al2.elim
end Gp
end
section
namespace Gp
open PySem PySem.Spec PyProof.Rows L2 Gh
def blsD : List D → Option (List Bool)
  | [] => some []
  | .bl i :: r => (blsD r).map (i :: ·)
  | _ => none
theorem blsD_map (ns : List Bool) : blsD (ns.map D.bl) = some ns := by
  induction ns with
  | nil => rfl
  | cons n r ih => show (blsD (r.map D.bl)).map (n :: ·) = _; rw [ih]; rfl
section
variable {g : Gw} {U : Addr → Prop} {H : Hp} {b : Nat} {E : XK} {Q : VK} {ε : Env} {te : TE} {me : Tr D}
theorem ints_den : ∀ {vs : List V} {ds : List D} {ns : List Int}, DenL g U H vs ds → intsD ds = some ns → vs = ns.map V.int
  | _, _, _, .nil, h => by cases h; rfl
  | _, d :: ds, ns, .cons a r, h => by
    cases d with
    | int i =>
      cases q : intsD ds with
      | none => unfold intsD at h; rw [q] at h; cases h
      | some z =>
        unfold intsD at h
        rw [q] at h
        cases h
        rw [den_int a, ints_den r q]
        rfl
    | _ => cases h
theorem bls_den : ∀ {vs : List V} {ds : List D} {ns : List Bool}, DenL g U H vs ds → blsD ds = some ns → vs = ns.map V.bl
  | _, _, _, .nil, h => by cases h; rfl
  | _, d :: ds, ns, .cons a r, h => by
    cases d with
    | bl i =>
      cases q : blsD ds with
      | none => unfold blsD at h; rw [q] at h; cases h
      | some z =>
        unfold blsD at h
        rw [q] at h
        cases h
        rw [den_bl a, bls_den r q]
        rfl
    | _ => cases h
theorem al_lsI {P : D → Nat → Prop} {X : Str → Fs → Nat → Prop} {x : D} {k : List Int → Tr D} {v : V} (dn : Den g U H v x) (h : Al P X (lsI x k) b) : ∃ a ns, v = .ref a ∧ SqL g.K H a (ns.map V.int) ∧ x = .lst (ns.map D.int) ∧ ns.length ≤ sizeLine ∧ Al P X (k ns) b := by
  unfold lsI at h
  split at h
  · rename_i ds
    split at h
    · rename_i ns e
      obtain ⟨a, vs, rfl, hh, _, l, kk⟩ := den_lst dn
      have e2 := ints_den kk e
      subst e2
      refine ⟨a, ns, rfl, SqL.of hh, ?_, by rw [List.length_map] at l; exact l, h⟩
      congr 1
      clear kk l hh dn h
      induction ds generalizing ns with
      | nil => cases e; rfl
      | cons d r ih =>
        cases d with
        | int i =>
          unfold intsD at e
          cases q : intsD r with
          | none => rw [q] at e; cases e
          | some z =>
            rw [q] at e
            cases e
            rw [List.map_cons, ← ih z q]
        | _ => cases e
    · exact h.elim
  · exact h.elim
def maxI : List Int → Int
  | [] => 0
  | [a] => a
  | a :: r => if maxI r ≤ a then a else maxI r
def minI : List Int → Int
  | [] => 0
  | [a] => a
  | a :: r => if a ≤ minI r then a else minI r
theorem maxI_ok : ∀ (ns : List Int), 0 < ns.length → maxI ns ∈ ns ∧ ∀ y ∈ ns, y ≤ maxI ns
  | [], h => by cases h
  | [a], _ => ⟨List.mem_singleton.mpr rfl, fun y hy => by rw [List.mem_singleton.mp hy]; exact Int.le_refl _⟩
  | a :: c :: r, _ => by
    obtain ⟨h1, h2⟩ := maxI_ok (c :: r) (Nat.succ_pos _)
    have e : maxI (a :: c :: r) = if maxI (c :: r) ≤ a then a else maxI (c :: r) := rfl
    rw [e]
    split
    · refine ⟨List.mem_cons_self, fun y hy => ?_⟩
      rcases List.mem_cons.mp hy with rfl | hy
      · exact Int.le_refl _
      · exact Int.le_trans (h2 y hy) (by assumption)
    · refine ⟨List.mem_cons_of_mem _ h1, fun y hy => ?_⟩
      rcases List.mem_cons.mp hy with rfl | hy
      · omega
      · exact h2 y hy
theorem minI_ok : ∀ (ns : List Int), 0 < ns.length → minI ns ∈ ns ∧ ∀ y ∈ ns, minI ns ≤ y
  | [], h => by cases h
  | [a], _ => ⟨List.mem_singleton.mpr rfl, fun y hy => by rw [List.mem_singleton.mp hy]; exact Int.le_refl _⟩
  | a :: c :: r, _ => by
    obtain ⟨h1, h2⟩ := minI_ok (c :: r) (Nat.succ_pos _)
    have e : minI (a :: c :: r) = if a ≤ minI (c :: r) then a else minI (c :: r) := rfl
    rw [e]
    split
    · refine ⟨List.mem_cons_self, fun y hy => ?_⟩
      rcases List.mem_cons.mp hy with rfl | hy
      · exact Int.le_refl _
      · exact Int.le_trans (by assumption) (h2 y hy)
    · refine ⟨List.mem_cons_of_mem _ h1, fun y hy => ?_⟩
      rcases List.mem_cons.mp hy with rfl | hy
      · omega
      · exact h2 y hy
def maxD (x : D) : Tr D := lsI x fun ns => if 0 < ns.length then .ok (.int (maxI ns)) else .bad
def minD (x : D) : Tr D := lsI x fun ns => if 0 < ns.length then .ok (.int (minI ns)) else .bad
theorem cr_maxK {X : Cx} {K : PySem.W.Frag} (h : X.K = K) (hc : X.calm = true) : CallR X (.builtin "max") (rMax K) := h ▸ cr_max hc
theorem cr_minK0 {X : Cx} {K : PySem.W.Frag} (h : X.K = K) (hc : X.calm = true) : CallR X (.builtin "min") (rMin K) := h ▸ cr_min hc
theorem srl_max : SRL g E (rMax g.K) (ul1 maxD) := fun U H b xs dxs Q dn w u q => by
  obtain ⟨x, rfl, q1⟩ := al_ul1 q
  obtain ⟨v, rfl, d1⟩ := denL_1 dn
  obtain ⟨a, ns, rfl, h1, _, _, q2⟩ := al_lsI d1 q1
  by_cases h0 : 0 < ns.length
  · rw [if_pos h0] at q2
    obtain ⟨z1, z2⟩ := maxI_ok ns h0
    refine ⟨a, ns, rfl, h1, h0, fun m hm hle => ?_⟩
    have e : m = maxI ns := Int.le_antisymm (z2 m hm) (hle _ z1)
    rw [e]
    exact okP.here q2 w (.int _)
  · rw [if_neg h0] at q2
    exact q2.elim
theorem srl_min : SRL g E (rMin g.K) (ul1 minD) := fun U H b xs dxs Q dn w u q => by
  obtain ⟨x, rfl, q1⟩ := al_ul1 q
  obtain ⟨v, rfl, d1⟩ := denL_1 dn
  obtain ⟨a, ns, rfl, h1, _, _, q2⟩ := al_lsI d1 q1
  by_cases h0 : 0 < ns.length
  · rw [if_pos h0] at q2
    obtain ⟨z1, z2⟩ := minI_ok ns h0
    refine ⟨a, ns, rfl, h1, h0, fun m hm hle => ?_⟩
    have e : m = minI ns := Int.le_antisymm (hle _ z1) (z2 m hm)
    rw [e]
    exact okP.here q2 w (.int _)
  · rw [if_neg h0] at q2
    exact q2.elim
theorem insI_perm (a : Int) : ∀ l : List Int, (insI a l).Perm (a :: l)
  | [] => .refl _
  | b :: r => by
    unfold insI
    split
    · exact .refl _
    · exact ((insI_perm a r).cons b).trans (.swap a b r)
theorem insI_sorted (a : Int) : ∀ l : List Int, l.Pairwise (· ≤ ·) → (insI a l).Pairwise (· ≤ ·)
  | [], _ => List.pairwise_singleton _ _
  | b :: r, h => by
    unfold insI
    split
    · rename_i hab
      refine List.pairwise_cons.mpr ⟨fun y hy => ?_, h⟩
      rcases List.mem_cons.mp hy with rfl | hy
      · exact hab
      · exact Int.le_trans hab ((List.pairwise_cons.mp h).1 y hy)
    · rename_i hab
      refine List.pairwise_cons.mpr ⟨fun y hy => ?_, insI_sorted a r (List.pairwise_cons.mp h).2⟩
      rcases List.mem_cons.mp ((insI_perm a r).mem_iff.mp hy) with rfl | hy
      · omega
      · exact (List.pairwise_cons.mp h).1 y hy
theorem sortI_perm : ∀ l : List Int, (sortI l).Perm l
  | [] => .refl _
  | a :: r => (insI_perm a _).trans ((sortI_perm r).cons a)
theorem sortI_sorted : ∀ l : List Int, (sortI l).Pairwise (· ≤ ·)
  | [] => .nil
  | a :: r => insI_sorted a _ (sortI_sorted r)
theorem sorted_eq : ∀ {l m : List Int}, l.Perm m → l.Pairwise (· ≤ ·) → m.Pairwise (· ≤ ·) → l = m
  | [], m, p, _, _ => (List.nil_perm.mp p).symm
  | a :: r, [], p, _, _ => by cases List.perm_nil.mp p
  | a :: r, c :: s, p, h1, h2 => by
    have e : a = c := by
      have m1 : c ∈ a :: r := p.mem_iff.mpr List.mem_cons_self
      have m2 : a ∈ c :: s := p.mem_iff.mp List.mem_cons_self
      rcases List.mem_cons.mp m1 with e | e
      · exact e.symm
      · rcases List.mem_cons.mp m2 with e2 | e2
        · exact e2
        · exact Int.le_antisymm ((List.pairwise_cons.mp h1).1 c e) ((List.pairwise_cons.mp h2).1 a e2)
    subst e
    rw [sorted_eq (List.perm_cons a |>.mp p) (List.pairwise_cons.mp h1).2 (List.pairwise_cons.mp h2).2]
def sortD (x : D) : Tr D := lsI x fun ns => .ok (.lst ((sortI ns).map .int))
theorem cr_sortedK {X : Cx} {K : PySem.W.Frag} (h : X.K = K) : CallR X (.builtin "sorted") (rSortedI K) := h ▸ cr_sortedI
theorem srl_sorted : SRL g E (rSortedI g.K) (ul1 sortD) := fun U H b xs dxs Q dn w u q => by
  obtain ⟨x, rfl, q1⟩ := al_ul1 q
  obtain ⟨v, rfl, d1⟩ := denL_1 dn
  obtain ⟨a, ns, rfl, h1, _, l, q2⟩ := al_lsI d1 q1
  refine ⟨a, ns, rfl, h1, fun ns' p pm srt np => ?_⟩
  have e : ns' = sortI ns := sorted_eq (pm.trans (sortI_perm ns).symm) srt (sortI_sorted ns)
  subst e
  refine new_lst q2 w u ?_ (DenL.ints _) p np
  rw [List.length_map, (sortI_perm ns).length_eq]
  exact l
def lsB (x : D) (k : List Bool → Tr D) : Tr D := match x with
  | .lst ds => match blsD ds with
    | some ns => k ns
    | none => .bad
  | _ => .bad
def allD (x : D) : Tr D := lsB x fun ns => .ok (.bl (ns.all id))
theorem cr_allK {X : Cx} {K : PySem.W.Frag} (h : X.K = K) (hc : X.calm = true) : CallR X (.builtin "all") (rAll K) := h ▸ cr_all hc
theorem al_lsB {P : D → Nat → Prop} {X : Str → Fs → Nat → Prop} {x : D} {k : List Bool → Tr D} {v : V} (dn : Den g U H v x) (h : Al P X (lsB x k) b) : ∃ a ns, v = .ref a ∧ SqL g.K H a (ns.map V.bl) ∧ Al P X (k ns) b := by
  unfold lsB at h
  split at h
  · split at h
    · rename_i ns e
      obtain ⟨a, vs, rfl, hh, _, l, kk⟩ := den_lst dn
      have e2 := bls_den kk e
      subst e2
      exact ⟨a, ns, rfl, SqL.of hh, h⟩
    · exact h.elim
  · exact h.elim
theorem srl_all : SRL g E (rAll g.K) (ul1 allD) := fun U H b xs dxs Q dn w u q => by
  obtain ⟨x, rfl, q1⟩ := al_ul1 q
  obtain ⟨v, rfl, d1⟩ := denL_1 dn
  obtain ⟨a, ns, rfl, h1, q2⟩ := al_lsB d1 q1
  exact ⟨a, ns, rfl, h1, okP.here q2 w (.bl _)⟩
end
end Gp
end
section
namespace Gp
open PySem PySem.Spec PyProof.Rows L2 Gh
section
variable {g : Gw} {Mt U0 U U' : Addr → Prop} {H0 H H' H1 H2 : Hp} {b b1 b2 : Nat} {σ : L2.St} {ε ε' : Env} {E : XK} {W L W' : Type}
variable {env : W → Env} {envL : L → Env} {env' : W' → Env} {u ta tb : TS} {te : TE} {me : Tr D}
theorem oi_step {c : Str} {fs fs' : Fs} {a dx' : Addr} {fvs' : List (Str × V)} (s1 : Stt g Mt U0 H0 U σ H1 b1 ε) (hi : ε[0]? = some (.oi c fs)) (eo : σ[0]? = some (some (.ref a))) (h2 : H2 a = some (.ins (gd c g.K) dx' fvs')) (d2 : DenF g U H2 fvs' fs') (w2 : Wd g H2 b2) (f2 : FrM g (· = a) H1 H2) :
    Stt g Mt U0 H0 U σ H2 b2 (ε.set 0 (.oi c fs')) ∧ Ev U H1 U H2 := by
  obtain ⟨o, eo', a0, dx, fvs, e0, ha, df, ua, n1, n2⟩ := s1.rel.at_ 0 _ hi
  have ea : a0 = a := by
    rw [eo'] at eo
    subst e0
    cases eo
    rfl
  subst ea
  have xt : ExtU U H1 H2 := fun x o e ne t => f2 x o e (fun z => ne (z ▸ s1.uok.p)) (fun z => ne (z ▸ ua)) t
  have il : 0 < ε.length := (List.getElem?_eq_some_iff.mp hi).1
  have ow : ∀ j x, OwnAt σ (ε.set 0 (.oi c fs')) j x → OwnAt σ ε j x := fun j x z => by
    obtain ⟨z1, z2⟩ := z
    by_cases q : 0 = j
    · subst q
      exact ⟨z1, .inr ⟨c, fs, hi⟩⟩
    · rw [List.getElem?_set_ne q] at z2
      exact ⟨z1, z2⟩
  have apart : ∀ j x, 0 ≠ j → OwnAt σ ε j x → x ≠ a0 := fun j x ne z e => by
    subst e
    exact s1.rel.apart 0 j x ne ⟨eo, .inr ⟨c, fs, hi⟩⟩ z
  have hmt := (s1.oim 0 c fs a0 trivial hi eo).1 rfl
  refine ⟨⟨⟨by rw [List.length_set]; exact s1.rel.len, fun j x e => ?_, fun j k x ne z1 z2 => s1.rel.apart j k x ne (ow _ _ z1) (ow _ _ z2)⟩, w2, ⟨s1.uok.p, s1.uok.c, fun x hx => ?_⟩, s1.sub, fun j x z => s1.own j x (ow _ _ z), fun x o e m1 m2 m3 => ?_, fun j xs x e1 e2 => ?_, fun j c' fs' x j0 e1 e2 => ?_⟩, ⟨xt, fun _ _ _ n _ => n⟩⟩
  · by_cases q : 0 = j
    · subst q
      rw [List.getElem?_set_self il] at e
      cases e
      exact ⟨_, eo, a0, dx', _, rfl, h2, d2, ua, n1, n2⟩
    · rw [List.getElem?_set_ne q] at e
      obtain ⟨o, e1, e2⟩ := s1.rel.at_ j x e
      refine ⟨o, e1, ?_⟩
      cases x with
      | no => trivial
      | fz d =>
        obtain ⟨v, e3, e4⟩ := e2
        exact ⟨v, e3, e4.ext xt⟩
      | ow ds2 =>
        obtain ⟨a2, v2, rfl, h2, d2, u2, m1, m2⟩ := e2
        have ne := apart j a2 q ⟨e1, .inl ⟨ds2, e⟩⟩
        exact ⟨a2, v2, rfl, f2 _ _ h2 m1 ne d2.tbl, d2.map (fun q => q.ext xt), u2, m1, m2⟩
      | oi c fs =>
        obtain ⟨a2, dx, v2, rfl, h2, d2, u2, m1, m2⟩ := e2
        have ne := apart j a2 q ⟨e1, .inr ⟨c, fs, e⟩⟩
        exact ⟨a2, dx, v2, rfl, f2 _ _ h2 m1 ne (fun _ z => by cases z), d2.ext xt, u2, m1, m2⟩
  · by_cases q : x = a0
    · subst q
      exact ⟨_, h2, (fun _ z => by cases z), (fun _ z => by cases z)⟩
    · by_cases qp : x = g.p
      · subst qp
        obtain ⟨ns, i, z, h, _⟩ := w2.pen
        exact ⟨_, h, (fun _ z => by cases z), (fun _ z => by cases z)⟩
      · obtain ⟨o, e, t⟩ := s1.uok.al x hx
        exact ⟨o, f2 x o e qp q t.tbl, t⟩
  · exact f2 x o (s1.ext x o e m1 m2 m3) m1 (fun z => m2 (z ▸ hmt)) m3
  · by_cases q : 0 = j
    · subst q
      rw [List.getElem?_set_self il] at e1
      cases e1
    · rw [List.getElem?_set_ne q] at e1
      exact s1.nu0 j xs x e1 e2
  · by_cases q : 0 = j
    · subst q
      exact s1.oim 0 c fs x trivial hi e2
    · rw [List.getElem?_set_ne q] at e1
      exact s1.oim j c' fs' x j0 e1 e2
def tSup (K : PySem.W.Frag) (B : Addr) (m : Str) (f2 : Addr) (ta : TA) (sp : Sp) (dvs : List V) (E : XK) : TS := fun D σ H => ∃ a C dx fs, σ[0]? = some (some (.ref a)) ∧ H a = some (.ins C dx fs) ∧ SupC K C B m f2 ∧ ta σ H fun us H2 => sp (.ref a :: (us ++ dvs)) H2 (fun _ H3 => D.nx σ H3) E
theorem ss_sup {c m : Str} {B f2 : Addr} {fs : Fs} {t : TA} {mt : Tr (List D)} {F : Fs → List D → Tr Fs} {k : Fs → Tr (Fl W L)} (hS : SupC g.K (gd c g.K) B m f2) (ht : SA g E ε t mt) (hk : ∀ fs', SS g E (ε.set 0 (.oi c fs')) u env envL (k fs')) (hi : ε[0]? = some (.oi c fs) := by rfl) :
    SS g E ε (tSeq (tSup g.K B m f2 t (spI g.K g.T c F) [] E) u) env envL (bd mt fun ds => bd (F fs ds) k) := fun Mt U0 H0 U Ds σ H b s q => by
  obtain ⟨o, eo, a, dx, fvs, rfl, ha, df, ua, n1, n2⟩ := s.rel.at_ 0 _ hi
  refine ⟨a, _, dx, fvs, eo, ha, hS, ht.sstep s q fun vs ds H1 b1 dv s1 q1 => ?_⟩
  obtain ⟨o, eo', a', dx', fvs', rfl, ha', df', ua', n1', n2'⟩ := s1.rel.at_ 0 _ hi
  have ea : a' = a := by rw [eo'] at eo; cases eo; rfl
  subst ea
  rw [List.append_nil]
  refine ⟨g.p, g.c, U, ds, b1, a', dx', fvs', fs, vs, rfl, ha', df', ua', n1', n2', dv, s1.wd, s1.uok, (al_bd.mp q1).mono (fun fs2 b2 h dx2 fvs2 H2 e2 d2 w2 f2 => ?_) (fun cn fs2 b2 h dd fv H2 e1 nd d1 w1 f1 => ?_)⟩
  · obtain ⟨s2, ev⟩ := oi_step s1 hi eo e2 d2 w2 f2
    exact hk fs2 Mt U0 H0 U Ds σ H2 b2 s2 (h.mono (fun _ _ z => z.ev ev) (fun _ _ _ z => z))
  · have hmt := (s1.oim 0 c fs a' trivial hi eo).1 rfl
    exact h dd fv H2 e1 (fun z => nd (s1.sub _ z)) (d1.sub fun x _ z => s1.sub x z) w1 fun x o e m1 m2 m3 => f1 x o (s1.ext x o e m1 m2 m3) m1 (fun z => m2 (z ▸ hmt)) m3
end
section
variable {K : PySem.W.Frag} {x qual file : Str} {params : Arguments} {body : List Stmt} {scope : Scope} {dvs : List V} {f B : Addr} {fd : FuncData} {ps : List Str}
theorem SupF.bindsN (F : SupF K x qual params body scope [] f B file fd)
    (h : ∀ (cl : List (Str × Addr)) (kV doc pm : Value) (an : Option Addr) (cdv ct : Value) (us : List Value), us.length = ps.length → bindArgs (PySem.W.fnX x qual params body scope cl .none kV doc pm an cdv ct) ⟨us, []⟩ = pure (ps.zip us)) : Binds K fd ps [] := by
  obtain ⟨oc, od, dV, kV, doc, pm, an, cda, ct, osl, cc, rfl, lk, hcd, hD, _⟩ := F.ex
  rcases hD with ⟨_, rfl⟩ | ⟨e, _⟩
  · exact .all (h _ kV doc pm an _ ct)
  · exact absurd rfl e
theorem SupF.binds1 (F : SupF K x qual params body scope dvs f B file fd) (n j : Nat) (hd : dvs ≠ []) (hn : n + (dvs.length - j) = ps.length)
    (h : ∀ (cl : List (Str × Addr)) (T : Addr) (kV doc pm : Value) (an : Option Addr) (cdv ct : Value) (us its : List Value), us.length = n → its.length = dvs.length →
      ∃ k, bindArgs (PySem.W.fnX x qual params body scope cl (.ref T) kV doc pm an cdv ct) ⟨us, []⟩ = seqItems? (.ref T) >>= k ∧ k (some its.toArray) = pure (ps.zip (us ++ its.drop j))) : ∃ ds, Vals (dvs.drop j) ds ∧ Binds K fd ps ds := by
  obtain ⟨oc, od, dV, kV, doc, pm, an, cda, ct, osl, cc, rfl, lk, hcd, hD, _⟩ := F.ex
  rcases hD with ⟨e, _⟩ | ⟨_, T, o, its, m, rfl, lT, oT, rT⟩
  · exact absurd e hd
  · refine ⟨its.drop j, rT.drop j, fun s us X hlen => ?_⟩
    have l1 : its.length = dvs.length := rT.length.symm
    have l2 : us.length = n := by
      rw [List.length_append, List.length_drop, l1] at hlen
      omega
    obtain ⟨k, e1, e2⟩ := h _ T kV doc pm an _ ct us its l2 l1
    refine BindsTo.of_looks fun M => ?_
    rw [e1]
    exact looks_items X lT oT (.of_pure e2)
end
end Gp
end
section
namespace Gp
open PySem PySem.Spec PyProof.Rows L2 Gh
theorem fileB_ok {K : PySem.W.Frag} {file : Str} {v : Value} (h : fileB K file v = true) : ∃ c, v = .ref c ∧ ∃ ccl cdd vs ccs tf, K.lookup c = some ⟨ccl, cdd, .fields vs, ccs⟩ ∧ vs[2]? = some (.str file tf) := by
  unfold fileB at h
  split at h
  · rename_i c
    split at h
    · rename_i e
      split at h
      · rename_i e2
        have := of_decide_eq_true h
        subst this
        exact ⟨c, rfl, _, _, _, _, _, e, e2⟩
      · cases h
    · cases h
  · cases h
theorem cellB_ok {K : PySem.W.Frag} {B : Addr} {l : List (Str × Addr)} (h : cellB K B l = true) : ∃ x c, l = [(x, c)] ∧ ∃ cl cld csl, K.lookup c = some ⟨cl, cld, .cell (some (.ref B)), csl⟩ := by
  unfold cellB at h
  split at h
  · rename_i x c
    split at h
    · rename_i e
      have := of_decide_eq_true h
      subst this
      exact ⟨x, c, rfl, _, _, _, e⟩
    · cases h
  · cases h
abbrev FnS (K : PySem.W.Frag) (d : Ds) (file : Str) (fd : FuncData) : Prop := SupF K d.d.name d.d.qual (defArgs d.d.st) (defBody d.d.st) (defScope d.d.st) (d.d.dvs K) (d.d.adr K) (d.own K) file fd
theorem Ds.supF {file : Str} {K : PySem.W.Frag} {d : Ds} (e : fnAtS K (d.d.adr K) = d.val) (c : d.ok file K = true) : ∃ fd, FnS K d file fd := by
  obtain ⟨kp, c2⟩ := He.ba c
  unfold fnAtS at e
  cases q : K.lookup (d.d.adr K) with
  | none =>
    rw [q] at c2
    cases c2
  | some o =>
    obtain ⟨oc, od, dt, osl⟩ := o
    rw [q] at c2 e
    cases dt with
    | func fd =>
      obtain ⟨n1, n2, n3, n4, n5, n6, n7, n8, n9, n10, n11, n12, n13, n14, n15⟩ := fd
      have e2 : (some (n1, n2, n3, n4, n5, n6, n7.map (fun q => (q.1, 0)), n15) : He.FnW) = (some (d.d.name, d.d.qual, defArgs d.d.st, FuncBody.stmts (defBody d.d.st), defScope d.d.st, mainGlobals, [(("__class__" : Str), (0 : Addr))], builtinsNs) : He.FnW) := e
      simp only [Option.some.injEq, Prod.mk.injEq] at e2
      obtain ⟨h1, h2, h3, h4, h5, h6, h7, h8⟩ := e2
      subst h1 h2 h3 h4 h5 h6 h8
      have c3 : (PySem.W.codeIn K n13 d.d.qual && (He.dflB K n8 (d.d.dvs K) && (fileB K file n13 && cellB K (d.own K) n7))) = true := c2
      obtain ⟨k1, k2⟩ := He.ba c3
      obtain ⟨k3, k4⟩ := He.ba k2
      obtain ⟨k5, k6⟩ := He.ba k4
      obtain ⟨cda, rfl, hf⟩ := fileB_ok k5
      obtain ⟨x, cc, rfl, hc⟩ := cellB_ok k6
      have hx : x = "__class__" := by
        simp only [List.map_cons, List.map_nil, List.cons.injEq, Prod.mk.injEq, and_true] at h7
        exact h7
      subst hx
      exact ⟨_, ⟨oc, od, n8, n9, n10, n11, n12, cda, n14, osl, cc, rfl, q, k1, He.dflB_ok k3, hc, hf⟩, kp⟩
    | _ => cases c2
theorem SaysS.sup_ {ex : List (PySem.W.Frag → Bool)} {fn : List Df} {tf : List He.Defn} {fs : List Ds} {file : Str} {h : Heap} {K : PySem.W.Frag} (c : SaysS ex fn tf fs file h K) (i : Nat) {d : Ds} (hd : fs[i]? = some d := by rfl) : ∃ fd, FnS K d file fd := by
  have e2 : (fs.map fun d => fnAtS K (d.d.adr K))[i]? = (fs.map Ds.val)[i]? := by rw [c.v]
  rw [List.getElem?_map, List.getElem?_map, hd] at e2
  exact Ds.supF (Option.some.inj e2) (List.all_eq_true.mp c.o d (List.mem_of_getElem? hd))
theorem supCB_ok {c b m : Str} {f2 : PySem.W.Frag → Addr} {K : PySem.W.Frag} (h : supCB c b m f2 K = true) : SupC K (gd c K) (gd b K) m (f2 K) := by
  obtain ⟨h1, h2⟩ := He.ba h
  obtain ⟨h3, h4⟩ := He.ba h2
  obtain ⟨h5, h6⟩ := He.ba h4
  exact ⟨of_decide_eq_true h1, He.eqO_ok h3, of_decide_eq_true h5, h6⟩
end Gp
end
section
namespace Gp
open PySem PySem.Spec PyProof.Rows L2 Gh
def iEnA (K : PySem.W.Frag) (ta : TA) : TI := fun σ H R => ta σ H fun vs H1 => (∃ a xs, vs = [.ref a] ∧ SqL K H1 a xs ∧ R (Ite K a) H1) ∨ ∃ a xs, vs = [.ref a] ∧ SqT K H1 a xs ∧ R (Itu K a) H1
section
variable {g : Gw} {Mt U0 U U' : Addr → Prop} {H0 H H' H1 H2 : Hp} {b b1 b2 : Nat} {σ : L2.St} {ε ε' : Env} {E : XK}
theorem pi_enumA {X : Cx} {K : PySem.W.Frag} {e : Expr} {ta : TA} {p pos tpos : Pos} {elts : List Expr} {kk : Nat} (hK : X.K = K) (hg : Gl X "enumerate") (hm : X.mg "enumerate" = none) (ha : PA X [e] ta) (hs : starEach [e] X.env = [(false, eval e X.env)] := by rfl) :
    PI X (.Tuple elts kk tpos) (.Call (.Name "enumerate" p) [e] [] pos) (iEnA K ta) := by
  subst hK
  refine ⟨fun pins s σ H R I h => ?_⟩
  refine Call_ (ld_blt I hg hm boot_enumerate (PyProof.Rows.callWith_type1 (thn (ha.run pos pins s σ H _ I h) fun us s1 ⟨vs, H1, I1, r1, q1⟩ => ?_) hs rfl))
  have fp : ∀ b ∈ [s1.heap.objs.size + 1, s1.heap.objs.size], FpOk X pins H1 b := fun b hb => by
    have e' : b = s1.heap.objs.size + 1 ∨ b = s1.heap.objs.size := by simpa using hb
    have hle : s1.heap.objs.size ≤ b := by
      rcases e' with z | z
      · rw [z]; exact Nat.le_add_right _ _
      · rw [z]; exact Nat.le_refl _
    exact I1.fpOk hle (I1.hok.fresh hle)
  rcases q1 with ⟨a, xs, ex, hq, q⟩ | ⟨a, xs, ex, hq, q⟩
  · subst ex
    cases r1 with
    | cons r rr =>
      cases rr
      cases r
      obtain ⟨its, rv, p', hz⟩ := I1.list hq
      refine call_enumerate_list p'.isList fun h' he hit hsz hk => wpAny_pyIter_enum he ?_
      have I2 : Inv X pins σ H1 { s1 with heap := h' } := I1.kept (t' := s1.toks) hk
      exact ⟨s1.heap.objs.size + 1, [s1.heap.objs.size + 1, s1.heap.objs.size], _, _, H1, rfl, I2, turn_enum a (s1.heap.objs.size + 1) s1.heap.objs.size, ⟨⟨.none, he⟩, hit, Nat.succ_ne_self _⟩, fp, q⟩
  · subst ex
    cases r1 with
    | cons r rr =>
      cases rr
      cases r
      obtain ⟨its, rv, p', hz⟩ := I1.tuple hq
      have hal : a < s1.heap.objs.size := by obtain ⟨_, z, _⟩ := p'; exact Heap.lt_size z
      refine call_enumerate_tup p' fun h' he hit hsz hk => wpAny_pyIter_enum he ?_
      have I2 : Inv X pins σ H1 { s1 with heap := h' } := I1.kept (t' := s1.toks) hk
      exact ⟨s1.heap.objs.size + 1, [s1.heap.objs.size + 1, s1.heap.objs.size], _, _, H1, rfl, I2, turn_enumT a (s1.heap.objs.size + 1) s1.heap.objs.size, ⟨⟨.none, he⟩, hit, Nat.succ_ne_self _, Nat.ne_of_lt hal, Nat.ne_of_gt (Nat.lt_succ_of_lt hal)⟩, fp, q⟩
theorem den_pair {x : V} {d : D} {T : Addr} (i : Nat) (u : UOk g U H1) (n : H1 T = none) (h : Den g U H1 x d) : Den g U (upd H1 T (.tup [.int i, x])) (.ref T) (.tup [.int i, d]) := by
  have s := same_new (o := .tup [.int i, x]) n
  exact .tup upd_same (u.new n) (by show 2 ≤ sizeLine; decide) (.cons (.int _) (.cons (h.ext (u.extU (fr_same s))) .nil))
theorem itd_enL {a : Addr} {vs : List V} {ds : List D} (h : H a = some (.lst vs)) (n : ¬ U a) (k : DenL g U H vs ds) : ItD g U H (Ite g.K a) (ds.mapIdx fun i d => .tup [.int i, d]) := fun i U1 H1 b e w u => by
  have h1 : H1 a = some (.lst vs) := e.keep _ _ h n (fun _ z => by cases z)
  refine ⟨fun d hd => ?_, fun hl => ⟨vs, SqL.of h1, by rw [k.length]; rw [List.length_mapIdx] at hl; exact Nat.le_of_eq hl⟩⟩
  rw [List.getElem?_mapIdx] at hd
  cases q : ds[i]? with
  | none => rw [q] at hd; cases hd
  | some d0 =>
    rw [q] at hd
    cases hd
    obtain ⟨v, hv, dn⟩ := k.getD q
    refine ⟨⟨vs, v, SqL.of h1, hv⟩, ?_⟩
    rintro x H2 ⟨T, y, rfl, nT, rfl, hy⟩
    have e2 := hy vs (SqL.of h1)
    rw [hv] at e2
    cases e2
    exact ⟨den_pair i u nT (dn.ev e), same_new nT⟩
theorem itd_enT {a : Addr} {vs : List V} {ds : List D} (h : ∀ U1 H1, Ev U H U1 H1 → SqT g.K H1 a vs) (k : DenL g U H vs ds) : ItD g U H (Itu g.K a) (ds.mapIdx fun i d => .tup [.int i, d]) := fun i U1 H1 b e w u => by
  have h1 := h U1 H1 e
  refine ⟨fun d hd => ?_, fun hl => ⟨vs, h1, by rw [k.length]; rw [List.length_mapIdx] at hl; exact hl⟩⟩
  rw [List.getElem?_mapIdx] at hd
  cases q : ds[i]? with
  | none => rw [q] at hd; cases hd
  | some d0 =>
    rw [q] at hd
    cases hd
    obtain ⟨v, hv, dn⟩ := k.getD q
    refine ⟨⟨vs, v, h1, hv⟩, ?_⟩
    rintro x H2 ⟨T, y, rfl, nT, rfl, hy⟩
    have e2 := hy vs h1
    rw [hv] at e2
    cases e2
    exact ⟨den_pair i u nT (dn.ev e), same_new nT⟩
theorem si_enum {t : TA} {m : Tr (List D)} (ha : SA g E ε t m) : SI g E ε (iEnA g.K t) (bd m (ul1 enD)) := fun U σ H b R rl wd u q =>
  ha.step rl wd u q fun v d H1 b1 d1 w1 f1 R1 u1 q1 => by
    obtain ⟨x, rfl, q2⟩ := al_ul1 q1
    obtain ⟨v, rfl, e1⟩ := denL_1 d1
    cases x with
    | lst ds =>
      obtain ⟨a, vs, rfl, h, n, l, k⟩ := den_lst e1
      exact .inl ⟨a, vs, rfl, SqL.of h, q2 _ H1 (by rw [List.length_mapIdx, ← k.length]; exact l) (itd_enL h n k) w1 f1⟩
    | tup ds =>
      obtain ⟨a, vs, rfl, h, l, k⟩ := den_tupE e1
      exact .inr ⟨a, vs, rfl, h U H1 Ev.refl, q2 _ H1 (by rw [List.length_mapIdx, ← k.length]; exact l) (itd_enT h k) w1 f1⟩
    | _ => exact q2.elim
variable {W L : Type} {env : W → Env} {envL : L → Env} {a r : TS} {t : TS} {m : Tr (Fl W L)}
theorem ss_assoc {c : TS} (h : SS g E ε (tSeq a (tSeq c r)) env envL m) : SS g E ε (tSeq (tSeq a c) r) env envL m := h
theorem ss_next (h : SS g E ε r env envL m) : SS g E ε (tSeq tNext r) env envL m := h
end
theorem sup_goal {K : PySem.W.Frag} {B f2 : Addr} {m : Str} {t1 t2 : TS} {ta : TA} {sp2 : Sp} {dvs2 : List V} {E2 : XK} {Q : VK} {σ : L2.St} {H : Hp} (h : tSeq t1 (tSeq (tSup K B m f2 ta sp2 dvs2 E2) t2) { nx := fun _ H' => Q .non H', rt := Q } σ H) :
    t1 { nx := fun σ1 H1 => ∃ a C dx fs, σ1[0]? = some (some (.ref a)) ∧ H1 a = some (.ins C dx fs) ∧ SupC K C B m f2 ∧ ta σ1 H1 fun us H2 => sp2 (.ref a :: (us ++ dvs2)) H2 (fun _ H3 => t2 { nx := fun _ H' => Q .non H', rt := Q } σ1 H3) E2, rt := Q } σ H := h
end Gp
end
section
namespace Gp
open PySem PySem.Spec PyProof.Rows L2 Gh
theorem obsL_eq {as : List Addr} {ex : List (PySem.W.Frag → Bool)} {fn : List Df} {tf : List He.Defn} {fs : List Ds} {file : Str} {g : Addr → Option Obj} {s : Shared} (h : ∀ a, g a = s.heap.get? a) : obsL as ex fn tf fs file g = (hookL as ex fn tf fs file).obs s := by
  have e : g = s.heap.get? := funext h
  rw [e] <;> rfl
end Gp
end
section
namespace Gp
open PySem PySem.Spec PyProof.Rows L2 Gh
theorem ris_eq : ∀ {l m : List Int}, l.Pairwise (· < ·) → m.Pairwise (· < ·) → (∀ x, x ∈ l ↔ x ∈ m) → l = m
  | [], [], _, _, _ => rfl
  | [], b :: m, _, _, h => absurd ((h b).mpr List.mem_cons_self) (by simp)
  | a :: l, [], _, _, h => absurd ((h a).mp List.mem_cons_self) (by simp)
  | a :: l, b :: m, h1, h2, h => by
    obtain ⟨p1, p2⟩ := List.pairwise_cons.mp h1
    obtain ⟨q1, q2⟩ := List.pairwise_cons.mp h2
    have e : a = b := by
      rcases List.mem_cons.mp ((h a).mp List.mem_cons_self) with e | e
      · exact e
      · rcases List.mem_cons.mp ((h b).mpr List.mem_cons_self) with e2 | e2
        · exact e2.symm
        · have := q1 a e
          have := p1 b e2
          omega
    subst e
    congr 1
    refine ris_eq p2 q2 fun x => ⟨fun hx => ?_, fun hx => ?_⟩
    · rcases List.mem_cons.mp ((h x).mp (List.mem_cons_of_mem _ hx)) with rfl | z
      · exact absurd (p1 x hx) (Int.lt_irrefl _)
      · exact z
    · rcases List.mem_cons.mp ((h x).mpr (List.mem_cons_of_mem _ hx)) with rfl | z
      · exact absurd (q1 x hx) (Int.lt_irrefl _)
      · exact z
theorem nodup_setI (l : List Int) : (setI l).Nodup := (ris_setI l).imp fun h => Int.ne_of_lt h
theorem len_of_mem {l m : List Int} (h1 : l.Nodup) (h2 : m.Nodup) (h : ∀ x, x ∈ l ↔ x ∈ m) : l.length = m.length :=
  ((List.perm_ext_iff_of_nodup h1 h2).mpr h).length_eq
end Gp
namespace Gp
open PySem PySem.Spec PyProof.Rows L2 Gh
section
variable {P : Program} {w : World} {A : Around} {E : Value → Shared → Prop} {s : Shared}
abbrev eSet (w : World) : Obj := { cls := .type "set", dict := none, data := .set #[] 0 (.fresh 0 0 (!w.params.followText "set-order")) }
set_option maxHeartbeats 3200000 in
theorem call_set_lstI {l : Addr} {items : Array Value} (ns : List Int) {Q : Value → Shared → Prop} (hh : A.handled = none) (hl : s.heap.IsList l items) (zit : IntsAre items.toList ns) (hb : ns.length + 1 < scanBound)
    (h : ∀ (h' : Heap) (tk c : Nat), SetR w h' s.heap.objs.size (fun j => decide (j ∈ ns)) c → c ≤ ns.length → (∀ b o, s.heap.get? b = some o → h'.get? b = some o) → Q (.ref s.heap.objs.size) { s with heap := h', toks := tk }) :
    wpAny (model P w) A (call (.type "set") [.ref l]) Q E s := by
  have zisz : items.size = ns.length := by
    have q := IntsAre.length zit
    rw [Array.length_toList] at q
    exact q
  obtain ⟨c, tl, zmro⟩ := F.called_set.mro
  have zmade := F.called_set.made
  have zsub := F.called_set.sub
  refine wpAny_call (codeAny_of_tree ?_)
  show wpAny _ _ (callAny (.type "set") _) _ _ _
  refine wpAny_pure ⟨Code.quiet_builtin _ (by decide +kernel), codeAny_builtin F.entry_type_call ?_⟩
  rw [Around.under_plain (weight_type_call_type "set" [.ref l] []) rfl]
  have z1 := F.called_set.notType
  have z2 := F.called_set.canCreate
  have zct := F.typeCall_set_1 (.ref l)
  repeat (any_goals (first | assumption | wp_step))

  refine codeAny_mono (code_set_led1 (.ref l) (E := E) (Q₁ := fun ob t₁ => ob = .ref s.heap.objs.size ∧ t₁ = { s with heap := s.heap.push (eSet w) }) ⟨rfl, rfl⟩) fun r t₁ zr => ?_
  cases r with
  | error e => exact zr
  | ok g₁ =>
    cases g₁ with
    | ret ob =>
      obtain ⟨rfl, rfl⟩ := zr
      have zS : (s.heap.push (eSet w)).get? s.heap.objs.size = some (eSet w) := Heap.get?_push_size _ rfl
      have zT : Shared.TypeIs { s with heap := s.heap.push (eSet w) } (.ref s.heap.objs.size) "set" := ⟨_, zS, rfl⟩
      have zli := F.called_set.init.lookup
      have zbi := F.called_set.init.bind (.ref s.heap.objs.size)
      repeat (any_goals (first | assumption | wp_step))

      refine codeAny_mono (codeAny_call_builtin (R := wants (fun r t₂ => r = .none ∧ ∃ h' tk c, t₂ = { s with heap := h', toks := tk } ∧ SetR w h' s.heap.objs.size (fun j => decide (j ∈ ns)) c ∧ c ≤ ns.length ∧
          (∀ b o, s.heap.get? b = some o → h'.get? b = some o)) E) F.called_set.init.plain F.entry_set_init (check_set_init_1 zT ?_)) fun y₂ t₂ zr₂ => ?_
      · obtain ⟨zo, zol, zcl, zn, zdl⟩ := hl
        obtain ⟨kcls, kdict, kdata, kslots⟩ := zo
        simp only at zcl zdl
        subst zcl; subst zdl
        have zol' : (s.heap.push (eSet w)).get? l = some { cls := .type "list", dict := kdict, data := .seq items zn, slots := kslots } := Heap.get?_push_of_some _ zol
        have zsls := F.sub_list_set
        have zslf := F.sub_list_frozenset
        have zne : (Value.type "list" == Value.type "dict") = false := by decide
        have zl1 : (s.heap.push (eSet w)).IsList l items := ⟨_, zol', rfl, zn, rfl⟩
        unfold Builtin.«set.__init__» noKeywords Builtin.Frozenset.updateFrom
        generalize hPI : pyIter = PI
        wp_walk
        subst hPI

        refine wpAny_pyIter_list zl1 ?_
        refine wpAny_bind (wpAny_runValue ?_)
        have zlS : l < s.heap.objs.size := Heap.lt_size zol
        have zh3 : A.in1.in1.in1.handled = none := by simp [hh]
        have zz1 : (s.heap.push (eSet w)).objs.size = s.heap.objs.size + 1 := Heap.size_push ..
        have zneI : l ≠ (s.heap.push (eSet w)).objs.size := by
          rw [Heap.size_push]; exact Nat.ne_of_lt (Nat.lt_succ_of_lt zlS)
        have zSf : s.heap.objs.size ∉ [(s.heap.push (eSet w)).objs.size, l] := by
          rw [Heap.size_push]; simp only [List.mem_cons, List.mem_singleton, List.not_mem_nil, or_false, not_or]
          exact ⟨Nat.ne_of_lt (Nat.lt_succ_self _), Nat.ne_of_gt zlS⟩
        have zval : ∀ (i : Nat) (v : Value), items[i]? = some v → ∃ k t, ns[i]? = some k ∧ v = .int k t := fun i v hv => by
          have hi : i < ns.length := by rw [← zisz]; exact (Array.getElem?_eq_some_iff.mp hv).1
          obtain ⟨t, e⟩ := PyProof.Rows.IntsAre.int_at zit i v (by rw [Array.getElem?_toList]; exact hv)
          refine ⟨ns[i], t, List.getElem?_eq_getElem hi, ?_⟩
          rw [e, List.getD_eq_getElem?_getD, List.getElem?_eq_getElem hi] <;> rfl
        refine set_update_ints ((Walks.list zh3 _ l zneI items).toS) s.heap.objs.size
          zSf ns zisz hb zval (items.size - 0) 0 _ (by omega) (Nat.zero_le _)
          ⟨⟨_, Heap.get?_push_size _ rfl, rfl, rfl⟩, (zl1.push _)⟩ ?hS0 ?hR
        case hS0 =>
          have zget : ((s.heap.push (eSet w)).push { cls := .type "list_iterator", data := .fields #[.ref l, .int 0 0] }).get? s.heap.objs.size
              = some (eSet w) := Heap.get?_push_of_some _ zS
          exact ⟨0, Nat.le_refl 0, setR_new_at zget⟩
        case hR =>
          intro s' c' zm zc' zS'
          obtain ⟨h', g2, d', tk', os'⟩ := s'
          have zeg : g2 = s.gens := zm.gens
          have zed : d' = s.drawn := zm.drawn
          have zeo : os' = s.os := zm.os
          subst zeg; subst zed; subst zeo
          show wpAny _ _ _ _ _ _
          refine wpAny_pure ?_
          show wpAny _ _ (ret Value.none) _ _ _
          rw [zisz] at zc'
          refine wpAny_pure ⟨rfl, h', tk', c', rfl, zS', zc', fun b o e => ?_⟩
          have zb0 : b < s.heap.objs.size := Heap.lt_size e
          have zb1 : b ≠ s.heap.objs.size := Nat.ne_of_lt zb0
          have zb2 : b ≠ (s.heap.push (eSet w)).objs.size := by
            rw [Heap.size_push]; exact Nat.ne_of_lt (Nat.lt_succ_of_lt zb0)
          exact zm.heap b o (by simp only [List.mem_cons, List.mem_singleton, List.not_mem_nil, or_false, not_or]; exact ⟨zb1, zb2⟩) (Heap.get?_push_of_some _ (Heap.get?_push_of_some _ e))

      · cases y₂ with
        | error e => exact zr₂
        | ok g₂ =>
          cases g₂ with
          | ret r =>
            obtain ⟨rfl, h', tk, c', rfl, zS', zc', zk'⟩ := zr₂
            repeat (any_goals (first | assumption | wp_step))
            exact h _ _ _ zS' zc' zk'
          | _ => exact zr₂.elim
    | _ => exact zr.elim
end
end Gp
end
section
namespace Gp
open PySem PySem.Spec PyProof.Rows L2 Gh
def rSetI (K : PySem.W.Frag) (w : World) : List V → Hp → VK → Prop := fun xs H Q => ∃ (l : Addr) (ns : List Int), xs = [.ref l] ∧ SqL K H l (ns.map V.int) ∧ ns.length ≤ 4000 ∧
  ∀ p, H p = none → Q (.ref p) (upd H p (SetO w p (fun j => decide (j ∈ ns)) (setI ns).length))
theorem setR_len {w : World} {h : Heap} {a : Addr} {ns : List Int} {c : Nat} (R : SetR w h a (fun j => decide (j ∈ ns)) c) : c = (setI ns).length := by
  obtain ⟨o, es, ep, t, ho, hx, hd, g, nd, hm, hb, hf, hn, _⟩ := R
  have e : (es.toList.map keyOf).length = (setI ns).length := len_of_mem nd (nodup_setI ns) fun x => by
    rw [mem_setI, ← hm x]
    exact decide_eq_true_iff
  rw [← e, List.length_map, Array.length_toList]
  exact hn.symm
theorem cr_setI {X : Cx} {K : PySem.W.Frag} (h : X.K = K) (hc : X.calm = true) : CallR X (.type "set") (rSetI K X.w) := by
  subst h
  intro pins s σ H xs us Q I r h
  obtain ⟨l, ns, rfl, hq, hl, q⟩ := h
  rw [Vals.ref1 r]
  obtain ⟨its, rv, p, hz⟩ := I.list hq
  refine call_set_lstI ns (I.ok.hd hc) p.isList (by simpa using RZ.intsAre_vals rv) (by unfold scanBound; omega) fun h' tk c hS hle hk => ?_
  have e := setR_len hS
  subst e
  exact ⟨.ref _, upd H s.heap.objs.size (SetO X.w s.heap.objs.size (fun j => decide (j ∈ ns)) (setI ns).length), I.laid (t' := tk) hk (Nat.le_refl _) (setO_new hS), rfl, q _ (I.hok.fresh (Nat.le_refl _))⟩
def rLnSet (w : World) : List V → Hp → VK → Prop := fun xs H Q => ∃ (a : Addr) (S : Int → Bool) (n : Nat), xs = [.ref a] ∧ H a = some (SetO w a S n) ∧ n ≤ 4000 ∧ Q (.int n) H
theorem cr_lnSet {X : Cx} : CallR X (.builtin "len") (rLnSet X.w) := by
  intro pins s σ H xs us Q I r h
  obtain ⟨a, S, n, rfl, ha, hn, q⟩ := h
  rw [Vals.ref1 r]
  obtain ⟨o, es, ep, t, ho, hx, hd, _, _, _, hb, hf, e, _⟩ := setO_get I ha
  exact call_len_set ho hx hd hf (by rw [e] <;> omega) ⟨.int n, H, I.tok _, ⟨_, by rw [e]⟩, q⟩
section
variable {g : Gw} {E : XK} {ε : Env} {te : TE} {me : Tr D} {w : World}
def rSS (K : PySem.W.Frag) (w : World) (te : TE) : TE := tCB (rSortedSet w) (tCons (tCB (rSetI K w) (tCons te tNil)) tNil)
def rLS (K : PySem.W.Frag) (w : World) (te : TE) : TE := tCB (rLnSet w) (tCons (tCB (rSetI K w) (tCons te tNil)) tNil)
def lenSD (x : D) : Tr D := lsI x fun ns => if ns.length ≤ 4000 then .ok (.int (setI ns).length) else .bad
theorem se_sortS (he : SE g E ε te me) : SE g E ε (rSS g.K w te) (bd me sortSD) := fun U σ H b Q R W u q =>
  he.step R W u q fun v d H1 b1 d1 w1 f1 R1 u1 q1 => by
    obtain ⟨a, ns, rfl, h1, _, hl, q2⟩ := al_lsI d1 q1
    split at q2
    · rename_i h64
      refine ⟨a, ns, rfl, h1, by omega, fun p np => ?_⟩
      have s1 := same_new (o := SetO w p (fun j => decide (j ∈ ns)) (setI ns).length) np
      refine ⟨p, _, _, rfl, upd_same, Nat.lt_of_le_of_lt (len_setI ns) h64, fun ms p2 hp hm hlen np2 => ?_⟩
      have e : ms = setI ns := ris_eq hp (ris_setI ns) fun x => by rw [hm x, mem_setI]; exact decide_eq_true_iff
      subst e
      have s2 := same_new (o := .lst ((setI ns).map V.int)) np2
      have s := s1.trans s2
      have npH : H1 p2 = none := by
        cases z : H1 p2 with
        | none => rfl
        | some o => rw [s1 _ _ z] at np2; cases np2
      exact q2 _ _ (.lst upd_same (u1.new npH) (by rw [List.length_map]; exact Nat.le_trans (len_setI ns) hl) (DenL.ints _)) (w1.same s) (f1.trans (fr_same s))
    · exact q2.elim
theorem se_lenS (he : SE g E ε te me) : SE g E ε (rLS g.K w te) (bd me lenSD) := fun U σ H b Q R W u q =>
  he.step R W u q fun v d H1 b1 d1 w1 f1 R1 u1 q1 => by
    obtain ⟨a, ns, rfl, h1, _, hl, q2⟩ := al_lsI d1 q1
    split at q2
    · rename_i h4
      refine ⟨a, ns, rfl, h1, h4, fun p np => ?_⟩
      have s1 := same_new (o := SetO w p (fun j => decide (j ∈ ns)) (setI ns).length) np
      exact ⟨p, _, _, rfl, upd_same, Nat.le_trans (len_setI ns) h4, q2 _ _ (.int _) (w1.same s1) (f1.trans (fr_same s1))⟩
    · exact q2.elim
end
end Gp
end
section
namespace Gp
open PySem PySem.Spec PyProof.Rows L2 Gh
section
variable {g : Gw} {Mt U0 U U' : Addr → Prop} {H0 H H' H1 H2 : Hp} {b b1 : Nat} {σ : L2.St} {ε ε' : Env} {E : XK} {W L W' : Type}
variable {env : W → Env} {envL : L → Env} {env' : W' → Env} {u ta tb : TS} {te : TE} {me : Tr D}
theorem sn_lc {wi : TI} {gt : TG} {tt : TT} {vs : List Nat} {mi : Tr (List D)} {f : D → Tr (Option D)} (hi : SI g E ε wi mi) (hf : ∀ d, SC g ε d gt tt te vs (f d)) : SN g E ε (tLc wi gt tt te vs) (bd mi fun ds => lcF (fun d => nox (f d)) ds) := fun U σ H b Q rl wd u q => by
  refine hi U σ H b _ rl wd u ((al_bd.mp q).mono (fun ds b1 h1 J H1 hsz it w1 f1 => ?_) (fun _ _ _ h => h))
  intro A nA
  have u1 := u.fr f1 w1
  have nUA : ¬ U A := u1.new nA
  have hp : A ≠ g.p := fun z => nUA (z ▸ u.p)
  have hc : A ≠ g.c := fun z => nUA (z ▸ u.c)
  have rl1 := (rl.fr u f1).grow nA
  generalize hV : (fun a => U a ∨ a = A) = V at rl1
  have VA : V A := by rw [← hV]; exact .inr rfl
  have VU : ∀ a, U a → V a := fun a z => by rw [← hV]; exact .inl z
  have VO : ∀ a o, H1 a = some o → ¬ U a → ¬ V a := fun a o e n => by
    rw [← hV]
    rintro (z | z)
    · exact n z
    · exact ne_of_none e nA z
  have uv : ∀ {H' : Hp} {b : Nat} {o : List L2.V}, Fr H1 H' g.p → Wd g H' b → H' A = some (.lst o) → UOk g V H' := fun f w h => ⟨VU _ u.p, VU _ u.c, fun a ha => by
    rw [← hV] at ha
    rcases ha with ha | rfl
    · exact (u1.fr f w).al a ha
    · exact ⟨_, h, (fun _ z => by cases z), (fun _ z => by cases z)⟩⟩
  refine ⟨fun i m H' => ∃ b' accV accD, m = ds.length - i ∧ i ≤ ds.length ∧ accV.length ≤ i ∧ H' A = some (.lst accV) ∧ DenL g V H' accV accD ∧ Wd g H' b' ∧ Fr H1 H' g.p ∧ Al (fun r b => okN g U H Q (accD ++ r) b) (exP g U E H) (lcF (fun d => nox (f d)) (ds.drop i)) b', ?_, ?_⟩
  · refine ⟨ds.length, b1, [], [], by simp, Nat.zero_le _, Nat.zero_le _, upd_same, .nil, w1.same (same_new nA), fr_same (same_new nA), ?_⟩
    exact h1.mono (fun r b h => h) (fun _ _ _ h => h)
  · rintro i m H' ⟨b', accV, accD, rfl, hle, hla, hA, dA, w', f', q'⟩
    have u' := uv f' w' hA
    have ev' : Ev U H1 V H' := ⟨fun a o e n t => f' a o e (fun z => n (z ▸ u.p)) t, fun a o e n _ => VO a o e n⟩
    obtain ⟨it1, it2⟩ := it i V H' b' ev' w' u'
    by_cases hlt : i < ds.length
    · have ei : ds[i]? = some ds[i] := List.getElem?_eq_getElem hlt
      obtain ⟨go, y⟩ := it1 _ ei
      rw [List.drop_eq_getElem_cons hlt, lcF_cons] at q'
      refine .inr ⟨go, fun H' => ∃ b' accV accD, accV.length ≤ i + 1 ∧ H' A = some (.lst accV) ∧ DenL g V H' accV accD ∧ Wd g H' b' ∧ Fr H1 H' g.p ∧ Al (fun r b => okN g U H Q (accD ++ r) b) (exP g U E H) (lcF (fun d => nox (f d)) (ds.drop (i + 1))) b', ?_, ?_⟩
      · rintro H2 ⟨b2, av, ad, h1, h2⟩
        exact ⟨ds.length - (i + 1), by omega, b2, av, ad, rfl, hlt, h1, h2⟩
      · intro x H2 hy
        obtain ⟨dn, sm⟩ := y x H2 hy
        have w2 := w'.same sm
        have f2 : Fr H1 H2 g.p := f'.trans (fr_same sm)
        have hA2 := sm _ _ hA
        refine hf ds[i] V σ H2 b' x (fun o H4 => match o with
          | some y => ∃ acc, H4 A = some (.lst acc) ∧ acc.length < sizeLine ∧ ∃ b' accV accD, accV.length ≤ i + 1 ∧ (upd H4 A (.lst (acc ++ [y]))) A = some (.lst accV) ∧ DenL g V (upd H4 A (.lst (acc ++ [y]))) accV accD ∧ Wd g (upd H4 A (.lst (acc ++ [y]))) b' ∧ Fr H1 (upd H4 A (.lst (acc ++ [y]))) g.p ∧ Al (fun r b => okN g U H Q (accD ++ r) b) (exP g U E H) (lcF (fun d => nox (f d)) (ds.drop (i + 1))) b'
          | none => ∃ b' accV accD, accV.length ≤ i + 1 ∧ H4 A = some (.lst accV) ∧ DenL g V H4 accV accD ∧ Wd g H4 b' ∧ Fr H1 H4 g.p ∧ Al (fun r b => okN g U H Q (accD ++ r) b) (exP g U E H) (lcF (fun d => nox (f d)) (ds.drop (i + 1))) b')
          (rl1.frp (VU _ u.p) f2) w2 (uv f2 w2 hA2) dn ((al_noX (al_bd.mp q')).mono (fun o b2 h2 => ?_) (fun _ _ _ z => z))
        have h3 := al_bd.mp h2
        cases o with
        | some y =>
          intro w H4 dw w4 f4
          have hA4 := f4 _ _ hA2 hp (fun _ z => by cases z)
          have e4 : ExtU V H4 (upd H4 A (.lst (accV ++ [w]))) := fun a o e n _ => by
            rw [upd_ne (fun z => n (by rw [z]; exact VA))]
            exact e
          have k4 : Keep H4 (upd H4 A (.lst (accV ++ [w]))) A := fun a o e n => by rw [upd_ne n]; exact e
          refine ⟨accV, hA4, Nat.lt_of_le_of_lt hla (Nat.lt_of_lt_of_le hlt hsz), b2, accV ++ [w], accD ++ [y], ?_, upd_same, ?_, ?_, ?_, ?_⟩
          · rw [List.length_append]
            exact Nat.add_le_add_right hla 1
          · exact DenL.append ((dA.ext (extU_of (VU _ u.p) ((fr_same sm).trans f4))).ext e4) (.cons (dw.ext e4) .nil)
          · exact ⟨w4.pen.keep k4 hp hc, tabs_keepL k4 hA4 w4.tabs⟩
          · intro a o e n t
            rw [upd_ne (ne_of_none e nA)]
            exact f4 _ _ (f2 a o e n t) n t
          · exact h3.mono (fun r b h => by
              have : okN g U H Q (accD ++ (y :: r)) b := h
              rw [List.append_cons] at this
              exact this) (fun _ _ _ z => z)
        | none =>
          intro H4 w4 f4
          exact ⟨b2, accV, accD, Nat.le_succ_of_le hla, f4 _ _ hA2 hp (fun _ z => by cases z), dA.ext (extU_of (VU _ u.p) ((fr_same sm).trans f4)), w4, f2.trans f4, h3.mono (fun r b h => h) (fun _ _ _ z => z)⟩
    · have e : i = ds.length := by omega
      subst e
      rw [List.drop_length, lcF_nil] at q'
      refine .inl ⟨it2 (rfl), ?_⟩
      have q2 : okN g U H Q (accD ++ []) b' := q'
      rw [List.append_nil] at q2
      have e2 : upd (fun a => if a = A then none else H' a) A (.lst accV) = H' := by
        funext a
        by_cases z : a = A
        · subst z
          rw [upd_same, hA]
        · rw [upd_ne z]
          exact if_neg z
      have xt : ExtU V H' (fun a => if a = A then none else H' a) := fun a o e n _ => (if_neg (fun z => n (by rw [z]; exact VA))).trans e
      have kA : ∀ a o, H' a = some o → a ≠ A → (fun a => if a = A then none else H' a) a = some o := fun a o e n => (if_neg n).trans e
      have w2 : Wd g (fun a => if a = A then none else H' a) b' := by
        obtain ⟨ns, i, z, h1, h2, h3⟩ := w'.pen
        exact ⟨⟨ns, i, z, kA _ _ h1 hp.symm, kA _ _ h2 hc.symm, h3⟩, tabs_of w'.tabs (fun a ps e => kA _ _ e (fun z => by subst z; rw [hA] at e; cases e)) (fun a c q e => kA _ _ e (fun z => by subst z; rw [hA] at e; unfold LamX.CodeO at e; cases e))⟩
      have f2 : Fr H (fun a => if a = A then none else H' a) g.p := fun a o e n t => kA _ _ ((f1.trans f') a o e n t) (fun z => by
        subst z
        have := f1 _ _ e n t
        rw [nA] at this
        cases this)
      have := q2 A accV _ (if_pos rfl) (Nat.le_trans hla hsz) ((dA.ext xt).sub fun a _ z => VU a z) w2 f2
      rw [e2] at this
      exact this
theorem al_asL {P : List D → Nat → Prop} {X : Str → Fs → Nat → Prop} {d : D} (h : Al P X (asL d) b) : ∃ ds, d = .lst ds ∧ P ds b := by
  cases d with
  | lst ds => exact ⟨ds, rfl, h⟩
  | _ => exact h.elim
theorem ss_ext {i : Nat} {ds : List D} {k : List D → Tr (Fl W L)} (he : SE g E ε te me) (hk : ∀ es, SS g E (ε.set i (.ow (.l (ds ++ es)))) u env envL (k es)) (hi : ε[i]? = some (.ow ds) := by rfl) :
    SS g E ε (tSeq (tDrop (tBM g.K "list" rExtend (tVar i) (tCons te tNil))) u) env envL (bd (bd me asL) fun es => if ds.length + es.length ≤ sizeLine then k es else .bad) := fun Mt U0 H0 U D σ H b s q => by
  rw [bd_bd] at q
  obtain ⟨a, vs, e1, h1, l1, d1, ua, n1, n2, _⟩ := own_mut (vs' := []) (ds' := []) s hi
  refine ⟨.ref a, e1, .inl ⟨rfl, vs, SqL.of h1⟩, ?_⟩
  refine he.sstep s q fun v d H1 b1 dv s1 q1 => ?_
  obtain ⟨es, rfl, q2⟩ := al_asL (al_bd.mp q1)
  obtain ⟨a', vs', e2, h2, l2, d2, _, _, _, mt⟩ := own_mut (vs' := []) (ds' := []) s1 hi
  rw [e1] at e2
  cases e2
  obtain ⟨p3, v3, rfl, h3, n3, l3, k3⟩ := den_lst dv
  by_cases hl : ds.length + es.length ≤ sizeLine
  · rw [if_pos hl] at q2
    have hl2 : vs'.length + v3.length ≤ sizeLine := by rw [d2.length, k3.length]; exact hl
    obtain ⟨s2, ev⟩ := mt (vs' ++ v3) (ds ++ es) (by rw [List.length_append]; exact hl2) (d2.append k3)
    exact ⟨a, p3, vs', v3, rfl, rfl, h2, h3, hl2, hk es Mt U0 H0 U D σ _ b1 s2 (q2.mono (fun _ _ z => z.ev ev) (fun _ _ _ z => z))⟩
  · rw [if_neg hl] at q2
    exact q2.elim
end
end Gp
end
section
namespace Gp
open PySem PySem.Spec PyProof.Rows L2 Gh
section
variable {g : Gw} {Mt U0 U U' : Addr → Prop} {H0 H H' H1 H2 : Hp} {b b1 : Nat} {σ : L2.St} {ε ε' : Env} {W L W' : Type} {yd : List D}
variable {env : W → Env} {envL : L → Env} {env' : W' → Env} {u ta tb : TGn} {te : TE} {me : Tr D}
def SG (g : Gw) (ε : Env) (t : TGn) (env : W → Env) (envL : L → Env) (m : List D → Tr (List D × Fl W L)) : Prop := ∀ Mt U0 H0 U D ys yd σ H b, Stt g Mt U0 H0 U σ H b ε → DenL g U H ys yd → Al (gflP g Mt U0 H0 U H D env envL) (fun _ _ _ => False) (m yd) b → t D ys σ H
def pln (yd : List D) (f : Fl W L) : Tr (List D × Fl W L) := match f with
  | .nx w => .ok (yd, .nx w)
  | .bk w => .ok (yd, .bk w)
  | .ct w => .ok (yd, .ct w)
  | .rt _ => .bad
def bdG (m : Tr (List D × Fl W' L)) (k : W' → List D → Tr (List D × Fl W L)) : Tr (List D × Fl W L) := bd m fun r => match r with
  | (zs, .nx w) => k w zs
  | (zs, .rt d) => .ok (zs, .rt d)
  | (zs, .bk l) => .ok (zs, .bk l)
  | (zs, .ct l) => .ok (zs, .ct l)
theorem SG.seq {m : List D → Tr (List D × Fl W' L)} {k : W' → List D → Tr (List D × Fl W L)} (h1 : SG g ε ta env' envL m) (h2 : ∀ w, SG g (env' w) u env envL (k w)) : SG g ε (tGThen ta u) env envL (fun yd => bdG (m yd) k) := fun Mt U0 H0 U D ys yd σ H b s dn q => by
  refine h1 Mt U0 H0 U { D with nx := fun ys' σ' H' => u D ys' σ' H' } ys yd σ H b s dn ((al_bd.mp q).mono (fun r b1 h => ?_) (fun _ _ _ z => z))
  obtain ⟨zs, f⟩ := r
  cases f with
  | nx w => exact fun U1 σ1 H1 ys1 e1 s1 d1 => h2 w Mt U0 H0 U1 D ys1 zs σ1 H1 b1 s1 d1 (Al.mono (fun _ _ z => z.ev e1) (fun _ _ _ z => z) h)
  | rt d => exact h.elim
  | bk l => exact h
  | ct l => exact h
end
section
variable {P : Program} {w : World} {K : PySem.W.Frag} {mg : Str → Option Value} {base : Heap}
end
end Gp
end
section
namespace Gp
open PySem PySem.Spec PyProof.Rows L2 Gh
section
variable {g : Gw} {E : XK} {ε : Env} {te : TE} {me : Tr D}
theorem pa_starK {X : Cx} {K : PySem.W.Frag} {e : Expr} {es : List Expr} {p : Pos} {t : TA} (hK : X.K = K) (he : PE X e te) (hr : PA X es t) (hs : starEach (.Starred e p :: es) X.env = (true, eval e X.env) :: starEach es X.env := by rfl) : PA X (.Starred e p :: es) (StX.tStar K te t) := hK ▸ StX.pa_star he hr hs
theorem sa_star {t : TA} {m : Tr (List D)} (he : SE g E ε te me) (hb : SA g E ε t m) : SA g E ε (StX.tStar g.K te t) (bd (bd me seqD) fun x => bd m fun xs => .ok (x ++ xs)) := fun U σ H b Q R W u q => by
  rw [bd_bd] at q
  refine he.step R W u q fun v d H1 b1 d1 w1 f1 R1 u1 q1 => ?_
  cases d with
  | lst ds =>
    obtain ⟨p, vs, rfl, h, n, l, k⟩ := den_lst d1
    refine ⟨p, vs, rfl, .inr (SqL.of h), hb.step R1 w1 u1 q1 fun v2 e H2 b2 d2 w2 f2 R2 u2 q2 => ?_⟩
    exact q2 (vs ++ v2) H2 ((k.fr u1 f2).append d2) w2 (f1.trans f2)
  | tup ds =>
    obtain ⟨p, vs, rfl, h, l, k⟩ := den_tup d1
    refine ⟨p, vs, rfl, .inl h, hb.step R1 w1 u1 q1 fun v2 e H2 b2 d2 w2 f2 R2 u2 q2 => ?_⟩
    exact q2 (vs ++ v2) H2 ((k.fr u1 f2).append d2) w2 (f1.trans f2)
  | _ => exact q1.elim
end
end Gp
end
section
namespace HT
open PySem PyProof.Rows
section
open PySem.SeqAt
variable {prog : Program} {w : World} {A : Around} {E : Value → Shared → Prop} {s : Shared}
theorem sliceApplied_rev {sl : Addr} {vs : Value} {n : Nat} {Q : Int × Int × Nat → Shared → Prop} (hs : s.heap.IsSliceOf sl .none .none vs) (ps : IsPart vs (some (-1)))
    (h : Q ((n : Int) - 1, -1, n) s) : wpAny (model prog w) A (Builtin.Slice.sliceApplied (.ref sl) (pure (n : Int))) Q E s := by
  obtain ⟨os, hos, hcs, hds⟩ := id hs
  unfold Builtin.Slice.sliceApplied Builtin.Slice.sliceFields
  refine wpAny_bind (wpAny_bind (wpAny_field hos hds (x := .none) rfl (wpAny_bind (wpAny_field hos hds (x := .none) rfl (wpAny_bind (wpAny_field hos hds (x := vs) rfl (wpAny_pure ?_)))))))
  refine wpAny_bind (slicePart_ ps ?_)
  show wpAny _ _ (if ((-1 : Int) == 0) = true then _ else _) _ _ s
  rw [if_neg (by decide)]
  refine wpAny_bind (slicePart_none (wpAny_bind (slicePart_none (wpAny_bind (wpAny_pure ?_)))))
  have e : Builtin.Slice.slicePlaces ((n : Int) - 1) (-1) (-1) = n := by
    unfold Builtin.Slice.slicePlaces
    have h1 : ¬ (-1 : Int) > 0 := by omega
    simp only [h1, if_false]
    have h2 : (- -1 : Int) = 1 := by decide
    rw [h2, Int.ediv_one]
    split <;> omega
  show wpAny _ _ (pure ((n : Int) - 1, (-1 : Int), Builtin.Slice.slicePlaces ((n : Int) - 1) (-1) (-1))) _ _ s
  rw [e]
  exact wpAny_pure h
theorem fm_congr {f g : Nat → Option Value} : ∀ {l : List Nat}, (∀ x ∈ l, f x = g x) → l.filterMap f = l.filterMap g
  | [], _ => rfl
  | x :: l, h => by
    rw [List.filterMap_cons, List.filterMap_cons, h x List.mem_cons_self, fm_congr fun y hy => h y (List.mem_cons_of_mem _ hy)]
theorem pick_rev (xs : Array Value) : ((List.range xs.size).filterMap fun (k : Nat) => xs[((xs.size : Int) - 1 + (k : Int) * -1).toNat]?).toArray = xs.toList.reverse.toArray := by
  have e : ((List.range xs.size).filterMap fun (k : Nat) => xs[((xs.size : Int) - 1 + (k : Int) * -1).toNat]?) = ((List.range xs.size).map fun k => xs.size - 1 - k).filterMap (xs[·]?) := by
    rw [List.filterMap_map]
    refine fm_congr fun k hk => ?_
    have := List.mem_range.mp hk
    show _ = xs[xs.size - 1 - k]?
    congr 1
    omega
  rw [e, PySem.W.krv_range, List.filterMap_reverse, PySem.W.krv_all]
theorem getItem_tuple_rev {t sl : Addr} {items : Array Value} {vs : Value} {Q : Value → Shared → Prop} (ht : IsTup s.heap t items) (hs : s.heap.IsSliceOf sl .none .none vs) (ps : IsPart vs (some (-1)))
    (h : Q (.ref s.heap.objs.size) { s with heap := s.heap.push { cls := .type "tuple", data := .seq items.toList.reverse.toArray } })
    (hsz : items.size ≤ sizeLine) : wpAny (model prog w) A (getItem (.ref t) (.ref sl)) Q E s := by
  have htake : sizeOk (.seq items.toList.reverse.toArray) := by
    show items.toList.reverse.toArray.size ≤ sizeLine
    rw [List.size_toArray, List.length_reverse, Array.length_toList]
    exact hsz
  obtain ⟨os, hos, hcs, hds⟩ := id hs
  have hTs : s.TypeIs (.ref sl) "slice" := ⟨os, hos, hcs⟩
  unfold getItem
  try with_reducible refine wpAny_holding ?_
  first | refine wpAny_bind (wpAny_pure ?_) | skip
  refine wpAny_bind (wpAny_sequenceKey ht.typeIs (by decide) ?_)
  refine wpAny_bind (wpAny_callSpecial?_slot (name := Str.ofString "__getitem__") ht.typeIs PyProof.Rows.slot_tuple_getitem
    (wpAny_call_entry PyProof.Rows.slot_tuple_getitem ht.typeIs entry_tuple_getitem ?_ (args_tuple_getitem _ _)))
  show wpAny _ _ (Builtin.Tuple.tupleItemsOf (.ref t) >>= _) _ _ s
  refine wpAny_bind (tupleItemsOf_ ht ?_)
  refine wpAny_bind (wpAny_typeOf hTs ?_)
  rw [if_pos (by decide)]
  refine wpAny_bind (sliceApplied_rev hs ps ?_)
  have hno : ¬ ((((items.size : Int) - 1) == 0 && (-1 : Int) == 1 && items.size == items.size) = true) := by
    intro q
    rw [Bool.and_eq_true, Bool.and_eq_true] at q
    exact absurd q.1.2 (by decide)
  show wpAny _ _ (if (((items.size : Int) - 1) == 0 && (-1 : Int) == 1 && items.size == items.size) = true then _ else _) _ _ s
  rw [if_neg hno, pick_rev]
  first
    | exact wpAny_bind (m := Builtin.Tuple.tupleExact _) (wpAny_newObj_type (wpAny_pure ⟨_, rfl, wpAny_pure h⟩) htake)
    | exact wpAny_bind (m := Builtin.Tuple.tupleExact _) (wpAny_newObj_type (wpAny_bind (wpAny_pure (wpAny_pure ⟨_, rfl, wpAny_pure h⟩))) htake)
    | exact wpAny_bind (wpAny_bind (m := Builtin.Tuple.tupleExact _) (wpAny_newObj_type (wpAny_pure (wpAny_pure ⟨_, rfl, wpAny_pure h⟩)) htake))
    | exact wpAny_bind (wpAny_bind (m := Builtin.Tuple.tupleExact _) (wpAny_newObj_type (wpAny_pure ⟨_, rfl, wpAny_pure h⟩) htake))
end
end HT
namespace Gp
open PySem PySem.Spec PyProof.Rows L2 Gh
section
variable {g : Gw} {Mt U0 U U' : Addr → Prop} {H0 H H' H1 H2 : Hp} {b b1 : Nat} {σ : L2.St} {ε ε' : Env} {E : XK} {W L W' : Type} {te : TE} {me : Tr D}
def tRevA (K : PySem.W.Frag) (te : TE) : TE := fun σ H Q => te σ H fun x H1 => ∃ a xs, x = .ref a ∧ ((SqL K H1 a xs ∧ ∀ p, H1 p = none → Q (.ref p) (upd H1 p (.lst xs.reverse))) ∨ (SqT K H1 a xs ∧ ∀ p, H1 p = none → Q (.ref p) (upd H1 p (.tup xs.reverse))))
theorem pe_revA {X : Cx} {e : Expr} {k : Nat} {p1 p2 p3 pos : Pos} (he : PE X e te) : PE X (.Subscript e (.Slice none none (some (.UnaryOp .USub (.Constant (.int 1) k p1) p2)) p3) pos) (tRevA X.K te) := by
  refine ⟨fun pins s σ H Q I h => ?_⟩
  refine Subscript_ (thn (he.run pins s σ H _ I h) fun v s1 ⟨x, H1, I1, r1, q1⟩ => ?_)
  obtain ⟨a, xs, ex, hq⟩ := q1
  subst ex
  cases r1
  have hst : PO X (some (.UnaryOp .USub (.Constant (.int 1) k p1) p2)) (tPart (tUn (rU fun i => .int (-i)) (tC (.int 1)))) := po_some (pe_un un_neg pe_int)
  refine wpAny_Slice (thn (po_none.run pins s1 σ H1 (fun o H2 => o = none ∧ H2 = H1) I1 ⟨rfl, rfl⟩) fun vl s2 ⟨l, H2, I2, pl, el, e2⟩ => ?_)
  subst el e2
  refine thn (po_none.run pins s2 σ H2 (fun o H3 => o = none ∧ H3 = H2) I2 ⟨rfl, rfl⟩) fun vu s3 ⟨u, H3, I3, pu, eu, e3⟩ => ?_
  subst eu e3
  refine thn (hst.run pins s3 σ H3 (fun o H4 => o = some (-1) ∧ H4 = H3) I3 ⟨1, rfl, -1, rfl, rfl, rfl⟩) fun vs s4 ⟨o, H4, I4, ps, eo, e4⟩ => ?_
  subst eo e4
  have I5 : Inv X pins σ H4 { s4 with heap := s4.heap.push { cls := .type "slice", data := .fields #[vl, vu, vs] } } := I4.kept (t' := s4.toks) fun b ob q => Heap.get?_push_of_some _ q
  show wpAny (model X.prog X.w) X.A (subscriptTail e (.Slice none none (some (.UnaryOp .USub (.Constant (.int 1) k p1) p2)) p3) (.ref a) (.ref s4.heap.objs.size)) (EP X pins σ Q) X.xe { s4 with heap := s4.heap.push { cls := .type "slice", data := .fields #[vl, vu, vs] } }
  rcases hq with ⟨hx, q⟩ | ⟨hx, q⟩
  · obtain ⟨its, r, ht, hz⟩ := I5.list hx
    have hlen := r.length
    refine tail_any (ops := [.ref a, .ref s4.heap.objs.size]) ht.isList.typeIs (PySem.slot_list_getitem.lookup) ?_ (by with_unfolding_all rfl)
    refine wpAny_getItem_list_slice ht.isList (Heap.IsSliceOf.new _ vl vu vs) pl pu ps (by decide) ?_ (by rw [List.size_toArray]; omega)
    rw [PySem.W.krv_pick]
    refine ⟨.ref _, _, I5.laid (t' := s4.toks) (o := .lst xs.reverse) (fun b ob q => Heap.get?_push_of_some _ q) (Nat.le_refl _) ?_, rfl, q _ (I5.hok.fresh (Nat.le_refl _))⟩
    exact ⟨by rw [List.length_reverse]; exact hz, _, 0, r.reverse, Heap.get?_push_size _ rfl⟩
  · obtain ⟨its, r, ht, hz⟩ := I5.tuple hx
    have hlen := r.length
    cases pl
    cases pu
    refine tail_any (ops := [.ref a, .ref s4.heap.objs.size]) ht.typeIs PyProof.Rows.slot_tuple_getitem.lookup ?_ (by with_unfolding_all rfl)
    refine HT.getItem_tuple_rev ht (Heap.IsSliceOf.new _ _ _ vs) ps ?_ (by rw [List.size_toArray]; omega)
    refine ⟨.ref _, _, I5.laid (t' := s4.toks) (o := .tup xs.reverse) (fun b ob q => Heap.get?_push_of_some _ q) (Nat.le_refl _) ?_, rfl, q _ (I5.hok.fresh (Nat.le_refl _))⟩
    exact ⟨by rw [List.length_reverse]; exact hz, _, r.reverse, IsTup.new _ _⟩
theorem pe_revAK {X : Cx} {K : PySem.W.Frag} {e : Expr} {k : Nat} {p1 p2 p3 pos : Pos} (hK : X.K = K) (he : PE X e te) : PE X (.Subscript e (.Slice none none (some (.UnaryOp .USub (.Constant (.int 1) k p1) p2)) p3) pos) (tRevA K te) := hK ▸ pe_revA he
def revA (x : D) : Tr D := match x with
  | .lst ds => .ok (.lst ds.reverse)
  | .tup ds => .ok (.tup ds.reverse)
  | _ => .bad
theorem se_revA (he : SE g E ε te me) : SE g E ε (tRevA g.K te) (bd me revA) := fun U σ H b Q R W u q =>
  he.step R W u q fun v d H1 b1 d1 w1 f1 R1 u1 q1 => by
    cases d with
    | lst ds =>
      obtain ⟨p, vs, rfl, h, n, l, k⟩ := den_lst d1
      exact ⟨p, vs, rfl, .inl ⟨SqL.of h, new_lst (okP.fr f1 q1) w1 u1 (by rw [List.length_reverse]; exact l) k.reverse⟩⟩
    | tup ds =>
      obtain ⟨p, vs, rfl, h, l, k⟩ := den_tup d1
      exact ⟨p, vs, rfl, .inr ⟨h, new_tup (okP.fr f1 q1) w1 u1 (by rw [List.length_reverse]; exact l) k.reverse⟩⟩
    | _ => exact q1.elim
end
end Gp
end
section
namespace GQ
open PySem PySem.SeqAt
open AutoSeq1 (wpAny_loadPart')
open MeetsSeq MeetsSeq2 MeetsSeq3 SeqRoads2
section
variable {prog : Program} {w : World} {A : Around} {R : Result → Shared → Prop}
end
section
variable {prog : Program} {w : World} {A : Around} {E : Value → Shared → Prop} {s : Shared}
end
end GQ
namespace Gp
open PySem PySem.Spec PyProof.Rows L2 Gh
section
variable {X : Cx} {n : Nat} {Go : Hp → Prop} {Dq : V → V → Bool → Prop}
end
mutual
def differ : D → D → Bool
  | .bl a, .bl b => a != b
  | .int i, .int j => i != j
  | .str x, .str y => x != y
  | .tup ds, .tup es => differL ds es
  | .lst ds, .lst es => differL ds es
  | .obj _ fs, .obj _ gs => differF fs gs
  | _, _ => false
def differL : List D → List D → Bool
  | [], [] => false
  | d :: ds, e :: es => differ d e || differL ds es
  | _, _ => true
def differF : List (Str × D) → List (Str × D) → Bool
  | [], [] => false
  | (n, d) :: ds, (m, e) :: es => n != m || (differ d e || differF ds es)
  | _, _ => true
end
section
variable {g : Gw} {U : Addr → Prop} {H : Hp}
end
abbrev EqTab := List (Str × (List D → Tr D))
def itE (es : EqTab) (x y : D) : Option Bool := match x, y with
  | .obj c _, .obj c' _ => match es.lookup c, es.lookup c' with
    | some F, some _ => match F [x, y] with
      | .ok (.bl true) => some true
      | .ok (.bl false) => if differ x y = true then some false else none
      | _ => none
    | _, _ => none
  | _, _ => none
section
variable {g : Gw} {U : Addr → Prop} {H : Hp} {E : XK} {b : Nat}
end
end Gp
end
section
namespace Gp
open PySem PySem.Spec PyProof.Rows L2 Gh
section
variable {g : Gw} {Mt U0 U U' : Addr → Prop} {H0 H H' H1 H2 : Hp} {b b1 : Nat} {σ : L2.St} {ε ε' : Env} {E : XK} {W L W' : Type}
variable {env : W → Env} {envL : L → Env} {env' : W' → Env} {u ta tb : TS} {te ti : TE} {me mi : Tr D}
theorem SE.sstepF {t : TE} {m : Tr D} {k : D → Tr (Fl W L)} {Ds : Ends} {Q : VK} (he : SE g E ε t m) (s : Stt g Mt U0 H0 U σ H b ε) (h : Al (flP g Mt U0 H0 U H Ds env envL) (exS g Mt U0 H0 E) (bd m k) b)
    (hk : ∀ v d H1 b1, Den g U H1 v d → Fr H H1 g.p → Stt g Mt U0 H0 U σ H1 b1 ε → Al (flP g Mt U0 H0 U H1 Ds env envL) (exS g Mt U0 H0 E) (k d) b1 → Q v H1) : t σ H Q :=
  he U σ H b Q s.rel s.wd s.uok ((al_bd.mp h).mono (fun d b1 h1 v H1 d1 w1 f1 => hk v d H1 b1 d1 f1 (s.fr f1 w1) (h1.mono (fun _ _ z => z.ev (s.uok.ev f1)) (fun _ _ _ z => z))) (fun _ _ _ h => exS.exP s h))
theorem ss_setix {i : Nat} {ds : List D} {k : List D → Tr (Fl W L)} (he : SE g E ε te me) (hx : SE g E ε ti mi) (hk : ∀ ds' : List D, SS g E (ε.set i (.ow ds')) u env envL (k ds')) (hi : ε[i]? = some (.ow ds) := by rfl) :
    SS g E ε (tSeq (tAsg te (gSub (tVar i) ti rSetL)) u) env envL (bd me fun v => bd mi fun x => bd (setD ds x v) k) := fun Mt U0 H0 U D σ H b s q => by
  refine he.sstepF s q fun v d H1 b1 dv f1 s1 q1 => ?_
  obtain ⟨a, vs, e1, h1, l1, d1, ua, n1, n2, _⟩ := own_mut (vs' := []) (ds' := []) s1 hi
  refine ⟨.ref a, e1, ?_⟩
  refine hx.sstepF s1 q1 fun x dx H2 b2 dvx f2 s2 q2 => ?_
  obtain ⟨a', vs', e2, h2, l2, d2, _, _, _, mt⟩ := own_mut (vs' := []) (ds' := []) s2 hi
  rw [e1] at e2
  cases e2
  cases dx with
  | int z =>
    cases den_int dvx
    change Al _ _ (bd (match ixN ds.length z with | some j => .ok (ds.set j d) | none => .bad) k) b2 at q2
    cases ej : ixN ds.length z with
    | none => rw [ej] at q2; exact q2.elim
    | some j =>
      rw [ej] at q2
      have dv2 : Den g U H2 v d := dv.fr s1.uok f2
      obtain ⟨s3, ev⟩ := mt (vs'.set j v) (ds.set j d) (by rw [List.length_set]; exact l2) (d2.set j dv2)
      exact ⟨a, vs', z, j, rfl, rfl, h2, by rw [d2.length]; exact ej, hk (ds.set j d) Mt U0 H0 U D σ _ b2 s3 (q2.mono (fun _ _ z => z.ev ev) (fun _ _ _ z => z))⟩
  | _ => exact q2.elim
theorem sn_list (he : SE g E ε te me) : SN g E ε (tCB (rListOf g.K) (tCons te tNil)) (bd me listL) := fun U σ H b Q R W u q =>
  he.step R W u q fun v d H1 b1 d1 w1 f1 R1 u1 q1 => by
    show rListOf g.K [v] H1 Q
    unfold rListOf
    cases d with
    | lst ds =>
      obtain ⟨p, vs, rfl, h, n, l, k⟩ := den_lst d1
      exact ⟨p, vs, rfl, .inl (SqL.of h), fun A nA => q1 A vs H1 nA l k w1 f1⟩
    | tup ds =>
      obtain ⟨p, vs, rfl, h, l, k⟩ := den_tup d1
      exact ⟨p, vs, rfl, .inr h, fun A nA => q1 A vs H1 nA l k w1 f1⟩
    | _ => exact q1.elim
theorem sn_rg {t : L2.St → Hp → (Int → Int → Hp → Prop) → Prop} {m : Tr (Int × Int)} (he : SRg g E ε t m) : SN g E ε (tLstRg t) (bd m fun r => if rgOk r.1 r.2 then .ok (rgD r.1 (r.2 - r.1).toNat) else .bad) := fun U σ H b Q R W u q =>
  he U σ H b _ R W u ((al_bd.mp q).mono (fun r b1 h1 H1 w1 f1 => by
    by_cases h : rgOk r.1 r.2
    · rw [if_pos h] at h1
      exact ⟨⟨h.1, h.2.1, h.2.2.1, h.2.2.2.1, by have := h.2.2.2.2; omega⟩, fun p np => h1 p _ H1 np (rgV_ok h) (denL_rg _ _) w1 f1⟩
    · rw [if_neg h] at h1
      exact h1.elim) (fun _ _ _ h => h))
theorem own_sig (s : Stt g Mt U0 H0 U σ H b ε) {j : Nat} {a : Addr} (h : OwnAt σ ε j a) : ∃ o, H a = some o := by
  obtain ⟨h1, ⟨ds, h2⟩ | ⟨c, fs, h2⟩⟩ := h
  · obtain ⟨o, e, a', vs, e2, h, _⟩ := s.rel.at_ j _ h2
    rw [h1] at e
    cases e
    cases e2
    exact ⟨_, h⟩
  · obtain ⟨o, e, a', dx, fvs, e2, h, _⟩ := s.rel.at_ j _ h2
    rw [h1] at e
    cases e
    cases e2
    exact ⟨_, h⟩
theorem own_pend {A : Addr} {vs : List V} {ds : List D} (s : Stt g Mt U0 H0 U σ H b ε) (n : H A = none) (l : vs.length ≤ sizeLine) (dn : DenL g U H vs ds) :
    Stt g Mt U0 H0 (fun a => U a ∨ a = A) σ (upd H A (.lst vs)) b ε ∧ Ev U H (fun a => U a ∨ a = A) (upd H A (.lst vs)) ∧ Pnd g Mt U0 H0 (fun a => U a ∨ a = A) σ (upd H A (.lst vs)) ε A ds := by
  have sm := same_new (o := .lst vs) n
  have nU : ¬ U A := s.uok.new n
  have hp : A ≠ g.p := fun z => nU (z ▸ s.uok.p)
  have hc : A ≠ g.c := fun z => nU (z ▸ s.uok.c)
  have r1 : Rel g (fun a => U a ∨ a = A) (upd H A (.lst vs)) σ ε := (s.rel.grow n).frp (.inl s.uok.p) (fr_same sm)
  refine ⟨⟨r1, s.wd.same sm, ⟨.inl s.uok.p, .inl s.uok.c, fun a ha => ?_⟩, fun a z => .inl (s.sub a z), s.own, s.ext.trans (fr_same sm), s.nu0, s.oim⟩, ⟨fun a o e _ _ => sm a o e, fun a o e n1 _ => ?_⟩, ⟨⟨vs, upd_same, l, (dn.grow n).ext (fun a o e _ _ => sm a o e)⟩, .inr rfl, hp, hc, fun z => nU (s.sub _ z), fun j h => ?_, ?_⟩⟩
  · rcases ha with ha | rfl
    · obtain ⟨o, e, t⟩ := s.uok.al a ha
      exact ⟨o, sm a o e, t⟩
    · exact ⟨_, upd_same, (fun _ z => by cases z), (fun _ z => by cases z)⟩
  · rintro (z | z)
    · exact n1 z
    · exact ne_of_none e n z
  · obtain ⟨o, e⟩ := own_sig s h
    rw [n] at e
    cases e
  · by_cases m : Mt A
    · exact .inl m
    · refine .inr fun o q => ?_
      by_cases t : ∃ ps, o = .tbl ps
      · exact t
      · have := s.ext A o q hp m (fun ps z => t ⟨ps, z⟩)
        rw [n] at this
        cases this
theorem own_place {A : Addr} {ds : List D} (i : Nat) (s : Stt g Mt U0 H0 U σ H b ε) (p : Pnd g Mt U0 H0 U σ H ε A ds) : Stt g Mt U0 H0 U (σ.set i (some (.ref A))) H b (ε.set i (.ow ds)) := by
  obtain ⟨⟨vs, hA, l, dn⟩, uA, hp, hc, n0, no, mt⟩ := p
  refine ⟨⟨by rw [List.length_set, List.length_set]; exact s.rel.len, fun j x e => ?_, fun j k a ne h1 h2 => ?_⟩, s.wd, s.uok, s.sub, fun j a h => ?_, s.ext, fun j xs a e1 e2 => ?_, fun j c fs a j0 e1 e2 => ?_⟩
  · by_cases q : i = j
    · subst q
      have hl : i < ε.length := by
        cases z : ε[i]? with
        | none => rw [List.getElem?_set_self', z] at e; cases e
        | some w => exact (List.getElem?_eq_some_iff.mp z).1
      rw [List.getElem?_set_self hl] at e
      cases e
      exact ⟨_, List.getElem?_set_self (by rw [s.rel.len]; exact hl), A, _, rfl, hA, ⟨vs, rfl, l, dn⟩, uA, hp, hc⟩
    · rw [List.getElem?_set_ne q] at e ⊢
      exact s.rel.at_ j x e
  · rcases ownAt_setO h1 with ⟨rfl, z1⟩ | ⟨n1, z1⟩ <;> rcases ownAt_setO h2 with ⟨rfl, z2⟩ | ⟨n2, z2⟩
    · exact ne rfl
    · cases z1
      exact no _ z2
    · cases z2
      exact no _ z1
    · exact s.rel.apart j k a ne z1 z2
  · rcases ownAt_setO h with ⟨rfl, z⟩ | ⟨_, z⟩
    · cases z
      exact mt
    · exact s.own j a z
  · by_cases q : i = j
    · subst q
      rw [List.getElem?_set_self'] at e2
      cases z : σ[i]? with
      | none => rw [z] at e2; cases e2
      | some w => rw [z] at e2; cases e2; exact n0
    · rw [List.getElem?_set_ne q] at e1 e2
      exact s.nu0 j xs a e1 e2
  · by_cases q : i = j
    · subst q
      cases z : ε[i]? with
      | none => rw [List.getElem?_set_self', z] at e1; cases e1
      | some w => rw [List.getElem?_set_self', z] at e1; cases e1
    · rw [List.getElem?_set_ne q] at e1 e2
      exact s.oim j c fs a j0 e1 e2
def SQ (g : Gw) (E : XK) (ε : Env) (n : Nat) (t : TA) (m : Tr (List D)) : Prop := ∀ Mt U0 H0 U σ H b Q, Stt g Mt U0 H0 U σ H b ε →
  Al (fun ds b' => ∀ vs U' H', QR g Mt U0 H0 U' σ H' ε n vs ds → Ev U H U' H' → Stt g Mt U0 H0 U' σ H' b' ε → Q vs H') (exS g Mt U0 H0 E) m b → t σ H Q
theorem sq_here {tn : TE} {mn : Tr (List D)} {t : TA} {m : Tr (List D)} (hn : SN g E ε tn mn) (ht : SA g E ε t m) : SQ g E ε 0 (tCons tn t) (bd mn fun ds => bd m fun xs => .ok (.lst ds :: xs)) := fun Mt U0 H0 U σ H b Q s q => by
  refine hn U σ H b _ s.rel s.wd s.uok ((al_bd.mp q).mono (fun ds b1 h1 A vs H1 n l dn w f => ?_) (fun _ _ _ h => exS.exP s h))
  have s1 := s.fr f w
  obtain ⟨s2, ev, pd⟩ := own_pend s1 n l dn
  refine ht _ σ _ b1 _ s2.rel s2.wd s2.uok ((al_bd.mp h1).mono (fun xs b2 h2 vs' H3 d3 w3 f3 => ?_) (fun _ _ _ h => exS.exP s2 h))
  exact h2 _ _ H3 (.here (pd.fr s2.uok f3) d3) (((s.uok.ev f).trans ev).trans (s2.uok.ev f3)) (s2.fr f3 w3)
theorem sq_next {n : Nat} {t : TA} {m : Tr (List D)} (he : SE g E ε te me) (ht : SQ g E ε n t m) : SQ g E ε (n + 1) (tCons te t) (bd me fun x => bd m fun xs => .ok (x :: xs)) := fun Mt U0 H0 U σ H b Q s q => by
  refine he U σ H b _ s.rel s.wd s.uok ((al_bd.mp q).mono (fun d b1 h1 v H1 d1 w1 f1 => ?_) (fun _ _ _ h => exS.exP s h))
  have s1 := s.fr f1 w1
  refine ht Mt U0 H0 U σ H1 b1 _ s1 ((al_bd.mp h1).mono (fun xs b2 h2 vs' U' H' qr ev s2 => ?_) (fun _ _ _ h => h))
  exact h2 _ U' H' (.next (d1.ev ev) qr) ((s.uok.ev f1).trans ev) s2
def uoD {α : Type} (k : List D → Tr α) (x : D) : Tr α := match x with
  | .lst ds => k ds
  | _ => .bad
theorem qr0 {vs : List V} {ds : List D} (h : QR g Mt U0 H0 U σ H ε 0 vs ds) : ∃ A es vs' xs, vs = .ref A :: vs' ∧ ds = .lst es :: xs ∧ Pnd g Mt U0 H0 U σ H ε A es ∧ DenL g U H vs' xs := by
  cases h with
  | here p k => exact ⟨_, _, _, _, rfl, rfl, p, k⟩
theorem qr1 {n : Nat} {vs : List V} {ds : List D} (h : QR g Mt U0 H0 U σ H ε (n + 1) vs ds) : ∃ v d vs' xs, vs = v :: vs' ∧ ds = d :: xs ∧ Den g U H v d ∧ QR g Mt U0 H0 U σ H ε n vs' xs := by
  cases h with
  | next a r => exact ⟨_, _, _, _, rfl, rfl, a, r⟩
theorem SQ.sstep {n : Nat} {t : TA} {m : Tr (List D)} {k : List D → Tr (Fl W L)} {Ds : Ends} {Q : List V → Hp → Prop} (he : SQ g E ε n t m) (s : Stt g Mt U0 H0 U σ H b ε) (h : Al (flP g Mt U0 H0 U H Ds env envL) (exS g Mt U0 H0 E) (bd m k) b)
    (hk : ∀ vs ds U' H1 b1, QR g Mt U0 H0 U' σ H1 ε n vs ds → Stt g Mt U0 H0 U' σ H1 b1 ε → Al (flP g Mt U0 H0 U' H1 Ds env envL) (exS g Mt U0 H0 E) (k ds) b1 → Q vs H1) : t σ H Q :=
  he Mt U0 H0 U σ H b Q s ((al_bd.mp h).mono (fun ds b1 h1 vs U' H' qr ev s1 => hk vs ds U' H' b1 qr s1 (h1.mono (fun _ _ z => z.ev ev) (fun _ _ _ z => z))) (fun _ _ _ h => h))
end
end Gp
end
section
namespace Gp
open PySem PySem.Spec PyProof.Rows L2 Gh
abbrev TSF : Type := Addr → Value → Option Addr → TS
section
variable {X : Cx} {body : List Stmt} {h₀ : ExceptHandler} {hds : List ExceptHandler} {l : List (Value × Option Nat × TSF)} {pos : Pos} {tb : WX → TS} {Wout : WX}
end
end Gp
end
section
namespace Gp
open PySem PySem.Spec PyProof.Rows L2 Gh
mutual
def noLst : D → Bool
  | .lst _ => false
  | .tup ds => noLstL ds
  | .obj _ fs => noLstF fs
  | .err _ fs => noLstF fs
  | .dic _ => false
  | .dit _ => false
  | .dik _ => false
  | _ => true
def noLstL : List D → Bool
  | [] => true
  | d :: ds => noLst d && noLstL ds
def noLstF : List (Str × D) → Bool
  | [] => true
  | (_, d) :: ds => noLst d && noLstF ds
end
def pk : Tr D → Tr D
  | .ok d => if noLst d = true then .ok d else .bad
  | .ex c fs => if noLstF fs = true then .ex c fs else .bad
  | .bad => .bad
  | .draw m k => .draw m fun d => pk (k d)
section
variable {g : Gw} {U : Addr → Prop} {H : Hp} {a : Addr} {vs : List V}
mutual
theorem den_back (ha : H a = some (.lst vs)) : ∀ {v : V} {d : D}, Den g (fun x => U x ∧ x ≠ a) H v d → noLst d = true → Den g U H v d
  | _, _, .non, _ => .non
  | _, _, .bl b, _ => .bl b
  | _, _, .int i, _ => .int i
  | _, _, .str x h, _ => .str x h
  | _, _, .tup h n l k, z => .tup h (fun u => n ⟨u, fun e => by subst e; rw [ha] at h; cases h⟩) l (denL_back ha k (by simpa only [noLst] using z))
  | _, _, .tupW h l k nk, z => .tupW h l (denL_back ha k (by simpa only [noLst] using z)) nk
  | _, _, .lst _ _ _ _, z => by simp only [noLst] at z; cases z
  | _, _, .obj h n k, z => .obj h (fun u => n ⟨u, fun e => by subst e; rw [ha] at h; cases h⟩) (denF_back ha k (by simpa only [noLst] using z))
  | _, _, .err h n h2 n2 k, z => .err h (fun u => n ⟨u, fun e => by subst e; rw [ha] at h; unfold exk at h; cases h⟩) h2 (fun u => n2 ⟨u, fun e => by subst e; rw [ha] at h2; cases h2⟩) (denF_back ha k (by simpa only [noLst] using z))
  | _, _, .pen, _ => .pen
  | _, _, .cls c, _ => .cls c
  | _, _, .er0 h n, _ => .er0 h (fun u => n ⟨u, fun e => by subst e; rw [ha] at h; unfold exk0 at h; cases h⟩)
  | _, _, .dct h n, _ => .dct h (fun u => n ⟨u, fun e => by subst e; rw [ha] at h; cases h⟩)
  | _, _, .dic _ _ _ _, z => by simp only [noLst] at z; cases z
  | _, _, .dit _ _ _ _, z => by simp only [noLst] at z; cases z
  | _, _, .dik _ _ _ _, z => by simp only [noLst] at z; cases z
theorem denL_back (ha : H a = some (.lst vs)) : ∀ {ws : List V} {ds : List D}, DenL g (fun x => U x ∧ x ≠ a) H ws ds → noLstL ds = true → DenL g U H ws ds
  | _, _, .nil, _ => .nil
  | _, _, .cons x r, z => by
    simp only [noLstL, Bool.and_eq_true] at z
    exact .cons (den_back ha x z.1) (denL_back ha r z.2)
theorem denF_back (ha : H a = some (.lst vs)) : ∀ {ws : List (Str × V)} {ds : List (Str × D)}, DenF g (fun x => U x ∧ x ≠ a) H ws ds → noLstF ds = true → DenF g U H ws ds
  | _, _, .nil, _ => .nil
  | _, _, .cons x r, z => by
    simp only [noLstF, Bool.and_eq_true] at z
    exact .cons (den_back ha x z.1) (denF_back ha r z.2)
end
end
section
variable {g : Gw} {U : Addr → Prop} {H : Hp} {b : Nat} {σ : L2.St} {ε : Env} {E : XK} {te : TE} {m : Tr D}
theorem al_pk {Q : VK} {a : Addr} {vs : List V} (ha : H a = some (.lst vs)) (np : a ≠ g.p) {m : Tr D} {b : Nat} (h : Al (okP g U H Q) (exP g U E H) (pk m) b) : Al (okP g (fun x => U x ∧ x ≠ a) H Q) (exP g (fun x => U x ∧ x ≠ a) E H) m b := by
  induction m generalizing b with
  | ok d =>
    unfold pk at h
    split at h
    · rename_i z
      intro v H' dn w f
      exact h v H' (den_back (f _ _ ha np (fun _ z => by cases z)) dn z) w f
    · exact h.elim
  | ex c fs =>
    unfold pk at h
    split at h
    · rename_i z
      intro dd fvs H' h1 h2 h3 h4 h5
      have ha' := h5 _ _ ha np (fun _ z => by cases z)
      exact h dd fvs H' h1 (fun u => h2 ⟨u, fun e => by subst e; rw [ha'] at h1; cases h1⟩) (denF_back ha' h3 z) h4 h5
    · exact h.elim
  | bad => exact h
  | draw m f ih =>
    obtain ⟨b', e, h1, h2, h3⟩ := h
    exact ⟨b', e, h1, h2, fun d d0 d1 => ih d (h3 d d0 d1)⟩
theorem se_lend {i : Nat} {ds : List D} (h : SE g E (ε.set i (.fz (.lst ds))) te m) (hi : ε[i]? = some (.ow ds) := by rfl) : SE g E ε te (pk m) := fun U σ H b Q R w u q => by
  obtain ⟨o, e1, a, u0, rfl, h1, ⟨vs, rfl, l1, d1⟩, ua, n1, n2⟩ := R.at_ i _ hi
  have il : i < ε.length := (List.getElem?_eq_some_iff.mp hi).1
  have sub : ∀ x, (∃ o, H x = some o) → (U x ∧ x ≠ a) → U x := fun x _ z => z.1
  have ow : ∀ j x, OwnAt σ (ε.set i (.fz (.lst ds))) j x → i ≠ j ∧ OwnAt σ ε j x := fun j x z => by
    obtain ⟨z1, z2⟩ := z
    by_cases q : i = j
    · subst q
      exfalso
      rcases z2 with ⟨y, z2⟩ | ⟨y1, y2, z2⟩
      · rw [List.getElem?_set_self il] at z2
        cases z2
      · rw [List.getElem?_set_self il] at z2
        cases z2
    · rw [List.getElem?_set_ne q] at z2
      exact ⟨q, z1, z2⟩
  have apart : ∀ j x, i ≠ j → OwnAt σ ε j x → x ≠ a := fun j x ne z e => by
    subst e
    exact R.apart i j x ne ⟨e1, .inl ⟨ds, hi⟩⟩ z
  refine h (fun x => U x ∧ x ≠ a) σ H b Q ⟨by rw [List.length_set]; exact R.len, fun j x e => ?_, fun j k x ne z1 z2 => R.apart j k x ne (ow _ _ z1).2 (ow _ _ z2).2⟩ w ⟨⟨u.p, n1.symm⟩, ⟨u.c, n2.symm⟩, fun x hx => u.al x hx.1⟩ (al_pk h1 n1 q)
  by_cases q : i = j
  · subst q
    rw [List.getElem?_set_self il] at e
    cases e
    exact ⟨_, e1, _, rfl, .lst h1 (fun z => z.2 rfl) l1 (d1.sub sub)⟩
  · rw [List.getElem?_set_ne q] at e
    obtain ⟨o, e3, e2⟩ := R.at_ j x e
    refine ⟨o, e3, ?_⟩
    cases x with
    | no => trivial
    | fz d =>
      obtain ⟨v, e4, e5⟩ := e2
      exact ⟨v, e4, e5.sub sub⟩
    | ow ds2 =>
      obtain ⟨a2, v2, rfl, h2, d2, u2, m1, m2⟩ := e2
      have ne := apart j a2 q ⟨e3, .inl ⟨ds2, e⟩⟩
      exact ⟨a2, v2, rfl, h2, d2.map (fun q => q.sub sub), ⟨u2, ne⟩, m1, m2⟩
    | oi c fs =>
      obtain ⟨a2, dx, v2, rfl, h2, d2, u2, m1, m2⟩ := e2
      have ne := apart j a2 q ⟨e3, .inr ⟨c, fs, e⟩⟩
      exact ⟨a2, dx, v2, rfl, h2, d2.sub sub, ⟨u2, ne⟩, m1, m2⟩
end
end Gp
end
section
namespace Gp
open PySem PySem.Spec PyProof.Rows L2 Gh
def nsE (K : PySem.W.Frag) (E : XK) : XK := fun c d H => E c d H ∧ PySem.W.subIn K c (.type "StopIteration") = some false
theorem noStop_ns {K : PySem.W.Frag} {E : XK} : NoStop K (nsE K E) := fun _ _ _ z => z.2
theorem pass_ns {X : Cx} {E : XK} {K : PySem.W.Frag} (h : Passes (L2.CX X.prog X.w) X E) : Passes (L2.CX X.prog X.w) X (nsE K E) := fun pins σ H s e s' I ⟨a, B, H', cls, d, e1, e2, e3, e4, e5, e6, e7, e8⟩ => h pins σ H s e s' I ⟨a, B, H', cls, d, e1, e2, e3, e4, e5, e6, e7, e8.1⟩
end Gp
end
section
namespace Gz
open PySem
open Sem (wp)
theorem fixd_susp {k : Resume → Sem PySem.Fin} {l : List Value} {c : Code} {p : Pos} {fs : List Frame} {cl : Bool} : Fixd (.suspended k l c p fs cl) := .inl ⟨_, _, _, _, _, _, rfl⟩
theorem pois_seen (x : GenState) : (pois x).seen = x.seen := by cases x <;> rfl
theorem pois_bare (x : GenState) : (pois x).bare = x.bare := by cases x <;> rfl
def EndOk (ρ : Map) : End → Prop
  | .ret _ => True
  | .susp _ _ _ _ _ _ fs => FsOk ρ fs
theorem rest_none {ρ : Map} {G : Array GenState} {i : Nat} (h : ρ i = none) : (rest ρ G)[i]? = G[i]? := by
  rw [rest_get, h]
  cases G[i]? <;> rfl
theorem up_set {ρ : Map} {s : Shared} (h : Held ρ s.gens) {g : Nat} (hg : ρ g = none) {y : GenState} (hy : ∀ k l c p fs cl, y = .suspended k l c p fs cl → FsOk ρ fs) :
    Held ρ (s.setGen g y).gens ∧ up ρ (s.setGen g y) = (up ρ s).setGen g y := by
  obtain ⟨a, b⟩ := h.set hg hy
  exact ⟨a, by unfold up Shared.setGen; dsimp only; rw [b]⟩
theorem endOk_state {ρ : Map} {e : End} (h : EndOk ρ e) : ∀ k l c p fs cl, e.genState = .suspended k l c p fs cl → FsOk ρ fs := by
  intro k l c p fs cl q
  cases e with
  | ret _ => cases q
  | susp v g0 l0 k0 c0 p0 fs0 =>
    cases q
    exact h
theorem no_run {M : Model} {w : String} {Γ : Ctx} {p : Pos} {t : Sem PySem.Fin} {fs : List Frame} {s s' : Shared} {e : End} (h : Runs M Γ p t fs s e s') : t = .unsupported w → False := by
  induction h with
  | segRet _ _ ih1 _ => exact ih1
  | segGen _ _ ih1 _ => exact ih1
  | segSuspOut _ _ ih1 => exact ih1
  | segSuspGen _ _ _ _ ih1 _ => exact ih1
  | _ => intro q; cases q
theorem split_mem {fs pre rest : List Frame} {g : Nat} {k : GenResult → Sem PySem.Fin} {c : Code} {p : Pos} (h : splitAtGen fs = some (pre, (g, k, c, p), rest)) : (∃ l, Frame.gen g k l c p ∈ fs) ∧ (∀ x ∈ pre, x ∈ fs) ∧ (∀ x ∈ rest, x ∈ fs) := by
  induction fs generalizing pre with
  | nil => cases h
  | cons f fs ih =>
    cases f with
    | gen g' k' l' c' p' =>
      cases h
      exact ⟨⟨_, List.mem_cons_self⟩, fun _ z => absurd z List.not_mem_nil, fun _ z => List.mem_cons_of_mem _ z⟩
    | ret k' h' g' l' c' p' kp' =>
      unfold splitAtGen at h
      cases e : splitAtGen fs with
      | none => rw [e] at h; cases h
      | some q =>
        obtain ⟨a, b, r⟩ := q
        rw [e] at h
        cases h
        obtain ⟨⟨l, h1⟩, h2, h3⟩ := ih e
        refine ⟨⟨l, List.mem_cons_of_mem _ h1⟩, fun x hx => ?_, fun x hx => List.mem_cons_of_mem _ (h3 x hx)⟩
        rcases List.mem_cons.mp hx with z | z
        · rw [z]; exact List.mem_cons_self
        · exact List.mem_cons_of_mem _ (h2 x z)
theorem Held.not_fresh {ρ : Map} {G : Array GenState} (h : Held ρ G) {g : Nat} {x : GenState} (e : G[g]? = some x) (hx : ¬ Fixd x) : ρ g = none := by
  cases q : ρ g with
  | none => rfl
  | some y =>
    obtain ⟨hy, b⟩ := h.at_ g y q
    rw [e] at b
    rcases hy with ⟨k, l, c, p, fs, cl, rfl⟩ | rfl
    · cases b
      exact absurd fixd_susp hx
    · cases b
      exact absurd fixd_run hx
theorem not_fixd_fresh {c : Code} : ¬ Fixd (.fresh c) := by
  rintro (⟨k, l, c, p, fs, cl, z⟩ | z) <;> cases z
theorem not_fixd_fin : ¬ Fixd .finished := by
  rintro (⟨k, l, c, p, fs, cl, z⟩ | z) <;> cases z
theorem fsOk_nil {ρ : Map} : FsOk ρ [] := fun _ _ _ _ _ z => absurd z List.not_mem_nil
theorem FsOk.app {ρ : Map} {a b : List Frame} (ha : FsOk ρ a) (hb : FsOk ρ b) : FsOk ρ (a ++ b) := fun g kk ll cc pp z => (List.mem_append.mp z).elim (ha g kk ll cc pp) (hb g kk ll cc pp)
theorem FsOk.tail {ρ : Map} {a : Frame} {b : List Frame} (h : FsOk ρ (a :: b)) : FsOk ρ b := fun g kk ll cc pp z => h g kk ll cc pp (List.mem_cons_of_mem _ z)
theorem Held.seen {ρ : Map} {G : Array GenState} (H : Held ρ G) {g : Nat} {st : GenState} (hg : G[g]? = some st) : ∃ x, (rest ρ G)[g]? = some x ∧ x.seen = st.seen := by
  cases q : ρ g with
  | none => exact ⟨st, by rw [rest_none q]; exact hg, rfl⟩
  | some x =>
    obtain ⟨_, z⟩ := H.at_ g x q
    rw [hg] at z
    cases z
    exact ⟨x, by rw [rest_get, hg, q]; rfl, (pois_seen x).symm⟩
theorem up_push {ρ : Map} {s : Shared} (H : Held ρ s.gens) (c : Code) : up ρ { s with gens := s.gens.push (.fresh c) } = { up ρ s with gens := (up ρ s).gens.push (.fresh c) } := by
  unfold up
  dsimp only
  rw [(H.push c).2]
theorem up_size {ρ : Map} {s : Shared} : (up ρ s).gens.size = s.gens.size := rest_size _ _
theorem up_get {ρ : Map} {s : Shared} {g : Nat} {y : Option GenState} (n : ρ g = none) (hg : s.gens[g]? = y) : (up ρ s).gens[g]? = y := (rest_none n).trans hg
theorem runs_up {M : Model} {ρ : Map} {Γ : Ctx} {p : Pos} {t : Sem PySem.Fin} {fs : List Frame} {s s' : Shared} {e : End} (h : Runs M Γ p t fs s e s') :
    Held ρ s.gens → FsOk ρ fs → Runs M Γ p t fs (up ρ s) e (up ρ s') ∧ Held ρ s'.gens ∧ EndOk ρ e := by
  induction h with
  | done => exact fun H _ => ⟨.done, H, trivial⟩
  | raise => exact fun H _ => ⟨.raise, H, trivial⟩
  | again hq _ ih => exact fun H F => let ⟨a, b, c⟩ := ih H F; ⟨.again hq a, b, c⟩
  | rule _ ih => exact fun H F => let ⟨a, b, c⟩ := ih H F; ⟨.rule a, b, c⟩
  | «at» _ ih => exact fun H F => let ⟨a, b, c⟩ := ih H F; ⟨.at a, b, c⟩
  | load ho _ ih => exact fun H F => let ⟨a, b, c⟩ := ih H F; ⟨.load ho a, b, c⟩
  | update ho _ ih => exact fun H F => let ⟨a, b, c⟩ := ih H F; ⟨.update ho a, b, c⟩
  | loadIfAlive _ ih => exact fun H F => let ⟨a, b, c⟩ := ih H F; ⟨.loadIfAlive a, b, c⟩
  | point _ ih => exact fun H F => let ⟨a, b, c⟩ := ih H F; ⟨.point a, b, c⟩
  | alloc _ ih => exact fun H F => let ⟨a, b, c⟩ := ih H F; ⟨.alloc a, b, c⟩
  | fresh _ ih => exact fun H F => let ⟨a, b, c⟩ := ih H F; ⟨.fresh a, b, c⟩
  | ask _ ih => exact fun H F => let ⟨a, b, c⟩ := ih H F; ⟨.ask a, b, c⟩
  | choose hn _ ih => exact fun H F => let ⟨a, b, c⟩ := ih H F; ⟨.choose hn a, b, c⟩
  | os _ ih => exact fun H F => let ⟨a, b, c⟩ := ih H F; ⟨.os a, b, c⟩
  | handled _ ih => exact fun H F => let ⟨a, b, c⟩ := ih H F; ⟨.handled a, b, c⟩
  | genState hg _ ih =>
    intro H F
    obtain ⟨a, b, c⟩ := ih H F
    obtain ⟨x, hx, hs⟩ := H.seen hg
    rw [← hs] at a
    exact ⟨.genState hx a, b, c⟩
  | stack _ ih => exact fun H F => let ⟨a, b, c⟩ := ih H F; ⟨.stack a, b, c⟩
  | thread _ ih => exact fun H F => let ⟨a, b, c⟩ := ih H F; ⟨.thread a, b, c⟩
  | newGen _ ih =>
    intro H F
    obtain ⟨a, b, d⟩ := ih (H.push _).1 F
    rw [up_push H] at a
    exact ⟨.newGen (by rw [up_size]; exact a), b, d⟩
  | call _ _ ih1 ih2 =>
    intro H F
    obtain ⟨a, b, _⟩ := ih1 H fsOk_nil
    obtain ⟨a2, b2, c2⟩ := ih2 b F
    exact ⟨.call a a2, b2, c2⟩
  | callSusp _ ih =>
    intro H F
    obtain ⟨a, b, c⟩ := ih H fsOk_nil
    exact ⟨.callSusp a, b, FsOk.app c fun g kk ll cc pp z => by cases (List.mem_singleton.mp z)⟩
  | yield => exact fun H _ => ⟨.yield, H, fsOk_nil⟩
  | @resumeFresh Γ p g l k s c e₁ s₁ e s' hg _ hq _ ih1 ih2 =>
    intro H F
    have n := H.not_fresh hg (by first | exact not_fixd_fresh | exact not_fixd_fin)
    obtain ⟨h1, h2⟩ := up_set H n (y := .running) (fun _ _ _ _ _ _ z => by cases z)
    obtain ⟨a, b, d⟩ := ih1 h1 fsOk_nil
    obtain ⟨h3, h4⟩ := up_set b n (endOk_state d)
    obtain ⟨a2, b2, c2⟩ := ih2 h3 F
    rw [h2] at a
    rw [h4] at a2
    exact ⟨.resumeFresh (up_get n hg) a hq a2, b2, c2⟩
  | @resumeSuspended Γ p g r l k s k₀ l₀ c₀ p₀ fs cl e₁ s₁ e s' hg h1r hq _ ih1 ih2 =>
    intro H F
    cases q : ρ g with
    | some x =>
      obtain ⟨hx, z⟩ := H.at_ g x q
      rw [hg] at z
      rcases hx with ⟨k', l', c', p', fs', cl', rfl⟩ | rfl
      · cases z
        exact (no_run h1r rfl).elim
      · cases z
    | none =>
      obtain ⟨h1, h2⟩ := up_set H q (y := .running) (fun _ _ _ _ _ _ z => by cases z)
      obtain ⟨a, b, d⟩ := ih1 h1 (H.fr _ _ _ _ _ _ _ q hg)
      obtain ⟨h3, h4⟩ := up_set b q (endOk_state d)
      obtain ⟨a2, b2, c2⟩ := ih2 h3 F
      rw [h2] at a
      rw [h4] at a2
      exact ⟨.resumeSuspended (up_get q hg) a hq a2, b2, c2⟩
  | resumeJustStarted hg hv _ ih =>
    intro H F
    have n := H.not_fresh hg (by first | exact not_fixd_fresh | exact not_fixd_fin)
    obtain ⟨a, b, d⟩ := ih H F
    exact ⟨.resumeJustStarted (up_get n hg) hv a, b, d⟩
  | resumeThrowFresh hg _ ih =>
    intro H F
    have n := H.not_fresh hg (by first | exact not_fixd_fresh | exact not_fixd_fin)
    obtain ⟨h1, h2⟩ := up_set H n (y := .finished) (fun _ _ _ _ _ _ z => by cases z)
    obtain ⟨a, b, d⟩ := ih h1 F
    rw [h2] at a
    exact ⟨.resumeThrowFresh (up_get n hg) a, b, d⟩
  | resumeRunning hg _ ih =>
    intro H F
    obtain ⟨a, b, d⟩ := ih H F
    exact ⟨.resumeRunning (H.run hg) a, b, d⟩
  | resumeFinished hg _ ih =>
    intro H F
    have n := H.not_fresh hg (by first | exact not_fixd_fresh | exact not_fixd_fin)
    obtain ⟨a, b, d⟩ := ih H F
    exact ⟨.resumeFinished (up_get n hg) a, b, d⟩
  | segRet _ _ ih1 ih2 =>
    intro H F
    obtain ⟨a, b, _⟩ := ih1 H fsOk_nil
    obtain ⟨a2, b2, c2⟩ := ih2 b F.tail
    exact ⟨.segRet a a2, b2, c2⟩
  | @segGen Γ p t g k l c₁ p₁ fs s r s₁ e s' _ _ ih1 ih2 =>
    intro H F
    have n := F _ _ _ _ _ List.mem_cons_self
    obtain ⟨a, b, _⟩ := ih1 H fsOk_nil
    obtain ⟨h1, h2⟩ := up_set b n (y := .finished) (fun _ _ _ _ _ _ z => by cases z)
    obtain ⟨a2, b2, c2⟩ := ih2 h1 F.tail
    rw [h2] at a2
    exact ⟨.segGen a a2, b2, c2⟩
  | segSuspOut hs _ ih =>
    intro H F
    obtain ⟨a, b, c⟩ := ih H fsOk_nil
    exact ⟨.segSuspOut hs a, b, FsOk.app c F⟩
  | @segSuspGen Γ p t F0 fs pre g k c₁ p₁ rest s v g₀ l₀ k₀ c₀ p₀ fs₀ s₁ e s' hs _ hq _ ih1 ih2 =>
    intro H F
    obtain ⟨⟨l, m1⟩, m2, m3⟩ := split_mem hs
    have n := F _ _ _ _ _ m1
    obtain ⟨a, b, c⟩ := ih1 H fsOk_nil
    have c' : EndOk ρ (End.susp v g₀ l₀ k₀ c₀ p₀ (fs₀ ++ pre)) := FsOk.app c fun g kk ll cc pp z => F g kk ll cc pp (m2 _ z)
    obtain ⟨h1, h2⟩ := up_set b n (endOk_state c')
    obtain ⟨a2, b2, c2⟩ := ih2 h1 fun g kk ll cc pp z => F g kk ll cc pp (m3 _ z)
    rw [h2] at a2
    exact ⟨.segSuspGen hs a hq a2, b2, c2⟩
theorem wakes_up {M : Model} {ρ : Map} {Γ : Ctx} {p : Pos} {g : Nat} {r : Resume} {s s' : Shared} {res : GenResult} (H : Held ρ s.gens) (h : Wakes M Γ p g r s res s') :
    Wakes M Γ p g r (up ρ s) res (up ρ s') ∧ Held ρ s'.gens := by
  unfold Wakes at h
  cases hg : s.gens[g]? with
  | none => rw [hg] at h; exact h.elim
  | some x =>
    rw [hg] at h
    cases x with
    | fresh c =>
      have n := H.not_fresh hg (by first | exact not_fixd_fresh | exact not_fixd_fin)
      unfold Wakes
      rw [up_get n hg]
      cases r with
      | send v =>
        cases v with
        | none =>
          obtain ⟨e₁, s₁, hr, hq, h1, rfl⟩ := h
          obtain ⟨z1, z2⟩ := up_set H n (y := .running) (fun _ _ _ _ _ _ z => by cases z)
          obtain ⟨a, b, d⟩ := runs_up hr z1 fsOk_nil
          obtain ⟨z3, z4⟩ := up_set b n (endOk_state d)
          rw [z2] at a
          exact ⟨⟨e₁, _, a, hq, h1, z4⟩, z3⟩
        | _ =>
          obtain ⟨h1, rfl⟩ := h
          exact ⟨⟨h1, rfl⟩, H⟩
      | throw x =>
        obtain ⟨h1, rfl⟩ := h
        obtain ⟨z1, z2⟩ := up_set H n (y := .finished) (fun _ _ _ _ _ _ z => by cases z)
        exact ⟨⟨h1, z2⟩, z1⟩
    | suspended k₀ l₀ c₀ p₀ fs cl =>
      obtain ⟨e₁, s₁, hr, hq, h1, rfl⟩ := h
      cases q : ρ g with
      | some x =>
        obtain ⟨hx, z⟩ := H.at_ g x q
        rw [hg] at z
        rcases hx with ⟨k', l', c', p', fs', cl', rfl⟩ | rfl
        · cases z
          exact (no_run hr rfl).elim
        · cases z
      | none =>
        unfold Wakes
        rw [up_get q hg]
        obtain ⟨z1, z2⟩ := up_set H q (y := .running) (fun _ _ _ _ _ _ z => by cases z)
        obtain ⟨a, b, d⟩ := runs_up hr z1 (H.fr _ _ _ _ _ _ _ q hg)
        obtain ⟨z3, z4⟩ := up_set b q (endOk_state d)
        rw [z2] at a
        exact ⟨⟨e₁, _, a, hq, h1, z4⟩, z3⟩
    | running =>
      obtain ⟨h1, rfl⟩ := h
      unfold Wakes
      rw [show (up ρ s').gens[g]? = some .running from H.run hg]
      exact ⟨⟨h1, rfl⟩, H⟩
    | finished =>
      have n := H.not_fresh hg (by first | exact not_fixd_fresh | exact not_fixd_fin)
      obtain ⟨h1, rfl⟩ := h
      unfold Wakes
      rw [up_get n hg]
      exact ⟨⟨h1, rfl⟩, H⟩
theorem wp_up {α : Type} (M : Model) (ρ : Map) (Γ : Ctx) (t : Sem α) : ∀ (Q : α → Pos → Shared → Prop) (E : Value → Pos → Shared → Prop) (p : Pos) (s : Shared), Held ρ s.gens → wp M Γ t Q E p s →
    wp M Γ t (fun a p' s1 => ∃ s2, Q a p' s2 ∧ Held ρ s2.gens ∧ s1 = up ρ s2) (fun e p' s1 => ∃ s2, E e p' s2 ∧ Held ρ s2.gens ∧ s1 = up ρ s2) p (up ρ s) := by
  induction t with
  | pure a => exact fun Q E p s H h => ⟨s, h, H, rfl⟩
  | raise e => exact fun Q E p s H h => ⟨s, h, H, rfl⟩
  | unsupported _ => exact fun Q E p s _ h => h
  | finish _ => exact fun Q E p s _ h => h
  | rule _ k ih => exact fun Q E p s H h => ih () Q E p s H h
  | «at» p' k ih => exact fun Q E p s H h => ih () Q E p' s H h
  | load a _ k ih => exact fun Q E p s H h => let ⟨o, ho, h⟩ := h; ⟨o, ho, ih o Q E p s H h⟩
  | update a _ f k ih => exact fun Q E p s H h => ⟨h.1, ih () Q E p { s with heap := s.heap.update a f } H h.2⟩
  | loadIfAlive a k ih => exact fun Q E p s H h => ih _ Q E p s H h
  | point _ k ih => exact fun Q E p s H h => ih () Q E p s H h
  | register _ _ => exact fun Q E p s _ h => h
  | alloc o k ih => exact fun Q E p s H h => ih _ Q E p { s with heap := s.heap.push o } H h
  | fresh k ih => exact fun Q E p s H h => ih _ Q E p { s with toks := s.toks + 1 } H h
  | ask k ih => exact fun Q E p s H h => ih _ Q E p s H h
  | choose src m k ih => exact fun Q E p s H h => ⟨h.1, ih _ Q E p { s with drawn := s.drawn.bump src } H h.2⟩
  | os q _ k ih => exact fun Q E p s H h => ih _ Q E p { s with os := (Os.step s.os q).1 } H h
  | call c hd _ _ k ih =>
    intro Q E p s H h
    obtain ⟨r, s', hr, h⟩ := h
    obtain ⟨a, b, _⟩ := runs_up hr H fsOk_nil
    exact ⟨r, _, a, ih r Q E p s' b h⟩
  | handled own k ih => exact fun Q E p s H h => ih _ Q E p s H h
  | genState g k ih =>
    intro Q E p s H h
    obtain ⟨st, hs, h⟩ := h
    obtain ⟨x, hx, he⟩ := H.seen hs
    refine ⟨x, hx, ?_⟩
    rw [he]
    exact ih _ Q E p s H h
  | newGen c k ih =>
    intro Q E p s H h
    have z := ih _ Q E p _ (H.push c).1 h
    rw [up_push H] at z
    show wp M Γ (k (up ρ s).gens.size) _ _ _ _
    rw [up_size]
    exact z
  | resume g r _ k ih =>
    intro Q E p s H h
    obtain ⟨res, s', hw, h⟩ := h
    obtain ⟨a, b⟩ := wakes_up H hw
    exact ⟨res, _, a, ih res Q E p s' b h⟩
  | yield _ _ _ _ => exact fun Q E p s _ h => h
  | stack k ih => exact fun Q E p s H h => ih _ Q E p s H h
  | fork _ _ => exact fun Q E p s _ h => h
  | thread k ih => exact fun Q E p s H h => ih _ Q E p s H h
  | await _ _ _ _ _ => exact fun Q E p s _ h => h
open Classical in
/-- those that sleep in a state -/
noncomputable def sleepers (G : Array GenState) : Map := fun i => match G[i]? with
  | some x => if Fixd x then some x else none
  | none => none
theorem pois_susp {x : GenState} : IsSusp (pois x) ↔ IsSusp x := by
  cases x with
  | suspended k l c p fs cl => exact ⟨fun _ => ⟨_, _, _, _, _, _, rfl⟩, fun _ => ⟨_, _, _, _, _, _, rfl⟩⟩
  | _ => exact Iff.rfl
theorem held_of (G : Array GenState) : Held (sleepers G) (G.map pois) := by
  refine ⟨fun i x e => ?_, fun i k l c p fs cl e q => ?_⟩
  · unfold sleepers at e
    split at e
    · rename_i y hy
      split at e
      · rename_i hs
        cases e
        exact ⟨hs, by rw [Array.getElem?_map, hy]; rfl⟩
      · cases e
    · cases e
  · exfalso
    rw [Array.getElem?_map] at q
    cases hy : G[i]? with
    | none => rw [hy] at q; cases q
    | some y =>
      rw [hy] at q
      have q' : pois y = .suspended k l c p fs cl := Option.some.inj q
      have hs : Fixd y := .inl (pois_susp.mp (by rw [q']; exact ⟨_, _, _, _, _, _, rfl⟩))
      unfold sleepers at e
      rw [hy] at e
      dsimp only at e
      rw [if_pos hs] at e
      cases e
theorem rest_of (G : Array GenState) : rest (sleepers G) (G.map pois) = G := by
  apply Array.ext_getElem?
  intro i
  rw [rest_get, Array.getElem?_map]
  cases hy : G[i]? with
  | none => rfl
  | some y =>
    show some ((sleepers G i).getD (pois y)) = some y
    congr 1
    unfold sleepers
    rw [hy]
    dsimp only
    by_cases hs : Fixd y
    · rw [if_pos hs]; rfl
    · rw [if_neg hs]
      cases y with
      | suspended k l c p fs cl => exact absurd fixd_susp hs
      | _ => rfl
abbrev AllB (G : Array GenState) : Prop := ∀ y ∈ G, y.bare = true
structure Kept (s s1 s2 : Shared) : Prop where
  eq : s1 = { s2 with gens := s1.gens }
  sleep : Sleep s s1
  bare : AllB s.gens → AllB s2.gens → AllB s1.gens
theorem kept_of {s s2 : Shared} (H : Held (sleepers s.gens) s2.gens) : Kept s (up (sleepers s.gens) s2) s2 := by
  refine ⟨rfl, fun i x hx e => ?_, fun h1 h2 y hy => ?_⟩
  · have hq : sleepers s.gens i = some x := by
      unfold sleepers
      rw [e]
      dsimp only
      rw [if_pos hx]
    obtain ⟨_, z⟩ := H.at_ i x hq
    show (rest _ _)[i]? = _
    rw [rest_get, z, hq]
    rfl
  · obtain ⟨i, hi, rfl⟩ := Array.mem_iff_getElem.mp hy
    have z : (rest (sleepers s.gens) s2.gens)[i]? = some (up (sleepers s.gens) s2).gens[i] := Array.getElem?_eq_getElem hi
    rw [rest_get] at z
    cases q : s2.gens[i]? with
    | none => rw [q] at z; cases z
    | some x =>
      rw [q] at z
      have z' : (sleepers s.gens i).getD x = (up (sleepers s.gens) s2).gens[i] := Option.some.inj z
      rw [← z']
      cases q2 : sleepers s.gens i with
      | none => exact h2 x (Array.mem_of_getElem? q)
      | some y' =>
        show y'.bare = true
        unfold sleepers at q2
        split at q2
        · rename_i y2 hy2
          split at q2
          · cases q2
            exact h1 _ (Array.mem_of_getElem? hy2)
          · cases q2
        · cases q2
theorem bare_map {G : Array GenState} (h : AllB G) : AllB (G.map pois) := fun y hy => by
  obtain ⟨x, hx, rfl⟩ := Array.mem_map.mp hy
  rw [pois_bare]
  exact h x hx
end Gz
end
section
namespace Gz
open PySem PySem.Spec PyProof.Rows L2 GenW Gh
section
variable {ι : Type} {M : Model} {A : Around} {R : EndI ι} {Y : ProI ι} {n : Nat} {i : ι} {c : Code} {fs : List Frame} {s : Shared}
def GSegN (M : Model) (A : Around) (R : EndI ι) (Y : ProI ι) : Nat → ι → Code → Sem PySem.Fin → List Frame → Shared → Prop
  | 0 => fun _ _ _ _ _ => False
  | n + 1 => GSeg M A R Y n
theorem gseg_iff {t : Sem PySem.Fin} : GSeg M A R Y n i c t fs s ↔ ∀ Γ p, Γ.code = c → Γ.Woken A → ∃ e s', Runs M Γ p t fs s e s' ∧ endI R Y n (GSegN M A R Y n) i e s' := by
  cases n <;> exact Iff.rfl
theorem gseg_from {c' : Code} {t t' : Sem PySem.Fin} {fs' : List Frame} {s' : Shared} (h : GSeg M A R Y n i c' t' fs' s') (hr : ∀ (Γ : PySem.Ctx) p, Γ.code = c → ∃ (Γ' : PySem.Ctx) (p' : Pos), Γ'.code = c' ∧ (Γ.Woken A → Γ'.Woken A) ∧ ∀ e s2, Runs M Γ' p' t' fs' s' e s2 → Runs M Γ p t fs s e s2) : GSeg M A R Y n i c t fs s := gseg_iff.mpr fun Γ p hc hΓ => by
  obtain ⟨Γ', p', h1, h2, h3⟩ := hr Γ p hc
  obtain ⟨e, s2, q1, q2⟩ := gseg_iff.mp h Γ' p' h1 (h2 hΓ)
  exact ⟨e, s2, h3 e s2 q1, q2⟩
section
variable {α β : Type} {m : Sem α} {H : Value → Sem PySem.Fin} {gd : Bool → Bool} {lv : List Value → List Value}
theorem gseg_wrap {K : α → Sem PySem.Fin} (h : wpAny M (A.over c fs) m (fun a s1 => GSeg M A R Y n i c (K a) fs s1) (fun x s1 => GSeg M A R Y n i c (H x) fs s1) s) : GSeg M A R Y n i c (m.wrap K H gd lv) fs s := gseg_iff.mpr fun Γ p hc hΓ => by
  subst hc
  exact runs_wrap_of_wp K H gd lv m (h _ p (hΓ.over fs)) (fun a p1 s1 q => gseg_iff.mp q Γ p1 rfl hΓ) fun x p1 s1 q => gseg_iff.mp q Γ p1 rfl hΓ
theorem gseg_bind {K : α → Sem β} {K' : β → Sem PySem.Fin} (h : wpAny M (A.over c fs) m (fun a s1 => GSeg M A R Y n i c ((K a).wrap K' H gd lv) fs s1) (fun x s1 => GSeg M A R Y n i c (H x) fs s1) s) : GSeg M A R Y n i c ((m >>= K).wrap K' H gd lv) fs s := by
  have e : (m >>= K).wrap K' H gd lv = m.wrap (fun a => (K a).wrap K' H gd lv) H gd lv := by
    rw [Sem.bind_eq_wrap', Sem.wrap_wrap]
    rfl
  rw [e]
  exact gseg_wrap h
end
theorem gseg_at {p' : Pos} {k : Unit → Sem PySem.Fin} (h : GSeg M A R Y n i c (k ()) fs s) : GSeg M A R Y n i c (.at p' k) fs s :=
  gseg_from h fun Γ p hc => ⟨Γ, p', hc, id, fun _ _ q => Runs.head' (fun _ _ x => .at x) q⟩
theorem gseg_point {l : List Value} {k : Unit → Sem PySem.Fin} (h : GSeg M A R Y n i c (k ()) fs s) : GSeg M A R Y n i c (.point l k) fs s :=
  gseg_from h fun Γ p hc => ⟨Γ, p, hc, id, fun _ _ q => Runs.head' (fun _ _ x => .point x) q⟩
theorem gseg_call {c' : Code} {h : Option Value} {g : Bool} {l : List Value} {k : Result → Sem PySem.Fin} (hc : ∀ p, GSeg M A R Y n i c' (M.den c') (.ret k h g l c p [] :: fs) s) : GSeg M A R Y n i c (.call c' h g l k) fs s := gseg_iff.mpr fun Γ p hcc hΓ => by
  subst hcc
  obtain ⟨e, s', q1, q2⟩ := gseg_iff.mp (hc p) (Γ.goto c') p rfl (hΓ.goto c')
  exact ⟨e, s', runs_call_seg q1, q2⟩
theorem gseg_leaf {k : Result → Sem PySem.Fin} {h : Option Value} {g : Bool} {l kp : List Value} {c₁ : Code} {p₁ : Pos} (r : Result) (hk : GSeg M A R Y n i c₁ (k r) fs s) : GSeg M A R Y n i c (leafOf r) (.ret k h g l c₁ p₁ kp :: fs) s :=
  gseg_from hk fun Γ p hc => ⟨Γ.goto c₁, p₁, rfl, fun q => q.goto c₁, fun _ _ q => Runs.pop r q⟩
theorem gseg_again {c' : Code} (hq : c'.quiet = true) (hc : GSeg M A R Y n i c' (M.den c') fs s) : GSeg M A R Y n i c (.pure (.again c')) fs s :=
  gseg_from hc fun Γ p _ => ⟨Γ.goto c', p, rfl, fun q => q.goto c', fun _ _ q => Runs.head (c₁ := c') (fun _ _ x => .again hq x) q⟩
theorem gseg_end (r : Result) (h : R n i r s) : GSeg M A R Y n i c (leafOf r) [] s := gseg_iff.mpr fun Γ p _ _ => ⟨.ret r, s, Runs.leaf r, h⟩
theorem gseg_yield {v : Value} {g : Bool} {l : List Value} {k : Resume → Sem PySem.Fin} (hfs : splitAtGen fs = none) (hg : g = false) (hfg : fs.any Frame.guarded = false) (h : Y n i v s fun r j s1 => GSeg M A R Y n j c (k r) fs s1) : GSeg M A R Y (n + 1) i c (.yield v g l k) fs s :=
  gseg_iff.mpr fun Γ p hc _ => by
    subst hc
    exact ⟨_, s, Runs.yield' fs hfs, by simp [End.quiet, hg, hfg], h⟩
section
variable {env : PySem.Env} {K : Flow → Sem PySem.Fin} {H : Value → Sem PySem.Fin} {gd : Bool → Bool} {lv : List Value → List Value}
theorem gseg_execs_cons {st : Stmt} {rest : List Stmt} (h : GSeg M A R Y n i c ((exec st env).wrap (fun f => match f with | .next => (execs rest env).wrap K H gd lv | f => K f) H gd lv) fs s) : GSeg M A R Y n i c ((execs (st :: rest) env).wrap K H gd lv) fs s := by
  rw [execs_cons_wrap]
  exact h
theorem gseg_Yield {e : Expr} {ypos pos : Pos} (hfs : splitAtGen fs = none) (hgd : gd false = false) (hfg : fs.any Frame.guarded = false)
    (h : wpAny M (A.over c fs) (eval e env) (fun v s1 => ∀ kap : Resume → ι → Shared → Prop, (∀ x j s2, (∀ a, x ≠ .ref a) → GSeg M A R Y n j c (K .next) fs s2 → kap (.send x) j s2) → Y n i v s1 kap) (fun x s1 => GSeg M A R Y (n + 1) i c (H x) fs s1) s)
    (hco : env.scope.isCoroutine = false := by rfl) (hi : interactive env = false := by rfl) : GSeg M A R Y (n + 1) i c ((exec (.Expr (.Yield (some e) ypos) pos) env).wrap K H gd lv) fs s := by
  have hy : ∀ v, yieldOut env v = yieldValue v := fun v => by unfold yieldOut; rw [hco]; rfl
  have e1 : (exec (.Expr (.Yield (some e) ypos) pos) env).wrap K H gd lv = .at pos fun _ => (eval e env).wrap (fun v => (standAt ypos >>= fun _ => yieldOut env v).wrap (fun x => (dropValue (.Yield (some e) ypos) pos x).wrap K H gd lv) H gd lv) H gd lv := by
    rw [exec_Expr env _ pos hi rfl]
    show Sem.at pos (fun _ => ((eval e env >>= fun v => (standAt ypos >>= fun _ => yieldOut env v)) >>= fun x => dropValue (.Yield (some e) ypos) pos x).wrap K H gd lv) = _
    congr 1
    funext _
    simp only [Sem.bind_eq_wrap', Sem.wrap_wrap]
    rfl
  rw [e1]
  refine gseg_at (gseg_wrap (wpAny_mono h (fun v s1 h1 => ?_) fun _ _ x => x))
  rw [hy v]
  refine gseg_at (gseg_yield hfs hgd hfg (h1 _ fun x j s2 nr hx => ?_))
  cases x with
  | ref a => exact absurd rfl (nr a)
  | _ => exact hx
end
section
variable {prog : Program} {w : World} {env : PySem.Env}
theorem gseg_eq {t t' : Sem PySem.Fin} (e : t = t') (h : GSeg M A R Y n i c t' fs s) : GSeg M A R Y n i c t fs s := e ▸ h
theorem gseg_forLoop {target : Expr} {it : Value} {body : List Stmt}
    (h : wpAny (model prog w) (A.over (.forLoop target it body [] env) fs) (pyNext it) (fun r s1 => match r with
      | none => GSeg (model prog w) A R Y n i (.block [] env) (.pure (.done .next)) fs s1
      | some v => wpAny (model prog w) (A.over (.forLoop target it body [] env) fs) (letOwnedTupleGo target it v) (fun _ s2 =>
          wpAny (model prog w) (A.over (.forLoop target it body [] env) fs) (assign target env v) (fun _ s3 =>
            GSeg (model prog w) A R Y n i (.forLoop target it body [] env) ((execs body env).wrap (fun f => match f with
              | .next | .cont => .pure (.again (.forLoop target it body [] env)) | .brk => .pure (.done .next) | .ret v => .pure (.done (.ret v))) (loopEx env) id id) fs s3)
            (fun x s3 => GSeg (model prog w) A R Y n i (.forLoop target it body [] env) (loopEx env x) fs s3) s2)
          (fun x s2 => GSeg (model prog w) A R Y n i (.forLoop target it body [] env) (loopEx env x) fs s2) s1) (fun x s1 => GSeg (model prog w) A R Y n i (.forLoop target it body [] env) (loopEx env x) fs s1) s) :
    GSeg (model prog w) A R Y n i (.forLoop target it body [] env) ((model prog w).den (.forLoop target it body [] env)) fs s := by
  have eH : ∀ x : Value, ((do noteFrame x env; theTreesLotGoes x : Sem Unit).bind fun _ => (.raise x : Sem PySem.Fin)) = loopEx env x := fun x => Sem.bind_eq_wrap _ _
  show GSeg _ A R Y n i _ ((forTurn target it body [] env).onRaise (fun x => do noteFrame x env; theTreesLotGoes x)) fs s
  rw [Sem.onRaise_eq_wrap]
  unfold forTurn
  refine gseg_bind (wpAny_standAt (gseg_bind (wpAny_onRaise (wpAny_mono h (fun r s1 h1 => ?_) fun x s1 hx => wpAny_standAt ?_))))
  · cases r with
    | none => exact gseg_again rfl h1
    | some v =>
      refine gseg_bind (wpAny_mono h1 (fun _ s2 h2 => gseg_bind (wpAny_mono h2 (fun _ s3 h3 => ?_) fun x s3 hx => ?_)) fun x s2 hx => ?_)
      · refine gseg_eq (by
          rw [Sem.bind_eq_wrap', Sem.wrap_wrap]
          exact Sem.wrap_congr (execs body env) _ _ (fun f => by cases f <;> rfl) fun e => Sem.bind_eq_wrap _ _) h3
      · rw [← eH] at hx; exact hx
      · rw [← eH] at hx; exact hx
  · rw [← eH] at hx; exact hx
theorem gseg_func {body : List Stmt} (h : GSeg (model prog w) A R Y n i (.func body env) ((execs body env).wrap (fun f => .pure (.done (.ret (match f with | .ret v => v | _ => .none)))) (fun e => (leaving env e).wrap (fun _ => .raise e) .raise id id) id id) fs s) :
    GSeg (model prog w) A R Y n i (.func body env) ((model prog w).den (.func body env)) fs s := by
  show GSeg _ A R Y n i _ (.point [] fun _ => ((execs body env).onRaise (leaving env)) >>= _) fs s
  refine gseg_point ?_
  refine gseg_eq ?_ h
  simp only [Sem.onRaise_eq_wrap, Sem.bind_eq_wrap', Sem.wrap_wrap]
  refine Sem.wrap_congr _ _ _ (fun f => by cases f <;> rfl) fun x => ?_
  rw [Sem.bind_eq_wrap, Sem.wrap_wrap]
  rfl
end
def kapI (M : Model) (A : Around) (R : EndI ι) (Y : ProI ι) : Nat → GenState → Resume → ι → Shared → Prop
  | 0, _, _, _, _ => False
  | m + 1, gs', r', j, s'' => GGoes M A R Y m j gs' r' s''
theorem wpAny_resumeI {E : Value → Shared → Prop} {g : Nat} {gs : GenState} {r : Resume} {l : List Value} {α : Type} {k : GenResult → Sem α} {Q : α → Shared → Prop} (hg : s.gens[g]? = some gs) (hgo : GGoes M A R Y n i gs r (s.setGen g .running))
    (hR : ∀ x s₁, R n i x s₁ → wpAny M A (k (End.ret x).result) Q E (s₁.setGen g .finished))
    (hY : ∀ v s₁ gs', gs'.bare = true → IsSusp gs' → Y (n - 1) i v s₁ (kapI M A R Y n gs') → wpAny M A (k (.yielded v)) Q E (s₁.setGen g gs')) :
    wpAny M A (.resume g r l k) Q E s := by
  intro Γ p hΓ
  rw [Sem.wp_resume]
  have main : ∀ e₁ s₁, endI R Y n (GSegN M A R Y n) i e₁ s₁ → e₁.quiet = true ∧ Sem.wp M Γ (k e₁.result) (fun a _ s' => Q a s') (fun e _ s' => E e s') p (s₁.setGen g e₁.genState) := by
    intro e₁ s₁ he
    cases e₁ with
    | ret x => exact ⟨rfl, hR x s₁ he Γ p hΓ⟩
    | susp v g₀ l₀ k₀ c₀ p₀ fs₀ =>
      refine ⟨he.1, hY v s₁ _ (End.bare_of_quiet he.1) ⟨_, _, _, _, _, _, rfl⟩ ?_ Γ p hΓ⟩
      cases n <;> exact he.2
  cases gs with
  | fresh c =>
    obtain ⟨rfl, hs⟩ := hgo
    obtain ⟨e₁, s₁, hr, he⟩ := gseg_iff.mp hs (Γ.wake c p) p rfl (hΓ.wake c p)
    refine ⟨_, _, ?_, (main e₁ s₁ he).2⟩
    unfold Wakes
    rw [hg]
    exact ⟨e₁, s₁, hr, (main e₁ s₁ he).1, rfl, rfl⟩
  | suspended k₀ l₀ c₀ p₀ fs₀ cl =>
    obtain ⟨e₁, s₁, hr, he⟩ := gseg_iff.mp hgo (Γ.wake c₀ p) p₀ rfl (hΓ.wake c₀ p)
    refine ⟨_, _, ?_, (main e₁ s₁ he).2⟩
    unfold Wakes
    rw [hg]
    exact ⟨e₁, s₁, hr, (main e₁ s₁ he).1, rfl, rfl⟩
  | running => exact hgo.elim
  | finished => exact hgo.elim
end
end Gz
end
section
namespace Gz
open PySem PySem.Spec PyProof.Rows L2 GenW Gh
abbrev poisS (s : Shared) : Shared := { s with gens := s.gens.map pois }
theorem upW {α : Type} {M : Model} {A : Around} {ρ : Map} {t : Sem α} {Q Q' : α → Shared → Prop} {E E' : Value → Shared → Prop} {s : Shared} (H : Held ρ s.gens) (h : wpAny M A t Q E s)
    (hQ : ∀ a s2, Held ρ s2.gens → Q a s2 → Q' a (up ρ s2)) (hE : ∀ e s2, Held ρ s2.gens → E e s2 → E' e (up ρ s2)) : wpAny M A t Q' E' (up ρ s) := by
  intro Γ p hΓ
  refine Sem.wp_mono M Γ t ?_ ?_ p _ (wp_up M ρ Γ t _ _ p s H (h Γ p hΓ))
  · rintro a p' s1 ⟨s2, q, H2, rfl⟩
    exact hQ a s2 H2 q
  · rintro a p' s1 ⟨s2, q, H2, rfl⟩
    exact hE a s2 H2 q
theorem up_pois (s : Shared) : up (sleepers s.gens) (poisS s) = s := by
  show ({ s with gens := rest _ _ } : Shared) = s
  rw [rest_of]
theorem keepW {α : Type} {M : Model} {A : Around} {t : Sem α} {Q Q' : α → Shared → Prop} {E E' : Value → Shared → Prop} {s : Shared} (h : wpAny M A t Q E (poisS s))
    (hQ : ∀ a s2, Held (sleepers s.gens) s2.gens → Q a s2 → Q' a (up (sleepers s.gens) s2)) (hE : ∀ e s2, Held (sleepers s.gens) s2.gens → E e s2 → E' e (up (sleepers s.gens) s2)) : wpAny M A t Q' E' s := by
  have z := upW (held_of s.gens) h hQ hE
  rw [up_pois] at z
  exact z
variable {X : Cx}
theorem inv_gens {pins : List (Addr × Obj)} {σ : L2.St} {H : Hp} {s : Shared} (I : Inv X pins σ H s) {G : Array GenState} (hG : AllB G) : Inv X pins σ H { s with gens := G } :=
  ⟨I.ok, I.os, hG, I.base, I.loc, I.cell, I.free, I.freeC, I.pin, I.hok, I.len⟩
theorem inv_pois {pins : List (Addr × Obj)} {σ : L2.St} {H : Hp} {s : Shared} (I : Inv X pins σ H s) : Inv X pins σ H (poisS s) := inv_gens I (bare_map I.bare)
theorem inv_up {pins : List (Addr × Obj)} {σ : L2.St} {H : Hp} {s s2 : Shared} (b : AllB s.gens) (h : Held (sleepers s.gens) s2.gens) (I : Inv X pins σ H s2) : Inv X pins σ H (up (sleepers s.gens) s2) :=
  inv_gens I ((kept_of h).bare b I.bare)
theorem up_sleep {s s2 : Shared} (h : Held (sleepers s.gens) s2.gens) : Sleep s (up (sleepers s.gens) s2) := (kept_of h).sleep
theorem sp_up {pins : List (Addr × Obj)} {D : Ends} {f : Flow} {s s2 : Shared} (b : AllB s.gens) (h : Held (sleepers s.gens) s2.gens) (q : SP X pins D f s2) : SP X pins D f (up (sleepers s.gens) s2) := by
  cases f with
  | next => obtain ⟨σ, H, I, q⟩ := q; exact ⟨σ, H, inv_up (σ := σ) (H := H) b h I, q⟩
  | brk => obtain ⟨σ, H, I, q⟩ := q; exact ⟨σ, H, inv_up (σ := σ) (H := H) b h I, q⟩
  | cont => obtain ⟨σ, H, I, q⟩ := q; exact ⟨σ, H, inv_up (σ := σ) (H := H) b h I, q⟩
  | ret u => obtain ⟨v, σ, H, I, r, q⟩ := q; exact ⟨v, σ, H, inv_up (σ := σ) (H := H) b h I, r, q⟩
theorem cut_get {h : Heap} {n b : Nat} (hb : b < n) : (cut h n).get? b = h.get? b := by
  unfold cut Heap.get?
  have e : (h.objs.extract 0 n)[b]? = h.objs[b]? := by
    rw [Array.getElem?_extract]
    by_cases q : b < h.objs.size
    · rw [if_pos (by omega), Nat.zero_add]
    · rw [if_neg (by omega), Array.getElem?_eq_none (by omega)]
  simp only [e]
theorem cut_lt {h : Heap} {n b : Nat} {o : Obj} (e : (cut h n).get? b = some o) : b < n := by
  have z : b < (h.objs.extract 0 n).size := Heap.lt_size e
  rw [Array.size_extract] at z
  have : min n h.objs.size ≤ n := Nat.min_le_left _ _
  omega
theorem cut_size {h : Heap} {n : Nat} (hn : n ≤ h.objs.size) : (cut h n).objs.size = n := by
  unfold cut
  simp only [Array.size_extract]
  omega
abbrev TQ (T : Type) := Pro T → QE T → Nat → T → L2.St → Hp → Prop
theorem gpn_sleep {gp : List (Nat × GenState)} {s s' : Shared} (h : ∀ q ∈ gp, IsSusp q.2 ∧ s.gens[q.1]? = some q.2) (k : Sleep s s') : ∀ q ∈ gp, IsSusp q.2 ∧ s'.gens[q.1]? = some q.2 :=
  fun q hq => ⟨(h q hq).1, k _ _ (.inl (h q hq).1) (h q hq).2⟩
def QSP {T : Type} (X : Cx) (g n0 : Nat) (P : Pro T) (ip : List (Addr × Obj)) (gp : List (Nat × GenState)) (D : QE T) (n : Nat) (γ : T) (s₀ : Shared) (f : Flow) (s : Shared) : Prop :=
  match f with
  | .next => ∃ σ H, QI X g n0 P ip gp γ s₀ σ H s ∧ D.nx n γ σ H
  | .brk => ∃ σ H, QI X g n0 P ip gp γ s₀ σ H s ∧ D.bk n γ σ H
  | .cont => ∃ σ H, QI X g n0 P ip gp γ s₀ σ H s ∧ D.ct n γ σ H
  | .ret u => ∃ v σ H, QI X g n0 P ip gp γ s₀ σ H s ∧ RelV v u ∧ D.rt n γ v H
structure QC (X : Cx) (A : Around) (c : Code) (fs : List Frame) (gd : Bool → Bool) : Prop where
  over : A.over c fs = X.A
  split : splitAtGen fs = none
  guard : fs.any Frame.guarded = false
  gd : gd false = false
def QK {T : Type} (X : Cx) (g n0 : Nat) (P : Pro T) (A : Around) (R : EndI (T × Shared)) (ip : List (Addr × Obj)) (gp : List (Nat × GenState)) (c : Code) (fs : List Frame) (K : Flow → Sem PySem.Fin) (D : QE T) : Prop :=
  ∀ (n : Nat) (s₀ : Shared) (γ : T) (s : Shared) (f : Flow), QSP X g n0 P ip gp D n γ s₀ f s → GSeg (model X.prog X.w) A R (QY X g n0 P) n (γ, s₀) c (K f) fs s
abbrev GpZ := List (Nat × GenState) → Prop
structure QS (T : Type) (X : Cx) (Z : GpZ) (st : Stmt) (t : TQ T) : Prop where
  run : ∀ (g n0 : Nat) (P : Pro T) (A : Around) (ip : List (Addr × Obj)) (gp : List (Nat × GenState)) (R : EndI (T × Shared)) (n : Nat) (γ : T) (s₀ : Shared) (c : Code) (fs : List Frame) (K : Flow → Sem PySem.Fin) (J : Value → Sem PySem.Fin) (gd : Bool → Bool) (lv : List Value → List Value) (s : Shared) (σ : L2.St) (H : Hp) (D : QE T),
    Z gp → QC X A c fs gd → QK X g n0 P A R ip gp c fs K D → QI X g n0 P ip gp γ s₀ σ H s → t P D n γ σ H → GSeg (model X.prog X.w) A R (QY X g n0 P) n (γ, s₀) c ((exec st X.env).wrap K J gd lv) fs s
structure QSs (T : Type) (X : Cx) (Z : GpZ) (st : List Stmt) (t : TQ T) : Prop where
  run : ∀ (g n0 : Nat) (P : Pro T) (A : Around) (ip : List (Addr × Obj)) (gp : List (Nat × GenState)) (R : EndI (T × Shared)) (n : Nat) (γ : T) (s₀ : Shared) (c : Code) (fs : List Frame) (K : Flow → Sem PySem.Fin) (J : Value → Sem PySem.Fin) (gd : Bool → Bool) (lv : List Value → List Value) (s : Shared) (σ : L2.St) (H : Hp) (D : QE T),
    Z gp → QC X A c fs gd → QK X g n0 P A R ip gp c fs K D → QI X g n0 P ip gp γ s₀ σ H s → t P D n γ σ H → GSeg (model X.prog X.w) A R (QY X g n0 P) n (γ, s₀) c ((execs st X.env).wrap K J gd lv) fs s
section
variable {T : Type} {Z : GpZ} {st : Stmt} {rest : List Stmt} {pos : Pos}
theorem sp_qsp {g n0 n : Nat} {P : Pro T} {ip : List (Addr × Obj)} {gp : List (Nat × GenState)} {D : QE T} {γ : T} {s₀ s s2 : Shared} {f : Flow} (z : n0 ≤ (P.src γ s₀).heap.objs.size) (zi : ∀ p ∈ ip, n0 ≤ p.1) (sl : RunS s₀ s) (gn : ∀ q ∈ gp, IsSusp q.2 ∧ s.gens[q.1]? = some q.2) (b : AllB s.gens) (r : s.gens[g]? = some .running) (h : Held (sleepers s.gens) s2.gens) (q : SP (reb X (cutS (P.src γ s₀) n0) (P.hp γ)) ip (D.at n γ) f s2) :
    QSP X g n0 P ip gp D n γ s₀ f (up (sleepers s.gens) s2) := by
  have q2 := sp_up b h q
  have r2 := up_sleep h g _ fixd_run r
  cases f with
  | next => obtain ⟨σ, H, I, q⟩ := q2; exact ⟨σ, H, ⟨I, r2, z, zi, sl.trans (up_sleep h).runs, gpn_sleep gn (up_sleep h)⟩, q⟩
  | brk => obtain ⟨σ, H, I, q⟩ := q2; exact ⟨σ, H, ⟨I, r2, z, zi, sl.trans (up_sleep h).runs, gpn_sleep gn (up_sleep h)⟩, q⟩
  | cont => obtain ⟨σ, H, I, q⟩ := q2; exact ⟨σ, H, ⟨I, r2, z, zi, sl.trans (up_sleep h).runs, gpn_sleep gn (up_sleep h)⟩, q⟩
  | ret u => obtain ⟨v, σ, H, I, r, q⟩ := q2; exact ⟨v, σ, H, ⟨I, r2, z, zi, sl.trans (up_sleep h).runs, gpn_sleep gn (up_sleep h)⟩, r, q⟩
def tQP (t : TS) : TQ T := fun _ D n γ σ H => t (D.at n γ) σ H
theorem qs_ps {t : TS} (h : ∀ s0 H0, PS (reb X s0 H0) st t) : QS T X Z st (tQP t) := by
  refine ⟨fun g n0 P A ip gp R n γ s₀ c fs K J gd lv s σ H D hz gc k hI ht => ?_⟩
  refine gseg_wrap ?_
  rw [gc.over]
  exact keepW ((h _ _).run ip _ σ H (D.at n γ) (inv_pois hI.inv) ht) (fun f s' hh hs => k n s₀ γ _ f (sp_qsp hI.sz hI.ips hI.slp hI.gpn hI.inv.bare hI.run hh hs)) fun x s' _ hx => hx.elim
def tQ0 : TQ T := fun _ D n γ σ H => D.nx n γ σ H
theorem qss_nil : QSs T X Z [] tQ0 := by
  refine ⟨fun g n0 P A ip gp R n γ s₀ c fs K J gd lv s σ H D hz gc k hI ht => ?_⟩
  exact k n s₀ γ s .next ⟨σ, H, hI, ht⟩
def tQThen (t u : TQ T) : TQ T := fun P D n γ σ H => t P { D with nx := fun n' γ' σ' H' => u P D n' γ' σ' H' } n γ σ H
theorem qss_cons {t u : TQ T} (a : QS T X Z st t) (b : QSs T X Z rest u) : QSs T X Z (st :: rest) (tQThen t u) := by
  refine ⟨fun g n0 P A ip gp R n γ s₀ c fs K J gd lv s σ H D hz gc k hI ht => ?_⟩
  refine gseg_execs_cons ?_
  refine a.run g n0 P A ip gp R n γ s₀ c fs _ J gd lv s σ H { D with nx := fun n' γ' σ' H' => u P D n' γ' σ' H' } hz gc (fun n' s₀' γ' s' f hs => ?_) hI ht
  cases f with
  | next =>
    obtain ⟨σ', H', I', q⟩ := hs
    exact b.run g n0 P A ip gp R n' γ' s₀' c fs K J gd lv s' σ' H' D hz gc k I' q
  | brk => exact k n' s₀' γ' s' .brk hs
  | cont => exact k n' s₀' γ' s' .cont hs
  | ret u => exact k n' s₀' γ' s' (.ret u) hs
def tQIf (tc : TT) (ta tb : TQ T) : TQ T := fun P D n γ σ H => tc σ H fun r H1 => if r = true then ta P D n γ σ H1 else tb P D n γ σ H1
theorem tp_up {ip : List (Addr × Obj)} {σ : L2.St} {Q : Bool → Hp → Prop} {d : Bool} {s s2 : Shared} (b : AllB s.gens) (h : Held (sleepers s.gens) s2.gens) (q : TP X ip σ Q d s2) : TP X ip σ Q d (up (sleepers s.gens) s2) := by
  obtain ⟨H1, I1, q1⟩ := q
  exact ⟨H1, inv_up (σ := σ) (H := H1) b h I1, q1⟩
theorem qs_if {test : Expr} {a b : List Stmt} {tc : TT} {ta tb : TQ T} (hc : ∀ s0 H0, PT (reb X s0 H0) test tc) (ha : QSs T X Z a ta) (hb : QSs T X Z b tb) : QS T X Z (.If test a b pos) (tQIf tc ta tb) := by
  refine ⟨fun g n0 P A ip gp R n γ s₀ c fs K J gd lv s σ H D hz gc k hI ht => ?_⟩
  rw [exec_If]
  show GSeg _ _ _ _ _ _ _ (.at pos fun _ => (isTrue test X.env (eval test X.env) >>= fun d => if d = true then execs a X.env else execs b X.env).wrap K J gd lv) _ _
  refine gseg_at (gseg_bind ?_)
  rw [gc.over]
  refine keepW ((hc _ _).run ip _ σ H _ (inv_pois hI.inv) ht) (fun d s1 hh hd => ?_) fun x s' _ hx => hx.elim
  obtain ⟨H1, I1, q1⟩ := tp_up hI.inv.bare hh hd
  have r1 := up_sleep hh g _ fixd_run hI.run
  cases d with
  | true => exact ha.run g n0 P A ip gp R n γ s₀ c fs K J gd lv _ σ H1 D hz gc k ⟨I1, r1, hI.sz, hI.ips, hI.slp.trans (up_sleep hh).runs, gpn_sleep hI.gpn (up_sleep hh)⟩ q1
  | false => exact hb.run g n0 P A ip gp R n γ s₀ c fs K J gd lv _ σ H1 D hz gc k ⟨I1, r1, hI.sz, hI.ips, hI.slp.trans (up_sleep hh).runs, gpn_sleep hI.gpn (up_sleep hh)⟩ q1
def tQY (te : TE) : TQ T := fun P D n γ σ H => ∃ m, n = m + 1 ∧ te σ H fun x H1 => P.out m γ x H1 ∧ ∀ γ', P.lk m γ H1 γ' → D.nx m γ' σ (P.hp γ')
theorem ep_up {ip : List (Addr × Obj)} {σ : L2.St} {Q : VK} {v : Value} {s s2 : Shared} (b : AllB s.gens) (h : Held (sleepers s.gens) s2.gens) (q : EP X ip σ Q v s2) : EP X ip σ Q v (up (sleepers s.gens) s2) := by
  obtain ⟨x, H1, I1, r1, q1⟩ := q
  exact ⟨x, H1, inv_up (σ := σ) (H := H1) b h I1, r1, q1⟩
theorem qs_yield {e : Expr} {te : TE} {yp : Pos} (he : ∀ s0 H0, PE (reb X s0 H0) e te) (hco : X.env.scope.isCoroutine = false := by rfl) (hi : interactive X.env = false := by rfl) : QS T X Z (.Expr (.Yield (some e) yp) pos) (tQY te) := by
  refine ⟨fun g n0 P A ip gp R n γ s₀ c fs K J gd lv s σ H D hz gc k hI ht => ?_⟩
  obtain ⟨n, rfl, ht⟩ := ht
  refine gseg_Yield gc.split gc.gd gc.guard ?_ hco hi
  rw [gc.over]
  refine keepW ((he _ _).run ip _ σ H _ (inv_pois hI.inv) ht) (fun v s' hh hv => ?_) fun x s' _ hx => hx.elim
  obtain ⟨x, H1, I1, rv, q1, q2⟩ := ep_up hI.inv.bare hh hv
  have r1 := up_sleep hh g _ fixd_run hI.run
  intro kap hk
  refine ⟨σ, ip, gp, x, H1, ⟨I1, r1, hI.sz, hI.ips, hI.slp.trans (up_sleep hh).runs, gpn_sleep hI.gpn (up_sleep hh)⟩, rv, q1, fun s'' γ' hI' hl => hk .none (γ', s'') s'' (fun _ z => by cases z) ?_⟩
  exact k n s'' γ' s'' .next ⟨σ, _, hI', q2 γ' hl⟩
theorem qc_loop {A : Around} {c c' : Code} {fs : List Frame} {gd : Bool → Bool} {k : Result → Sem PySem.Fin} {l kp : List Value} {p : Pos} (g : QC X A c fs gd) (hw : c'.weight = 0) (hu : c'.cUnits = 0) :
    QC X A c' (.ret k none (gd false) l c p kp :: fs) id where
  over := (over_loop hw hu).trans g.over
  split := by
    show (splitAtGen fs).map _ = none
    rw [g.split]; rfl
  guard := by
    show (gd false || fs.any Frame.guarded) = false
    rw [g.gd, g.guard]; rfl
  gd := rfl
end
end Gz
end
section
namespace Gz
open PySem PySem.Spec PyProof.Rows L2 GenW Gh
section
variable {X : Cx} {T : Type} {Z : GpZ} {pos : Pos}
def tQFor (wi : TI) (g : TG) (tb : TQ T) : TQ T := fun P D n γ σ H => wi σ H fun J H1 => ∃ W : Nat → Nat → Nat → T → L2.St → Hp → Prop, (∃ m, W 0 m n γ σ H1) ∧ ∀ i m n γ σ H, W i m n γ σ H →
  (J.stop i H ∧ D.nx n γ σ H) ∨ (J.go i H ∧ ∃ N : Nat → T → L2.St → Hp → Prop, (∀ n' γ' σ' H', N n' γ' σ' H' → ∃ m', m' < m ∧ W (i + 1) m' n' γ' σ' H') ∧ ∀ x H', J.yld i H x H' → g x σ H' fun σ2 H2 => tb P { D with nx := N, ct := N, bk := D.nx } n γ σ2 H2)
theorem qs_for {tg iter : Expr} {body : List Stmt} {wi : TI} {gt : TG} {tb : TQ T} (hc : X.calm = true) (hi : ∀ s0 H0, PI (reb X s0 H0) tg iter wi) (hg : ∀ s0 H0, PG (reb X s0 H0) tg gt) (hb : QSs T X Z body tb)
    (hs : ∀ x, foldedSetIterable iter X.env x = pure x := by intro _; rfl) (hex : X.ex = [] := by rfl) : QS T X Z (.For tg iter body [] pos) (tQFor wi gt tb) := by
  refine ⟨fun g n0 P A ip gp R n γ s₀ c fs K J gd lv s σ H D hz gc k hI ht => ?_⟩
  have hsz := hI.sz
  rw [exec_For]
  refine gseg_bind (wpAny_standAt ?_)
  refine gseg_bind ?_
  rw [gc.over]
  refine keepW ((hi _ _).run ip _ σ H _ (inv_pois hI.inv) ht) (fun v s1 hh1 h1 => ?_) fun x s' _ hx => hx.elim
  refine gseg_bind ?_
  rw [gc.over]
  refine wpAny_of_eq (hs v) ?_
  refine gseg_bind (wpAny_standAt ?_)
  refine gseg_bind ?_
  rw [gc.over]
  refine wpAny_holding (upW hh1 h1 (fun itv s2 hh2 h2 => ?_) fun x s' _ hx => hx.elim)
  obtain ⟨it, fp, tn, JJ, H2, e, I2, TT, st2, f2, W, ⟨m0, w0⟩, turn⟩ := h2
  subst e
  have I2' := inv_up (s := s) hI.inv.bare hh2 I2
  have r2 := up_sleep hh2 g _ fixd_run hI.run
  have szz : ∀ {s' : Shared}, n0 ≤ s'.heap.objs.size → (cutS s' n0).heap.objs.size = n0 := fun h => cut_size h
  have stat : ∀ {γ' : T} {s₀' : Shared} {H' : Hp}, n0 ≤ (P.src γ' s₀').heap.objs.size → (∀ b ∈ fp, H' b = none) → ∀ b ∈ fp, FpOk (reb X (cutS (P.src γ' s₀') n0) (P.hp γ')) ip H' b := fun {γ' s₀' H'} hz hn b hb => by
    obtain ⟨_, q1, q2, q3, q4, q5⟩ := f2 b hb
    refine ⟨hn b hb, q1, q2, ?_, q4, q5⟩
    rcases q3 with q3 | q3
    · exact .inl q3
    · right
      show (cutS (P.src γ' s₀') n0).heap.objs.size ≤ b
      rw [szz hz]
      have q4 : (cutS (P.src γ s₀) n0).heap.objs.size ≤ b := q3
      rw [szz hsz] at q4
      exact q4
  have fpn : ∀ b ∈ fp, n0 ≤ b := fun b hb => by
    obtain ⟨_, _, _, q3, _⟩ := f2 b hb
    rcases q3 with q3 | q3
    · rw [show (reb X (cutS (P.src γ s₀) n0) (P.hp γ)).ex = [] from hex] at q3
      cases q3
    · have q4 : (cutS (P.src γ s₀) n0).heap.objs.size ≤ b := q3
      rw [szz hsz] at q4
      exact q4
  refine gseg_call fun p => ?_
  have gl := fun (kk : Result → Sem PySem.Fin) => qc_loop (k := kk) (c' := .forLoop tg (.ref it) body [] X.env) (l := lv []) (kp := []) (p := p) gc rfl rfl
  have loop : ∀ (m i n : Nat) (γ : T) (s₀ s : Shared) (σ : L2.St) (H : Hp), W i m n γ σ H → QI X g n0 P ip gp γ s₀ σ H s → tn i s.heap → (∀ b ∈ fp, H b = none) →
      GSeg (model X.prog X.w) A R (QY X g n0 P) n (γ, s₀) (.forLoop tg (.ref it) body [] X.env) ((model X.prog X.w).den (.forLoop tg (.ref it) body [] X.env))
        (.ret (fun r => ((match r with | .ok f => (.pure f : Sem Flow) | .error e => .raise e).onRaise (cameBack X.env)).wrap K J gd lv) none (gd false) (lv []) c p [] :: fs) s := by
    intro m
    induction m using Nat.strongRecOn with
    | ind m ih =>
      intro i n γ s₀ s σ H wI hI st fr
      have sta := stat (γ' := γ) hI.sz fr
      refine gseg_forLoop ?_
      rw [(gl _).over]
      rcases turn i m n γ σ H wI with ⟨stop, qn⟩ | ⟨go, N, hN, step⟩
      · refine keepW (TT.done (reb X (cutS (P.src γ s₀) n0) (P.hp γ)) rfl rfl rfl hc i _ _ σ H (fun _ _ => False) (inv_pois hI.inv) sta st stop) (fun r4 s4 hh4 h4 => ?_) fun x s' _ hx => hx.elim
        obtain ⟨hr, I4⟩ := h4
        subst hr
        exact gseg_leaf (.ok .next) (k n s₀ γ _ .next ⟨σ, H, ⟨inv_up hI.inv.bare hh4 I4, up_sleep hh4 g _ fixd_run hI.run, hI.sz, hI.ips, hI.slp.trans (up_sleep hh4).runs, gpn_sleep hI.gpn (up_sleep hh4)⟩, qn⟩)
      · refine keepW (TT.item (reb X (cutS (P.src γ s₀) n0) (P.hp γ)) rfl rfl rfl hc i _ _ σ H (fun _ _ => False) (inv_pois hI.inv) sta st go) (fun r4 s4 hh4 h4 => ?_) fun x s' _ hx => hx.elim
        obtain ⟨u, hr, h4⟩ := h4
        subst hr
        refine upW hh4 h4 (fun _ s5 hh5 h5 => ?_) fun x s' _ hx => hx.elim
        obtain ⟨x, H5, I5, r5, y5, st5, fr5⟩ := h5
        have J5 : QI X g n0 P ip gp γ s₀ σ H5 (up (sleepers s.gens) s5) := ⟨inv_up hI.inv.bare hh5 I5, up_sleep hh5 g _ fixd_run hI.run, hI.sz, hI.ips, hI.slp.trans (up_sleep hh5).runs, gpn_sleep hI.gpn (up_sleep hh5)⟩
        have I5' : QI X g n0 P (ip ++ pinsAt fp s5.heap) gp γ s₀ σ H5 (up (sleepers s.gens) s5) := ⟨J5.inv.pinned (s := up (sleepers s.gens) s5) (stat (γ' := γ) hI.sz fr5) (TT.obj _ _ st5), J5.run, J5.sz, fun q hq => (List.mem_append.mp hq).elim (hI.ips q) fun z => fpn q.1 (of_pinsAt z).1, J5.slp, J5.gpn⟩
        refine keepW ((hg _ _).run (ip ++ pinsAt fp s5.heap) _ σ H5 x u _ (inv_pois I5'.inv) r5 (step x H5 y5)) (fun _ s6 hh6 h6 => ?_) fun x s' _ hx => hx.elim
        obtain ⟨σ6, H6, I6, q6⟩ := h6
        have J6 : QI X g n0 P (ip ++ pinsAt fp s5.heap) gp γ s₀ σ6 H6 (up (sleepers (up (sleepers s.gens) s5).gens) s6) := ⟨inv_up I5'.inv.bare hh6 I6, up_sleep hh6 g _ fixd_run I5'.run, I5'.sz, I5'.ips, I5'.slp.trans (up_sleep hh6).runs, gpn_sleep I5'.gpn (up_sleep hh6)⟩
        have un : ∀ {γ7 : T} {s₀7 : Shared} {σ7 : L2.St} {H7 : Hp} {s7 : Shared}, QI X g n0 P (ip ++ pinsAt fp s5.heap) gp γ7 s₀7 σ7 H7 s7 → QI X g n0 P ip gp γ7 s₀7 σ7 H7 s7 ∧ tn (i + 1) s7.heap ∧ ∀ b ∈ fp, H7 b = none := fun {γ7 s₀7 σ7 H7 s7} h => by
          have pin : ∀ b ∈ fp, ∀ o, s5.heap.get? b = some o → (b, o) ∈ X.pn ++ (ip ++ pinsAt fp s5.heap) := fun b hb o e => List.mem_append_right _ (List.mem_append_right _ (mem_pinsAt hb e))
          refine ⟨⟨h.inv.unpinned, h.run, h.sz, fun q hq => h.ips q (List.mem_append_left _ hq), h.slp, h.gpn⟩, TT.keep _ _ _ st5 fun b hb o e => (h.inv.pin (b, o) (pin b hb o e)).1, fun b hb => ?_⟩
          obtain ⟨o, e, _⟩ := TT.obj _ _ st5 b hb
          exact (h.inv.pin (b, o) (pin b hb o e)).2.1
        refine hb.run g n0 P A (ip ++ pinsAt fp s5.heap) gp R n γ s₀ _ _ _ _ id id _ σ6 H6 { D with nx := N, ct := N, bk := D.nx } hz (gl _) (fun n' s₀' γ' s7 f h7 => ?_) J6 q6
        cases f with
        | next =>
          obtain ⟨σ7, H7, I7, n7⟩ := h7
          obtain ⟨G7, t7, f7⟩ := un I7
          obtain ⟨m', hm, w7⟩ := hN n' γ' σ7 H7 n7
          exact gseg_again rfl (ih m' hm (i + 1) n' γ' s₀' s7 σ7 H7 w7 G7 t7 f7)
        | cont =>
          obtain ⟨σ7, H7, I7, n7⟩ := h7
          obtain ⟨G7, t7, f7⟩ := un I7
          obtain ⟨m', hm, w7⟩ := hN n' γ' σ7 H7 n7
          exact gseg_again rfl (ih m' hm (i + 1) n' γ' s₀' s7 σ7 H7 w7 G7 t7 f7)
        | brk =>
          obtain ⟨σ7, H7, I7, q7⟩ := h7
          exact gseg_leaf (.ok .next) (k n' s₀' γ' s7 .next ⟨σ7, H7, (un I7).1, q7⟩)
        | ret v =>
          obtain ⟨x7, σ7, H7, I7, r7, q7⟩ := h7
          exact gseg_leaf (.ok (.ret v)) (k n' s₀' γ' s7 (.ret v) ⟨x7, σ7, H7, (un I7).1, r7, q7⟩)
  exact loop m0 0 n γ s₀ _ σ H2 w0 ⟨I2', r2, hsz, hI.ips, hI.slp.trans (up_sleep hh2).runs, gpn_sleep hI.gpn (up_sleep hh2)⟩ st2 fun b hb => (f2 b hb).1
end
end Gz
end
section
namespace Gz
open PySem PySem.Spec PyProof.Rows L2 GenW Gh
theorem funs_cut {h h0 base : Heap} {n : Nat} : ∀ {l : List Env}, h.FunFrames base l → (cut h0 n).FunFrames base l → (cut h n).FunFrames base l
  | [], _, _ => trivial
  | env :: rest, ⟨hk, ⟨L, o, hf, hn, ho, hd⟩, hr⟩, ⟨_, ⟨L', o', hf', _, ho', _⟩, hr'⟩ => by
    have e : L = L' := by rw [hf] at hf'; exact Option.some.inj hf'
    subst e
    exact ⟨hk, ⟨L, o, hf, hn, by rw [cut_get (cut_lt ho')]; exact ho, hd⟩, funs_cut hr hr'⟩
section
variable {X Xc : Cx} {ip pins : List (Addr × Obj)} {σ σc : L2.St} {H h0 h1 H1 : Hp} {s s0 s' : Shared} {n0 : Nat}
structure Frm (X : Cx) (ip : List (Addr × Obj)) (s : Shared) (pl : List (Addr × Obj)) : Prop where
  eq : ∃ oL, s.heap.get? X.env.locals = some oL ∧ (∀ v, oL.data ≠ .cell v) ∧ pl = (X.env.locals, oL) :: (X.pn ++ ip)
theorem frm_of (I : Inv (reb X s0 h0) ip σ H s) : ∃ pl, Frm X ip s pl := by
  obtain ⟨m, ⟨o, es, ep, ho, r⟩, _⟩ := I.loc
  refine ⟨_, ⟨o, ho, ?_, rfl⟩⟩
  intro v q
  first
    | (rw [r.1] at q; cases q)
    | (obtain ⟨r1, _⟩ := r; rw [r1] at q; cases q)
theorem inv_woken (I : Inv (reb X (cutS s0 n0) h0) ip σ H s) {pl : List (Addr × Obj)} (F : Frm X ip s pl) (hz0 : n0 ≤ s0.heap.objs.size) (hz : n0 ≤ s'.heap.objs.size) (hcel : ∀ x c, X.env.cells.lookup x = some c → False) (hb : AllB s'.gens) (hok : HOk X.prog X.w H1 s'.heap)
    (hbase : ∀ b o, X.base.get? b = some o → s'.heap.get? b = some o ∧ H1 b = none) (hfr : s'.heap.FunFrames X.base X.outer) (hfn : ∀ b ∈ X.fs, H1 b = none)
    (hp : ∀ p ∈ pl, s'.heap.get? p.1 = some p.2 ∧ H1 p.1 = none) : Inv (reb X (cutS s' n0) H1) ip σ H1 s' := by
  obtain ⟨oL, hL, _, rfl⟩ := F.eq
  have e0 : (cutS s0 n0).heap.objs.size = n0 := cut_size hz0
  have e1 : (cutS s' n0).heap.objs.size = n0 := cut_size hz
  have ok := I.ok
  have bsz : X.base.objs.size ≤ n0 := by have := ok.bsz; rw [show (reb X (cutS s0 n0) h0).s_0.heap.objs.size = n0 from e0] at this; exact this
  refine ⟨⟨ok.mod, ok.kind, ok.glob, ok.blt, ?_, ok.inj, ok.has, fun x c _ e => (hcel x c e).elim, ok.hd, ok.frames, ok.stk, ok.exf, fun b o e => ?_, ?_, ok.noex, ok.exfs, ?_, hfn⟩,
    rfl, hb, ⟨fun b o e _ _ _ => ?_, fun b o e _ _ _ => ?_, fun b o _ n _ => n, fun b o e _ => ?_, fun _ _ e => e, fun _ _ _ e => e, fun b ps e => ⟨#[], by rw [Array.append_empty]; exact e⟩⟩, ?_, fun x c e => (hcel x c e).elim, ?_, fun x c e => (hcel x c e).elim, fun p hm => ?_, hok, I.len⟩
  · show (cutS s' n0).heap.objs.size ≤ X.env.locals
    rw [e1]
    have := ok.above
    rw [show (reb X (cutS s0 n0) h0).s_0.heap.objs.size = n0 from e0] at this
    exact this
  · obtain ⟨a, b'⟩ := hbase b o e
    refine ⟨?_, b'⟩
    show (cut s'.heap n0).get? b = some o
    rw [cut_get (Nat.lt_of_lt_of_le (Heap.lt_size e) bsz)]
    exact a
  · show X.base.objs.size ≤ (cutS s' n0).heap.objs.size
    rw [e1]
    exact bsz
  · exact funs_cut hfr ok.funs
  · have e' : (cut s'.heap n0).get? b = some o := e
    rw [cut_get (cut_lt e')] at e'
    exact e'
  · have e' : (cut s'.heap n0).get? b = some o := e
    rw [cut_get (cut_lt e')] at e'
    exact ⟨o.slots, e'⟩
  · have e' : (cut s'.heap n0).get? b = some o := e
    rw [cut_get (cut_lt e')] at e'
    exact ⟨o, e'⟩
  · obtain ⟨m, ⟨o, es, ep, ho, r⟩, hl⟩ := I.loc
    have q : o = oL := Option.some.inj (ho.symm.trans hL)
    subst q
    refine ⟨m, ⟨o, es, ep, (hp _ List.mem_cons_self).1, r⟩, fun i x v a b c => ?_⟩
    obtain ⟨u, ru, lu⟩ := hl i x v a b c
    refine ⟨u, ru, ?_⟩
    rcases lu with z | ⟨_, c', z, _⟩
    · exact .inl z
    · exact (hcel x c' z).elim
  · exact (hp _ List.mem_cons_self).2
  · obtain ⟨a, b⟩ := hp p (List.mem_cons_of_mem _ hm)
    obtain ⟨_, _, c1, c2, c3⟩ := I.pin p hm
    exact ⟨a, b, c1, c2, c3⟩
theorem inv_back (I : Inv Xc pins σc h1 s) (J : Inv (reb X (cutS s0 n0) h1) ip σ H1 s') (hs : s0.heap = s.heap) (ho : s0.os = s.os) (hpw : X.prog = Xc.prog ∧ X.w = Xc.w) (hfs : X.fs = frs Xc.stack) (hex : X.ex = [])
    (hn : Xc.s_0.heap.objs.size ≤ n0) (hl : Xc.env.locals < n0) (hc : ∀ x c, Xc.env.cells.lookup x = some c → c < n0) (hp : ∀ p ∈ Xc.pn ++ pins, p.1 < n0) : Inv Xc pins σc H1 s' := by
  have cg : ∀ {b : Addr} {o : Obj}, b < n0 → s.heap.get? b = some o → (cut s0.heap n0).get? b = some o := fun {b o} hb e => by rw [cut_get hb, hs]; exact e
  have nex : ∀ b, b ∉ X.ex := fun b z => by rw [hex] at z; cases z
  have nfs : ∀ {b : Addr}, b ≠ Xc.env.locals → b ∉ Xc.fs → b ∉ X.fs := fun {b} h1 h2 z => by
    rw [hfs] at z
    exact (List.mem_cons.mp (I.stkSub b z)).elim h1 h2
  have any : ∀ {b : Addr} {o : Obj}, b < n0 → s.heap.get? b = some o → h1 b = none → ∃ sl, s'.heap.get? b = some { o with slots := sl } := fun {b o} hb e n => J.base.any (cg hb e) n (nex b)
  have lt0 : ∀ {b : Addr} {o : Obj}, Xc.s_0.heap.get? b = some o → b < n0 := fun {b o} e => Nat.lt_of_lt_of_le (Heap.lt_size e) hn
  have nL : ∀ {b : Addr} {o : Obj}, Xc.s_0.heap.get? b = some o → b ≠ Xc.env.locals := fun {b o} e z => by
    have := I.ok.above
    rw [z] at e
    exact absurd (Nat.lt_of_lt_of_le (Heap.lt_size e) this) (Nat.lt_irrefl _)
  refine ⟨I.ok, ?_, J.bare, ⟨fun b o e n hf hx => ?_, fun b o e n hf hx => ?_, fun b o e n hx => ?_, fun b o e hx => ?_, fun b xs e => J.base.tups b xs (I.base.tups b xs e), fun b o u e => J.base.frzs b o u (I.base.frzs b o u e), fun b ps e => ?_⟩, ?_, fun x c e => ?_, ?_, fun x c e => ?_, fun p hm => ?_, ?_, I.len⟩
  · have z : s'.os = s0.os := J.os
    rw [z, ho]
    exact I.os
  · exact J.base.keep b o (cg (lt0 e) (I.base.keep b o e n hf hx)) (I.base.free b o e n hx) (nfs (nL e) hf) (nex b)
  · obtain ⟨sl, z⟩ := I.base.slot b o e n hf hx
    obtain ⟨sl2, z2⟩ := any (lt0 e) z (I.base.free b o e n hx)
    exact ⟨sl2, z2⟩
  · obtain ⟨o', z⟩ := I.base.there b o e hx
    exact J.base.free b o' (cg (lt0 e) z) (I.base.free b o e n hx) (nex b)
  · obtain ⟨o', z⟩ := I.base.there b o e hx
    exact J.base.there b o' (cg (lt0 e) z) (nex b)
  · obtain ⟨m, z⟩ := I.base.tbls b ps e
    obtain ⟨m2, z2⟩ := J.base.tbls b _ z
    exact ⟨m ++ m2, by rw [z2, Array.append_assoc]⟩
  · obtain ⟨m, ⟨o, es, ep, ho', r⟩, hlk⟩ := I.loc
    obtain ⟨sl, z⟩ := any hl ho' I.free
    refine ⟨m, ⟨_, es, ep, z, r⟩, fun i x v a b c => ?_⟩
    obtain ⟨u, ru, lu⟩ := hlk i x v a b c
    refine ⟨u, ru, ?_⟩
    rcases lu with q | ⟨q1, c', q2, q3⟩
    · exact .inl q
    · obtain ⟨oc, q4, q5⟩ := q3
      obtain ⟨sl', z'⟩ := any (hc x c' q2) q4 (I.freeC x c' q2)
      exact .inr ⟨q1, c', q2, _, z', q5⟩
  · obtain ⟨v, o, q4, q5⟩ := I.cell x c e
    obtain ⟨sl', z'⟩ := any (hc x c e) q4 (I.freeC x c e)
    exact ⟨v, _, z', q5⟩
  · obtain ⟨m, ⟨o, es, ep, ho', r⟩, _⟩ := I.loc
    exact J.base.free _ o (cg hl ho') I.free (nex _)
  · obtain ⟨v, o, q4, q5⟩ := I.cell x c e
    exact J.base.free _ o (cg (hc x c e) q4) (I.freeC x c e) (nex _)
  · obtain ⟨a1, a2, a3, a4, a5⟩ := I.pin p hm
    have b := hp p hm
    exact ⟨J.base.keep p.1 p.2 (cg b a1) a2 (nfs a3 a4) (nex _), J.base.free p.1 p.2 (cg b a1) a2 (nex _), a3, a4, a5⟩
  · have z := J.hok
    rw [← hpw.1, ← hpw.2]
    exact z
end
end Gz
end
section
namespace Gz
open PySem PySem.Spec PyProof.Rows L2 GenW Gh
section
variable {X : Cx} {ip : List (Addr × Obj)} {σ : L2.St} {H : Hp} {s : Shared}
theorem inv_first (I : Inv X ip σ H s) : Inv (reb X (cutS X.s_0 X.s_0.heap.objs.size) X.H_0) ip σ H s := by
  have e0 : (cutS X.s_0 X.s_0.heap.objs.size).heap.objs.size = X.s_0.heap.objs.size := cut_size (Nat.le_refl _)
  have cg : ∀ {b : Addr} {o : Obj}, X.s_0.heap.get? b = some o → (cut X.s_0.heap X.s_0.heap.objs.size).get? b = some o := fun {b o} e => by rw [cut_get (Heap.lt_size e)]; exact e
  have gc : ∀ {b : Addr} {o : Obj}, (cut X.s_0.heap X.s_0.heap.objs.size).get? b = some o → X.s_0.heap.get? b = some o := fun {b o} e => by rw [cut_get (cut_lt e)] at e; exact e
  have ok := I.ok
  refine ⟨⟨ok.mod, ok.kind, ok.glob, ok.blt, ?_, ok.inj, ok.has, fun x c h1 h2 => ?_, ok.hd, ok.frames, ok.stk, ok.exf, fun b o e => ⟨cg (ok.bs b o e).1, (ok.bs b o e).2⟩, ?_, ok.noex, ok.exfs, ok.funs.of_keeps fun b o e _ => ⟨o, cg e, rfl⟩, ok.frf⟩,
    I.os, I.bare, ⟨fun b o e n h1 h2 => I.base.keep b o (gc e) n h1 h2, fun b o e n h1 h2 => I.base.slot b o (gc e) n h1 h2, fun b o e n h1 => I.base.free b o (gc e) n h1, fun b o e h1 => I.base.there b o (gc e) h1, I.base.tups, I.base.frzs, I.base.tbls⟩, I.loc, I.cell, I.free, I.freeC, I.pin, I.hok, I.len⟩
  · show (cutS X.s_0 X.s_0.heap.objs.size).heap.objs.size ≤ X.env.locals
    rw [e0]; exact ok.above
  · show (cutS X.s_0 X.s_0.heap.objs.size).heap.objs.size ≤ c
    rw [e0]; exact ok.cab x c h1 h2
  · show X.base.objs.size ≤ (cutS X.s_0 X.s_0.heap.objs.size).heap.objs.size
    rw [e0]; exact ok.bsz
end
theorem inv_first2 {X : Cx} {ip : List (Addr × Obj)} {σ : L2.St} {H H2 : Hp} {s : Shared} (I : Inv X ip σ H s) (h : HxOk X.s_0.heap.objs.size X.H_0 H2) : Inv (reb X (cutS X.s_0 X.s_0.heap.objs.size) H2) ip σ H s := by
  have J := inv_first I
  have ok := J.ok
  have u := J.base
  exact ⟨⟨ok.mod, ok.kind, ok.glob, ok.blt, ok.above, ok.inj, ok.has, ok.cab, ok.hd, ok.frames, ok.stk, ok.exf, fun b o e => by
      obtain ⟨q1, q2⟩ := ok.bs b o e
      exact ⟨q1, (h.low (cut_lt q1)).trans q2⟩, ok.bsz, ok.noex, ok.exfs, ok.funs, fun b hb => by
      obtain ⟨_, o, e, _⟩ := ok.funs.mem hb
      exact (h.low (cut_lt e)).trans (ok.frf b hb)⟩, J.os, J.bare,
    ⟨fun b o e n h1 h2 => u.keep b o e (h.sub n) h1 h2, fun b o e n h1 h2 => u.slot b o e (h.sub n) h1 h2, fun b o e n h1 => u.free b o e (h.sub n) h1, u.there, fun b xs e => u.tups b xs (h.tup e), fun b o v e => u.frzs b o v (h.frz e), fun b ps e => u.tbls b ps (h.tbl e)⟩,
    J.loc, J.cell, J.free, J.freeC, J.pin, J.hok, J.len⟩
structure Q0 (T : Type) (X : Cx) (body : List Stmt) (t : TQ T) : Prop where
  run : ∀ (g : Nat) (P : Pro T) (A : Around) (R : EndI (T × Shared)) (n : Nat) (γ : T) (s₀ : Shared) (c : Code) (fs : List Frame) (K : Flow → Sem PySem.Fin) (J : Value → Sem PySem.Fin) (gd : Bool → Bool) (lv : List Value → List Value) (s : Shared) (σ : L2.St) (H : Hp) (D : QE T),
    QC X A c fs gd → HxOk X.s_0.heap.objs.size X.H_0 (P.hp γ) → P.src γ s₀ = X.s_0 → QK X g X.s_0.heap.objs.size P A R [] [] c fs K D → (∀ e s, X.xe e s → GSeg (model X.prog X.w) A R (QY X g X.s_0.heap.objs.size P) n (γ, s₀) c (J e) fs s) →
    (∀ (s s2 : Shared) (e : Value), AllB s.gens → Held (sleepers s.gens) s2.gens → X.xe e s2 → X.xe e (up (sleepers s.gens) s2)) → Inv X [] σ H s → s.gens[g]? = some .running → RunS s₀ s → t P D n γ σ H → GSeg (model X.prog X.w) A R (QY X g X.s_0.heap.objs.size P) n (γ, s₀) c ((execs body X.env).wrap K J gd lv) fs s
section
variable {T : Type} {X : Cx} {st : Stmt} {rest : List Stmt}
theorem q0_rest {t : TQ T} (h : QSs T X (fun gp => gp = []) rest t) : Q0 T X rest t := by
  refine ⟨fun g P A R n γ s₀ c fs K J gd lv s σ H D gc hh hs k ex hxe I r sl ht => ?_⟩
  exact h.run g _ P A [] [] R n γ s₀ c fs K J gd lv s σ H D rfl gc k ⟨by rw [hs]; exact inv_first2 I hh, r, by rw [hs]; exact Nat.le_refl _, fun p hp => (by cases hp), sl, fun p hp => (by cases hp)⟩ ht
def tQPre (t : TS) (u : TQ T) : TQ T := fun P D n γ σ H => t { nx := fun σ' H' => u P D n γ σ' H', rt := D.rt n γ, bk := fun _ _ => False, ct := fun _ _ => False } σ H
theorem q0_cons {t : TS} {u : TQ T} (a : PS X st t) (b : Q0 T X rest u) : Q0 T X (st :: rest) (tQPre t u) := by
  refine ⟨fun g P A R n γ s₀ c fs K J gd lv s σ H D gc hh hs k ex hxe I r sl ht => ?_⟩
  refine gseg_execs_cons (gseg_wrap ?_)
  rw [gc.over]
  refine keepW (a.run [] _ σ H _ (inv_pois I) ht) (fun f s' hd q => ?_) fun e s' hd hx => ex e _ (hxe _ _ _ I.bare hd hx)
  have q2 := sp_up I.bare hd q
  have r2 := up_sleep hd g _ fixd_run r
  cases f with
  | next =>
    obtain ⟨σ', H', I', q'⟩ := q2
    exact b.run g P A R n γ s₀ c fs K J gd lv _ σ' H' D gc hh hs k ex hxe I' r2 (sl.trans (up_sleep hd).runs) q'
  | brk => obtain ⟨_, _, _, z⟩ := q2; exact z.elim
  | cont => obtain ⟨_, _, _, z⟩ := q2; exact z.elim
  | ret u =>
    obtain ⟨v, σ', H', I', rv, q'⟩ := q2
    exact k n s₀ γ _ (.ret u) ⟨v, σ', H', ⟨by rw [hs]; exact inv_first2 I' hh, r2, by rw [hs]; exact Nat.le_refl _, fun p hp => (by cases hp), sl.trans (up_sleep hd).runs, fun p hp => (by cases hp)⟩, rv, q'⟩
end
abbrev SpQ := (T : Type) → Pro T → Nat → T → Prop
abbrev SpH := Hp → SpQ
def GMadeQ (P : Program) (w : World) (base : Heap) (k : Nat) (outer : List Env) (H : Hp) (s : Shared) (sp : SpH) (E : XK) (u : Value) (s' : Shared) : Prop :=
  ∃ (a : Addr) (g : Nat) (c : Code), u = .ref a ∧ s.heap.objs.size ≤ a ∧ s'.heap.IsGen a g ∧ s'.gens[g]? = some (.fresh c) ∧ s'.os = s.os ∧ AllBare s'.gens ∧ s'.heap.NoLimit ∧ (∀ b o, s.heap.get? b = some o → s'.heap.get? b = some o) ∧ Sleep s s' ∧ s.gens.size ≤ g ∧
    ∀ (A : Around), Room k A → A.frames = some outer → ∃ X : Cx, GX X P w base outer a g s.heap.objs.size ∧ ∀ (T : Type) (Pr : Pro T) (N : Nat) (γ : T), sp (Pr.hp γ) T Pr N γ → HxOk s'.heap.objs.size H (Pr.hp γ) →
      ∀ s2, (∀ b o, s'.heap.get? b = some o → s2.heap.get? b = some o) → s2.os = s.os → AllBare s2.gens → HOk P w (Pr.hp γ) s2.heap → s2.gens[g]? = some .running → Pr.src γ s2 = s →
        GSeg (model P w) A (QR X g s.heap.objs.size Pr N (fun e s1 => CX P w outer H s E e s1 ∧ s1.heap.IsGen a g)) (QY X g s.heap.objs.size Pr) N (γ, s2) c ((model P w).den c) [] s2
structure QFn (P : Program) (w : World) (K : PySem.W.Frag) (mg : Str → Option Value) (base : Heap) (k : Nat) (f : Addr) (fd : FuncData) (ps : List Str) (sp : List V → Hp → XK → SpQ) : Prop where
  run : ∀ (A : Around) (outer : List Env) (s : Shared) (H : Hp) (args : Args) (us : List Value) (vs : List V) (E : XK), Room k A → Env0 P w K mg base A outer s H → BindsTo s fd args (ps.zip us) → Vals vs us → vs.length = ps.length →
    codeAny (model P w) A (.call (.ref f) args) (fun r s' => match r with | .ok (.ret u) => GMadeQ P w base k outer H s (fun H2 => sp vs H2 E) E u s' | _ => False) s
def endQ {T : Type} (P : Pro T) : QE T := { nx := fun n γ _ H => P.fin n γ H, rt := fun n γ v H => v = .non ∧ P.fin n γ H }
theorem xe_up {P : Program} {w : World} {K : PySem.W.Frag} {mg : Str → Option Value} {base : Heap} {N : List Str} {qual : Str} {scope : Scope} {f : Addr} {cd : Value} {A : Around} {outer : List Env} {s : Shared} {H : Hp} {E : XK} {pn : List (Addr × Obj)} :
    ∀ (s1 s2 : Shared) (e : Value), AllB s1.gens → Held (sleepers s1.gens) s2.gens → (gcxOf P w K mg base N qual scope f cd A outer s H E pn).xe e s2 → (gcxOf P w K mg base N qual scope f cd A outer s H E pn).xe e (up (sleepers s1.gens) s2) := by
  intro s1 s2 e hb hd hx
  refine upW hd hx (fun _ s3 h3 q => ?_) fun _ _ _ z => z.elim
  obtain ⟨⟨a, B, H', cls, d, z1, z2, z3, z4, z5, z6, z7, z8⟩, q2⟩ := q
  exact ⟨⟨a, B, H', cls, d, z1, z2, z3, z4, z5, z6, (kept_of h3).bare hb z7, z8⟩, q2⟩
theorem qfn_of {P : Program} {w : World} {K : PySem.W.Frag} {mg : Str → Option Value} {base : Heap} {k : Nat} {f : Addr} {name qual : Str} {params : Arguments} {body : List Stmt} {scope : Scope} {dV kV doc pm cdv ct oc : Value} {an od : Option Addr}
    {osl : Array (Option Value)} {N ps : List Str} {sp : List V → Hp → XK → SpQ} (lk : K.lookup f = some ⟨oc, od, .func (PySem.W.fnOf name qual params body scope dV kV doc pm an cdv ct), osl⟩) (hcd : PySem.W.codeIn K cdv qual = true) (S : GScope N ps scope)
    (hnc : ∀ n x c, (cellsFrom n scope.names []).lookup x = some c → False)
    (hbody : ∀ (A : Around) (outer : List Env) (s : Shared) (H : Hp) (vs : List V) (E : XK) (pn : List (Addr × Obj)) (T : Type) (Pr : Pro T) (M : Nat) (γ : T), Room k (A.deeper (envOfC qual scope s.heap.objs.size f cdv)) → sp vs (Pr.hp γ) E T Pr M γ → vs.length = ps.length →
      ∃ t, Q0 T (gcxOf P w K mg base N qual scope f cdv A outer s H E pn) body t ∧ t Pr (endQ Pr) M γ (start N vs) (Pr.hp γ)) :
    QFn P w K mg base (k + 1) f (PySem.W.fnOf name qual params body scope dV kV doc pm an cdv ct) ps sp := by
  refine ⟨fun A outer s H args us vs E hr e0 hb r hl => ?_⟩
  have KX : K.In s.heap := e0.mod.kin.keeps fun b o e => (e0.bs b o e).1
  have lim : s.heap.NoLimit := e0.mod.nolimit.keeps fun b o e => (e0.bs b o e).1
  have hkind : ∀ y ∈ ps.zip us, scope.names.lookup y.1 = some .local ∨ (scope.names.lookup y.1 = some .cell ∧ ((cellsFrom (s.heap.objs.size + 1) scope.names []).lookup y.1).isSome = true) := fun ⟨n, v⟩ hy => by
    rcases S.par n (List.of_mem_zip hy).1 with q | q
    · exact .inl q
    · exact .inr ⟨q, PySem.W.cellsFrom_some _ _ _ (.inl q)⟩
  refine codeAny_call_generator hr.depth (KX _ _ lk) rfl S.co S.gen rfl (PySem.W.codeRec_of KX hcd) (hb _ _ _ _ ?_)
  refine wpAny_newFunctionEnv_cells S.kind hkind fun env he s1 x => ?_
  subst he
  have lim1 : s1.heap.NoLimit := lim.keeps x.toInCall.keep
  refine ⟨lim1, ?_⟩
  obtain ⟨h1, tk, es1, hk1⟩ := x.done
  have os1 : s1.os = s.os := by rw [es1]
  have gen1 : s1.gens = s.gens := by rw [es1]
  have lt1 : s.heap.objs.size < s1.heap.objs.size := x.toInCall.ns.lt
  have sz1 : s.heap.objs.size ≤ s1.heap.objs.size := Nat.le_of_lt lt1
  have kp1 : ∀ b o, s.heap.get? b = some o → s1.heap.get? b = some o := x.toInCall.keep
  have main : ∀ (go : Obj) (nm qn : Value) (tk2 : Nat), go.cls = .type "generator" → go.data = .fields #[.int s1.gens.size 0, nm, qn] → go.slots = #[] → (∀ h : Heap, (h.push go).get? h.objs.size = some go) →
      GMadeQ P w base (k + 1) outer H s (fun H2 => sp vs H2 E) E (.ref s1.heap.objs.size) { s1 with gens := s1.gens.push (.fresh (.func body (envOfC qual scope s.heap.objs.size f cdv))), toks := tk2, heap := s1.heap.push go } := by
    intro go nm qn tk2 hgc hgd0 hgs hgp
    have hgen : ∀ h : Heap, h.get? s1.heap.objs.size = some go → h.IsGen s1.heap.objs.size s1.gens.size := fun h e => ⟨go, nm, qn, e, hgc, hgd0, hgs⟩
    have hpushed : (s1.heap.push go).get? s1.heap.objs.size = some go := hgp _
    refine ⟨s1.heap.objs.size, s1.gens.size, _, rfl, sz1, hgen _ hpushed, Array.getElem?_push_size .., os1, AllBare.push (by rw [gen1]; exact e0.bare) rfl, lim1.keeps fun b o e => Heap.get?_push_of_some _ e, fun b o e => Heap.get?_push_of_some _ (kp1 b o e), fun i y _ e => ?_, by rw [gen1]; exact Nat.le_refl _, ?_⟩
    · show (s1.gens.push _)[i]? = _
      rw [gen1]
      have hlt := (Array.getElem?_eq_some_iff.mp e).1
      rw [Array.getElem?_push, if_neg (Nat.ne_of_lt hlt)]
      exact e
    intro Aw hrw hfr
    have hgd : ∀ v, go.data ≠ .cell v := fun v q => by rw [hgd0] at q; cases q
    refine ⟨gcxOf P w K mg base N qual scope f cdv Aw outer s H E [(s1.heap.objs.size, go)], ⟨rfl, rfl, rfl, rfl, rfl, fun y c h => hnc _ y c h, fun h hp => hgen h (hp _ List.mem_cons_self), Nat.le_refl _, fun p hp => by rw [List.mem_singleton.mp hp]; exact sz1⟩, ?_⟩
    intro T Pr M γ hsp hhp s2 hk2 hos hba hok2 hrun hsrc
    have e0w : Env0 P w K mg base Aw outer s H := ⟨hfr, e0.mod, e0.bs, e0.bsz, e0.funs, e0.frf, e0.hok, e0.bare⟩
    obtain ⟨t, ht, hq⟩ := hbody Aw outer s H vs E [(s1.heap.objs.size, go)] T Pr M γ (hrw.deeper _) hsp hl
    have I1 : Inv (gcxOf P w K mg base N qual scope f cdv Aw outer s H E []) [] (start N vs) H s1 := inv_startG S hrw.hd e0w hl r x
    have kp2 : ∀ b o, s1.heap.get? b = some o → s2.heap.get? b = some o := fun b o e => hk2 b o (Heap.get?_push_of_some _ e)
    have hx1 : HxOk s1.heap.objs.size H (Pr.hp γ) := hhp.mono (by show s1.heap.objs.size ≤ (s1.heap.push go).objs.size; exact Nat.le_of_lt (Heap.lt_size hpushed))
    have un2 : ∀ fs, Un fs [] H (Pr.hp γ) s1.heap s2.heap := fun _ => ⟨fun b o e _ _ _ => kp2 b o e, fun b o e _ _ _ => ⟨o.slots, kp2 b o e⟩, fun b o e n _ => (hx1.low (Heap.lt_size e)).trans n, fun b o e _ => ⟨o, kp2 b o e⟩, fun b xs e => hx1.ext e, fun b o u e => hx1.ext e, fun b ps e => ⟨#[], by rw [hx1.ext e]; simp⟩⟩
    have I2 : Inv (gcxOf P w K mg base N qual scope f cdv Aw outer s H E []) [] (start N vs) (Pr.hp γ) s2 :=
      I1.call' (ch := []) (hos.trans os1.symm) (un2 _) hok2 hba fun b z => by simp at z
    have hea : s2.heap.get? s1.heap.objs.size = some go := hk2 s1.heap.objs.size go hpushed
    have young : Pr.hp γ s1.heap.objs.size = none ∧ s1.heap.objs.size ≠ s.heap.objs.size ∧ s1.heap.objs.size ∉ frs outer := ⟨(hhp.low (Heap.lt_size hpushed)).trans (I1.hok.fresh (Nat.le_refl _)), Nat.ne_of_gt lt1, I1.nofs (Nat.le_refl _)⟩
    have I3 : Inv (gcxOf P w K mg base N qual scope f cdv Aw outer s H E [(s1.heap.objs.size, go)]) [] (start N vs) (Pr.hp γ) s2 := Inv.pinnedG I2 fun p hp => by
      rcases List.mem_append.mp hp with z | z
      · rw [List.mem_singleton.mp z]
        obtain ⟨y1, y2, y3⟩ := young
        exact ⟨hea, y1, y2, y3, hgd⟩
      · simp at z
    refine gseg_func ?_
    refine ht.run s1.gens.size Pr Aw _ M γ s2 _ [] _ _ id id s2 (start N vs) (Pr.hp γ) (endQ Pr) ⟨over_func, rfl, rfl, rfl⟩ (hhp.mono (by show s.heap.objs.size ≤ (s1.heap.push go).objs.size; exact Nat.le_trans sz1 (Nat.le_of_lt (Heap.lt_size hpushed)))) hsrc (fun n s₀ γ' s' fl hs => ?_) (fun e s' hx => ?_) xe_up I3 hrun RunS.refl hq
    · cases fl with
      | next =>
        obtain ⟨σ', H', hI, hQ⟩ := hs
        exact gseg_end (.ok (.ret .none)) (.inl ⟨.inl rfl, σ', [], [], H', hI, hQ⟩)
      | brk => obtain ⟨_, _, _, q⟩ := hs; exact False.elim q
      | cont => obtain ⟨_, _, _, q⟩ := hs; exact False.elim q
      | ret u =>
        obtain ⟨v, σ', H', hI, rv, ev, hQ⟩ := hs
        subst ev
        have eu : u = Value.none := rv
        subst eu
        exact gseg_end (.ok (.ret .none)) (.inl ⟨.inl rfl, σ', [], [], H', hI, hQ⟩)
    · refine gseg_wrap ?_
      rw [over_func]
      refine wpAny_mono (show wpAny (model P w) (Aw.deeper (envOfC qual scope s.heap.objs.size f cdv)) (leaving (envOfC qual scope s.heap.objs.size f cdv) e) (fun _ s'' => CX P w outer H s E e s'' ∧ ∀ p ∈ [(s1.heap.objs.size, go)], s''.heap.get? p.1 = some p.2) (fun _ _ => False) s' from hx) (fun _ s'' q => ?_) fun _ s'' q => q.elim
      exact gseg_end (.error e) (.inr ⟨e, rfl, rfl, q.1, hgen _ (q.2 _ (List.mem_singleton.mpr rfl))⟩)
  exact main _ _ _ _ rfl rfl rfl fun h => Heap.get?_push_size _ rfl
end Gz
end
section
namespace Gz
open PySem PySem.Spec PyProof.Rows L2 GenW Gh
section
variable {P : Program} {w : World} {A : Around} {E : Value → Shared → Prop} {s : Shared}
theorem next_genS {ι : Type} {i : ι} {a : Addr} {g n : Nat} {gs : GenState} {F : Nat → ι → Shared → Prop} {Er : Nat → Value → Shared → Prop} {Y : ProI ι} {Q : Option Value → Shared → Prop} (hh : A.handled = none)
    (hl : s.heap.NoLimit) (hroom : A.depth < recursionLimit) (hg : s.heap.IsGen a g) (hgs : s.gens[g]? = some gs)
    (hgo : GGoes (model P w) A.in1 (fun n i r s₁ => ((r = .ok (.ret .none) ∨ r = .ok .next) ∧ F n i s₁) ∨ ∃ e, r = .error e ∧ Er n e s₁) Y n i gs (.send .none) (s.setGen g .running))
    (hY : ∀ v s₁ gs', gs'.bare = true → IsSusp gs' → Y (n - 1) i v s₁ (kapI (model P w) A.in1 (fun n i r s₁ => ((r = .ok (.ret .none) ∨ r = .ok .next) ∧ F n i s₁) ∨ ∃ e, r = .error e ∧ Er n e s₁) Y n gs') → Q (some v) (s₁.setGen g gs'))
    (hP : ∀ s₁, F n i s₁ → ∀ h', (∀ b o, s₁.heap.get? b = some o → h'.get? b = some o) → Q none { s₁.setGen g .finished with heap := h' })
    (hE : ∀ e s₁, Er n e s₁ → s₁.heap.IsGen a g ∧ NotStop (model P w) e s₁.heap ∧ E e (s₁.setGen g .finished)) :
    wpAny (model P w) A (pyNext (.ref a)) Q E s := by
  unfold pyNext
  refine wpAny_bind (wpAny_attempt (wpAny_callSpecial?_slot (name := Str.ofString "__next__") hg.typeIs slot_gen_next
    (wpAny_call_entry slot_gen_next hg.typeIs entry_gen_next ?_ (args_gen_next _))))
  show wpAny _ A.in1 (Builtin.Generator.genWake (.ref a) (.send .none)) _ _ s
  unfold Builtin.Generator.genWake
  refine wpAny_bind (wpAny_holding (wpAny_genNumber hg (wpAny_bind (wpAny_genState hgs ?_))))
  cases gs with
  | running => exact hgo.elim
  | finished => exact hgo.elim
  | _ =>
    refine wpAny_bind (wpAny_roomToWake hl hroom ?_)
    show wpAny _ A.in1 (.resume g (.send .none) [] _) _ _ s
    refine wpAny_resumeI hgs hgo (fun x s₁ hx => ?_) (fun v s₁ gs' hb hsu hv => ?_)
    · rcases hx with ⟨hr, hp⟩ | ⟨e, rfl, he⟩
      · have hres : End.result (.ret x) = .returned .none := by
          rcases hr with hr | hr <;> rw [hr] <;> rfl
        first | rw [hres] | simp only [hres]
        show wpAny _ A.in1 (newExc (.type "StopIteration") [] >>= _) _ _ _
        refine wpAny_bind ?_
        simp only [newExc, newTuple]
        refine wpAny_bind (wpAny_newObj_type ?_ (by size_fits))
        refine wpAny_bind (m := firstArgMember _ _) (wpAny_of_eq (a := Value.none) (by first | rfl | (simp only [firstArgMember]; rfl)) ?_)
        refine wpAny_newObj_type ?_ (by size_fits)
        simp only [raiseNew]
        refine wpAny_bind (wpAny_bind (wpAny_handled ?_))
        first | rw [show A.in1.handled = none from hh] | rw [hh]
        refine wpAny_throw ?_
        refine wpAny_bind (wpAny_isInstance (T := "StopIteration") (b := true) ⟨_, Heap.get?_push_size _ rfl, rfl⟩ isSubtype_stop ?_)
        exact wpAny_pure (hP s₁ hp _ fun b o hb => Heap.get?_push_of_some _ (Heap.get?_push_of_some _ hb))
      · obtain ⟨hg1, hns, hq⟩ := hE e s₁ he
        obtain ⟨o, nm, qn, ho, hc, hd, hsl⟩ := hg1
        show wpAny _ A.in1 (Builtin.Generator.genLeft (.ref a) e) _ _ _
        unfold Builtin.Generator.genLeft Builtin.Generator.madeByALambda
        refine wpAny_bind (wpAny_bind (wpAny_load (o := o) ho (wpAny_pure ?_)))
        refine wpAny_bind (hns _ _ _ _ rfl ?_)
        rw [Bool.and_false, if_neg Bool.false_ne_true]
        unfold Builtin.Generator.genEscaped
        first
          | refine wpAny_bind (hns _ _ _ _ rfl ?_)
          | refine wpAny_bind (wpAny_pure (wpAny_bind (hns _ _ _ _ rfl ?_)))
        rw [if_pos (show (!false) = true from rfl)]
        first
          | refine wpAny_throw ?_
          | refine wpAny_bind (wpAny_throw ?_)
        refine wpAny_bind (hns _ _ _ _ rfl ?_)
        rw [if_neg Bool.false_ne_true]
        exact wpAny_throw hq
    · exact wpAny_pure ⟨v, rfl, wpAny_pure (hY v s₁ gs' hb hsu hv)⟩
end
abbrev TQG := L2.St → Hp → (SpH → Hp → Prop) → Prop
structure PQ (X : Cx) (k : Nat) (e : Expr) (tq : TQG) (E : XK) : Prop where
  run : ∀ (pins : List (Addr × Obj)) (s : Shared) (σ : L2.St) (H : Hp) (R : SpH → Hp → Prop), Inv X pins σ H s → tq σ H R → wpAny (model X.prog X.w) X.A (eval e X.env)
    (fun u s' => ∃ H1 sc sp, Inv X pins σ H1 sc ∧ GMadeQ X.prog X.w X.base k X.stack H1 sc sp E u s' ∧ R sp H1) X.xe s
section
variable {X : Cx} {k : Nat} {f C : Addr} {fd : FuncData} {ps : List Str} {sp : List V → Hp → XK → SpQ} {dvs : List V} {ds : List Value} {x m : Str} {p pos pos' apos : Pos} {o : Expr} {ta : TE}
theorem run_qfn {pins : List (Addr × Obj)} {σ : L2.St} {H : Hp} {s : Shared} {us : List Value} {vs : List V} {E : XK} {E1 : Value → Shared → Prop} {R : SpH → Hp → Prop} (F : QFn X.prog X.w X.K X.mg X.base k f fd ps sp) (hr : Room k X.A) (hb : Binds X.K fd ps ds) (hd : Vals dvs ds)
    (I : Inv X pins σ H s) (r : Vals vs us) (hl : (vs ++ dvs).length = ps.length) (h : R (fun H2 => sp (vs ++ dvs) H2 E) H) :
    wpAny (model X.prog X.w) X.A (call (.ref f) us) (fun u s' => ∃ H1 sc sp, Inv X pins σ H1 sc ∧ GMadeQ X.prog X.w X.base k X.stack H1 sc sp E u s' ∧ R sp H1) E1 s := by
  have r2 : Vals (vs ++ dvs) (us ++ ds) := r.append hd
  have hl2 : (us ++ ds).length = ps.length := by rw [← r2.length]; exact hl
  refine wpAny_call (codeAny_mono (F.run X.A X.stack s H ⟨us, []⟩ (us ++ ds) (vs ++ dvs) E hr I.env0 (hb s us I.kIn hl2) r2 hl) fun r s' hq => ?_)
  cases r with
  | error e => exact False.elim hq
  | ok fl =>
    cases fl with
    | ret u => exact ⟨H, s, _, I, hq, h⟩
    | next => exact False.elim hq
    | brk => exact False.elim hq
    | cont => exact False.elim hq
def tMethQ (C : Addr) (m : Str) (sp : List V → Hp → XK → SpQ) (n : Nat) (dvs : List V) (E : XK) (ta : TE) (t : TA) : TQG := fun σ H R => ta σ H fun x H1 => ∃ a dx fs, x = .ref a ∧ H1 a = some (.ins C dx fs) ∧ fs.lookup m = none ∧
  t σ H1 fun vs H2 => (x :: (vs ++ dvs)).length = n ∧ R (fun H3 => sp (x :: (vs ++ dvs)) H3 E) H2
theorem pq_meth {E : XK} {pl : Sem Bool} {e : Expr} {es : List Expr} {t : TA} (he : PE X o ta) (c : Cls X.K C) (hm : Meth X.K C m f) (F : QFn X.prog X.w X.K X.mg X.base k f fd ps sp) (hr : Room k X.A) (hb : Binds X.K fd ps ds) (hd : Vals dvs ds) (ha : PA X (e :: es) t)
    (hst : starEach (e :: es) X.env = (false, eval e X.env) :: starEach es X.env := by rfl) (hpl : (backTo pos' (starEach es X.env)).any (·.1) = false := by rfl)
    (ht : eval (.Call (.Attribute o m apos) (e :: es) [] pos') X.env = (do
      let ov ← eval o X.env
      standAt apos.atName
      let (f, first) ← holding [ov] (getMethod ov m pl)
      callWith pos' f first (backTo pos' (starEach (e :: es) X.env)) (backToKw pos' (keywordEach [] X.env))) := by rfl) :
    PQ X k (.Call (.Attribute o m apos) (e :: es) [] pos') (tMethQ C m sp ps.length dvs E ta t) E := by
  refine ⟨fun pins s σ H R I h => ?_⟩
  refine PySem.W.methodCall_KW (pl := pl) (thn (he.run pins s σ H _ I h) fun u s1 ⟨x, H1, I1, rx, a, dx, fs, ex, ea, l, q⟩ => ?_) ht
  subst ex
  obtain rfl : u = Value.ref a := rx
  refine getmeth_ok I1 ea c hm l ?_
  refine PySem.W.callWith_K (first := [.ref a]) (h₀ := X.base) I.ok.mod.kin hm.kp (thn (ha.run pos' pins s1 σ H1 _ I1 q) fun us s2 ⟨vs, H2, I2, r, hl, q2⟩ => ⟨I2.kIn, ?_⟩) hst hpl
  exact run_qfn (us := .ref a :: us) (vs := .ref a :: vs) F hr hb hd I2 (.cons rfl r) hl q2
end
end Gz
end
section
namespace Gz
open PySem PySem.Spec PyProof.Rows L2 GenW Gh
section
variable {Xc X : Cx} {pins ip : List (Addr × Obj)} {σc σ : L2.St} {h1 h2 H1 : Hp} {s s' : Shared} {n0 : Nat}
theorem inv_back2 (I : Inv Xc pins σc h1 s) (J : Inv (reb X (cutS s n0) h2) ip σ H1 s') (hx : HxOk n0 h1 h2) (hpw : X.prog = Xc.prog ∧ X.w = Xc.w) (hfs : X.fs = frs Xc.stack) (hex : X.ex = [])
    (hn : Xc.s_0.heap.objs.size ≤ n0) (hl : Xc.env.locals < n0) (hc : ∀ x c, Xc.env.cells.lookup x = some c → c < n0) (hp : ∀ p ∈ Xc.pn ++ pins, p.1 < n0) : Inv Xc pins σc H1 s' := by
  have cg : ∀ {b : Addr} {o : Obj}, b < n0 → s.heap.get? b = some o → (cut s.heap n0).get? b = some o := fun {b o} hb e => by rw [cut_get hb]; exact e
  have nex : ∀ b, b ∉ X.ex := fun b z => by rw [hex] at z; cases z
  have nfs : ∀ {b : Addr}, b ≠ Xc.env.locals → b ∉ Xc.fs → b ∉ X.fs := fun {b} h1 h2 z => by
    rw [hfs] at z
    exact (List.mem_cons.mp (I.stkSub b z)).elim h1 h2
  have lo : ∀ {b : Addr}, b < n0 → h1 b = none → h2 b = none := fun {b} l e => (hx.low l).trans e
  have any : ∀ {b : Addr} {o : Obj}, b < n0 → s.heap.get? b = some o → h1 b = none → ∃ sl, s'.heap.get? b = some { o with slots := sl } := fun {b o} hb e n => J.base.any (cg hb e) (lo hb n) (nex b)
  have lt0 : ∀ {b : Addr} {o : Obj}, Xc.s_0.heap.get? b = some o → b < n0 := fun {b o} e => Nat.lt_of_lt_of_le (Heap.lt_size e) hn
  have nL : ∀ {b : Addr} {o : Obj}, Xc.s_0.heap.get? b = some o → b ≠ Xc.env.locals := fun {b o} e z => by
    have := I.ok.above
    rw [z] at e
    exact absurd (Nat.lt_of_lt_of_le (Heap.lt_size e) this) (Nat.lt_irrefl _)
  refine ⟨I.ok, ?_, J.bare, ⟨fun b o e n hf hx => ?_, fun b o e n hf hx => ?_, fun b o e n hx => ?_, fun b o e hx => ?_, fun b xs e => J.base.tups b xs (hx.ext (I.base.tups b xs e)), fun b o u e => J.base.frzs b o u (hx.ext (I.base.frzs b o u e)), fun b ps e => ?_⟩, ?_, fun x c e => ?_, ?_, fun x c e => ?_, fun p hm => ?_, ?_, I.len⟩
  · have z : s'.os = s.os := J.os
    rw [z]
    exact I.os
  · exact J.base.keep b o (cg (lt0 e) (I.base.keep b o e n hf hx)) (lo (lt0 e) (I.base.free b o e n hx)) (nfs (nL e) hf) (nex b)
  · obtain ⟨sl, z⟩ := I.base.slot b o e n hf hx
    obtain ⟨sl2, z2⟩ := any (lt0 e) z (I.base.free b o e n hx)
    exact ⟨sl2, z2⟩
  · obtain ⟨o', z⟩ := I.base.there b o e hx
    exact J.base.free b o' (cg (lt0 e) z) (lo (lt0 e) (I.base.free b o e n hx)) (nex b)
  · obtain ⟨o', z⟩ := I.base.there b o e hx
    exact J.base.there b o' (cg (lt0 e) z) (nex b)
  · obtain ⟨m, z⟩ := I.base.tbls b ps e
    obtain ⟨m2, z2⟩ := J.base.tbls b _ (hx.ext z)
    exact ⟨m ++ m2, by rw [z2, Array.append_assoc]⟩
  · obtain ⟨m, ⟨o, es, ep, ho', r⟩, hlk⟩ := I.loc
    obtain ⟨sl, z⟩ := any hl ho' I.free
    refine ⟨m, ⟨_, es, ep, z, r⟩, fun i x v a b c => ?_⟩
    obtain ⟨u, ru, lu⟩ := hlk i x v a b c
    refine ⟨u, ru, ?_⟩
    rcases lu with q | ⟨q1, c', q2, q3⟩
    · exact .inl q
    · obtain ⟨oc, q4, q5⟩ := q3
      obtain ⟨sl', z'⟩ := any (hc x c' q2) q4 (I.freeC x c' q2)
      exact .inr ⟨q1, c', q2, _, z', q5⟩
  · obtain ⟨v, o, q4, q5⟩ := I.cell x c e
    obtain ⟨sl', z'⟩ := any (hc x c e) q4 (I.freeC x c e)
    exact ⟨v, _, z', q5⟩
  · obtain ⟨m, ⟨o, es, ep, ho', r⟩, _⟩ := I.loc
    exact J.base.free _ o (cg hl ho') (lo hl I.free) (nex _)
  · obtain ⟨v, o, q4, q5⟩ := I.cell x c e
    exact J.base.free _ o (cg (hc x c e) q4) (lo (hc x c e) (I.freeC x c e)) (nex _)
  · obtain ⟨a1, a2, a3, a4, a5⟩ := I.pin p hm
    have b := hp p hm
    exact ⟨J.base.keep p.1 p.2 (cg b a1) (lo b a2) (nfs a3 a4) (nex _), J.base.free p.1 p.2 (cg b a1) (lo b a2) (nex _), a3, a4, a5⟩
  · have z := J.hok
    rw [← hpw.1, ← hpw.2]
    exact z
end
section
variable {T : Type} {X XG : Cx} {pins : List (Addr × Obj)} {P : Pro T} {s s4 : Shared} {a : Addr} {g ns N n : Nat} {A : Around} {ER : Value → Shared → Prop} {σ σg : L2.St} {H4 : Hp} {γ : T × Option Shared} {ip : List (Addr × Obj)} {gp : List (Nat × GenState)} {gs' : GenState}
theorem turn_back (c : Older X XG pins a g ns) (I : Inv X pins σ (P.hp γ.1) s) (f : Fst X pins P ns γ σ) (hQ : QI XG g ns (wrapP P) ip gp γ s σg H4 s4) : Inv X pins σ H4 s4 := by
  have hgfs : XG.fs = frs X.stack := by show frs XG.outer = _; rw [c.gx.outer]
  obtain ⟨γ, o⟩ := γ
  cases o with
  | none => exact inv_back I hQ.inv rfl rfl ⟨c.gx.prog, c.gx.w⟩ hgfs c.gx.ex c.s0 c.lo c.cl c.pl
  | some s' =>
    obtain ⟨rfl, H1, h4, hx⟩ := f s' rfl
    exact inv_back2 h4 hQ.inv hx ⟨c.gx.prog, c.gx.w⟩ hgfs c.gx.ex c.s0 c.lo c.cl c.pl
def Anew {T : Type} (X XG : Cx) (P : Pro T) (ns : Nat) (a : Addr) (g : Nat) (A : Around) (ER : Value → Shared → Prop) (N n : Nat) (γ : T) (H4 : Hp) (pl : List (Addr × Obj)) (gp : List (Nat × GenState)) : Prop :=
  ∀ X' pins' σ7 H7 s7 m γ', SameC X X' → Inv X' (pins' ++ pl) σ7 H7 s7 → (∀ q ∈ gp, IsSusp q.2 ∧ s7.gens[q.1]? = some q.2) → n = m + 1 → P.hp γ' = H7 → P.lk n γ H4 γ' → Pulled (model X.prog X.w) P XG ns a g A ER N m (γ', none) s7
theorem turn_item (c : Older X XG pins a g ns) (I : Inv X pins σ (P.hp γ.1) s) (f : Fst X pins P ns γ σ) (hQ : QI XG g ns (wrapP P) ip gp γ s σg H4 s4) (hb4 : gs'.bare = true) (hsu : IsSusp gs')
    (hres : ∀ s' γ', QI XG g ns (wrapP P) ip gp γ' s' σg ((wrapP P).hp γ') s' → (wrapP P).lk n γ H4 γ' → kapI (model X.prog X.w) A.in1 (QR XG g ns (wrapP P) (N + 1) ER) (QY XG g ns (wrapP P)) (n + 1) gs' (.send .none) (γ', s') s') :
    ∃ pl, Inv X (pins ++ pl) σ H4 (s4.setGen g gs') ∧ (s4.setGen g gs').heap.IsGen a g ∧ (∀ p ∈ pl, ns ≤ p.1) ∧ (∀ q ∈ (g, gs') :: gp, IsSusp q.2 ∧ (s4.setGen g gs').gens[q.1]? = some q.2) ∧ Anew X XG P ns a g A ER N n γ.1 H4 pl ((g, gs') :: gp) := by
  have hgfs : XG.fs = frs X.stack := by show frs XG.outer = _; rw [c.gx.outer]
  have J4 := turn_back c I f hQ
  have hsz4 : g < s4.gens.size := (Array.getElem?_eq_some_iff.mp hQ.run).1
  have J5 : Inv X pins σ H4 (s4.setGen g gs') := inv_gens J4 (allBare_setGen J4.bare hb4)
  obtain ⟨pl, F⟩ := frm_of hQ.inv
  obtain ⟨oL, hL, hLc, hpl0⟩ := F.eq
  have plok : ∀ p ∈ pl, s4.heap.get? p.1 = some p.2 ∧ H4 p.1 = none ∧ ns ≤ p.1 ∧ ∀ v, p.2.data ≠ .cell v := fun p hp => by
    rw [hpl0] at hp
    rcases List.mem_cons.mp hp with z | z
    · rw [z]
      exact ⟨hL, hQ.inv.free, c.gx.loc, hLc⟩
    · obtain ⟨q1, q2, _, _, q5⟩ := hQ.inv.pin p z
      refine ⟨q1, q2, ?_, q5⟩
      rcases List.mem_append.mp z with y | y
      · exact c.gx.pns p y
      · exact hQ.ips p y
  have J6 : Inv X (pins ++ pl) σ H4 (s4.setGen g gs') := J5.pins_of fun p hp => by
    rcases List.mem_append.mp hp with z | z
    · exact J5.pin p (List.mem_append_right _ z)
    · obtain ⟨q1, q2, q3, q4⟩ := plok p z
      exact ⟨q1, q2, fun y => by rw [y] at q3; exact absurd (Nat.lt_of_lt_of_le c.lo q3) (Nat.lt_irrefl _), fun y => absurd (Nat.lt_of_lt_of_le (c.fs _ y) q3) (Nat.lt_irrefl _), q4⟩
  have gen4 : ∀ h : Heap, (∀ p ∈ pl, h.get? p.1 = some p.2) → h.IsGen a g := fun h hh => c.gx.gen h fun p hp => hh p (by rw [hpl0]; exact List.mem_cons_of_mem _ (List.mem_append_left _ hp))
  have hg5 : (s4.setGen g gs').gens[g]? = some gs' := setGen_at hsz4
  have ng : ∀ q ∈ gp, q.1 ≠ g := fun q hq z => by
    obtain ⟨h1, h2⟩ := hQ.gpn q hq
    rw [z, hQ.run] at h2
    rw [← Option.some.inj h2] at h1
    obtain ⟨_, _, _, _, _, _, h1⟩ := h1
    cases h1
  refine ⟨pl, J6, gen4 _ fun p hp => (plok p hp).1, fun p hp => (plok p hp).2.2.1, fun q hq => ?_, ?_⟩
  · rcases List.mem_cons.mp hq with rfl | z
    · exact ⟨hsu, hg5⟩
    · obtain ⟨h1, h2⟩ := hQ.gpn q z
      refine ⟨h1, ?_⟩
      show (s4.gens.setIfInBounds g gs')[q.1]? = _
      rw [Array.getElem?_setIfInBounds_ne (Ne.symm (ng q z))]
      exact h2
  · intro X' pins' σ7 H7 S m γ' sc I7 sl7 en hhp hlk
    subst en hhp
    have hg7 := (sl7 (g, gs') List.mem_cons_self).2
    have pin7 : ∀ p ∈ pl, S.heap.get? p.1 = some p.2 ∧ P.hp γ' p.1 = none := fun p hp => by
      obtain ⟨q1, q2, _⟩ := I7.pin p (List.mem_append_right _ (List.mem_append_right _ hp))
      exact ⟨q1, q2⟩
    have hsz7 : g < S.gens.size := (Array.getElem?_eq_some_iff.mp hg7).1
    have n7 : ns ≤ S.heap.objs.size := by
      have z := Heap.lt_size (pin7 (XG.env.locals, oL) (by rw [hpl0]; exact List.mem_cons_self)).1
      exact Nat.le_trans c.gx.loc (Nat.le_of_lt z)
    refine ⟨gen4 _ fun p hp => (pin7 p hp).1, gs', hg7, ?_⟩
    refine hres (S.setGen g .running) (γ', none) ⟨?_, setGen_at hsz7, n7, hQ.ips, RunS.refl, fun q hq => ?_⟩ hlk
    · refine inv_woken (s' := S.setGen g .running) hQ.inv F hQ.sz n7 c.gx.cel (allBare_setGen I7.bare rfl) ?_ ?_ ?_ ?_ pin7
      · have z := I7.hok
        rw [c.gx.prog, c.gx.w, ← sc.prog, ← sc.w]
        exact z
      · intro b o e
        rw [c.gx.base, ← sc.base] at e
        exact I7.bs b o e
      · have z := I7.stack
        rw [c.gx.base, c.gx.outer, ← sc.base, ← sc.stack]
        exact z
      · intro b hb'
        rw [hgfs, ← sc.stack] at hb'
        exact I7.env0.frf b hb'
    · obtain ⟨h1, h2⟩ := sl7 q (List.mem_cons_of_mem _ hq)
      refine ⟨h1, ?_⟩
      show (S.gens.setIfInBounds g .running)[q.1]? = _
      rw [Array.getElem?_setIfInBounds_ne (Ne.symm (ng q hq))]
      exact h2
theorem turn_runs {x : GenState} (h : RunS (s.setGen g .running) s4) {i : Nat} (hi : i ≠ g) (e : s.gens[i]? = some .running) : (s4.setGen g x).gens[i]? = some .running := by
  have e1 : (s.setGen g .running).gens[i]? = some .running := by
    show (s.gens.setIfInBounds g .running)[i]? = _
    rw [Array.getElem?_setIfInBounds_ne (Ne.symm hi)]
    exact e
  have e2 := h i e1
  show (s4.gens.setIfInBounds g x)[i]? = _
  rw [Array.getElem?_setIfInBounds_ne (Ne.symm hi)]
  exact e2
def SleepR (g : Nat) (s s1 : Shared) : Prop := ∀ i, i ≠ g → s.gens[i]? = some .running → s1.gens[i]? = some .running
theorem pullG (c : Older X XG pins a g ns) (hh : A.handled = none) (hroom : A.depth < recursionLimit) {Q : Option Value → Shared → Prop} {Ex : Value → Shared → Prop} (I : Inv X pins σ (P.hp γ.1) s) (f : Fst X pins P ns γ σ)
    (h : Pulled (model X.prog X.w) P XG ns a g A ER N n γ s)
    (hitem : ∀ x H4 v s4 pl gl, Inv X (pins ++ pl) σ H4 s4 → RelV x v → P.out n γ.1 x H4 → s4.heap.IsGen a g → SleepR g s s4 → (∀ p ∈ pl, ns ≤ p.1) → (∀ q ∈ gl, IsSusp q.2 ∧ s4.gens[q.1]? = some q.2) → Anew X XG P ns a g A ER N n γ.1 H4 pl gl → Q (some v) s4)
    (hend : ∀ H4 s4, Inv X pins σ H4 s4 → P.fin (n + 1) γ.1 H4 → SleepR g s s4 → Q none s4)
    (herr : ∀ e s4, ER e s4 → s4.heap.IsGen a g ∧ NotStop (model X.prog X.w) e s4.heap ∧ Ex e (s4.setGen g .finished)) : wpAny (model X.prog X.w) A (pyNext (.ref a)) Q Ex s := by
  obtain ⟨hgen, gs, hgs, hgo⟩ := h
  have R1 : ∀ {x : GenState}, AllB (s.setGen g .running).gens := fun {x} => allBare_setGen I.bare rfl
  have I2 : Inv X pins σ (P.hp γ.1) (s.setGen g .running) := inv_gens I (allBare_setGen I.bare rfl)
  refine next_genS hh I.nolimit hroom hgen hgs hgo (fun v s4 gs' hb4 hsu hy => ?_) (fun s4 hF h' hk => ?_) (fun e s4 he => herr e s4 he.2)
  · obtain ⟨σg, ip, gp, x, H4, hQ, rv, hout, hres⟩ := hy
    obtain ⟨pl, J, hg4, h1, h2, h3⟩ := turn_item (A := A) (N := N) (ER := ER) c I2 f hQ hb4 hsu hres
    exact hitem x H4 v _ pl _ J rv hout hg4 (fun i hi e => turn_runs hQ.slp hi e) h1 h2 h3
  · obtain ⟨σg, ip, gp, H4, hQ, hfin⟩ := hF
    have J4 := turn_back c I2 f hQ
    have J5 : Inv X pins σ H4 (s4.setGen g .finished) := inv_gens J4 (allBare_setGen J4.bare rfl)
    exact hend H4 _ (J5.kept (t' := s4.toks) hk) hfin fun i hi e => turn_runs hQ.slp hi e
theorem pulled_first {k : Nat} {u : Value} {sp : SpH} {sc s1 : Shared} {H1 : Hp} {E : XK} (hG : GMadeQ X.prog X.w X.base k X.stack H1 sc sp E u s1) (hr : Room k A.in1) (hfr : A.in1.frames = some X.stack) :
    ∃ a g XG c, u = .ref a ∧ s1.heap.IsGen a g ∧ sc.heap.objs.size ≤ a ∧ (∀ b o, sc.heap.get? b = some o → s1.heap.get? b = some o) ∧ s1.os = sc.os ∧ AllB s1.gens ∧ s1.heap.NoLimit ∧ GX XG X.prog X.w X.base X.stack a g sc.heap.objs.size ∧ s1.gens[g]? = some (.fresh c) ∧ sc.gens.size ≤ g ∧
      ∀ (T : Type) (P : Pro T) (N : Nat) (s2 : Shared) (γ0 : T), (∀ b o, s1.heap.get? b = some o → s2.heap.get? b = some o) → s2.os = s1.os → AllB s2.gens → s2.gens[g]? = s1.gens[g]? → HxOk s1.heap.objs.size H1 (P.hp γ0) → HOk X.prog X.w (P.hp γ0) s2.heap → (∀ o, sp (P.hp γ0) (T × Option Shared) (wrapP P) (N + 1) (γ0, o)) →
        Pulled (model X.prog X.w) P XG sc.heap.objs.size a g A (fun e s1 => CX X.prog X.w X.stack H1 sc E e s1 ∧ s1.heap.IsGen a g) N N (γ0, some sc) s2 := by
  obtain ⟨a, g, c, rfl, ha, hgen, hfr0, hos, hb1, hlim, hkp, hslp, hgs, wake⟩ := hG
  obtain ⟨XG, gx, wk⟩ := wake A.in1 hr hfr
  refine ⟨a, g, XG, c, rfl, hgen, ha, hkp, hos, hb1, hlim, gx, hfr0, hgs, fun T P N s2 γ0 hk hos2 hb2 hg2 hx hok hsp => ?_⟩
  rw [hfr0] at hg2
  have hglt : g < s2.gens.size := (Array.getElem?_eq_some_iff.mp hg2).1
  exact ⟨hgen.keeps hk, .fresh c, hg2, rfl, wk _ (wrapP P) (N + 1) (γ0, some sc) (hsp _) hx (s2.setGen g .running) hk (hos2.trans hos) (allBare_setGen hb2 rfl) hok (setGen_at hglt) rfl⟩
end
section
variable {T : Type} {X XG : Cx} {pins : List (Addr × Obj)} {P : Pro T} {I : Nat → T → L2.St → Prop} {sc s : Shared} {a : Addr} {g N n : Nat} {A : Around} {H1 : Hp} {E : XK} {σ1 : L2.St}
theorem err_of (I1 : Inv X pins σ1 H1 sc) (hns : NoStop X.K E) {e : Value} {s4 : Shared} (hcx : CX X.prog X.w X.stack H1 sc E e s4) : NotStop (model X.prog X.w) e s4.heap ∧ CX X.prog X.w X.stack H1 sc E e (s4.setGen g .finished) := by
  have kin : X.K.In s4.heap := by
    obtain ⟨a, B, H', cls, d, _, fl, _, ub, _⟩ := id hcx
    refine I1.ok.mod.kin.keeps fun b o eb => fl.1 b o (ub.keep b o (I1.bs b o eb).1 (I1.bs b o eb).2 fun hm => ?_)
    rcases List.mem_cons.mp (I1.stkSub b hm) with z | z
    · have h1 := Heap.lt_size eb
      have h2 := Nat.le_trans I1.ok.bsz I1.ok.above
      rw [z] at h1
      exact absurd (Nat.lt_of_lt_of_le h1 h2) (Nat.lt_irrefl _)
    · exact I1.ok.nofr eb z
  refine ⟨notStop_of hns kin hcx, ?_⟩
  obtain ⟨a, B, H', cls, d, z1, fl, z2, ub, z3, z4, z5, z6⟩ := hcx
  exact ⟨a, B, H', cls, d, z1, fl, z2, ub, z3, z4, allBare_setGen z5 rfl, z6⟩
theorem sus_sleep {s4 s7 : Shared} {gl : List (Nat × GenState)} (h : ∀ q ∈ gl, IsSusp q.2 ∧ s4.gens[q.1]? = some q.2) (k : Sleep s4 s7) : ∀ q ∈ gl, IsSusp q.2 ∧ s7.gens[q.1]? = some q.2 :=
  fun q hq => ⟨(h q hq).1, k _ _ (.inl (h q hq).1) (h q hq).2⟩
theorem pull (gx : GX XG X.prog X.w X.base X.stack a g sc.heap.objs.size) (I1 : Inv X pins σ1 H1 sc) (hns : NoStop X.K E) (hh : A.handled = none) (hroom : A.depth < recursionLimit) {Q : Option Value → Shared → Prop} {Ex : Value → Shared → Prop}
    (h : PullS X pins P I sc XG a g A H1 E N n s)
    (hitem : ∀ γ σ2 x H4 v s4 pl, I n γ σ2 → Inv X (pins ++ pl) σ2 H4 s4 → RelV x v → P.out n γ x H4 → s4.heap.IsGen a g → (∀ σ7 H7 s7, Inv X (pins ++ pl) σ7 H7 s7 → Sleep s4 s7 → ∀ m γ', n = m + 1 → P.hp γ' = H7 → P.lk n γ H4 γ' → I m γ' σ7 → PullS X pins P I sc XG a g A H1 E N m s7) → Q (some v) s4)
    (hend : ∀ γ σ2 H4 s4, I n γ σ2 → Inv X pins σ2 H4 s4 → P.fin (n + 1) γ H4 → Q none s4)
    (herr : ∀ e s4, CX X.prog X.w X.stack H1 sc E e s4 → Ex e s4) : wpAny (model X.prog X.w) A (pyNext (.ref a)) Q Ex s := by
  obtain ⟨γ, σ, hI, J, f, h⟩ := h
  refine pullG (Older.of gx I1) hh hroom J f h (fun x H4 v s4 pl gl J4 rv ho hg _ _ hgl hA => ?_) (fun H4 s4 J4 hf _ => hend _ _ _ _ hI J4 hf) fun e s4 he => ⟨he.2, (err_of I1 hns (g := g) he.1).1, herr _ _ (err_of I1 hns he.1).2⟩
  exact hitem γ.1 σ x H4 v s4 pl hI J4 rv ho hg fun σ7 H7 s7 I7 sl m γ' en e7 hlk hI' =>
    ⟨(γ', none), σ7, hI', by rw [show P.hp (γ', (none : Option Shared)).1 = H7 from e7]; exact I7.unpinned, (fun _ z => by cases z), hA X pins σ7 H7 s7 m γ' .refl I7 (sus_sleep hgl sl) en e7 hlk⟩
theorem pull_first {k : Nat} {u : Value} {sp : SpH} {σ : L2.St} {s1 s2 : Shared} (I1 : Inv X pins σ H1 sc) (hG : GMadeQ X.prog X.w X.base k X.stack H1 sc sp E u s1) (hr : Room k A.in1) (hfr : A.in1.frames = some X.stack) :
    ∃ a g XG, u = .ref a ∧ s1.heap.IsGen a g ∧ sc.heap.objs.size ≤ a ∧ (∀ b o, sc.heap.get? b = some o → s1.heap.get? b = some o) ∧ s1.os = sc.os ∧ AllB s1.gens ∧ s1.heap.NoLimit ∧ GX XG X.prog X.w X.base X.stack a g sc.heap.objs.size ∧
      ∀ (s2 : Shared) (γ0 : T), (∀ b o, s1.heap.get? b = some o → s2.heap.get? b = some o) → s2.os = s1.os → AllB s2.gens → s2.gens[g]? = s1.gens[g]? → HxOk s1.heap.objs.size H1 (P.hp γ0) → Inv X pins σ (P.hp γ0) s2 → I N γ0 σ → (∀ o, sp (P.hp γ0) (T × Option Shared) (wrapP P) (N + 1) (γ0, o)) → PullS X pins P I sc XG a g A H1 E N N s2 := by
  obtain ⟨a, g, XG, c, rfl, hgen, ha, hkp, hos, hb, hl, gx, _, _, first⟩ := pulled_first (X := X) (A := A) hG hr hfr
  refine ⟨a, g, XG, rfl, hgen, ha, hkp, hos, hb, hl, gx, fun s2 γ0 hk hos2 hb2 hg2 hx I2 hI hsp => ?_⟩
  have hx' : HxOk sc.heap.objs.size H1 (P.hp γ0) := hx.mono (Nat.le_trans ha (by
    obtain ⟨o, nm, qn, ho, _⟩ := hgen
    exact Nat.le_of_lt (Heap.lt_size ho)))
  exact ⟨(γ0, some sc), σ, hI, I2, fun s'' e => (by cases e; exact ⟨rfl, H1, I1, hx'⟩), first T P N s2 γ0 hk hos2 hb2 hg2 hx I2.hok hsp⟩
end
section
variable {X : Cx} {tg iter : Expr} {body : List Stmt} {tq : TQG} {gt : TG} {tb : TS} {pos : Pos} {k : Nat} {E : XK}
end
end Gz
end
section
namespace Gp
open PySem PySem.Spec PyProof.Rows L2 Gh Gz
section
variable {W W' L : Type}
end
abbrev TQA := (T : Type) → TQ T
section
variable {g : Gw} {T : Type} {P : Pro T} {all : List D} {N : Nat} {W W' L : Type}
def okQ {α : Type} (m : Tr α) (R : α → Prop) : Prop := match m with
  | .ok f => R f
  | _ => False
end
def fzB : Env → Bool
  | [] => true
  | .fz _ :: r => fzB r
  | .no :: r => fzB r
  | _ :: _ => false
theorem fzB_mem {ε : Env} (h : fzB ε = true) : ∀ s ∈ ε, (∃ d, s = .fz d) ∨ s = .no := by
  induction ε with
  | nil => exact fun _ m => absurd m List.not_mem_nil
  | cons x r ih =>
    intro s m
    cases x with
    | fz d => rcases List.mem_cons.mp m with z | z; exact .inl ⟨d, z⟩; exact ih h s z
    | no => rcases List.mem_cons.mp m with z | z; exact .inr z; exact ih h s z
    | ow ds => cases h
    | oi c fs => cases h
theorem fzB_own {ε : Env} {σ : L2.St} (h : fzB ε = true) : ∀ i a, ¬ OwnAt σ ε i a := fun i a ⟨_, z⟩ => by
  rcases z with ⟨x, z⟩ | ⟨x, y, z⟩
  · rcases fzB_mem h _ (List.mem_of_getElem? z) with ⟨d, e⟩ | e <;> cases e
  · rcases fzB_mem h _ (List.mem_of_getElem? z) with ⟨d, e⟩ | e <;> cases e
theorem stt_wake {g : Gw} {U0 U U' : Addr → Prop} {H0 H H' : Hp} {σ : L2.St} {b b' : Nat} {ε : Env} (s : Stt g NoM U0 H0 U σ H b ε) (fz : fzB ε = true) (e : Ev U0 H U' H') (u : UOk g U' H') (w : Wd g H' b') : Stt g NoM U' H' U' σ H' b' ε :=
  ⟨⟨s.rel.len, fun i x hx => by
    obtain ⟨o, h1, h2⟩ := s.rel.at_ i x hx
    refine ⟨o, h1, ?_⟩
    rcases fzB_mem fz _ (List.mem_of_getElem? hx) with ⟨d, rfl⟩ | rfl
    · obtain ⟨v, e1, dn⟩ := h2
      exact ⟨v, e1, (dn.sub (U' := U0) fun a _ z => s.sub a z).ev e⟩
    · trivial, fun i j a n h1 h2 => (fzB_own fz _ _ h1).elim⟩, w, u, fun _ z => z, fun i a z => (fzB_own fz _ _ z).elim, fun _ _ z _ _ _ => z, fun i ds a z1 z2 => (fzB_own fz i a ⟨z2, .inl ⟨ds, z1⟩⟩).elim, fun i c fs a _ z1 z2 => (fzB_own fz i a ⟨z2, .inr ⟨c, fs, z1⟩⟩).elim⟩
def YS {W L : Type} (g : Gw) (ε : Env) (t : TQA) (env : W → Env) (envL : L → Env) (m : GT (Fl W L)) : Prop := ∀ (T : Type) (P : Pro T) (all : List D) (N : Nat) (Y : PY g all N P) (D : QE T) γ U σ H n pre post,
  Stt g NoM (Y.U γ) (P.hp γ) U σ H (Y.B γ) ε → all = pre ++ (m.out ++ post) → n + pre.length = N → m.out.length ≤ n → ((m.out = [] ∨ m.out.length < n) → okQ m.res (gqP Y D env envL (n - m.out.length) U H)) → t T P D n γ σ H
section
variable {g : Gw} {W W' L : Type} {ε : Env} {env : W → Env} {envL : L → Env} {env' : W' → Env} {u ta tb : TQA} {te : TE} {me : Tr D}
theorem ys_nil {w : W} (l : Le (env w) ε) : YS g ε (fun _ => tQ0) env envL ⟨[], .ok (.nx w)⟩ := fun T P all N Y D γ U σ H n pre post s ha hn hl q =>
  q (.inl rfl) γ U σ H Ev.refl (s.le l)
theorem gbF_nx {m : GT (Fl W' L)} {k : W' → GT (Fl W L)} {w : W'} (e : m.res = .ok (.nx w)) : gbF m k = ⟨m.out ++ (k w).out, (k w).res⟩ := by unfold gbF; rw [e]
theorem YS.seq {m : GT (Fl W' L)} {k : W' → GT (Fl W L)} (h1 : YS g ε ta env' envL m) (h2 : ∀ w, YS g (env' w) u env envL (k w)) : YS g ε (fun T => tQThen (ta T) (u T)) env envL (gbF m k) := fun T P all N Y D γ U σ H n pre post s ha hn hl q => by
  have run : ∀ (R : List Gp.D), all = pre ++ (m.out ++ R) → m.out.length ≤ n → ((m.out = [] ∨ m.out.length < n) → okQ m.res (gqP Y { D with nx := fun n' γ' σ' H' => u T P D n' γ' σ' H' } env' envL (n - m.out.length) U H)) → tQThen (ta T) (u T) P D n γ σ H :=
    fun R hR hl' hq => h1 T P all N Y _ γ U σ H n pre R s hR hn hl' hq
  cases e : m.res with
  | ok f =>
    cases f with
    | nx w =>
      rw [gbF_nx e] at ha hl q
      have ha' : all = pre ++ (m.out ++ ((k w).out ++ post)) := by rw [ha]; simp [List.append_assoc]
      have hl' : m.out.length + (k w).out.length ≤ n := by rw [← List.length_append]; exact hl
      refine run _ ha' (by omega) fun hc => ?_
      rw [e]
      intro γ' U' σ' H' ev s'
      refine h2 w T P all N Y D γ' U' σ' H' (n - m.out.length) (pre ++ m.out) post s' (by rw [ha']; simp [List.append_assoc]) (by rw [List.length_append]; omega) (by omega) fun hc2 => ?_
      have z := q (by
        rcases hc2 with z | z
        · rw [z, List.append_nil]; exact hc
        · exact .inr (by show (m.out ++ (k w).out).length < n; rw [List.length_append]; omega))
      have e3 : n - (m.out ++ (k w).out).length = n - m.out.length - (k w).out.length := by rw [List.length_append]; omega
      change okQ (k w).res (gqP Y D env envL (n - (m.out ++ (k w).out).length) U H) at z
      rw [e3] at z
      cases e4 : (k w).res with
      | ok f2 => rw [e4] at z; exact gqP.ev ev z
      | ex c fs => rw [e4] at z; exact z.elim
      | bad => rw [e4] at z; exact z.elim
      | draw _ _ => rw [e4] at z; exact z.elim
    | rt d =>
      have e2 : gbF m k = ⟨m.out, .ok (.rt d)⟩ := by unfold gbF; rw [e]
      rw [e2] at ha hl q
      exact run post ha hl fun hc => by rw [e]; exact q hc
    | bk l =>
      have e2 : gbF m k = ⟨m.out, .ok (.bk l)⟩ := by unfold gbF; rw [e]
      rw [e2] at ha hl q
      exact run post ha hl fun hc => by rw [e]; exact q hc
    | ct l =>
      have e2 : gbF m k = ⟨m.out, .ok (.ct l)⟩ := by unfold gbF; rw [e]
      rw [e2] at ha hl q
      exact run post ha hl fun hc => by rw [e]; exact q hc
  | ex c fs =>
    have e2 : gbF m k = ⟨m.out, .bad⟩ := by unfold gbF; rw [e]
    rw [e2] at ha hl q
    exact run post ha hl fun hc => (q hc).elim
  | bad =>
    have e2 : gbF m k = ⟨m.out, .bad⟩ := by unfold gbF; rw [e]
    rw [e2] at ha hl q
    exact run post ha hl fun hc => (q hc).elim
  | draw _ _ =>
    have e2 : gbF m k = ⟨m.out, .bad⟩ := by unfold gbF; rw [e]
    rw [e2] at ha hl q
    exact run post ha hl fun hc => (q hc).elim
theorem ys_pl {t : TS} {m : Tr (Fl W L)} (h : SS g EF ε (tSeq t tNext) env envL m) : YS g ε (fun _ => tQP t) env envL (gpl m) := fun T P all N Y D γ U σ H n pre post s ha hn hl q => by
  have z := q (.inl rfl)
  refine h NoM (Y.U γ) (P.hp γ) U (D.at n γ) σ H _ s ?_
  change okQ m (gqP Y D env envL (n - 0) U H) at z
  cases m with
  | ok f =>
    cases f with
    | nx w => exact fun U' σ' H' e s' => z γ U' σ' H' e s'
    | rt d => exact z.elim
    | bk w => exact fun U' σ' H' e s' => z γ U' σ' H' e s'
    | ct w => exact fun U' σ' H' e s' => z γ U' σ' H' e s'
  | ex c fs => exact z.elim
  | bad => exact z.elim
  | draw _ _ => exact z.elim
theorem ys_yield {w : W} (he : SE g EF ε te me) (l : Le (env w) ε) (fz : fzB ε = true) : YS g ε (fun _ => tQY te) env envL (gyl me w) := fun T P all N Y D γ U σ H n pre post s ha hn hl q => by
  cases me with
  | ok d =>
    have hl' : 1 ≤ n := hl
    obtain ⟨m, rfl⟩ : ∃ m, n = m + 1 := ⟨n - 1, by omega⟩
    refine ⟨m, rfl, he U σ H (Y.B γ) _ s.rel s.wd s.uok fun v H1 d1 w1 f1 => ?_⟩
    have s1 := s.fr f1 w1
    refine ⟨Y.out m γ v H1 d (by omega) ?_ (d1.sub fun a _ z => s.sub a z) w1 fun a o e n1 n2 => s1.ext a o e n1 (fun z => z) n2, fun γ' hk => ?_⟩
    · have e : N - (m + 1) = pre.length := by omega
      rw [e, ha, List.getElem?_append_right (Nat.le_refl _), Nat.sub_self]
      rfl
    · obtain ⟨hp, ev, uk, wk⟩ := Y.lk m γ H1 γ' hk
      have z := q (.inr (show 1 < m + 1 by omega))
      exact z γ' (Y.U γ') σ (P.hp γ') ((s.uok.ev f1).trans (ev.sup s.sub)) ((stt_wake s1 fz ev uk wk).le l)
  | ex c fs => exact (q (.inl rfl)).elim
  | bad => exact (q (.inl rfl)).elim
  | draw _ _ => exact (q (.inl rfl)).elim
theorem okQ_ev {T : Type} {P : Pro T} {all : List D} {N n : Nat} {Y : PY g all N P} {D : QE T} {U U1 : Addr → Prop} {H H1 : Hp} (e : Ev U H U1 H1) {m : Tr (Fl W L)} (h : okQ m (gqP Y D env envL n U H)) : okQ m (gqP Y D env envL n U1 H1) := by
  cases m with
  | ok f => exact gqP.ev e h
  | ex c fs => exact h.elim
  | bad => exact h.elim
  | draw _ _ => exact h.elim
theorem ys_if {c : TT} {mc : Tr Bool} {m n : GT (Fl W L)} (hc : ST g EF ε c mc) (ha : YS g ε ta env envL m) (hb : YS g ε tb env envL n) : YS g ε (fun T => tQIf c (ta T) (tb T)) env envL (gif mc m n) := fun T P all N Y D γ U σ H k pre post s hall hn hl q => by
  cases mc with
  | ok b =>
    refine hc U σ H (Y.B γ) _ s.rel s.wd s.uok fun H1 w1 f1 => ?_
    have ev := s.uok.ev f1
    cases b with
    | true => exact ha T P all N Y D γ U σ H1 k pre post (s.fr f1 w1) hall hn hl fun z => okQ_ev ev (q z)
    | false => exact hb T P all N Y D γ U σ H1 k pre post (s.fr f1 w1) hall hn hl fun z => okQ_ev ev (q z)
  | ex c fs => exact (q (.inl rfl)).elim
  | bad => exact (q (.inl rfl)).elim
  | draw _ _ => exact (q (.inl rfl)).elim
theorem cond_app {α β : Type} {a b : List α} {n : Nat} {r : Tr β} {R : β → Prop} (hc : a = [] ∨ a.length < n) (q : (a ++ b = [] ∨ (a ++ b).length < n) → okQ r R) (hb : b = [] ∨ b.length < n - a.length) : okQ r R := q (by
  rcases hb with z | z
  · rw [z, List.append_nil]; exact hc
  · exact .inr (by rw [List.length_append]; omega))
end
end Gp
end
section
namespace Gp
open PySem PySem.Spec PyProof.Rows L2 Gh Gz
section
variable {g : Gw} {W W' L : Type} {ε : Env} {env : W → Env} {envL : L → Env} {env' : W' → Env} {u ta tb : TQA} {te : TE} {me : Tr D}
def YX {W L : Type} (g : Gw) (ε : Env) (d : D) (gt : TG) (tb : TQA) (env : W → Env) (envL : L → Env) (m : GT (Fl W L)) : Prop := ∀ (T : Type) (P : Pro T) (all : List Gp.D) (N : Nat) (Y : PY g all N P) (D : QE T) γ U σ H n pre post v,
  Stt g NoM (Y.U γ) (P.hp γ) U σ H (Y.B γ) ε → Den g U H v d → all = pre ++ (m.out ++ post) → n + pre.length = N → m.out.length ≤ n → ((m.out = [] ∨ m.out.length < n) → okQ m.res (gqP Y D env envL (n - m.out.length) U H)) → gt v σ H fun σ2 H2 => tb T P D n γ σ2 H2
theorem yx_name {i : Nat} {d : D} {m : GT (Fl W L)} (h : YS g (ε.set i (.fz d)) tb env envL m) : YX g ε d (gName i) tb env envL m := fun T P all N Y D γ U σ H n pre post v s dn ha hn hl q => h T P all N Y D γ U _ H n pre post (s.set i dn) ha hn hl q
def yun2 {α : Type} (d : D) (k : D → D → GT α) : GT α := match d with
  | .tup [x, y] => k x y
  | _ => ⟨[], .bad⟩
theorem ys_for {wi : TI} {gt : TG} {mi : Tr (List D)} {f : D → W → GT (Fl W W)} {w0 : W} (env : W → Env) (hi : SI g EF ε wi mi) (l : Le (env w0) ε) (hb : ∀ d w, YX g (env w) d gt tb env env (f d w)) : YS g ε (fun T => tQFor wi gt (tb T)) env envL (yfor mi f w0) := fun T P all N Y D γ U σ H n pre post s ha hn hl q => by
  cases mi with
  | ok ds =>
    refine hi U σ H (Y.B γ) _ s.rel s.wd s.uok fun J H1 hsz it w1 f1 => ?_
    have ev0 := s.uok.ev f1
    refine ⟨fun i m n γ σ' H' => ∃ w U' pre, m = ds.length - i ∧ i ≤ ds.length ∧ Stt g NoM (Y.U γ) (P.hp γ) U' σ' H' (Y.B γ) (env w) ∧ Ev U H1 U' H' ∧ all = pre ++ ((forY (L := L) f (ds.drop i) w).out ++ post) ∧ n + pre.length = N ∧ (forY (L := L) f (ds.drop i) w).out.length ≤ n ∧
      (((forY (L := L) f (ds.drop i) w).out = [] ∨ (forY (L := L) f (ds.drop i) w).out.length < n) → okQ (forY f (ds.drop i) w).res (gqP Y D env envL (n - (forY (L := L) f (ds.drop i) w).out.length) U' H')),
      ⟨ds.length, w0, U, pre, by simp, Nat.zero_le _, (s.fr f1 w1).le l, Ev.refl, ha, hn, hl, fun z => okQ_ev ev0 (q z)⟩, ?_⟩
    rintro i m n γ σ' H' ⟨w, U', pre, rfl, hle, s', e', ha, hn, hl, q⟩
    obtain ⟨it1, it2⟩ := it i U' H' (Y.B γ) e' s'.wd s'.uok
    by_cases hlt : i < ds.length
    · have ei : ds[i]? = some ds[i] := List.getElem?_eq_getElem hlt
      obtain ⟨go, y⟩ := it1 _ ei
      rw [List.drop_eq_getElem_cons hlt, forY_cons] at ha hl q
      refine .inr ⟨go, fun n γ σ2 H2 => ∃ w U2 pre, Stt g NoM (Y.U γ) (P.hp γ) U2 σ2 H2 (Y.B γ) (env w) ∧ Ev U H1 U2 H2 ∧ all = pre ++ ((forY (L := L) f (ds.drop (i + 1)) w).out ++ post) ∧ n + pre.length = N ∧ (forY (L := L) f (ds.drop (i + 1)) w).out.length ≤ n ∧
        (((forY (L := L) f (ds.drop (i + 1)) w).out = [] ∨ (forY (L := L) f (ds.drop (i + 1)) w).out.length < n) → okQ (forY f (ds.drop (i + 1)) w).res (gqP Y D env envL (n - (forY (L := L) f (ds.drop (i + 1)) w).out.length) U2 H2)), ?_, ?_⟩
      · rintro n' γ' σ2 H2 ⟨w2, U2, pre2, s2, e2, a2, n2, l2, q2⟩
        exact ⟨ds.length - (i + 1), by omega, w2, U2, pre2, rfl, hlt, s2, e2, a2, n2, l2, q2⟩
      · intro x H2 hy
        obtain ⟨dn, sm⟩ := y x H2 hy
        have s2 := s'.fr (fr_same sm) (s'.wd.same sm)
        have ev2 : Ev U' H' U' H2 := s'.uok.ev (fr_same sm)
        cases e2 : (f ds[i] w).res with
        | ok r =>
          simp only [e2] at ha hl q
          cases r with
          | nx w' =>
            refine hb _ w T P all N Y _ γ U' σ' H2 n pre ((forY (L := L) f (ds.drop (i + 1)) w').out ++ post) x s2 dn (by rw [ha]; simp [List.append_assoc]) hn (by rw [List.length_append] at hl; omega) fun hcc => ?_
            rw [e2]
            intro γ' U3 σ3 H3 e3 s3
            refine ⟨w', U3, pre ++ (f ds[i] w).out, s3, e'.trans (ev2.trans e3), by rw [ha]; simp [List.append_assoc], by rw [List.length_append] at hl ⊢; omega, by rw [List.length_append] at hl; omega, fun hb2 => ?_⟩
            have z := cond_app hcc q hb2
            rw [show n - ((f ds[i] w).out ++ (forY (L := L) f (ds.drop (i + 1)) w').out).length = n - (f ds[i] w).out.length - (forY (L := L) f (ds.drop (i + 1)) w').out.length by rw [List.length_append]; omega] at z
            exact okQ_ev (ev2.trans e3) z
          | ct w' =>
            refine hb _ w T P all N Y _ γ U' σ' H2 n pre ((forY (L := L) f (ds.drop (i + 1)) w').out ++ post) x s2 dn (by rw [ha]; simp [List.append_assoc]) hn (by rw [List.length_append] at hl; omega) fun hcc => ?_
            rw [e2]
            intro γ' U3 σ3 H3 e3 s3
            refine ⟨w', U3, pre ++ (f ds[i] w).out, s3, e'.trans (ev2.trans e3), by rw [ha]; simp [List.append_assoc], by rw [List.length_append] at hl ⊢; omega, by rw [List.length_append] at hl; omega, fun hb2 => ?_⟩
            have z := cond_app hcc q hb2
            rw [show n - ((f ds[i] w).out ++ (forY (L := L) f (ds.drop (i + 1)) w').out).length = n - (f ds[i] w).out.length - (forY (L := L) f (ds.drop (i + 1)) w').out.length by rw [List.length_append]; omega] at z
            exact okQ_ev (ev2.trans e3) z
          | bk w' =>
            refine hb _ w T P all N Y _ γ U' σ' H2 n pre post x s2 dn ha hn hl fun hcc => ?_
            rw [e2]
            have z := q hcc
            exact fun γ' U3 σ3 H3 e3 s3 => z γ' U3 σ3 H3 (ev2.trans e3) s3
          | rt d =>
            exact hb _ w T P all N Y _ γ U' σ' H2 n pre post x s2 dn ha hn hl fun hcc => (q hcc).elim
        | ex c fs =>
          simp only [e2] at ha hl q
          exact hb _ w T P all N Y _ γ U' σ' H2 n pre post x s2 dn ha hn hl fun hcc => (q hcc).elim
        | bad =>
          simp only [e2] at ha hl q
          exact hb _ w T P all N Y _ γ U' σ' H2 n pre post x s2 dn ha hn hl fun hcc => (q hcc).elim
        | draw _ _ =>
          simp only [e2] at ha hl q
          exact hb _ w T P all N Y _ γ U' σ' H2 n pre post x s2 dn ha hn hl fun hcc => (q hcc).elim
    · have e : i = ds.length := by omega
      subst e
      rw [List.drop_length] at q
      exact .inl ⟨it2 (rfl), q (.inl rfl) γ U' σ' H' Ev.refl s'⟩
  | ex c fs => exact (q (.inl rfl)).elim
  | bad => exact (q (.inl rfl)).elim
  | draw _ _ => exact (q (.inl rfl)).elim
end
def endOk (g : Gw) (U : Addr → Prop) (H : Hp) (E : XK) (b : Nat) (m : GT Unit) : Prop := match m.res with
  | .ok _ => True
  | .ex c fs => m.out = [] ∧ exP g U E H c fs b
  | _ => False
theorem endOk_bad {g : Gw} {U : Addr → Prop} {H : Hp} {E : XK} {b : Nat} {m : GT Unit} (h : m.res = .bad) (z : endOk g U H E b m) : False := by
  unfold endOk at z
  rw [h] at z
  exact z
def S0 (g : Gw) (E : XK) (ε : Env) (t : TQA) (m : GT Unit) : Prop := ∀ (T : Type) (P : Pro T) (N : Nat) (Y : PY g m.out N P) γ U σ H, Stt g NoM (Y.U γ) (P.hp γ) U σ H (Y.B γ) ε → m.out.length ≤ N →
  ((∃ u, m.res = .ok u) → Y.ok) → ((m.out = [] ∨ m.out.length < N) → endOk g (Y.U γ) (P.hp γ) E (Y.B γ) m) → t T P (endQ P) N γ σ H
section
variable {g : Gw} {W : Type} {ε : Env} {E : XK} {u : TQA} {t : TS}
theorem s0_rest {envU : Unit → Env} {t : TQA} {m : GT (Fl Unit Empty)} (h : YS g ε t envU envE m) : S0 g E ε t (gfin m) := fun T P N Y γ U σ H s hl hk q => by
  have key : ∀ (out : List D) (Y : PY g out N P), out = m.out → (∀ γ, Y.U γ = Y.U γ) → Stt g NoM (Y.U γ) (P.hp γ) U σ H (Y.B γ) ε → m.out.length ≤ N → ((m.out = [] ∨ m.out.length < N) → Y.ok ∧ ∃ w, m.res = .ok (.nx w)) → t T P (endQ P) N γ σ H := by
    intro out Y ho _ s hl q
    subst ho
    refine h T P m.out N Y (endQ P) γ U σ H N [] [] s (by simp) (by simp) hl fun hc => ?_
    obtain ⟨ho, w, e⟩ := q hc
    rw [e]
    intro γ' U' σ' H' _ s'
    exact Y.fin _ γ' H' ho (by omega) s'.wd fun a o e n1 n2 => s'.ext a o e n1 (fun z => z) n2
  cases e : m.res with
  | ok f =>
    cases f with
    | nx w =>
      have e1 : gfin m = ⟨m.out, .ok ()⟩ := by unfold gfin; rw [e]
      have e2 : (gfin m).out = m.out := by rw [e1]
      exact key _ Y e2 (fun _ => rfl) s (by rw [← e2]; exact hl) fun _ => ⟨hk ⟨(), by rw [e1]⟩, w, e⟩
    | rt d =>
      have e1 : gfin m = ⟨m.out, .bad⟩ := by unfold gfin; rw [e]
      have e2 : (gfin m).out = m.out := by rw [e1]
      exact key _ Y e2 (fun _ => rfl) s (by rw [← e2]; exact hl) fun hc => by
        have z := q (by rw [e2]; exact hc)
        exact (endOk_bad (by rw [e1]) z).elim
    | bk x => exact nomatch x
    | ct x => exact nomatch x
  | ex c fs =>
    have e1 : gfin m = ⟨m.out, .bad⟩ := by unfold gfin; rw [e]
    have e2 : (gfin m).out = m.out := by rw [e1]
    exact key _ Y e2 (fun _ => rfl) s (by rw [← e2]; exact hl) fun hc => by
      have z := q (by rw [e2]; exact hc)
      exact (endOk_bad (by rw [e1]) z).elim
  | bad =>
    have e1 : gfin m = ⟨m.out, .bad⟩ := by unfold gfin; rw [e]
    have e2 : (gfin m).out = m.out := by rw [e1]
    exact key _ Y e2 (fun _ => rfl) s (by rw [← e2]; exact hl) fun hc => by
      have z := q (by rw [e2]; exact hc)
      exact (endOk_bad (by rw [e1]) z).elim
  | draw _ _ =>
    have e1 : gfin m = ⟨m.out, .bad⟩ := by unfold gfin; rw [e]
    have e2 : (gfin m).out = m.out := by rw [e1]
    exact key _ Y e2 (fun _ => rfl) s (by rw [← e2]; exact hl) fun hc => by
      have z := q (by rw [e2]; exact hc)
      exact (endOk_bad (by rw [e1]) z).elim
theorem s0_pre {env : W → Env} {m : Tr (Fl W Empty)} {k : W → GT Unit} (h : SS g E ε (tSeq t tNext) env envE m) (hk : ∀ w, S0 g E (env w) u (k w)) : S0 g E ε (fun T => tQPre t (u T)) (gpre m k) := fun T P N Y γ U σ H s hl hk2 q => by
  refine h NoM (Y.U γ) (P.hp γ) U { nx := fun σ' H' => u T P (endQ P) N γ σ' H', rt := (endQ P).rt N γ, bk := fun _ _ => False, ct := fun _ _ => False } σ H (Y.B γ) s ?_
  cases m with
  | ok f =>
    cases f with
    | nx w => exact fun U' σ' H' _ s' => hk w T P N Y γ U' σ' H' s' hl hk2 q
    | rt d => exact (q (.inl rfl)).elim
    | bk x => exact nomatch x
    | ct x => exact nomatch x
  | ex c fs =>
    obtain ⟨_, z⟩ := q (.inl rfl)
    exact fun dd fvs H' h1 h2 h3 h4 h5 => z dd fvs H' h1 h2 h3 h4 fun a o e n1 n2 => h5 a o e n1 (fun z => z) n2
  | bad => exact (q (.inl rfl)).elim
  | draw _ _ => exact (q (.inl rfl)).elim
end
def spY (K : PySem.W.Frag) (Tb : List (Addr × Str)) (F : List D → GT Unit) : List V → Hp → XK → SpQ := fun vs H E T P N γ => ∃ p c ds, ∃ Y : PY ⟨K, Tb, p, c⟩ (F ds).out N P, DenL ⟨K, Tb, p, c⟩ (Y.U γ) H vs ds ∧ P.hp γ = H ∧ Wd ⟨K, Tb, p, c⟩ H (Y.B γ) ∧ UOk ⟨K, Tb, p, c⟩ (Y.U γ) H ∧
  (F ds).out.length ≤ N ∧ ((∃ u, (F ds).res = .ok u) → Y.ok) ∧ (((F ds).out = [] ∨ (F ds).out.length < N) → endOk ⟨K, Tb, p, c⟩ (Y.U γ) H E (Y.B γ) (F ds))
end Gp
end
section
namespace Gp
open PySem PySem.Spec PyProof.Rows L2 Gh Gz
section
variable {K : PySem.W.Frag} {Tb : List (Addr × Str)} {Nn : List Str} {vs : List V} {t : TQA} {H : Hp} {E : XK} {T : Type} {P : Pro T} {N : Nat} {γ : T}
def StartY (t : TQA) (T : Type) (P : Pro T) (N : Nat) (γ : T) (σ : L2.St) (H : Hp) : Prop := t T P (endQ P) N γ σ H
theorem yfn_run {F : List D → GT Unit} (h : spY K Tb F vs H E T P N γ) (hs : ∀ p c ds, ds.length = vs.length → S0 ⟨K, Tb, p, c⟩ E (ds.map Sl.fz ++ List.replicate (Nn.length - ds.length) Sl.no) t (F ds)) : StartY t T P N γ (L2.start Nn vs) H := by
  obtain ⟨p, c, ds, Y, dn, hh, wd, u, hl, hk, q⟩ := h
  have ss := hs p c ds dn.length.symm
  have no : ∀ i a, ¬ OwnAt (L2.start Nn vs) (ds.map Sl.fz ++ List.replicate (Nn.length - ds.length) Sl.no) i a := fun i a ⟨_, z⟩ => by
    have : ∀ s : Sl, (ds.map Sl.fz ++ List.replicate (Nn.length - ds.length) Sl.no)[i]? = some s → (∃ d, s = .fz d) ∨ s = .no := fun s e => by
      have m := List.mem_of_getElem? e
      rcases List.mem_append.mp m with m | m
      · obtain ⟨d, _, e⟩ := List.mem_map.mp m
        exact .inl ⟨d, e.symm⟩
      · exact .inr (List.mem_replicate.mp m).2
    rcases z with ⟨x, z⟩ | ⟨x, y, z⟩
    · rcases this _ z with ⟨d, e⟩ | e <;> cases e
    · rcases this _ z with ⟨d, e⟩ | e <;> cases e
  refine ss T P N Y γ (Y.U γ) _ H ⟨rel_start dn, wd, u, fun _ z => z, fun i a z => (no i a z).elim, fun a o z _ _ _ => by rw [hh] at z; exact z, fun i ds' a z1 z2 => (no i a ⟨z2, .inl ⟨ds', z1⟩⟩).elim, fun i c fs a _ z1 z2 => (no i a ⟨z2, .inr ⟨c, fs, z1⟩⟩).elim⟩ hl hk fun hc => ?_
  rw [hh]
  exact q hc
theorem yfn_of2 {F : D → D → GT Unit} (h : spY K Tb (yl2 F) vs H E T P N γ) (hv : vs.length = 2) (hs : ∀ p c x y, S0 ⟨K, Tb, p, c⟩ E ([x, y].map Sl.fz ++ List.replicate (Nn.length - 2) Sl.no) t (F x y)) : StartY t T P N γ (L2.start Nn vs) H :=
  yfn_run h fun p c ds hd => by
    match ds, hd.trans hv with
    | [x, y], _ => exact hs p c x y
end
section
variable {P : Program} {w : World} {K : PySem.W.Frag} {mg : Str → Option Value} {base : Heap}
theorem fnYQ {k : Nat} {f : Addr} {fd : FuncData} {ps N : List Str} {sp : List V → Hp → XK → SpQ} {dvs : List V} {x qual : Str} {params : Arguments} {body : List Stmt} {scope : Scope} {kws : List (Str × V)}
    (F : FunD K x qual params body scope dvs kws f fd) (S : GScope N ps scope) (hnc : ∀ n x c, (cellsFrom n scope.names []).lookup x = some c → False)
    (hbody : ∀ (cdv : Value) (A : Around) (outer : List PySem.Env) (s : Shared) (H : Hp) (vs : List V) (E : XK) (pn : List (Addr × Obj)), Room k (A.deeper (envOfC qual scope s.heap.objs.size f cdv)) → vs.length = ps.length →
      ∃ t : TQA, (∀ T, Q0 T (gcxOf P w K mg base N qual scope f cdv A outer s H E pn) body (t T)) ∧ ∀ {H2 : Hp} (T : Type) (Pr : Pro T) (M : Nat) (γ : T), sp vs H2 E T Pr M γ → Pr.hp γ = H2 → StartY t T Pr M γ (L2.start N vs) H2) : QFn P w K mg base (k + 1) f fd ps sp := by
  obtain ⟨oc, od, dV, kV, doc, pm, an, cdv, ct, osl, rfl, lk, hcd, _, _⟩ := F.ex
  exact qfn_of lk hcd S hnc fun A outer s H vs E pn T Pr M γ hr h hl => by
    obtain ⟨t, h1, h2⟩ := hbody cdv A outer s H vs E pn hr hl
    exact ⟨t T, h1 T, h2 T Pr M γ h rfl⟩
end
def SGen (g : Gw) (E E' : XK) (ε : Env) (tq : TQG) (m : Tr (GT Unit)) : Prop := ∀ U σ H b R, Rel g U H σ ε → Wd g H b → UOk g U H →
  Al (fun (gt : GT Unit) b' => ∀ (sp : SpH) H', (∀ (T : Type) (P : Pro T) N γ (Y : PY g gt.out N P), Ev U H' (Y.U γ) (P.hp γ) → UOk g (Y.U γ) (P.hp γ) → Wd g (P.hp γ) (Y.B γ) → Y.B γ = b' → gt.out.length ≤ N → ((∃ u, gt.res = .ok u) → Y.ok) → ((gt.out = [] ∨ gt.out.length < N) → endOk g (Y.U γ) (P.hp γ) E' b' gt) → sp (P.hp γ) T P N γ) → Wd g H' b' → UOk g U H' → Fr H H' g.p → R sp H') (exP g U E H) m b → tq σ H R
section
variable {g : Gw} {E E' : XK} {W W' L : Type} {ε : Env} {env : W → Env} {envL : L → Env} {u tb : TS} {t : TA} {mt : Tr (List D)} {tx : TE} {ma : Tr D}
theorem spY_of {F : List D → GT Unit} {U : Addr → Prop} {H : Hp} {b : Nat} {vs : List V} {ds : List D} (dn : DenL g U H vs ds) {T : Type} {P : Pro T} {N : Nat} {γ : T} (Y : PY g (F ds).out N P) (ev : Ev U H (Y.U γ) (P.hp γ)) (u : UOk g (Y.U γ) (P.hp γ)) (w : Wd g (P.hp γ) (Y.B γ)) (h2 : Y.B γ = b) (h4 : (F ds).out.length ≤ N) (h5 : (∃ u, (F ds).res = .ok u) → Y.ok)
    (h6 : ((F ds).out = [] ∨ (F ds).out.length < N) → endOk g (Y.U γ) (P.hp γ) E b (F ds)) : spY g.K g.T F vs (P.hp γ) E T P N γ := by
  subst h2
  exact ⟨g.p, g.c, ds, Y, dn.ev ev, rfl, w, u, h4, h5, h6⟩
theorem sgen_meth {F : List D → GT Unit} {n : Nat} {c m : Str} {dvs : List V} {dds : List D} (hd : ∀ U H, DenL g U H dvs dds) (ha : SE g E ε tx ma) (ht : SA g E ε t mt) : SGen g E E' ε (tMethQ (gd c g.K) m (spY g.K g.T F) n dvs E' tx t) (bd ma fun o => isO c o fun fs => if fs.lookup m = none then bd mt fun ds => if (o :: (ds ++ dds)).length = n then .ok (F (o :: (ds ++ dds))) else .bad else .bad) := fun U σ H b R r w u q =>
  ha U σ H b _ r w u ((al_bd.mp q).mono (fun o b1 h1 v H1 d1 w1 f1 => by
    obtain ⟨fs, rfl, q2⟩ := al_isO h1
    obtain ⟨a, dx, fvs, rfl, ea, na, df⟩ := den_obj d1
    split at q2
    · rename_i e
      have u1 := u.fr f1 w1
      refine ⟨a, dx, fvs, rfl, ea, df.look0 e, ht U σ H1 b1 _ (r.fr u f1) w1 u1 ((al_bd.mp q2).mono (fun ds b2 h2 vs H2 dn w2 f2 => ?_) (fun _ _ _ h => h.fr f1))⟩
      split at h2
      · rename_i hl
        have u2 := u1.fr f2 w2
        have dn2 : DenL g U H2 (.ref a :: (vs ++ dvs)) (.obj c fs :: (ds ++ dds)) := .cons (d1.fr u1 f2) (dn.append (hd U H2))
        exact ⟨by rw [dn2.length]; exact hl, h2 _ H2 (fun T P N γ Y e0 e1 e2 e3 e4 e5 e6 => spY_of dn2 Y e0 e1 e2 e3 e4 e5 e6) w2 u2 (f1.trans f2)⟩
      · exact h2.elim
    · exact q2.elim) (fun _ _ _ h => h))
abbrev CT : Type := (Addr → Prop) × Hp × Nat
def conP (g : Gw) (m : GT Unit) (N : Nat) : Pro CT where
  hp γ := γ.2.1
  src _ s := s
  out n γ x H2 := ∃ d : D, m.out[N - n]? = some d ∧ n ≤ N ∧ Den g γ.1 H2 x d ∧ Wd g H2 γ.2.2 ∧ Fr γ.2.1 H2 g.p
  lk n γ H2 γ' := 0 < n ∧ Ev γ.1 H2 γ'.1 γ'.2.1 ∧ UOk g γ'.1 γ'.2.1 ∧ Wd g γ'.2.1 γ'.2.2
  fin n γ H2 := (∃ u, m.res = .ok u) ∧ n + m.out.length = N + 1 ∧ Wd g H2 γ.2.2 ∧ Fr γ.2.1 H2 g.p
end
end Gp
end
section
namespace Gp
open PySem PySem.Spec PyProof.Rows L2 Gh Gz
def PromQ (P : Program) (w : World) (K : PySem.W.Frag) (mg : Str → Option Value) (base : Heap) (k : Nat) (f : Addr) (n : Nat) (dvs : List V) (sp : List V → Hp → XK → SpQ) : Prop := ∃ (fd : FuncData) (ps : List Str) (ds : List Value), ps.length = n ∧ QFn P w K mg base k f fd ps sp ∧ Binds K fd ps ds ∧ Vals dvs ds
section
variable {X : Cx} {k n : Nat} {f C : Addr} {sp : List V → Hp → XK → SpQ} {dvs : List V} {x m : Str} {p pos pos' apos : Pos} {o : Expr} {ta : TE} {E : XK}
theorem pq_m {e : Expr} {es : List Expr} {t : TA} {pl : Sem Bool} (he : PE X o ta) (c : Cls X.K C) (hm : Meth X.K C m f) (F : PromQ X.prog X.w X.K X.mg X.base k f n dvs sp) (hr : Room k X.A) (ha : PA X (e :: es) t)
    (hst : starEach (e :: es) X.env = (false, eval e X.env) :: starEach es X.env := by rfl) (hpl : (backTo pos' (starEach es X.env)).any (·.1) = false := by rfl)
    (ht : eval (.Call (.Attribute o m apos) (e :: es) [] pos') X.env = (do
      let ov ← eval o X.env
      standAt apos.atName
      let (f, first) ← holding [ov] (getMethod ov m pl)
      callWith pos' f first (backTo pos' (starEach (e :: es) X.env)) (backToKw pos' (keywordEach [] X.env))) := by rfl) :
    PQ X k (.Call (.Attribute o m apos) (e :: es) [] pos') (tMethQ C m sp n dvs E ta t) E := by
  obtain ⟨fd, ps, ds, rfl, G, hb, hd⟩ := F
  exact pq_meth he c hm G hr hb hd ha hst hpl ht
end
end Gp
end
section
namespace Gz
open PySem PySem.Spec PyProof.Rows L2 GenW Gh
def tListQ (tq : TQG) : TE := fun σ H Q => tq σ H fun sp H1 => ∃ (T : Type) (P : Pro T) (N : Nat) (γ0 : Addr → T) (I : Addr → Nat → T → List V → Prop),
  (∀ S, H1 S = none → P.hp (γ0 S) = upd H1 S (.lst []) ∧ (∀ o, sp (P.hp (γ0 S)) (T × Option Shared) (wrapP P) (N + 1) (γ0 S, o)) ∧ I S N (γ0 S) []) ∧
  (∀ S n γ ys x H2, I S n γ ys → P.out n γ x H2 → H2 S = some (.lst ys) ∧ ys.length < sizeLine ∧ ∃ m γ', n = m + 1 ∧ P.hp γ' = upd H2 S (.lst (ys ++ [x])) ∧ P.lk n γ H2 γ' ∧ I S m γ' (ys ++ [x])) ∧
  (∀ S n γ ys H2, I S n γ ys → P.fin (n + 1) γ H2 → H2 S = some (.lst ys) ∧ Q (.ref S) H2)
section
variable {T : Type} {X XG : Cx} {pins : List (Addr × Obj)} {P : Pro T} {sc s : Shared} {a : Addr} {g N : Nat} {A : Around} {H1 : Hp} {E : XK} {σ1 : L2.St} {S : Addr} {res : Value}
theorem drainQ {R : Result → Shared → Prop} {I : Nat → T → List V → Prop} {Q : VK} (gx : GX XG X.prog X.w X.base X.stack a g sc.heap.objs.size) (I1 : Inv X pins σ1 H1 sc) (hns : NoStop X.K E) (hh : A.handled = none) (hroom : A.depth < recursionLimit)
    (hitem : ∀ n γ ys x H2, I n γ ys → P.out n γ x H2 → H2 S = some (.lst ys) ∧ ys.length < sizeLine ∧ ∃ m γ', n = m + 1 ∧ P.hp γ' = upd H2 S (.lst (ys ++ [x])) ∧ P.lk n γ H2 γ' ∧ I m γ' (ys ++ [x]))
    (hend : ∀ n γ ys σ2 H2 s', I n γ ys → P.fin (n + 1) γ H2 → σ2 = σ1 → Inv X pins σ2 H2 s' → R (.ok (.ret res)) s')
    (herr : ∀ e s4, CX X.prog X.w X.stack H1 sc E e s4 → R (.error e) s4) :
    ∀ (n : Nat) (s : Shared), PullS X pins P (fun n γ σ => σ = σ1 ∧ ∃ ys, I n γ ys) sc XG a g A.in1 H1 E N n s →
      codeAny (model X.prog X.w) A (.builtin "list.extend.loop" ⟨[.ref S, .ref a, res], []⟩) R s := by
  intro n
  induction n with
  | zero =>
    intro s h
    refine codeAny_builtin F.entry_extend_loop ?_
    rw [Around.under_plainId F.plain_extend_loop _]
    show wpAny _ A.in1 (pyNext (.ref a) >>= _) _ _ s
    refine wpAny_bind (pull (A := A.in1) gx I1 hns hh hroom h (fun γ σ2 x H4 v s4 pl hI J6 rv hout hgen again => ?_) (fun γ σ2 H4 s4 hI J hfin => ?_) (fun e s4 hc => herr e s4 hc))
    · obtain ⟨rfl, ys, hI⟩ := hI
      obtain ⟨_, _, m, γ', e, _⟩ := hitem _ _ _ _ _ hI hout
      cases e
    · obtain ⟨e, ys, hI⟩ := hI
      exact wpAny_pure (hend _ _ _ _ _ _ hI hfin e J)
  | succ n ih =>
    intro s h
    refine codeAny_builtin F.entry_extend_loop ?_
    rw [Around.under_plainId F.plain_extend_loop _]
    show wpAny _ A.in1 (pyNext (.ref a) >>= _) _ _ s
    refine wpAny_bind (pull (A := A.in1) gx I1 hns hh hroom h (fun γ σ2 x H4 v s4 pl hI J6 rv hout hgen again => ?_) (fun γ σ2 H4 s4 hI J hfin => ?_) (fun e s4 hc => herr e s4 hc))
    · obtain ⟨rfl, ys, hI⟩ := hI
      obtain ⟨hS, hlen, m, γ', e, hhp, hlk, hI'⟩ := hitem _ _ _ _ _ hI hout
      cases e
      obtain ⟨_, its, c, vs, hS1⟩ := (show ObjOk X.prog X.w H4 s4.heap S (.lst ys) from J6.hok S _ hS)
      have hasz : its.toArray.size < sizeLine := by rw [List.size_toArray, ← vs.length]; exact hlen
      show wpAny _ A.in1 (updateSeq S (·.push v) >>= _) _ _ _
      refine wpAny_bind ?_
      refine wpAny_updateSeq hS1 rfl (wpAny_pure ⟨plainId_quiet F.plain_extend_loop _, ?_⟩) (Nat.le_of_lt hasz) (by show (its.toArray.push v).size ≤ sizeLine + 1; rw [Array.size_push]; omega)
      have keep3 : ∀ b o, b ≠ S → s4.heap.get? b = some o → (s4.heap.update S (Obj.mapSeq (·.push v))).get? b = some o := fun b o hbS e => (Heap.get?_update_other _ _ (Ne.symm hbS)).trans e
      have hS2 := Heap.get?_update_self (Obj.mapSeq (·.push v)) hS1 rfl
      have J7 : Inv X (pins ++ pl) σ2 (upd H4 S (.lst (ys ++ [x]))) { s4 with heap := s4.heap.update S (Obj.mapSeq (·.push v)) } := J6.write (t' := s4.toks) (by rw [hS]; trivial) (.inl rfl) keep3 ⟨_, hS2⟩ (by
        have e3 : ∃ c', (s4.heap.update S (Obj.mapSeq (·.push v))).get? S = some { cls := .type "list", data := .seq (its ++ [v]).toArray c' } := by
          rw [show (its ++ [v]).toArray = its.toArray.push v by simp]
          exact ⟨_, hS2⟩
        obtain ⟨c', e3⟩ := e3
        exact ⟨by rw [List.length_append]; exact hlen, its ++ [v], c', vs.append (.cons rv .nil), e3⟩)
      exact ih _ (again σ2 _ _ J7 Sleep.refl n γ' rfl hhp hlk ⟨rfl, _, hI'⟩)
    · obtain ⟨e, ys, hI⟩ := hI
      exact wpAny_pure (hend _ _ _ _ _ _ hI hfin e J)
theorem call_list_newQ {k : Nat} {u : Value} {sp : SpH} {σ : L2.St} {s1 : Shared} {Q : VK} {Q' : Value → Shared → Prop} {Ex : Value → Shared → Prop} (I1 : Inv X pins σ H1 sc) (hG : GMadeQ X.prog X.w X.base k X.stack H1 sc sp E u s1) (hns : NoStop X.K E) (hr : Room (k + 3) X.A) (hq : ∃ (T : Type) (P : Pro T) (N : Nat) (γ0 : Addr → T) (I : Addr → Nat → T → List V → Prop),
  (∀ S, H1 S = none → P.hp (γ0 S) = upd H1 S (.lst []) ∧ (∀ o, sp (P.hp (γ0 S)) (T × Option Shared) (wrapP P) (N + 1) (γ0 S, o)) ∧ I S N (γ0 S) []) ∧
  (∀ S n γ ys x H2, I S n γ ys → P.out n γ x H2 → H2 S = some (.lst ys) ∧ ys.length < sizeLine ∧ ∃ m γ', n = m + 1 ∧ P.hp γ' = upd H2 S (.lst (ys ++ [x])) ∧ P.lk n γ H2 γ' ∧ I S m γ' (ys ++ [x])) ∧
  (∀ S n γ ys H2, I S n γ ys → P.fin (n + 1) γ H2 → H2 S = some (.lst ys) ∧ Q (.ref S) H2))
    (hQ : ∀ S H2 s', Inv X pins σ H2 s' → Q (.ref S) H2 → Q' (.ref S) s') (herr : ∀ e s4, CX X.prog X.w X.stack H1 sc E e s4 → Ex e s4) :
    wpAny (model X.prog X.w) X.A (call (.type "list") [u]) Q' Ex s1 := by
  obtain ⟨T, P, N, γ0, I, q0, q1, q2⟩ := hq
  obtain ⟨a, g, XG, rfl, hg, ha1, hkp, hos, hb, hl, gx, first⟩ := pull_first (T := T) (P := P) (N := N) (A := X.A.in1.in1) (I := fun n γ σ' => σ' = σ ∧ ∃ ys, I s1.heap.objs.size n γ ys) (s1 := s1) (s2 := s1) I1 hG ⟨hr.hd, by have := hr.dp; show X.A.depth + 3 * k + 5 < _; omega, by have := hr.un; show X.A.units + 1 + 1 + 1 + 16 * k + 200 < _; omega⟩ I1.ok.frames
  have J1 : Inv X pins σ H1 s1 := I1.call' (ch := []) hos (Un.kept hkp) (I1.hok.kept hkp) hb fun b z => by simp at z
  have ha2 : a < s1.heap.objs.size := by
    obtain ⟨o, nm, qn, ho, _⟩ := id hg
    exact Heap.lt_size ho
  have hSa : s1.heap.objs.size ≠ a := Nat.ne_of_gt ha2
  refine callType_codes (Q₁ := fun obj s₁ => obj = .ref s1.heap.objs.size ∧ s₁ = { s1 with heap := s1.heap.push { cls := .type "list", data := .seq #[] } }) F.called_list (F.typeCall_list_1 _) F.entry_list_init
    (code_list_new _ ⟨rfl, rfl⟩) fun obj s₁ h₁ => ?_
  obtain ⟨rfl, rfl⟩ := h₁
  have hS : (s1.heap.push { cls := .type "list", data := .seq #[] }).get? s1.heap.objs.size = some { cls := .type "list", data := .seq #[] } := Heap.get?_push_size _ rfl
  refine ⟨⟨_, hS, rfl⟩, F.args_list_init_2 _ _, ?_⟩
  show wpAny _ X.A.in1.in1 (do let old ← Builtin.List.listItems (.ref s1.heap.objs.size); Builtin.List.listUpdate (.ref s1.heap.objs.size) (fun _ => #[]); letGo old.toList.reverse; Builtin.List.listExtendWith (.ref s1.heap.objs.size) (.ref a) .none) _ _ _
  refine wpAny_bind ?_
  unfold Builtin.List.listItems
  refine wpAny_bind (wpAny_seqItems hS rfl (wpAny_pure ?_))
  show wpAny _ X.A.in1.in1 (updateSeq s1.heap.objs.size (fun _ => #[]) >>= fun _ => letGo (#[] : Array Value).toList.reverse >>= fun _ => Builtin.List.listExtendWith (.ref s1.heap.objs.size) (.ref a) .none) _ _ _
  refine wpAny_bind (wpAny_updateSeq hS rfl ?_)
  have hS2 := Heap.get?_update_self (Obj.mapSeq (fun _ => (#[] : Array Value))) hS rfl
  refine wpAny_bind (wpAny_letGo ?_)
  unfold Builtin.List.listExtendWith
  have up : ∀ (h : Heap) (f : Obj → Obj), (∀ b o, s1.heap.get? b = some o → h.get? b = some o) → ∀ b o, s1.heap.get? b = some o → (h.update s1.heap.objs.size f).get? b = some o := fun h f q b o e =>
    (Heap.get?_update_other _ _ (Ne.symm (Nat.ne_of_lt (Heap.lt_size e)))).trans (q b o e)
  have k1 : ∀ b o, s1.heap.get? b = some o → (s1.heap.push { cls := .type "list", data := .seq #[] }).get? b = some o := fun b o e => Heap.get?_push_of_some _ e
  have k2 := up _ (Obj.mapSeq (fun _ => (#[] : Array Value))) k1
  have gty : ∀ {h : Heap}, (∀ b o, s1.heap.get? b = some o → h.get? b = some o) → h.IsGen a g := fun {h} q => hg.keeps q
  refine wpAny_bind (wpAny_typeOf (Heap.IsGen.typeIs (s := { s1 with heap := _ }) (gty k2)) ?_)
  have h1 : Builtin.List.listSameRef (.ref s1.heap.objs.size) (.ref a) = false := by simp [Builtin.List.listSameRef, hSa]
  have h2 : (Value.type "generator" == Value.type "list") = false := by decide
  have h3 : (Value.type "generator" == Value.type "tuple") = false := by decide
  simp only [h1, h2, h3, Bool.or_false, Bool.false_eq_true, if_false]
  refine wpAny_bind (wpAny_pyIter_gen (s := { s1 with heap := _ }) (gty k2) ?_)
  refine wpAny_bind (wpAny_holding ?_)
  unfold Builtin.List.listLengthHint
  refine wpAny_bind (wpAny_specialOf (Heap.IsGen.typeIs (s := { s1 with heap := _ }) (gty k2)) F.gen_no_len ?_)
  show wpAny _ X.A.in1.in1 (specialOf (Value.ref a) (Str.ofString "__length_hint__") >>= _) _ _ _
  refine wpAny_bind (wpAny_specialOf (Heap.IsGen.typeIs (s := { s1 with heap := _ }) (gty k2)) F.gen_no_hint ?_)
  refine wpAny_pure ?_
  show wpAny _ X.A.in1.in1 (rule "list.extend.makes-room" >>= fun _ => Builtin.List.listTouch (.ref s1.heap.objs.size) >>= fun _ =>
    again (.builtin "list.extend.loop" ⟨[.ref s1.heap.objs.size, .ref a, .none], []⟩)) _ _ _
  refine wpAny_bind (wpAny_rule ?_)
  refine wpAny_bind ?_
  show wpAny _ X.A.in1.in1 (updateSeq s1.heap.objs.size (·.push .none) >>= fun _ => updateSeq s1.heap.objs.size (·.pop)) _ _ _
  refine wpAny_bind (wpAny_updateSeq hS2 rfl ?_)
  have hS3 := Heap.get?_update_self (Obj.mapSeq (·.push Value.none)) hS2 rfl
  refine wpAny_updateSeq (hz := by seq_fits) hS3 rfl ?_
  have hS4 := Heap.get?_update_self (Obj.mapSeq (·.pop)) hS3 rfl
  have k4 := up _ (Obj.mapSeq (·.pop)) (up _ (Obj.mapSeq (·.push Value.none)) k2)
  refine wpAny_pure ⟨plainId_quiet F.plain_extend_loop _, ?_⟩
  have hn : H1 s1.heap.objs.size = none := J1.hok.fresh (Nat.le_refl _)
  obtain ⟨p1, p2, p3⟩ := q0 _ hn
  have J4 := J1.laid (t' := s1.toks) (o := .lst []) k4 (Nat.le_refl _) (by exact ⟨Nat.zero_le _, [], _, .nil, hS4⟩)
  refine drainQ (S := s1.heap.objs.size) (A := X.A.in1) (res := .none) (I := I s1.heap.objs.size) (Q := Q) gx I1 hns hr.hd (by have := hr.dp; show X.A.depth < _; omega) (q1 _) (fun n γ ys σ2 H2 s' hI hfin e J => ?_) herr N _ (first _ (γ0 _) k4 rfl hb rfl ?_ ?_ ⟨rfl, _, p3⟩ p2)
  · subst e
    obtain ⟨z1, z2⟩ := q2 _ _ _ _ _ hI hfin
    exact ⟨rfl, hQ _ _ _ J z2⟩
  · exact .one ⟨_, _, Nat.le_refl _, hn, fun _ z => (by cases z), fun _ _ z => (by cases z), fun _ z => (by cases z), p1⟩
  · rw [p1]
    exact J4
variable {k : Nat} {tq : TQG}
theorem pe_listQ {e : Expr} {nm : Str} {p pos : Pos} (h : PQ X k e tq E) (hx : Passes (CX X.prog X.w) X E) (hns : NoStop X.K E) (hr : Room (k + 3) X.A) (hg : Gl X nm) (hmg : X.mg nm = none) (hv : bootBuiltins nm = some (.type "list")) (hnm : nm ≠ "__name__" := by decide) (hdb : (nm == ("__debug__" : Str)) = false := by decide)
    (he : starEach [e] X.env = (false, eval e X.env) :: starEach [] X.env := by rfl) : PE X (.Call (.Name nm p) [e] [] pos) (tListQ tq) := by
  refine ⟨fun pins s σ H Q I hq => ?_⟩
  refine wpAny_Call_Name_kw (ld_blt I hg hmg hv ?_ hnm hdb)
  refine PyProof.Rows.callWith_type1 ?_ he rfl
  rw [he]
  show wpAny _ _ (spliced ((false, eval e X.env) :: backTo pos (starEach [] X.env))) _ _ s
  refine Calls.spliced_cons (thn (h.run pins s σ H _ I hq) fun u s1 ⟨H1, sc, sp, I1, hG, hq1⟩ => ?_)
  refine Calls.spliced_nil ?_
  exact call_list_newQ I1 hG hns hr hq1 (fun S H2 s' J q => ⟨.ref S, H2, J, rfl, q⟩) fun e s4 hc => hx pins σ H1 sc e _ I1 hc
end
end Gz
end
section
namespace Gp
open PySem PySem.Spec PyProof.Rows L2 Gh Gz
section
variable {g : Gw} {E E' : XK} {ε : Env} {U : Addr → Prop} {H1 : Hp} {b1 : Nat}
theorem us_ok {S : Addr} {o : HO} (u : UOk g U H1) (n : H1 S = none) (nt : Nt o) : UOk g (fun a => U a ∨ a = S) (upd H1 S o) := by
  have nU := u.new n
  refine ⟨.inl u.p, .inl u.c, fun a z => ?_⟩
  rcases z with z | z
  · obtain ⟨o', e, q⟩ := u.al a z
    exact ⟨o', by rw [upd_ne (ne_of_none e n)]; exact e, q⟩
  · subst z
    exact ⟨o, upd_same, nt⟩
theorem us_ev {S : Addr} {o : HO} (n : H1 S = none) : Ev U H1 (fun a => U a ∨ a = S) (upd H1 S o) := by
  refine ⟨fun a o' e h _ => by rw [upd_ne (ne_of_none e n)]; exact e, fun a o' e h _ z => ?_⟩
  rcases z with z | z
  · exact h z
  · exact absurd z (ne_of_none e n)
theorem us_exP {S : Addr} {o : HO} {c : Str} {fs : Fs} (n : H1 S = none) (h : exP g U E H1 c fs b1) : exP g (fun a => U a ∨ a = S) E (upd H1 S o) c fs b1 := fun dd fvs H' h1 h2 h3 h4 h5 =>
  h dd fvs H' h1 (fun z => h2 (.inl z)) (h3.sub fun a _ z => .inl z) h4 ((fr_same (same_new n)).trans h5)
theorem us_end {S : Addr} {o : HO} {m : GT Unit} (n : H1 S = none) (h : endOk g U H1 E b1 m) : endOk g (fun a => U a ∨ a = S) (upd H1 S o) E b1 m := by
  unfold endOk at h ⊢
  cases e : m.res with
  | ok a => trivial
  | ex c fs =>
    rw [e] at h
    exact ⟨h.1, us_exP n h.2⟩
  | bad => rw [e] at h; exact h
  | draw _ _ => rw [e] at h; exact h
theorem listQ_core {sp : SpH} {m : GT Unit} {Q : VK} (u1 : UOk g U H1) (w1 : Wd g H1 b1)
    (hsp : ∀ (T : Type) (P : Pro T) N γ (Y : PY g m.out N P), Ev U H1 (Y.U γ) (P.hp γ) → UOk g (Y.U γ) (P.hp γ) → Wd g (P.hp γ) (Y.B γ) → Y.B γ = b1 → m.out.length ≤ N → ((∃ u, m.res = .ok u) → Y.ok) → ((m.out = [] ∨ m.out.length < N) → endOk g (Y.U γ) (P.hp γ) E' b1 m) → sp (P.hp γ) T P N γ)
    (hlen : m.out.length ≤ sizeLine) (hend : endOk g U H1 E' b1 m) (hQ : (∃ u, m.res = .ok u) → okP g U H1 Q (.lst m.out) b1) :
    ∃ (T : Type) (P : Pro T) (N : Nat) (γ0 : Addr → T) (I : Addr → Nat → T → List V → Prop),
      (∀ S, H1 S = none → P.hp (γ0 S) = upd H1 S (.lst []) ∧ (∀ o, sp (P.hp (γ0 S)) (T × Option Shared) (wrapP P) (N + 1) (γ0 S, o)) ∧ I S N (γ0 S) []) ∧
      (∀ S n γ ys x H2, I S n γ ys → P.out n γ x H2 → H2 S = some (.lst ys) ∧ ys.length < sizeLine ∧ ∃ m γ', n = m + 1 ∧ P.hp γ' = upd H2 S (.lst (ys ++ [x])) ∧ P.lk n γ H2 γ' ∧ I S m γ' (ys ++ [x])) ∧
      (∀ S n γ ys H2, I S n γ ys → P.fin (n + 1) γ H2 → H2 S = some (.lst ys) ∧ Q (.ref S) H2) := by
  let N := m.out.length
  let T := CT
  let P : Pro T := conP g m N
  let Y : PY g m.out (N + 1) (wrapP P) := PY.mk (fun γ => γ.1.1) (fun γ => γ.1.2.2) (∃ u, m.res = .ok u)
    (fun n γ x H2 d hn e dn w f => ⟨d, (by rw [show N - n = N + 1 - (n + 1) by omega]; exact e), (by omega), dn, w, f⟩) (fun n γ H2 γ' h => h) (fun n γ H2 ho hn w f => ⟨ho, hn, w, f⟩)
  let Us : Addr → Addr → Prop := fun S a => U a ∨ a = S
  refine ⟨T, P, N, fun S => (Us S, upd H1 S (.lst []), b1), fun S n γ ys => H1 S = none ∧ n ≤ N ∧ γ.1 = Us S ∧ γ.2.2 = b1 ∧ γ.2.1 S = some (.lst ys) ∧ DenL g (Us S) γ.2.1 ys (m.out.take (N - n)) ∧ UOk g (Us S) γ.2.1 ∧ Fr H1 γ.2.1 g.p, fun S hS => ?_, fun S n γ ys x H2 hI ho => ?_, fun S n γ ys H2 hI hf => ?_⟩
  · have sm := same_new (o := .lst []) hS
    have w2 := w1.same sm
    have u2 : UOk g (Us S) (upd H1 S (.lst [])) := us_ok u1 hS ⟨(fun _ z => by cases z), (fun _ z => by cases z)⟩
    refine ⟨rfl, fun o => hsp _ (wrapP P) (N + 1) ((Us S, upd H1 S (.lst []), b1), o) Y (us_ev hS) u2 w2 rfl (Nat.le_succ _) (fun z => z) (fun _ => us_end hS hend), hS, Nat.le_refl _, rfl, rfl, upd_same, ?_, u2, fr_same sm⟩
    rw [Nat.sub_self, List.take_zero]
    exact .nil
  · obtain ⟨hS, hn, e1, e2, e3, dn, u2, fr⟩ := hI
    obtain ⟨d, hd, _, dx, w2, f2⟩ := ho
    rw [e1] at dx
    have hlt : N - n < m.out.length := (List.getElem?_eq_some_iff.mp hd).1
    have hpS : S ≠ g.p := fun z => by
      have := u1.new hS
      exact this (z ▸ u1.p)
    have e4 : H2 S = some (.lst ys) := f2 S _ e3 hpS (fun _ z => by cases z)
    have ly : ys.length = N - n := by rw [dn.length, List.length_take]; omega
    have hn1 : ∃ k, n = k + 1 := ⟨n - 1, by omega⟩
    obtain ⟨k, rfl⟩ := hn1
    have dn2 : DenL g (Us S) H2 (ys ++ [x]) (m.out.take (N - k)) := by
      rw [show N - k = N - (k + 1) + 1 by omega, List.take_succ, hd]
      exact (dn.ext (u2.extU f2)).append (.cons dx .nil)
    have u3 : UOk g (Us S) H2 := ⟨.inl u1.p, .inl u1.c, fun a z => by
      by_cases q : a = S
      · subst q
        exact ⟨_, e4, (fun _ z => by cases z), (fun _ z => by cases z)⟩
      · have zU : U a := z.elim id fun y => absurd y q
        by_cases qp : a = g.p
        · subst qp
          obtain ⟨ns, i, y, h1, _⟩ := w2.pen
          exact ⟨_, h1, (fun _ z => by cases z), (fun _ z => by cases z)⟩
        · obtain ⟨o, ha, nt⟩ := u2.al a z
          exact ⟨o, f2 a o ha qp nt.tbl, nt⟩⟩
    have ev : Ev (Us S) H2 (Us S) (upd H2 S (.lst (ys ++ [x]))) := ⟨fun a o e h _ => by rw [upd_ne (fun z => h (.inr z))]; exact e, fun a o e h _ => h⟩
    have u4 : UOk g (Us S) (upd H2 S (.lst (ys ++ [x]))) := ⟨.inl u1.p, .inl u1.c, fun a z => by
      by_cases q : a = S
      · subst q
        exact ⟨_, upd_same, (fun _ z => by cases z), (fun _ z => by cases z)⟩
      · obtain ⟨o, ha, nt⟩ := u3.al a z
        exact ⟨o, by rw [upd_ne q]; exact ha, nt⟩⟩
    have hcS : S ≠ g.c := fun z => by
      have := u1.new hS
      exact this (z ▸ u1.c)
    have kp : Gh.Keep H2 (upd H2 S (.lst (ys ++ [x]))) S := fun a o e ne => by rw [upd_ne ne]; exact e
    have w4 : Wd g (upd H2 S (.lst (ys ++ [x]))) γ.2.2 := ⟨w2.pen.keep kp hpS hcS, tabs_keepL kp e4 w2.tabs⟩
    refine ⟨e4, by omega, k, (Us S, upd H2 S (.lst (ys ++ [x])), b1), rfl, rfl, ⟨Nat.succ_pos k, ?_, ?_, ?_⟩, hS, by omega, rfl, rfl, upd_same, dn2.ev ev, u4, fun a o h h1 h2 => ?_⟩
    · rw [e1]; exact ev
    · exact u4
    · rw [← e2]; exact w4
    · show upd H2 S _ a = some o
      rw [upd_ne (ne_of_none h hS)]
      exact f2 a o (fr a o h h1 h2) h1 h2
  · obtain ⟨hS, hn, e1, e2, e3, dn, u2, fr⟩ := hI
    obtain ⟨hok, hnn, w2, f2⟩ := hf
    have hn0 : n = 0 := by omega
    subst hn0
    have hpS : S ≠ g.p := fun z => by
      have := u1.new hS
      exact this (z ▸ u1.p)
    have e4 : H2 S = some (.lst ys) := f2 S _ e3 hpS (fun _ z => by cases z)
    rw [Nat.sub_zero, List.take_length] at dn
    have dn2 : DenL g U H2 ys m.out := (dn.ext (u2.extU f2)).sub fun a _ z => .inl z
    refine ⟨e4, hQ hok _ H2 (.lst e4 (u1.new hS) (by rw [dn2.length]; exact hlen) dn2) (by rw [← e2]; exact w2) (fr.trans f2)⟩
theorem se_listQ0 {tq : TQG} {mg : Tr (GT Unit)} (lst : List Str) (hg : SGen g E E' ε tq mg)
    (he : ∀ {U : Addr → Prop} {H1 : Hp} {m : GT Unit} {b : Nat} {Q : D → Nat → Prop}, Al Q (exP g U E H1) (listY lst m) b → endOk g U H1 E' b m) : SE g E ε (tListQ tq) (bd mg (listY lst)) := fun U σ H b Q R w u q =>
  hg U σ H b _ R w u ((al_bd.mp q).mono (fun m b1 h1 sp H1 hsp w1 u1 f1 => by
    have h1' : Al (okP g U H1 Q) (exP g U E H1) (listY lst m) b1 := h1.mono (fun _ _ z => z.fr f1) (fun _ _ _ z => z.fr f1)
    have hend := he h1'
    have hq : (∃ u, m.res = .ok u) → m.out.length ≤ sizeLine ∧ okP g U H1 Q (.lst m.out) b1 := fun ⟨a, e⟩ => by
      have e2 : endY lst m = .ok () := by unfold endY; rw [e]
      unfold listY at h1'
      rw [e2] at h1'
      change Al _ _ (if m.out.length ≤ sizeLine then _ else _) b1 at h1'
      split at h1'
      · rename_i hl
        exact ⟨hl, h1'⟩
      · exact h1'.elim
    by_cases ho : m.out = []
    · exact listQ_core u1 w1 hsp (by rw [ho]; exact Nat.zero_le _) hend fun h => (hq h).2
    · have hr : ∃ a, m.res = .ok a := by
        unfold endOk at hend
        cases e : m.res with
        | ok a => exact ⟨a, rfl⟩
        | ex c fs => rw [e] at hend; exact absurd hend.1 ho
        | bad => rw [e] at hend; exact hend.elim
        | draw _ _ => rw [e] at hend; exact hend.elim
      exact listQ_core u1 w1 hsp (hq hr).1 hend fun h => (hq h).2) (fun _ _ _ h => h))
theorem se_listQn {tq : TQG} {mg : Tr (GT Unit)} (hg : SGen g E E' ε tq mg) : SE g E ε (tListQ tq) (bd mg (listY [])) :=
  se_listQ0 [] hg fun {U H1 m b Q} h => by
    unfold endOk
    unfold listY endY at h
    cases e : m.res with
    | ok a => trivial
    | ex c fs =>
      rw [e] at h
      dsimp only at h
      split at h
      · rename_i hc
        rw [Bool.and_eq_true] at hc
        cases hc.2
      · exact h.elim
    | bad => rw [e] at h; exact h.elim
    | draw _ _ => rw [e] at h; exact h.elim
end
section
variable {X : Cx} {k : Nat} {E : XK} {tq : TQG}
theorem pe_listY {e : Expr} {nm : Str} {p pos : Pos} {K : PySem.W.Frag} (hK : X.K = K) (h : PQ X k e tq (nsE K E)) (hx : Passes (L2.CX X.prog X.w) X E) (hr : Room (k + 3) X.A) (hg : Gl X nm) (hmg : X.mg nm = none) (hv : bootBuiltins nm = some (.type "list") := by rfl) (hnm : nm ≠ "__name__" := by decide) (hdb : (nm == ("__debug__" : Str)) = false := by decide)
    (he : starEach [e] X.env = (false, eval e X.env) :: starEach [] X.env := by rfl) : PE X (.Call (.Name nm p) [e] [] pos) (tListQ tq) := by
  subst hK
  exact pe_listQ h (pass_ns hx) noStop_ns hr hg hmg hv hnm hdb he
end
end Gp
end
section
namespace Gz
open PySem PySem.Spec PyProof.Rows L2 GenW Gh
section
variable {X : Cx} {To : Type} {pos : Pos}
end
end Gz
namespace Gp
open PySem PySem.Spec PyProof.Rows L2 Gh Gz
section
variable {W W' L : Type}
def forYG (f : D → W → GT (Fl W W)) (e : Tr Unit) : List D → W → GT (Fl W L)
  | [], w => match e with
    | .ok _ => ⟨[], .ok (.nx w)⟩
    | _ => ⟨[], .bad⟩
  | x :: xs, w => match (f x w).res with
    | .ok (.nx w') => ⟨(f x w).out ++ (forYG f e xs w').out, (forYG f e xs w').res⟩
    | .ok (.ct w') => ⟨(f x w).out ++ (forYG f e xs w').out, (forYG f e xs w').res⟩
    | .ok (.bk w') => ⟨(f x w).out, .ok (.nx w')⟩
    | _ => ⟨(f x w).out, .bad⟩
def yforG (mi : Tr (GT Unit)) (f : D → W → GT (Fl W W)) (w0 : W) : GT (Fl W L) := match mi with
  | .ok m => forYG f m.res m.out w0
  | _ => ⟨[], .bad⟩
end
section
variable {g : Gw} {W W' L : Type} {ε : Env} {env : W → Env} {envL : L → Env} {tb : TQA}
end
end Gp
end
section
namespace Gp
open PySem PySem.Spec PyProof.Rows L2 Gh Gz
section
variable {X : Cx} {CX : CXT} {k : Nat} {f g C : Addr} {E : XK} {m : Str} {apos pos : Pos} {o : Expr} {ta : TE} {tk : TA} {ks : List Str} {kws : List Keyword} {r : List V → List V → Hp → VK → Prop}
end
theorem denL_atO {g : Gw} {U : Addr → Prop} {H : Hp} {vs : List V} {ds : List D} (h : DenL g U H vs ds) : ∀ i : Nat, (vs[i]? = none ∧ ds[i]? = none) ∨ ∃ v d, vs[i]? = some v ∧ ds[i]? = some d ∧ Den g U H v d := by
  induction vs generalizing ds with
  | nil => cases h; exact fun i => .inl ⟨rfl, rfl⟩
  | cons v vs ih =>
    cases h with
    | cons a r =>
      intro i
      cases i with
      | zero => exact .inr ⟨_, _, rfl, rfl, a⟩
      | succ i => exact ih r i
theorem denL_picks {g : Gw} {U : Addr → Prop} {H : Hp} (l : List (Nat ⊕ Nat)) {dvs zs : List V} {dds es : List D} (h1 : DenL g U H dvs dds) (h2 : DenL g U H zs es) : DenL g U H (picks l dvs zs) (picks l dds es) := by
  induction l with
  | nil => exact .nil
  | cons z r ih =>
    unfold picks at ih ⊢
    rw [List.filterMap_cons, List.filterMap_cons]
    cases z with
    | inl i =>
      rcases denL_atO h2 i with ⟨e1, e2⟩ | ⟨x, v, e1, e2, rv⟩
      · simp only [e1, e2]; exact ih
      · simp only [e1, e2]; exact .cons rv ih
    | inr j =>
      rcases denL_atO h1 j with ⟨e1, e2⟩ | ⟨x, v, e1, e2, rv⟩
      · simp only [e1, e2]; exact ih
      · simp only [e1, e2]; exact .cons rv ih
section
variable {g : Gw} {E : XK} {ε : Env} {ta : TE} {ma : Tr D} {t tk : TA} {mt mk : Tr (List D)}
def SRK (g : Gw) (E : XK) (r : List V → List V → Hp → VK → Prop) (f : List D → List D → Tr D) : Prop := ∀ U H b vs zs ds es Q, DenL g U H vs ds → DenL g U H zs es → Wd g H b → UOk g U H → Al (okP g U H Q) (exP g U E H) (f ds es) b → r vs zs H Q
def kwD (n m : Nat) (l : List (Nat ⊕ Nat)) (dds : List D) (F : List D → Tr D) (ds es : List D) : Tr D := if ds.length = n ∧ es.length = m then F (ds ++ picks l dds es) else .bad
theorem se_mtK {c m : Str} {r : List V → List V → Hp → VK → Prop} {f : List D → List D → Tr D} (hr : SRK g E r f) (ha : SE g E ε ta ma) (ht : SA g E ε t mt) (hk : SA g E ε tk mk) :
    SE g E ε (tMtK (gd c g.K) m r ta t tk) (bd ma fun o => isO c o fun fs => if fs.lookup m = none then bd mt fun ds => bd mk fun es => f (o :: ds) es else .bad) := fun U σ H b Q R W u q =>
  ha.step R W u q fun v d H1 b1 d1 w1 f1 R1 u1 q1 => by
    obtain ⟨fs, rfl, q2⟩ := al_isO q1
    obtain ⟨a, dx, fvs, rfl, ea, na, df⟩ := den_obj d1
    split at q2
    · rename_i e
      refine ⟨a, dx, fvs, rfl, ea, df.look0 e, ?_⟩
      refine ht.step R1 w1 u1 q2 fun vs ds H2 b2 dn w2 f2 R2 u2 q3 => ?_
      refine hk.step R2 w2 u2 q3 fun zs es H3 b3 en w3 f3 R3 u3 q4 => ?_
      exact hr U H3 b3 (.ref a :: vs) zs (.obj c fs :: ds) es Q (.cons ((d1.fr u1 f2).fr u2 f3) (dn.fr u2 f3)) en w3 u3 (q4.mono (fun _ _ h => h.fr (f1.trans (f2.trans f3))) (fun _ _ _ h => h))
    · exact q2.elim
end
end Gp
end
section
namespace Gp
open PySem PySem.Spec PyProof.Rows L2 Gh
section
variable {X : Cx} {CX : CXT} {k n : Nat} {f C : Addr} {ks : List Str} {sp : Sp} {E : XK}
end
section
variable {g : Gw} {E : XK} {ε : Env} {tk : TA} {mk : Tr (List D)}
end
section
variable {K : PySem.W.Frag} {x qual : Str} {params : Arguments} {body : List Stmt} {scope : Scope} {dvs : List V} {f B : Addr} {file : Str} {fd : FuncData} {ps : List Str}
theorem SupF.kbN (F : SupF K x qual params body scope [] f B file fd) (n : Nat) (ks : List Str) (l : List (Nat ⊕ Nat))
    (h : ∀ (cl : List (Str × Addr)) (kV doc pm : Value) (an : Option Addr) (cdv ct : Value) (us ws : List Value), us.length = n → ws.length = ks.length → bindArgs (PySem.W.fnX x qual params body scope cl .none kV doc pm an cdv ct) ⟨us, ks.zip ws⟩ = pure (ps.zip (us ++ picks l [] ws))) :
    KBn K fd ps n ks (fun us ws => us ++ picks l [] ws) (fun vs zs => vs ++ picks l [] zs) := by
  obtain ⟨oc, od, dV, kV, doc, pm, an, cda, ct, osl, cc, rfl, lk, hcd, hD, _⟩ := F.ex
  rcases hD with ⟨_, rfl⟩ | ⟨e, _⟩
  · exact ⟨fun s us ws X l1 l2 => .of_eq (h _ kV doc pm an _ ct us ws l1 l2), fun r1 r2 => r1.append (picks_rel l .nil r2)⟩
  · exact absurd rfl e
end
end Gp
end
section
namespace Gp
open PySem PySem.Spec PyProof.Rows L2 Gh
theorem pe_popK {X : Cx} {o e : Expr} {to : TE} {t : TA} {apos cpos : Pos} {K : PySem.W.Frag} (hK : X.K = K) (ho : PE X o to) (ha : PA X [e] t)
    (hbase : attributeBase o "pop" X.env (eval o X.env) = eval o X.env := by rfl)
    (hfew : ((backTo cpos (starEach [e] X.env)).all (fun x => !x.1) && (backToKw cpos (keywordEach [] X.env)).all (fun x => x.1.isSome)
      && decide ([e].length + ([] : List Keyword).length + (if ([] : List Keyword).isEmpty then 0 else 1) < 30)) = true := by rfl)
    (hline : (apos.endLine == cpos.line) = true := by rfl) (hs : starEach [e] X.env = (false, eval e X.env) :: starEach [] X.env := by rfl) (hplain : (backTo cpos (starEach [] X.env)).any (·.1) = false := by rfl) :
    PE X (.Call (.Attribute o "pop" apos) [e] [] cpos) (tBM K "list" rPopAt to t) := by
  subst hK
  exact pe_bm PySem.F.plainAttrs_list PySem.F.slot_list_pop PySem.F.type_list_pop mt_popAt ho ha hbase hfew hline hs hplain
end Gp
namespace Gp
open PySem PySem.Spec PyProof.Rows L2 Gh
section
variable {g : Gw} {Mt U0 U : Addr → Prop} {H0 H : Hp} {b : Nat} {σ : L2.St} {ε : Env} {x : Option V} {y : Sl}
theorem rel_res (r : Rel g U H (σ ++ [x]) (ε ++ [y])) : Rel g U H σ ε := by
  have hl : σ.length = ε.length := by
    have := r.len
    rw [List.length_append, List.length_append] at this
    simpa using this
  refine ⟨hl, fun i s e => ?_, fun i j a n h1 h2 => ?_⟩
  · have hi := (List.getElem?_eq_some_iff.mp e).1
    obtain ⟨o, h1, h2⟩ := r.at_ i s (by rw [List.getElem?_append_left hi]; exact e)
    rw [List.getElem?_append_left (by rw [hl]; exact hi)] at h1
    exact ⟨o, h1, h2⟩
  · have up : ∀ {i : Nat}, OwnAt σ ε i a → OwnAt (σ ++ [x]) (ε ++ [y]) i a := fun {i} ⟨h1, h2⟩ => by
      have hi := (List.getElem?_eq_some_iff.mp h1).1
      refine ⟨by rw [List.getElem?_append_left hi]; exact h1, ?_⟩
      rw [List.getElem?_append_left (by rw [← hl]; exact hi)]
      exact h2
    exact r.apart i j a n (up h1) (up h2)
theorem get_ext {i : Nat} {s : Sl} (e : (ε ++ [Sl.no])[i]? = some s) : ε[i]? = some s ∨ i = ε.length ∧ s = .no := by
  by_cases hi : i < ε.length
  · rw [List.getElem?_append_left hi] at e
    exact .inl e
  · rw [List.getElem?_append_right (by omega)] at e
    have h0 : i - ε.length = 0 := by
      have := (List.getElem?_eq_some_iff.mp e).1
      simp at this
      omega
    rw [h0] at e
    exact .inr ⟨by omega, (Option.some.inj e).symm⟩
theorem own_ext (hl : σ.length = ε.length) {i : Nat} {a : Addr} (h : OwnAt (σ ++ [none]) (ε ++ [Sl.no]) i a) : OwnAt σ ε i a := by
  obtain ⟨h1, h2⟩ := h
  have hi : i < ε.length := by
    rcases h2 with ⟨d, e⟩ | ⟨c, f, e⟩
    · rcases get_ext e with z | ⟨_, z⟩
      · exact (List.getElem?_eq_some_iff.mp z).1
      · cases z
    · rcases get_ext e with z | ⟨_, z⟩
      · exact (List.getElem?_eq_some_iff.mp z).1
      · cases z
  rw [List.getElem?_append_left (by omega)] at h1
  rw [List.getElem?_append_left hi] at h2
  exact ⟨h1, h2⟩
theorem stt_ext (s : Stt g Mt U0 H0 U σ H b ε) : Stt g Mt U0 H0 U (σ ++ [none]) H b (ε ++ [.no]) := by
  have hl := s.rel.len
  refine ⟨⟨by rw [List.length_append, List.length_append, hl]; rfl, fun i x e => ?_, fun i j a n h1 h2 => s.rel.apart i j a n (own_ext hl h1) (own_ext hl h2)⟩, s.wd, s.uok, s.sub, fun i a z => s.own i a (own_ext hl z), s.ext, fun i ds a e1 e2 => ?_, fun i c fs a j0 e1 e2 => ?_⟩
  · rcases get_ext e with z | ⟨rfl, rfl⟩
    · obtain ⟨o, h1, h2⟩ := s.rel.at_ i x z
      exact ⟨o, by rw [List.getElem?_append_left (by rw [hl]; exact (List.getElem?_eq_some_iff.mp z).1)]; exact h1, h2⟩
    · exact ⟨none, by rw [List.getElem?_append_right (by omega), hl, Nat.sub_self]; rfl, trivial⟩
  · obtain ⟨h1, h2⟩ := own_ext hl ⟨e2, .inl ⟨ds, e1⟩⟩
    rcases get_ext e1 with z | ⟨_, z⟩
    · exact s.nu0 i ds a z h1
    · cases z
  · obtain ⟨h1, h2⟩ := own_ext hl ⟨e2, .inr ⟨c, fs, e1⟩⟩
    rcases get_ext e1 with z | ⟨_, z⟩
    · exact s.oim i c fs a j0 z h1
    · cases z
end
def popF (me : List D → D → Tr D) : List D → List D → Tr (List D)
  | [], _ => .ok []
  | x :: xs, cur => bd (nox (me cur x)) fun i => match i with
    | .int j => if 0 ≤ j ∧ j.toNat < cur.length then bd (popF me xs (cur.eraseIdx j.toNat)) fun r => .ok (cur.getD j.toNat .non :: r) else .bad
    | _ => .bad
theorem popF_cons (me : List D → D → Tr D) (x : D) (xs cur : List D) : popF me (x :: xs) cur = bd (nox (me cur x)) fun i => match i with
    | .int j => if 0 ≤ j ∧ j.toNat < cur.length then bd (popF me xs (cur.eraseIdx j.toNat)) fun r => .ok (cur.getD j.toNat .non :: r) else .bad
    | _ => .bad := rfl
theorem denL_get {g : Gw} {U : Addr → Prop} {H : Hp} : ∀ {vs : List V} {ds : List D} {k : Nat} {v : V} {d : D}, DenL g U H vs ds → vs[k]? = some v → ds[k]? = some d → Den g U H v d
  | _, _, 0, _, _, .cons a _, e1, e2 => by simp at e1 e2; subst e1 e2; exact a
  | _, _, k + 1, _, _, .cons _ r, e1, e2 => denL_get r (by simpa using e1) (by simpa using e2)
theorem denL_erase {g : Gw} {U : Addr → Prop} {H : Hp} : ∀ {vs : List V} {ds : List D} (k : Nat), DenL g U H vs ds → DenL g U H (vs.eraseIdx k) (ds.eraseIdx k)
  | _, _, _, .nil => .nil
  | _, _, 0, .cons a r => r
  | _, _, k + 1, .cons a r => .cons a (denL_erase k r)
section
variable {g : Gw} {ε : Env} {E : XK} {W L : Type} {env : W → Env} {envL : L → Env} {u : TS} {te : TE}
theorem ss_retPop {wi : TI} {mi : Tr (List D)} {i k : Nat} {ds0 : List D} {me : List D → D → Tr D} (hik : i ≠ k) (hi0 : SI g E ε wi mi) (he : ∀ cur d, SE g EF ((ε.set i (.ow (.l cur))).set k (.fz d)) te (me cur d)) (hi : ε[i]? = some (.ow (.l ds0)) := by rfl) :
    SS g E ε (tSeq (tRet (tLc wi (gName k) tYes (tBM g.K "list" rPopAt (tVar i) (tCons te tNil)) [k])) u) env envL (bd mi fun its => bd (popF me its ds0) fun r => .ok (.rt (.lst r))) := fun Mt U0 H0 U D σ H b s q => by
  refine hi0 U σ H b _ s.rel s.wd s.uok ((al_bd.mp q).mono (fun its b1 h1 J H1 hsz it w1 f1 => ?_) (fun _ _ _ h => exS.exP s h))
  intro A nA
  have s1 := s.fr f1 w1
  have hl := s.rel.len
  have il : i < ε.length := (List.getElem?_eq_some_iff.mp hi).1
  have e0 : ε.set i (.ow (.l ds0)) = ε := by
    apply List.ext_getElem?
    intro j
    by_cases q : i = j
    · subst q; rw [List.getElem?_set_self il, hi]
    · rw [List.getElem?_set_ne q]
  -- the new list in a slot of its own
  obtain ⟨sA, evA⟩ := own_new (i := ε.length) (vs := []) (ds := []) (stt_ext s1) nA (Nat.zero_le _) .nil
  have setA : ∀ (o : Option V) (x y : Sl) (e : Env), e.length = ε.length → (σ ++ [o]).set ε.length (some (.ref A)) = σ ++ [some (.ref A)] ∧ (e ++ [x]).set ε.length y = e ++ [y] := fun o x y e h => by
    constructor
    · rw [List.set_append_right _ _ (by omega), hl, Nat.sub_self]; rfl
    · rw [List.set_append_right _ _ (by omega), h, Nat.sub_self]; rfl
  rw [(setA none .no (.ow (.l [])) ε rfl).1, (setA none .no (.ow (.l [])) ε rfl).2] at sA
  have nU : ¬ U A := s1.uok.new nA
  have nU0 : ¬ U0 A := fun z => nU (s.sub A z)
  refine ⟨fun n m H' => ∃ b' V cur acc, m = its.length - n ∧ n ≤ its.length ∧ acc.length ≤ n ∧ Ev U H1 V H' ∧ Stt g Mt U0 H0 V (σ ++ [some (.ref A)]) H' b' (ε.set i (.ow (.l cur)) ++ [.ow (.l acc)]) ∧
      Al (fun r b => flP g Mt U0 H0 V H' D env envL (.rt (.lst (acc ++ r))) b) (exS g Mt U0 H0 E) (popF me (its.drop n) cur) b', ⟨its.length, b1, _, ds0, [], by simp, Nat.zero_le _, Nat.zero_le _, evA, by rw [e0]; exact sA, ?_⟩, ?_⟩
  · exact (al_bd.mp h1).mono (fun r b h => h) (fun _ _ _ h => h)
  rintro n m H' ⟨b', V, cur, acc, rfl, hle, hla, ev', s', q'⟩
  obtain ⟨it1, it2⟩ := it n V H' b' ev' s'.wd s'.uok
  have getA : (ε.set i (.ow (.l cur)) ++ [Sl.ow (.l acc)])[ε.length]? = some (.ow (.l acc)) := by
    rw [List.getElem?_append_right (by rw [List.length_set]; exact Nat.le_refl _), List.length_set, Nat.sub_self]; rfl
  have geti : (ε.set i (.ow (.l cur)) ++ [Sl.ow (.l acc)])[i]? = some (.ow (.l cur)) := by
    rw [List.getElem?_append_left (by rw [List.length_set]; exact il), List.getElem?_set_self il]
  by_cases hlt : n < its.length
  · have ei : its[n]? = some its[n] := List.getElem?_eq_getElem hlt
    obtain ⟨go, yy⟩ := it1 _ ei
    rw [List.drop_eq_getElem_cons hlt, popF_cons] at q'
    refine .inr ⟨go, fun H' => ∃ b' V cur acc, acc.length ≤ n + 1 ∧ Ev U H1 V H' ∧ Stt g Mt U0 H0 V (σ ++ [some (.ref A)]) H' b' (ε.set i (.ow (.l cur)) ++ [.ow (.l acc)]) ∧ Al (fun r b => flP g Mt U0 H0 V H' D env envL (.rt (.lst (acc ++ r))) b) (exS g Mt U0 H0 E) (popF me (its.drop (n + 1)) cur) b', ?_, ?_⟩
    · rintro H2 ⟨b2, V2, c2, a2, h⟩
      exact ⟨its.length - (n + 1), by omega, b2, V2, c2, a2, rfl, hlt, h⟩
    · intro v H2 hy
      obtain ⟨dn, sm⟩ := yy v H2 hy
      have s2 := s'.fr (fr_same sm) (s'.wd.same sm)
      have ev2 : Ev V H' V H2 := s'.uok.ev (fr_same sm)
      have r2 := rel_res s2.rel
      have ew : wipe σ [k] = σ.set k none := rfl
      rw [ew]
      show wipe ((σ.set k none).set k (some v)) [k] = _ ∧ _
      rw [List.set_set]
      refine ⟨?_, ?_⟩
      · show (σ.set k (some v)).set k none = _
        rw [List.set_set]
      -- xs
      obtain ⟨a, vs, ea, ha, la, da, ua, n1, n2, _⟩ := own_mut (vs' := []) (ds' := []) s2 geti
      have ea' : σ[i]? = some (some (.ref a)) := by rw [List.getElem?_append_left (by omega)] at ea; exact ea
      show (tBM g.K "list" rPopAt (tVar i) (tCons te tNil)) (σ.set k (some v)) H2 _
      refine ⟨.ref a, by rw [List.getElem?_set_ne hik.symm]; exact ea', .inl ⟨rfl, vs, SqL.of ha⟩, ?_⟩
      refine he cur its[n] V _ H2 b' _ (r2.set k dn) s2.wd s2.uok (Al.mono (fun dj b3 h3 vj H3 d3 w3 f3 => ?_) (fun _ _ _ z => z) (al_nox (E' := exP g V EF H2) (al_bd.mp q')))
      cases dj with
      | int j =>
        dsimp only at h3
        by_cases hj : 0 ≤ j ∧ j.toNat < cur.length
        · rw [if_pos hj] at h3
          cases den_int d3
          have s3 := s2.fr f3 w3
          have ev3 := s2.uok.ev f3
          obtain ⟨a3, vs3, e3, h3a, l3, da3, ua3, m1, m2, mt⟩ := own_mut (vs' := []) (ds' := []) s3 geti
          rw [ea] at e3
          cases e3
          obtain ⟨s4, ev4⟩ := mt (vs3.eraseIdx j.toNat) (cur.eraseIdx j.toNat) (by rw [List.length_eraseIdx]; split <;> omega) (denL_erase _ da3)
          have se : (ε.set i (.ow (.l cur)) ++ [Sl.ow (.l acc)]).set i (.ow (.l (cur.eraseIdx j.toNat))) = ε.set i (.ow (.l (cur.eraseIdx j.toNat))) ++ [.ow (.l acc)] := by
            rw [List.set_append_left _ _ (by rw [List.length_set]; exact il), List.set_set]
          rw [se] at s4
          have getA4 : (ε.set i (.ow (.l (cur.eraseIdx j.toNat))) ++ [Sl.ow (.l acc)])[ε.length]? = some (.ow (.l acc)) := by
            rw [List.getElem?_append_right (by rw [List.length_set]; exact Nat.le_refl _), List.length_set, Nat.sub_self]; rfl
          obtain ⟨A', vA, eA, hA, lA, dA, uA, k1, k2, mA⟩ := own_mut (vs' := []) (ds' := []) s4 getA4
          have eA' : A' = A := by
            rw [List.getElem?_append_right (by omega), hl, Nat.sub_self] at eA
            cases eA
            rfl
          subst eA'
          have hjl : j.toNat < vs3.length := by rw [da3.length]; exact hj.2
          have ey : vs3[j.toNat]? = some vs3[j.toNat] := List.getElem?_eq_getElem hjl
          have dy : Den g V H3 vs3[j.toNat] (cur.getD j.toNat .non) := by
            exact denL_get da3 ey (by rw [List.getD_eq_getElem?_getD, List.getElem?_eq_getElem hj.2]; rfl)
          have hlA : vA.length < sizeLine := by rw [dA.length]; exact Nat.lt_of_le_of_lt hla (Nat.lt_of_lt_of_le hlt hsz)
          obtain ⟨s5, ev5⟩ := mA (vA ++ [vs3[j.toNat]]) (acc ++ [cur.getD j.toNat .non]) (by rw [List.length_append]; exact hlA) (dA.append (.cons (dy.ev ev4) .nil))
          have se5 : (ε.set i (.ow (.l (cur.eraseIdx j.toNat))) ++ [Sl.ow (.l acc)]).set ε.length (.ow (.l (acc ++ [cur.getD j.toNat .non]))) = ε.set i (.ow (.l (cur.eraseIdx j.toNat))) ++ [.ow (.l (acc ++ [cur.getD j.toNat .non]))] :=
            (setA none _ _ _ (by rw [List.length_set])).2
          rw [se5] at s5
          have ev6 := (ev2.trans ev3).trans (ev4.trans ev5)
          refine ⟨a, vs3, j, j.toNat, vs3[j.toNat], rfl, rfl, h3a, by omega, ?_, ?_, ey, vA, hA, hlA, b3, V, cur.eraseIdx j.toNat, acc ++ [cur.getD j.toNat .non], by rw [List.length_append]; exact Nat.add_le_add_right hla 1, ev'.trans ev6, s5, ?_⟩
          · have : (sizeLine : Int) < 2 ^ 63 := by rw [sizeLine_eq]; decide
            have : (j.toNat : Int) = j := Int.toNat_of_nonneg hj.1
            omega
          · unfold seqIndex?
            have : (j.toNat : Int) = j := Int.toNat_of_nonneg hj.1
            have n0 : ¬ j < 0 := by omega
            simp only [n0, if_false]
            rw [if_pos (by simp only [Bool.and_eq_true, decide_eq_true_eq]; omega)]
          · refine Al.mono (fun r b h => ?_) (fun _ _ _ z => z) (al_bd.mp h3)
            have z : flP g Mt U0 H0 V H' D env envL (Fl.rt (W := W) (L := L) (.lst (acc ++ (cur.getD j.toNat .non :: r)))) b := h
            rw [List.append_cons] at z
            exact z
        · rw [if_neg hj] at h3
          exact h3.elim
      | _ => exact h3.elim
  · have e : n = its.length := by omega
    subst e
    rw [List.drop_length] at q'
    obtain ⟨A', vA, eA, hA, lA, dA, uA, k1, k2, mA⟩ := own_mut (vs' := []) (ds' := []) s' getA
    have eA' : A' = A := by
      rw [List.getElem?_append_right (by omega), hl, Nat.sub_self] at eA
      cases eA
      rfl
    subst eA'
    have z : flP g Mt U0 H0 V H' D env envL (Fl.rt (W := W) (L := L) (.lst (acc ++ []))) b' := q'
    rw [List.append_nil] at z
    exact .inl ⟨it2 rfl, z (.ref A') H' (.lst hA nU0 lA (dA.sub fun a _ w => s'.sub a w)) s'.wd s'.ext⟩
end
end Gp
end
section
namespace Gp
open PySem PySem.Spec PyProof.Rows L2 Gh
section
variable {g : Gw} {E : XK} {W L : Type} {ε : Env} {u : TS} {env : W → Env} {envL : L → Env}
theorem ss_par4q2 {i j l k : Nat} {t : TA} {m : Tr (List D)} {kk : D → D → List D → D → Tr (Fl W L)} (he : SQ g E ε 2 t m) (hk : ∀ x y (ds : List D) z, SS g E ((((ε.set i (.fz x)).set j (.fz y)).set l (.ow ds)).set k (.fz z)) u env envL (kk x y ds z)) :
    SS g E ε (tSeq (tAsg (tTup t) (gTup g.K 4 (gCons (gName i) (gCons (gName j) (gCons (gName l) (gCons (gName k) gNil)))))) u) env envL (bd m (ul4 fun x y z w => uoD (fun ds => kk x y ds w) z)) := fun Mt U0 H0 U D σ H b s q =>
  he.sstep s q fun vs ds U' H1 b1 qr s1 q1 => by
    have hul : ∃ x y z w, ds = [x, y, z, w] := by
      match ds, q1 with
      | [x, y, z, w], _ => exact ⟨x, y, z, w, rfl⟩
    obtain ⟨x, y, z, w, rfl⟩ := hul
    have q2 : Al (flP g Mt U0 H0 U' H1 D env envL) (exS g Mt U0 H0 E) (uoD (fun ds => kk x y ds w) z) b1 := q1
    obtain ⟨v, d, vs', xs, rfl, e, d1, qr⟩ := qr1 qr
    cases e
    obtain ⟨v2, d2, vs', xs, rfl, e, e2, qr⟩ := qr1 qr
    cases e
    obtain ⟨A, es, vs', xs, rfl, e, p, dl⟩ := qr0 qr
    cases e
    obtain ⟨v4, rfl, d4⟩ := denL_1 dl
    have q3 : Al (flP g Mt U0 H0 U' H1 D env envL) (exS g Mt U0 H0 E) (kk x y es w) b1 := q2
    refine ⟨by show 4 ≤ sizeLine; decide, fun p0 np0 => ⟨p0, [v, v2, .ref A, v4], rfl, SqT.of upd_same, rfl, v, _, rfl, v2, _, rfl, .ref A, _, rfl, v4, _, rfl, rfl, ?_⟩⟩
    have sm : L2.Same H1 (upd H1 p0 (.tup [v, v2, .ref A, v4])) := same_new np0
    have f := fr_same (p := g.p) sm
    have s2 := s1.fr f (s1.wd.same sm)
    have p2 := p.fr s1.uok f
    have ev := s1.uok.ev f
    exact hk x y es w Mt U0 H0 U' D _ _ b1 ((own_place l ((s2.set i (d1.fr s1.uok f)).set j (e2.fr s1.uok f)) ((p2.set i v x).set j v2 y)).set k (d4.fr s1.uok f)) (q3.mono (fun _ _ z => z.ev ev) (fun _ _ _ z => z))
end
end Gp
end
section
namespace Gp
open PySem PySem.Spec PyProof.Rows L2 Gh
section
variable {g : Gw} {Mt U0 U U' : Addr → Prop} {H0 H H' H1 H2 : Hp} {b b1 : Nat} {σ : L2.St} {ε ε' : Env} {E : XK} {W L W' : Type}
variable {env : W → Env} {envL : L → Env} {u ta tb : TS} {te ti : TE} {me mi : Tr D}
theorem set_own1 {i : Nat} {ds : List D} {m : Tr D} {t : TE} {k : List D → Tr (Fl W L)} {v : V} {d : D} {Ds : Ends} {Q : L2.St → Hp → Prop} (hi : ε[i]? = some (.ow ds)) (hx : SE g E ε t m) (s : Stt g Mt U0 H0 U σ H b ε) (dv : Den g U H v d)
    (q : Al (flP g Mt U0 H0 U H Ds env envL) (exS g Mt U0 H0 E) (bd m fun x => bd (setD ds x d) k) b)
    (hk : ∀ (ds' : List D) H' b', Stt g Mt U0 H0 U σ H' b' (ε.set i (.ow ds')) → Ev U H U H' → Al (flP g Mt U0 H0 U H' Ds env envL) (exS g Mt U0 H0 E) (k ds') b' → Q σ H') : gSub (tVar i) t rSetL v σ H Q := by
  obtain ⟨a, vs, e1, h1, l1, d1, ua, n1, n2, _⟩ := own_mut (vs' := []) (ds' := []) s hi
  refine ⟨.ref a, e1, ?_⟩
  refine hx.sstepF s q fun x dx H2 b2 dvx f2 s2 q2 => ?_
  obtain ⟨a', vs', e2, h2, l2, d2, _, _, _, mt⟩ := own_mut (vs' := []) (ds' := []) s2 hi
  rw [e1] at e2
  cases e2
  cases dx with
  | int z =>
    cases den_int dvx
    change Al _ _ (bd (match ixN ds.length z with | some j => .ok (ds.set j d) | none => .bad) k) b2 at q2
    cases ej : ixN ds.length z with
    | none => rw [ej] at q2; exact q2.elim
    | some j =>
      rw [ej] at q2
      have dv2 : Den g U H2 v d := dv.fr s.uok f2
      obtain ⟨s3, ev⟩ := mt (vs'.set j v) (ds.set j d) (by rw [List.length_set]; exact l2) (d2.set j dv2)
      exact ⟨a, vs', z, j, rfl, rfl, h2, by rw [d2.length]; exact ej, hk (ds.set j d) _ b2 s3 ((s.uok.ev f2).trans ev) (q2.mono (fun _ _ z => z.ev ev) (fun _ _ _ z => z))⟩
  | _ => exact q2.elim
theorem sx_set2 {i : Nat} {ds : List D} {d : D} {t1 t2 : TE} {m1 m2 : Tr D} {k : List D → Tr (Fl W L)} (h1 : SE g E ε t1 m1) (h2 : ∀ ds1 : List D, SE g E (ε.set i (.ow ds1)) t2 m2) (hk : ∀ ds2 : List D, SS g E (ε.set i (.ow ds2)) tb env envL (k ds2)) (hi : ε[i]? = some (.ow ds) := by rfl) :
    SX g E ε d (gTup g.K 2 (gCons (gSub (tVar i) t1 rSetL) (gCons (gSub (tVar i) t2 rSetL) gNil))) tb env envL (un2 d fun x y => bd m1 fun p => bd (setD ds p x) fun ds1 => bd m2 fun p2 => bd (setD ds1 p2 y) k) := fun Mt U0 H0 U D σ H b v s dn q => by
  obtain ⟨x, y, rfl, q1⟩ := al_un2 q
  obtain ⟨a, vs, rfl, sq, _, kk⟩ := den_tup dn
  obtain ⟨v1, v2, rfl, e1, e2⟩ := denL_2 kk
  refine ⟨a, [v1, v2], rfl, sq, rfl, v1, [v2], rfl, ?_⟩
  refine set_own1 hi h1 s e1 q1 fun ds' H1 b1 s1 ev1 q2 => ?_
  refine ⟨v2, [], rfl, ?_⟩
  have il : i < ε.length := (List.getElem?_eq_some_iff.mp hi).1
  have hi1 : (ε.set i (.ow ds'))[i]? = some (.ow ds') := by rw [List.getElem?_set_self il]
  refine set_own1 hi1 (h2 ds') s1 (e2.ev ev1) q2 fun ds2 H2 b2 s2 ev2 q3 => ?_
  refine ⟨rfl, ?_⟩
  rw [List.set_set] at s2
  exact hk ds2 Mt U0 H0 U D σ H2 b2 s2 q3
end
end Gp
end
section
namespace Gp
open PySem PySem.Spec PyProof.Rows L2 Gh
def tt1 {α : Type} (_ : α) : Bool := true
theorem al_vw {α : Type} {p : α → Bool} {P : α → Nat → Prop} {E : Str → Fs → Nat → Prop} {m : Tr α} {b : Nat} (h : Al P E (vwA p m) b) : Al (fun a b => p a = true ∧ P a b) (fun c fs b => fs.all (fun z => noO z.2) = true ∧ E c fs b) m b := by
  induction m generalizing b with
  | ok a =>
    change Al P E (if p a = true then .ok a else .bad) b at h
    split at h
    · exact ⟨by assumption, h⟩
    · exact h.elim
  | ex c fs =>
    change Al P E (if fs.all (fun z => noO z.2) = true then .ex c fs else .bad) b at h
    split at h
    · exact ⟨by assumption, h⟩
    · exact h.elim
  | bad => exact h
  | draw m f ih =>
    obtain ⟨b', e, h1, h2, h3⟩ := h
    exact ⟨b', e, h1, h2, fun d d0 d1 => ih d (h3 d d0 d1)⟩
section
variable {g : Gw} {U U' : Addr → Prop} {H : Hp}
mutual
theorem den_unview {a C dx : Addr} {fvs : List (Str × V)} (ha : H a = some (.ins C dx fvs)) (hu : ∀ x, U x → U' x ∨ x = a) : ∀ {v : V} {d : D}, Den g U' H v d → noO d = true → Den g U H v d
  | _, _, .non, _ => .non
  | _, _, .bl b, _ => .bl b
  | _, _, .int i, _ => .int i
  | _, _, .str x h, _ => .str x h
  | _, _, .tup h n l k, e => .tup h (fun z => (hu _ z).elim n fun w => by subst w; rw [ha] at h; cases h) l (denL_unview ha hu k e)
  | _, _, .tupW h l k nk, e => .tupW h l (denL_unview ha hu k e) nk
  | _, _, .lst h n l k, e => .lst h (fun z => (hu _ z).elim n fun w => by subst w; rw [ha] at h; cases h) l (denL_unview ha hu k e)
  | _, _, .obj _ _ _, e => absurd (show false = true from e) Bool.false_ne_true
  | _, _, .err _ _ _ _ _, e => absurd (show false = true from e) Bool.false_ne_true
  | _, _, .pen, e => absurd (show false = true from e) Bool.false_ne_true
  | _, _, .cls _, e => absurd (show false = true from e) Bool.false_ne_true
  | _, _, .er0 _ _, e => absurd (show false = true from e) Bool.false_ne_true
  | _, _, .dct _ _, e => absurd (show false = true from e) Bool.false_ne_true
  | _, _, .dic _ _ _ _, e => absurd (show false = true from e) Bool.false_ne_true
  | _, _, .dit _ _ _ _, e => absurd (show false = true from e) Bool.false_ne_true
  | _, _, .dik _ _ _ _, e => absurd (show false = true from e) Bool.false_ne_true
theorem denL_unview {a C dx : Addr} {fvs : List (Str × V)} (ha : H a = some (.ins C dx fvs)) (hu : ∀ x, U x → U' x ∨ x = a) : ∀ {vs : List V} {ds : List D}, DenL g U' H vs ds → noOL ds = true → DenL g U H vs ds
  | _, _, .nil, _ => .nil
  | _, _, .cons (d := d) (ds := ds) x r, e => by
    have e' : (noO d && noOL ds) = true := e
    rw [Bool.and_eq_true] at e'
    exact .cons (den_unview ha hu x e'.1) (denL_unview ha hu r e'.2)
end
theorem denF_unview {a C dx : Addr} {fvs : List (Str × V)} (ha : H a = some (.ins C dx fvs)) (hu : ∀ x, U x → U' x ∨ x = a) : ∀ {vs : List (Str × V)} {ds : Fs}, DenF g U' H vs ds → ds.all (fun z => noO z.2) = true → DenF g U H vs ds
  | _, _, .nil, _ => .nil
  | _, _, .cons (d := d) x r, e => by
    rw [List.all_cons, Bool.and_eq_true] at e
    exact .cons (den_unview ha hu x e.1) (denF_unview ha hu r e.2)
end
section
variable {g : Gw} {Mt U0 U U' : Addr → Prop} {H0 H H' H1 H2 : Hp} {b b1 b2 : Nat} {σ : L2.St} {ε ε' : Env} {E : XK} {W L W' : Type}
variable {env : W → Env} {envL : L → Env} {env' : W' → Env} {u ta tb : TS} {te : TE} {me : Tr D}
theorem rel_view {i : Nat} {c : Str} {fs : Fs} (R : Rel g U H σ ε) (hi : ε[i]? = some (.oi c fs)) : ∃ a dx fvs, σ[i]? = some (some (.ref a)) ∧ H a = some (.ins (gd c g.K) dx fvs) ∧ U a ∧ a ≠ g.p ∧ a ≠ g.c ∧ Rel g (fun x => U x ∧ x ≠ a) H σ (ε.set i (.fz (.obj c fs))) := by
  obtain ⟨o, eo, a, dx, fvs, rfl, ha, df, ua, n1, n2⟩ := R.at_ i _ hi
  have il : i < ε.length := (List.getElem?_eq_some_iff.mp hi).1
  have ow : ∀ j x, OwnAt σ (ε.set i (.fz (.obj c fs))) j x → i ≠ j ∧ OwnAt σ ε j x := fun j x z => by
    obtain ⟨z1, z2⟩ := z
    by_cases q : i = j
    · subst q
      rw [List.getElem?_set_self il] at z2
      rcases z2 with ⟨_, z⟩ | ⟨_, _, z⟩ <;> cases z
    · rw [List.getElem?_set_ne q] at z2
      exact ⟨q, z1, z2⟩
  refine ⟨a, dx, fvs, eo, ha, ua, n1, n2, by rw [List.length_set]; exact R.len, fun j s e => ?_, fun j k x ne z1 z2 => R.apart j k x ne (ow _ _ z1).2 (ow _ _ z2).2⟩
  by_cases q : i = j
  · subst q
    rw [List.getElem?_set_self il] at e
    cases e
    exact ⟨_, eo, .ref a, rfl, .obj ha (fun z => z.2 rfl) (df.sub fun x _ z => z.1)⟩
  · rw [List.getElem?_set_ne q] at e
    obtain ⟨o, e1, e2⟩ := R.at_ j s e
    refine ⟨o, e1, ?_⟩
    cases s with
    | no => trivial
    | fz d =>
      obtain ⟨v, e3, e4⟩ := e2
      exact ⟨v, e3, e4.sub fun x _ z => z.1⟩
    | ow ds =>
      obtain ⟨a2, v2, rfl, h2, d2, u2, m1, m2⟩ := e2
      exact ⟨a2, v2, rfl, h2, d2.map (fun q => q.sub fun x _ z => z.1), ⟨u2, fun z => R.apart i j a2 q ⟨z ▸ eo, .inr ⟨c, fs, hi⟩⟩ ⟨e1, .inl ⟨ds, e⟩⟩⟩, m1, m2⟩
    | oi c2 fs2 =>
      obtain ⟨a2, dx2, v2, rfl, h2, d2, u2, m1, m2⟩ := e2
      exact ⟨a2, dx2, v2, rfl, h2, d2.sub fun x _ z => z.1, ⟨u2, fun z => R.apart i j a2 q ⟨z ▸ eo, .inr ⟨c, fs, hi⟩⟩ ⟨e1, .inr ⟨c2, fs2, e⟩⟩⟩, m1, m2⟩
theorem uok_view {a : Addr} (u : UOk g U H) (n1 : a ≠ g.p) (n2 : a ≠ g.c) : UOk g (fun x => U x ∧ x ≠ a) H := ⟨⟨u.p, n1.symm⟩, ⟨u.c, n2.symm⟩, fun x z => u.al x z.1⟩
theorem un_or {a : Addr} : ∀ x, U x → (U x ∧ x ≠ a) ∨ x = a := fun x z => by
  by_cases q : x = a
  · exact .inr q
  · exact .inl ⟨z, q⟩
theorem exP_view {a C dx : Addr} {fvs : List (Str × V)} (ha : H a = some (.ins C dx fvs)) (n1 : a ≠ g.p) {c : Str} {fs : Fs} (h : fs.all (fun z => noO z.2) = true ∧ exP g U E H c fs b) : exP g (fun x => U x ∧ x ≠ a) E H c fs b := fun dd fv H' e nd df w f => by
  have ha' := f a _ ha n1 (fun _ z => by cases z)
  refine h.2 dd fv H' e (fun z => nd ⟨z, fun q => ?_⟩) (denF_unview ha' un_or df h.1) w f
  subst q
  rw [ha'] at e
  cases e
theorem se_view {i : Nat} {c : Str} {fs : Fs} (he : SE g E (ε.set i (.fz (.obj c fs))) te me) (hi : ε[i]? = some (.oi c fs) := by rfl) : SE g E ε te (vwA noO me) := fun U σ H b Q R W u q => by
  obtain ⟨a, dx, fvs, eo, ha, ua, n1, n2, R'⟩ := rel_view R hi
  refine he (fun x => U x ∧ x ≠ a) σ H b Q R' W (uok_view u n1 n2) ((al_vw q).mono (fun d b1 h1 v H' dn w f => ?_) (fun _ _ _ h => exP_view ha n1 h))
  exact h1.2 v H' (den_unview (f a _ ha n1 (fun _ z => by cases z)) un_or dn h1.1) w f
theorem st_view {i : Nat} {c : Str} {fs : Fs} {t : TT} {m : Tr Bool} (he : ST g E (ε.set i (.fz (.obj c fs))) t m) (hi : ε[i]? = some (.oi c fs) := by rfl) : ST g E ε t (vwA tt1 m) := fun U σ H b Q R W u q => by
  obtain ⟨a, dx, fvs, eo, ha, ua, n1, n2, R'⟩ := rel_view R hi
  exact he (fun x => U x ∧ x ≠ a) σ H b Q R' W (uok_view u n1 n2) ((al_vw q).mono (fun d b1 h1 H' w f => h1.2 H' w f) (fun _ _ _ h => exP_view ha n1 h))
theorem oi_stepI {i : Nat} {c : Str} {fs fs' : Fs} {a dx' : Addr} {fvs' : List (Str × V)} (s1 : Stt g Mt U0 H0 U σ H1 b1 ε) (hi : ε[i]? = some (.oi c fs)) (eo : σ[i]? = some (some (.ref a))) (h2 : H2 a = some (.ins (gd c g.K) dx' fvs')) (d2 : DenF g U H2 fvs' fs') (w2 : Wd g H2 b2) (f2 : FrM g (· = a) H1 H2) :
    Stt g Mt U0 H0 U σ H2 b2 (ε.set i (.oi c fs')) ∧ Ev U H1 U H2 := by
  obtain ⟨o, eo', a0, dx, fvs, e0, ha, df, ua, n1, n2⟩ := s1.rel.at_ i _ hi
  have ea : a0 = a := by
    rw [eo'] at eo
    subst e0
    cases eo
    rfl
  subst ea
  have xt : ExtU U H1 H2 := fun x o e ne t => f2 x o e (fun z => ne (z ▸ s1.uok.p)) (fun z => ne (z ▸ ua)) t
  have il : i < ε.length := (List.getElem?_eq_some_iff.mp hi).1
  have ow : ∀ j x, OwnAt σ (ε.set i (.oi c fs')) j x → OwnAt σ ε j x := fun j x z => by
    obtain ⟨z1, z2⟩ := z
    by_cases q : i = j
    · subst q
      exact ⟨z1, .inr ⟨c, fs, hi⟩⟩
    · rw [List.getElem?_set_ne q] at z2
      exact ⟨z1, z2⟩
  have apart : ∀ j x, i ≠ j → OwnAt σ ε j x → x ≠ a0 := fun j x ne z e => by
    subst e
    exact s1.rel.apart i j x ne ⟨eo, .inr ⟨c, fs, hi⟩⟩ z
  have hown := s1.own i a0 ⟨eo, .inr ⟨c, fs, hi⟩⟩
  refine ⟨⟨⟨by rw [List.length_set]; exact s1.rel.len, fun j x e => ?_, fun j k x ne z1 z2 => s1.rel.apart j k x ne (ow _ _ z1) (ow _ _ z2)⟩, w2, ⟨s1.uok.p, s1.uok.c, fun x hx => ?_⟩, s1.sub, fun j x z => s1.own j x (ow _ _ z), fun x o e m1 m2 m3 => ?_, fun j xs x e1 e2 => ?_, fun j c' fs' x j0 e1 e2 => ?_⟩, ⟨xt, fun _ _ _ n _ => n⟩⟩
  · by_cases q : i = j
    · subst q
      rw [List.getElem?_set_self il] at e
      cases e
      exact ⟨_, eo, a0, dx', _, rfl, h2, d2, ua, n1, n2⟩
    · rw [List.getElem?_set_ne q] at e
      obtain ⟨o, e1, e2⟩ := s1.rel.at_ j x e
      refine ⟨o, e1, ?_⟩
      cases x with
      | no => trivial
      | fz d =>
        obtain ⟨v, e3, e4⟩ := e2
        exact ⟨v, e3, e4.ext xt⟩
      | ow ds2 =>
        obtain ⟨a2, v2, rfl, h2, d2, u2, m1, m2⟩ := e2
        have ne := apart j a2 q ⟨e1, .inl ⟨ds2, e⟩⟩
        exact ⟨a2, v2, rfl, f2 _ _ h2 m1 ne d2.tbl, d2.map (fun q => q.ext xt), u2, m1, m2⟩
      | oi c fs =>
        obtain ⟨a2, dx, v2, rfl, h2, d2, u2, m1, m2⟩ := e2
        have ne := apart j a2 q ⟨e1, .inr ⟨c, fs, e⟩⟩
        exact ⟨a2, dx, v2, rfl, f2 _ _ h2 m1 ne (fun _ z => by cases z), d2.ext xt, u2, m1, m2⟩
  · by_cases q : x = a0
    · subst q
      exact ⟨_, h2, (fun _ z => by cases z), (fun _ z => by cases z)⟩
    · by_cases qp : x = g.p
      · subst qp
        obtain ⟨ns, i, z, h, _⟩ := w2.pen
        exact ⟨_, h, (fun _ z => by cases z), (fun _ z => by cases z)⟩
      · obtain ⟨o, e, t⟩ := s1.uok.al x hx
        exact ⟨o, f2 x o e qp q t.tbl, t⟩
  · refine f2 x o (s1.ext x o e m1 m2 m3) m1 (fun z => ?_) m3
    subst z
    rcases hown with z | z
    · exact m2 z
    · obtain ⟨ps, z⟩ := z o e
      exact m3 ps z
  · by_cases q : i = j
    · subst q
      rw [List.getElem?_set_self il] at e1
      cases e1
    · rw [List.getElem?_set_ne q] at e1
      exact s1.nu0 j xs x e1 e2
  · by_cases q : i = j
    · subst q
      exact s1.oim _ c fs x j0 hi e2
    · rw [List.getElem?_set_ne q] at e1
      exact s1.oim j c' fs' x j0 e1 e2
def spB (K : PySem.W.Frag) (T : List (Addr × Str)) (cn : Str) (F : Fs → List D → Tr (D × Fs)) : Sp := fun vs H Q E => ∃ p c U ds b x dx fvs fs rest, vs = .ref x :: rest ∧ H x = some (.ins (gd cn K) dx fvs) ∧ DenF ⟨K, T, p, c⟩ U H fvs fs ∧ U x ∧ x ≠ p ∧ x ≠ c ∧ DenL ⟨K, T, p, c⟩ U H rest ds ∧
  Wd ⟨K, T, p, c⟩ H b ∧ UOk ⟨K, T, p, c⟩ U H ∧ Al (fun r b' => ∀ v dx' fvs' H', Den ⟨K, T, p, c⟩ U H' v r.1 → H' x = some (.ins (gd cn K) dx' fvs') → DenF ⟨K, T, p, c⟩ U H' fvs' r.2 → Wd ⟨K, T, p, c⟩ H' b' → FrM ⟨K, T, p, c⟩ (· = x) H H' → Q v H')
    (fun cn fs b => ∀ dd fvs H', H' dd = some (.xd fvs) → ¬ U dd → DenF ⟨K, T, p, c⟩ U H' fvs fs → Wd ⟨K, T, p, c⟩ H' b → FrM ⟨K, T, p, c⟩ (· = x) H H' → E (.ref (gd cn K)) (some dd) H') (F fs ds) b
def SM (g : Gw) (E : XK) (ε : Env) (i : Nat) (c : Str) (t : TE) (m : Tr (D × Fs)) : Prop := ∀ Mt U0 H0 U σ H b Q, Stt g Mt U0 H0 U σ H b ε → Al (fun r b' => ∀ v H', Den g U H' v r.1 → Stt g Mt U0 H0 U σ H' b' (ε.set i (.oi c r.2)) → Ev U H U H' → Q v H') (exS g Mt U0 H0 E) m b → t σ H Q
theorem exS_oi {a : Addr} {i : Nat} {c : Str} {fs : Fs} (s : Stt g Mt U0 H0 U σ H b ε) (hi : ε[i]? = some (.oi c fs)) (eo : σ[i]? = some (some (.ref a))) {cn : Str} {fs2 : Fs} {b2 : Nat} (h : exS g Mt U0 H0 E cn fs2 b2) {dd : Addr} {fv : List (Str × V)} {H' : Hp} (e1 : H' dd = some (.xd fv)) (nd : ¬ U dd) (d1 : DenF g U H' fv fs2) (w1 : Wd g H' b2) (f1 : FrM g (· = a) H H') : E (.ref (gd cn g.K)) (some dd) H' := by
  have hown := s.own i a ⟨eo, .inr ⟨c, fs, hi⟩⟩
  refine h dd fv H' e1 (fun z => nd (s.sub _ z)) (d1.sub fun x _ z => s.sub x z) w1 fun x o e m1 m2 m3 => f1 x o (s.ext x o e m1 m2 m3) m1 (fun z => ?_) m3
  subst z
  rcases hown with z | z
  · exact m2 z
  · obtain ⟨ps, z⟩ := z o e
    exact m3 ps z
theorem sm_core {i : Nat} {c : Str} {fs : Fs} {F : Fs → List D → Tr (D × Fs)} {a : Addr} {vs : List V} {ds : List D} {Q : VK} (s1 : Stt g Mt U0 H0 U σ H1 b1 ε) (hi : ε[i]? = some (.oi c fs)) (eo : σ[i]? = some (some (.ref a))) (dv : DenL g U H1 vs ds)
    (q : Al (fun r b' => ∀ v H', Den g U H' v r.1 → Stt g Mt U0 H0 U σ H' b' (ε.set i (.oi c r.2)) → Ev U H1 U H' → Q v H') (exS g Mt U0 H0 E) (F fs ds) b1) : spB g.K g.T c F (.ref a :: vs) H1 Q E := by
  obtain ⟨o, eo', a', dx', fvs', rfl, ha', df', ua', n1', n2'⟩ := s1.rel.at_ i _ hi
  have ea : a' = a := by rw [eo'] at eo; cases eo; rfl
  subst ea
  refine ⟨g.p, g.c, U, ds, b1, a', dx', fvs', fs, vs, rfl, ha', df', ua', n1', n2', dv, s1.wd, s1.uok, q.mono (fun r b2 h v dx2 fvs2 H2 dn e2 d2 w2 f2 => ?_) (fun cn fs2 b2 h dd fv H2 e1 nd d1 w1 f1 => exS_oi s1 hi eo h e1 nd d1 w1 f1)⟩
  obtain ⟨s2, ev⟩ := oi_stepI s1 hi eo e2 d2 w2 f2
  exact h v H2 dn s2 ev
theorem sm_meth {i : Nat} {c m : Str} {fs : Fs} {F : Fs → List D → Tr (D × Fs)} {t : TA} {mt : Tr (List D)} {dvs : List V} {dds : List D} (hd : ∀ U H, DenL g U H dvs dds) (ht : SA g E ε t mt) (hi : ε[i]? = some (.oi c fs) := by rfl) :
    SM g E ε i c (tMt (gd c g.K) m (rSp (spB g.K g.T c F) dvs E) (tVar i) t) (if fs.lookup m = none then bd mt fun ds => F fs (ds ++ dds) else .bad) := fun Mt U0 H0 U σ H b Q s q => by
  obtain ⟨o, eo, a, dx, fvs, rfl, ha, df, ua, n1, n2⟩ := s.rel.at_ i _ hi
  split at q
  · rename_i hl
    refine ⟨.ref a, eo, a, dx, fvs, rfl, ha, df.look0 hl, ?_⟩
    refine ht U σ H b _ s.rel s.wd s.uok ((al_bd.mp q).mono (fun ds b1 h1 vs H1 dv w1 f1 => ?_) (fun _ _ _ h => exS.exP s h))
    have s1 := s.fr f1 w1
    have ev0 := s.uok.ev f1
    show spB g.K g.T c F (.ref a :: (vs ++ dvs)) H1 Q E
    exact sm_core s1 hi eo (dv.append (hd U H1)) (h1.mono (fun r b2 h v H' dn st ev => h v H' dn st (ev0.trans ev)) (fun _ _ _ z => z))
  · exact q.elim
def bdP {α : Type} (m : Tr (D × Fs)) (k : D → Fs → Tr α) : Tr α := bd m fun r => k r.1 r.2
theorem ss_dropM {i : Nat} {c : Str} {m : Tr (D × Fs)} {k : Fs → Tr (Fl W L)} (hm : SM g E ε i c te m) (hk : ∀ fs', SS g E (ε.set i (.oi c fs')) u env envL (k fs')) : SS g E ε (tSeq (tDrop te) u) env envL (bdP m fun _ fs' => k fs') := fun Mt U0 H0 U D σ H b s q =>
  hm Mt U0 H0 U σ H b _ s ((al_bd.mp q).mono (fun r b1 h1 v H1 dv s1 ev => hk r.2 Mt U0 H0 U D σ H1 b1 s1 (h1.mono (fun _ _ z => z.ev ev) (fun _ _ _ z => z))) (fun _ _ _ z => z))
end
end Gp
end
section
namespace Gp
open PySem PySem.Spec PyProof.Rows L2 Gh
section
variable {g : Gw} {Mt U0 U U' : Addr → Prop} {H0 H H' H1 H2 : Hp} {b b1 b2 : Nat} {σ : L2.St} {ε ε' : Env} {E : XK} {W L W' : Type}
variable {env : W → Env} {envL : L → Env} {env' : W' → Env} {u ta tb : TS} {te : TE} {me : Tr D}
def SNO (g : Gw) (E : XK) (ε : Env) (c : Str) (te : TE) (m : Tr Fs) : Prop := ∀ U σ H b Q, Rel g U H σ ε → Wd g H b → UOk g U H → Al (fun fs b' => ∀ x dx fvs H', (∀ o, H x = some o → ∃ ps, o = .tbl ps) → H' x = some (.ins (gd c g.K) dx fvs) → DenF g (fun a => U a ∨ a = x) H' fvs fs → Wd g H' b' → Fr H H' g.p → Q (.ref x) H') (exP g U E H) m b → te σ H Q
theorem sno_mk {cn : Str} {F : Fs → List D → Tr Fs} {dvs : List V} {dds : List D} {t : TA} {mt : Tr (List D)} (hd : ∀ U H, DenL g U H dvs dds) (ht : SA g E ε t mt) :
    SNO g E ε cn (tCl (rMk (gd cn g.K) (spI g.K g.T cn F) dvs E) t) (bd mt fun ds => F [] (ds ++ dds)) := fun U σ H0 b Q R W u q => by
  refine ht.step R W u q fun xs dxs H b dn wd f0 R1 u q => ?_
  show rMk _ _ _ _ _ _ _
  unfold rMk
  intro x dx nx ndx ne
  have s1 : L2.Same H (upd (upd H dx (.own x)) x (.ins (gd cn g.K) dx [])) := fun a o e => by
    rw [upd_ne (ne_of_none e nx), upd_ne (ne_of_none e ndx)]
    exact e
  have nU : ¬ U x := u.new nx
  have hp : x ≠ g.p := fun z => nU (z ▸ u.p)
  have hc : x ≠ g.c := fun z => nU (z ▸ u.c)
  have k1 : DenL g (fun a => U a ∨ a = x) (upd (upd H dx (.own x)) x (.ins (gd cn g.K) dx [])) (xs ++ dvs) (dxs ++ dds) := ((dn.append (hd U H)).grow nx).ext (fun a o e _ _ => s1 a o e)
  have k2 : UOk g (fun a => U a ∨ a = x) (upd (upd H dx (.own x)) x (.ins (gd cn g.K) dx [])) := ⟨.inl u.p, .inl u.c, fun a ha => by
    rcases ha with ha | rfl
    · obtain ⟨o, e, t⟩ := u.al a ha
      exact ⟨o, s1 a o e, t⟩
    · exact ⟨_, upd_same, (fun _ z => by cases z), (fun _ z => by cases z)⟩⟩
  have fr : ∀ {H' : Hp}, FrM g (· = x) (upd (upd H dx (.own x)) x (.ins (gd cn g.K) dx [])) H' → Fr H H' g.p := fun f1 a o e n t => f1 a o (s1 a o e) n (fun z => ne_of_none e nx z) t
  refine ⟨g.p, g.c, fun a => U a ∨ a = x, dxs ++ dds, b, x, dx, [], [], xs ++ dvs, rfl, upd_same, .nil, .inr rfl, hp, hc, k1, wd.same s1, k2,
    q.mono (fun fs b1 h1 dx' fvs' H' e1 d1 w1 f1 => ⟨rfl, h1 x dx' fvs' H' (fun o e => ?_) e1 d1 w1 (f0.trans (fr f1))⟩) (fun c fs b1 h1 dd fvs H' e1 n1 d1 w1 f1 => h1 dd fvs H' e1 (fun z => n1 (.inl z)) (d1.sub fun a _ z => .inl z) w1 (fr f1))⟩
  by_cases t : ∃ ps, o = .tbl ps
  · exact t
  · have := f0 x o e hp (fun ps z => t ⟨ps, z⟩)
    rw [nx] at this
    cases this
theorem ownAt_setI {i j : Nat} {v : V} {cn : Str} {fs : Fs} {a : Addr} (h : OwnAt (σ.set i (some v)) (ε.set i (.oi cn fs)) j a) : (i = j ∧ v = .ref a) ∨ (i ≠ j ∧ OwnAt σ ε j a) := by
  obtain ⟨h1, h2⟩ := h
  by_cases e : i = j
  · subst e
    rw [List.getElem?_set_self'] at h1
    cases q : σ[i]? with
    | none => rw [q] at h1; cases h1
    | some z => rw [q] at h1; cases h1; exact .inl ⟨rfl, rfl⟩
  · rw [List.getElem?_set_ne e] at h1 h2
    exact .inr ⟨e, h1, h2⟩
theorem obj_new {x dx : Addr} {c : Str} {fvs : List (Str × V)} {fs : Fs} {i : Nat} (hi0 : i ≠ 0) (s : Stt g Mt U0 H0 U σ H b ε) (n : ∀ o, H x = some o → ∃ ps, o = .tbl ps) (hx : H' x = some (.ins (gd c g.K) dx fvs)) (df : DenF g (fun a => U a ∨ a = x) H' fvs fs) (w : Wd g H' b1) (f : Fr H H' g.p) :
    Stt g Mt U0 H0 (fun a => U a ∨ a = x) (σ.set i (some (.ref x))) H' b1 (ε.set i (.oi c fs)) ∧ Ev U H (fun a => U a ∨ a = x) H' := by
  have nU : ¬ U x := fun z => by
    obtain ⟨o, e, t⟩ := s.uok.al x z
    obtain ⟨ps, q⟩ := n o e
    exact t.tbl ps q
  have hp : x ≠ g.p := fun z => nU (z ▸ s.uok.p)
  have hc : x ≠ g.c := fun z => nU (z ▸ s.uok.c)
  have ev : Ev U H (fun a => U a ∨ a = x) H' := ⟨fun a o e m t => f a o e (fun z => m (z ▸ s.uok.p)) t, fun a o e m t z => z.elim m fun z => by
    subst z
    obtain ⟨ps, q⟩ := n o e
    exact t ps q⟩
  have sig : ∀ j a, OwnAt σ ε j a → U a := fun j a h => by
    obtain ⟨h1, ⟨ds, h2⟩ | ⟨c, fs, h2⟩⟩ := h
    · obtain ⟨o, e, a', vs, e2, h, k, ua, _⟩ := s.rel.at_ j _ h2
      rw [h1] at e
      cases e
      cases e2
      exact ua
    · obtain ⟨o, e, a', dx, fvs, e2, h, k, ua, _⟩ := s.rel.at_ j _ h2
      rw [h1] at e
      cases e
      cases e2
      exact ua
  refine ⟨⟨⟨by rw [List.length_set, List.length_set]; exact s.rel.len, fun j y e => ?_, fun j k a ne h1 h2 => ?_⟩, w, ⟨.inl s.uok.p, .inl s.uok.c, fun a ha => ?_⟩, fun a z => .inl (s.sub a z), fun j a h => ?_, s.ext.trans f, fun j xs a e1 e2 => ?_, fun j c fs a j0 e1 e2 => ?_⟩, ev⟩
  · by_cases q : i = j
    · subst q
      have hl : i < ε.length := by
        cases z : ε[i]? with
        | none => rw [List.getElem?_set_self', z] at e; cases e
        | some w => exact (List.getElem?_eq_some_iff.mp z).1
      rw [List.getElem?_set_self hl] at e
      cases e
      exact ⟨_, List.getElem?_set_self (by rw [s.rel.len]; exact hl), x, dx, fvs, rfl, hx, df, .inr rfl, hp, hc⟩
    · rw [List.getElem?_set_ne q] at e ⊢
      obtain ⟨o, e1, e2⟩ := s.rel.at_ j y e
      refine ⟨o, e1, ?_⟩
      cases y with
      | no => trivial
      | fz d =>
        obtain ⟨v, e3, e4⟩ := e2
        exact ⟨v, e3, e4.ev ev⟩
      | ow ds2 =>
        obtain ⟨a2, v2, rfl, h2, d2, u2, m1, m2⟩ := e2
        exact ⟨a2, v2, rfl, f _ _ h2 m1 d2.tbl, d2.map (fun q => q.ev ev), .inl u2, m1, m2⟩
      | oi c fs =>
        obtain ⟨a2, dx, v2, rfl, h2, d2, u2, m1, m2⟩ := e2
        exact ⟨a2, dx, v2, rfl, f _ _ h2 m1 (fun _ z => by cases z), d2.ev ev, .inl u2, m1, m2⟩
  · rcases ownAt_setI h1 with ⟨rfl, z1⟩ | ⟨n1, z1⟩ <;> rcases ownAt_setI h2 with ⟨rfl, z2⟩ | ⟨n2, z2⟩
    · exact ne rfl
    · cases z1
      exact nU (sig _ _ z2)
    · cases z2
      exact nU (sig _ _ z1)
    · exact s.rel.apart j k a ne z1 z2
  · rcases ha with ha | rfl
    · by_cases q : a = g.p
      · subst q
        obtain ⟨ns, i, z, h, _⟩ := w.pen
        exact ⟨_, h, (fun _ z => by cases z), (fun _ z => by cases z)⟩
      · obtain ⟨o, e, t⟩ := s.uok.al a ha
        exact ⟨o, f a o e q t.tbl, t⟩
    · exact ⟨_, hx, (fun _ z => by cases z), (fun _ z => by cases z)⟩
  · rcases ownAt_setI h with ⟨rfl, z⟩ | ⟨_, z⟩
    · cases z
      by_cases m : Mt x
      · exact .inl m
      · refine .inr fun o q => ?_
        by_cases t : ∃ ps, o = .tbl ps
        · exact t
        · exact n o (s.ext x o q hp m (fun ps z => t ⟨ps, z⟩))
    · exact s.own j a z
  · by_cases q : i = j
    · subst q
      cases z : ε[i]? with
      | none => rw [List.getElem?_set_self', z] at e1; cases e1
      | some w => rw [List.getElem?_set_self', z] at e1; cases e1
    · rw [List.getElem?_set_ne q] at e1 e2
      exact s.nu0 j xs a e1 e2
  · rcases ownAt_setI ⟨e2, .inr ⟨c, fs, e1⟩⟩ with ⟨q, z⟩ | ⟨q, _⟩
    · cases z
      exact ⟨fun z => absurd (q.trans z) hi0, fun _ z => nU (s.sub _ z)⟩
    · rw [List.getElem?_set_ne q] at e1 e2
      exact s.oim j c fs a j0 e1 e2
theorem ss_newO {i : Nat} {c : Str} {m : Tr Fs} {k : Fs → Tr (Fl W L)} (he : SNO g E ε c te m) (hk : ∀ fs, SS g E (ε.set i (.oi c fs)) u env envL (k fs)) (hi0 : i ≠ 0 := by decide) : SS g E ε (tSeq (tAsg te (gName i)) u) env envL (bd m k) := fun Mt U0 H0 U D σ H b s q =>
  he U σ H b _ s.rel s.wd s.uok ((al_bd.mp q).mono (fun fs b1 h1 x dx fvs H1 n hx df w f => by
    obtain ⟨s1, e1⟩ := obj_new hi0 s n hx df w f
    exact hk fs Mt U0 H0 _ D _ _ b1 s1 (h1.mono (fun _ _ z => z.ev e1) (fun _ _ _ z => z))) (fun _ _ _ h => exS.exP s h))
def RtP (g : Gw) (Mt U0 : Addr → Prop) (H0 : Hp) (R : V → Hp → Prop) (c : Str) : D × Fs → Nat → Prop := fun r b => ∀ v x dx fvs H, Den g U0 H v r.1 → Mt x → H x = some (.ins (gd c g.K) dx fvs) → DenF g U0 H fvs r.2 → Wd g H b → FrM g Mt H0 H → R v H
def STl (e : Bool) (g : Gw) (E : XK) (ε : Env) (c : Str) (t : TS) (m : Tr (D × Fs)) : Prop := ∀ Mt U0 H0 U (D : Ends) σ H b, (e = true → ∀ σ H, D.rt .non H → D.nx σ H) → Stt g Mt U0 H0 U σ H b ε → Al (RtP g Mt U0 H0 D.rt c) (exS g Mt U0 H0 E) m b → t D σ H
theorem rt_here {c : Str} {fs : Fs} {R : V → Hp → Prop} {v : V} {d : D} (s : Stt g Mt U0 H0 U σ H b ε) (h0 : ε[0]? = some (.oi c fs)) (dv : Den g U H v d) (q : RtP g Mt U0 H0 R c (d, fs) b) : R v H := by
  obtain ⟨o, eo, a, dx, fvs, rfl, ha, df, ua, n1, n2⟩ := s.rel.at_ 0 _ h0
  exact q v a dx fvs H (dv.sub fun a _ z => s.sub a z) (((s.oim 0 c fs a trivial h0 eo).1 rfl)) ha (df.sub fun a _ z => s.sub a z) s.wd s.ext
theorem tl_end {c : Str} {fs : Fs} (h0 : ε[0]? = some (.oi c fs) := by rfl) : STl true g E ε c tNext (.ok (.non, fs)) := fun Mt U0 H0 U D σ H b hD s q => hD rfl σ H (rt_here s h0 .non q)
theorem tl_stm {e : Bool} {c : Str} {m : Tr (Fl W' Empty)} {k : W' → Tr (D × Fs)} (env' : W' → Env) (h1 : SS g E ε (tSeq ta tNext) env' envE m) (hk : ∀ w, STl e g E (env' w) c u (k w)) : STl e g E ε c (tSeq ta u) (bdT m k) := fun Mt U0 H0 U D σ H b hD s q => by
  refine h1 Mt U0 H0 U { D with nx := u D } σ H b s ((al_bd.mp q).mono (fun f b1 h => ?_) (fun _ _ _ h => h))
  cases f with
  | nx w => exact fun U1 σ1 H1 e1 s1 => hk w Mt U0 H0 U1 D σ1 H1 b1 hD s1 h
  | rt d => exact h.elim
  | bk l => exact nomatch l
  | ct l => exact nomatch l
theorem mut_of {K : PySem.W.Frag} {T : List (Addr × Str)} {N : List Str} {cn : Str} {F : Fs → List D → Tr (D × Fs)} {vs : List V} {Q : VK} {t : TS} (h : spB K T cn F vs H Q E)
    (hs : ∀ p c fs ds, (∃ (P : D × Fs → Nat → Prop) (X : Str → Fs → Nat → Prop) (b : Nat), Al P X (F fs ds) b) → STl true ⟨K, T, p, c⟩ E (.oi cn fs :: (ds.map Sl.fz ++ List.replicate (N.length - (ds.length + 1)) Sl.no)) cn t (F fs ds)) :
    t { nx := fun _ H' => Q .non H', rt := Q } (L2.start N vs) H := by
  obtain ⟨p, c, U, ds, b, x, dx, fvs, fs, rest, rfl, hx, df, ux, np, nc, dn, wd, u, al⟩ := h
  have ss := hs p c fs ds ⟨_, _, _, al⟩
  have st0 : L2.start N (.ref x :: rest) = some (.ref x) :: (rest.map some ++ List.replicate (N.length - (rest.length + 1)) none) := rfl
  have r1 : Rel ⟨K, T, p, c⟩ U H (rest.map some ++ List.replicate (N.length - (rest.length + 1)) none) (ds.map Sl.fz ++ List.replicate (N.length - (ds.length + 1)) Sl.no) := by
    have z := rel_start (g := ⟨K, T, p, c⟩) (N := N.drop 1) dn
    unfold L2.start at z
    rw [List.length_drop, Nat.sub_sub, Nat.sub_sub, Nat.add_comm 1, Nat.add_comm 1] at z
    exact z
  have nn : ∀ i a, ¬ OwnAt (rest.map some ++ List.replicate (N.length - (rest.length + 1)) none) (ds.map Sl.fz ++ List.replicate (N.length - (ds.length + 1)) Sl.no) i a := fun i a ⟨_, z⟩ => by
    have : ∀ s : Sl, (ds.map Sl.fz ++ List.replicate (N.length - (ds.length + 1)) Sl.no)[i]? = some s → (∃ d, s = .fz d) ∨ s = .no := fun s e => by
      have m := List.mem_of_getElem? e
      rcases List.mem_append.mp m with m | m
      · obtain ⟨d, _, e⟩ := List.mem_map.mp m
        exact .inl ⟨d, e.symm⟩
      · exact .inr (List.mem_replicate.mp m).2
    rcases z with ⟨x, z⟩ | ⟨x, y, z⟩
    · rcases this _ z with ⟨d, e⟩ | e <;> cases e
    · rcases this _ z with ⟨d, e⟩ | e <;> cases e
  have own : ∀ i a, OwnAt (L2.start N (.ref x :: rest)) (.oi cn fs :: (ds.map Sl.fz ++ List.replicate (N.length - (ds.length + 1)) Sl.no)) i a → i = 0 ∧ a = x := fun i a z => by
    rw [st0] at z
    obtain ⟨z1, z2⟩ := z
    cases i with
    | zero =>
      rw [List.getElem?_cons_zero] at z1
      cases z1
      exact ⟨rfl, rfl⟩
    | succ i =>
      rw [List.getElem?_cons_succ] at z1
      rw [List.getElem?_cons_succ] at z2
      exact (nn i a ⟨z1, z2⟩).elim
  refine ss (· = x) U H U { nx := fun _ H' => Q .non H', rt := Q } _ H b (fun _ _ _ z => z) ⟨⟨?_, fun i s e => ?_, fun i j a ne h1 h2 => ?_⟩, wd, u, fun _ z => z, fun i a z => .inl (own i a z).2, fun _ _ z _ _ _ => z, fun i ds' a z1 z2 => ?_, fun i c' fs' a _ z1 z2 => ⟨fun _ => (own i a ⟨z2, .inr ⟨c', fs', z1⟩⟩).2, fun n => absurd (own i a ⟨z2, .inr ⟨c', fs', z1⟩⟩).1 n⟩⟩ (al.mono (fun r b1 h1 => ?_) (fun c fs b1 h1 => ?_))
  · rw [st0, List.length_cons, List.length_cons, r1.len]
  · rw [st0]
    cases i with
    | zero =>
      rw [List.getElem?_cons_zero] at e
      cases e
      exact ⟨_, rfl, x, dx, fvs, rfl, hx, df, ux, np, nc⟩
    | succ i =>
      rw [List.getElem?_cons_succ] at e
      rw [List.getElem?_cons_succ]
      exact r1.at_ i s e
  · exact ne ((own _ _ h1).1.trans (own _ _ h2).1.symm)
  · obtain ⟨rfl, _⟩ := own i a ⟨z2, .inl ⟨ds', z1⟩⟩
    cases z1
  · intro v x' dx' fvs' H' dv hm ha da w f
    subst hm
    exact h1 v dx' fvs' H' dv ha da w f
  · exact fun dd fvs H' z1 z2 z3 z4 z5 => h1 dd fvs H' z1 z2 z3 z4 z5
theorem mut_of1 {K : PySem.W.Frag} {T : List (Addr × Str)} {N : List Str} {cn : Str} {F : Fs → D → Tr (D × Fs)} {vs : List V} {Q : VK} {t : TS} (h : spB K T cn (fun fs => ul1 (F fs)) vs H Q E) (hs : ∀ p c fs x, STl true ⟨K, T, p, c⟩ E (.oi cn fs :: ([x].map Sl.fz ++ List.replicate (N.length - 2) Sl.no)) cn t (F fs x)) : t { nx := fun _ H' => Q .non H', rt := Q } (L2.start N vs) H :=
  mut_of h fun p c fs ds ⟨_, _, _, al⟩ => by
    match ds, al with
    | [x], _ => exact hs p c fs x
end
end Gp
end
section
namespace Gp
open PySem PySem.Spec PyProof.Rows L2 Gh
section
variable {g : Gw} {Mt U0 U U' : Addr → Prop} {H0 H H' H1 H2 : Hp} {b b1 b2 : Nat} {σ : L2.St} {ε ε' : Env} {E : XK} {W L W' : Type}
variable {env : W → Env} {envL : L → Env} {u : TS} {te : TE} {me : Tr D}
theorem spB_len {K : PySem.W.Frag} {T : List (Addr × Str)} {cn : Str} {F : Fs → List D → Tr (D × Fs)} {n : Nat} {Q : VK} (hn : ∀ fs (P : D × Fs → Nat → Prop) (X : Str → Fs → Nat → Prop) ds b, Al P X (F fs ds) b → ds.length = n) {vs : List V} (h : spB K T cn F vs H Q E) : vs.length = n + 1 := by
  obtain ⟨p, c, U, ds, b, x, dx, fvs, fs, rest, rfl, hx, df, ux, np, nc, dn, wd, u, al⟩ := h
  rw [List.length_cons, dn.length, hn _ _ _ _ _ al]
theorem lenB1 {F : Fs → D → Tr (D × Fs)} (fs : Fs) (P : D × Fs → Nat → Prop) (X : Str → Fs → Nat → Prop) (ds : List D) (b : Nat) (h : Al P X (ul1 (F fs) ds) b) : ds.length = 1 := by obtain ⟨_, rfl, _⟩ := al_ul1 h; rfl
end
end Gp
end
section
namespace Gp
open PySem PySem.Spec PyProof.Rows L2 Gh
section
variable {g : Gw} {Mt U0 U U' : Addr → Prop} {H0 H H' H1 H2 : Hp} {b b1 b2 : Nat} {σ : L2.St} {ε ε' : Env} {E : XK} {W L W' : Type}
variable {env : W → Env} {envL : L → Env} {env' : W' → Env} {u ta tb : TS} {te : TE} {me : Tr D}
def spN (K : PySem.W.Frag) (T : List (Addr × Str)) (cn : Str) (F : List D → Tr Fs) : Sp := fun vs H Q E => ∃ p c U ds b, DenL ⟨K, T, p, c⟩ U H vs ds ∧ Wd ⟨K, T, p, c⟩ H b ∧ UOk ⟨K, T, p, c⟩ U H ∧ Al (frP ⟨K, T, p, c⟩ U H cn Q) (exP ⟨K, T, p, c⟩ U E H) (F ds) b
def STf (g : Gw) (E : XK) (ε : Env) (c : Str) (t : TS) (m : Tr Fs) : Prop := ∀ U0 H0 U (D : Ends) σ H b, Stt g (fun _ => False) U0 H0 U σ H b ε → Al (frP g U0 H0 c D.rt) (exS g (fun _ => False) U0 H0 E) m b → t D σ H
theorem tf_ret {c : Str} {m : Tr Fs} (he : SNO g E ε c te m) : STf g E ε c (tSeq (tRet te) u) m := fun U0 H0 U D σ H b s q =>
  he U σ H b _ s.rel s.wd s.uok (q.mono (fun fs b1 h1 x dx fvs H' n hx df w f => h1 x dx fvs H' (fresh_back s.wd (fun a o e z t => s.ext a o e z (fun z => z) t) n) hx (df.sub fun a _ z => z.imp (s.sub a) id) w fun a o e z t => f a o (s.ext a o e z (fun z => z) t) z t) (fun _ _ _ h => exS.exP s h))
def bdN {W' : Type} (m : Tr (Fl W' Empty)) (k : W' → Tr Fs) : Tr Fs := bd m fun f => match f with
  | .nx w => k w
  | _ => .bad
def spS (K : PySem.W.Frag) (T : List (Addr × Str)) (cn : Str) (F : Fs → List D → Tr Fs) : Sp := fun vs H Q E => ∃ p c U ds b x dx fvs fs rest, vs = .ref x :: rest ∧ H x = some (.ins (gd cn K) dx fvs) ∧ DenF ⟨K, T, p, c⟩ U H fvs fs ∧ U x ∧ x ≠ p ∧ x ≠ c ∧ DenL ⟨K, T, p, c⟩ U H rest ds ∧
  Wd ⟨K, T, p, c⟩ H b ∧ UOk ⟨K, T, p, c⟩ U H ∧ Al (fun r b' => ∀ dx' fvs' H', H' x = some (.ins (gd cn K) dx' fvs') → DenF ⟨K, T, p, c⟩ U H' fvs' r → Wd ⟨K, T, p, c⟩ H' b' → FrM ⟨K, T, p, c⟩ (· = x) H H' → Q (.ref x) H')
    (fun cn fs b => ∀ dd fvs H', H' dd = some (.xd fvs) → ¬ U dd → DenF ⟨K, T, p, c⟩ U H' fvs fs → Wd ⟨K, T, p, c⟩ H' b → FrM ⟨K, T, p, c⟩ (· = x) H H' → E (.ref (gd cn K)) (some dd) H') (F fs ds) b
def RsP (g : Gw) (Mt U0 : Addr → Prop) (H0 : Hp) (R : V → Hp → Prop) (c : Str) : Fs → Nat → Prop := fun r b => ∀ x dx fvs H, Mt x → H x = some (.ins (gd c g.K) dx fvs) → DenF g U0 H fvs r → Wd g H b → FrM g Mt H0 H → R (.ref x) H
def STs (g : Gw) (E : XK) (ε : Env) (c : Str) (t : TS) (m : Tr Fs) : Prop := ∀ Mt U0 H0 U (D : Ends) σ H b, Stt g Mt U0 H0 U σ H b ε → Al (RsP g Mt U0 H0 D.rt c) (exS g Mt U0 H0 E) m b → t D σ H
theorem ts_ret {c : Str} {fs : Fs} (h0 : ε[0]? = some (.oi c fs) := by rfl) : STs g E ε c (tSeq (tRet (tVar 0)) u) (.ok fs) := fun Mt U0 H0 U D σ H b s q => by
  obtain ⟨o, eo, a, dx, fvs, rfl, ha, df, ua, n1, n2⟩ := s.rel.at_ 0 _ h0
  exact ⟨.ref a, eo, q a dx fvs H (((s.oim 0 c fs a trivial h0 eo).1 rfl)) ha (df.sub fun a _ z => s.sub a z) s.wd s.ext⟩
theorem ts_stm {c : Str} {m : Tr (Fl W' Empty)} {k : W' → Tr Fs} (env' : W' → Env) (h1 : SS g E ε (tSeq ta tNext) env' envE m) (hk : ∀ w, STs g E (env' w) c u (k w)) : STs g E ε c (tSeq ta u) (bdN m k) := fun Mt U0 H0 U D σ H b s q => by
  refine h1 Mt U0 H0 U { D with nx := u D } σ H b s ((al_bd.mp q).mono (fun f b1 h => ?_) (fun _ _ _ h => h))
  cases f with
  | nx w => exact fun U1 σ1 H1 e1 s1 => hk w Mt U0 H0 U1 D σ1 H1 b1 s1 h
  | rt d => exact h.elim
  | bk l => exact nomatch l
  | ct l => exact nomatch l
theorem self_of {K : PySem.W.Frag} {T : List (Addr × Str)} {N : List Str} {cn : Str} {F : Fs → List D → Tr Fs} {vs : List V} {Q : VK} {t : TS} (h : spS K T cn F vs H Q E)
    (hs : ∀ p c fs ds, (∃ (P : Fs → Nat → Prop) (X : Str → Fs → Nat → Prop) (b : Nat), Al P X (F fs ds) b) → STs ⟨K, T, p, c⟩ E (.oi cn fs :: (ds.map Sl.fz ++ List.replicate (N.length - (ds.length + 1)) Sl.no)) cn t (F fs ds)) :
    t { nx := fun _ H' => Q .non H', rt := Q } (L2.start N vs) H := by
  obtain ⟨p, c, U, ds, b, x, dx, fvs, fs, rest, rfl, hx, df, ux, np, nc, dn, wd, u, al⟩ := h
  have ss := hs p c fs ds ⟨_, _, _, al⟩
  have st0 : L2.start N (.ref x :: rest) = some (.ref x) :: (rest.map some ++ List.replicate (N.length - (rest.length + 1)) none) := rfl
  have r1 : Rel ⟨K, T, p, c⟩ U H (rest.map some ++ List.replicate (N.length - (rest.length + 1)) none) (ds.map Sl.fz ++ List.replicate (N.length - (ds.length + 1)) Sl.no) := by
    have z := rel_start (g := ⟨K, T, p, c⟩) (N := N.drop 1) dn
    unfold L2.start at z
    rw [List.length_drop, Nat.sub_sub, Nat.sub_sub, Nat.add_comm 1, Nat.add_comm 1] at z
    exact z
  have nn : ∀ i a, ¬ OwnAt (rest.map some ++ List.replicate (N.length - (rest.length + 1)) none) (ds.map Sl.fz ++ List.replicate (N.length - (ds.length + 1)) Sl.no) i a := fun i a ⟨_, z⟩ => by
    have : ∀ s : Sl, (ds.map Sl.fz ++ List.replicate (N.length - (ds.length + 1)) Sl.no)[i]? = some s → (∃ d, s = .fz d) ∨ s = .no := fun s e => by
      have m := List.mem_of_getElem? e
      rcases List.mem_append.mp m with m | m
      · obtain ⟨d, _, e⟩ := List.mem_map.mp m
        exact .inl ⟨d, e.symm⟩
      · exact .inr (List.mem_replicate.mp m).2
    rcases z with ⟨x, z⟩ | ⟨x, y, z⟩
    · rcases this _ z with ⟨d, e⟩ | e <;> cases e
    · rcases this _ z with ⟨d, e⟩ | e <;> cases e
  have own : ∀ i a, OwnAt (L2.start N (.ref x :: rest)) (.oi cn fs :: (ds.map Sl.fz ++ List.replicate (N.length - (ds.length + 1)) Sl.no)) i a → i = 0 ∧ a = x := fun i a z => by
    rw [st0] at z
    obtain ⟨z1, z2⟩ := z
    cases i with
    | zero =>
      rw [List.getElem?_cons_zero] at z1
      cases z1
      exact ⟨rfl, rfl⟩
    | succ i =>
      rw [List.getElem?_cons_succ] at z1
      rw [List.getElem?_cons_succ] at z2
      exact (nn i a ⟨z1, z2⟩).elim
  refine ss (· = x) U H U { nx := fun _ H' => Q .non H', rt := Q } _ H b ⟨⟨?_, fun i s e => ?_, fun i j a ne h1 h2 => ?_⟩, wd, u, fun _ z => z, fun i a z => .inl (own i a z).2, fun _ _ z _ _ _ => z, fun i ds' a z1 z2 => ?_, fun i c' fs' a _ z1 z2 => ⟨fun _ => (own i a ⟨z2, .inr ⟨c', fs', z1⟩⟩).2, fun n => absurd (own i a ⟨z2, .inr ⟨c', fs', z1⟩⟩).1 n⟩⟩ (al.mono (fun r b1 h1 => ?_) (fun c fs b1 h1 => ?_))
  · rw [st0, List.length_cons, List.length_cons, r1.len]
  · rw [st0]
    cases i with
    | zero =>
      rw [List.getElem?_cons_zero] at e
      cases e
      exact ⟨_, rfl, x, dx, fvs, rfl, hx, df, ux, np, nc⟩
    | succ i =>
      rw [List.getElem?_cons_succ] at e
      rw [List.getElem?_cons_succ]
      exact r1.at_ i s e
  · exact ne ((own _ _ h1).1.trans (own _ _ h2).1.symm)
  · obtain ⟨rfl, _⟩ := own i a ⟨z2, .inl ⟨ds', z1⟩⟩
    cases z1
  · intro x' dx' fvs' H' hm ha da w f
    subst hm
    exact h1 dx' fvs' H' ha da w f
  · exact fun dd fvs H' z1 z2 z3 z4 z5 => h1 dd fvs H' z1 z2 z3 z4 z5
theorem self_of1 {K : PySem.W.Frag} {T : List (Addr × Str)} {N : List Str} {cn : Str} {F : Fs → D → Tr Fs} {vs : List V} {Q : VK} {t : TS} (h : spS K T cn (fun fs => ul1 (F fs)) vs H Q E) (hs : ∀ p c fs x, STs ⟨K, T, p, c⟩ E (.oi cn fs :: ([x].map Sl.fz ++ List.replicate (N.length - 2) Sl.no)) cn t (F fs x)) : t { nx := fun _ H' => Q .non H', rt := Q } (L2.start N vs) H :=
  self_of h fun p c fs ds ⟨_, _, _, al⟩ => by
    match ds, al with
    | [x], _ => exact hs p c fs x
theorem spS_len1 {K : PySem.W.Frag} {T : List (Addr × Str)} {cn : Str} {F : Fs → D → Tr Fs} {vs : List V} {Q : VK} (h : spS K T cn (fun fs => ul1 (F fs)) vs H Q E) : vs.length = 2 := by
  obtain ⟨p, c, U, ds, b, x, dx, fvs, fs, rest, rfl, _, _, _, _, _, dn, _, _, al⟩ := h
  match ds, al with
  | [x], _ => rw [List.length_cons, dn.length]; rfl
def rIop (C : Addr) (r : List V → Hp → VK → Prop) : R2 := fun x y H Q => ∃ a dx fs, x = .ref a ∧ H a = some (.ins C dx fs) ∧ r [x, y] H Q
structure IopT (K : PySem.W.Frag) (C f : Addr) (op : Operator) : Prop where
  sf : PySem.W.selfFirst K C = true
  fi : PySem.W.findIn K (.ref C) (dunderI op.info.2) = some (some (.ref f))
  fn : PySem.W.isFn K (.ref f) = true
theorem iopB_ok {x m : Str} {op : Operator} {K : PySem.W.Frag} (h : iopB x m op K = true) : IopT K (gd x K) (md x m K) op := by
  obtain ⟨h1, h2⟩ := He.ba h
  obtain ⟨h2, h3⟩ := He.ba h2
  exact ⟨h1, He.eqO_ok h2, h3⟩
theorem op_iown {X : Cx} {C f : Addr} {r : List V → Hp → VK → Prop} {op : Operator} (T : IopT X.K C f op) (R : CallR X (.ref f) r) : OpR X (inplaceOp op) (rIop C r) := by
  intro pins s σ H x y v u Q I rx ry h
  obtain ⟨a, dx, fs, rfl, ha, q⟩ := h
  cases (show v = Value.ref a from rx)
  obtain ⟨ox, od, J⟩ := ins_look I ha
  obtain ⟨m, hF⟩ := I.fr
  refine PySem.W.ksp_inplace hF I.ok.mod.kin J T.sf T.fi T.fn ?_
  exact wpAny_mono (R pins s σ H [.ref a, y] [.ref a, u] Q I (.cons rfl (.cons ry .nil)) q) (fun w s' z => cmp_back z) fun _ _ x => x
theorem ip_iown {X : Cx} {C f : Addr} {r : List V → Hp → VK → Prop} {op : Operator} (T : IopT X.K C f op) (R : CallR X (.ref f) r) : PIp X op (rIop C r) := fun pins s σ H x y v u Q I rx ry h => op_iown T R pins s σ H x y v u Q I rx ry h
theorem set_same {σ : L2.St} {i : Nat} {v : V} (h : σ[i]? = some (some v)) : σ.set i (some v) = σ := by
  obtain ⟨hl, e⟩ := List.getElem?_eq_some_iff.mp h
  rw [← e]
  exact List.set_getElem_self hl
theorem rel_new {x : Addr} (r : Rel g U H σ ε) (ev : Ev U H (fun a => U a ∨ a = x) H') (f : Fr H H' g.p) : Rel g (fun a => U a ∨ a = x) H' σ ε := by
  refine ⟨r.len, fun j y e => ?_, r.apart⟩
  obtain ⟨o, e1, e2⟩ := r.at_ j y e
  refine ⟨o, e1, ?_⟩
  cases y with
  | no => trivial
  | fz d =>
    obtain ⟨v, e3, e4⟩ := e2
    exact ⟨v, e3, e4.ev ev⟩
  | ow ds2 =>
    obtain ⟨a2, v2, rfl, h2, d2, u2, m1, m2⟩ := e2
    exact ⟨a2, v2, rfl, f _ _ h2 m1 d2.tbl, d2.map (fun q => q.ev ev), .inl u2, m1, m2⟩
  | oi c fs =>
    obtain ⟨a2, dx, v2, rfl, h2, d2, u2, m1, m2⟩ := e2
    exact ⟨a2, dx, v2, rfl, f _ _ h2 m1 (fun _ z => by cases z), d2.ev ev, .inl u2, m1, m2⟩
end
end Gp
end
section
namespace Gp
open PySem PySem.Spec PyProof.Rows L2 Gh
section
variable {g : Gw} {Mt U0 U U' : Addr → Prop} {H0 H H' H1 H2 : Hp} {b b1 b2 : Nat} {σ : L2.St} {ε ε' : Env} {E : XK} {W L W' : Type}
variable {env : W → Env} {envL : L → Env} {env' : W' → Env} {u ta tb : TS} {te : TE} {me : Tr D}
theorem obj_swap {i : Nat} {a y dx : Addr} {c c' : Str} {fs0 fs : Fs} {fvs : List (Str × V)} (hi0 : i ≠ 0) (s : Stt g Mt U0 H0 U σ H b ε) (hi : ε[i]? = some (.oi c' fs0)) (eo : σ[i]? = some (some (.ref a)))
    (n : y = a ∨ ∀ o, H y = some o → ∃ ps, o = .tbl ps) (hy : H' y = some (.ins (gd c g.K) dx fvs)) (df : DenF g (fun z => (U z ∧ z ≠ a) ∨ z = y) H' fvs fs) (w : Wd g H' b1) (f : FrM g (· = a) H H') :
    Stt g Mt U0 H0 (fun z => (U z ∧ z ≠ a) ∨ z = y) (σ.set i (some (.ref y))) H' b1 (ε.set i (.oi c fs)) ∧ Ev U H (fun z => (U z ∧ z ≠ a) ∨ z = y) H' := by
  obtain ⟨o0, eo', a0, dx0, fvs0, e0, ha, df0, ua, n1, n2⟩ := s.rel.at_ i _ hi
  have ea : a0 = a := by
    rw [eo'] at eo
    subst e0
    cases eo
    rfl
  subst ea
  have nUa : ¬ U0 a0 := (s.oim i c' fs0 a0 trivial hi eo).2 hi0
  have yU : U y → y = a0 := fun z => n.elim id fun n => by
    obtain ⟨o, e, t⟩ := s.uok.al y z
    obtain ⟨ps, q⟩ := n o e
    exact (t.tbl ps q).elim
  have hp : y ≠ g.p := fun z => n1 ((yU (z ▸ s.uok.p)).symm.trans z)
  have hc : y ≠ g.c := fun z => n2 ((yU (z ▸ s.uok.c)).symm.trans z)
  have keep : ∀ {x : Addr} {o : HO}, H x = some o → ¬ U x → (∀ ps, o ≠ .tbl ps) → H' x = some o := fun {x o} e m t => f x o e (fun z => m (z ▸ s.uok.p)) (fun z => m (z ▸ ua)) t
  have ev : Ev U H (fun z => (U z ∧ z ≠ a0) ∨ z = y) H' := ⟨fun x o e m t => keep e m t, fun x o e m t z => z.elim (fun z => m z.1) fun z => by
    subst z
    rcases n with z | n
    · exact m (z ▸ ua)
    · obtain ⟨ps, q⟩ := n o e
      exact t ps q⟩
  have sig : ∀ j x, OwnAt σ ε j x → U x := fun j x h => by
    obtain ⟨h1, ⟨ds, h2⟩ | ⟨c, fs, h2⟩⟩ := h
    · obtain ⟨o, e, a', vs, e2, h, k, ua, _⟩ := s.rel.at_ j _ h2
      rw [h1] at e
      cases e
      cases e2
      exact ua
    · obtain ⟨o, e, a', dx, fvs, e2, h, k, ua, _⟩ := s.rel.at_ j _ h2
      rw [h1] at e
      cases e
      cases e2
      exact ua
  have apart : ∀ j x, i ≠ j → OwnAt σ ε j x → x ≠ a0 := fun j x ne z e => by
    subst e
    exact s.rel.apart i j x ne ⟨eo, .inr ⟨c', fs0, hi⟩⟩ z
  have noy : ∀ j x, i ≠ j → OwnAt σ ε j x → x ≠ y := fun j x ne z e => by
    subst e
    exact apart j x ne z (yU (sig j x z))
  have il : i < ε.length := (List.getElem?_eq_some_iff.mp hi).1
  have hown := s.own i a0 ⟨eo, .inr ⟨c', fs0, hi⟩⟩
  refine ⟨⟨⟨by rw [List.length_set, List.length_set]; exact s.rel.len, fun j q e => ?_, fun j k x ne h1 h2 => ?_⟩, w, ⟨.inl ⟨s.uok.p, n1.symm⟩, .inl ⟨s.uok.c, n2.symm⟩, fun x hx => ?_⟩, fun x z => .inl ⟨s.sub x z, fun q => nUa (q ▸ z)⟩, fun j x h => ?_, fun x o e m1 m2 m3 => ?_, fun j xs x e1 e2 => ?_, fun j c2 fs2 x j0 e1 e2 => ?_⟩, ev⟩
  · by_cases q2 : i = j
    · subst q2
      rw [List.getElem?_set_self il] at e
      cases e
      exact ⟨_, List.getElem?_set_self (by rw [s.rel.len]; exact il), y, dx, fvs, rfl, hy, df, .inr rfl, hp, hc⟩
    · rw [List.getElem?_set_ne q2] at e ⊢
      obtain ⟨o, e1, e2⟩ := s.rel.at_ j q e
      refine ⟨o, e1, ?_⟩
      cases q with
      | no => trivial
      | fz d =>
        obtain ⟨v, e3, e4⟩ := e2
        exact ⟨v, e3, e4.ev ev⟩
      | ow ds2 =>
        obtain ⟨a2, v2, rfl, h2, d2, u2, m1, m2⟩ := e2
        have ne := apart j a2 q2 ⟨e1, .inl ⟨ds2, e⟩⟩
        exact ⟨a2, v2, rfl, f _ _ h2 m1 ne d2.tbl, d2.map (fun q => q.ev ev), .inl ⟨u2, ne⟩, m1, m2⟩
      | oi c fs =>
        obtain ⟨a2, dx, v2, rfl, h2, d2, u2, m1, m2⟩ := e2
        have ne := apart j a2 q2 ⟨e1, .inr ⟨c, fs, e⟩⟩
        exact ⟨a2, dx, v2, rfl, f _ _ h2 m1 ne (fun _ z => by cases z), d2.ev ev, .inl ⟨u2, ne⟩, m1, m2⟩
  · rcases ownAt_setI h1 with ⟨rfl, z1⟩ | ⟨n1, z1⟩ <;> rcases ownAt_setI h2 with ⟨rfl, z2⟩ | ⟨n2, z2⟩
    · exact ne rfl
    · cases z1
      exact noy _ _ n2 z2 rfl
    · cases z2
      exact noy _ _ n1 z1 rfl
    · exact s.rel.apart j k x ne z1 z2
  · rcases hx with ⟨hx, na⟩ | rfl
    · by_cases q : x = g.p
      · subst q
        obtain ⟨ns, i, z, h, _⟩ := w.pen
        exact ⟨_, h, (fun _ z => by cases z), (fun _ z => by cases z)⟩
      · obtain ⟨o, e, t⟩ := s.uok.al x hx
        exact ⟨o, f x o e q na t.tbl, t⟩
    · exact ⟨_, hy, (fun _ z => by cases z), (fun _ z => by cases z)⟩
  · rcases ownAt_setI h with ⟨rfl, z⟩ | ⟨_, z⟩
    · cases z
      rcases n with rfl | n
      · exact hown
      · by_cases m : Mt y
        · exact .inl m
        · refine .inr fun o q => ?_
          by_cases t : ∃ ps, o = .tbl ps
          · exact t
          · exact n o (s.ext y o q hp m (fun ps z => t ⟨ps, z⟩))
    · exact s.own j x z
  · refine f x o (s.ext x o e m1 m2 m3) m1 (fun z => ?_) m3
    subst z
    rcases hown with z | z
    · exact m2 z
    · obtain ⟨ps, z⟩ := z o e
      exact m3 ps z
  · by_cases q : i = j
    · subst q
      rw [List.getElem?_set_self il] at e1
      cases e1
    · rw [List.getElem?_set_ne q] at e1 e2
      exact s.nu0 j xs x e1 e2
  · rcases ownAt_setI ⟨e2, .inr ⟨c2, fs2, e1⟩⟩ with ⟨q, z⟩ | ⟨q, _⟩
    · cases z
      exact ⟨fun z => absurd (q.trans z) hi0, fun _ z => nUa ((yU (s.sub _ z)) ▸ z)⟩
    · rw [List.getElem?_set_ne q] at e1 e2
      exact s.oim j c2 fs2 x j0 e1 e2
def spO (K : PySem.W.Frag) (T : List (Addr × Str)) (cn : Str) (F : D → Fs → D → D → Tr Fs) : Sp := fun vs H Q E => ∃ p c U d0 d2 d3 b x dx fvs fs v0 v2 v3, vs = [v0, .ref x, v2, v3] ∧ H x = some (.ins (gd cn K) dx fvs) ∧ DenF ⟨K, T, p, c⟩ U H fvs fs ∧ U x ∧ x ≠ p ∧ x ≠ c ∧
  Den ⟨K, T, p, c⟩ U H v0 d0 ∧ Den ⟨K, T, p, c⟩ U H v2 d2 ∧ Den ⟨K, T, p, c⟩ U H v3 d3 ∧ Wd ⟨K, T, p, c⟩ H b ∧ UOk ⟨K, T, p, c⟩ U H ∧
  Al (fun r b' => ∀ y dx' fvs' H', (y = x ∨ ∀ o, H y = some o → ∃ ps, o = .tbl ps) → H' y = some (.ins (gd cn K) dx' fvs') → DenF ⟨K, T, p, c⟩ (fun z => (U z ∧ z ≠ x) ∨ z = y) H' fvs' r → Wd ⟨K, T, p, c⟩ H' b' → FrM ⟨K, T, p, c⟩ (· = x) H H' → Q (.ref y) H') (fun _ _ _ => False) (F d0 fs d2 d3) b
def RoP (g : Gw) (x : Addr) (U0 : Addr → Prop) (H0 : Hp) (R : V → Hp → Prop) (c : Str) : Fs → Nat → Prop := fun r b => ∀ y dx fvs H, (y = x ∨ ∀ o, H0 y = some o → ∃ ps, o = .tbl ps) → H y = some (.ins (gd c g.K) dx fvs) → DenF g (fun z => U0 z ∨ z = y) H fvs r → Wd g H b → FrM g (· = x) H0 H → R (.ref y) H
def STo (g : Gw) (ε : Env) (c : Str) (t : TS) (m : Tr Fs) : Prop := ∀ x U0 H0 U (D : Ends) σ H b, Stt g (· = x) U0 H0 U σ H b ε → Al (RoP g x U0 H0 D.rt c) (fun _ _ _ => False) m b → t D σ H
theorem to_stm {E : XK} {c : Str} {m : Tr (Fl W' Empty)} {k : W' → Tr Fs} (env' : W' → Env) (h1 : SS g E ε (tSeq ta tNext) env' envE m) (hk : ∀ w, STo g (env' w) c u (k w)) : STo g ε c (tSeq ta u) (bdN m k) := fun x U0 H0 U D σ H b s q => by
  refine h1 (· = x) U0 H0 U { D with nx := u D } σ H b s ((al_bd.mp q).mono (fun f b1 h => ?_) (fun _ _ _ h => h.elim))
  cases f with
  | nx w => exact fun U1 σ1 H1 e1 s1 => hk w x U0 H0 U1 D σ1 H1 b1 s1 h
  | rt d => exact h.elim
  | bk l => exact nomatch l
  | ct l => exact nomatch l
theorem to_if {E : XK} {c : Str} {tc : TT} {mc : Tr Bool} {m n : Tr Fs} (hc : ST g E ε tc mc) (ha : STo g ε c ta m) (hk : STo g ε c u n) : STo g ε c (tSeq (tIfS tc ta tNext) u) (bd mc fun k => if k = true then m else n) := fun x U0 H0 U D σ H b s q =>
  hc U σ H b _ s.rel s.wd s.uok ((al_bd.mp q).mono (fun k b1 h1 H1 w1 f1 => by
    have s1 := s.fr f1 w1
    cases k with
    | true => exact ha x U0 H0 U { D with nx := u D } σ H1 b1 s1 h1
    | false => exact hk x U0 H0 U D σ H1 b1 s1 h1) (fun _ _ _ h => h.elim))
theorem ro_here {k : Nat} {x : Addr} {c : Str} {fs : Fs} {R : V → Hp → Prop} (s : Stt g (· = x) U0 H0 U σ H b ε) (hk : ε[k]? = some (.oi c fs)) (q : RoP g x U0 H0 R c fs b) : tVar k σ H R := by
  obtain ⟨o, eo, a, dx, fvs, rfl, ha, df, ua, n1, n2⟩ := s.rel.at_ k _ hk
  exact ⟨.ref a, eo, q a dx fvs H (s.own k a ⟨eo, .inr ⟨c, fs, hk⟩⟩) ha (df.sub fun z _ h => h.elim (s.sub z) fun h => h ▸ ua) s.wd s.ext⟩
theorem to_ret {E : XK} {k : Nat} {c : Str} {fs : Fs} {tc : TT} {mc : Tr Bool} {tn : TE} (hc : ST g E ε tc mc) (hk : ε[k]? = some (.oi c fs) := by rfl) : STo g ε c (tSeq (tRet (tIf tc (tVar k) tn)) u) (bd mc fun b => if b = true then .ok fs else .bad) := fun x U0 H0 U D σ H b s q =>
  hc U σ H b _ s.rel s.wd s.uok ((al_bd.mp q).mono (fun k1 b1 h1 H1 w1 f1 => by
    have s1 := s.fr f1 w1
    cases k1 with
    | true => exact ro_here s1 hk h1
    | false => exact h1.elim) (fun _ _ _ h => h.elim))
theorem to_retM {E : XK} {k : Nat} {c : Str} {m : Tr (D × Fs)} {tn : TE} (hm : SM g E ε k c te m) (hk : k < ε.length) : STo g ε c (tSeq (tRet (tIf (tTest (tOp rIsN te (tC .non))) (tVar k) tn)) u) (bdP m fun d fs' => if isN d = true then .ok fs' else .bad) := fun x U0 H0 U D σ H b s q =>
  hm (· = x) U0 H0 U σ H b _ s ((al_bd.mp q).mono (fun r b1 h1 v H1 dv s1 ev => by
    refine st_isN ?_
    rw [den_non dv]
    refine ⟨_, rfl, ?_⟩
    have h2 : Al (RoP g x U0 H0 D.rt c) (fun _ _ _ => False) (if isN r.1 = true then Tr.ok r.2 else .bad) b1 := h1
    cases e : isN r.1 with
    | true =>
      rw [e] at h2
      exact ro_here s1 (List.getElem?_set_self hk) h2
    | false =>
      rw [e] at h2
      exact h2.elim) (fun _ _ _ h => h.elim))
theorem stt_setNo {j : Nat} {v : V} (s : Stt g Mt U0 H0 U σ H b ε) (hj : ε[j]? = some .no) : Stt g Mt U0 H0 U (σ.set j (some v)) H b ε := by
  have jl : j < ε.length := (List.getElem?_eq_some_iff.mp hj).1
  have ow : ∀ k x, OwnAt (σ.set j (some v)) ε k x → OwnAt σ ε k x := fun k x ⟨z1, z2⟩ => by
    by_cases q : j = k
    · subst q
      rcases z2 with ⟨_, z2⟩ | ⟨_, _, z2⟩ <;> (rw [hj] at z2; cases z2)
    · rw [List.getElem?_set_ne q] at z1
      exact ⟨z1, z2⟩
  refine ⟨⟨by rw [List.length_set]; exact s.rel.len, fun k q e => ?_, fun k l x ne z1 z2 => s.rel.apart k l x ne (ow _ _ z1) (ow _ _ z2)⟩, s.wd, s.uok, s.sub, fun k x z => s.own k x (ow _ _ z), s.ext, fun k ds x e1 e2 => s.nu0 k ds x e1 (ow k x ⟨e2, .inl ⟨ds, e1⟩⟩).1, fun k c fs x j0 e1 e2 => s.oim k c fs x j0 e1 (ow k x ⟨e2, .inr ⟨c, fs, e1⟩⟩).1⟩
  by_cases q2 : j = k
  · subst q2
    rw [hj] at e
    cases e
    exact ⟨_, List.getElem?_set_self (by rw [s.rel.len]; exact jl), trivial⟩
  · obtain ⟨o, e1, e2⟩ := s.rel.at_ k q e
    exact ⟨o, by rw [List.getElem?_set_ne q2]; exact e1, e2⟩
theorem to_alias {E : XK} {i j : Nat} {c : Str} {fs : Fs} {F : Fs → List D → Tr Fs} {tc : TT} {mc : Fs → Tr Bool} {tn : TE} (he : SE g E ε te me) (hc : ∀ fs', ST g E ((ε.set i (.fz (.obj c fs'))).set j (.fz (.obj c fs'))) tc (mc fs'))
    (hi : ε[i]? = some (.oi c fs) := by rfl) (hj : ε[j]? = some .no := by rfl) (hij : i ≠ j := by decide) :
    STo g ε c (tSeq (tAsg (tVar i) (gName j)) (tSeq (tAug j te (rIop (gd c g.K) (rSp (spS g.K g.T c F) [] E))) (tSeq (tRet (tIf tc (tVar i) tn)) u)))
      (bd me fun y => bd (F fs [y]) fun fs' => bd (vwA tt1 (mc fs')) fun k => if k = true then .ok fs' else .bad) := fun x U0 H0 U D σ H b s q => by
  obtain ⟨o, eo, a, dx, fvs, rfl, ha, df, ua, n1, n2⟩ := s.rel.at_ i _ hi
  have il : i < ε.length := (List.getElem?_eq_some_iff.mp hi).1
  have jl : j < ε.length := (List.getElem?_eq_some_iff.mp hj).1
  refine ⟨.ref a, eo, ?_⟩
  have sN := stt_setNo (v := .ref a) s hj
  have ej : (σ.set j (some (V.ref a)))[j]? = some (some (.ref a)) := List.getElem?_set_self (by rw [s.rel.len]; exact jl)
  have ei : (σ.set j (some (V.ref a)))[i]? = some (some (.ref a)) := by rw [List.getElem?_set_ne hij.symm]; exact eo
  refine ⟨.ref a, ej, ?_⟩
  refine he U _ H b _ sN.rel sN.wd sN.uok ((al_bd.mp q).mono (fun d b1 h1 y H1 dy w1 f1 => ?_) (fun _ _ _ h => h.elim))
  have s1 := sN.fr f1 w1
  obtain ⟨o, eo', a', dx', fvs', rfl, ha', df', ua', n1', n2'⟩ := s1.rel.at_ i _ hi
  have ea : a' = a := by rw [eo'] at ei; cases ei; rfl
  subst ea
  refine ⟨a', dx', fvs', rfl, ha', ?_⟩
  show spS g.K g.T c F (.ref a' :: ([y] ++ [])) H1 _ E
  refine ⟨g.p, g.c, U, [d], b1, a', dx', fvs', fs, [y], rfl, ha', df', ua', n1', n2', .cons dy .nil, s1.wd, s1.uok, (al_bd.mp h1).mono (fun r b2 h dx2 fvs2 H2 e2 d2 w2 f2 => ?_) (fun _ _ _ h => h.elim)⟩
  obtain ⟨s2, ev⟩ := oi_stepI s1 hi ei e2 d2 w2 f2
  have hi2 : (ε.set i (.oi c r))[i]? = some (.oi c r) := List.getElem?_set_self il
  show tSeq (tRet (tIf tc (tVar i) tn)) u D ((σ.set j (some (V.ref a'))).set j (some (.ref a'))) H2
  rw [set_same ej]
  obtain ⟨a2, dxx, fvv, eo2, ha2, ua2, m1, m2, R'⟩ := rel_view s2.rel hi2
  have ea2 : a2 = a' := by rw [eo2] at ei; cases ei; rfl
  subst ea2
  rw [List.set_set] at R'
  have dd : Den g (fun z => U z ∧ z ≠ a2) H2 (.ref a2) (.obj c r) := by
    obtain ⟨o, e1, v, rfl, e3⟩ := R'.at_ i (.fz (.obj c r)) (List.getElem?_set_self il)
    rw [ei] at e1
    cases e1
    exact e3
  have R2 := R'.set j dd
  rw [set_same ej] at R2
  refine hc r (fun z => U z ∧ z ≠ a2) _ H2 b2 _ R2 s2.wd (uok_view s2.uok m1 m2) ((al_vw (al_bd.mp h)).mono (fun k b3 h3 H3 w3 f3 => ?_) (fun _ _ _ h => h.2.elim))
  have s3 := s2.fr f3 w3
  cases k with
  | true => exact ro_here s3 hi2 h3.2
  | false => exact h3.2.elim
theorem ss_asgO {i : Nat} {c : Str} {fs : Fs} {F : D → Fs → D → D → Tr Fs} {t0 t2 t3 : TE} {m0 m2 m3 : Tr D} {k : Fs → Tr (Fl W L)} (h0 : SE g E ε t0 m0) (h2 : SE g E ε t2 m2) (h3 : SE g E ε t3 m3) (hk : ∀ fs', SS g E (ε.set i (.oi c fs')) u env envL (k fs'))
    (hi : ε[i]? = some (.oi c fs) := by rfl) (hi0 : i ≠ 0 := by decide) :
    SS g E ε (tSeq (tAsg (tCl (rSp (spO g.K g.T c F) [] E) (tCons t0 (tCons (tVar i) (tCons t2 (tCons t3 tNil))))) (gName i)) u) env envL (bd m0 fun d0 => bd m2 fun d2 => bd m3 fun d3 => bd (nox (F d0 fs d2 d3)) k) := fun Mt U0 H0 U D σ H b s q => by
  refine h0 U σ H b _ s.rel s.wd s.uok ((al_bd.mp q).mono (fun d0 b1 q1 v0 H1 dv0 w1 f1 => ?_) (fun _ _ _ h => exS.exP s h))
  have s1 := s.fr f1 w1
  obtain ⟨o, eo, a, dx, fvs, rfl, ha, df, ua, n1, n2⟩ := s1.rel.at_ i _ hi
  refine ⟨.ref a, eo, ?_⟩
  refine h2 U σ H1 b1 _ s1.rel s1.wd s1.uok ((al_bd.mp q1).mono (fun d2 b2 q2 v2 H2 dv2 w2 f2 => ?_) (fun _ _ _ h => exS.exP s1 h))
  have s2 := s1.fr f2 w2
  refine h3 U σ H2 b2 _ s2.rel s2.wd s2.uok ((al_bd.mp q2).mono (fun d3 b3 q3 v3 H3 dv3 w3 f3 => ?_) (fun _ _ _ h => exS.exP s2 h))
  have s3 := s2.fr f3 w3
  obtain ⟨o, eo', a', dx', fvs', rfl, ha', df', ua', n1', n2'⟩ := s3.rel.at_ i _ hi
  have ea : a' = a := by rw [eo'] at eo; cases eo; rfl
  subst ea
  dsimp only [tNil, rSp, gName, List.append_nil]
  refine ⟨g.p, g.c, U, d0, d2, d3, b3, a', dx', fvs', fs, v0, v2, v3, rfl, ha', df', ua', n1', n2', (dv0.fr s1.uok f2).fr s2.uok f3, dv2.fr s2.uok f3, dv3, s3.wd, s3.uok,
    (al_nox (E' := fun _ _ _ => False) (al_bd.mp q3)).mono (fun r b4 h4 y dx2 fvs2 H4 n hy d4 w4 f4 => ?_) (fun _ _ _ h => h)⟩
  obtain ⟨s4, ev⟩ := obj_swap hi0 s3 hi eo n hy d4 w4 f4
  exact hk r Mt U0 H0 _ D _ H4 b4 s4 (h4.mono (fun _ _ z => z.ev ((s.uok.ev f1).trans ((s1.uok.ev f2).trans ((s2.uok.ev f3).trans ev)))) (fun _ _ _ z => z))
end
theorem own_of {K : PySem.W.Frag} {T : List (Addr × Str)} {N : List Str} {cn : Str} {F : D → Fs → D → D → Tr Fs} {vs : List V} {H : Hp} {Q : VK} {E : XK} {t : TS} (h : spO K T cn F vs H Q E)
    (hs : ∀ p c d0 fs d2 d3, STo ⟨K, T, p, c⟩ (.fz d0 :: .oi cn fs :: .fz d2 :: .fz d3 :: List.replicate (N.length - 4) Sl.no) cn t (F d0 fs d2 d3)) :
    t { nx := fun _ H' => Q .non H', rt := Q } (L2.start N vs) H := by
  obtain ⟨p, c, U, d0, d2, d3, b, x, dx, fvs, fs, v0, v2, v3, rfl, hx, df, ux, np, nc, e0, e2, e3, wd, u, al⟩ := h
  have st0 : L2.start N [v0, .ref x, v2, v3] = some v0 :: some (.ref x) :: some v2 :: some v3 :: List.replicate (N.length - 4) none := rfl
  have nr : ∀ (i : Nat) (s : Sl), (List.replicate (N.length - 4) Sl.no)[i]? = some s → s = .no := fun i s e => (List.mem_replicate.mp (List.mem_of_getElem? e)).2
  have own : ∀ i a, OwnAt (L2.start N [v0, .ref x, v2, v3]) (.fz d0 :: .oi cn fs :: .fz d2 :: .fz d3 :: List.replicate (N.length - 4) Sl.no) i a → i = 1 ∧ a = x := fun i a z => by
    rw [st0] at z
    obtain ⟨z1, z2⟩ := z
    match i with
    | 0 => rcases z2 with ⟨_, z2⟩ | ⟨_, _, z2⟩ <;> cases z2
    | 1 =>
      cases z1
      exact ⟨rfl, rfl⟩
    | 2 => rcases z2 with ⟨_, z2⟩ | ⟨_, _, z2⟩ <;> cases z2
    | 3 => rcases z2 with ⟨_, z2⟩ | ⟨_, _, z2⟩ <;> cases z2
    | i + 4 =>
      rcases z2 with ⟨_, z2⟩ | ⟨_, _, z2⟩
      · cases nr i _ z2
      · cases nr i _ z2
  refine hs p c d0 fs d2 d3 x (fun z => U z ∧ z ≠ x) H U { nx := fun _ H' => Q .non H', rt := Q } _ H b ⟨⟨?_, fun i s e => ?_, fun i j a ne h1 h2 => ?_⟩, wd, u, fun _ z => z.1, fun i a z => .inl (own i a z).2, fun _ _ z _ _ _ => z, fun i ds' a z1 z2 => ?_, fun i c' fs' a _ z1 z2 => ⟨fun h0 => ?_, fun _ z => z.2 (own i a ⟨z2, .inr ⟨c', fs', z1⟩⟩).2⟩⟩ (al.mono (fun r b1 h1 => ?_) (fun _ _ _ h => h))
  · rw [st0]
    simp
  · rw [st0]
    match i, e with
    | 0, e => cases e; exact ⟨_, rfl, _, rfl, e0⟩
    | 1, e => cases e; exact ⟨_, rfl, x, dx, fvs, rfl, hx, df, ux, np, nc⟩
    | 2, e => cases e; exact ⟨_, rfl, _, rfl, e2⟩
    | 3, e => cases e; exact ⟨_, rfl, _, rfl, e3⟩
    | i + 4, e =>
      have es := nr i s e
      subst es
      have il : i < N.length - 4 := by
        have z := (List.getElem?_eq_some_iff.mp (show (List.replicate (N.length - 4) Sl.no)[i]? = some .no from e)).1
        rwa [List.length_replicate] at z
      refine ⟨none, ?_, trivial⟩
      show (List.replicate (N.length - 4) (none : Option V))[i]? = some none
      rw [List.getElem?_replicate, if_pos il]
  · exact ne ((own _ _ h1).1.trans (own _ _ h2).1.symm)
  · obtain ⟨rfl, _⟩ := own i a ⟨z2, .inl ⟨ds', z1⟩⟩
    cases z1
  · have z := (own i a ⟨z2, .inr ⟨c', fs', z1⟩⟩).1
    rw [h0] at z
    cases z
  · exact fun y dx' fvs' H' n hy d4 w4 f4 => h1 y dx' fvs' H' n hy d4 w4 f4
theorem spO_len {K : PySem.W.Frag} {T : List (Addr × Str)} {cn : Str} {F : D → Fs → D → D → Tr Fs} {vs : List V} {H : Hp} {Q : VK} {E : XK} (h : spO K T cn F vs H Q E) : vs.length = 4 := by
  obtain ⟨p, c, U, d0, d2, d3, b, x, dx, fvs, fs, v0, v2, v3, rfl, _⟩ := h
  rfl
end Gp
end
section
namespace Gp
open PySem PySem.Spec PyProof.Rows L2 Gh
section
variable {g : Gw} {Mt U0 U U' : Addr → Prop} {H0 H H' H1 H2 : Hp} {b b1 b2 : Nat} {σ : L2.St} {ε ε' : Env} {E : XK} {W L W' : Type}
variable {env : W → Env} {envL : L → Env} {env' : W' → Env} {u ta tb : TS} {te : TE} {me : Tr D}
theorem srl_frz {cn : Str} {F : List D → Tr Fs} : SRL g E (rSp (spN g.K g.T cn F) [] E) (fun ds => bd (F ds) fun fs => .ok (.obj cn fs)) := fun U H b xs dxs Q dn wd u q =>
  ⟨g.p, g.c, U, dxs, b, by rw [List.append_nil]; exact dn, wd, u, (al_bd.mp q).mono (fun fs b1 q1 => frP.frz u q1) (fun _ _ _ h => h)⟩
theorem srk_frz {cn : Str} {F : List D → Tr Fs} {n m : Nat} {l : List (Nat ⊕ Nat)} : SRK g E (rSpK n m (fun vs zs => vs ++ picks l [] zs) (spN g.K g.T cn F) E) (kwD n m l [] (fun ds => bd (F ds) fun fs => .ok (.obj cn fs))) := fun U H b vs zs ds es Q dn en wd u q => by
  unfold kwD at q
  split at q
  · rename_i hl
    exact ⟨by rw [dn.length]; exact hl.1, by rw [en.length]; exact hl.2, g.p, g.c, U, _, b, dn.append (denL_picks l .nil en), wd, u, (al_bd.mp q).mono (fun fs b1 q1 => frP.frz u q1) (fun _ _ _ h => h)⟩
  · exact q.elim
theorem sno_meth {c m cn : Str} {F : List D → Tr Fs} {ta : TE} {ma : Tr D} {t : TA} {mt : Tr (List D)} (ha : SE g E ε ta ma) (ht : SA g E ε t mt) :
    SNO g E ε cn (tMt (gd c g.K) m (rSp (spN g.K g.T cn F) [] E) ta t) (bd ma fun o => isO c o fun fs => if fs.lookup m = none then bd mt fun ds => F (o :: ds) else .bad) := fun U σ H b Q R W u q =>
  ha.step R W u q fun v d H1 b1 d1 w1 f1 R1 u1 q1 => by
    obtain ⟨fs, rfl, q2⟩ := al_isO q1
    obtain ⟨a, dx, fvs, rfl, ea, na, df⟩ := den_obj d1
    by_cases hl : fs.lookup m = none
    · rw [if_pos hl] at q2
      refine ⟨a, dx, fvs, rfl, ea, df.look0 hl, ?_⟩
      refine ht.step R1 w1 u1 q2 fun vs ds H2 b2 d2 w2 f2 R2 u2 q3 => ?_
      exact ⟨g.p, g.c, U, _, b2, by rw [List.append_nil]; exact .cons (d1.fr u1 f2) d2, w2, u2, q3.mono (fun _ _ h => frP.fr w2 (f1.trans f2) h) (fun _ _ _ h => h)⟩
    · rw [if_neg hl] at q2
      exact q2.elim
theorem sno_view {i : Nat} {c cn : Str} {fs : Fs} {m : Tr Fs} (he : SNO g E (ε.set i (.fz (.obj c fs))) cn te m) (hi : ε[i]? = some (.oi c fs) := by rfl) : SNO g E ε cn te (vwA (fun r : Fs => r.all fun z => noO z.2) m) := fun U σ H b Q R W u q => by
  obtain ⟨a, dx, fvs, eo, ha, ua, n1, n2, R'⟩ := rel_view R hi
  refine he (fun x => U x ∧ x ≠ a) σ H b Q R' W (uok_view u n1 n2) ((al_vw q).mono (fun r b1 h1 x dx' fvs' H' n hx df w f => ?_) (fun _ _ _ h => exP_view ha n1 h))
  refine h1.2 x dx' fvs' H' n hx (denF_unview (f a _ ha n1 (fun _ z => by cases z)) (fun z hz => ?_) df h1.1) w f
  rcases hz with hz | rfl
  · by_cases q : z = a
    · exact .inr q
    · exact .inl (.inl ⟨hz, q⟩)
  · exact .inl (.inr rfl)
theorem ss_parOD {i j : Nat} {c1 : Str} {t1 t2 : TE} {m1 : Tr Fs} {m2 : Tr D} {k : Fs → D → Tr (Fl W L)} (h1 : SNO g E ε c1 t1 m1) (h2 : SE g E ε t2 m2) (hk : ∀ f1 d, SS g E ((ε.set i (.oi c1 f1)).set j (.fz d)) u env envL (k f1 d)) (hi0 : i ≠ 0 := by decide) :
    SS g E ε (tSeq (tPar i j (tCons t1 (tCons t2 tNil))) u) env envL (bd m1 fun f1 => bd m2 fun d => k f1 d) := fun Mt U0 H0 U D σ H b s q => by
  refine h1 U σ H b _ s.rel s.wd s.uok ((al_bd.mp q).mono (fun f1 b1 q1 x1 dx1 fvs1 H1 n1 hx1 df1 w1 r1 => ?_) (fun _ _ _ h => exS.exP s h))
  obtain ⟨s1, ev1⟩ := obj_new hi0 s n1 hx1 df1 w1 r1
  have R1 := rel_new s.rel ev1 r1
  refine h2 (fun a => U a ∨ a = x1) σ H1 b1 _ R1 w1 s1.uok ((al_bd.mp q1).mono (fun d b2 q2 v H2 dv w2 r2 => ?_) (fun _ _ _ h => exS.exP s1 h))
  have s2 := (s1.fr r2 w2).set j dv
  refine ⟨.ref x1, v, rfl, ?_⟩
  exact hk f1 d Mt U0 H0 _ D _ _ b2 s2 (q2.mono (fun _ _ z => (z.ev ev1).ev (s1.uok.ev r2)) (fun _ _ _ z => z))
end
theorem fr_of2 {K : PySem.W.Frag} {T : List (Addr × Str)} {cn : Str} {N : List Str} {F : D → D → Tr Fs} {vs : List V} {H : Hp} {Q : VK} {E : XK} {t : TS} (h : spN K T cn (ul2 F) vs H Q E)
    (hs : ∀ p c x y, STf ⟨K, T, p, c⟩ E ([x, y].map Sl.fz ++ List.replicate (N.length - 2) Sl.no) cn t (F x y)) : t { nx := fun _ H' => Q .non H', rt := Q } (L2.start N vs) H := by
  obtain ⟨p, c, U, ds, b, dn, wd, u, al⟩ := h
  match ds, dn, al with
  | [x, y], dn, al =>
    have nn : ∀ i a, ¬ OwnAt (L2.start N vs) ([x, y].map Sl.fz ++ List.replicate (N.length - 2) Sl.no) i a := fun i a ⟨_, z⟩ => by
      have : ∀ s : Sl, ([x, y].map Sl.fz ++ List.replicate (N.length - 2) Sl.no)[i]? = some s → (∃ d, s = .fz d) ∨ s = .no := fun s e => by
        rcases List.mem_append.mp (List.mem_of_getElem? e) with m | m
        · obtain ⟨d, _, e⟩ := List.mem_map.mp m
          exact .inl ⟨d, e.symm⟩
        · exact .inr (List.mem_replicate.mp m).2
      rcases z with ⟨x, z⟩ | ⟨x, y, z⟩
      · rcases this _ z with ⟨d, e⟩ | e <;> cases e
      · rcases this _ z with ⟨d, e⟩ | e <;> cases e
    exact hs p c x y U H U { nx := fun _ H' => Q .non H', rt := Q } _ H b ⟨rel_start dn, wd, u, fun _ z => z, fun i a z => (nn i a z).elim, fun _ _ z _ _ _ => z, fun i ds' a z1 z2 => (nn i a ⟨z2, .inl ⟨ds', z1⟩⟩).elim, fun i c fs a _ z1 z2 => (nn i a ⟨z2, .inr ⟨c, fs, z1⟩⟩).elim⟩ (al.mono (fun fs b1 h1 => h1) (fun c fs b1 h1 dd fvs H' z1 z2 z3 z4 z5 => h1 dd fvs H' z1 z2 z3 z4 fun a o y1 y2 y3 => z5 a o y1 y2 (fun z => z) y3))
theorem spN_len2 {K : PySem.W.Frag} {T : List (Addr × Str)} {cn : Str} {F : D → D → Tr Fs} {vs : List V} {H : Hp} {Q : VK} {E : XK} (h : spN K T cn (ul2 F) vs H Q E) : vs.length = 2 := by
  obtain ⟨p, c, U, ds, b, dn, wd, u, al⟩ := h
  match ds, dn, al with
  | [x, y], dn, _ => exact dn.length
end Gp
end
section
set_option maxHeartbeats 0
namespace Lw
open PySem PySem.Spec PyProof.Rows L2 Gh Gp
theorem ob_eq (s : PySem.W.SharedT) : ob s = hk.obs s.abs := Gp.obsL_eq (HandSHeadRun.getT_eq s)
structure Tx (K : PySem.W.Frag) (mg : Str → Option Value) : Prop where
  f_abs : mg "abs" = none
  f_all : mg "all" = none
  f_bool : mg "bool" = none
  f_enumerate : mg "enumerate" = none
  f_int : mg "int" = none
  f_isinstance : mg "isinstance" = none
  f_len : mg "len" = none
  f_list : mg "list" = none
  f_max : mg "max" = none
  f_min : mg "min" = none
  f_range : mg "range" = none
  f_set : mg "set" = none
  f_sorted : mg "sorted" = none
  f_str : mg "str" = none
  f_super : mg "super" = none
  f_tuple : mg "tuple" = none
  g__law_pen : mg "_law_pen" = some (.ref (gd "_law_pen" K))
  k__law_pen : PySem.W.keepIn K (.ref (gd "_law_pen" K)) = true
  g__law_draw : mg "_law_draw" = some (.ref (gd "_law_draw" K))
  k__law_draw : PySem.W.keepIn K (.ref (gd "_law_draw" K)) = true
  g_is_integer : mg "is_integer" = some (.ref (gd "is_integer" K))
  k_is_integer : PySem.W.keepIn K (.ref (gd "is_integer" K)) = true
  g_is_within : mg "is_within" = some (.ref (gd "is_within" K))
  k_is_within : PySem.W.keepIn K (.ref (gd "is_within" K)) = true
  g_is_length : mg "is_length" = some (.ref (gd "is_length" K))
  k_is_length : PySem.W.keepIn K (.ref (gd "is_length" K)) = true
  g_need_length : mg "need_length" = some (.ref (gd "need_length" K))
  k_need_length : PySem.W.keepIn K (.ref (gd "need_length" K)) = true
  g_need_place : mg "need_place" = some (.ref (gd "need_place" K))
  k_need_place : PySem.W.keepIn K (.ref (gd "need_place" K)) = true
  g_is_item : mg "is_item" = some (.ref (gd "is_item" K))
  k_is_item : PySem.W.keepIn K (.ref (gd "is_item" K)) = true
  g_need_items : mg "need_items" = some (.ref (gd "need_items" K))
  k_need_items : PySem.W.keepIn K (.ref (gd "need_items" K)) = true
  g_are_told : mg "are_told" = some (.ref (gd "are_told" K))
  k_are_told : PySem.W.keepIn K (.ref (gd "are_told" K)) = true
  g_ascending : mg "ascending" = some (.ref (gd "ascending" K))
  k_ascending : PySem.W.keepIn K (.ref (gd "ascending" K)) = true
  g__law_pick : mg "_law_pick" = some (.ref (gd "_law_pick" K))
  k__law_pick : PySem.W.keepIn K (.ref (gd "_law_pick" K)) = true
  g__law_item : mg "_law_item" = some (.ref (gd "_law_item" K))
  k__law_item : PySem.W.keepIn K (.ref (gd "_law_item" K)) = true
  g__law_told : mg "_law_told" = some (.ref (gd "_law_told" K))
  k__law_told : PySem.W.keepIn K (.ref (gd "_law_told" K)) = true
  g__law_pairs : mg "_law_pairs" = some (.ref (gd "_law_pairs" K))
  k__law_pairs : PySem.W.keepIn K (.ref (gd "_law_pairs" K)) = true
  g__law_places : mg "_law_places" = some (.ref (gd "_law_places" K))
  k__law_places : PySem.W.keepIn K (.ref (gd "_law_places" K)) = true
  g__law_part : mg "_law_part" = some (.ref (gd "_law_part" K))
  k__law_part : PySem.W.keepIn K (.ref (gd "_law_part" K)) = true
  g__law_made : mg "_law_made" = some (.ref (gd "_law_made" K))
  k__law_made : PySem.W.keepIn K (.ref (gd "_law_made" K)) = true
  g__law_behind : mg "_law_behind" = some (.ref (gd "_law_behind" K))
  k__law_behind : PySem.W.keepIn K (.ref (gd "_law_behind" K)) = true
  g__law_step : mg "_law_step" = some (.ref (gd "_law_step" K))
  k__law_step : PySem.W.keepIn K (.ref (gd "_law_step" K)) = true
  g_Row : mg "Row" = some (.ref (gd "Row" K))
  k_Row : PySem.W.keepIn K (.ref (gd "Row" K)) = true
  g_Sided : mg "Sided" = some (.ref (gd "Sided" K))
  k_Sided : PySem.W.keepIn K (.ref (gd "Sided" K)) = true
  g_Change : mg "Change" = some (.ref (gd "Change" K))
  k_Change : PySem.W.keepIn K (.ref (gd "Change" K)) = true
  m_BEYOND_ITEMS : ∃ t, mg "BEYOND_ITEMS" = some (.int 1000000000000000000000000000000 t)
  m_FARTHEST : ∃ t, mg "FARTHEST" = some (.int 15 t)
  m_GREATEST_LENGTH : ∃ t, mg "GREATEST_LENGTH" = some (.int 10000000000000000000000000000000000000000 t)
  m_MOST_ITEMS : ∃ t, mg "MOST_ITEMS" = some (.int 2000 t)
  m_MOST_TOLD : ∃ t, mg "MOST_TOLD" = some (.int 8 t)
  cl_Row : Cls K (gd "Row" K)
  ty_Row : InsT K (gd "Row" K)
  n_Row_own_items : NoAttr K (gd "Row" K) "own_items"
  mk_Row : Mk K (gd "Row" K) (md "Row" "__init__" K)
  pr_Row_contents : PropOf K (gd "Row" K) "contents" (He.ma K (He.ga K "Row") "contents") (propG "Row" "contents" K)
  mt_Row___eq__ : Meth K (gd "Row" K) "__eq__" (md "Row" "__eq__" K)
  ow_Row : OwnT K (gd "Row" K)
  mt_Row_led : Meth K (gd "Row" K) "led" (md "Row" "led" K)
  mt_Row_led_by : Meth K (gd "Row" K) "led_by" (md "Row" "led_by" K)
  mt_Row_do : Meth K (gd "Row" K) "do" (md "Row" "do" K)
  mt_Row___imul__ : Meth K (gd "Row" K) "__imul__" (md "Row" "__imul__" K)
  cl_Sided : Cls K (gd "Sided" K)
  ty_Sided : InsT K (gd "Sided" K)
  cl_Change : Cls K (gd "Change" K)
  ty_Change : InsT K (gd "Change" K)
  n_Change_side : NoAttr K (gd "Change" K) "side"
  n_Change_front : NoAttr K (gd "Change" K) "front"
  n_Change_back : NoAttr K (gd "Change" K) "back"
  mk_Change : Mk K (gd "Change" K) (md "Change" "__init__" K)
  mt_Change_places_told : Meth K (gd "Change" K) "places_told" (md "Change" "places_told" K)
  mt_Change_runs : Meth K (gd "Change" K) "runs" (md "Change" "runs" K)
  mt_Change_first_pair : Meth K (gd "Change" K) "first_pair" (md "Change" "first_pair" K)
  mt_Change_led_in : Meth K (gd "Change" K) "led_in" (md "Change" "led_in" K)
  mt_Change_to : Meth K (gd "Change" K) "to" (md "Change" "to" K)
  g_SIDES : mg "SIDES" = some (.ref (gd "SIDES" K))
  tu_SIDES : ∀ H : Hp, SqT K H (gd "SIDES" K) [.str "front", .str "back"]
  stat : PySem.W.nsIn K cStatics "thirdparty.any" = some none
  cd_Change : (PySem.W.clsIn K (gd "Change" K)).isSome = true
  sc_Change_Change : SupC K (gd "Change" K) (gd "Change" K) "__init__" (md "Sided" "__init__" K)
  io_Row___imul__ : Gp.IopT K (gd "Row" K) (md "Row" "__imul__" K) .Mult
  ki_Change_Row : PySem.W.kitOne K (.ref (gd "Change" K)) (.ref (gd "Row" K)) = some false
  nf_Row : NfT K (gd "Row" K)
  ne_Row : NeT K (gd "Row" K)
  nf_Row_Change : PySem.W.notFirst K (gd "Row" K) (.ref (gd "Change" K)) = true
  nf_Row_Row : PySem.W.notFirst K (gd "Row" K) (.ref (gd "Row" K)) = true
theorem tx_of {K : PySem.W.Frag} {h : Heap} {mg : Str → Option Value} (X : K.In h) (G : h.Ns mainGlobals mg) (c : Says exs fns K) : Tx K mg :=
  ⟨(He.free_ok X G (c.fact 0 rfl)), (He.free_ok X G (c.fact 1 rfl)), (He.free_ok X G (c.fact 2 rfl)), (He.free_ok X G (c.fact 3 rfl)), (He.free_ok X G (c.fact 4 rfl)), (He.free_ok X G (c.fact 5 rfl)), (He.free_ok X G (c.fact 6 rfl)), (He.free_ok X G (c.fact 7 rfl)), (He.free_ok X G (c.fact 8 rfl)), (He.free_ok X G (c.fact 9 rfl)), (He.free_ok X G (c.fact 10 rfl)), (He.free_ok X G (c.fact 11 rfl)), (He.free_ok X G (c.fact 12 rfl)), (He.free_ok X G (c.fact 13 rfl)), (He.free_ok X G (c.fact 14 rfl)), (He.free_ok X G (c.fact 15 rfl)), (He.glo_ok X G (c.fact 16 rfl)), ((c.fact 17 rfl)), (He.glo_ok X G (c.fact 18 rfl)), ((c.fact 19 rfl)), (He.glo_ok X G (c.fact 20 rfl)), ((c.fact 21 rfl)), (He.glo_ok X G (c.fact 22 rfl)), ((c.fact 23 rfl)), (He.glo_ok X G (c.fact 24 rfl)), ((c.fact 25 rfl)), (He.glo_ok X G (c.fact 26 rfl)), ((c.fact 27 rfl)), (He.glo_ok X G (c.fact 28 rfl)), ((c.fact 29 rfl)), (He.glo_ok X G (c.fact 30 rfl)), ((c.fact 31 rfl)), (He.glo_ok X G (c.fact 32 rfl)), ((c.fact 33 rfl)), (He.glo_ok X G (c.fact 34 rfl)), ((c.fact 35 rfl)), (He.glo_ok X G (c.fact 36 rfl)), ((c.fact 37 rfl)), (He.glo_ok X G (c.fact 38 rfl)), ((c.fact 39 rfl)), (He.glo_ok X G (c.fact 40 rfl)), ((c.fact 41 rfl)), (He.glo_ok X G (c.fact 42 rfl)), ((c.fact 43 rfl)), (He.glo_ok X G (c.fact 44 rfl)), ((c.fact 45 rfl)), (He.glo_ok X G (c.fact 46 rfl)), ((c.fact 47 rfl)), (He.glo_ok X G (c.fact 48 rfl)), ((c.fact 49 rfl)), (He.glo_ok X G (c.fact 50 rfl)), ((c.fact 51 rfl)), (He.glo_ok X G (c.fact 52 rfl)), ((c.fact 53 rfl)), (He.glo_ok X G (c.fact 54 rfl)), ((c.fact 55 rfl)), (He.glo_ok X G (c.fact 56 rfl)), ((c.fact 57 rfl)), (He.glo_ok X G (c.fact 58 rfl)), ((c.fact 59 rfl)), (He.glo_ok X G (c.fact 60 rfl)), ((c.fact 61 rfl)), (He.int_ok X G (c.fact 62 rfl)), (He.int_ok X G (c.fact 63 rfl)), (He.int_ok X G (c.fact 64 rfl)), (He.int_ok X G (c.fact 65 rfl)), (He.int_ok X G (c.fact 66 rfl)), (He.cls_ok (c.fact 67 rfl)), (insB_ok (c.fact 68 rfl)), (He.eqO_ok (c.fact 69 rfl)), (He.mkr_ok (c.fact 70 rfl)), (propB_ok (c.fact 71 rfl)), (He.meth_ok (c.fact 72 rfl)), (ownB_ok (c.fact 73 rfl)), (He.meth_ok (c.fact 74 rfl)), (He.meth_ok (c.fact 75 rfl)), (He.meth_ok (c.fact 76 rfl)), (He.meth_ok (c.fact 77 rfl)), (He.cls_ok (c.fact 78 rfl)), (insB_ok (c.fact 79 rfl)), (He.cls_ok (c.fact 80 rfl)), (insB_ok (c.fact 81 rfl)), (He.eqO_ok (c.fact 82 rfl)), (He.eqO_ok (c.fact 83 rfl)), (He.eqO_ok (c.fact 84 rfl)), (He.mkr_ok (c.fact 85 rfl)), (He.meth_ok (c.fact 86 rfl)), (He.meth_ok (c.fact 87 rfl)), (He.meth_ok (c.fact 88 rfl)), (He.meth_ok (c.fact 89 rfl)), (He.meth_ok (c.fact 90 rfl)), (He.glo_ok X G (c.fact 91 rfl)), (fun H => He.tupB_ok (c.fact 92 rfl) H), (He.eqO_ok (c.fact 93 rfl)), ((c.fact 94 rfl)), (supCB_ok (c.fact 95 rfl)), (Gp.iopB_ok (c.fact 96 rfl)), (of_decide_eq_true (c.fact 97 rfl)), (nfB_ok (c.fact 98 rfl)), (neB_ok (c.fact 99 rfl)), ((c.fact 100 rfl)), ((c.fact 101 rfl))⟩
section
variable {K : PySem.W.Frag} {mg : Str → Option Value} {Tb : List (Addr × Str)} {p c : Addr}
def isi_int : D → Option Bool := isF (fun n => kitB n "int") [("Change", false), ("Row", false)] []
theorem isT_int (T : Tx K mg) : IsT ⟨K, Tb, p, c⟩ (.type "int") isi_int := isT_of (fun n k h => kit_ty h) (fun c k h => (look_cons h).elim (fun e => by obtain ⟨rfl, rfl⟩ := e; exact ⟨T.cl_Change, T.ty_Change, T.ty_Change.out _ (by decide)⟩) (fun h => (look_cons h).elim (fun e => by obtain ⟨rfl, rfl⟩ := e; exact ⟨T.cl_Row, T.ty_Row, T.ty_Row.out _ (by decide)⟩) (fun h => nomatch h))) (fun c k h => nomatch h)
def isi_bool : D → Option Bool := isF (fun n => kitB n "bool") [("Change", false), ("Row", false)] []
theorem isT_bool (T : Tx K mg) : IsT ⟨K, Tb, p, c⟩ (.type "bool") isi_bool := isT_of (fun n k h => kit_ty h) (fun c k h => (look_cons h).elim (fun e => by obtain ⟨rfl, rfl⟩ := e; exact ⟨T.cl_Change, T.ty_Change, T.ty_Change.out _ (by decide)⟩) (fun h => (look_cons h).elim (fun e => by obtain ⟨rfl, rfl⟩ := e; exact ⟨T.cl_Row, T.ty_Row, T.ty_Row.out _ (by decide)⟩) (fun h => nomatch h))) (fun c k h => nomatch h)
def isi_list_tuple : D → Option Bool := isF (fun n => (kitB n "list").bind fun a => (kitB n "tuple").map fun b => a || b) [("Change", false), ("Row", false)] []
theorem isT_list_tuple (T : Tx K mg) : IsA ⟨K, Tb, p, c⟩ [.type "list", .type "tuple"] isi_list_tuple := isA_of (fun n k h => kitAny2 h) (fun c k h => (look_cons h).elim (fun e => by obtain ⟨rfl, rfl⟩ := e; exact ⟨T.cl_Change, T.ty_Change, kitAny_cons (T.ty_Change.out _ (by decide)) (fun _ => kitAny_cons (T.ty_Change.out _ (by decide)) (fun _ => rfl) (fun z => by cases z)) (fun z => by cases z)⟩) (fun h => (look_cons h).elim (fun e => by obtain ⟨rfl, rfl⟩ := e; exact ⟨T.cl_Row, T.ty_Row, kitAny_cons (T.ty_Row.out _ (by decide)) (fun _ => kitAny_cons (T.ty_Row.out _ (by decide)) (fun _ => rfl) (fun z => by cases z)) (fun z => by cases z)⟩) (fun h => nomatch h)))
def isi_Row : D → Option Bool := isF (fun n => if n ∈ (["NoneType", "bool", "int", "str", "list", "tuple", "dict"] : List String) then some false else none) [("Change", false), ("Row", true)] []
theorem isT_Row (T : Tx K mg) : IsT ⟨K, Tb, p, c⟩ (.ref (gd "Row" K)) isi_Row := isT_of (fun n k h => by
  split at h
  · rename_i z
    cases h
    exact T.ty_Row.no n z
  · cases h) (fun c k h => (look_cons h).elim (fun e => by obtain ⟨rfl, rfl⟩ := e; exact ⟨T.cl_Change, T.ty_Change, T.ki_Change_Row⟩) (fun h => (look_cons h).elim (fun e => by obtain ⟨rfl, rfl⟩ := e; exact ⟨T.cl_Row, T.ty_Row, T.ty_Row.yes⟩) (fun h => nomatch h))) (fun c k h => nomatch h)
def isi_str : D → Option Bool := isF (fun n => kitB n "str") [("Change", false), ("Row", false)] []
theorem isT_str (T : Tx K mg) : IsT ⟨K, Tb, p, c⟩ (.type "str") isi_str := isT_of (fun n k h => kit_ty h) (fun c k h => (look_cons h).elim (fun e => by obtain ⟨rfl, rfl⟩ := e; exact ⟨T.cl_Change, T.ty_Change, T.ty_Change.out _ (by decide)⟩) (fun h => (look_cons h).elim (fun e => by obtain ⟨rfl, rfl⟩ := e; exact ⟨T.cl_Row, T.ty_Row, T.ty_Row.out _ (by decide)⟩) (fun h => nomatch h))) (fun c k h => nomatch h)
def eqr_Row : D → Bool := eqF0 ["Change", "Row"]
theorem eqR_Row (T : Tx K mg) : EqR ⟨K, Tb, p, c⟩ "Row" eqr_Row := eqR_of (fun n hn => T.nf_Row.ok n hn) (fun c h => by
  simp only [List.mem_cons, List.mem_nil_iff, or_false] at h
  rcases h with rfl | rfl
  · exact ⟨T.cl_Change, T.ty_Change, T.nf_Row_Change⟩
  · exact ⟨T.cl_Row, T.ty_Row, T.nf_Row_Row⟩)
end
end Lw
end
section
set_option pp.maxSteps 600
namespace Lw
open PySem PySem.Spec PyProof.Rows L2 Gh
local macro_rules | `(tactic| nofun) => `(tactic| (first | assumption | exact Ne.symm (by assumption) | (apply nw_pen'; (· assumption); (· assumption); (· ac_rfl)) | (apply Ne.symm; apply nw_pen'; (· assumption); (· assumption); (· ac_rfl)) | (apply nw_cell'; (· assumption); (· assumption); (· ac_rfl)) | (apply Ne.symm; apply nw_cell'; (· assumption); (· assumption); (· ac_rfl)) | (apply none_pen'; (· assumption); (· assumption); (· ac_rfl)) | (apply Ne.symm; apply none_pen'; (· assumption); (· assumption); (· ac_rfl)) | (apply none_cell'; (· assumption); (· assumption); (· ac_rfl)) | (apply Ne.symm; apply none_cell'; (· assumption); (· assumption); (· ac_rfl)) | (apply tup_pen'; (· assumption); (· assumption); (· ac_rfl)) | (apply Ne.symm; apply tup_pen'; (· assumption); (· assumption); (· ac_rfl)) | (apply tup_cell'; (· assumption); (· assumption); (· ac_rfl)) | (apply Ne.symm; apply tup_cell'; (· assumption); (· assumption); (· ac_rfl)) | (apply ins_pen'; (· assumption); (· assumption); (· ac_rfl)) | (apply Ne.symm; apply ins_pen'; (· assumption); (· assumption); (· ac_rfl)) | (apply ins_cell'; (· assumption); (· assumption); (· ac_rfl)) | (apply Ne.symm; apply ins_cell'; (· assumption); (· assumption); (· ac_rfl)) | (apply ins_lst; (· assumption); (· infer_instance)) | (apply Ne.symm; apply ins_lst; (· assumption); (· infer_instance)) | (apply ins_tup; (· assumption); (· infer_instance)) | (apply Ne.symm; apply ins_tup; (· assumption); (· infer_instance)) | (apply tup_lst; (· assumption); (· infer_instance)) | (apply Ne.symm; apply tup_lst; (· assumption); (· infer_instance)) | (apply nw_ne; (· assumption); (· infer_instance)) | (apply Ne.symm; apply nw_ne; (· assumption); (· infer_instance)) | (apply none_ne; (· assumption); (· infer_instance)) | (apply Ne.symm; apply none_ne; (· assumption); (· infer_instance))))
local macro_rules | `(tactic| ac_rfl) => `(tactic| ((repeat (first | assumption | (apply Pen.nw; (focus assumption)) | (apply Pen.same; (focus assumption)) | (apply Pen.mu; (focus assumption); (focus nofun); (focus nofun)) | (apply Pen.keep; (focus assumption); (focus nofun); (focus nofun)))); done))
local macro_rules | `(tactic| infer_instance) => `(tactic| ((repeat (first | assumption | (apply Nw.at_; assumption) | (apply Mu.at_; assumption) | (apply Nw.up; (focus assumption)) | (apply same_up; (focus assumption)) | (apply Mu.up; (focus assumption); (focus nofun)) | (apply keep_up; (focus assumption); (focus nofun)) | (apply keep2_up; (focus assumption); (focus nofun); (focus nofun)))); done))
local macro_rules | `(tactic| symm_saturate) => `(tactic| (repeat (first | with_reducible refine st_seq ?_ | with_reducible refine st_asg ?_ | with_reducible refine st_name ?_ | with_reducible refine st_ret ?_ | with_reducible refine st_drop ?_ | with_reducible refine st_ifS ?_ | with_reducible refine st_nx ?_ | with_reducible refine st_brk ?_ | with_reducible refine st_cnt ?_ | with_reducible refine st_c ?_ | with_reducible refine st_op ?_ | with_reducible refine st_un ?_ | with_reducible refine st_rI0 ?_ | with_reducible refine st_cons ?_ | with_reducible refine st_nil ?_ | with_reducible refine st_cl ?_ | with_reducible refine st_cb ?_ | with_reducible refine st_mt ?_ | with_reducible refine st_pr ?_ | with_reducible refine st_test ?_ | with_reducible refine st_ebl ?_ | with_reducible refine st_eint ?_ | with_reducible refine st_par ?_ | with_reducible refine st_par2 ?_ | with_reducible refine st_and ?_ | with_reducible refine st_or ?_ | with_reducible refine st_not ?_ | with_reducible refine st_andV ?_ | with_reducible refine st_orV ?_ | with_reducible refine st_notV ?_ | with_reducible refine st_ifE ?_ | with_reducible refine st_chain ?_ | with_reducible refine st_lst ?_ | with_reducible refine st_tup ?_ | with_reducible refine st_retN ?_ | with_reducible refine st_rU ?_ | with_reducible refine st_rAdd ?_ | with_reducible refine st_rSub ?_ | with_reducible refine st_isN ?_ | with_reducible refine st_notN ?_ | with_reducible refine st_sF ?_ | with_reducible refine st_int ?_ | with_reducible refine st_intB ?_ | with_reducible refine st_abs ?_ | with_reducible refine st_sl ?_ | with_reducible refine st_part ?_ | with_reducible refine st_nopart ?_ | with_reducible refine st_bm ?_ | with_reducible refine st_bm0 ?_ | with_reducible refine st_tyS ?_ | with_reducible refine st_gsub ?_ | with_reducible refine st_gcons ?_ | with_reducible refine st_gnil ?_ | with_reducible refine st_chain3 ?_ | with_reducible refine st_gsl ?_ | with_reducible refine st_clK ?_ | with_reducible refine st_mtK ?_ | with_reducible refine st_lcR1 ?_ | with_reducible refine st_lcR2 ?_ | with_reducible refine st_lcL ?_ | with_reducible refine st_lcT ?_ | with_reducible refine st_yes ?_ | with_reducible refine st_forR1 ?_ | with_reducible refine st_forR2 ?_ | with_reducible refine st_forL ?_ | with_reducible refine st_forT ?_ | with_reducible refine st_forE ?_ | with_reducible refine st_list ?_ | with_reducible refine st_itup ?_ | with_reducible refine st_tB ?_ | ((with_reducible apply st_var); exact rfl) | ((with_reducible apply st_aug); exact rfl) | ((with_reducible apply st_eq); exact rfl) | ((with_reducible apply st_ne); exact rfl) | ((with_reducible apply st_spK); (focus exact rfl); (focus exact rfl)) | ((with_reducible apply st_rI); (first | decide | (refine Or.inl ⟨?_, ?_⟩ <;> omega) | (refine Or.inr ⟨?_, ?_⟩ <;> omega) | (show (0 : Int) < _; omega) | exact ⟨by omega, log_of (by omega) (by omega)⟩ | exact ⟨by decide, by decide, by decide⟩)) | ((with_reducible apply st_powK); (focus exact ⟨by decide, by decide, by decide⟩); (focus decide)) | ((with_reducible apply st_eR1); (focus omega); (focus omega)) | ((with_reducible apply st_eR2); (focus omega)) | ((with_reducible apply st_if1); (first | with_reducible rfl | assumption | exact rfl | decide | (simp only [decide_eq_true_eq, decide_eq_false_iff_not, Bool.not_eq_true', Bool.not_eq_false', Bool.not_true, Bool.not_false, Bool.true_and, Bool.and_true, Bool.false_and, Bool.and_false, V.int.injEq, V.str.injEq, V.bl.injEq, V.ref.injEq, reduceCtorEq, not_true, not_false_eq_true, decide_true, decide_false, Int.not_lt, Int.not_le, ne_eq, List.length_cons, List.length_nil, List.length_map, List.length_append, List.length_set, List.length_take, List.length_drop] <;> omega))) | ((with_reducible apply st_if0); (first | with_reducible rfl | assumption | exact rfl | decide | (simp only [decide_eq_true_eq, decide_eq_false_iff_not, Bool.not_eq_true', Bool.not_eq_false', Bool.not_true, Bool.not_false, Bool.true_and, Bool.and_true, Bool.false_and, Bool.and_false, V.int.injEq, V.str.injEq, V.bl.injEq, V.ref.injEq, reduceCtorEq, not_true, not_false_eq_true, decide_true, decide_false, Int.not_lt, Int.not_le, ne_eq, List.length_cons, List.length_nil, List.length_map, List.length_append, List.length_set, List.length_take, List.length_drop] <;> omega))) | ((with_reducible apply st_lenL); (focus infer_instance)) | ((with_reducible apply st_lenT); (focus infer_instance)) | ((with_reducible apply st_tupT); (focus infer_instance)) | ((with_reducible apply st_tyL); (focus infer_instance)) | ((with_reducible apply st_elist); (focus infer_instance)) | ((with_reducible apply st_eitup); (focus infer_instance)) | ((with_reducible apply st_eE); (focus infer_instance)) | ((with_reducible apply st_epr); (focus infer_instance)) | ((with_reducible apply st_setO); (focus infer_instance)) | ((with_reducible apply st_ixO); (focus infer_instance)) | ((with_reducible apply st_ixLs); (focus assumption); (focus (first | exact rfl | exact atI_nat (by assumption)))) | ((with_reducible apply st_ixTs); (focus assumption); (focus (first | exact rfl | exact atI_nat (by assumption)))) | ((with_reducible apply st_fld); (focus infer_instance); (focus exact rfl)) | ((with_reducible apply st_const); (focus infer_instance); (focus exact rfl)) | ((with_reducible apply st_emt); (focus infer_instance); (focus exact rfl)) | ((with_reducible apply st_ixL); (focus infer_instance); (focus (first | exact rfl | exact atI_nat (by assumption)))) | ((with_reducible apply st_ixT); (focus infer_instance); (focus (first | exact rfl | exact atI_nat (by assumption)))) | ((with_reducible apply st_gtup); (focus infer_instance); (focus (first | exact rfl | exact atI_nat (by assumption)))))))
local macro_rules | `(tactic| subst_eqs) => `(tactic| (repeat (first | with_reducible refine st_seq ?_ | with_reducible refine st_asg ?_ | with_reducible refine st_name ?_ | with_reducible refine st_ret ?_ | with_reducible refine st_drop ?_ | with_reducible refine st_ifS ?_ | with_reducible refine st_nx ?_ | with_reducible refine st_brk ?_ | with_reducible refine st_cnt ?_ | with_reducible refine st_c ?_ | with_reducible refine st_op ?_ | with_reducible refine st_un ?_ | with_reducible refine st_rI0 ?_ | with_reducible refine st_cons ?_ | with_reducible refine st_nil ?_ | with_reducible refine st_cl ?_ | with_reducible refine st_cb ?_ | with_reducible refine st_mt ?_ | with_reducible refine st_pr ?_ | with_reducible refine st_test ?_ | with_reducible refine st_ebl ?_ | with_reducible refine st_eint ?_ | with_reducible refine st_par ?_ | with_reducible refine st_par2 ?_ | with_reducible refine st_and ?_ | with_reducible refine st_or ?_ | with_reducible refine st_not ?_ | with_reducible refine st_andV ?_ | with_reducible refine st_orV ?_ | with_reducible refine st_notV ?_ | with_reducible refine st_ifE ?_ | with_reducible refine st_chain ?_ | with_reducible refine st_lst ?_ | with_reducible refine st_tup ?_ | with_reducible refine st_retN ?_ | with_reducible refine st_rU ?_ | with_reducible refine st_rAdd ?_ | with_reducible refine st_rSub ?_ | with_reducible refine st_isN ?_ | with_reducible refine st_notN ?_ | with_reducible refine st_sF ?_ | with_reducible refine st_int ?_ | with_reducible refine st_intB ?_ | with_reducible refine st_abs ?_ | with_reducible refine st_sl ?_ | with_reducible refine st_part ?_ | with_reducible refine st_nopart ?_ | with_reducible refine st_bm ?_ | with_reducible refine st_bm0 ?_ | with_reducible refine st_tyS ?_ | with_reducible refine st_gsub ?_ | with_reducible refine st_gcons ?_ | with_reducible refine st_gnil ?_ | with_reducible refine st_chain3 ?_ | with_reducible refine st_gsl ?_ | with_reducible refine st_clK ?_ | with_reducible refine st_mtK ?_ | with_reducible refine st_lcR1 ?_ | with_reducible refine st_lcR2 ?_ | with_reducible refine st_lcL ?_ | with_reducible refine st_lcT ?_ | with_reducible refine st_yes ?_ | with_reducible refine st_forR1 ?_ | with_reducible refine st_forR2 ?_ | with_reducible refine st_forL ?_ | with_reducible refine st_forT ?_ | with_reducible refine st_forE ?_ | with_reducible refine st_list ?_ | with_reducible refine st_itup ?_ | with_reducible refine st_tB ?_ | ((with_reducible apply st_var); exact rfl) | ((with_reducible apply st_aug); exact rfl) | ((with_reducible apply st_eq); exact rfl) | ((with_reducible apply st_ne); exact rfl) | ((with_reducible apply st_spK); (focus exact rfl); (focus exact rfl)) | ((with_reducible apply st_rI); (first | decide | (refine Or.inl ⟨?_, ?_⟩ <;> omega) | (refine Or.inr ⟨?_, ?_⟩ <;> omega) | (show (0 : Int) < _; omega) | exact ⟨by omega, log_of (by omega) (by omega)⟩ | exact ⟨by decide, by decide, by decide⟩)) | ((with_reducible apply st_powK); (focus exact ⟨by decide, by decide, by decide⟩); (focus decide)) | ((with_reducible apply st_eR1); (focus omega); (focus omega)) | ((with_reducible apply st_eR2); (focus omega)) | ((with_reducible apply st_if1); (first | with_reducible rfl | assumption | exact rfl | decide | (simp only [decide_eq_true_eq, decide_eq_false_iff_not, Bool.not_eq_true', Bool.not_eq_false', Bool.not_true, Bool.not_false, Bool.true_and, Bool.and_true, Bool.false_and, Bool.and_false, V.int.injEq, V.str.injEq, V.bl.injEq, V.ref.injEq, reduceCtorEq, not_true, not_false_eq_true, decide_true, decide_false, Int.not_lt, Int.not_le, ne_eq, List.length_cons, List.length_nil, List.length_map, List.length_append, List.length_set, List.length_take, List.length_drop] <;> omega))) | ((with_reducible apply st_if0); (first | with_reducible rfl | assumption | exact rfl | decide | (simp only [decide_eq_true_eq, decide_eq_false_iff_not, Bool.not_eq_true', Bool.not_eq_false', Bool.not_true, Bool.not_false, Bool.true_and, Bool.and_true, Bool.false_and, Bool.and_false, V.int.injEq, V.str.injEq, V.bl.injEq, V.ref.injEq, reduceCtorEq, not_true, not_false_eq_true, decide_true, decide_false, Int.not_lt, Int.not_le, ne_eq, List.length_cons, List.length_nil, List.length_map, List.length_append, List.length_set, List.length_take, List.length_drop] <;> omega))) | ((with_reducible apply st_lenL); (focus infer_instance)) | ((with_reducible apply st_lenT); (focus infer_instance)) | ((with_reducible apply st_tupT); (focus infer_instance)) | ((with_reducible apply st_tyL); (focus infer_instance)) | ((with_reducible apply st_elist); (focus infer_instance)) | ((with_reducible apply st_eitup); (focus infer_instance)) | ((with_reducible apply st_eE); (focus infer_instance)) | ((with_reducible apply st_epr); (focus infer_instance)) | ((with_reducible apply st_setO); (focus infer_instance)) | ((with_reducible apply st_ixO); (focus infer_instance)) | ((with_reducible apply st_ixLs); (focus assumption); (focus (first | exact rfl | exact atI_nat (by assumption)))) | ((with_reducible apply st_ixTs); (focus assumption); (focus (first | exact rfl | exact atI_nat (by assumption)))) | ((with_reducible apply st_fld); (focus infer_instance); (focus exact rfl)) | ((with_reducible apply st_const); (focus infer_instance); (focus exact rfl)) | ((with_reducible apply st_emt); (focus infer_instance); (focus exact rfl)) | ((with_reducible apply st_ixL); (focus infer_instance); (focus (first | exact rfl | exact atI_nat (by assumption)))) | ((with_reducible apply st_ixT); (focus infer_instance); (focus (first | exact rfl | exact atI_nat (by assumption)))) | ((with_reducible apply st_gtup); (focus infer_instance); (focus (first | exact rfl | exact atI_nat (by assumption)))) | ((with_reducible apply st_newL); (focus (refine len_ok ?_; simp only [List.length_cons, List.length_nil, List.length_append, List.length_map, List.length_set, List.length_take, List.length_drop]; omega)); intro l Hn nw) | ((with_reducible apply st_newT); (focus (refine len_ok ?_; simp only [List.length_cons, List.length_nil, List.length_append, List.length_map, List.length_set, List.length_take, List.length_drop]; omega)); intro l Hn nw) | ((with_reducible apply st_listL); (focus infer_instance); intro l Hn nw) | ((with_reducible apply st_listT); (focus infer_instance); intro l Hn nw) | ((with_reducible apply st_tupL); (focus infer_instance); intro l Hn nw) | ((with_reducible apply st_slL); (focus infer_instance); intro l Hn nw) | ((with_reducible apply st_cat); (focus infer_instance); (focus infer_instance); (focus (refine len_ok ?_; simp only [List.length_cons, List.length_nil, List.length_append, List.length_map, List.length_set, List.length_take, List.length_drop]; omega)); intro l Hn nw))))
section
variable {P : Program} {w : World} {K : PySem.W.Frag} {mg : Str → Option Value} {base : Heap} {f : Addr} {fd : FuncData} {Tb : List (Addr × Str)}
abbrev N__law_pen : List Str := ["_law_script"]
theorem sc__law_pen : FnScope N__law_pen ["_law_script"] (defScope s__law_pen) := ⟨rfl, rfl, rfl, by decide +kernel, rfl, by decide +kernel, by decide +kernel⟩
theorem ok0__law_pen (F : FnA K d__law_pen fd) (T : Tx K mg) : FnOk P w K mg base CX0 1 (d__law_pen.adr K) fd ["_law_script"] (spPn K) := by
  refine fnO0 F sc__law_pen (fun vs H Q E h => by (repeat (first | (obtain ⟨rfl, _⟩ := h; rfl) | (obtain ⟨_, h⟩ := h)))) (fun cdv A outer s H vs Q E hr h => ?_)
  refine ⟨_, (pss_one (ps_ret (pe_lst (pa_cons (pe_callTy (cr_listOf (K := K) rfl) (by rfl) T.f_list (by decide +kernel) (pa_cons (pe_slice (sl_listK (K := K) rfl) (pv 0) po_none (po_some pe_int)) pa_nil)) (pa_cons pe_int (pa_cons pe_int pa_nil)))))), ?_⟩
  obtain ⟨a, ns, rfl, hS, hl, q⟩ := h
  have ec : cutV (ns.map V.int) none (some 63) = ns.map V.int := cut_all (by rw [List.length_map]; exact hl)
  symm_saturate
  refine st_slLs hS fun c H1 n1 => ?_
  rw [ec] at n1
  symm_saturate
  refine st_listL (by infer_instance) fun e H2 n2 => ?_
  symm_saturate
  refine st_newL (by (refine len_ok ?_; simp only [List.length_cons, List.length_nil, List.length_append, List.length_map, List.length_set, List.length_take, List.length_drop]; omega)) fun p H3 n3 => ?_
  refine q p e _ (n1.same.free (n2.same.free n3.no)) ⟨ns, 0, 0, by infer_instance, by infer_instance, hl, Int.le_refl _, by decide, Int.le_refl _⟩ (n1.same.trans (n2.same.trans n3.same))
abbrev N__law_draw : List Str := ["_law_pen_here", "_law_many", "_law_taken", "_law_cell", "_law_mixed", "_law_digit", "_law_great"]
theorem sc__law_draw : FnScope N__law_draw ["_law_pen_here", "_law_many"] (defScope s__law_draw) := ⟨rfl, rfl, rfl, by decide +kernel, rfl, by decide +kernel, by decide +kernel⟩
theorem ok0__law_draw (F : FnA K d__law_draw fd) (T : Tx K mg) : FnOk P w K mg base CX0 1 (d__law_draw.adr K) fd ["_law_pen_here", "_law_many"] spDr := by
  refine fnO0 F sc__law_draw (fun vs H Q E h => by (repeat (first | (obtain ⟨rfl, _⟩ := h; rfl) | (obtain ⟨_, h⟩ := h)))) (fun cdv A outer s H vs Q E hr h => ?_)
  refine ⟨_, (pss_cons (ps_if (pt_cmpR op_gt (pe_ix (ix_listK (K := K) rfl) (pv 0) pe_int (fun _ _ => rfl)) pe_int (nomark _))
      (pss_cons (ps_set (i := 5) sc__law_draw.nd rfl (.inl rfl) (pe_op op_mod (pe_callTy cr_int (by rfl) T.f_int (by decide +kernel) (pa_cons (pe_ix (ix_listK (K := K) rfl) (pv 0) pe_int (fun _ _ => rfl)) pa_nil)) (pv 1)))
      (pss_cons (ps_asg (pe_op op_fdivW (pe_callTy cr_int (by rfl) T.f_int (by decide +kernel) (pa_cons (pe_ix (ix_listK (K := K) rfl) (pv 0) pe_int (fun _ _ => rfl)) pa_nil)) (pv 1)) (pg_sub (pv 0) pe_int set_list))
      (pss_one (ps_ret (pv 5))))) pss_nil)
      (pss_cons (ps_set (i := 2) sc__law_draw.nd rfl (.inl rfl) (pe_ix (ix_listK (K := K) rfl) (pv 0) pe_int (fun _ _ => rfl)))
      (pss_cons (ps_asg (pe_op op_add (pv 2) pe_int) (pg_sub (pv 0) pe_int set_list))
      (pss_cons (ps_set (i := 3) sc__law_draw.nd rfl (.inl rfl) (pe_op op_add (pe_op op_mul pe_int (pv 2)) pe_int))
      (pss_cut (ps_if (pt_cmpR (op_neDK (K := K) rfl hr.units) (pe_ix (ix_listK (K := K) rfl) (pv 0) pe_int (fun _ _ => rfl)) (pe_lst pa_nil) (nomark _))
      (pss_one (ps_set (i := 3) sc__law_draw.nd rfl (.inl rfl) (pe_ix (ix_listK (K := K) rfl) (pe_ix (ix_listK (K := K) rfl) (pv 0) pe_int (fun _ _ => rfl)) (pe_op op_mod (pe_callTy cr_int (by rfl) T.f_int (by decide +kernel) (pa_cons (pv 2) pa_nil)) (pe_callB (cr_len (K := K) rfl) (by rfl) T.f_len (by decide +kernel) (pa_cons (pe_ix (ix_listK (K := K) rfl) (pv 0) pe_int (fun _ _ => rfl)) pa_nil))) (fun _ _ => rfl)))) pss_nil)
      (pss_cut (ps_if (PW.pt (pw_and (pt_cmpR op_lt (pv 2) (pe_callB (cr_len (K := K) rfl) (by rfl) T.f_len (by decide +kernel) (pa_cons (pe_ix (ix_listK (K := K) rfl) (pv 0) pe_int (fun _ _ => rfl)) pa_nil)) (nomark _)) (pw_and1 (pt_cmpR op_ge (pe_callB cr_abs (by rfl) T.f_abs (by decide +kernel) (pa_cons (pv 3) pa_nil)) (pe_op (op_powK 1000000000000000000) pe_int pe_int) (nomark _)))))
      (pss_cons (ps_set (i := 6) sc__law_draw.nd rfl (.inl rfl) (pe_op op_add (pe_op op_mul pe_int (pe_op op_sub (pe_callB cr_abs (by rfl) T.f_abs (by decide +kernel) (pa_cons (pv 3) pa_nil)) (pe_op (op_powK 1000000000000000000) pe_int pe_int))) (pe_callTy cr_int (by rfl) T.f_int (by decide +kernel) (pa_cons (pe_cmpR op_lt (pv 3) pe_int (nomark _)) pa_nil))))
      (pss_cons (ps_asg (pe_op op_fdivW (pe_callTy cr_int (by rfl) T.f_int (by decide +kernel) (pa_cons (pv 6) pa_nil)) (pv 1)) (pg_sub (pv 0) pe_int set_list))
      (pss_one (ps_ret (pe_op op_mod (pe_callTy cr_int (by rfl) T.f_int (by decide +kernel) (pa_cons (pv 6) pa_nil)) (pv 1)))))) pss_nil)
      (pss_cons (ps_set (i := 4) sc__law_draw.nd rfl (.inl rfl) (pe_op op_mod (pe_callTy cr_int (by rfl) T.f_int (by decide +kernel) (pa_cons (pe_op op_pow (pe_op op_add (pe_op op_add (pe_op op_mod (pe_callTy cr_int (by rfl) T.f_int (by decide +kernel) (pa_cons (pv 3) pa_nil)) pe_int) (pe_op op_mul pe_int (pv 2))) pe_int) pe_int) pa_nil)) pe_int))
      (pss_cons (ps_set (i := 4) sc__law_draw.nd rfl (.inl rfl) (pe_op op_mod (pe_callTy cr_int (by rfl) T.f_int (by decide +kernel) (pa_cons (pe_op op_pow (pe_op op_add (pe_op op_add (pe_op op_mul (pv 4) (pe_op op_add (pe_op op_mul pe_int (pv 2)) pe_int)) (pe_op op_mul (pe_op op_mul pe_int (pv 2)) (pv 2))) pe_int) pe_int) pa_nil)) pe_int))
      (pss_one (ps_ret (pe_op op_mod (pe_callTy cr_int (by rfl) T.f_int (by decide +kernel) (pa_cons (pe_op op_fdivW (pv 4) pe_int) pa_nil)) (pv 1)))))))))))), ?_⟩
  obtain ⟨p, c, b, m, rfl, hm, hlog, ⟨ns, i, z, hp, hc, hl, hi, hb, hz⟩, q⟩ := h
  have ncp : c ≠ p := pen_ne hp hc
  have mm := fun x : Int => mod_lt x hm
  have hdiv : ∀ x, CDivW x m := fun _ => ⟨hm, hlog⟩
  symm_saturate
  refine ite2 (fun h1 => ?_) (fun h1 => ?_)
  · symm_saturate
    refine st_rI (hdiv _) ?_
    symm_saturate
    refine st_setL hp rfl fun H1 n1 => ?_
    symm_saturate
    exact q _ _ (mm z).1 (mm z).2 ⟨ns, i, z / m, by infer_instance, by infer_instance, hl, hi, by omega, Int.ediv_nonneg hz (by omega)⟩ n1.keep
  · have z0 : z = 0 := by
      have : ¬ (z > 0) := by simpa using h1
      omega
    subst z0
    symm_saturate
    refine st_setL hp rfl fun H2 n2 => ?_
    have hp2 : H2 p = some (.lst [.ref c, .int (i + 1), .int 0]) := n2.at_
    have hc2 : H2 c = some (.lst (ns.map V.int)) := by infer_instance
    have k2 := n2.keep
    clear n2
    symm_saturate
    refine ⟨fun σ' H' => ∃ cell : Int, σ' = [some (.ref p), some (.int m), some (.int i), some (.int cell), none, none, none] ∧ H' p = some (.lst [.ref c, .int (i + 1), .int 0]) ∧ H' c = some (.lst (ns.map V.int)) ∧ Keep H H' p, ?_, ?_⟩
    · -- if the cells are not empty
      symm_saturate
      refine st_newL (by (refine len_ok ?_; simp only [List.length_cons, List.length_nil, List.length_append, List.length_map, List.length_set, List.length_take, List.length_drop]; omega)) fun e H3 n3 => ?_
      have hp3 : H3 p = some (.lst [.ref c, .int (i + 1), .int 0]) := by infer_instance
      have hc3 : H3 c = some (.lst (ns.map V.int)) := by infer_instance
      have k3 : Keep H H3 p := fun a o h1 h2 => n3.up (k2 _ _ h1 h2)
      refine st_neD (.lst (SqL.of hc3) (dp_ints K _ ns)) (.lst (SqL.of n3.at_) .nil) (PySem.W.ke_shaped_ints ns) (by decide +kernel) ?_
      clear n3
      symm_saturate
      refine ite2 (fun h2 => ?_) (fun h2 => ?_)
      · have hne : 0 < ns.length := by
          rw [eqv_nil] at h2
          cases ns with
          | nil => cases h2
          | cons a r => exact Nat.succ_pos _
        have hlen : (0 : Int) < ((ns.map V.int).length : Int) := by rw [List.length_map]; omega
        have mi := mod_lt i hlen
        obtain ⟨v, ev, _⟩ := atI_int (ns := ns) (i := i % ((ns.map V.int).length : Int)) mi.1 (by have := mi.2; rw [List.length_map] at this ⊢; exact this)
        symm_saturate
        refine st_ixL hc3 ev ?_
        symm_saturate
        exact ⟨v, rfl, hp3, hc3, k3⟩
      · symm_saturate
        exact ⟨_, rfl, hp3, hc3, k3⟩
    · rintro σ' H' ⟨cell, rfl, hp3, hc3, k3⟩
      -- a great cell?
      refine ⟨fun σ1 H1 => σ1 = [some (.ref p), some (.int m), some (.int i), some (.int cell), none, none, none] ∧ H1 = H', ?_, ?_⟩
      · symm_saturate
        refine ite2 (fun _ => ?_) (fun _ => ?_)
        · symm_saturate
          refine ite2 (fun h3 => ?_) (fun _ => ?_)
          · have hab : 1000000000000000000 ≤ (if cell < 0 then -cell else cell) := by simpa using h3
            symm_saturate
            have hgr : 0 ≤ 2 * ((if cell < 0 then -cell else cell) - 1000000000000000000) + (if decide (cell < 0) = true then 1 else 0) := by
              have : (0 : Int) ≤ (if decide (cell < 0) = true then 1 else 0) := by split <;> decide
              omega
            refine st_rI (hdiv _) ?_
            symm_saturate
            refine st_setL hp3 rfl fun H4 n4 => ?_
            symm_saturate
            refine q _ _ (mm _).1 (mm _).2 ⟨ns, i + 1, _, n4.at_, by infer_instance, hl, by omega, by omega, Int.ediv_nonneg hgr (by omega)⟩ (k3.trans n4.keep)
          · symm_saturate
            exact ⟨rfl, rfl⟩
        · symm_saturate
          exact ⟨rfl, rfl⟩
      · rintro σ1 H1 ⟨rfl, rfl⟩
        have hi2 : i ≤ 1000000 := by omega
        -- the first mix
        symm_saturate
        refine st_rI ⟨by decide, by decide, ?_⟩ ?_
        · refine pow_lt ?_ ?_ <;> omega
        have hx := mod_lt ((cell % 2147483549 + 83383 * i + 137) ^ (3 : Int).toNat) (show (0 : Int) < 2147483587 by decide)
        -- the second one
        symm_saturate
        refine st_rI ⟨by decide, by decide, ?_⟩ ?_
        · exact mix_ok hx.1 (Int.lt_trans hx.2 (by decide)) hi hi2 ⟨by decide, by decide⟩ ⟨by decide, by decide⟩ ⟨by decide, by decide⟩
        symm_saturate
        exact q _ _ (mm _).1 (mm _).2 ⟨ns, i + 1, 0, hp3, hc3, hl, by omega, by omega, Int.le_refl _⟩ k3
theorem ok__law_pen (F : FnA K d__law_pen fd) (T : Tx K mg) : FnOk P w K mg base CX0 1 (d__law_pen.adr K) fd ["_law_script"] (spPn K) := ok0__law_pen F T
theorem ok__law_draw (F : FnA K d__law_draw fd) (T : Tx K mg) : FnOk P w K mg base CX0 1 (d__law_draw.adr K) fd ["_law_pen_here", "_law_many"] (Gp.spF K Tb (Gp.ul2 Gp.F_draw)) := Gp.fnOk_weak (ok0__law_draw F T) fun _ _ _ _ => Gp.draw_of
end
end Lw
end
section
set_option pp.maxSteps 600
namespace Lw
open PySem PySem.Spec PyProof.Rows L2 Gh Gp Gz
section
variable {P : Program} {w : World} {K : PySem.W.Frag} {mg : Str → Option Value} {base : Heap} {f : Addr} {fd : FuncData} {Tb : List (Addr × Str)}
abbrev N_is_integer : List Str := ["value"]
theorem sc_is_integer : FnScope N_is_integer ["value"] (defScope s_is_integer) := ⟨rfl, rfl, rfl, by decide +kernel, rfl, by decide +kernel, by decide +kernel⟩
def F_is_integer (value : D) : Tr D :=
  fin (bd (bd (bd (bd (.ok value) fun d => bd (opt (isi_int d)) fun k => .ok (.bl k)) asB) fun k => if k = true then (bd (bd (bd (.ok value) fun d => bd (opt (isi_bool d)) fun k => .ok (.bl k)) asB) fun k => .ok (.bl (!k))) else .ok (.bl false)) fun d => .ok (.rt d))
theorem ok_is_integer (F : FnA K d_is_integer fd) (T : Tx K mg)  : FnOk P w K mg base CX0 1 (d_is_integer.adr K) fd ["value"] (spF K Tb (ul1 F_is_integer)) := by
  refine fnO0 F sc_is_integer (fun vs H Q E h => spF_len len1 h) (fun cdv A outer s H vs Q E hr h => ?_)
  refine ⟨_, (pss_cons (ps_ret (pe_and (pe_callB (call_isiZ (K := K) rfl) (by rfl) T.f_isinstance (by decide +kernel) (pa_cons (pv 0) (pa_cons (pe_bltn (v := .ty "int") (by rfl) T.f_int (by decide +kernel) rfl) pa_nil))) (pe_one (pe_not (pe_callB (call_isiZ (K := K) rfl) (by rfl) T.f_isinstance (by decide +kernel) (pa_cons (pv 0) (pa_cons (pe_bltn (v := .ty "bool") (by rfl) T.f_bool (by decide +kernel) rfl) pa_nil))))))) pss_nil), ?_⟩
  exact fn_of1 (F := F_is_integer) (envU := fun _ => List.replicate 1 .no) h (fun value => rfl) (fun p c value => (ss_ret (se_andV (se_isi (.ty _) (isT_int T) se_var) (se_notV (se_isi (.ty _) (isT_bool T) se_var)))))
abbrev N_is_within : List Str := ["value", "least", "most"]
theorem sc_is_within : FnScope N_is_within ["value", "least", "most"] (defScope s_is_within) := ⟨rfl, rfl, rfl, by decide +kernel, rfl, by decide +kernel, by decide +kernel⟩
def F_is_within (value least most : D) : Tr D :=
  fin (bd (bd (bd (bd (bd (.ok value) fun v1 => (bd (.ok []) fun r2 => .ok (v1 :: r2))) (ul1 F_is_integer)) asB) fun k => if k = true then (bd (.ok least) fun v3 => (bd (.ok value) fun v4 => (bd (bd (leD v3 v4) asB) fun k => if k = true then (bd (.ok most) fun v5 => leD v4 v5) else .ok (.bl false)))) else .ok (.bl false)) fun d => .ok (.rt d))
theorem ok_is_within (F : FnA K d_is_within fd) (T : Tx K mg) (G_is_integer : PromO P w K mg base CX0 1 (gd "is_integer" K) [] (spF K Tb (ul1 F_is_integer))) : FnOk P w K mg base CX0 2 (d_is_within.adr K) fd ["value", "least", "most"] (spF K Tb (ul3 F_is_within)) := by
  refine fnO0 F sc_is_within (fun vs H Q E h => spF_len len3 h) (fun cdv A outer s H vs Q E hr h => ?_)
  refine ⟨_, (pss_cons (ps_ret (pe_and (pe_g (PromO.call G_is_integer (hr.mono (by decide)) (passA (E := E))) (by rfl) T.g_is_integer T.k_is_integer (pa_cons (pv 0) pa_nil)) (pe_one (pe_chain op_le op_le (pv 1) (pv 0) (pv 2))))) pss_nil), ?_⟩
  exact fn_of3 (F := F_is_within) (envU := fun _ => List.replicate 3 .no) h (fun value least most => rfl) (fun p c value least most => (ss_ret (se_andV (se_cl srl_sp0 (sa_cons se_var sa_nil)) (se_chain sr_le sr_le se_var se_var se_var))))
abbrev N_is_length : List Str := ["value"]
theorem sc_is_length : FnScope N_is_length ["value"] (defScope s_is_length) := ⟨rfl, rfl, rfl, by decide +kernel, rfl, by decide +kernel, by decide +kernel⟩
def F_is_length (value : D) : Tr D :=
  fin (bd (bd (bd (.ok value) fun v5 => (bd (bd (.ok (.int 1)) fun v3 => (bd (bd (.ok (.int 10000000000000000000000000000000000000000)) fun v1 => (bd (.ok []) fun r2 => .ok (v1 :: r2))) fun r4 => .ok (v3 :: r4))) fun r6 => .ok (v5 :: r6))) (ul3 F_is_within)) fun d => .ok (.rt d))
theorem ok_is_length (F : FnA K d_is_length fd) (T : Tx K mg) (G_is_within : PromO P w K mg base CX0 2 (gd "is_within" K) [] (spF K Tb (ul3 F_is_within))) : FnOk P w K mg base CX0 3 (d_is_length.adr K) fd ["value"] (spF K Tb (ul1 F_is_length)) := by
  refine fnO0 F sc_is_length (fun vs H Q E h => spF_len len1 h) (fun cdv A outer s H vs Q E hr h => ?_)
  refine ⟨_, (pss_cons (ps_ret (pe_g (PromO.call G_is_within (hr.mono (by decide)) (passA (E := E))) (by rfl) T.g_is_within T.k_is_within (pa_cons (pv 0) (pa_cons pe_int (pa_cons (pe_gi T.m_GREATEST_LENGTH (by rfl)) pa_nil))))) pss_nil), ?_⟩
  exact fn_of1 (F := F_is_length) (envU := fun _ => List.replicate 1 .no) h (fun value => rfl) (fun p c value => (ss_ret (se_cl srl_sp0 (sa_cons se_var (sa_cons se_int (sa_cons se_int sa_nil))))))
abbrev N_need_length : List Str := ["value"]
theorem sc_need_length : FnScope N_need_length ["value"] (defScope s_need_length) := ⟨rfl, rfl, rfl, by decide +kernel, rfl, by decide +kernel, by decide +kernel⟩
def F_need_length (value : D) : Tr D :=
  fin (bdF (W' := Unit) (bd (bd (bd (bd (bd (.ok value) fun v1 => (bd (.ok []) fun r2 => .ok (v1 :: r2))) (ul1 F_is_length)) asB) fun k => .ok (!k)) fun k => if k = true then .bad else (.ok (.nx ()))) fun (w3 : Unit) => (.ok (.nx ())))
theorem ok_need_length (F : FnA K d_need_length fd) (T : Tx K mg) (G_is_length : PromO P w K mg base CX0 3 (gd "is_length" K) [] (spF K Tb (ul1 F_is_length))) : FnOk P w K mg base CX0 4 (d_need_length.adr K) fd ["value"] (spF K Tb (ul1 F_need_length)) := by
  refine fnO0 F sc_need_length (fun vs H Q E h => spF_len len1 h) (fun cdv A outer s H vs Q E hr h => ?_)
  refine ⟨_, (pss_cons (ps_if (pt_not (pt_val (pe_g (PromO.call G_is_length (hr.mono (by decide)) (passA (E := E))) (by rfl) T.g_is_length T.k_is_length (pa_cons (pv 0) pa_nil))))
      (pss_cons ps_never pss_nil) pss_nil)
      pss_nil), ?_⟩
  exact fn_of1 (F := F_need_length) (envU := fun _ => List.replicate 1 .no) h (fun value => rfl) (fun p c value => (ss_if (fun (w3 : Unit) => [.fz value]) (sb_not (sb_tb (se_cl srl_sp0 (sa_cons se_var sa_nil)))) ss_never (ss_nx (.s .nil)) (fun (w3 : Unit) => (ss_nx (le_no _ rfl)))))
abbrev N_need_place : List Str := ["n", "value"]
theorem sc_need_place : FnScope N_need_place ["n", "value"] (defScope s_need_place) := ⟨rfl, rfl, rfl, by decide +kernel, rfl, by decide +kernel, by decide +kernel⟩
def F_need_place (n value : D) : Tr D :=
  fin (bd (bd (bd (.ok n) fun v1 => (bd (.ok []) fun r2 => .ok (v1 :: r2))) (ul1 F_need_length)) fun _ => (bdF (W' := Unit) (bd (bd (bd (bd (bd (.ok value) fun v9 => (bd (bd (.ok (.int 0)) fun v7 => (bd (bd (bd (.ok n) fun v3 => (bd (.ok (.int 1)) fun v4 => subD v3 v4)) fun v5 => (bd (.ok []) fun r6 => .ok (v5 :: r6))) fun r8 => .ok (v7 :: r8))) fun r10 => .ok (v9 :: r10))) (ul3 F_is_within)) asB) fun k => .ok (!k)) fun k => if k = true then .bad else (.ok (.nx ()))) fun (w11 : Unit) => (.ok (.nx ()))))
theorem ok_need_place (F : FnA K d_need_place fd) (T : Tx K mg) (G_need_length : PromO P w K mg base CX0 4 (gd "need_length" K) [] (spF K Tb (ul1 F_need_length))) (G_is_within : PromO P w K mg base CX0 2 (gd "is_within" K) [] (spF K Tb (ul3 F_is_within))) : FnOk P w K mg base CX0 5 (d_need_place.adr K) fd ["n", "value"] (spF K Tb (ul2 F_need_place)) := by
  refine fnO0 F sc_need_place (fun vs H Q E h => spF_len len2 h) (fun cdv A outer s H vs Q E hr h => ?_)
  refine ⟨_, (pss_cons (ps_expr (pe_g (PromO.call G_need_length (hr.mono (by decide)) (passA (E := E))) (by rfl) T.g_need_length T.k_need_length (pa_cons (pv 0) pa_nil)))
      (pss_cons (ps_if (pt_not (pt_val (pe_g (PromO.call G_is_within (hr.mono (by decide)) (passA (E := E))) (by rfl) T.g_is_within T.k_is_within (pa_cons (pv 1) (pa_cons pe_int (pa_cons (pe_op op_sub (pv 0) pe_int) pa_nil))))))
      (pss_cons ps_never pss_nil) pss_nil)
      pss_nil)), ?_⟩
  exact fn_of2 (F := F_need_place) (envU := fun _ => List.replicate 2 .no) h (fun n value => rfl) (fun p c n value => (ss_drop (se_cl srl_sp0 (sa_cons se_var sa_nil)) (ss_if (fun (w11 : Unit) => [.fz n, .fz value]) (sb_not (sb_tb (se_cl srl_sp0 (sa_cons se_var (sa_cons se_int (sa_cons (se_op sr_sub se_var se_int) sa_nil)))))) ss_never (ss_nx (.s (.s .nil))) (fun (w11 : Unit) => (ss_nx (le_no _ rfl))))))
abbrev N_is_item : List Str := ["value"]
theorem sc_is_item : FnScope N_is_item ["value"] (defScope s_is_item) := ⟨rfl, rfl, rfl, by decide +kernel, rfl, by decide +kernel, by decide +kernel⟩
def F_is_item (value : D) : Tr D :=
  fin (bd (bd (bd (bd (bd (.ok value) fun v1 => (bd (.ok []) fun r2 => .ok (v1 :: r2))) (ul1 F_is_integer)) asB) fun k => if k = true then (bd (bd (.ok (.int 1000000000000000000000000000000)) negD) fun v3 => (bd (.ok value) fun v4 => (bd (bd (ltD v3 v4) asB) fun k => if k = true then (bd (.ok (.int 1000000000000000000000000000000)) fun v5 => ltD v4 v5) else .ok (.bl false)))) else .ok (.bl false)) fun d => .ok (.rt d))
theorem ok_is_item (F : FnA K d_is_item fd) (T : Tx K mg) (G_is_integer : PromO P w K mg base CX0 1 (gd "is_integer" K) [] (spF K Tb (ul1 F_is_integer))) : FnOk P w K mg base CX0 2 (d_is_item.adr K) fd ["value"] (spF K Tb (ul1 F_is_item)) := by
  refine fnO0 F sc_is_item (fun vs H Q E h => spF_len len1 h) (fun cdv A outer s H vs Q E hr h => ?_)
  refine ⟨_, (pss_cons (ps_ret (pe_and (pe_g (PromO.call G_is_integer (hr.mono (by decide)) (passA (E := E))) (by rfl) T.g_is_integer T.k_is_integer (pa_cons (pv 0) pa_nil)) (pe_one (pe_chain op_lt op_lt (pe_un un_neg (pe_gi T.m_BEYOND_ITEMS (by rfl))) (pv 0) (pe_gi T.m_BEYOND_ITEMS (by rfl)))))) pss_nil), ?_⟩
  exact fn_of1 (F := F_is_item) (envU := fun _ => List.replicate 1 .no) h (fun value => rfl) (fun p c value => (ss_ret (se_andV (se_cl srl_sp0 (sa_cons se_var sa_nil)) (se_chain sr_lt sr_lt (se_un sr_neg se_int) se_var se_int))))
abbrev N_need_items : List Str := ["values", "many", "at", "value"]
theorem sc_need_items : FnScope N_need_items ["values", "many"] (defScope s_need_items) := ⟨rfl, rfl, rfl, by decide +kernel, rfl, by decide +kernel, by decide +kernel⟩
def F_need_items (values many : D) : Tr D :=
  fin (bdF (W' := Unit) (bd (bd (bd (bd (.ok values) fun d => bd (opt (isi_list_tuple d)) fun k => .ok (.bl k)) asB) fun k => .ok (!k)) fun k => if k = true then .bad else (.ok (.nx ()))) fun (w1 : Unit) => (bdF (W' := Unit) (bd (bd (bd (bd (bd (.ok many) fun (v2 : D) => (bd (.ok .non) fun (v3 : D) => (match v3 with | .non => .ok (.bl (!isN v2)) | _ => .bad))) asB) fun k => if k = true then (bd (bd (bd (bd (.ok values) fun v4 => (bd (.ok []) fun r5 => .ok (v4 :: r5))) (ul1 lenD)) fun v6 => (bd (.ok many) fun v7 => neD v6 v7)) asB) else .ok false) fun k => if k = true then .ok true else (bd (bd (bd (bd (.ok (.int 1)) fun v10 => (bd (bd (bd (.ok values) fun v8 => (bd (.ok []) fun r9 => .ok (v8 :: r9))) (ul1 lenD)) fun v11 => (bd (bd (leD v10 v11) asB) fun k => if k = true then (bd (.ok (.int 2000)) fun v12 => leD v11 v12) else .ok (.bl false)))) asB) fun k => .ok (!k)) fun k => if k = true then (bd (bd (.ok many) fun (v13 : D) => (bd (.ok .non) fun (v14 : D) => (match v14 with | .non => .ok (.bl (isN v13)) | _ => .bad))) asB) else .ok false)) fun k => if k = true then .bad else (.ok (.nx ()))) fun (w15 : Unit) => (bdF (bd (bd (bd (.ok values) fun v16 => (bd (.ok []) fun r17 => .ok (v16 :: r17))) (ul1 enD)) fun ds => forF (fun (d19 : D) (w18 : Unit) => (un2 d19 fun at_19 value19 => (bdF (W' := Unit) (bd (bd (bd (bd (bd (.ok value19) fun v21 => (bd (.ok []) fun r22 => .ok (v21 :: r22))) (ul1 F_is_item)) asB) fun k => .ok (!k)) fun k => if k = true then .bad else (.ok (.nx ()))) fun (w23 : Unit) => (.ok (.nx ()))))) ds ()) fun (w18 : Unit) => (.ok (.nx ())))))
theorem ok_need_items (F : FnA K d_need_items fd) (T : Tx K mg) (G_is_item : PromO P w K mg base CX0 2 (gd "is_item" K) [] (spF K Tb (ul1 F_is_item))) : FnOk P w K mg base CX0 3 (d_need_items.adr K) fd ["values", "many"] (spF K Tb (ul2 F_need_items)) := by
  refine fnO0 F sc_need_items (fun vs H Q E h => spF_len len2 h) (fun cdv A outer s H vs Q E hr h => ?_)
  refine ⟨_, (pss_cons (ps_if (pt_not (pt_val (pe_callB (call_isiTK (K := K) rfl) (by rfl) T.f_isinstance (by decide +kernel) (pa_cons (pv 0) (pa_cons (pe_tup (pa_cons (pe_bltn (v := .ty "list") (by rfl) T.f_list (by decide +kernel) rfl) (pa_cons (pe_bltn (v := .ty "tuple") (by rfl) T.f_tuple (by decide +kernel) rfl) pa_nil))) pa_nil)))))
      (pss_cons ps_never pss_nil) pss_nil)
      (pss_cons (ps_if (PW.pt (pw_or (PW.pt (pw_and (pt_cmpR or_notN (pv 1) pe_non (nomark _)) (pw_and1 (pt_cmpR (op_neA (K := K) rfl hr.units) (pe_callB (cr_len (K := K) rfl) (by rfl) T.f_len (by decide +kernel) (pa_cons (pv 0) pa_nil)) (pv 1) (nomark _))))) (pw_or1 (PW.pt (pw_and (pt_not (pt_chain op_le op_le pe_int (pe_callB (cr_len (K := K) rfl) (by rfl) T.f_len (by decide +kernel) (pa_cons (pv 0) pa_nil)) (pe_gi T.m_MOST_ITEMS (by rfl)))) (pw_and1 (pt_cmpR or_isN (pv 1) pe_non (nomark _))))))))
      (pss_cons ps_never pss_nil) pss_nil)
      (pss_cons (ps_for PassesOwn.never rfl (pi_enumA (K := K) rfl (by rfl) T.f_enumerate (pa_cons (pv 0) pa_nil)) (pg_tup rfl (pgs_cons (pg_name (i := 2) sc_need_items.nd rfl (.inl rfl)) (pgs_cons (pg_name (i := 3) sc_need_items.nd rfl (.inl rfl)) pgs_nil)))
      (pss_cons (ps_if (pt_not (pt_val (pe_g (PromO.call G_is_item (hr.mono (by decide)) (passA (E := E))) (by rfl) T.g_is_item T.k_is_item (pa_cons (pv 3) pa_nil))))
      (pss_cons ps_never pss_nil) pss_nil)
      pss_nil))
      pss_nil))), ?_⟩
  exact fn_of2 (F := F_need_items) (envU := fun _ => List.replicate 4 .no) h (fun values many => rfl) (fun p c values many => (ss_if (fun (w1 : Unit) => [.fz values, .fz many, .no, .no]) (sb_not (sb_tb (se_isiT (isT_list_tuple T) se_var))) ss_never (ss_nx (.s (.s (.s (.s .nil))))) (fun (w1 : Unit) => (ss_if (fun (w15 : Unit) => [.fz values, .fz many, .no, .no]) (sb_or (sb_and (sb_tst (se_op sr_notN se_var se_non)) (sb_tst (se_op sr_ne (se_cb srl_len (sa_cons se_var sa_nil)) se_var))) (sb_and (sb_not (sb_tst (se_chain sr_le sr_le se_int (se_cb srl_len (sa_cons se_var sa_nil)) se_int))) (sb_tst (se_op sr_isN se_var se_non)))) ss_never (ss_nx (.s (.s (.s (.s .nil))))) (fun (w15 : Unit) => (ss_for (fun (w18 : Unit) => [.fz values, .fz many, .no, .no]) (si_enum (sa_cons se_var sa_nil)) (.s (.s (.s (.s .nil)))) (fun (d19 : D) (w18 : Unit) => (sx_tup2 (fun at_19 value19 => (ss_if (fun (w23 : Unit) => [.fz values, .fz many, .fz at_19, .fz value19]) (sb_not (sb_tb (se_cl srl_sp0 (sa_cons se_var sa_nil)))) ss_never (ss_nx (.s (.s (.s (.s .nil))))) (fun (w23 : Unit) => (ss_nx (.s (.s (.n (.n .nil)))))))))) (fun (w18 : Unit) => (ss_nx (le_no _ rfl)))))))))
abbrev N_Row___init__ : List Str := ["self", "items"]
theorem sc_Row___init__ : FnScope N_Row___init__ ["self", "items"] (defScope s_Row___init__) := ⟨rfl, rfl, rfl, by decide +kernel, rfl, by decide +kernel, by decide +kernel⟩
def F_Row___init__ (fs : Fs) (items : D) : Tr Fs :=
  finI (bd (bd (bd (.ok items) fun v3 => (bd (bd (.ok .non) fun v1 => (bd (.ok []) fun r2 => .ok (v1 :: r2))) fun r4 => .ok (v3 :: r4))) (ul2 F_need_items)) fun _ => (bd (bd (bd (.ok items) fun v5 => (bd (.ok []) fun r6 => .ok (v5 :: r6))) (ul1 listD)) fun own_items7 => if fs.length < 900 then (.ok (.nx (putD "own_items" own_items7 fs))) else .bad))
theorem ok_Row___init__ (F : FnA K d_Row___init__ fd) (T : Tx K mg) (G_need_items : PromO P w K mg base CX0 3 (gd "need_items" K) [] (spF K Tb (ul2 F_need_items))) : FnOk P w K mg base CX0 4 (d_Row___init__.adr K) fd ["self", "items"] (spI K Tb "Row" (fun fs => ul1 (F_Row___init__ fs))) := by
  refine fnO0 F sc_Row___init__ (fun vs H Q E h => spI_len lenI1 h) (fun cdv A outer s H vs Q E hr h => ?_)
  refine ⟨_, (pss_cons (ps_expr (pe_g (PromO.call G_need_items (hr.mono (by decide)) (passA (E := E))) (by rfl) T.g_need_items T.k_need_items (pa_cons (pv 1) (pa_cons pe_non pa_nil))))
      (pss_cons (ps_f (pv 0) (pe_callTy (cr_listOf (K := K) rfl) (by rfl) T.f_list (by decide +kernel) (pa_cons (pv 1) pa_nil)) T.cl_Row T.n_Row_own_items)
      pss_nil)), ?_⟩
  exact ini_of1 (F := F_Row___init__) (envI := fun fs => .oi "Row" fs :: List.replicate 1 .no) h (fun fs items => rfl) (fun p c fs items => (ss_drop (se_cl srl_sp0 (sa_cons se_var (sa_cons se_non sa_nil))) (ss_setf (se_cb srl_list (sa_cons se_var sa_nil)) (fun own_items7 => (ss_nx (.s (le_no _ rfl)))))))
abbrev N_Row_contents : List Str := ["self"]
theorem sc_Row_contents : FnScope N_Row_contents ["self"] (defScope s_Row_contents) := ⟨rfl, rfl, rfl, by decide +kernel, rfl, by decide +kernel, by decide +kernel⟩
def F_Row_contents (self : D) : Tr D :=
  fin (bd (bd (bd (bd (.ok self) (fldD "Row" "own_items")) fun v1 => (bd (.ok []) fun r2 => .ok (v1 :: r2))) (ul1 tupD)) fun d => .ok (.rt d))
theorem ok_Row_contents (F : FnA K d_Row_contents fd) (T : Tx K mg)  : FnOk P w K mg base CX0 1 (d_Row_contents.adr K) fd ["self"] (spF K Tb (ul1 F_Row_contents)) := by
  refine fnO0 F sc_Row_contents (fun vs H Q E h => spF_len len1 h) (fun cdv A outer s H vs Q E hr h => ?_)
  refine ⟨_, (pss_cons (ps_ret (pe_callTy (cr_tupOf (K := K) rfl) (by rfl) T.f_tuple (by decide +kernel) (pa_cons (pe_f (pv 0) T.cl_Row T.n_Row_own_items) pa_nil))) pss_nil), ?_⟩
  exact fn_of1 (F := F_Row_contents) (envU := fun _ => List.replicate 1 .no) h (fun self => rfl) (fun p c self => (ss_ret (se_cb srl_tup (sa_cons (se_un sr_fld se_var) sa_nil))))
abbrev N_Row___eq__ : List Str := ["self", "other"]
theorem sc_Row___eq__ : FnScope N_Row___eq__ ["self", "other"] (defScope s_Row___eq__) := ⟨rfl, rfl, rfl, by decide +kernel, rfl, by decide +kernel, by decide +kernel⟩
def F_Row___eq__ (self other : D) : Tr D :=
  fin (bd (bd (bd (bd (.ok other) fun d => bd (opt (isi_Row d)) fun k => .ok (.bl k)) asB) fun k => if k = true then (bd (bd (.ok self) (fldD "Row" "own_items")) fun v1 => (bd (bd (.ok other) (fldD "Row" "own_items")) fun v2 => eqD v1 v2)) else .ok (.bl false)) fun d => .ok (.rt d))
theorem ok_Row___eq__ (F : FnA K d_Row___eq__ fd) (T : Tx K mg)  : FnOk P w K mg base CX0 1 (d_Row___eq__.adr K) fd ["self", "other"] (spF K Tb (ul2 F_Row___eq__)) := by
  refine fnO0 F sc_Row___eq__ (fun vs H Q E h => spF_len len2 h) (fun cdv A outer s H vs Q E hr h => ?_)
  refine ⟨_, (pss_cons (ps_ret (pe_and (pe_callB (call_isiZ (K := K) rfl) (by rfl) T.f_isinstance (by decide +kernel) (pa_cons (pv 1) (pa_cons (pe_glob (v := .ref _) rfl T.g_Row rfl) pa_nil))) (pe_one (pe_cmpR (op_eqA (K := K) rfl hr.units) (pe_f (pv 0) T.cl_Row T.n_Row_own_items) (pe_f (pv 1) T.cl_Row T.n_Row_own_items) (nomark _))))) pss_nil), ?_⟩
  exact fn_of2 (F := F_Row___eq__) (envU := fun _ => List.replicate 2 .no) h (fun self other => rfl) (fun p c self other => (ss_ret (se_andV (se_isi (.own _) (isT_Row T) se_var) (se_op sr_eq (se_un sr_fld se_var) (se_un sr_fld se_var)))))
abbrev N_are_told : List Str := ["value", "place"]
theorem sc_are_told : FnScope N_are_told ["value"] (defScope s_are_told) := ⟨rfl, rfl, rfl, by decide +kernel, rfl, by decide +kernel, by decide +kernel⟩
def F_are_told (value : D) : Tr D :=
  fin (bdF (W' := Unit) (bd (bd (bd (bd (bd (.ok value) fun d => bd (opt (isi_list_tuple d)) fun k => .ok (.bl k)) asB) fun k => .ok (!k)) fun k => if k = true then .ok true else (bd (bd (bd (bd (.ok value) fun v1 => (bd (.ok []) fun r2 => .ok (v1 :: r2))) (ul1 lenD)) fun v3 => (bd (.ok (.int 8)) fun v4 => gtD v3 v4)) asB)) fun k => if k = true then (bd (.ok (.bl false)) fun d => .ok (.rt d)) else (.ok (.nx ()))) fun (w5 : Unit) => (bdF (W' := Unit) (bd (bd (bd (bd (bd (bd (bd (.ok value) itD) fun ds => bd (lcF (fun place5 => nox (bd (bd (bd (.ok place5) fun v11 => (bd (bd (.ok (.int 0)) fun v9 => (bd (bd (.ok (.int 15)) fun v7 => (bd (.ok []) fun r8 => .ok (v7 :: r8))) fun r10 => .ok (v9 :: r10))) fun r12 => .ok (v11 :: r12))) (ul3 F_is_within)) fun y => .ok (some y))) ds) fun r => .ok (.lst r)) fun v13 => (bd (.ok []) fun r14 => .ok (v13 :: r14))) (ul1 allD)) asB) fun k => .ok (!k)) fun k => if k = true then (bd (.ok (.bl false)) fun d => .ok (.rt d)) else (.ok (.nx ()))) fun (w15 : Unit) => (bd (bd (bd (bd (bd (.ok value) itD) fun ds => bd (lcF (fun place15 => nox (bd (bd (bd (.ok place15) fun v17 => (bd (.ok []) fun r18 => .ok (v17 :: r18))) (ul1 intD)) fun y => .ok (some y))) ds) fun r => .ok (.lst r)) lenSD) fun v21 => (bd (bd (bd (.ok value) fun v19 => (bd (.ok []) fun r20 => .ok (v19 :: r20))) (ul1 lenD)) fun v22 => eqD v21 v22)) fun d => .ok (.rt d))))
theorem ok_are_told (F : FnA K d_are_told fd) (T : Tx K mg) (G_is_within : PromO P w K mg base CX0 2 (gd "is_within" K) [] (spF K Tb (ul3 F_is_within))) : FnOk P w K mg base CX0 3 (d_are_told.adr K) fd ["value"] (spF K Tb (ul1 F_are_told)) := by
  refine fnO0 F sc_are_told (fun vs H Q E h => spF_len len1 h) (fun cdv A outer s H vs Q E hr h => ?_)
  refine ⟨_, (pss_cons (ps_if (PW.pt (pw_or (pt_not (pt_val (pe_callB (call_isiTK (K := K) rfl) (by rfl) T.f_isinstance (by decide +kernel) (pa_cons (pv 0) (pa_cons (pe_tup (pa_cons (pe_bltn (v := .ty "list") (by rfl) T.f_list (by decide +kernel) rfl) (pa_cons (pe_bltn (v := .ty "tuple") (by rfl) T.f_tuple (by decide +kernel) rfl) pa_nil))) pa_nil))))) (pw_or1 (pt_cmpR op_gt (pe_callB (cr_len (K := K) rfl) (by rfl) T.f_len (by decide +kernel) (pa_cons (pv 0) pa_nil)) (pe_gi T.m_MOST_TOLD (by rfl)) (nomark _)))))
      (pss_cons (ps_ret pe_bl) pss_nil) pss_nil)
      (pss_cons (ps_if (pt_not (pt_val (pe_callB (cr_allK (K := K) rfl rfl) (by rfl) T.f_all (by decide +kernel) (pa_cons (pe_lc (own := [("place", 1)]) (g := gName 1) (by rfl) sc_are_told.nd (pi_seq (K := K) rfl (pv 0)) (blkOk_by (own := [("place", 1)]) (N := N_are_told) (sc := defScope s_are_told) (by decide +kernel)) (fun _ _ _ _ _ => pg_name (i := 1) sc_are_told.nd rfl (Or.inl rfl)) (fun _ _ _ _ _ => pts_nil) (fun _ _ _ _ _ => (pe_g (PromO.call G_is_within (hr.mono (by decide)) (passA (E := EF))) (by rfl) T.g_is_within T.k_is_within (pa_cons (pv 1) (pa_cons pe_int (pa_cons (pe_gi T.m_FARTHEST (by rfl)) pa_nil)))))) pa_nil))))
      (pss_cons (ps_ret pe_bl) pss_nil) pss_nil)
      (pss_cons (ps_ret (pe_cmpR (op_eqA (K := K) rfl hr.units) (pe_callB cr_lnSet (by rfl) T.f_len (by decide +kernel) (pa_cons (pe_callTy (cr_setI (K := K) rfl rfl) (by rfl) T.f_set (by decide +kernel) (pa_cons (pe_lc (own := [("place", 1)]) (g := gName 1) (by rfl) sc_are_told.nd (pi_seq (K := K) rfl (pv 0)) (blkOk_by (own := [("place", 1)]) (N := N_are_told) (sc := defScope s_are_told) (by decide +kernel)) (fun _ _ _ _ _ => pg_name (i := 1) sc_are_told.nd rfl (Or.inl rfl)) (fun _ _ _ _ _ => pts_nil) (fun _ _ _ _ _ => (pe_callTy cr_int (by rfl) T.f_int (by decide +kernel) (pa_cons (pv 1) pa_nil)))) pa_nil)) pa_nil)) (pe_callB (cr_len (K := K) rfl) (by rfl) T.f_len (by decide +kernel) (pa_cons (pv 0) pa_nil)) (nomark _))) pss_nil))), ?_⟩
  exact fn_of1 (F := F_are_told) (envU := fun _ => List.replicate 2 .no) h (fun value => rfl) (fun p c value => (ss_if (fun (w5 : Unit) => [.fz value, .no]) (sb_or (sb_not (sb_tb (se_isiT (isT_list_tuple T) se_var))) (sb_tst (se_op sr_gt (se_cb srl_len (sa_cons se_var sa_nil)) se_int))) (ss_ret se_bl) (ss_nx (.s (.s .nil))) (fun (w5 : Unit) => (ss_if (fun (w15 : Unit) => [.fz value, .no]) (sb_not (sb_tb (se_cb srl_all (sa_cons (se_lc (si_seq se_var) (fun place5 => (sc_map (se_cl srl_sp0 (sa_cons se_var (sa_cons se_int (sa_cons se_int sa_nil))))))) sa_nil)))) (ss_ret se_bl) (ss_nx (.s (.s .nil))) (fun (w15 : Unit) => (ss_ret (se_op sr_eq (se_lenS (se_lc (si_seq se_var) (fun place15 => (sc_map (se_cb srl_int (sa_cons se_var sa_nil)))))) (se_cb srl_len (sa_cons se_var sa_nil)))))))))
abbrev N_ascending : List Str := ["places", "place"]
theorem sc_ascending : FnScope N_ascending ["places"] (defScope s_ascending) := ⟨rfl, rfl, rfl, by decide +kernel, rfl, by decide +kernel, by decide +kernel⟩
def F_ascending (places : D) : Tr D :=
  fin (bd (bd (bd (bd (bd (bd (bd (.ok places) itD) fun ds => bd (lcF (fun place0 => nox (bd (bd (bd (.ok place0) fun v2 => (bd (.ok []) fun r3 => .ok (v2 :: r3))) (ul1 intD)) fun y => .ok (some y))) ds) fun r => .ok (.lst r)) fun v4 => (bd (.ok []) fun r5 => .ok (v4 :: r5))) (ul1 sortD)) fun v6 => (bd (.ok []) fun r7 => .ok (v6 :: r7))) (ul1 tupD)) fun d => .ok (.rt d))
theorem ok_ascending (F : FnA K d_ascending fd) (T : Tx K mg)  : FnOk P w K mg base CX0 1 (d_ascending.adr K) fd ["places"] (spF K Tb (ul1 F_ascending)) := by
  refine fnO0 F sc_ascending (fun vs H Q E h => spF_len len1 h) (fun cdv A outer s H vs Q E hr h => ?_)
  refine ⟨_, (pss_cons (ps_ret (pe_callTy (cr_tupOf (K := K) rfl) (by rfl) T.f_tuple (by decide +kernel) (pa_cons (pe_callB (cr_sortedK (K := K) rfl) (by rfl) T.f_sorted (by decide +kernel) (pa_cons (pe_lc (own := [("place", 1)]) (g := gName 1) (by rfl) sc_ascending.nd (pi_seq (K := K) rfl (pv 0)) (blkOk_by (own := [("place", 1)]) (N := N_ascending) (sc := defScope s_ascending) (by decide +kernel)) (fun _ _ _ _ _ => pg_name (i := 1) sc_ascending.nd rfl (Or.inl rfl)) (fun _ _ _ _ _ => pts_nil) (fun _ _ _ _ _ => (pe_callTy cr_int (by rfl) T.f_int (by decide +kernel) (pa_cons (pv 1) pa_nil)))) pa_nil)) pa_nil))) pss_nil), ?_⟩
  exact fn_of1 (F := F_ascending) (envU := fun _ => List.replicate 2 .no) h (fun places => rfl) (fun p c places => (ss_ret (se_cb srl_tup (sa_cons (se_cb srl_sorted (sa_cons (se_lc (si_seq se_var) (fun place0 => (sc_map (se_cb srl_int (sa_cons se_var sa_nil))))) sa_nil)) sa_nil))))
abbrev N_Sided___init___at_Change : List Str := ["self", "side"]
theorem sc_Sided___init___at_Change : FnScope N_Sided___init___at_Change ["self", "side"] (defScope s_Sided___init___at_Change) := ⟨rfl, rfl, rfl, by decide +kernel, rfl, by decide +kernel, by decide +kernel⟩
def F_Sided___init___at_Change (fs : Fs) (side : D) : Tr Fs :=
  finI (bd (.ok side) fun side1 => if fs.length < 900 then (.ok (.nx (putD "side" side1 fs))) else .bad)
theorem ok_Sided___init___at_Change (F : FnA K d_Sided___init___at_Change fd) (T : Tx K mg)  : FnOk P w K mg base CX0 1 (d_Sided___init___at_Change.adr K) fd ["self", "side"] (spI K Tb "Change" (fun fs => ul1 (F_Sided___init___at_Change fs))) := by
  refine fnO0 F sc_Sided___init___at_Change (fun vs H Q E h => spI_len lenI1 h) (fun cdv A outer s H vs Q E hr h => ?_)
  refine ⟨_, (pss_cons (ps_f (pv 0) (pv 1) T.cl_Change T.n_Change_side)
      pss_nil), ?_⟩
  exact ini_of1 (F := F_Sided___init___at_Change) (envI := fun fs => .oi "Change" fs :: List.replicate 1 .no) h (fun fs side => rfl) (fun p c fs side => (ss_setf se_var (fun side1 => (ss_nx (.s (le_no _ rfl))))))
abbrev N_Change___init__ : List Str := ["self", "front", "back", "side", "__class__"]
theorem sc_Change___init__ : NdefX.NScope N_Change___init__ ["self", "front", "back", "side"] ["__class__"] (defScope s_Change___init__) := NdefX.nscope_by (by decide +kernel)
def F_Change___init__ (fs : Fs) (front back side : D) : Tr Fs :=
  finI (bdF (W' := Unit) (bd (bd (bd (bd (bd (.ok front) fun v1 => (bd (.ok []) fun r2 => .ok (v1 :: r2))) (ul1 F_are_told)) asB) fun k => .ok (!k)) fun k => if k = true then .bad else (.ok (.nx ()))) fun (w3 : Unit) => (bdF (W' := Unit) (bd (bd (bd (bd (bd (.ok back) fun v4 => (bd (.ok []) fun r5 => .ok (v4 :: r5))) (ul1 F_are_told)) asB) fun k => .ok (!k)) fun k => if k = true then .bad else (.ok (.nx ()))) fun (w6 : Unit) => (bdF (W' := Unit) (bd (bd (bd (bd (bd (.ok side) fun d => bd (opt (isi_str d)) fun k => .ok (.bl k)) asB) fun k => .ok (!k)) fun k => if k = true then .ok true else (bd (bd (.ok side) fun v7 => (bd (.ok (.tup [.str "front", .str "back"])) fun v8 => notinD v7 v8)) asB)) fun k => if k = true then .bad else (.ok (.nx ()))) fun (w9 : Unit) => (bd (bd (.ok side) fun v10 => (bd (.ok []) fun r11 => .ok (v10 :: r11))) fun ds => bd ((fun fs => ul1 (F_Sided___init___at_Change fs)) fs ds) fun fs12 => (bd (bd (bd (.ok front) fun v13 => (bd (.ok []) fun r14 => .ok (v13 :: r14))) (ul1 F_ascending)) fun front15 => if fs12.length < 900 then (bd (bd (bd (.ok back) fun v16 => (bd (.ok []) fun r17 => .ok (v16 :: r17))) (ul1 F_ascending)) fun back18 => if (putD "front" front15 fs12).length < 900 then (.ok (.nx (putD "back" back18 (putD "front" front15 fs12)))) else .bad) else .bad)))))
theorem ok_Change___init__ (F : FnS K ds_Change___init__ pfile fd) (T : Tx K mg) (hP : ((P.main.file : Str) == pfile) = true ∧ (P.main.scope.names.lookup ("super" : Str)).isSome = false) (G_are_told : PromO P w K mg base CX0 3 (gd "are_told" K) [] (spF K Tb (ul1 F_are_told))) (G_Sided___init___at_Change : PromO P w K mg base CX0 1 (md "Sided" "__init__" K) [] (spI K Tb "Change" (fun fs => ul1 (F_Sided___init___at_Change fs)))) (G_ascending : PromO P w K mg base CX0 1 (gd "ascending" K) [] (spF K Tb (ul1 F_ascending))) : FnOk P w K mg base CX0 4 (ds_Change___init__.d.adr K) fd ["self", "front", "back", "side"] (spI K Tb "Change" (fun fs => ul3 (F_Change___init__ fs))) := by
  refine SupF.ok (k := 3) (pre := (defBody s_Change___init__).take 3) (post := (defBody s_Change___init__).drop 4) (by rfl) F ⟨Option.isSome_iff_exists.mp T.cd_Change, T.f_super, T.stat⟩ sc_Change___init__ (fun vs H Q E h => spI_len lenI3 h) hP.1 hP.2 (by decide) rfl rfl rfl rfl (fun cc cda A outer s H vs Q E hr h => ?_) (pl := _) (he := fun _ => rfl)
  refine ⟨_, _, _, _, _, _, _, _, _, (pss_cons (ps_if (pt_not (pt_val (pe_g (PromO.call G_are_told (hr.mono (by decide)) (passA (E := E))) (by rfl) T.g_are_told T.k_are_told (pa_cons (pv 1) pa_nil))))
      (pss_cons ps_never pss_nil) pss_nil)
      (pss_cons (ps_if (pt_not (pt_val (pe_g (PromO.call G_are_told (hr.mono (by decide)) (passA (E := E))) (by rfl) T.g_are_told T.k_are_told (pa_cons (pv 2) pa_nil))))
      (pss_cons ps_never pss_nil) pss_nil)
      (pss_cons (ps_if (PW.pt (pw_or (pt_not (pt_val (pe_callB (call_isiZ (K := K) rfl) (by rfl) T.f_isinstance (by decide +kernel) (pa_cons (pv 3) (pa_cons (pe_bltn (v := .ty "str") (by rfl) T.f_str (by decide +kernel) rfl) pa_nil))))) (pw_or1 (pt_cmpR (op_notinA (K := K) rfl) (pv 3) (pe_glob (v := .ref (gd "SIDES" K)) rfl T.g_SIDES rfl) (by rfl)))))
      (pss_cons ps_never pss_nil) pss_nil)
      pss_nil))), (pa_cons (pv 3) pa_nil), (pss_cons (ps_f (pv 0) (pe_g (PromO.call G_ascending (hr.mono (by decide)) (passA (E := E))) (by rfl) T.g_ascending T.k_ascending (pa_cons (pv 1) pa_nil)) T.cl_Change T.n_Change_front)
      (pss_cons (ps_f (pv 0) (pe_g (PromO.call G_ascending (hr.mono (by decide)) (passA (E := E))) (by rfl) T.g_ascending T.k_ascending (pa_cons (pv 2) pa_nil)) T.cl_Change T.n_Change_back)
      pss_nil)), G_Sided___init___at_Change, by decide, (passA (E := E)), ?_⟩
  refine sup_goal ?_
  exact ini_of3 (F := F_Change___init__) (envI := fun fs => .oi "Change" fs :: List.replicate 4 .no) h (fun fs front back side => rfl) (fun p c fs front back side => (ss_assoc (ss_if (fun (w3 : Unit) => [.oi "Change" fs, .fz front, .fz back, .fz side, .no]) (sb_not (sb_tb (se_cl srl_sp0 (sa_cons se_var sa_nil)))) ss_never (ss_nx (.s (.s (.s (.s (.s .nil)))))) (fun (w3 : Unit) => (ss_assoc (ss_if (fun (w6 : Unit) => [.oi "Change" fs, .fz front, .fz back, .fz side, .no]) (sb_not (sb_tb (se_cl srl_sp0 (sa_cons se_var sa_nil)))) ss_never (ss_nx (.s (.s (.s (.s (.s .nil)))))) (fun (w6 : Unit) => (ss_assoc (ss_if (fun (w9 : Unit) => [.oi "Change" fs, .fz front, .fz back, .fz side, .no]) (sb_or (sb_not (sb_tb (se_isi (.ty _) (isT_str T) se_var))) (sb_tst (se_op sr_notin se_var (se_c fun _ _ => .tupW (vs := [.str "front", .str "back"]) T.tu_SIDES (by decide) (.cons (.str _ (by decide)) (.cons (.str _ (by decide)) .nil)) rfl)))) ss_never (ss_nx (.s (.s (.s (.s (.s .nil)))))) (fun (w9 : Unit) => (ss_next (ss_sup T.sc_Change_Change (sa_cons se_var sa_nil) (fun fs12 => (ss_setf (se_cl srl_sp0 (sa_cons se_var sa_nil)) (fun front15 => (ss_setf (se_cl srl_sp0 (sa_cons se_var sa_nil)) (fun back18 => (ss_nx (.s (le_no _ rfl))))))))))))))))))))
abbrev N_Change_places_told : List Str := ["self", "n", "found", "place"]
theorem sc_Change_places_told : FnScope N_Change_places_told ["self", "n"] (defScope s_Change_places_told) := ⟨rfl, rfl, rfl, by decide +kernel, rfl, by decide +kernel, by decide +kernel⟩
def F_Change_places_told (self n : D) : Tr D :=
  fin (bd (bd (bd (bd (.ok self) (fldD "Change" "front")) itD) fun ds => lcF (fun place1 => nox (bd (bd (bd (.ok place1) fun v3 => (bd (.ok n) fun v4 => ltD v3 v4)) asB) fun k => if k = true then bd (.ok place1) fun y => .ok (some y) else .ok none)) ds) fun found0 => (bd (bd (bd (bd (bd (.ok self) (fldD "Change" "back")) itD) fun ds => bd (lcF (fun place4 => nox (bd (bd (bd (.ok place4) fun v6 => (bd (.ok n) fun v7 => ltD v6 v7)) asB) fun k => if k = true then bd (bd (bd (.ok n) fun v8 => (bd (.ok (.int 1)) fun v9 => subD v8 v9)) fun v10 => (bd (.ok place4) fun v11 => subD v10 v11)) fun y => .ok (some y) else .ok none)) ds) fun r => .ok (.lst r)) asL) fun v12 => if found0.length + v12.length ≤ sizeLine then (bd (bd (bd (bd (.ok (.lst (found0 ++ v12))) itD) fun ds => bd (lcF (fun place12 => nox (bd (bd (bd (.ok place12) fun v14 => (bd (.ok []) fun r15 => .ok (v14 :: r15))) (ul1 intD)) fun y => .ok (some y))) ds) fun r => .ok (.lst r)) sortSD) fun d => .ok (.rt d)) else .bad))
theorem ok_Change_places_told (F : FnA K d_Change_places_told fd) (T : Tx K mg)  : FnOk P w K mg base CX0 1 (d_Change_places_told.adr K) fd ["self", "n"] (spF K Tb (ul2 F_Change_places_told)) := by
  refine fnO0 F sc_Change_places_told (fun vs H Q E h => spF_len len2 h) (fun cdv A outer s H vs Q E hr h => ?_)
  refine ⟨_, (pss_cons (ps_setLc (i := 2) (own := [("place", 3)]) (g := gName 3) (tt := _) (by rfl) sc_Change_places_told.nd rfl rfl (sw_true rfl rfl rfl (by decide +kernel)) (pi_seq (K := K) rfl (pe_f (pv 0) T.cl_Change T.n_Change_front)) (blkOk_by (own := [("place", 3)]) (N := N_Change_places_told) (sc := defScope s_Change_places_told) (by decide +kernel)) (fun _ _ _ _ _ => pg_name (i := 3) sc_Change_places_told.nd rfl (Or.inl rfl)) (fun _ _ _ _ _ => (pts_one (pt_cmpR op_lt (pv 3) (pv 1) (nomark _)))) (fun _ _ _ _ _ => (pv 3)))
      (pss_cons (ps_expr (pe_bm PySem.F.plainAttrs_list PySem.F.slot_list_extend PySem.F.type_list_extend mt_extend (pv 2) (pa_cons (pe_lc (own := [("place", 3)]) (g := gName 3) (tt := _) (by rfl) sc_Change_places_told.nd (pi_seq (K := K) rfl (pe_f (pv 0) T.cl_Change T.n_Change_back)) (blkOk_by (own := [("place", 3)]) (N := N_Change_places_told) (sc := defScope s_Change_places_told) (by decide +kernel)) (fun _ _ _ _ _ => pg_name (i := 3) sc_Change_places_told.nd rfl (Or.inl rfl)) (fun _ _ _ _ _ => (pts_one (pt_cmpR op_lt (pv 3) (pv 1) (nomark _)))) (fun _ _ _ _ _ => (pe_op op_sub (pe_op op_sub (pv 1) pe_int) (pv 3)))) pa_nil)))
      (pss_cons (ps_ret (pe_callB (cr_sortedSet rfl) (by rfl) T.f_sorted (by decide +kernel) (pa_cons (pe_callTy (cr_setI (K := K) rfl rfl) (by rfl) T.f_set (by decide +kernel) (pa_cons (pe_lc (own := [("place", 3)]) (g := gName 3) (by rfl) sc_Change_places_told.nd (pi_seq (K := K) rfl (pv 2)) (blkOk_by (own := [("place", 3)]) (N := N_Change_places_told) (sc := defScope s_Change_places_told) (by decide +kernel)) (fun _ _ _ _ _ => pg_name (i := 3) sc_Change_places_told.nd rfl (Or.inl rfl)) (fun _ _ _ _ _ => pts_nil) (fun _ _ _ _ _ => (pe_callTy cr_int (by rfl) T.f_int (by decide +kernel) (pa_cons (pv 3) pa_nil)))) pa_nil)) pa_nil))) pss_nil))), ?_⟩
  exact fn_of2 (F := F_Change_places_told) (envU := fun _ => List.replicate 4 .no) h (fun self n => rfl) (fun p c self n => (ss_own (sn_lc (si_seq (se_un sr_fld se_var)) (fun place1 => (sc_name (sb_tst (se_op sr_lt se_var se_var)) se_var))) (fun found0 => (ss_ext (se_lc (si_seq (se_un sr_fld se_var)) (fun place4 => (sc_name (sb_tst (se_op sr_lt se_var se_var)) (se_op sr_sub (se_op sr_sub se_var se_int) se_var)))) (fun v12 => (ss_fz (i := 2) rfl (ss_ret (se_sortS (se_lc (si_seq se_var) (fun place12 => (sc_map (se_cb srl_int (sa_cons se_var sa_nil)))))))))))))
abbrev N_Change_runs : List Str := ["self", "n", "begin", "place"]
theorem sc_Change_runs : GScope N_Change_runs ["self", "n"] (defScope s_Change_runs) := ⟨rfl, rfl, rfl, by decide +kernel, rfl, by decide +kernel, by decide +kernel⟩
def F_Change_runs (self n : D) : GT Unit :=
  (gpre (bd (.ok (.int 0)) fun begin1 => (.ok (.nx begin1))) fun (w1 : D) => (gfin (gbF (W' := D) (yfor (bd (bd (bd (bd (bd (.ok self) fun o5 => (isO "Change" o5 fun fs => if fs.lookup ("places_told" : Str) = none then bd (bd (.ok n) fun v3 => (bd (.ok []) fun r4 => .ok (v3 :: r4))) fun ds => (ul2 F_Change_places_told) (o5 :: ds) else .bad)) seqD) fun v8 => (bd (bd (.ok n) fun v6 => (bd (.ok []) fun r7 => .ok (v6 :: r7))) fun r9 => .ok (v8 ++ r9))) fun ds => if ds.length ≤ sizeLine then .ok (.lst ds) else .bad) itD) (fun (d11 : D) (w10 : D) => (gbF (W' := Unit) (gif (bd (bd (.ok w10) fun v13 => (bd (.ok d11) fun v14 => ltD v13 v14)) asB) (gbF (W' := Unit) (gyl (bd (bd (.ok w10) fun v20 => (bd (bd (bd (.ok d11) fun v16 => (bd (.ok (.int 1)) fun v17 => subD v16 v17)) fun v18 => (bd (.ok []) fun r19 => .ok (v18 :: r19))) fun r21 => .ok (v20 :: r21))) fun ds => if ds.length ≤ sizeLine then .ok (.tup ds) else .bad) ()) fun _ => ⟨[], .ok (.nx ())⟩) ⟨[], .ok (.nx ())⟩) fun (w15 : Unit) => (gbF (W' := D) (gpl (bd (bd (.ok d11) fun v24 => (bd (.ok (.int 1)) fun v25 => addD v24 v25)) fun begin22 => (.ok (.nx begin22)))) fun (w22 : D) => ⟨[], .ok (.nx w22)⟩))) w1) fun (w10 : D) => ⟨[], .ok (.nx ())⟩)))
theorem ok_Change_runs (F : FnA K d_Change_runs fd) (T : Tx K mg) (G_Change_places_told : PromO P w K mg base CX0 1 (md "Change" "places_told" K) [] (spF K Tb (ul2 F_Change_places_told))) : QFn P w K mg base 2 (d_Change_runs.adr K) fd ["self", "n"] (spY K Tb (yl2 F_Change_runs)) := by
  refine fnYQ F sc_Change_runs (fun n x c h => by cases h) (fun cdv A outer s H vs E pn hr hl => ?_)
  refine ⟨_, fun T_ => (q0_cons (ps_set (i := 2) sc_Change_runs.nd rfl (.inl rfl) pe_int)
      (q0_rest (qss_cons (qs_for rfl (fun _ _ => (pi_seq (K := K) rfl (pe_lst (pa_starK (K := K) rfl (pe_m (pv 0) T.cl_Change T.mt_Change_places_told (PromO.call G_Change_places_told (hr.mono (by decide)) (passA (E := EF))) (pa_cons (pv 1) pa_nil)) (pa_cons (pv 1) pa_nil))))) (fun _ _ => (pg_name (i := 3) sc_Change_runs.nd rfl (.inl rfl)))
      (qss_cons (qs_if (fun _ _ => (pt_cmpR op_lt (pv 2) (pv 3) (nomark _)))
      (qss_cons (qs_yield (fun _ _ => (pe_tup (pa_cons (pv 2) (pa_cons (pe_op op_sub (pv 3) pe_int) pa_nil)))))
      qss_nil) qss_nil)
      (qss_cons (qs_ps (fun _ _ => (ps_set (i := 2) sc_Change_runs.nd rfl (.inl rfl) (pe_op (op_addA (K := K) rfl) (pv 3) pe_int))))
      qss_nil)))
      qss_nil))), fun T_ Pr M γ h hh => ?_⟩
  exact yfn_of2 (F := F_Change_runs) h hl (fun p c self n => (s0_pre (env := fun (w1 : D) => [.fz self, .fz n, .fz w1, .no]) (ss_asg se_int (fun begin1 => (ss_nx (.s (.s (.s (.s .nil))))))) (fun (w1 : D) => (s0_rest (envU := fun _ => List.replicate 4 .no) (YS.seq (env' := fun (w10 : D) => [.fz self, .fz n, .fz w10, .no]) (ys_for (fun (w10 : D) => [.fz self, .fz n, .fz w10, .no]) (si_seq (se_lst (sa_star (se_mt srl_sp0 se_var (sa_cons se_var sa_nil)) (sa_cons se_var sa_nil)))) (.s (.s (.s (.s .nil)))) (fun (d11 : D) (w10 : D) => (yx_name (YS.seq (env' := fun (w15 : Unit) => [.fz self, .fz n, .fz w10, .fz d11]) (ys_if (sb_tst (se_op sr_lt se_var se_var)) (YS.seq (env' := fun (_ : Unit) => [.fz self, .fz n, .fz w10, .fz d11]) (ys_yield (se_tup (sa_cons se_var (sa_cons (se_op sr_sub se_var se_int) sa_nil))) (.s (.s (.s (.s .nil)))) rfl) (fun _ => (ys_nil (.s (.s (.s (.s .nil))))))) (ys_nil (.s (.s (.s (.s .nil)))))) (fun (w15 : Unit) => (YS.seq (env' := fun (w22 : D) => [.fz self, .fz n, .fz w22, .fz d11]) (ys_pl (ss_asg (se_op sr_add se_var se_int) (fun begin22 => (ss_nx (.s (.s (.s (.s .nil)))))))) (fun (w22 : D) => (ys_nil (.s (.s (.s (.n .nil)))))))))))) (fun (w10 : D) => (ys_nil (le_no _ rfl))))))))
abbrev N_Change_first_pair : List Str := ["self", "begin", "last"]
theorem sc_Change_first_pair : FnScope N_Change_first_pair ["self", "begin", "last"] (defScope s_Change_first_pair) := ⟨rfl, rfl, rfl, by decide +kernel, rfl, by decide +kernel, by decide +kernel⟩
def F_Change_first_pair (self begin last : D) : Tr D :=
  fin (bd (bd (bd (bd (bd (.ok self) (fldD "Change" "side")) fun v1 => (bd (.ok (.str "back")) fun v2 => eqD v1 v2)) asB) fun k => if k = true then (bd (.ok begin) fun v9 => (bd (bd (bd (bd (.ok last) fun v3 => (bd (.ok begin) fun v4 => subD v3 v4)) fun v5 => (bd (.ok (.int 1)) fun v6 => addD v5 v6)) fun v7 => (bd (.ok (.int 2)) fun v8 => modD v7 v8)) fun v10 => addD v9 v10)) else (.ok begin)) fun d => .ok (.rt d))
theorem ok_Change_first_pair (F : FnA K d_Change_first_pair fd) (T : Tx K mg)  : FnOk P w K mg base CX0 1 (d_Change_first_pair.adr K) fd ["self", "begin", "last"] (spF K Tb (ul3 F_Change_first_pair)) := by
  refine fnO0 F sc_Change_first_pair (fun vs H Q E h => spF_len len3 h) (fun cdv A outer s H vs Q E hr h => ?_)
  refine ⟨_, (pss_cons (ps_ret (pe_ifExp (pt_cmpR (op_eqA (K := K) rfl hr.units) (pe_f (pv 0) T.cl_Change T.n_Change_side) pe_str (nomark _)) (pe_op (op_addA (K := K) rfl) (pv 1) (pe_op op_mod (pe_op (op_addA (K := K) rfl) (pe_op op_sub (pv 2) (pv 1)) pe_int) pe_int)) (pv 1))) pss_nil), ?_⟩
  exact fn_of3 (F := F_Change_first_pair) (envU := fun _ => List.replicate 3 .no) h (fun self begin last => rfl) (fun p c self begin last => (ss_ret (se_if (sb_tst (se_op sr_eq (se_un sr_fld se_var) (se_str (by decide)))) (se_op sr_add se_var (se_op sr_mod (se_op sr_add (se_op sr_sub se_var se_var) se_int) se_int)) se_var)))
abbrev N_Change_led_in : List Str := ["self", "runs", "place", "begin", "last", "first", "other"]
theorem sc_Change_led_in : FnScope N_Change_led_in ["self", "runs", "place"] (defScope s_Change_led_in) := ⟨rfl, rfl, rfl, by decide +kernel, rfl, by decide +kernel, by decide +kernel⟩
def F_Change_led_in (self runs place : D) : Tr D :=
  fin (bdF (bd (bd (.ok runs) itD) fun ds => forF (fun (d2 : D) (w1 : Unit) => (un2 d2 fun begin2 last2 => (bdF (W' := Unit) (bd (bd (bd (.ok begin2) fun v4 => (bd (.ok place) fun v5 => (bd (bd (leD v4 v5) asB) fun k => if k = true then (bd (.ok last2) fun v6 => leD v5 v6) else .ok (.bl false)))) asB) fun k => if k = true then (bd (bd (.ok self) fun o13 => (isO "Change" o13 fun fs => if fs.lookup ("first_pair" : Str) = none then bd (bd (.ok begin2) fun v11 => (bd (bd (.ok last2) fun v9 => (bd (.ok []) fun r10 => .ok (v9 :: r10))) fun r12 => .ok (v11 :: r12))) fun ds => (ul3 F_Change_first_pair) (o13 :: ds) else .bad)) fun first7 => (bd (bd (bd (bd (bd (bd (.ok place) fun v15 => (bd (.ok first7) fun v16 => subD v15 v16)) fun v17 => (bd (.ok (.int 2)) fun v18 => modD v17 v18)) fun v19 => (bd (.ok (.int 0)) fun v20 => eqD v19 v20)) asB) fun k => if k = true then (bd (.ok place) fun v21 => (bd (.ok (.int 1)) fun v22 => addD v21 v22)) else (bd (.ok place) fun v23 => (bd (.ok (.int 1)) fun v24 => subD v23 v24))) fun other13 => (bd (bd (bd (bd (.ok first7) fun v25 => (bd (.ok other13) fun v26 => (bd (bd (leD v25 v26) asB) fun k => if k = true then (bd (.ok last2) fun v27 => leD v26 v27) else .ok (.bl false)))) asB) fun k => if k = true then (.ok other13) else (.ok place)) fun d => .ok (.rt d)))) else (.ok (.nx ()))) fun (w7 : Unit) => (.ok (.nx ()))))) ds ()) fun (w1 : Unit) => (bd (.ok place) fun d => .ok (.rt d)))
theorem ok_Change_led_in (F : FnA K d_Change_led_in fd) (T : Tx K mg) (G_Change_first_pair : PromO P w K mg base CX0 1 (md "Change" "first_pair" K) [] (spF K Tb (ul3 F_Change_first_pair))) : FnOk P w K mg base CX0 2 (d_Change_led_in.adr K) fd ["self", "runs", "place"] (spF K Tb (ul3 F_Change_led_in)) := by
  refine fnO0 F sc_Change_led_in (fun vs H Q E h => spF_len len3 h) (fun cdv A outer s H vs Q E hr h => ?_)
  refine ⟨_, (pss_cons (ps_for PassesOwn.never rfl (pi_seq (K := K) rfl (pv 1)) (pg_tup rfl (pgs_cons (pg_name (i := 3) sc_Change_led_in.nd rfl (.inl rfl)) (pgs_cons (pg_name (i := 4) sc_Change_led_in.nd rfl (.inl rfl)) pgs_nil)))
      (pss_cons (ps_if (pt_chain op_le op_le (pv 3) (pv 2) (pv 4))
      (pss_cons (ps_set (i := 5) sc_Change_led_in.nd rfl (.inl rfl) (pe_m (pv 0) T.cl_Change T.mt_Change_first_pair (PromO.call G_Change_first_pair (hr.mono (by decide)) (passA (E := E))) (pa_cons (pv 3) (pa_cons (pv 4) pa_nil))))
      (pss_cons (ps_set (i := 6) sc_Change_led_in.nd rfl (.inl rfl) (pe_ifExp (pt_cmpR (op_eqA (K := K) rfl hr.units) (pe_op op_mod (pe_op op_sub (pv 2) (pv 5)) pe_int) pe_int (nomark _)) (pe_op (op_addA (K := K) rfl) (pv 2) pe_int) (pe_op op_sub (pv 2) pe_int)))
      (pss_cons (ps_ret (pe_ifExp (pt_chain op_le op_le (pv 5) (pv 6) (pv 4)) (pv 6) (pv 2))) pss_nil))) pss_nil)
      pss_nil))
      (pss_cons (ps_ret (pv 2)) pss_nil)), ?_⟩
  exact fn_of3 (F := F_Change_led_in) (envU := fun _ => List.replicate 7 .no) h (fun self runs place => rfl) (fun p c self runs place => (ss_for (fun (w1 : Unit) => [.fz self, .fz runs, .fz place, .no, .no, .no, .no]) (si_seq se_var) (.s (.s (.s (.s (.s (.s (.s .nil))))))) (fun (d2 : D) (w1 : Unit) => (sx_tup2 (fun begin2 last2 => (ss_if (fun (w7 : Unit) => [.fz self, .fz runs, .fz place, .fz begin2, .fz last2, .no, .no]) (sb_tst (se_chain sr_le sr_le se_var se_var se_var)) (ss_asg (se_mt srl_sp0 se_var (sa_cons se_var (sa_cons se_var sa_nil))) (fun first7 => (ss_asg (se_if (sb_tst (se_op sr_eq (se_op sr_mod (se_op sr_sub se_var se_var) se_int) se_int)) (se_op sr_add se_var se_int) (se_op sr_sub se_var se_int)) (fun other13 => (ss_ret (se_if (sb_tst (se_chain sr_le sr_le se_var se_var se_var)) se_var se_var)))))) (ss_nx (.s (.s (.s (.s (.s (.s (.s .nil)))))))) (fun (w7 : Unit) => (ss_nx (.s (.s (.s (.n (.n (.s (.s .nil))))))))))))) (fun (w1 : Unit) => (ss_ret se_var))))
abbrev N_Change_to : List Str := ["self", "n", "place"]
theorem sc_Change_to : FnScope N_Change_to ["self", "n", "place"] (defScope s_Change_to) := ⟨rfl, rfl, rfl, by decide +kernel, rfl, by decide +kernel, by decide +kernel⟩
def F_Change_to (self n place : D) : Tr D :=
  fin (bd (bd (bd (.ok n) fun v3 => (bd (bd (.ok place) fun v1 => (bd (.ok []) fun r2 => .ok (v1 :: r2))) fun r4 => .ok (v3 :: r4))) (ul2 F_need_place)) fun _ => (bd (bd (.ok self) fun o12 => (isO "Change" o12 fun fs => if fs.lookup ("led_in" : Str) = none then bd (bd (bd (bd (.ok self) fun o7 => (isO "Change" o7 fun fs => if fs.lookup ("runs" : Str) = none then bd (bd (.ok n) fun v5 => (bd (.ok []) fun r6 => .ok (v5 :: r6))) fun ds => if (o7 :: (ds ++ [])).length = 2 then .ok ((yl2 F_Change_runs) (o7 :: (ds ++ []))) else .bad else .bad)) (listY [])) fun v10 => (bd (bd (.ok place) fun v8 => (bd (.ok []) fun r9 => .ok (v8 :: r9))) fun r11 => .ok (v10 :: r11))) fun ds => (ul3 F_Change_led_in) (o12 :: ds) else .bad)) fun d => .ok (.rt d)))
theorem ok_Change_to (F : FnA K d_Change_to fd) (T : Tx K mg) (G_need_place : PromO P w K mg base CX0 5 (gd "need_place" K) [] (spF K Tb (ul2 F_need_place))) (G_Change_led_in : PromO P w K mg base CX0 2 (md "Change" "led_in" K) [] (spF K Tb (ul3 F_Change_led_in))) (G_Change_runs : PromQ P w K mg base 2 (md "Change" "runs" K) 2 [] (spY K Tb (yl2 F_Change_runs))) : FnOk P w K mg base CX0 6 (d_Change_to.adr K) fd ["self", "n", "place"] (spF K Tb (ul3 F_Change_to)) := by
  refine fnO0 F sc_Change_to (fun vs H Q E h => spF_len len3 h) (fun cdv A outer s H vs Q E hr h => ?_)
  refine ⟨_, (pss_cons (ps_expr (pe_g (PromO.call G_need_place (hr.mono (by decide)) (passA (E := E))) (by rfl) T.g_need_place T.k_need_place (pa_cons (pv 1) (pa_cons (pv 2) pa_nil))))
      (pss_cons (ps_ret (pe_m (pv 0) T.cl_Change T.mt_Change_led_in (PromO.call G_Change_led_in (hr.mono (by decide)) (passA (E := E))) (pa_cons (pe_listY (K := K) rfl (pq_m (pv 0) T.cl_Change T.mt_Change_runs G_Change_runs (hr.mono (by decide)) (pa_cons (pv 1) pa_nil)) passF (hr.mono (by decide)) (by rfl) T.f_list) (pa_cons (pv 2) pa_nil)))) pss_nil)), ?_⟩
  exact fn_of3 (F := F_Change_to) (envU := fun _ => List.replicate 3 .no) h (fun self n place => rfl) (fun p c self n place => (ss_drop (se_cl srl_sp0 (sa_cons se_var (sa_cons se_var sa_nil))) (ss_ret (se_mt srl_sp0 se_var (sa_cons (se_listQn (sgen_meth (dvs := []) (dds := []) (fun _ _ => .nil) se_var (sa_cons se_var sa_nil))) (sa_cons se_var sa_nil))))))
end
end Lw
end
section
set_option pp.maxSteps 600
namespace Lw
open PySem PySem.Spec PyProof.Rows L2 Gh Gp Gz
section
variable {P : Program} {w : World} {K : PySem.W.Frag} {mg : Str → Option Value} {base : Heap} {f : Addr} {fd : FuncData} {Tb : List (Addr × Str)}
abbrev N_Row_led : List Str := ["self", "thing", "many", "found", "place", "item"]
theorem sc_Row_led : FnScope N_Row_led ["self", "thing"] (defScope s_Row_led) := ⟨rfl, rfl, rfl, by decide +kernel, rfl, by decide +kernel, by decide +kernel⟩
def F_Row_led (self thing : D) : Tr D :=
  fin (bd (bd (bd (bd (.ok self) (fldD "Row" "own_items")) fun v2 => (bd (.ok []) fun r3 => .ok (v2 :: r3))) (ul1 lenD)) fun many0 => (bd (bd (bd (.ok self) (fldD "Row" "own_items")) listL) fun found3 => (bdF (bd (bd (bd (bd (.ok self) (fldD "Row" "own_items")) fun v5 => (bd (.ok []) fun r6 => .ok (v5 :: r6))) (ul1 enD)) fun ds => forF (fun (d8 : D) (w7 : List D) => (un2 d8 fun place8 item8 => (bd (.ok item8) fun v15 => bd (bd (.ok thing) fun o14 => (isO "Change" o14 fun fs => if fs.lookup ("to" : Str) = none then bd (bd (.ok many0) fun v12 => (bd (bd (.ok place8) fun v10 => (bd (.ok []) fun r11 => .ok (v10 :: r11))) fun r13 => .ok (v12 :: r13))) fun ds => (ul3 F_Change_to) (o14 :: ds) else .bad)) fun v16 => bd (setD w7 v16 v15) fun found16 => (.ok (.nx found16))))) ds found3) fun (w7 : List D) => (bd (.ok (.lst w7)) fun d => .ok (.rt d)))))
theorem ok_Row_led (F : FnA K d_Row_led fd) (T : Tx K mg) (G_Change_to : PromO P w K mg base CX0 6 (md "Change" "to" K) [] (spF K Tb (ul3 F_Change_to))) : FnOk P w K mg base CX0 7 (d_Row_led.adr K) fd ["self", "thing"] (spF K Tb (ul2 F_Row_led)) := by
  refine fnO0 F sc_Row_led (fun vs H Q E h => spF_len len2 h) (fun cdv A outer s H vs Q E hr h => ?_)
  refine ⟨_, (pss_cons (ps_set (i := 2) sc_Row_led.nd rfl (.inl rfl) (pe_callB (cr_len (K := K) rfl) (by rfl) T.f_len (by decide +kernel) (pa_cons (pe_f (pv 0) T.cl_Row T.n_Row_own_items) pa_nil)))
      (pss_cons (ps_set (i := 3) sc_Row_led.nd rfl (.inl rfl) (pe_callTy (cr_listOf (K := K) rfl) (by rfl) T.f_list (by decide +kernel) (pa_cons (pe_f (pv 0) T.cl_Row T.n_Row_own_items) pa_nil)))
      (pss_cons (ps_for PassesOwn.never rfl (pi_enumA (K := K) rfl (by rfl) T.f_enumerate (pa_cons (pe_f (pv 0) T.cl_Row T.n_Row_own_items) pa_nil)) (pg_tup rfl (pgs_cons (pg_name (i := 4) sc_Row_led.nd rfl (.inl rfl)) (pgs_cons (pg_name (i := 5) sc_Row_led.nd rfl (.inl rfl)) pgs_nil)))
      (pss_cons (ps_asg (pv 5) (pg_sub (pv 3) (pe_m (pv 1) T.cl_Change T.mt_Change_to (PromO.call G_Change_to (hr.mono (by decide)) (passA (E := E))) (pa_cons (pv 2) (pa_cons (pv 4) pa_nil))) set_list))
      pss_nil))
      (pss_cons (ps_ret (pv 3)) pss_nil)))), ?_⟩
  exact fn_of2 (F := F_Row_led) (envU := fun _ => List.replicate 6 .no) h (fun self thing => rfl) (fun p c self thing => (ss_asg (se_cb srl_len (sa_cons (se_un sr_fld se_var) sa_nil)) (fun many0 => (ss_own (sn_list (se_un sr_fld se_var)) (fun found3 => (ss_for (fun (w7 : List D) => [.fz self, .fz thing, .fz many0, .ow w7, .no, .no]) (si_enum (sa_cons (se_un sr_fld se_var) sa_nil)) (.s (.s (.s (.s (.s (.s .nil)))))) (fun (d8 : D) (w7 : List D) => (sx_tup2 (fun place8 item8 => (ss_setix se_var (se_mt srl_sp0 se_var (sa_cons se_var (sa_cons se_var sa_nil))) (fun found16 => (ss_nx (.s (.s (.s (.s (.n (.n .nil)))))))))))) (fun (w7 : List D) => (ss_fz (i := 3) rfl (ss_ret se_var)))))))))
abbrev N_Row_led_by : List Str := ["self", "thing"]
theorem sc_Row_led_by : FnScope N_Row_led_by ["self", "thing"] (defScope s_Row_led_by) := ⟨rfl, rfl, rfl, by decide +kernel, rfl, by decide +kernel, by decide +kernel⟩
def F_Row_led_by (self thing : D) : Tr Fs :=
  (bd (bd (bd (.ok self) fun o8 => (isO "Row" o8 fun fs => if fs.lookup ("led" : Str) = none then bd (bd (.ok thing) fun v6 => (bd (.ok []) fun r7 => .ok (v6 :: r7))) fun ds => (ul2 F_Row_led) (o8 :: ds) else .bad)) fun v9 => (bd (.ok []) fun r10 => .ok (v9 :: r10))) fun ds => (fun fs => ul1 (F_Row___init__ fs)) [] (ds ++ []))
theorem ok_Row_led_by (F : FnA K d_Row_led_by fd) (T : Tx K mg) (G_Row___init__ : PromO P w K mg base CX0 4 (md "Row" "__init__" K) [] (spI K Tb "Row" (fun fs => ul1 (F_Row___init__ fs)))) (G_Row_led : PromO P w K mg base CX0 7 (md "Row" "led" K) [] (spF K Tb (ul2 F_Row_led))) : FnOk P w K mg base CX0 8 (d_Row_led_by.adr K) fd ["self", "thing"] (spN K Tb "Row" (ul2 F_Row_led_by)) := by
  refine fnO0 F sc_Row_led_by (fun vs H Q E h => spN_len2 h) (fun cdv A outer s H vs Q E hr h => ?_)
  refine ⟨_, (pss_cons (ps_ret (pe_g (PromO.make T.mk_Row G_Row___init__ (hr.mono (by decide)) (passA (E := E))) (by rfl) T.g_Row T.k_Row (pa_cons (pe_m (pv 0) T.cl_Row T.mt_Row_led (PromO.call G_Row_led (hr.mono (by decide)) (passA (E := E))) (pa_cons (pv 1) pa_nil)) pa_nil))) pss_nil), ?_⟩
  refine fr_of2 (F := F_Row_led_by) h (fun p c self thing => ?_)
  unfold F_Row_led_by
  exact (tf_ret (sno_mk (dvs := []) (dds := []) (fun _ _ => .nil) (sa_cons (se_mt srl_sp0 se_var (sa_cons se_var sa_nil)) sa_nil)))
abbrev N_Row_do : List Str := ["self", "thing"]
theorem sc_Row_do : FnScope N_Row_do ["self", "thing"] (defScope s_Row_do) := ⟨rfl, rfl, rfl, by decide +kernel, rfl, by decide +kernel, by decide +kernel⟩
def F_Row_do (fs : Fs) (thing : D) : Tr (D × Fs) :=
  (bdT (W' := Fs) (bd (vwA noO (bd (.ok (.obj "Row" fs)) fun o4 => (isO "Row" o4 fun fs => if fs.lookup ("led" : Str) = none then bd (bd (.ok thing) fun v2 => (bd (.ok []) fun r3 => .ok (v2 :: r3))) fun ds => (ul2 F_Row_led) (o4 :: ds) else .bad))) fun own_items5 => if fs.length < 900 then (.ok (.nx (putD "own_items" own_items5 fs))) else .bad) (fun (w1 : Fs) => (.ok (.non, w1))))
theorem ok_Row_do (F : FnA K d_Row_do fd) (T : Tx K mg) (G_Row_led : PromO P w K mg base CX0 7 (md "Row" "led" K) [] (spF K Tb (ul2 F_Row_led))) : FnOk P w K mg base CX0 8 (d_Row_do.adr K) fd ["self", "thing"] (spB K Tb "Row" (fun fs => ul1 (F_Row_do fs))) := by
  refine fnO0 F sc_Row_do (fun vs H Q E h => spB_len lenB1 h) (fun cdv A outer s H vs Q E hr h => ?_)
  refine ⟨_, (pss_cons (ps_f (pv 0) (pe_m (pv 0) T.cl_Row T.mt_Row_led (PromO.call G_Row_led (hr.mono (by decide)) (passA (E := E))) (pa_cons (pv 1) pa_nil)) T.cl_Row T.n_Row_own_items)
      pss_nil), ?_⟩
  refine mut_of1 (F := F_Row_do) h (fun p c fs thing => ?_)
  unfold F_Row_do
  exact (tl_stm (fun (w1 : Fs) => [.oi "Row" w1, .fz thing]) (ss_setf (se_view (i := 0) (c := "Row") (fs := fs) (se_mt srl_sp0 se_var (sa_cons se_var sa_nil))) (fun own_items5 => (ss_nx (.s (.s .nil))))) (fun (w1 : Fs) => tl_end))
abbrev N_Row___imul__ : List Str := ["self", "thing"]
theorem sc_Row___imul__ : FnScope N_Row___imul__ ["self", "thing"] (defScope s_Row___imul__) := ⟨rfl, rfl, rfl, by decide +kernel, rfl, by decide +kernel, by decide +kernel⟩
def F_Row___imul__ (fs : Fs) (thing : D) : Tr Fs :=
  (bdN (W' := Fs × Fs) (bdP (if fs.lookup ("do" : Str) = none then bd (bd (.ok thing) fun v2 => (bd (.ok []) fun r3 => .ok (v2 :: r3))) fun ds => (fun fs => ul1 (F_Row_do fs)) fs (ds ++ []) else .bad) fun _ fs4 => (.ok (.nx (fs4, fs4)))) (fun (w1 : Fs × Fs) => (.ok w1.2)))
theorem ok_Row___imul__ (F : FnA K d_Row___imul__ fd) (T : Tx K mg) (G_Row_do : PromO P w K mg base CX0 8 (md "Row" "do" K) [] (spB K Tb "Row" (fun fs => ul1 (F_Row_do fs)))) : FnOk P w K mg base CX0 9 (d_Row___imul__.adr K) fd ["self", "thing"] (spS K Tb "Row" (fun fs => ul1 (F_Row___imul__ fs))) := by
  refine fnO0 F sc_Row___imul__ (fun vs H Q E h => spS_len1 h) (fun cdv A outer s H vs Q E hr h => ?_)
  refine ⟨_, (pss_cons (ps_expr (pe_m (pv 0) T.cl_Row T.mt_Row_do (PromO.call G_Row_do (hr.mono (by decide)) (passA (E := E))) (pa_cons (pv 1) pa_nil)))
      (pss_cons (ps_ret (pv 0)) pss_nil)), ?_⟩
  refine self_of1 (F := F_Row___imul__) h (fun p c fs thing => ?_)
  unfold F_Row___imul__
  exact (ts_stm (fun (w1 : Fs × Fs) => [.oi "Row" w1.2, .fz thing]) (ss_dropM (sm_meth (i := 0) (F := (fun fs => ul1 (F_Row_do fs))) (dvs := []) (dds := []) (fun _ _ => .nil) (sa_cons se_var sa_nil)) (fun fs4 => (ss_nx (.s (.s .nil))))) (fun (w1 : Fs × Fs) => ts_ret))
abbrev N__law_pick : List Str := ["_law_pen_here", "_law_some"]
theorem sc__law_pick : FnScope N__law_pick ["_law_pen_here", "_law_some"] (defScope s__law_pick) := ⟨rfl, rfl, rfl, by decide +kernel, rfl, by decide +kernel, by decide +kernel⟩
def F__law_pick (l_pen_here l_some : D) : Tr D :=
  fin (bd (bd (.ok l_some) fun v1 => (bd (bd (bd (.ok l_pen_here) fun v7 => (bd (bd (bd (bd (.ok l_some) fun v3 => (bd (.ok []) fun r4 => .ok (v3 :: r4))) (ul1 lenD)) fun v5 => (bd (.ok []) fun r6 => .ok (v5 :: r6))) fun r8 => .ok (v7 :: r8))) (ul2 F_draw)) fun v2 => ixD v1 v2)) fun d => .ok (.rt d))
theorem ok__law_pick (F : FnA K d__law_pick fd) (T : Tx K mg) (G__law_draw : PromO P w K mg base CX0 1 (gd "_law_draw" K) [] (spF K Tb (ul2 F_draw))) : FnOk P w K mg base CX0 2 (d__law_pick.adr K) fd ["_law_pen_here", "_law_some"] (spF K Tb (ul2 F__law_pick)) := by
  refine fnO0 F sc__law_pick (fun vs H Q E h => spF_len len2 h) (fun cdv A outer s H vs Q E hr h => ?_)
  refine ⟨_, (pss_cons (ps_ret (pe_ix (ix_seqK (K := K) rfl) (pv 1) (pe_g (PromO.call G__law_draw (hr.mono (by decide)) (passA (E := E))) (by rfl) T.g__law_draw T.k__law_draw (pa_cons (pv 0) (pa_cons (pe_callB (cr_len (K := K) rfl) (by rfl) T.f_len (by decide +kernel) (pa_cons (pv 1) pa_nil)) pa_nil))) (fun _ _ => rfl))) pss_nil), ?_⟩
  exact fn_of2 (F := F__law_pick) (envU := fun _ => List.replicate 2 .no) h (fun l_pen_here l_some => rfl) (fun p c l_pen_here l_some => (ss_ret (se_op sr_ix se_var (se_cl srl_sp0 (sa_cons se_var (sa_cons (se_cb srl_len (sa_cons se_var sa_nil)) sa_nil))))))
abbrev N__law_item : List Str := ["_law_pen_here", "_law_some"]
theorem sc__law_item : FnScope N__law_item ["_law_pen_here"] (defScope s__law_item) := ⟨rfl, rfl, rfl, by decide +kernel, rfl, by decide +kernel, by decide +kernel⟩
def F__law_item (l_pen_here : D) : Tr D :=
  fin (bd (bd (bd (.ok (.int 0)) fun v24 => (bd (bd (.ok (.int 1)) fun v22 => (bd (bd (bd (.ok (.int 1)) negD) fun v20 => (bd (bd (.ok (.int 7)) fun v18 => (bd (bd (.ok (.int 7)) fun v16 => (bd (bd (bd (bd (.ok l_pen_here) fun v4 => (bd (bd (.ok (.int 10)) fun v2 => (bd (.ok []) fun r3 => .ok (v2 :: r3))) fun r5 => .ok (v4 :: r5))) (ul2 F_draw)) fun v14 => (bd (bd (bd (.ok (.int 1000000000000000000000000000000)) fun v6 => (bd (.ok (.int 1)) fun v7 => subD v6 v7)) fun v12 => (bd (bd (bd (.ok (.int 1)) fun v8 => (bd (.ok (.int 1000000000000000000000000000000)) fun v9 => subD v8 v9)) fun v10 => (bd (.ok []) fun r11 => .ok (v10 :: r11))) fun r13 => .ok (v12 :: r13))) fun r15 => .ok (v14 :: r15))) fun r17 => .ok (v16 :: r17))) fun r19 => .ok (v18 :: r19))) fun r21 => .ok (v20 :: r21))) fun r23 => .ok (v22 :: r23))) fun r25 => .ok (v24 :: r25))) fun ds => if ds.length ≤ sizeLine then .ok (.lst ds) else .bad) fun l_some0 => (bd (bd (bd (.ok l_pen_here) fun v44 => (bd (bd (bd (.ok l_some0) fun v40 => (bd (bd (bd (bd (.ok (.int 0)) fun v30 => (bd (bd (bd (.ok l_pen_here) fun v28 => (bd (bd (.ok (.int 10)) fun v26 => (bd (.ok []) fun r27 => .ok (v26 :: r27))) fun r29 => .ok (v28 :: r29))) (ul2 F_draw)) fun v31 => subD v30 v31)) fun v38 => (bd (bd (bd (bd (.ok l_pen_here) fun v34 => (bd (bd (.ok (.int 1000000000000000000000000000000)) fun v32 => (bd (.ok []) fun r33 => .ok (v32 :: r33))) fun r35 => .ok (v34 :: r35))) (ul2 F_draw)) fun v36 => (bd (.ok []) fun r37 => .ok (v36 :: r37))) fun r39 => .ok (v38 :: r39))) fun ds => if ds.length ≤ sizeLine then .ok (.lst ds) else .bad) fun v41 => addD v40 v41)) fun v42 => (bd (.ok []) fun r43 => .ok (v42 :: r43))) fun r45 => .ok (v44 :: r45))) (ul2 F__law_pick)) fun d => .ok (.rt d)))
theorem ok__law_item (F : FnA K d__law_item fd) (T : Tx K mg) (G__law_draw : PromO P w K mg base CX0 1 (gd "_law_draw" K) [] (spF K Tb (ul2 F_draw))) (G__law_pick : PromO P w K mg base CX0 2 (gd "_law_pick" K) [] (spF K Tb (ul2 F__law_pick))) : FnOk P w K mg base CX0 3 (d__law_item.adr K) fd ["_law_pen_here"] (spF K Tb (ul1 F__law_item)) := by
  refine fnO0 F sc__law_item (fun vs H Q E h => spF_len len1 h) (fun cdv A outer s H vs Q E hr h => ?_)
  refine ⟨_, (pss_cons (ps_set (i := 1) sc__law_item.nd rfl (.inl rfl) (pe_lst (pa_cons pe_int (pa_cons pe_int (pa_cons (pe_un un_neg pe_int) (pa_cons pe_int (pa_cons pe_int (pa_cons (pe_g (PromO.call G__law_draw (hr.mono (by decide)) (passA (E := E))) (by rfl) T.g__law_draw T.k__law_draw (pa_cons (pv 0) (pa_cons pe_int pa_nil))) (pa_cons (pe_op op_sub (pe_op (op_powK 1000000000000000000000000000000) pe_int pe_int) pe_int) (pa_cons (pe_op op_sub pe_int (pe_op (op_powK 1000000000000000000000000000000) pe_int pe_int)) pa_nil))))))))))
      (pss_cons (ps_ret (pe_g (PromO.call G__law_pick (hr.mono (by decide)) (passA (E := E))) (by rfl) T.g__law_pick T.k__law_pick (pa_cons (pv 0) (pa_cons (pe_op (op_addA (K := K) rfl) (pv 1) (pe_lst (pa_cons (pe_op op_sub pe_int (pe_g (PromO.call G__law_draw (hr.mono (by decide)) (passA (E := E))) (by rfl) T.g__law_draw T.k__law_draw (pa_cons (pv 0) (pa_cons pe_int pa_nil)))) (pa_cons (pe_g (PromO.call G__law_draw (hr.mono (by decide)) (passA (E := E))) (by rfl) T.g__law_draw T.k__law_draw (pa_cons (pv 0) (pa_cons (pe_op (op_powK 1000000000000000000000000000000) pe_int pe_int) pa_nil))) pa_nil)))) pa_nil)))) pss_nil)), ?_⟩
  exact fn_of1 (F := F__law_item) (envU := fun _ => List.replicate 2 .no) h (fun l_pen_here => rfl) (fun p c l_pen_here => (ss_asg (se_lst (sa_cons se_int (sa_cons se_int (sa_cons (se_un sr_neg se_int) (sa_cons se_int (sa_cons se_int (sa_cons (se_cl srl_sp0 (sa_cons se_var (sa_cons se_int sa_nil))) (sa_cons (se_op sr_sub (se_powK (by decide) (by decide) (by decide)) se_int) (sa_cons (se_op sr_sub se_int (se_powK (by decide) (by decide) (by decide))) sa_nil))))))))) (fun l_some0 => (ss_ret (se_cl srl_sp0 (sa_cons se_var (sa_cons (se_op sr_add se_var (se_lst (sa_cons (se_op sr_sub se_int (se_cl srl_sp0 (sa_cons se_var (sa_cons se_int sa_nil)))) (sa_cons (se_cl srl_sp0 (sa_cons se_var (sa_cons (se_powK (by decide) (by decide) (by decide)) sa_nil))) sa_nil)))) sa_nil)))))))
abbrev N__law_told : List Str := ["_law_part_here", "_law_size", "_law_at"]
theorem sc__law_told : FnScope N__law_told ["_law_part_here", "_law_size"] (defScope s__law_told) := ⟨rfl, rfl, rfl, by decide +kernel, rfl, by decide +kernel, by decide +kernel⟩
def F__law_told (l_part_here l_size : D) : Tr D :=
  fin (bd (bd (bd (bd (bd (.ok l_part_here) fun v1 => (bd (.ok (.int 0)) fun v2 => ixD v1 v2)) itD) fun ds => bd (lcF (fun l_at2 => nox (bd (bd (bd (.ok l_at2) fun v4 => (bd (.ok l_size) fun v5 => ltD v4 v5)) asB) fun k => if k = true then bd (.ok l_at2) fun y => .ok (some y) else .ok none)) ds) fun r => .ok (.lst r)) fun v15 => (bd (bd (bd (bd (.ok l_part_here) fun v6 => (bd (.ok (.int 1)) fun v7 => ixD v6 v7)) itD) fun ds => bd (lcF (fun l_at7 => nox (bd (bd (bd (.ok l_at7) fun v9 => (bd (.ok l_size) fun v10 => ltD v9 v10)) asB) fun k => if k = true then bd (bd (bd (.ok l_size) fun v11 => (bd (.ok (.int 1)) fun v12 => subD v11 v12)) fun v13 => (bd (.ok l_at7) fun v14 => subD v13 v14)) fun y => .ok (some y) else .ok none)) ds) fun r => .ok (.lst r)) fun v16 => addD v15 v16)) fun d => .ok (.rt d))
theorem ok__law_told (F : FnA K d__law_told fd) (T : Tx K mg)  : FnOk P w K mg base CX0 1 (d__law_told.adr K) fd ["_law_part_here", "_law_size"] (spF K Tb (ul2 F__law_told)) := by
  refine fnO0 F sc__law_told (fun vs H Q E h => spF_len len2 h) (fun cdv A outer s H vs Q E hr h => ?_)
  refine ⟨_, (pss_cons (ps_ret (pe_op (op_addA (K := K) rfl) (pe_lc (own := [("_law_at", 2)]) (g := gName 2) (tt := _) (by rfl) sc__law_told.nd (pi_seq (K := K) rfl (pe_ix (ix_seqK (K := K) rfl) (pv 0) pe_int (fun _ _ => rfl))) (blkOk_by (own := [("_law_at", 2)]) (N := N__law_told) (sc := defScope s__law_told) (by decide +kernel)) (fun _ _ _ _ _ => pg_name (i := 2) sc__law_told.nd rfl (Or.inl rfl)) (fun _ _ _ _ _ => (pts_one (pt_cmpR op_lt (pv 2) (pv 1) (nomark _)))) (fun _ _ _ _ _ => (pv 2))) (pe_lc (own := [("_law_at", 2)]) (g := gName 2) (tt := _) (by rfl) sc__law_told.nd (pi_seq (K := K) rfl (pe_ix (ix_seqK (K := K) rfl) (pv 0) pe_int (fun _ _ => rfl))) (blkOk_by (own := [("_law_at", 2)]) (N := N__law_told) (sc := defScope s__law_told) (by decide +kernel)) (fun _ _ _ _ _ => pg_name (i := 2) sc__law_told.nd rfl (Or.inl rfl)) (fun _ _ _ _ _ => (pts_one (pt_cmpR op_lt (pv 2) (pv 1) (nomark _)))) (fun _ _ _ _ _ => (pe_op op_sub (pe_op op_sub (pv 1) pe_int) (pv 2)))))) pss_nil), ?_⟩
  exact fn_of2 (F := F__law_told) (envU := fun _ => List.replicate 3 .no) h (fun l_part_here l_size => rfl) (fun p c l_part_here l_size => (ss_ret (se_op sr_add (se_lc (si_seq (se_op sr_ix se_var se_int)) (fun l_at2 => (sc_name (sb_tst (se_op sr_lt se_var se_var)) se_var))) (se_lc (si_seq (se_op sr_ix se_var se_int)) (fun l_at7 => (sc_name (sb_tst (se_op sr_lt se_var se_var)) (se_op sr_sub (se_op sr_sub se_var se_int) se_var)))))))
abbrev N__law_pairs : List Str := ["_law_part_here", "_law_size", "_law_told_here", "_law_line", "_law_found", "_law_k"]
theorem sc__law_pairs : FnScope N__law_pairs ["_law_part_here", "_law_size"] (defScope s__law_pairs) := ⟨rfl, rfl, rfl, by decide +kernel, rfl, by decide +kernel, by decide +kernel⟩
def F__law_pairs (l_part_here l_size : D) : Tr D :=
  fin (bd (bd (bd (bd (.ok l_part_here) fun v3 => (bd (bd (.ok l_size) fun v1 => (bd (.ok []) fun r2 => .ok (v1 :: r2))) fun r4 => .ok (v3 :: r4))) (ul2 F__law_told)) fun v11 => (bd (bd (bd (bd (.ok l_size) rgA1) fun r => if rgOk r.1 r.2 then .ok (.lst (rgD r.1 (r.2 - r.1).toNat)) else .bad) fun v9 => (bd (bd (bd (.ok []) fun ds => if ds.length ≤ sizeLine then .ok ds else .bad) fun ds7 => bd (bd (.ok (.int 0)) fun v5 => (bd (.ok []) fun r6 => .ok (v5 :: r6))) fun r8 => .ok (.lst ds7 :: r8)) fun r10 => .ok (v9 :: r10))) fun r12 => .ok (v11 :: r12))) (ul4 fun l_told_here12 l_line12 l_found12o l_k12 => uoD (fun l_found12 => (bdF (W' := D) (bd (bd (bd (bd (.ok l_part_here) fun v14 => (bd (.ok (.int 2)) fun v15 => ixD v14 v15)) fun v16 => (bd (.ok (.str "back")) fun v17 => eqD v16 v17)) asB) fun k => if k = true then (bd (bd (.ok l_line12) revA) fun l_line18 => (.ok (.nx l_line18))) else (.ok (.nx l_line12))) fun (w18 : D) => (bdF (whF (fun (w22 : List D × D) => (bd (bd (.ok w22.2) fun v23 => (bd (.ok l_size) fun v24 => ltD v23 v24)) asB)) (fun (w22 : List D × D) => (bdF (W' := List D × D) (bd (bd (bd (bd (bd (.ok w18) fun v25 => (bd (.ok w22.2) fun v26 => ixD v25 v26)) fun v27 => (bd (.ok l_told_here12) fun v28 => notinD v27 v28)) asB) fun k => if k = true then (bd (bd (bd (bd (.ok w22.2) fun v29 => (bd (.ok (.int 1)) fun v30 => addD v29 v30)) fun v31 => (bd (.ok l_size) fun v32 => ltD v31 v32)) asB) fun k => if k = true then (bd (bd (bd (.ok w18) fun v33 => (bd (bd (.ok w22.2) fun v35 => (bd (.ok (.int 1)) fun v36 => addD v35 v36)) fun v34 => ixD v33 v34)) fun v37 => (bd (.ok l_told_here12) fun v38 => notinD v37 v38)) asB) else .ok false) else .ok false) fun k => if k = true then (bd (bd (bd (bd (bd (bd (bd (bd (bd (bd (.ok w18) fun v40 => (bd (.ok w22.2) fun v41 => ixD v40 v41)) fun v42 => (bd (.ok []) fun r43 => .ok (v42 :: r43))) (ul1 intD)) fun v52 => (bd (bd (bd (bd (bd (.ok w18) fun v44 => (bd (bd (.ok w22.2) fun v46 => (bd (.ok (.int 1)) fun v47 => addD v46 v47)) fun v45 => ixD v44 v45)) fun v48 => (bd (.ok []) fun r49 => .ok (v48 :: r49))) (ul1 intD)) fun v50 => (bd (.ok []) fun r51 => .ok (v50 :: r51))) fun r53 => .ok (v52 :: r53))) fun ds => if ds.length ≤ sizeLine then .ok (.lst ds) else .bad) fun v54 => (bd (.ok []) fun r55 => .ok (v54 :: r55))) (ul1 minD)) fun v74 => (bd (bd (bd (bd (bd (bd (bd (bd (bd (.ok w18) fun v56 => (bd (.ok w22.2) fun v57 => ixD v56 v57)) fun v58 => (bd (.ok []) fun r59 => .ok (v58 :: r59))) (ul1 intD)) fun v68 => (bd (bd (bd (bd (bd (.ok w18) fun v60 => (bd (bd (.ok w22.2) fun v62 => (bd (.ok (.int 1)) fun v63 => addD v62 v63)) fun v61 => ixD v60 v61)) fun v64 => (bd (.ok []) fun r65 => .ok (v64 :: r65))) (ul1 intD)) fun v66 => (bd (.ok []) fun r67 => .ok (v66 :: r67))) fun r69 => .ok (v68 :: r69))) fun ds => if ds.length ≤ sizeLine then .ok (.lst ds) else .bad) fun v70 => (bd (.ok []) fun r71 => .ok (v70 :: r71))) (ul1 maxD)) fun v72 => (bd (.ok []) fun r73 => .ok (v72 :: r73))) fun r75 => .ok (v74 :: r75))) fun ds => if ds.length ≤ sizeLine then .ok (.tup ds) else .bad) fun (v76 : D) => if w22.1.length < sizeLine then (bd (bd (.ok w22.2) fun v78 => (bd (.ok (.int 1)) fun v79 => addD v78 v79)) fun l_k76 => (.ok (.nx ((w22.1 ++ [v76]), l_k76)))) else .bad) else (.ok (.nx (w22.1, w22.2)))) fun (w39 : List D × D) => (bd (bd (.ok w39.2) fun v81 => (bd (.ok (.int 1)) fun v82 => addD v81 v82)) fun l_k79 => (.ok (.nx (w39.1, l_k79)))))) 100000 (l_found12, l_k12)) fun (w22 : List D × D) => (bd (bd (bd (bd (bd (.ok l_part_here) fun v83 => (bd (.ok (.int 2)) fun v84 => ixD v83 v84)) fun v85 => (bd (.ok (.str "front")) fun v86 => eqD v85 v86)) asB) fun k => if k = true then (.ok (.lst w22.1)) else (bd (.ok (.lst w22.1)) revA)) fun d => .ok (.rt d))))) l_found12o))
theorem ok__law_pairs (F : FnA K d__law_pairs fd) (T : Tx K mg) (G__law_told : PromO P w K mg base CX0 1 (gd "_law_told" K) [] (spF K Tb (ul2 F__law_told))) : FnOk P w K mg base CX0 2 (d__law_pairs.adr K) fd ["_law_part_here", "_law_size"] (spF K Tb (ul2 F__law_pairs)) := by
  refine fnO0 F sc__law_pairs (fun vs H Q E h => spF_len len2 h) (fun cdv A outer s H vs Q E hr h => ?_)
  refine ⟨_, (pss_cons (ps_asg (pe_tup (pa_cons (pe_g (PromO.call G__law_told (hr.mono (by decide)) (passA (E := E))) (by rfl) T.g__law_told T.k__law_told (pa_cons (pv 0) (pa_cons (pv 1) pa_nil))) (pa_cons (pe_listRg rfl (by rfl) T.f_list (prg_1 (by rfl) T.f_range (pv 1))) (pa_cons (pe_lst pa_nil) (pa_cons pe_int pa_nil))))) (pg_tup rfl (pgs_cons (pg_name (i := 2) sc__law_pairs.nd rfl (.inl rfl)) (pgs_cons (pg_name (i := 3) sc__law_pairs.nd rfl (.inl rfl)) (pgs_cons (pg_name (i := 4) sc__law_pairs.nd rfl (.inl rfl)) (pgs_cons (pg_name (i := 5) sc__law_pairs.nd rfl (.inl rfl)) pgs_nil))))))
      (pss_cons (ps_if (pt_cmpR (op_eqA (K := K) rfl hr.units) (pe_ix (ix_seqK (K := K) rfl) (pv 0) pe_int (fun _ _ => rfl)) pe_str (nomark _))
      (pss_cons (ps_set (i := 3) sc__law_pairs.nd rfl (.inl rfl) (pe_revAK (K := K) rfl (pv 3)))
      pss_nil) pss_nil)
      (pss_cons (ps_while PassesOwn.never (pt_cmpR op_lt (pv 5) (pv 1) (nomark _))
      (pss_cons (ps_if (PW.pt (pw_and (pt_cmpR (op_notinA (K := K) rfl) (pe_ix (ix_seqK (K := K) rfl) (pv 3) (pv 5) (fun _ _ => rfl)) (pv 2) (by rfl)) (pw_and (pt_cmpR op_lt (pe_op (op_addA (K := K) rfl) (pv 5) pe_int) (pv 1) (nomark _)) (pw_and1 (pt_cmpR (op_notinA (K := K) rfl) (pe_ix (ix_seqK (K := K) rfl) (pv 3) (pe_op (op_addA (K := K) rfl) (pv 5) pe_int) (fun _ _ => rfl)) (pv 2) (by rfl))))))
      (pss_cons (ps_expr (pe_bm PySem.F.plainAttrs_list PySem.F.slot_list_append PySem.F.type_list_append mt_append (pv 4) (pa_cons (pe_tup (pa_cons (pe_callB (cr_minK0 (K := K) rfl rfl) (by rfl) T.f_min (by decide +kernel) (pa_cons (pe_lst (pa_cons (pe_callTy cr_int (by rfl) T.f_int (by decide +kernel) (pa_cons (pe_ix (ix_seqK (K := K) rfl) (pv 3) (pv 5) (fun _ _ => rfl)) pa_nil)) (pa_cons (pe_callTy cr_int (by rfl) T.f_int (by decide +kernel) (pa_cons (pe_ix (ix_seqK (K := K) rfl) (pv 3) (pe_op (op_addA (K := K) rfl) (pv 5) pe_int) (fun _ _ => rfl)) pa_nil)) pa_nil))) pa_nil)) (pa_cons (pe_callB (cr_maxK (K := K) rfl rfl) (by rfl) T.f_max (by decide +kernel) (pa_cons (pe_lst (pa_cons (pe_callTy cr_int (by rfl) T.f_int (by decide +kernel) (pa_cons (pe_ix (ix_seqK (K := K) rfl) (pv 3) (pv 5) (fun _ _ => rfl)) pa_nil)) (pa_cons (pe_callTy cr_int (by rfl) T.f_int (by decide +kernel) (pa_cons (pe_ix (ix_seqK (K := K) rfl) (pv 3) (pe_op (op_addA (K := K) rfl) (pv 5) pe_int) (fun _ _ => rfl)) pa_nil)) pa_nil))) pa_nil)) pa_nil))) pa_nil)))
      (pss_cons (ps_set (i := 5) sc__law_pairs.nd rfl (.inl rfl) (pe_op (op_addA (K := K) rfl) (pv 5) pe_int))
      pss_nil)) pss_nil)
      (pss_cons (ps_set (i := 5) sc__law_pairs.nd rfl (.inl rfl) (pe_op (op_addA (K := K) rfl) (pv 5) pe_int))
      pss_nil)))
      (pss_cons (ps_ret (pe_ifExp (pt_cmpR (op_eqA (K := K) rfl hr.units) (pe_ix (ix_seqK (K := K) rfl) (pv 0) pe_int (fun _ _ => rfl)) pe_str (nomark _)) (pv 4) (pe_revAK (K := K) rfl (pv 4)))) pss_nil)))), ?_⟩
  exact fn_of2 (F := F__law_pairs) (envU := fun _ => List.replicate 6 .no) h (fun l_part_here l_size => rfl) (fun p c l_part_here l_size => (ss_par4q2 (sq_next (se_cl srl_sp0 (sa_cons se_var (sa_cons se_var sa_nil))) (sq_next (se_lstRg (srg_1 se_var)) (sq_here (sn_lst sa_nil) (sa_cons se_int sa_nil)))) (fun l_told_here12 l_line12 l_found12 l_k12 => (ss_if (fun (w18 : D) => [.fz l_part_here, .fz l_size, .fz l_told_here12, .fz w18, .ow l_found12, .fz l_k12]) (sb_tst (se_op sr_eq (se_op sr_ix se_var se_int) (se_str (by decide)))) (ss_asg (se_revA se_var) (fun l_line18 => (ss_nx (.s (.s (.s (.s (.s (.s .nil))))))))) (ss_nx (.s (.s (.s (.s (.s (.s .nil))))))) (fun (w18 : D) => (ss_wh (fun (w22 : List D × D) => [.fz l_part_here, .fz l_size, .fz l_told_here12, .fz w18, .ow w22.1, .fz w22.2]) 100000 (.s (.s (.s (.s (.s (.s .nil)))))) (fun (w22 : List D × D) => (sb_tst (se_op sr_lt se_var se_var))) (fun (w22 : List D × D) => (ss_if (fun (w39 : List D × D) => [.fz l_part_here, .fz l_size, .fz l_told_here12, .fz w18, .ow w39.1, .fz w39.2]) (sb_and (sb_tst (se_op sr_notin (se_op sr_ix se_var se_var) se_var)) (sb_and (sb_tst (se_op sr_lt (se_op sr_add se_var se_int) se_var)) (sb_tst (se_op sr_notin (se_op sr_ix se_var (se_op sr_add se_var se_int)) se_var)))) (ss_app (se_tup (sa_cons (se_cb srl_min (sa_cons (se_lst (sa_cons (se_cb srl_int (sa_cons (se_op sr_ix se_var se_var) sa_nil)) (sa_cons (se_cb srl_int (sa_cons (se_op sr_ix se_var (se_op sr_add se_var se_int)) sa_nil)) sa_nil))) sa_nil)) (sa_cons (se_cb srl_max (sa_cons (se_lst (sa_cons (se_cb srl_int (sa_cons (se_op sr_ix se_var se_var) sa_nil)) (sa_cons (se_cb srl_int (sa_cons (se_op sr_ix se_var (se_op sr_add se_var se_int)) sa_nil)) sa_nil))) sa_nil)) sa_nil))) (fun v76 => (ss_asg (se_op sr_add se_var se_int) (fun l_k76 => (ss_nx (.s (.s (.s (.s (.s (.s .nil))))))))))) (ss_nx (.s (.s (.s (.s (.s (.s .nil))))))) (fun (w39 : List D × D) => (ss_asg (se_op sr_add se_var se_int) (fun l_k79 => (ss_nx (.s (.s (.s (.s (.s (.s .nil)))))))))))) (fun (w22 : List D × D) => (ss_fz (i := 4) rfl (ss_ret (se_if (sb_tst (se_op sr_eq (se_op sr_ix se_var se_int) (se_str (by decide)))) se_var (se_revA se_var)))))))))))
abbrev N__law_places : List Str := ["_law_pen_here", "_law_many", "_law_left", "_law_k"]
theorem sc__law_places : FnScope N__law_places ["_law_pen_here"] (defScope s__law_places) := ⟨rfl, rfl, rfl, by decide +kernel, rfl, by decide +kernel, by decide +kernel⟩
def F__law_places (l_pen_here : D) : Tr D :=
  fin (bd (bd (bd (.ok l_pen_here) fun v18 => (bd (bd (bd (bd (.ok (.int 0)) fun v14 => (bd (bd (.ok (.int 0)) fun v12 => (bd (bd (.ok (.int 1)) fun v10 => (bd (bd (.ok (.int 1)) fun v8 => (bd (bd (.ok (.int 2)) fun v6 => (bd (bd (.ok (.int 3)) fun v4 => (bd (bd (.ok (.int 8)) fun v2 => (bd (.ok []) fun r3 => .ok (v2 :: r3))) fun r5 => .ok (v4 :: r5))) fun r7 => .ok (v6 :: r7))) fun r9 => .ok (v8 :: r9))) fun r11 => .ok (v10 :: r11))) fun r13 => .ok (v12 :: r13))) fun r15 => .ok (v14 :: r15))) fun ds => if ds.length ≤ sizeLine then .ok (.lst ds) else .bad) fun v16 => (bd (.ok []) fun r17 => .ok (v16 :: r17))) fun r19 => .ok (v18 :: r19))) (ul2 F__law_pick)) fun l_many0 => (bd (bd (bd (bd (bd (.ok l_pen_here) fun v31 => (bd (bd (bd (bd (.ok (.int 16)) fun v27 => (bd (bd (.ok (.int 16)) fun v25 => (bd (bd (.ok (.int 8)) fun v23 => (bd (bd (.ok (.int 9)) fun v21 => (bd (.ok []) fun r22 => .ok (v21 :: r22))) fun r24 => .ok (v23 :: r24))) fun r26 => .ok (v25 :: r26))) fun r28 => .ok (v27 :: r28))) fun ds => if ds.length ≤ sizeLine then .ok (.lst ds) else .bad) fun v29 => (bd (.ok []) fun r30 => .ok (v29 :: r30))) fun r32 => .ok (v31 :: r32))) (ul2 F__law_pick)) rgA1) fun r => if rgOk r.1 r.2 then .ok (rgD r.1 (r.2 - r.1).toNat) else .bad) fun l_left19 => (bd (bd (bd (.ok l_many0) fun v33 => (bd (.ok []) fun r34 => .ok (v33 :: r34))) (ul1 rg1)) fun its => bd (popF (fun cu35 l_k35 => (pk (bd (bd (.ok l_pen_here) fun v41 => (bd (bd (bd (bd (.ok (.lst cu35)) fun v37 => (bd (.ok []) fun r38 => .ok (v37 :: r38))) (ul1 lenD)) fun v39 => (bd (.ok []) fun r40 => .ok (v39 :: r40))) fun r42 => .ok (v41 :: r42))) (ul2 F_draw)))) its l_left19) fun r => .ok (.rt (.lst r)))))
theorem ok__law_places (F : FnA K d__law_places fd) (T : Tx K mg) (G__law_pick : PromO P w K mg base CX0 2 (gd "_law_pick" K) [] (spF K Tb (ul2 F__law_pick))) (G__law_draw : PromO P w K mg base CX0 1 (gd "_law_draw" K) [] (spF K Tb (ul2 F_draw))) : FnOk P w K mg base CX0 3 (d__law_places.adr K) fd ["_law_pen_here"] (spF K Tb (ul1 F__law_places)) := by
  refine fnO0 F sc__law_places (fun vs H Q E h => spF_len len1 h) (fun cdv A outer s H vs Q E hr h => ?_)
  refine ⟨_, (pss_cons (ps_set (i := 1) sc__law_places.nd rfl (.inl rfl) (pe_g (PromO.call G__law_pick (hr.mono (by decide)) (passA (E := E))) (by rfl) T.g__law_pick T.k__law_pick (pa_cons (pv 0) (pa_cons (pe_lst (pa_cons pe_int (pa_cons pe_int (pa_cons pe_int (pa_cons pe_int (pa_cons pe_int (pa_cons pe_int (pa_cons pe_int pa_nil)))))))) pa_nil))))
      (pss_cons (ps_set (i := 2) sc__law_places.nd rfl (.inr rfl) (pe_listRg rfl (by rfl) T.f_list (prg_1 (by rfl) T.f_range (pe_g (PromO.call G__law_pick (hr.mono (by decide)) (passA (E := E))) (by rfl) T.g__law_pick T.k__law_pick (pa_cons (pv 0) (pa_cons (pe_lst (pa_cons pe_int (pa_cons pe_int (pa_cons pe_int (pa_cons pe_int pa_nil))))) pa_nil))))))
      (pss_cons (ps_ret (pe_lc (own := [("_law_k", 3)]) (g := gName 3) (by rfl) sc__law_places.nd (pi_range1 (by rfl) T.f_range (pa_cons (pv 1) pa_nil)) (blkOk_by (own := [("_law_k", 3)]) (N := N__law_places) (sc := defScope s__law_places) (by decide +kernel)) (fun _ _ _ _ _ => pg_name (i := 3) sc__law_places.nd rfl (Or.inl rfl)) (fun _ _ _ _ _ => pts_nil) (fun _ _ _ _ _ => (pe_popK (K := K) rfl (pv 2) (pa_cons (pe_g (PromO.call G__law_draw (hr.mono (by decide)) (passA (E := EF))) (by rfl) T.g__law_draw T.k__law_draw (pa_cons (pv 0) (pa_cons (pe_callB (cr_len (K := K) rfl) (by rfl) T.f_len (by decide +kernel) (pa_cons (pv 2) pa_nil)) pa_nil))) pa_nil))))) pss_nil))), ?_⟩
  exact fn_of1 (F := F__law_places) (envU := fun _ => List.replicate 4 .no) h (fun l_pen_here => rfl) (fun p c l_pen_here => (ss_asg (se_cl srl_sp0 (sa_cons se_var (sa_cons (se_lst (sa_cons se_int (sa_cons se_int (sa_cons se_int (sa_cons se_int (sa_cons se_int (sa_cons se_int (sa_cons se_int sa_nil)))))))) sa_nil))) (fun l_many0 => (ss_own (sn_rg (srg_1 (se_cl srl_sp0 (sa_cons se_var (sa_cons (se_lst (sa_cons se_int (sa_cons se_int (sa_cons se_int (sa_cons se_int sa_nil))))) sa_nil))))) (fun l_left19 => (ss_retPop (i := 2) (k := 3) (by decide) (si_rg1 (sa_cons se_var sa_nil)) (fun cu35 l_k35 => (se_lend (i := 2) (ds := cu35) (se_cl srl_sp0 (sa_cons se_var (sa_cons (se_cb srl_len (sa_cons se_var sa_nil)) sa_nil)))))))))))
abbrev N__law_part : List Str := ["_law_pen_here"]
theorem sc__law_part : FnScope N__law_part ["_law_pen_here"] (defScope s__law_part) := ⟨rfl, rfl, rfl, by decide +kernel, rfl, by decide +kernel, by decide +kernel⟩
def F__law_part (l_pen_here : D) : Tr D :=
  fin (bd (bd (bd (bd (bd (.ok l_pen_here) fun v1 => (bd (.ok []) fun r2 => .ok (v1 :: r2))) (ul1 F__law_places)) fun v17 => (bd (bd (bd (bd (.ok l_pen_here) fun v3 => (bd (.ok []) fun r4 => .ok (v3 :: r4))) (ul1 F__law_places)) fun v15 => (bd (bd (bd (bd (.ok l_pen_here) fun v11 => (bd (bd (bd (bd (.ok (.str "front")) fun v7 => (bd (bd (.ok (.str "back")) fun v5 => (bd (.ok []) fun r6 => .ok (v5 :: r6))) fun r8 => .ok (v7 :: r8))) fun ds => if ds.length ≤ sizeLine then .ok (.lst ds) else .bad) fun v9 => (bd (.ok []) fun r10 => .ok (v9 :: r10))) fun r12 => .ok (v11 :: r12))) (ul2 F__law_pick)) fun v13 => (bd (.ok []) fun r14 => .ok (v13 :: r14))) fun r16 => .ok (v15 :: r16))) fun r18 => .ok (v17 :: r18))) fun ds => if ds.length ≤ sizeLine then .ok (.tup ds) else .bad) fun d => .ok (.rt d))
theorem ok__law_part (F : FnA K d__law_part fd) (T : Tx K mg) (G__law_places : PromO P w K mg base CX0 3 (gd "_law_places" K) [] (spF K Tb (ul1 F__law_places))) (G__law_pick : PromO P w K mg base CX0 2 (gd "_law_pick" K) [] (spF K Tb (ul2 F__law_pick))) : FnOk P w K mg base CX0 4 (d__law_part.adr K) fd ["_law_pen_here"] (spF K Tb (ul1 F__law_part)) := by
  refine fnO0 F sc__law_part (fun vs H Q E h => spF_len len1 h) (fun cdv A outer s H vs Q E hr h => ?_)
  refine ⟨_, (pss_cons (ps_ret (pe_tup (pa_cons (pe_g (PromO.call G__law_places (hr.mono (by decide)) (passA (E := E))) (by rfl) T.g__law_places T.k__law_places (pa_cons (pv 0) pa_nil)) (pa_cons (pe_g (PromO.call G__law_places (hr.mono (by decide)) (passA (E := E))) (by rfl) T.g__law_places T.k__law_places (pa_cons (pv 0) pa_nil)) (pa_cons (pe_g (PromO.call G__law_pick (hr.mono (by decide)) (passA (E := E))) (by rfl) T.g__law_pick T.k__law_pick (pa_cons (pv 0) (pa_cons (pe_lst (pa_cons pe_str (pa_cons pe_str pa_nil))) pa_nil))) pa_nil))))) pss_nil), ?_⟩
  exact fn_of1 (F := F__law_part) (envU := fun _ => List.replicate 1 .no) h (fun l_pen_here => rfl) (fun p c l_pen_here => (ss_ret (se_tup (sa_cons (se_cl srl_sp0 (sa_cons se_var sa_nil)) (sa_cons (se_cl srl_sp0 (sa_cons se_var sa_nil)) (sa_cons (se_cl srl_sp0 (sa_cons se_var (sa_cons (se_lst (sa_cons (se_str (by decide)) (sa_cons (se_str (by decide)) sa_nil))) sa_nil))) sa_nil))))))
abbrev N__law_made : List Str := ["_law_part_here"]
theorem sc__law_made : FnScope N__law_made ["_law_part_here"] (defScope s__law_made) := ⟨rfl, rfl, rfl, by decide +kernel, rfl, by decide +kernel, by decide +kernel⟩
def F__law_made (l_part_here : D) : Tr D :=
  fin (bd (bd (bd (bd (.ok l_part_here) fun v1 => (bd (.ok (.int 0)) fun v2 => ixD v1 v2)) fun v11 => (bd (bd (bd (.ok l_part_here) fun v3 => (bd (.ok (.int 1)) fun v4 => ixD v3 v4)) fun v9 => (bd (bd (bd (.ok l_part_here) fun v5 => (bd (.ok (.int 2)) fun v6 => ixD v5 v6)) fun v7 => (bd (.ok []) fun r8 => .ok (v7 :: r8))) fun r10 => .ok (v9 :: r10))) fun r12 => .ok (v11 :: r12))) (fun ds => bd ((fun fs => ul3 (F_Change___init__ fs)) [] ds) fun fs => .ok (.obj "Change" fs))) fun d => .ok (.rt d))
theorem ok__law_made (F : FnA K d__law_made fd) (T : Tx K mg) (G_Change___init__ : PromO P w K mg base CX0 4 (md "Change" "__init__" K) [] (spI K Tb "Change" (fun fs => ul3 (F_Change___init__ fs)))) : FnOk P w K mg base CX0 6 (d__law_made.adr K) fd ["_law_part_here"] (spF K Tb (ul1 F__law_made)) := by
  refine fnO0 F sc__law_made (fun vs H Q E h => spF_len len1 h) (fun cdv A outer s H vs Q E hr h => ?_)
  refine ⟨_, (pss_cons (ps_ret (pe_g (PromO.make T.mk_Change G_Change___init__ (hr.mono (by decide)) (passA (E := E))) (by rfl) T.g_Change T.k_Change (pa_cons (pe_ix (ix_seqK (K := K) rfl) (pv 0) pe_int (fun _ _ => rfl)) (pa_cons (pe_ix (ix_seqK (K := K) rfl) (pv 0) pe_int (fun _ _ => rfl)) (pa_cons (pe_ix (ix_seqK (K := K) rfl) (pv 0) pe_int (fun _ _ => rfl)) pa_nil))))) pss_nil), ?_⟩
  exact fn_of1 (F := F__law_made) (envU := fun _ => List.replicate 1 .no) h (fun l_part_here => rfl) (fun p c l_part_here => (ss_ret (se_cl srl_mk0 (sa_cons (se_op sr_ix se_var se_int) (sa_cons (se_op sr_ix se_var se_int) (sa_cons (se_op sr_ix se_var se_int) sa_nil))))))
abbrev N__law_behind : List Str := ["_law_items", "_law_part_here", "_law_found", "_law_one", "_law_other"]
theorem sc__law_behind : FnScope N__law_behind ["_law_items", "_law_part_here"] (defScope s__law_behind) := ⟨rfl, rfl, rfl, by decide +kernel, rfl, by decide +kernel, by decide +kernel⟩
def F__law_behind (l_items l_part_here : D) : Tr D :=
  fin (bd (bd (.ok l_items) listL) fun l_found0 => (bdF (bd (bd (bd (bd (.ok l_part_here) fun v6 => (bd (bd (bd (bd (.ok l_items) fun v2 => (bd (.ok []) fun r3 => .ok (v2 :: r3))) (ul1 lenD)) fun v4 => (bd (.ok []) fun r5 => .ok (v4 :: r5))) fun r7 => .ok (v6 :: r7))) (ul2 F__law_pairs)) itD) fun ds => forF (fun (d9 : D) (w8 : List D) => (un2 d9 fun l_one9 l_other9 => (bd (bd (bd (bd (.ok l_items) fun v11 => (bd (.ok l_other9) fun v12 => ixD v11 v12)) fun v17 => (bd (bd (bd (.ok l_items) fun v13 => (bd (.ok l_one9) fun v14 => ixD v13 v14)) fun v15 => (bd (.ok []) fun r16 => .ok (v15 :: r16))) fun r18 => .ok (v17 :: r18))) fun ds => if ds.length ≤ sizeLine then .ok (.tup ds) else .bad) fun v19 => un2 v19 fun v20 v21 => (bd (.ok l_one9) fun v22 => bd (setD w8 v22 v20) fun l_found23a => bd (.ok l_other9) fun v23 => bd (setD l_found23a v23 v21) fun l_found23b => (.ok (.nx l_found23b)))))) ds l_found0) fun (w8 : List D) => (bd (.ok (.lst w8)) fun d => .ok (.rt d))))
theorem ok__law_behind (F : FnA K d__law_behind fd) (T : Tx K mg) (G__law_pairs : PromO P w K mg base CX0 2 (gd "_law_pairs" K) [] (spF K Tb (ul2 F__law_pairs))) : FnOk P w K mg base CX0 3 (d__law_behind.adr K) fd ["_law_items", "_law_part_here"] (spF K Tb (ul2 F__law_behind)) := by
  refine fnO0 F sc__law_behind (fun vs H Q E h => spF_len len2 h) (fun cdv A outer s H vs Q E hr h => ?_)
  refine ⟨_, (pss_cons (ps_set (i := 2) sc__law_behind.nd rfl (.inl rfl) (pe_callTy (cr_listOf (K := K) rfl) (by rfl) T.f_list (by decide +kernel) (pa_cons (pv 0) pa_nil)))
      (pss_cons (ps_for PassesOwn.never rfl (pi_seq (K := K) rfl (pe_g (PromO.call G__law_pairs (hr.mono (by decide)) (passA (E := E))) (by rfl) T.g__law_pairs T.k__law_pairs (pa_cons (pv 1) (pa_cons (pe_callB (cr_len (K := K) rfl) (by rfl) T.f_len (by decide +kernel) (pa_cons (pv 0) pa_nil)) pa_nil)))) (pg_tup rfl (pgs_cons (pg_name (i := 3) sc__law_behind.nd rfl (.inl rfl)) (pgs_cons (pg_name (i := 4) sc__law_behind.nd rfl (.inl rfl)) pgs_nil)))
      (pss_cons (ps_asg (pe_tup (pa_cons (pe_ix (ix_seqK (K := K) rfl) (pv 0) (pv 4) (fun _ _ => rfl)) (pa_cons (pe_ix (ix_seqK (K := K) rfl) (pv 0) (pv 3) (fun _ _ => rfl)) pa_nil))) (pg_tup rfl (pgs_cons (pg_sub (pv 2) (pv 3) set_list) (pgs_cons (pg_sub (pv 2) (pv 4) set_list) pgs_nil))))
      pss_nil))
      (pss_cons (ps_ret (pv 2)) pss_nil))), ?_⟩
  exact fn_of2 (F := F__law_behind) (envU := fun _ => List.replicate 5 .no) h (fun l_items l_part_here => rfl) (fun p c l_items l_part_here => (ss_own (sn_list se_var) (fun l_found0 => (ss_for (fun (w8 : List D) => [.fz l_items, .fz l_part_here, .ow w8, .no, .no]) (si_seq (se_cl srl_sp0 (sa_cons se_var (sa_cons (se_cb srl_len (sa_cons se_var sa_nil)) sa_nil)))) (.s (.s (.s (.s (.s .nil))))) (fun (d9 : D) (w8 : List D) => (sx_tup2 (fun l_one9 l_other9 => (ss_unp (se_tup (sa_cons (se_op sr_ix se_var se_var) (sa_cons (se_op sr_ix se_var se_var) sa_nil))) (fun v19 => sx_set2 se_var (fun l_found23a => se_var) (fun l_found23b => (ss_nx (.s (.s (.s (.n (.n .nil)))))))))))) (fun (w8 : List D) => (ss_fz (i := 2) rfl (ss_ret se_var)))))))
abbrev N__law_step : List Str := ["_law_pen_here", "_law_row", "_law_items", "_law_part_here", "_law_same", "_law_way", "_law_change", "_law_found"]
theorem sc__law_step : FnScope N__law_step ["_law_pen_here", "_law_row", "_law_items", "_law_part_here"] (defScope s__law_step) := ⟨rfl, rfl, rfl, by decide +kernel, rfl, by decide +kernel, by decide +kernel⟩
def F__law_step (l_pen_here : D) (fs : Fs) (l_items l_part_here : D) : Tr Fs :=
  (bdN (W' := D × D) (bd (bd (bd (bd (.ok l_pen_here) fun v4 => (bd (bd (.ok (.int 3)) fun v2 => (bd (.ok []) fun r3 => .ok (v2 :: r3))) fun r5 => .ok (v4 :: r5))) (ul2 F_draw)) fun v10 => (bd (bd (bd (bd (.ok l_part_here) fun v6 => (bd (.ok []) fun r7 => .ok (v6 :: r7))) (ul1 F__law_made)) fun v8 => (bd (.ok []) fun r9 => .ok (v8 :: r9))) fun r11 => .ok (v10 :: r11))) (ul2 fun l_way11 l_change11 => (.ok (.nx (l_way11, l_change11))))) (fun (w1 : D × D) => (bd (bd (bd (.ok w1.1) fun v13 => (bd (.ok (.int 0)) fun v14 => eqD v13 v14)) asB) fun k => if k = true then (bdN (W' := Fs) (bd (vwA (fun (r : Fs) => r.all fun z => noO z.2) (bd (.ok (.obj "Row" fs)) fun o18 => isO "Row" o18 fun fs => if fs.lookup ("led_by" : Str) = none then bd (bd (.ok w1.2) fun v16 => (bd (.ok []) fun r17 => .ok (v16 :: r17))) fun ds => (ul2 F_Row_led_by) (o18 :: ds) else .bad)) fun (fs19 : Fs) => (.ok (.nx fs19))) (fun (w15 : Fs) => (bd (vwA tt1 (vwA tt1 (bd (bd (bd (nox (bd (.ok (.obj "Row" fs)) fun o20 => (isO "Row" o20 fun _ => (ul1 F_Row_contents) [o20]))) fun v23 => (bd (bd (bd (.ok l_items) fun v21 => (bd (.ok []) fun r22 => .ok (v21 :: r22))) (ul1 tupD)) fun v24 => eqD v23 v24)) asB) fun k => if k = true then (bd (bd (bd (.ok (.obj "Row" fs)) fun o27 => (isO "Row" o27 fun fs => if fs.lookup ("led_by" : Str) = none then bd (.ok []) fun ds => bd (bd (.ok w1.2) fun v25 => (bd (.ok []) fun r26 => .ok (v25 :: r26))) fun es => (kwD 1 1 [.inl 0] [] (fun ds => bd ((ul2 F_Row_led_by) ds) fun fs => .ok (.obj "Row" fs))) (o27 :: ds) es else .bad)) fun v28 => (bd (.ok (.obj "Row" w15)) fun v29 => eqO "Row" eqr_Row (ul2 F_Row___eq__) v28 v29)) asB) else .ok false))) fun b => if b = true then .ok w15 else .bad))) else (bd (bd (bd (.ok w1.1) fun v30 => (bd (.ok (.int 1)) fun v31 => eqD v30 v31)) asB) fun k => if k = true then (bdP (if fs.lookup ("do" : Str) = none then bd (bd (.ok w1.2) fun v32 => (bd (.ok []) fun r33 => .ok (v32 :: r33))) fun ds => (fun fs => ul1 (F_Row_do fs)) fs (ds ++ []) else .bad) fun d fs' => if isN d = true then .ok fs' else .bad) else (bd (.ok w1.2) fun y34 => bd ((fun fs => ul1 (F_Row___imul__ fs)) fs [y34]) fun (fs35 : Fs) => bd (vwA tt1 (bd (bd (bd (.ok (.obj "Row" fs35)) fun v37 => (bd (.ok (.obj "Row" fs35)) fun v38 => eqO "Row" eqr_Row (ul2 F_Row___eq__) v37 v38)) asB) fun k => if k = true then (bd (bd (nox (bd (.ok (.obj "Row" fs35)) fun o39 => (isO "Row" o39 fun _ => (ul1 F_Row_contents) [o39]))) fun v41 => (bd (nox (bd (.ok (.obj "Row" fs35)) fun o40 => (isO "Row" o40 fun _ => (ul1 F_Row_contents) [o40]))) fun v42 => eqD v41 v42)) asB) else .ok false)) fun k36 => if k36 = true then .ok fs35 else .bad)))))
theorem ok__law_step (F : FnA K d__law_step fd) (T : Tx K mg) (G__law_draw : PromO P w K mg base CX0 1 (gd "_law_draw" K) [] (spF K Tb (ul2 F_draw))) (G__law_made : PromO P w K mg base CX0 6 (gd "_law_made" K) [] (spF K Tb (ul1 F__law_made))) (G_Row_led_by : PromO P w K mg base CX0 8 (md "Row" "led_by" K) [] (spN K Tb "Row" (ul2 F_Row_led_by))) (G_Row_contents : PromO P w K mg base CX0 1 (propG "Row" "contents" K) [] (spF K Tb (ul1 F_Row_contents))) (GK_Row_led_by_1_thing : PromK P w K mg base CX0 8 (md "Row" "led_by" K) 1 ["thing"] (fun vs zs => vs ++ picks [.inl 0] [] zs) (spN K Tb "Row" (ul2 F_Row_led_by))) (G_Row___eq__ : PromO P w K mg base CX0 1 (md "Row" "__eq__" K) [] (spF K Tb (ul2 F_Row___eq__))) (G_Row_do : PromO P w K mg base CX0 8 (md "Row" "do" K) [] (spB K Tb "Row" (fun fs => ul1 (F_Row_do fs)))) (G_Row___imul__ : PromO P w K mg base CX0 9 (md "Row" "__imul__" K) [] (spS K Tb "Row" (fun fs => ul1 (F_Row___imul__ fs)))) : FnOk P w K mg base CX0 10 (d__law_step.adr K) fd ["_law_pen_here", "_law_row", "_law_items", "_law_part_here"] (spO K Tb "Row" F__law_step) := by
  refine fnO0 F sc__law_step (fun vs H Q E h => spO_len h) (fun cdv A outer s H vs Q E hr h => ?_)
  refine ⟨_, (pss_cons (ps_par (i := 5) (j := 6) (by rfl) sc__law_step.nd rfl rfl (by decide) rfl rfl (pa_cons (pe_g (PromO.call G__law_draw (hr.mono (by decide)) (passA (E := E))) (by rfl) T.g__law_draw T.k__law_draw (pa_cons (pv 0) (pa_cons pe_int pa_nil))) (pa_cons (pe_g (PromO.call G__law_made (hr.mono (by decide)) (passA (E := E))) (by rfl) T.g__law_made T.k__law_made (pa_cons (pv 3) pa_nil)) pa_nil)) (by rfl))
      (pss_cons (ps_if (pt_cmpR (op_eqA (K := K) rfl hr.units) (pv 5) pe_int (nomark _))
      (pss_cons (ps_set (i := 7) sc__law_step.nd rfl (.inl rfl) (pe_m (pv 1) T.cl_Row T.mt_Row_led_by (PromO.call G_Row_led_by (hr.mono (by decide)) (passA (E := E))) (pa_cons (pv 6) pa_nil)))
      (pss_cons (ps_ret (pe_ifExp (PW.pt (pw_and (pt_cmpR (op_eqA (K := K) rfl hr.units) (pe_po (pv 1) T.cl_Row T.pr_Row_contents G_Row_contents (hr.mono (by decide)) (passA (E := EF))) (pe_callTy (cr_tupOf (K := K) rfl) (by rfl) T.f_tuple (by decide +kernel) (pa_cons (pv 2) pa_nil)) (nomark _)) (pw_and1 (pt_cmpR (op_eqO (K := K) rfl T.mt_Row___eq__ hr.units0 (PromO.call G_Row___eq__ (hr.mono (by decide)) (passA (E := E)))) (pe_mk0 (pv 1) T.cl_Row T.mt_Row_led_by (PromK.call GK_Row_led_by_1_thing (hr.mono (by decide)) (passA (E := E))) (pk_cons (pv 6) pk_nil)) (pv 7) (nomark _))))) (pv 7) pe_non)) pss_nil)) pss_nil)
      (pss_cons (ps_if (pt_cmpR (op_eqA (K := K) rfl hr.units) (pv 5) pe_int (nomark _))
      (pss_cons (ps_ret (pe_ifExp (pt_cmpR or_isN (pe_m (pv 1) T.cl_Row T.mt_Row_do (PromO.call G_Row_do (hr.mono (by decide)) (passA (E := E))) (pa_cons (pv 6) pa_nil)) pe_non (nomark _)) (pv 1) pe_non)) pss_nil) pss_nil)
      (pss_cons (ps_set (i := 4) sc__law_step.nd rfl (.inl rfl) (pv 1))
      (pss_cons (ps_aug (i := 4) sc__law_step.nd rfl (.inl rfl) (pv 6) (ip_iown T.io_Row___imul__ (PromO.call G_Row___imul__ (hr.mono (by decide)) (passA (E := E)))))
      (pss_cons (ps_ret (pe_ifExp (PW.pt (pw_and (pt_cmpR (op_eqO (K := K) rfl T.mt_Row___eq__ hr.units0 (PromO.call G_Row___eq__ (hr.mono (by decide)) (passA (E := E)))) (pv 4) (pv 1) (nomark _)) (pw_and1 (pt_cmpR (op_eqA (K := K) rfl hr.units) (pe_po (pv 4) T.cl_Row T.pr_Row_contents G_Row_contents (hr.mono (by decide)) (passA (E := EF))) (pe_po (pv 1) T.cl_Row T.pr_Row_contents G_Row_contents (hr.mono (by decide)) (passA (E := EF))) (nomark _))))) (pv 1) pe_non)) pss_nil)))))), ?_⟩
  refine own_of (F := F__law_step) h (fun p c l_pen_here fs l_items l_part_here => ?_)
  unfold F__law_step
  exact (to_stm (E := E) (fun (w1 : D × D) => [.fz l_pen_here, .oi "Row" fs, .fz l_items, .fz l_part_here, .no, .fz w1.1, .fz w1.2, .no]) (ss_par (sa_cons (se_cl srl_sp0 (sa_cons se_var (sa_cons se_int sa_nil))) (sa_cons (se_cl srl_sp0 (sa_cons se_var sa_nil)) sa_nil)) (fun l_way11 l_change11 => (ss_nx (.s (.s (.s (.s (.s (.s (.s (.s .nil))))))))))) (fun (w1 : D × D) => (to_if (E := E) (sb_tst (se_op sr_eq se_var se_int)) (to_stm (E := E) (fun (w15 : Fs) => [.fz l_pen_here, .oi "Row" fs, .fz l_items, .fz l_part_here, .no, .fz w1.1, .fz w1.2, .oi "Row" w15]) (ss_newO (sno_view (i := 1) (c := "Row") (fs := fs) (sno_meth (F := (ul2 F_Row_led_by)) se_var (sa_cons se_var sa_nil))) (fun fs19 => (ss_nx (.s (.s (.s (.s (.s (.s (.s (.s .nil))))))))))) (fun (w15 : Fs) => (to_ret (E := E) (k := 7) (st_view (i := 7) (c := "Row") (fs := w15) (st_view (i := 1) (c := "Row") (fs := fs) (sb_and (sb_tst (se_op sr_eq (se_nox (se_pr se_var)) (se_cb srl_tup (sa_cons se_var sa_nil)))) (sb_tst (se_op (sr_eqO (eqR_Row T) srl_sp0) (se_mtK srk_frz se_var sa_nil (sa_cons se_var sa_nil)) se_var)))))))) (to_if (E := E) (sb_tst (se_op sr_eq se_var se_int)) (to_retM (sm_meth (i := 1) (F := (fun fs => ul1 (F_Row_do fs))) (dvs := []) (dds := []) (fun _ _ => .nil) (sa_cons se_var sa_nil)) (by simp)) (to_alias (i := 1) (j := 4) (F := (fun fs => ul1 (F_Row___imul__ fs))) se_var (fun fs35 => (sb_and (sb_tst (se_op (sr_eqO (eqR_Row T) srl_sp0) se_var se_var)) (sb_tst (se_op sr_eq (se_nox (se_pr se_var)) (se_nox (se_pr se_var)))))))))))
abbrev N_law : List Str := ["_law_script", "_law_pen_here", "_law_turn", "_law_items", "_law_step_here", "_law_row", "_law_kept", "_law_part_here", "_law_k", "_law_item_here"]
theorem sc_law : FnScope N_law ["_law_script"] (defScope s_law) := ⟨rfl, rfl, rfl, by decide +kernel, rfl, by decide +kernel, by decide +kernel⟩
def F_law : Tr D :=
  fin (bdF (bd (bd (bd (.ok (.int 4)) fun v1 => (bd (.ok []) fun r2 => .ok (v1 :: r2))) (ul1 rg1)) fun ds => forF (fun (d4 : D) (w3 : Unit) => (bd (bd (bd (bd (bd (.ok (.int 1)) fun v11 => (bd (bd (bd (.ok .pen) fun v9 => (bd (bd (.ok (.int 9)) fun v7 => (bd (.ok []) fun r8 => .ok (v7 :: r8))) fun r10 => .ok (v9 :: r10))) (ul2 F_draw)) fun v12 => addD v11 v12)) fun v13 => (bd (.ok []) fun r14 => .ok (v13 :: r14))) (ul1 rg1)) fun ds => bd (lcF (fun l_k14 => nox (bd (bd (bd (.ok .pen) fun v16 => (bd (.ok []) fun r17 => .ok (v16 :: r17))) (ul1 F__law_item)) fun y => .ok (some y))) ds) fun r => .ok (.lst r)) fun l_items5 => (bd (bd (bd (.ok l_items5) fun v20 => (bd (.ok []) fun r21 => .ok (v20 :: r21))) fun ds => (fun fs => ul1 (F_Row___init__ fs)) [] (ds ++ [])) fun (fs27 : Fs) => bd (bd (bd (bd (bd (.ok l_items5) itD) fun ds => bd (lcF (fun l_item_here21 => nox (bd (bd (bd (.ok l_item_here21) fun v23 => (bd (.ok []) fun r24 => .ok (v23 :: r24))) (ul1 intD)) fun y => .ok (some y))) ds) fun r => .ok (.lst r)) fun v25 => (bd (.ok []) fun r26 => .ok (v25 :: r26))) (ul1 sortD)) fun (v28 : D) => (bdF (bd (bd (bd (bd (bd (.ok .pen) fun v31 => (bd (bd (.ok (.int 9)) fun v29 => (bd (.ok []) fun r30 => .ok (v29 :: r30))) fun r32 => .ok (v31 :: r32))) (ul2 F_draw)) fun v33 => (bd (.ok []) fun r34 => .ok (v33 :: r34))) (ul1 rg1)) fun ds => forF (fun (d36 : D) (w35 : D × Fs) => (bd (bd (bd (.ok .pen) fun v39 => (bd (.ok []) fun r40 => .ok (v39 :: r40))) (ul1 F__law_part)) fun l_part_here37 => (bd (.ok .pen) fun v41 => bd (.ok w35.1) fun v42 => bd (.ok l_part_here37) fun v43 => bd (nox (F__law_step v41 w35.2 v42 v43)) fun (fs44 : Fs) => (bd (bd (bd (.ok w35.1) fun v48 => (bd (bd (.ok l_part_here37) fun v46 => (bd (.ok []) fun r47 => .ok (v46 :: r47))) fun r49 => .ok (v48 :: r49))) (ul2 F__law_behind)) fun l_items44 => (bdF (W' := Unit) (bd (vwA tt1 (bd (bd (bd (.ok (.obj "Row" fs44)) fun (v50 : D) => (bd (.ok .non) fun (v51 : D) => (match v51 with | .non => .ok (.bl (isN v50)) | _ => .bad))) asB) fun k => if k = true then .ok true else (bd (bd (nox (bd (.ok (.obj "Row" fs44)) fun o52 => (isO "Row" o52 fun _ => (ul1 F_Row_contents) [o52]))) fun v55 => (bd (bd (bd (.ok l_items44) fun v53 => (bd (.ok []) fun r54 => .ok (v53 :: r54))) (ul1 tupD)) fun v56 => neD v55 v56)) asB))) fun k => if k = true then (bd (.ok (.bl false)) fun d => .ok (.rt d)) else (.ok (.nx ()))) fun (w57 : Unit) => (bdF (W' := Unit) (bd (vwA tt1 (bd (bd (bd (bd (bd (bd (nox (bd (.ok (.obj "Row" fs44)) fun o58 => (isO "Row" o58 fun _ => (ul1 F_Row_contents) [o58]))) itD) fun ds => bd (lcF (fun l_item_here58 => nox (bd (bd (bd (.ok l_item_here58) fun v60 => (bd (.ok []) fun r61 => .ok (v60 :: r61))) (ul1 intD)) fun y => .ok (some y))) ds) fun r => .ok (.lst r)) fun v62 => (bd (.ok []) fun r63 => .ok (v62 :: r63))) (ul1 sortD)) fun v64 => (bd (.ok v28) fun v65 => neD v64 v65)) asB)) fun k => if k = true then (bd (.ok (.bl false)) fun d => .ok (.rt d)) else (.ok (.nx ()))) fun (w66 : Unit) => (bdF (W' := Unit) (bd (vwA tt1 (bd (bd (bd (bd (.ok (.obj "Row" fs44)) fun o71 => (isO "Row" o71 fun fs => if fs.lookup ("led_by" : Str) = none then bd (bd (bd (bd (.ok l_part_here37) fun v67 => (bd (.ok []) fun r68 => .ok (v67 :: r68))) (ul1 F__law_made)) fun v69 => (bd (.ok []) fun r70 => .ok (v69 :: r70))) fun ds => (fun ds => bd ((ul2 F_Row_led_by) ds) fun fs => .ok (.obj "Row" fs)) (o71 :: ds) else .bad)) fun o76 => (isO "Row" o76 fun fs => if fs.lookup ("led_by" : Str) = none then bd (bd (bd (bd (.ok l_part_here37) fun v72 => (bd (.ok []) fun r73 => .ok (v72 :: r73))) (ul1 F__law_made)) fun v74 => (bd (.ok []) fun r75 => .ok (v74 :: r75))) fun ds => (fun ds => bd ((ul2 F_Row_led_by) ds) fun fs => .ok (.obj "Row" fs)) (o76 :: ds) else .bad)) fun v77 => (bd (.ok (.obj "Row" fs44)) fun v78 => neO "Row" eqr_Row (ul2 F_Row___eq__) v77 v78)) asB)) fun k => if k = true then (bd (.ok (.bl false)) fun d => .ok (.rt d)) else (.ok (.nx ()))) fun (w79 : Unit) => (.ok (.nx (l_items44, fs44)))))))))) ds (l_items5, fs27)) fun (w35 : D × Fs) => (.ok (.nx ())))))) ds ()) fun (w3 : Unit) => (bd (.ok (.bl true)) fun d => .ok (.rt d)))
theorem ok_law (F : FnA K d_law fd) (T : Tx K mg) (hyes : Yes F_law) (G__law_pen : PromO P w K mg base CX0 1 (gd "_law_pen" K) [] (spPn K)) (G__law_draw : PromO P w K mg base CX0 1 (gd "_law_draw" K) [] (spF K Tb (ul2 F_draw))) (G__law_item : PromO P w K mg base CX0 3 (gd "_law_item" K) [] (spF K Tb (ul1 F__law_item))) (G_Row___init__ : PromO P w K mg base CX0 4 (md "Row" "__init__" K) [] (spI K Tb "Row" (fun fs => ul1 (F_Row___init__ fs)))) (G__law_part : PromO P w K mg base CX0 4 (gd "_law_part" K) [] (spF K Tb (ul1 F__law_part))) (G__law_step : PromO P w K mg base CX0 10 (gd "_law_step" K) [] (spO K Tb "Row" F__law_step)) (G__law_behind : PromO P w K mg base CX0 3 (gd "_law_behind" K) [] (spF K Tb (ul2 F__law_behind))) (G_Row_contents : PromO P w K mg base CX0 1 (propG "Row" "contents" K) [] (spF K Tb (ul1 F_Row_contents))) (G_Row_led_by : PromO P w K mg base CX0 8 (md "Row" "led_by" K) [] (spN K Tb "Row" (ul2 F_Row_led_by))) (G__law_made : PromO P w K mg base CX0 6 (gd "_law_made" K) [] (spF K Tb (ul1 F__law_made))) (G_Row___eq__ : PromO P w K mg base CX0 1 (md "Row" "__eq__" K) [] (spF K Tb (ul2 F_Row___eq__))) : FnOk P w K mg base CX0 11 (d_law.adr K) fd ["_law_script"] (spLaw K Tb) := by
  refine fnO0 F sc_law (fun vs H Q E h => spLaw_len h) (fun cdv A outer s H vs Q E hr h => ?_)
  refine ⟨_, pss_cons (ps_set (i := 1) sc_law.nd rfl (.inr rfl) (pe_g (PromO.call G__law_pen (hr.mono (by decide)) (passA (E := E))) (by rfl) T.g__law_pen T.k__law_pen (pa_cons (pv 0) pa_nil)))
      (pss_cons (ps_for PassesOwn.never rfl (pi_range1 (by rfl) T.f_range (pa_cons pe_int pa_nil)) (pg_name (i := 2) sc_law.nd rfl (.inl rfl))
      (pss_cons (ps_setLc (i := 3) (own := [("_law_k", 8)]) (g := gName 8) (by rfl) sc_law.nd rfl rfl (sw_true rfl rfl rfl (by decide +kernel)) (pi_range1 (by rfl) T.f_range (pa_cons (pe_op (op_addA (K := K) rfl) pe_int (pe_g (PromO.call G__law_draw (hr.mono (by decide)) (passA (E := EF))) (by rfl) T.g__law_draw T.k__law_draw (pa_cons (pv 1) (pa_cons pe_int pa_nil)))) pa_nil)) (blkOk_by (own := [("_law_k", 8)]) (N := N_law) (sc := defScope s_law) (by decide +kernel)) (fun _ _ _ _ _ => pg_name (i := 8) sc_law.nd rfl (Or.inl rfl)) (fun _ _ _ _ _ => pts_nil) (fun _ _ _ _ _ => (pe_g (PromO.call G__law_item (hr.mono (by decide)) (passA (E := EF))) (by rfl) T.g__law_item T.k__law_item (pa_cons (pv 1) pa_nil))))
      (pss_cons (ps_par (i := 5) (j := 6) (by rfl) sc_law.nd rfl rfl (by decide) rfl rfl (pa_cons (pe_g (PromO.make T.mk_Row G_Row___init__ (hr.mono (by decide)) (passA (E := EF))) (by rfl) T.g_Row T.k_Row (pa_cons (pv 3) pa_nil)) (pa_cons (pe_callB (cr_sortedK (K := K) rfl) (by rfl) T.f_sorted (by decide +kernel) (pa_cons (pe_lc (own := [("_law_item_here", 9)]) (g := gName 9) (by rfl) sc_law.nd (pi_seq (K := K) rfl (pv 3)) (blkOk_by (own := [("_law_item_here", 9)]) (N := N_law) (sc := defScope s_law) (by decide +kernel)) (fun _ _ _ _ _ => pg_name (i := 9) sc_law.nd rfl (Or.inl rfl)) (fun _ _ _ _ _ => pts_nil) (fun _ _ _ _ _ => (pe_callTy cr_int (by rfl) T.f_int (by decide +kernel) (pa_cons (pv 9) pa_nil)))) pa_nil)) pa_nil)) (by rfl))
      (pss_cons (ps_for PassesOwn.never rfl (pi_range1 (by rfl) T.f_range (pa_cons (pe_g (PromO.call G__law_draw (hr.mono (by decide)) (passA (E := EF))) (by rfl) T.g__law_draw T.k__law_draw (pa_cons (pv 1) (pa_cons pe_int pa_nil))) pa_nil)) (pg_name (i := 4) sc_law.nd rfl (.inl rfl))
      (pss_cons (ps_set (i := 7) sc_law.nd rfl (.inl rfl) (pe_g (PromO.call G__law_part (hr.mono (by decide)) (passA (E := EF))) (by rfl) T.g__law_part T.k__law_part (pa_cons (pv 1) pa_nil)))
      (pss_cons (ps_set (i := 5) sc_law.nd rfl (.inl rfl) (pe_g (PromO.call G__law_step (hr.mono (by decide)) (passA (E := EF))) (by rfl) T.g__law_step T.k__law_step (pa_cons (pv 1) (pa_cons (pv 5) (pa_cons (pv 3) (pa_cons (pv 7) pa_nil))))))
      (pss_cons (ps_set (i := 3) sc_law.nd rfl (.inl rfl) (pe_g (PromO.call G__law_behind (hr.mono (by decide)) (passA (E := EF))) (by rfl) T.g__law_behind T.k__law_behind (pa_cons (pv 3) (pa_cons (pv 7) pa_nil))))
      (pss_cons (ps_if (PW.pt (pw_or (pt_cmpR or_isN (pv 5) pe_non (nomark _)) (pw_or1 (pt_cmpR (op_neA (K := K) rfl hr.units) (pe_po (pv 5) T.cl_Row T.pr_Row_contents G_Row_contents (hr.mono (by decide)) (passA (E := EF))) (pe_callTy (cr_tupOf (K := K) rfl) (by rfl) T.f_tuple (by decide +kernel) (pa_cons (pv 3) pa_nil)) (nomark _)))))
      (pss_cons (ps_ret pe_bl) pss_nil) pss_nil)
      (pss_cons (ps_if (pt_cmpR (op_neA (K := K) rfl hr.units) (pe_callB (cr_sortedK (K := K) rfl) (by rfl) T.f_sorted (by decide +kernel) (pa_cons (pe_lc (own := [("_law_item_here", 9)]) (g := gName 9) (by rfl) sc_law.nd (pi_seq (K := K) rfl (pe_po (pv 5) T.cl_Row T.pr_Row_contents G_Row_contents (hr.mono (by decide)) (passA (E := EF)))) (blkOk_by (own := [("_law_item_here", 9)]) (N := N_law) (sc := defScope s_law) (by decide +kernel)) (fun _ _ _ _ _ => pg_name (i := 9) sc_law.nd rfl (Or.inl rfl)) (fun _ _ _ _ _ => pts_nil) (fun _ _ _ _ _ => (pe_callTy cr_int (by rfl) T.f_int (by decide +kernel) (pa_cons (pv 9) pa_nil)))) pa_nil)) (pv 6) (nomark _))
      (pss_cons (ps_ret pe_bl) pss_nil) pss_nil)
      (pss_cons (ps_if (pt_cmpR (op_neO (K := K) rfl T.mt_Row___eq__ T.ne_Row G_Row___eq__ (hr.mono (by decide)) (passA (E := EF))) (pe_m (pe_m (pv 5) T.cl_Row T.mt_Row_led_by (PromO.call G_Row_led_by (hr.mono (by decide)) (passA (E := EF))) (pa_cons (pe_g (PromO.call G__law_made (hr.mono (by decide)) (passA (E := EF))) (by rfl) T.g__law_made T.k__law_made (pa_cons (pv 7) pa_nil)) pa_nil)) T.cl_Row T.mt_Row_led_by (PromO.call G_Row_led_by (hr.mono (by decide)) (passA (E := EF))) (pa_cons (pe_g (PromO.call G__law_made (hr.mono (by decide)) (passA (E := EF))) (by rfl) T.g__law_made T.k__law_made (pa_cons (pv 7) pa_nil)) pa_nil)) (pv 5) (nomark _))
      (pss_cons (ps_ret pe_bl) pss_nil) pss_nil)
      pss_nil)))))))
      pss_nil))))
      (pss_cons (ps_ret pe_bl) pss_nil)), ?_⟩
  exact law_of (N := N_law) (i := 1) (n := 9) (F := F_law) (envU := fun _ => List.replicate 10 .no) hyes h rfl (by decide) (by decide) rfl (fun p c => (ss_for (fun (w3 : Unit) => [.no, .fz .pen, .no, .no, .no, .no, .no, .no, .no, .no]) (si_rg1 (sa_cons se_int sa_nil)) (.s (.s (.s (.s (.s (.s (.s (.s (.s (.s .nil)))))))))) (fun (d4 : D) (w3 : Unit) => (sx_name (ss_asg (se_lc (si_rg1 (sa_cons (se_op sr_add se_int (se_cl srl_sp0 (sa_cons se_var (sa_cons se_int sa_nil)))) sa_nil)) (fun l_k14 => (sc_map (se_cl srl_sp0 (sa_cons se_var sa_nil))))) (fun l_items5 => (ss_parOD (sno_mk (dvs := []) (dds := []) (fun _ _ => .nil) (sa_cons se_var sa_nil)) (se_cb srl_sorted (sa_cons (se_lc (si_seq se_var) (fun l_item_here21 => (sc_map (se_cb srl_int (sa_cons se_var sa_nil))))) sa_nil)) (fun fs27 v28 => (ss_for (fun (w35 : D × Fs) => [.no, .fz .pen, .fz d4, .fz w35.1, .no, .oi "Row" w35.2, .fz v28, .no, .no, .no]) (si_rg1 (sa_cons (se_cl srl_sp0 (sa_cons se_var (sa_cons se_int sa_nil))) sa_nil)) (.s (.s (.s (.s (.s (.s (.s (.s (.s (.s .nil)))))))))) (fun (d36 : D) (w35 : D × Fs) => (sx_name (ss_asg (se_cl srl_sp0 (sa_cons se_var sa_nil)) (fun l_part_here37 => (ss_asgO (i := 5) (F := F__law_step) se_var se_var se_var (fun fs44 => (ss_asg (se_cl srl_sp0 (sa_cons se_var (sa_cons se_var sa_nil))) (fun l_items44 => (ss_if (fun (w57 : Unit) => [.no, .fz .pen, .fz d4, .fz l_items44, .fz d36, .oi "Row" fs44, .fz v28, .fz l_part_here37, .no, .no]) (st_view (i := 5) (c := "Row") (fs := fs44) (sb_or (sb_tst (se_op sr_isN se_var se_non)) (sb_tst (se_op sr_ne (se_nox (se_pr se_var)) (se_cb srl_tup (sa_cons se_var sa_nil)))))) (ss_ret se_bl) (ss_nx (.s (.s (.s (.s (.s (.s (.s (.s (.s (.s .nil))))))))))) (fun (w57 : Unit) => (ss_if (fun (w66 : Unit) => [.no, .fz .pen, .fz d4, .fz l_items44, .fz d36, .oi "Row" fs44, .fz v28, .fz l_part_here37, .no, .no]) (st_view (i := 5) (c := "Row") (fs := fs44) (sb_tst (se_op sr_ne (se_cb srl_sorted (sa_cons (se_lc (si_seq (se_nox (se_pr se_var))) (fun l_item_here58 => (sc_map (se_cb srl_int (sa_cons se_var sa_nil))))) sa_nil)) se_var))) (ss_ret se_bl) (ss_nx (.s (.s (.s (.s (.s (.s (.s (.s (.s (.s .nil))))))))))) (fun (w66 : Unit) => (ss_if (fun (w79 : Unit) => [.no, .fz .pen, .fz d4, .fz l_items44, .fz d36, .oi "Row" fs44, .fz v28, .fz l_part_here37, .no, .no]) (st_view (i := 5) (c := "Row") (fs := fs44) (sb_tst (se_op (sr_neO (eqR_Row T)) (se_mt srl_frz (se_mt srl_frz se_var (sa_cons (se_cl srl_sp0 (sa_cons se_var sa_nil)) sa_nil)) (sa_cons (se_cl srl_sp0 (sa_cons se_var sa_nil)) sa_nil)) se_var))) (ss_ret se_bl) (ss_nx (.s (.s (.s (.s (.s (.s (.s (.s (.s (.s .nil))))))))))) (fun (w79 : Unit) => (ss_nx (.s (.s (.s (.s (.n (.s (.s (.n (.s (.s .nil))))))))))))))))))))))))) (fun (w35 : D × Fs) => (ss_nx (.s (.s (.n (.n (.s (.n (.n (.s (.s (.s .nil))))))))))))))))))) (fun (w3 : Unit) => (ss_ret se_bl))))
end
end Lw
end
section
namespace Gp
open PySem
section
variable {α β γ : Type}
def Bo (P : α → Prop) : Tr α → Nat → Prop
  | .ok a, _ => P a
  | .ex _ _, _ => False
  | .bad, _ => False
  | .draw m k, n => ∃ n', n = n' + 1 ∧ 0 < m ∧ m < 10 ^ 100 ∧ ∀ d, 0 ≤ d → d < m → Bo P (k d) n'
theorem Bo.mono {P Q : α → Prop} (h : ∀ a, P a → Q a) : ∀ {m : Tr α} {n k : Nat}, n ≤ k → Bo P m n → Bo Q m k
  | .ok a, _, _, _, z => h a z
  | .ex _ _, _, _, _, z => z
  | .bad, _, _, _, z => z
  | .draw m f, n, k, l, ⟨n', e, h1, h2, h3⟩ => ⟨k - 1, by omega, h1, h2, fun d d0 d1 => Bo.mono h (m := f d) (n := n') (by omega) (h3 d d0 d1)⟩
theorem Bo.bd {P : α → Prop} {Q : β → Prop} {k : α → Tr β} {b : Nat} : ∀ {m : Tr α} {a : Nat}, Bo P m a → (∀ x, P x → Bo Q (k x) b) → Bo Q (bd m k) (a + b)
  | .ok x, a, h, hk => (hk x h).mono (fun _ z => z) (Nat.le_add_left _ _)
  | .ex _ _, _, h, _ => h
  | .bad, _, h, _ => h
  | .draw m f, a, ⟨n', e, h1, h2, h3⟩, hk => ⟨n' + b, by omega, h1, h2, fun d d0 d1 => Bo.bd (m := f d) (h3 d d0 d1) hk⟩
theorem Bo.al {P : α → Prop} {Q : α → Nat → Prop} {E : Str → Fs → Nat → Prop} (h : ∀ a b, P a → Q a b) : ∀ {m : Tr α} {n : Nat}, Bo P m n → Al Q E m n
  | .ok a, _, z => h a _ z
  | .ex _ _, _, z => z.elim
  | .bad, _, z => z
  | .draw m f, n, ⟨n', e, h1, h2, h3⟩ => ⟨n', e, h1, h2, fun d d0 d1 => Bo.al (m := f d) h (h3 d d0 d1)⟩
theorem Bo.yes {F : Tr D} {n : Nat} (hn : n ≤ 1000000) (h : Bo (fun d => d = .bl true) F n) : Yes F :=
  Bo.al (fun _ _ z => z) (h.mono (fun _ z => z) hn)
theorem bo_ok {P : α → Prop} {a : α} {n : Nat} (h : P a) : Bo P (.ok a) n := h
theorem bo_draw {P : α → Prop} {m : Int} {k : Int → Tr α} {n : Nat} (h1 : 0 < m) (h2 : m < 10 ^ 100) (h : ∀ d, 0 ≤ d → d < m → Bo P (k d) n) : Bo P (.draw m k) (n + 1) := ⟨n, rfl, h1, h2, h⟩
theorem bo_nox {P : α → Prop} : ∀ {m : Tr α} {n : Nat}, Bo P m n → Bo P (nox m) n
  | .ok a, _, z => z
  | .ex _ _, _, z => z
  | .bad, _, z => z
  | .draw m f, n, ⟨n', e, h1, h2, h3⟩ => ⟨n', e, h1, h2, fun d d0 d1 => bo_nox (m := f d) (h3 d d0 d1)⟩
variable {W L : Type}
end
end Gp
end
section
namespace Gp
open PySem
@[simp] theorem s_bd {α β : Type} (a : α) (k : α → Tr β) : bd (.ok a) k = k a := rfl
@[simp] theorem s_bdx {α β : Type} (c : Str) (fs : Fs) (k : α → Tr β) : bd (.ex c fs) k = .ex c fs := rfl
@[simp] theorem s_bdd {α β : Type} (m : Int) (f : Int → Tr α) (k : α → Tr β) : bd (.draw m f) k = .draw m fun d => bd (f d) k := rfl
@[simp] theorem s_nox {α : Type} (a : α) : nox (.ok a) = .ok a := rfl
@[simp] theorem s_bdF {W W' L : Type} (w : W') (k : W' → Tr (Fl W L)) : bdF (.ok (.nx w)) k = k w := rfl
@[simp] theorem s_bdFr {W W' L : Type} (d : D) (k : W' → Tr (Fl W L)) : bdF (.ok (.rt d)) k = .ok (.rt d) := rfl
@[simp] theorem s_finr (d : D) : fin (.ok (.rt d)) = .ok d := rfl
@[simp] theorem s_finn (w : Unit) : fin (.ok (.nx w)) = .ok .non := rfl
@[simp] theorem s_finI (fs : Fs) : finI (.ok (.nx fs)) = .ok fs := rfl
@[simp] theorem s_asB (b : Bool) : asB (.bl b) = .ok b := rfl
@[simp] theorem s_ul0 {α : Type} (k : Tr α) : ul0 k [] = k := rfl
@[simp] theorem s_ul1 {α : Type} (k : D → Tr α) (x : D) : ul1 k [x] = k x := rfl
@[simp] theorem s_ul2 {α : Type} (k : D → D → Tr α) (x y : D) : ul2 k [x, y] = k x y := rfl
@[simp] theorem s_ul3 {α : Type} (k : D → D → D → Tr α) (x y z : D) : ul3 k [x, y, z] = k x y z := rfl
@[simp] theorem s_ul4 {α : Type} (k : D → D → D → D → Tr α) (x y z w : D) : ul4 k [x, y, z, w] = k x y z w := rfl
@[simp] theorem s_isO {α : Type} (c : Str) (fs : Fs) (k : Fs → Tr α) : isO c (.obj c fs) k = k fs := by unfold isO; simp
@[simp] theorem s_lt (i j : Int) : ltD (.int i) (.int j) = .ok (.bl (decide (i < j))) := rfl
@[simp] theorem s_le (i j : Int) : leD (.int i) (.int j) = .ok (.bl (decide (i ≤ j))) := rfl
@[simp] theorem s_gt (i j : Int) : gtD (.int i) (.int j) = .ok (.bl (decide (j < i))) := rfl
@[simp] theorem s_ge (i j : Int) : geD (.int i) (.int j) = .ok (.bl (decide (j ≤ i))) := rfl
@[simp] theorem s_sub (i j : Int) : subD (.int i) (.int j) = .ok (.int (i - j)) := rfl
@[simp] theorem s_add (i j : Int) : addD (.int i) (.int j) = .ok (.int (i + j)) := rfl
@[simp] theorem s_neg (i : Int) : negD (.int i) = .ok (.int (-i)) := rfl
@[simp] theorem s_eq (i j : Int) : eqD (.int i) (.int j) = .ok (.bl (decide (i = j))) := rfl
@[simp] theorem s_eqs (i j : Str) : eqD (.str i) (.str j) = .ok (.bl (decide (i = j))) := rfl
@[simp] theorem s_eqb (i j : Bool) : eqD (.bl i) (.bl j) = .ok (.bl (decide (i = j))) := rfl
@[simp] theorem s_len (ds : List D) : lenD (.lst ds) = .ok (.int ds.length) := rfl
@[simp] theorem s_itl (ds : List D) : itD (.lst ds) = .ok ds := rfl
@[simp] theorem s_itt (ds : List D) : itD (.tup ds) = .ok ds := rfl
@[simp] theorem s_int (i : Int) : intD (.int i) = .ok (.int i) := rfl
@[simp] theorem s_intb (k : Bool) : intD (.bl k) = .ok (.int (if k = true then 1 else 0)) := rfl
@[simp] theorem s_abs (i : Int) : absD (.int i) = .ok (.int (if i < 0 then -i else i)) := rfl
@[simp] theorem s_opt {α : Type} (a : α) : opt (some a) = .ok a := rfl
@[simp] theorem s_mod2 (i : Int) : modD (.int i) (.int 2) = .ok (.int (i % 2)) := rfl
@[simp] theorem s_div2 (i : Int) : divD (.int i) (.int 2) = .ok (.int (i / 2)) := rfl
end Gp
namespace Gp
open PySem PyProof.Rows L2
theorem toPyL_ints : ∀ l : List Int, toPyL (l.map D.int) = some (l.map PyData.int)
  | [] => rfl
  | a :: r => by
    rw [List.map_cons]
    unfold toPyL
    rw [toPyL_ints r]
    rfl
theorem eqv_ints : ∀ l m : List Int, PyData.eqvAll (l.map PyData.int) (m.map PyData.int) = decide (l = m)
  | [], [] => by simp [PyData.eqvAll]
  | [], _ :: _ => by simp [PyData.eqvAll]
  | _ :: _, [] => by simp [PyData.eqvAll]
  | a :: r, b :: s => by
    simp only [List.map_cons, PyData.eqvAll, PyData.eqv, eqv_ints r s]
    by_cases h : a = b <;> by_cases h' : r = s <;> simp [h, h']
theorem canLayAll_ints : ∀ ns : List Int, PyData.canLayAll0 (ns.map PyData.int) = true
  | [] => rfl
  | _ :: r => by simp [PyData.canLayAll0, PyData.canLay0, canLayAll_ints r]
theorem depthAll_ints : ∀ ns : List Int, PyData.depthAll (ns.map PyData.int) = 0
  | [] => rfl
  | _ :: r => by simp [PyData.depthAll, PyData.depth, depthAll_ints r]
theorem shaped_ints (ns : List Int) : SeqAt.shaped (.list (ns.map PyData.int)) = true := by
  simp [SeqAt.shaped, PyData.canLay0, PyData.depth, canLayAll_ints, depthAll_ints]
theorem s_eq_ints (l m : List Int) : eqD (.lst (l.map D.int)) (.lst (m.map D.int)) = .ok (.bl (decide (l = m))) := by
  have e : ∀ l : List Int, toPy (.lst (l.map D.int)) = some (.list (l.map PyData.int)) := fun l => by
    unfold toPy
    rw [toPyL_ints]
    rfl
  have e2 : eqB (.lst (l.map D.int)) (.lst (m.map D.int)) = .ok (decide (l = m)) := by
    unfold eqB
    rw [show eqS (.lst (l.map D.int)) (.lst (m.map D.int)) = none from rfl]
    dsimp only
    rw [e l, e m]
    dsimp only
    rw [if_pos ⟨shaped_ints l, shaped_ints m⟩]
    unfold PyData.eqv
    rw [eqv_ints]
  unfold eqD
  rw [e2]
  rfl
@[simp] theorem s_find (m : Int) (f : Int → Tr (Fl Unit Empty)) : fin (.draw m f) = .draw m fun d => fin (f d) := rfl
@[simp] theorem s_bdFd {W W' L : Type} (m : Int) (f : Int → Tr (Fl W' L)) (k : W' → Tr (Fl W L)) : bdF (.draw m f) k = .draw m fun d => bdF (f d) k := rfl
theorem bd_ok_id {α : Type} (m : Tr α) : bd m .ok = m := by
  induction m with
  | draw m f ih => show Tr.draw m _ = _; congr 1; funext d; exact ih d
  | _ => rfl
@[simp] theorem s_bdbd {α β γ : Type} (m : Tr α) (k : α → Tr β) (l : β → Tr γ) : bd (bd m k) l = bd m fun a => bd (k a) l := bd_bd ..
@[simp] theorem s_finbd {α : Type} (m : Tr α) (k : α → Tr (Fl Unit Empty)) : fin (bd m k) = bd m fun a => fin (k a) := bd_bd ..
@[simp] theorem s_bdFbd {α W W' L : Type} (m : Tr α) (f : α → Tr (Fl W' L)) (k : W' → Tr (Fl W L)) : bdF (bd m f) k = bd m fun a => bdF (f a) k := bd_bd ..
@[simp] theorem s_finIbd {α : Type} (m : Tr α) (k : α → Tr (Fl Fs Empty)) : finI (bd m k) = bd m fun a => finI (k a) := bd_bd ..
@[simp] theorem s_bdok {α : Type} (m : Tr α) : bd m (fun a => .ok a) = m := bd_ok_id m
@[simp] theorem s_ne (i j : Int) : neD (.int i) (.int j) = .ok (.bl (!decide (i = j))) := rfl
@[simp] theorem s_nes (i j : Str) : neD (.str i) (.str j) = .ok (.bl (!decide (i = j))) := rfl
theorem s_ixL {ds : List D} {i : Int} {d : D} (h0 : 0 ≤ i) (h : ds[i.toNat]? = some d) : ixD (.lst ds) (.int i) = .ok d := by
  have hl := (List.getElem?_eq_some_iff.mp h).1
  have e : atI ds i = some d := by
    unfold atI ixN
    rw [if_pos h0, if_pos (by omega)]
    exact h
  unfold ixD
  dsimp only
  rw [e]
theorem s_ixT {ds : List D} {i : Int} {d : D} (h0 : 0 ≤ i) (h : ds[i.toNat]? = some d) : ixD (.tup ds) (.int i) = .ok d := by
  have hl := (List.getElem?_eq_some_iff.mp h).1
  have e : atI ds i = some d := by
    unfold atI ixN
    rw [if_pos h0, if_pos (by omega)]
    exact h
  unfold ixD
  dsimp only
  rw [e]
theorem bo_pick {P : D → Prop} {ds : List D} (h0 : 0 < ds.length) (h1 : ds.length ≤ 100000) (h : ∀ d ∈ ds, P d) : Bo P (.draw ds.length fun i => ixD (.lst ds) (.int i)) 1 := by
  refine bo_draw (n := 0) (by omega) (by omega) fun d d0 d1 => ?_
  have hl : d.toNat < ds.length := by omega
  rw [s_ixL d0 (List.getElem?_eq_getElem hl)]
  exact h _ (List.getElem_mem hl)
theorem rgD_map (n : Nat) : rgD 0 n = ((List.range n).map fun i : Nat => (i : Int)).map D.int := by
  unfold rgD
  rw [List.map_map]
  apply List.map_congr_left
  intro i _
  show D.int (0 + i) = D.int i
  rw [Int.zero_add]
end Gp
end
section
namespace Gp
def seatZ (n p : Int) : Int := if p % 2 = 0 then p / 2 else (n - (p + 1) / 2) % n
def placeZ (n s : Int) : Int := if 2 * s < n then 2 * s else 2 * (n - s) - 1
def behZ (n kind c s : Int) : Int :=
  if c % 2 = 0 then (if kind = 0 then (s + c / 2) % n else (s - c / 2) % n)
  else (if kind = 0 then (-(c + 1) / 2 - s) % n else ((c - 1) / 2 - s) % n)
end Gp
end
section
set_option maxHeartbeats 400000
namespace Gp
def runZ (bk : Bool) (lo hi p : Int) : Int :=
  let f := if bk = true then lo + (hi - lo + 1) % 2 else lo
  let q := if (p - f) % 2 = 0 then p + 1 else p - 1
  if f ≤ q ∧ q ≤ hi then q else p
def runsL (b : Int) : List Int → Int → List (Int × Int)
  | [], n => if b < n then [(b, n - 1)] else []
  | t :: ts, n => (if b < t then [(b, t - 1)] else []) ++ runsL (t + 1) ts n
def ledL (bk : Bool) (p : Int) : List (Int × Int) → Int
  | [] => p
  | (b, l) :: r => if b ≤ p ∧ p ≤ l then runZ bk b l p else ledL bk p r
def movZ (bk : Bool) (lo hi p : Int) : Int :=
  let far := if bk = true then hi - p else p - lo
  let al : Int := if bk = true then -1 else 1
  let q := if far % 2 = 0 then p + al else p - al
  if lo ≤ q ∧ q ≤ hi then q else p
theorem run_mov {bk : Bool} {lo hi p : Int} (h0 : lo ≤ p) (h1 : p ≤ hi) : runZ bk lo hi p = movZ bk lo hi p := by
  unfold runZ movZ
  cases bk
  · simp only [Bool.false_eq_true, if_false]
  · simp only [if_true]
    by_cases h : (hi - p) % 2 = 0
    · have e : ¬ (p - (lo + (hi - lo + 1) % 2)) % 2 = 0 := by omega
      rw [if_neg e, if_pos h]
      by_cases q : lo ≤ p - 1
      · rw [if_pos (show lo + (hi - lo + 1) % 2 ≤ p - 1 ∧ p - 1 ≤ hi by omega), if_pos (show lo ≤ p + -1 ∧ p + -1 ≤ hi by omega)]
        omega
      · rw [if_neg (show ¬ (lo + (hi - lo + 1) % 2 ≤ p - 1 ∧ p - 1 ≤ hi) by omega), if_neg (show ¬ (lo ≤ p + -1 ∧ p + -1 ≤ hi) by omega)]
    · have e : (p - (lo + (hi - lo + 1) % 2)) % 2 = 0 := by omega
      rw [if_pos e, if_neg h]
      have e2 : p - -1 = p + 1 := by omega
      rw [e2]
      rw [if_pos (show lo + (hi - lo + 1) % 2 ≤ p + 1 ∧ p + 1 ≤ hi by omega), if_pos (show lo ≤ p + 1 ∧ p + 1 ≤ hi by omega)]
theorem within {lo hi p q : Int} (h0 : lo ≤ p) (h1 : p ≤ hi) : lo ≤ (if lo ≤ q ∧ q ≤ hi then q else p) ∧ (if lo ≤ q ∧ q ≤ hi then q else p) ≤ hi := by
  by_cases h : lo ≤ q ∧ q ≤ hi
  · rw [if_pos h]
    exact h
  · rw [if_neg h]
    exact ⟨h0, h1⟩
theorem movZ_rng {bk : Bool} {lo hi p : Int} (h0 : lo ≤ p) (h1 : p ≤ hi) : lo ≤ movZ bk lo hi p ∧ movZ bk lo hi p ≤ hi := within h0 h1
theorem movZ_inv {bk : Bool} {lo hi p : Int} (h0 : lo ≤ p) (h1 : p ≤ hi) : movZ bk lo hi (movZ bk lo hi p) = p := by
  unfold movZ
  cases bk
  · simp only [Bool.false_eq_true, if_false]
    by_cases h : (p - lo) % 2 = 0
    · rw [if_pos h]
      by_cases q : lo ≤ p + 1 ∧ p + 1 ≤ hi
      · rw [if_pos q, if_neg (show ¬ (p + 1 - lo) % 2 = 0 by omega), if_pos (by omega)]
        omega
      · rw [if_neg q, if_pos h, if_neg q]
    · rw [if_neg h, if_pos (show lo ≤ p - 1 ∧ p - 1 ≤ hi by omega), if_pos (show (p - 1 - lo) % 2 = 0 by omega), if_pos (by omega)]
      omega
  · simp only [if_true]
    by_cases h : (hi - p) % 2 = 0
    · rw [if_pos h]
      by_cases q : lo ≤ p + -1 ∧ p + -1 ≤ hi
      · rw [if_pos q, if_neg (show ¬ (hi - (p + -1)) % 2 = 0 by omega), if_pos (by omega)]
        omega
      · rw [if_neg q, if_pos h, if_neg q]
    · rw [if_neg h, if_pos (show lo ≤ p - -1 ∧ p - -1 ≤ hi by omega), if_pos (show (hi - (p - -1)) % 2 = 0 by omega), if_pos (by omega)]
      omega
structure Near (ts : List Int) (lo0 hi0 p lo hi : Int) : Prop where
  l0 : lo0 ≤ lo
  l1 : lo ≤ p
  l2 : lo = lo0 ∨ lo - 1 ∈ ts
  h0 : hi ≤ hi0
  h1 : p ≤ hi
  h2 : hi = hi0 ∨ hi + 1 ∈ ts
  no : ∀ t ∈ ts, t < lo ∨ hi < t
theorem Near.uniq {ts : List Int} {lo0 hi0 p a b c d : Int} (hx : Near ts lo0 hi0 p a b) (hy : Near ts lo0 hi0 p c d) : a = c ∧ b = d := by
  obtain ⟨x1, x2, x3, x4, x5, x6, x7⟩ := hx
  obtain ⟨y1, y2, y3, y4, y5, y6, y7⟩ := hy
  constructor
  · rcases x3 with x3 | x3
    · rcases y3 with y3 | y3
      · omega
      · have := x7 _ y3
        omega
    · have := y7 _ x3
      rcases y3 with y3 | y3
      · omega
      · have := x7 _ y3
        omega
  · rcases x6 with x6 | x6
    · rcases y6 with y6 | y6
      · omega
      · have := x7 _ y6
        omega
    · have := y7 _ x6
      rcases y6 with y6 | y6
      · omega
      · have := x7 _ y6
        omega
theorem led_runs {bk : Bool} {p n : Int} : ∀ {ts : List Int} {b : Int}, ts.Pairwise (· < ·) → (∀ t ∈ ts, b ≤ t ∧ t < n) → b ≤ p → p < n →
    (p ∈ ts → ledL bk p (runsL b ts n) = p) ∧ (p ∉ ts → ∃ lo hi, Near ts b (n - 1) p lo hi ∧ ledL bk p (runsL b ts n) = movZ bk lo hi p)
  | [], b, _, _, h0, h1 => by
    refine ⟨fun h => absurd h (by simp), fun _ => ⟨b, n - 1, ⟨Int.le_refl _, h0, .inl rfl, Int.le_refl _, by omega, .inl rfl, fun t h => absurd h (by simp)⟩, ?_⟩⟩
    unfold runsL
    rw [if_pos (by omega)]
    unfold ledL
    rw [if_pos ⟨h0, by omega⟩, run_mov h0 (by omega)]
  | t :: ts, b, hs, hb, h0, h1 => by
    obtain ⟨s1, s2⟩ := List.pairwise_cons.mp hs
    have ht := hb t List.mem_cons_self
    by_cases hlt : p < t
    · -- in the run ahead of t
      refine ⟨fun h => ?_, fun _ => ⟨b, t - 1, ⟨Int.le_refl _, h0, .inl rfl, by omega, by omega, .inr (by rw [show t - 1 + 1 = t by omega]; exact List.mem_cons_self), fun x hx => ?_⟩, ?_⟩⟩
      · rcases List.mem_cons.mp h with e | e
        · omega
        · have := s1 p e
          omega
      · rcases List.mem_cons.mp hx with rfl | hx
        · omega
        · have := s1 x hx
          omega
      · unfold runsL
        rw [if_pos (by omega), List.singleton_append]
        unfold ledL
        rw [if_pos ⟨h0, by omega⟩, run_mov h0 (by omega)]
    · have skip : ledL bk p (runsL b (t :: ts) n) = ledL bk p (runsL (t + 1) ts n) := by
        show ledL bk p ((if b < t then [(b, t - 1)] else []) ++ runsL (t + 1) ts n) = _
        split
        · rw [List.singleton_append]
          show (if b ≤ p ∧ p ≤ t - 1 then _ else _) = _
          rw [if_neg (by omega)]
        · rfl
      rw [skip]
      by_cases he : p = t
      · subst he
        refine ⟨fun _ => ?_, fun h => absurd List.mem_cons_self h⟩
        have low : ∀ (ts : List Int) (b : Int), p < b → (∀ t ∈ ts, b ≤ t) → ts.Pairwise (· < ·) → ledL bk p (runsL b ts n) = p := by
          intro ts
          induction ts with
          | nil =>
            intro b hb _ _
            unfold runsL
            split
            · unfold ledL
              rw [if_neg (by omega)]
              rfl
            · rfl
          | cons u us ih =>
            intro b hb hu hp
            obtain ⟨p1, p2⟩ := List.pairwise_cons.mp hp
            have hu0 := hu u List.mem_cons_self
            have e := ih (u + 1) (by omega) (fun x hx => by have := p1 x hx; omega) p2
            show ledL bk p ((if b < u then [(b, u - 1)] else []) ++ runsL (u + 1) us n) = p
            split
            · rw [List.singleton_append]
              show (if b ≤ p ∧ p ≤ u - 1 then _ else ledL bk p (runsL (u + 1) us n)) = p
              rw [if_neg (by omega), e]
            · exact e
        exact low ts (p + 1) (by omega) (fun x hx => by have := s1 x hx; omega) s2
      · obtain ⟨k1, k2⟩ := led_runs (bk := bk) (p := p) (n := n) (b := t + 1) s2 (fun x hx => ⟨by have := s1 x hx; omega, (hb x (List.mem_cons_of_mem _ hx)).2⟩) (by omega) h1
        refine ⟨fun h => ?_, fun h => ?_⟩
        · rcases List.mem_cons.mp h with e | e
          · exact absurd e he
          · exact k1 e
        · obtain ⟨lo, hi, ⟨y1, y2, y3, y4, y5, y6, y7⟩, e⟩ := k2 fun z => h (List.mem_cons_of_mem _ z)
          refine ⟨lo, hi, ⟨by omega, y2, ?_, y4, y5, ?_, fun x hx => ?_⟩, e⟩
          · rcases y3 with y3 | y3
            · exact .inr (by rw [y3, show t + 1 - 1 = t by omega]; exact List.mem_cons_self)
            · exact .inr (List.mem_cons_of_mem _ y3)
          · rcases y6 with y6 | y6
            · exact .inl y6
            · exact .inr (List.mem_cons_of_mem _ y6)
          · rcases List.mem_cons.mp hx with rfl | hx
            · omega
            · exact y7 x hx
end Gp
end
section
set_option maxHeartbeats 400000
namespace Gp
open PySem PyProof.Rows L2 Gh
structure Sh (d : D) (n b : Nat) : Prop where
  ex : ∃ e, toPy d = some e ∧ Fn e n b
structure ShL (ds : List D) (n b : Nat) : Prop where
  ex : ∃ es, toPyL ds = some es ∧ FnAll es n b
theorem Sh.le {d : D} {n b n' b' : Nat} (h : Sh d n b) (h1 : n ≤ n') (h2 : b ≤ b') : Sh d n' b' := by
  obtain ⟨e, h3, h4⟩ := h.ex
  exact ⟨e, h3, h4.le h1 h2⟩
theorem Sh.int {i : Int} (h1 : -(10 ^ 100) < i) (h2 : i < 10 ^ 100) : Sh (.int i) 0 0 := ⟨_, rfl, .int h1 h2⟩
theorem Sh.bl (b : Bool) : Sh (.bl b) 0 0 := ⟨_, rfl, .bool b⟩
theorem Sh.non : Sh .non 0 0 := ⟨_, rfl, .none⟩
theorem Sh.str {x : Str} (h0 : (PyData.str x).canLay0 = true) (h : (x.cps.toList.all fun c => decide (c < 16 ^ 8)) = true) : Sh (.str x) 0 x.cps.size := ⟨_, rfl, .str h0 h⟩
theorem ShL.nil {n b : Nat} : ShL [] n b := ⟨_, rfl, .nil⟩
theorem ShL.cons {d : D} {ds : List D} {n b c : Nat} (h : Sh d n b) (k : ShL ds n c) : ShL (d :: ds) n (b + 1 + c) := by
  obtain ⟨e, h3, h4⟩ := h.ex
  obtain ⟨es, h5, h6⟩ := k.ex
  refine ⟨e :: es, ?_, .cons h4 h6⟩
  unfold toPyL
  rw [h3, h5]
theorem ShL.each {n b : Nat} : ∀ {ds : List D}, (∀ d ∈ ds, Sh d n b) → ShL ds n ((b + 1) * ds.length)
  | [], _ => ShL.nil
  | d :: r, h => by
    have z := ShL.cons (h d List.mem_cons_self) (ShL.each fun e he => h e (List.mem_cons_of_mem _ he))
    have e : b + 1 + (b + 1) * r.length = (b + 1) * (d :: r).length := by
      rw [List.length_cons, Nat.mul_add, Nat.mul_one, Nat.add_comm]
    rw [e] at z
    exact z
theorem ShL.ints {ns : List Int} (h : ∀ n ∈ ns, -(10 ^ 100) < n ∧ n < 10 ^ 100) : ShL (ns.map D.int) 0 (1 * ns.length) := by
  have z := ShL.each (n := 0) (b := 0) (ds := ns.map D.int) fun d hd => by
    obtain ⟨n, hn, rfl⟩ := List.mem_map.mp hd
    exact Sh.int (h n hn).1 (h n hn).2
  rwa [List.length_map] at z
theorem ShL.le {ds : List D} {n b n' b' : Nat} (h : ShL ds n b) (h1 : n ≤ n') (h2 : b ≤ b') : ShL ds n' b' := by
  obtain ⟨e, h3, h4⟩ := h.ex
  exact ⟨e, h3, h4.cl, h4.sh, h4.nd, h4.ls, Nat.le_trans h4.dp h1, Nat.le_trans h4.bk h2⟩
theorem Sh.lst {ds : List D} {n b : Nat} (h : ShL ds n b) : Sh (.lst ds) (n + 1) b := by
  obtain ⟨es, h3, h4⟩ := h.ex
  refine ⟨.list es, ?_, .list h4⟩
  unfold toPy
  rw [h3]
  rfl
theorem Sh.tup {ds : List D} {n b : Nat} (h : ShL ds n b) : Sh (.tup ds) (n + 1) b := by
  obtain ⟨es, h3, h4⟩ := h.ex
  refine ⟨.tuple es, ?_, .tuple h4⟩
  unfold toPy
  rw [h3]
  rfl
end Gp
end
section
set_option maxHeartbeats 400000
namespace Gp
open PySem
theorem bo_then {α β : Type} {P : α → Prop} {Q : β → Prop} {m : Tr α} {k : α → Tr β} {a b n : Nat} (h : Bo P m a) (hk : ∀ x, P x → Bo Q (k x) b) (l : a + b ≤ n) : Bo Q (bd m k) n := (h.bd hk).mono (fun _ z => z) l
theorem bo_le {α : Type} {P : α → Prop} {m : Tr α} {a n : Nat} (h : Bo P m a) (l : a ≤ n) : Bo P m n := h.mono (fun _ z => z) l
theorem bo_forU {L : Type} {f : D → Unit → Tr (Fl Unit Unit)} {c : Nat} : ∀ {ds : List D}, (∀ d ∈ ds, Bo (fun r : Fl Unit Unit => r = .nx ()) (f d ()) c) → Bo (fun r : Fl Unit L => r = .nx ()) (forF f ds ()) (c * ds.length)
  | [], _ => bo_ok rfl
  | d :: ds, h => by
    rw [forF_cons]
    refine bo_then (b := c * ds.length) (h d List.mem_cons_self) (fun r hr => ?_) (by rw [List.length_cons, Nat.mul_succ]; omega)
    subst hr
    exact bo_forU fun x hx => h x (List.mem_cons_of_mem _ hx)
end Gp
end
section
set_option maxHeartbeats 400000
namespace Gp
open PySem
@[irreducible] def Bx {α : Type} (P : α → Prop) (m : Tr α) (n : Nat) : Prop := Bo P m n
theorem Bx.bo {α : Type} {P : α → Prop} {m : Tr α} {n : Nat} (h : Bx P m n) : Bo P m n := by
  unfold Bx at h
  exact h
theorem bx_of {α : Type} {P : α → Prop} {m : Tr α} {n : Nat} (h : Bo P m n) : Bx P m n := by
  unfold Bx
  exact h
theorem bx_draw {α : Type} {P : α → Prop} {m : Int} {k : Int → Tr α} {n : Nat} (h1 : 0 < m) (h2 : m < 10 ^ 100) (h : ∀ d, 0 ≤ d → d < m → Bx P (k d) n) : Bx P (.draw m k) (n + 1) := bx_of (bo_draw h1 h2 fun d a b => (h d a b).bo)
theorem bx_then {α β : Type} {P : α → Prop} {Q : β → Prop} {m : Tr α} {k : α → Tr β} {a b n : Nat} (h : Bo P m a) (hk : ∀ x, P x → Bx Q (k x) b) (l : a + b ≤ n) : Bx Q (bd m k) n := bx_of (bo_then h (fun x z => (hk x z).bo) l)
theorem bx_ok {α : Type} {P : α → Prop} {a : α} {n : Nat} (h : P a) : Bx P (.ok a) n := bx_of (bo_ok h)
theorem bx_loopU {f : D → Unit → Tr (Fl Unit Unit)} {ds : List D} {K : Unit → Tr (Fl Unit Empty)} {Q : D → Prop} {c b n : Nat} (h : ∀ d ∈ ds, Bx (fun r : Fl Unit Unit => r = .nx ()) (f d ()) c) (hk : Bx Q (fin (K ())) b) (l : c * ds.length + b ≤ n) : Bx Q (fin (bdF (forF f ds ()) K)) n := by
  refine bx_of ?_
  unfold fin bdF
  rw [bd_bd]
  refine bo_then (b := b) (bo_forU fun d hd => (h d hd).bo) (fun r hr => ?_) l
  subst hr
  exact hk.bo
theorem bx_thenX {α β : Type} {P : α → Prop} {Q : β → Prop} {m : Tr α} {k : α → Tr β} {a b n : Nat} (h : Bx P m a) (hk : ∀ x, P x → Bx Q (k x) b) (l : a + b ≤ n) : Bx Q (bd m k) n := bx_then h.bo hk l
end Gp
end
section
set_option maxHeartbeats 400000
namespace Gp
open PySem
theorem ne_of_eqD {x y : D} {k : Bool} (h : eqD x y = .ok (.bl k)) : neD x y = .ok (.bl (!k)) := by
  unfold eqD at h
  unfold neD
  cases e : eqB x y with
  | ok b => rw [e] at h; cases h; rfl
  | ex c fs => rw [e] at h; cases h
  | bad => rw [e] at h; cases h
  | draw m f => rw [e] at h; cases h
end Gp
end
section
set_option maxHeartbeats 400000
namespace Gp
open PySem
def rowL (n : Nat) (a : Int → Int) : List Int := (List.range' 0 n).map fun k : Nat => a (k : Int)
def updF (a : Int → Int) (p v : Int) : Int → Int := fun q => if q = p then v else a q
theorem rowL_len (n : Nat) (a : Int → Int) : (rowL n a).length = n := by unfold rowL; rw [List.length_map, List.length_range']
theorem rowL_get {n : Nat} {a : Int → Int} {k : Nat} (h : k < n) : (rowL n a)[k]? = some (a k) := by
  unfold rowL
  rw [List.getElem?_map, List.getElem?_range' h]
  simp
theorem rowL_congr {n : Nat} {a b : Int → Int} (h : ∀ q : Int, 0 ≤ q → q < n → a q = b q) : rowL n a = rowL n b := by
  unfold rowL
  apply List.map_congr_left
  intro k hk
  have := (List.mem_range'_1.mp hk).2
  exact h k (by omega) (by omega)
theorem rowL_mem {n : Nat} {a : Int → Int} {x : Int} (h : x ∈ rowL n a) : ∃ q : Int, 0 ≤ q ∧ q < n ∧ x = a q := by
  obtain ⟨k, hk, rfl⟩ := List.mem_map.mp h
  have := (List.mem_range'_1.mp hk).2
  exact ⟨k, by omega, by omega, rfl⟩
theorem rowL_ext {n : Nat} {l : List Int} {a : Int → Int} (hl : l.length = n) (h : ∀ k : Nat, k < n → l[k]? = some (a k)) : l = rowL n a := by
  apply List.ext_getElem?
  intro k
  by_cases hk : k < n
  · rw [h k hk, rowL_get hk]
  · rw [List.getElem?_eq_none (by omega), List.getElem?_eq_none (by rw [rowL_len]; omega)]
theorem rowL_rev (n : Nat) (a : Int → Int) : (rowL n a).reverse = rowL n fun q => a (n - 1 - q) := by
  refine rowL_ext (by rw [List.length_reverse, rowL_len]) fun k hk => ?_
  rw [List.getElem?_reverse (by rw [rowL_len]; exact hk), rowL_len, rowL_get (by omega)]
  congr 2
  omega
theorem s_ixR {n : Nat} {a : Int → Int} {p : Int} (h0 : 0 ≤ p) (h1 : p < n) : ixD (.lst ((rowL n a).map D.int)) (.int p) = .ok (.int (a p)) := by
  obtain ⟨k, rfl⟩ := Int.eq_ofNat_of_zero_le h0
  refine s_ixL h0 ?_
  rw [List.getElem?_map]
  show (rowL n a)[k]?.map D.int = _
  rw [rowL_get (by omega)]
  rfl
theorem s_setR {n : Nat} {a : Int → Int} {p v : Int} (h0 : 0 ≤ p) (h1 : p < n) : setD ((rowL n a).map D.int) (.int p) (.int v) = .ok ((rowL n (updF a p v)).map D.int) := by
  obtain ⟨k, rfl⟩ := Int.eq_ofNat_of_zero_le h0
  have hk : k < n := by omega
  have e : L2.ixN ((rowL n a).map D.int).length (k : Int) = some k := by
    unfold L2.ixN
    rw [if_pos h0, List.length_map, rowL_len, if_pos h1]
    rfl
  show (match L2.ixN ((rowL n a).map D.int).length (k : Int) with | some j => Tr.ok (((rowL n a).map D.int).set j (.int v)) | none => .bad) = _
  rw [e]
  show Tr.ok (((rowL n a).map D.int).set k (.int v)) = _
  rw [← List.map_set]
  congr 2
  refine rowL_ext (by rw [List.length_set, rowL_len]) fun j hj => ?_
  unfold updF
  by_cases q : k = j
  · subst q
    rw [List.getElem?_set_self (by rw [rowL_len]; exact hk), if_pos rfl]
  · rw [List.getElem?_set_ne q, rowL_get hj, if_neg (by omega)]
theorem en_row (n : Nat) (a : Int → Int) : enD (.lst ((rowL n a).map D.int)) = .ok ((List.range' 0 n).map fun k : Nat => .tup [.int k, .int (a k)]) := by
  show Tr.ok _ = _
  congr 1
  apply List.ext_getElem?
  intro k
  rw [List.getElem?_mapIdx, List.getElem?_map, List.getElem?_map]
  by_cases hk : k < n
  · rw [rowL_get hk, List.getElem?_range' hk]
    simp
  · rw [List.getElem?_eq_none (by rw [rowL_len]; omega), List.getElem?_eq_none (by rw [List.length_range']; omega)]
    rfl
theorem forF_put {L : Type} {n : Nat} {a f g : Int → Int} {F : D → List D → Tr (Fl (List D) (List D))} (hf : ∀ p : Int, 0 ≤ p → p < n → 0 ≤ f p ∧ f p < n) (hgf : ∀ p : Int, 0 ≤ p → p < n → g (f p) = p) (hfg : ∀ q : Int, 0 ≤ q → q < n → f (g q) = q) (hg : ∀ q : Int, 0 ≤ q → q < n → 0 ≤ g q ∧ g q < n)
    (hF : ∀ (k : Nat) (l : List D), k < n → F (.tup [.int k, .int (a k)]) l = bd (setD l (.int (f k)) (.int (a k))) fun l => .ok (.nx l)) :
    forF (L := L) F ((List.range' 0 n).map fun k : Nat => .tup [.int k, .int (a k)]) ((rowL n a).map D.int) = .ok (.nx ((rowL n fun q => a (g q)).map D.int)) := by
  have key : ∀ m k : Nat, k + m = n → forF (L := L) F ((List.range' k m).map fun k : Nat => .tup [.int k, .int (a k)]) ((rowL n fun q => if g q < k then a (g q) else a q).map D.int) = .ok (.nx ((rowL n fun q => a (g q)).map D.int)) := by
    intro m
    induction m with
    | zero =>
      intro k hk
      show Tr.ok (Fl.nx _) = _
      congr 3
      refine rowL_congr fun q h0 h1 => ?_
      have := hg q h0 h1
      rw [if_pos (by omega)]
    | succ m ih =>
      intro k hk
      have r := hf k (by omega) (by omega)
      rw [List.range'_succ, List.map_cons, forF_cons, hF k _ (by omega), s_setR r.1 r.2]
      show forF F _ _ = _
      rw [show rowL n (updF (fun q => if g q < k then a (g q) else a q) (f k) (a k)) = rowL n (fun q => if g q < ((k + 1 : Nat) : Int) then a (g q) else a q) from rowL_congr fun q h0 h1 => ?_]
      · exact ih (k + 1) (by omega)
      · unfold updF
        by_cases e : q = f k
        · subst e
          rw [if_pos rfl, hgf k (by omega) (by omega), if_pos (by omega)]
        · rw [if_neg e]
          have ne : g q ≠ k := fun z => e (by rw [← z, hfg q h0 h1])
          dsimp only
          by_cases z : g q < k
          · rw [if_pos z, if_pos (by omega)]
          · rw [if_neg z, if_neg (by omega)]
  have := key n 0 (by omega)
  rw [show rowL n (fun q => if g q < ((0 : Nat) : Int) then a (g q) else a q) = rowL n a from rowL_congr fun q h0 h1 => by
    have := hg q h0 h1
    rw [if_neg (by omega)]] at this
  exact this
theorem wh_gr {L : Type} {c : List D × D → Tr Bool} {f : List D × D → Tr (Fl (List D × D) (List D × D))} {n : Nat} {G : Nat → List D} {B : Nat → Prop} (hc : ∀ k, k ≤ n → c (G k, .int k) = .ok (decide ((k : Int) < n)))
    (hb : ∀ k, k < n → B k → ∃ j, k < j ∧ j ≤ n ∧ B j ∧ f (G k, .int k) = .ok (.nx (G j, .int j))) : ∀ (fuel k : Nat), n - k < fuel → k ≤ n → B k → whF (L := L) c f fuel (G k, .int k) = .ok (.nx (G n, .int n))
  | 0, k, h, _, _ => absurd h (Nat.not_lt_zero _)
  | fuel + 1, k, h, hk, hB => by
    rw [whF_succ, hc k hk, s_bd]
    by_cases q : k < n
    · obtain ⟨j, h1, h2, h3, e⟩ := hb k q hB
      rw [if_pos (decide_eq_true (by omega)), e, s_bd]
      exact wh_gr hc hb fuel j (by omega) h2 h3
    · have : k = n := by omega
      subst this
      rw [if_neg (by simp)]
def frZ (us : List Int) (n k : Int) : Int := ledL false k (runsL 0 (setI us) n)
def Bd (us : List Int) (n : Int) (k : Int) : Prop := k = n ∨ k ∈ us ∨ ∀ lo hi, Near us 0 (n - 1) k lo hi → (k - lo) % 2 = 0
theorem near_set {us : List Int} {a b p lo hi : Int} : Near (setI us) a b p lo hi ↔ Near us a b p lo hi :=
  ⟨fun ⟨y1, y2, y3, y4, y5, y6, y7⟩ => ⟨y1, y2, y3.imp id mem_setI.mp, y4, y5, y6.imp id mem_setI.mp, fun t h => y7 t (mem_setI.mpr h)⟩, fun ⟨y1, y2, y3, y4, y5, y6, y7⟩ => ⟨y1, y2, y3.imp id mem_setI.mpr, y4, y5, y6.imp id mem_setI.mpr, fun t h => y7 t (mem_setI.mp h)⟩⟩
theorem frZ_at {us : List Int} {n k : Int} (hu : ∀ t ∈ us, 0 ≤ t ∧ t < n) (h0 : 0 ≤ k) (h1 : k < n) : (k ∈ us → frZ us n k = k) ∧ (k ∉ us → ∃ lo hi, Near us 0 (n - 1) k lo hi ∧ frZ us n k = movZ false lo hi k) := by
  obtain ⟨k1, k2⟩ := led_runs (bk := false) (p := k) (n := n) (b := 0) (ris_setI us) (fun t h => hu t (mem_setI.mp h)) h0 h1
  refine ⟨fun h => k1 (mem_setI.mpr h), fun h => ?_⟩
  obtain ⟨lo, hi, hn, e⟩ := k2 fun z => h (mem_setI.mp z)
  exact ⟨lo, hi, near_set.mp hn, e⟩
theorem movF {lo hi k : Int} : movZ false lo hi k = if lo ≤ (if (k - lo) % 2 = 0 then k + 1 else k - 1) ∧ (if (k - lo) % 2 = 0 then k + 1 else k - 1) ≤ hi then (if (k - lo) % 2 = 0 then k + 1 else k - 1) else k := by
  unfold movZ
  simp only [Bool.false_eq_true, if_false]
theorem bd_zero {us : List Int} {n : Int} : Bd us n 0 := .inr (.inr fun lo hi h => by
  have := h.l0
  have := h.l1
  have : lo = 0 := by omega
  subst this
  rfl)
theorem gr_pair {us : List Int} {n k : Int} (hu : ∀ t ∈ us, 0 ≤ t ∧ t < n) (h0 : 0 ≤ k) (h1 : k + 1 < n) (hB : Bd us n k) (a : k ∉ us) (b : k + 1 ∉ us) : frZ us n k = k + 1 ∧ frZ us n (k + 1) = k ∧ Bd us n (k + 2) := by
  obtain ⟨lo, hi, hn, e⟩ := (frZ_at hu h0 (by omega)).2 a
  have ev : (k - lo) % 2 = 0 := by
    rcases hB with z | z | z
    · omega
    · exact absurd z a
    · exact z lo hi hn
  obtain ⟨y1, y2, y3, y4, y5, y6, y7⟩ := id hn
  have hhi : k + 1 ≤ hi := by
    rcases y6 with z | z
    · omega
    · by_cases q : hi = k
      · subst q; exact absurd z b
      · omega
  have hn2 : Near us 0 (n - 1) (k + 1) lo hi := ⟨y1, by omega, y3, y4, hhi, y6, y7⟩
  obtain ⟨lo', hi', hn', e'⟩ := (frZ_at hu (show 0 ≤ k + 1 by omega) h1).2 b
  obtain ⟨u1, u2⟩ := hn'.uniq hn2
  refine ⟨?_, ?_, ?_⟩
  · rw [e, movF, if_pos ev, if_pos (by omega)]
  · rw [e', u1, u2, movF, if_neg (show ¬ (k + 1 - lo) % 2 = 0 by omega), if_pos (by omega)]
    omega
  · by_cases q : k + 2 = n
    · exact .inl q
    · by_cases q2 : k + 2 ∈ us
      · exact .inr (.inl q2)
      · refine .inr (.inr fun lo2 hi2 h2 => ?_)
        have hhi2 : k + 2 ≤ hi := by
          rcases y6 with z | z
          · omega
          · by_cases q3 : hi = k + 1
            · subst q3; exact absurd z (by rw [show k + 1 + 1 = k + 2 by omega]; exact q2)
            · omega
        obtain ⟨v1, v2⟩ := h2.uniq (⟨y1, by omega, y3, y4, hhi2, y6, y7⟩ : Near us 0 (n - 1) (k + 2) lo hi)
        subst v1
        omega
theorem gr_none {us : List Int} {n k : Int} (hu : ∀ t ∈ us, 0 ≤ t ∧ t < n) (h0 : 0 ≤ k) (h1 : k < n) (hB : Bd us n k) (a : ¬ (k ∉ us ∧ k + 1 < n ∧ k + 1 ∉ us)) : frZ us n k = k ∧ Bd us n (k + 1) := by
  by_cases q : k ∈ us
  · refine ⟨(frZ_at hu h0 h1).1 q, .inr (.inr fun lo hi h => ?_)⟩
    have := h.no k q
    have := h.l1
    have := h.h1
    have : lo = k + 1 := by omega
    subst this
    simp
  · obtain ⟨lo, hi, hn, e⟩ := (frZ_at hu h0 h1).2 q
    have ev : (k - lo) % 2 = 0 := by
      rcases hB with z | z | z
      · omega
      · exact absurd z q
      · exact z lo hi hn
    obtain ⟨y1, y2, y3, y4, y5, y6, y7⟩ := id hn
    have hb : k + 1 = n ∨ k + 1 ∈ us := by
      by_cases z1 : k + 1 = n
      · exact .inl z1
      · by_cases z2 : k + 1 ∈ us
        · exact .inr z2
        · exact absurd ⟨q, by omega, z2⟩ a
    have hhi : hi = k := by
      rcases hb with z | z
      · omega
      · have := y7 _ z
        omega
    refine ⟨?_, hb.elim .inl fun z => .inr (.inl z)⟩
    rw [e, movF, if_pos ev, if_neg (by omega)]
end Gp
end
section
namespace Gp
open PySem
inductive Dp {α : Type} (a : α) : Type
  | u
def bdk {α β : Type} (x : Tr α) (f : α → Tr β) (u : Dp f := .u) : Tr β := bd x f
def bdFk {W W' L : Type} (x : Tr (Fl W' L)) (k : W' → Tr (Fl W L)) (u : Dp k := .u) : Tr (Fl W L) := bdF x k
def forFk {W L : Type} (f : D → W → Tr (Fl W W)) (ds : List D) (w : W) (u : Dp f := .u) : Tr (Fl W L) := forF f ds w
theorem k_bd {α β : Type} (a : α) (k : α → Tr β) (u : Dp k) : bdk (.ok a) k u = k a := rfl
theorem k_bdx {α β : Type} (c : Str) (fs : Fs) (k : α → Tr β) (u : Dp k) : bdk (.ex c fs) k u = .ex c fs := rfl
theorem k_bdd {α β : Type} (m : Int) (f : Int → Tr α) (k : α → Tr β) (u : Dp k) : bdk (.draw m f) k u = .draw m fun d => bdk (f d) k := rfl
theorem k_bdF {W W' L : Type} (w : W') (k : W' → Tr (Fl W L)) (u : Dp k) : bdFk (.ok (.nx w)) k u = k w := rfl
theorem k_bdFr {W W' L : Type} (d : D) (k : W' → Tr (Fl W L)) (u : Dp k) : bdFk (.ok (.rt d)) k u = .ok (.rt d) := rfl
theorem k_bdFx {W W' L : Type} (c : Str) (fs : Fs) (k : W' → Tr (Fl W L)) (u : Dp k) : bdFk (.ex c fs) k u = .ex c fs := rfl
theorem k_bdFd {W W' L : Type} (m : Int) (f : Int → Tr (Fl W' L)) (k : W' → Tr (Fl W L)) (u : Dp k) : bdFk (.draw m f) k u = .draw m fun d => bdFk (f d) k := rfl
theorem k_bdbd {α β γ : Type} (m : Tr α) (k : α → Tr β) (u : Dp k) (l : β → Tr γ) (v : Dp l) : bdk (bdk m k u) l v = bdk m fun a => bdk (k a) l := bd_bd ..
theorem k_finbd {α : Type} (m : Tr α) (k : α → Tr (Fl Unit Empty)) (u : Dp k) : fin (bdk m k u) = bdk m fun a => fin (k a) := bd_bd ..
theorem k_bdFbd {α W W' L : Type} (m : Tr α) (f : α → Tr (Fl W' L)) (u : Dp f) (k : W' → Tr (Fl W L)) (v : Dp k) : bdFk (bdk m f u) k v = bdk m fun a => bdFk (f a) k := bd_bd ..
theorem k_for {W L : Type} (f : D → W → Tr (Fl W W)) (ds : List D) (w : W) (u : Dp f) : forFk (L := L) f ds w u = forF f ds w := rfl
theorem bk_thenB {α β : Type} {P : α → Prop} {Q : β → Prop} {m : Tr α} {k : α → Tr β} {u : Dp k} {a b n : Nat} (h : Bo P m a) (hk : ∀ x, P x → Bx Q (k x) b) (l : a + b ≤ n) : Bx Q (bdk m k u) n := bx_then h hk l
theorem bk_loopU {f : D → Unit → Tr (Fl Unit Unit)} {u : Dp f} {ds : List D} {K : Unit → Tr (Fl Unit Empty)} {v : Dp K} {Q : D → Prop} {c b n : Nat} (h : ∀ d ∈ ds, Bx (fun r : Fl Unit Unit => r = .nx ()) (f d ()) c) (hk : Bx Q (fin (K ())) b) (l : c * ds.length + b ≤ n) : Bx Q (fin (bdFk (forFk f ds () u) K v)) n := bx_loopU h hk l
end Gp
end
section
set_option maxHeartbeats 1000000
namespace Gp
open PySem PyProof.Rows L2
theorem z0L : (0 ≤ sizeLine) = True := eq_true (by decide)
theorem z1L : (1 ≤ sizeLine) = True := eq_true (by decide)
theorem z2L : (2 ≤ sizeLine) = True := eq_true (by decide)
theorem z3L : (3 ≤ sizeLine) = True := eq_true (by decide)
theorem z4L : (4 ≤ sizeLine) = True := eq_true (by decide)
theorem z5L : (5 ≤ sizeLine) = True := eq_true (by decide)
theorem z6L : (6 ≤ sizeLine) = True := eq_true (by decide)
theorem z7L : (7 ≤ sizeLine) = True := eq_true (by decide)
theorem z8L : (8 ≤ sizeLine) = True := eq_true (by decide)
theorem z9L : (9 ≤ sizeLine) = True := eq_true (by decide)
theorem z10L : (10 ≤ sizeLine) = True := eq_true (by decide)
theorem z11L : (11 ≤ sizeLine) = True := eq_true (by decide)
theorem z12L : (12 ≤ sizeLine) = True := eq_true (by decide)
theorem z0l : (0 < sizeLine) = True := eq_true (by decide)
theorem z1l : (1 < sizeLine) = True := eq_true (by decide)
theorem z2l : (2 < sizeLine) = True := eq_true (by decide)
theorem z3l : (3 < sizeLine) = True := eq_true (by decide)
theorem z4l : (4 < sizeLine) = True := eq_true (by decide)
theorem l_finx (c : Str) (fs : Fs) : fin (.ex c fs) = .ex c fs := rfl
theorem l_finIx (c : Str) (fs : Fs) : finI (.ex c fs) = .ex c fs := rfl
theorem l_finI (fs : Fs) : finI (.ok (.nx fs)) = .ok fs := rfl
theorem l_asI (d : Int) : asI (.int d) = .ok (some d) := rfl
theorem l_un2 {α : Type} (x y : D) (k : D → D → Tr α) : un2 (.tup [x, y]) k = k x y := rfl
theorem l_un3 {α : Type} (x y z : D) (k : D → D → D → Tr α) : un3 (.tup [x, y, z]) k = k x y z := rfl
theorem l_un4 {α : Type} (x y z w : D) (k : D → D → D → D → Tr α) : un4 (.tup [x, y, z, w]) k = k x y z w := rfl
theorem l_ne (i j : Int) : neD (.int i) (.int j) = .ok (.bl (!decide (i = j))) := rfl
theorem l_nes (i j : Str) : neD (.str i) (.str j) = .ok (.bl (!decide (i = j))) := rfl
theorem l_neb (i j : Bool) : neD (.bl i) (.bl j) = .ok (.bl (!decide (i = j))) := rfl
theorem l_gt (i j : Int) : gtD (.int i) (.int j) = .ok (.bl (decide (j < i))) := rfl
theorem l_at {ds : List D} {n : Nat} {a : D} (h : ds[n]? = some a) : atI ds (n : Int) = some a := by
  have hn : n < ds.length := by
    rcases Nat.lt_or_ge n ds.length with h1 | h1
    · exact h1
    · rw [List.getElem?_eq_none h1] at h
      cases h
  unfold atI ixN
  rw [if_pos (Int.natCast_nonneg n), if_pos (by omega)]
  exact h
theorem l_ixl {ds : List D} {n : Nat} {a : D} (h : ds[n]? = some a) : ixD (.lst ds) (.int (n : Int)) = .ok a := by
  unfold ixD
  dsimp only
  rw [l_at h]
theorem l_ixt {ds : List D} {n : Nat} {a : D} (h : ds[n]? = some a) : ixD (.tup ds) (.int (n : Int)) = .ok a := by
  unfold ixD
  dsimp only
  rw [l_at h]
theorem l_ix0 (a : D) (r : List D) : ixD (.lst (a :: r)) (.int 0) = .ok a := l_ixl (n := 0) rfl
theorem l_ix1 (a b : D) (r : List D) : ixD (.lst (a :: b :: r)) (.int 1) = .ok b := l_ixl (n := 1) rfl
theorem l_ix2 (a b c : D) (r : List D) : ixD (.lst (a :: b :: c :: r)) (.int 2) = .ok c := l_ixl (n := 2) rfl
theorem l_ix3 (a b c d : D) (r : List D) : ixD (.lst (a :: b :: c :: d :: r)) (.int 3) = .ok d := l_ixl (n := 3) rfl
theorem l_it0 (a : D) (r : List D) : ixD (.tup (a :: r)) (.int 0) = .ok a := l_ixt (n := 0) rfl
theorem l_it1 (a b : D) (r : List D) : ixD (.tup (a :: b :: r)) (.int 1) = .ok b := l_ixt (n := 1) rfl
theorem l_it2 (a b c : D) (r : List D) : ixD (.tup (a :: b :: c :: r)) (.int 2) = .ok c := l_ixt (n := 2) rfl
theorem l_it3 (a b c d : D) (r : List D) : ixD (.tup (a :: b :: c :: d :: r)) (.int 3) = .ok d := l_ixt (n := 3) rfl
end Gp
end
section
namespace Lw
open PySem Gp Gh Gz
def L_Row___eq__ (self other : D) : Tr D :=
  fin (bdk (bdk (bdk (bdk (.ok other) fun d => bdk (opt (isi_Row d)) fun k => .ok (.bl k)) asB) fun k => if k = true then (bdk (bdk (.ok self) (fldD "Row" "own_items")) fun v1 => (bdk (bdk (.ok other) (fldD "Row" "own_items")) fun v2 => eqD v1 v2)) else .ok (.bl false)) fun d => .ok (.rt d))
theorem lz_Row___eq__ : F_Row___eq__ = L_Row___eq__ := rfl
def L_Row_led_by (self thing : D) : Tr Fs :=
  (bdk (bdk (bdk (.ok self) fun o8 => (isO "Row" o8 fun fs => if fs.lookup ("led" : Str) = none then bdk (bdk (.ok thing) fun v6 => (bdk (.ok []) fun r7 => .ok (v6 :: r7))) fun ds => (ul2 F_Row_led) (o8 :: ds) else .bad)) fun v9 => (bdk (.ok []) fun r10 => .ok (v9 :: r10))) fun ds => (fun fs => ul1 (F_Row___init__ fs)) [] (ds ++ []))
theorem lz_Row_led_by : F_Row_led_by = L_Row_led_by := rfl
def L_Row_do (fs : Fs) (thing : D) : Tr (D × Fs) :=
  (bdT (W' := Fs) (bdk (vwA noO (bdk (.ok (.obj "Row" fs)) fun o4 => (isO "Row" o4 fun fs => if fs.lookup ("led" : Str) = none then bdk (bdk (.ok thing) fun v2 => (bdk (.ok []) fun r3 => .ok (v2 :: r3))) fun ds => (ul2 F_Row_led) (o4 :: ds) else .bad))) fun own_items5 => if fs.length < 900 then (.ok (.nx (putD "own_items" own_items5 fs))) else .bad) (fun (w1 : Fs) => (.ok (.non, w1))))
theorem lz_Row_do : F_Row_do = L_Row_do := rfl
def L_Row___imul__ (fs : Fs) (thing : D) : Tr Fs :=
  (bdN (W' := Fs × Fs) (bdP (if fs.lookup ("do" : Str) = none then bdk (bdk (.ok thing) fun v2 => (bdk (.ok []) fun r3 => .ok (v2 :: r3))) fun ds => (fun fs => ul1 (F_Row_do fs)) fs (ds ++ []) else .bad) fun _ fs4 => (.ok (.nx (fs4, fs4)))) (fun (w1 : Fs × Fs) => (.ok w1.2)))
theorem lz_Row___imul__ : F_Row___imul__ = L_Row___imul__ := rfl
def L__law_item (l_pen_here : D) : Tr D :=
  fin (bdk (bdk (bdk (.ok (.int 0)) fun v24 => (bdk (bdk (.ok (.int 1)) fun v22 => (bdk (bdk (bdk (.ok (.int 1)) negD) fun v20 => (bdk (bdk (.ok (.int 7)) fun v18 => (bdk (bdk (.ok (.int 7)) fun v16 => (bdk (bdk (bdk (bdk (.ok l_pen_here) fun v4 => (bdk (bdk (.ok (.int 10)) fun v2 => (bdk (.ok []) fun r3 => .ok (v2 :: r3))) fun r5 => .ok (v4 :: r5))) (ul2 F_draw)) fun v14 => (bdk (bdk (bdk (.ok (.int 1000000000000000000000000000000)) fun v6 => (bdk (.ok (.int 1)) fun v7 => subD v6 v7)) fun v12 => (bdk (bdk (bdk (.ok (.int 1)) fun v8 => (bdk (.ok (.int 1000000000000000000000000000000)) fun v9 => subD v8 v9)) fun v10 => (bdk (.ok []) fun r11 => .ok (v10 :: r11))) fun r13 => .ok (v12 :: r13))) fun r15 => .ok (v14 :: r15))) fun r17 => .ok (v16 :: r17))) fun r19 => .ok (v18 :: r19))) fun r21 => .ok (v20 :: r21))) fun r23 => .ok (v22 :: r23))) fun r25 => .ok (v24 :: r25))) fun ds => if ds.length ≤ sizeLine then .ok (.lst ds) else .bad) fun l_some0 => (bdk (bdk (bdk (.ok l_pen_here) fun v44 => (bdk (bdk (bdk (.ok l_some0) fun v40 => (bdk (bdk (bdk (bdk (.ok (.int 0)) fun v30 => (bdk (bdk (bdk (.ok l_pen_here) fun v28 => (bdk (bdk (.ok (.int 10)) fun v26 => (bdk (.ok []) fun r27 => .ok (v26 :: r27))) fun r29 => .ok (v28 :: r29))) (ul2 F_draw)) fun v31 => subD v30 v31)) fun v38 => (bdk (bdk (bdk (bdk (.ok l_pen_here) fun v34 => (bdk (bdk (.ok (.int 1000000000000000000000000000000)) fun v32 => (bdk (.ok []) fun r33 => .ok (v32 :: r33))) fun r35 => .ok (v34 :: r35))) (ul2 F_draw)) fun v36 => (bdk (.ok []) fun r37 => .ok (v36 :: r37))) fun r39 => .ok (v38 :: r39))) fun ds => if ds.length ≤ sizeLine then .ok (.lst ds) else .bad) fun v41 => addD v40 v41)) fun v42 => (bdk (.ok []) fun r43 => .ok (v42 :: r43))) fun r45 => .ok (v44 :: r45))) (ul2 F__law_pick)) fun d => .ok (.rt d)))
theorem lz__law_item : F__law_item = L__law_item := rfl
def L__law_behind (l_items l_part_here : D) : Tr D :=
  fin (bdk (bdk (.ok l_items) listL) fun l_found0 => (bdFk (bdk (bdk (bdk (bdk (.ok l_part_here) fun v6 => (bdk (bdk (bdk (bdk (.ok l_items) fun v2 => (bdk (.ok []) fun r3 => .ok (v2 :: r3))) (ul1 lenD)) fun v4 => (bdk (.ok []) fun r5 => .ok (v4 :: r5))) fun r7 => .ok (v6 :: r7))) (ul2 F__law_pairs)) itD) fun ds => forFk (fun (d9 : D) (w8 : List D) => (un2 d9 fun l_one9 l_other9 => (bdk (bdk (bdk (bdk (.ok l_items) fun v11 => (bdk (.ok l_other9) fun v12 => ixD v11 v12)) fun v17 => (bdk (bdk (bdk (.ok l_items) fun v13 => (bdk (.ok l_one9) fun v14 => ixD v13 v14)) fun v15 => (bdk (.ok []) fun r16 => .ok (v15 :: r16))) fun r18 => .ok (v17 :: r18))) fun ds => if ds.length ≤ sizeLine then .ok (.tup ds) else .bad) fun v19 => un2 v19 fun v20 v21 => (bdk (.ok l_one9) fun v22 => bdk (setD w8 v22 v20) fun l_found23a => bdk (.ok l_other9) fun v23 => bdk (setD l_found23a v23 v21) fun l_found23b => (.ok (.nx l_found23b)))))) ds l_found0) fun (w8 : List D) => (bdk (.ok (.lst w8)) fun d => .ok (.rt d))))
theorem lz__law_behind : F__law_behind = L__law_behind := rfl
def L__law_step (l_pen_here : D) (fs : Fs) (l_items l_part_here : D) : Tr Fs :=
  (bdN (W' := D × D) (bdk (bdk (bdk (bdk (.ok l_pen_here) fun v4 => (bdk (bdk (.ok (.int 3)) fun v2 => (bdk (.ok []) fun r3 => .ok (v2 :: r3))) fun r5 => .ok (v4 :: r5))) (ul2 F_draw)) fun v10 => (bdk (bdk (bdk (bdk (.ok l_part_here) fun v6 => (bdk (.ok []) fun r7 => .ok (v6 :: r7))) (ul1 F__law_made)) fun v8 => (bdk (.ok []) fun r9 => .ok (v8 :: r9))) fun r11 => .ok (v10 :: r11))) (ul2 fun l_way11 l_change11 => (.ok (.nx (l_way11, l_change11))))) (fun (w1 : D × D) => (bdk (bdk (bdk (.ok w1.1) fun v13 => (bdk (.ok (.int 0)) fun v14 => eqD v13 v14)) asB) fun k => if k = true then (bdN (W' := Fs) (bdk (vwA (fun (r : Fs) => r.all fun z => noO z.2) (bdk (.ok (.obj "Row" fs)) fun o18 => isO "Row" o18 fun fs => if fs.lookup ("led_by" : Str) = none then bdk (bdk (.ok w1.2) fun v16 => (bdk (.ok []) fun r17 => .ok (v16 :: r17))) fun ds => (ul2 F_Row_led_by) (o18 :: ds) else .bad)) fun (fs19 : Fs) => (.ok (.nx fs19))) (fun (w15 : Fs) => (bdk (vwA tt1 (vwA tt1 (bdk (bdk (bdk (nox (bdk (.ok (.obj "Row" fs)) fun o20 => (isO "Row" o20 fun _ => (ul1 F_Row_contents) [o20]))) fun v23 => (bdk (bdk (bdk (.ok l_items) fun v21 => (bdk (.ok []) fun r22 => .ok (v21 :: r22))) (ul1 tupD)) fun v24 => eqD v23 v24)) asB) fun k => if k = true then (bdk (bdk (bdk (.ok (.obj "Row" fs)) fun o27 => (isO "Row" o27 fun fs => if fs.lookup ("led_by" : Str) = none then bdk (.ok []) fun ds => bdk (bdk (.ok w1.2) fun v25 => (bdk (.ok []) fun r26 => .ok (v25 :: r26))) fun es => (kwD 1 1 [.inl 0] [] (fun ds => bdk ((ul2 F_Row_led_by) ds) fun fs => .ok (.obj "Row" fs))) (o27 :: ds) es else .bad)) fun v28 => (bdk (.ok (.obj "Row" w15)) fun v29 => eqO "Row" eqr_Row (ul2 F_Row___eq__) v28 v29)) asB) else .ok false))) fun b => if b = true then .ok w15 else .bad))) else (bdk (bdk (bdk (.ok w1.1) fun v30 => (bdk (.ok (.int 1)) fun v31 => eqD v30 v31)) asB) fun k => if k = true then (bdP (if fs.lookup ("do" : Str) = none then bdk (bdk (.ok w1.2) fun v32 => (bdk (.ok []) fun r33 => .ok (v32 :: r33))) fun ds => (fun fs => ul1 (F_Row_do fs)) fs (ds ++ []) else .bad) fun d fs' => if isN d = true then .ok fs' else .bad) else (bdk (.ok w1.2) fun y34 => bdk ((fun fs => ul1 (F_Row___imul__ fs)) fs [y34]) fun (fs35 : Fs) => bdk (vwA tt1 (bdk (bdk (bdk (.ok (.obj "Row" fs35)) fun v37 => (bdk (.ok (.obj "Row" fs35)) fun v38 => eqO "Row" eqr_Row (ul2 F_Row___eq__) v37 v38)) asB) fun k => if k = true then (bdk (bdk (nox (bdk (.ok (.obj "Row" fs35)) fun o39 => (isO "Row" o39 fun _ => (ul1 F_Row_contents) [o39]))) fun v41 => (bdk (nox (bdk (.ok (.obj "Row" fs35)) fun o40 => (isO "Row" o40 fun _ => (ul1 F_Row_contents) [o40]))) fun v42 => eqD v41 v42)) asB) else .ok false)) fun k36 => if k36 = true then .ok fs35 else .bad)))))
theorem lz__law_step : F__law_step = L__law_step := rfl
def L_law : Tr D :=
  fin (bdFk (bdk (bdk (bdk (.ok (.int 4)) fun v1 => (bdk (.ok []) fun r2 => .ok (v1 :: r2))) (ul1 rg1)) fun ds => forFk (fun (d4 : D) (w3 : Unit) => (bdk (bdk (bdk (bdk (bdk (.ok (.int 1)) fun v11 => (bdk (bdk (bdk (.ok .pen) fun v9 => (bdk (bdk (.ok (.int 9)) fun v7 => (bdk (.ok []) fun r8 => .ok (v7 :: r8))) fun r10 => .ok (v9 :: r10))) (ul2 F_draw)) fun v12 => addD v11 v12)) fun v13 => (bdk (.ok []) fun r14 => .ok (v13 :: r14))) (ul1 rg1)) fun ds => bdk (lcF (fun l_k14 => nox (bdk (bdk (bdk (.ok .pen) fun v16 => (bdk (.ok []) fun r17 => .ok (v16 :: r17))) (ul1 F__law_item)) fun y => .ok (some y))) ds) fun r => .ok (.lst r)) fun l_items5 => (bdk (bdk (bdk (.ok l_items5) fun v20 => (bdk (.ok []) fun r21 => .ok (v20 :: r21))) fun ds => (fun fs => ul1 (F_Row___init__ fs)) [] (ds ++ [])) fun (fs27 : Fs) => bdk (bdk (bdk (bdk (bdk (.ok l_items5) itD) fun ds => bdk (lcF (fun l_item_here21 => nox (bdk (bdk (bdk (.ok l_item_here21) fun v23 => (bdk (.ok []) fun r24 => .ok (v23 :: r24))) (ul1 intD)) fun y => .ok (some y))) ds) fun r => .ok (.lst r)) fun v25 => (bdk (.ok []) fun r26 => .ok (v25 :: r26))) (ul1 sortD)) fun (v28 : D) => (bdFk (bdk (bdk (bdk (bdk (bdk (.ok .pen) fun v31 => (bdk (bdk (.ok (.int 9)) fun v29 => (bdk (.ok []) fun r30 => .ok (v29 :: r30))) fun r32 => .ok (v31 :: r32))) (ul2 F_draw)) fun v33 => (bdk (.ok []) fun r34 => .ok (v33 :: r34))) (ul1 rg1)) fun ds => forFk (fun (d36 : D) (w35 : D × Fs) => (bdk (bdk (bdk (.ok .pen) fun v39 => (bdk (.ok []) fun r40 => .ok (v39 :: r40))) (ul1 F__law_part)) fun l_part_here37 => (bdk (.ok .pen) fun v41 => bdk (.ok w35.1) fun v42 => bdk (.ok l_part_here37) fun v43 => bdk (nox (F__law_step v41 w35.2 v42 v43)) fun (fs44 : Fs) => (bdk (bdk (bdk (.ok w35.1) fun v48 => (bdk (bdk (.ok l_part_here37) fun v46 => (bdk (.ok []) fun r47 => .ok (v46 :: r47))) fun r49 => .ok (v48 :: r49))) (ul2 F__law_behind)) fun l_items44 => (bdFk (W' := Unit) (bdk (vwA tt1 (bdk (bdk (bdk (.ok (.obj "Row" fs44)) fun (v50 : D) => (bdk (.ok .non) fun (v51 : D) => (match v51 with | .non => .ok (.bl (isN v50)) | _ => .bad))) asB) fun k => if k = true then .ok true else (bdk (bdk (nox (bdk (.ok (.obj "Row" fs44)) fun o52 => (isO "Row" o52 fun _ => (ul1 F_Row_contents) [o52]))) fun v55 => (bdk (bdk (bdk (.ok l_items44) fun v53 => (bdk (.ok []) fun r54 => .ok (v53 :: r54))) (ul1 tupD)) fun v56 => neD v55 v56)) asB))) fun k => if k = true then (bdk (.ok (.bl false)) fun d => .ok (.rt d)) else (.ok (.nx ()))) fun (w57 : Unit) => (bdFk (W' := Unit) (bdk (vwA tt1 (bdk (bdk (bdk (bdk (bdk (bdk (nox (bdk (.ok (.obj "Row" fs44)) fun o58 => (isO "Row" o58 fun _ => (ul1 F_Row_contents) [o58]))) itD) fun ds => bdk (lcF (fun l_item_here58 => nox (bdk (bdk (bdk (.ok l_item_here58) fun v60 => (bdk (.ok []) fun r61 => .ok (v60 :: r61))) (ul1 intD)) fun y => .ok (some y))) ds) fun r => .ok (.lst r)) fun v62 => (bdk (.ok []) fun r63 => .ok (v62 :: r63))) (ul1 sortD)) fun v64 => (bdk (.ok v28) fun v65 => neD v64 v65)) asB)) fun k => if k = true then (bdk (.ok (.bl false)) fun d => .ok (.rt d)) else (.ok (.nx ()))) fun (w66 : Unit) => (bdFk (W' := Unit) (bdk (vwA tt1 (bdk (bdk (bdk (bdk (.ok (.obj "Row" fs44)) fun o71 => (isO "Row" o71 fun fs => if fs.lookup ("led_by" : Str) = none then bdk (bdk (bdk (bdk (.ok l_part_here37) fun v67 => (bdk (.ok []) fun r68 => .ok (v67 :: r68))) (ul1 F__law_made)) fun v69 => (bdk (.ok []) fun r70 => .ok (v69 :: r70))) fun ds => (fun ds => bdk ((ul2 F_Row_led_by) ds) fun fs => .ok (.obj "Row" fs)) (o71 :: ds) else .bad)) fun o76 => (isO "Row" o76 fun fs => if fs.lookup ("led_by" : Str) = none then bdk (bdk (bdk (bdk (.ok l_part_here37) fun v72 => (bdk (.ok []) fun r73 => .ok (v72 :: r73))) (ul1 F__law_made)) fun v74 => (bdk (.ok []) fun r75 => .ok (v74 :: r75))) fun ds => (fun ds => bdk ((ul2 F_Row_led_by) ds) fun fs => .ok (.obj "Row" fs)) (o76 :: ds) else .bad)) fun v77 => (bdk (.ok (.obj "Row" fs44)) fun v78 => neO "Row" eqr_Row (ul2 F_Row___eq__) v77 v78)) asB)) fun k => if k = true then (bdk (.ok (.bl false)) fun d => .ok (.rt d)) else (.ok (.nx ()))) fun (w79 : Unit) => (.ok (.nx (l_items44, fs44)))))))))) ds (l_items5, fs27)) fun (w35 : D × Fs) => (.ok (.nx ())))))) ds ()) fun (w3 : Unit) => (bdk (.ok (.bl true)) fun d => .ok (.rt d)))
theorem lz_law : F_law = L_law := rfl
end Lw
end
section
set_option maxHeartbeats 1000000
namespace Gp
open PySem
end Gp
namespace Gp
open PySem
theorem bx_forI {W L : Type} {f : D → W → Tr (Fl W W)} {I : W → Prop} {c : Nat} : ∀ {ds : List D} {w : W}, (∀ d ∈ ds, ∀ w, I w → Bx (fun r => ∃ w', r = .nx w' ∧ I w') (f d w) c) → I w → Bx (fun r : Fl W L => ∃ w', r = .nx w' ∧ I w') (forF f ds w) (c * ds.length)
  | [], w, _, h => bx_ok ⟨w, rfl, h⟩
  | d :: r, w, h, hw => by
    rw [forF_cons]
    refine bx_thenX (b := c * r.length) (h d List.mem_cons_self w hw) (fun x hx => ?_) (by rw [List.length_cons, Nat.mul_succ]; omega)
    obtain ⟨v, rfl, hv⟩ := hx
    exact bx_forI (fun y hy => h y (List.mem_cons_of_mem _ hy)) hv
theorem bk_loopJ {W W2 L : Type} {f : D → W → Tr (Fl W W)} {u : Dp f} {ds : List D} {w : W} {K : W → Tr (Fl W2 L)} {v : Dp K} {I : W → Prop} {Q : Fl W2 L → Prop} {c b n : Nat} (h : ∀ d ∈ ds, ∀ w, I w → Bx (fun r => ∃ w', r = .nx w' ∧ I w') (f d w) c) (hw : I w) (hk : ∀ w, I w → Bx Q (K w) b) (l : c * ds.length + b ≤ n) : Bx Q (bdFk (forFk f ds w u) K v) n := by
  unfold bdFk forFk bdF
  refine bx_thenX (bx_forI h hw) (fun r hr => ?_) l
  obtain ⟨w', rfl, hw'⟩ := hr
  exact hk w' hw'
end Gp
namespace Gp
open PySem
end Gp
end
section
namespace Lw
open PySem Gp
abbrev N40 : Int := 10000000000000000000000000000000000000000
@[simp] theorem isi_int_int (i : Int) : isi_int (.int i) = some true := rfl
@[simp] theorem isi_bool_int (i : Int) : isi_bool (.int i) = some false := rfl
@[simp] theorem isi_bool_bl (i : Bool) : isi_bool (.bl i) = some true := rfl
@[simp] theorem isi_str_str (i : Str) : isi_str (.str i) = some true := rfl
theorem q_is_integer (i : Int) : F_is_integer (.int i) = .ok (.bl true) := by simp [F_is_integer]
theorem q_is_within (i a b : Int) : F_is_within (.int i) (.int a) (.int b) = .ok (.bl (decide (a ≤ i ∧ i ≤ b))) := by
  simp only [F_is_within, s_bd, s_ul1, q_is_integer, s_asB, if_true, s_le, s_finr]
  by_cases h : a ≤ i <;> simp [h]
theorem q_need_length {n : Int} (h : 1 ≤ n ∧ n ≤ N40) : F_need_length (.int n) = .ok .non := by
  simp [F_need_length, F_is_length, q_is_within, h]
theorem q_need_place {n p : Int} (h : 1 ≤ n ∧ n ≤ N40) (hp : 0 ≤ p ∧ p < n) : F_need_place (.int n) (.int p) = .ok .non := by
  have e : 0 ≤ p ∧ p ≤ n - 1 := by omega
  simp [F_need_place, q_need_length h, q_is_within, e]
def spanD (h m o : Int) : D := .obj "Span" [("own_parts", .tup [.int h, .int m, .int o])]
def spOk (h m o : Int) : Prop := (0 ≤ h ∧ h ≤ 8) ∧ (-60 ≤ m ∧ m ≤ 60) ∧ (-9 ≤ o ∧ o ≤ 9)
def numZ (h m o n : Int) : Int := h * (n / 2) + o * (n % 2) + m
@[simp] theorem isO_span {α : Type} (h m o : Int) (k : Fs → Tr α) : isO "Span" (spanD h m o) k = k [("own_parts", .tup [.int h, .int m, .int o])] := s_isO _ _ _
def stfs (f : Int) (sp : D) (sd : Str) (late : Bool) : Fs := [("side", .str sd), ("first", .int f), ("span", sp), ("late", .bl late)]
def strD (f : Int) (sp : D) (sd : Str) (late : Bool) : D := .obj "Stretch" (stfs f sp sd late)
@[simp] theorem isO_str {α : Type} (f : Int) (sp : D) (sd : Str) (late : Bool) (k : Fs → Tr α) : isO "Stretch" (strD f sp sd late) k = k (stfs f sp sd late) := s_isO _ _ _
def cntZ (h m o n : Int) : Int := if 0 < numZ h m o n then numZ h m o n else 0
def begZ (f c : Int) (late : Bool) : Int := if late = true ∧ c % 2 = 0 then 1 - f else f
def kindZ (f c n : Int) (sd : Str) (late : Bool) : Int := if sd = "back" ∧ n % 2 = 1 then 1 - begZ f c late else begZ f c late
def toZ (f h m o : Int) (sd : Str) (late : Bool) (n p : Int) : Int := placeZ n (behZ n (kindZ f (cntZ h m o n) n sd late) (cntZ h m o n) (seatZ n p))
end Lw
end
section
set_option maxHeartbeats 400000
namespace Gp
open PySem
@[simp] theorem s_lent (ds : List D) : lenD (.tup ds) = .ok (.int ds.length) := rfl
@[simp] theorem s_tupl (ds : List D) : tupD (.lst ds) = .ok (.tup ds) := rfl
@[simp] theorem s_tupt (ds : List D) : tupD (.tup ds) = .ok (.tup ds) := rfl
theorem s_lsI (ns : List Int) (k : List Int → Tr D) : lsI (.lst (ns.map D.int)) k = k ns := by
  unfold lsI
  dsimp only
  rw [intsD_map]
theorem lc_ints {f : D → Tr (Option D)} {g : Int → Int} : ∀ {ps : List Int}, (∀ p ∈ ps, f (.int p) = .ok (some (.int (g p)))) → lcF f (ps.map D.int) = .ok ((ps.map g).map D.int)
  | [], _ => rfl
  | p :: r, h => by
    rw [List.map_cons, lcF_cons, h p List.mem_cons_self, s_bd, lc_ints fun x hx => h x (List.mem_cons_of_mem _ hx)]
    rfl
theorem lc_id {f : D → Tr (Option D)} {ps : List Int} (h : ∀ p ∈ ps, f (.int p) = .ok (some (.int p))) : lcF f (ps.map D.int) = .ok (ps.map D.int) := by
  have := lc_ints (g := id) h
  rwa [List.map_id] at this
theorem lc_fil {f : D → Tr (Option D)} {c : Int → Bool} {g : Int → Int} : ∀ {ps : List Int}, (∀ p ∈ ps, f (.int p) = .ok (if c p = true then some (.int (g p)) else none)) → lcF f (ps.map D.int) = .ok (((ps.filter c).map g).map D.int)
  | [], _ => rfl
  | p :: r, h => by
    rw [List.map_cons, lcF_cons, h p List.mem_cons_self, s_bd, lc_fil fun x hx => h x (List.mem_cons_of_mem _ hx), s_bd, List.filter_cons]
    by_cases q : c p = true
    · rw [if_pos q, if_pos q]
      rfl
    · rw [if_neg q, if_neg q]
theorem lc_bls {f : D → Tr (Option D)} {g : Int → Bool} : ∀ {ps : List Int}, (∀ p ∈ ps, f (.int p) = .ok (some (.bl (g p)))) → lcF f (ps.map D.int) = .ok ((ps.map g).map D.bl)
  | [], _ => rfl
  | p :: r, h => by
    rw [List.map_cons, lcF_cons, h p List.mem_cons_self, s_bd, lc_bls fun x hx => h x (List.mem_cons_of_mem _ hx)]
    rfl
theorem s_allB (bs : List Bool) : allD (.lst (bs.map D.bl)) = .ok (.bl (bs.all id)) := by
  unfold allD lsB
  dsimp only
  rw [blsD_map]
theorem s_lenS {ns : List Int} (h : ns.length ≤ 4000) : lenSD (.lst (ns.map D.int)) = .ok (.int (setI ns).length) := by
  unfold lenSD
  rw [s_lsI, if_pos h]
theorem s_sortS {ns : List Int} (h : ns.length < 64) : sortSD (.lst (ns.map D.int)) = .ok (.lst ((setI ns).map D.int)) := by
  unfold sortSD
  rw [s_lsI, if_pos h]
theorem s_sortD {ns : List Int} : sortD (.lst (ns.map D.int)) = .ok (.lst ((sortI ns).map D.int)) := by
  unfold sortD
  rw [s_lsI]
end Gp
namespace Lw
open PySem Gp
structure Told (f : List Int) : Prop where
  rng : ∀ x ∈ f, 0 ≤ x ∧ x ≤ 15
  asc : f.Pairwise (· < ·)
  len : f.length ≤ 8
def chfs (f b : List Int) (sd : Str) : Fs := [("side", .str sd), ("front", .tup (f.map D.int)), ("back", .tup (b.map D.int))]
def chgD (f b : List Int) (sd : Str) : D := .obj "Change" (chfs f b sd)
@[simp] theorem isO_chg {α : Type} (f b : List Int) (sd : Str) (k : Fs → Tr α) : isO "Change" (chgD f b sd) k = k (chfs f b sd) := s_isO _ _ _
theorem fld_front (f b : List Int) (sd : Str) : fldD "Change" "front" (chgD f b sd) = .ok (.tup (f.map D.int)) := rfl
theorem fld_back (f b : List Int) (sd : Str) : fldD "Change" "back" (chgD f b sd) = .ok (.tup (b.map D.int)) := rfl
theorem fld_cside (f b : List Int) (sd : Str) : fldD "Change" "side" (chgD f b sd) = .ok (.str sd) := rfl
def toldL (f b : List Int) (n : Int) : List Int := f.filter (fun x => decide (x < n)) ++ (b.filter fun x => decide (x < n)).map fun x => n - 1 - x
theorem q_places_told {f b : List Int} {sd : Str} {n : Int} (hf : Told f) (hb : Told b) : F_Change_places_told (chgD f b sd) (.int n) = .ok (.lst ((setI (toldL f b n)).map D.int)) := by
  have e1 : lcF (fun d => nox (bd (bd (ltD d (.int n)) asB) fun k => if k = true then .ok (some d) else .ok none)) (f.map D.int) = .ok (((f.filter fun x => decide (x < n)).map id).map D.int) := lc_fil fun p _ => by
    simp only [s_lt, s_bd, s_asB]
    by_cases q : p < n <;> simp [q]
  have e2 : lcF (fun d => nox (bd (bd (ltD d (.int n)) asB) fun k => if k = true then bd (subD (.int (n - 1)) d) fun y => .ok (some y) else .ok none)) (b.map D.int) = .ok (((b.filter fun x => decide (x < n)).map fun x => n - 1 - x).map D.int) := lc_fil fun p _ => by
    simp only [s_lt, s_bd, s_asB, s_sub]
    by_cases q : p < n <;> simp [q]
  have e3 : ∀ l : List Int, lcF (fun d => nox (bd (intD d) fun y => .ok (some y))) (l.map D.int) = .ok (l.map D.int) := fun l => lc_id fun p _ => rfl
  have l1 : (f.filter fun x => decide (x < n)).length ≤ 8 := Nat.le_trans (List.length_filter_le _ _) hf.len
  have l2 : (b.filter fun x => decide (x < n)).length ≤ 8 := Nat.le_trans (List.length_filter_le _ _) hb.len
  have l3 : (toldL f b n).length ≤ 16 := by
    unfold toldL
    rw [List.length_append, List.length_map]
    omega
  have l4 : ((f.filter fun x => decide (x < n)).map D.int).length + (((b.filter fun x => decide (x < n)).map fun x => n - 1 - x).map D.int).length ≤ sizeLine := by
    simp only [List.length_map, sizeLine]
    omega
  rw [List.map_id] at e1
  have e4 : ((f.filter fun x => decide (x < n)).map D.int) ++ (((b.filter fun x => decide (x < n)).map fun x => n - 1 - x).map D.int) = (toldL f b n).map D.int := by
    unfold toldL
    rw [List.map_append]
  have ea : ∀ l : List D, asL (.lst l) = .ok l := fun _ => rfl
  simp only [F_Change_places_told, s_bd, fld_front, s_itt, s_ul1, e1, fld_back, s_sub, e2, ea, l4, if_true, e4, s_itl, e3, s_sortS (show (toldL f b n).length < 64 by omega), s_finr]
end Lw
end
section
set_option maxHeartbeats 400000
namespace Gp
open PySem
@[simp] theorem s_bdG {W W' L : Type} (zs : List D) (w : W') (k : W' → List D → Tr (List D × Fl W L)) : bdG (.ok (zs, .nx w)) k = k w zs := rfl
@[simp] theorem s_pln {W L : Type} (yd : List D) (w : W) : pln (L := L) yd (.nx w) = .ok (yd, .nx w) := rfl
@[simp] theorem s_un2 {α : Type} (x y : D) (k : D → D → Tr α) : un2 (.tup [x, y]) k = k x y := rfl
def pairD (r : Int × Int) : D := .tup [.int r.1, .int r.2]
def runsG (b : Int) : List Int → List (Int × Int)
  | [] => []
  | x :: xs => (if b < x then [(b, x - 1)] else []) ++ runsG (x + 1) xs
theorem runsG_L (n : Int) : ∀ (ts : List Int) (b : Int), runsG b (ts ++ [n]) = runsL b ts n
  | [], b => by
    show (if b < n then [(b, n - 1)] else []) ++ [] = _
    rw [List.append_nil]
    rfl
  | t :: ts, b => by
    show (if b < t then [(b, t - 1)] else []) ++ runsG (t + 1) (ts ++ [n]) = _
    rw [runsG_L n ts]
    rfl
theorem runsL_len (n : Int) : ∀ (ts : List Int) (b : Int), (runsL b ts n).length ≤ ts.length + 1
  | [], b => by
    unfold runsL
    split <;> simp
  | t :: ts, b => by
    have := runsL_len n ts (t + 1)
    show ((if b < t then [(b, t - 1)] else []) ++ runsL (t + 1) ts n).length ≤ _
    rw [List.length_append, List.length_cons]
    split
    · rw [List.length_singleton]; omega
    · rw [List.length_nil]; omega
theorem forF_led {bk : Bool} {p : Int} {f : D → Unit → Tr (Fl Unit Unit)} (hf : ∀ b l : Int, f (pairD (b, l)) () = .ok (if b ≤ p ∧ p ≤ l then .rt (.int (runZ bk b l p)) else .nx ())) :
    ∀ rs : List (Int × Int), bdF (W := Unit) (L := Empty) (forF (L := Empty) f (rs.map pairD) ()) (fun _ => .ok (.rt (.int p))) = .ok (.rt (.int (ledL bk p rs)))
  | [] => rfl
  | (b, l) :: r => by
    rw [List.map_cons, forF_cons, hf b l]
    show _ = Tr.ok (Fl.rt (.int (if b ≤ p ∧ p ≤ l then runZ bk b l p else ledL bk p r)))
    by_cases h : b ≤ p ∧ p ≤ l
    · rw [if_pos h, if_pos h]
      rfl
    · rw [if_neg h, if_neg h]
      exact forF_led hf r
end Gp
namespace Lw
open PySem Gp
def isBk (sd : Str) : Bool := decide (sd = "back")
theorem q_first_pair {f b : List Int} {sd : Str} {x l : Int} : F_Change_first_pair (chgD f b sd) (.int x) (.int l) = .ok (.int (if isBk sd = true then x + (l - x + 1) % 2 else x)) := by
  simp only [F_Change_first_pair, s_bd, fld_cside, s_eqs, s_asB, s_sub, s_add, s_mod2]
  unfold isBk
  by_cases h : sd = "back" <;> simp [h]
theorem q_led_in {f b : List Int} {sd : Str} {p : Int} (rs : List (Int × Int)) : F_Change_led_in (chgD f b sd) (.lst (rs.map pairD)) (.int p) = .ok (.int (ledL (isBk sd) p rs)) := by
  have e0 : (chfs f b sd).lookup ("first_pair" : Str) = none := rfl
  unfold F_Change_led_in
  simp only [s_bd, s_itl, s_bdFbd]
  rw [forF_led (bk := isBk sd) (p := p) (fun b' l => ?_)]
  · rfl
  · show un2 (.tup [.int b', .int l]) _ = _
    simp only [s_un2, s_le, s_bd, s_asB, isO_chg, e0, if_true, s_ul3, q_first_pair, s_sub, s_mod2, s_eq, s_add]
    unfold runZ
    generalize (if isBk sd = true then b' + (l - b' + 1) % 2 else b') = fst
    by_cases h1 : b' ≤ p <;> by_cases h2 : p ≤ l <;> simp [h1, h2]
    by_cases h3 : (p - fst) % 2 = 0 <;> simp [h3]
    · by_cases h4 : fst ≤ p + 1 <;> by_cases h5 : p + 1 ≤ l <;> simp [h4, h5]
    · by_cases h4 : fst ≤ p - 1 <;> by_cases h5 : p - 1 ≤ l <;> simp [h4, h5]
def chgZ (f b : List Int) (sd : Str) (n p : Int) : Int := ledL (isBk sd) p (runsL 0 (setI (toldL f b n)) n)
end Lw
end
section
set_option maxHeartbeats 400000
namespace Gp
open PySem
def sdS (bk : Bool) : Str := if bk = true then "back" else "front"
theorem sd_front (bk : Bool) : decide (sdS bk = "front") = !bk := by cases bk <;> rfl
theorem sd_back (bk : Bool) : decide (sdS bk = "back") = bk := by cases bk <;> rfl
theorem sd_or (bk : Bool) : sdS bk = "front" ∨ sdS bk = "back" := by
  cases bk
  · exact .inl rfl
  · exact .inr rfl
theorem s_inI (p : Int) (ts : List Int) : inOD (.int p) (.lst (ts.map D.int)) = .ok (.bl (decide (p ∈ ts))) := by
  have e1 : (ts.map D.int).all flatD = true := by
    rw [List.all_map]
    exact List.all_eq_true.mpr fun _ _ => rfl
  have e2 : inD (.int p) (ts.map D.int) = decide (p ∈ ts) := by
    induction ts with
    | nil => rfl
    | cons t r ih =>
      unfold inD at ih ⊢
      rw [List.map_cons, List.any_cons, ih (by rw [List.all_map]; exact List.all_eq_true.mpr fun _ _ => rfl)]
      show ((t == p) || decide (p ∈ r)) = _
      by_cases h : t = p
      · subst h; simp
      · have : ¬ p = t := fun e => h e.symm
        simp [h, this]
  unfold inOD inB
  dsimp only
  rw [if_pos ⟨rfl, e1⟩, e2]
  rfl
def nearF (p : Int) : List Int → Int → Int → Int × Int
  | [], lo, hi => (lo, hi)
  | t :: ts, lo, hi => nearF p ts (if lo ≤ t ∧ t < p then t + 1 else lo) (if p < t ∧ t ≤ hi then t - 1 else hi)
theorem nearF_near {p : Int} : ∀ {ts : List Int} {lo hi : Int}, lo ≤ p → p ≤ hi → p ∉ ts → Near ts lo hi p (nearF p ts lo hi).1 (nearF p ts lo hi).2
  | [], lo, hi, h0, h1, _ => ⟨Int.le_refl _, h0, .inl rfl, Int.le_refl _, h1, .inl rfl, fun t h => absurd h (by simp)⟩
  | t :: ts, lo, hi, h0, h1, hp => by
    have ht : p ≠ t := fun e => hp (e ▸ List.mem_cons_self)
    have hr : p ∉ ts := fun h => hp (List.mem_cons_of_mem _ h)
    unfold nearF
    generalize e1 : (if lo ≤ t ∧ t < p then t + 1 else lo) = lo1
    generalize e2 : (if p < t ∧ t ≤ hi then t - 1 else hi) = hi1
    have a1 : lo ≤ lo1 ∧ lo1 ≤ p ∧ (lo1 = lo ∨ lo1 - 1 = t) ∧ (t < p → t < lo1) := by
      subst e1
      split <;> omega
    have a2 : hi1 ≤ hi ∧ p ≤ hi1 ∧ (hi1 = hi ∨ hi1 + 1 = t) ∧ (p < t → hi1 < t) := by
      subst e2
      split <;> omega
    obtain ⟨y1, y2, y3, y4, y5, y6, y7⟩ := nearF_near (ts := ts) a1.2.1 a2.2.1 hr
    refine ⟨by omega, y2, ?_, by omega, y5, ?_, fun x hx => ?_⟩
    · rcases y3 with y3 | y3
      · rcases a1.2.2.1 with z | z
        · exact .inl (by omega)
        · exact .inr (by rw [y3, z]; exact List.mem_cons_self)
      · exact .inr (List.mem_cons_of_mem _ y3)
    · rcases y6 with y6 | y6
      · rcases a2.2.2.1 with z | z
        · exact .inl (by omega)
        · exact .inr (by rw [y6, z]; exact List.mem_cons_self)
      · exact .inr (List.mem_cons_of_mem _ y6)
    · rcases List.mem_cons.mp hx with rfl | hx
      · have b1 := a1.2.2.2
        have b2 := a2.2.2.2
        omega
      · exact y7 x hx
theorem led_near {bk : Bool} {n p : Int} {ts : List Int} (ht : ∀ t ∈ ts, 0 ≤ t ∧ t < n) (h0 : 0 ≤ p) (h1 : p < n) :
    ledL bk p (runsL 0 (setI ts) n) = if p ∈ ts then p else movZ bk (nearF p ts 0 (n - 1)).1 (nearF p ts 0 (n - 1)).2 p := by
  obtain ⟨k1, k2⟩ := led_runs (bk := bk) (p := p) (n := n) (b := 0) (ris_setI ts) (fun t h => ht t (mem_setI.mp h)) h0 h1
  by_cases hp : p ∈ ts
  · rw [if_pos hp, k1 (mem_setI.mpr hp)]
  · obtain ⟨lo, hi, hn, e⟩ := k2 fun h => hp (mem_setI.mp h)
    rw [if_neg hp, e]
    obtain ⟨y1, y2, y3, y4, y5, y6, y7⟩ := nearF_near (ts := ts) (lo := 0) (hi := n - 1) h0 (by omega) hp
    have hq : Near (setI ts) 0 (n - 1) p (nearF p ts 0 (n - 1)).1 (nearF p ts 0 (n - 1)).2 := ⟨y1, y2, y3.imp id mem_setI.mpr, y4, y5, y6.imp id mem_setI.mpr, fun t h => y7 t (mem_setI.mp h)⟩
    obtain ⟨u1, u2⟩ := hn.uniq hq
    rw [u1, u2]
@[simp] theorem ix_t0 (a : D) (r : List D) : ixD (.tup (a :: r)) (.int 0) = .ok a := s_ixT (by decide) rfl
@[simp] theorem ix_t1 (a b : D) (r : List D) : ixD (.tup (a :: b :: r)) (.int 1) = .ok b := s_ixT (by decide) rfl
@[simp] theorem ix_t2 (a b c : D) (r : List D) : ixD (.tup (a :: b :: c :: r)) (.int 2) = .ok c := s_ixT (by decide) rfl
@[simp] theorem ix_t3 (a b c d : D) (r : List D) : ixD (.tup (a :: b :: c :: d :: r)) (.int 3) = .ok d := s_ixT (by decide) rfl
@[simp] theorem ix_t4 (a b c d e : D) (r : List D) : ixD (.tup (a :: b :: c :: d :: e :: r)) (.int 4) = .ok e := s_ixT (by decide) rfl
theorem s_addl {a b : List D} (h : a.length + b.length ≤ sizeLine) : addD (.lst a) (.lst b) = .ok (.lst (a ++ b)) := if_pos h
theorem s_rg1 {m : Nat} (h : m ≤ 16777216) : rg1 (.int m) = .ok ((List.range' 0 m).map fun k : Nat => D.int k) := by
  unfold rg1
  dsimp only
  rw [if_pos ⟨by omega, by omega⟩, rgD_map, List.range_eq_range', List.map_map]
  rfl
end Gp
namespace Lw
open PySem Gp
theorem isBk_sd (bk : Bool) : isBk (sdS bk) = bk := by unfold isBk; exact sd_back bk
theorem told_rng {f b : List Int} {n : Int} (hf : Told f) (hb : Told b) : ∀ t ∈ toldL f b n, 0 ≤ t ∧ t < n := fun t h => by
  unfold toldL at h
  rcases List.mem_append.mp h with h | h
  · obtain ⟨h1, h2⟩ := List.mem_filter.mp h
    have := hf.rng t h1
    have : t < n := by simpa using h2
    omega
  · obtain ⟨x, hx, rfl⟩ := List.mem_map.mp h
    obtain ⟨h1, h2⟩ := List.mem_filter.mp hx
    have := hb.rng x h1
    have : x < n := by simpa using h2
    omega
theorem chgZ_rng {f b : List Int} {bk : Bool} {n p : Int} (hf : Told f) (hb : Told b) (h0 : 0 ≤ p) (h1 : p < n) : 0 ≤ chgZ f b (sdS bk) n p ∧ chgZ f b (sdS bk) n p < n := by
  unfold chgZ
  rw [isBk_sd, led_near (told_rng hf hb) h0 h1]
  split
  · exact ⟨h0, h1⟩
  · rename_i hp
    obtain ⟨y1, y2, y3, y4, y5, y6, y7⟩ := nearF_near (ts := toldL f b n) (lo := 0) (hi := n - 1) h0 (by omega) hp
    have := movZ_rng (bk := bk) y2 y5
    omega
end Lw
end
section
set_option maxHeartbeats 400000
namespace Lw
open PySem Gp
inductive Stp | chg (f b : List Int) (bk : Bool) | str (fi h m o : Int) (bk late : Bool) | blk (t : Nat) (ss : List Stp)
def blfs (t : Int) (ss : List D) : Fs := [("steps", .tup ss), ("times", .int t)]
def blkD (t : Int) (ss : List D) : D := .obj "Block" (blfs t ss)
mutual
def Stp.obj : Stp → D
  | .chg f b bk => chgD f b (sdS bk)
  | .str fi h m o bk late => strD fi (spanD h m o) (sdS bk) late
  | .blk t ss => blkD t (objs ss)
def objs : List Stp → List D
  | [] => []
  | s :: ss => s.obj :: objs ss
end
mutual
def Stp.mv (n : Int) : Stp → Int → Int
  | .chg f b bk, p => chgZ f b (sdS bk) n p
  | .str fi h m o bk late, p => toZ fi h m o (sdS bk) late n p
  | .blk t ss, p => (List.range' 0 t).foldl (fun p _ => mvs n ss p) p
def mvs (n : Int) : List Stp → Int → Int
  | [], p => p
  | s :: ss, p => mvs n ss (s.mv n p)
end
mutual
def Stp.inv : Stp → Stp
  | .chg f b bk => .chg f b bk
  | .str fi h m o bk late => .str fi h m o bk (!late)
  | .blk t ss => .blk t (invs ss)
def invs : List Stp → List Stp
  | [] => []
  | s :: ss => invs ss ++ [s.inv]
end
def wtN (h m o : Int) : Nat := 1 + h.toNat + m.natAbs + o.natAbs
mutual
def Stp.wt : Stp → Nat
  | .chg _ _ _ => 1
  | .str _ h m o _ _ => wtN h m o
  | .blk t ss => t * wts ss
def wts : List Stp → Nat
  | [] => 0
  | s :: ss => s.wt + wts ss
end
mutual
def Stp.said : Stp → Nat
  | .chg _ _ _ => 1
  | .str _ _ _ _ _ _ => 1
  | .blk _ ss => 1 + saids ss
def saids : List Stp → Nat
  | [] => 0
  | s :: ss => s.said + saids ss
end
mutual
def Stp.done : Stp → Nat
  | .chg _ _ _ => 1
  | .str _ _ _ _ _ _ => 1
  | .blk t ss => t * dones ss
def dones : List Stp → Nat
  | [] => 0
  | s :: ss => s.done + dones ss
end
mutual
def Stp.deep : Stp → Nat
  | .chg _ _ _ => 1
  | .str _ _ _ _ _ _ => 1
  | .blk _ ss => 1 + deeps ss
def deeps : List Stp → Nat
  | [] => 0
  | s :: ss => max s.deep (deeps ss)
end
theorem said_pos : ∀ s : Stp, 1 ≤ s.said
  | .chg _ _ _ => Nat.le_refl _
  | .str _ _ _ _ _ _ => Nat.le_refl _
  | .blk _ _ => Nat.le_add_right _ _
theorem saids_len : ∀ ss : List Stp, ss.length ≤ saids ss
  | [] => Nat.le_refl _
  | s :: ss => by
    have := saids_len ss
    have := said_pos s
    show ss.length + 1 ≤ s.said + saids ss
    omega
inductive Fit : Stp → Prop
  | chg {f b : List Int} {bk : Bool} : Told f → Told b → Fit (.chg f b bk)
  | str {fi h m o : Int} {bk late : Bool} : (fi = 0 ∨ fi = 1) → spOk h m o → Fit (.str fi h m o bk late)
  | blk {t : Nat} {ss : List Stp} : t ≤ 12 → (∀ s ∈ ss, Fit s) → 1 + saids ss ≤ 40 → t * dones ss ≤ 120 → t * wts ss ≤ 80 → 1 + deeps ss ≤ 3 → Fit (.blk t ss)
theorem Fit.t {t : Nat} {ss : List Stp} : Fit (.blk t ss) → t ≤ 12 | .blk h _ _ _ _ _ => h
theorem Fit.ss {t : Nat} {ss : List Stp} : Fit (.blk t ss) → ∀ s ∈ ss, Fit s | .blk _ h _ _ _ _ => h
theorem Fit.len {t : Nat} {ss : List Stp} (h : Fit (.blk t ss)) : ss.length ≤ 39 := by
  cases h with
  | blk h1 h2 h3 h4 h5 h6 =>
    have := saids_len ss
    omega
end Lw
end
section
set_option maxHeartbeats 400000
namespace Lw
open PySem Gp
theorem chg_back {f b : List Int} {bk : Bool} {n p : Int} (hf : Told f) (hb : Told b) (h0 : 0 ≤ p) (h1 : p < n) : chgZ f b (sdS bk) n (chgZ f b (sdS bk) n p) = p := by
  have hr := told_rng (n := n) hf hb
  have r := chgZ_rng (bk := bk) hf hb h0 h1
  unfold chgZ at r ⊢
  rw [isBk_sd] at r ⊢
  obtain ⟨k1, k2⟩ := led_runs (bk := bk) (p := p) (n := n) (b := 0) (ris_setI (toldL f b n)) (fun t h => hr t (mem_setI.mp h)) h0 h1
  by_cases hp : p ∈ setI (toldL f b n)
  · rw [k1 hp, k1 hp]
  · obtain ⟨lo, hi, hn, e⟩ := k2 hp
    rw [e] at r ⊢
    have hm := movZ_rng (bk := bk) hn.l1 hn.h1
    generalize eq : movZ bk lo hi p = q at r hm ⊢
    obtain ⟨j1, j2⟩ := led_runs (bk := bk) (p := q) (n := n) (b := 0) (ris_setI (toldL f b n)) (fun t h => hr t (mem_setI.mp h)) r.1 r.2
    have hq : q ∉ setI (toldL f b n) := fun h => by
      have := hn.no q h
      omega
    obtain ⟨lo', hi', hn', e'⟩ := j2 hq
    have hn2 : Near (setI (toldL f b n)) 0 (n - 1) q lo hi := ⟨hn.l0, hm.1, hn.l2, hn.h0, hm.2, hn.h2, hn.no⟩
    obtain ⟨u1, u2⟩ := hn'.uniq hn2
    rw [e', u1, u2, ← eq, movZ_inv hn.l1 hn.h1]
theorem movZ_mir {bk : Bool} {lo hi p n : Int} : movZ (!bk) (n - 1 - hi) (n - 1 - lo) (n - 1 - p) = n - 1 - movZ bk lo hi p := by
  unfold movZ
  cases bk
  · simp only [Bool.not_false, if_true, Bool.false_eq_true, if_false]
    rw [show n - 1 - lo - (n - 1 - p) = p - lo by omega]
    by_cases q : (p - lo) % 2 = 0
    · rw [if_pos q, if_pos q]
      by_cases r : lo ≤ p + 1 ∧ p + 1 ≤ hi
      · rw [if_pos r, if_pos (by omega)]; omega
      · rw [if_neg r, if_neg (by omega)]
    · rw [if_neg q, if_neg q]
      by_cases r : lo ≤ p - 1 ∧ p - 1 ≤ hi
      · rw [if_pos r, if_pos (by omega)]; omega
      · rw [if_neg r, if_neg (by omega)]
  · simp only [Bool.not_true, if_true, Bool.false_eq_true, if_false]
    rw [show n - 1 - p - (n - 1 - hi) = hi - p by omega]
    by_cases q : (hi - p) % 2 = 0
    · rw [if_pos q, if_pos q]
      by_cases r : lo ≤ p + -1 ∧ p + -1 ≤ hi
      · rw [if_pos r, if_pos (by omega)]; omega
      · rw [if_neg r, if_neg (by omega)]
    · rw [if_neg q, if_neg q]
      by_cases r : lo ≤ p - -1 ∧ p - -1 ≤ hi
      · rw [if_pos r, if_pos (by omega)]; omega
      · rw [if_neg r, if_neg (by omega)]
theorem led_mir {bk : Bool} {n p : Int} {ts us : List Int} (ht : ∀ t ∈ ts, 0 ≤ t ∧ t < n) (hu : ∀ t, t ∈ us ↔ n - 1 - t ∈ ts) (h0 : 0 ≤ p) (h1 : p < n) :
    ledL (!bk) (n - 1 - p) (runsL 0 (setI us) n) = n - 1 - ledL bk p (runsL 0 (setI ts) n) := by
  have hu' : ∀ t ∈ us, 0 ≤ t ∧ t < n := fun t h => by
    have := ht _ ((hu t).mp h)
    omega
  obtain ⟨k1, k2⟩ := led_runs (bk := bk) (p := p) (n := n) (b := 0) (ris_setI ts) (fun t h => ht t (mem_setI.mp h)) h0 h1
  obtain ⟨j1, j2⟩ := led_runs (bk := !bk) (p := n - 1 - p) (n := n) (b := 0) (ris_setI us) (fun t h => hu' t (mem_setI.mp h)) (by omega) (by omega)
  have e : n - 1 - p ∈ us ↔ p ∈ ts := by
    rw [hu, show n - 1 - (n - 1 - p) = p by omega]
  by_cases hp : p ∈ ts
  · rw [k1 (mem_setI.mpr hp), j1 (mem_setI.mpr (e.mpr hp))]
  · obtain ⟨lo, hi, hn, e1⟩ := k2 fun h => hp (mem_setI.mp h)
    obtain ⟨lo', hi', hn', e2⟩ := j2 fun h => hp (e.mp (mem_setI.mp h))
    have hm : Near (setI us) 0 (n - 1) (n - 1 - p) (n - 1 - hi) (n - 1 - lo) := by
      obtain ⟨y1, y2, y3, y4, y5, y6, y7⟩ := hn
      refine ⟨by omega, by omega, ?_, by omega, by omega, ?_, fun t h => ?_⟩
      · rcases y6 with y6 | y6
        · exact .inl (by omega)
        · refine .inr (mem_setI.mpr ((hu _).mpr ?_))
          rw [show n - 1 - (n - 1 - hi - 1) = hi + 1 by omega]
          exact mem_setI.mp y6
      · rcases y3 with y3 | y3
        · exact .inl (by omega)
        · refine .inr (mem_setI.mpr ((hu _).mpr ?_))
          rw [show n - 1 - (n - 1 - lo + 1) = lo - 1 by omega]
          exact mem_setI.mp y3
      · have := y7 _ (mem_setI.mpr ((hu t).mp (mem_setI.mp h)))
        omega
    obtain ⟨u1, u2⟩ := hn'.uniq hm
    rw [e1, e2, u1, u2, movZ_mir]
end Lw
end
section
set_option maxHeartbeats 400000
namespace Gp
open PySem
section
variable {W W' L : Type}
@[simp] theorem s_gyl (d : D) (w : W) : gyl (L := L) (.ok d) w = ⟨[d], .ok (.nx w)⟩ := rfl
@[simp] theorem s_gif (b : Bool) (m n : GT (Fl W L)) : gif (.ok b) m n = if b = true then m else n := rfl
@[simp] theorem s_gpl (m : Tr (Fl W L)) : gpl m = ⟨[], m⟩ := rfl
@[simp] theorem s_gbF (o : List D) (w : W') (k : W' → GT (Fl W L)) : gbF ⟨o, .ok (.nx w)⟩ k = ⟨o ++ (k w).out, (k w).res⟩ := rfl
@[simp] theorem s_gbFb (o : List D) (k : W' → GT (Fl W L)) : gbF ⟨o, .bad⟩ k = ⟨o, .bad⟩ := rfl
@[simp] theorem s_gfin (o : List D) (w : Unit) : gfin ⟨o, .ok (.nx w)⟩ = ⟨o, .ok ()⟩ := rfl
@[simp] theorem s_gfinb (o : List D) : gfin ⟨o, .bad⟩ = ⟨o, .bad⟩ := rfl
@[simp] theorem s_gpre (w : W) (k : W → GT Unit) : gpre (.ok (.nx w)) k = k w := rfl
@[simp] theorem s_yfor (ds : List D) (f : D → W → GT (Fl W W)) (w : W) : yfor (L := L) (.ok ds) f w = forY f ds w := rfl
@[simp] theorem s_yforG (m : GT Unit) (f : D → W → GT (Fl W W)) (w : W) : yforG (L := L) (.ok m) f w = forYG f m.res m.out w := rfl
@[simp] theorem s_yun2 {α : Type} (x y : D) (k : D → D → GT α) : yun2 (.tup [x, y]) k = k x y := rfl
@[simp] theorem s_yl2 (F : D → D → GT Unit) (x y : D) : yl2 F [x, y] = F x y := rfl
end
theorem forY_runs {L : Type} {f : D → D → GT (Fl D D)} (hf : ∀ b x : Int, f (.int x) (.int b) = ⟨if b < x then [pairD (b, x - 1)] else [], .ok (.nx (.int (x + 1)))⟩) :
    ∀ (ts : List Int) (b : Int), ∃ e : Int, forY (L := L) f (ts.map D.int) (.int b) = ⟨(runsG b ts).map pairD, .ok (.nx (.int e))⟩
  | [], b => ⟨b, rfl⟩
  | t :: ts, b => by
    obtain ⟨e, h⟩ := forY_runs (L := L) hf ts (t + 1)
    refine ⟨e, ?_⟩
    rw [List.map_cons, forY_cons, hf b t]
    dsimp only
    rw [h]
    dsimp only
    have e : runsG b (t :: ts) = (if b < t then [(b, t - 1)] else []) ++ runsG (t + 1) ts := rfl
    rw [e, List.map_append]
    congr 1
    by_cases q : b < t <;> simp [q]
theorem yruns_end {W : Type} {f : D → D → GT (Fl D D)} {k : D → GT (Fl W Empty)} {w : W} (hf : ∀ b x : Int, f (.int x) (.int b) = ⟨if b < x then [pairD (b, x - 1)] else [], .ok (.nx (.int (x + 1)))⟩) (hk : ∀ d, k d = ⟨[], .ok (.nx w)⟩) (ts : List Int) (b : Int) :
    gbF (forY f (ts.map D.int) (.int b)) k = ⟨(runsG b ts).map pairD, .ok (.nx w)⟩ := by
  obtain ⟨e, h⟩ := forY_runs (L := Empty) hf ts b
  rw [h, s_gbF, hk, List.append_nil]
def ranZ (b n : Int) : List Int := (List.range (n - b).toNat).map fun i : Nat => b + i
theorem ranZ_cons {b n : Int} (h : b < n) : ranZ b n = b :: ranZ (b + 1) n := by
  unfold ranZ
  rw [show (n - b).toNat = (n - (b + 1)).toNat + 1 by omega, List.range_succ_eq_map, List.map_cons, List.map_map]
  congr 1
  · simp
  · apply List.map_congr_left
    intro i _
    simp only [Function.comp]
    omega
theorem ranZ_nil {b n : Int} (h : n ≤ b) : ranZ b n = [] := by
  unfold ranZ
  rw [show (n - b).toNat = 0 by omega]
  rfl
theorem ranZ_app {b m n : Int} : b ≤ m → m ≤ n → ranZ b n = ranZ b m ++ ranZ m n := by
  intro h1 h2
  obtain ⟨k, hk⟩ : ∃ k : Nat, m = b + k := ⟨(m - b).toNat, by omega⟩
  subst hk
  induction k generalizing b with
  | zero =>
    rw [ranZ_nil (show b + ((0 : Nat) : Int) ≤ b by omega), List.nil_append]
    simp
  | succ k ih =>
    rw [ranZ_cons (show b < n by omega), ranZ_cons (show b < b + ((k + 1 : Nat) : Int) by omega), List.cons_append]
    congr 1
    have e : b + ((k + 1 : Nat) : Int) = (b + 1) + (k : Int) := by omega
    rw [e]
    exact ih (by omega) (by omega)
theorem mem_ranZ {b n p : Int} : p ∈ ranZ b n ↔ b ≤ p ∧ p < n := by
  unfold ranZ
  rw [List.mem_map]
  constructor
  · rintro ⟨i, hi, rfl⟩
    rw [List.mem_range] at hi
    omega
  · rintro ⟨h1, h2⟩
    exact ⟨(p - b).toNat, List.mem_range.mpr (by omega), by omega⟩
def nxt (p : Int) : Int × Int := (p, p + 1)
def upL (bk : Bool) (b n : Int) (rs : List (Int × Int)) : List (Int × Int) := ((ranZ b n).filter fun p => decide (ledL bk p rs = p + 1)).map nxt
end Gp
end
section
set_option maxHeartbeats 400000
namespace Gp
open PySem
theorem mem_insI {a x : Int} : ∀ {l : List Int}, x ∈ insI a l ↔ x = a ∨ x ∈ l
  | [] => by simp [insI]
  | b :: r => by
    unfold insI
    split
    · simp
    · rw [List.mem_cons, mem_insI, List.mem_cons]
      constructor
      · rintro (h | h | h) <;> simp [h]
      · rintro (h | h | h) <;> simp [h]
theorem len_insI {a : Int} : ∀ {l : List Int}, (insI a l).length = l.length + 1
  | [] => rfl
  | b :: r => by
    unfold insI
    split
    · rfl
    · rw [List.length_cons, len_insI, List.length_cons]
theorem mem_sortI {x : Int} : ∀ {l : List Int}, x ∈ sortI l ↔ x ∈ l
  | [] => Iff.rfl
  | a :: r => by
    show x ∈ insI a (sortI r) ↔ _
    rw [mem_insI, mem_sortI, List.mem_cons]
theorem len_sortI : ∀ {l : List Int}, (sortI l).length = l.length
  | [] => rfl
  | a :: r => by
    show (insI a (sortI r)).length = _
    rw [len_insI, len_sortI, List.length_cons]
theorem insI_asc {a : Int} : ∀ {l : List Int}, l.Pairwise (· < ·) → a ∉ l → (insI a l).Pairwise (· < ·)
  | [], _, _ => by simp [insI]
  | b :: r, h, hn => by
    obtain ⟨h1, h2⟩ := List.pairwise_cons.mp h
    have hb : a ≠ b := fun e => hn (e ▸ List.mem_cons_self)
    unfold insI
    split
    · rename_i q
      refine List.pairwise_cons.mpr ⟨fun x hx => ?_, h⟩
      rcases List.mem_cons.mp hx with rfl | hx
      · omega
      · have := h1 x hx; omega
    · rename_i q
      refine List.pairwise_cons.mpr ⟨fun x hx => ?_, insI_asc h2 fun z => hn (List.mem_cons_of_mem _ z)⟩
      rcases mem_insI.mp hx with rfl | hx
      · omega
      · exact h1 x hx
theorem sortI_asc : ∀ {l : List Int}, l.Nodup → (sortI l).Pairwise (· < ·)
  | [], _ => .nil
  | a :: r, h => by
    obtain ⟨h1, h2⟩ := List.nodup_cons.mp h
    exact insI_asc (sortI_asc h2) fun z => h1 (mem_sortI.mp z)
theorem setI_nodup : ∀ {l : List Int}, l.Nodup → (setI l).length = l.length := fun {l} h => by
  have e : setI l = sortI l := ris_eq (ris_setI l) (sortI_asc h) fun x => by rw [mem_setI, mem_sortI]
  rw [e, len_sortI]
end Gp
namespace Lw
open PySem Gp
structure Drn (f : List Int) : Prop where
  rng : ∀ x ∈ f, 0 ≤ x ∧ x ≤ 15
  nd : f.Nodup
  len : f.length ≤ 8
theorem Drn.told {f : List Int} (h : Drn f) : Told (sortI f) := ⟨fun x hx => h.rng x (mem_sortI.mp hx), sortI_asc h.nd, by rw [len_sortI]; exact h.len⟩
theorem q_are_toldL {f : List Int} (h : Drn f) : F_are_told (.lst (f.map D.int)) = .ok (.bl true) := by
  obtain ⟨h1, h2, h3⟩ := h
  have e0 : isi_list_tuple (.lst (f.map D.int)) = some true := rfl
  have e1 : lcF (fun d => nox (bd (F_is_within d (.int 0) (.int 15)) fun y => .ok (some y))) (f.map D.int) = .ok ((f.map fun _ => true).map D.bl) := lc_bls fun p hp => by
    rw [q_is_within, s_bd, s_nox]
    simp [h1 p hp]
  have e2 : lcF (fun d => nox (bd (intD d) fun y => .ok (some y))) (f.map D.int) = .ok (f.map D.int) := lc_id fun p _ => rfl
  have e3 : ((f.map fun _ => true).all id) = true := by simp
  have e4 : ¬ (8 : Int) < f.length := by omega
  simp only [F_are_told, s_bd, e0, s_opt, s_asB, Bool.not_true, Bool.false_eq_true, if_false, s_ul1, s_ul3, s_len, List.length_map, s_gt, e4, decide_false, s_bdF, s_itl, e1, s_allB, e3, e2, s_lenS (show f.length ≤ 4000 by omega), setI_nodup h2, s_eq, decide_true, s_finr]
theorem q_ascendingL {f : List Int} : F_ascending (.lst (f.map D.int)) = .ok (.tup ((sortI f).map D.int)) := by
  have e2 : lcF (fun d => nox (bd (intD d) fun y => .ok (some y))) (f.map D.int) = .ok (f.map D.int) := lc_id fun p _ => rfl
  simp only [F_ascending, s_bd, s_itl, s_ul1, e2, s_sortD, s_tupl, s_finr]
theorem q_changeL {f b : List Int} {sd : Str} (hf : Drn f) (hb : Drn b) (hs : sd = "front" ∨ sd = "back") : F_Change___init__ [] (.lst (f.map D.int)) (.lst (b.map D.int)) (.str sd) = .ok (chfs (sortI f) (sortI b) sd) := by
  have e2 : notinD (.str sd) (.tup [.str "front", .str "back"]) = .ok (.bl false) := by
    rcases hs with rfl | rfl <;> rfl
  simp [F_Change___init__, q_are_toldL hf, q_are_toldL hb, q_ascendingL, e2, F_Sided___init___at_Change, chfs]
  rfl
theorem told_len {f b : List Int} {n : Int} (hf : Told f) (hb : Told b) : (setI (toldL f b n)).length ≤ 16 := Nat.le_trans (len_setI _) (by
  unfold toldL
  rw [List.length_append, List.length_map]
  have := List.length_filter_le (fun x => decide (x < n)) f
  have := List.length_filter_le (fun x => decide (x < n)) b
  have := hf.len
  have := hb.len
  omega)
theorem told_rngS {f b : List Int} {n : Int} (hf : Told f) (hb : Told b) : ∀ t ∈ setI (toldL f b n), 0 ≤ t ∧ t < n := fun t ht => by
  have := mem_setI.mp ht
  unfold toldL at this
  rcases List.mem_append.mp this with h | h
  · obtain ⟨h1, h2⟩ := List.mem_filter.mp h
    have := hf.rng t h1
    have : t < n := by simpa using h2
    omega
  · obtain ⟨x, hx, rfl⟩ := List.mem_map.mp h
    obtain ⟨h1, h2⟩ := List.mem_filter.mp hx
    have := hb.rng x h1
    have : x < n := by simpa using h2
    omega
theorem q_runs {f b : List Int} {sd : Str} {n : Int} (hf : Told f) (hb : Told b) : F_Change_runs (chgD f b sd) (.int n) = ⟨(runsL 0 (setI (toldL f b n)) n).map pairD, .ok ()⟩ := by
  have e0 : (chfs f b sd).lookup ("places_told" : Str) = none := rfl
  have l3 := told_len (n := n) hf hb
  have e1 : (setI (toldL f b n)).map D.int ++ [D.int n] = (setI (toldL f b n) ++ [n]).map D.int := by rw [List.map_append]; rfl
  have l4 : ((setI (toldL f b n) ++ [n]).map D.int).length ≤ sizeLine := by
    simp only [List.length_map, List.length_append, List.length_singleton, sizeLine]
    omega
  have es : ∀ l, seqD (.lst l) = .ok l := fun _ => rfl
  have h2 : (2 : Nat) ≤ sizeLine := by decide
  unfold F_Change_runs
  simp only [s_bd, isO_chg, e0, if_true, s_ul2, q_places_told hf hb, es, e1, l4, s_itl, s_gpre, s_yfor]
  rw [yruns_end (w := ()) (fun b' x => ?_) (fun _ => rfl), s_gfin, runsG_L]
  by_cases q : b' < x
  · simp only [s_lt, s_bd, s_asB, q, decide_true, s_gif, if_true, s_sub, List.length_cons, List.length_nil, Nat.zero_add, Nat.reduceAdd, h2, s_gyl, s_gbF, s_add, s_gpl]
    rfl
  · simp only [s_lt, s_bd, s_asB, q, decide_false, s_gif, Bool.false_eq_true, if_false, s_gbF, s_add, s_gpl]
    rfl
theorem q_chg_to {f b : List Int} {sd : Str} {n p : Int} (hf : Told f) (hb : Told b) (hn : 1 ≤ n ∧ n ≤ N40) (hp : 0 ≤ p ∧ p < n) : F_Change_to (chgD f b sd) (.int n) (.int p) = .ok (.int (ledL (isBk sd) p (runsL 0 (setI (toldL f b n)) n))) := by
  have e0 : (chfs f b sd).lookup ("led_in" : Str) = none := rfl
  have e1 : (chfs f b sd).lookup ("runs" : Str) = none := rfl
  have e2 : ([chgD f b sd, D.int n] : List D).length = 2 := rfl
  have l4 : ((runsL 0 (setI (toldL f b n)) n).map pairD).length ≤ sizeLine := by
    have h1 := runsL_len n (setI (toldL f b n)) 0
    have h2 := told_len (n := n) hf hb
    simp only [List.length_map, sizeLine]
    omega
  unfold F_Change_to
  simp only [s_bd, isO_chg, e0, e1, if_true, s_ul2, q_need_place hn hp, List.append_nil, e2, s_yl2, q_runs hf hb, listY, endY, l4, s_ul3, q_led_in, s_finr]
def allP (f b : List Int) (sd : Str) (n : Int) : List (Int × Int) := upL (isBk sd) 0 n (runsL 0 (setI (toldL f b n)) n)
end Lw
end
section
set_option maxHeartbeats 400000
namespace Gp
open PySem
end Gp
namespace Lw
open PySem Gp
theorem set_sort {f b : List Int} {n : Int} : setI (toldL (sortI f) (sortI b) n) = setI (toldL f b n) := by
  refine ris_eq (ris_setI _) (ris_setI _) fun x => ?_
  rw [mem_setI, mem_setI]
  unfold toldL
  rw [List.mem_append, List.mem_append, List.mem_filter, List.mem_filter, mem_sortI, List.mem_map, List.mem_map]
  refine or_congr Iff.rfl ⟨?_, ?_⟩
  · rintro ⟨y, hy, rfl⟩
    rw [List.mem_filter, mem_sortI] at hy
    exact ⟨y, List.mem_filter.mpr hy, rfl⟩
  · rintro ⟨y, hy, rfl⟩
    rw [List.mem_filter] at hy
    exact ⟨y, List.mem_filter.mpr ⟨mem_sortI.mpr hy.1, hy.2⟩, rfl⟩
theorem toldL_rng {f b : List Int} {n : Int} (hf : Drn f) (hb : Drn b) : ∀ t ∈ toldL f b n, 0 ≤ t ∧ t < n := fun t ht => by
  have := told_rngS (n := n) hf.told hb.told t (by rw [set_sort, mem_setI]; exact ht)
  exact this
def partD (f b : List Int) (sd : Str) : D := .tup [.lst (f.map D.int), .lst (b.map D.int), .str sd]
theorem i0 (a : D) (r : List D) : ixD (.tup (a :: r)) (.int 0) = .ok a := s_ixT (by decide) rfl
theorem i1 (a b : D) (r : List D) : ixD (.tup (a :: b :: r)) (.int 1) = .ok b := s_ixT (by decide) rfl
theorem i2 (a b c : D) (r : List D) : ixD (.tup (a :: b :: c :: r)) (.int 2) = .ok c := s_ixT (by decide) rfl
theorem addL (x y : List Int) (h : x.length + y.length ≤ sizeLine) : addD (.lst (x.map D.int)) (.lst (y.map D.int)) = .ok (.lst ((x ++ y).map D.int)) := by
  have e : (x.map D.int).length + (y.map D.int).length ≤ sizeLine := by rw [List.length_map, List.length_map]; exact h
  show (if (x.map D.int).length + (y.map D.int).length ≤ sizeLine then Tr.ok (D.lst (x.map D.int ++ y.map D.int)) else .bad) = _
  rw [if_pos e, List.map_append]
theorem q_law_told {f b : List Int} {sd : Str} {n : Int} (hf : Drn f) (hb : Drn b) : F__law_told (partD f b sd) (.int n) = .ok (.lst ((toldL f b n).map D.int)) := by
  have e1 : lcF (fun d => nox (bd (bd (ltD d (.int n)) asB) fun k => if k = true then .ok (some d) else .ok none)) (f.map D.int) = .ok (((f.filter fun x => decide (x < n)).map id).map D.int) := lc_fil fun p _ => by
    simp only [s_lt, s_bd, s_asB]
    by_cases q : p < n <;> simp [q]
  have e2 : lcF (fun d => nox (bd (bd (ltD d (.int n)) asB) fun k => if k = true then bd (subD (.int (n - 1)) d) fun y => .ok (some y) else .ok none)) (b.map D.int) = .ok (((b.filter fun x => decide (x < n)).map fun x => n - 1 - x).map D.int) := lc_fil fun p _ => by
    simp only [s_lt, s_bd, s_asB, s_sub]
    by_cases q : p < n <;> simp [q]
  rw [List.map_id] at e1
  have l1 : (f.filter fun x => decide (x < n)).length ≤ 8 := Nat.le_trans (List.length_filter_le _ _) hf.len
  have l2 : (b.filter fun x => decide (x < n)).length ≤ 8 := Nat.le_trans (List.length_filter_le _ _) hb.len
  have l4 : (f.filter fun x => decide (x < n)).length + ((b.filter fun x => decide (x < n)).map fun x => n - 1 - x).length ≤ sizeLine := by
    rw [List.length_map]
    simp only [sizeLine]
    omega
  simp only [F__law_told, partD, s_bd, i0, i1, s_itl, e1, s_sub, e2, addL _ _ l4, s_finr]
  rfl
end Lw
end
section
set_option maxHeartbeats 400000
namespace Lw
open PySem Gp
theorem chg_at {f b : List Int} {bk : Bool} {n p : Int} (hf : Told f) (hb : Told b) (h0 : 0 ≤ p) (h1 : p < n) :
    (p ∈ toldL f b n → chgZ f b (sdS bk) n p = p) ∧ (p ∉ toldL f b n → ∃ lo hi, Near (toldL f b n) 0 (n - 1) p lo hi ∧ chgZ f b (sdS bk) n p = movZ bk lo hi p) := by
  obtain ⟨z1, z2⟩ := led_runs (bk := bk) (p := p) (n := n) (ts := setI (toldL f b n)) (b := 0) (ris_setI _) (fun t h => told_rng hf hb t (mem_setI.mp h)) h0 h1
  unfold chgZ
  rw [isBk_sd]
  exact ⟨fun h => z1 (mem_setI.mpr h), fun h => by
    obtain ⟨lo, hi, a, e⟩ := z2 fun z => h (mem_setI.mp z)
    exact ⟨lo, hi, near_set.mp a, e⟩⟩
theorem allP_eq {f b : List Int} {bk : Bool} {n : Int} : allP f b (sdS bk) n = ((ranZ 0 n).filter fun p => decide (chgZ f b (sdS bk) n p = p + 1)).map nxt := rfl
end Lw
end
section
set_option maxHeartbeats 400000
namespace Gp
open PySem
theorem szS {k : Nat} (h : k ≤ 1000) : k ≤ sizeLine := by simp only [sizeLine]; omega
theorem erase_map : ∀ (l : List Int) (k : Nat), (l.map D.int).eraseIdx k = (l.eraseIdx k).map D.int
  | [], _ => rfl
  | a :: r, 0 => rfl
  | a :: r, k + 1 => congrArg (D.int a :: ·) (erase_map r k)
theorem erase_mem {x : Int} : ∀ {l : List Int} {k : Nat}, x ∈ l.eraseIdx k → x ∈ l := fun h => List.mem_of_mem_eraseIdx h
theorem erase_nodup : ∀ {l : List Int} {k : Nat} (h : k < l.length), l.Nodup → (l.eraseIdx k).Nodup ∧ l[k] ∉ l.eraseIdx k
  | a :: r, 0, _, hn => by
    obtain ⟨h1, h2⟩ := List.nodup_cons.mp hn
    exact ⟨h2, h1⟩
  | a :: r, k + 1, h, hn => by
    obtain ⟨h1, h2⟩ := List.nodup_cons.mp hn
    obtain ⟨i1, i2⟩ := erase_nodup (l := r) (k := k) (by simpa using h) h2
    refine ⟨List.nodup_cons.mpr ⟨fun z => h1 (erase_mem z), i1⟩, fun z => ?_⟩
    rcases List.mem_cons.mp z with e | e
    · exact h1 (e ▸ List.getElem_mem (by simpa using h))
    · exact i2 e
theorem bo_pops {me : List D → D → Tr D} (hm : ∀ cur x, me cur x = .draw cur.length fun d => .ok (.int d)) : ∀ (its : List D) (l : List Int), l.Nodup → its.length ≤ l.length → l.length ≤ 1000 →
    Bo (fun r => ∃ f : List Int, r = f.map D.int ∧ f.Nodup ∧ (∀ x ∈ f, x ∈ l) ∧ f.length = its.length) (popF me its (l.map D.int)) its.length
  | [], l, _, _, _ => ⟨[], rfl, .nil, by simp, rfl⟩
  | x :: its, l, hn, hl, hs => by
    rw [popF_cons, hm]
    rw [List.length_cons] at hl ⊢
    show Bo _ (.draw _ _) _
    refine bo_draw (by rw [List.length_map]; omega) (by rw [List.length_map]; omega) fun d d0 d1 => ?_
    rw [List.length_map] at d1
    have hk : d.toNat < l.length := by omega
    show Bo _ (if 0 ≤ d ∧ d.toNat < (l.map D.int).length then _ else _) _
    rw [if_pos ⟨d0, by rw [List.length_map]; exact hk⟩, erase_map]
    obtain ⟨e1, e2⟩ := erase_nodup hk hn
    have hl2 : (l.eraseIdx d.toNat).length = l.length - 1 := by rw [List.length_eraseIdx, if_pos hk]
    refine bo_then (b := 0) (bo_pops hm its (l.eraseIdx d.toNat) e1 (by omega) (by omega)) (fun r hr => ?_) (Nat.le_refl _)
    obtain ⟨f, rfl, f1, f2, f3⟩ := hr
    refine bo_ok ⟨l[d.toNat] :: f, ?_, List.nodup_cons.mpr ⟨fun z => e2 (f2 _ z), f1⟩, fun y hy => ?_, by rw [List.length_cons, f3]⟩
    · rw [List.getD_eq_getElem?_getD, List.getElem?_map, List.getElem?_eq_getElem hk]
      rfl
    · rcases List.mem_cons.mp hy with rfl | hy
      · exact List.getElem_mem hk
      · exact erase_mem (f2 y hy)
theorem ran_nodup (m : Nat) : (((List.range m).map fun i : Nat => (i : Int))).Nodup := by
  unfold List.Nodup
  rw [List.pairwise_map]
  exact List.nodup_range.imp fun h e => h (by omega)
end Gp
namespace Lw
open PySem Gp
@[simp] theorem s_draw (m : Int) : F_draw .pen (.int m) = .draw m fun d => .ok (.int d) := rfl
theorem q_pick (ds : List D) : F__law_pick .pen (.lst ds) = .draw ds.length fun i => ixD (.lst ds) (.int i) := by
  simp [F__law_pick]
theorem b_pick {P : D → Prop} {ds : List D} (h0 : 0 < ds.length) (h1 : ds.length ≤ 100000) (h : ∀ d ∈ ds, P d) : Bo P (F__law_pick .pen (.lst ds)) 1 := by
  rw [q_pick]
  exact bo_pick h0 h1 h
theorem pop_me (cur : List D) : (bd (pk (ul1 lenD [.lst cur])) fun a => F_draw .pen a) = .draw cur.length fun d => .ok (.int d) := by
  have e : pk (.ok (.int (cur.length : Nat))) = .ok (.int (cur.length : Nat)) := by
    unfold pk noLst
    exact if_pos rfl
  rw [s_ul1, s_len, e, s_bd, s_draw]
theorem b_tail {k m : Nat} (hk : k ≤ 8) (h1 : 8 ≤ m) (h2 : m ≤ 16) {me : List D → D → Tr D} (hm : ∀ cur x, me cur x = .draw cur.length fun d => .ok (.int d)) : Bx (fun d => ∃ f, d = .lst (f.map D.int) ∧ Drn f) (bd (rgA1 (.int m)) fun a => bd (if rgOk a.1 a.2 then .ok (rgD a.1 (a.2 - a.1).toNat) else .bad) fun l => bd (ul1 rg1 [.int k]) fun its => bd (popF me its l) fun r => fin (.ok (.rt (.lst r)))) 8 := by
  have er : rgA1 (.int m) = .ok (0, (m : Int)) := rfl
  have eo : rgOk 0 (m : Int) := by unfold rgOk; omega
  have el : rgD 0 ((m : Int) - 0).toNat = ((List.range m).map fun i : Nat => (i : Int)).map D.int := by rw [show ((m : Int) - 0).toNat = m by omega, rgD_map]
  have ek : rg1 (.int k) = .ok ((List.range' 0 k).map fun i : Nat => D.int i) := s_rg1 (by omega)
  rw [er, s_bd, if_pos eo, s_bd, el, s_ul1, ek, s_bd]
  refine bx_then (b := 0) (bo_pops hm _ _ (ran_nodup m) (by rw [List.length_map, List.length_map, List.length_range, List.length_range']; omega) (by rw [List.length_map, List.length_range]; omega)) (fun r hr => ?_) (by rw [List.length_map, List.length_range']; omega)
  obtain ⟨f, e, f1, f2, f3⟩ := hr
  subst e
  rw [List.length_map, List.length_range'] at f3
  refine bx_ok ⟨f, rfl, ⟨fun x hx => ?_, f1, by omega⟩⟩
  obtain ⟨i, hi, e⟩ := List.mem_map.mp (f2 x hx)
  rw [List.mem_range] at hi
  omega
theorem b_places : Bo (fun d => ∃ f, d = .lst (f.map D.int) ∧ Drn f) (F__law_places .pen) 10 := by
  apply Bx.bo
  simp -implicitDefEqProofs only [F__law_places, s_bd, List.length_cons, List.length_nil, Nat.reduceAdd, szS, Nat.reduceLeDiff, if_true, s_ul2, s_bdbd, s_finbd]
  refine bx_then (b := 9) (b_pick (P := fun d => ∃ k : Nat, d = .int k ∧ k ≤ 8) (by simp) (by simp) fun d hd => ?_) (fun x hx => ?_) (by decide)
  · simp only [List.mem_cons, List.mem_nil_iff, or_false] at hd
    rcases hd with rfl | rfl | rfl | rfl | rfl | rfl | rfl
    · exact ⟨0, rfl, by decide⟩
    · exact ⟨0, rfl, by decide⟩
    · exact ⟨1, rfl, by decide⟩
    · exact ⟨1, rfl, by decide⟩
    · exact ⟨2, rfl, by decide⟩
    · exact ⟨3, rfl, by decide⟩
    · exact ⟨8, rfl, by decide⟩
  · obtain ⟨k, rfl, hk⟩ := hx
    refine bx_then (b := 8) (b_pick (P := fun d => ∃ m : Nat, d = .int m ∧ 8 ≤ m ∧ m ≤ 16) (by simp) (by simp) fun d hd => ?_) (fun x hx => ?_) (by decide)
    · simp only [List.mem_cons, List.mem_nil_iff, or_false] at hd
      rcases hd with rfl | rfl | rfl | rfl
      · exact ⟨16, rfl, by decide⟩
      · exact ⟨16, rfl, by decide⟩
      · exact ⟨8, rfl, by decide⟩
      · exact ⟨9, rfl, by decide⟩
    · have hx' : ∃ m : Nat, x = .int m ∧ 8 ≤ m ∧ m ≤ 16 := hx
      clear hx
      rcases hx' with ⟨m, e, h⟩
      rw [e]
      exact b_tail hk h.1 h.2 fun cur x => pop_me cur
theorem b_part : Bo (fun d => ∃ f b bk, d = partD f b (sdS bk) ∧ Drn f ∧ Drn b) (F__law_part .pen) 21 := by
  simp only [F__law_part, s_bd, s_ul1, s_ul2, List.length_cons, List.length_nil, Nat.reduceAdd, szS, Nat.reduceLeDiff, if_true, s_bdbd, s_finbd]
  refine bo_then (b := 11) b_places (fun x hx => ?_) (by decide)
  obtain ⟨f, rfl, hf⟩ := hx
  refine bo_then (b := 1) b_places (fun x hx => ?_) (by decide)
  obtain ⟨b, rfl, hb⟩ := hx
  refine bo_then (b := 0) (b_pick (P := fun d => ∃ bk, d = .str (sdS bk)) (by simp) (by simp) fun d hd => ?_) (fun x hx => ?_) (by decide)
  · simp only [List.mem_cons, List.mem_nil_iff, or_false] at hd
    rcases hd with rfl | rfl
    · exact ⟨false, rfl⟩
    · exact ⟨true, rfl⟩
  · obtain ⟨bk, rfl⟩ := hx
    exact bo_ok ⟨f, b, bk, rfl, hf, hb⟩
end Lw
end
section
set_option maxHeartbeats 400000
namespace Gp
open PySem
def tauZ (bk : Bool) (n q : Int) : Int := if bk = true then n - 1 - q else q
theorem tau_tau (bk : Bool) (n q : Int) : tauZ bk n (tauZ bk n q) = q := by unfold tauZ; split <;> omega
theorem tau_rng {bk : Bool} {n q : Int} (h0 : 0 ≤ q) (h1 : q < n) : 0 ≤ tauZ bk n q ∧ tauZ bk n q < n := by unfold tauZ; split <;> omega
theorem tau_mem {bk : Bool} {n : Int} {ts : List Int} (k : Int) : k ∈ ts.map (tauZ bk n) ↔ tauZ bk n k ∈ ts := by
  rw [List.mem_map]
  constructor
  · rintro ⟨x, h, rfl⟩
    rw [tau_tau]; exact h
  · intro h
    exact ⟨_, h, tau_tau ..⟩
theorem notinI (p : Int) (ts : List Int) : notinD (.int p) (.lst (ts.map D.int)) = .ok (.bl (!decide (p ∈ ts))) := by
  have h := s_inI p ts
  unfold inOD at h
  unfold notinD
  cases e : inB (.int p) (.lst (ts.map D.int)) with
  | ok k =>
    rw [e] at h
    have : k = decide (p ∈ ts) := by
      have h' : Tr.ok (D.bl k) = Tr.ok (.bl (decide (p ∈ ts))) := h
      simpa using h'
    subst this
    rfl
  | ex c fs => rw [e] at h; cases h
  | bad => rw [e] at h; cases h
  | draw m f => rw [e] at h; cases h
def mmZ (a b : Int) : Int × Int := (minI [a, b], maxI [a, b])
def alongL (bk : Bool) (us : List Int) (n : Int) (k : Int) : List (Int × Int) := ((ranZ 0 k).filter fun q => decide (frZ us n q = q + 1)).map fun q => mmZ (tauZ bk n q) (tauZ bk n (q + 1))
theorem along_two {bk : Bool} {us : List Int} {n k : Int} (h0 : 0 ≤ k) (a : frZ us n k = k + 1) (b : frZ us n (k + 1) = k) : alongL bk us n (k + 2) = alongL bk us n k ++ [mmZ (tauZ bk n k) (tauZ bk n (k + 1))] := by
  have b' : ¬ frZ us n (k + 1) = k + 1 + 1 := by omega
  have e : (ranZ k (k + 2)).filter (fun q => decide (frZ us n q = q + 1)) = [k] := by
    rw [ranZ_cons (show k < k + 2 by omega), ranZ_cons (show k + 1 < k + 2 by omega), ranZ_nil (show k + 2 ≤ k + 1 + 1 by omega), List.filter_cons, if_pos (decide_eq_true a), List.filter_cons, if_neg (by simpa using b'), List.filter_nil]
  unfold alongL
  rw [ranZ_app (b := 0) (m := k) (n := k + 2) h0 (by omega), List.filter_append, List.map_append, e]
  rfl
theorem along_one {bk : Bool} {us : List Int} {n k : Int} (h0 : 0 ≤ k) (a : frZ us n k = k) : alongL bk us n (k + 1) = alongL bk us n k := by
  have a' : ¬ frZ us n k = k + 1 := by omega
  have e : (ranZ k (k + 1)).filter (fun q => decide (frZ us n q = q + 1)) = [] := by
    rw [ranZ_cons (show k < k + 1 by omega), ranZ_nil (show k + 1 ≤ k + 1 by omega), List.filter_cons, if_neg (by simpa using a'), List.filter_nil]
  unfold alongL
  rw [ranZ_app (b := 0) (m := k) (n := k + 1) h0 (by omega), List.filter_append, List.map_append, e]
  simp
theorem ran_rev {n : Int} : (ranZ 0 n).reverse = (ranZ 0 n).map fun q => n - 1 - q := by
  unfold ranZ
  apply List.ext_getElem
  · simp
  · intro i h1 h2
    simp only [List.length_reverse, List.length_map, List.length_range] at h1 h2
    simp only [List.getElem_reverse, List.getElem_map, List.getElem_range, List.length_map, List.length_range]
    omega
theorem up_low {n : Int} {s : Int → Int} (hs : ∀ p, 0 ≤ p → p < n → 0 ≤ s p ∧ s p < n) (hi : ∀ p, 0 ≤ p → p < n → s (s p) = p) :
    ((ranZ 0 n).filter fun q => decide (s q = q - 1)).map (fun q => nxt (q - 1)) = ((ranZ 0 n).filter fun q => decide (s q = q + 1)).map nxt := by
  by_cases hn : 0 < n
  · have eL : (ranZ 0 n).filter (fun q => decide (s q = q - 1)) = (ranZ 1 n).filter fun q => decide (s q = q - 1) := by
      rw [ranZ_cons hn, List.filter_cons, if_neg]
      · rfl
      · have := hs 0 (by omega) hn
        simp only [decide_eq_true_eq]
        omega
    have eR : (ranZ 0 n).filter (fun q => decide (s q = q + 1)) = (ranZ 0 (n - 1)).filter fun q => decide (s q = q + 1) := by
      rw [ranZ_app (b := 0) (m := n - 1) (n := n) (by omega) (by omega), ranZ_cons (show n - 1 < n by omega), show n - 1 + 1 = n by omega, ranZ_nil (Int.le_refl n), List.filter_append, List.filter_cons, if_neg]
      · simp
      · have := hs (n - 1) (by omega) (by omega)
        simp only [decide_eq_true_eq]
        omega
    have e1 : ranZ 1 n = (ranZ 0 (n - 1)).map fun q => q + 1 := by
      unfold ranZ
      rw [List.map_map, show (n - 1 - 0).toNat = (n - 1).toNat by omega]
      apply List.map_congr_left
      intro i _
      simp only [Function.comp]
      omega
    rw [eL, eR, e1, List.filter_map, List.map_map]
    have e2 : ((fun q => nxt (q - 1)) ∘ fun q : Int => q + 1) = nxt := by
      funext q
      show nxt (q + 1 - 1) = nxt q
      rw [show q + 1 - 1 = q by omega]
    rw [e2]
    congr 1
    apply List.filter_congr
    intro q hq
    have := mem_ranZ.mp hq
    show decide (s (q + 1) = q + 1 - 1) = decide (s q = q + 1)
    by_cases z : s q = q + 1
    · rw [decide_eq_true z, decide_eq_true]
      have := hi q (by omega) (by omega)
      rw [z] at this
      omega
    · rw [decide_eq_false z, decide_eq_false]
      intro y
      have := hi (q + 1) (by omega) (by omega)
      rw [y, show q + 1 - 1 = q by omega] at this
      exact z this
  · rw [ranZ_nil (by omega)]
    rfl
theorem s_revA (x : List D) : revA (.lst x) = .ok (.lst x.reverse) := rfl
theorem mm_front (q : Int) : mmZ q (q + 1) = nxt q := by
  unfold mmZ nxt
  rw [Prod.mk.injEq]
  constructor
  · show (if q ≤ q + 1 then q else q + 1) = q
    rw [if_pos (by omega)]
  · show (if q + 1 ≤ q then q else q + 1) = q + 1
    rw [if_neg (by omega)]
theorem mm_back (q : Int) : mmZ q (q - 1) = nxt (q - 1) := by
  unfold mmZ nxt
  rw [Prod.mk.injEq]
  constructor
  · show (if q ≤ q - 1 then q else q - 1) = q - 1
    rw [if_neg (by omega)]
  · show (if q - 1 ≤ q then q else q - 1) = q - 1 + 1
    rw [if_pos (by omega)]
    omega
end Gp
namespace Lw
open PySem Gp
theorem along_all {f b : List Int} {bk : Bool} {n : Int} (hf : Told f) (hb : Told b) :
    (if bk = true then (alongL bk ((toldL f b n).map (tauZ bk n)) n n).reverse else alongL bk ((toldL f b n).map (tauZ bk n)) n n) = allP f b (sdS bk) n := by
  rw [allP_eq]
  cases bk with
  | false =>
    have e : (toldL f b n).map (tauZ false n) = toldL f b n := by
      have : (tauZ false n) = id := by funext q; rfl
      rw [this, List.map_id]
    rw [if_neg (by decide), e]
    unfold alongL
    exact List.map_congr_left fun q _ => mm_front q
  | true =>
    rw [if_pos rfl]
    unfold alongL
    rw [← List.map_reverse, ← List.filter_reverse, ran_rev]
    have key : ∀ p : Int, 0 ≤ p → p < n → chgZ f b (sdS true) n p = n - 1 - frZ ((toldL f b n).map (tauZ true n)) n (n - 1 - p) := fun p p0 p1 => by
      have z := led_mir (bk := true) (us := (toldL f b n).map (tauZ true n)) (ts := toldL f b n) (n := n) (p := p) (told_rng hf hb) (fun t => tau_mem t) p0 p1
      unfold frZ
      unfold chgZ
      rw [isBk_sd]
      have z' : ledL false (n - 1 - p) (runsL 0 (setI ((toldL f b n).map (tauZ true n))) n) = n - 1 - ledL true p (runsL 0 (setI (toldL f b n)) n) := z
      rw [z']
      omega
    rw [← up_low (s := chgZ f b (sdS true) n) (fun p h0 h1 => chgZ_rng hf hb h0 h1) (fun p h0 h1 => chg_back hf hb h0 h1)]
    rw [List.filter_map, List.map_map]
    have e1 : (ranZ 0 n).filter ((fun q => decide (frZ ((toldL f b n).map (tauZ true n)) n q = q + 1)) ∘ fun q => n - 1 - q) = (ranZ 0 n).filter fun q => decide (chgZ f b (sdS true) n q = q - 1) := by
      apply List.filter_congr
      intro q hq
      have h := mem_ranZ.mp hq
      have k := key q h.1 h.2
      show decide (frZ ((toldL f b n).map (tauZ true n)) n (n - 1 - q) = n - 1 - q + 1) = decide (chgZ f b (sdS true) n q = q - 1)
      by_cases z : chgZ f b (sdS true) n q = q - 1
      · rw [decide_eq_true z, decide_eq_true]
        omega
      · rw [decide_eq_false z, decide_eq_false]
        omega
    rw [e1]
    apply List.map_congr_left
    intro q _
    show mmZ (n - 1 - (n - 1 - q)) (n - 1 - (n - 1 - q + 1)) = nxt (q - 1)
    rw [show n - 1 - (n - 1 - q) = q by omega, show n - 1 - (n - 1 - q + 1) = q - 1 by omega]
    exact mm_back q
theorem q_law_pairs {n : Nat} {f b : List Int} {bk : Bool} (hn : n < 100000) (hf : Drn f) (hb : Drn b) :
    F__law_pairs (partD f b (sdS bk)) (.int n) = .ok (.lst ((allP (sortI f) (sortI b) (sdS bk) n).map pairD)) := by
  have ht := toldL_rng (n := (n : Int)) hf hb
  have hr : ∀ t ∈ (toldL f b n).map (tauZ bk n), 0 ≤ t ∧ t < (n : Int) := fun t h => by
    obtain ⟨x, hx, rfl⟩ := List.mem_map.mp h
    have := ht x hx
    exact tau_rng this.1 this.2
  have er : rgA1 (.int n) = .ok (0, (n : Int)) := rfl
  have eo : rgOk 0 (n : Int) := by unfold rgOk; omega
  have el : rgD 0 ((n : Int) - 0).toNat = (rowL n id).map D.int := by
    rw [show ((n : Int) - 0).toNat = n by omega, rgD_map, List.range_eq_range']
    rfl
  have hsz : ∀ x y : D, [x, y].length ≤ sizeLine := fun x y => by simp [sizeLine]
  unfold F__law_pairs
  generalize hfu : (100000 : Nat) = fuel
  have hfu' : n < fuel := by omega
  simp -implicitDefEqProofs only [s_bd, s_ul2, q_law_told hf hb, er, eo, if_true, el, List.length_nil, Nat.zero_le, s_ul4, uoD]
  have hline : ∀ (k : D → Tr (Fl Unit Empty)), (bdF (bd (bd (bd (ixD (partD f b (sdS bk)) (.int 2)) fun v => eqD v (.str "back")) asB) fun c => if c = true then bd (revA (.lst ((rowL n id).map D.int))) fun x => .ok (.nx x) else .ok (.nx (.lst ((rowL n id).map D.int)))) k) = k (.lst ((rowL n (tauZ bk n)).map D.int)) := fun k => by
    unfold partD
    simp -implicitDefEqProofs only [i2, s_eqs, s_bd, s_asB, sd_back]
    cases bk with
    | false => rfl
    | true =>
      have e : revA (.lst ((rowL n id).map D.int)) = .ok (.lst ((rowL n (tauZ true n)).map D.int)) := by
        show Tr.ok (D.lst ((rowL n id).map D.int).reverse) = _
        rw [← List.map_reverse, rowL_rev]
        rfl
      simp -implicitDefEqProofs only [if_true, e, s_bd, s_bdF]
  refine (congrArg fin (hline _)).trans ?_
  generalize hus : (toldL f b n).map (tauZ bk n) = us at hr
  have hmem : ∀ q : Int, q ∈ us ↔ tauZ bk n q ∈ toldL f b n := fun q => by rw [← hus]; exact tau_mem q
  have hlen : ∀ k : Nat, (alongL bk us n k).length ≤ k := fun k => by
    unfold alongL
    rw [List.length_map]
    refine Nat.le_trans (List.length_filter_le _ _) ?_
    unfold ranZ
    simp
  have e0 : (([] : List D), D.int 0) = (((alongL bk us n ((0 : Nat) : Int)).map pairD, D.int ((0 : Nat) : Int)) : List D × D) := rfl
  rw [e0, wh_gr (n := n) (B := fun k => Bd us n k) (G := fun k => (alongL bk us n (k : Nat)).map pairD) (fun k hk => ?_) (fun k hk hB => ?_) fuel 0 (by omega) (Nat.zero_le _) bd_zero]
  · unfold partD
    simp -implicitDefEqProofs only [s_bdF, i2, s_eqs, s_bd, s_asB, sd_front]
    have hA := along_all (f := sortI f) (b := sortI b) (bk := bk) (n := (n : Int)) hf.told hb.told
    have hS : alongL bk ((toldL (sortI f) (sortI b) n).map (tauZ bk n)) n n = alongL bk us n n := by
      unfold alongL
      congr 1
      apply List.filter_congr
      intro q _
      have : frZ ((toldL (sortI f) (sortI b) n).map (tauZ bk n)) n q = frZ us n q := by
        unfold frZ
        have e : setI ((toldL (sortI f) (sortI b) n).map (tauZ bk n)) = setI us := by
          rw [← hus]
          refine ris_eq (ris_setI _) (ris_setI _) fun x => ?_
          rw [mem_setI, mem_setI, tau_mem, tau_mem, ← mem_setI, set_sort, mem_setI]
        rw [e]
      rw [this]
    rw [hS] at hA
    rw [← hA]
    cases bk with
    | false => rfl
    | true =>
      simp -implicitDefEqProofs only [Bool.not_true, Bool.false_eq_true, if_false, if_true, s_bd, s_revA, s_finr, List.map_reverse]
  · simp -implicitDefEqProofs only [s_bd, s_lt, s_asB]
  · have k0 : (0 : Int) ≤ k := by omega
    have k1 : (k : Int) < n := by omega
    have r1 := tau_rng (bk := bk) k0 k1
    have x1 := s_ixR (a := tauZ bk n) k0 k1
    by_cases q : (k : Int) ∉ us ∧ (k : Int) + 1 < n ∧ (k : Int) + 1 ∉ us
    · obtain ⟨q1, q2, q3⟩ := q
      have k2 : (0 : Int) ≤ (k : Int) + 1 := by omega
      have x2 := s_ixR (a := tauZ bk n) k2 q2
      have n1 : ¬ tauZ bk n k ∈ toldL f b n := fun z => q1 ((hmem _).mpr z)
      have n2 : ¬ tauZ bk n (k + 1) ∈ toldL f b n := fun z => q3 ((hmem _).mpr z)
      obtain ⟨d1, d2, hB2⟩ := gr_pair hr k0 q2 hB q1 q3
      refine ⟨k + 2, by omega, by omega, by rw [show ((k + 2 : Nat) : Int) = (k : Int) + 2 by omega]; exact hB2, ?_⟩
      have hl : ((alongL bk us n (k : Nat)).map pairD).length < sizeLine := by
        rw [List.length_map]
        have := hlen k
        simp only [sizeLine]
        omega
      have hmm : ∀ a c : Int, minD (.lst [.int a, .int c]) = .ok (.int (minI [a, c])) := fun a c => rfl
      have hMM : ∀ a c : Int, maxD (.lst [.int a, .int c]) = .ok (.int (maxI [a, c])) := fun a c => rfl
      simp -implicitDefEqProofs only [x1, s_bd, notinI, n1, decide_false, Bool.not_false, s_asB, if_true, s_add, s_lt, q2, decide_true, x2, n2, s_ul1, s_int, hsz, hmm, hMM, hl, s_bdF]
      rw [show ((k + 2 : Nat) : Int) = (k : Int) + 2 by omega, along_two k0 d1 d2, List.map_append]
      show Tr.ok (Fl.nx (_, D.int ((k : Int) + 1 + 1))) = _
      rw [show (k : Int) + 1 + 1 = (k : Int) + 2 by omega]
      rfl
    · obtain ⟨d1, hB1⟩ := gr_none hr k0 k1 hB q
      refine ⟨k + 1, by omega, by omega, by rw [show ((k + 1 : Nat) : Int) = (k : Int) + 1 by omega]; exact hB1, ?_⟩
      have eC : (if (!decide (tauZ bk n k ∈ toldL f b n)) = true then (if decide ((k : Int) + 1 < n) = true then bd (bd (ixD (.lst ((rowL n (tauZ bk n)).map D.int)) (.int ((k : Int) + 1))) fun v => notinD v (.lst ((toldL f b n).map D.int))) asB else .ok false) else Tr.ok false) = .ok false := by
        by_cases q1 : tauZ bk n k ∈ toldL f b n
        · simp [q1]
        · by_cases q2 : (k : Int) + 1 < n
          · have k2 : (0 : Int) ≤ (k : Int) + 1 := by omega
            have q3 : tauZ bk n (k + 1) ∈ toldL f b n := by
              by_cases z : tauZ bk n (k + 1) ∈ toldL f b n
              · exact z
              · exact absurd ⟨fun y => q1 ((hmem _).mp y), q2, fun y => z ((hmem _).mp y)⟩ q
            simp [q1, q2, s_ixR (a := tauZ bk n) k2 q2, notinI, q3]
          · simp [q1, q2]
      simp -implicitDefEqProofs only [x1, s_bd, notinI, s_asB, s_add, s_lt, eC, Bool.false_eq_true, if_false, s_bdF]
      rw [show ((k + 1 : Nat) : Int) = (k : Int) + 1 by omega, along_one k0 d1]
end Lw
end
section
set_option maxHeartbeats 400000
namespace Gp
open PySem
def stG (s : Int → Int) (b q : Int) : Int := if q < b ∨ s q < b then s q else q
end Gp
namespace Lw
open PySem Gp
theorem chg_one {f b : List Int} {bk : Bool} {n p : Int} (hf : Told f) (hb : Told b) (h0 : 0 ≤ p) (h1 : p < n) : p - 1 ≤ chgZ f b (sdS bk) n p ∧ chgZ f b (sdS bk) n p ≤ p + 1 := by
  obtain ⟨z1, z2⟩ := chg_at (bk := bk) hf hb h0 h1
  by_cases h : p ∈ toldL f b n
  · rw [z1 h]
    omega
  · obtain ⟨lo, hi, _, e⟩ := z2 h
    rw [e]
    unfold movZ
    cases bk
    · simp only [Bool.false_eq_true, if_false]
      split <;> split <;> omega
    · simp only [if_true]
      split <;> split <;> omega
theorem s_ne_ints (l m : List Int) : neD (.lst (l.map D.int)) (.lst (m.map D.int)) = .ok (.bl (!decide (l = m))) := ne_of_eqD (s_eq_ints l m)
set_option maxHeartbeats 1000000
end Lw
end
section
set_option maxHeartbeats 400000
namespace Lw
open PySem Gp Gh
theorem q_law_made {f b : List Int} {bk : Bool} (hf : Drn f) (hb : Drn b) : F__law_made (partD f b (sdS bk)) = .ok (chgD (sortI f) (sortI b) (sdS bk)) := by
  unfold F__law_made partD
  simp -implicitDefEqProofs only [s_bd, i0, i1, i2, s_ul3, q_changeL hf hb (sd_or bk)]
  rfl
end Lw
end
section
set_option maxHeartbeats 400000
namespace Lw
open PySem Gp L2
theorem shaped_intsT (ns : List Int) : SeqAt.shaped (.tuple (ns.map PyData.int)) = true := by
  simp [SeqAt.shaped, PyData.canLay0, PyData.depth, canLayAll_ints, depthAll_ints]
theorem s_eqt_ints (l m : List Int) : eqD (.tup (l.map D.int)) (.tup (m.map D.int)) = .ok (.bl (decide (l = m))) := by
  have e : ∀ l : List Int, toPy (.tup (l.map D.int)) = some (.tuple (l.map PyData.int)) := fun l => by
    unfold toPy
    rw [toPyL_ints]
    rfl
  have e2 : eqB (.tup (l.map D.int)) (.tup (m.map D.int)) = .ok (decide (l = m)) := by
    unfold eqB
    rw [show eqS (.tup (l.map D.int)) (.tup (m.map D.int)) = none from rfl]
    dsimp only
    rw [e l, e m]
    dsimp only
    rw [if_pos ⟨shaped_intsT l, shaped_intsT m⟩]
    unfold PyData.eqv
    rw [eqv_ints]
  unfold eqD
  rw [e2]
  rfl
end Lw
end
section
set_option maxHeartbeats 400000
namespace Lw
open PySem Gp L2
theorem isN_non : isN .non = true := rfl
end Lw
end
section
set_option maxHeartbeats 400000
namespace Lw
open PySem Gp L2
theorem s_un2t {α : Type} (x y : D) (k : D → D → Tr α) : un2 (.tup [x, y]) k = k x y := rfl
end Lw
end
section
set_option maxHeartbeats 400000
namespace Lw
open PySem Gp L2
theorem q_is_item (n : Int) : F_is_item (.int n) = .ok (.bl (decide (-(10 ^ 30) < n ∧ n < 10 ^ 30))) := by
  unfold F_is_item
  simp -implicitDefEqProofs only [s_bd, s_ul1, q_is_integer, s_asB, if_true, s_neg, s_lt]
  by_cases c1 : (-(10 ^ 30) : Int) < n
  · have c1' : -1000000000000000000000000000000 < n := c1
    by_cases c2 : n < (10 ^ 30 : Int)
    · have c2' : n < 1000000000000000000000000000000 := c2
      rw [decide_eq_true c1', if_pos rfl, decide_eq_true c2', decide_eq_true ⟨c1, c2⟩]; rfl
    · have c2' : ¬ n < 1000000000000000000000000000000 := c2
      rw [decide_eq_true c1', if_pos rfl, decide_eq_false c2', decide_eq_false (fun z => c2 z.2)]; rfl
  · have c1' : ¬ -1000000000000000000000000000000 < n := c1
    rw [decide_eq_false c1', if_neg Bool.false_ne_true, decide_eq_false (fun z => c1 z.1)]; rfl
end Lw
end
section
set_option maxHeartbeats 400000
namespace Lw
open PySem Gp L2
def InR (n : Int) : Prop := -(10 ^ 30) < n ∧ n < 10 ^ 30
end Lw
end
section
set_option maxHeartbeats 400000
namespace Lw
open PySem Gp L2
def rfs (ns : List Int) : Fs := [("own_items", .lst (ns.map D.int))]
def rowD (ns : List Int) : D := .obj "Row" (rfs ns)
def itE : Nat → List D → List D
  | _, [] => []
  | i, d :: r => .tup [.int (i : Nat), d] :: itE (i + 1) r
theorem itE_eq : ∀ (ds : List D) (k : Nat), (ds.mapIdx fun i d => D.tup [.int ((i + k : Nat) : Int), d]) = itE k ds
  | [], k => rfl
  | d :: r, k => by
    rw [List.mapIdx_cons, itE, ← itE_eq r (k + 1), Nat.zero_add]
    congr 1
    congr 1
    funext i x
    rw [show i + 1 + k = i + (k + 1) by omega]
theorem s_enD (ds : List D) : enD (.lst ds) = .ok (itE 0 ds) := by
  rw [← itE_eq ds 0]
  rfl
theorem q_need {ns : List Int} (h1 : 1 ≤ ns.length) (h2 : ns.length ≤ 2000) (hr : ∀ n ∈ ns, InR n) : F_need_items (.lst (ns.map D.int)) .non = .ok .non := by
  have e0 : isi_list_tuple (.lst (ns.map D.int)) = some true := rfl
  have c1 : (1 : Int) ≤ ns.length := by omega
  have c2 : (ns.length : Int) ≤ 2000 := by omega
  unfold F_need_items
  simp -implicitDefEqProofs only [s_bd, e0, s_opt, s_asB, Bool.not_true, Bool.false_eq_true, if_false, s_bdF, isN_non, s_ul1, s_len, List.length_map, s_le, c1, c2, decide_true, if_true, s_enD]
  have lp : ∀ (l : List Int) (i : Nat) (f : D → Unit → Tr (Fl Unit Unit)), (∀ n ∈ l, InR n) → (∀ (i : Nat) (n : Int), InR n → f (.tup [.int i, .int n]) () = .ok (.nx ())) → forF (L := Empty) f (itE i (l.map D.int)) () = .ok (.nx ()) := by
    intro l
    induction l with
    | nil => intro i f _ _; rfl
    | cons n l ih =>
      intro i f hl hf
      rw [List.map_cons, itE, forF_cons, hf i n (hl n (List.mem_cons_self ..)), s_bd]
      exact ih (i + 1) f (fun x hx => hl x (List.mem_cons_of_mem _ hx)) hf
  rw [lp ns 0 _ hr ?h]
  · rfl
  case h =>
    intro i n hn
    have e : decide (-(10 ^ 30) < n ∧ n < 10 ^ 30) = true := decide_eq_true hn
    simp -implicitDefEqProofs only [s_un2t, s_bd, s_ul1, q_is_item, e, s_asB, Bool.not_true, Bool.false_eq_true, if_false, s_bdF]
theorem q_rinit {ns : List Int} (h1 : 1 ≤ ns.length) (h2 : ns.length ≤ 2000) (hr : ∀ n ∈ ns, InR n) : F_Row___init__ [] (.lst (ns.map D.int)) = .ok (rfs ns) := by
  have e1 : listD (.lst (ns.map D.int)) = .ok (.lst (ns.map D.int)) := rfl
  unfold F_Row___init__
  simp -implicitDefEqProofs only [s_bd, s_ul2, q_need h1 h2 hr, s_ul1, e1]
  rfl
end Lw
end
section
set_option maxHeartbeats 400000
namespace Lw
open PySem Gp L2
theorem s_bdN {W' : Type} (w : W') (k : W' → Tr Fs) : bdN (.ok (.nx w)) k = k w := rfl
theorem q_led {n : Nat} {a : Int → Int} {f b : List Int} {bk : Bool} (hn : 1 ≤ n ∧ n ≤ 2000) (hf : Told f) (hb : Told b) : F_Row_led (rowD (rowL n a)) (chgD f b (sdS bk)) = .ok (.lst ((rowL n fun q => a (chgZ f b (sdS bk) n q)).map D.int)) := by
  have hlen : ((rowL n a).map D.int).length = n := by rw [List.length_map, rowL_len]
  have hl : listL (.lst ((rowL n a).map D.int)) = .ok ((rowL n a).map D.int) := rfl
  have ef : fldD "Row" "own_items" (rowD (rowL n a)) = .ok (.lst ((rowL n a).map D.int)) := rfl
  have hN : (1 : Int) ≤ (n : Int) ∧ (n : Int) ≤ N40 := by simp only [N40]; omega
  have e0 : (chfs f b (sdS bk)).lookup ("to" : Str) = none := rfl
  unfold F_Row_led
  simp -implicitDefEqProofs only [s_bd, ef, s_ul1, s_len, hlen, hl, en_row]
  rw [forF_put (n := n) (a := a) (f := fun p => chgZ f b (sdS bk) n p) (g := fun q => chgZ f b (sdS bk) n q) (fun p h0 h1 => chgZ_rng hf hb h0 h1) (fun p h0 h1 => chg_back hf hb h0 h1)
    (fun q h0 h1 => chg_back hf hb h0 h1) (fun q h0 h1 => chgZ_rng hf hb h0 h1) fun k l hk => ?_]
  · simp only [s_bdF, s_bd, s_finr]
  · have et : F_Change_to (chgD f b (sdS bk)) (.int n) (.int k) = .ok (.int (chgZ f b (sdS bk) n k)) := q_chg_to hf hb hN ⟨by omega, by omega⟩
    simp only [un2, s_bd, isO_chg, e0, if_true, s_ul3, et]
end Lw
end
section
set_option maxHeartbeats 400000
namespace Gp
open PySem
theorem s_setG {n : Nat} {g : Int → D} {a : Int → Int} {p v : Int} (h0 : 0 ≤ p) (h1 : p < n) : setD ((rowL n a).map g) (.int p) (g v) = .ok ((rowL n (updF a p v)).map g) := by
  obtain ⟨k, rfl⟩ := Int.eq_ofNat_of_zero_le h0
  have hk : k < n := by omega
  have e : L2.ixN ((rowL n a).map g).length (k : Int) = some k := by
    unfold L2.ixN
    rw [if_pos h0, List.length_map, rowL_len, if_pos h1]
    rfl
  show (match L2.ixN ((rowL n a).map g).length (k : Int) with | some j => Tr.ok (((rowL n a).map g).set j (g v)) | none => .bad) = _
  rw [e]
  show Tr.ok (((rowL n a).map g).set k (g v)) = _
  rw [← List.map_set]
  congr 2
  refine rowL_ext (by rw [List.length_set, rowL_len]) fun j hj => ?_
  unfold updF
  by_cases q : k = j
  · subst q
    rw [List.getElem?_set_self (by rw [rowL_len]; exact hk), if_pos rfl]
  · rw [List.getElem?_set_ne q, rowL_get hj, if_neg (by omega)]
theorem s_ixG {n : Nat} {g : Int → D} {p : Int} (h0 : 0 ≤ p) (h1 : p < n) : ixD (.lst ((rowL n id).map g)) (.int p) = .ok (g p) := by
  obtain ⟨k, rfl⟩ := Int.eq_ofNat_of_zero_le h0
  refine s_ixL h0 ?_
  rw [List.getElem?_map]
  show (rowL n id)[k]?.map g = _
  rw [rowL_get (by omega)]
  rfl
theorem for_swapG {L : Type} {s : Int → Int} {g : Int → D} {n : Nat} {f : D → List D → Tr (Fl (List D) (List D))} (hs : ∀ p : Int, 0 ≤ p → p < n → 0 ≤ s p ∧ s p < n) (hi : ∀ p : Int, 0 ≤ p → p < n → s (s p) = p) (h1 : ∀ p : Int, 0 ≤ p → p < n → p - 1 ≤ s p ∧ s p ≤ p + 1)
    (hf : ∀ (a : Int → Int) (p : Int), 0 ≤ p → p + 1 < n → f (pairD (p, p + 1)) ((rowL n a).map g) = .ok (.nx ((rowL n fun q => if q = p then p + 1 else if q = p + 1 then p else a q).map g))) :
    ∀ (k : Nat) (b : Int), 0 ≤ b → b + k = n → forF (L := L) f ((((ranZ b n).filter fun p => decide (s p = p + 1)).map nxt).map pairD) ((rowL n (stG s b)).map g) = .ok (.nx ((rowL n s).map g))
  | 0, b, h0, hk => by
    rw [ranZ_nil (by omega)]
    have e : rowL n (stG s b) = rowL n s := rowL_congr fun q q0 q1 => by
      unfold stG
      rw [if_pos (by omega)]
    rw [e]
    rfl
  | k + 1, b, h0, hk => by
    have ih := for_swapG (L := L) hs hi h1 hf k (b + 1) (by omega) (by omega)
    rw [ranZ_cons (show b < n by omega), List.filter_cons]
    by_cases c : s b = b + 1
    · have hb := hs b h0 (by omega)
      rw [if_pos (decide_eq_true c), List.map_cons, List.map_cons, forF_cons]
      show bd (f (pairD (b, b + 1)) _) _ = _
      rw [hf _ b h0 (by omega), s_bd]
      have e : rowL n (fun q => if q = b then b + 1 else if q = b + 1 then b else stG s b q) = rowL n (stG s (b + 1)) := rowL_congr fun q q0 q1 => by
        have z := hi b h0 (by omega)
        rw [c] at z
        unfold stG
        by_cases y1 : q = b
        · subst y1
          rw [if_pos rfl, if_pos (by omega), c]
        · rw [if_neg y1]
          by_cases y2 : q = b + 1
          · subst y2
            rw [if_pos rfl, if_pos (by omega), z]
          · rw [if_neg y2]
            have zq := hi q q0 q1
            have hne : s q ≠ b := fun w => by rw [w, c] at zq; omega
            by_cases y3 : q < b ∨ s q < b
            · rw [if_pos y3, if_pos (by omega)]
            · rw [if_neg y3, if_neg (by omega)]
      rw [e]
      exact ih
    · rw [if_neg (by simpa using c)]
      have e : rowL n (stG s b) = rowL n (stG s (b + 1)) := rowL_congr fun q q0 q1 => by
        unfold stG
        have zq := hi q q0 q1
        have r1 := h1 q q0 q1
        have rb := h1 b h0 (by omega)
        have zb := hi b h0 (by omega)
        by_cases y3 : q < b ∨ s q < b
        · rw [if_pos y3, if_pos (by omega)]
        · rw [if_neg y3]
          by_cases y1 : q = b
          · subst y1
            have : s q = q := by omega
            rw [this, if_pos (by omega)]
          · by_cases y2 : s q = b
            · rw [y2] at zq
              omega
            · rw [if_neg (by omega)]
      rw [e]
      exact ih
end Gp
namespace Lw
open PySem Gp L2
theorem noOL_ints : ∀ l : List Int, noOL (l.map D.int) = true
  | [] => rfl
  | x :: r => by
    show (noO (.int x) && noOL (r.map D.int)) = true
    rw [noOL_ints r]
    rfl
theorem bdP_k (d : D) (fs : Fs) {α : Type} (k : D → Fs → Tr α) : bdP (.ok (d, fs)) k = k d fs := rfl
theorem q_do {n : Nat} {a : Int → Int} {f b : List Int} {bk : Bool} (hn : 1 ≤ n ∧ n ≤ 2000) (hf : Told f) (hb : Told b) : F_Row_do (rfs (rowL n a)) (chgD f b (sdS bk)) = .ok (.non, rfs (rowL n fun q => a (chgZ f b (sdS bk) n q))) := by
  have e0 : (rfs (rowL n a)).lookup ("led" : Str) = none := rfl
  have e1 : ∀ l : List Int, noO (.lst (l.map D.int)) = true := noOL_ints
  have e2 : (isO "Row" (D.obj "Row" (rfs (rowL n a))) fun fs => if fs.lookup ("led" : Str) = none then F_Row_led (D.obj "Row" (rfs (rowL n a))) (chgD f b (sdS bk)) else .bad) = .ok (.lst ((rowL n fun q => a (chgZ f b (sdS bk) n q)).map D.int)) := q_led hn hf hb
  rw [lz_Row_do]
  unfold L_Row_do
  simp -implicitDefEqProofs -dsimp only [implies_true, isS_str, s_bdx, s_bd, ↓k_bd, k_bd, k_bdx, k_bdd, s_nox, k_bdF, k_bdFr, k_bdFx, s_finr, s_finn, s_find, k_bdFd, ↓reduceIte, s_asB, s_ul1, s_ul2, s_ul3, s_sub, s_add, s_neg, s_eq, s_len, s_itl, s_itt, s_opt, List.length_cons, List.length_nil, decide_true, decide_false, Bool.not_true, Bool.not_false, if_true, if_false, Bool.false_eq_true, Nat.reduceAdd, z0L, z1L, z2L, z3L, z4L, z5L, z6L, z7L, z8L, z9L, z10L, z11L, z12L, z0l, z1l, z2l, z3l, z4l, l_asI, l_finx, l_finIx, l_finI, l_un2, l_un3, l_un4, l_ne, l_nes, l_neb, l_gt, l_ix0, l_ix1, l_ix2, l_ix3, l_it0, l_it1, l_it2, l_it3, e2, vw_ok (e1 _)]
  rfl
theorem q_imul {n : Nat} {a : Int → Int} {f b : List Int} {bk : Bool} (hn : 1 ≤ n ∧ n ≤ 2000) (hf : Told f) (hb : Told b) : F_Row___imul__ (rfs (rowL n a)) (chgD f b (sdS bk)) = .ok (rfs (rowL n fun q => a (chgZ f b (sdS bk) n q))) := by
  have e0 : (rfs (rowL n a)).lookup ("do" : Str) = none := rfl
  rw [lz_Row___imul__]
  unfold L_Row___imul__
  simp -implicitDefEqProofs -dsimp only [implies_true, isS_str, s_bdx, s_bd, ↓k_bd, k_bd, k_bdx, k_bdd, s_nox, k_bdF, k_bdFr, k_bdFx, s_finr, s_finn, s_find, k_bdFd, ↓reduceIte, s_asB, s_ul1, s_ul2, s_ul3, s_sub, s_add, s_neg, s_eq, s_len, s_itl, s_itt, s_opt, List.length_cons, List.length_nil, decide_true, decide_false, Bool.not_true, Bool.not_false, if_true, if_false, Bool.false_eq_true, Nat.reduceAdd, z0L, z1L, z2L, z3L, z4L, z5L, z6L, z7L, z8L, z9L, z10L, z11L, z12L, z0l, z1l, z2l, z3l, z4l, l_asI, l_finx, l_finIx, l_finI, l_un2, l_un3, l_un4, l_ne, l_nes, l_neb, l_gt, l_ix0, l_ix1, l_ix2, l_ix3, l_it0, l_it1, l_it2, l_it3, e0, List.append_nil, q_do hn hf hb, bdP_k, s_bdN]
end Lw
end
section
set_option maxHeartbeats 400000
namespace Gp
open PySem
end Gp
namespace Lw
open PySem Gp L2
theorem q_cont (ns : List Int) : F_Row_contents (.obj "Row" (rfs ns)) = .ok (.tup (ns.map D.int)) := by
  have e : fldD "Row" "own_items" (.obj "Row" (rfs ns)) = .ok (.lst (ns.map D.int)) := rfl
  simp only [F_Row_contents, s_bd, e, s_ul1, s_tupl, s_finr]
end Lw
end
section
set_option maxHeartbeats 400000
namespace Gp
open PySem
theorem bo_seq {α β : Type} {P : α → Prop} {Q : β → Prop} {m : Tr α} {k : α → Tr β} {a b n : Nat} (h : Bo P m a) (hk : ∀ x, P x → Bo Q (k x) b) (l : a + b ≤ n) : Bo Q (bd m k) n := (h.bd hk).mono (fun _ z => z) l
theorem bo_lc {f : D → Tr (Option D)} {P : D → Prop} {c : Nat} : ∀ {ds : List D}, (∀ d ∈ ds, Bo (fun o => ∃ y, o = some y ∧ P y) (f d) c) → Bo (fun ys => (∀ y ∈ ys, P y) ∧ ys.length = ds.length) (lcF f ds) (c * ds.length)
  | [], _ => bo_ok ⟨fun y h => absurd h (by simp), rfl⟩
  | d :: ds, h => by
    rw [lcF_cons]
    refine bo_seq (b := c * ds.length) (h d List.mem_cons_self) (fun o ho => ?_) (by rw [List.length_cons, Nat.mul_succ]; omega)
    obtain ⟨y, rfl, hy⟩ := ho
    refine bo_seq (b := 0) (bo_lc fun x hx => h x (List.mem_cons_of_mem _ hx)) (fun ys hys => ?_) (by omega)
    refine bo_ok ⟨fun z hz => ?_, by simp [hys.2]⟩
    rcases List.mem_cons.mp hz with rfl | hz
    · exact hy
    · exact hys.1 z hz
end Gp
namespace Lw
open PySem Gp
end Lw
end
section
set_option maxHeartbeats 1000000
namespace Lw
open PySem Gp L2
theorem vw_tt {b : Bool} : vwA tt1 (.ok b) = .ok b := vw_ok rfl
theorem insI_comm (a b : Int) : ∀ l : List Int, insI a (insI b l) = insI b (insI a l)
  | [] => by
    simp only [insI]
    split <;> split <;> first | rfl | (congr 1 <;> first | omega | (congr 1; omega))
  | c :: l => by
    have ih := insI_comm a b l
    by_cases h1 : b ≤ c <;> by_cases h2 : a ≤ c
    · simp only [insI, if_pos h1, if_pos h2]
      by_cases h3 : a ≤ b <;> by_cases h4 : b ≤ a
      · have : a = b := by omega
        subst this
        rfl
      · simp only [insI, if_pos h3, if_neg h4, if_pos h1]
      · simp only [insI, if_neg h3, if_pos h4, if_pos h2]
      · omega
    · have h3 : ¬ a ≤ b := by omega
      simp only [insI, if_pos h1, if_neg h2, if_neg h3]
    · have h3 : ¬ b ≤ a := by omega
      simp only [insI, if_neg h1, if_pos h2, if_neg h3]
    · simp only [insI, if_neg h1, if_neg h2, ih]
theorem sortI_perm {l m : List Int} (h : l.Perm m) : sortI l = sortI m := by
  induction h with
  | nil => rfl
  | cons x _ ih => rw [sortI, sortI, ih]
  | swap x y l => exact insI_comm y x (sortI l)
  | trans _ _ a b => exact a.trans b
theorem nodup_rowL {n : Nat} {s : Int → Int} (hi : ∀ p : Int, 0 ≤ p → p < n → s (s p) = p) : (rowL n s).Nodup := by
  unfold rowL List.Nodup
  rw [List.pairwise_map, ← List.range_eq_range']
  refine List.Pairwise.imp_of_mem (fun {x y} hx hy ne e => ?_) List.nodup_range
  have h1 := hi x (by omega) (by have := List.mem_range.mp hx; omega)
  have h2 := hi y (by omega) (by have := List.mem_range.mp hy; omega)
  rw [e, h2] at h1
  exact ne (by omega)
theorem row_perm {n : Nat} {s : Int → Int} (a : Int → Int) (hs : ∀ p : Int, 0 ≤ p → p < n → 0 ≤ s p ∧ s p < n) (hi : ∀ p : Int, 0 ≤ p → p < n → s (s p) = p) : (rowL n fun q => a (s q)).Perm (rowL n a) := by
  have e1 : (rowL n fun q => a (s q)) = (rowL n s).map a := by
    unfold rowL
    rw [List.map_map]
    rfl
  have e2 : rowL n a = (rowL n id).map a := by
    unfold rowL
    rw [List.map_map]
    rfl
  rw [e1, e2]
  refine List.Perm.map a ((List.perm_ext_iff_of_nodup (nodup_rowL hi) (nodup_rowL fun p _ _ => rfl)).mpr fun x => ⟨fun h => ?_, fun h => ?_⟩)
  · obtain ⟨q, q0, q1, rfl⟩ := rowL_mem h
    have r := hs q q0 q1
    obtain ⟨k, hk⟩ := Int.eq_ofNat_of_zero_le r.1
    exact List.mem_map.mpr ⟨k, by rw [← List.range_eq_range']; exact List.mem_range.mpr (by omega), hk.symm⟩
  · obtain ⟨q, q0, q1, e⟩ := rowL_mem h
    have e : x = q := e
    rw [e]
    have r := hs q q0 q1
    obtain ⟨k, hk⟩ := Int.eq_ofNat_of_zero_le r.1
    refine List.mem_map.mpr ⟨k, by rw [← List.range_eq_range']; exact List.mem_range.mpr (by omega), ?_⟩
    rw [← hk]
    exact hi q q0 q1
def InRow (n : Nat) (a : Int → Int) : Prop := ∀ q : Int, 0 ≤ q → q < n → InR (a q)
theorem InRow.mem {n : Nat} {a : Int → Int} (h : InRow n a) : ∀ x ∈ rowL n a, InR x := fun x hx => by
  obtain ⟨q, q0, q1, rfl⟩ := rowL_mem hx
  exact h q q0 q1
theorem q_behind {n : Nat} {a : Int → Int} {f b : List Int} {bk : Bool} (hn : 1 ≤ n ∧ n ≤ 2000) (hf : Drn f) (hb : Drn b) : F__law_behind (.lst ((rowL n a).map D.int)) (partD f b (sdS bk)) = .ok (.lst ((rowL n fun q => a (chgZ (sortI f) (sortI b) (sdS bk) n q)).map D.int)) := by
  have tf := hf.told
  have tb := hb.told
  have eg : ∀ h : Int → Int, ((rowL n fun q => a (h q))).map D.int = (rowL n h).map fun q => D.int (a q) := fun h => by
    unfold rowL
    rw [List.map_map, List.map_map]
    rfl
  have z2 : ∀ x y : D, [x, y].length ≤ sizeLine := fun x y => szS (by simp)
  have hlen : (((rowL n id).map fun q => D.int (a q))).length = n := by rw [List.length_map, rowL_len]
  have hl : listL (.lst ((rowL n id).map fun q => D.int (a q))) = .ok ((rowL n id).map fun q => D.int (a q)) := rfl
  have e0 : rowL n id = rowL n (stG (chgZ (sortI f) (sortI b) (sdS bk) n) 0) := rowL_congr fun q q0 q1 => by
    have := chgZ_rng (bk := bk) tf tb q0 q1
    unfold stG
    rw [if_neg (by omega)]
    rfl
  have hsw : ∀ F : D → List D → Tr (Fl (List D) (List D)), (∀ (h : Int → Int) (p : Int), 0 ≤ p → p + 1 < n → F (pairD (p, p + 1)) ((rowL n h).map fun q => D.int (a q)) = .ok (.nx ((rowL n fun q => if q = p then p + 1 else if q = p + 1 then p else h q).map fun q => D.int (a q)))) →
      forF (L := Empty) F ((allP (sortI f) (sortI b) (sdS bk) n).map pairD) ((rowL n id).map fun q => D.int (a q)) = .ok (.nx ((rowL n fun q => chgZ (sortI f) (sortI b) (sdS bk) n q).map fun q => D.int (a q))) := fun F hF => by
    rw [e0, allP_eq]
    exact for_swapG (s := chgZ (sortI f) (sortI b) (sdS bk) n) (g := fun q => D.int (a q)) (fun p h0 h1 => chgZ_rng tf tb h0 h1) (fun p h0 h1 => chg_back tf tb h0 h1) (fun p h0 h1 => chg_one tf tb h0 h1) hF n 0 (by omega) (by omega)
  have ea := eg id
  dsimp only [id] at ea
  rw [ea, eg]
  rw [lz__law_behind]
  unfold L__law_behind
  simp -implicitDefEqProofs -dsimp only [implies_true, isS_str, s_bdx, s_bd, ↓k_bd, k_bd, k_bdx, k_bdd, s_nox, k_bdF, k_bdFr, k_bdFx, s_finr, s_finn, s_find, k_bdFd, ↓reduceIte, s_asB, s_ul1, s_ul2, s_ul3, s_sub, s_add, s_neg, s_eq, s_len, s_itl, s_itt, s_opt, List.length_cons, List.length_nil, decide_true, decide_false, Bool.not_true, Bool.not_false, if_true, if_false, Bool.false_eq_true, Nat.reduceAdd, z0L, z1L, z2L, z3L, z4L, z5L, z6L, z7L, z8L, z9L, z10L, z11L, z12L, z0l, z1l, z2l, z3l, z4l, l_asI, l_finx, l_finIx, l_finI, l_un2, l_un3, l_un4, l_ne, l_nes, l_neb, l_gt, l_ix0, l_ix1, l_ix2, l_ix3, l_it0, l_it1, l_it2, l_it3, hl, hlen, q_law_pairs (bk := bk) (n := n) (by omega) hf hb, k_for]
  rw [hsw _ fun h p h0 h1 => ?_]
  · simp -implicitDefEqProofs -dsimp only [implies_true, isS_str, s_bdx, s_bd, ↓k_bd, k_bd, k_bdx, k_bdd, s_nox, k_bdF, k_bdFr, k_bdFx, s_finr, s_finn, s_find, k_bdFd, ↓reduceIte, s_asB, s_ul1, s_ul2, s_ul3, s_sub, s_add, s_neg, s_eq, s_len, s_itl, s_itt, s_opt, List.length_cons, List.length_nil, decide_true, decide_false, Bool.not_true, Bool.not_false, if_true, if_false, Bool.false_eq_true, Nat.reduceAdd, z0L, z1L, z2L, z3L, z4L, z5L, z6L, z7L, z8L, z9L, z10L, z11L, z12L, z0l, z1l, z2l, z3l, z4l, l_asI, l_finx, l_finIx, l_finI, l_un2, l_un3, l_un4, l_ne, l_nes, l_neb, l_gt, l_ix0, l_ix1, l_ix2, l_ix3, l_it0, l_it1, l_it2, l_it3]
  · have g1 := s_setG (n := n) (g := fun q => D.int (a q)) (a := h) (p := p) (v := p + 1) h0 (by omega)
    have g2 := s_setG (n := n) (g := fun q => D.int (a q)) (a := updF h p (p + 1)) (p := p + 1) (v := p) (by omega) h1
    have i1 := s_ixG (n := n) (g := fun q => D.int (a q)) h0 (by omega)
    have i2 := s_ixG (n := n) (g := fun q => D.int (a q)) (p := p + 1) (by omega) h1
    unfold pairD
    simp -implicitDefEqProofs -dsimp only [implies_true, isS_str, s_bdx, s_bd, ↓k_bd, k_bd, k_bdx, k_bdd, s_nox, k_bdF, k_bdFr, k_bdFx, s_finr, s_finn, s_find, k_bdFd, ↓reduceIte, s_asB, s_ul1, s_ul2, s_ul3, s_sub, s_add, s_neg, s_eq, s_len, s_itl, s_itt, s_opt, List.length_cons, List.length_nil, decide_true, decide_false, Bool.not_true, Bool.not_false, if_true, if_false, Bool.false_eq_true, Nat.reduceAdd, z0L, z1L, z2L, z3L, z4L, z5L, z6L, z7L, z8L, z9L, z10L, z11L, z12L, z0l, z1l, z2l, z3l, z4l, l_asI, l_finx, l_finIx, l_finI, l_un2, l_un3, l_un4, l_ne, l_nes, l_neb, l_gt, l_ix0, l_ix1, l_ix2, l_ix3, l_it0, l_it1, l_it2, l_it3, i1, i2, z2, g1, g2]
    have : rowL n (updF (updF h p (p + 1)) (p + 1) p) = rowL n fun q => if q = p then p + 1 else if q = p + 1 then p else h q := rowL_congr fun q _ _ => by
      unfold updF
      by_cases y1 : q = p
      · subst y1
        rw [if_neg (by omega), if_pos rfl, if_pos rfl]
      · rw [if_neg y1, if_neg y1]
    rw [this]
structure Pt where
  f : List Int
  b : List Int
  bk : Bool
def Pt.Ok (p : Pt) : Prop := Drn p.f ∧ Drn p.b
def Pt.d (p : Pt) : D := partD p.f p.b (sdS p.bk)
def Pt.c (p : Pt) : D := chgD (sortI p.f) (sortI p.b) (sdS p.bk)
def Pt.mv (p : Pt) (n : Nat) (q : Int) : Int := chgZ (sortI p.f) (sortI p.b) (sdS p.bk) n q
theorem Pt.rng {p : Pt} (h : p.Ok) {n : Nat} {q : Int} (h0 : 0 ≤ q) (h1 : q < n) : 0 ≤ p.mv n q ∧ p.mv n q < n := chgZ_rng h.1.told h.2.told h0 h1
theorem Pt.back {p : Pt} (h : p.Ok) {n : Nat} {q : Int} (h0 : 0 ≤ q) (h1 : q < n) : p.mv n (p.mv n q) = q := chg_back h.1.told h.2.told h0 h1
theorem InRow.mv {n : Nat} {a : Int → Int} (h : InRow n a) {p : Pt} (hp : p.Ok) : InRow n fun q => a (p.mv n q) := fun q q0 q1 => by
  have := Pt.rng hp q0 q1
  exact h _ this.1 this.2
theorem Pt.made {p : Pt} (h : p.Ok) : F__law_made p.d = .ok p.c := q_law_made h.1 h.2
theorem Pt.behind {p : Pt} (h : p.Ok) {n : Nat} (hn : 1 ≤ n ∧ n ≤ 2000) {a : Int → Int} : F__law_behind (.lst ((rowL n a).map D.int)) p.d = .ok (.lst ((rowL n fun q => a (p.mv n q)).map D.int)) := q_behind hn h.1 h.2
theorem Pt.do {p : Pt} (h : p.Ok) {n : Nat} (hn : 1 ≤ n ∧ n ≤ 2000) {a : Int → Int} : F_Row_do (rfs (rowL n a)) p.c = .ok (.non, rfs (rowL n fun q => a (p.mv n q))) := q_do hn h.1.told h.2.told
theorem Pt.imul {p : Pt} (h : p.Ok) {n : Nat} (hn : 1 ≤ n ∧ n ≤ 2000) {a : Int → Int} : F_Row___imul__ (rfs (rowL n a)) p.c = .ok (rfs (rowL n fun q => a (p.mv n q))) := q_imul hn h.1.told h.2.told
theorem Pt.ledby {p : Pt} (h : p.Ok) {n : Nat} (hn : 1 ≤ n ∧ n ≤ 2000) {a : Int → Int} (ha : InRow n a) : F_Row_led_by (.obj "Row" (rfs (rowL n a))) p.c = .ok (rfs (rowL n fun q => a (p.mv n q))) := by
  have e1 : F_Row_led (.obj "Row" (rfs (rowL n a))) p.c = .ok (.lst ((rowL n fun q => a (p.mv n q)).map D.int)) := q_led hn h.1.told h.2.told
  have e2 : (isO "Row" (D.obj "Row" (rfs (rowL n a))) fun fs => if fs.lookup ("led" : Str) = none then F_Row_led (D.obj "Row" (rfs (rowL n a))) p.c else .bad) = .ok (.lst ((rowL n fun q => a (p.mv n q)).map D.int)) := e1
  have e3 : F_Row___init__ [] (.lst ((rowL n fun q => a (p.mv n q)).map D.int)) = .ok (rfs (rowL n fun q => a (p.mv n q))) := q_rinit (by rw [rowL_len]; omega) (by rw [rowL_len]; omega) (ha.mv h).mem
  rw [lz_Row_led_by]
  unfold L_Row_led_by
  simp -implicitDefEqProofs -dsimp only [implies_true, isS_str, s_bdx, s_bd, ↓k_bd, k_bd, k_bdx, k_bdd, s_nox, k_bdF, k_bdFr, k_bdFx, s_finr, s_finn, s_find, k_bdFd, ↓reduceIte, s_asB, s_ul1, s_ul2, s_ul3, s_sub, s_add, s_neg, s_eq, s_len, s_itl, s_itt, s_opt, List.length_cons, List.length_nil, decide_true, decide_false, Bool.not_true, Bool.not_false, if_true, if_false, Bool.false_eq_true, Nat.reduceAdd, z0L, z1L, z2L, z3L, z4L, z5L, z6L, z7L, z8L, z9L, z10L, z11L, z12L, z0l, z1l, z2l, z3l, z4l, l_asI, l_finx, l_finIx, l_finI, l_un2, l_un3, l_un4, l_ne, l_nes, l_neb, l_gt, l_ix0, l_ix1, l_ix2, l_ix3, l_it0, l_it1, l_it2, l_it3, e2, List.append_nil, e3]
theorem eqr_row (ns : List Int) : eqr_Row (.obj "Row" (rfs ns)) = true := rfl
theorem r_eq (ns : List Int) : F_Row___eq__ (.obj "Row" (rfs ns)) (.obj "Row" (rfs ns)) = .ok (.bl true) := by
  have ii : isi_Row (.obj "Row" (rfs ns)) = some true := rfl
  have ef : fldD "Row" "own_items" (.obj "Row" (rfs ns)) = .ok (.lst (ns.map D.int)) := rfl
  have e := s_eq_ints ns ns
  rw [decide_eq_true rfl] at e
  rw [lz_Row___eq__]
  unfold L_Row___eq__
  simp -implicitDefEqProofs -dsimp only [implies_true, isS_str, s_bdx, s_bd, ↓k_bd, k_bd, k_bdx, k_bdd, s_nox, k_bdF, k_bdFr, k_bdFx, s_finr, s_finn, s_find, k_bdFd, ↓reduceIte, s_asB, s_ul1, s_ul2, s_ul3, s_sub, s_add, s_neg, s_eq, s_len, s_itl, s_itt, s_opt, List.length_cons, List.length_nil, decide_true, decide_false, Bool.not_true, Bool.not_false, if_true, if_false, Bool.false_eq_true, Nat.reduceAdd, z0L, z1L, z2L, z3L, z4L, z5L, z6L, z7L, z8L, z9L, z10L, z11L, z12L, z0l, z1l, z2l, z3l, z4l, l_asI, l_finx, l_finIx, l_finI, l_un2, l_un3, l_un4, l_ne, l_nes, l_neb, l_gt, l_ix0, l_ix1, l_ix2, l_ix3, l_it0, l_it1, l_it2, l_it3, ii, ef, e]
theorem r_eqO (ns : List Int) : eqO "Row" eqr_Row (ul2 F_Row___eq__) (.obj "Row" (rfs ns)) (.obj "Row" (rfs ns)) = .ok (.bl true) := by
  unfold eqO
  show (if eqr_Row (.obj "Row" (rfs ns)) = true then ul2 F_Row___eq__ [_, _] else .bad) = _
  rw [if_pos (eqr_row ns), s_ul2, r_eq]
end Lw
end
section
set_option maxHeartbeats 1000000
namespace Lw
open PySem Gp L2
theorem b_item : Bx (fun d => ∃ m, d = .int m ∧ InR m) (F__law_item .pen) 4 := by
  have z1 : ∀ {a b c d e f g h : D}, [a, b, c, d, e, f, g, h].length ≤ sizeLine := by intros; exact szS (by simp)
  have z2 : ∀ {a b : D}, [a, b].length ≤ sizeLine := by intros; exact szS (by simp)
  rw [lz__law_item]
  unfold L__law_item
  simp -implicitDefEqProofs -dsimp only [implies_true, isS_str, s_bdx, s_bd, ↓k_bd, k_bd, k_bdx, k_bdd, s_nox, k_bdF, k_bdFr, k_bdFx, s_finr, s_finn, s_find, k_bdFd, ↓reduceIte, s_asB, s_ul1, s_ul2, s_ul3, s_sub, s_add, s_neg, s_eq, s_len, s_itl, s_itt, s_opt, List.length_cons, List.length_nil, decide_true, decide_false, Bool.not_true, Bool.not_false, if_true, if_false, Bool.false_eq_true, Nat.reduceAdd, z0L, z1L, z2L, z3L, z4L, z5L, z6L, z7L, z8L, z9L, z10L, z11L, z12L, z0l, z1l, z2l, z3l, z4l, l_asI, l_finx, l_finIx, l_finI, l_un2, l_un3, l_un4, l_ne, l_nes, l_neb, l_gt, l_ix0, l_ix1, l_ix2, l_ix3, l_it0, l_it1, l_it2, l_it3, k_bdbd, k_bdFbd, k_finbd, s_draw]
  refine bx_draw (n := 3) (by decide) (by decide) fun d d0 d1 => ?_
  refine bx_draw (n := 2) (by decide) (by decide) fun e e0 e1 => ?_
  refine bx_draw (n := 1) (by decide) (by decide) fun g g0 g1 => ?_
  rw [s_addl (szS (by simp))]
  simp -implicitDefEqProofs -dsimp only [implies_true, isS_str, s_bdx, s_bd, ↓k_bd, k_bd, k_bdx, k_bdd, s_nox, k_bdF, k_bdFr, k_bdFx, s_finr, s_finn, s_find, k_bdFd, ↓reduceIte, s_asB, s_ul1, s_ul2, s_ul3, s_sub, s_add, s_neg, s_eq, s_len, s_itl, s_itt, s_opt, List.length_cons, List.length_nil, decide_true, decide_false, Bool.not_true, Bool.not_false, if_true, if_false, Bool.false_eq_true, Nat.reduceAdd, z0L, z1L, z2L, z3L, z4L, z5L, z6L, z7L, z8L, z9L, z10L, z11L, z12L, z0l, z1l, z2l, z3l, z4l, l_asI, l_finx, l_finIx, l_finI, l_un2, l_un3, l_un4, l_ne, l_nes, l_neb, l_gt, l_ix0, l_ix1, l_ix2, l_ix3, l_it0, l_it1, l_it2, l_it3, k_bdbd, k_bdFbd, k_finbd, q_pick]
  have z3 : (10 : Int) ^ 30 = 1000000000000000000000000000000 := by decide
  refine bx_draw (n := 0) (show (0 : Int) < ((10 : Nat) : Int) by decide) (show ((10 : Nat) : Int) < 10 ^ 100 by decide) fun i i0 i1 => ?_
  have key : ∀ j : Nat, j < 10 → ∃ m, ([D.int 0, D.int 1, D.int (-1), D.int 7, D.int 7, D.int d, D.int (1000000000000000000000000000000 - 1), D.int (1 - 1000000000000000000000000000000)] ++ [D.int (0 - e), D.int g])[j]? = some (D.int m) ∧ InR m := fun j hj => by
    match j, hj with
    | 0, _ => exact ⟨_, rfl, by unfold InR; omega⟩
    | 1, _ => exact ⟨_, rfl, by unfold InR; omega⟩
    | 2, _ => exact ⟨_, rfl, by unfold InR; omega⟩
    | 3, _ => exact ⟨_, rfl, by unfold InR; omega⟩
    | 4, _ => exact ⟨_, rfl, by unfold InR; omega⟩
    | 5, _ => exact ⟨_, rfl, by unfold InR; omega⟩
    | 6, _ => exact ⟨_, rfl, by unfold InR; omega⟩
    | 7, _ => exact ⟨_, rfl, by unfold InR; omega⟩
    | 8, _ => exact ⟨_, rfl, by unfold InR; omega⟩
    | 9, _ => exact ⟨_, rfl, by unfold InR; omega⟩
    | j + 10, h => omega
  have il : i < 10 := i1
  obtain ⟨m, em, hm⟩ := key i.toNat (by omega)
  rw [s_ixL i0 em]
  simp -implicitDefEqProofs -dsimp only [implies_true, isS_str, s_bdx, s_bd, ↓k_bd, k_bd, k_bdx, k_bdd, s_nox, k_bdF, k_bdFr, k_bdFx, s_finr, s_finn, s_find, k_bdFd, ↓reduceIte, s_asB, s_ul1, s_ul2, s_ul3, s_sub, s_add, s_neg, s_eq, s_len, s_itl, s_itt, s_opt, List.length_cons, List.length_nil, decide_true, decide_false, Bool.not_true, Bool.not_false, if_true, if_false, Bool.false_eq_true, Nat.reduceAdd, z0L, z1L, z2L, z3L, z4L, z5L, z6L, z7L, z8L, z9L, z10L, z11L, z12L, z0l, z1l, z2l, z3l, z4l, l_asI, l_finx, l_finIx, l_finI, l_un2, l_un3, l_un4, l_ne, l_nes, l_neb, l_gt, l_ix0, l_ix1, l_ix2, l_ix3, l_it0, l_it1, l_it2, l_it3]
  exact bx_ok ⟨m, rfl, hm⟩
theorem s_bdNd {W' : Type} (m : Int) (k : Int → Tr (Fl W' Empty)) (f : W' → Tr Fs) : bdN (.draw m k) f = .draw m fun d => bdN (k d) f := rfl
theorem isO_row {α : Type} (fs : Fs) (k : Fs → Tr α) : isO "Row" (.obj "Row" fs) k = k fs := rfl
theorem tu_l (ds : List D) : tupD (.lst ds) = .ok (.tup ds) := rfl
theorem noFs (ns : List Int) : ((rfs ns).all fun z => noO z.2) = true := by
  show (noO (.lst (ns.map D.int)) && true) = true
  rw [show noO (.lst (ns.map D.int)) = noOL (ns.map D.int) from rfl, noOL_ints]
  rfl
theorem vw_fs (ns : List Int) : vwA (fun r : Fs => r.all fun z => noO z.2) (.ok (rfs ns)) = .ok (rfs ns) := vw_ok (noFs ns)
theorem kw_1 (F : List D → Tr D) (x y : D) : kwD 1 1 [.inl 0] [] F [x] [y] = F [x, y] := rfl
theorem b_stepX {n : Nat} {a : Int → Int} {p : Pt} (hn : 1 ≤ n ∧ n ≤ 2000) (ha : InRow n a) (hp : p.Ok) : Bx (fun r => r = rfs (rowL n fun q => a (p.mv n q))) (F__law_step .pen (rfs (rowL n a)) (.lst ((rowL n a).map D.int)) p.d) 1 := by
  have l1 : ∀ ns, (rfs ns).lookup ("led_by" : Str) = none := fun _ => rfl
  have l2 : ∀ ns, (rfs ns).lookup ("do" : Str) = none := fun _ => rfl
  have c1 := q_cont (rowL n a)
  have t1 := s_eqt_ints (rowL n a) (rowL n a)
  rw [decide_eq_true rfl] at t1
  have t2 := s_eqt_ints (rowL n fun q => a (p.mv n q)) (rowL n fun q => a (p.mv n q))
  rw [decide_eq_true rfl] at t2
  rw [lz__law_step]
  unfold L__law_step
  simp -implicitDefEqProofs -dsimp only [implies_true, isS_str, s_bdx, s_bd, ↓k_bd, k_bd, k_bdx, k_bdd, s_nox, k_bdF, k_bdFr, k_bdFx, s_finr, s_finn, s_find, k_bdFd, ↓reduceIte, s_asB, s_ul1, s_ul2, s_ul3, s_sub, s_add, s_neg, s_eq, s_len, s_itl, s_itt, s_opt, List.length_cons, List.length_nil, decide_true, decide_false, Bool.not_true, Bool.not_false, if_true, if_false, Bool.false_eq_true, Nat.reduceAdd, z0L, z1L, z2L, z3L, z4L, z5L, z6L, z7L, z8L, z9L, z10L, z11L, z12L, z0l, z1l, z2l, z3l, z4l, l_asI, l_finx, l_finIx, l_finI, l_un2, l_un3, l_un4, l_ne, l_nes, l_neb, l_gt, l_ix0, l_ix1, l_ix2, l_ix3, l_it0, l_it1, l_it2, l_it3, k_bdbd, k_bdFbd, k_finbd, s_draw, s_bdN, s_bdNd]
  refine bx_draw (by decide) (by decide) fun d d0 d1 => ?_
  have made := Pt.made hp
  have e10 : decide ((1 : Int) = 0) = false := rfl
  have e20 : decide ((2 : Int) = 0) = false := rfl
  have e21 : decide ((2 : Int) = 1) = false := rfl
  have i0 : isN .non = true := rfl
  by_cases y0 : d = 0
  · subst y0
    simp -implicitDefEqProofs -dsimp only [implies_true, isS_str, s_bdx, s_bd, ↓k_bd, k_bd, k_bdx, k_bdd, s_nox, k_bdF, k_bdFr, k_bdFx, s_finr, s_finn, s_find, k_bdFd, ↓reduceIte, s_asB, s_ul1, s_ul2, s_ul3, s_sub, s_add, s_neg, s_eq, s_len, s_itl, s_itt, s_opt, List.length_cons, List.length_nil, decide_true, decide_false, Bool.not_true, Bool.not_false, if_true, if_false, Bool.false_eq_true, Nat.reduceAdd, z0L, z1L, z2L, z3L, z4L, z5L, z6L, z7L, z8L, z9L, z10L, z11L, z12L, z0l, z1l, z2l, z3l, z4l, l_asI, l_finx, l_finIx, l_finI, l_un2, l_un3, l_un4, l_ne, l_nes, l_neb, l_gt, l_ix0, l_ix1, l_ix2, l_ix3, l_it0, l_it1, l_it2, l_it3, made, s_bdN, isO_row, l1, Pt.ledby hp hn ha, vw_fs, c1, tu_l, t1, vw_tt, kw_1, r_eqO]
    exact bx_ok rfl
  by_cases y1 : d = 1
  · subst y1
    simp -implicitDefEqProofs -dsimp only [implies_true, isS_str, s_bdx, s_bd, ↓k_bd, k_bd, k_bdx, k_bdd, s_nox, k_bdF, k_bdFr, k_bdFx, s_finr, s_finn, s_find, k_bdFd, ↓reduceIte, s_asB, s_ul1, s_ul2, s_ul3, s_sub, s_add, s_neg, s_eq, s_len, s_itl, s_itt, s_opt, List.length_cons, List.length_nil, decide_true, decide_false, Bool.not_true, Bool.not_false, if_true, if_false, Bool.false_eq_true, Nat.reduceAdd, z0L, z1L, z2L, z3L, z4L, z5L, z6L, z7L, z8L, z9L, z10L, z11L, z12L, z0l, z1l, z2l, z3l, z4l, l_asI, l_finx, l_finIx, l_finI, l_un2, l_un3, l_un4, l_ne, l_nes, l_neb, l_gt, l_ix0, l_ix1, l_ix2, l_ix3, l_it0, l_it1, l_it2, l_it3, made, s_bdN, isO_row, l2, e10, List.append_nil, Pt.do hp hn (a := a), bdP_k, i0]
    exact bx_ok rfl
  · have y2 : d = 2 := by omega
    subst y2
    simp -implicitDefEqProofs -dsimp only [implies_true, isS_str, s_bdx, s_bd, ↓k_bd, k_bd, k_bdx, k_bdd, s_nox, k_bdF, k_bdFr, k_bdFx, s_finr, s_finn, s_find, k_bdFd, ↓reduceIte, s_asB, s_ul1, s_ul2, s_ul3, s_sub, s_add, s_neg, s_eq, s_len, s_itl, s_itt, s_opt, List.length_cons, List.length_nil, decide_true, decide_false, Bool.not_true, Bool.not_false, if_true, if_false, Bool.false_eq_true, Nat.reduceAdd, z0L, z1L, z2L, z3L, z4L, z5L, z6L, z7L, z8L, z9L, z10L, z11L, z12L, z0l, z1l, z2l, z3l, z4l, l_asI, l_finx, l_finIx, l_finI, l_un2, l_un3, l_un4, l_ne, l_nes, l_neb, l_gt, l_ix0, l_ix1, l_ix2, l_ix3, l_it0, l_it1, l_it2, l_it3, made, s_bdN, isO_row, e20, e21, Pt.imul hp hn (a := a), q_cont, t2, vw_tt, r_eqO]
    exact bx_ok rfl
theorem r_neO (ns : List Int) : neO "Row" eqr_Row (ul2 F_Row___eq__) (.obj "Row" (rfs ns)) (.obj "Row" (rfs ns)) = .ok (.bl false) := by
  have e : ul2 F_Row___eq__ [D.obj "Row" (rfs ns), D.obj "Row" (rfs ns)] = .ok (.bl true) := r_eq ns
  show (if eqr_Row (.obj "Row" (rfs ns)) = true then bd (bd (ul2 F_Row___eq__ [D.obj "Row" (rfs ns), D.obj "Row" (rfs ns)]) asB) (fun k => Tr.ok (D.bl !k)) else .bad) = _
  rw [if_pos (eqr_row ns), e]
  rfl
theorem isN_obj (c : Str) (fs : Fs) : isN (.obj c fs) = false := rfl
theorem b_step {n : Nat} {a : Int → Int} {p : Pt} (hn : 1 ≤ n ∧ n ≤ 2000) (ha : InRow n a) (hp : p.Ok) : Bo (fun r => r = rfs (rowL n fun q => a (p.mv n q))) (nox (F__law_step .pen (rfs (rowL n a)) (.lst ((rowL n a).map D.int)) p.d)) 1 := bo_nox (b_stepX hn ha hp).bo
theorem ex_map {α β : Type} {g : α → β} {ok : α → Prop} : ∀ {ys : List β}, (∀ y ∈ ys, ∃ p, y = g p ∧ ok p) → ∃ ps : List α, ys = ps.map g ∧ ∀ p ∈ ps, ok p
  | [], _ => ⟨[], rfl, fun _ h => by cases h⟩
  | y :: ys, h => by
    obtain ⟨p, rfl, hp⟩ := h y List.mem_cons_self
    obtain ⟨ps, rfl, hps⟩ := ex_map fun z hz => h z (List.mem_cons_of_mem _ hz)
    refine ⟨p :: ps, rfl, fun z hz => ?_⟩
    rcases List.mem_cons.mp hz with rfl | hz
    · exact hp
    · exact hps z hz
theorem as_row {k : Nat} {P : Int → Prop} {ns : List Int} (hl : ns.length = k) (hs : ∀ x ∈ ns, P x) : ∃ a : Int → Int, (∀ q : Int, 0 ≤ q → q < k → P (a q)) ∧ ns = rowL k a := by
  have e : ∀ i (h : i < ns.length), ns.getD i 0 = ns[i] := fun i h => by rw [List.getD_eq_getElem?_getD, List.getElem?_eq_getElem h]; rfl
  refine ⟨fun q => ns.getD q.toNat 0, fun q q0 q1 => ?_, rowL_ext hl fun j hj => ?_⟩
  · have : q.toNat < ns.length := by omega
    dsimp only
    rw [e _ this]
    exact hs _ (List.getElem_mem _)
  · have : j < ns.length := by omega
    rw [Int.toNat_natCast, e _ this, List.getElem?_eq_getElem this]
theorem b_item1 : Bo (fun o => ∃ y, o = some y ∧ ∃ m : Int, y = D.int m ∧ InR m) (nox (bdk (F__law_item .pen) fun y => Tr.ok (some y))) 4 := by
  refine bo_nox (bo_then (b := 0) b_item.bo (fun x hx => ?_) (by decide))
  obtain ⟨m, rfl, hm⟩ := hx
  exact bo_ok ⟨_, rfl, _, rfl, hm⟩
theorem b_prt : Bo (fun d => ∃ p : Pt, d = p.d ∧ p.Ok) (F__law_part .pen) 21 := Bo.mono (fun d h => by
  obtain ⟨f, b, bk, rfl, hf, hb⟩ := h
  exact ⟨⟨f, b, bk⟩, rfl, hf, hb⟩) (Nat.le_refl _) b_part
theorem law_bx : Bx (fun d => d = .bl true) F_law (4 * 215 + 0) := by
  have e4 : rg1 (.int 4) = .ok [.int 0, .int 1, .int 2, .int 3] := rfl
  rw [lz_law]
  unfold L_law
  simp -implicitDefEqProofs -dsimp only [implies_true, isS_str, s_bdx, s_bd, ↓k_bd, k_bd, k_bdx, k_bdd, s_nox, k_bdF, k_bdFr, k_bdFx, s_finr, s_finn, s_find, k_bdFd, ↓reduceIte, s_asB, s_ul1, s_ul2, s_ul3, s_sub, s_add, s_neg, s_eq, s_len, s_itl, s_itt, s_opt, List.length_cons, List.length_nil, decide_true, decide_false, Bool.not_true, Bool.not_false, if_true, if_false, Bool.false_eq_true, Nat.reduceAdd, z0L, z1L, z2L, z3L, z4L, z5L, z6L, z7L, z8L, z9L, z10L, z11L, z12L, z0l, z1l, z2l, z3l, z4l, l_asI, l_finx, l_finIx, l_finI, l_un2, l_un3, l_un4, l_ne, l_nes, l_neb, l_gt, l_ix0, l_ix1, l_ix2, l_ix3, l_it0, l_it1, l_it2, l_it3, bdP_k, List.append_nil, s_draw, e4]
  refine bk_loopU (c := 215) (b := 0) (fun d hd => ?_) ?_ (by decide)
  · simp -implicitDefEqProofs -dsimp only [implies_true, isS_str, s_bdx, s_bd, ↓k_bd, k_bd, k_bdx, k_bdd, s_nox, k_bdF, k_bdFr, k_bdFx, s_finr, s_finn, s_find, k_bdFd, ↓reduceIte, s_asB, s_ul1, s_ul2, s_ul3, s_sub, s_add, s_neg, s_eq, s_len, s_itl, s_itt, s_opt, List.length_cons, List.length_nil, decide_true, decide_false, Bool.not_true, Bool.not_false, if_true, if_false, Bool.false_eq_true, Nat.reduceAdd, z0L, z1L, z2L, z3L, z4L, z5L, z6L, z7L, z8L, z9L, z10L, z11L, z12L, z0l, z1l, z2l, z3l, z4l, l_asI, l_finx, l_finIx, l_finI, l_un2, l_un3, l_un4, l_ne, l_nes, l_neb, l_gt, l_ix0, l_ix1, l_ix2, l_ix3, l_it0, l_it1, l_it2, l_it3, k_bdbd, k_bdFbd, k_finbd, List.append_nil, s_draw]
    refine bx_draw (n := 214) (by decide) (by decide) fun d d0 d1 => ?_
    obtain ⟨k, hk⟩ := Int.eq_ofNat_of_zero_le (show 0 ≤ 1 + d by omega)
    simp -implicitDefEqProofs -dsimp only [implies_true, isS_str, s_bdx, s_bd, ↓k_bd, k_bd, k_bdx, k_bdd, s_nox, k_bdF, k_bdFr, k_bdFx, s_finr, s_finn, s_find, k_bdFd, ↓reduceIte, s_asB, s_ul1, s_ul2, s_ul3, s_sub, s_add, s_neg, s_eq, s_len, s_itl, s_itt, s_opt, List.length_cons, List.length_nil, decide_true, decide_false, Bool.not_true, Bool.not_false, if_true, if_false, Bool.false_eq_true, Nat.reduceAdd, z0L, z1L, z2L, z3L, z4L, z5L, z6L, z7L, z8L, z9L, z10L, z11L, z12L, z0l, z1l, z2l, z3l, z4l, l_asI, l_finx, l_finIx, l_finI, l_un2, l_un3, l_un4, l_ne, l_nes, l_neb, l_gt, l_ix0, l_ix1, l_ix2, l_ix3, l_it0, l_it1, l_it2, l_it3, k_bdbd, k_bdFbd, k_finbd, List.append_nil, s_draw, hk, s_rg1 (show k ≤ 16777216 by omega)]
    refine bk_thenB (a := 36) (b := 178) (bo_le (bo_lc fun _ _ => b_item1) (by rw [List.length_map, List.length_range']; omega)) (fun ys hys => ?_) (by decide)
    obtain ⟨hy, hl⟩ := hys
    obtain ⟨ns, rfl, hs⟩ := ex_map hy
    rw [List.length_map, List.length_map, List.length_range'] at hl
    clear hy
    obtain ⟨a, ha, rfl⟩ := as_row hl hs
    have hn : 1 ≤ k ∧ k ≤ 2000 := by omega
    simp -implicitDefEqProofs -dsimp only [implies_true, isS_str, s_bdx, s_bd, ↓k_bd, k_bd, k_bdx, k_bdd, s_nox, k_bdF, k_bdFr, k_bdFx, s_finr, s_finn, s_find, k_bdFd, ↓reduceIte, s_asB, s_ul1, s_ul2, s_ul3, s_sub, s_add, s_neg, s_eq, s_len, s_itl, s_itt, s_opt, List.length_cons, List.length_nil, decide_true, decide_false, Bool.not_true, Bool.not_false, if_true, if_false, Bool.false_eq_true, Nat.reduceAdd, z0L, z1L, z2L, z3L, z4L, z5L, z6L, z7L, z8L, z9L, z10L, z11L, z12L, z0l, z1l, z2l, z3l, z4l, l_asI, l_finx, l_finIx, l_finI, l_un2, l_un3, l_un4, l_ne, l_nes, l_neb, l_gt, l_ix0, l_ix1, l_ix2, l_ix3, l_it0, l_it1, l_it2, l_it3, k_bdbd, k_bdFbd, k_finbd, s_itl, List.append_nil, q_rinit (show 1 ≤ (rowL k a).length by rw [rowL_len]; omega) (show (rowL k a).length ≤ 2000 by rw [rowL_len]; omega) (InRow.mem ha), lc_id, s_int, s_sortD]
    simp -implicitDefEqProofs -dsimp only [implies_true, isS_str, s_bdx, s_bd, ↓k_bd, k_bd, k_bdx, k_bdd, s_nox, k_bdF, k_bdFr, k_bdFx, s_finr, s_finn, s_find, k_bdFd, ↓reduceIte, s_asB, s_ul1, s_ul2, s_ul3, s_sub, s_add, s_neg, s_eq, s_len, s_itl, s_itt, s_opt, List.length_cons, List.length_nil, decide_true, decide_false, Bool.not_true, Bool.not_false, if_true, if_false, Bool.false_eq_true, Nat.reduceAdd, z0L, z1L, z2L, z3L, z4L, z5L, z6L, z7L, z8L, z9L, z10L, z11L, z12L, z0l, z1l, z2l, z3l, z4l, l_asI, l_finx, l_finIx, l_finI, l_un2, l_un3, l_un4, l_ne, l_nes, l_neb, l_gt, l_ix0, l_ix1, l_ix2, l_ix3, l_it0, l_it1, l_it2, l_it3, k_bdbd, k_bdFbd, k_finbd, s_draw]
    refine bx_draw (n := 177) (by decide) (by decide) fun g g0 g1 => ?_
    obtain ⟨j, hj⟩ := Int.eq_ofNat_of_zero_le g0
    simp -implicitDefEqProofs -dsimp only [implies_true, isS_str, s_bdx, s_bd, ↓k_bd, k_bd, k_bdx, k_bdd, s_nox, k_bdF, k_bdFr, k_bdFx, s_finr, s_finn, s_find, k_bdFd, ↓reduceIte, s_asB, s_ul1, s_ul2, s_ul3, s_sub, s_add, s_neg, s_eq, s_len, s_itl, s_itt, s_opt, List.length_cons, List.length_nil, decide_true, decide_false, Bool.not_true, Bool.not_false, if_true, if_false, Bool.false_eq_true, Nat.reduceAdd, z0L, z1L, z2L, z3L, z4L, z5L, z6L, z7L, z8L, z9L, z10L, z11L, z12L, z0l, z1l, z2l, z3l, z4l, l_asI, l_finx, l_finIx, l_finI, l_un2, l_un3, l_un4, l_ne, l_nes, l_neb, l_gt, l_ix0, l_ix1, l_ix2, l_ix3, l_it0, l_it1, l_it2, l_it3, k_bdbd, k_bdFbd, k_finbd, hj, s_rg1 (show j ≤ 16777216 by omega)]
    refine bk_loopJ (I := fun w : D × Fs => ∃ b, w = (.lst ((rowL k b).map D.int), rfs (rowL k b)) ∧ InRow k b ∧ sortI (rowL k b) = sortI (rowL k a)) (c := 22) (b := 0) (fun d2 hd2 w hw => ?_) ⟨a, rfl, ha, rfl⟩ (fun w hw => ?_) ?_
    · obtain ⟨b, rfl, hb, sb⟩ := hw
      simp -implicitDefEqProofs -dsimp only [implies_true, isS_str, s_bdx, s_bd, ↓k_bd, k_bd, k_bdx, k_bdd, s_nox, k_bdF, k_bdFr, k_bdFx, s_finr, s_finn, s_find, k_bdFd, ↓reduceIte, s_asB, s_ul1, s_ul2, s_ul3, s_sub, s_add, s_neg, s_eq, s_len, s_itl, s_itt, s_opt, List.length_cons, List.length_nil, decide_true, decide_false, Bool.not_true, Bool.not_false, if_true, if_false, Bool.false_eq_true, Nat.reduceAdd, z0L, z1L, z2L, z3L, z4L, z5L, z6L, z7L, z8L, z9L, z10L, z11L, z12L, z0l, z1l, z2l, z3l, z4l, l_asI, l_finx, l_finIx, l_finI, l_un2, l_un3, l_un4, l_ne, l_nes, l_neb, l_gt, l_ix0, l_ix1, l_ix2, l_ix3, l_it0, l_it1, l_it2, l_it3, k_bdbd, k_bdFbd, k_finbd]
      refine bk_thenB (a := 21) (b := 1) b_prt (fun x hx => ?_) (by decide)
      obtain ⟨p, rfl, hp⟩ := hx
      simp -implicitDefEqProofs -dsimp only [implies_true, isS_str, s_bdx, s_bd, ↓k_bd, k_bd, k_bdx, k_bdd, s_nox, k_bdF, k_bdFr, k_bdFx, s_finr, s_finn, s_find, k_bdFd, ↓reduceIte, s_asB, s_ul1, s_ul2, s_ul3, s_sub, s_add, s_neg, s_eq, s_len, s_itl, s_itt, s_opt, List.length_cons, List.length_nil, decide_true, decide_false, Bool.not_true, Bool.not_false, if_true, if_false, Bool.false_eq_true, Nat.reduceAdd, z0L, z1L, z2L, z3L, z4L, z5L, z6L, z7L, z8L, z9L, z10L, z11L, z12L, z0l, z1l, z2l, z3l, z4l, l_asI, l_finx, l_finIx, l_finI, l_un2, l_un3, l_un4, l_ne, l_nes, l_neb, l_gt, l_ix0, l_ix1, l_ix2, l_ix3, l_it0, l_it1, l_it2, l_it3, k_bdbd, k_bdFbd, k_finbd]
      refine bk_thenB (a := 1) (b := 0) (b_step hn hb hp) (fun fs hf => ?_) (by decide)
      subst hf
      have hb' := InRow.mv hb hp
      have t2 := ne_of_eqD (s_eqt_ints (rowL k fun q => b (p.mv k q)) (rowL k fun q => b (p.mv k q)))
      rw [decide_eq_true rfl] at t2
      rw [Bool.not_true] at t2
      have l1 : ∀ ns, (rfs ns).lookup ("led_by" : Str) = none := fun _ => rfl
      have c1 := q_cont (rowL k fun q => b (p.mv k q))
      have sb' : sortI (rowL k fun q => b (p.mv k q)) = sortI (rowL k a) := (sortI_perm (row_perm b (fun q h0 h1 => Pt.rng hp h0 h1) fun q h0 h1 => Pt.back hp h0 h1)).trans sb
      have x1 : F_Row_led_by (.obj "Row" (rfs (rowL k fun q => b (p.mv k q)))) p.c = .ok (rfs (rowL k b)) := by
        rw [Pt.ledby hp hn hb']
        congr 2
        exact rowL_congr fun q q0 q1 => by rw [Pt.back hp q0 q1]
      have x2 := Pt.ledby hp hn hb
      have mb := Pt.behind hp hn (a := b)
      have mm := Pt.made hp
      simp -implicitDefEqProofs -dsimp only [implies_true, isS_str, s_bdx, s_bd, ↓k_bd, k_bd, k_bdx, k_bdd, s_nox, k_bdF, k_bdFr, k_bdFx, s_finr, s_finn, s_find, k_bdFd, ↓reduceIte, s_asB, s_ul1, s_ul2, s_ul3, s_sub, s_add, s_neg, s_eq, s_len, s_itl, s_itt, s_opt, List.length_cons, List.length_nil, decide_true, decide_false, Bool.not_true, Bool.not_false, if_true, if_false, Bool.false_eq_true, Nat.reduceAdd, z0L, z1L, z2L, z3L, z4L, z5L, z6L, z7L, z8L, z9L, z10L, z11L, z12L, z0l, z1l, z2l, z3l, z4l, l_asI, l_finx, l_finIx, l_finI, l_un2, l_un3, l_un4, l_ne, l_nes, l_neb, l_gt, l_ix0, l_ix1, l_ix2, l_ix3, l_it0, l_it1, l_it2, l_it3, k_bdbd, k_bdFbd, k_finbd, s_itl, s_itt, mb, isO_row, isN_obj, l1, c1, tu_l, t2, vw_tt, lc_id, s_int, s_sortD, sb', s_ne_ints, mm, x1, x2, r_neO]
      exact bx_ok ⟨_, rfl, _, rfl, hb', sb'⟩
    · exact bx_ok rfl
    · rw [List.length_map, List.length_range']
      omega
  · simp -implicitDefEqProofs -dsimp only [implies_true, isS_str, s_bdx, s_bd, ↓k_bd, k_bd, k_bdx, k_bdd, s_nox, k_bdF, k_bdFr, k_bdFx, s_finr, s_finn, s_find, k_bdFd, ↓reduceIte, s_asB, s_ul1, s_ul2, s_ul3, s_sub, s_add, s_neg, s_eq, s_len, s_itl, s_itt, s_opt, List.length_cons, List.length_nil, decide_true, decide_false, Bool.not_true, Bool.not_false, if_true, if_false, Bool.false_eq_true, Nat.reduceAdd, z0L, z1L, z2L, z3L, z4L, z5L, z6L, z7L, z8L, z9L, z10L, z11L, z12L, z0l, z1l, z2l, z3l, z4l, l_asI, l_finx, l_finIx, l_finI, l_un2, l_un3, l_un4, l_ne, l_nes, l_neb, l_gt, l_ix0, l_ix1, l_ix2, l_ix3, l_it0, l_it1, l_it2, l_it3]
    exact bx_ok rfl
theorem law_yes : Yes F_law := Bo.yes (n := 4 * 215 + 0) (by decide +kernel) law_bx.bo
end Lw
end
section
set_option pp.maxSteps 600
namespace Lw
open PySem PySem.Spec PyProof.Rows L2 Gh Gp Gz
theorem pm_PromO {P : Program} {w : World} {K : PySem.W.Frag} {mg : Str → Option Value} {base : Heap} {CX : CXT} {k : Nat} {f : Addr} {fd : FuncData} {ps : List Str} {sp : Sp} (G : FnOk P w K mg base CX k f fd ps sp) (b : Binds K fd ps []) : PromO P w K mg base CX k f [] sp := ⟨fd, ps, [], G, b, .nil⟩
theorem facts {P : Program} {w : World} {K : PySem.W.Frag} {h : Heap} {mg : Str → Option Value} {f : Addr} (X : K.In h) (G : h.Ns mainGlobals mg) (hfa : mg ("law" : Str) = some (.ref f)) (c2 : Gp.SaysS exs fns tfs sds pfile h K) (gl : (He.Fa.glo "law").ok K = true) (hP : ((P.main.file : Str) == pfile) = true ∧ (P.main.scope.names.lookup ("super" : Str)).isSome = false) :
    ∃ fd : FuncData, (∀ (s : Shared) (v : Value), BindsTo s fd ⟨[v], []⟩ [("_law_script", v)]) ∧ ∀ base : Heap, K.In base → base.Ns mainGlobals mg → FnG P w K mg base CX0 11 f fd ["_law_script"] (spLaw K []) := by
  have c := c2.s.t
  have T : Tx K mg := tx_of X G c
  have e := hfa.symm.trans (He.glo_ok X G gl)
  cases e
  obtain ⟨f0, F0⟩ := c.def_ 0 (d := d__law_pen) rfl
  obtain ⟨f1, F1⟩ := c.def_ 1 (d := d__law_draw) rfl
  obtain ⟨f2, F2⟩ := c.def_ 2 (d := d_is_integer) rfl
  obtain ⟨f3, F3⟩ := c.def_ 3 (d := d_is_within) rfl
  obtain ⟨f4, F4⟩ := c.def_ 4 (d := d_is_length) rfl
  obtain ⟨f5, F5⟩ := c.def_ 5 (d := d_need_length) rfl
  obtain ⟨f6, F6⟩ := c.def_ 6 (d := d_need_place) rfl
  obtain ⟨f7, F7⟩ := c.def_ 7 (d := d_is_item) rfl
  obtain ⟨f8, F8⟩ := c.def_ 8 (d := d_need_items) rfl
  obtain ⟨f9, F9⟩ := c.def_ 9 (d := d_Row___init__) rfl
  obtain ⟨f10, F10⟩ := c.def_ 10 (d := d_Row_contents) rfl
  obtain ⟨f11, F11⟩ := c.def_ 11 (d := d_Row___eq__) rfl
  obtain ⟨f12, F12⟩ := c.def_ 12 (d := d_are_told) rfl
  obtain ⟨f13, F13⟩ := c.def_ 13 (d := d_ascending) rfl
  obtain ⟨f14, F14⟩ := c.def_ 14 (d := d_Sided___init___at_Change) rfl
  obtain ⟨f15, F15⟩ := c2.sup_ 0 (d := ds_Change___init__) rfl
  obtain ⟨f16, F16⟩ := c.def_ 15 (d := d_Change_places_told) rfl
  obtain ⟨f17, F17⟩ := c.def_ 16 (d := d_Change_runs) rfl
  obtain ⟨f18, F18⟩ := c.def_ 17 (d := d_Change_first_pair) rfl
  obtain ⟨f19, F19⟩ := c.def_ 18 (d := d_Change_led_in) rfl
  obtain ⟨f20, F20⟩ := c.def_ 19 (d := d_Change_to) rfl
  obtain ⟨f21, F21⟩ := c.def_ 20 (d := d_Row_led) rfl
  obtain ⟨f22, F22⟩ := c.def_ 21 (d := d_Row_led_by) rfl
  obtain ⟨f23, F23⟩ := c.def_ 22 (d := d_Row_do) rfl
  obtain ⟨f24, F24⟩ := c.def_ 23 (d := d_Row___imul__) rfl
  obtain ⟨f25, F25⟩ := c.def_ 24 (d := d__law_pick) rfl
  obtain ⟨f26, F26⟩ := c.def_ 25 (d := d__law_item) rfl
  obtain ⟨f27, F27⟩ := c.def_ 26 (d := d__law_told) rfl
  obtain ⟨f28, F28⟩ := c.def_ 27 (d := d__law_pairs) rfl
  obtain ⟨f29, F29⟩ := c.def_ 28 (d := d__law_places) rfl
  obtain ⟨f30, F30⟩ := c.def_ 29 (d := d__law_part) rfl
  obtain ⟨f31, F31⟩ := c.def_ 30 (d := d__law_made) rfl
  obtain ⟨f32, F32⟩ := c.def_ 31 (d := d__law_behind) rfl
  obtain ⟨f33, F33⟩ := c.def_ 32 (d := d__law_step) rfl
  obtain ⟨f34, F34⟩ := c.def_ 33 (d := d_law) rfl
  have b34 := FunD.bindsA (ps := ["_law_script"]) F34 fun _ _ _ _ _ _ us hl => match us, hl with | [_], _ => rfl
  refine ⟨f34, fun s v => b34 s [v] rfl, fun base _ _ => ?_⟩
  have p0 : PromO P w K mg base CX0 1 (gd "_law_pen" K) [] (spPn K) := pm_PromO (ok__law_pen F0 T ) (F0.bindsN fun _ _ _ _ _ _ us hl => match us, hl with | [_], _ => rfl)
  have p1 : PromO P w K mg base CX0 1 (gd "_law_draw" K) [] (spF K [] (ul2 F_draw)) := pm_PromO (ok__law_draw (Tb := []) F1 T ) (F1.bindsN fun _ _ _ _ _ _ us hl => match us, hl with | [_, _], _ => rfl)
  have p2 : PromO P w K mg base CX0 1 (gd "is_integer" K) [] (spF K [] (ul1 F_is_integer)) := pm_PromO (ok_is_integer (Tb := []) F2 T ) (F2.bindsN fun _ _ _ _ _ _ us hl => match us, hl with | [_], _ => rfl)
  have p3 : PromO P w K mg base CX0 2 (gd "is_within" K) [] (spF K [] (ul3 F_is_within)) := pm_PromO (ok_is_within (Tb := []) F3 T p2) (F3.bindsN fun _ _ _ _ _ _ us hl => match us, hl with | [_, _, _], _ => rfl)
  have p4 : PromO P w K mg base CX0 3 (gd "is_length" K) [] (spF K [] (ul1 F_is_length)) := pm_PromO (ok_is_length (Tb := []) F4 T p3) (F4.bindsN fun _ _ _ _ _ _ us hl => match us, hl with | [_], _ => rfl)
  have p5 : PromO P w K mg base CX0 4 (gd "need_length" K) [] (spF K [] (ul1 F_need_length)) := pm_PromO (ok_need_length (Tb := []) F5 T p4) (F5.bindsN fun _ _ _ _ _ _ us hl => match us, hl with | [_], _ => rfl)
  have p6 : PromO P w K mg base CX0 5 (gd "need_place" K) [] (spF K [] (ul2 F_need_place)) := pm_PromO (ok_need_place (Tb := []) F6 T p5 p3) (F6.bindsN fun _ _ _ _ _ _ us hl => match us, hl with | [_, _], _ => rfl)
  have p7 : PromO P w K mg base CX0 2 (gd "is_item" K) [] (spF K [] (ul1 F_is_item)) := pm_PromO (ok_is_item (Tb := []) F7 T p2) (F7.bindsN fun _ _ _ _ _ _ us hl => match us, hl with | [_], _ => rfl)
  have p8 : PromO P w K mg base CX0 3 (gd "need_items" K) [] (spF K [] (ul2 F_need_items)) := pm_PromO (ok_need_items (Tb := []) F8 T p7) (F8.bindsN fun _ _ _ _ _ _ us hl => match us, hl with | [_, _], _ => rfl)
  have p9 : PromO P w K mg base CX0 4 (md "Row" "__init__" K) [] (spI K [] "Row" (fun fs => ul1 (F_Row___init__ fs))) := pm_PromO (ok_Row___init__ (Tb := []) F9 T p8) (F9.bindsN fun _ _ _ _ _ _ us hl => match us, hl with | [_, _], _ => rfl)
  have p10 : PromO P w K mg base CX0 1 (propG "Row" "contents" K) [] (spF K [] (ul1 F_Row_contents)) := pm_PromO (ok_Row_contents (Tb := []) F10 T ) (F10.bindsN fun _ _ _ _ _ _ us hl => match us, hl with | [_], _ => rfl)
  have p11 : PromO P w K mg base CX0 1 (md "Row" "__eq__" K) [] (spF K [] (ul2 F_Row___eq__)) := pm_PromO (ok_Row___eq__ (Tb := []) F11 T ) (F11.bindsN fun _ _ _ _ _ _ us hl => match us, hl with | [_, _], _ => rfl)
  have p12 : PromO P w K mg base CX0 3 (gd "are_told" K) [] (spF K [] (ul1 F_are_told)) := pm_PromO (ok_are_told (Tb := []) F12 T p3) (F12.bindsN fun _ _ _ _ _ _ us hl => match us, hl with | [_], _ => rfl)
  have p13 : PromO P w K mg base CX0 1 (gd "ascending" K) [] (spF K [] (ul1 F_ascending)) := pm_PromO (ok_ascending (Tb := []) F13 T ) (F13.bindsN fun _ _ _ _ _ _ us hl => match us, hl with | [_], _ => rfl)
  have p14 : PromO P w K mg base CX0 1 (md "Sided" "__init__" K) [] (spI K [] "Change" (fun fs => ul1 (F_Sided___init___at_Change fs))) := pm_PromO (ok_Sided___init___at_Change (Tb := []) F14 T ) (F14.bindsN fun _ _ _ _ _ _ us hl => match us, hl with | [_, _], _ => rfl)
  have p15 : PromO P w K mg base CX0 4 (md "Change" "__init__" K) [] (spI K [] "Change" (fun fs => ul3 (F_Change___init__ fs))) := by
    obtain ⟨ds, hv, hb⟩ := SupF.binds1 (ps := ["self", "front", "back", "side"]) F15 4 3 (by intro z; cases z) rfl fun _ _ _ _ _ _ _ _ us its hu hi => match us, hu, its, hi with | [_, _, _, _], _, [_, _, _], _ => ⟨_, rfl, rfl⟩
    cases hv
    exact pm_PromO (ok_Change___init__ (Tb := []) F15 T hP p12 p14 p13) hb
  have p16 : PromO P w K mg base CX0 1 (md "Change" "places_told" K) [] (spF K [] (ul2 F_Change_places_told)) := pm_PromO (ok_Change_places_told (Tb := []) F16 T ) (F16.bindsN fun _ _ _ _ _ _ us hl => match us, hl with | [_, _], _ => rfl)
  have p17 : PromQ P w K mg base 2 (md "Change" "runs" K) 2 [] (spY K [] (yl2 F_Change_runs)) := ⟨_, _, [], rfl, (ok_Change_runs (Tb := []) F17 T p16), F17.bindsN fun _ _ _ _ _ _ us hl => match us, hl with | [_, _], _ => rfl, .nil⟩
  have p18 : PromO P w K mg base CX0 1 (md "Change" "first_pair" K) [] (spF K [] (ul3 F_Change_first_pair)) := pm_PromO (ok_Change_first_pair (Tb := []) F18 T ) (F18.bindsN fun _ _ _ _ _ _ us hl => match us, hl with | [_, _, _], _ => rfl)
  have p19 : PromO P w K mg base CX0 2 (md "Change" "led_in" K) [] (spF K [] (ul3 F_Change_led_in)) := pm_PromO (ok_Change_led_in (Tb := []) F19 T p18) (F19.bindsN fun _ _ _ _ _ _ us hl => match us, hl with | [_, _, _], _ => rfl)
  have p20 : PromO P w K mg base CX0 6 (md "Change" "to" K) [] (spF K [] (ul3 F_Change_to)) := pm_PromO (ok_Change_to (Tb := []) F20 T p6 p19 p17) (F20.bindsN fun _ _ _ _ _ _ us hl => match us, hl with | [_, _, _], _ => rfl)
  have p21 : PromO P w K mg base CX0 7 (md "Row" "led" K) [] (spF K [] (ul2 F_Row_led)) := pm_PromO (ok_Row_led (Tb := []) F21 T p20) (F21.bindsN fun _ _ _ _ _ _ us hl => match us, hl with | [_, _], _ => rfl)
  have p22 : PromO P w K mg base CX0 8 (md "Row" "led_by" K) [] (spN K [] "Row" (ul2 F_Row_led_by)) := pm_PromO (ok_Row_led_by (Tb := []) F22 T p9 p21) (F22.bindsN fun _ _ _ _ _ _ us hl => match us, hl with | [_, _], _ => rfl)
  have pk22_1_thing : PromK P w K mg base CX0 8 (md "Row" "led_by" K) 1 ["thing"] (fun vs zs => vs ++ picks [.inl 0] [] zs) (spN K [] "Row" (ul2 F_Row_led_by)) := ⟨_, _, _, (ok_Row_led_by (Tb := []) F22 T p9 p21), FunD.kbN F22 1 ["thing"] [.inl 0] fun _ _ _ _ _ _ us ws h1 h2 => match us, h1, ws, h2 with | [_], _, [_], _ => rfl⟩
  have p23 : PromO P w K mg base CX0 8 (md "Row" "do" K) [] (spB K [] "Row" (fun fs => ul1 (F_Row_do fs))) := pm_PromO (ok_Row_do (Tb := []) F23 T p21) (F23.bindsN fun _ _ _ _ _ _ us hl => match us, hl with | [_, _], _ => rfl)
  have p24 : PromO P w K mg base CX0 9 (md "Row" "__imul__" K) [] (spS K [] "Row" (fun fs => ul1 (F_Row___imul__ fs))) := pm_PromO (ok_Row___imul__ (Tb := []) F24 T p23) (F24.bindsN fun _ _ _ _ _ _ us hl => match us, hl with | [_, _], _ => rfl)
  have p25 : PromO P w K mg base CX0 2 (gd "_law_pick" K) [] (spF K [] (ul2 F__law_pick)) := pm_PromO (ok__law_pick (Tb := []) F25 T p1) (F25.bindsN fun _ _ _ _ _ _ us hl => match us, hl with | [_, _], _ => rfl)
  have p26 : PromO P w K mg base CX0 3 (gd "_law_item" K) [] (spF K [] (ul1 F__law_item)) := pm_PromO (ok__law_item (Tb := []) F26 T p1 p25) (F26.bindsN fun _ _ _ _ _ _ us hl => match us, hl with | [_], _ => rfl)
  have p27 : PromO P w K mg base CX0 1 (gd "_law_told" K) [] (spF K [] (ul2 F__law_told)) := pm_PromO (ok__law_told (Tb := []) F27 T ) (F27.bindsN fun _ _ _ _ _ _ us hl => match us, hl with | [_, _], _ => rfl)
  have p28 : PromO P w K mg base CX0 2 (gd "_law_pairs" K) [] (spF K [] (ul2 F__law_pairs)) := pm_PromO (ok__law_pairs (Tb := []) F28 T p27) (F28.bindsN fun _ _ _ _ _ _ us hl => match us, hl with | [_, _], _ => rfl)
  have p29 : PromO P w K mg base CX0 3 (gd "_law_places" K) [] (spF K [] (ul1 F__law_places)) := pm_PromO (ok__law_places (Tb := []) F29 T p25 p1) (F29.bindsN fun _ _ _ _ _ _ us hl => match us, hl with | [_], _ => rfl)
  have p30 : PromO P w K mg base CX0 4 (gd "_law_part" K) [] (spF K [] (ul1 F__law_part)) := pm_PromO (ok__law_part (Tb := []) F30 T p29 p25) (F30.bindsN fun _ _ _ _ _ _ us hl => match us, hl with | [_], _ => rfl)
  have p31 : PromO P w K mg base CX0 6 (gd "_law_made" K) [] (spF K [] (ul1 F__law_made)) := pm_PromO (ok__law_made (Tb := []) F31 T p15) (F31.bindsN fun _ _ _ _ _ _ us hl => match us, hl with | [_], _ => rfl)
  have p32 : PromO P w K mg base CX0 3 (gd "_law_behind" K) [] (spF K [] (ul2 F__law_behind)) := pm_PromO (ok__law_behind (Tb := []) F32 T p28) (F32.bindsN fun _ _ _ _ _ _ us hl => match us, hl with | [_, _], _ => rfl)
  have p33 : PromO P w K mg base CX0 10 (gd "_law_step" K) [] (spO K [] "Row" F__law_step) := pm_PromO (ok__law_step (Tb := []) F33 T p1 p31 p22 p10 pk22_1_thing p11 p23 p24) (F33.bindsN fun _ _ _ _ _ _ us hl => match us, hl with | [_, _, _, _], _ => rfl)
  exact (FnOk.toG (ok_law (Tb := []) F34 T law_yes p0 p1 p26 p9 p30 p33 p32 p10 p22 p31 p11))
end Lw
open PySem PySem.W PySem.Calls PyProof.Rows
set_option maxRecDepth 100000 in
set_option maxHeartbeats 0 in
theorem PySem.Challenge.cw_everyhunt_k12_whole_rows_led_holds : PySem.Challenge.rw_everyhunt_k12_whole_rows_led.Holds := by
  w_on; o_law
  refine HandSHeadRun.head_any (r := OpenLaw.row PySem.Challenge.rw_everyhunt_k12_whole_rows_led) (q := view (OpenLaw.row PySem.Challenge.rw_everyhunt_k12_whole_rows_led).prog [50]) (H := Lw.hk) (ob := Lw.ob) (M := 20000) (loose := Lw.loose) (d := HandSHeadRun.topDef (OpenLaw.row PySem.Challenge.rw_everyhunt_k12_whole_rows_led).prog 50) (kwd := []) Lw.ob_eq
    (by kernel_rfl) (fun s => by kernel_rfl) Lw.run (by kernel_rfl) (by kernel_rfl) (by kernel_rfl) (by rfl) (by first | assumption | decide +kernel) (by decide +kernel) ⟨rfl, rfl, rfl, rfl, rfl, by decide +kernel⟩ ?hw ?hc
  case hw => w_witness2
  case hc =>
    refine Gh.walk_ofG (l := PySem.Challenge.rw_everyhunt_k12_whole_rows_led) (n := 63) (k := 11) (x := "_law_script") (CX := fun _ => L2.CX0) rfl (by decide) (by kernel_rfl) ⟨rfl, by decide, by decide⟩ ?F (fun _ _ _ _ _ z => z)
    intro w mg fa h Y G hmg0
    obtain ⟨K, KX, c⟩ := Y
    have hmg : mg ("law" : PySem.Str) = some (.ref fa) := by
      have e : (HandSHeadRun.topDef (OpenLaw.row PySem.Challenge.rw_everyhunt_k12_whole_rows_led).prog 50).name = ("law" : PySem.Str) := by kernel_rfl
      rw [← e]
      exact hmg0
    obtain ⟨fd, hb, hF⟩ := Lw.facts (P := (PySem.Challenge.rw_everyhunt_k12_whole_rows_led).prog) (w := w) KX G hmg c (c.s.t.fact 102 rfl) ⟨by kernel_rfl, by kernel_rfl⟩
    exact ⟨K, fd, Gp.spLaw K [], KX, hb, fun H a ns hl _ hS => ⟨a, ns, rfl, hS, hl, fun _ z => (nomatch z), fun _ => rfl⟩, hF⟩
#print axioms PySem.Challenge.cw_everyhunt_k12_whole_rows_led_holds
end
