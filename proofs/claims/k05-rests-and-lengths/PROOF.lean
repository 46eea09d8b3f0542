import PyProof.Rows.All
import Wide.All
import OpenK.AllK
import Wide.FinOn
import KE.KStateDown
import KE.KOpsOwn
import HandS.ForMost
import HandS.More
import HandS.Exc
import HandS.WordsExc
import HandS.Defaults
import HandS.Property
import HandS.IsInst
import HandS.Wide
import HandS.Head0
import HandS.Head1
import HandS.Head2
import HandS.HeadEnd
import HandS.HeadHook1
import HandS.HeadHook2
import PyProof.ReprRoads
import HandS.ExcInit
import HandS.ExcField
import HandS.ExcIs
import KE.KExcIs
import HandS.EndTab
import HandS.HeadHook4
import HandS.Star
import HandS.ClsMeth
import HandS.Lambda
import HandS.RaiseMore
import HandS.Iter
import KE.GoesMore
import PyProof.EnumMake
import HandS.MakeKw
import KE.KCallOwn
import PyProof.InstNe
import HandS.GenList
import PyProof.GenComp
import HandS.TupAny
import HandS.SortInts
import HandS.OwnEq
import HandS.Style
import HandS.Conv
import KE.KSuper
import HandS.NestedK
import HandS.SetFor
import HandS.Strs
import HandS.Zip
import HandS.TryMany
import PySem.Challenge.RW_everyhunt_k05_rests_and_lengths
set_option Elab.async false
section
set_option Elab.async false
set_option linter.all false
set_option maxRecDepth 100000
namespace Gh
open PySem PySem.Spec PyProof.Rows L2
structure Df where
  adr : PySem.W.Frag → Addr
  name : Str
  qual : Str
  st : Stmt
  dfl : List He.Dv := []
def Df.val (d : Df) : He.FnW := some (d.name, d.qual, defArgs d.st, .stmts (defBody d.st), defScope d.st, mainGlobals, [], builtinsNs)
def Df.dvs (K : PySem.W.Frag) (d : Df) : List V := d.dfl.map (He.Dv.v K)
def fnAt (K : PySem.W.Frag) (a : Addr) : He.FnW := match K.lookup a with
  | some ⟨_, _, .func fd, _⟩ => some (fd.name, fd.qualname, fd.params, fd.body, fd.scope, fd.globals, fd.closure, fd.builtins)
  | _ => none
def Df.ok (K : PySem.W.Frag) (d : Df) : Bool := PySem.W.keepIn K (.ref (d.adr K)) && (match K.lookup (d.adr K) with
  | some ⟨_, _, .func fd, _⟩ => PySem.W.codeIn K fd.code d.qual && (He.dflB K fd.defaults (d.dvs K) && He.kwdB K fd.kwdefaults [])
  | _ => false)
abbrev Al : Type := Bool × List He.FnW
def obs (ex : List (PySem.W.Frag → Bool)) (fn : List Df) (K : PySem.W.Frag) : Al := ((ex.all fun f => f K) && fn.all fun d => d.ok K, fn.map fun d => fnAt K (d.adr K))
def val (fn : List Df) : Al := (true, fn.map Df.val)
def Says (ex : List (PySem.W.Frag → Bool)) (fn : List Df) (K : PySem.W.Frag) : Prop := obs ex fn K = val fn
def gd (x : Str) : PySem.W.Frag → Addr := fun K => He.ga K x
def md (x m : Str) : PySem.W.Frag → Addr := fun K => He.ma K (He.ga K x) m
def fa (f : He.Fa) : PySem.W.Frag → Bool := fun K => f.ok K
structure InsT (K : PySem.W.Frag) (C : Addr) : Prop where
  ha : PySem.W.findIn K (.ref C) "__class__" = some (some (.builtin "object.__class__"))
  hn : PySem.W.specialIn K (.builtin "object.__class__") "__get__" = some (some (.builtin "getset_descriptor.__get__"))
  htk : PySem.W.takesIn K (.builtin "object.__class__") = some true
  hm : PySem.W.mroIn K C (.type "object") = some true
  yes : PySem.W.kitOne K (.ref C) (.ref C) = some true
  no : ∀ n ∈ (["NoneType", "bool", "int", "str", "list", "tuple", "dict"] : List String), PySem.W.kitOne K (.type n) (.ref C) = some false
  out : ∀ n ∈ (["NoneType", "bool", "int", "str", "list", "tuple", "dict"] : List String), PySem.W.kitOne K (.ref C) (.type n) = some false
end Gh
end
section
set_option Elab.async false
set_option linter.all false
set_option maxRecDepth 100000
set_option maxHeartbeats 4000000
namespace Gh
open PySem PySem.Spec PyProof.Rows L2
structure FnG (P : Program) (w : World) (K : PySem.W.Frag) (mg : Str → Option Value) (base : Heap) (CX : CXT) (k : Nat) (f : Addr) (fd : FuncData) (ps : List Str) (sp : Sp) : Prop where
  len : ∀ vs H Q E, sp vs H Q E → vs.length = ps.length
  run : ∀ (A : Around) (outer : List Env) (s : Shared) (H : Hp) (args : Args) (us : List Value) (vs : List V) (Q : VK) (E : XK), Room k A → A.guards = some [] → Env0 P w K mg base A outer s H → BindsTo s fd args (ps.zip us) → Vals vs us → sp vs H Q E →
    codeAny (model P w) A (.call (.ref f) args) (CR CX outer P w H s Q E) s
def Prom (P : Program) (w : World) (K : PySem.W.Frag) (mg : Str → Option Value) (base : Heap) (CX : CXT) (k : Nat) (f : Addr) (dvs : List V) (sp : Sp) : Prop :=
  ∃ (fd : FuncData) (ps : List Str) (ds : List Value), FnG P w K mg base CX k f fd ps sp ∧ Binds K fd ps ds ∧ Vals dvs ds
section
variable {P : Program} {w : World} {K : PySem.W.Frag} {mg : Str → Option Value} {base : Heap} {CX : CXT} {j k : Nat} {f : Addr} {fd : FuncData} {ps : List Str} {sp : Sp} {dvs : List V}
theorem FnG.mono (F : FnG P w K mg base CX j f fd ps sp) (h : j ≤ k) : FnG P w K mg base CX k f fd ps sp := ⟨F.len, fun A o s H a us vs Q E hr => F.run A o s H a us vs Q E (hr.mono h)⟩
theorem Prom.mono (F : Prom P w K mg base CX j f dvs sp) (h : j ≤ k) : Prom P w K mg base CX k f dvs sp := by
  obtain ⟨fd, ps, ds, G, b, v⟩ := F
  exact ⟨fd, ps, ds, G.mono h, b, v⟩
end
section
variable {X : Cx} {CX : CXT} {k : Nat} {f g C : Addr} {sp : Sp} {dvs : List V} {E : XK} {x m : Str} {p pos apos : Pos} {e o : Expr} {es : List Expr} {ta tb : TE} {t : TA} {r : List V → Hp → VK → Prop}
abbrev PromX (X : Cx) (CX : CXT) (k : Nat) (f : Addr) (dvs : List V) (sp : Sp) : Prop := Prom X.prog X.w X.K X.mg X.base CX k f dvs sp
def rSp (sp : Sp) (dvs : List V) (E : XK) : List V → Hp → VK → Prop := fun xs H Q => sp (xs ++ dvs) H Q E
theorem Prom.call (F : PromX X CX k f dvs sp) (hr : Room k X.A) (hg : X.A.guards = some []) (hx : Passes CX X E) : CallR X (.ref f) (rSp sp dvs E) := by
  intro pins s σ H xs us Q I r h
  obtain ⟨fd, ps, ds, G, b, hd⟩ := F
  have r2 : Vals (xs ++ dvs) (us ++ ds) := r.append hd
  have hl : (us ++ ds).length = ps.length := by rw [← r2.length]; exact G.len _ _ _ _ h
  refine wpAny_call (codeAny_mono (G.run X.A X.stack s H ⟨us, []⟩ (us ++ ds) (xs ++ dvs) Q E hr hg I.env0 (b s us I.kIn hl) r2 h) fun r s' hq => ?_)
  cases r with
  | error e => exact hx pins σ H s e s' I hq
  | ok fl =>
    cases fl with
    | ret u => exact I.after hq
    | next => exact False.elim hq
    | brk => exact False.elim hq
    | cont => exact False.elim hq
theorem ins_look {pins : List (Addr × Obj)} {σ : L2.St} {H : Hp} {s : Shared} {a dx : Addr} {fs : List (Str × V)} (I : Inv X pins σ H s) (h : H a = some (.ins C dx fs)) : ∃ ox od, PySem.W.InstAt s.heap a ox C od := by
  obtain ⟨mA, O, _, _, _, _⟩ := ins_get I.hok h
  obtain ⟨od, J, _⟩ := O.look
  exact ⟨_, _, J⟩
end
end Gh
end
section
set_option Elab.async false
set_option linter.all false
set_option maxRecDepth 100000
set_option maxHeartbeats 4000000
namespace Gh
open PySem PySem.Spec PyProof.Rows L2
def Keep (H H' : Hp) (p : Addr) : Prop := ∀ a o, H a = some o → a ≠ p → H' a = some o
theorem Keep.refl {H : Hp} {p : Addr} : Keep H H p := fun _ _ h _ => h
theorem Keep.trans {H H' H'' : Hp} {p : Addr} (h : Keep H H' p) (k : Keep H' H'' p) : Keep H H'' p := fun a o e n => k a o (h a o e n) n
def PenAt (H : Hp) (p : Addr) (b : Nat) : Prop := ∃ (c : Addr) (ns : List Int) (i z : Int), H p = some (.lst [.ref c, .int i, .int z]) ∧ H c = some (.lst (ns.map V.int)) ∧ ns.length ≤ 63 ∧ 0 ≤ i ∧ i + b ≤ 1000000 ∧ 0 ≤ z
theorem pen_ne {H : Hp} {p c : Addr} {ns : List Int} {i z : Int} (h : H p = some (.lst [.ref c, .int i, .int z])) (k : H c = some (.lst (ns.map V.int))) : c ≠ p := by
  refine ne_of k h fun e => ?_
  have e2 : ns.map V.int = [.ref c, .int i, .int z] := HO.lst.inj e
  cases ns with
  | nil => cases e2
  | cons n r => cases (List.cons.inj e2).1
theorem PenAt.same {H H' : Hp} {p : Addr} {b : Nat} (h : PenAt H p b) (n : L2.Same H H') : PenAt H' p b := by
  obtain ⟨c, ns, i, z, h1, h2, h3⟩ := h
  exact ⟨c, ns, i, z, n _ _ h1, n _ _ h2, h3⟩
end Gh
end
section
set_option Elab.async false
set_option linter.all false
set_option maxRecDepth 100000
set_option maxHeartbeats 4000000
namespace Gh
open PySem PySem.Spec PyProof.Rows L2
def exk (a C d : Addr) : HO := .ext fun h => ∃ (o : Obj) (vs : Array Value), h.get? a = some o ∧ o.cls = .ref C ∧ o.dict = some d ∧ o.data = .fields vs
def errB (x : Str) (K : PySem.W.Frag) : Bool := He.eqO (PySem.W.findIn K (.ref (gd x K)) "__getattribute__") (some (some (.builtin "BaseException.__getattribute__"))) &&
  (He.eqO (PySem.W.findIn K (.ref (gd x K)) "__getattr__") (some none) && (decide (PySem.W.subIn K (.ref (gd x K)) (.type "BaseException") = some true) && (PySem.W.hasDictIn K (gd x K) &&
  (He.eqO (PySem.W.findIn K (.ref (gd x K)) "__class__") (some (some (.builtin "object.__class__"))) && (He.eqO (PySem.W.specialIn K (.builtin "object.__class__") "__get__") (some (some (.builtin "getset_descriptor.__get__"))) &&
  (decide (PySem.W.takesIn K (.builtin "object.__class__") = some true) && decide (PySem.W.mroIn K (gd x K) (.type "object") = some true)))))))
section
variable {X : Cx} {e : Expr} {te : TE} {pos : Pos} {n : Str}
end
section
variable {X : Cx} {x n : Str} {c : Value} {i : Nat} {body suite : List Stmt} {b₀ : Stmt} {np pos pos' : Pos} {tb : WX → TS} {ts : Addr → Value → Option Addr → TS} {Wout : WX}
end
end Gh
end
section
set_option Elab.async false
set_option linter.all false
set_option maxRecDepth 100000
set_option maxHeartbeats 4000000
namespace Gh
open PySem PySem.Spec PyProof.Rows L2
structure SaysT (ex : List (PySem.W.Frag → Bool)) (fn : List Df) (tf : List He.Defn) (h : Heap) (K : PySem.W.Frag) : Prop where
  t : Says ex fn K
  hd : ∀ p ∈ tf, PySem.W.codeHdIn K (He.cT K p).1 (He.cT K p).2 = true
  out : ∀ p ∈ tf, K.lookup (He.cT K p).2 = none
  empty : ∀ p ∈ tf, h.get? (He.cT K p).2 = some { cls := .none, data := .fields #[] }
abbrev AlT : Type := Al × Bool
end Gh
end
section
set_option Elab.async false
set_option linter.all false
set_option maxRecDepth 100000
set_option maxHeartbeats 4000000
namespace Gh
open PySem PySem.Spec PyProof.Rows L2
def PromO (P : Program) (w : World) (K : PySem.W.Frag) (mg : Str → Option Value) (base : Heap) (CX : CXT) (k : Nat) (f : Addr) (dvs : List V) (sp : Sp) : Prop :=
  ∃ (fd : FuncData) (ps : List Str) (ds : List Value), FnOk P w K mg base CX k f fd ps sp ∧ Binds K fd ps ds ∧ Vals dvs ds
section
variable {X : Cx} {CX : CXT} {k : Nat} {f g C : Addr} {sp : Sp} {dvs : List V} {E : XK} {m : Str} {pos : Pos} {o : Expr} {ta : TE}
abbrev PromOX (X : Cx) (CX : CXT) (k : Nat) (f : Addr) (dvs : List V) (sp : Sp) : Prop := PromO X.prog X.w X.K X.mg X.base CX k f dvs sp
theorem PromO.call (F : PromOX X CX k f dvs sp) (hr : Room k X.A) (hx : Passes CX X E) : CallR X (.ref f) (rSp sp dvs E) := by
  intro pins s σ H xs us Q I r h
  obtain ⟨fd, ps, ds, G, b, hd⟩ := F
  exact run_fn G hr b hd hx I r h
end
def oexB (x : Str) (K : PySem.W.Frag) : Bool := (match K.lookup (gd x K) with
  | some ⟨.type c, _, .cls ⟨_, _, .ref m :: bm, _, _, hd, _, _, _, _, dl⟩, ⟨[_, _, _, _, some (.builtin n), _]⟩⟩ => decide (c = "type") && (decide (m = gd x K) && (PySem.HandSPX.refsVE bm && (hd && (!dl && decide (n = "ValueError.__new__")))))
  | _ => false) && (He.eqO (PySem.W.findIn K (.ref (gd x K)) "__setattr__") (some (some (.builtin "object.__setattr__"))) && (decide (PySem.W.subIn K (.ref (gd x K)) (.type "BaseException") = some true) &&
  (decide (PySem.W.typeIn K (.ref (gd x K)) = some (.type "type")) && PySem.W.keepIn K (.ref (gd x K)))))
inductive Kd (H : Hp) : V → Prop
  | non : Kd H .non
  | bl (b : Bool) : Kd H (.bl b)
  | int (i : Int) : Kd H (.int i)
  | str (x : Str) : Kd H (.str x)
  | lst {a : Addr} {xs : List V} (h : H a = some (.lst xs)) : Kd H (.ref a)
  | tup {a : Addr} {xs : List V} (h : H a = some (.tup xs)) : Kd H (.ref a)
  | dK {a : Addr} {kvs : List (Key × V)} (h : H a = some (.dK kvs)) : Kd H (.ref a)
theorem Kd.ty {K : PySem.W.Frag} {H : Hp} {v : V} (k : Kd H v) : ∃ n : String, TyX K H v (.type n) ∧ ((∃ i, v = .int i) ∧ n = "int" ∨ (∃ b, v = .bl b) ∧ n = "bool" ∨ (∀ i, v ≠ .int i) ∧ (∀ b, v ≠ .bl b) ∧ n ∈ (["NoneType", "str", "list", "tuple", "dict"] : List String)) := by
  cases k with
  | non => exact ⟨_, .base .non, .inr (.inr ⟨fun _ => nofun, fun _ => nofun, by decide⟩)⟩
  | bl b => exact ⟨_, .base (.bl b), .inr (.inl ⟨⟨b, rfl⟩, rfl⟩)⟩
  | int i => exact ⟨_, .base (.int i), .inl ⟨⟨i, rfl⟩, rfl⟩⟩
  | str x => exact ⟨_, .base (.str x), .inr (.inr ⟨fun _ => nofun, fun _ => nofun, by decide⟩)⟩
  | lst h => exact ⟨_, .base (.lst h), .inr (.inr ⟨fun _ => nofun, fun _ => nofun, by decide⟩)⟩
  | tup h => exact ⟨_, .base (.tup h), .inr (.inr ⟨fun _ => nofun, fun _ => nofun, by decide⟩)⟩
  | dK h => exact ⟨_, .base (.dK h), .inr (.inr ⟨fun _ => nofun, fun _ => nofun, by decide⟩)⟩
theorem Kd.same {H H' : Hp} {v : V} (k : Kd H v) (s : L2.Same H H') : Kd H' v := by
  cases k with
  | non => exact .non
  | bl b => exact .bl b
  | int i => exact .int i
  | str x => exact .str x
  | lst h => exact .lst (s _ _ h)
  | tup h => exact .tup (s _ _ h)
  | dK h => exact .dK (s _ _ h)
end Gh
end
section
set_option Elab.async false
set_option linter.all false
set_option maxRecDepth 100000
set_option maxHeartbeats 4000000
namespace Gh
open PySem PySem.Spec PyProof.Rows L2
inductive Shw (K : PySem.W.Frag) (H : Hp) : V → Str → Prop
  | non : Shw K H .non "None"
  | bl (b : Bool) : Shw K H (.bl b) (if b then "True" else "False")
  | int (i : Int) : i.natAbs.log2 < 1920 → Shw K H (.int i) (toString i)
  | str (x : Str) : (reprText x).length ≤ sizeLine → Shw K H (.str x) (reprText x)
  | dp {a : Addr} {d : PyData} : Dp K H (.ref a) d → d.showable = true → d.hasDict = false → d.depth ≤ 100 → d.shown.length ≤ sizeLine → Shw K H (.ref a) d.shown
theorem sqL_same {K : PySem.W.Frag} {H H' : Hp} {a : Addr} {xs : List V} (h : SqL K H a xs) (s : L2.Same H H') : SqL K H' a xs := by
  rcases h with (h | ⟨o, h⟩) | h
  · exact .inl (.inl (s _ _ h))
  · exact .inl (.inr ⟨o, s _ _ h⟩)
  · exact .inr h
theorem sqT_same {K : PySem.W.Frag} {H H' : Hp} {a : Addr} {xs : List V} (h : SqT K H a xs) (s : L2.Same H H') : SqT K H' a xs := by
  rcases h with (h | ⟨o, h⟩) | h
  · exact .inl (.inl (s _ _ h))
  · exact .inl (.inr ⟨o, s _ _ h⟩)
  · exact .inr h
mutual
theorem dp_same {K : PySem.W.Frag} {H H' : Hp} (s : L2.Same H H') : ∀ {v : V} {d : PyData}, Dp K H v d → Dp K H' v d
  | _, _, .non => .non
  | _, _, .bl b => .bl b
  | _, _, .int i => .int i
  | _, _, .str x => .str x
  | _, _, .lst h a => .lst (sqL_same h s) (dpAll_same s a)
  | _, _, .tup h a => .tup (sqT_same h s) (dpAll_same s a)
theorem dpAll_same {K : PySem.W.Frag} {H H' : Hp} (s : L2.Same H H') : ∀ {vs : List V} {ds : List PyData}, DpAll K H vs ds → DpAll K H' vs ds
  | _, _, .nil => .nil
  | _, _, .cons a r => .cons (dp_same s a) (dpAll_same s r)
end
theorem Shw.same {K : PySem.W.Frag} {H H' : Hp} {v : V} {t : Str} (h : Shw K H v t) (s : L2.Same H H') : Shw K H' v t := by
  cases h with
  | non => exact .non
  | bl b => exact .bl b
  | int i h => exact .int i h
  | str x h => exact .str x h
  | dp a b c d e => exact .dp (dp_same s a) b c d e
section
variable {X : Cx} {K : PySem.W.Frag}
variable {CX : CXT} {x : Str} {C fI : Addr} {k : Nat} {sp : Sp} {dvs : List V} {e : Expr} {es : List Expr} {ta : TA} {p pos : Pos}
end
def iniB (x : Str) (K : PySem.W.Frag) : Bool := He.eqO (PySem.W.findIn K (.ref (gd x K)) "__init__") (some (some (.ref (md x "__init__" K)))) && decide (PySem.W.typeIn K (.ref (md x "__init__" K)) = some (.type "function"))
end Gh
end
section
set_option Elab.async false
set_option linter.all false
set_option maxRecDepth 100000
set_option maxHeartbeats 4000000
namespace Gh
open PySem PySem.Spec PyProof.Rows L2
structure Nw (H H' : Hp) (p : Addr) (o : HO) : Prop where
  no : H p = none
  same : L2.Same H H'
  at_ : H' p = some o
structure Mu (H H' : Hp) (p : Addr) (o : HO) : Prop where
  keep : Keep H H' p
  at_ : H' p = some o
section
variable {H H' : Hp} {p a l : Addr} {o u : HO}
theorem Nw.up (n : Nw H H' p o) (h : H a = some u) : H' a = some u := n.same _ _ h
theorem Mu.up (n : Mu H H' p o) (e : a ≠ p) (h : H a = some u) : H' a = some u := n.keep _ _ h e
theorem Mu.free (n : Mu H H' p o) (h : H' a = none) : H a = none := by
  cases e : H a with
  | none => rfl
  | some u =>
    by_cases q : a = p
    · subst q
      rw [n.at_] at h
      cases h
    · rw [n.up q e] at h
      cases h
end
def Pen (H : Hp) (p c : Addr) (b : Nat) : Prop := ∃ (ns : List Int) (i z : Int), H p = some (.lst [.ref c, .int i, .int z]) ∧ H c = some (.lst (ns.map V.int)) ∧ ns.length ≤ 63 ∧ 0 ≤ i ∧ i + b ≤ 1000000 ∧ 0 ≤ z
section
variable {H H' : Hp} {p c a l : Addr} {o u : HO} {b k : Nat} {xs : List V} {C dx : Addr} {fs : List (Str × V)}
theorem Pen.same (n : L2.Same H H') (h : Pen H p c b) : Pen H' p c b := by
  obtain ⟨ns, i, z, h1, h2, h3⟩ := h
  exact ⟨ns, i, z, n _ _ h1, n _ _ h2, h3⟩
theorem Pen.keep (n : Keep H H' l) (e1 : l ≠ p) (e2 : l ≠ c) (h : Pen H p c b) : Pen H' p c b := by
  obtain ⟨ns, i, z, h1, h2, h3⟩ := h
  exact ⟨ns, i, z, n _ _ h1 e1.symm, n _ _ h2 e2.symm, h3⟩
theorem Pen.cells (h : Pen H p c b) : c ≠ p := by
  obtain ⟨ns, i, z, h1, h2, h3⟩ := h
  exact pen_ne h1 h2
end
section
variable {H H' : Hp} {a t l : Addr} {o u : HO} {xs ys : List V} {C dx : Addr} {fs : List (Str × V)}
end
section
variable {H : Hp} {E : XK} {Q : VK} {p c l : Addr} {b : Nat} {m : Int} {xs : List V}
end
section
variable {X : Cx} {K : PySem.W.Frag}
end
section
variable {K : PySem.W.Frag} {H : Hp} {σ : L2.St} {Q : VK} {D : Ends} {i j n : Int} {x y v : V} {ta tb tc te tf : TE} {t u : TS} {c d : TT} {k : Bool} {a l p C dx : Addr} {xs ys : List V} {A B : Prop}
end
end Gh
end
section
set_option Elab.async false
set_option linter.all false
set_option maxRecDepth 100000
set_option maxHeartbeats 4000000
namespace Gh
open PySem PySem.Spec PyProof.Rows L2
section
variable {X : Cx} {a b c d : Expr} {ta tb tc td : TE} {pos : Pos}
end
def CallK (X : Cx) (u : Value) (ks : List Str) (r : List V → List V → Hp → VK → Prop) : Prop := ∀ (pins : List (Addr × Obj)) (s : Shared) (σ : L2.St) (H : Hp) (vs zs : List V) (us ws : List Value) (Q : VK), Inv X pins σ H s → Vals vs us → Vals zs ws → r vs zs H Q → wpAny (model X.prog X.w) X.A (call u us (ks.zip ws)) (EP X pins σ Q) X.xe s
def PromK (P : Program) (w : World) (K : PySem.W.Frag) (mg : Str → Option Value) (base : Heap) (CX : CXT) (k : Nat) (f : Addr) (n : Nat) (ks : List Str) (gV : List V → List V → List V) (sp : Sp) : Prop :=
  ∃ (fd : FuncData) (ps : List Str) (g : List Value → List Value → List Value), FnOk P w K mg base CX k f fd ps sp ∧ KBn K fd ps n ks g gV
section
variable {K : PySem.W.Frag} {x qual : Str} {params : Arguments} {body : List Stmt} {scope : Scope} {dvs : List V} {kws : List (Str × V)} {f : Addr} {fd : FuncData} {ps : List Str}
end
section
variable {X : Cx} {CX : CXT} {k n : Nat} {f C : Addr} {ks : List Str} {sp : Sp} {E : XK} {x m : Str} {p pos apos : Pos} {e o : Expr} {es : List Expr} {kws : List Keyword} {t tk : TA} {ta : TE} {gV : List V → List V → List V} {r : List V → List V → Hp → VK → Prop}
def rSpK (n m : Nat) (gV : List V → List V → List V) (sp : Sp) (E : XK) : List V → List V → Hp → VK → Prop := fun vs zs H Q => vs.length = n ∧ zs.length = m ∧ sp (gV vs zs) H Q E
theorem PromK.call (F : PromK X.prog X.w X.K X.mg X.base CX k f n ks gV sp) (hr : Room k X.A) (hx : Passes CX X E) : CallK X (.ref f) ks (rSpK n ks.length gV sp E) := by
  intro pins s σ H vs zs us ws Q I rv rz ⟨l1, l2, h⟩
  obtain ⟨fd, ps, g, G, b⟩ := F
  exact run_fnN G hr b hx I rv rz l1 l2 h
end
section
variable {H : Hp} {σ : L2.St} {Q : VK} {ta : TE} {t tk : TA} {r : List V → List V → Hp → VK → Prop} {C : Addr} {m : Str} {n k : Nat} {gV : List V → List V → List V} {sp : Sp} {E : XK} {vs zs : List V}
end
end Gh
end
section
set_option Elab.async false
set_option linter.all false
set_option maxRecDepth 100000
set_option maxHeartbeats 4000000
namespace Gh
open PySem PySem.Spec PyProof.Rows L2
structure Fn (d : PyData) (n b : Nat) : Prop where
  cl : d.canLay0 = true
  sh : d.showable = true
  nd : d.hasDict = false
  ls : d.leavesShort 200 = true
  dp : d.depth ≤ n
  bk : d.bulk ≤ b
structure FnAll (ds : List PyData) (n b : Nat) : Prop where
  cl : PyData.canLayAll0 ds = true
  sh : PyData.showableAll ds = true
  nd : PyData.hasDictAll ds = false
  ls : PyData.leavesShortAll 200 ds = true
  dp : PyData.depthAll ds ≤ n
  bk : PyData.bulkAll ds ≤ b
theorem log_lt100 {i : Int} (h1 : -(10 ^ 100) < i) (h2 : i < 10 ^ 100) : i.natAbs.log2 < 1920 := by
  have h : i.natAbs < 2 ^ 1920 := Nat.lt_of_lt_of_le (show i.natAbs < 10 ^ 100 by omega) (by decide)
  by_cases h0 : i.natAbs = 0
  · rw [h0]
    decide
  · exact (Nat.log2_lt h0).mpr h
theorem Fn.int {i : Int} (h1 : -(10 ^ 100) < i) (h2 : i < 10 ^ 100) : Fn (.int i) 0 0 := by
  refine ⟨rfl, decide_eq_true (log_lt100 h1 h2), rfl, ?_, Nat.le_refl _, Nat.le_refl _⟩
  have e := int_text_length_le10 (a := i) (k := 100) (by decide) (by omega)
  refine decide_eq_true ?_
  show (Str.ofString (toString i)).length ≤ 200
  rw [PySem.ofString_length]
  omega
theorem Fn.bool (b : Bool) : Fn (.bool b) 0 0 := ⟨rfl, rfl, rfl, rfl, Nat.le_refl _, Nat.le_refl _⟩
theorem Fn.none : Fn .none 0 0 := ⟨rfl, rfl, rfl, rfl, Nat.le_refl _, Nat.le_refl _⟩
theorem Fn.str {x : Str} (h0 : (PyData.str x).canLay0 = true) (h : (x.cps.toList.all fun c => decide (c < 16 ^ 8)) = true) : Fn (.str x) 0 x.cps.size := ⟨h0, rfl, rfl, h, Nat.le_refl _, Nat.le_refl _⟩
theorem FnAll.nil {n b : Nat} : FnAll [] n b := ⟨rfl, rfl, rfl, rfl, Nat.zero_le _, Nat.zero_le _⟩
theorem FnAll.cons {d : PyData} {ds : List PyData} {n b c : Nat} (h : Fn d n b) (k : FnAll ds n c) : FnAll (d :: ds) n (b + 1 + c) := by
  refine ⟨?_, ?_, ?_, ?_, ?_, ?_⟩
  · show (d.canLay0 && _) = true
    rw [h.cl, k.cl] <;> rfl
  · show (d.showable && _) = true
    rw [h.sh, k.sh] <;> rfl
  · show (d.hasDict || _) = false
    rw [h.nd, k.nd] <;> rfl
  · show (d.leavesShort 200 && _) = true
    rw [h.ls, k.ls] <;> rfl
  · show max _ _ ≤ n
    exact Nat.max_le.mpr ⟨h.dp, k.dp⟩
  · show d.bulk + 1 + _ ≤ _
    have := h.bk
    have := k.bk
    omega
theorem Fn.list {ds : List PyData} {n b : Nat} (h : FnAll ds n b) : Fn (.list ds) (n + 1) b := ⟨h.cl, h.sh, h.nd, h.ls, Nat.succ_le_succ h.dp, h.bk⟩
theorem Fn.tuple {ds : List PyData} {n b : Nat} (h : FnAll ds n b) : Fn (.tuple ds) (n + 1) b := ⟨h.cl, h.sh, h.nd, h.ls, Nat.succ_le_succ h.dp, h.bk⟩
section
variable {K : PySem.W.Frag} {H : Hp} {a : Addr} {ns : List Int}
end
section
variable {H H' : Hp} {a l p c : Addr} {u : HO} {b : Nat}
end
section
variable {K : PySem.W.Frag} {H : Hp} {σ : L2.St} {Q : VK} {m : Nat} {tt : TT} {te tl : TE} {vs : List Nat} {t : TA} {a : Addr} {xs : List V}
end
section
variable {H H' : Hp} {a l p c : Addr} {u : HO} {b : Nat}
end
section
variable {K : PySem.W.Frag} {H : Hp} {σ : L2.St} {D : Ends} {m : Nat} {g : TG} {tb : TS} {tl : TE} {t : TA} {a : Addr} {xs : List V}
end
section
end
end Gh
end
section
set_option Elab.async false
set_option linter.all false
set_option maxRecDepth 100000
set_option maxHeartbeats 4000000
namespace Gh
open PySem PySem.Spec PyProof.Rows L2
section
variable {H H' : Hp} {a l p c t : Addr} {o u : HO} {b : Nat} {xs : List V} {T : List (Addr × Str)} {C dx : Addr} {fs : List (Str × V)}
def Fr (H H' : Hp) (p : Addr) : Prop := ∀ a o, H a = some o → a ≠ p → (∀ ps, o ≠ .tbl ps) → H' a = some o
theorem Fr.refl : Fr H H p := fun _ _ h _ _ => h
theorem Fr.trans {H1 : Hp} (n : Fr H H1 p) (k : Fr H1 H' p) : Fr H H' p := fun a o h e z => k a o (n a o h e z) e z
end
section
variable {X : Cx} {H : Hp} {σ : L2.St} {Q : VK} {T : List (Addr × Str)} {TT : (XK → Hp → VK → Prop) → Hp → VK → Prop} {t : XK → TE}
end
end Gh
end
section
set_option Elab.async false
set_option linter.all false
set_option maxRecDepth 100000
set_option maxHeartbeats 4000000
namespace Gh
open PySem PySem.Spec PyProof.Rows L2
section
variable {X : Cx} {CX : CXT} {k : Nat} {C f : Addr} {sp : Sp} {E : XK} {r : List V → Hp → VK → Prop}
theorem InsT.ty {K : PySem.W.Frag} {H : Hp} {a C dx : Addr} {fs : List (Str × V)} (t : InsT K C) (c : Cls K C) (h : H a = some (.ins C dx fs)) : TyX K H (.ref a) (.ref C) := .base (.ins h c t.ha t.hn t.htk t.hm)
end
end Gh
end
section
set_option Elab.async false
set_option linter.all false
set_option maxRecDepth 100000
set_option maxHeartbeats 4000000
namespace Gp
open PySem PySem.Spec PyProof.Rows L2 Gh
inductive D where
  | non | bl (b : Bool) | int (i : Int) | str (x : Str) | tup (ds : List D) | lst (ds : List D)
  | obj (c : Str) (fs : List (Str × D)) | err (c : Str) (fs : List (Str × D)) | pen
  | cls (c : Str) | dct | dic (ps : List (Key × D)) | dit (ps : List (List Key × D))
abbrev Fs := List (Str × D)
inductive Tr (α : Type) where
  | ok (a : α) | ex (c : Str) (fs : Fs) | bad | draw (m : Int) (k : Int → Tr α)
section
variable {α β γ : Type}
def bd : Tr α → (α → Tr β) → Tr β
  | .ok a, k => k a
  | .ex c fs, _ => .ex c fs
  | .bad, _ => .bad
  | .draw m f, k => .draw m fun d => bd (f d) k
def Al (P : α → Nat → Prop) (E : Str → Fs → Nat → Prop) : Tr α → Nat → Prop
  | .ok a, b => P a b
  | .ex c fs, b => E c fs b
  | .bad, _ => False
  | .draw m k, b => ∃ b', b = b' + 1 ∧ 0 < m ∧ m < 10 ^ 100 ∧ ∀ d, 0 ≤ d → d < m → Al P E (k d) b'
theorem Al.mono {P P' : α → Nat → Prop} {E E' : Str → Fs → Nat → Prop} (hP : ∀ a b, P a b → P' a b) (hE : ∀ c fs b, E c fs b → E' c fs b) {m : Tr α} {b : Nat} (h : Al P E m b) : Al P' E' m b := by
  induction m generalizing b with
  | ok a => exact hP _ _ h
  | ex c fs => exact hE _ _ _ h
  | bad => exact h
  | draw m f ih =>
    obtain ⟨b', e, h1, h2, h3⟩ := h
    exact ⟨b', e, h1, h2, fun d d0 d1 => ih d (h3 d d0 d1)⟩
end
structure Gw where
  K : PySem.W.Frag
  T : List (Addr × Str)
  p : Addr
  c : Addr
mutual
inductive Den (g : Gw) (U : Addr → Prop) (H : Hp) : V → D → Prop
  | non : Den g U H .non .non
  | bl (b : Bool) : Den g U H (.bl b) (.bl b)
  | int (i : Int) : Den g U H (.int i) (.int i)
  | str (x : Str) : x.length ≤ sizeLine → Den g U H (.str x) (.str x)
  | tup {a : Addr} {vs : List V} {ds : List D} : H a = some (.tup vs) → ¬ U a → vs.length ≤ sizeLine → DenL g U H vs ds → Den g U H (.ref a) (.tup ds)
  | tupW {a : Addr} {vs : List V} {ds : List D} : (∀ H', SqT g.K H' a vs) → vs.length ≤ sizeLine → DenL g U H vs ds → Den g U H (.ref a) (.tup ds)
  | lst {a : Addr} {vs : List V} {ds : List D} : H a = some (.lst vs) → ¬ U a → vs.length ≤ sizeLine → DenL g U H vs ds → Den g U H (.ref a) (.lst ds)
  | obj {a dx : Addr} {c : Str} {fvs : List (Str × V)} {fs : List (Str × D)} : H a = some (.ins (gd c g.K) dx fvs) → ¬ U a → DenF g U H fvs fs → Den g U H (.ref a) (.obj c fs)
  | err {a d : Addr} {c : Str} {fvs : List (Str × V)} {fs : List (Str × D)} : H a = some (exk a (gd c g.K) d) → ¬ U a → H d = some (.xd fvs) → ¬ U d → DenF g U H fvs fs → Den g U H (.ref a) (.err c fs)
  | pen : Den g U H (.ref g.p) .pen
  | cls (c : Str) : Den g U H (.ref (gd c g.K)) (.cls c)
  | dct {a : Addr} : H a = some (.dK []) → ¬ U a → Den g U H (.ref a) .dct
  | dic {a : Addr} {kvs : List (Key × V)} {ps : List (Key × D)} : H a = some (.dK kvs) → ¬ U a → kvs.map (·.1) = ps.map (·.1) → DenL g U H (kvs.map (·.2)) (ps.map (·.2)) → Den g U H (.ref a) (.dic ps)
  | dit {a : Addr} {kvs : List (List Key × V)} {ps : List (List Key × D)} : H a = some (.dT kvs) → ¬ U a → kvs.map (·.1) = ps.map (·.1) → DenL g U H (kvs.map (·.2)) (ps.map (·.2)) → Den g U H (.ref a) (.dit ps)
inductive DenL (g : Gw) (U : Addr → Prop) (H : Hp) : List V → List D → Prop
  | nil : DenL g U H [] []
  | cons {v : V} {vs : List V} {d : D} {ds : List D} : Den g U H v d → DenL g U H vs ds → DenL g U H (v :: vs) (d :: ds)
inductive DenF (g : Gw) (U : Addr → Prop) (H : Hp) : List (Str × V) → List (Str × D) → Prop
  | nil : DenF g U H [] []
  | cons {n : Str} {v : V} {vs : List (Str × V)} {d : D} {ds : List (Str × D)} : Den g U H v d → DenF g U H vs ds → DenF g U H ((n, v) :: vs) ((n, d) :: ds)
end
section
variable {g : Gw} {U U' : Addr → Prop} {H H' : Hp}
def ExtU (U : Addr → Prop) (H H' : Hp) : Prop := ∀ a o, H a = some o → ¬ U a → (∀ ps, o ≠ .tbl ps) → H' a = some o
mutual
theorem Den.ext (e : ExtU U H H') : ∀ {v : V} {d : D}, Den g U H v d → Den g U H' v d
  | _, _, .non => .non
  | _, _, .bl b => .bl b
  | _, _, .int i => .int i
  | _, _, .str x h => .str x h
  | _, _, .tup h n l k => .tup (e _ _ h n (fun _ z => by cases z)) n l (DenL.ext e k)
  | _, _, .tupW h l k => .tupW h l (DenL.ext e k)
  | _, _, .lst h n l k => .lst (e _ _ h n (fun _ z => by cases z)) n l (DenL.ext e k)
  | _, _, .obj h n k => .obj (e _ _ h n (fun _ z => by cases z)) n (DenF.ext e k)
  | _, _, .err h n h2 n2 k => .err (e _ _ h n (fun _ z => by unfold exk at z; cases z)) n (e _ _ h2 n2 (fun _ z => by cases z)) n2 (DenF.ext e k)
  | _, _, .pen => .pen
  | _, _, .cls c => .cls c
  | _, _, .dct h n => .dct (e _ _ h n (fun _ z => by cases z)) n
  | _, _, .dic h n l k => .dic (e _ _ h n (fun _ z => by cases z)) n l (DenL.ext e k)
  | _, _, .dit h n l k => .dit (e _ _ h n (fun _ z => by cases z)) n l (DenL.ext e k)
theorem DenL.ext (e : ExtU U H H') : ∀ {vs : List V} {ds : List D}, DenL g U H vs ds → DenL g U H' vs ds
  | _, _, .nil => .nil
  | _, _, .cons a r => .cons (Den.ext e a) (DenL.ext e r)
theorem DenF.ext (e : ExtU U H H') : ∀ {vs : List (Str × V)} {ds : List (Str × D)}, DenF g U H vs ds → DenF g U H' vs ds
  | _, _, .nil => .nil
  | _, _, .cons a r => .cons (Den.ext e a) (DenF.ext e r)
end
mutual
theorem Den.sub (e : ∀ a, (∃ o, H a = some o) → U' a → U a) : ∀ {v : V} {d : D}, Den g U H v d → Den g U' H v d
  | _, _, .non => .non
  | _, _, .bl b => .bl b
  | _, _, .int i => .int i
  | _, _, .str x h => .str x h
  | _, _, .tup h n l k => .tup h (fun z => n (e _ ⟨_, h⟩ z)) l (DenL.sub e k)
  | _, _, .tupW h l k => .tupW h l (DenL.sub e k)
  | _, _, .lst h n l k => .lst h (fun z => n (e _ ⟨_, h⟩ z)) l (DenL.sub e k)
  | _, _, .obj h n k => .obj h (fun z => n (e _ ⟨_, h⟩ z)) (DenF.sub e k)
  | _, _, .err h n h2 n2 k => .err h (fun z => n (e _ ⟨_, h⟩ z)) h2 (fun z => n2 (e _ ⟨_, h2⟩ z)) (DenF.sub e k)
  | _, _, .pen => .pen
  | _, _, .cls c => .cls c
  | _, _, .dct h n => .dct h (fun z => n (e _ ⟨_, h⟩ z))
  | _, _, .dic h n l k => .dic h (fun z => n (e _ ⟨_, h⟩ z)) l (DenL.sub e k)
  | _, _, .dit h n l k => .dit h (fun z => n (e _ ⟨_, h⟩ z)) l (DenL.sub e k)
theorem DenL.sub (e : ∀ a, (∃ o, H a = some o) → U' a → U a) : ∀ {vs : List V} {ds : List D}, DenL g U H vs ds → DenL g U' H vs ds
  | _, _, .nil => .nil
  | _, _, .cons a r => .cons (Den.sub e a) (DenL.sub e r)
theorem DenF.sub (e : ∀ a, (∃ o, H a = some o) → U' a → U a) : ∀ {vs : List (Str × V)} {ds : List (Str × D)}, DenF g U H vs ds → DenF g U' H vs ds
  | _, _, .nil => .nil
  | _, _, .cons a r => .cons (Den.sub e a) (DenF.sub e r)
end
theorem DenL.length : ∀ {vs : List V} {ds : List D}, DenL g U H vs ds → vs.length = ds.length
  | _, _, .nil => rfl
  | _, _, .cons _ r => congrArg (· + 1) (DenL.length r)
theorem DenL.append : ∀ {vs ws : List V} {ds es : List D}, DenL g U H vs ds → DenL g U H ws es → DenL g U H (vs ++ ws) (ds ++ es)
  | _, _, _, _, .nil, k => k
  | _, _, _, _, .cons a r, k => .cons a (DenL.append r k)
theorem DenL.getD : ∀ {vs : List V} {ds : List D} {i : Nat} {d : D}, DenL g U H vs ds → ds[i]? = some d → ∃ v, vs[i]? = some v ∧ Den g U H v d
  | _, _, i, v, .nil, e => by simp at e
  | _, _, 0, v, .cons a r, e => by simp at e; subst e; exact ⟨_, rfl, a⟩
  | _, _, i + 1, v, .cons a r, e => by
    obtain ⟨d, h1, h2⟩ := DenL.getD (i := i) (d := v) r (by simpa using e)
    exact ⟨d, by simpa using h1, h2⟩
theorem DenF.look : ∀ {vs : List (Str × V)} {ds : List (Str × D)} {n : Str} {d : D}, DenF g U H vs ds → ds.lookup n = some d → ∃ v, vs.lookup n = some v ∧ Den g U H v d
  | _, _, _, _, .nil, e => by cases e
  | _, _, n, d, .cons (n := m) a r, e => by
    simp only [List.lookup] at e ⊢
    cases q : (n == m) with
    | true => rw [q] at e; cases e; exact ⟨_, rfl, a⟩
    | false => rw [q] at e; exact DenF.look r e
theorem DenF.length : ∀ {vs : List (Str × V)} {ds : List (Str × D)}, DenF g U H vs ds → vs.length = ds.length
  | _, _, .nil => rfl
  | _, _, .cons _ r => congrArg (· + 1) (DenF.length r)
end
structure Wd (g : Gw) (H : Hp) (b : Nat) : Prop where
  pen : Pen H g.p g.c b
  tabs : LamX.Tabs g.T H
structure UOk (g : Gw) (U : Addr → Prop) (H : Hp) : Prop where
  p : U g.p
  c : U g.c
  al : ∀ a, U a → ∃ o, H a = some o ∧ ∀ ps, o ≠ .tbl ps
section
variable {g : Gw} {U U' : Addr → Prop} {H H' H1 H2 : Hp} {b : Nat}
theorem UOk.extU (u : UOk g U H) (f : Fr H H' g.p) : ExtU U H H' := fun a o h n z => f a o h (fun e => n (e ▸ u.p)) z
theorem UOk.fr (u : UOk g U H) (f : Fr H H' g.p) (w : Wd g H' b) : UOk g U H' := ⟨u.p, u.c, fun a ha => by
  by_cases e : a = g.p
  · subst e
    obtain ⟨ns, i, z, h, _⟩ := w.pen
    exact ⟨_, h, fun _ z => by cases z⟩
  · obtain ⟨o, h, n⟩ := u.al a ha
    exact ⟨o, f a o h e n, n⟩⟩
theorem Den.fr (u : UOk g U H) (f : Fr H H' g.p) {v : V} {d : D} (h : Den g U H v d) : Den g U H' v d := h.ext (u.extU f)
theorem DenL.fr (u : UOk g U H) (f : Fr H H' g.p) {v : List V} {d : List D} (h : DenL g U H v d) : DenL g U H' v d := h.ext (u.extU f)
theorem Wd.same (w : Wd g H b) (s : L2.Same H H') : Wd g H' b := ⟨w.pen.same s, w.tabs.ext s⟩
end
inductive Sl where
  | no | fz (d : D) | ow (ds : List D) | oi (c : Str) (fs : Fs)
abbrev Env := List Sl
def SlR (g : Gw) (U : Addr → Prop) (H : Hp) (o : Option V) : Sl → Prop
  | .no => True
  | .fz d => ∃ v, o = some v ∧ Den g U H v d
  | .ow ds => ∃ a vs, o = some (.ref a) ∧ H a = some (.lst vs) ∧ vs.length ≤ sizeLine ∧ DenL g U H vs ds ∧ U a ∧ a ≠ g.p ∧ a ≠ g.c
  | .oi c fs => ∃ a dx fvs, o = some (.ref a) ∧ H a = some (.ins (gd c g.K) dx fvs) ∧ DenF g U H fvs fs ∧ U a ∧ a ≠ g.p ∧ a ≠ g.c
def OwnAt (σ : L2.St) (ε : Env) (i : Nat) (a : Addr) : Prop := σ[i]? = some (some (.ref a)) ∧ ((∃ ds, ε[i]? = some (.ow ds)) ∨ ∃ c fs, ε[i]? = some (.oi c fs))
structure Rel (g : Gw) (U : Addr → Prop) (H : Hp) (σ : L2.St) (ε : Env) : Prop where
  len : σ.length = ε.length
  at_ : ∀ (i : Nat) (s : Sl), ε[i]? = some s → ∃ o, σ[i]? = some o ∧ SlR g U H o s
  apart : ∀ (i j : Nat) (a : Addr), i ≠ j → OwnAt σ ε i a → OwnAt σ ε j a → False
section
variable {g : Gw} {U U' : Addr → Prop} {H H' H1 H2 : Hp} {b : Nat} {σ : L2.St} {ε : Env}
theorem extU_of (hp : U g.p) (f : Fr H H' g.p) : ExtU U H H' := fun a o h n z => f a o h (fun e => n (e ▸ hp)) z
theorem SlR.frp (hp : U g.p) (f : Fr H H' g.p) {o : Option V} : ∀ {s : Sl}, SlR g U H o s → SlR g U H' o s
  | .no, _ => trivial
  | .fz d, ⟨v, e, h⟩ => ⟨v, e, h.ext (extU_of hp f)⟩
  | .ow ds, ⟨a, vs, e, h, l, k, ua, n1, n2⟩ => ⟨a, vs, e, f _ _ h n1 (fun _ z => by cases z), l, k.ext (extU_of hp f), ua, n1, n2⟩
  | .oi c fs, ⟨a, dx, fvs, e, h, k, ua, n1, n2⟩ => ⟨a, dx, fvs, e, f _ _ h n1 (fun _ z => by cases z), k.ext (extU_of hp f), ua, n1, n2⟩
theorem SlR.fr (u : UOk g U H) (f : Fr H H' g.p) {o : Option V} {s : Sl} (h : SlR g U H o s) : SlR g U H' o s := h.frp u.p f
theorem Rel.frp (r : Rel g U H σ ε) (hp : U g.p) (f : Fr H H' g.p) : Rel g U H' σ ε := ⟨r.len, fun i s e => by
  obtain ⟨o, h1, h2⟩ := r.at_ i s e
  exact ⟨o, h1, h2.frp hp f⟩, r.apart⟩
theorem Rel.fr (r : Rel g U H σ ε) (u : UOk g U H) (f : Fr H H' g.p) : Rel g U H' σ ε := ⟨r.len, fun i s e => by
  obtain ⟨o, h1, h2⟩ := r.at_ i s e
  exact ⟨o, h1, h2.fr u f⟩, r.apart⟩
def okP (g : Gw) (U : Addr → Prop) (H : Hp) (Q : VK) : D → Nat → Prop := fun d b => ∀ v H', Den g U H' v d → Wd g H' b → Fr H H' g.p → Q v H'
def exP (g : Gw) (U : Addr → Prop) (E : XK) (H : Hp) : Str → Fs → Nat → Prop := fun c fs b => ∀ dd fvs H', H' dd = some (.xd fvs) → ¬ U dd → DenF g U H' fvs fs → Wd g H' b → Fr H H' g.p → E (.ref (gd c g.K)) (some dd) H'
theorem exP.fr {E : XK} {c : Str} {fs : Fs} (f : Fr H H1 g.p) (h : exP g U E H c fs b) : exP g U E H1 c fs b := fun dd fvs H' h1 h2 h3 h4 h5 => h dd fvs H' h1 h2 h3 h4 (f.trans h5)
theorem okP.fr {Q : VK} {d : D} (f : Fr H H1 g.p) (h : okP g U H Q d b) : okP g U H1 Q d b := fun v H' h1 h2 h3 => h v H' h1 h2 (f.trans h3)
theorem okP.here {Q : VK} {d : D} {v : V} (h : okP g U H Q d b) (w : Wd g H b) (dn : Den g U H v d) : Q v H := h v H dn w Fr.refl
variable {E : XK} {ta tb tc : TE} {ma mb : Tr D}
end
end Gp
end
section
set_option Elab.async false
set_option linter.all false
set_option maxRecDepth 100000
set_option maxHeartbeats 4000000
namespace Gp
open PySem PySem.Spec PyProof.Rows L2 Gh
inductive Fl (W L : Type) where
  | nx (w : W) | rt (d : D) | bk (l : L) | ct (l : L)
def FrM (g : Gw) (Mt : Addr → Prop) (H H' : Hp) : Prop := ∀ a o, H a = some o → a ≠ g.p → ¬ Mt a → (∀ ps, o ≠ .tbl ps) → H' a = some o
structure Stt (g : Gw) (Mt U0 : Addr → Prop) (H0 : Hp) (U : Addr → Prop) (σ : L2.St) (H : Hp) (b : Nat) (ε : Env) : Prop where
  rel : Rel g U H σ ε
  wd : Wd g H b
  uok : UOk g U H
  sub : ∀ a, U0 a → U a
  own : ∀ i a, OwnAt σ ε i a → Mt a ∨ ∀ o, H0 a = some o → ∃ ps, o = .tbl ps
  ext : FrM g Mt H0 H
  nu0 : ∀ (i : Nat) (ds : List D) (a : Addr), ε[i]? = some (.ow ds) → σ[i]? = some (some (.ref a)) → ¬ U0 a
  oim : ∀ (i : Nat) (c : Str) (fs : Fs) (a : Addr), ε[i]? = some (.oi c fs) → σ[i]? = some (some (.ref a)) → Mt a
section
variable {g : Gw} {Mt U0 U U' : Addr → Prop} {H0 H H' H1 H2 : Hp} {b b1 : Nat} {σ : L2.St} {ε ε' : Env} {E : XK} {W L W' : Type}
structure Ev (U : Addr → Prop) (H : Hp) (U' : Addr → Prop) (H' : Hp) : Prop where
  keep : ∀ a o, H a = some o → ¬ U a → (∀ ps, o ≠ .tbl ps) → H' a = some o
  out : ∀ a o, H a = some o → ¬ U a → (∀ ps, o ≠ .tbl ps) → ¬ U' a
theorem Ev.refl : Ev U H U H := ⟨fun _ _ h _ _ => h, fun _ _ _ n _ => n⟩
theorem Ev.trans {U1 : Addr → Prop} {H1 : Hp} (h : Ev U H U1 H1) (k : Ev U1 H1 U' H') : Ev U H U' H' := ⟨fun a o e n t => k.keep a o (h.keep a o e n t) (h.out a o e n t) t, fun a o e n t => k.out a o (h.keep a o e n t) (h.out a o e n t) t⟩
theorem FrM.trans (h : FrM g Mt H0 H) (f : Fr H H' g.p) : FrM g Mt H0 H' := fun a o e n1 n2 n3 => f a o (h a o e n1 n2 n3) n1 n3
theorem Stt.fr (s : Stt g Mt U0 H0 U σ H b ε) (f : Fr H H' g.p) (w : Wd g H' b1) : Stt g Mt U0 H0 U σ H' b1 ε := ⟨s.rel.fr s.uok f, w, s.uok.fr f w, s.sub, s.own, s.ext.trans f, s.nu0, s.oim⟩
def flP (g : Gw) (Mt U0 : Addr → Prop) (H0 : Hp) (U : Addr → Prop) (H : Hp) (D : Ends) (env : W → Env) (envL : L → Env) : Fl W L → Nat → Prop
  | .nx w, b => ∀ U' σ' H', Ev U H U' H' → Stt g Mt U0 H0 U' σ' H' b (env w) → D.nx σ' H'
  | .rt d, b => ∀ v H, Den g U0 H v d → Wd g H b → FrM g Mt H0 H → D.rt v H
  | .bk w, b => ∀ U' σ' H', Ev U H U' H' → Stt g Mt U0 H0 U' σ' H' b (envL w) → D.bk σ' H'
  | .ct w, b => ∀ U' σ' H', Ev U H U' H' → Stt g Mt U0 H0 U' σ' H' b (envL w) → D.ct σ' H'
def exS (g : Gw) (Mt U0 : Addr → Prop) (H0 : Hp) (E : XK) : Str → Fs → Nat → Prop := fun c fs b => ∀ dd fvs H, H dd = some (.xd fvs) → ¬ U0 dd → DenF g U0 H fvs fs → Wd g H b → FrM g Mt H0 H → E (.ref (gd c g.K)) (some dd) H
theorem exS.exP (s : Stt g Mt U0 H0 U σ H b ε) {c : Str} {fs : Fs} (h : exS g Mt U0 H0 E c fs b1) : exP g U E H c fs b1 := fun dd fvs H' h1 h2 h3 h4 h5 =>
  h dd fvs H' h1 (fun z => h2 (s.sub _ z)) (h3.sub fun a _ z => s.sub a z) h4 (s.ext.trans h5)
inductive Le : Env → Env → Prop
  | nil : Le [] []
  | s {x : Sl} {a b : Env} : Le a b → Le (x :: a) (x :: b)
  | n {x : Sl} {a b : Env} : Le a b → Le (.no :: a) (x :: b)
theorem Le.refl : ∀ ε : Env, Le ε ε
  | [] => .nil
  | _ :: r => .s (Le.refl r)
theorem Le.len : ∀ {a b : Env}, Le a b → a.length = b.length
  | _, _, .nil => rfl
  | _, _, .s h => congrArg (· + 1) h.len
  | _, _, .n h => congrArg (· + 1) h.len
variable {env : W → Env} {envL : L → Env} {env' : W' → Env} {u ta tb : TS} {te : TE} {me : Tr D}
section
variable {α : Type} {P : α → Nat → Prop} {X : Str → Fs → Nat → Prop} {ds : List D}
end
def SX (g : Gw) (E : XK) (ε : Env) (d : D) (gt : TG) (tb : TS) (env : W → Env) (envL : L → Env) (m : Tr (Fl W L)) : Prop := ∀ Mt U0 H0 U D σ H b v, Stt g Mt U0 H0 U σ H b ε → Den g U H v d → Al (flP g Mt U0 H0 U H D env envL) (exS g Mt U0 H0 E) m b → gt v σ H fun σ2 H2 => tb D σ2 H2
end
end Gp
end
section
set_option Elab.async false
set_option linter.all false
set_option maxRecDepth 100000
set_option maxHeartbeats 4000000
namespace Gp
open PySem PySem.Spec PyProof.Rows L2 Gh
section
variable {g : Gw} {Mt U0 U U' : Addr → Prop} {H0 H H' H1 H2 : Hp} {b b1 : Nat} {σ : L2.St} {ε ε' : Env} {E : XK} {W L W' : Type}
variable {env : W → Env} {envL : L → Env} {env' : W' → Env} {u ta tb : TS} {te : TE} {me : Tr D}
abbrev EF : XK := fun _ _ _ => False
theorem exP.F {c : Str} {fs : Fs} (h : False) : exP g U EF H c fs b := h.elim
end
end Gp
end
section
set_option Elab.async false
set_option linter.all false
set_option maxRecDepth 100000
set_option maxHeartbeats 4000000
namespace Gp
open PySem PySem.Spec PyProof.Rows L2 Gh
section
variable {g : Gw} {Mt U0 U U' : Addr → Prop} {H0 H H' H1 H2 : Hp} {b b1 : Nat} {σ : L2.St} {ε ε' : Env} {E : XK} {W L W' : Type}
variable {env : W → Env} {envL : L → Env} {env' : W' → Env} {u ta tb : TS} {te : TE} {me : Tr D}
def fin (m : Tr (Fl Unit Empty)) : Tr D := bd m fun f => match f with
  | .nx _ => .ok .non
  | .rt d => .ok d
  | .bk e => nomatch e
  | .ct e => nomatch e
def isO {α : Type} (c : Str) (o : D) (k : Fs → Tr α) : Tr α := match o with
  | .obj c' fs => if c' = c then k fs else .bad
  | _ => .bad
end
end Gp
end
section
set_option Elab.async false
set_option linter.all false
set_option maxRecDepth 100000
set_option maxHeartbeats 4000000
namespace Gp
open PySem PySem.Spec PyProof.Rows L2 Gh
mutual
def toPy : D → Option PyData
  | .non => some .none
  | .bl b => some (.bool b)
  | .int i => some (.int i)
  | .str x => some (.str x)
  | .tup ds => (toPyL ds).map .tuple
  | .lst ds => (toPyL ds).map .list
  | .obj _ _ => none
  | .err _ _ => none
  | .pen => none
  | .cls _ => none
  | .dct => none
  | .dic _ => none
  | .dit _ => none
def toPyL : List D → Option (List PyData)
  | [] => some []
  | d :: ds => match toPy d, toPyL ds with
    | some e, some es => some (e :: es)
    | _, _ => none
end
section
variable {g : Gw} {U : Addr → Prop} {H H' H1 : Hp} {b : Nat} {E : XK} {Q : VK}
end
end Gp
end
section
set_option Elab.async false
set_option linter.all false
set_option maxRecDepth 100000
set_option maxHeartbeats 4000000
namespace Gp
open PySem PySem.Spec PyProof.Rows L2 Gh
section
variable {g : Gw} {Mt U0 U U' : Addr → Prop} {H0 H H' H1 H2 : Hp} {b b1 : Nat} {σ : L2.St} {ε ε' : Env} {E : XK} {Q : VK} {W L W' : Type}
variable {env : W → Env} {envL : L → Env} {env' : W' → Env} {u ta tb : TS} {te : TE} {me : Tr D}
def shwD (d : D) : Option Str := match d with
  | .non => some "None"
  | .bl b => some (if b then "True" else "False")
  | .int i => if i.natAbs.log2 < 1920 then some (toString i) else none
  | .str x => if (reprText x).length ≤ sizeLine then some (reprText x) else none
  | d => match toPy d with
    | some e => if e.showable = true ∧ e.hasDict = false ∧ e.depth ≤ 100 ∧ e.shown.length ≤ sizeLine then some e.shown else none
    | none => none
def reprD (d : D) : Tr D := match shwD d with
  | some x => if x.length ≤ sizeLine then .ok (.str x) else .bad
  | none => .bad
end
end Gp
end
section
set_option Elab.async false
set_option linter.all false
set_option maxRecDepth 100000
set_option maxHeartbeats 4000000
namespace Gp
open PySem PySem.Spec PyProof.Rows L2 Gh
section
variable {g : Gw} {Mt U0 U U' : Addr → Prop} {H0 H H' H1 H2 : Hp} {b b1 : Nat} {σ : L2.St} {ε ε' : Env} {E : XK} {Q : VK} {W L W' : Type}
variable {env : W → Env} {envL : L → Env} {env' : W' → Env} {u ta tb : TS} {te : TE} {me : Tr D}
theorem look_cons {α : Type} {a c : Str} {x k : α} {r : List (Str × α)} (h : ((a, x) :: r).lookup c = some k) : (c = a ∧ k = x) ∨ r.lookup c = some k := by
  simp only [List.lookup] at h
  split at h
  · rename_i z
    cases h
    exact .inl ⟨beq_iff_eq.mp z, rfl⟩
  · exact .inr h
section
variable {K : PySem.W.Frag} {T : List (Addr × Str)} {N : List Str} {cn : Str} {vs : List V} {t : TS} {envI : Fs → Env}
end
def Yes (F : Tr D) : Prop := Al (fun d _ => d = .bl true) (fun _ _ _ => False) F 1000000
def eqO (c : Str) (f : D → Bool) (F : List D → Tr D) (x y : D) : Tr D := isO c x fun _ => if f y = true then F [x, y] else .bad
end
end Gp
namespace Gp
open PySem PySem.Spec PyProof.Rows L2 Gh
section
variable {g : Gw}
end
end Gp
namespace Gp
open PySem PySem.Spec PyProof.Rows L2 Gh
end Gp
end
section
set_option Elab.async false
set_option linter.all false
set_option maxRecDepth 100000
set_option maxHeartbeats 4000000
namespace Gp
open PySem PySem.Spec PyProof.Rows L2 Gh
structure SupX (X : Cx) (D f cda cc : Addr) (ar : Str) : Prop where
  fu : X.env.func = some f
  co : X.env.code = .ref cda
  lkf : ∃ oc od fd osl a, X.K.lookup f = some ⟨oc, od, .func fd, osl⟩ ∧ (fd.params.posonlyargs ++ fd.params.args).head? = some a ∧ a.arg = ar
  lkc : ∃ ccl cdd vs ccs file tf, X.K.lookup cda = some ⟨ccl, cdd, .fields vs, ccs⟩ ∧ vs[2]? = some (.str file tf) ∧ ((X.prog.main.file : Str) == file) = true
  top : (X.prog.main.scope.names.lookup ("super" : Str)).isSome = false
  ks : X.env.kindOf "super" = some .globalImplicit
  kc : X.env.kindOf "__class__" = some .free
  cell : X.env.cells.lookup ("__class__" : Str) = some cc
  lkl : ∃ cl cld csl, X.K.lookup cc = some ⟨cl, cld, .cell (some (.ref D)), csl⟩
  cD : ∃ cd, PySem.W.clsIn X.K D = some cd
  mg : X.mg "super" = none
  st : PySem.W.nsIn X.K cStatics "thirdparty.any" = some none
  n0 : X.N[0]? = some ar
  ka : X.env.kindOf ar = some .local
structure SupC (K : PySem.W.Frag) (C D : Addr) (m : Str) (f2 : Addr) : Prop where
  sub : PySem.W.mroIn K C (.ref D) = some true
  sup : PySem.W.ks_superIn K C D m = some (some (.ref f2))
  ty : PySem.W.typeIn K (.ref f2) = some (.type "function")
  fn : PySem.W.fnIn K f2 = true
theorem sup_run {X : Cx} {D f cda cc f2 : Addr} {ar m : Str} {body : List Stmt} {p0 p1 apos pos epos : Pos} {e : Expr} {es : List Expr} {ta : TA} {CX : CXT} {k : Nat} {dvs : List V} {sp : Sp} {E : XK} {pl : Sem Bool} {pins : List (Addr × Obj)} {s : Shared} {σ : L2.St} {H : Hp} {Dn : L2.St → Hp → Prop}
    (S : SupX X D f cda cc ar) (hm : (m == ("__class__" : Str)) = false) (ha : PA X (e :: es) ta) (G : PromOX X CX k f2 dvs sp) (hr : Room k X.A) (hx : Passes CX X E) (I : Inv X pins σ H s)
    (h : ∃ a C dx fs, σ[0]? = some (some (.ref a)) ∧ H a = some (.ins C dx fs) ∧ SupC X.K C D m f2 ∧ ta σ H fun vs H1 => sp (.ref a :: (vs ++ dvs)) H1 (fun _ H2 => Dn σ H2) E)
    (hst : starEach (e :: es) X.env = (false, eval e X.env) :: starEach es X.env := by rfl) (hpl : (backTo pos (starEach es X.env)).any (·.1) = false := by rfl)
    (he : eval (.Call (.Attribute (.Call (.Name "super" p0) [] [] p1) m apos) (e :: es) [] pos) X.env = (do
      let ov ← attributeBase (.Call (.Name "super" p0) [] [] p1) m X.env (eval (.Call (.Name "super" p0) [] [] p1) X.env)
      standAt apos.atName
      let (f, first) ← holding [ov] (getMethod ov m pl)
      callWith pos f first (backTo pos (starEach (e :: es) X.env)) []) := by rfl)
    (hsw : swapsWith (.Call (.Attribute (.Call (.Name "super" p0) [] [] p1) m apos) (e :: es) [] pos) none epos.line X.env = pure false := by rfl) :
    _root_.PySem.wpAt (model X.prog X.w) X.A (.func body X.env) (exec (.Expr (.Call (.Attribute (.Call (.Name "super" p0) [] [] p1) m apos) (e :: es) [] pos) epos) X.env) (fun fl s' => fl = .next ∧ ∃ H', Inv X pins σ H' s' ∧ Dn σ H') X.xe s := by
  obtain ⟨a, C, dx, fs, h0, hi, sc, q⟩ := h
  have KX := I.kIn
  obtain ⟨oc, od, fd, osl, ag, lkf, hp, rfl⟩ := S.lkf
  obtain ⟨ccl, cdd, vs, ccs, file, tf, lkc, hvs, hfile⟩ := S.lkc
  obtain ⟨cl, cld, csl, lkl⟩ := S.lkl
  obtain ⟨cdD, hD⟩ := S.cD
  obtain ⟨ox, od', J⟩ := ins_look I hi
  obtain ⟨oD, hD1, hD2⟩ : ∃ oD, s.heap.get? D = some oD ∧ oD.data = .cls cdD := by
    unfold PySem.W.clsIn at hD
    split at hD
    · rename_i ho
      cases hD
      exact ⟨_, KX _ _ ho, rfl⟩
    · cases hD
  have nc : ∀ c, ox.data ≠ .cls c := fun c e => by
    have := J.no
    unfold PySem.W.notCls at this
    rw [e] at this
    exact Bool.noConfusion this
  refine ks_wpAt_Expr_any (ks_wpAt_MethodCall (pl := pl) (ks_wpAt_super_base S.ks S.kc hm S.fu (KX _ _ lkf) rfl hp S.co (KX _ _ lkc) rfl hvs hfile S.top ?_) he) I.quiet hsw
  obtain ⟨mb, b1, b2⟩ := I.mod.blt
  refine PySem.W.ks_loadName_global I.ok.kind S.ks (Calls.loadGlobal_builtin (by rw [I.ok.glob]; exact I.mod.glob.keeps I.bk) S.mg (by rw [I.ok.blt]; exact b1.keeps I.bk) ((b2 "super" (by decide)).trans (show bootBuiltins "super" = some (.type "super") by decide +kernel)) ⟨rfl, ?_⟩)
  refine wpAny_loadName_free I.ok.kind S.kc S.cell ⟨_, KX _ _ lkl, rfl⟩ ?_
  obtain ⟨mm, hn, hl⟩ := I.loc
  obtain ⟨u, ru, hu⟩ := hl 0 ag.arg (.ref a) S.n0 h0 (.inl S.ka)
  have eu : u = Value.ref a := ru
  subst eu
  have hv : mm ag.arg = some (.ref a) := by
    rcases hu with z | ⟨z, _⟩
    · exact z.2
    · rcases z with z | z <;> rw [S.ka] at z <;> cases z
  refine wpAny_loadName_local I.ok.kind S.ka hn hv ?_
  obtain ⟨hh, g, d, t, os⟩ := s
  refine ks_wpAny_isType_cls hD1 hD2 ⟨rfl, ?_⟩
  refine ks_wpAny_call_super hD1 hD2 J.at_ J.cls nc (PySem.W.looks_mroIn KX sc.sub) (fun h1 e1 k1 => ?_)
  cases hcC : PySem.W.clsIn X.K C with
  | none =>
    have z := sc.sup
    unfold PySem.W.ks_superIn at z
    rw [hcC] at z
    cases z
  | some cdC =>
    have K1 : X.K.In h1 := KX.keeps k1
    obtain ⟨of, hof, hofc⟩ : ∃ of, h1.get? f2 = some of ∧ of.cls = .type "function" := by
      have ht' : (X.K.lookup f2).map (·.cls) = some (.type "function") := sc.ty
      cases z : X.K.lookup f2 with
      | none => rw [z] at ht'; cases ht'
      | some of => rw [z] at ht'; exact ⟨of, K1 _ _ z, Option.some.inj ht'⟩
    have hsup := sc.sup
    unfold PySem.W.ks_superIn at hsup
    rw [hcC] at hsup
    refine ks_wpAny_getMethod_super e1 (PySem.W.looks_opaque K1 S.st) (l₀ := cdC.mro) ?_ rfl K1 hsup hof hofc (PySem.W.ks_ne KX J hcC) hm ?_
    · exact fun A Q E s k q => wpAny_bind ((PySem.W.looks_clsIn K1 hcC) A _ E s k (wpAny_pure q))
    · have k2 : ∀ b o, hh.get? b = some o → (h1.push { cls := .type "method", data := .fields #[.ref f2, .ref a] }).get? b = some o := fun b o eb => Heap.get?_push_of_some _ (k1 b o eb)
      have I2 : Inv X pins σ H ⟨h1.push { cls := .type "method", data := .fields #[.ref f2, .ref a] }, g, d, t + 1, os⟩ := I.kept (t' := t + 1) k2
      have hsz : hh.objs.size ≤ h1.objs.size := by
        have := Heap.lt_size e1
        exact Nat.le_of_lt this
      have fp := I.fpOk (H' := H) (b := h1.objs.size) hsz (I.hok.fresh hsz)
      have hq1 : (h1.push { cls := .type "method", data := .fields #[.ref f2, .ref a] }).get? h1.objs.size = some (PySem.W.methodObj (.ref f2) (.ref a)) := Heap.get?_push_size _ rfl
      have I3 : Inv X ((h1.objs.size, PySem.W.methodObj (.ref f2) (.ref a)) :: pins) σ H ⟨h1.push { cls := .type "method", data := .fields #[.ref f2, .ref a] }, g, d, t + 1, os⟩ := I2.pins_of fun p hp => by
        rcases List.mem_cons.mp hp with rfl | hp
        · exact ⟨hq1, fp.1, fp.2.1, fp.2.2.1, fun v z => by cases z⟩
        · exact I2.pin p (List.mem_append_right _ hp)
      show wpAny _ _ (callWith pos (.ref h1.objs.size) [] (backTo pos (starEach (e :: es) X.env)) []) _ _ _
      rw [hst]
      refine PySem.W.callWith_of (P := PySem.W.MethP X.K h1.objs.size f2 (.ref a)) (by show ((false || (backTo pos (starEach es X.env)).any (·.1)) || false) = false; rw [hpl]; rfl) (PySem.W.keeps_M sc.fn) (PySem.Calls.evalArgs_plain ?_)
      show wpAny _ _ (spliced (backTo pos ((false, eval e X.env) :: starEach es X.env))) _ _ _
      rw [← hst]
      refine thn (ha.run pos _ _ σ H _ I3 q) fun us s3 ⟨ws, H1, I4, rv, q2⟩ => ?_
      have pq := (I4.pin (h1.objs.size, PySem.W.methodObj (.ref f2) (.ref a)) (List.mem_append_right _ List.mem_cons_self)).1
      refine ⟨⟨pq, I4.kIn⟩, ?_⟩
      have I5 : Inv X pins σ H1 s3 := I4.pins_of fun p hp => I4.pin p (List.mem_append_right _ (List.mem_cons_of_mem _ hp))
      obtain ⟨fd2, ps2, ds2, G2, b2', hd2⟩ := G
      have r2 : Vals (.ref a :: (ws ++ dvs)) (.ref a :: (us ++ ds2)) := .cons rfl (rv.append hd2)
      have hl2 : ((Value.ref a :: us) ++ ds2).length = ps2.length := by
        rw [← G2.len _ _ _ _ q2]
        exact r2.length.symm
      refine wpAny_call (ks_codeAny_call_bound pq (codeAny_mono (G2.run X.A X.stack s3 H1 ⟨.ref a :: us, []⟩ (.ref a :: (us ++ ds2)) (.ref a :: (ws ++ dvs)) _ E hr I5.env0 (b2' s3 (.ref a :: us) I5.kIn hl2) r2 q2) fun r s' hq => ?_))
      cases r with
      | error er => exact hx pins σ H1 s3 er s' I5 hq
      | ok fl =>
        cases fl with
        | ret u =>
          obtain ⟨v, H', I6, _, q3⟩ := I5.after hq
          exact ⟨rfl, H', I6, q3⟩
        | next => exact False.elim hq
        | brk => exact False.elim hq
        | cont => exact False.elim hq
end Gp
end
section
set_option Elab.async false
set_option linter.all false
set_option maxRecDepth 100000
set_option maxHeartbeats 4000000
namespace Gp
open PySem PySem.Spec PyProof.Rows L2 Gh
theorem execs_app (env : PySem.Env) (rest : List Stmt) : ∀ pre : List Stmt, execs (pre ++ rest) env = (execs pre env >>= fun f => match f with
  | .next => execs rest env
  | f => pure f)
  | [] => by
    show execs rest env = (pure Flow.next >>= _)
    rw [pure_bind]
  | st :: pre => by
    show execs (st :: (pre ++ rest)) env = _
    rw [execs_cons, execs_cons, bind_assoc]
    congr 1
    funext f
    cases f with
    | next => exact execs_app env rest pre
    | _ => rw [pure_bind]
theorem wpAt_app {M : Model} {A : Around} {c : Code} {env : PySem.Env} {pre rest : List Stmt} {Q : Flow → Shared → Prop} {E : Value → Shared → Prop} {s : Shared}
    (h : wpAny M A (execs pre env) (fun f s' => match f with
      | .next => _root_.PySem.wpAt M A c (execs rest env) Q E s'
      | f => Q f s') E s) : _root_.PySem.wpAt M A c (execs (pre ++ rest) env) Q E s := by
  rw [execs_app]
  refine _root_.PySem.wpAt_bind (_root_.PySem.wpAt_of_wpAny (wpAny_mono h (fun f s' hf => ?_) fun _ _ z => z))
  cases f with
  | next => exact hf
  | _ => exact _root_.PySem.wpAt_of_wpAny (wpAny_pure hf)
structure SupF (K : PySem.W.Frag) (x qual : Str) (params : Arguments) (body : List Stmt) (scope : Scope) (dvs : List V) (f D : Addr) (file : Str) (fd : FuncData) : Prop where
  ex : ∃ (oc : Value) (od : Option Addr) (dV kV doc pm : Value) (an : Option Addr) (cda : Addr) (ct : Value) (osl : Array (Option Value)) (cc : Addr),
    fd = PySem.W.fnX x qual params body scope [("__class__", cc)] dV kV doc pm an (.ref cda) ct ∧ K.lookup f = some ⟨oc, od, .func fd, osl⟩ ∧ PySem.W.codeIn K (.ref cda) qual = true ∧ DflV K dV dvs ∧
    (∃ cl cld csl, K.lookup cc = some ⟨cl, cld, .cell (some (.ref D)), csl⟩) ∧ ∃ ccl cdd vs ccs tf, K.lookup cda = some ⟨ccl, cdd, .fields vs, ccs⟩ ∧ vs[2]? = some (.str file tf)
  kp : PySem.W.keepIn K (.ref f) = true
structure SupT (K : PySem.W.Frag) (mg : Str → Option Value) (D : Addr) : Prop where
  cD : ∃ cd, PySem.W.clsIn K D = some cd
  mg : mg "super" = none
  st : PySem.W.nsIn K cStatics "thirdparty.any" = some none
section
variable {P : Program} {w : World} {K : PySem.W.Frag} {mg : Str → Option Value} {base : Heap} {CX : CXT} {k : Nat} {x qual file m ar : Str} {params : Arguments} {body : List Stmt} {scope : Scope} {dvs : List V} {f D : Addr} {fd : FuncData} {N ps : List Str} {sp : Sp}
abbrev scx (CX : CXT) (P : Program) (w : World) (K : PySem.W.Frag) (mg : Str → Option Value) (base : Heap) (N : List Str) (x qual : Str) (params : Arguments) (body : List Stmt) (scope : Scope) (cc cda f : Addr) (A : Around) (outer : List PySem.Env) (s : Shared) (H : Hp) (E : XK) : Cx :=
  NdefX.ncx CX P w K mg base N ⟨x, qual, params, body, scope, [("__class__", cc)], cda⟩ f A outer s H E
theorem SupF.ok {pre post : List Stmt} {p0 p1 apos pos epos : Pos} {e : Expr} {es : List Expr} (eb : body = pre ++ .Expr (.Call (.Attribute (.Call (.Name "super" p0) [] [] p1) m apos) (e :: es) [] pos) epos :: post) (F : SupF K x qual params body scope dvs f D file fd) (T : SupT K mg D) (S : NdefX.NScope N ps ["__class__"] scope)
    (len : ∀ vs H Q E, sp vs H Q E → vs.length = ps.length) (hfile : ((P.main.file : Str) == file) = true) (htop : (P.main.scope.names.lookup ("super" : Str)).isSome = false) (hm : (m == ("__class__" : Str)) = false) (hks : scope.names.lookup ("super" : Str) = some .globalImplicit)
    (har : ((params.posonlyargs ++ params.args).head?).map (·.arg) = some ar) (hn0 : N[0]? = some ar) (hka : scope.names.lookup ar = some .local)
    (hbody : ∀ (cc cda : Addr) (A : Around) (outer : List PySem.Env) (s : Shared) (H : Hp) (vs : List V) (Q : VK) (E : XK), Room k (scx CX P w K mg base N x qual params body scope cc cda f A outer s H E).A → sp vs H Q E →
      ∃ t1 ta t2 CX2 k2 f2 dvs2 sp2 E2, PSs (scx CX P w K mg base N x qual params body scope cc cda f A outer s H E) pre t1 ∧
        PA (scx CX P w K mg base N x qual params body scope cc cda f A outer s H E) (e :: es) ta ∧
        PSs (scx CX P w K mg base N x qual params body scope cc cda f A outer s H E) post t2 ∧
        PromO P w K mg base CX2 k2 f2 dvs2 sp2 ∧ k2 ≤ k ∧ Passes CX2 (scx CX P w K mg base N x qual params body scope cc cda f A outer s H E) E2 ∧
        t1 { nx := fun σ1 H1 => ∃ a C dx fs, σ1[0]? = some (some (.ref a)) ∧ H1 a = some (.ins C dx fs) ∧ SupC K C D m f2 ∧ ta σ1 H1 fun us H2 => sp2 (.ref a :: (us ++ dvs2)) H2 (fun _ H3 => t2 { nx := fun _ H' => Q .non H', rt := Q } σ1 H3) E2, rt := Q } (L2.start N vs) H)
    (hst : ∀ env : PySem.Env, starEach (e :: es) env = (false, eval e env) :: starEach es env := by intro _; rfl) (hpl : ∀ env : PySem.Env, (backTo pos (starEach es env)).any (·.1) = false := by intro _; rfl)
    (pl : PySem.Env → Sem Bool)
    (he : ∀ env : PySem.Env, eval (.Call (.Attribute (.Call (.Name "super" p0) [] [] p1) m apos) (e :: es) [] pos) env = (do
      let ov ← attributeBase (.Call (.Name "super" p0) [] [] p1) m env (eval (.Call (.Name "super" p0) [] [] p1) env)
      standAt apos.atName
      let (f, first) ← holding [ov] (getMethod ov m (pl env))
      callWith pos f first (backTo pos (starEach (e :: es) env)) []))
    (hsw : ∀ env : PySem.Env, swapsWith (.Call (.Attribute (.Call (.Name "super" p0) [] [] p1) m apos) (e :: es) [] pos) none epos.line env = pure false := by intro _; rfl) :
    FnOk P w K mg base CX (k + 1) f fd ps sp := by
  obtain ⟨oc, od, dV, kV, doc, pm, an, cda, ct, osl, cc, rfl, lk, hcd, _, ⟨cl, cld, csl, lkl⟩, ccl, cdd, vsc, ccs, tf, lkc, hvs⟩ := F.ex
  refine ⟨len, fun A outer s H args us vs Q E hr e0 hb r hsp => ?_⟩
  have KX : K.In s.heap := e0.mod.kin.keeps fun b o e => (e0.bs b o e).1
  have lim : s.heap.NoLimit := e0.mod.nolimit.keeps fun b o e => (e0.bs b o e).1
  have hl := len _ _ _ _ hsp
  have hpl2 : ps.length + 1 ≤ N.length := by
    have q := congrArg List.length S.pre
    rw [List.length_take, List.length_append] at q
    have : (["__class__"] : List Str).length = 1 := rfl
    omega
  refine ks_codeAny_call_defAt hr.depth (KX _ _ lk) rfl lim (PySem.W.codeRec_of KX hcd) rfl hb S.nocell (fun ⟨n, _⟩ hy => S.par n (List.of_mem_zip hy).1) (fun h₁ hns kp => ?_) S.co S.gen S.kind
  obtain ⟨t1, ta, t2, CX2, k2, f2, dvs2, sp2, E2, h1, h2, h3, G, hk2, hx2, hq⟩ := hbody cc cda A outer s H vs Q E (hr.deeper _) hsp
  have C : NdefX.CellsAt [(("__class__" : Str), cc)] ["__class__"] [none] s.heap H := by
    have hc : s.heap.get? cc = some ⟨cl, cld, .cell (some (.ref D)), csl⟩ := KX _ _ lkl
    have hH : H cc = none := by
      have hb : base.get? cc = some ⟨cl, cld, .cell (some (.ref D)), csl⟩ := e0.mod.kin _ _ lkl
      exact (e0.bs _ _ hb).2
    have one : ∀ (y : Str) (c : Addr), ([(("__class__" : Str), cc)] : List (Str × Addr)).lookup y = some c → y = "__class__" ∧ c = cc := fun y c hy => by
      rcases look_cons hy with ⟨e1, e2⟩ | z
      · exact ⟨e1, e2⟩
      · cases z
    refine ⟨rfl, fun y c hy => ?_, fun x y c hx hy => (one x c hx).1.trans (one y c hy).1.symm, fun i y hy => ?_⟩
    · obtain ⟨_, rfl⟩ := one y c hy
      exact ⟨hH, _, _, hc, rfl⟩
    · have e2 : y = "__class__" := by
        cases i with
        | zero => cases hy; rfl
        | succ i => cases hy
      subst e2
      refine ⟨cc, rfl, fun v hv => ?_⟩
      cases i with
      | zero => cases hv
      | succ i => cases hv
  have I := NdefX.inv_startN (CX := CX) (P := P) (w := w) (K := K) (mg := mg) (base := base) (N := N) (F := ⟨x, qual, params, body, scope, [("__class__", cc)], cda⟩) (f := f) (E := E) (tk := s.toks + (ps.zip us).length) S hr.hd e0 hl r C hns kp
  have est : NdefX.startF N vs [none] = L2.start N vs := by
    unfold NdefX.startF L2.start
    congr 1
    rw [List.length_singleton, ← List.singleton_append]
    have : N.length - vs.length = (N.length - vs.length - 1) + 1 := by omega
    rw [this, List.replicate_succ]
    rfl
  rw [est] at I
  have SX : SupX (scx CX P w K mg base N x qual params body scope cc cda f A outer s H E) D f cda cc ar := by
    refine ⟨rfl, rfl, ?_, ⟨ccl, cdd, vsc, ccs, file, tf, lkc, hvs, hfile⟩, htop, hks, S.frk _ (List.mem_singleton.mpr rfl), rfl, ⟨cl, cld, csl, lkl⟩, T.cD, T.mg, T.st, hn0, hka⟩
    cases z : (params.posonlyargs ++ params.args).head? with
    | none => rw [z] at har; cases har
    | some a =>
      rw [z] at har
      exact ⟨_, _, _, _, a, lk, z, Option.some.inj har⟩
  have fin : ∀ {s' : Shared} {σ' : L2.St} {H' : Hp} {v : V} {u : Value}, Inv (scx CX P w K mg base N x qual params body scope cc cda f A outer s H E) [] σ' H' s' → L2.RelV v u → Q v H' → CE outer P w H s Q u s' :=
    fun {s' σ' H' v u} J rv q => ⟨v, H', J.os, J.bare, J.base, J.hok, rv, q⟩
  have eb2 : execs body (scx CX P w K mg base N x qual params body scope cc cda f A outer s H E).env = execs (pre ++ .Expr (.Call (.Attribute (.Call (.Name "super" p0) [] [] p1) m apos) (e :: es) [] pos) epos :: post) (scx CX P w K mg base N x qual params body scope cc cda f A outer s H E).env := by rw [← eb]
  show _root_.PySem.wpAt _ _ _ (execs body _) _ _ _
  refine eb2 ▸ wpAt_app (wpAny_mono (h1.run [] _ (L2.start N vs) H _ I hq) (fun fl s' hs => ?_) fun _ _ z => z)
  cases fl with
  | ret u =>
    obtain ⟨v, σ', H', J, rv, q⟩ := hs
    exact fin J rv q
  | brk =>
    obtain ⟨_, _, _, q⟩ := hs
    exact False.elim q
  | cont =>
    obtain ⟨_, _, _, q⟩ := hs
    exact False.elim q
  | next =>
    obtain ⟨σ', H', J, q⟩ := hs
    refine ks_wpAt_execs_cons (_root_.PySem.wpAt_mono (sup_run (pl := pl _) SX hm h2 G ((hr.deeper _).mono hk2) hx2 J q (hst _) (hpl _) (he _) (hsw _)) (fun fl2 s2 hq2 => ?_) fun _ _ z => z)
    obtain ⟨rfl, H2, J2, q2⟩ := hq2
    refine _root_.PySem.wpAt_of_wpAny (wpAny_mono (h3.run [] s2 σ' H2 _ J2 q2) (fun fl s' hs => ?_) fun _ _ z => z)
    cases fl with
    | ret u =>
      obtain ⟨v, σ', H', J, rv, q⟩ := hs
      exact fin J rv q
    | next =>
      obtain ⟨σ', H', J, q⟩ := hs
      exact fin (v := V.non) (u := Value.none) J rfl q
    | brk =>
      obtain ⟨_, _, _, q⟩ := hs
      exact False.elim q
    | cont =>
      obtain ⟨_, _, _, q⟩ := hs
      exact False.elim q
end
end Gp
end
section
set_option Elab.async false
set_option linter.all false
set_option maxRecDepth 100000
set_option maxHeartbeats 4000000
namespace Gp
open PySem PySem.Spec PyProof.Rows L2 Gh
structure Ds where
  d : Df
  own : PySem.W.Frag → Addr
def fnAtS (K : PySem.W.Frag) (a : Addr) : He.FnW := match K.lookup a with
  | some ⟨_, _, .func fd, _⟩ => some (fd.name, fd.qualname, fd.params, fd.body, fd.scope, fd.globals, fd.closure.map (fun q => (q.1, 0)), fd.builtins)
  | _ => none
def Ds.val (d : Ds) : He.FnW := some (d.d.name, d.d.qual, defArgs d.d.st, .stmts (defBody d.d.st), defScope d.d.st, mainGlobals, [("__class__", 0)], builtinsNs)
def fileB (K : PySem.W.Frag) (file : Str) : Value → Bool
  | .ref c => (match K.lookup c with
    | some ⟨_, _, Data.fields vs, _⟩ => (match (vs[2]? : Option Value) with
      | some (Value.str f _) => decide (f = file)
      | _ => false)
    | _ => false)
  | _ => false
def cellB (K : PySem.W.Frag) (B : Addr) : List (Str × Addr) → Bool
  | [(_, c)] => (match K.lookup c with
    | some ⟨_, _, .cell (some (.ref b)), _⟩ => decide (b = B)
    | _ => false)
  | _ => false
def Ds.ok (file : Str) (K : PySem.W.Frag) (d : Ds) : Bool := PySem.W.keepIn K (.ref (d.d.adr K)) && (match K.lookup (d.d.adr K) with
  | some ⟨_, _, .func fd, _⟩ => PySem.W.codeIn K fd.code d.d.qual && (He.dflB K fd.defaults (d.d.dvs K) && (fileB K file fd.code && cellB K (d.own K) fd.closure))
  | _ => false)
structure SaysS (ex : List (PySem.W.Frag → Bool)) (fn : List Df) (tf : List He.Defn) (fs : List Ds) (file : Str) (h : Heap) (K : PySem.W.Frag) : Prop where
  s : SaysT ex fn tf h K
  o : (fs.all fun d => d.ok file K) = true
  v : (fs.map fun d => fnAtS K (d.d.adr K)) = fs.map Ds.val
abbrev AlS : Type := AlT × Bool × List He.FnW
end Gp
end
section
set_option Elab.async false
set_option linter.all false
set_option maxRecDepth 100000
set_option maxHeartbeats 4000000
namespace Gp
open PySem PySem.Spec PyProof.Rows L2 Gh
section
variable {P : Program} {w : World} {K : PySem.W.Frag} {mg : Str → Option Value} {base : Heap} {CX : CXT} {k : Nat} {x qual file m ar : Str} {params : Arguments} {body : List Stmt} {scope : Scope} {dvs : List V} {f D : Addr} {fd : FuncData} {N ps : List Str} {sp : Sp}
theorem SupF.run {A : Around} {outer : List PySem.Env} {s : Shared} {H : Hp} {args : Args} {Q : VK} {E : XK} {G : List V → Hp → Prop} {pre post : List Stmt} {p0 p1 apos pos epos : Pos} {e : Expr} {es : List Expr} (eb : body = pre ++ .Expr (.Call (.Attribute (.Call (.Name "super" p0) [] [] p1) m apos) (e :: es) [] pos) epos :: post) (F : SupF K x qual params body scope dvs f D file fd) (T : SupT K mg D) (S : NdefX.NScope N ps ["__class__"] scope)
    (hr : Room (k + 1) A) (e0 : Env0 P w K mg base A outer s H) (hb : StX.Bnd CX P w K mg base fd args ps A outer s H E G) (hfile : ((P.main.file : Str) == file) = true) (htop : (P.main.scope.names.lookup ("super" : Str)).isSome = false) (hm : (m == ("__class__" : Str)) = false) (hks : scope.names.lookup ("super" : Str) = some .globalImplicit)
    (har : ((params.posonlyargs ++ params.args).head?).map (·.arg) = some ar) (hn0 : N[0]? = some ar) (hka : scope.names.lookup ar = some .local)
    (hbody : ∀ (cc cda : Addr) (s : Shared) (H : Hp) (vs : List V), Room k (scx CX P w K mg base N x qual params body scope cc cda f A outer s H E).A → G vs H →
      ∃ t1 ta t2 CX2 k2 f2 dvs2 sp2 E2, PSs (scx CX P w K mg base N x qual params body scope cc cda f A outer s H E) pre t1 ∧
        PA (scx CX P w K mg base N x qual params body scope cc cda f A outer s H E) (e :: es) ta ∧
        PSs (scx CX P w K mg base N x qual params body scope cc cda f A outer s H E) post t2 ∧
        PromO P w K mg base CX2 k2 f2 dvs2 sp2 ∧ k2 ≤ k ∧ Passes CX2 (scx CX P w K mg base N x qual params body scope cc cda f A outer s H E) E2 ∧
        t1 { nx := fun σ1 H1 => ∃ a C dx fs, σ1[0]? = some (some (.ref a)) ∧ H1 a = some (.ins C dx fs) ∧ SupC K C D m f2 ∧ ta σ1 H1 fun us H2 => sp2 (.ref a :: (us ++ dvs2)) H2 (fun _ H3 => t2 { nx := fun _ H' => Q .non H', rt := Q } σ1 H3) E2, rt := Q } (L2.start N vs) H)
    (hst : ∀ env : PySem.Env, starEach (e :: es) env = (false, eval e env) :: starEach es env := by intro _; rfl) (hpl : ∀ env : PySem.Env, (backTo pos (starEach es env)).any (·.1) = false := by intro _; rfl)
    (pl : PySem.Env → Sem Bool)
    (he : ∀ env : PySem.Env, eval (.Call (.Attribute (.Call (.Name "super" p0) [] [] p1) m apos) (e :: es) [] pos) env = (do
      let ov ← attributeBase (.Call (.Name "super" p0) [] [] p1) m env (eval (.Call (.Name "super" p0) [] [] p1) env)
      standAt apos.atName
      let (f, first) ← holding [ov] (getMethod ov m (pl env))
      callWith pos f first (backTo pos (starEach (e :: es) env)) []))
    (hsw : ∀ env : PySem.Env, swapsWith (.Call (.Attribute (.Call (.Name "super" p0) [] [] p1) m apos) (e :: es) [] pos) none epos.line env = pure false := by intro _; rfl) :
    codeAny (model P w) A (.call (.ref f) args) (CR CX outer P w H s Q E) s := by
  obtain ⟨oc, od, dV, kV, doc, pm, an, cda, ct, osl, cc, rfl, lk, hcd, _, ⟨cl, cld, csl, lkl⟩, ccl, cdd, vsc, ccs, tf, lkc, hvs⟩ := F.ex
  have KX0 : K.In s.heap := e0.mod.kin.keeps fun b o e => (e0.bs b o e).1
  refine codeAny_call_function hr.depth (KX0 _ _ lk) rfl S.co S.gen rfl (PySem.W.codeRec_of KX0 hcd) ?_
  refine hb _ _ _ fun s2 H2 vs us e2 un ho hxx r hl gg => ?_
  have KX : K.In s2.heap := e0.mod.kin.keeps fun b o e => (e2.bs b o e).1
  have lim : s2.heap.NoLimit := e0.mod.nolimit.keeps fun b o e => (e2.bs b o e).1
  have hpl2 : ps.length + 1 ≤ N.length := by
    have q := congrArg List.length S.pre
    rw [List.length_take, List.length_append] at q
    have : (["__class__"] : List Str).length = 1 := rfl
    omega
  refine wpAny_newFunctionEnv S.nocell (fun ⟨n, _⟩ hy => S.par n (List.of_mem_zip hy).1) (fun h₁ hns hsb => ⟨lim.fresh _ hsb, ks_codeAny_funcAt ?_⟩) S.kind
  have kp : ∀ b o, s2.heap.get? b = some o → h₁.get? b = some o := fun b o e => hsb.extBut b o (Nat.ne_of_lt (Heap.lt_size e)) (Heap.get?_push_of_some _ e)
  refine _root_.PySem.wpAt_mono (Q := fun fl s' => CR CX outer P w H s Q E (.ok (.ret (match fl with | .ret v => v | _ => .none))) s') (E := (scx CX P w K mg base N x qual params body scope cc cda f A outer s2 H2 E).xe) ?_ (fun _ _ z => z) (fun e s' hs => wpAny_mono hs (fun _ s'' z => hxx e s'' z) fun e' s'' z => hxx e' s'' z)
  obtain ⟨t1, ta, t2, CX2, k2, f2, dvs2, sp2, E2, h1, h2, h3, G, hk2, hx2, hq⟩ := hbody cc cda s2 H2 vs (hr.deeper _) gg
  have C : NdefX.CellsAt [(("__class__" : Str), cc)] ["__class__"] [none] s2.heap H2 := by
    have hc : s2.heap.get? cc = some ⟨cl, cld, .cell (some (.ref D)), csl⟩ := KX _ _ lkl
    have hH : H2 cc = none := by
      have hb : base.get? cc = some ⟨cl, cld, .cell (some (.ref D)), csl⟩ := e0.mod.kin _ _ lkl
      exact (e2.bs _ _ hb).2
    have one : ∀ (y : Str) (c : Addr), ([(("__class__" : Str), cc)] : List (Str × Addr)).lookup y = some c → y = "__class__" ∧ c = cc := fun y c hy => by
      rcases look_cons hy with ⟨e1, e2⟩ | z
      · exact ⟨e1, e2⟩
      · cases z
    refine ⟨rfl, fun y c hy => ?_, fun x y c hx hy => (one x c hx).1.trans (one y c hy).1.symm, fun i y hy => ?_⟩
    · obtain ⟨_, rfl⟩ := one y c hy
      exact ⟨hH, _, _, hc, rfl⟩
    · have e2 : y = "__class__" := by
        cases i with
        | zero => cases hy; rfl
        | succ i => cases hy
      subst e2
      refine ⟨cc, rfl, fun v hv => ?_⟩
      cases i with
      | zero => cases hv
      | succ i => cases hv
  have I := NdefX.inv_startN (CX := CX) (P := P) (w := w) (K := K) (mg := mg) (base := base) (N := N) (F := ⟨x, qual, params, body, scope, [("__class__", cc)], cda⟩) (f := f) (E := E) (tk := s2.toks + (ps.zip us).length) S hr.hd e2 hl r C hns kp
  have est : NdefX.startF N vs [none] = L2.start N vs := by
    unfold NdefX.startF L2.start
    congr 1
    rw [List.length_singleton, ← List.singleton_append]
    have : N.length - vs.length = (N.length - vs.length - 1) + 1 := by omega
    rw [this, List.replicate_succ]
    rfl
  rw [est] at I
  have SX : SupX (scx CX P w K mg base N x qual params body scope cc cda f A outer s2 H2 E) D f cda cc ar := by
    refine ⟨rfl, rfl, ?_, ⟨ccl, cdd, vsc, ccs, file, tf, lkc, hvs, hfile⟩, htop, hks, S.frk _ (List.mem_singleton.mpr rfl), rfl, ⟨cl, cld, csl, lkl⟩, T.cD, T.mg, T.st, hn0, hka⟩
    cases z : (params.posonlyargs ++ params.args).head? with
    | none => rw [z] at har; cases har
    | some a =>
      rw [z] at har
      exact ⟨_, _, _, _, a, lk, z, Option.some.inj har⟩
  have fin : ∀ {s' : Shared} {σ' : L2.St} {H' : Hp} {v : V} {u : Value}, Inv (scx CX P w K mg base N x qual params body scope cc cda f A outer s2 H2 E) [] σ' H' s' → L2.RelV v u → Q v H' → CE outer P w H s Q u s' :=
    fun {s' σ' H' v u} J rv q => ⟨v, H', J.os.trans ho, J.bare, un.trans J.base, J.hok, rv, q⟩
  have eb2 : execs body (scx CX P w K mg base N x qual params body scope cc cda f A outer s2 H2 E).env = execs (pre ++ .Expr (.Call (.Attribute (.Call (.Name "super" p0) [] [] p1) m apos) (e :: es) [] pos) epos :: post) (scx CX P w K mg base N x qual params body scope cc cda f A outer s2 H2 E).env := by rw [← eb]
  show _root_.PySem.wpAt _ _ _ (execs body _) _ _ _
  refine eb2 ▸ wpAt_app (wpAny_mono (h1.run [] _ (L2.start N vs) H2 _ I hq) (fun fl s' hs => ?_) fun _ _ z => z)
  cases fl with
  | ret u =>
    obtain ⟨v, σ', H', J, rv, q⟩ := hs
    exact fin J rv q
  | brk =>
    obtain ⟨_, _, _, q⟩ := hs
    exact False.elim q
  | cont =>
    obtain ⟨_, _, _, q⟩ := hs
    exact False.elim q
  | next =>
    obtain ⟨σ', H', J, q⟩ := hs
    refine ks_wpAt_execs_cons (_root_.PySem.wpAt_mono (sup_run (pl := pl _) SX hm h2 G ((hr.deeper _).mono hk2) hx2 J q (hst _) (hpl _) (he _) (hsw _)) (fun fl2 s3 hq2 => ?_) fun _ _ z => z)
    obtain ⟨rfl, H3, J2, q2⟩ := hq2
    refine _root_.PySem.wpAt_of_wpAny (wpAny_mono (h3.run [] s3 σ' H3 _ J2 q2) (fun fl s' hs => ?_) fun _ _ z => z)
    cases fl with
    | ret u =>
      obtain ⟨v, σ', H', J, rv, q⟩ := hs
      exact fin J rv q
    | next =>
      obtain ⟨σ', H', J, q⟩ := hs
      exact fin (v := V.non) (u := Value.none) J rfl q
    | brk =>
      obtain ⟨_, _, _, q⟩ := hs
      exact False.elim q
    | cont =>
      obtain ⟨_, _, _, q⟩ := hs
      exact False.elim q
end
section
variable {g : Gw} {Mt U0 U U' : Addr → Prop} {H0 H H' H1 H2 : Hp} {b b1 b2 : Nat} {σ : L2.St} {ε ε' : Env} {E : XK}
end
end Gp
end
section
set_option Elab.async false
set_option linter.all false
set_option maxRecDepth 100000
set_option maxHeartbeats 4000000
namespace Gp
open PySem PySem.Spec PyProof.Rows L2 Gh
def frL {α : Type} : List (Addr × Obj) → (List (Addr × Obj) → α) → α
  | [], k => k []
  | (a, o) :: r, k => frL r fun r' => k ((a, o) :: r')
theorem frL_eq {α : Type} : ∀ (l : List (Addr × Obj)) (k : List (Addr × Obj) → α), frL l k = k l
  | [], _ => rfl
  | (a, o) :: r, k => by
    show frL r (fun r' => k ((a, o) :: r')) = _
    rw [frL_eq r]
def obsK (ex : List (PySem.W.Frag → Bool)) (fn : List Df) (tf : List He.Defn) (fs : List Ds) (file : Str) (g : Addr → Option Obj) (K : PySem.W.Frag) : AlS :=
  ((obs ex fn K, He.tabsB g tf K), (fs.all fun d => d.ok file K), fs.map fun d => fnAtS K (d.d.adr K))
def obsL (as : List Addr) (ex : List (PySem.W.Frag → Bool)) (fn : List Df) (tf : List He.Defn) (fs : List Ds) (file : Str) (g : Addr → Option Obj) : AlS := frL (He.frT g as) fun K => obsK ex fn tf fs file g K
theorem saysL_of {as : List Addr} {ex : List (PySem.W.Frag → Bool)} {fn : List Df} {tf : List He.Defn} {h : Heap} (e1 : obs ex fn (He.frT h.get? as) = val fn) (e2 : He.tabsB h.get? tf (He.frT h.get? as) = true) : SaysT ex fn tf h (He.frT h.get? as) := by
  have key : ∀ p ∈ tf, PySem.W.codeHdIn (He.frT h.get? as) (He.cT (He.frT h.get? as) p).1 (He.cT (He.frT h.get? as) p).2 = true ∧ ∃ o, h.get? (He.cT (He.frT h.get? as) p).2 = some o ∧ He.emptyTab o = true := fun p hp => by
    obtain ⟨h3, h4⟩ := He.ba (List.all_eq_true.mp e2 p hp)
    refine ⟨h3, ?_⟩
    cases q : h.get? (He.cT (He.frT h.get? as) p).2 with
    | none =>
      rw [q] at h4
      cases h4
    | some o =>
      rw [q] at h4
      exact ⟨o, rfl, h4⟩
  exact ⟨e1, fun p hp => (key p hp).1, fun p hp => by
    obtain ⟨_, o, q, z⟩ := key p hp
    exact He.frT_none q z, fun p hp => by
    obtain ⟨_, o, q, z⟩ := key p hp
    rw [q, He.emptyTab_eq z]⟩
def hookL (as : List Addr) (ex : List (PySem.W.Frag → Bool)) (fn : List Df) (tf : List He.Defn) (fs : List Ds) (file : Str) : PySem.W.Hook where
  α := AlS
  obs := fun s => obsL as ex fn tf fs file s.heap.get?
  val := fun _ => ((Gh.val fn, true), true, fs.map Ds.val)
  says := fun _ h => ∃ K : PySem.W.Frag, K.In h ∧ SaysS ex fn tf fs file h K
  of := fun _ s e => by
    have e' : obsK ex fn tf fs file _ (He.frT _ as) = ((Gh.val fn, true), true, fs.map Ds.val) := (frL_eq _ _).symm.trans e
    exact ⟨_, He.frT_in, ⟨saysL_of (congrArg (fun z : AlS => z.1.1) e') (congrArg (fun z : AlS => z.1.2) e'), congrArg (fun z : AlS => z.2.1) e', congrArg (fun z : AlS => z.2.2) e'⟩⟩
  keeps := fun _ _ _ ⟨K, hK, c⟩ k => ⟨K, PySem.W.Frag.In.keeps hK k, ⟨⟨c.s.t, c.s.hd, c.s.out, fun p hp => k _ _ (c.s.empty p hp)⟩, c.o, c.v⟩⟩
end Gp
end
section
set_option Elab.async false
set_option linter.all false
set_option maxRecDepth 100000
set_option maxHeartbeats 4000000
namespace Gp
open PySem PySem.Spec PyProof.Rows L2 Gh
section
variable {g : Gw} {Mt U0 U U' : Addr → Prop} {H0 H H' H1 H2 : Hp} {b b1 : Nat} {σ : L2.St} {ε ε' : Env} {E : XK} {W L W' : Type}
variable {env : W → Env} {envL : L → Env} {env' : W' → Env} {u ta tb : TS} {te ti : TE} {me mi : Tr D}
structure Pnd (g : Gw) (Mt U0 : Addr → Prop) (H0 : Hp) (U : Addr → Prop) (σ : L2.St) (H : Hp) (ε : Env) (A : Addr) (ds : List D) : Prop where
  at_ : ∃ vs, H A = some (.lst vs) ∧ vs.length ≤ sizeLine ∧ DenL g U H vs ds
  u : U A
  np : A ≠ g.p
  nc : A ≠ g.c
  n0 : ¬ U0 A
  no : ∀ j, ¬ OwnAt σ ε j A
  mt : Mt A ∨ ∀ o, H0 A = some o → ∃ ps, o = .tbl ps
theorem Pnd.fr {A : Addr} {ds : List D} (uo : UOk g U H) (p : Pnd g Mt U0 H0 U σ H ε A ds) (f : Fr H H' g.p) : Pnd g Mt U0 H0 U σ H' ε A ds := by
  obtain ⟨⟨vs, hA, l, dn⟩, uA, hp, hc, n0, no, mt⟩ := p
  exact ⟨⟨vs, f _ _ hA hp (fun _ z => by cases z), l, dn.fr uo f⟩, uA, hp, hc, n0, no, mt⟩
inductive QR (g : Gw) (Mt U0 : Addr → Prop) (H0 : Hp) (U : Addr → Prop) (σ : L2.St) (H : Hp) (ε : Env) : Nat → List V → List D → Prop
  | here {A : Addr} {ds : List D} {vs : List V} {xs : List D} : Pnd g Mt U0 H0 U σ H ε A ds → DenL g U H vs xs → QR g Mt U0 H0 U σ H ε 0 (.ref A :: vs) (.lst ds :: xs)
  | next {n : Nat} {v : V} {d : D} {vs : List V} {ds : List D} : Den g U H v d → QR g Mt U0 H0 U σ H ε n vs ds → QR g Mt U0 H0 U σ H ε (n + 1) (v :: vs) (d :: ds)
theorem QR.length {n : Nat} : ∀ {vs : List V} {ds : List D}, QR g Mt U0 H0 U σ H ε n vs ds → vs.length = ds.length
  | _, _, .here _ k => congrArg (· + 1) k.length
  | _, _, .next _ r => congrArg (· + 1) r.length
end
end Gp
end
section
set_option Elab.async false
set_option linter.all false
set_option maxRecDepth 100000
set_option maxHeartbeats 4000000
namespace Gp
open PySem PySem.Spec PyProof.Rows L2 Gh
inductive ItH where
  | s (x : Str) | n (i : Int) | f (x : Str)
def ItH.d (fs : Fs) : ItH → Option D
  | .s x => if x.length ≤ sizeLine then some (.str x) else none
  | .n k => some (.int k)
  | .f x => fs.lookup x
section
variable {g : Gw} {U : Addr → Prop} {H H' : Hp} {b : Nat} {σ : L2.St} {ε : Env}
def Fz (ε : Env) : Prop := ∀ s ∈ ε, (∃ d, s = .fz d) ∨ s = .no
theorem Fz.own (h : Fz ε) : ∀ i a, ¬ OwnAt σ ε i a := fun i a ⟨_, z⟩ => by
  rcases z with ⟨x, z⟩ | ⟨x, y, z⟩
  · rcases h _ (List.mem_of_getElem? z) with ⟨d, e⟩ | e <;> cases e
  · rcases h _ (List.mem_of_getElem? z) with ⟨d, e⟩ | e <;> cases e
end
end Gp
end
section
set_option Elab.async false
set_option linter.all false
set_option maxRecDepth 100000
set_option maxHeartbeats 4000000
namespace Gz
open PySem
open Sem (wp)
def pois : GenState → GenState
  | .suspended _ l c p fs cl => .suspended (fun _ => .unsupported "") l c p fs cl
  | x => x
def IsSusp (x : GenState) : Prop := ∃ k l c p fs cl, x = .suspended k l c p fs cl
def Fixd (x : GenState) : Prop := IsSusp x ∨ x = .running
theorem fixd_susp {k : Resume → Sem PySem.Fin} {l : List Value} {c : Code} {p : Pos} {fs : List Frame} {cl : Bool} : Fixd (.suspended k l c p fs cl) := .inl ⟨_, _, _, _, _, _, rfl⟩
abbrev Map := Nat → Option GenState
def rest (ρ : Map) (G : Array GenState) : Array GenState := G.mapIdx fun i x => (ρ i).getD x
structure Held (ρ : Map) (G : Array GenState) : Prop where
  at_ : ∀ i x, ρ i = some x → Fixd x ∧ G[i]? = some (pois x)
  fr : ∀ i k l c p fs cl, ρ i = none → G[i]? = some (.suspended k l c p fs cl) → ∀ g kk ll cc pp, Frame.gen g kk ll cc pp ∈ fs → ρ g = none
theorem rest_size (ρ : Map) (G : Array GenState) : (rest ρ G).size = G.size := by unfold rest; exact Array.size_mapIdx
theorem rest_get (ρ : Map) (G : Array GenState) (i : Nat) : (rest ρ G)[i]? = (G[i]?).map fun x => (ρ i).getD x := by
  unfold rest
  exact Array.getElem?_mapIdx
theorem Held.lt {ρ : Map} {G : Array GenState} (h : Held ρ G) {i : Nat} {x : GenState} (e : ρ i = some x) : i < G.size := by
  obtain ⟨_, q⟩ := h.at_ i x e
  exact (Array.getElem?_eq_some_iff.mp q).1
theorem Held.push {ρ : Map} {G : Array GenState} (h : Held ρ G) (c : Code) : Held ρ (G.push (.fresh c)) ∧ rest ρ (G.push (.fresh c)) = (rest ρ G).push (.fresh c) := by
  have hn : ρ G.size = none := by
    cases e : ρ G.size with
    | none => rfl
    | some x => exact absurd (h.lt e) (Nat.lt_irrefl _)
  refine ⟨⟨fun i x e => ?_, fun i k l c' p fs cl e q => ?_⟩, ?_⟩
  · obtain ⟨a, b⟩ := h.at_ i x e
    refine ⟨a, ?_⟩
    rw [Array.getElem?_push, if_neg (Nat.ne_of_lt (h.lt e))]
    exact b
  · rw [Array.getElem?_push] at q
    split at q
    · cases q
    · exact h.fr i k l c' p fs cl e q
  · apply Array.ext_getElem?
    intro i
    rw [rest_get, Array.getElem?_push, Array.getElem?_push, rest_size]
    by_cases e : i = G.size
    · rw [if_pos e, if_pos e, e, hn]
      rfl
    · rw [if_neg e, if_neg e, rest_get]
abbrev up (ρ : Map) (s : Shared) : Shared := { s with gens := rest ρ s.gens }
theorem Held.run {ρ : Map} {G : Array GenState} (h : Held ρ G) {g : Nat} (e : G[g]? = some .running) : (rest ρ G)[g]? = some .running := by
  rw [rest_get, e]
  cases q : ρ g with
  | none => rfl
  | some y =>
    obtain ⟨hy, b⟩ := h.at_ g y q
    rw [e] at b
    rcases hy with ⟨k, l, c, p, fs, cl, rfl⟩ | rfl
    · cases b
    · rfl
open Classical in
noncomputable def sleepers (G : Array GenState) : Map := fun i => match G[i]? with
  | some x => if Fixd x then some x else none
  | none => none
theorem rest_of (G : Array GenState) : rest (sleepers G) (G.map pois) = G := by
  apply Array.ext_getElem?
  intro i
  rw [rest_get, Array.getElem?_map]
  cases hy : G[i]? with
  | none => rfl
  | some y =>
    show some ((sleepers G i).getD (pois y)) = some y
    congr 1
    unfold sleepers
    rw [hy]
    dsimp only
    by_cases hs : Fixd y
    · rw [if_pos hs]; rfl
    · rw [if_neg hs]
      cases y with
      | suspended k l c p fs cl => exact absurd fixd_susp hs
      | _ => rfl
def Sleep (s s1 : Shared) : Prop := ∀ (i : Nat) (x : GenState), Fixd x → s.gens[i]? = some x → s1.gens[i]? = some x
theorem Sleep.refl {s : Shared} : Sleep s s := fun _ _ _ h => h
theorem Sleep.trans {a b c : Shared} (h : Sleep a b) (k : Sleep b c) : Sleep a c := fun i x hx e => k i x hx (h i x hx e)
end Gz
end
section
set_option Elab.async false
set_option linter.all false
set_option maxRecDepth 100000
set_option maxHeartbeats 4000000
namespace Gz
open PySem PySem.Spec PyProof.Rows L2 GenW Gh
variable {X : Cx}
def cut (h : Heap) (n : Nat) : Heap := { h with objs := h.objs.extract 0 n }
abbrev cutS (s : Shared) (n : Nat) : Shared := { s with heap := cut s.heap n }
abbrev reb (X : Cx) (s0 : Shared) (H0 : Hp) : Cx := { X with s_0 := s0, H_0 := H0, xe := fun _ _ => False }
structure Pro (T : Type) where
  hp : T → Hp
  src : T → Shared → Shared
  out : Nat → T → V → Hp → Prop
  lk : Nat → T → Hp → T → Prop
  fin : Nat → T → Hp → Prop
structure QE (T : Type) where
  nx : Nat → T → L2.St → Hp → Prop
  rt : Nat → T → V → Hp → Prop
  bk : Nat → T → L2.St → Hp → Prop := fun _ _ _ _ => False
  ct : Nat → T → L2.St → Hp → Prop := fun _ _ _ _ => False
def QE.at {T : Type} (D : QE T) (n : Nat) (γ : T) : Ends := { nx := D.nx n γ, rt := D.rt n γ, bk := D.bk n γ, ct := D.ct n γ }
structure QI {T : Type} (X : Cx) (g n0 : Nat) (P : Pro T) (ip : List (Addr × Obj)) (γ : T) (s₀ : Shared) (σ : L2.St) (H : Hp) (s : Shared) : Prop where
  inv : Inv (reb X (cutS (P.src γ s₀) n0) (P.hp γ)) ip σ H s
  run : s.gens[g]? = some .running
  sz : n0 ≤ (P.src γ s₀).heap.objs.size
  ips : ∀ p ∈ ip, n0 ≤ p.1
def QR {T : Type} (X : Cx) (g n0 : Nat) (P : Pro T) (C : Nat → T → Shared → Prop) (N : Nat) (Er : Value → Shared → Prop) : GenEnd := fun n s₀ r s1 =>
  ((r = .ok (.ret .none) ∨ r = .ok .next) ∧ ∃ γ σ ip H, C n γ s₀ ∧ QI X g n0 P ip γ s₀ σ H s1 ∧ P.fin n γ H) ∨ ∃ e, r = .error e ∧ (n = N ∧ Er e s1)
section
variable {T : Type} {st : Stmt} {rest : List Stmt} {pos : Pos}
end
end Gz
end
section
set_option Elab.async false
set_option linter.all false
set_option maxRecDepth 100000
set_option maxHeartbeats 4000000
namespace Gp
open PySem PySem.Spec PyProof.Rows L2 Gh Gz
section
variable {W W' L : Type}
end
section
variable {g : Gw} {T : Type} {P : Pro T} {all : List D} {N : Nat} {W W' L : Type}
end
theorem Ev.sup {U U1 U' : Addr → Prop} {H H' : Hp} (h : Ev U H U' H') (s : ∀ a, U a → U1 a) : Ev U1 H U' H' := ⟨fun a o e n t => h.keep a o e (fun z => n (s a z)) t, fun a o e n t => h.out a o e (fun z => n (s a z)) t⟩
section
variable {g : Gw} {W W' L : Type} {ε : Env} {env : W → Env} {envL : L → Env} {env' : W' → Env} {u ta tb : TQA} {te : TE} {me : Tr D}
end
end Gp
end
section
set_option Elab.async false
set_option linter.all false
set_option maxRecDepth 100000
set_option maxHeartbeats 0
namespace Lw
open PySem PySem.Spec PyProof.Rows L2 Gh Gp
def top (i : Nat) : Stmt := PySem.Challenge.pw_everyhunt_k05_rests_and_lengths.main.body.getD i (.Pass ⟨0, 0, 0, 0⟩)
abbrev s_BadLength___init__ : Stmt := inClass (top 2) 0
def d_BadLength___init__ : Df := ⟨md "BadLength" "__init__", "__init__", "BadLength.__init__", s_BadLength___init__, []⟩
abbrev s_BadRest___init__ : Stmt := inClass (top 3) 0
def d_BadRest___init__ : Df := ⟨md "BadRest" "__init__", "__init__", "BadRest.__init__", s_BadRest___init__, []⟩
abbrev s_BadNumber___init__ : Stmt := inClass (top 4) 0
def d_BadNumber___init__ : Df := ⟨md "BadNumber" "__init__", "__init__", "BadNumber.__init__", s_BadNumber___init__, []⟩
abbrev s__law_pen : Stmt := top 19
def d__law_pen : Df := ⟨gd "_law_pen", "_law_pen", "_law_pen", s__law_pen, []⟩
abbrev s__law_draw : Stmt := top 20
def d__law_draw : Df := ⟨gd "_law_draw", "_law_draw", "_law_draw", s__law_draw, []⟩
abbrev s_is_integer : Stmt := top 7
def d_is_integer : Df := ⟨gd "is_integer", "is_integer", "is_integer", s_is_integer, []⟩
abbrev s_is_within : Stmt := top 8
def d_is_within : Df := ⟨gd "is_within", "is_within", "is_within", s_is_within, []⟩
abbrev s_is_length : Stmt := top 9
def d_is_length : Df := ⟨gd "is_length", "is_length", "is_length", s_is_length, []⟩
abbrev s_is_rest : Stmt := top 10
def d_is_rest : Df := ⟨gd "is_rest", "is_rest", "is_rest", s_is_rest, []⟩
abbrev s_need_length : Stmt := top 11
def d_need_length : Df := ⟨gd "need_length", "need_length", "need_length", s_need_length, []⟩
abbrev s_need_rest : Stmt := top 12
def d_need_rest : Df := ⟨gd "need_rest", "need_rest", "need_rest", s_need_rest, []⟩
abbrev s_rest_of : Stmt := top 15
def d_rest_of : Df := ⟨gd "rest_of", "rest_of", "rest_of", s_rest_of, []⟩
abbrev s_first_of : Stmt := top 16
def d_first_of : Df := ⟨gd "first_of", "first_of", "first_of", s_first_of, []⟩
abbrev s_lengths_of : Stmt := top 17
def d_lengths_of : Df := ⟨gd "lengths_of", "lengths_of", "lengths_of", s_lengths_of, [.int 1]⟩
abbrev s__law_pick : Stmt := top 21
def d__law_pick : Df := ⟨gd "_law_pick", "_law_pick", "_law_pick", s__law_pick, []⟩
abbrev s__law_first : Stmt := top 22
def d__law_first : Df := ⟨gd "_law_first", "_law_first", "_law_first", s__law_first, []⟩
abbrev s__law_heard : Stmt := top 23
def d__law_heard : Df := ⟨gd "_law_heard", "_law_heard", "_law_heard", s__law_heard, []⟩
abbrev s__law_plain : Stmt := top 24
def d__law_plain : Df := ⟨gd "_law_plain", "_law_plain", "_law_plain", s__law_plain, []⟩
abbrev s_law : Stmt := top 25
def d_law : Df := ⟨gd "law", "law", "law", s_law, []⟩
def fns : List Df := [d_BadLength___init__, d_BadRest___init__, d_BadNumber___init__, d__law_pen, d__law_draw, d_is_integer, d_is_within, d_is_length, d_is_rest, d_need_length, d_need_rest, d_rest_of, d_first_of, d_lengths_of, d__law_pick, d__law_first, d__law_heard, d__law_plain, d_law]
def sds : List Gp.Ds := []
def pfile : Str := PySem.Challenge.pw_everyhunt_k05_rests_and_lengths.main.file
def exs : List (PySem.W.Frag → Bool) := [fa (.free "abs"), fa (.free "bool"), fa (.free "int"), fa (.free "isinstance"), fa (.free "len"), fa (.free "list"), fa (.free "range"), fa (.free "repr"), fa (.glo "_law_pen"), fa (.keep "_law_pen"), fa (.glo "_law_draw"), fa (.keep "_law_draw"), fa (.glo "is_integer"), fa (.keep "is_integer"), fa (.glo "is_within"), fa (.keep "is_within"), fa (.glo "is_length"), fa (.keep "is_length"), fa (.glo "is_rest"), fa (.keep "is_rest"), fa (.glo "need_length"), fa (.keep "need_length"), fa (.glo "need_rest"), fa (.keep "need_rest"), fa (.glo "rest_of"), fa (.keep "rest_of"), fa (.glo "first_of"), fa (.keep "first_of"), fa (.glo "lengths_of"), fa (.keep "lengths_of"),
  fa (.glo "_law_pick"), fa (.keep "_law_pick"), fa (.glo "_law_first"), fa (.keep "_law_first"), fa (.glo "_law_heard"), fa (.keep "_law_heard"), fa (.glo "_law_plain"), fa (.keep "_law_plain"), fa (.glo "BadLength"), fa (.keep "BadLength"), fa (.glo "BadRest"), fa (.keep "BadRest"), fa (.glo "BadNumber"), fa (.keep "BadNumber"), fa (.glo "HuntError"), fa (.keep "HuntError"), fa (.int "CLASSES" 4), fa (.int "GREATEST_LENGTH" 10000000000000000000000000000000000000000), fa (.noat "BadLength" "value"), errB "BadLength", oexB "BadLength", iniB "BadLength", (fun K => decide (PySem.W.exmOne K (.ref (gd "BadLength" K)) (.ref (gd "HuntError" K)) = some true)), fa (.noat "BadRest" "value"), errB "BadRest", oexB "BadRest", iniB "BadRest", (fun K => decide (PySem.W.exmOne K (.ref (gd "BadRest" K)) (.ref (gd "HuntError" K)) = some true)), fa (.noat "BadNumber" "value"), errB "BadNumber",
  oexB "BadNumber", iniB "BadNumber", (fun K => decide (PySem.W.exmOne K (.ref (gd "BadNumber" K)) (.ref (gd "HuntError" K)) = some true)), (fun K => decide (PySem.W.subIn K (.ref (gd "BadNumber" K)) (.type "StopIteration") = some false)), (fun K => decide (PySem.W.subIn K (.ref (gd "BadRest" K)) (.type "StopIteration") = some false)), (fun K => decide (PySem.W.kitOne K (.ref (gd "BadLength" K)) (.ref (gd "BadLength" K)) = some true)), (fun K => decide (PySem.W.kitOne K (.ref (gd "BadRest" K)) (.ref (gd "BadLength" K)) = some false)), (fun K => decide (PySem.W.kitOne K (.ref (gd "BadNumber" K)) (.ref (gd "BadLength" K)) = some false)), (fun K => decide (PySem.W.kitOne K (.ref (gd "BadLength" K)) (.ref (gd "BadRest" K)) = some false)), (fun K => decide (PySem.W.kitOne K (.ref (gd "BadRest" K)) (.ref (gd "BadRest" K)) = some true)), (fun K => decide (PySem.W.kitOne K (.ref (gd "BadNumber" K)) (.ref (gd "BadRest" K)) = some false)), (fun K => decide (PySem.W.kitOne K (.ref (gd "BadLength" K)) (.ref (gd "BadNumber" K)) = some false)), (fun K => decide (PySem.W.kitOne K (.ref (gd "BadRest" K)) (.ref (gd "BadNumber" K)) = some false)), (fun K => decide (PySem.W.kitOne K (.ref (gd "BadNumber" K)) (.ref (gd "BadNumber" K)) = some true)), fa (.glo "law")]
def loose0 : List Str := ["__name__", "HuntError", "BadLength", "BadRest", "BadNumber", "GREATEST_LENGTH", "is_integer", "is_within", "is_length", "is_rest", "need_length", "need_rest"]
def loose1 : List Str := ["CLASSES", "rest_of", "first_of", "lengths_of", "_law_pen", "_law_draw", "_law_pick", "_law_first", "_law_heard", "_law_plain"]
def loose : List Str := loose0 ++ loose1
abbrev R : PySem.W.OpenRow := PySem.W.OpenLaw.row PySem.Challenge.rw_everyhunt_k05_rests_and_lengths
def tfs : List He.Defn := [("law", none)]
def adrs : List Addr := [3, 24, 44, 63, 82, 91, 98, 105, 112, 119, 126, 133, 140, 148, 155, 162, 169, 176, 183, 190, 195, 23, 43, 62, 81, 90, 97, 104, 111, 118, 125, 132, 139, 147, 141, 154, 161, 168, 175, 182, 189, 194, 41, 60, 79, 40, 59, 78]
abbrev hk : PySem.W.Hook := Gp.hookL adrs exs fns tfs sds pfile
def ob (s : PySem.W.SharedT) : Gp.AlS := Gp.obsL adrs exs fns tfs sds pfile (HandSHeadRun.getT s)
theorem run (w : World) : HandSHeadRun.RunEq R (PySem.W.view R.prog [25]) hk ob 20000 loose w := by
  intro os
  kernel_rfl
section
variable {K : PySem.W.Frag} {mg : Str → Option Value} {Tb : List (Addr × Str)} {p c : Addr}
end
end Lw
end
section
set_option Elab.async false
set_option linter.all false
set_option maxRecDepth 100000
namespace Gh
open PySem PySem.Spec PyProof.Rows L2
abbrev FnA (K : PySem.W.Frag) (d : Df) (fd : FuncData) : Prop := FunD K d.name d.qual (defArgs d.st) (defBody d.st) (defScope d.st) (d.dvs K) [] (d.adr K) fd
theorem Df.funD {K : PySem.W.Frag} {d : Df} (e : fnAt K (d.adr K) = d.val) (c : d.ok K = true) : ∃ fd, FnA K d fd := by
  obtain ⟨kp, c2⟩ := He.ba c
  unfold fnAt at e
  cases q : K.lookup (d.adr K) with
  | none =>
    rw [q] at c2
    cases c2
  | some o =>
    obtain ⟨oc, od, dt, osl⟩ := o
    rw [q] at c2 e
    cases dt with
    | func fd =>
      obtain ⟨n1, n2, n3, n4, n5, n6, n7, n8, n9, n10, n11, n12, n13, n14, n15⟩ := fd
      have e2 : (some (n1, n2, n3, n4, n5, n6, n7, n15) : He.FnW) = some (d.name, d.qual, defArgs d.st, .stmts (defBody d.st), defScope d.st, mainGlobals, [], builtinsNs) := e
      simp only [Option.some.injEq, Prod.mk.injEq] at e2
      obtain ⟨h1, h2, h3, h4, h5, h6, h7, h8⟩ := e2
      subst h1 h2 h3 h4 h5 h6 h7 h8
      have c3 : (PySem.W.codeIn K n13 d.qual && (He.dflB K n8 (d.dvs K) && He.kwdB K n9 [])) = true := c2
      obtain ⟨k1, k2⟩ := He.ba c3
      obtain ⟨k3, k4⟩ := He.ba k2
      exact ⟨_, ⟨oc, od, n8, n9, n10, n11, n12, n13, n14, osl, rfl, q, k1, He.dflB_ok k3, He.kwdB_ok k4⟩, kp⟩
    | _ => cases c2
theorem Says.fact {ex : List (PySem.W.Frag → Bool)} {fn : List Df} {K : PySem.W.Frag} (c : Says ex fn K) (i : Nat) {f : PySem.W.Frag → Bool} (h : ex[i]? = some f := by rfl) : f K = true := by
  have c1 := (He.ba (show ((ex.all fun f => f K) && fn.all fun d => d.ok K) = true from congrArg (fun z : Al => z.1) c)).1
  exact List.all_eq_true.mp c1 f (List.mem_of_getElem? h)
theorem Says.def_ {ex : List (PySem.W.Frag → Bool)} {fn : List Df} {K : PySem.W.Frag} (c : Says ex fn K) (i : Nat) {d : Df} (h : fn[i]? = some d := by rfl) : ∃ fd, FnA K d fd := by
  have c2 := (He.ba (show ((ex.all fun f => f K) && fn.all fun d => d.ok K) = true from congrArg (fun z : Al => z.1) c)).2
  have e : fn.map (fun d => fnAt K (d.adr K)) = fn.map Df.val := congrArg (fun z : Al => z.2) c
  have e2 : (fn.map fun d => fnAt K (d.adr K))[i]? = (fn.map Df.val)[i]? := by rw [e]
  rw [List.getElem?_map, List.getElem?_map, h] at e2
  exact Df.funD (Option.some.inj e2) (List.all_eq_true.mp c2 d (List.mem_of_getElem? h))
theorem pe_gi {X : Cx} {x : Str} {i : Int} {pos : Pos} (h : ∃ t, X.mg x = some (.int i t)) (hg : Gl X x) (hd : (x == ("__debug__" : Str)) = false := by decide) : PE X (.Name x pos) (tC (.int i)) := by
  obtain ⟨t, e⟩ := h
  exact pe_glob hg e ⟨t, rfl⟩ hd
end Gh
end
section
set_option Elab.async false
set_option linter.all false
set_option maxRecDepth 100000
set_option maxHeartbeats 4000000
namespace Gh
open PySem PySem.Spec PyProof.Rows L2
section
variable {P : Program} {w : World} {K : PySem.W.Frag} {mg : Str → Option Value} {base : Heap} {CX : CXT} {j k : Nat} {f : Addr} {fd : FuncData} {ps : List Str} {sp : Sp} {dvs : List V}
end
section
variable {X : Cx} {CX : CXT} {k : Nat} {f g C : Addr} {sp : Sp} {dvs : List V} {E : XK} {x m : Str} {p pos apos : Pos} {e o : Expr} {es : List Expr} {ta tb : TE} {t : TA} {r : List V → Hp → VK → Prop}
def tCl (r : List V → Hp → VK → Prop) (t : TA) : TE := fun σ H Q => t σ H fun vs H1 => r vs H1 Q
theorem pe_g (R : CallR X (.ref f) r) (hg : Gl X x) (hm : X.mg x = some (.ref f)) (hk : PySem.W.keepIn X.K (.ref f) = true)
    (ha : PA X (e :: es) t) (hdb : (x == ("__debug__" : Str)) = false := by decide) (he : starEach (e :: es) X.env = (false, eval e X.env) :: starEach es X.env := by rfl) (hpl : (backTo pos (starEach es X.env)).any (·.1) = false := by rfl) :
    PE X (.Call (.Name x p) (e :: es) [] pos) (tCl r t) := by
  refine ⟨fun pins s σ H Q I h => ?_⟩
  refine wpAny_Call_Name_kw (ld_glob I hg hm ?_ hdb)
  refine PySem.W.callWith_K (h₀ := X.base) I.ok.mod.kin hk (thn (ha.run pos pins s σ H _ I h) fun us s1 ⟨vs, H1, I1, r, q⟩ => ⟨I1.kIn, ?_⟩) he hpl
  exact R pins s1 σ H1 vs us Q I1 r q
theorem pe_g0 (R : CallR X (.ref f) r) (hg : Gl X x) (hm : X.mg x = some (.ref f)) (hk : PySem.W.keepIn X.K (.ref f) = true) (hdb : (x == ("__debug__" : Str)) = false := by decide) : PE X (.Call (.Name x p) [] [] pos) (tCl r tNil) := by
  refine ⟨fun pins s σ H Q I h => ?_⟩
  refine wpAny_Call_Name_kw (ld_glob I hg hm ?_ hdb)
  exact PySem.W.callWith_K0 I.kIn hk (R pins s σ H [] [] Q I .nil h)
def tMt (C : Addr) (m : Str) (r : List V → Hp → VK → Prop) (ta : TE) (t : TA) : TE := fun σ H Q => ta σ H fun x H1 => ∃ a dx fs, x = .ref a ∧ H1 a = some (.ins C dx fs) ∧ fs.lookup m = none ∧ t σ H1 fun vs H2 => r (x :: vs) H2 Q
def tPr (C : Addr) (sp : Sp) (dvs : List V) (E : XK) (ta : TE) : TE := fun σ H Q => ta σ H fun x H1 => ∃ a dx fs, x = .ref a ∧ H1 a = some (.ins C dx fs) ∧ sp (.ref a :: dvs) H1 Q E
end
end Gh
end
section
set_option Elab.async false
set_option linter.all false
set_option maxRecDepth 100000
set_option maxHeartbeats 4000000
namespace Gh
open PySem PySem.Spec PyProof.Rows L2
theorem Keep.new {H H' : Hp} {p q : Addr} {o : HO} (h : Keep H H' p) (n : H' q = none) : Keep H (upd H' q o) p := fun a u e ne => by
  rw [upd_ne (ne_of_none (h a u e ne) n)]
  exact h a u e ne
theorem Keep.put {H H' : Hp} {p : Addr} {o : HO} (h : Keep H H' p) : Keep H (upd H' p o) p := fun a u e ne => by
  rw [upd_ne ne]
  exact h a u e ne
theorem PenAt.le {H : Hp} {p : Addr} {a b : Nat} (h : PenAt H p b) (k : a ≤ b) : PenAt H p a := by
  obtain ⟨c, ns, i, z, h1, h2, h3, h4, h5, h6⟩ := h
  exact ⟨c, ns, i, z, h1, h2, h3, h4, by omega, h6⟩
theorem PenAt.new {H : Hp} {p q : Addr} {b : Nat} {o : HO} (h : PenAt H p b) (n : H q = none) : PenAt (upd H q o) p b := by
  obtain ⟨c, ns, i, z, h1, h2, h3⟩ := h
  exact ⟨c, ns, i, z, by rw [upd_ne (ne_of_none h1 n)]; exact h1, by rw [upd_ne (ne_of_none h2 n)]; exact h2, h3⟩
theorem dp_ints (K : PySem.W.Frag) (H : Hp) : ∀ ns : List Int, DpAll K H (ns.map V.int) (ns.map PyData.int)
  | [] => .nil
  | n :: r => .cons (.int n) (dp_ints K H r)
theorem eqv_nil (ds : List PyData) : PyData.eqv (.list ds) (.list []) = ds.isEmpty := by
  cases ds <;> rfl
theorem same_new {H : Hp} {q : Addr} {o : HO} (n : H q = none) : L2.Same H (upd H q o) := fun a u e => by
  rw [upd_ne (ne_of_none e n)]
  exact e
theorem atI_int {ns : List Int} {i : Int} (h0 : 0 ≤ i) (h1 : i < ns.length) : ∃ v, atI (ns.map V.int) i = some (.int v) ∧ v ∈ ns := by
  obtain ⟨j, rfl⟩ : ∃ j : Nat, i = j := ⟨i.toNat, by omega⟩
  have hl : j < ns.length := by omega
  refine ⟨ns[j], atI_nat ?_, List.getElem_mem hl⟩
  rw [List.getElem?_map, List.getElem?_eq_getElem hl]
  rfl
theorem pow_lt {i : Int} (h0 : 0 ≤ i) (h1 : i < 18446744073709551616) : i.natAbs < 2 ^ 64 := by
  have e : (2 : Nat) ^ 64 = 18446744073709551616 := by decide
  rw [e]
  omega
theorem mix_ok {x i a b c : Int} (h0 : 0 ≤ x) (h1 : x < 4294967296) (h2 : 0 ≤ i) (h3 : i ≤ 1000000) (ha : 0 ≤ a ∧ a ≤ 1000000) (hb : 0 ≤ b ∧ b ≤ 1000000) (hc : 0 ≤ c ∧ c ≤ 1000000) : (x * (2 * i + a) + b * i * i + c).natAbs < 2 ^ 64 := by
  have hii : 0 ≤ i * i ∧ i * i ≤ 1000000 * 1000000 := ⟨Int.mul_nonneg h2 h2, Int.mul_le_mul h3 h3 h2 (by decide)⟩
  have hxi : 0 ≤ x * (2 * i + a) ∧ x * (2 * i + a) ≤ 4294967296 * 4000000 := ⟨Int.mul_nonneg h0 (by omega), Int.mul_le_mul (by omega) (by omega) (by omega) (by decide)⟩
  have hbi : 0 ≤ b * (i * i) ∧ b * (i * i) ≤ 1000000 * (1000000 * 1000000) := ⟨Int.mul_nonneg hb.1 hii.1, Int.mul_le_mul hb.2 hii.2 hii.1 (by decide)⟩
  have e : b * i * i = b * (i * i) := Int.mul_assoc _ _ _
  refine pow_lt ?_ ?_ <;> (rw [e]; omega)
theorem mod_lt (x : Int) {m : Int} (h : 0 < m) : 0 ≤ x % m ∧ x % m < m := ⟨Int.emod_nonneg _ (by omega), Int.emod_lt_of_pos _ h⟩
theorem cut_all {xs : List V} {n : Nat} (h : xs.length ≤ n) : cutV xs none (some (n : Int)) = xs := by
  unfold cutV
  rw [HT.sIx_none, HT.sIx_nat, Nat.min_eq_right h, List.drop_zero, Nat.sub_zero]
  exact List.take_length
abbrev rInt1 : List V → Hp → VK → Prop := fun xs H Q => (∃ i, xs = [V.int i] ∧ Q (V.int i) H) ∨ ∃ k, xs = [V.bl k] ∧ Q (V.int (if k = true then 1 else 0)) H
def tCut (t u : TS) : TS := fun D σ H => ∃ M : L2.St → Hp → Prop, t { D with nx := M } σ H ∧ ∀ σ' H', M σ' H' → u D σ' H'
theorem pss_cut {X : Cx} {st : Stmt} {rest : List Stmt} {t u : TS} (h1 : PS X st t) (h2 : PSs X rest u) : PSs X (st :: rest) (tCut t u) := by
  refine ⟨fun pins s σ H D I h => ?_⟩
  obtain ⟨M, hm, hu⟩ := h
  refine wpAny_execs_cons (thn (h1.run pins s σ H { D with nx := M } I hm) fun f s1 q => ?_)
  cases f with
  | next =>
    obtain ⟨σ1, H1, I1, q1⟩ := q
    exact h2.run pins s1 σ1 H1 D I1 (hu σ1 H1 q1)
  | ret v => exact q
  | brk => exact q
  | cont => exact q
end Gh
end
section
set_option Elab.async false
set_option linter.all false
set_option maxRecDepth 100000
set_option maxHeartbeats 4000000
namespace Gh
open PySem PySem.Spec PyProof.Rows L2
theorem PenAt.ne {H : Hp} {p c : Addr} {b : Nat} (h : PenAt H p b) (n : H c = none) : c ≠ p := by
  obtain ⟨d, ns, i, z, h1, _⟩ := h
  exact (ne_of_none h1 n).symm
section
variable {X : Cx} {K : PySem.W.Frag}
theorem ix_listK (h : X.K = K) : IxR X (rIxL K) := h ▸ ix_list
end
end Gh
end
section
set_option Elab.async false
set_option linter.all false
set_option maxRecDepth 100000
set_option maxHeartbeats 4000000
namespace Gh
open PySem PySem.Spec PyProof.Rows L2
theorem exk_ok {P : Program} {w : World} {H : Hp} {h : Heap} {a C d : Addr} {o : Obj} {vs : Array Value} (h1 : h.get? a = some o) (h2 : o.cls = .ref C) (h3 : o.dict = some d) (h4 : o.data = .fields vs) : ObjOk P w H h a (exk a C d) :=
  ⟨⟨o, vs, h1, h2, h3, h4⟩, ⟨o, h1⟩, fun _ _ z k => by
    obtain ⟨o, vs, h1, h2, h3, h4⟩ := z
    exact ⟨o, vs, k _ h1, h2, h3, h4⟩⟩
theorem exk_at {P : Program} {w : World} {H : Hp} {h : Heap} {a C d : Addr} (hok : HOk P w H h) (e : H a = some (exk a C d)) : ∃ (o : Obj) (vs : Array Value), h.get? a = some o ∧ o.cls = .ref C ∧ o.dict = some d ∧ o.data = .fields vs :=
  (show ObjOk P w H h a (exk a C d) from hok a _ e).1
structure ErrT (K : PySem.W.Frag) (C : Addr) : Prop where
  hg : PySem.W.findIn K (.ref C) "__getattribute__" = some (some (.builtin "BaseException.__getattribute__"))
  hk : PySem.W.findIn K (.ref C) "__getattr__" = some none
  hs : PySem.W.subIn K (.ref C) (.type "BaseException") = some true
  hd : PySem.W.hasDictIn K C = true
  ha : PySem.W.findIn K (.ref C) "__class__" = some (some (.builtin "object.__class__"))
  hn : PySem.W.specialIn K (.builtin "object.__class__") "__get__" = some (some (.builtin "getset_descriptor.__get__"))
  htk : PySem.W.takesIn K (.builtin "object.__class__") = some true
  hm : PySem.W.mroIn K C (.type "object") = some true
theorem errB_ok {x : Str} {K : PySem.W.Frag} (h : errB x K = true) : ErrT K (gd x K) := by
  obtain ⟨h1, h⟩ := He.ba h
  obtain ⟨h2, h⟩ := He.ba h
  obtain ⟨h3, h⟩ := He.ba h
  obtain ⟨h4, h⟩ := He.ba h
  obtain ⟨h5, h⟩ := He.ba h
  obtain ⟨h6, h⟩ := He.ba h
  obtain ⟨h7, h8⟩ := He.ba h
  exact ⟨He.eqO_ok h1, He.eqO_ok h2, of_decide_eq_true h3, h4, He.eqO_ok h5, He.eqO_ok h6, of_decide_eq_true h7, of_decide_eq_true h8⟩
section
variable {X : Cx} {e : Expr} {te : TE} {pos : Pos} {n : Str}
theorem exk_inst {pins : List (Addr × Obj)} {σ : L2.St} {H : Hp} {s : Shared} {a C d : Addr} {fs : List (Str × V)} (I : Inv X pins σ H s) (h1 : H a = some (exk a C d)) (h2 : H d = some (.xd fs)) :
    ∃ o od mA, PySem.W.InstAt s.heap a o C (some od) ∧ s.heap.Ns1 d mA ∧ (∀ f, RelO (fs.lookup f) (mA f)) ∧ s.heap.get? d = some od := by
  obtain ⟨o, vs, k1, k2, k3, k4⟩ := exk_at I.hok h1
  obtain ⟨mA, hns, hr⟩ := (show ObjOk X.prog X.w H s.heap d (.xd fs) from I.hok d _ h2)
  obtain ⟨od, ho, hl⟩ := lookIn_ns hns
  exact ⟨o, od, mA, ⟨k1, k2, by unfold PySem.W.notCls; rw [k4] <;> rfl, by rw [k3]; exact ho⟩, hns, hr, ho⟩
def tXa (K : PySem.W.Frag) (n : Str) (te : TE) : TE := fun σ H Q => te σ H fun x H1 => ∃ (a C d : Addr) (fs : List (Str × V)) (v : V), x = .ref a ∧ H1 a = some (exk a C d) ∧ ErrT K C ∧ PySem.W.findIn K (.ref C) n = some none ∧ H1 d = some (.xd fs) ∧ fs.lookup n = some v ∧ Q v H1
theorem pe_xa {K : PySem.W.Frag} (hK : X.K = K) (he : PE X e te) (hb : attributeBase e n X.env (eval e X.env) = eval e X.env := by rfl) : PE X (.Attribute e n pos) (tXa K n te) := by
  subst hK
  refine ⟨fun pins s σ H Q I h => ?_⟩
  refine attr_of hb (thn (he.run pins s σ H _ I h) fun u s1 hh => ?_)
  obtain ⟨x, H1, I1, rx, a, C, d, fs, v, ex, ea, T, hno, ed, l, q⟩ := hh
  subst ex
  obtain rfl : u = Value.ref a := rx
  obtain ⟨o, vs, k1, k2, k3, k4⟩ := exk_at I1.hok ea
  obtain ⟨mA, hns, hr⟩ := (show ObjOk X.prog X.w H1 s1.heap d (.xd fs) from I1.hok d _ ed)
  obtain ⟨od, ho, hl⟩ := lookIn_ns hns
  obtain ⟨u, hu, ru⟩ := RelO.some_of (v := v) (o := mA n) (by rw [← l]; exact hr n)
  have J : PySem.W.InstAt s1.heap a o C (some od) := ⟨k1, k2, by unfold PySem.W.notCls; rw [k4] <;> rfl, by rw [k3]; exact ho⟩
  exact HandSPX.exc_get I1.kIn J T.hg T.hk T.hs (PySem.W.findObj_own T.hd hno rfl (by rw [hl, hu])) (handed_of ru) ⟨v, H1, I1.tok _, ru, q⟩
def rIsiZ (K : PySem.W.Frag) : List V → Hp → VK → Prop := fun xs H Q => rIsi K xs H Q ∨ ∃ (a C d : Addr) (fs : List (Str × V)) (c : V) (u : Value) (b : Bool), xs = [.ref a, c] ∧ ClsV c u ∧ H a = some (exk a C d) ∧ H d = some (.xd fs) ∧ ErrT K C ∧ PySem.W.kitOne K (.ref C) u = some b ∧ Q (.bl b) H
theorem call_isiZ {K : PySem.W.Frag} (hK : X.K = K) : CallR X (.builtin "isinstance") (rIsiZ K) := by
  subst hK
  intro pins s σ H xs us Q I r h
  rcases h with h | ⟨a, C, d, fs, c, u, b, rfl, k, ea, ed, T, e, q⟩
  · exact call_isi pins s σ H xs us Q I r h
  · obtain ⟨u1, u2, rfl, r1, r2⟩ := vals2 r
    obtain rfl : u1 = Value.ref a := r1
    have e2 := k.eq r2
    subst e2
    obtain ⟨o, od, mA, J, _⟩ := exk_inst I ea ed
    have hcl : (PySem.W.clsIn X.K C).isSome = true := by
      obtain ⟨cd, hc, _⟩ := PySem.W.any_some T.hd
      rw [hc]
      rfl
    exact PySem.W.kia_one (PySem.W.kitx_exc hcl T.hg T.hk T.hs T.ha T.hn T.htk T.hm) I.kIn J e (fun z => nomatch z) fun tk => ⟨.bl b, H, I.tok tk, rfl, q⟩
end
theorem inv_track {X : Cx} {pins : List (Addr × Obj)} {σ : L2.St} {H : Hp} {s : Shared} {a : Addr} {o : HO} (I : Inv X pins σ H s) (hn : H a = none) (n0 : X.s_0.heap.get? a = none) (nL : a ≠ X.env.locals) (nC : ∀ x c, X.env.cells.lookup x = some c → c ≠ a) (nP : ∀ p ∈ X.pn ++ pins, p.1 ≠ a)
    (ok : ObjOk X.prog X.w (upd H a o) s.heap a o) : Inv X pins σ (upd H a o) s := by
  have ne : ∀ {b : Addr} {u : HO}, H b = some u → b ≠ a := fun e => ne_of_none e hn
  refine ⟨I.ok, I.os, I.bare, ⟨I.base.keep, I.base.slot, fun b u e n hx => ?_, I.base.there, fun b xs e => ?_, fun b u v e => ?_, fun b ps e => ?_⟩, I.loc, I.cell, ?_, fun x c e => ?_, fun p hp => ?_, fun b u e => ?_, I.len⟩
  · rw [upd_ne (fun z => by rw [z, n0] at e; cases e)]
    exact I.base.free b u e n hx
  · have z := I.base.tups b xs e
    rw [upd_ne (ne z)]
    exact z
  · have z := I.base.frzs b u v e
    rw [upd_ne (ne z)]
    exact z
  · obtain ⟨more, z⟩ := I.base.tbls b ps e
    exact ⟨more, by rw [upd_ne (ne z)]; exact z⟩
  · rw [upd_ne nL.symm]
    exact I.free
  · rw [upd_ne (nC x c e)]
    exact I.freeC x c e
  · obtain ⟨z1, z2, z3⟩ := I.pin p hp
    exact ⟨z1, by rw [upd_ne (nP p hp)]; exact z2, z3⟩
  · by_cases hb : b = a
    · subst hb
      rw [upd_same] at e
      cases e
      exact ok
    · rw [upd_ne hb] at e
      exact (I.hok b u e).stay (fun _ _ _ q => q) (fun c hc => by rw [upd_ne (ne hc)]; exact hc) (fun c xs hc => by rw [upd_ne (ne hc)]; exact hc)
def wAsK (K : PySem.W.Frag) (c : Value) (i : Nat) (ts : Addr → Value → Option Addr → TS) (Wout : WX) (D : Ends) : WX := fun cls d σ H =>
  ∃ b, PySem.W.exmOne K cls c = some b ∧ (b = true → ∃ C dd, cls = .ref C ∧ d = some dd ∧ ∀ a, H a = none → ts a cls d { nx := fun σ' H' => H' a = none → D.nx (σ'.set i none) (upd H' a (exk a C dd)), rt := D.rt, bk := fun σ' H' => D.bk (σ'.set i none) H', ct := fun σ' H' => D.ct (σ'.set i none) H' } (σ.set i (some (.ref a))) H) ∧
    (b = false → Wout cls d σ H)
section
variable {X : Cx} {x n : Str} {c : Value} {i : Nat} {body suite : List Stmt} {b₀ : Stmt} {np pos pos' : Pos} {tb : WX → TS} {ts : Addr → Value → Option Addr → TS} {Wout : WX}
theorem ps_try_keep (hex : X.ex = []) (hs : X.stack = X.env :: X.outer) (hf : X.env.frame = some X.env.locals) (hN : X.N.Nodup) (hi : X.N[i]? = some n) (hln : X.env.kindOf n = some .local) (hc : Names X x c) (tk : Takes X Wout)
    (hb : ∀ (W : WX) (pn : List (Addr × Obj)) (xe : Value → Shared → Prop), Takes (X.tr pn xe) W → PassesOwn (model X.prog X.w) X.A X.env xe → PSs (X.tr pn xe) body (tb W))
    (hsu : ∀ (a : Addr) (oe : Obj) (cls : Value) (d : Option Addr) (pn : List (Addr × Obj)), Zc cls d oe → (∃ vs, oe.data = .fields vs) → PSs (X.suite a ((a, oe) :: pn)) (b₀ :: suite) (ts a cls d)) :
    PS X (.Try body [.ExceptHandler (some (.Name x np)) (some n) (b₀ :: suite) pos'] [] [] pos) (fun D σ H => tb (wAsK X.K c i ts Wout D) D σ H) := by
  refine ⟨fun pins s σ H D I h => ?_⟩
  have ok := I.ok
  have hfr : X.A.frames = some (X.env :: X.outer) := by rw [ok.frames, hs]
  have hloc : Loc X.env.scope n := .inl hln
  refine wpAny_Try_except ?_
  refine wpAny_mono ((hb (wAsK X.K c i ts Wout D) (X.pn ++ pins) (fun e s₁ => wpAny (model X.prog X.w) X.A (noteFrame e X.env) (fun _ s₂ => wpAny (model X.prog X.w) X.A (setFlight e none) (fun _ s₃ =>
    wpAny (model X.prog X.w) X.A (handleBy e X.env [.ExceptHandler (some (.Name x np)) (some n) (b₀ :: suite) pos']) (SP X pins D) X.xe s₃) X.xe s₂) X.xe s₁) (fun u s' xx => ?_) PassesOwn.looking).run [] s σ H D (I.toTry _) h) (fun f s1 hsp => ?_) (fun e s1 he => he)
  · -- the catch
    obtain ⟨a, B, sI, pins', σ', H', cls, d, rfl, J', nb, up, sky, na, os, ag, b, hb1, hyes, hno⟩ := xx
    have nB : B.get? a = none := by
      rcases sky with z | z | z
      · exact z.2.1
      · exact z.2.1
      · exact z.2.1
    have J : Inv X pins σ' H' sI := J'.ofTry ok
    have sky' : Sky B (X.env :: X.outer) a (Zc cls d) X.env.locals s'.heap := by rw [← hs]; exact sky
    show wpAny (model X.prog X.w) X.A (noteFrame (.ref a) X.env) _ _ _
    refine Sky.land Zc.steady hfr hf sky' fun h3 fl3 up3 => ?_
    have J3 : Inv X pins σ' H' { s' with heap := h3 } := J.landed nb fl3.1 (up.trans up3) os ag
    obtain ⟨oe3, vs3, he3, hz3, hd3⟩ := fl3.there
    have notFr : ∀ {h : Heap} {o : Obj} {vs : Array Value}, h.FunFrames B (X.env :: X.outer) → h.get? a = some o → o.data = .fields vs → a ∉ frs (X.env :: X.outer) := fun {h o vs} ff e dd hm => by
      obtain ⟨_, o', e', hnf⟩ := ff.mem hm
      rw [e] at e'; cases e'
      exact hnf _ dd
    have nfr := notFr fl3.2.2.1 he3 hd3
    have nL : a ≠ X.env.locals := fun z => nfr (List.mem_filterMap.mpr ⟨X.env, List.mem_cons_self, by rw [hf, z]⟩)
    have nF : a ∉ X.fs := fun hm => by
      obtain ⟨e, he, q⟩ := List.mem_filterMap.mp hm
      exact nfr (List.mem_filterMap.mpr ⟨e, List.mem_cons_of_mem _ he, q⟩)
    have nsI : sI.heap.get? a = none := by
      cases q : sI.heap.get? a with
      | none => rfl
      | some o =>
        have z := nb a o q (by rw [hs]; exact nfr)
        rw [nB] at z
        cases z
    have n0 : X.s_0.heap.get? a = none := by
      cases q : X.s_0.heap.get? a with
      | none => rfl
      | some o =>
        obtain ⟨o', z⟩ := J.base.there a o q (by rw [hex]; simp)
        rw [nsI] at z
        cases z
    have nP : ∀ p ∈ X.pn ++ pins, p.1 ≠ a := fun p hp z => by
      have y := (J.pin p hp).1
      rw [z, nsI] at y
      cases y
    have nC : ∀ x c, X.env.cells.lookup x = some c → c ≠ a := fun x c hx z => by
      obtain ⟨v, y⟩ := J.cell x c hx
      obtain ⟨o, y1, _⟩ := y
      rw [z, nsI] at y1
      cases y1
    have S3 := J3.suite he3 hd3 na nL nF
    refine wpAny_handleBy_cons (codeAny_handlers_test ?_) (by intro q; cases q)
    have LT : PySem.W.Looks (model X.prog X.w) h3 (typeOf (.ref a)) cls := fun A Q E s k q => wpAny_typeOf_ref (k _ _ he3) (by rw [hz3.1]; exact q)
    have LM := PySem.W.exm_one (M := model X.prog X.w) (J3.kIn) LT hb1
    have test : ∀ {Q : Value → Shared → Prop} {E : Value → Shared → Prop}, Q c { s' with heap := h3 } → wpAny (model X.prog X.w) (X.A.mark (some (.ref a))) (eval (.Name x np) X.env) Q E { s' with heap := h3 } := fun {Q E} q => by
      obtain ⟨hg, hdbg, hm | ⟨hm, hv, hnn⟩⟩ := hc
      · exact ld_glob (X := X.suite a ((a, oe3) :: (X.pn ++ pins))) S3 hg hm q hdbg
      · exact ld_blt (X := X.suite a ((a, oe3) :: (X.pn ++ pins))) S3 hg hm hv q hnn hdbg
    refine test (LM.here ?_)
    cases b with
    | true =>
      refine codeAny_handlers_suite_as ?_
      obtain ⟨C, dd, ecls, edd, hys⟩ := hyes rfl
      subst ecls
      subst edd
      refine HandSPX.lands_againZ fl3 fun h4 fl4 up4 => ?_
      have J4 : Inv X pins σ' H' { s' with heap := h4 } := J.landed nb fl4.1 ((up.trans up3).trans up4) os ag
      obtain ⟨oe4, vs4, he4, hz4, hd4⟩ := fl4.there
      have S4 := J4.suite he4 hd4 na nL nF
      refine store_ok (X := X.suite a ((a, oe4) :: (X.pn ++ pins))) (v := .ref a) S4 hN hi hloc rfl (fun s5 S5 => ?_) (.inr hln)
      refine wpAny_mono ((hsu a oe4 _ _ (X.pn ++ pins) hz4 ⟨_, hd4⟩).run [] s5 _ H' _ S5 (hys a na)) (fun f s6 hsp => ?_) (fun _ _ z => False.elim z)
      have end_ : ∀ {σ6 : L2.St} {H6 : Hp} {Q : Shared → Prop}, Inv (X.suite a ((a, oe4) :: (X.pn ++ pins))) [] σ6 H6 s6 → (∀ s7, Inv X pins (σ6.set i none) H6 s7 → Q s7) →
          wpAny (model X.prog X.w) X.A (do bindName X.env n .none; unbindBehindTheSuite X.env n pos') (fun _ s7 => Q s7) X.xe s6 := fun {σ6 H6 Q} S6 hq => gone_ok (S6.unsuite ok) hN hi hln hq
      cases f with
      | next =>
        obtain ⟨σ6, H6, S6, q6⟩ := hsp
        obtain ⟨ha6, hn6, _⟩ := S6.pin (a, oe4) (List.mem_append_left _ List.mem_cons_self)
        have J6 : Inv X pins σ6 (upd H6 a (exk a C dd)) s6 := inv_track (S6.unsuite ok) hn6 n0 nL nC nP (exk_ok ha6 hz4.1 hz4.2 hd4)
        exact gone_ok J6 hN hi hln fun s7 J7 => ⟨_, _, J7, q6 hn6⟩
      | brk =>
        obtain ⟨σ6, H6, S6, q6⟩ := hsp
        exact end_ S6 fun s7 J7 => ⟨_, _, J7, q6⟩
      | cont =>
        obtain ⟨σ6, H6, S6, q6⟩ := hsp
        exact end_ S6 fun s7 J7 => ⟨_, _, J7, q6⟩
      | ret u =>
        obtain ⟨v6, σ6, H6, S6, r6, q6⟩ := hsp
        exact end_ S6 fun s7 J7 => ⟨_, _, _, J7, r6, q6⟩
    | false =>
      show wpAny _ X.A (handleBy (.ref a) X.env []) _ _ _
      refine wpAny_handleBy_nil ?_
      obtain ⟨k1, k2, k3, oe, vs, T, oT, ts', he, hz, hd, h1, hr⟩ := id fl3
      unfold PySem.passOn
      refine wpAny_bind (wpAny_field he hd h1 ?_)
      rw [if_neg (show ¬ ((Value.ref T == Value.none) = true) from by simp)]
      have fin : wpAny (model X.prog X.w) X.A (setFlight (.ref a) X.env.frame) (fun _ s4 => wpAny (model X.prog X.w) X.A (throw (.ref a) : Sem Flow) (SP X pins D) X.xe s4) X.xe { s' with heap := h3 } := by
        rw [hf]
        refine HandSPX.setFlight_upZ fl3 fun h4 hh4 up4 => wpAny_throw (tk _ _ ?_)
        exact ⟨a, B, sI, pins, σ', H', cls, d, rfl, J, nb, (up.trans up3).trans up4, .inr (.inr (by rw [hs]; exact hh4)), na, os, ag, hno rfl⟩
      first
        | exact wpAny_bind (wpAny_pure (wpAny_bind fin))
        | exact wpAny_bind fin
  · cases f with
    | next =>
      obtain ⟨σ', H', J', q⟩ := hsp
      exact wpAny_execs_nil ⟨σ', H', J'.ofTry ok, q⟩
    | brk =>
      obtain ⟨σ', H', J', q⟩ := hsp
      exact ⟨σ', H', J'.ofTry ok, q⟩
    | cont =>
      obtain ⟨σ', H', J', q⟩ := hsp
      exact ⟨σ', H', J'.ofTry ok, q⟩
    | ret u =>
      obtain ⟨v, σ', H', J', r, q⟩ := hsp
      exact ⟨v, σ', H', J'.ofTry ok, r, q⟩
end
end Gh
end
section
set_option Elab.async false
set_option linter.all false
set_option maxRecDepth 100000
set_option maxHeartbeats 4000000
namespace Gh
open PySem PySem.Spec PyProof.Rows L2
theorem law_callTsG {P : Program} {w : World} {K : PySem.W.Frag} {mg mb : Str → Option Value} {CX : CXT} {k : Nat} {fa a : Addr} {cs : List (Addr × Addr)} {fd : FuncData} {x : Str} {sp : Sp} {s₁ : Shared} {vs : List Value} {ns : List Int}
    (KX : K.In s₁.heap) (hns : s₁.heap.Ns mainGlobals mg) (hb : s₁.heap.Ns builtinsNs mb) (hbb : ∀ x : Str, x ≠ "__name__" → mb x = bootBuiltins x) (hlim : s₁.heap.NoLimit) (hg : s₁.gens = #[])
    (hT : ∀ p ∈ cs, s₁.heap.get? p.2 = some { cls := .none, data := .fields #[] }) (nT : ∀ p ∈ cs, K.lookup p.2 = none) (C : ∀ p ∈ cs, PySem.W.CodeHd s₁.heap p.1 p.2)
    (hbm : ∃ (bm : Addr) (ob : Obj), mg "__builtins__" = some (.ref bm) ∧ bm ≠ builtinsNs ∧ s₁.heap.get? bm = some ob ∧ ob.cls = .type "module" ∧ ob.dict = some builtinsNs ∧ ob.data = .plain)
    (ha : s₁.heap.get? a = some { cls := .type "list", data := .seq vs.toArray }) (hi : IntsAre vs ns) (hl : ns.length ≤ sizeLine) (hr : Room k callerA)
    (F : ∀ base : Heap, K.In base → base.Ns mainGlobals mg → (∀ p ∈ cs, LamX.TabB base mg p.1 p.2) → FnG P w K mg base CX k fa fd [x] sp) (hbind : ∀ (s : Shared) (u : Value), BindsTo s fd ⟨[u], []⟩ [(x, u)])
    (hsp : ∀ H : Hp, (∀ p ∈ cs, H p.2 = some (.tbl #[])) → SqL K H a (ns.map V.int) → sp [.ref a] H (fun v _ => v = .bl true) fun _ _ _ => False)
    (hCX : ∀ H e s', CX [] H s₁ (fun _ _ _ => False) e s' → False) :
    codeAny (model P w) callerA (.call (.ref fa) ⟨[.ref a], []⟩) (fun r s' => r = .ok (.ret (.bool true)) ∧ OldK s₁.heap s'.heap ∧ s'.os = s₁.os ∧ AllBare s'.gens) s₁ := by
  have rv := vals_ints hi
  have lenV := hi.length
  have isT : ∀ b : Addr, b ∈ cs.map (·.2) → s₁.heap.get? b = some { cls := .none, data := .fields #[] } := fun b hb => by
    obtain ⟨p, hp, e⟩ := List.mem_map.mp hb
    rw [← e]
    exact hT p hp
  have aT : a ∉ cs.map (·.2) := fun z => by
    have q := isT a z
    rw [ha] at q
    have z' : Data.seq vs.toArray _ = Data.fields #[] := congrArg Obj.data (Option.some.inj q)
    cases z'
  have memT : ∀ p ∈ cs, p.2 ∈ cs.map (·.2) := fun p hp => List.mem_map.mpr ⟨p, hp, rfl⟩
  -- from an abstract heap in which nothing but the script and the tables may be tracked
  have core : ∀ H : Hp, (∀ p ∈ cs, H p.2 = some (.tbl #[])) → (∀ b, H b = none ∨ b ∈ cs.map (·.2) ∨ ∃ o xs, H b = some (.frz o (.lst xs))) → SqL K H a (ns.map V.int) → HOk P w H s₁.heap → (∀ b, H b ≠ none → b = a ∨ b ∈ cs.map (·.2)) → (H a ≠ none → K.lookup a = none) →
      codeAny (model P w) callerA (.call (.ref fa) ⟨[.ref a], []⟩) (fun r s' => r = .ok (.ret (.bool true)) ∧ OldK s₁.heap s'.heap ∧ s'.os = s₁.os ∧ AllBare s'.gens) s₁ := by
    intro H hH hO hS hok hA hK
    have base_of : ∀ {b : Addr} {o : Obj}, s₁.heap.get? b = some o → H b = none → (hidT s₁.heap H).get? b = some o := fun e n => hidT_get e n
    have noD : ∀ {b : Addr} {o : Obj}, s₁.heap.get? b = some o → (∀ vs n, o.data ≠ .seq vs n) → o.data ≠ .fields #[] → H b = none := fun {b o} e h1 h2 => by
      cases q : H b with
      | none => rfl
      | some u =>
        rcases hA b (by rw [q]; simp) with e' | e'
        · rw [e', ha] at e
          cases e
          exact (h1 _ _ rfl).elim
        · rw [isT b e'] at e
          cases e
          exact (h2 rfl).elim
    have noA : ∀ {b : Addr} {o : Obj} {es : Array DictEntry} {ep : Nat}, s₁.heap.get? b = some o → o.data = .dict es ep → H b = none := fun {b o es ep} e d => by
      refine noD e (fun vs n z => ?_) fun z => ?_
      · rw [d] at z
        cases z
      · rw [d] at z
        cases z
    have nsK : ∀ {b : Addr} {m : Str → Option Value}, s₁.heap.Ns b m → (hidT s₁.heap H).Ns b m := fun {b m} ⟨o, es, ep, e, d, r⟩ => ⟨o, es, ep, base_of e (noA e d), d, r⟩
    have hKb : K.In (hidT s₁.heap H) := fun b o e => base_of (KX b o e) (by
      cases q : H b with
      | none => rfl
      | some u =>
        rcases hA b (by rw [q]; simp) with e' | e'
        · rw [e'] at e q
          rw [hK (by rw [q]; simp)] at e
          cases e
        · obtain ⟨p, hp, ep⟩ := List.mem_map.mp e'
          rw [← ep, nT p hp] at e
          cases e)
    have hM : L2.Mod K mg (hidT s₁.heap H) := ⟨hKb, nsK hns, ⟨mb, nsK hb, hbb⟩, let ⟨mc, h1, h2⟩ := hlim; ⟨mc, nsK h1, h2⟩⟩
    have TB : ∀ p ∈ cs, LamX.TabB (hidT s₁.heap H) mg p.1 p.2 := fun p hp => by
      have hTp := hT p hp
      refine ⟨?_, ?_, fun z => ?_⟩
      · obtain ⟨o, us, file, tf, flags, tg, inF, text, tt, e1, r1, r2, r3, r4, r5, r6, r7, r8, hne⟩ := C p hp
        refine ⟨o, us, file, tf, flags, tg, inF, text, tt, base_of e1 (noD e1 (fun vs n z => ?_) fun z => ?_), r1, r2, r3, r4, r5, r6, r7, r8, hne⟩
        · rw [r2] at z
          cases z
        · rw [r2] at z
          cases z
          simp at r3
      · obtain ⟨bm, ob, b1, b2, b3, b4, b5, b6⟩ := hbm
        have nG : bm ≠ mainGlobals := fun q => by
          obtain ⟨o, es, ep, e, hd, _⟩ := hns
          rw [q, e] at b3
          cases b3
          rw [hd] at b6
          cases b6
        have nP : bm ≠ p.2 := fun q => by
          rw [q, hTp] at b3
          cases b3
          cases b6
        refine ⟨bm, ob, b1, b2, nG, nP, base_of b3 (noD b3 (fun vs n z => ?_) fun z => ?_), b4, b5, b6⟩
        · rw [b6] at z
          cases z
        · rw [b6] at z
          cases z
      · obtain ⟨o, es, ep, e, hd, _⟩ := hns
        rw [z, hTp] at e
        cases e
        cases hd
    have e0 : Env0 P w K mg (hidT s₁.heap H) callerA [] s₁ H := ⟨rfl, hM, fun b o e => of_hidT e, Nat.le_of_eq (hidT_size _ _), trivial, fun b hb => absurd (show b ∈ ([] : List Addr) from hb) (by simp), hok, .of_eq hg⟩
    refine codeAny_mono ((F _ hKb (nsK hns) TB).run callerA [] s₁ H ⟨[.ref a], []⟩ [.ref a] [.ref a] _ _ hr rfl e0 (hbind s₁ (.ref a)) (.cons rfl .nil) (hsp H hH hS)) fun r s' h => ?_
    cases r with
    | error e => exact (hCX H e s' h).elim
    | ok fl =>
      cases fl with
      | next => exact False.elim h
      | brk => exact False.elim h
      | cont => exact False.elim h
      | ret u =>
        obtain ⟨v, H', os, bare, un, hok', r', q⟩ := h
        have q' : v = .bl true := q
        subst q'
        obtain rfl : u = Value.bool true := r'
        have key : ∀ b o, b ∉ cs.map (·.2) → s₁.heap.get? b = some o → s'.heap.get? b = some o := fun b o nb e => by
          cases q : H b with
          | none => exact un.keep b o e q (by intro z; exact absurd (show b ∈ ([] : List Addr) from z) (by simp)) (by simp)
          | some u =>
            rcases hO b with z | z | ⟨ob, xs, z⟩
            · rw [q] at z; cases z
            · exact absurd z nb
            · have z2 := un.frzs b ob _ z
              obtain ⟨e1, _⟩ := hok b _ z
              obtain ⟨e2, _⟩ := hok' b _ z2
              rw [e] at e1; cases e1
              exact e2
        have grown : ∀ p ∈ cs, ∃ more : Array Value, s'.heap.get? p.2 = some { cls := .none, data := .fields more } := fun p hp => by
          obtain ⟨more, z⟩ := un.tbls p.2 #[] (hH p hp)
          exact ⟨_, hok' p.2 _ z⟩
        refine ⟨rfl, ⟨fun b o e => ?_, fun b o e => ?_⟩, os, bare⟩
        · by_cases hb : b ∈ cs.map (·.2)
          · obtain ⟨p, hp, ep⟩ := List.mem_map.mp hb
            obtain ⟨more, hm⟩ := grown p hp
            rw [← ep] at e ⊢
            rw [hT p hp] at e
            cases e
            exact .inr (.inl ⟨((C p hp).tab (hT p hp)).isCodeTable, rfl, #[], more, rfl, by rw [Array.empty_append]; exact hm⟩)
          · exact .inl (key b o hb e)
        · by_cases hb : b ∈ cs.map (·.2)
          · obtain ⟨p, hp, ep⟩ := List.mem_map.mp hb
            obtain ⟨more, hm⟩ := grown p hp
            rw [← ep]
            exact ⟨_, hm⟩
          · exact ⟨o, key b o hb e⟩
  cases hk : K.lookup a with
  | some o =>
    have e := KX a o hk
    rw [ha] at e
    cases e
    refine core (fun b => if b ∈ cs.map (·.2) then some (.tbl #[]) else none) (fun p hp => if_pos (memT p hp)) (fun b => ?_) (.inr ⟨_, vs.toArray, _, hk, rfl, rfl, rfl, by rw [List.size_toArray, lenV]; exact hl, by simpa using rv⟩) (fun b u z => ?_) (fun b z => ?_) fun z => absurd (show (if a ∈ cs.map (·.2) then some (HO.tbl #[]) else none) = none from if_neg aT) z
    · by_cases hb : b ∈ cs.map (·.2)
      · exact .inr (.inl hb)
      · exact .inl (if_neg hb)
    · by_cases hb : b ∈ cs.map (·.2)
      · have z' := (if_pos hb).symm.trans z
        cases z'
        exact isT b hb
      · have z' := (if_neg hb).symm.trans z
        cases z'
    · by_cases hb : b ∈ cs.map (·.2)
      · exact .inr hb
      · exact absurd (if_neg hb) z
  | none =>
    refine core (fun b => if b = a then some (.frz { cls := .type "list", data := .seq vs.toArray } (.lst (ns.map V.int))) else if b ∈ cs.map (·.2) then some (.tbl #[]) else none) (fun p hp => (if_neg (show ¬ p.2 = a from fun z => aT (by rw [← z]; exact memT p hp))).trans (if_pos (memT p hp))) (fun b => ?_)
      (.inl (.inr ⟨{ cls := .type "list", data := .seq vs.toArray }, if_pos rfl⟩)) (fun b u z => ?_) (fun b z => ?_) fun _ => hk
    · by_cases hb : b = a
      · exact .inr (.inr ⟨_, _, if_pos hb⟩)
      · by_cases hb2 : b ∈ cs.map (·.2)
        · exact .inr (.inl hb2)
        · exact .inl ((if_neg hb).trans (if_neg hb2))
    · by_cases hb : b = a
      · have z' := (if_pos hb).symm.trans z
        cases z'
        rw [hb]
        exact ⟨ha, by rw [List.length_map]; exact hl, vs, _, rv, ha⟩
      · have z1 := (if_neg hb).symm.trans z
        by_cases hb2 : b ∈ cs.map (·.2)
        · have z' := (if_pos hb2).symm.trans z1
          cases z'
          exact isT b hb2
        · have z' := (if_neg hb2).symm.trans z1
          cases z'
    · by_cases hb : b = a
      · exact .inl hb
      · by_cases hb2 : b ∈ cs.map (·.2)
        · exact .inr hb2
        · exact absurd ((if_neg hb).trans (if_neg hb2)) z
theorem walk_ofTsG {l : PySem.W.OpenLaw} {n k : Nat} {q : Program} {loose : List Str} {XP : (Str → Option Value) → Heap → Prop} {YP : World → Heap → Prop} {d : DefRec} {CX : World → CXT} {x : Str}
    (hn : l.most = some n) (hn2 : n ≤ sizeLine) (hdf : d.params.defaults = []) (hr : Room k callerA)
    (F : ∀ (w : World) (mg : Str → Option Value) (fa : Addr) (h : Heap), YP w h → h.Ns mainGlobals mg → mg d.name = some (.ref fa) →
      ∃ (K : PySem.W.Frag) (fd : FuncData) (cs : List (Addr × Addr)) (sp : Sp), K.In h ∧ (∀ p ∈ cs, h.get? p.2 = some { cls := .none, data := .fields #[] }) ∧ (∀ p ∈ cs, K.lookup p.2 = none) ∧ (∀ p ∈ cs, PySem.W.CodeHd h p.1 p.2) ∧
        (∀ (s : Shared) (u : Value), BindsTo s fd ⟨[u], []⟩ [(x, u)]) ∧
        (∀ (H : Hp) (a : Addr) (ns : List Int), ns.length ≤ n → (∀ p ∈ cs, H p.2 = some (.tbl #[])) → SqL K H a (ns.map V.int) → sp [.ref a] H (fun v _ => v = .bl true) fun _ _ _ => False) ∧
        ∀ base : Heap, K.In base → base.Ns mainGlobals mg → (∀ p ∈ cs, LamX.TabB base mg p.1 p.2) → FnG l.prog w K mg base (CX w) k fa fd [x] sp)
    (hCX : ∀ (w : World) (H : Hp) (s : Shared) (e : Value) (s' : Shared), CX w [] H s (fun _ _ _ => False) e s' → False) :
    PySem.W.WalkO q loose XP YP l.row.toRowW d [] (fun f vs => PySem.call f vs) := by
  refine Att.attach_call hn hdf fun w s₀ s₁ mg mb fa o pm cd doc a vs ns G Y ho hd hcd hmg hobj hints hlen hg => ?_
  obtain ⟨K, fd, cs, sp, KX, hT, nT, C, hb, hsp, hF⟩ := F w mg fa _ Y G.T.g hmg
  exact law_callTsG KX G.T.g G.T.b G.T.builtins G.T.nolimit hg hT nT C G.T.bmain hobj hints (Nat.le_trans hlen hn2) hr hF hb (fun H hH hS => hsp H a ns hlen hH hS) fun H e s' => hCX w H s₁ e s'
end Gh
end
section
set_option Elab.async false
set_option linter.all false
set_option maxRecDepth 100000
set_option maxHeartbeats 4000000
namespace Gh
open PySem PySem.Spec PyProof.Rows L2
theorem fnO0 {P : Program} {w : World} {K : PySem.W.Frag} {mg : Str → Option Value} {base : Heap} {CX : CXT} {k : Nat} {f : Addr} {fd : FuncData} {ps : List Str} {sp : Sp} {dvs : List V} {x qual : Str} {params : Arguments} {body : List Stmt} {scope : Scope} {kws : List (Str × V)} {N : List Str}
    (F : FunD K x qual params body scope dvs kws f fd) (S : FnScope N ps scope) (len : ∀ vs H Q E, sp vs H Q E → vs.length = ps.length)
    (hbody : ∀ (cdv : Value) (A : Around) (outer : List Env) (s : Shared) (H : Hp) (vs : List V) (Q : VK) (E : XK), Room k (A.deeper (envOfC qual scope s.heap.objs.size f cdv)) → sp vs H Q E →
      ∃ t, PSs (cxOf CX P w K mg base N qual scope f cdv A outer s H E).nox body t ∧ t { nx := fun _ H' => Q .non H', rt := Q } (start N vs) H) : FnOk P w K mg base CX (k + 1) f fd ps sp :=
  F.ok S len fun cdv A outer s H vs Q E hr h => by
    obtain ⟨t, ht, q⟩ := hbody cdv A outer s H vs Q E hr h
    exact ⟨t, PSs.nox ht, q⟩
section
variable {X : Cx} {CX : CXT} {k : Nat} {f g C : Addr} {sp : Sp} {dvs : List V} {E : XK} {m : Str} {pos : Pos} {o : Expr} {ta : TE}
theorem pass_on (hs : X.stack = X.env :: X.outer) (hf : X.env.frame = some X.env.locals) (hex : X.ex = []) {E₁ : Value → Shared → Prop} (hx : X.xe = fun e s' => wpAny (model X.prog X.w) X.A (leaving X.env e) (fun _ s'' => L2.CX X.prog X.w X.outer X.H_0 X.s_0 E e s'') E₁ s') : Passes (L2.CX X.prog X.w) X E :=
  passes_call (takes_of hs hf hex hx) fun _ _ _ _ h => h
end
theorem oexB_ok {x : Str} {K : PySem.W.Frag} (h : oexB x K = true) : OexC K (gd x K) := by
  obtain ⟨h1, h⟩ := He.ba h
  obtain ⟨h2, h⟩ := He.ba h
  obtain ⟨h3, h⟩ := He.ba h
  obtain ⟨h4, h5⟩ := He.ba h
  refine ⟨?_, He.eqO_ok h2, of_decide_eq_true h3, of_decide_eq_true h4, h5⟩
  split at h1
  · rename_i c dd nm bs m bm ns qn hd sn sb ab col dl k0 k1 k2 k3 n k5 e
    obtain ⟨z1, h1⟩ := He.ba h1
    obtain ⟨z2, h1⟩ := He.ba h1
    obtain ⟨z3, h1⟩ := He.ba h1
    obtain ⟨z4, h1⟩ := He.ba h1
    obtain ⟨z5, z6⟩ := He.ba h1
    have y1 := of_decide_eq_true z1
    have y2 := of_decide_eq_true z2
    have y6 := of_decide_eq_true z6
    have y5 : dl = false := by simpa using z5
    subst y1 y6 y5 z4
    refine ⟨nm, qn, ns, bs, bm, sn, sb, ab, col, dd, k0, k1, k2, k3, k5, ?_, z3⟩
    rw [e, y2]
  · cases h1
def spErr1 (C : Addr) (f : Str) : Sp := fun vs H Q _ => ∃ (a : Addr) (v : V), vs = [.ref a, v] ∧ H a = some (exo a C none) ∧ ∀ d, H d = none → d ≠ a → Q .non (upd (upd H d (exd d [(f, v)])) a (exo a C (some d)))
theorem mk_err1 {C : Addr} {f : Str} {v : V} {H : Hp} {Q : XK} (h : ∀ d H', L2.Same H H' → H d = none → H' d = some (.xd [(f, v)]) → Q (.ref C) (some d) H') :
    ([v] : List V).length ≤ 1000 ∧ ∀ a, H a = none → spErr1 C f (.ref a :: ([v] ++ [])) (upd H a (exo a C none)) (fun u H2 => u = .non ∧ ∃ (d : Addr) (fs : List (Str × V)), H2 a = some (exo a C (some d)) ∧ H2 d = some (exd d fs) ∧ H d = none ∧ Q (.ref C) (some d) (upd (del H2 a) d (.xd fs))) (fun _ _ _ => False) := by
  refine ⟨by show 1 ≤ 1000; decide, fun a na => ⟨a, v, rfl, upd_same, fun d nd ne => ⟨rfl, d, [(f, v)], upd_same, ?_, ?_, ?_⟩⟩⟩
  · rw [upd_ne ne, upd_same]
  · rw [upd_ne ne] at nd
    exact nd
  · have nd0 : H d = none := by
      rw [upd_ne ne] at nd
      exact nd
    refine h d _ (fun b u e => ?_) nd0 upd_same
    have hb : b ≠ a := ne_of_none e na
    have hd : b ≠ d := ne_of_none e nd0
    rw [upd_ne hd, del_ne hb, upd_ne hb, upd_ne hd, upd_ne hb]
    exact e
end Gh
end
section
set_option Elab.async false
set_option linter.all false
set_option maxRecDepth 100000
set_option maxHeartbeats 4000000
namespace Gh
open PySem PySem.Spec PyProof.Rows L2
@[irreducible] def rShow (K : PySem.W.Frag) : List V → Hp → VK → Prop := fun xs H Q => ∃ v t, xs = [v] ∧ Shw K H v t ∧ Q (.str t) H
theorem rShow_of {K : PySem.W.Frag} {v : V} {t : Str} {H : Hp} {Q : VK} (h : Shw K H v t) (q : Q (.str t) H) : rShow K [v] H Q := by
  unfold rShow
  exact ⟨v, t, rfl, h, q⟩
section
variable {X : Cx} {K : PySem.W.Frag}
theorem call_show (hK : X.K = K) (hu : X.A.units + 102 < cLine) (hg : X.A.guards = some []) : CallR X (.builtin "repr") (rShow K) := by
  subst hK
  intro pins s σ H xs us Q I r h
  unfold rShow at h
  obtain ⟨v, t, rfl, hs, q⟩ := h
  obtain ⟨u, rfl, ru⟩ := vals1 r
  cases hs with
  | non =>
    cases (show u = Value.none from ru)
    exact PySem.P.repr_of_none ⟨.str _, H, I.tok _, ⟨_, rfl⟩, q⟩
  | bl b =>
    cases (show u = Value.bool b from ru)
    exact PySem.P.repr_of_bool ⟨.str _, H, I.tok _, ⟨_, rfl⟩, q⟩
  | int i h =>
    obtain ⟨t, rfl⟩ := ru
    exact PySem.P.repr_of_int h ⟨.str _, H, I.tok _, ⟨_, rfl⟩, q⟩
  | str x h =>
    obtain ⟨t, rfl⟩ := ru
    exact PySem.P.repr_of_str ⟨.str _, H, I.tok _, ⟨_, rfl⟩, q⟩ (hsz := h)
  | dp hd h1 h2 h3 h4 =>
    rename_i a d
    cases (show u = Value.ref a from ru)
    obtain ⟨as, rd⟩ := Dp.reads I d _ _ hd rfl
    exact repr_of_reads' rd h1 (fun z => by rw [h2] at z; cases z) hg (by omega) (fun _ _ e => e) (fun h' u tk k => ⟨.str d.shown, H, I.kept k, ⟨u, rfl⟩, q⟩) h4
variable {CX : CXT} {x : Str} {C fI : Addr} {k : Nat} {sp : Sp} {dvs : List V} {e : Expr} {es : List Expr} {ta : TA} {p pos : Pos}
theorem passF : Passes (L2.CX X.prog X.w) X (fun _ _ _ => False) := fun _ _ _ _ _ _ _ h => by
  obtain ⟨_, _, _, _, _, _, _, _, _, _, _, _, z⟩ := h
  exact z.elim
theorem pmk_po (T : OexC X.K C) (iC : PySem.W.findIn X.K (.ref C) "__init__" = some (some (.ref fI))) (tI : PySem.W.typeIn X.K (.ref fI) = some (.type "function")) (F : PromOX X CX k fI dvs sp) (hr : Room (k + 1) X.A) (hx : Passes CX X (fun _ _ _ => False)) (hm : X.mg x = some (.ref C)) (ha : PA X (e :: es) ta) (hg : Gl X x := by rfl)
    (hdb : (x == ("__debug__" : Str)) = false := by decide) (he : starEach (e :: es) X.env = (false, eval e X.env) :: starEach es X.env := by rfl) (hpl : (backTo pos (starEach es X.env)).any (·.1) = false := by rfl) : PMk X (.Call (.Name x p) (e :: es) [] pos) (tMkO C sp dvs ta) := by
  obtain ⟨fd, ps, ds, G, b, hd⟩ := F
  exact pmk_oex T iC tI G hr b hd hx hg hm ha hdb he hpl
end
structure IniT (K : PySem.W.Frag) (C f : Addr) : Prop where
  iC : PySem.W.findIn K (.ref C) "__init__" = some (some (.ref f))
  tI : PySem.W.typeIn K (.ref f) = some (.type "function")
theorem iniB_ok {x : Str} {K : PySem.W.Frag} (h : iniB x K = true) : IniT K (gd x K) (md x "__init__" K) := by
  obtain ⟨h1, h2⟩ := He.ba h
  exact ⟨He.eqO_ok h1, of_decide_eq_true h2⟩
end Gh
end
section
set_option Elab.async false
set_option linter.all false
set_option maxRecDepth 100000
set_option maxHeartbeats 4000000
namespace Gh
open PySem PySem.Spec PyProof.Rows L2
section
variable {prog : Program} {w : World} {A : Around} {E : Value → Shared → Prop} {s : Shared}
end
theorem PI.or {X : Cx} {tg iter : Expr} {w1 w2 : TI} (a : PI X tg iter w1) (b : PI X tg iter w2) : PI X tg iter (fun σ H R => w1 σ H R ∨ w2 σ H R) :=
  ⟨fun pins s σ H R I h => h.elim (a.run pins s σ H R I) (b.run pins s σ H R I)⟩
end Gh
end
section
set_option Elab.async false
set_option linter.all false
set_option maxRecDepth 100000
set_option maxHeartbeats 4000000
namespace Gh
open PySem PySem.Spec PyProof.Rows L2
section
variable {X : Cx} {C f : Addr} {r : List V → Hp → VK → Prop}
@[irreducible] def rSetO (C : Addr) (r : List V → Hp → VK → Prop) : TSet := fun o i v H Q => ∃ a dx fs, o = .ref a ∧ H a = some (.ins C dx fs) ∧ r [o, i, v] H fun _ H' => Q H'
@[irreducible] def rIxO (C : Addr) (sp : Sp) (E : XK) : R2 := fun x y H Q => ∃ a dx fs, x = .ref a ∧ H a = some (.ins C dx fs) ∧ sp [x, y] H Q E
end
end Gh
end
section
set_option Elab.async false
set_option linter.all false
set_option maxRecDepth 100000
set_option maxHeartbeats 4000000
namespace Gh
open PySem PySem.Spec PyProof.Rows L2
theorem fnG1 {P : Program} {w : World} {K : PySem.W.Frag} {mg : Str → Option Value} {base : Heap} {CX : CXT} {k : Nat} {f : Addr} {fd : FuncData} {ps : List Str} {sp : Sp} {dvs : List V} {x qual : Str} {params : Arguments} {body : List Stmt} {scope : Scope} {kws : List (Str × V)} {N : List Str}
    (F : FunD K x qual params body scope dvs kws f fd) (S : FnScope N ps scope) (len : ∀ vs H Q E, sp vs H Q E → vs.length = ps.length)
    (hbody : ∀ (cdv : Value) (A : Around) (outer : List Env) (s : Shared) (H : Hp) (vs : List V) (Q : VK) (E : XK), cdv = fd.code → Room k (A.deeper (envOfC qual scope s.heap.objs.size f cdv)) → (A.deeper (envOfC qual scope s.heap.objs.size f cdv)).guards = some [] → sp vs H Q E →
      ∃ t, PSs (cxOf CX P w K mg base N qual scope f cdv A outer s H E).nox body t ∧ t { nx := fun _ H' => Q .non H', rt := Q } (start N vs) H) : FnG P w K mg base CX (k + 1) f fd ps sp := by
  obtain ⟨oc, od, dV, kV, doc, pm, an, cdv, ct, osl, rfl, lk, hcd, _, _⟩ := F.ex
  refine ⟨len, fun A outer s H args us vs Q E hr hg e0 hb r hsp => ?_⟩
  refine LamX.run_ofS (N := N) (ps := ps) lk hcd S hr e0 hb r (len _ _ _ _ hsp) fun hr' => ?_
  obtain ⟨t, ht, q⟩ := hbody cdv A outer s H vs Q E rfl hr' hg hsp
  exact ⟨t, PSs.nox ht, q⟩
theorem codeOf_fn {K : PySem.W.Frag} {x qual : Str} {params : Arguments} {body : List Stmt} {scope : Scope} {dvs : List V} {kws : List (Str × V)} {fd : FuncData} {p : Str × Option Str} (F : FunD K x qual params body scope dvs kws (He.fAd K p) fd) : fd.code = .ref (He.codeOf K p) := by
  obtain ⟨oc, od, dV, kV, doc, pm, an, cdv, ct, osl, rfl, lk, hcd, _, _⟩ := F.ex
  obtain ⟨c, rfl⟩ := He.codeIn_ref hcd
  exact (congrArg Value.ref (He.codeOf_eq lk rfl)).symm
section
variable {K : PySem.W.Frag} {H H' : Hp}
theorem sqL_extN {a : Addr} {xs : List V} (h : SqL K H a xs) (s : LamX.ExtN H H') : SqL K H' a xs := by
  rcases h with (h | ⟨o, h⟩) | h
  · exact .inl (.inl (s _ _ h (fun _ z => by cases z)))
  · exact .inl (.inr ⟨o, s _ _ h (fun _ z => by cases z)⟩)
  · exact .inr h
theorem sqT_extN {a : Addr} {xs : List V} (h : SqT K H a xs) (s : LamX.ExtN H H') : SqT K H' a xs := by
  rcases h with (h | ⟨o, h⟩) | h
  · exact .inl (.inl (s _ _ h (fun _ z => by cases z)))
  · exact .inl (.inr ⟨o, s _ _ h (fun _ z => by cases z)⟩)
  · exact .inr h
mutual
theorem dp_extN (s : LamX.ExtN H H') : ∀ {v : V} {d : PyData}, Dp K H v d → Dp K H' v d
  | _, _, .non => .non
  | _, _, .bl b => .bl b
  | _, _, .int i => .int i
  | _, _, .str x => .str x
  | _, _, .lst h a => .lst (sqL_extN h s) (dpAll_extN s a)
  | _, _, .tup h a => .tup (sqT_extN h s) (dpAll_extN s a)
theorem dpAll_extN (s : LamX.ExtN H H') : ∀ {vs : List V} {ds : List PyData}, DpAll K H vs ds → DpAll K H' vs ds
  | _, _, .nil => .nil
  | _, _, .cons a r => .cons (dp_extN s a) (dpAll_extN s r)
end
theorem Shw.extN {v : V} {t : Str} (h : Shw K H v t) (s : LamX.ExtN H H') : Shw K H' v t := by
  cases h with
  | non => exact .non
  | bl b => exact .bl b
  | int i h => exact .int i h
  | str x h => exact .str x h
  | dp a b c d e => exact .dp (dp_extN s a) b c d e
theorem Kd.extN {v : V} (k : Kd H v) (s : LamX.ExtN H H') : Kd H' v := by
  cases k with
  | non => exact .non
  | bl b => exact .bl b
  | int i => exact .int i
  | str x => exact .str x
  | lst h => exact .lst (s _ _ h (fun _ z => by cases z))
  | tup h => exact .tup (s _ _ h (fun _ z => by cases z))
  | dK h => exact .dK (s _ _ h (fun _ z => by cases z))
theorem PenAt.extN {p : Addr} {b : Nat} (h : PenAt H p b) (s : LamX.ExtN H H') : PenAt H' p b := by
  obtain ⟨c, ns, i, z, h1, h2, r⟩ := h
  exact ⟨c, ns, i, z, s _ _ h1 (fun _ z => by cases z), s _ _ h2 (fun _ z => by cases z), r⟩
end
end Gh
end
section
set_option Elab.async false
set_option linter.all false
set_option maxRecDepth 100000
set_option maxHeartbeats 4000000
namespace Gh
open PySem PySem.Spec PyProof.Rows L2
section
variable {H H' : Hp} {p a l : Addr} {o u : HO}
theorem nw_upd (n : H p = none) : Nw H (upd H p o) p o := ⟨n, same_new n, upd_same⟩
theorem mu_upd : Mu H (upd H p o) p o := ⟨Keep.refl.put, upd_same⟩
theorem same_up (n : L2.Same H H') (h : H a = some u) : H' a = some u := n _ _ h
theorem keep_up (n : Keep H H' p) (e : a ≠ p) (h : H a = some u) : H' a = some u := n _ _ h e
theorem Nw.ne (n : Nw H H' l o) (h : H a = some u) : l ≠ a := fun e => by
  rw [← e, n.no] at h
  cases h
end
section
variable {H H' : Hp} {p c a l : Addr} {o u : HO} {b k : Nat} {xs : List V} {C dx : Addr} {fs : List (Str × V)}
theorem Pen.le (h : Pen H p c b) (q : k ≤ b) : Pen H p c k := by
  obtain ⟨ns, i, z, h1, h2, h3, h4, h5, h6⟩ := h
  exact ⟨ns, i, z, h1, h2, h3, h4, by omega, h6⟩
theorem Pen.nw (n : Nw H H' l o) (h : Pen H p c b) : Pen H' p c b := h.same n.same
theorem Pen.mu (n : Mu H H' l o) (e1 : l ≠ p) (e2 : l ≠ c) (h : Pen H p c b) : Pen H' p c b := by
  obtain ⟨ns, i, z, h1, h2, h3⟩ := h
  exact ⟨ns, i, z, n.up e1.symm h1, n.up e2.symm h2, h3⟩
theorem nw_pen (n : Nw H H' l o) (h : Pen H p c b) : l ≠ p := by
  obtain ⟨ns, i, z, h1, h2, h3⟩ := h
  exact n.ne h1
theorem nw_cell (n : Nw H H' l o) (h : Pen H p c b) : l ≠ c := by
  obtain ⟨ns, i, z, h1, h2, h3⟩ := h
  exact n.ne h2
theorem tup_pen (n : H a = some (.tup xs)) (h : Pen H p c b) : a ≠ p := by
  obtain ⟨ns, i, z, h1, h2, h3⟩ := h
  exact ne_of n h1 (by intro e; cases e)
theorem tup_cell (n : H a = some (.tup xs)) (h : Pen H p c b) : a ≠ c := by
  obtain ⟨ns, i, z, h1, h2, h3⟩ := h
  exact ne_of n h2 (by intro e; cases e)
theorem ins_pen (n : H a = some (.ins C dx fs)) (h : Pen H p c b) : a ≠ p := by
  obtain ⟨ns, i, z, h1, h2, h3⟩ := h
  exact ne_of n h1 (by intro e; cases e)
theorem ins_cell (n : H a = some (.ins C dx fs)) (h : Pen H p c b) : a ≠ c := by
  obtain ⟨ns, i, z, h1, h2, h3⟩ := h
  exact ne_of n h2 (by intro e; cases e)
end
section
variable {H H' : Hp} {a t l : Addr} {o u : HO} {xs ys : List V} {C dx : Addr} {fs : List (Str × V)}
theorem ins_lst (h : H a = some (.ins C dx fs)) (k : H t = some (.lst xs)) : a ≠ t := ne_of h k (by intro e; cases e)
theorem ins_tup (h : H a = some (.ins C dx fs)) (k : H t = some (.tup xs)) : a ≠ t := ne_of h k (by intro e; cases e)
theorem tup_lst (h : H a = some (.tup ys)) (k : H t = some (.lst xs)) : a ≠ t := ne_of h k (by intro e; cases e)
theorem nw_ne (n : Nw H H' l o) (h : H a = some u) : l ≠ a := n.ne h
end
def spDr : Sp := fun vs H Q _ => ∃ (p c : Addr) (b : Nat) (m : Int), vs = [.ref p, .int m] ∧ 0 < m ∧ m.natAbs.log2 < 9000 ∧ Pen H p c (b + 1) ∧
  ∀ (d : Int) (H' : Hp), 0 ≤ d → d < m → Pen H' p c b → Keep H H' p → Q (.int d) H'
def spPn (K : PySem.W.Frag) : Sp := fun vs H Q _ => ∃ (a : Addr) (ns : List Int), vs = [.ref a] ∧ SqL K H a (ns.map V.int) ∧ ns.length ≤ 63 ∧ ∀ (p c : Addr) (H' : Hp), H p = none → Pen H' p c 1000000 → L2.Same H H' → Q (.ref p) H'
section
variable {H : Hp} {E : XK} {Q : VK} {p c l : Addr} {b : Nat} {m : Int} {xs : List V}
theorem log_of (h0 : 0 < m) (h : m < 10 ^ 100) : m.natAbs.log2 < 9000 := by
  have h2 : m.natAbs < 2 ^ 9000 := Nat.lt_of_lt_of_le (show m.natAbs < 10 ^ 100 by omega) (by decide)
  exact (Nat.log2_lt (by omega)).mpr h2
end
@[irreducible] def rLn (K : PySem.W.Frag) : List V → Hp → VK → Prop := fun xs H Q => ∃ x n, xs = [x] ∧ LenV K x H n ∧ Q (.int n) H
@[irreducible] def rListOf (K : PySem.W.Frag) : List V → Hp → VK → Prop := fun xs H Q => ∃ p ys, xs = [.ref p] ∧ (SqL K H p ys ∨ SqT K H p ys) ∧ ∀ l, H l = none → Q (.ref l) (upd H l (.lst ys))
@[irreducible] def rTupOf (K : PySem.W.Frag) : List V → Hp → VK → Prop := fun xs H Q => ∃ p ys, xs = [.ref p] ∧ ((SqL K H p ys ∧ ∀ l, H l = none → Q (.ref l) (upd H l (.tup ys))) ∨ (SqT K H p ys ∧ Q (.ref p) H))
@[irreducible] def rInt : List V → Hp → VK → Prop := rInt1
@[irreducible] def rAbs : List V → Hp → VK → Prop := fun xs H Q => ∃ i, xs = [.int i] ∧ Q (.int (if i < 0 then -i else i)) H
@[irreducible] def rIsN : R2 := fun x y H Q => y = .non ∧ Q (.bl (decide (x = .non))) H
@[irreducible] def rNotN : R2 := fun x y H Q => y = .non ∧ Q (.bl (!decide (x = .non))) H
section
variable {X : Cx} {K : PySem.W.Frag}
theorem cr_len (h : X.K = K) : CallR X (.builtin "len") (rLn K) := by unfold rLn; exact h ▸ call_len
theorem cr_listOf (h : X.K = K) : CallR X (.type "list") (rListOf K) := by unfold rListOf; exact h ▸ call_list_of
theorem cr_int : CallR X (.type "int") rInt := by unfold rInt; exact call_int1
theorem cr_abs : CallR X (.builtin "abs") rAbs := by unfold rAbs; exact call_abs
theorem sl_listK (h : X.K = K) : SlR X (rSlL K) := h ▸ sl_list
theorem op_neDK (h : X.K = K) (hu : X.A.units + 64 < cLine) : OpR X (compareOp .NotEq) (rNeD K) := h ▸ op_neD hu
@[irreducible] def rFld (C : Addr) (f : Str) : V → Hp → VK → Prop := fun x H Q => ∃ a dx fs v, x = .ref a ∧ H a = some (.ins C dx fs) ∧ fs.lookup f = some v ∧ Q v H
@[irreducible] def sF (C : Addr) (ta tv : TE) (f : Str) : TS := fun D σ H => tv σ H fun y H1 => ta σ H1 fun x H2 => ∃ a dx fs, x = .ref a ∧ H2 a = some (.ins C dx fs) ∧ fs.length < 1000 ∧ D.nx σ (upd H2 a (.ins C dx (putF f y fs)))
@[irreducible] def rConst (C : Addr) (f : Str) (v : V) : V → Hp → VK → Prop := fun x H Q => ∃ a dx fs, x = .ref a ∧ H a = some (.ins C dx fs) ∧ fs.lookup f = none ∧ Q v H
end
theorem len_ok {n : Nat} (h : n ≤ 100000) : n ≤ sizeLine := Nat.le_trans h (by decide)
@[irreducible] def rPowK (r : Int) : R2 := fun x y H Q => ∃ i j, x = .int i ∧ y = .int j ∧ CPow i j ∧ i ^ j.toNat = r ∧ Q (.int r) H
theorem op_powK {X : Cx} (r : Int) : OpR X (binaryOp .Pow) (rPowK r) := by
  intro pins s σ H x y v u Q I rx ry h
  unfold rPowK at h
  obtain ⟨i, j, h1, h2, h3, h4, q⟩ := h
  exact op_pow pins s σ H x y v u Q I rx ry ⟨i, j, h1, h2, h3, by show Q (.int (i ^ j.toNat)) H; rw [h4]; exact q⟩
section
variable {K : PySem.W.Frag} {H : Hp} {σ : L2.St} {Q : VK} {D : Ends} {i j n : Int} {x y v : V} {ta tb tc te tf : TE} {t u : TS} {c d : TT} {k : Bool} {a l p C dx : Addr} {xs ys : List V} {A B : Prop}
theorem st_seq (h : t { D with nx := u D } σ H) : tSeq t u D σ H := h
theorem st_nx (h : D.nx σ H) : tNext D σ H := h
theorem st_asg {g : TG} (h : te σ H fun x H1 => g x σ H1 D.nx) : tAsg te g D σ H := h
theorem st_name {m : Nat} {Q : L2.St → Hp → Prop} (h : Q (σ.set m (some v)) H) : gName m v σ H Q := h
theorem st_drop (h : te σ H fun _ H1 => D.nx σ H1) : tDrop te D σ H := h
theorem st_ret (h : te σ H D.rt) : tRet te D σ H := h
theorem st_retN (h : D.rt .non H) : tRetN D σ H := h
theorem st_ifS (h : c σ H fun b H1 => if b = true then t D σ H1 else u D σ H1) : tIfS c t u D σ H := h
theorem st_brk (h : D.bk σ H) : tBreak D σ H := h
theorem st_cnt (h : D.ct σ H) : tCont D σ H := h
theorem st_par {m m' : Nat} {t : TA} (h : t σ H fun vs H1 => ∃ v w, vs = [v, w] ∧ D.nx ((σ.set m (some v)).set m' (some w)) H1) : tPar m m' t D σ H := h
theorem st_par2 {P : V → V → Prop} (h : P x y) : ∃ v w, [x, y] = [v, w] ∧ P v w := ⟨x, y, rfl, h⟩
theorem st_aug {m : Nat} {ti : TIp} (e : σ[m]? = some (some x)) (h : te σ H fun y H1 => ti x y H1 fun z H2 => D.nx (σ.set m (some z)) H2) : tAug m te ti D σ H := ⟨x, e, h⟩
theorem st_var {m : Nat} (e : σ[m]? = some (some v)) (h : Q v H) : tVar m σ H Q := ⟨v, e, h⟩
theorem st_c (h : Q v H) : tC v σ H Q := h
theorem st_op {r : R2} (h : ta σ H fun x H1 => tb σ H1 fun y H2 => r x y H2 Q) : tOp r ta tb σ H Q := h
theorem st_un {r : V → Hp → VK → Prop} (h : ta σ H fun x H1 => r x H1 Q) : tUn r ta σ H Q := h
theorem st_rI0 {g : Int → Int → V} (h : Q (g i j) H) : rI0 g (.int i) (.int j) H Q := ⟨i, j, rfl, rfl, h⟩
theorem st_rI {g : Int → Int → V} {R : Int → Int → Prop} (hc : R i j) (h : Q (g i j) H) : rI R g (.int i) (.int j) H Q := ⟨i, j, rfl, rfl, hc, h⟩
theorem st_rU {g : Int → V} (h : Q (g i) H) : rU g (.int i) H Q := ⟨i, rfl, h⟩
theorem st_rAdd (h : Q (.int (i + j)) H) : rAdd (.int i) (.int j) H Q := ⟨i, j, rfl, rfl, h⟩
theorem st_rSub (h : Q (.int (i - j)) H) : rSub (.int i) (.int j) H Q := ⟨i, j, rfl, rfl, h⟩
theorem st_eq (e : scal x y = true) (h : Q (.bl (decide (x = y))) H) : rEq x y H Q := ⟨e, h⟩
theorem st_ne (e : scal x y = true) (h : Q (.bl (!decide (x = y))) H) : rNe x y H Q := ⟨e, h⟩
theorem st_isN (h : Q (.bl (decide (x = .non))) H) : rIsN x .non H Q := by unfold rIsN; exact ⟨rfl, h⟩
theorem st_notN (h : Q (.bl (!decide (x = .non))) H) : rNotN x .non H Q := by unfold rNotN; exact ⟨rfl, h⟩
theorem st_test {Q : Bool → Hp → Prop} (h : te σ H fun x H' => ∃ k, x = .bl k ∧ Q k H') : tTest te σ H Q := h
theorem st_tB {Q : Bool → Hp → Prop} (h : te σ H fun x H' => ∃ k, x = .bl k ∧ Q k H') : tB te σ H Q := h
theorem st_ebl {P : Bool → Prop} (h : P k) : ∃ k', V.bl k = .bl k' ∧ P k' := ⟨k, rfl, h⟩
theorem st_eint {P : Int → Prop} (h : P i) : ∃ k', V.int i = .int k' ∧ P k' := ⟨i, rfl, h⟩
theorem st_and {Q : Bool → Hp → Prop} (h : c σ H fun k H1 => if k = true then d σ H1 Q else Q false H1) : tAnd c d σ H Q := h
theorem st_or {Q : Bool → Hp → Prop} (h : c σ H fun k H1 => if k = true then Q true H1 else d σ H1 Q) : tOr c d σ H Q := h
theorem st_not {Q : Bool → Hp → Prop} (h : c σ H fun k H1 => Q (!k) H1) : tNot c σ H Q := h
theorem st_andV (h : ta σ H fun x H1 => ∃ c, x = .bl c ∧ if c = true then tb σ H1 Q else Q (.bl false) H1) : tAndV ta tb σ H Q := h
theorem st_orV (h : ta σ H fun x H1 => ∃ c, x = .bl c ∧ if c = true then Q (.bl true) H1 else tb σ H1 Q) : tOrV ta tb σ H Q := h
theorem st_notV (h : ta σ H fun x H1 => ∃ c, x = .bl c ∧ Q (.bl (!c)) H1) : tNotV ta σ H Q := h
theorem st_ifE (h : c σ H fun k H1 => if k = true then ta σ H1 Q else tb σ H1 Q) : tIf c ta tb σ H Q := h
theorem st_chain {r r' : R2} (h : ta σ H fun x H1 => tb σ H1 fun y H2 => r x y H2 fun z H3 => ∃ k, z = .bl k ∧ if k = true then tc σ H3 fun w H4 => r' y w H4 Q else Q (.bl false) H3) : tChain r r' ta tb tc σ H Q := h
theorem st_if1 (e : k = true) (h : A) : if k = true then A else B := by rw [if_pos e]; exact h
theorem st_if0 (e : k = false) (h : B) : if k = true then A else B := by rw [e, if_neg (by decide)]; exact h
theorem st_nil {Q : List V → Hp → Prop} (h : Q [] H) : tNil σ H Q := h
theorem st_cons {t : TA} {Q : List V → Hp → Prop} (h : ta σ H fun x H1 => t σ H1 fun xs H2 => Q (x :: xs) H2) : tCons ta t σ H Q := h
theorem st_cl {r : List V → Hp → VK → Prop} {t : TA} (h : t σ H fun vs H1 => r vs H1 Q) : tCl r t σ H Q := h
theorem st_cb {r : List V → Hp → VK → Prop} {t : TA} (h : t σ H fun vs H1 => r vs H1 Q) : tCB r t σ H Q := h
theorem st_mt {m : Str} {r : List V → Hp → VK → Prop} {t : TA} (h : ta σ H fun x H1 => ∃ a dx fs, x = .ref a ∧ H1 a = some (.ins C dx fs) ∧ fs.lookup m = none ∧ t σ H1 fun vs H2 => r (x :: vs) H2 Q) : tMt C m r ta t σ H Q := h
theorem st_emt {m : Str} {fs : List (Str × V)} {P : Prop} (h : H a = some (.ins C dx fs)) (e : fs.lookup m = none) (q : P) : ∃ a' dx fs, V.ref a = .ref a' ∧ H a' = some (.ins C dx fs) ∧ fs.lookup m = none ∧ P := ⟨a, dx, fs, rfl, h, e, q⟩
theorem st_pr {sp : Sp} {dvs : List V} {E : XK} (h : ta σ H fun x H1 => ∃ a dx fs, x = .ref a ∧ H1 a = some (.ins C dx fs) ∧ sp (.ref a :: dvs) H1 Q E) : tPr C sp dvs E ta σ H Q := h
theorem st_epr {fs : List (Str × V)} {sp : Sp} {dvs : List V} {E : XK} (h : H a = some (.ins C dx fs)) (q : rSp sp dvs E [.ref a] H Q) : ∃ a' dx fs, V.ref a = .ref a' ∧ H a' = some (.ins C dx fs) ∧ sp (.ref a' :: dvs) H Q E := ⟨a, dx, fs, rfl, h, q⟩
theorem st_fld {f : Str} {fs : List (Str × V)} (h : H a = some (.ins C dx fs)) (e : fs.lookup f = some v) (q : Q v H) : rFld C f (.ref a) H Q := by unfold rFld; exact ⟨a, dx, fs, v, rfl, h, e, q⟩
theorem st_const {f : Str} {fs : List (Str × V)} (h : H a = some (.ins C dx fs)) (e : fs.lookup f = none) (q : Q v H) : rConst C f v (.ref a) H Q := by unfold rConst; exact ⟨a, dx, fs, rfl, h, e, q⟩
def rSetF (C : Addr) (f : Str) (y x : V) (H : Hp) (P : Hp → Prop) : Prop := ∃ a dx fs, x = .ref a ∧ H a = some (.ins C dx fs) ∧ fs.length < 1000 ∧ P (upd H a (.ins C dx (putF f y fs)))
theorem st_sF {f : Str} (h : te σ H fun y H1 => ta σ H1 fun x H2 => rSetF C f y x H2 fun H3 => D.nx σ H3) : sF C ta te f D σ H := by unfold sF; exact h
theorem st_powK {r : Int} (h1 : CPow i j) (h2 : i ^ j.toNat = r) (q : Q (.int r) H) : rPowK r (.int i) (.int j) H Q := by unfold rPowK; exact ⟨i, j, rfl, rfl, h1, h2, q⟩
def rNewL (xs : List V) (H : Hp) (Q : VK) : Prop := xs.length ≤ sizeLine ∧ ∀ p, H p = none → Q (.ref p) (upd H p (.lst xs))
def rNewT (xs : List V) (H : Hp) (Q : VK) : Prop := xs.length ≤ sizeLine ∧ ∀ p, H p = none → Q (.ref p) (upd H p (.tup xs))
theorem st_lst {t : TA} (h : t σ H fun xs H1 => rNewL xs H1 Q) : tLst t σ H Q := h
theorem st_tup {t : TA} (h : t σ H fun xs H1 => rNewT xs H1 Q) : tTup t σ H Q := h
theorem st_newL (e : xs.length ≤ sizeLine) (h : ∀ p H', Nw H H' p (.lst xs) → Q (.ref p) H') : rNewL xs H Q := ⟨e, fun p np => h p _ (nw_upd np)⟩
theorem st_newT (e : xs.length ≤ sizeLine) (h : ∀ p H', Nw H H' p (.tup xs) → Q (.ref p) H') : rNewT xs H Q := ⟨e, fun p np => h p _ (nw_upd np)⟩
theorem new_of {o : HO} (h : ∀ p H', Nw H H' p o → Q (.ref p) H') : ∀ p, H p = none → Q (.ref p) (upd H p o) := fun p np => h p _ (nw_upd np)
theorem st_ixL (h : H p = some (.lst xs)) (e : atI xs i = some v) (q : Q v H) : rIxL K (.ref p) (.int i) H Q := ⟨p, xs, i, v, rfl, rfl, SqL.of h, e, q⟩
theorem st_ixLs (h : SqL K H p xs) (e : atI xs i = some v) (q : Q v H) : rIxL K (.ref p) (.int i) H Q := ⟨p, xs, i, v, rfl, rfl, h, e, q⟩
theorem st_ixT (h : H p = some (.tup xs)) (e : atI xs i = some v) (q : Q v H) : rIxT K (.ref p) (.int i) H Q := ⟨p, xs, i, v, rfl, rfl, SqT.of h, e, q⟩
theorem st_ixTs (h : SqT K H p xs) (e : atI xs i = some v) (q : Q v H) : rIxT K (.ref p) (.int i) H Q := ⟨p, xs, i, v, rfl, rfl, h, e, q⟩
theorem st_lenL (h : H p = some (.lst xs)) (q : Q (.int xs.length) H) : rLn K [.ref p] H Q := by unfold rLn; exact ⟨_, _, rfl, .inl ⟨xs, SqL.of h, rfl⟩, q⟩
theorem st_lenT (h : H p = some (.tup xs)) (q : Q (.int xs.length) H) : rLn K [.ref p] H Q := by unfold rLn; exact ⟨_, _, rfl, .inr ⟨xs, SqT.of h, rfl⟩, q⟩
theorem st_lenS {z : Str} (e : z.length ≤ sizeLine) (q : Q (.int z.length) H) : rLn K [.str z] H Q := by unfold rLn; exact ⟨_, _, rfl, ⟨e, rfl⟩, q⟩
theorem st_listL (h : H p = some (.lst xs)) (q : ∀ l H', Nw H H' l (.lst xs) → Q (.ref l) H') : rListOf K [.ref p] H Q := by unfold rListOf; exact ⟨p, xs, rfl, .inl (SqL.of h), new_of q⟩
theorem st_listT (h : H p = some (.tup xs)) (q : ∀ l H', Nw H H' l (.lst xs) → Q (.ref l) H') : rListOf K [.ref p] H Q := by unfold rListOf; exact ⟨p, xs, rfl, .inr (SqT.of h), new_of q⟩
theorem st_tupL (h : H p = some (.lst xs)) (q : ∀ l H', Nw H H' l (.tup xs) → Q (.ref l) H') : rTupOf K [.ref p] H Q := by unfold rTupOf; exact ⟨p, xs, rfl, .inl ⟨SqL.of h, new_of q⟩⟩
theorem st_tupT (h : H p = some (.tup xs)) (q : Q (.ref p) H) : rTupOf K [.ref p] H Q := by unfold rTupOf; exact ⟨p, xs, rfl, .inr ⟨SqT.of h, q⟩⟩
theorem st_int (q : Q (.int i) H) : rInt [.int i] H Q := by unfold rInt; exact .inl ⟨i, rfl, q⟩
theorem st_intB (q : Q (.int (if k = true then 1 else 0)) H) : rInt [.bl k] H Q := by unfold rInt; exact .inr ⟨k, rfl, q⟩
theorem st_abs (q : Q (.int (if i < 0 then -i else i)) H) : rAbs [.int i] H Q := by unfold rAbs; exact ⟨i, rfl, q⟩
theorem st_sl {r : V → Option Int → Option Int → Hp → VK → Prop} {tl th : TO} (h : te σ H fun x H1 => tl σ H1 fun l H2 => th σ H2 fun u H3 => r x l u H3 Q) : tSl r te tl th σ H Q := h
theorem st_part {Q : Option Int → Hp → Prop} (h : te σ H fun x H1 => ∃ i, x = .int i ∧ Q (some i) H1) : tPart te σ H Q := h
theorem st_nopart {Q : Option Int → Hp → Prop} (h : Q none H) : tNoPart σ H Q := h
theorem st_slL {lo hi : Option Int} (h : H p = some (.lst xs)) (q : ∀ l H', Nw H H' l (.lst (cutV xs lo hi)) → Q (.ref l) H') : rSlL K (.ref p) lo hi H Q := ⟨p, xs, rfl, SqL.of h, new_of q⟩
theorem st_slLs {lo hi : Option Int} (h : SqL K H p xs) (q : ∀ l H', Nw H H' l (.lst (cutV xs lo hi)) → Q (.ref l) H') : rSlL K (.ref p) lo hi H Q := ⟨p, xs, rfl, h, new_of q⟩
theorem st_cat (h : H l = some (.lst xs)) (h' : H p = some (.lst ys)) (e : xs.length + ys.length ≤ sizeLine) (q : ∀ a H', Nw H H' a (.lst (xs ++ ys)) → Q (.ref a) H') : rCat (.ref l) (.ref p) H Q := ⟨l, p, xs, ys, rfl, rfl, h, h', e, new_of q⟩
theorem st_bm {T : String} {r : V → List V → Hp → VK → Prop} {t : TA} (h : te σ H fun x H1 => tyV K T x H1 ∧ t σ H1 fun xs H2 => r x xs H2 Q) : tBM K T r te t σ H Q := h
theorem st_bm0 {T : String} {r : V → List V → Hp → VK → Prop} (h : te σ H fun x H1 => tyV K T x H1 ∧ r x [] H1 Q) : tBM0 K T r te σ H Q := h
theorem st_tyL {P : Prop} (h : H p = some (.lst xs)) (q : P) : tyV K "list" (.ref p) H ∧ P := ⟨.inl ⟨rfl, xs, SqL.of h⟩, q⟩
theorem st_tyS {z : Str} {P : Prop} (q : P) : tyV K "str" (.str z) H ∧ P := ⟨rfl, q⟩
theorem st_gsub {to ti : TE} {ts : TSet} {Q : L2.St → Hp → Prop} (h : to σ H fun o H1 => ti σ H1 fun i H2 => ts o i v H2 fun H3 => Q σ H3) : gSub to ti ts v σ H Q := h
theorem st_setL {m : Nat} {Q : Hp → Prop} (h : H p = some (.lst xs)) (e : ixN xs.length i = some m) (q : ∀ H', Mu H H' p (.lst (xs.set m v)) → Q H') : rSetL (.ref p) (.int i) v H Q := ⟨p, xs, i, m, rfl, rfl, h, e, q _ mu_upd⟩
theorem st_neD {d e : PyData} (h1 : Dp K H x d) (h2 : Dp K H y e) (h3 : SeqAt.shaped d = true) (h4 : SeqAt.shaped e = true) (q : Q (.bl (!PyData.eqv d e)) H) : rNeD K x y H Q := ⟨d, e, h1, h2, h3, h4, q⟩
theorem st_gtup {m : Nat} {g : TGs} {Q : L2.St → Hp → Prop} (h : H a = some (.tup xs)) (e : xs.length = m) (q : g xs σ H Q) : gTup K m g (.ref a) σ H Q := ⟨a, xs, rfl, SqT.of h, e, q⟩
theorem st_gcons {g : TG} {gs : TGs} {Q : L2.St → Hp → Prop} (h : g v σ H fun σ' H' => gs xs σ' H' Q) : gCons g gs (v :: xs) σ H Q := ⟨v, xs, rfl, h⟩
theorem st_gnil {Q : L2.St → Hp → Prop} (h : Q σ H) : gNil [] σ H Q := ⟨rfl, h⟩
theorem st_list {R : It → Hp → Prop} (h : te σ H fun x H1 => ∃ a, x = .ref a ∧ (∃ xs, SqL K H1 a xs) ∧ R (Itl K a) H1) : iList K te σ H R := h
theorem st_elist {P : Addr → Prop} (h : H a = some (.lst xs)) (q : P a) : ∃ a', V.ref a = .ref a' ∧ (∃ xs, SqL K H a' xs) ∧ P a' := ⟨a, rfl, ⟨xs, SqL.of h⟩, q⟩
theorem st_itup {R : It → Hp → Prop} (h : te σ H fun x H1 => ∃ a, x = .ref a ∧ (∃ xs, SqT K H1 a xs) ∧ R (Itt K a) H1) : iTup K te σ H R := h
theorem st_eitup {P : Addr → Prop} (h : H a = some (.tup xs)) (q : P a) : ∃ a', V.ref a = .ref a' ∧ (∃ xs, SqT K H a' xs) ∧ P a' := ⟨a, rfl, ⟨xs, SqT.of h⟩, q⟩
end
end Gh
end
section
set_option Elab.async false
set_option linter.all false
set_option maxRecDepth 100000
set_option maxHeartbeats 4000000
namespace Gh
open PySem PySem.Spec PyProof.Rows L2
section
variable {X : Cx} {a b c d : Expr} {ta tb tc td : TE} {pos : Pos}
def tChain3 (r r' r2 : R2) (ta tb tc td : TE) : TE := fun σ H Q => ta σ H fun x H1 => tb σ H1 fun y H2 => r x y H2 fun z H3 => ∃ k, z = .bl k ∧
  (if k = true then tc σ H3 fun w H4 => r' y w H4 fun z' H5 => ∃ k', z' = .bl k' ∧ (if k' = true then td σ H5 fun v H6 => r2 w v H6 Q else Q (.bl false) H5) else Q (.bl false) H3)
theorem st_chain3 {σ : L2.St} {H : Hp} {Q : VK} {r r' r2 : R2} (h : ta σ H fun x H1 => tb σ H1 fun y H2 => r x y H2 fun z H3 => ∃ k, z = .bl k ∧
  (if k = true then tc σ H3 fun w H4 => r' y w H4 fun z' H5 => ∃ k', z' = .bl k' ∧ (if k' = true then td σ H5 fun v H6 => r2 w v H6 Q else Q (.bl false) H5) else Q (.bl false) H3)) : tChain3 r r' r2 ta tb tc td σ H Q := h
def gSl (to tl th : TE) : TG := fun v σ H Q => to σ H fun x H1 => tl σ H1 fun lo H2 => th σ H2 fun hi H3 => ∃ (l m : Addr) (i j : Int) (xs ys : List V), x = .ref l ∧ v = .ref m ∧ lo = .int i ∧ hi = .int j ∧ H3 l = some (.lst xs) ∧ H3 m = some (.lst ys) ∧ l ≠ m ∧ 0 ≤ i ∧ i ≤ j ∧ j ≤ xs.length ∧ xs.length + ys.length ≤ sizeLine ∧
  Q σ (upd H3 l (.lst (xs.take i.toNat ++ ys ++ xs.drop j.toNat)))
def rSlS (v x lo hi : V) (H : Hp) (P : Hp → Prop) : Prop := ∃ (l m : Addr) (i j : Int) (xs ys : List V), x = .ref l ∧ v = .ref m ∧ lo = .int i ∧ hi = .int j ∧ H l = some (.lst xs) ∧ H m = some (.lst ys) ∧ l ≠ m ∧ 0 ≤ i ∧ i ≤ j ∧ j ≤ xs.length ∧ xs.length + ys.length ≤ sizeLine ∧ P (upd H l (.lst (xs.take i.toNat ++ ys ++ xs.drop j.toNat)))
theorem st_gsl {σ : L2.St} {H : Hp} {v : V} {Q : L2.St → Hp → Prop} {to tl th : TE} (h : to σ H fun x H1 => tl σ H1 fun lo H2 => th σ H2 fun hi H3 => rSlS v x lo hi H3 fun H4 => Q σ H4) : gSl to tl th v σ H Q := h
end
section
variable {K : PySem.W.Frag} {x qual : Str} {params : Arguments} {body : List Stmt} {scope : Scope} {dvs : List V} {kws : List (Str × V)} {f : Addr} {fd : FuncData} {ps : List Str}
end
section
variable {X : Cx} {CX : CXT} {k n : Nat} {f C : Addr} {ks : List Str} {sp : Sp} {E : XK} {x m : Str} {p pos apos : Pos} {e o : Expr} {es : List Expr} {kws : List Keyword} {t tk : TA} {ta : TE} {gV : List V → List V → List V} {r : List V → List V → Hp → VK → Prop}
def tClK (r : List V → List V → Hp → VK → Prop) (t tk : TA) : TE := fun σ H Q => t σ H fun vs H1 => tk σ H1 fun zs H2 => r vs zs H2 Q
def tMtK (C : Addr) (m : Str) (r : List V → List V → Hp → VK → Prop) (ta : TE) (t tk : TA) : TE := fun σ H Q => ta σ H fun x H1 => ∃ a dx fs, x = .ref a ∧ H1 a = some (.ins C dx fs) ∧ fs.lookup m = none ∧ t σ H1 fun vs H2 => tk σ H2 fun zs H3 => r (x :: vs) zs H3 Q
end
section
variable {H : Hp} {σ : L2.St} {Q : VK} {ta : TE} {t tk : TA} {r : List V → List V → Hp → VK → Prop} {C : Addr} {m : Str} {n k : Nat} {gV : List V → List V → List V} {sp : Sp} {E : XK} {vs zs : List V}
theorem st_clK (h : t σ H fun vs H1 => tk σ H1 fun zs H2 => r vs zs H2 Q) : tClK r t tk σ H Q := h
theorem st_mtK (h : ta σ H fun x H1 => ∃ a dx fs, x = .ref a ∧ H1 a = some (.ins C dx fs) ∧ fs.lookup m = none ∧ t σ H1 fun vs H2 => tk σ H2 fun zs H3 => r (x :: vs) zs H3 Q) : tMtK C m r ta t tk σ H Q := h
theorem st_spK (h1 : vs.length = n) (h2 : zs.length = k) (h : rSp sp [] E (gV vs zs) H Q) : rSpK n k gV sp E vs zs H Q := ⟨h1, h2, by
  unfold rSp at h
  rw [List.append_nil] at h
  exact h⟩
end
end Gh
end
section
set_option Elab.async false
set_option linter.all false
set_option maxRecDepth 100000
set_option maxHeartbeats 4000000
namespace Gh
open PySem PySem.Spec PyProof.Rows L2
theorem Fn.le {d : PyData} {n b n' b' : Nat} (h : Fn d n b) (h1 : n ≤ n') (h2 : b ≤ b') : Fn d n' b' := ⟨h.cl, h.sh, h.nd, h.ls, Nat.le_trans h.dp h1, Nat.le_trans h.bk h2⟩
theorem Fn.shaped {d : PyData} {n b : Nat} (h : Fn d n b) (hn : n ≤ 64) : SeqAt.shaped d = true := by
  unfold SeqAt.shaped
  rw [h.cl, decide_eq_true (Nat.le_trans h.dp hn)] <;> rfl
theorem Fn.eqv {d : PyData} {n b : Nat} (h : Fn d n b) : PyData.eqv d d = true := SeqAt.eqv_refl d h.cl
section
variable {K : PySem.W.Frag} {H : Hp} {a : Addr} {ns : List Int}
end
section
variable {H H' : Hp} {a l p c : Addr} {u : HO} {b : Nat}
theorem none_ne (n : H l = none) (h : H a = some u) : l ≠ a := fun e => by
  rw [← e, n] at h
  cases h
theorem none_pen (n : H l = none) (h : Pen H p c b) : l ≠ p := by
  obtain ⟨ns, i, z, h1, h2, h3⟩ := h
  exact none_ne n h1
theorem none_cell (n : H l = none) (h : Pen H p c b) : l ≠ c := by
  obtain ⟨ns, i, z, h1, h2, h3⟩ := h
  exact none_ne n h2
def Keep2 (H H' : Hp) (p t : Addr) : Prop := ∀ a o, H a = some o → a ≠ p → a ≠ t → H' a = some o
theorem keep2_up {t : Addr} (n : Keep2 H H' p t) (e : a ≠ p) (e' : a ≠ t) (h : H a = some u) : H' a = some u := n _ _ h e e'
theorem st_setO {C dx : Addr} {fs : List (Str × V)} {r : List V → Hp → VK → Prop} {i v : V} {Q : Hp → Prop} (h : H a = some (.ins C dx fs)) (q : r [.ref a, i, v] H fun _ H' => Q H') : rSetO C r (.ref a) i v H Q := by
  unfold rSetO
  exact ⟨a, dx, fs, rfl, h, q⟩
theorem st_ixO {C dx : Addr} {fs : List (Str × V)} {sp : Sp} {E : XK} {y : V} {Q : VK} (h : H a = some (.ins C dx fs)) (q : rSp sp [] E [.ref a, y] H Q) : rIxO C sp E (.ref a) y H Q := by
  unfold rIxO
  exact ⟨a, dx, fs, rfl, h, q⟩
end
section
variable {K : PySem.W.Frag} {H : Hp} {σ : L2.St} {Q : VK} {m : Nat} {tt : TT} {te tl : TE} {vs : List Nat} {t : TA} {a : Addr} {xs : List V}
def rLc (J : It) (m : Nat) (tt : TT) (te : TE) (vs : List Nat) (σ : L2.St) (H : Hp) (Q : VK) : Prop := ∀ D, H D = none → ∃ W : Nat → Nat → Hp → Prop, (∃ k, W 0 k (upd H D (.lst []))) ∧ ∀ i k H, W i k H →
  (J.stop i H ∧ Q (.ref D) H) ∨ (J.go i H ∧ ∃ Nx : Hp → Prop, (∀ H', Nx H' → ∃ k', k' < k ∧ W (i + 1) k' H') ∧ ∀ x H', J.yld i H x H' → gName m x (wipe σ vs) H' fun σ2 H2 => wipe σ2 vs = wipe σ vs ∧ tt σ2 H2 fun b H3 =>
    if b = true then te σ2 H3 fun y H4 => ∃ acc, H4 D = some (.lst acc) ∧ acc.length < sizeLine ∧ Nx (upd H4 D (.lst (acc ++ [y]))) else Nx H3)
theorem st_lcR1 (h : t σ H fun us H1 => ∃ j : Int, us = [.int j] ∧ -(2 ^ 62) ≤ j ∧ j < 2 ^ 62 ∧ rLc (Itr 0 j.toNat) m tt te vs σ H1 Q) : tLc (iRng1 t) (gName m) tt te vs σ H Q := h
theorem st_lcR2 (h : t σ H fun us H1 => ∃ i j : Int, us = [.int i, .int j] ∧ (-(2 ^ 62) ≤ i ∧ i < 2 ^ 62 ∧ -(2 ^ 62) ≤ j ∧ j < 2 ^ 62) ∧ rLc (Itr i (j - i).toNat) m tt te vs σ H1 Q) : tLc (iRng2 t) (gName m) tt te vs σ H Q := h
theorem st_lcL (h : tl σ H fun x H1 => ∃ a, x = .ref a ∧ (∃ xs, SqL K H1 a xs) ∧ rLc (Itl K a) m tt te vs σ H1 Q) : tLc (iList K tl) (gName m) tt te vs σ H Q := h
theorem st_lcT (h : tl σ H fun x H1 => ∃ a, x = .ref a ∧ (∃ xs, SqT K H1 a xs) ∧ rLc (Itt K a) m tt te vs σ H1 Q) : tLc (iTup K tl) (gName m) tt te vs σ H Q := h
theorem st_eR1 {j : Int} {P : Int → Prop} (h0 : -(2 ^ 62) ≤ j) (h1 : j < 2 ^ 62) (h : P j) : ∃ j', [V.int j] = [.int j'] ∧ -(2 ^ 62) ≤ j' ∧ j' < 2 ^ 62 ∧ P j' := ⟨j, rfl, h0, h1, h⟩
theorem st_eR2 {i j : Int} {P : Int → Int → Prop} (h0 : -(2 ^ 62) ≤ i ∧ i < 2 ^ 62 ∧ -(2 ^ 62) ≤ j ∧ j < 2 ^ 62) (h : P i j) : ∃ i' j', [V.int i, V.int j] = [.int i', .int j'] ∧ (-(2 ^ 62) ≤ i' ∧ i' < 2 ^ 62 ∧ -(2 ^ 62) ≤ j' ∧ j' < 2 ^ 62) ∧ P i' j' := ⟨i, j, rfl, h0, h⟩
theorem st_yes {Q : Bool → Hp → Prop} (h : Q true H) : tYes σ H Q := h
end
section
variable {H H' : Hp} {a l p c : Addr} {u : HO} {b : Nat}
theorem nw_pen' {H0 : Hp} {b0 : Nat} {o : HO} (_ : Pen H0 p c b0) (n : Nw H H' l o) (h : Pen H p c b) : l ≠ p := nw_pen n h
theorem nw_cell' {H0 : Hp} {b0 : Nat} {o : HO} (_ : Pen H0 p c b0) (n : Nw H H' l o) (h : Pen H p c b) : l ≠ c := nw_cell n h
theorem none_pen' {H0 : Hp} {b0 : Nat} (_ : Pen H0 p c b0) (n : H l = none) (h : Pen H p c b) : l ≠ p := none_pen n h
theorem none_cell' {H0 : Hp} {b0 : Nat} (_ : Pen H0 p c b0) (n : H l = none) (h : Pen H p c b) : l ≠ c := none_cell n h
theorem tup_pen' {H0 : Hp} {b0 : Nat} {xs : List V} (_ : Pen H0 p c b0) (n : H l = some (.tup xs)) (h : Pen H p c b) : l ≠ p := tup_pen n h
theorem tup_cell' {H0 : Hp} {b0 : Nat} {xs : List V} (_ : Pen H0 p c b0) (n : H l = some (.tup xs)) (h : Pen H p c b) : l ≠ c := tup_cell n h
theorem ins_pen' {H0 : Hp} {b0 : Nat} {C dx : Addr} {fs : List (Str × V)} (_ : Pen H0 p c b0) (n : H l = some (.ins C dx fs)) (h : Pen H p c b) : l ≠ p := ins_pen n h
theorem ins_cell' {H0 : Hp} {b0 : Nat} {C dx : Addr} {fs : List (Str × V)} (_ : Pen H0 p c b0) (n : H l = some (.ins C dx fs)) (h : Pen H p c b) : l ≠ c := ins_cell n h
end
section
variable {K : PySem.W.Frag} {H : Hp} {σ : L2.St} {D : Ends} {m : Nat} {g : TG} {tb : TS} {tl : TE} {t : TA} {a : Addr} {xs : List V}
def rFor (J : It) (g : TG) (tb : TS) (D : Ends) (σ : L2.St) (H : Hp) : Prop := ∃ W : Nat → Nat → L2.St → Hp → Prop, (∃ m, W 0 m σ H) ∧ ∀ i m σ H, W i m σ H →
  (J.stop i H ∧ D.nx σ H) ∨ (J.go i H ∧ ∃ N : L2.St → Hp → Prop, (∀ σ' H', N σ' H' → ∃ m', m' < m ∧ W (i + 1) m' σ' H') ∧ ∀ x H', J.yld i H x H' → g x σ H' fun σ2 H2 => tb { D with nx := N, ct := N, bk := D.nx } σ2 H2)
theorem st_forR1 (h : t σ H fun us H1 => ∃ j : Int, us = [.int j] ∧ -(2 ^ 62) ≤ j ∧ j < 2 ^ 62 ∧ rFor (Itr 0 j.toNat) g tb D σ H1) : tFor (iRng1 t) g tb D σ H := h
theorem st_forR2 (h : t σ H fun us H1 => ∃ i j : Int, us = [.int i, .int j] ∧ (-(2 ^ 62) ≤ i ∧ i < 2 ^ 62 ∧ -(2 ^ 62) ≤ j ∧ j < 2 ^ 62) ∧ rFor (Itr i (j - i).toNat) g tb D σ H1) : tFor (iRng2 t) g tb D σ H := h
theorem st_forL (h : tl σ H fun x H1 => ∃ a, x = .ref a ∧ (∃ xs, SqL K H1 a xs) ∧ rFor (Itl K a) g tb D σ H1) : tFor (iList K tl) g tb D σ H := h
theorem st_forT (h : tl σ H fun x H1 => ∃ a, x = .ref a ∧ (∃ xs, SqT K H1 a xs) ∧ rFor (Itt K a) g tb D σ H1) : tFor (iTup K tl) g tb D σ H := h
theorem st_forE (h : t σ H fun us H1 => ∃ a xs, us = [.ref a] ∧ SqL K H1 a xs ∧ rFor (Ite K a) g tb D σ H1) : tFor (iEnum K t) g tb D σ H := h
theorem st_eE {P : Addr → Prop} (h : H a = some (.lst xs)) (q : P a) : ∃ a' xs, [V.ref a] = [.ref a'] ∧ SqL K H a' xs ∧ P a' := ⟨a, xs, rfl, SqL.of h, q⟩
end
section
end
end Gh
end
section
set_option Elab.async false
set_option linter.all false
set_option maxRecDepth 100000
set_option maxHeartbeats 4000000
namespace Gh
open PySem PySem.Spec PyProof.Rows L2
section
variable {H H' : Hp} {a l p c t : Addr} {o u : HO} {b : Nat} {xs : List V} {T : List (Addr × Str)} {C dx : Addr} {fs : List (Str × V)}
theorem Pen.extN (n : LamX.ExtN H H') (h : Pen H p c b) : Pen H' p c b := by
  obtain ⟨ns, i, z, h1, h2, h3⟩ := h
  exact ⟨ns, i, z, n _ _ h1 (fun _ z => by cases z), n _ _ h2 (fun _ z => by cases z), h3⟩
theorem tabs_of (h : LamX.Tabs T H) (k1 : ∀ a ps, H a = some (.tbl ps) → H' a = some (.tbl ps)) (k2 : ∀ a c q, H a = some (LamX.CodeO c q) → H' a = some (LamX.CodeO c q)) : LamX.Tabs T H' := fun q hq => by
  obtain ⟨ps, h1, h2, h3⟩ := h q hq
  refine ⟨ps, k1 _ _ h1, h2, fun pos cv hc => ?_⟩
  obtain ⟨c', e1, e2⟩ := h3 pos cv hc
  exact ⟨c', e1, k2 _ _ _ e2⟩
theorem tabs_keepL (n : Keep H H' l) (e : H l = some (.lst xs)) (h : LamX.Tabs T H) : LamX.Tabs T H' :=
  tabs_of h (fun a ps q => n _ _ q (ne_of q e (by intro z; cases z))) (fun a c q z => n _ _ z (ne_of z e (by intro y; unfold LamX.CodeO at y; cases y)))
theorem tabs_keepP (n : Keep H H' p) (pn : Pen H p c b) (h : LamX.Tabs T H) : LamX.Tabs T H' := by
  obtain ⟨ns, i, z, h1, h2, h3⟩ := pn
  exact tabs_keepL n h1 h
theorem keep_fr (n : Keep H H' p) : Fr H H' p := fun a o h e _ => n a o h e
theorem ext_fr (n : LamX.ExtN H H') : Fr H H' p := fun a o h _ z => n a o h z
end
section
variable {X : Cx} {H : Hp} {σ : L2.St} {Q : VK} {T : List (Addr × Str)} {TT : (XK → Hp → VK → Prop) → Hp → VK → Prop} {t : XK → TE}
def tAct (f c' : Addr) (q : Str) (tl : Hp → VK → Prop) : TE := fun σ H Q => σ[0]? = some (some (.ref f)) ∧ H c' = some (LamX.CodeO c' q) ∧ tl H Q
theorem takes_len {W : WX} (t : Takes X W) : Takes X (fun c d σ H => σ.length = X.N.length → W c d σ H) := fun u s' ⟨a, B, sI, pins, σ, H, cls, d, e, I, nb, up, sky, na, os, ag, w⟩ =>
  t u s' ⟨a, B, sI, pins, σ, H, cls, d, e, I, nb, up, sky, na, os, ag, w I.len⟩
def tTry (n : Nat) (body : XK → TS) : WX → TS := fun W D σ H => ∃ E : XK, (∀ cls d σ' H', E cls d H' → σ'.length = n → W cls d σ' H') ∧ body E D σ H
theorem try_act {W : WX} {st : List Stmt} {body : XK → TS} (n : Nat) (hn : X.N.length = n) (tk : Takes X W) (h : ∀ E : XK, (∃ W' : WX, Takes X W' ∧ ∀ cls d σ' H', E cls d H' → W' cls d σ' H') → PSs X st (body E)) : PSs X st (tTry n body W) := by
  refine ⟨fun pins s σ H D I h' => ?_⟩
  obtain ⟨E, hW, h1⟩ := h'
  refine (h E ⟨_, takes_len tk, fun cls d σ' H' e l => hW cls d σ' H' e (l.trans hn)⟩).run pins s σ H D I h1
end
end Gh
end
section
set_option Elab.async false
set_option linter.all false
set_option maxRecDepth 100000
set_option maxHeartbeats 4000000
namespace Gh
open PySem PySem.Spec PyProof.Rows L2
section
variable {prog : Program} {w : World} {A : Around} {E : Value → Shared → Prop} {s : Shared} {K : PySem.W.Frag} {x C f L : Addr} {h₀ : Heap} {m : Str → Option Value} {ox : Obj} {od : Option Obj} {b tb : Value}
open PySem.W in
open PySem.W in
end
section
variable {X : Cx} {CX : CXT} {k : Nat} {C f : Addr} {sp : Sp} {E : XK}
structure NeT (K : PySem.W.Frag) (C : Addr) : Prop where
  ne : PySem.W.findIn K (.ref C) "__ne__" = some (some (.builtin "object.__ne__"))
  ob : PySem.W.subIn K (.ref C) (.type "object") = some true
def neB (x : Str) (K : PySem.W.Frag) : Bool := He.eqO (PySem.W.findIn K (.ref (gd x K)) "__ne__") (some (some (.builtin "object.__ne__"))) && decide (PySem.W.subIn K (.ref (gd x K)) (.type "object") = some true)
theorem neB_ok {x : Str} {K : PySem.W.Frag} (h : neB x K = true) : NeT K (gd x K) := by
  obtain ⟨h1, h2⟩ := He.ba h
  exact ⟨He.eqO_ok h1, of_decide_eq_true h2⟩
end
end Gh
end
section
set_option Elab.async false
set_option linter.all false
set_option maxRecDepth 100000
set_option maxHeartbeats 4000000
namespace Gp
open PySem PySem.Spec PyProof.Rows L2 Gh
section
variable {α β γ : Type}
def nox : Tr α → Tr α
  | .ok a => .ok a
  | .ex _ _ => .bad
  | .bad => .bad
  | .draw m f => .draw m fun d => nox (f d)
theorem bd_ok (a : α) (k : α → Tr β) : bd (.ok a) k = k a := rfl
theorem bd_bd (m : Tr α) (k : α → Tr β) (l : β → Tr γ) : bd (bd m k) l = bd m fun a => bd (k a) l := by
  induction m with
  | draw m f ih =>
    show Tr.draw m _ = Tr.draw m _
    congr 1
    funext d
    exact ih d
  | _ => rfl
theorem al_bd {P : β → Nat → Prop} {E : Str → Fs → Nat → Prop} {m : Tr α} {k : α → Tr β} {b : Nat} : Al P E (bd m k) b ↔ Al (fun a b1 => Al P E (k a) b1) E m b := by
  induction m generalizing b with
  | draw m f ih =>
    constructor
    · rintro ⟨b', e, h1, h2, h3⟩
      exact ⟨b', e, h1, h2, fun d d0 d1 => (ih d).mp (h3 d d0 d1)⟩
    · rintro ⟨b', e, h1, h2, h3⟩
      exact ⟨b', e, h1, h2, fun d d0 d1 => (ih d).mpr (h3 d d0 d1)⟩
  | _ => exact Iff.rfl
theorem al_nox {P : α → Nat → Prop} {E E' : Str → Fs → Nat → Prop} {m : Tr α} {b : Nat} (h : Al P E (nox m) b) : Al P E' m b := by
  induction m generalizing b with
  | ok a => exact h
  | ex c fs => exact h.elim
  | bad => exact h
  | draw m f ih =>
    obtain ⟨b', e, h1, h2, h3⟩ := h
    exact ⟨b', e, h1, h2, fun d d0 d1 => ih d (h3 d d0 d1)⟩
end
section
variable {g : Gw} {U U' : Addr → Prop} {H H' : Hp}
theorem DenL.get : ∀ {vs : List V} {ds : List D} {i : Nat} {v : V}, DenL g U H vs ds → vs[i]? = some v → ∃ d, ds[i]? = some d ∧ Den g U H v d
  | _, _, i, v, .nil, e => by simp at e
  | _, _, 0, v, .cons a r, e => by simp at e; subst e; exact ⟨_, rfl, a⟩
  | _, _, i + 1, v, .cons a r, e => by
    obtain ⟨d, h1, h2⟩ := DenL.get (i := i) (v := v) r (by simpa using e)
    exact ⟨d, by simpa using h1, h2⟩
theorem DenL.take : ∀ {vs : List V} {ds : List D} (n : Nat), DenL g U H vs ds → DenL g U H (vs.take n) (ds.take n)
  | _, _, 0, _ => .nil
  | _, _, _ + 1, .nil => .nil
  | _, _, n + 1, .cons a r => .cons a (DenL.take n r)
theorem DenL.drop : ∀ {vs : List V} {ds : List D} (n : Nat), DenL g U H vs ds → DenL g U H (vs.drop n) (ds.drop n)
  | _, _, 0, r => r
  | _, _, _ + 1, .nil => .nil
  | _, _, n + 1, .cons a r => DenL.drop n r
theorem DenL.set : ∀ {vs : List V} {ds : List D} (n : Nat) {v : V} {d : D}, Den g U H v d → DenL g U H vs ds → DenL g U H (vs.set n v) (ds.set n d)
  | _, _, _, _, _, _, .nil => .nil
  | _, _, 0, _, _, h, .cons _ r => .cons h r
  | _, _, n + 1, _, _, h, .cons a r => .cons a (DenL.set n h r)
def putD (f : Str) (v : D) : List (Str × D) → List (Str × D)
  | [] => [(f, v)]
  | (g, x) :: r => if g = f then (g, v) :: r else (g, x) :: putD f v r
theorem DenF.put {f : Str} {v : V} {d : D} (h : Den g U H v d) : ∀ {vs : List (Str × V)} {ds : List (Str × D)}, DenF g U H vs ds → DenF g U H (putF f v vs) (putD f d ds)
  | _, _, .nil => .cons h .nil
  | _, _, .cons (n := m) a r => by
    unfold putF putD
    split
    · exact .cons h r
    · exact .cons a (DenF.put h r)
end
section
variable {g : Gw} {U U' : Addr → Prop} {H H' H1 H2 : Hp} {b : Nat}
theorem fr_same (s : L2.Same H H') {p : Addr} : Fr H H' p := fun a o h _ _ => s a o h
theorem UOk.new (u : UOk g U H) {a : Addr} (h : H a = none) : ¬ U a := fun z => by
  obtain ⟨o, e, _⟩ := u.al a z
  rw [h] at e
  cases e
end
section
variable {g : Gw} {U U' : Addr → Prop} {H H' H1 H2 : Hp} {b : Nat} {σ : L2.St} {ε : Env}
mutual
theorem Den.grow {x : Addr} (n : H x = none) : ∀ {v : V} {d : D}, Den g U H v d → Den g (fun a => U a ∨ a = x) H v d
  | _, _, .non => .non
  | _, _, .bl b => .bl b
  | _, _, .int i => .int i
  | _, _, .str x h => .str x h
  | _, _, .tup h k l r => .tup h (fun z => z.elim k (ne_of_none h n)) l (DenL.grow n r)
  | _, _, .tupW h l r => .tupW h l (DenL.grow n r)
  | _, _, .lst h k l r => .lst h (fun z => z.elim k (ne_of_none h n)) l (DenL.grow n r)
  | _, _, .obj h k r => .obj h (fun z => z.elim k (ne_of_none h n)) (DenF.grow n r)
  | _, _, .err h k h2 k2 r => .err h (fun z => z.elim k (ne_of_none h n)) h2 (fun z => z.elim k2 (ne_of_none h2 n)) (DenF.grow n r)
  | _, _, .pen => .pen
  | _, _, .cls c => .cls c
  | _, _, .dct h k => .dct h (fun z => z.elim k (ne_of_none h n))
  | _, _, .dic h k l r => .dic h (fun z => z.elim k (ne_of_none h n)) l (DenL.grow n r)
  | _, _, .dit h k l r => .dit h (fun z => z.elim k (ne_of_none h n)) l (DenL.grow n r)
theorem DenL.grow {x : Addr} (n : H x = none) : ∀ {vs : List V} {ds : List D}, DenL g U H vs ds → DenL g (fun a => U a ∨ a = x) H vs ds
  | _, _, .nil => .nil
  | _, _, .cons a r => .cons (Den.grow n a) (DenL.grow n r)
theorem DenF.grow {x : Addr} (n : H x = none) : ∀ {vs : List (Str × V)} {ds : List (Str × D)}, DenF g U H vs ds → DenF g (fun a => U a ∨ a = x) H vs ds
  | _, _, .nil => .nil
  | _, _, .cons a r => .cons (Den.grow n a) (DenF.grow n r)
end
theorem SlR.grow {x : Addr} (n : H x = none) {o : Option V} : ∀ {s : Sl}, SlR g U H o s → SlR g (fun a => U a ∨ a = x) H o s
  | .no, _ => trivial
  | .fz d, ⟨v, e, h⟩ => ⟨v, e, h.grow n⟩
  | .ow ds, ⟨a, vs, e, h, l, k, ua, n1, n2⟩ => ⟨a, vs, e, h, l, k.grow n, .inl ua, n1, n2⟩
  | .oi c fs, ⟨a, dx, fvs, e, h, k, ua, n1, n2⟩ => ⟨a, dx, fvs, e, h, k.grow n, .inl ua, n1, n2⟩
theorem Rel.grow {x : Addr} (r : Rel g U H σ ε) (n : H x = none) : Rel g (fun a => U a ∨ a = x) H σ ε := ⟨r.len, fun i s e => by
  obtain ⟨o, h1, h2⟩ := r.at_ i s e
  exact ⟨o, h1, h2.grow n⟩, r.apart⟩
def okL (g : Gw) (U : Addr → Prop) (H : Hp) (Q : List V → Hp → Prop) : List D → Nat → Prop := fun d b => ∀ v H', DenL g U H' v d → Wd g H' b → Fr H H' g.p → Q v H'
def okB (g : Gw) (U : Addr → Prop) (H : Hp) (Q : Bool → Hp → Prop) : Bool → Nat → Prop := fun d b => ∀ H', Wd g H' b → Fr H H' g.p → Q d H'
def SE (g : Gw) (E : XK) (ε : Env) (t : TE) (m : Tr D) : Prop := ∀ U σ H b Q, Rel g U H σ ε → Wd g H b → UOk g U H → Al (okP g U H Q) (exP g U E H) m b → t σ H Q
def SA (g : Gw) (E : XK) (ε : Env) (t : TA) (m : Tr (List D)) : Prop := ∀ U σ H b Q, Rel g U H σ ε → Wd g H b → UOk g U H → Al (okL g U H Q) (exP g U E H) m b → t σ H Q
def ST (g : Gw) (E : XK) (ε : Env) (t : TT) (m : Tr Bool) : Prop := ∀ U σ H b Q, Rel g U H σ ε → Wd g H b → UOk g U H → Al (okB g U H Q) (exP g U E H) m b → t σ H Q
def SR1 (g : Gw) (E : XK) (r : V → Hp → VK → Prop) (f : D → Tr D) : Prop := ∀ U H b x dx Q, Den g U H x dx → Wd g H b → UOk g U H → Al (okP g U H Q) (exP g U E H) (f dx) b → r x H Q
def SR2 (g : Gw) (E : XK) (r : R2) (f : D → D → Tr D) : Prop := ∀ U H b x y dx dy Q, Den g U H x dx → Den g U H y dy → Wd g H b → UOk g U H → Al (okP g U H Q) (exP g U E H) (f dx dy) b → r x y H Q
def SRL (g : Gw) (E : XK) (r : List V → Hp → VK → Prop) (f : List D → Tr D) : Prop := ∀ U H b xs dxs Q, DenL g U H xs dxs → Wd g H b → UOk g U H → Al (okP g U H Q) (exP g U E H) (f dxs) b → r xs H Q
theorem al_frX {α : Type} {E : XK} {P : α → Nat → Prop} {m : Tr α} (f : Fr H H1 g.p) (h : Al P (exP g U E H) m b) : Al P (exP g U E H1) m b := h.mono (fun _ _ h => h) (fun _ _ _ h => h.fr f)
variable {E : XK} {ta tb tc : TE} {ma mb : Tr D}
theorem SE.step {α : Type} {k : D → Tr α} {P : α → Nat → Prop} {Q : VK} (ha : SE g E ε ta ma) (R : Rel g U H σ ε) (W : Wd g H b) (u : UOk g U H) (h : Al P (exP g U E H) (bd ma k) b)
    (hk : ∀ v d H1 b1, Den g U H1 v d → Wd g H1 b1 → Fr H H1 g.p → Rel g U H1 σ ε → UOk g U H1 → Al P (exP g U E H1) (k d) b1 → Q v H1) : ta σ H Q :=
  ha U σ H b Q R W u ((al_bd.mp h).mono (fun d b1 h1 v H1 d1 w1 f1 => hk v d H1 b1 d1 w1 f1 (R.fr u f1) (u.fr f1 w1) (al_frX f1 h1)) (fun _ _ _ h => h))
theorem SA.step {α : Type} {t : TA} {m : Tr (List D)} {k : List D → Tr α} {P : α → Nat → Prop} {Q : List V → Hp → Prop} (ha : SA g E ε t m) (R : Rel g U H σ ε) (W : Wd g H b) (u : UOk g U H) (h : Al P (exP g U E H) (bd m k) b)
    (hk : ∀ v d H1 b1, DenL g U H1 v d → Wd g H1 b1 → Fr H H1 g.p → Rel g U H1 σ ε → UOk g U H1 → Al P (exP g U E H1) (k d) b1 → Q v H1) : t σ H Q :=
  ha U σ H b Q R W u ((al_bd.mp h).mono (fun d b1 h1 v H1 d1 w1 f1 => hk v d H1 b1 d1 w1 f1 (R.fr u f1) (u.fr f1 w1) (al_frX f1 h1)) (fun _ _ _ h => h))
theorem ST.step {α : Type} {t : TT} {m : Tr Bool} {k : Bool → Tr α} {P : α → Nat → Prop} {Q : Bool → Hp → Prop} (ha : ST g E ε t m) (R : Rel g U H σ ε) (W : Wd g H b) (u : UOk g U H) (h : Al P (exP g U E H) (bd m k) b)
    (hk : ∀ d H1 b1, Wd g H1 b1 → Fr H H1 g.p → Rel g U H1 σ ε → UOk g U H1 → Al P (exP g U E H1) (k d) b1 → Q d H1) : t σ H Q :=
  ha U σ H b Q R W u ((al_bd.mp h).mono (fun d b1 h1 H1 w1 f1 => hk d H1 b1 w1 f1 (R.fr u f1) (u.fr f1 w1) (al_frX f1 h1)) (fun _ _ _ h => h))
theorem se_var {i : Nat} {d : D} (h : ε[i]? = some (.fz d) := by rfl) : SE g E ε (tVar i) (.ok d) := fun U σ H b Q R W u q => by
  obtain ⟨o, e, v, rfl, dn⟩ := R.at_ i _ h
  exact ⟨v, e, okP.here q W dn⟩
theorem se_c {v : V} {d : D} (h : ∀ U H, Den g U H v d) : SE g E ε (tC v) (.ok d) := fun U σ H b Q R W u q => okP.here q W (h U H)
theorem se_int {i : Int} : SE g E ε (tC (.int i)) (.ok (.int i)) := se_c fun _ _ => .int i
theorem se_bl {i : Bool} : SE g E ε (tC (.bl i)) (.ok (.bl i)) := se_c fun _ _ => .bl i
theorem se_non : SE g E ε (tC .non) (.ok .non) := se_c fun _ _ => .non
theorem se_str {x : Str} (h : x.length ≤ sizeLine) : SE g E ε (tC (.str x)) (.ok (.str x)) := se_c fun _ _ => .str x h
theorem se_op {r : R2} {f : D → D → Tr D} (hr : SR2 g E r f) (ha : SE g E ε ta ma) (hb : SE g E ε tb mb) : SE g E ε (tOp r ta tb) (bd ma fun x => bd mb fun y => f x y) := fun U σ H b Q R W u q =>
  ha.step R W u q fun v d H1 b1 d1 w1 f1 R1 u1 q1 => hb.step R1 w1 u1 q1 fun v2 e H2 b2 d2 w2 f2 R2 u2 q2 => hr U H2 b2 v v2 d e Q (d1.fr u1 f2) d2 w2 u2 (q2.mono (fun _ _ h => h.fr (f1.trans f2)) (fun _ _ _ h => h))
theorem se_un {r : V → Hp → VK → Prop} {f : D → Tr D} (hr : SR1 g E r f) (ha : SE g E ε ta ma) : SE g E ε (tUn r ta) (bd ma f) := fun U σ H b Q R W u q =>
  ha.step R W u q fun v d H1 b1 d1 w1 f1 R1 u1 q1 => hr U H1 b1 v d Q d1 w1 u1 (q1.mono (fun _ _ h => h.fr f1) (fun _ _ _ h => h))
theorem sa_nil : SA g E ε tNil (.ok []) := fun U σ H b Q R W u q => q [] H .nil W Fr.refl
theorem sa_cons {t : TA} {m : Tr (List D)} (ha : SE g E ε ta ma) (hb : SA g E ε t m) : SA g E ε (tCons ta t) (bd ma fun x => bd m fun xs => .ok (x :: xs)) := fun U σ H b Q R W u q =>
  ha.step R W u q fun v d H1 b1 d1 w1 f1 R1 u1 q1 => hb.step R1 w1 u1 q1 fun v2 e H2 b2 d2 w2 f2 R2 u2 q2 => q2 (v :: v2) H2 (.cons (d1.fr u1 f2) d2) w2 (f1.trans f2)
theorem se_cl {r : List V → Hp → VK → Prop} {f : List D → Tr D} {t : TA} {m : Tr (List D)} (hr : SRL g E r f) (ha : SA g E ε t m) : SE g E ε (tCl r t) (bd m f) := fun U σ H b Q R W u q =>
  ha.step R W u q fun v d H1 b1 d1 w1 f1 R1 u1 q1 => hr U H1 b1 v d Q d1 w1 u1 (q1.mono (fun _ _ h => h.fr f1) (fun _ _ _ h => h))
theorem se_cb {r : List V → Hp → VK → Prop} {f : List D → Tr D} {t : TA} {m : Tr (List D)} (hr : SRL g E r f) (ha : SA g E ε t m) : SE g E ε (tCB r t) (bd m f) := se_cl hr ha
def asB : D → Tr Bool
  | .bl b => .ok b
  | _ => .bad
theorem al_asB {P : Bool → Nat → Prop} {X : Str → Fs → Nat → Prop} {d : D} (h : Al P X (asB d) b) : ∃ k, d = .bl k ∧ P k b := by
  cases d with
  | bl k => exact ⟨k, rfl, h⟩
  | _ => exact h.elim
theorem al_asBk {α : Type} {P : α → Nat → Prop} {X : Str → Fs → Nat → Prop} {d : D} {k : Bool → Tr α} (h : Al P X (bd (asB d) k) b) : ∃ c, d = .bl c ∧ Al P X (k c) b := al_asB (al_bd.mp h)
theorem den_bl {v : V} {k : Bool} (h : Den g U H v (.bl k)) : v = .bl k := by cases h; rfl
theorem sb_tst (ha : SE g E ε ta ma) : ST g E ε (tTest ta) (bd ma asB) := fun U σ H b Q R W u q =>
  ha.step R W u q fun v d H1 b1 d1 w1 f1 R1 u1 q1 => by
    obtain ⟨k, rfl, q2⟩ := al_asB q1
    exact ⟨k, den_bl d1, q2 H1 w1 f1⟩
theorem sb_tb (ha : SE g E ε ta ma) : ST g E ε (tB ta) (bd ma asB) := sb_tst ha
theorem sb_or {c d : TT} {m n : Tr Bool} (ha : ST g E ε c m) (hb : ST g E ε d n) : ST g E ε (tOr c d) (bd m fun k => if k = true then .ok true else n) := fun U σ H b Q R W u q =>
  ha.step R W u q fun k H1 b1 w1 f1 R1 u1 q1 => by
    cases k with
    | false => exact hb U σ H1 b1 Q R1 w1 u1 (q1.mono (fun _ _ h H' w f => h H' w (f1.trans f)) (fun _ _ _ h => h))
    | true => exact q1 H1 w1 f1
theorem sb_not {c : TT} {m : Tr Bool} (ha : ST g E ε c m) : ST g E ε (tNot c) (bd m fun k => .ok (!k)) := fun U σ H b Q R W u q =>
  ha.step R W u q fun k H1 b1 w1 f1 R1 u1 q1 => q1 H1 w1 f1
theorem se_if {c : TT} {m : Tr Bool} (hc : ST g E ε c m) (ha : SE g E ε ta ma) (hb : SE g E ε tb mb) : SE g E ε (tIf c ta tb) (bd m fun k => if k = true then ma else mb) := fun U σ H b Q R W u q =>
  hc.step R W u q fun k H1 b1 w1 f1 R1 u1 q1 => by
    have q2 := q1.mono (P' := okP g U H1 Q) (fun _ _ h => okP.fr f1 h) (fun _ _ _ h => h)
    cases k with
    | true => exact ha U σ H1 b1 Q R1 w1 u1 q2
    | false => exact hb U σ H1 b1 Q R1 w1 u1 q2
theorem se_andV (ha : SE g E ε ta ma) (hb : SE g E ε tb mb) : SE g E ε (tAndV ta tb) (bd (bd ma asB) fun k => if k = true then mb else .ok (.bl false)) := fun U σ H b Q R W u q => by
  rw [bd_bd] at q
  refine ha.step R W u q fun v d H1 b1 d1 w1 f1 R1 u1 q1 => ?_
  obtain ⟨k, rfl, q2⟩ := al_asBk q1
  refine ⟨k, den_bl d1, ?_⟩
  replace q2 := q2.mono (P' := okP g U H1 Q) (fun _ _ h => okP.fr f1 h) (fun _ _ _ h => h)
  cases k with
  | true => exact hb U σ H1 b1 Q R1 w1 u1 q2
  | false => exact okP.here q2 w1 (.bl false)
theorem se_notV (ha : SE g E ε ta ma) : SE g E ε (tNotV ta) (bd (bd ma asB) fun k => .ok (.bl (!k))) := fun U σ H b Q R W u q => by
  rw [bd_bd] at q
  refine ha.step R W u q fun v d H1 b1 d1 w1 f1 R1 u1 q1 => ?_
  obtain ⟨k, rfl, q2⟩ := al_asBk q1
  exact ⟨k, den_bl d1, q2 _ H1 (.bl (!k)) w1 f1⟩
theorem se_chain {r r' : R2} {f f' : D → D → Tr D} {mc : Tr D} (hr : SR2 g E r f) (hr' : SR2 g E r' f') (ha : SE g E ε ta ma) (hb : SE g E ε tb mb) (hc : SE g E ε tc mc) :
    SE g E ε (tChain r r' ta tb tc) (bd ma fun x => bd mb fun y => bd (bd (f x y) asB) fun k => if k = true then bd mc fun z => f' y z else .ok (.bl false)) := fun U σ H b Q R W u q =>
  ha.step R W u q fun v d H1 b1 d1 w1 f1 R1 u1 q1 => hb.step R1 w1 u1 q1 fun v2 e H2 b2 d2 w2 f2 R2 u2 q2 => by
    rw [bd_bd] at q2
    refine hr U H2 b2 v v2 d e _ (d1.fr u1 f2) d2 w2 u2 ((al_bd.mp q2).mono (fun z b3 h3 v3 H3 d3 w3 f3 => ?_) (fun _ _ _ h => h))
    obtain ⟨k, rfl, q3⟩ := al_asBk h3
    refine ⟨k, den_bl d3, ?_⟩
    have q4 := q3.mono (P' := okP g U H3 Q) (E' := exP g U E H3) (fun _ _ h => okP.fr ((f1.trans f2).trans f3) h) (fun _ _ _ h => h.fr f3)
    cases k with
    | false => exact okP.here q4 w3 (.bl false)
    | true =>
      refine hc.step (R2.fr u2 f3) w3 (u2.fr f3 w3) q4 fun v4 z H4 b4 d4 w4 f4 R4 u4 q5 => ?_
      exact hr' U H4 b4 v2 v4 e z Q (d2.fr u2 (f3.trans f4)) d4 w4 u4 (q5.mono (fun _ _ h => h.fr f4) (fun _ _ _ h => h))
theorem se_lst {t : TA} {m : Tr (List D)} (ha : SA g E ε t m) : SE g E ε (tLst t) (bd m fun ds => if ds.length ≤ sizeLine then .ok (.lst ds) else .bad) := fun U σ H b Q R W u q =>
  ha.step R W u q fun v d H1 b1 d1 w1 f1 R1 u1 q1 => by
    by_cases hl : d.length ≤ sizeLine
    · rw [if_pos hl] at q1
      have hl' : v.length ≤ sizeLine := by rw [d1.length]; exact hl
      refine ⟨hl', fun p np => ?_⟩
      have s := same_new (o := .lst v) np
      exact q1 _ _ (.lst upd_same (u1.new np) hl' (d1.ext (u1.extU (fr_same s)))) (w1.same s) (f1.trans (fr_same s))
    · rw [if_neg hl] at q1
      exact q1.elim
theorem se_tup {t : TA} {m : Tr (List D)} (ha : SA g E ε t m) : SE g E ε (tTup t) (bd m fun ds => if ds.length ≤ sizeLine then .ok (.tup ds) else .bad) := fun U σ H b Q R W u q =>
  ha.step R W u q fun v d H1 b1 d1 w1 f1 R1 u1 q1 => by
    by_cases hl : d.length ≤ sizeLine
    · rw [if_pos hl] at q1
      have hl' : v.length ≤ sizeLine := by rw [d1.length]; exact hl
      refine ⟨hl', fun p np => ?_⟩
      have s := same_new (o := .tup v) np
      exact q1 _ _ (.tup upd_same (u1.new np) hl' (d1.ext (u1.extU (fr_same s)))) (w1.same s) (f1.trans (fr_same s))
    · rw [if_neg hl] at q1
      exact q1.elim
theorem se_nox (ha : SE g (fun _ _ _ => False) ε ta ma) : SE g E ε ta (nox ma) := fun U σ H b Q R W u q => ha U σ H b Q R W u (al_nox q)
end
end Gp
end
section
set_option Elab.async false
set_option linter.all false
set_option maxRecDepth 100000
set_option maxHeartbeats 4000000
namespace Gp
open PySem PySem.Spec PyProof.Rows L2 Gh
section
variable {g : Gw} {Mt U0 U U' : Addr → Prop} {H0 H H' H1 H2 : Hp} {b b1 : Nat} {σ : L2.St} {ε ε' : Env} {E : XK} {W L W' : Type}
theorem UOk.ev (u : UOk g U H) (f : Fr H H' g.p) : Ev U H U H' := ⟨fun a o e n t => f a o e (fun z => n (z ▸ u.p)) t, fun _ _ _ n _ => n⟩
mutual
theorem Den.ev (e : Ev U H U' H') : ∀ {v : V} {d : D}, Den g U H v d → Den g U' H' v d
  | _, _, .non => .non
  | _, _, .bl b => .bl b
  | _, _, .int i => .int i
  | _, _, .str x h => .str x h
  | _, _, .tup h n l k => .tup (e.keep _ _ h n (fun _ z => by cases z)) (e.out _ _ h n (fun _ z => by cases z)) l (DenL.ev e k)
  | _, _, .tupW h l k => .tupW h l (DenL.ev e k)
  | _, _, .lst h n l k => .lst (e.keep _ _ h n (fun _ z => by cases z)) (e.out _ _ h n (fun _ z => by cases z)) l (DenL.ev e k)
  | _, _, .obj h n k => .obj (e.keep _ _ h n (fun _ z => by cases z)) (e.out _ _ h n (fun _ z => by cases z)) (DenF.ev e k)
  | _, _, .err h n h2 n2 k => .err (e.keep _ _ h n (fun _ z => by unfold exk at z; cases z)) (e.out _ _ h n (fun _ z => by unfold exk at z; cases z)) (e.keep _ _ h2 n2 (fun _ z => by cases z)) (e.out _ _ h2 n2 (fun _ z => by cases z)) (DenF.ev e k)
  | _, _, .pen => .pen
  | _, _, .cls c => .cls c
  | _, _, .dct h n => .dct (e.keep _ _ h n (fun _ z => by cases z)) (e.out _ _ h n (fun _ z => by cases z))
  | _, _, .dic h n l k => .dic (e.keep _ _ h n (fun _ z => by cases z)) (e.out _ _ h n (fun _ z => by cases z)) l (DenL.ev e k)
  | _, _, .dit h n l k => .dit (e.keep _ _ h n (fun _ z => by cases z)) (e.out _ _ h n (fun _ z => by cases z)) l (DenL.ev e k)
theorem DenL.ev (e : Ev U H U' H') : ∀ {vs : List V} {ds : List D}, DenL g U H vs ds → DenL g U' H' vs ds
  | _, _, .nil => .nil
  | _, _, .cons a r => .cons (Den.ev e a) (DenL.ev e r)
theorem DenF.ev (e : Ev U H U' H') : ∀ {vs : List (Str × V)} {ds : List (Str × D)}, DenF g U H vs ds → DenF g U' H' vs ds
  | _, _, .nil => .nil
  | _, _, .cons a r => .cons (Den.ev e a) (DenF.ev e r)
end
theorem flP.ev {U1 : Addr → Prop} {H1 : Hp} {D : Ends} {env : W → Env} {envL : L → Env} (e : Ev U H U1 H1) : ∀ {f : Fl W L}, flP g Mt U0 H0 U H D env envL f b → flP g Mt U0 H0 U1 H1 D env envL f b
  | .nx w, h => fun U' σ' H' e1 => h U' σ' H' (e.trans e1)
  | .rt d, h => h
  | .bk w, h => fun U' σ' H' e1 => h U' σ' H' (e.trans e1)
  | .ct w, h => fun U' σ' H' e1 => h U' σ' H' (e.trans e1)
def SS (g : Gw) (E : XK) (ε : Env) (t : TS) (env : W → Env) (envL : L → Env) (m : Tr (Fl W L)) : Prop := ∀ Mt U0 H0 U D σ H b, Stt g Mt U0 H0 U σ H b ε → Al (flP g Mt U0 H0 U H D env envL) (exS g Mt U0 H0 E) m b → t D σ H
theorem SE.sstep {t : TE} {m : Tr D} {k : D → Tr (Fl W L)} {Ds : Ends} {env : W → Env} {envL : L → Env} {Q : VK} (he : SE g E ε t m) (s : Stt g Mt U0 H0 U σ H b ε) (h : Al (flP g Mt U0 H0 U H Ds env envL) (exS g Mt U0 H0 E) (bd m k) b)
    (hk : ∀ v d H1 b1, Den g U H1 v d → Stt g Mt U0 H0 U σ H1 b1 ε → Al (flP g Mt U0 H0 U H1 Ds env envL) (exS g Mt U0 H0 E) (k d) b1 → Q v H1) : t σ H Q :=
  he U σ H b Q s.rel s.wd s.uok ((al_bd.mp h).mono (fun d b1 h1 v H1 d1 w1 f1 => hk v d H1 b1 d1 (s.fr f1 w1) (h1.mono (fun _ _ z => z.ev (s.uok.ev f1)) (fun _ _ _ z => z))) (fun _ _ _ h => exS.exP s h))
theorem SA.sstep {t : TA} {m : Tr (List D)} {k : (List D) → Tr (Fl W L)} {Ds : Ends} {env : W → Env} {envL : L → Env} {Q : List V → Hp → Prop} (he : SA g E ε t m) (s : Stt g Mt U0 H0 U σ H b ε) (h : Al (flP g Mt U0 H0 U H Ds env envL) (exS g Mt U0 H0 E) (bd m k) b)
    (hk : ∀ v d H1 b1, DenL g U H1 v d → Stt g Mt U0 H0 U σ H1 b1 ε → Al (flP g Mt U0 H0 U H1 Ds env envL) (exS g Mt U0 H0 E) (k d) b1 → Q v H1) : t σ H Q :=
  he U σ H b Q s.rel s.wd s.uok ((al_bd.mp h).mono (fun d b1 h1 v H1 d1 w1 f1 => hk v d H1 b1 d1 (s.fr f1 w1) (h1.mono (fun _ _ z => z.ev (s.uok.ev f1)) (fun _ _ _ z => z))) (fun _ _ _ h => exS.exP s h))
theorem ST.sstep {t : TT} {m : Tr Bool} {k : Bool → Tr (Fl W L)} {Ds : Ends} {env : W → Env} {envL : L → Env} {Q : Bool → Hp → Prop} (he : ST g E ε t m) (s : Stt g Mt U0 H0 U σ H b ε) (h : Al (flP g Mt U0 H0 U H Ds env envL) (exS g Mt U0 H0 E) (bd m k) b)
    (hk : ∀ d H1 b1,  Stt g Mt U0 H0 U σ H1 b1 ε → Al (flP g Mt U0 H0 U H1 Ds env envL) (exS g Mt U0 H0 E) (k d) b1 → Q d H1) : t σ H Q :=
  he U σ H b Q s.rel s.wd s.uok ((al_bd.mp h).mono (fun d b1 h1 H1 w1 f1 => hk d H1 b1 (s.fr f1 w1) (h1.mono (fun _ _ z => z.ev (s.uok.ev f1)) (fun _ _ _ z => z))) (fun _ _ _ h => exS.exP s h))
theorem ownAt_set {i j : Nat} {v : V} {d : D} {a : Addr} (h : OwnAt (σ.set i (some v)) (ε.set i (.fz d)) j a) : i ≠ j ∧ OwnAt σ ε j a := by
  obtain ⟨h1, h2⟩ := h
  by_cases e : i = j
  · subst e
    exfalso
    rcases h2 with ⟨ds, h2⟩ | ⟨c, fs, h2⟩
    · rw [List.getElem?_set_self' ] at h2
      cases q : ε[i]? with
      | none => rw [q] at h2; cases h2
      | some z => rw [q] at h2; cases h2
    · rw [List.getElem?_set_self'] at h2
      cases q : ε[i]? with
      | none => rw [q] at h2; cases h2
      | some z => rw [q] at h2; cases h2
  · rw [List.getElem?_set_ne e] at h1 h2
    exact ⟨e, h1, h2⟩
theorem Rel.set (r : Rel g U H σ ε) {v : V} {d : D} (i : Nat) (h : Den g U H v d) : Rel g U H (σ.set i (some v)) (ε.set i (.fz d)) := by
  refine ⟨by rw [List.length_set, List.length_set]; exact r.len, fun j s e => ?_, fun j k a n h1 h2 => r.apart j k a n (ownAt_set h1).2 (ownAt_set h2).2⟩
  by_cases q : i = j
  · subst q
    have hl : i < ε.length := by
      cases z : ε[i]? with
      | none => rw [List.getElem?_set_self', z] at e; cases e
      | some w => exact (List.getElem?_eq_some_iff.mp z).1
    rw [List.getElem?_set_self hl] at e
    cases e
    exact ⟨some v, List.getElem?_set_self (by rw [r.len]; exact hl), v, rfl, h⟩
  · rw [List.getElem?_set_ne q] at e ⊢
    exact r.at_ j s e
theorem Stt.set (s : Stt g Mt U0 H0 U σ H b ε) {v : V} {d : D} (i : Nat) (h : Den g U H v d) : Stt g Mt U0 H0 U (σ.set i (some v)) H b (ε.set i (.fz d)) :=
  ⟨s.rel.set i h, s.wd, s.uok, s.sub, fun j a o => s.own j a (ownAt_set o).2, s.ext, fun j ds a e1 e2 => (by
    obtain ⟨_, e3, e4⟩ := ownAt_set (a := a) (j := j) ⟨e2, .inl ⟨ds, e1⟩⟩
    rcases e4 with ⟨ds', e4⟩ | ⟨_, _, e4⟩
    · exact s.nu0 j ds' a e4 e3
    · by_cases q : i = j
      · subst q
        cases z : ε[i]? with
        | none => rw [List.getElem?_set_self', z] at e1; cases e1
        | some w => rw [List.getElem?_set_self', z] at e1; cases e1
      · rw [List.getElem?_set_ne q, e4] at e1
        cases e1), fun j c fs a e1 e2 => by
    by_cases q : i = j
    · subst q
      cases z : ε[i]? with
      | none => rw [List.getElem?_set_self', z] at e1; cases e1
      | some w => rw [List.getElem?_set_self', z] at e1; cases e1
    · rw [List.getElem?_set_ne q] at e1 e2
      exact s.oim j c fs a e1 e2⟩
theorem Le.get : ∀ {a b : Env}, Le a b → ∀ {i : Nat} {s : Sl}, a[i]? = some s → s = .no ∧ (∃ z, b[i]? = some z) ∨ b[i]? = some s
  | _, _, .nil, _, _, e => by simp at e
  | _, _, .s h, 0, _, e => .inr e
  | _, _, .n h, 0, _, e => by simp at e; exact .inl ⟨e.symm, _, rfl⟩
  | _, _, .s h, i + 1, z, e => by simpa using h.get (i := i) (s := z) (by simpa using e)
  | _, _, .n h, i + 1, z, e => by simpa using h.get (i := i) (s := z) (by simpa using e)
theorem ownAt_le (l : Le ε' ε) {i : Nat} {a : Addr} (h : OwnAt σ ε' i a) : OwnAt σ ε i a := by
  obtain ⟨h1, h2⟩ := h
  refine ⟨h1, ?_⟩
  rcases h2 with ⟨ds, h2⟩ | ⟨c, fs, h2⟩
  · rcases l.get h2 with ⟨z, _⟩ | z
    · cases z
    · exact .inl ⟨ds, z⟩
  · rcases l.get h2 with ⟨z, _⟩ | z
    · cases z
    · exact .inr ⟨c, fs, z⟩
theorem Stt.le (s : Stt g Mt U0 H0 U σ H b ε) (l : Le ε' ε) : Stt g Mt U0 H0 U σ H b ε' :=
  ⟨⟨s.rel.len.trans l.len.symm, fun i x e => by
    rcases l.get e with ⟨rfl, z, h⟩ | h
    · obtain ⟨o, h1, _⟩ := s.rel.at_ i z h
      exact ⟨o, h1, trivial⟩
    · exact s.rel.at_ i x h, fun i j a n h1 h2 => s.rel.apart i j a n (ownAt_le l h1) (ownAt_le l h2)⟩, s.wd, s.uok, s.sub, fun i a o => s.own i a (ownAt_le l o), s.ext, fun i ds a e1 e2 => (by
    rcases l.get e1 with ⟨z, _⟩ | z
    · cases z
    · exact s.nu0 i ds a z e2), fun i c fs a e1 e2 => by
    rcases l.get e1 with ⟨z, _⟩ | z
    · cases z
    · exact s.oim i c fs a z e2⟩
variable {env : W → Env} {envL : L → Env} {env' : W' → Env} {u ta tb : TS} {te : TE} {me : Tr D}
theorem ss_nx {w : W} (l : Le (env w) ε) : SS g E ε tNext env envL (.ok (.nx w)) := fun Mt U0 H0 U D σ H b s q => q U σ H Ev.refl (s.le l)
theorem ss_bk {w : L} (l : Le (envL w) ε) : SS g E ε (tSeq tBreak u) env envL (.ok (.bk w)) := fun Mt U0 H0 U D σ H b s q => q U σ H Ev.refl (s.le l)
theorem ss_asg {i : Nat} {k : D → Tr (Fl W L)} (he : SE g E ε te me) (hk : ∀ d, SS g E (ε.set i (.fz d)) u env envL (k d)) : SS g E ε (tSeq (tAsg te (gName i)) u) env envL (bd me k) := fun Mt U0 H0 U D σ H b s q =>
  he.sstep s q fun v d H1 b1 d1 s1 q1 => hk d Mt U0 H0 U D _ H1 b1 (s1.set i d1) q1
theorem ss_ret (he : SE g E ε te me) : SS g E ε (tSeq (tRet te) u) env envL (bd me fun d => .ok (.rt d)) := fun Mt U0 H0 U D σ H b s q =>
  he.sstep s q fun v d H1 b1 d1 s1 q1 => q1 v H1 (d1.sub fun a _ z => s1.sub a z) s1.wd s1.ext
theorem ss_drop {k : Tr (Fl W L)} (he : SE g E ε te me) (hk : SS g E ε u env envL k) : SS g E ε (tSeq (tDrop te) u) env envL (bd me fun _ => k) := fun Mt U0 H0 U D σ H b s q =>
  he.sstep s q fun v d H1 b1 d1 s1 q1 => hk Mt U0 H0 U D σ H1 b1 s1 q1
def ul0 {α : Type} (k : Tr α) (ds : List D) : Tr α := match ds with
  | [] => k
  | _ => .bad
def ul1 {α : Type} (k : D → Tr α) (ds : List D) : Tr α := match ds with
  | [x] => k x
  | _ => .bad
def ul2 {α : Type} (k : D → D → Tr α) (ds : List D) : Tr α := match ds with
  | [x, y] => k x y
  | _ => .bad
def ul3 {α : Type} (k : D → D → D → Tr α) (ds : List D) : Tr α := match ds with
  | [x, y, z] => k x y z
  | _ => .bad
def ul4 {α : Type} (k : D → D → D → D → Tr α) (ds : List D) : Tr α := match ds with
  | [x, y, z, w] => k x y z w
  | _ => .bad
section
variable {α : Type} {P : α → Nat → Prop} {X : Str → Fs → Nat → Prop} {ds : List D}
theorem al_ul0 {k : Tr α} (h : Al P X (ul0 k ds) b) : ds = [] ∧ Al P X k b := by
  unfold ul0 at h; split at h
  · exact ⟨rfl, h⟩
  · exact h.elim
theorem al_ul1 {k : D → Tr α} (h : Al P X (ul1 k ds) b) : ∃ x, ds = [x] ∧ Al P X (k x) b := by
  unfold ul1 at h; split at h
  · exact ⟨_, rfl, h⟩
  · exact h.elim
theorem al_ul2 {k : D → D → Tr α} (h : Al P X (ul2 k ds) b) : ∃ x y, ds = [x, y] ∧ Al P X (k x y) b := by
  unfold ul2 at h; split at h
  · exact ⟨_, _, rfl, h⟩
  · exact h.elim
theorem al_ul3 {k : D → D → D → Tr α} (h : Al P X (ul3 k ds) b) : ∃ x y z, ds = [x, y, z] ∧ Al P X (k x y z) b := by
  unfold ul3 at h; split at h
  · exact ⟨_, _, _, rfl, h⟩
  · exact h.elim
end
theorem denL_nil {vs : List V} (h : DenL g U H vs []) : vs = [] := by cases h; rfl
theorem denL_cons {vs : List V} {d : D} {ds : List D} (h : DenL g U H vs (d :: ds)) : ∃ v r, vs = v :: r ∧ Den g U H v d ∧ DenL g U H r ds := by
  cases h with
  | cons a r => exact ⟨_, _, rfl, a, r⟩
theorem denL_1 {vs : List V} {x : D} (h : DenL g U H vs [x]) : ∃ v, vs = [v] ∧ Den g U H v x := by
  obtain ⟨v, r, rfl, h1, h2⟩ := denL_cons h
  cases denL_nil h2
  exact ⟨v, rfl, h1⟩
theorem denL_2 {vs : List V} {x y : D} (h : DenL g U H vs [x, y]) : ∃ v w, vs = [v, w] ∧ Den g U H v x ∧ Den g U H w y := by
  obtain ⟨v, r, rfl, h1, h2⟩ := denL_cons h
  obtain ⟨w, rfl, h3⟩ := denL_1 h2
  exact ⟨v, w, rfl, h1, h3⟩
def bdF (m : Tr (Fl W' L)) (k : W' → Tr (Fl W L)) : Tr (Fl W L) := bd m fun f => match f with
  | .nx w => k w
  | .rt d => .ok (.rt d)
  | .bk l => .ok (.bk l)
  | .ct l => .ok (.ct l)
theorem SS.seq {m : Tr (Fl W' L)} {k : W' → Tr (Fl W L)} (h1 : SS g E ε ta env' envL m) (h2 : ∀ w, SS g E (env' w) u env envL (k w)) : SS g E ε (tSeq ta u) env envL (bdF m k) := fun Mt U0 H0 U D σ H b s q => by
  refine h1 Mt U0 H0 U { D with nx := u D } σ H b s ((al_bd.mp q).mono (fun f b1 h => ?_) (fun _ _ _ h => h))
  cases f with
  | nx w => exact fun U1 σ1 H1 e1 s1 => h2 w Mt U0 H0 U1 D σ1 H1 b1 s1 (Al.mono (fun _ _ z => z.ev e1) (fun _ _ _ z => z) h)
  | rt d => exact h
  | bk l => exact h
  | ct l => exact h
theorem ss_if0 {c : TT} {mc : Tr Bool} {m n : Tr (Fl W' L)} (hc : ST g E ε c mc) (ha : SS g E ε ta env' envL m) (hb : SS g E ε tb env' envL n) : SS g E ε (tIfS c ta tb) env' envL (bd mc fun k => if k = true then m else n) := fun Mt U0 H0 U D σ H b s q =>
  hc.sstep s q fun k H1 b1 s1 q1 => by
    cases k with
    | true => exact ha Mt U0 H0 U D σ H1 b1 s1 q1
    | false => exact hb Mt U0 H0 U D σ H1 b1 s1 q1
theorem ss_if {c : TT} {mc : Tr Bool} {m n : Tr (Fl W' L)} {k : W' → Tr (Fl W L)} (env' : W' → Env) (hc : ST g E ε c mc) (ha : SS g E ε ta env' envL m) (hb : SS g E ε tb env' envL n) (hk : ∀ w, SS g E (env' w) u env envL (k w)) :
    SS g E ε (tSeq (tIfS c ta tb) u) env envL (bdF (bd mc fun k => if k = true then m else n) k) := (ss_if0 hc ha hb).seq hk
theorem sx_name {i : Nat} {d : D} {m : Tr (Fl W L)} (h : SS g E (ε.set i (.fz d)) tb env envL m) : SX g E ε d (gName i) tb env envL m := fun Mt U0 H0 U D σ H b v s dn q => h Mt U0 H0 U D _ H b (s.set i dn) q
def un2 {α : Type} (d : D) (k : D → D → Tr α) : Tr α := match d with
  | .tup [x, y] => k x y
  | _ => .bad
theorem den_tup {v : V} {ds : List D} (h : Den g U H v (.tup ds)) : ∃ a vs, v = .ref a ∧ SqT g.K H a vs ∧ vs.length ≤ sizeLine ∧ DenL g U H vs ds := by
  cases h with
  | tup h n l k => exact ⟨_, _, rfl, SqT.of h, l, k⟩
  | tupW h l k => exact ⟨_, _, rfl, h H, l, k⟩
theorem al_un2 {α : Type} {P : α → Nat → Prop} {X : Str → Fs → Nat → Prop} {d : D} {k : D → D → Tr α} (h : Al P X (un2 d k) b) : ∃ x y, d = .tup [x, y] ∧ Al P X (k x y) b := by
  unfold un2 at h
  split at h
  · exact ⟨_, _, rfl, h⟩
  · exact h.elim
theorem sx_tup2 {i j : Nat} {d : D} {m : D → D → Tr (Fl W L)} (h : ∀ x y, SS g E ((ε.set i (.fz x)).set j (.fz y)) tb env envL (m x y)) : SX g E ε d (gTup g.K 2 (gCons (gName i) (gCons (gName j) gNil))) tb env envL (un2 d m) := fun Mt U0 H0 U D σ H b v s dn q => by
  obtain ⟨x, y, rfl, q1⟩ := al_un2 q
  obtain ⟨a, vs, rfl, sq, _, k⟩ := den_tup dn
  obtain ⟨v1, v2, rfl, e1, e2⟩ := denL_2 k
  exact ⟨a, [v1, v2], rfl, sq, rfl, v1, [v2], rfl, v2, [], rfl, rfl, h x y Mt U0 H0 U D _ H b ((s.set i e1).set j e2) q1⟩
theorem ss_unp {gt : TG} {k : D → Tr (Fl W L)} (he : SE g E ε te me) (hk : ∀ d, SX g E ε d gt u env envL (k d)) : SS g E ε (tSeq (tAsg te gt) u) env envL (bd me k) := fun Mt U0 H0 U D σ H b s q =>
  he.sstep s q fun v d H1 b1 d1 s1 q1 => hk d Mt U0 H0 U D σ H1 b1 v s1 d1 q1
def ItD (g : Gw) (U : Addr → Prop) (H : Hp) (J : It) (ds : List D) : Prop := ∀ i U1 H1 b, Ev U H U1 H1 → Wd g H1 b → UOk g U1 H1 →
  (∀ d, ds[i]? = some d → J.go i H1 ∧ ∀ x H2, J.yld i H1 x H2 → Den g U1 H2 x d ∧ L2.Same H1 H2) ∧ (ds.length = i → J.stop i H1)
def okI (g : Gw) (U : Addr → Prop) (H : Hp) (R : It → Hp → Prop) : List D → Nat → Prop := fun ds b => ∀ J H', ds.length ≤ sizeLine → ItD g U H' J ds → Wd g H' b → Fr H H' g.p → R J H'
def SI (g : Gw) (E : XK) (ε : Env) (wi : TI) (m : Tr (List D)) : Prop := ∀ U σ H b R, Rel g U H σ ε → Wd g H b → UOk g U H → Al (okI g U H R) (exP g U E H) m b → wi σ H R
def forF (f : D → W → Tr (Fl W W)) : List D → W → Tr (Fl W L)
  | [], w => .ok (.nx w)
  | x :: xs, w => bd (f x w) fun r => match r with
    | .nx w' => forF f xs w'
    | .ct w' => forF f xs w'
    | .bk w' => .ok (.nx w')
    | .rt d => .ok (.rt d)
theorem forF_cons (f : D → W → Tr (Fl W W)) (x : D) (xs : List D) (w : W) : forF (L := L) f (x :: xs) w = bd (f x w) fun r => match r with
    | .nx w' => forF f xs w'
    | .ct w' => forF f xs w'
    | .bk w' => .ok (.nx w')
    | .rt d => .ok (.rt d) := rfl
theorem ss_for0 {wi : TI} {gt : TG} {mi : Tr (List D)} {f : D → W → Tr (Fl W W)} {w0 : W} {tb : TS} (hi : SI g E ε wi mi) (l : Le (env w0) ε) (hb : ∀ d w, SX g E (env w) d gt tb env env (f d w)) : SS g E ε (tFor wi gt tb) env envL (bd mi fun ds => forF f ds w0) := fun Mt U0 H0 U D σ H b s q => by
  refine hi U σ H b _ s.rel s.wd s.uok ((al_bd.mp q).mono (fun ds b1 h1 J H1 hsz it w1 f1 => ?_) (fun _ _ _ h => exS.exP s h))
  refine ⟨fun i m σ' H' => ∃ b' w U', m = ds.length - i ∧ i ≤ ds.length ∧ Stt g Mt U0 H0 U' σ' H' b' (env w) ∧ Ev U H1 U' H' ∧ Al (flP g Mt U0 H0 U' H' D env envL) (exS g Mt U0 H0 E) (forF f (ds.drop i) w) b',
    ⟨ds.length, b1, w0, U, by simp, Nat.zero_le _, (s.fr f1 w1).le l, Ev.refl, Al.mono (fun _ _ z => z.ev (s.uok.ev f1)) (fun _ _ _ z => z) h1⟩, ?_⟩
  rintro i m σ' H' ⟨b', w, U', rfl, hle, s', e', q'⟩
  obtain ⟨it1, it2⟩ := it i U' H' b' e' s'.wd s'.uok
  by_cases hlt : i < ds.length
  · have ei : ds[i]? = some ds[i] := List.getElem?_eq_getElem hlt
    obtain ⟨go, y⟩ := it1 _ ei
    rw [List.drop_eq_getElem_cons hlt, forF_cons] at q'
    refine .inr ⟨go, fun σ2 H2 => ∃ b' w U2, Stt g Mt U0 H0 U2 σ2 H2 b' (env w) ∧ Ev U H1 U2 H2 ∧ Al (flP g Mt U0 H0 U2 H2 D env envL) (exS g Mt U0 H0 E) (forF f (ds.drop (i + 1)) w) b', ?_, ?_⟩
    · rintro σ2 H2 ⟨b2, w2, U2, s2, e2, q2⟩
      exact ⟨ds.length - (i + 1), by omega, b2, w2, U2, rfl, hlt, s2, e2, q2⟩
    · intro x H2 hy
      obtain ⟨dn, sm⟩ := y x H2 hy
      have s2 := s'.fr (fr_same sm) (s'.wd.same sm)
      have ev2 : Ev U' H' U' H2 := s'.uok.ev (fr_same sm)
      refine hb _ w Mt U0 H0 U' _ σ' H2 b' x s2 dn ((al_bd.mp q').mono (fun r b2 h2 => ?_) (fun _ _ _ z => z))
      cases r with
      | nx w' => exact fun U3 σ3 H3 e3 s3 => ⟨b2, w', U3, s3, e'.trans (ev2.trans e3), Al.mono (fun _ _ z => z.ev (ev2.trans e3)) (fun _ _ _ z => z) h2⟩
      | ct w' => exact fun U3 σ3 H3 e3 s3 => ⟨b2, w', U3, s3, e'.trans (ev2.trans e3), Al.mono (fun _ _ z => z.ev (ev2.trans e3)) (fun _ _ _ z => z) h2⟩
      | bk w' => exact fun U3 σ3 H3 e3 s3 => h2 U3 σ3 H3 (ev2.trans e3) s3
      | rt d => exact h2
  · have e : i = ds.length := by omega
    subst e
    rw [List.drop_length] at q'
    exact .inl ⟨it2 (rfl), q' U' σ' H' Ev.refl s'⟩
end
end Gp
end
section
set_option Elab.async false
set_option linter.all false
set_option maxRecDepth 100000
set_option maxHeartbeats 4000000
namespace Gp
open PySem PySem.Spec PyProof.Rows L2 Gh
section
variable {g : Gw} {Mt U0 U U' : Addr → Prop} {H0 H H' H1 H2 : Hp} {b b1 : Nat} {σ : L2.St} {ε ε' : Env} {E : XK} {W L W' : Type}
variable {env : W → Env} {envL : L → Env} {env' : W' → Env} {u ta tb : TS} {te : TE} {me : Tr D}
theorem ss_for {wi : TI} {gt : TG} {mi : Tr (List D)} {f : D → W' → Tr (Fl W' W')} {w0 : W'} {tb : TS} {k : W' → Tr (Fl W L)} (env' : W' → Env) (hi : SI g E ε wi mi) (l : Le (env' w0) ε) (hb : ∀ d w, SX g E (env' w) d gt tb env' env' (f d w)) (hk : ∀ w, SS g E (env' w) u env envL (k w)) :
    SS g E ε (tSeq (tFor wi gt tb) u) env envL (bdF (bd mi fun ds => forF f ds w0) k) := (ss_for0 hi l hb).seq hk
def whF (c : W → Tr Bool) (f : W → Tr (Fl W W)) : Nat → W → Tr (Fl W L)
  | 0, _ => .bad
  | n + 1, w => bd (c w) fun k => if k = true then bd (f w) fun r => match r with
    | .nx w' => whF c f n w'
    | .ct w' => whF c f n w'
    | .bk w' => .ok (.nx w')
    | .rt d => .ok (.rt d) else .ok (.nx w)
theorem whF_succ (c : W → Tr Bool) (f : W → Tr (Fl W W)) (n : Nat) (w : W) : whF (L := L) c f (n + 1) w = bd (c w) fun k => if k = true then bd (f w) fun r => match r with
    | .nx w' => whF c f n w'
    | .ct w' => whF c f n w'
    | .bk w' => .ok (.nx w')
    | .rt d => .ok (.rt d) else .ok (.nx w) := rfl
theorem ss_wh0 {c : TT} {mc : W → Tr Bool} {f : W → Tr (Fl W W)} {w0 : W} (n : Nat) (l : Le (env w0) ε) (hc : ∀ w, ST g E (env w) c (mc w)) (hb : ∀ w, SS g E (env w) tb env env (f w)) : SS g E ε (tWhile c tb) env envL (whF mc f n w0) := fun Mt U0 H0 U D σ H b s q => by
  refine ⟨fun m σ' H' => ∃ b' w U', Stt g Mt U0 H0 U' σ' H' b' (env w) ∧ Al (flP g Mt U0 H0 U' H' D env envL) (exS g Mt U0 H0 E) (whF mc f m w) b', ⟨n, b, w0, U, s.le l, q⟩, ?_⟩
  rintro m σ' H' ⟨b', w, U', s', q'⟩
  cases m with
  | zero => exact q'.elim
  | succ m =>
    rw [whF_succ] at q'
    refine (hc w).sstep s' q' fun k H1 b1 s1 q1 => ?_
    cases k with
    | false => exact q1 U' σ' H1 Ev.refl s1
    | true =>
      refine ⟨fun σ2 H2 => ∃ b' w U', Stt g Mt U0 H0 U' σ2 H2 b' (env w) ∧ Al (flP g Mt U0 H0 U' H2 D env envL) (exS g Mt U0 H0 E) (whF mc f m w) b', fun σ2 H2 h => ⟨m, Nat.lt_succ_self _, h⟩, ?_⟩
      refine hb w Mt U0 H0 U' _ σ' H1 b1 s1 ((al_bd.mp q1).mono (fun r b2 h2 => ?_) (fun _ _ _ z => z))
      cases r with
      | nx w' => exact fun U3 σ3 H3 e3 s3 => ⟨b2, w', U3, s3, Al.mono (fun _ _ z => z.ev e3) (fun _ _ _ z => z) h2⟩
      | ct w' => exact fun U3 σ3 H3 e3 s3 => ⟨b2, w', U3, s3, Al.mono (fun _ _ z => z.ev e3) (fun _ _ _ z => z) h2⟩
      | bk w' => exact fun U3 σ3 H3 e3 s3 => h2 U3 σ3 H3 e3 s3
      | rt d => exact h2
theorem ss_wh {c : TT} {mc : W' → Tr Bool} {f : W' → Tr (Fl W' W')} {w0 : W'} {k : W' → Tr (Fl W L)} (env' : W' → Env) (n : Nat) (l : Le (env' w0) ε) (hc : ∀ w, ST g E (env' w) c (mc w)) (hb : ∀ w, SS g E (env' w) tb env' env' (f w)) (hk : ∀ w, SS g E (env' w) u env envL (k w)) :
    SS g E ε (tSeq (tWhile c tb) u) env envL (bdF (whF mc f n w0) k) := (ss_wh0 n l hc hb).seq hk
def itD : D → Tr (List D)
  | .lst ds => .ok ds
  | .tup ds => .ok ds
  | .str x => .ok (x.cps.toList.map fun c => .str ⟨#[c]⟩)
  | _ => .bad
theorem den_lst {v : V} {ds : List D} (h : Den g U H v (.lst ds)) : ∃ a vs, v = .ref a ∧ H a = some (.lst vs) ∧ ¬ U a ∧ vs.length ≤ sizeLine ∧ DenL g U H vs ds := by
  cases h with
  | lst h n l k => exact ⟨_, _, rfl, h, n, l, k⟩
theorem den_str {v : V} {x : Str} (h : Den g U H v (.str x)) : v = .str x ∧ x.length ≤ sizeLine := by
  cases h with
  | str x h => exact ⟨rfl, h⟩
theorem den_int {v : V} {i : Int} (h : Den g U H v (.int i)) : v = .int i := by cases h; rfl
theorem den1 {c : Nat} : Den g U H (.str ⟨#[c]⟩) (.str ⟨#[c]⟩) := .str _ (by show 1 ≤ sizeLine; decide)
def rgD (lo : Int) (n : Nat) : List D := (List.range n).map fun i => .int (lo + (i : Nat))
theorem itd_rg (lo : Int) (n : Nat) : ItD g U H (Itr lo n) (rgD lo n) := fun i U1 H1 b e w u => by
  refine ⟨fun d hd => ?_, fun hl => by unfold rgD at hl; rw [List.length_map, List.length_range] at hl; exact Nat.le_of_eq hl⟩
  unfold rgD at hd
  rw [List.getElem?_map] at hd
  have hi : i < n := by
    cases q : (List.range n)[i]? with
    | none => rw [q] at hd; cases hd
    | some c =>
      have := (List.getElem?_eq_some_iff.mp q).1
      rwa [List.length_range] at this
  rw [List.getElem?_range hi] at hd
  cases hd
  refine ⟨hi, ?_⟩
  rintro y H2 ⟨rfl, rfl⟩
  exact ⟨.int _, fun _ _ z => z⟩
def rg1 (x : D) : Tr (List D) := match x with
  | .int j => if -(2 ^ 62) ≤ j ∧ j ≤ 16777216 then .ok (rgD 0 j.toNat) else .bad
  | _ => .bad
theorem si_rg1 {t : TA} {m : Tr (List D)} (ha : SA g E ε t m) : SI g E ε (iRng1 t) (bd m (ul1 rg1)) := fun U σ H b R rl wd u q =>
  ha.step rl wd u q fun v d H1 b1 d1 w1 f1 R1 u1 q1 => by
    obtain ⟨x, rfl, q2⟩ := al_ul1 q1
    obtain ⟨v, rfl, e1⟩ := denL_1 d1
    cases x with
    | int j =>
      cases den_int e1
      unfold rg1 at q2
      dsimp only at q2
      split at q2
      · rename_i hj
        exact ⟨j, rfl, hj.1, by omega, q2 _ H1 (by unfold rgD; rw [List.length_map, List.length_range, sizeLine_eq]; omega) (itd_rg 0 _) w1 f1⟩
      · exact q2.elim
    | _ => exact q2.elim
def lcF (f : D → Tr (Option D)) : List D → Tr (List D)
  | [] => .ok []
  | x :: xs => bd (f x) fun o => bd (lcF f xs) fun r => .ok (match o with | some y => y :: r | none => r)
theorem lcF_nil (f : D → Tr (Option D)) : lcF f [] = .ok [] := rfl
theorem lcF_cons (f : D → Tr (Option D)) (x : D) (xs : List D) : lcF f (x :: xs) = bd (f x) fun o => bd (lcF f xs) fun r => .ok (match o with | some y => y :: r | none => r) := rfl
def okO (g : Gw) (U : Addr → Prop) (H : Hp) (Q : Option V → Hp → Prop) : Option D → Nat → Prop
  | some y, b => ∀ w H', Den g U H' w y → Wd g H' b → Fr H H' g.p → Q (some w) H'
  | none, b => ∀ H', Wd g H' b → Fr H H' g.p → Q none H'
def SC (g : Gw) (ε : Env) (d : D) (gt : TG) (tt : TT) (te : TE) (vs : List Nat) (m : Tr (Option D)) : Prop := ∀ U σ H b v (Q : Option V → Hp → Prop), Rel g U H σ ε → Wd g H b → UOk g U H → Den g U H v d → Al (okO g U H Q) (fun _ _ _ => False) m b →
  gt v (wipe σ vs) H fun σ2 H2 => wipe σ2 vs = wipe σ vs ∧ tt σ2 H2 fun k H3 => if k = true then te σ2 H3 (fun y H4 => Q (some y) H4) else Q none H3
theorem al_noX {α : Type} {P : α → Nat → Prop} {X : Str → Fs → Nat → Prop} {m : Tr α} (h : Al P X (nox m) b) : Al P (fun _ _ _ => False) m b := al_nox h
theorem se_lc {wi : TI} {gt : TG} {tt : TT} {vs : List Nat} {mi : Tr (List D)} {f : D → Tr (Option D)} (hi : SI g E ε wi mi) (hf : ∀ d, SC g ε d gt tt te vs (f d)) : SE g E ε (tLc wi gt tt te vs) (bd mi fun ds => bd (lcF (fun d => nox (f d)) ds) fun r => .ok (.lst r)) := fun U σ H b Q rl wd u q => by
  refine hi U σ H b _ rl wd u ((al_bd.mp q).mono (fun ds b1 h1 J H1 hsz it w1 f1 => ?_) (fun _ _ _ h => h))
  intro A nA
  have u1 := u.fr f1 w1
  have nUA : ¬ U A := u1.new nA
  have hp : A ≠ g.p := fun z => nUA (z ▸ u.p)
  have hc : A ≠ g.c := fun z => nUA (z ▸ u.c)
  have rl1 := (rl.fr u f1).grow nA
  generalize hV : (fun a => U a ∨ a = A) = V at rl1
  have VA : V A := by rw [← hV]; exact .inr rfl
  have VU : ∀ a, U a → V a := fun a z => by rw [← hV]; exact .inl z
  have VO : ∀ a o, H1 a = some o → ¬ U a → ¬ V a := fun a o e n => by
    rw [← hV]
    rintro (z | z)
    · exact n z
    · exact ne_of_none e nA z
  have uv : ∀ {H' : Hp} {b : Nat} {o : List L2.V}, Fr H1 H' g.p → Wd g H' b → H' A = some (.lst o) → UOk g V H' := fun f w h => ⟨VU _ u.p, VU _ u.c, fun a ha => by
    rw [← hV] at ha
    rcases ha with ha | rfl
    · exact (u1.fr f w).al a ha
    · exact ⟨_, h, fun _ z => by cases z⟩⟩
  refine ⟨fun i m H' => ∃ b' accV accD, m = ds.length - i ∧ i ≤ ds.length ∧ accV.length ≤ i ∧ H' A = some (.lst accV) ∧ DenL g V H' accV accD ∧ Wd g H' b' ∧ Fr H1 H' g.p ∧ Al (fun r b => okP g U H Q (.lst (accD ++ r)) b) (exP g U E H) (lcF (fun d => nox (f d)) (ds.drop i)) b', ?_, ?_⟩
  · refine ⟨ds.length, b1, [], [], by simp, Nat.zero_le _, Nat.zero_le _, upd_same, .nil, w1.same (same_new nA), fr_same (same_new nA), ?_⟩
    exact (al_bd.mp h1).mono (fun r b h => h) (fun _ _ _ h => h)
  · rintro i m H' ⟨b', accV, accD, rfl, hle, hla, hA, dA, w', f', q'⟩
    have u' := uv f' w' hA
    have ev' : Ev U H1 V H' := ⟨fun a o e n t => f' a o e (fun z => n (z ▸ u.p)) t, fun a o e n _ => VO a o e n⟩
    obtain ⟨it1, it2⟩ := it i V H' b' ev' w' u'
    by_cases hlt : i < ds.length
    · have ei : ds[i]? = some ds[i] := List.getElem?_eq_getElem hlt
      obtain ⟨go, y⟩ := it1 _ ei
      rw [List.drop_eq_getElem_cons hlt, lcF_cons] at q'
      refine .inr ⟨go, fun H' => ∃ b' accV accD, accV.length ≤ i + 1 ∧ H' A = some (.lst accV) ∧ DenL g V H' accV accD ∧ Wd g H' b' ∧ Fr H1 H' g.p ∧ Al (fun r b => okP g U H Q (.lst (accD ++ r)) b) (exP g U E H) (lcF (fun d => nox (f d)) (ds.drop (i + 1))) b', ?_, ?_⟩
      · rintro H2 ⟨b2, av, ad, h1, h2⟩
        exact ⟨ds.length - (i + 1), by omega, b2, av, ad, rfl, hlt, h1, h2⟩
      · intro x H2 hy
        obtain ⟨dn, sm⟩ := y x H2 hy
        have w2 := w'.same sm
        have f2 : Fr H1 H2 g.p := f'.trans (fr_same sm)
        have hA2 := sm _ _ hA
        refine hf ds[i] V σ H2 b' x (fun o H4 => match o with
          | some y => ∃ acc, H4 A = some (.lst acc) ∧ acc.length < sizeLine ∧ ∃ b' accV accD, accV.length ≤ i + 1 ∧ (upd H4 A (.lst (acc ++ [y]))) A = some (.lst accV) ∧ DenL g V (upd H4 A (.lst (acc ++ [y]))) accV accD ∧ Wd g (upd H4 A (.lst (acc ++ [y]))) b' ∧ Fr H1 (upd H4 A (.lst (acc ++ [y]))) g.p ∧ Al (fun r b => okP g U H Q (.lst (accD ++ r)) b) (exP g U E H) (lcF (fun d => nox (f d)) (ds.drop (i + 1))) b'
          | none => ∃ b' accV accD, accV.length ≤ i + 1 ∧ H4 A = some (.lst accV) ∧ DenL g V H4 accV accD ∧ Wd g H4 b' ∧ Fr H1 H4 g.p ∧ Al (fun r b => okP g U H Q (.lst (accD ++ r)) b) (exP g U E H) (lcF (fun d => nox (f d)) (ds.drop (i + 1))) b')
          (rl1.frp (VU _ u.p) f2) w2 (uv f2 w2 hA2) dn ((al_noX (al_bd.mp q')).mono (fun o b2 h2 => ?_) (fun _ _ _ z => z))
        have h3 := al_bd.mp h2
        cases o with
        | some y =>
          intro w H4 dw w4 f4
          have hA4 := f4 _ _ hA2 hp (fun _ z => by cases z)
          have e4 : ExtU V H4 (upd H4 A (.lst (accV ++ [w]))) := fun a o e n _ => by
            rw [upd_ne (fun z => n (by rw [z]; exact VA))]
            exact e
          have k4 : Keep H4 (upd H4 A (.lst (accV ++ [w]))) A := fun a o e n => by rw [upd_ne n]; exact e
          refine ⟨accV, hA4, Nat.lt_of_le_of_lt hla (Nat.lt_of_lt_of_le hlt hsz), b2, accV ++ [w], accD ++ [y], ?_, upd_same, ?_, ?_, ?_, ?_⟩
          · rw [List.length_append]
            exact Nat.add_le_add_right hla 1
          · exact DenL.append ((dA.ext (extU_of (VU _ u.p) ((fr_same sm).trans f4))).ext e4) (.cons (dw.ext e4) .nil)
          · exact ⟨w4.pen.keep k4 hp hc, tabs_keepL k4 hA4 w4.tabs⟩
          · intro a o e n t
            rw [upd_ne (ne_of_none e nA)]
            exact f4 _ _ (f2 a o e n t) n t
          · exact h3.mono (fun r b h => by
              have : okP g U H Q (.lst (accD ++ (y :: r))) b := h
              rw [List.append_cons] at this
              exact this) (fun _ _ _ z => z)
        | none =>
          intro H4 w4 f4
          exact ⟨b2, accV, accD, Nat.le_succ_of_le hla, f4 _ _ hA2 hp (fun _ z => by cases z), dA.ext (extU_of (VU _ u.p) ((fr_same sm).trans f4)), w4, f2.trans f4, h3.mono (fun r b h => h) (fun _ _ _ z => z)⟩
    · have e : i = ds.length := by omega
      subst e
      rw [List.drop_length, lcF_nil] at q'
      refine .inl ⟨it2 (rfl), ?_⟩
      have q2 : okP g U H Q (.lst (accD ++ [])) b' := q'
      rw [List.append_nil] at q2
      exact q2 _ H' (.lst hA nUA (Nat.le_trans hla hsz) (dA.sub fun a _ z => VU a z)) w' (f1.trans f')
end
end Gp
end
section
set_option Elab.async false
set_option linter.all false
set_option maxRecDepth 100000
set_option maxHeartbeats 4000000
namespace Gp
open PySem PySem.Spec PyProof.Rows L2 Gh
section
variable {g : Gw} {Mt U0 U U' : Addr → Prop} {H0 H H' H1 H2 : Hp} {b b1 : Nat} {σ : L2.St} {ε ε' : Env} {E : XK} {W L W' : Type}
variable {env : W → Env} {envL : L → Env} {env' : W' → Env} {u ta tb : TS} {te : TE} {me : Tr D}
theorem sc_map {i : Nat} {d : D} (he : SE g EF (ε.set i (.fz d)) te me) : SC g ε d (gName i) tYes te [i] (bd me fun y => .ok (some y)) := fun U σ H b v Q rl wd u dn q => by
  have e1 : wipe σ [i] = σ.set i none := rfl
  rw [e1]
  show wipe ((σ.set i none).set i (some v)) [i] = _ ∧ _
  rw [List.set_set]
  refine ⟨?_, ?_⟩
  · show (σ.set i (some v)).set i none = _
    rw [List.set_set]
  · show te (σ.set i (some v)) H fun y H4 => Q (some y) H4
    refine he.step (rl.set i dn) wd u (q.mono (fun _ _ z => z) (fun _ _ _ z => exP.F z)) fun y e H2 b2 d2 w2 f2 R2 u2 q2 => ?_
    exact q2 y H2 d2 w2 f2
theorem ownAt_setO {i j : Nat} {v : V} {ds : List D} {a : Addr} (h : OwnAt (σ.set i (some v)) (ε.set i (.ow ds)) j a) : (i = j ∧ v = .ref a) ∨ (i ≠ j ∧ OwnAt σ ε j a) := by
  obtain ⟨h1, h2⟩ := h
  by_cases e : i = j
  · subst e
    rw [List.getElem?_set_self'] at h1
    cases q : σ[i]? with
    | none => rw [q] at h1; cases h1
    | some z => rw [q] at h1; cases h1; exact .inl ⟨rfl, rfl⟩
  · rw [List.getElem?_set_ne e] at h1 h2
    exact .inr ⟨e, h1, h2⟩
theorem own_new {A : Addr} {vs : List V} {ds : List D} {i : Nat} (s : Stt g Mt U0 H0 U σ H b ε) (n : H A = none) (l : vs.length ≤ sizeLine) (dn : DenL g U H vs ds) (hA : A ≠ 0 ∨ True := .inr trivial) :
    Stt g Mt U0 H0 (fun a => U a ∨ a = A) (σ.set i (some (.ref A))) (upd H A (.lst vs)) b (ε.set i (.ow ds)) ∧ Ev U H (fun a => U a ∨ a = A) (upd H A (.lst vs)) := by
  have sm := same_new (o := .lst vs) n
  have nU : ¬ U A := s.uok.new n
  have hp : A ≠ g.p := fun z => nU (z ▸ s.uok.p)
  have hc : A ≠ g.c := fun z => nU (z ▸ s.uok.c)
  have r1 : Rel g (fun a => U a ∨ a = A) (upd H A (.lst vs)) σ ε := (s.rel.grow n).frp (.inl s.uok.p) (fr_same sm)
  have sig : ∀ j a, OwnAt σ ε j a → ∃ o, H a = some o := fun j a h => by
    obtain ⟨h1, ⟨ds, h2⟩ | ⟨c, fs, h2⟩⟩ := h
    · obtain ⟨o, e, a', vs, e2, h, _⟩ := s.rel.at_ j _ h2
      rw [h1] at e
      cases e
      cases e2
      exact ⟨_, h⟩
    · obtain ⟨o, e, a', dx, fvs, e2, h, _⟩ := s.rel.at_ j _ h2
      rw [h1] at e
      cases e
      cases e2
      exact ⟨_, h⟩
  refine ⟨⟨⟨by rw [List.length_set, List.length_set]; exact r1.len, fun j x e => ?_, fun j k a ne h1 h2 => ?_⟩, s.wd.same sm, ⟨.inl s.uok.p, .inl s.uok.c, fun a ha => ?_⟩, fun a z => .inl (s.sub a z), fun j a h => ?_, s.ext.trans (fr_same sm), fun j xs a e1 e2 => ?_, fun j c fs a e1 e2 => ?_⟩, fun a o e _ _ => sm a o e, fun a o e n1 _ => ?_⟩
  · by_cases q : i = j
    · subst q
      have hl : i < ε.length := by
        cases z : ε[i]? with
        | none => rw [List.getElem?_set_self', z] at e; cases e
        | some w => exact (List.getElem?_eq_some_iff.mp z).1
      rw [List.getElem?_set_self hl] at e
      cases e
      exact ⟨_, List.getElem?_set_self (by rw [r1.len]; exact hl), A, vs, rfl, upd_same, l, (dn.grow n).ext (fun a o e _ _ => sm a o e), .inr rfl, hp, hc⟩
    · rw [List.getElem?_set_ne q] at e ⊢
      exact r1.at_ j x e
  · rcases ownAt_setO h1 with ⟨rfl, z1⟩ | ⟨n1, z1⟩ <;> rcases ownAt_setO h2 with ⟨rfl, z2⟩ | ⟨n2, z2⟩
    · exact ne rfl
    · cases z1
      obtain ⟨o, e⟩ := sig _ _ z2
      rw [n] at e
      cases e
    · cases z2
      obtain ⟨o, e⟩ := sig _ _ z1
      rw [n] at e
      cases e
    · exact s.rel.apart j k a ne z1 z2
  · rcases ha with ha | rfl
    · obtain ⟨o, e, t⟩ := s.uok.al a ha
      exact ⟨o, sm a o e, t⟩
    · exact ⟨_, upd_same, fun _ z => by cases z⟩
  · rcases ownAt_setO h with ⟨rfl, z⟩ | ⟨_, z⟩
    · cases z
      by_cases m : Mt A
      · exact .inl m
      · refine .inr fun o q => ?_
        by_cases t : ∃ ps, o = .tbl ps
        · exact t
        · have := s.ext A o q hp m (fun ps z => t ⟨ps, z⟩)
          rw [n] at this
          cases this
    · exact s.own j a z
  · by_cases q : i = j
    · subst q
      rw [List.getElem?_set_self'] at e2
      cases z : σ[i]? with
      | none => rw [z] at e2; cases e2
      | some w =>
        rw [z] at e2
        cases e2
        exact fun h => nU (s.sub _ h)
    · rw [List.getElem?_set_ne q] at e1 e2
      exact s.nu0 j xs a e1 e2
  · by_cases q : i = j
    · subst q
      cases z : ε[i]? with
      | none => rw [List.getElem?_set_self', z] at e1; cases e1
      | some w => rw [List.getElem?_set_self', z] at e1; cases e1
    · rw [List.getElem?_set_ne q] at e1 e2
      exact s.oim j c fs a e1 e2
  · rintro (z | z)
    · exact n1 z
    · exact ne_of_none e n z
def okN (g : Gw) (U : Addr → Prop) (H : Hp) (Q : VK) : List D → Nat → Prop := fun ds b => ∀ A vs H1, H1 A = none → vs.length ≤ sizeLine → DenL g U H1 vs ds → Wd g H1 b → Fr H H1 g.p → Q (.ref A) (upd H1 A (.lst vs))
def SN (g : Gw) (E : XK) (ε : Env) (t : TE) (m : Tr (List D)) : Prop := ∀ U σ H b Q, Rel g U H σ ε → Wd g H b → UOk g U H → Al (okN g U H Q) (exP g U E H) m b → t σ H Q
theorem sn_lst {t : TA} {m : Tr (List D)} (ha : SA g E ε t m) : SN g E ε (tLst t) (bd m fun ds => if ds.length ≤ sizeLine then .ok ds else .bad) := fun U σ H b Q R W u q =>
  ha.step R W u q fun v d H1 b1 d1 w1 f1 R1 u1 q1 => by
    by_cases hl : d.length ≤ sizeLine
    · rw [if_pos hl] at q1
      have hl' : v.length ≤ sizeLine := by rw [d1.length]; exact hl
      exact ⟨hl', fun p np => q1 p v H1 np hl' d1 w1 f1⟩
    · rw [if_neg hl] at q1
      exact q1.elim
theorem ss_own {i : Nat} {t : TE} {m : Tr (List D)} {k : List D → Tr (Fl W L)} (he : SN g E ε t m) (hk : ∀ ds, SS g E (ε.set i (.ow ds)) u env envL (k ds)) : SS g E ε (tSeq (tAsg t (gName i)) u) env envL (bd m k) := fun Mt U0 H0 U D σ H b s q =>
  he U σ H b _ s.rel s.wd s.uok ((al_bd.mp q).mono (fun ds b1 h1 A vs H1 n l dn w f => by
    obtain ⟨s1, e1⟩ := own_new (i := i) (s.fr f w) n l dn
    exact hk ds Mt U0 H0 _ D _ _ b1 s1 (h1.mono (fun _ _ z => z.ev ((s.uok.ev f).trans e1)) (fun _ _ _ z => z))) (fun _ _ _ h => exS.exP s h))
theorem own_mut {vs' : List V} {ds ds' : List D} {i : Nat} (s : Stt g Mt U0 H0 U σ H b ε) (hi : ε[i]? = some (.ow ds)) : ∃ a vs, σ[i]? = some (some (.ref a)) ∧ H a = some (.lst vs) ∧ vs.length ≤ sizeLine ∧ DenL g U H vs ds ∧ U a ∧ a ≠ g.p ∧ a ≠ g.c ∧
    ∀ vs' ds', vs'.length ≤ sizeLine → DenL g U H vs' ds' → Stt g Mt U0 H0 U σ (upd H a (.lst vs')) b (ε.set i (.ow ds')) ∧ Ev U H U (upd H a (.lst vs')) := by
  obtain ⟨o, eo, a, vs, rfl, h, l, dn, ua, n1, n2⟩ := s.rel.at_ i _ hi
  refine ⟨a, vs, eo, h, l, dn, ua, n1, n2, fun vs' ds' l' dn' => ?_⟩
  have kp : Keep H (upd H a (.lst vs')) a := fun x o e ne => by rw [upd_ne ne]; exact e
  have xt : ExtU U H (upd H a (.lst vs')) := fun x o e ne _ => kp x o e (fun z => ne (z ▸ ua))
  have il : i < ε.length := (List.getElem?_eq_some_iff.mp hi).1
  have ow : ∀ j x, OwnAt σ (ε.set i (.ow ds')) j x → OwnAt σ ε j x := fun j x z => by
    obtain ⟨z1, z2⟩ := z
    by_cases q : i = j
    · subst q
      exact ⟨z1, .inl ⟨ds, hi⟩⟩
    · rw [List.getElem?_set_ne q] at z2
      exact ⟨z1, z2⟩
  have apart : ∀ j x, i ≠ j → OwnAt σ ε j x → x ≠ a := fun j x ne z e => by
    subst e
    exact s.rel.apart i j x ne ⟨eo, .inl ⟨ds, hi⟩⟩ z
  refine ⟨⟨⟨by rw [List.length_set]; exact s.rel.len, fun j x e => ?_, fun j k x ne z1 z2 => s.rel.apart j k x ne (ow _ _ z1) (ow _ _ z2)⟩, ⟨s.wd.pen.keep kp n1 n2, tabs_keepL kp h s.wd.tabs⟩, ⟨s.uok.p, s.uok.c, fun x hx => ?_⟩, s.sub, fun j x z => s.own j x (ow _ _ z), fun x o e m1 m2 m3 => ?_, fun j xs x e1 e2 => ?_, fun j c fs x e1 e2 => ?_⟩, xt, fun _ _ _ n _ => n⟩
  · by_cases q : i = j
    · subst q
      rw [List.getElem?_set_self il] at e
      cases e
      exact ⟨_, eo, a, vs', rfl, upd_same, l', dn'.ext xt, ua, n1, n2⟩
    · rw [List.getElem?_set_ne q] at e
      obtain ⟨o, e1, e2⟩ := s.rel.at_ j x e
      refine ⟨o, e1, ?_⟩
      cases x with
      | no => trivial
      | fz d =>
        obtain ⟨v, e3, e4⟩ := e2
        exact ⟨v, e3, e4.ext xt⟩
      | ow ds2 =>
        obtain ⟨a2, v2, rfl, h2, l2, d2, u2, m1, m2⟩ := e2
        have ne := apart j a2 q ⟨e1, .inl ⟨ds2, e⟩⟩
        exact ⟨a2, v2, rfl, kp _ _ h2 ne, l2, d2.ext xt, u2, m1, m2⟩
      | oi c fs =>
        obtain ⟨a2, dx, v2, rfl, h2, d2, u2, m1, m2⟩ := e2
        have ne := apart j a2 q ⟨e1, .inr ⟨c, fs, e⟩⟩
        exact ⟨a2, dx, v2, rfl, kp _ _ h2 ne, d2.ext xt, u2, m1, m2⟩
  · by_cases q : x = a
    · subst q
      exact ⟨_, upd_same, fun _ z => by cases z⟩
    · obtain ⟨o, e, t⟩ := s.uok.al x hx
      exact ⟨o, kp x o e q, t⟩
  · have q : x ≠ a := fun z => by
      subst z
      rcases s.own i x ⟨eo, .inl ⟨ds, hi⟩⟩ with w | w
      · exact m2 w
      · obtain ⟨ps, z⟩ := w o e
        exact m3 ps z
    exact kp x o (s.ext x o e m1 m2 m3) q
  · by_cases q : i = j
    · subst q
      exact s.nu0 i ds x hi e2
    · rw [List.getElem?_set_ne q] at e1
      exact s.nu0 j xs x e1 e2
  · by_cases q : i = j
    · subst q
      rw [List.getElem?_set_self il] at e1
      cases e1
    · rw [List.getElem?_set_ne q] at e1
      exact s.oim j c fs x e1 e2
theorem ss_app {i : Nat} {ds : List D} {k : D → Tr (Fl W L)} (he : SE g E ε te me) (hk : ∀ d, SS g E (ε.set i (.ow (ds ++ [d]))) u env envL (k d)) (hi : ε[i]? = some (.ow ds) := by rfl) :
    SS g E ε (tSeq (tDrop (tBM g.K "list" rAppend (tVar i) (tCons te tNil))) u) env envL (bd me fun d => if ds.length < sizeLine then k d else .bad) := fun Mt U0 H0 U D σ H b s q => by
  obtain ⟨a, vs, e1, h1, l1, d1, ua, n1, n2, _⟩ := own_mut (vs' := []) (ds' := []) s hi
  refine ⟨.ref a, e1, .inl ⟨rfl, vs, SqL.of h1⟩, ?_⟩
  refine he.sstep s q fun v d H1 b1 dv s1 q1 => ?_
  obtain ⟨a', vs', e2, h2, l2, d2, _, _, _, mt⟩ := own_mut (vs' := []) (ds' := []) s1 hi
  rw [e1] at e2
  cases e2
  by_cases hl : ds.length < sizeLine
  · rw [if_pos hl] at q1
    have hl2 : vs'.length < sizeLine := by rw [d2.length]; exact hl
    obtain ⟨s2, ev⟩ := mt (vs' ++ [v]) (ds ++ [d]) (by rw [List.length_append]; exact hl2) (d2.append (.cons dv .nil))
    exact ⟨a, vs', v, rfl, rfl, h2, hl2, hk d Mt U0 H0 U D σ _ b1 s2 (q1.mono (fun _ _ z => z.ev ev) (fun _ _ _ z => z))⟩
  · rw [if_neg hl] at q1
    exact q1.elim
theorem ss_fz {i : Nat} {ds : List D} {m : Tr (Fl W L)} (hi : ε[i]? = some (.ow ds)) (h : SS g E (ε.set i (.fz (.lst ds))) u env envL m) : SS g E ε u env envL m := fun Mt U0 H0 U D σ H b s q => by
  obtain ⟨a, vs, e1, h1, l1, d1, ua, n1, n2, _⟩ := own_mut (vs' := []) (ds' := []) s hi
  have il : i < ε.length := (List.getElem?_eq_some_iff.mp hi).1
  have sub : ∀ x, (∃ o, H x = some o) → (U x ∧ x ≠ a) → U x := fun x _ z => z.1
  have ow : ∀ j x, OwnAt σ (ε.set i (.fz (.lst ds))) j x → i ≠ j ∧ OwnAt σ ε j x := fun j x z => by
    obtain ⟨z1, z2⟩ := z
    by_cases q : i = j
    · subst q
      exfalso
      rcases z2 with ⟨y, z2⟩ | ⟨y1, y2, z2⟩
      · rw [List.getElem?_set_self il] at z2
        cases z2
      · rw [List.getElem?_set_self il] at z2
        cases z2
    · rw [List.getElem?_set_ne q] at z2
      exact ⟨q, z1, z2⟩
  have apart : ∀ j x, i ≠ j → OwnAt σ ε j x → x ≠ a := fun j x ne z e => by
    subst e
    exact s.rel.apart i j x ne ⟨e1, .inl ⟨ds, hi⟩⟩ z
  have ev : Ev U H (fun x => U x ∧ x ≠ a) H := ⟨fun _ _ e _ _ => e, fun _ _ _ n _ z => n z.1⟩
  refine h Mt U0 H0 (fun x => U x ∧ x ≠ a) D σ H b ⟨⟨by rw [List.length_set]; exact s.rel.len, fun j x e => ?_, fun j k x ne z1 z2 => s.rel.apart j k x ne (ow _ _ z1).2 (ow _ _ z2).2⟩, s.wd, ⟨⟨s.uok.p, n1.symm⟩, ⟨s.uok.c, n2.symm⟩, fun x hx => s.uok.al x hx.1⟩, fun x z => ⟨s.sub x z, fun e => s.nu0 i ds x hi (by rw [e1, e]) z⟩, fun j x z => s.own j x (ow _ _ z).2, s.ext, fun j xs x z1 z2 => ?_, fun j c fs x z1 z2 => ?_⟩ (q.mono (fun _ _ z => z.ev ev) (fun _ _ _ z => z))
  · by_cases q : i = j
    · subst q
      rw [List.getElem?_set_self il] at e
      cases e
      exact ⟨_, e1, _, rfl, .lst h1 (fun z => z.2 rfl) l1 (d1.sub sub)⟩
    · rw [List.getElem?_set_ne q] at e
      obtain ⟨o, e3, e2⟩ := s.rel.at_ j x e
      refine ⟨o, e3, ?_⟩
      cases x with
      | no => trivial
      | fz d =>
        obtain ⟨v, e4, e5⟩ := e2
        exact ⟨v, e4, e5.sub sub⟩
      | ow ds2 =>
        obtain ⟨a2, v2, rfl, h2, l2, d2, u2, m1, m2⟩ := e2
        have ne := apart j a2 q ⟨e3, .inl ⟨ds2, e⟩⟩
        exact ⟨a2, v2, rfl, h2, l2, d2.sub sub, ⟨u2, ne⟩, m1, m2⟩
      | oi c fs =>
        obtain ⟨a2, dx, v2, rfl, h2, d2, u2, m1, m2⟩ := e2
        have ne := apart j a2 q ⟨e3, .inr ⟨c, fs, e⟩⟩
        exact ⟨a2, dx, v2, rfl, h2, d2.sub sub, ⟨u2, ne⟩, m1, m2⟩
  · obtain ⟨q, _, z3⟩ := ow j x ⟨z2, .inl ⟨xs, z1⟩⟩
    rw [List.getElem?_set_ne q] at z1
    exact s.nu0 j xs x z1 z2
  · by_cases q : i = j
    · subst q
      rw [List.getElem?_set_self il] at z1
      cases z1
    · rw [List.getElem?_set_ne q] at z1
      exact s.oim j c fs x z1 z2
end
end Gp
end
section
set_option Elab.async false
set_option linter.all false
set_option maxRecDepth 100000
set_option maxHeartbeats 4000000
namespace Gp
open PySem PySem.Spec PyProof.Rows L2 Gh
section
variable {g : Gw} {Mt U0 U U' : Addr → Prop} {H0 H H' H1 H2 : Hp} {b b1 : Nat} {σ : L2.St} {ε ε' : Env} {E : XK} {W L W' : Type}
variable {env : W → Env} {envL : L → Env} {env' : W' → Env} {u ta tb : TS} {te : TE} {me : Tr D}
def spF (K : PySem.W.Frag) (T : List (Addr × Str)) (F : List D → Tr D) : Sp := fun vs H Q E => ∃ p c U ds b, DenL ⟨K, T, p, c⟩ U H vs ds ∧ Wd ⟨K, T, p, c⟩ H b ∧ UOk ⟨K, T, p, c⟩ U H ∧ Al (okP ⟨K, T, p, c⟩ U H Q) (exP ⟨K, T, p, c⟩ U E H) (F ds) b
def envE : Empty → Env := fun e => nomatch e
theorem rel_start {N : List Str} {vs : List V} {ds : List D} (h : DenL g U H vs ds) : Rel g U H (L2.start N vs) (ds.map Sl.fz ++ List.replicate (N.length - ds.length) Sl.no) := by
  have no : ∀ i a, ¬ OwnAt (L2.start N vs) (ds.map Sl.fz ++ List.replicate (N.length - ds.length) Sl.no) i a := fun i a ⟨_, z⟩ => by
    have : ∀ s : Sl, (ds.map Sl.fz ++ List.replicate (N.length - ds.length) Sl.no)[i]? = some s → (∃ d, s = .fz d) ∨ s = .no := fun s e => by
      have m := List.mem_of_getElem? e
      rcases List.mem_append.mp m with m | m
      · obtain ⟨d, _, e⟩ := List.mem_map.mp m
        exact .inl ⟨d, e.symm⟩
      · exact .inr (List.mem_replicate.mp m).2
    rcases z with ⟨x, z⟩ | ⟨x, y, z⟩
    · rcases this _ z with ⟨d, e⟩ | e <;> cases e
    · rcases this _ z with ⟨d, e⟩ | e <;> cases e
  have hl := h.length
  refine ⟨?_, fun i s e => ?_, fun i j a _ h1 _ => (no i a h1).elim⟩
  · unfold L2.start
    simp only [List.length_append, List.length_map, List.length_replicate, hl]
  · unfold L2.start
    by_cases q : i < ds.length
    · rw [List.getElem?_append_left (by rw [List.length_map]; exact q), List.getElem?_map] at e
      rw [List.getElem?_append_left (by rw [List.length_map, hl]; exact q), List.getElem?_map]
      cases z : ds[i]? with
      | none => rw [z] at e; cases e
      | some d =>
        rw [z] at e
        cases e
        obtain ⟨v, hv, dn⟩ := h.getD z
        rw [hv]
        exact ⟨some v, rfl, v, rfl, dn⟩
    · rw [List.getElem?_append_right (by rw [List.length_map]; omega), List.length_map] at e
      rw [List.getElem?_append_right (by rw [List.length_map, hl]; omega), List.length_map, hl]
      have m := List.mem_of_getElem? e
      obtain ⟨n0, rfl⟩ := List.mem_replicate.mp m
      have i1 := (List.getElem?_eq_some_iff.mp e).1
      rw [List.length_replicate] at i1
      exact ⟨none, by rw [List.getElem?_replicate, if_pos i1], trivial⟩
theorem fn_of {K : PySem.W.Frag} {T : List (Addr × Str)} {N : List Str} {F : List D → Tr D} {vs : List V} {Q : VK} {t : TS} {envU : Unit → Env} (h : spF K T F vs H Q E)
    (hs : ∀ p c ds, (∃ (P : D → Nat → Prop) (X : Str → Fs → Nat → Prop) (b : Nat), Al P X (F ds) b) → ∃ m, F ds = fin m ∧ SS ⟨K, T, p, c⟩ E (ds.map Sl.fz ++ List.replicate (N.length - ds.length) Sl.no) t envU envE m) : t { nx := fun _ H' => Q .non H', rt := Q } (L2.start N vs) H := by
  obtain ⟨p, c, U, ds, b, dn, wd, u, al⟩ := h
  obtain ⟨m, e, ss⟩ := hs p c ds ⟨_, _, _, al⟩
  rw [e] at al
  have nn : ∀ i a, ¬ OwnAt (L2.start N vs) (ds.map Sl.fz ++ List.replicate (N.length - ds.length) Sl.no) i a := fun i a ⟨_, z⟩ => by
    have : ∀ s : Sl, (ds.map Sl.fz ++ List.replicate (N.length - ds.length) Sl.no)[i]? = some s → (∃ d, s = .fz d) ∨ s = .no := fun s e => by
      have m := List.mem_of_getElem? e
      rcases List.mem_append.mp m with m | m
      · obtain ⟨d, _, e⟩ := List.mem_map.mp m
        exact .inl ⟨d, e.symm⟩
      · exact .inr (List.mem_replicate.mp m).2
    rcases z with ⟨x, z⟩ | ⟨x, y, z⟩
    · rcases this _ z with ⟨d, e⟩ | e <;> cases e
    · rcases this _ z with ⟨d, e⟩ | e <;> cases e
  refine ss (fun _ => False) U H U _ _ H b ⟨rel_start dn, wd, u, fun _ z => z, fun i a z => (nn i a z).elim, fun _ _ z _ _ _ => z, fun i ds' a z1 z2 => (nn i a ⟨z2, .inl ⟨ds', z1⟩⟩).elim, fun i c fs a z1 z2 => (nn i a ⟨z2, .inr ⟨c, fs, z1⟩⟩).elim⟩ ((al_bd.mp al).mono (fun f b1 h1 => ?_) (fun c fs b1 h1 => ?_))
  · cases f with
    | nx w => exact fun U' σ' H' e s => h1 .non H' .non s.wd fun a o z1 z2 z3 => s.ext a o z1 z2 (fun z => z) z3
    | rt d => exact fun v H' dn w f => h1 v H' dn w fun a o z1 z2 z3 => f a o z1 z2 (fun z => z) z3
    | bk e => exact nomatch e
    | ct e => exact nomatch e
  · exact fun dd fvs H' z1 z2 z3 z4 z5 => h1 dd fvs H' z1 z2 z3 z4 fun a o y1 y2 y3 => z5 a o y1 y2 (fun z => z) y3
theorem le_no : ∀ (ε : Env) {n : Nat}, ε.length = n → Le (List.replicate n Sl.no) ε
  | [], _, rfl => .nil
  | x :: r, _, rfl => by
    show Le (List.replicate (r.length + 1) Sl.no) (x :: r)
    rw [List.replicate_succ]
    exact .n (le_no r rfl)
theorem fn_of0 {K : PySem.W.Frag} {T : List (Addr × Str)} {N : List Str} {F : Tr D} {vs : List V} {Q : VK} {t : TS} {envU : Unit → Env} {m : Tr (Fl Unit Empty)} (h : spF K T (ul0 F) vs H Q E) (hF : F = fin m) (hs : ∀ p c, SS ⟨K, T, p, c⟩ E (([] : List D).map Sl.fz ++ List.replicate (N.length - 0) Sl.no) t envU envE m) : t { nx := fun _ H' => Q .non H', rt := Q } (L2.start N vs) H :=
  fn_of h fun p c ds ⟨_, _, _, al⟩ => by
    obtain ⟨rfl, _⟩ := al_ul0 al
    exact ⟨m, hF, hs p c⟩
theorem fn_of1 {K : PySem.W.Frag} {T : List (Addr × Str)} {N : List Str} {F : D → Tr D} {vs : List V} {Q : VK} {t : TS} {envU : Unit → Env} {m : D → Tr (Fl Unit Empty)} (h : spF K T (ul1 F) vs H Q E) (hF : ∀ x, F x = fin (m x)) (hs : ∀ p c x, SS ⟨K, T, p, c⟩ E ([x].map Sl.fz ++ List.replicate (N.length - 1) Sl.no) t envU envE (m x)) : t { nx := fun _ H' => Q .non H', rt := Q } (L2.start N vs) H :=
  fn_of h fun p c ds ⟨_, _, _, al⟩ => by
    obtain ⟨x, rfl, _⟩ := al_ul1 al
    exact ⟨m x, hF x, hs p c x⟩
theorem fn_of2 {K : PySem.W.Frag} {T : List (Addr × Str)} {N : List Str} {F : D → D → Tr D} {vs : List V} {Q : VK} {t : TS} {envU : Unit → Env} {m : D → D → Tr (Fl Unit Empty)} (h : spF K T (ul2 F) vs H Q E) (hF : ∀ x y, F x y = fin (m x y)) (hs : ∀ p c x y, SS ⟨K, T, p, c⟩ E ([x, y].map Sl.fz ++ List.replicate (N.length - 2) Sl.no) t envU envE (m x y)) : t { nx := fun _ H' => Q .non H', rt := Q } (L2.start N vs) H :=
  fn_of h fun p c ds ⟨_, _, _, al⟩ => by
    obtain ⟨x, y, rfl, _⟩ := al_ul2 al
    exact ⟨m x y, hF x y, hs p c x y⟩
theorem fn_of3 {K : PySem.W.Frag} {T : List (Addr × Str)} {N : List Str} {F : D → D → D → Tr D} {vs : List V} {Q : VK} {t : TS} {envU : Unit → Env} {m : D → D → D → Tr (Fl Unit Empty)} (h : spF K T (ul3 F) vs H Q E) (hF : ∀ x y z, F x y z = fin (m x y z)) (hs : ∀ p c x y z, SS ⟨K, T, p, c⟩ E ([x, y, z].map Sl.fz ++ List.replicate (N.length - 3) Sl.no) t envU envE (m x y z)) : t { nx := fun _ H' => Q .non H', rt := Q } (L2.start N vs) H :=
  fn_of h fun p c ds ⟨_, _, _, al⟩ => by
    obtain ⟨x, y, z, rfl, _⟩ := al_ul3 al
    exact ⟨m x y z, hF x y z, hs p c x y z⟩
theorem spF_len {K : PySem.W.Frag} {T : List (Addr × Str)} {F : List D → Tr D} {n : Nat} (hn : ∀ (P : D → Nat → Prop) (X : Str → Fs → Nat → Prop) ds b, Al P X (F ds) b → ds.length = n) {vs : List V} {Q : VK} (h : spF K T F vs H Q E) : vs.length = n := by
  obtain ⟨p, c, U, ds, b, dn, wd, u, al⟩ := h
  rw [dn.length]
  exact hn _ _ _ _ al
theorem len0 {F : Tr D} (P : D → Nat → Prop) (X : Str → Fs → Nat → Prop) (ds : List D) (b : Nat) (h : Al P X (ul0 F ds) b) : ds.length = 0 := by obtain ⟨rfl, _⟩ := al_ul0 h; rfl
theorem len1 {F : D → Tr D} (P : D → Nat → Prop) (X : Str → Fs → Nat → Prop) (ds : List D) (b : Nat) (h : Al P X (ul1 F ds) b) : ds.length = 1 := by obtain ⟨_, rfl, _⟩ := al_ul1 h; rfl
theorem len2 {F : D → D → Tr D} (P : D → Nat → Prop) (X : Str → Fs → Nat → Prop) (ds : List D) (b : Nat) (h : Al P X (ul2 F ds) b) : ds.length = 2 := by obtain ⟨_, _, rfl, _⟩ := al_ul2 h; rfl
theorem len3 {F : D → D → D → Tr D} (P : D → Nat → Prop) (X : Str → Fs → Nat → Prop) (ds : List D) (b : Nat) (h : Al P X (ul3 F ds) b) : ds.length = 3 := by obtain ⟨_, _, _, rfl, _⟩ := al_ul3 h; rfl
theorem srl_sp0 {F : List D → Tr D} : SRL g E (rSp (spF g.K g.T F) [] E) F := fun U H b xs dxs Q dn wd u q =>
  ⟨g.p, g.c, U, dxs, b, by rw [List.append_nil]; exact dn, wd, u, q⟩
theorem den_obj {v : V} {c : Str} {fs : Fs} (h : Den g U H v (.obj c fs)) : ∃ a dx fvs, v = .ref a ∧ H a = some (.ins (gd c g.K) dx fvs) ∧ ¬ U a ∧ DenF g U H fvs fs := by
  cases h with
  | obj h n k => exact ⟨_, _, _, rfl, h, n, k⟩
def finI (m : Tr (Fl Fs Empty)) : Tr Fs := bd m fun f => match f with
  | .nx fs => .ok fs
  | .rt _ => .bad
  | .bk e => nomatch e
  | .ct e => nomatch e
end
end Gp
end
section
set_option Elab.async false
set_option linter.all false
set_option maxRecDepth 100000
set_option maxHeartbeats 4000000
namespace Gp
open PySem PySem.Spec PyProof.Rows L2 Gh
section
variable {g : Gw} {U : Addr → Prop} {H H' H1 : Hp} {b : Nat} {E : XK} {Q : VK}
theorem denL_dp {K : PySem.W.Frag} : ∀ {vs : List V} {ds : List D} {es : List PyData}, DenL g U H vs ds → (∀ d ∈ ds, ∀ v e, Den g U H v d → toPy d = some e → Dp g.K H v e) → toPyL ds = some es → DpAll g.K H vs es
  | _, _, _, .nil, _, h => by cases h; exact .nil
  | _, d :: ds, es, .cons a r, ih, h => by
    unfold toPyL at h
    cases e1 : toPy d with
    | none => rw [e1] at h; cases h
    | some e =>
      cases e2 : toPyL ds with
      | none => rw [e1, e2] at h; cases h
      | some es' =>
        rw [e1, e2] at h
        cases h
        exact .cons (ih d List.mem_cons_self _ _ a e1) (denL_dp (K := K) r (fun d hd => ih d (List.mem_cons_of_mem _ hd)) e2)
theorem den_dp : ∀ (d : D) {v : V} {e : PyData}, Den g U H v d → toPy d = some e → Dp g.K H v e
  | .non, _, _, h, z => by cases h; cases z; exact .non
  | .bl b, _, _, h, z => by cases h; cases z; exact .bl b
  | .int i, _, _, h, z => by cases h; cases z; exact .int i
  | .str x, _, _, h, z => by cases h; cases z; exact .str x
  | .tup ds, v, e, h, z => by
    unfold toPy at z
    cases q : toPyL ds with
    | none => rw [q] at z; cases z
    | some es =>
      rw [q] at z
      cases z
      obtain ⟨a, vs, rfl, sq, _, k⟩ := den_tup h
      exact .tup sq (denL_dp (K := g.K) k (fun d hd v e h1 h2 => den_dp d h1 h2) q)
  | .lst ds, v, e, h, z => by
    unfold toPy at z
    cases q : toPyL ds with
    | none => rw [q] at z; cases z
    | some es =>
      rw [q] at z
      cases z
      obtain ⟨a, vs, rfl, hh, _, _, k⟩ := den_lst h
      exact .lst (SqL.of hh) (denL_dp (K := g.K) k (fun d hd v e h1 h2 => den_dp d h1 h2) q)
  | .obj _ _, _, _, _, z => by cases z
  | .err _ _, _, _, _, z => by cases z
  | .pen, _, _, _, z => by cases z
theorem new_lst {vs : List V} {ds : List D} (q : okP g U H Q (.lst ds) b) (w : Wd g H b) (u : UOk g U H) (l : vs.length ≤ sizeLine) (dn : DenL g U H vs ds) : ∀ p, H p = none → Q (.ref p) (upd H p (.lst vs)) := fun p np =>
  q _ _ (.lst upd_same (u.new np) l (dn.ext (fun a o e _ _ => same_new np a o e))) (w.same (same_new np)) (fr_same (same_new np))
theorem new_tup {vs : List V} {ds : List D} (q : okP g U H Q (.tup ds) b) (w : Wd g H b) (u : UOk g U H) (l : vs.length ≤ sizeLine) (dn : DenL g U H vs ds) : ∀ p, H p = none → Q (.ref p) (upd H p (.tup vs)) := fun p np =>
  q _ _ (.tup upd_same (u.new np) l (dn.ext (fun a o e _ _ => same_new np a o e))) (w.same (same_new np)) (fr_same (same_new np))
def iiD (f : Int → Int → D) (x y : D) : Tr D := match x, y with
  | .int i, .int j => .ok (f i j)
  | _, _ => .bad
def iicD (c : Int → Int → Prop) [∀ i j, Decidable (c i j)] (f : Int → Int → D) (x y : D) : Tr D := match x, y with
  | .int i, .int j => if c i j then .ok (f i j) else .bad
  | _, _ => .bad
theorem al_ii {P : D → Nat → Prop} {X : Str → Fs → Nat → Prop} {f : Int → Int → D} {x y : D} (h : Al P X (iiD f x y) b) : ∃ i j, x = .int i ∧ y = .int j ∧ P (f i j) b := by
  unfold iiD at h
  split at h
  · exact ⟨_, _, rfl, rfl, h⟩
  · exact h.elim
theorem al_iic {P : D → Nat → Prop} {X : Str → Fs → Nat → Prop} {c : Int → Int → Prop} [∀ i j, Decidable (c i j)] {f : Int → Int → D} {x y : D} (h : Al P X (iicD c f x y) b) : ∃ i j, x = .int i ∧ y = .int j ∧ c i j ∧ P (f i j) b := by
  unfold iicD at h
  split at h
  · split at h
    · exact ⟨_, _, rfl, rfl, by assumption, h⟩
    · exact h.elim
  · exact h.elim
theorem sr_ii {f : Int → Int → D} {f' : Int → Int → V} (hf : ∀ i j U H, Den g U H (f' i j) (f i j)) : SR2 g E (rI0 f') (iiD f) := fun U H b x y dx dy Q d1 d2 w u q => by
  obtain ⟨i, j, rfl, rfl, q1⟩ := al_ii q
  cases den_int d1
  cases den_int d2
  exact ⟨i, j, rfl, rfl, okP.here q1 w (hf i j U H)⟩
theorem sr_iic {c : Int → Int → Prop} [∀ i j, Decidable (c i j)] {c' : Int → Int → Prop} {f : Int → Int → D} {f' : Int → Int → V} (hc : ∀ i j, c i j → c' i j) (hf : ∀ i j U H, Den g U H (f' i j) (f i j)) : SR2 g E (rI c' f') (iicD c f) := fun U H b x y dx dy Q d1 d2 w u q => by
  obtain ⟨i, j, rfl, rfl, hij, q1⟩ := al_iic q
  cases den_int d1
  cases den_int d2
  exact ⟨i, j, rfl, rfl, hc i j hij, okP.here q1 w (hf i j U H)⟩
def ltD : D → D → Tr D := iiD fun i j => .bl (decide (i < j))
def leD : D → D → Tr D := iiD fun i j => .bl (decide (i ≤ j))
def gtD : D → D → Tr D := iiD fun i j => .bl (decide (j < i))
def geD : D → D → Tr D := iiD fun i j => .bl (decide (j ≤ i))
def subD : D → D → Tr D := iiD fun i j => .int (i - j)
def modD : D → D → Tr D := iicD (fun _ j => 0 < j) fun i j => .int (i % j)
def divD : D → D → Tr D := iicD (fun _ j => 0 < j ∧ j < 10 ^ 100) fun i j => .int (i / j)
theorem sr_lt : SR2 g E (rI0 fun i j => .bl (decide (i < j))) ltD := sr_ii fun _ _ _ _ => .bl _
theorem sr_le : SR2 g E (rI0 fun i j => .bl (decide (i ≤ j))) leD := sr_ii fun _ _ _ _ => .bl _
theorem sr_gt : SR2 g E (rI0 fun i j => .bl (decide (j < i))) gtD := sr_ii fun _ _ _ _ => .bl _
theorem sr_sub : SR2 g E (rI0 fun i j => .int (i - j)) subD := sr_ii fun _ _ _ _ => .int _
theorem sr_mod : SR2 g E (rI (fun _ j => 0 < j) fun i j => .int (i % j)) modD := sr_iic (fun _ _ h => h) fun _ _ _ _ => .int _
def negD (x : D) : Tr D := match x with
  | .int i => .ok (.int (-i))
  | _ => .bad
theorem sr_neg : SR1 g E (rU fun i => .int (-i)) negD := fun U H b x dx Q d1 w u q => by
  cases dx with
  | int i =>
    cases den_int d1
    exact ⟨i, rfl, okP.here q w (.int _)⟩
  | _ => exact q.elim
def addD (x y : D) : Tr D := match x, y with
  | .int i, .int j => .ok (.int (i + j))
  | .str a, .str b => if a.length + b.length ≤ sizeLine then .ok (.str (a ++ b)) else .bad
  | .lst a, .lst b => if a.length + b.length ≤ sizeLine then .ok (.lst (a ++ b)) else .bad
  | .tup a, .tup b => if a.length + b.length ≤ sizeLine then .ok (.tup (a ++ b)) else .bad
  | _, _ => .bad
def rAddA (K : PySem.W.Frag) : R2 := fun x y H Q => rI0 (fun i j => .int (i + j)) x y H Q ∨ (∃ i j, x = .str i ∧ y = .str j ∧ i.length + j.length ≤ sizeLine ∧ Q (.str (i ++ j)) H) ∨ rCat x y H Q ∨ rCatA K x y H Q
theorem op_addA {X : Cx} {K : PySem.W.Frag} (h : X.K = K) : OpR X (binaryOp .Add) (rAddA K) := h ▸ op_add.or (op_add_str.or (op_cat.or op_catA))
theorem str_app_len (a b : Str) : (a ++ b).length = a.length + b.length := by
  show (a.cps ++ b.cps).size = _
  rw [Array.size_append]
  rfl
theorem sr_add : SR2 g E (rAddA g.K) addD := fun U H b x y dx dy Q d1 d2 w u q => by
  unfold addD at q
  split at q
  · rename_i i j
    cases den_int d1
    cases den_int d2
    exact .inl ⟨i, j, rfl, rfl, okP.here q w (.int _)⟩
  · rename_i a c
    split at q
    · rename_i h
      obtain ⟨rfl, l1⟩ := den_str d1
      obtain ⟨rfl, l2⟩ := den_str d2
      exact .inr (.inl ⟨a, c, rfl, rfl, h, okP.here q w (.str _ (by rw [str_app_len]; exact h))⟩)
    · exact q.elim
  · rename_i a c
    split at q
    · rename_i h
      obtain ⟨p1, v1, rfl, h1, n1, l1, k1⟩ := den_lst d1
      obtain ⟨p2, v2, rfl, h2, n2, l2, k2⟩ := den_lst d2
      have hl : v1.length + v2.length ≤ sizeLine := by rw [k1.length, k2.length]; exact h
      exact .inr (.inr (.inl ⟨p1, p2, v1, v2, rfl, rfl, h1, h2, hl, new_lst q w u (by rw [List.length_append]; exact hl) (k1.append k2)⟩))
    · exact q.elim
  · rename_i a c
    split at q
    · rename_i h
      obtain ⟨p1, v1, rfl, h1, l1, k1⟩ := den_tup d1
      obtain ⟨p2, v2, rfl, h2, l2, k2⟩ := den_tup d2
      have hl : v1.length + v2.length ≤ sizeLine := by rw [k1.length, k2.length]; exact h
      refine .inr (.inr (.inr ⟨p1, p2, v1, v2, rfl, rfl, h1, h2, hl, fun e => ?_, fun _ e => ?_, fun _ _ => new_tup q w u (by rw [List.length_append]; exact hl) (k1.append k2)⟩))
      · subst e
        cases k1
        exact okP.here q w d2
      · subst e
        cases k2
        rw [List.append_nil] at q
        exact okP.here q w d1
    · exact q.elim
  · exact q.elim
def mulD (x y : D) : Tr D := match x, y with
  | .int i, .int j => if (-(2 ^ 64) < i ∧ i < 2 ^ 64) ∨ (-(2 ^ 64) < j ∧ j < 2 ^ 64) then .ok (.int (i * j)) else .bad
  | .lst a, .int k => if -(2 ^ 63) ≤ k ∧ k < 2 ^ 63 ∧ a.length * k.toNat ≤ sizeLine then .ok (.lst (List.replicate k.toNat a).flatten) else .bad
  | _, _ => .bad
def rMulA : R2 := fun x y H Q => rI CMul (fun i j => .int (i * j)) x y H Q ∨ rRep x y H Q
theorem op_mulA {X : Cx} : OpR X (binaryOp .Mult) rMulA := op_mul.or op_rep
theorem denL_rep {vs : List V} {ds : List D} (h : DenL g U H vs ds) : ∀ n : Nat, DenL g U H (List.replicate n vs).flatten (List.replicate n ds).flatten
  | 0 => .nil
  | n + 1 => by
    rw [List.replicate_succ, List.replicate_succ, List.flatten_cons, List.flatten_cons]
    exact h.append (denL_rep h n)
theorem sr_mul : SR2 g E rMulA mulD := fun U H b x y dx dy Q d1 d2 w u q => by
  unfold mulD at q
  split at q
  · rename_i i j
    split at q
    · rename_i h
      cases den_int d1
      cases den_int d2
      exact .inl ⟨i, j, rfl, rfl, h, okP.here q w (.int _)⟩
    · exact q.elim
  · rename_i a k
    split at q
    · rename_i h
      obtain ⟨p1, v1, rfl, h1, n1, l1, k1⟩ := den_lst d1
      cases den_int d2
      have e : v1.length * k.toNat ≤ sizeLine := by rw [k1.length]; exact h.2.2
      refine .inr ⟨p1, k, v1, rfl, rfl, h1, h.1, h.2.1, e, new_lst q w u ?_ (denL_rep k1 _)⟩
      rw [(denL_rep k1 k.toNat).length, List.length_flatten, List.map_replicate, List.sum_replicate_nat, Nat.mul_comm]
      exact h.2.2
    · exact q.elim
  · exact q.elim
def eqS : D → D → Option Bool
  | .non, .non => some true | .non, .int _ => some false | .int _, .non => some false | .non, .bl _ => some false | .bl _, .non => some false | .non, .str _ => some false | .str _, .non => some false
  | .int i, .int j => some (decide (i = j)) | .bl a, .bl c => some (decide (a = c)) | .str a, .str c => some (decide (a = c))
  | .int _, .str _ => some false | .str _, .int _ => some false | .bl _, .str _ => some false | .str _, .bl _ => some false
  | _, _ => none
def eqB (x y : D) : Tr Bool := match eqS x y with
  | some b => .ok b
  | none => match toPy x, toPy y with
    | some a, some c => if SeqAt.shaped a = true ∧ SeqAt.shaped c = true then .ok (PyData.eqv a c) else .bad
    | _, _ => .bad
def eqD (x y : D) : Tr D := bd (eqB x y) fun k => .ok (.bl k)
def neD (x y : D) : Tr D := bd (eqB x y) fun k => .ok (.bl (!k))
def rEqA (K : PySem.W.Frag) : R2 := fun x y H Q => rEq x y H Q ∨ rEqD K x y H Q
def rNeA (K : PySem.W.Frag) : R2 := fun x y H Q => rNe x y H Q ∨ rNeD K x y H Q
theorem op_eqA {X : Cx} {K : PySem.W.Frag} (h : X.K = K) (hu : X.A.units + 64 < cLine) : OpR X (compareOp .Eq) (rEqA K) := h ▸ op_eq.or (op_eqD hu)
theorem op_neA {X : Cx} {K : PySem.W.Frag} (h : X.K = K) (hu : X.A.units + 64 < cLine) : OpR X (compareOp .NotEq) (rNeA K) := h ▸ op_ne.or (op_neD hu)
theorem eqS_scal {x y : D} {v w : V} {k : Bool} (h : eqS x y = some k) (d1 : Den g U H v x) (d2 : Den g U H w y) : scal v w = true ∧ decide (v = w) = k := by
  cases x <;> cases y <;> first
    | (cases h; done)
    | (cases d1; cases d2; cases h; exact ⟨rfl, by simp⟩)
theorem al_eqB {P : Bool → Nat → Prop} {X : Str → Fs → Nat → Prop} {x y : D} (h : Al P X (eqB x y) b) : (∃ k, eqS x y = some k ∧ P k b) ∨ ∃ a c, toPy x = some a ∧ toPy y = some c ∧ SeqAt.shaped a = true ∧ SeqAt.shaped c = true ∧ P (PyData.eqv a c) b := by
  unfold eqB at h
  split at h
  · exact .inl ⟨_, by assumption, h⟩
  · split at h
    · split at h
      · rename_i e1 e2 z
        exact .inr ⟨_, _, e1, e2, z.1, z.2, h⟩
      · exact h.elim
    · exact h.elim
theorem sr_eq : SR2 g E (rEqA g.K) eqD := fun U H b x y dx dy Q d1 d2 w u q => by
  rcases al_eqB (al_bd.mp q) with ⟨k, e, q1⟩ | ⟨a, c, e1, e2, s1, s2, q1⟩
  · obtain ⟨h1, h2⟩ := eqS_scal e d1 d2
    refine .inl ⟨h1, ?_⟩
    rw [h2]
    exact okP.here q1 w (.bl _)
  · exact .inr ⟨a, c, den_dp dx d1 e1, den_dp dy d2 e2, s1, s2, okP.here q1 w (.bl _)⟩
theorem sr_ne : SR2 g E (rNeA g.K) neD := fun U H b x y dx dy Q d1 d2 w u q => by
  rcases al_eqB (al_bd.mp q) with ⟨k, e, q1⟩ | ⟨a, c, e1, e2, s1, s2, q1⟩
  · obtain ⟨h1, h2⟩ := eqS_scal e d1 d2
    refine .inl ⟨h1, ?_⟩
    rw [h2]
    exact okP.here q1 w (.bl _)
  · exact .inr ⟨a, c, den_dp dx d1 e1, den_dp dy d2 e2, s1, s2, okP.here q1 w (.bl _)⟩
def ixD (x y : D) : Tr D := match x, y with
  | .lst ds, .int i => match atI ds i with | some d => .ok d | none => .bad
  | .tup ds, .int i => match atI ds i with | some d => .ok d | none => .bad
  | .str z, .int i => match atI z.cps.toList i with | some c => .ok (.str ⟨#[c]⟩) | none => .bad
  | _, _ => .bad
theorem ix_seqK {X : Cx} {K : PySem.W.Frag} (h : X.K = K) : IxR X (rIx K) := h ▸ ix_seq
theorem denL_at {vs : List V} {ds : List D} {i : Int} {d : D} (h : DenL g U H vs ds) (e : atI ds i = some d) : ∃ v, atI vs i = some v ∧ Den g U H v d := by
  unfold atI at e ⊢
  rw [h.length]
  cases q : ixN ds.length i with
  | none => rw [q] at e; cases e
  | some j =>
    rw [q] at e
    exact h.getD e
theorem sr_ix : SR2 g E (rIx g.K) ixD := fun U H b x y dx dy Q d1 d2 w u q => by
  unfold ixD at q
  split at q
  · rename_i ds i
    split at q
    · rename_i d e
      obtain ⟨p, vs, rfl, h, n, l, k⟩ := den_lst d1
      cases den_int d2
      obtain ⟨v, hv, dv⟩ := denL_at k e
      exact .inl ⟨p, vs, i, v, rfl, rfl, SqL.of h, hv, okP.here q w dv⟩
    · exact q.elim
  · rename_i ds i
    split at q
    · rename_i d e
      obtain ⟨p, vs, rfl, h, l, k⟩ := den_tup d1
      cases den_int d2
      obtain ⟨v, hv, dv⟩ := denL_at k e
      exact .inr (.inl ⟨p, vs, i, v, rfl, rfl, h, hv, okP.here q w dv⟩)
    · exact q.elim
  · rename_i z i
    split at q
    · rename_i c e
      obtain ⟨rfl, l⟩ := den_str d1
      cases den_int d2
      exact .inr (.inr ⟨z, i, c, rfl, rfl, l, e, okP.here q w den1⟩)
    · exact q.elim
  · exact q.elim
def lenD (x : D) : Tr D := match x with
  | .lst ds => .ok (.int ds.length)
  | .tup ds => .ok (.int ds.length)
  | .str z => .ok (.int z.length)
  | _ => .bad
theorem srl_len : SRL g E (rLn g.K) (ul1 lenD) := fun U H b xs dxs Q dn w u q => by
  obtain ⟨x, rfl, q1⟩ := al_ul1 q
  obtain ⟨v, rfl, d1⟩ := denL_1 dn
  cases x with
  | lst ds =>
    obtain ⟨p, vs, rfl, h, n, l, k⟩ := den_lst d1
    refine st_lenL h ?_
    rw [k.length]
    exact okP.here q1 w (.int _)
  | tup ds =>
    obtain ⟨p, vs, rfl, h, l, k⟩ := den_tup d1
    unfold rLn
    exact ⟨_, _, rfl, .inr ⟨vs, h, rfl⟩, by rw [k.length]; exact okP.here q1 w (.int _)⟩
  | str z =>
    obtain ⟨rfl, l⟩ := den_str d1
    exact st_lenS l (okP.here q1 w (.int _))
  | _ => exact q1.elim
def intD (x : D) : Tr D := match x with
  | .int i => .ok (.int i)
  | .bl k => .ok (.int (if k = true then 1 else 0))
  | _ => .bad
theorem srl_int : SRL g E rInt (ul1 intD) := fun U H b xs dxs Q dn w u q => by
  obtain ⟨x, rfl, q1⟩ := al_ul1 q
  obtain ⟨v, rfl, d1⟩ := denL_1 dn
  cases x with
  | int i => cases d1; exact st_int (okP.here q1 w (.int _))
  | bl k => cases d1; exact st_intB (okP.here q1 w (.int _))
  | _ => exact q1.elim
def absD (x : D) : Tr D := match x with
  | .int i => .ok (.int (if i < 0 then -i else i))
  | _ => .bad
end
end Gp
end
section
set_option Elab.async false
set_option linter.all false
set_option maxRecDepth 100000
set_option maxHeartbeats 4000000
namespace Gp
open PySem PySem.Spec PyProof.Rows L2 Gh
section
variable {g : Gw} {Mt U0 U U' : Addr → Prop} {H0 H H' H1 H2 : Hp} {b b1 : Nat} {σ : L2.St} {ε ε' : Env} {E : XK} {Q : VK} {W L W' : Type}
variable {env : W → Env} {envL : L → Env} {env' : W' → Env} {u ta tb : TS} {te : TE} {me : Tr D}
def flatD : D → Bool
  | .non => true
  | .bl _ => true
  | .int _ => true
  | .str _ => true
  | _ => false
def eqF : D → D → Bool
  | .non, .non => true
  | .bl a, .bl b => a == b
  | .bl a, .int b => (if a then 1 else 0) == b
  | .int a, .bl b => a == (if b then 1 else 0)
  | .int a, .int b => a == b
  | .str a, .str b => a == b
  | _, _ => false
theorem flat_den {v : V} {d : D} (h : Den g U H v d) (f : flatD d = true) : flatV v = true := by
  cases h <;> first
    | rfl
    | cases f
theorem eqF_den {v w : V} {d e : D} (h : Den g U H v d) (k : Den g U H w e) : eqF d e = eqV v w := by
  cases h <;> cases k <;> rfl
def inD (x : D) (ds : List D) : Bool := ds.any fun y => eqF y x
theorem inD_den {v : V} {d : D} (h : Den g U H v d) : ∀ {vs : List V} {ds : List D}, DenL g U H vs ds → inD d ds = inV v vs
  | _, _, .nil => rfl
  | _, _, .cons a r => by
    have := inD_den h r
    unfold inD inV at this ⊢
    rw [List.any_cons, List.any_cons, eqF_den a h, this]
theorem flats_den : ∀ {vs : List V} {ds : List D}, DenL g U H vs ds → ds.all flatD = true → vs.all flatV = true
  | _, _, .nil, _ => rfl
  | _, _, .cons a r, f => by
    rw [List.all_cons, Bool.and_eq_true] at f ⊢
    exact ⟨flat_den a f.1, flats_den r f.2⟩
def inB (x y : D) : Tr Bool := match y with
  | .lst ds => if flatD x = true ∧ ds.all flatD = true then .ok (inD x ds) else .bad
  | .tup ds => if flatD x = true ∧ ds.all flatD = true then .ok (inD x ds) else .bad
  | .str j => match x with
    | .str i => .ok (!(Builtin.Str.occurrences j i 0 j.length 1).isEmpty)
    | _ => .bad
  | _ => .bad
def inOD (x y : D) : Tr D := bd (inB x y) fun k => .ok (.bl k)
def rInA (K : PySem.W.Frag) : R2 := fun x y H Q => rIn K false x y H Q ∨ ∃ i j, x = .str i ∧ y = .str j ∧ Q (.bl (!(Builtin.Str.occurrences j i 0 j.length 1).isEmpty)) H
theorem op_inA {X : Cx} {K : PySem.W.Frag} (h : X.K = K) : OpR X (compareOp .In) (rInA K) := h ▸ op_in_seq.or op_in_str
theorem al_inB {P : Bool → Nat → Prop} {Z : Str → Fs → Nat → Prop} {x y : D} {v w : V} (d1 : Den g U H v x) (d2 : Den g U H w y) (h : Al P Z (inB x y) b) :
    (∃ p vs, w = .ref p ∧ (SqL g.K H p vs ∨ SqT g.K H p vs) ∧ flatV v = true ∧ vs.all flatV = true ∧ P (inV v vs) b) ∨ ∃ i j, v = .str i ∧ w = .str j ∧ P (!(Builtin.Str.occurrences j i 0 j.length 1).isEmpty) b := by
  unfold inB at h
  split at h
  · split at h
    · rename_i z
      obtain ⟨p, vs, rfl, hh, _, _, k⟩ := den_lst d2
      rw [inD_den d1 k] at h
      exact .inl ⟨p, vs, rfl, .inl (SqL.of hh), flat_den d1 z.1, flats_den k z.2, h⟩
    · exact h.elim
  · split at h
    · rename_i z
      obtain ⟨p, vs, rfl, hh, _, k⟩ := den_tup d2
      rw [inD_den d1 k] at h
      exact .inl ⟨p, vs, rfl, .inr hh, flat_den d1 z.1, flats_den k z.2, h⟩
    · exact h.elim
  · split at h
    · obtain ⟨rfl, _⟩ := den_str d1
      obtain ⟨rfl, _⟩ := den_str d2
      exact .inr ⟨_, _, rfl, rfl, h⟩
    · exact h.elim
  · exact h.elim
theorem sr_in : SR2 g E (rInA g.K) inOD := fun U H b x y dx dy Q d1 d2 w u q => by
  rcases al_inB d1 d2 (al_bd.mp q) with ⟨p, vs, rfl, h1, h2, h3, h4⟩ | ⟨i, j, rfl, rfl, h⟩
  · exact .inl ⟨p, vs, rfl, h1, h2, h3, okP.here h4 w (.bl _)⟩
  · exact .inr ⟨i, j, rfl, rfl, okP.here h w (.bl _)⟩
def SO (g : Gw) (E : XK) (ε : Env) (t : TO) (m : Tr (Option Int)) : Prop := ∀ U σ H b (Q : Option Int → Hp → Prop), Rel g U H σ ε → Wd g H b → UOk g U H → Al (fun o b' => ∀ H', Wd g H' b' → Fr H H' g.p → Q o H') (exP g U E H) m b → t σ H Q
theorem SO.step {α : Type} {t : TO} {m : Tr (Option Int)} {k : Option Int → Tr α} {P : α → Nat → Prop} {Q : Option Int → Hp → Prop} (ha : SO g E ε t m) (R : Rel g U H σ ε) (W : Wd g H b) (u : UOk g U H) (h : Al P (exP g U E H) (bd m k) b)
    (hk : ∀ d H1 b1, Wd g H1 b1 → Fr H H1 g.p → Rel g U H1 σ ε → UOk g U H1 → Al P (exP g U E H1) (k d) b1 → Q d H1) : t σ H Q :=
  ha U σ H b Q R W u ((al_bd.mp h).mono (fun d b1 h1 H1 w1 f1 => hk d H1 b1 w1 f1 (R.fr u f1) (u.fr f1 w1) (al_frX f1 h1)) (fun _ _ _ h => h))
def rgOk (a b : Int) : Prop := -(2 ^ 62) ≤ a ∧ a < 2 ^ 62 ∧ -(2 ^ 62) ≤ b ∧ b < 2 ^ 62 ∧ b - a ≤ 16777216
instance (a b : Int) : Decidable (rgOk a b) := by unfold rgOk; infer_instance
def IsT (g : Gw) (u : Value) (f : D → Option Bool) : Prop := ∀ U H v d k, Den g U H v d → f d = some k → (∃ t, TyX g.K H v t ∧ PySem.W.kitOne g.K t u = some k) ∨ ∃ a C dd fvs, v = .ref a ∧ H a = some (exk a C dd) ∧ H dd = some (.xd fvs) ∧ ErrT g.K C ∧ PySem.W.kitOne g.K (.ref C) u = some k
def opt {α : Type} (o : Option α) : Tr α := match o with
  | some a => .ok a
  | none => .bad
theorem se_isi {cv : V} {u : Value} {f : D → Option Bool} (hc : ClsV cv u) (hT : IsT g u f) (he : SE g E ε te me) : SE g E ε (tCB (rIsiZ g.K) (tCons te (tCons (tC cv) tNil))) (bd me fun d => bd (opt (f d)) fun k => .ok (.bl k)) := fun U σ H b Q R W uo q =>
  he.step R W uo q fun v d H1 b1 d1 w1 f1 R1 u1 q1 => by
    cases e : f d with
    | none => rw [e] at q1; exact q1.elim
    | some k =>
      rw [e] at q1
      have q2 := okP.here (okP.fr f1 q1) w1 (.bl k)
      rcases hT U H1 v d k d1 e with ⟨t, h1, h2⟩ | ⟨a, C, dd, fvs, rfl, h1, h2, h3, h4⟩
      · exact .inl ⟨v, cv, t, u, k, rfl, hc, h1, h2, q2⟩
      · exact .inr ⟨a, C, dd, fvs, cv, u, k, rfl, hc, h1, h2, h3, h4, q2⟩
def kdN : D → Option String
  | .non => some "NoneType"
  | .bl _ => some "bool"
  | .int _ => some "int"
  | .str _ => some "str"
  | .lst _ => some "list"
  | .tup _ => some "tuple"
  | .dct => some "dict"
  | .dic _ => some "dict"
  | _ => none
theorem kd_ty {v : V} {d : D} {n : String} (h : Den g U H v d) (e : kdN d = some n) : TyX g.K H v (.type n) := by
  cases h with
  | non => cases e; exact .base .non
  | bl b => cases e; exact .base (.bl b)
  | int i => cases e; exact .base (.int i)
  | str x _ => cases e; exact .base (.str x)
  | tup h _ _ _ => cases e; exact .base (.tup h)
  | tupW h _ _ =>
    cases e
    rcases h (fun _ => none) with (z | ⟨o, z⟩) | ⟨o, its, n, z1, z2, _⟩
    · cases z
    · cases z
    · exact .kTuple z1 z2
  | lst h _ _ _ => cases e; exact .base (.lst h)
  | obj _ _ _ => cases e
  | err _ _ _ _ _ => cases e
  | pen => cases e
  | cls _ => cases e
  | dct h _ => cases e; exact .base (.dK h)
  | dic h _ _ _ => cases e; exact .base (.dK h)
  | dit _ _ _ _ => cases e
def isF (kb : String → Option Bool) (tab etab : List (Str × Bool)) (d : D) : Option Bool := match d with
  | .obj c _ => tab.lookup c
  | .err c _ => etab.lookup c
  | d => (kdN d).bind kb
theorem isT_of {u : Value} {kb : String → Option Bool} {tab etab : List (Str × Bool)} (h1 : ∀ n k, kb n = some k → PySem.W.kitOne g.K (.type n) u = some k) (h2 : ∀ c k, tab.lookup c = some k → Cls g.K (gd c g.K) ∧ InsT g.K (gd c g.K) ∧ PySem.W.kitOne g.K (.ref (gd c g.K)) u = some k)
    (h3 : ∀ c k, etab.lookup c = some k → ErrT g.K (gd c g.K) ∧ PySem.W.kitOne g.K (.ref (gd c g.K)) u = some k) : IsT g u (isF kb tab etab) := fun U H v d k dn e => by
  have base : ∀ d, Den g U H v d → (kdN d).bind kb = some k → ∃ t, TyX g.K H v t ∧ PySem.W.kitOne g.K t u = some k := fun d dn e => by
    cases q : kdN d with
    | none => rw [q] at e; cases e
    | some n =>
      rw [q] at e
      exact ⟨_, kd_ty dn q, h1 n k e⟩
  cases d with
  | obj c fs =>
    obtain ⟨a, dx, fvs, rfl, ea, _, _⟩ := den_obj dn
    obtain ⟨z1, z2, z3⟩ := h2 c k e
    exact .inl ⟨_, z2.ty z1 ea, z3⟩
  | err c fs =>
    cases dn with
    | err ha _ hd _ _ =>
      obtain ⟨z1, z2⟩ := h3 c k e
      exact .inr ⟨_, _, _, _, rfl, ha, hd, z1, z2⟩
  | non => exact .inl (base _ dn e)
  | bl b => exact .inl (base _ dn e)
  | int i => exact .inl (base _ dn e)
  | str x => exact .inl (base _ dn e)
  | lst ds => exact .inl (base _ dn e)
  | tup ds => exact .inl (base _ dn e)
  | pen => exact .inl (base _ dn e)
  | cls c => exact .inl (base _ dn e)
  | dct => exact .inl (base _ dn e)
  | dic ps => exact .inl (base _ dn e)
  | dit ps => exact .inl (base _ dn e)
theorem den_shw {v : V} {d : D} {x : Str} (h : Den g U H v d) (e : shwD d = some x) : Shw g.K H v x := by
  have cmp : ∀ {a : Addr}, v = .ref a → (match toPy d with
    | some e => if e.showable = true ∧ e.hasDict = false ∧ e.depth ≤ 100 ∧ e.shown.length ≤ sizeLine then some e.shown else none
    | none => none) = some x → Shw g.K H v x := fun {a} ev e => by
    subst ev
    split at e
    · split at e
      · rename_i q z
        cases e
        exact .dp (den_dp d h q) z.1 z.2.1 z.2.2.1 z.2.2.2
      · cases e
    · cases e
  cases d with
  | non => cases h; cases e; exact .non
  | bl b => cases h; cases e; exact .bl b
  | int i =>
    cases h
    unfold shwD at e
    dsimp only at e
    split at e
    · cases e; exact .int i (by assumption)
    · cases e
  | str y =>
    cases h
    unfold shwD at e
    dsimp only at e
    split at e
    · cases e; exact .str y (by assumption)
    · cases e
  | tup ds =>
    obtain ⟨a, _, rfl, _⟩ := den_tup h
    exact cmp rfl e
  | lst ds =>
    obtain ⟨a, _, rfl, _⟩ := den_lst h
    exact cmp rfl e
  | obj c fs => cases e
  | dic ps => cases e
  | dit ps => cases e
  | err c fs => cases e
  | pen => cases e
  | cls c => cases e
  | dct => cases e
theorem srl_repr : SRL g E (rShow g.K) (ul1 reprD) := fun U H b xs dxs Q dn w u q => by
  obtain ⟨x, rfl, q1⟩ := al_ul1 q
  obtain ⟨v, rfl, d1⟩ := denL_1 dn
  unfold reprD at q1
  split at q1
  · rename_i z e
    split at q1
    · exact rShow_of (den_shw d1 e) (okP.here q1 w (.str _ (by assumption)))
    · exact q1.elim
  · exact q1.elim
theorem ss_raise1 {c f : Str} (he : SE g E ε te me) : SS g E ε (tSeq (fun _ σ H => tMkO (gd c g.K) (spErr1 (gd c g.K) f) [] (tCons te tNil) σ H (fun cls d H' => E cls d H')) u) env envL (bd me fun d => .ex c [(f, d)]) := fun Mt U0 H0 U Ds σ H b s q => by
  show te σ H _
  refine he.sstep s q fun v d H1 b1 dv s1 q1 => ?_
  refine mk_err1 fun dd H2 sm nd hd => ?_
  have q2 : exS g Mt U0 H0 E c [(f, d)] b1 := q1
  exact q2 dd _ H2 hd (fun z => s1.uok.new nd (s1.sub _ z)) (.cons ((dv.ext (fun a o e _ _ => sm a o e)).sub fun a _ z => s1.sub a z) .nil) (s1.wd.same sm) (s1.ext.trans (fr_same sm))
end
end Gp
end
section
set_option Elab.async false
set_option linter.all false
set_option maxRecDepth 100000
set_option maxHeartbeats 4000000
namespace Gp
open PySem PySem.Spec PyProof.Rows L2 Gh
section
variable {g : Gw} {Mt U0 U U' : Addr → Prop} {H0 H H' H1 H2 : Hp} {b b1 : Nat} {σ : L2.St} {ε ε' : Env} {E : XK} {Q : VK} {W L W' : Type}
variable {env : W → Env} {envL : L → Env} {env' : W' → Env} {u ta tb : TS} {te : TE} {me : Tr D}
theorem se_powK {a c r : Int} (h1 : 0 ≤ c ∧ c ≤ 1000) (h2 : -(2 ^ 60) < a ∧ a < 2 ^ 60) (h3 : a ^ c.toNat = r) : SE g E ε (tOp (rPowK r) (tC (.int a)) (tC (.int c))) (.ok (.int r)) := fun U σ H b Q R W u q =>
  st_powK ⟨h1.1, by omega, by omega⟩ h3 (okP.here q W (.int _))
theorem passA {X : Cx} {E : XK} : Passes CX0 X E := fun _ _ _ _ _ _ _ h => h.elim
theorem PE.or {X : Cx} {e : Expr} {t1 t2 : TE} (a : PE X e t1) (c : PE X e t2) : PE X e (fun σ H Q => t1 σ H Q ∨ t2 σ H Q) := ⟨fun pins s σ H Q I h => h.elim (a.run pins s σ H Q I) (c.run pins s σ H Q I)⟩
section
variable {K : PySem.W.Frag} {T : List (Addr × Str)} {N : List Str} {cn : Str} {vs : List V} {t : TS} {envI : Fs → Env}
end
def spLaw (K : PySem.W.Frag) (T : List (Addr × Str)) : Sp := fun vs H Q _ => ∃ (a : Addr) (ns : List Int), vs = [.ref a] ∧ SqL K H a (ns.map V.int) ∧ ns.length ≤ 63 ∧ LamX.Tabs T H ∧ ∀ H', Q (.bl true) H'
theorem spLaw_len {K : PySem.W.Frag} {T : List (Addr × Str)} {vs : List V} (h : spLaw K T vs H Q E) : vs.length = 1 := by
  obtain ⟨a, ns, rfl, _⟩ := h
  rfl
theorem law_of {K : PySem.W.Frag} {T : List (Addr × Str)} {N : List Str} {i n : Nat} {F : Tr D} {m : Tr (Fl Unit Empty)} {vs : List V} {t : TS} {envU : Unit → Env} (yes : Yes F) (h : spLaw K T vs H Q E) (hN : N.length = n + 1) (hi : i < n + 1) (h0 : i ≠ 0) (hF : F = fin m)
    (hs : ∀ p c, SS ⟨K, T, p, c⟩ EF ((List.replicate (n + 1) Sl.no).set i (.fz .pen)) t envU envE m) : tSeq (tAsg (tCl (rSp (spPn K) [] E) (tCons (tVar 0) tNil)) (gName i)) t { nx := fun _ H' => Q .non H', rt := Q } (L2.start N vs) H := by
  obtain ⟨a, ns, rfl, hS, hl, hT, q⟩ := h
  have st0 : L2.start N [V.ref a] = some (.ref a) :: List.replicate n none := by
    unfold L2.start
    rw [List.length_singleton, hN]
    rfl
  rw [st0]
  refine ⟨.ref a, rfl, ?_⟩
  refine ⟨a, ns, rfl, hS, hl, fun p c H1 np pn s => ?_⟩
  obtain ⟨ns', i', z', h1, h2, _⟩ := id pn
  have wd : Wd ⟨K, T, p, c⟩ H1 1000000 := ⟨pn, hT.ext s⟩
  have u : UOk ⟨K, T, p, c⟩ (fun x => x = p ∨ x = c) H1 := ⟨.inl rfl, .inr rfl, fun x hx => by
    rcases hx with rfl | rfl
    · exact ⟨_, h1, fun _ z => by cases z⟩
    · exact ⟨_, h2, fun _ z => by cases z⟩⟩
  have own : ∀ j x, ¬ OwnAt ((some (V.ref a) :: List.replicate n none).set i (some (.ref p))) ((List.replicate (n + 1) Sl.no).set i (.fz .pen)) j x := fun j x z => by
    obtain ⟨_, z2⟩ := ownAt_set z
    rcases z2.2 with ⟨ds, e⟩ | ⟨c, fs, e⟩
    · cases (List.mem_replicate.mp (List.mem_of_getElem? e)).2
    · cases (List.mem_replicate.mp (List.mem_of_getElem? e)).2
  have rl0 : Rel ⟨K, T, p, c⟩ (fun x => x = p ∨ x = c) H1 (some (V.ref a) :: List.replicate n none) (List.replicate (n + 1) Sl.no) := by
    refine ⟨by rw [List.length_cons, List.length_replicate, List.length_replicate], fun j s e => ?_, fun j k x ne z1 z2 => ?_⟩
    · have hj := (List.getElem?_eq_some_iff.mp e).1
      rw [List.length_replicate] at hj
      obtain ⟨_, rfl⟩ := List.mem_replicate.mp (List.mem_of_getElem? e)
      have hl2 : j < (some (V.ref a) :: List.replicate n (none : Option V)).length := by rw [List.length_cons, List.length_replicate]; exact hj
      exact ⟨_, List.getElem?_eq_getElem hl2, trivial⟩
    · rcases z1.2 with ⟨ds, e⟩ | ⟨c, fs, e⟩
      · cases (List.mem_replicate.mp (List.mem_of_getElem? e)).2
      · cases (List.mem_replicate.mp (List.mem_of_getElem? e)).2
  have rl := rl0.set i (v := .ref p) (d := .pen) .pen
  have yes' : Al (fun d _ => d = .bl true) (fun _ _ _ => False) (fin m) 1000000 := hF ▸ yes
  refine hs p c (fun _ => False) (fun x => x = p ∨ x = c) H1 (fun x => x = p ∨ x = c) _ _ H1 1000000 ⟨rl, wd, u, fun _ z => z, fun j x z => (own j x z).elim, fun _ _ z _ _ _ => z, fun j ds x z1 z2 => (own j x ⟨z2, .inl ⟨ds, z1⟩⟩).elim, fun j cc fs x z1 z2 => (own j x ⟨z2, .inr ⟨cc, fs, z1⟩⟩).elim⟩ ((al_bd.mp yes').mono (fun f b h => ?_) (fun _ _ _ z => z.elim))
  cases f with
  | nx w => cases (show D.non = .bl true from h)
  | rt d =>
    have h' : d = .bl true := h
    subst h'
    intro v H2 dn _ _
    cases dn
    exact q H2
  | bk e => exact nomatch e
  | ct e => exact nomatch e
end
end Gp
namespace Gp
open PySem PySem.Spec PyProof.Rows L2 Gh
section
variable {g : Gw}
end
end Gp
namespace Gp
open PySem PySem.Spec PyProof.Rows L2 Gh
theorem fnOk_weak {P : Program} {w : World} {K : PySem.W.Frag} {mg : Str → Option Value} {base : Heap} {CX : CXT} {k : Nat} {f : Addr} {fd : FuncData} {ps : List Str} {sp sp' : Sp} (F : FnOk P w K mg base CX k f fd ps sp) (h : ∀ vs H Q E, sp' vs H Q E → sp vs H Q E) : FnOk P w K mg base CX k f fd ps sp' :=
  ⟨fun vs H Q E z => F.len vs H Q E (h _ _ _ _ z), fun A o s H a us vs Q E hr e0 hb r z => F.run A o s H a us vs Q E hr e0 hb r (h _ _ _ _ z)⟩
def F_draw (x y : D) : Tr D := match x, y with
  | .pen, .int m => .draw m fun d => .ok (.int d)
  | _, _ => .bad
theorem draw_of {K : PySem.W.Frag} {T : List (Addr × Str)} {vs : List V} {H : Hp} {Q : VK} {E : XK} (h : spF K T (ul2 F_draw) vs H Q E) : spDr vs H Q E := by
  obtain ⟨p, c, U, ds, b, dn, wd, u, al⟩ := h
  obtain ⟨x, y, rfl, al2⟩ := al_ul2 al
  obtain ⟨v, w, rfl, d1, d2⟩ := denL_2 dn
  unfold F_draw at al2
  split at al2
  · rename_i m
    cases d1
    cases d2
    obtain ⟨b', rfl, h0, h1, h2⟩ := al2
    refine ⟨p, c, b', m, rfl, h0, log_of h0 h1, wd.pen, fun d H' d0 d1 pn k => ?_⟩
    exact h2 d d0 d1 (.int d) H' (.int d) ⟨pn, tabs_keepP k wd.pen wd.tabs⟩ (keep_fr k)
  · exact al2.elim
end Gp
end
section
set_option Elab.async false
set_option linter.all false
set_option maxRecDepth 100000
set_option maxHeartbeats 4000000
namespace Gp
open PySem PySem.Spec PyProof.Rows L2 Gh
def tryT {α β : Type} : Tr α → (α → Tr β) → (Str → Fs → Tr β) → Tr β
  | .ok a, k, _ => k a
  | .ex c fs, _, x => x c fs
  | .bad, _, _ => .bad
  | .draw m f, k, x => .draw m fun d => tryT (f d) k x
theorem al_try {α β : Type} {P : β → Nat → Prop} {E : Str → Fs → Nat → Prop} {m : Tr α} {k : α → Tr β} {x : Str → Fs → Tr β} {b : Nat} : Al P E (tryT m k x) b ↔ Al (fun a b1 => Al P E (k a) b1) (fun c fs b1 => Al P E (x c fs) b1) m b := by
  induction m generalizing b with
  | draw m f ih =>
    constructor
    · rintro ⟨b', e, h1, h2, h3⟩
      exact ⟨b', e, h1, h2, fun d d0 d1 => (ih d).mp (h3 d d0 d1)⟩
    · rintro ⟨b', e, h1, h2, h3⟩
      exact ⟨b', e, h1, h2, fun d d0 d1 => (ih d).mpr (h3 d d0 d1)⟩
  | _ => exact Iff.rfl
def THd (K : PySem.W.Frag) (T : List (Addr × Str)) (FH : Tr D → Tr D) : (XK → Hp → VK → Prop) → Hp → VK → Prop := fun tl H Q => ∃ p c U b m, Wd ⟨K, T, p, c⟩ H b ∧ UOk ⟨K, T, p, c⟩ U H ∧
  (∀ (E : XK) H' b' Q', Fr H H' p → Wd ⟨K, T, p, c⟩ H' b' → Al (okP ⟨K, T, p, c⟩ U H' Q') (exP ⟨K, T, p, c⟩ U E H') m b' → tl E H' Q') ∧ Al (okP ⟨K, T, p, c⟩ U H Q) (fun _ _ _ => False) (FH m) b
section
variable {g : Gw} {Mt U0 U U' : Addr → Prop} {H0 H H' H1 H2 : Hp} {b b1 : Nat} {σ : L2.St} {ε ε' : Env} {E : XK} {W L W' : Type}
variable {env : W → Env} {envL : L → Env} {env' : W' → Env} {u ta tb : TS} {te : TE} {me : Tr D}
theorem UOk.extN (u : UOk g U H) (n : LamX.ExtN H H') : UOk g U H' := ⟨u.p, u.c, fun a ha => by
  obtain ⟨o, h, z⟩ := u.al a ha
  exact ⟨o, n a o h z, z⟩⟩
theorem se_lam {FH : Tr D → Tr D} {t : XK → TE} {m : Tr D} (h : ∀ E, SE g E ε (t E) m) : SE g E ε (LamX.tLam g.T (THd g.K g.T FH) t) (nox (FH m)) := fun U σ H b Q R W u q => by
  refine ⟨W.tabs, fun H1 n t1 => ⟨g.p, g.c, U, b, m, ⟨W.pen.extN n, t1⟩, u.extN n, fun E H' b' Q' f w' a' => ?_, ?_⟩⟩
  · have f1 : Fr H H' g.p := (ext_fr n).trans f
    exact h E U σ H' b' Q' (R.fr u f1) w' (u.fr f1 w') a'
  · exact Al.mono (fun _ _ z => okP.fr (ext_fr n) z) (fun _ _ _ z => z) (al_nox (E' := fun _ _ _ => False) q)
theorem rel_err {n i j : Nat} {a dd : Addr} {cl : Str} {fvs : List (Str × V)} {fs : Fs} (hl : σ.length = n) (hi : i < n) (hj : j < n) (hij : i ≠ j) (ha : H a = some (exk a (gd cl g.K) dd)) (na : ¬ U a) (hd : H dd = some (.xd fvs)) (nd : ¬ U dd) (df : DenF g U H fvs fs) :
    Rel g U H (((σ.set i (some (.ref a))).set j (some (.ref a))).set i none) ((List.replicate n Sl.no).set j (.fz (.err cl fs))) := by
  have no : ∀ k x, ¬ OwnAt (((σ.set i (some (.ref a))).set j (some (.ref a))).set i none) ((List.replicate n Sl.no).set j (.fz (.err cl fs))) k x := fun k x ⟨_, z⟩ => by
    have : ∀ s : Sl, ((List.replicate n Sl.no).set j (.fz (.err cl fs)))[k]? = some s → (∃ d, s = .fz d) ∨ s = .no := fun s e => by
      have m := List.mem_of_getElem? e
      rcases List.mem_or_eq_of_mem_set m with m | m
      · exact .inr (List.mem_replicate.mp m).2
      · exact .inl ⟨_, m⟩
    rcases z with ⟨x, z⟩ | ⟨x, y, z⟩
    · rcases this _ z with ⟨d, e⟩ | e <;> cases e
    · rcases this _ z with ⟨d, e⟩ | e <;> cases e
  refine ⟨by simp only [List.length_set, List.length_replicate]; exact hl, fun k s e => ?_, fun _ _ x _ h1 _ => (no _ x h1).elim⟩
  by_cases q : j = k
  · subst q
    rw [List.getElem?_set_self (by rw [List.length_replicate]; exact hj)] at e
    cases e
    refine ⟨some (.ref a), ?_, _, rfl, .err ha na hd nd df⟩
    rw [List.getElem?_set_ne hij, List.getElem?_set_self (by rw [List.length_set, hl]; exact hj)]
  · rw [List.getElem?_set_ne q, List.getElem?_replicate] at e
    split at e
    · rename_i hk
      cases e
      refine ⟨_, List.getElem?_eq_getElem (by simp only [List.length_set]; rw [hl]; exact hk), trivial⟩
    · cases e
theorem fin_al {P : D → Nat → Prop} {X : Str → Fs → Nat → Prop} {m : Tr (Fl Unit Empty)} (h : Al P X (fin m) b) : Al (fun f b => match f with | .nx _ => P .non b | .rt d => P d b | .bk e => nomatch e | .ct e => nomatch e) X m b := by
  refine (al_bd.mp h).mono (fun f b h => ?_) (fun _ _ _ h => h)
  cases f with
  | nx w => exact h
  | rt d => exact h
  | bk e => exact nomatch e
  | ct e => exact nomatch e
theorem run_rest {t : TS} {envU : Unit → Env} {m : Tr (Fl Unit Empty)} {Q : VK} (ss : SS g EF ε t envU envE m) (R : Rel g U H1 σ ε) (no : ∀ i a, ¬ OwnAt σ ε i a) (w : Wd g H1 b) (u : UOk g U H1) (f : Fr H H1 g.p) (al : Al (okP g U H Q) (fun _ _ _ => False) (fin m) b) :
    t { nx := fun _ H' => Q .non H', rt := Q } σ H1 := by
  refine ss (fun _ => False) U H U _ _ H1 b ⟨R, w, u, fun _ z => z, fun i a z => (no i a z).elim, fun a o z1 z2 _ z3 => f a o z1 z2 z3, fun i ds' a z1 z2 => (no i a ⟨z2, .inl ⟨ds', z1⟩⟩).elim, fun i c fs a z1 z2 => (no i a ⟨z2, .inr ⟨c, fs, z1⟩⟩).elim⟩ ((fin_al al).mono (fun f b1 h1 => ?_) (fun c fs b1 h1 => h1.elim))
  cases f with
  | nx w => exact fun U' σ' H' e s => h1 .non H' .non s.wd fun a o z1 z2 z3 => s.ext a o z1 z2 (fun z => z) z3
  | rt d => exact fun v H' dn w f => h1 v H' dn w fun a o z1 z2 z3 => f a o z1 z2 (fun z => z) z3
  | bk e => exact nomatch e
  | ct e => exact nomatch e
theorem no_err {n j : Nat} {d : D} : ∀ i a, ¬ OwnAt σ ((List.replicate n Sl.no).set j (.fz d)) i a := fun k x ⟨_, z⟩ => by
  have : ∀ s : Sl, ((List.replicate n Sl.no).set j (.fz d))[k]? = some s → (∃ d, s = .fz d) ∨ s = .no := fun s e => by
    have m := List.mem_of_getElem? e
    rcases List.mem_or_eq_of_mem_set m with m | m
    · exact .inr (List.mem_replicate.mp m).2
    · exact .inl ⟨_, m⟩
  rcases z with ⟨x, z⟩ | ⟨x, y, z⟩
  · rcases this _ z with ⟨d, e⟩ | e <;> cases e
  · rcases this _ z with ⟨d, e⟩ | e <;> cases e
def ExH (g : Gw) (U : Addr → Prop) (H : Hp) (Q : VK) (x : Str → Fs → Tr D) : XK := fun cls d H' => ∃ cl fs b1 dd fvs, cls = .ref (gd cl g.K) ∧ d = some dd ∧ H' dd = some (.xd fvs) ∧ ¬ U dd ∧ DenF g U H' fvs fs ∧ Wd g H' b1 ∧ Fr H H' g.p ∧ Al (okP g U H Q) (fun _ _ _ => False) (x cl fs) b1
theorem clause {n i j : Nat} {trest : TS} {mrest : D → Tr (Fl Unit Empty)} {envU : Unit → Env} {xh : Str → Bool} {HE : Addr} {Wout : WX} {Q : VK} (hi : i < n) (hj : j < n) (hij : i ≠ j)
    (hx : ∀ cl, xh cl = true → PySem.W.exmOne g.K (.ref (gd cl g.K)) (.ref HE) = some true)
    (hs : ∀ cl fs, SS g EF ((List.replicate n Sl.no).set j (.fz (.err cl fs))) trest envU envE (mrest (.err cl fs))) (u : UOk g U H) :
    ∀ cls d σ' H', ExH g U H Q (fun cl fs => if xh cl = true then nox (fin (mrest (.err cl fs))) else .bad) cls d H' → σ'.length = n → wAsK g.K (.ref HE) i (fun a cls d => tAsg (tVar i) (gName j)) Wout { nx := trest { nx := fun _ H' => Q .non H', rt := Q }, rt := Q } cls d σ' H' := by
  rintro cls d σ' H' ⟨cl, fs, b1, dd, fvs, rfl, rfl, hd, nd, df, wd, f, al⟩ hl
  dsimp only at al
  by_cases hxc : xh cl = true
  · rw [if_pos hxc] at al
    refine ⟨true, hx cl hxc, fun _ => ⟨_, dd, rfl, rfl, fun a na => ?_⟩, fun z => by cases z⟩
    refine ⟨.ref a, List.getElem?_set_self (by rw [hl]; exact hi), fun na' => ?_⟩
    have s1 : L2.Same H' (upd H' a (exk a (gd cl g.K) dd)) := same_new na
    have u' := u.fr f wd
    have nU : ¬ U a := u'.new na
    exact run_rest (hs cl fs) (rel_err hl hi hj hij upd_same nU (s1 _ _ hd) nd (df.ext (u'.extU (fr_same s1)))) no_err (wd.same s1) (u'.fr (fr_same s1) (wd.same s1)) (f.trans (fr_same s1)) (al_nox al)
  · rw [if_neg hxc] at al
    exact al.elim
theorem heardA {N : List Str} {f : Addr} {m : Tr D} {n i j : Nat} {trest : TS} {mrest : D → Tr (Fl Unit Empty)} {envU : Unit → Env} {xh : Str → Bool} {HE : Addr} {Wout : WX} {Q : VK} {tR : XK → TE} {kR : D → Tr D} (hn : (L2.start N [V.ref f]).length = n) (hi : i < n) (hj : j < n) (hij : i ≠ j) (hj0 : j ≠ 0)
    (hx : ∀ cl, xh cl = true → PySem.W.exmOne g.K (.ref (gd cl g.K)) (.ref HE) = some true)
    (hs : ∀ cl fs, SS g EF ((List.replicate n Sl.no).set j (.fz (.err cl fs))) trest envU envE (mrest (.err cl fs)))
    (hR : ∀ (E : XK) (σ : L2.St) H' b' Q', σ[0]? = some (some (.ref f)) → Fr H H' g.p → Wd g H' b' → UOk g U H' → Al (okP g U H' Q') (exP g U E H') (bd m kR) b' → tR E σ H' Q')
    (wd : Wd g H b) (u : UOk g U H) (al : Al (okP g U H Q) (fun _ _ _ => False) (tryT (bd m kR) .ok (fun cl fs => if xh cl = true then nox (fin (mrest (.err cl fs))) else .bad)) b) :
    tSeq (tAsg (tC .non) (gName j)) (tSeq (fun D σ H => tTry n (fun E => tRet (tR E)) (wAsK g.K (.ref HE) i (fun a cls d => tAsg (tVar i) (gName j)) Wout D) D σ H) trest) { nx := fun _ H' => Q .non H', rt := Q } (L2.start N [.ref f]) H := by
  refine ⟨ExH g U H Q (fun cl fs => if xh cl = true then nox (fin (mrest (.err cl fs))) else .bad), clause hi hj hij hx hs u, ?_⟩
  refine hR _ _ H b Q ?_ Fr.refl wd u ((al_try.mp al).mono (fun d b1 h => h) (fun cl fs b1 h dd fvs H' e1 e2 e3 e4 e5 => ⟨cl, fs, b1, dd, fvs, rfl, rfl, e1, e2, e3, e4, e5, h⟩))
  rw [List.getElem?_set_ne hj0]
  rfl
theorem act_tup {f c' : Addr} {q : Str} {tl : XK → Hp → VK → Prop} {m : Tr D} {x : Str} (hx : x.length ≤ sizeLine) (hc : H c' = some (LamX.CodeO c' q)) (cp : c' ≠ g.p)
    (ha : ∀ (E : XK) H' b' Q', Fr H H' g.p → Wd g H' b' → Al (okP g U H' Q') (exP g U E H') m b' → tl E H' Q') :
    ∀ (E : XK) (σ : L2.St) H' b' Q', σ[0]? = some (some (.ref f)) → Fr H H' g.p → Wd g H' b' → UOk g U H' → Al (okP g U H' Q') (exP g U E H') (bd m fun d => .ok (.tup [.str x, d])) b' → tTup (tCons (tC (.str x)) (tCons (tAct f c' q (tl E)) tNil)) σ H' Q' :=
  fun E σ H' b' Q' e fr wd u al => ⟨e, fr _ _ hc cp (fun _ z => LamX.codeO_ne _ z), ha E H' b' _ fr wd ((al_bd.mp al).mono (fun d b1 h v H1 dn w1 f1 => ⟨by show 2 ≤ sizeLine; decide, fun p np => (by
    have s := same_new (o := .tup [.str x, v]) np
    have u1 := u.fr f1 w1
    exact h _ _ (.tup upd_same (u1.new np) (by show 2 ≤ sizeLine; decide) (.cons (.str x hx) (.cons (dn.ext (u1.extU (fr_same s))) .nil))) (w1.same s) (f1.trans (fr_same s)))⟩) (fun _ _ _ h => h))⟩
theorem code_np {p c c' : Addr} {K : PySem.W.Frag} {T : List (Addr × Str)} {q : Str} (w : Wd ⟨K, T, p, c⟩ H b) (hc : H c' = some (LamX.CodeO c' q)) : c' ≠ p := fun z => by
  obtain ⟨ns, i, y, h1, _⟩ := w.pen
  subst z
  rw [hc] at h1
  unfold LamX.CodeO at h1
  cases h1
def xaD (tab : List Str) (f : Str) (o : D) : Tr D := match o with
  | .err c fs => if c ∈ tab then (match fs.lookup f with | some d => .ok d | none => .bad) else .bad
  | _ => .bad
theorem se_xa {tab : List Str} {f : Str} (hT : ∀ c ∈ tab, ErrT g.K (gd c g.K) ∧ PySem.W.findIn g.K (.ref (gd c g.K)) f = some none) (he : SE g E ε te me) : SE g E ε (tXa g.K f te) (bd me (xaD tab f)) := fun U σ H b Q R W u q =>
  he.step R W u q fun v d H1 b1 d1 w1 f1 R1 u1 q1 => by
    cases d1 with
    | err ha na hd nd df =>
      rename_i a dd c fvs fs
      change Al _ _ (if c ∈ tab then (match fs.lookup f with | some d => .ok d | none => .bad) else .bad) b1 at q1
      split at q1
      · rename_i hm
        cases e : fs.lookup f with
        | none => rw [e] at q1; exact q1.elim
        | some d =>
          rw [e] at q1
          obtain ⟨v, hv, d2⟩ := df.look e
          exact ⟨a, _, dd, fvs, v, rfl, ha, (hT c hm).1, (hT c hm).2, hd, hv, q1 _ _ d2 w1 f1⟩
      · exact q1.elim
    | _ => exact q1.elim
end
end Gp
end
section
set_option Elab.async false
set_option linter.all false
set_option maxRecDepth 100000
set_option maxHeartbeats 4000000
namespace Gp
open PySem PySem.Spec PyProof.Rows L2 Gh
section
variable {g : Gw} {Mt U0 U U' : Addr → Prop} {H0 H H' H1 H2 : Hp} {b b1 b2 : Nat} {σ : L2.St} {ε ε' : Env} {E : XK} {W L W' : Type}
variable {env : W → Env} {envL : L → Env} {env' : W' → Env} {u ta tb : TS} {te : TE} {me : Tr D}
end
section
variable {K : PySem.W.Frag} {x qual file : Str} {params : Arguments} {body : List Stmt} {scope : Scope} {dvs : List V} {f B : Addr} {fd : FuncData} {ps : List Str}
theorem SupF.bindsN (F : SupF K x qual params body scope [] f B file fd)
    (h : ∀ (cl : List (Str × Addr)) (kV doc pm : Value) (an : Option Addr) (cdv ct : Value) (us : List Value), us.length = ps.length → bindArgs (PySem.W.fnX x qual params body scope cl .none kV doc pm an cdv ct) ⟨us, []⟩ = pure (ps.zip us)) : Binds K fd ps [] := by
  obtain ⟨oc, od, dV, kV, doc, pm, an, cda, ct, osl, cc, rfl, lk, hcd, hD, _⟩ := F.ex
  rcases hD with ⟨_, rfl⟩ | ⟨e, _⟩
  · exact .all (h _ kV doc pm an _ ct)
  · exact absurd rfl e
theorem SupF.binds1 (F : SupF K x qual params body scope dvs f B file fd) (n j : Nat) (hd : dvs ≠ []) (hn : n + (dvs.length - j) = ps.length)
    (h : ∀ (cl : List (Str × Addr)) (T : Addr) (kV doc pm : Value) (an : Option Addr) (cdv ct : Value) (us its : List Value), us.length = n → its.length = dvs.length →
      ∃ k, bindArgs (PySem.W.fnX x qual params body scope cl (.ref T) kV doc pm an cdv ct) ⟨us, []⟩ = seqItems? (.ref T) >>= k ∧ k (some its.toArray) = pure (ps.zip (us ++ its.drop j))) : ∃ ds, Vals (dvs.drop j) ds ∧ Binds K fd ps ds := by
  obtain ⟨oc, od, dV, kV, doc, pm, an, cda, ct, osl, cc, rfl, lk, hcd, hD, _⟩ := F.ex
  rcases hD with ⟨e, _⟩ | ⟨_, T, o, its, m, rfl, lT, oT, rT⟩
  · exact absurd e hd
  · refine ⟨its.drop j, rT.drop j, fun s us X hlen => ?_⟩
    have l1 : its.length = dvs.length := rT.length.symm
    have l2 : us.length = n := by
      rw [List.length_append, List.length_drop, l1] at hlen
      omega
    obtain ⟨k, e1, e2⟩ := h _ T kV doc pm an _ ct us its l2 l1
    refine BindsTo.of_looks fun M => ?_
    rw [e1]
    exact looks_items X lT oT (.of_pure e2)
end
end Gp
end
section
set_option Elab.async false
set_option linter.all false
set_option maxRecDepth 100000
set_option maxHeartbeats 4000000
namespace Gp
open PySem PySem.Spec PyProof.Rows L2 Gh
theorem obsL_eq {as : List Addr} {ex : List (PySem.W.Frag → Bool)} {fn : List Df} {tf : List He.Defn} {fs : List Ds} {file : Str} {g : Addr → Option Obj} {s : Shared} (h : ∀ a, g a = s.heap.get? a) : obsL as ex fn tf fs file g = (hookL as ex fn tf fs file).obs s := by
  have e : g = s.heap.get? := funext h
  rw [e] <;> rfl
end Gp
end
section
set_option Elab.async false
set_option linter.all false
set_option maxRecDepth 100000
set_option maxHeartbeats 4000000
namespace Gp
open PySem PySem.Spec PyProof.Rows L2 Gh
section
variable {g : Gw} {Mt U0 U U' : Addr → Prop} {H0 H H' H1 H2 : Hp} {b b1 : Nat} {σ : L2.St} {ε ε' : Env} {W L W' : Type} {yd : List D}
variable {env : W → Env} {envL : L → Env} {env' : W' → Env} {u ta tb : TGn} {te : TE} {me : Tr D}
def gflP (g : Gw) (Mt U0 : Addr → Prop) (H0 : Hp) (U : Addr → Prop) (H : Hp) (D : GEnds) (env : W → Env) (envL : L → Env) : List Gp.D × Fl W L → Nat → Prop
  | (zs, .nx w), b => ∀ U' σ' H' ys', Ev U H U' H' → Stt g Mt U0 H0 U' σ' H' b (env w) → DenL g U' H' ys' zs → D.nx ys' σ' H'
  | (_, .rt _), _ => False
  | (zs, .bk w), b => ∀ U' σ' H' ys', Ev U H U' H' → Stt g Mt U0 H0 U' σ' H' b (envL w) → DenL g U' H' ys' zs → D.bk ys' σ' H'
  | (zs, .ct w), b => ∀ U' σ' H' ys', Ev U H U' H' → Stt g Mt U0 H0 U' σ' H' b (envL w) → DenL g U' H' ys' zs → D.ct ys' σ' H'
theorem gflP.ev {U1 : Addr → Prop} {H1 : Hp} {D : GEnds} {env : W → Env} {envL : L → Env} (e : Ev U H U1 H1) : ∀ {f : List Gp.D × Fl W L}, gflP g Mt U0 H0 U H D env envL f b → gflP g Mt U0 H0 U1 H1 D env envL f b
  | (_, .nx w), h => fun U' σ' H' ys' e1 => h U' σ' H' ys' (e.trans e1)
  | (_, .rt d), h => h
  | (_, .bk w), h => fun U' σ' H' ys' e1 => h U' σ' H' ys' (e.trans e1)
  | (_, .ct w), h => fun U' σ' H' ys' e1 => h U' σ' H' ys' (e.trans e1)
def SG (g : Gw) (ε : Env) (t : TGn) (env : W → Env) (envL : L → Env) (m : List D → Tr (List D × Fl W L)) : Prop := ∀ Mt U0 H0 U D ys yd σ H b, Stt g Mt U0 H0 U σ H b ε → DenL g U H ys yd → Al (gflP g Mt U0 H0 U H D env envL) (fun _ _ _ => False) (m yd) b → t D ys σ H
def bdG (m : Tr (List D × Fl W' L)) (k : W' → List D → Tr (List D × Fl W L)) : Tr (List D × Fl W L) := bd m fun r => match r with
  | (zs, .nx w) => k w zs
  | (zs, .rt d) => .ok (zs, .rt d)
  | (zs, .bk l) => .ok (zs, .bk l)
  | (zs, .ct l) => .ok (zs, .ct l)
theorem SG.seq {m : List D → Tr (List D × Fl W' L)} {k : W' → List D → Tr (List D × Fl W L)} (h1 : SG g ε ta env' envL m) (h2 : ∀ w, SG g (env' w) u env envL (k w)) : SG g ε (tGThen ta u) env envL (fun yd => bdG (m yd) k) := fun Mt U0 H0 U D ys yd σ H b s dn q => by
  refine h1 Mt U0 H0 U { D with nx := fun ys' σ' H' => u D ys' σ' H' } ys yd σ H b s dn ((al_bd.mp q).mono (fun r b1 h => ?_) (fun _ _ _ z => z))
  obtain ⟨zs, f⟩ := r
  cases f with
  | nx w => exact fun U1 σ1 H1 ys1 e1 s1 d1 => h2 w Mt U0 H0 U1 D ys1 zs σ1 H1 b1 s1 d1 (Al.mono (fun _ _ z => z.ev e1) (fun _ _ _ z => z) h)
  | rt d => exact h.elim
  | bk l => exact h
  | ct l => exact h
end
section
variable {P : Program} {w : World} {K : PySem.W.Frag} {mg : Str → Option Value} {base : Heap}
end
end Gp
end
section
set_option Elab.async false
set_option linter.all false
set_option maxRecDepth 100000
set_option maxHeartbeats 4000000
namespace Gp
open PySem PySem.Spec PyProof.Rows L2 Gh
section
variable {g : Gw} {U : Addr → Prop} {H : Hp} {σ : L2.St} {ε : Env} {E : XK} {Q : VK}
end
theorem se_dct {g : Gw} {ε : Env} {E : XK} : SE g E ε tDNewK (.ok .dct) := fun U σ H b Q R W u q p np => by
  have s := same_new (o := .dK []) np
  exact q _ _ (.dct upd_same (u.new np)) (W.same s) (fr_same s)
end Gp
end
section
set_option Elab.async false
set_option linter.all false
set_option maxRecDepth 100000
set_option maxHeartbeats 4000000
namespace Gp
open PySem PySem.Spec PyProof.Rows L2 Gh
section
variable {g : Gw} {Mt U0 U U' : Addr → Prop} {H0 H H' H1 H2 : Hp} {b b1 : Nat} {σ : L2.St} {ε ε' : Env} {E : XK} {W L W' : Type}
variable {env : W → Env} {envL : L → Env} {env' : W' → Env} {u ta tb : TS} {te ti : TE} {me mi : Tr D}
theorem Pnd.set {A : Addr} {ds : List D} (p : Pnd g Mt U0 H0 U σ H ε A ds) (i : Nat) (v : V) (d : D) : Pnd g Mt U0 H0 U (σ.set i (some v)) H (ε.set i (.fz d)) A ds :=
  ⟨p.at_, p.u, p.np, p.nc, p.n0, fun j h => p.no j (ownAt_set h).2, p.mt⟩
def SQ (g : Gw) (E : XK) (ε : Env) (n : Nat) (t : TA) (m : Tr (List D)) : Prop := ∀ Mt U0 H0 U σ H b Q, Stt g Mt U0 H0 U σ H b ε →
  Al (fun ds b' => ∀ vs U' H', QR g Mt U0 H0 U' σ H' ε n vs ds → Ev U H U' H' → Stt g Mt U0 H0 U' σ H' b' ε → Q vs H') (exS g Mt U0 H0 E) m b → t σ H Q
theorem SQ.sstep {n : Nat} {t : TA} {m : Tr (List D)} {k : List D → Tr (Fl W L)} {Ds : Ends} {Q : List V → Hp → Prop} (he : SQ g E ε n t m) (s : Stt g Mt U0 H0 U σ H b ε) (h : Al (flP g Mt U0 H0 U H Ds env envL) (exS g Mt U0 H0 E) (bd m k) b)
    (hk : ∀ vs ds U' H1 b1, QR g Mt U0 H0 U' σ H1 ε n vs ds → Stt g Mt U0 H0 U' σ H1 b1 ε → Al (flP g Mt U0 H0 U' H1 Ds env envL) (exS g Mt U0 H0 E) (k ds) b1 → Q vs H1) : t σ H Q :=
  he Mt U0 H0 U σ H b Q s ((al_bd.mp h).mono (fun ds b1 h1 vs U' H' qr ev s1 => hk vs ds U' H' b1 qr s1 (h1.mono (fun _ _ z => z.ev ev) (fun _ _ _ z => z))) (fun _ _ _ h => h))
end
end Gp
end
section
set_option Elab.async false
set_option linter.all false
set_option maxRecDepth 100000
set_option maxHeartbeats 4000000
namespace Gp
open PySem PySem.Spec PyProof.Rows L2 Gh
abbrev TSF : Type := Addr → Value → Option Addr → TS
section
variable {X : Cx} {body : List Stmt} {h₀ : ExceptHandler} {hds : List ExceptHandler} {l : List (Value × Option Nat × TSF)} {pos : Pos} {tb : WX → TS} {Wout : WX}
end
end Gp
end
section
set_option Elab.async false
set_option linter.all false
set_option maxRecDepth 100000
set_option maxHeartbeats 4000000
namespace Gp
open PySem PySem.Spec PyProof.Rows L2 Gh
def ItH.te (a : Addr) (cls : Value) (d : Option Addr) (C : Addr) (i : Nat) : ItH → TE
  | .s x => tC (.str x)
  | .n k => tC (.int k)
  | .f x => tXf a cls d C x (tVar i)
section
variable {g : Gw} {U : Addr → Prop} {H H' : Hp} {b : Nat} {σ : L2.St} {ε : Env}
theorem Fz.set {j : Nat} {d : D} (h : Fz ε) : Fz (ε.set j (.fz d)) := fun s m => by
  rcases List.mem_or_eq_of_mem_set m with m | m
  · exact h s m
  · exact .inl ⟨_, m⟩
end
def HrdP (K : PySem.W.Frag) (d : Df) (ps : List Str) : Prop := ∃ fd, FnA K d fd ∧ L2.Binds K fd ps []
def qlOf (d : Df) (K : PySem.W.Frag) : Str := (envOfC d.qual (defScope d.st) 0 (d.adr K) .none).qual ++ "<lambda>"
structure LamD (base : Heap) (mg : Str → Option Value) (K : PySem.W.Frag) (Tb : List (Addr × Str)) (d : Df) (pn : He.Defn) : Prop where
  tb : LamX.TabB base mg (He.cT K pn).1 (He.cT K pn).2
  mem : ((He.cT K pn).2, qlOf d K) ∈ Tb
  hu : ∀ p ∈ Tb, p.1 = (He.cT K pn).2 → p.2 = qlOf d K
end Gp
end
section
set_option Elab.async false
set_option linter.all false
set_option maxRecDepth 100000
set_option maxHeartbeats 4000000
namespace Gp
open PySem PySem.Spec PyProof.Rows L2 Gh
section
variable {prog : Program} {w : World} {M : Model} {A : Around} {E : Value → Shared → Prop} {s : Shared} {K : PySem.W.Frag} {x C C2 L f : Addr} {h₀ h : Heap} {m : Str → Option Value} {ox : Obj} {od : Option Obj} {nm : String}
open PySem.W in
open PySem.W in
open PySem.W in
open PySem.W in
end
section
variable {X : Cx} {C C2 g : Addr} {r : List V → Hp → VK → Prop} {op : Operator}
end
section
variable {g : Gw} {E : XK}
end
section
variable {W L : Type} {g : Gw} {E : XK} {ε : Env} {u : TS} {env : W → Env} {envL : L → Env} {te : TE} {me : Tr D}
theorem ss_augN {i : Nat} {k : D → Tr (Fl W L)} {r : R2} (h : SE g E ε (tOp r (tVar i) te) me) (hk : ∀ d, SS g E (ε.set i (.fz d)) u env envL (k d)) :
    SS g E ε (tSeq (tAug i te r) u) env envL (bd me k) := ss_asg (te := tOp r (tVar i) te) h hk
end
end Gp
end
section
set_option Elab.async false
set_option linter.all false
set_option maxRecDepth 100000
set_option maxHeartbeats 4000000
namespace Gp
open PySem PySem.Spec PyProof.Rows L2 Gh
mutual
def noLst : D → Bool
  | .lst _ => false
  | .tup ds => noLstL ds
  | .obj _ fs => noLstF fs
  | .err _ fs => noLstF fs
  | .dic _ => false
  | .dit _ => false
  | _ => true
def noLstL : List D → Bool
  | [] => true
  | d :: ds => noLst d && noLstL ds
def noLstF : List (Str × D) → Bool
  | [] => true
  | (_, d) :: ds => noLst d && noLstF ds
end
def pk : Tr D → Tr D
  | .ok d => if noLst d = true then .ok d else .bad
  | .ex c fs => if noLstF fs = true then .ex c fs else .bad
  | .bad => .bad
  | .draw m k => .draw m fun d => pk (k d)
section
variable {g : Gw} {U : Addr → Prop} {H : Hp} {a : Addr} {vs : List V}
mutual
theorem den_back (ha : H a = some (.lst vs)) : ∀ {v : V} {d : D}, Den g (fun x => U x ∧ x ≠ a) H v d → noLst d = true → Den g U H v d
  | _, _, .non, _ => .non
  | _, _, .bl b, _ => .bl b
  | _, _, .int i, _ => .int i
  | _, _, .str x h, _ => .str x h
  | _, _, .tup h n l k, z => .tup h (fun u => n ⟨u, fun e => by subst e; rw [ha] at h; cases h⟩) l (denL_back ha k (by simpa only [noLst] using z))
  | _, _, .tupW h l k, z => .tupW h l (denL_back ha k (by simpa only [noLst] using z))
  | _, _, .lst _ _ _ _, z => by simp only [noLst] at z; cases z
  | _, _, .obj h n k, z => .obj h (fun u => n ⟨u, fun e => by subst e; rw [ha] at h; cases h⟩) (denF_back ha k (by simpa only [noLst] using z))
  | _, _, .err h n h2 n2 k, z => .err h (fun u => n ⟨u, fun e => by subst e; rw [ha] at h; unfold exk at h; cases h⟩) h2 (fun u => n2 ⟨u, fun e => by subst e; rw [ha] at h2; cases h2⟩) (denF_back ha k (by simpa only [noLst] using z))
  | _, _, .pen, _ => .pen
  | _, _, .cls c, _ => .cls c
  | _, _, .dct h n, _ => .dct h (fun u => n ⟨u, fun e => by subst e; rw [ha] at h; cases h⟩)
  | _, _, .dic _ _ _ _, z => by simp only [noLst] at z; cases z
  | _, _, .dit _ _ _ _, z => by simp only [noLst] at z; cases z
theorem denL_back (ha : H a = some (.lst vs)) : ∀ {ws : List V} {ds : List D}, DenL g (fun x => U x ∧ x ≠ a) H ws ds → noLstL ds = true → DenL g U H ws ds
  | _, _, .nil, _ => .nil
  | _, _, .cons x r, z => by
    simp only [noLstL, Bool.and_eq_true] at z
    exact .cons (den_back ha x z.1) (denL_back ha r z.2)
theorem denF_back (ha : H a = some (.lst vs)) : ∀ {ws : List (Str × V)} {ds : List (Str × D)}, DenF g (fun x => U x ∧ x ≠ a) H ws ds → noLstF ds = true → DenF g U H ws ds
  | _, _, .nil, _ => .nil
  | _, _, .cons x r, z => by
    simp only [noLstF, Bool.and_eq_true] at z
    exact .cons (den_back ha x z.1) (denF_back ha r z.2)
end
end
section
variable {g : Gw} {U : Addr → Prop} {H : Hp} {b : Nat} {σ : L2.St} {ε : Env} {E : XK} {te : TE} {m : Tr D}
theorem al_pk {Q : VK} {a : Addr} {vs : List V} (ha : H a = some (.lst vs)) (np : a ≠ g.p) {m : Tr D} {b : Nat} (h : Al (okP g U H Q) (exP g U E H) (pk m) b) : Al (okP g (fun x => U x ∧ x ≠ a) H Q) (exP g (fun x => U x ∧ x ≠ a) E H) m b := by
  induction m generalizing b with
  | ok d =>
    unfold pk at h
    split at h
    · rename_i z
      intro v H' dn w f
      exact h v H' (den_back (f _ _ ha np (fun _ z => by cases z)) dn z) w f
    · exact h.elim
  | ex c fs =>
    unfold pk at h
    split at h
    · rename_i z
      intro dd fvs H' h1 h2 h3 h4 h5
      have ha' := h5 _ _ ha np (fun _ z => by cases z)
      exact h dd fvs H' h1 (fun u => h2 ⟨u, fun e => by subst e; rw [ha'] at h1; cases h1⟩) (denF_back ha' h3 z) h4 h5
    · exact h.elim
  | bad => exact h
  | draw m f ih =>
    obtain ⟨b', e, h1, h2, h3⟩ := h
    exact ⟨b', e, h1, h2, fun d d0 d1 => ih d (h3 d d0 d1)⟩
theorem se_lend {i : Nat} {ds : List D} (h : SE g E (ε.set i (.fz (.lst ds))) te m) (hi : ε[i]? = some (.ow ds) := by rfl) : SE g E ε te (pk m) := fun U σ H b Q R w u q => by
  obtain ⟨o, e1, a, vs, rfl, h1, l1, d1, ua, n1, n2⟩ := R.at_ i _ hi
  have il : i < ε.length := (List.getElem?_eq_some_iff.mp hi).1
  have sub : ∀ x, (∃ o, H x = some o) → (U x ∧ x ≠ a) → U x := fun x _ z => z.1
  have ow : ∀ j x, OwnAt σ (ε.set i (.fz (.lst ds))) j x → i ≠ j ∧ OwnAt σ ε j x := fun j x z => by
    obtain ⟨z1, z2⟩ := z
    by_cases q : i = j
    · subst q
      exfalso
      rcases z2 with ⟨y, z2⟩ | ⟨y1, y2, z2⟩
      · rw [List.getElem?_set_self il] at z2
        cases z2
      · rw [List.getElem?_set_self il] at z2
        cases z2
    · rw [List.getElem?_set_ne q] at z2
      exact ⟨q, z1, z2⟩
  have apart : ∀ j x, i ≠ j → OwnAt σ ε j x → x ≠ a := fun j x ne z e => by
    subst e
    exact R.apart i j x ne ⟨e1, .inl ⟨ds, hi⟩⟩ z
  refine h (fun x => U x ∧ x ≠ a) σ H b Q ⟨by rw [List.length_set]; exact R.len, fun j x e => ?_, fun j k x ne z1 z2 => R.apart j k x ne (ow _ _ z1).2 (ow _ _ z2).2⟩ w ⟨⟨u.p, n1.symm⟩, ⟨u.c, n2.symm⟩, fun x hx => u.al x hx.1⟩ (al_pk h1 n1 q)
  by_cases q : i = j
  · subst q
    rw [List.getElem?_set_self il] at e
    cases e
    exact ⟨_, e1, _, rfl, .lst h1 (fun z => z.2 rfl) l1 (d1.sub sub)⟩
  · rw [List.getElem?_set_ne q] at e
    obtain ⟨o, e3, e2⟩ := R.at_ j x e
    refine ⟨o, e3, ?_⟩
    cases x with
    | no => trivial
    | fz d =>
      obtain ⟨v, e4, e5⟩ := e2
      exact ⟨v, e4, e5.sub sub⟩
    | ow ds2 =>
      obtain ⟨a2, v2, rfl, h2, l2, d2, u2, m1, m2⟩ := e2
      have ne := apart j a2 q ⟨e3, .inl ⟨ds2, e⟩⟩
      exact ⟨a2, v2, rfl, h2, l2, d2.sub sub, ⟨u2, ne⟩, m1, m2⟩
    | oi c fs =>
      obtain ⟨a2, dx, v2, rfl, h2, d2, u2, m1, m2⟩ := e2
      have ne := apart j a2 q ⟨e3, .inr ⟨c, fs, e⟩⟩
      exact ⟨a2, dx, v2, rfl, h2, d2.sub sub, ⟨u2, ne⟩, m1, m2⟩
end
end Gp
end
section
set_option Elab.async false
set_option linter.all false
set_option maxRecDepth 100000
set_option maxHeartbeats 4000000
namespace Gp
open PySem PySem.Spec PyProof.Rows L2 Gh
theorem passG {P : Program} {w : World} {K : PySem.W.Frag} {mg : Str → Option Value} {base : Heap} {N : List Str} {qual : Str} {scope : Scope} {f : Addr} {cd : Value} {A : Around} {outer : List PySem.Env} {s : Shared} {H : Hp} {E : XK} {pn : List (Addr × Obj)} :
    Passes (L2.CX P w) (gcxOf P w K mg base N qual scope f cd A outer s H E pn) E :=
  passes_call (X := gcxOf P w K mg base N qual scope f cd A outer s H E pn) (W := fun cls d _ H => E cls d H) (fun u s' x => XE.leaveG (X := gcxOf P w K mg base N qual scope f cd A outer s H E pn) (W := fun cls d _ H => E cls d H) (E := E) rfl rfl rfl (fun _ _ _ _ h => h) x) fun _ _ _ _ h => h
def nsE (K : PySem.W.Frag) (E : XK) : XK := fun c d H => E c d H ∧ PySem.W.subIn K c (.type "StopIteration") = some false
theorem noStop_ns {K : PySem.W.Frag} {E : XK} : NoStop K (nsE K E) := fun _ _ _ z => z.2
theorem pass_ns {X : Cx} {E : XK} {K : PySem.W.Frag} (h : Passes (L2.CX X.prog X.w) X E) : Passes (L2.CX X.prog X.w) X (nsE K E) := fun pins σ H s e s' I ⟨a, B, H', cls, d, e1, e2, e3, e4, e5, e6, e7, e8⟩ => h pins σ H s e s' I ⟨a, B, H', cls, d, e1, e2, e3, e4, e5, e6, e7, e8.1⟩
end Gp
end
section
set_option Elab.async false
set_option linter.all false
set_option maxRecDepth 100000
set_option maxHeartbeats 4000000
namespace Gz
open PySem
open Sem (wp)
theorem fixd_run : Fixd .running := .inr rfl
theorem pois_seen (x : GenState) : (pois x).seen = x.seen := by cases x <;> rfl
theorem pois_bare (x : GenState) : (pois x).bare = x.bare := by cases x <;> rfl
def FsOk (ρ : Map) (fs : List Frame) : Prop := ∀ g kk ll cc pp, Frame.gen g kk ll cc pp ∈ fs → ρ g = none
def EndOk (ρ : Map) : End → Prop
  | .ret _ => True
  | .susp _ _ _ _ _ _ fs => FsOk ρ fs
theorem rest_none {ρ : Map} {G : Array GenState} {i : Nat} (h : ρ i = none) : (rest ρ G)[i]? = G[i]? := by
  rw [rest_get, h]
  cases G[i]? <;> rfl
theorem Held.set {ρ : Map} {G : Array GenState} (h : Held ρ G) {g : Nat} (hg : ρ g = none) {y : GenState} (hy : ∀ k l c p fs cl, y = .suspended k l c p fs cl → FsOk ρ fs) :
    Held ρ (G.setIfInBounds g y) ∧ rest ρ (G.setIfInBounds g y) = (rest ρ G).setIfInBounds g y := by
  refine ⟨⟨fun i x e => ?_, fun i k l c p fs cl e q => ?_⟩, ?_⟩
  · obtain ⟨a, b⟩ := h.at_ i x e
    refine ⟨a, ?_⟩
    rw [Array.getElem?_setIfInBounds_ne (fun z => by rw [z, e] at hg; cases hg)]
    exact b
  · by_cases z : g = i
    · subst z
      rw [Array.getElem?_setIfInBounds_self] at q
      split at q
      · exact hy _ _ _ _ _ _ (Option.some.inj q)
      · cases q
    · rw [Array.getElem?_setIfInBounds_ne z] at q
      exact h.fr i k l c p fs cl e q
  · apply Array.ext_getElem?
    intro i
    rw [rest_get]
    by_cases z : g = i
    · subst z
      rw [Array.getElem?_setIfInBounds_self, Array.getElem?_setIfInBounds_self, rest_size, hg]
      split <;> rfl
    · rw [Array.getElem?_setIfInBounds_ne z, Array.getElem?_setIfInBounds_ne z, rest_get]
theorem up_set {ρ : Map} {s : Shared} (h : Held ρ s.gens) {g : Nat} (hg : ρ g = none) {y : GenState} (hy : ∀ k l c p fs cl, y = .suspended k l c p fs cl → FsOk ρ fs) :
    Held ρ (s.setGen g y).gens ∧ up ρ (s.setGen g y) = (up ρ s).setGen g y := by
  obtain ⟨a, b⟩ := h.set hg hy
  exact ⟨a, by unfold up Shared.setGen; dsimp only; rw [b]⟩
theorem endOk_state {ρ : Map} {e : End} (h : EndOk ρ e) : ∀ k l c p fs cl, e.genState = .suspended k l c p fs cl → FsOk ρ fs := by
  intro k l c p fs cl q
  cases e with
  | ret _ => cases q
  | susp v g0 l0 k0 c0 p0 fs0 =>
    cases q
    exact h
theorem no_run {M : Model} {w : String} {Γ : Ctx} {p : Pos} {t : Sem PySem.Fin} {fs : List Frame} {s s' : Shared} {e : End} (h : Runs M Γ p t fs s e s') : t = .unsupported w → False := by
  induction h with
  | segRet _ _ ih1 _ => exact ih1
  | segGen _ _ ih1 _ => exact ih1
  | segSuspOut _ _ ih1 => exact ih1
  | segSuspGen _ _ _ _ ih1 _ => exact ih1
  | _ => intro q; cases q
theorem split_mem {fs pre rest : List Frame} {g : Nat} {k : GenResult → Sem PySem.Fin} {c : Code} {p : Pos} (h : splitAtGen fs = some (pre, (g, k, c, p), rest)) : (∃ l, Frame.gen g k l c p ∈ fs) ∧ (∀ x ∈ pre, x ∈ fs) ∧ (∀ x ∈ rest, x ∈ fs) := by
  induction fs generalizing pre with
  | nil => cases h
  | cons f fs ih =>
    cases f with
    | gen g' k' l' c' p' =>
      cases h
      exact ⟨⟨_, List.mem_cons_self⟩, fun _ z => absurd z List.not_mem_nil, fun _ z => List.mem_cons_of_mem _ z⟩
    | ret k' h' g' l' c' p' kp' =>
      unfold splitAtGen at h
      cases e : splitAtGen fs with
      | none => rw [e] at h; cases h
      | some q =>
        obtain ⟨a, b, r⟩ := q
        rw [e] at h
        cases h
        obtain ⟨⟨l, h1⟩, h2, h3⟩ := ih e
        refine ⟨⟨l, List.mem_cons_of_mem _ h1⟩, fun x hx => ?_, fun x hx => List.mem_cons_of_mem _ (h3 x hx)⟩
        rcases List.mem_cons.mp hx with z | z
        · rw [z]; exact List.mem_cons_self
        · exact List.mem_cons_of_mem _ (h2 x z)
theorem Held.not_fresh {ρ : Map} {G : Array GenState} (h : Held ρ G) {g : Nat} {x : GenState} (e : G[g]? = some x) (hx : ¬ Fixd x) : ρ g = none := by
  cases q : ρ g with
  | none => rfl
  | some y =>
    obtain ⟨hy, b⟩ := h.at_ g y q
    rw [e] at b
    rcases hy with ⟨k, l, c, p, fs, cl, rfl⟩ | rfl
    · cases b
      exact absurd fixd_susp hx
    · cases b
      exact absurd fixd_run hx
theorem not_fixd_fresh {c : Code} : ¬ Fixd (.fresh c) := by
  rintro (⟨k, l, c, p, fs, cl, z⟩ | z) <;> cases z
theorem not_fixd_fin : ¬ Fixd .finished := by
  rintro (⟨k, l, c, p, fs, cl, z⟩ | z) <;> cases z
theorem fsOk_nil {ρ : Map} : FsOk ρ [] := fun _ _ _ _ _ z => absurd z List.not_mem_nil
theorem FsOk.app {ρ : Map} {a b : List Frame} (ha : FsOk ρ a) (hb : FsOk ρ b) : FsOk ρ (a ++ b) := fun g kk ll cc pp z => (List.mem_append.mp z).elim (ha g kk ll cc pp) (hb g kk ll cc pp)
theorem FsOk.tail {ρ : Map} {a : Frame} {b : List Frame} (h : FsOk ρ (a :: b)) : FsOk ρ b := fun g kk ll cc pp z => h g kk ll cc pp (List.mem_cons_of_mem _ z)
theorem Held.seen {ρ : Map} {G : Array GenState} (H : Held ρ G) {g : Nat} {st : GenState} (hg : G[g]? = some st) : ∃ x, (rest ρ G)[g]? = some x ∧ x.seen = st.seen := by
  cases q : ρ g with
  | none => exact ⟨st, by rw [rest_none q]; exact hg, rfl⟩
  | some x =>
    obtain ⟨_, z⟩ := H.at_ g x q
    rw [hg] at z
    cases z
    exact ⟨x, by rw [rest_get, hg, q]; rfl, (pois_seen x).symm⟩
theorem up_push {ρ : Map} {s : Shared} (H : Held ρ s.gens) (c : Code) : up ρ { s with gens := s.gens.push (.fresh c) } = { up ρ s with gens := (up ρ s).gens.push (.fresh c) } := by
  unfold up
  dsimp only
  rw [(H.push c).2]
theorem up_size {ρ : Map} {s : Shared} : (up ρ s).gens.size = s.gens.size := rest_size _ _
theorem up_get {ρ : Map} {s : Shared} {g : Nat} {y : Option GenState} (n : ρ g = none) (hg : s.gens[g]? = y) : (up ρ s).gens[g]? = y := (rest_none n).trans hg
theorem runs_up {M : Model} {ρ : Map} {Γ : Ctx} {p : Pos} {t : Sem PySem.Fin} {fs : List Frame} {s s' : Shared} {e : End} (h : Runs M Γ p t fs s e s') :
    Held ρ s.gens → FsOk ρ fs → Runs M Γ p t fs (up ρ s) e (up ρ s') ∧ Held ρ s'.gens ∧ EndOk ρ e := by
  induction h with
  | done => exact fun H _ => ⟨.done, H, trivial⟩
  | raise => exact fun H _ => ⟨.raise, H, trivial⟩
  | again hq _ ih => exact fun H F => let ⟨a, b, c⟩ := ih H F; ⟨.again hq a, b, c⟩
  | rule _ ih => exact fun H F => let ⟨a, b, c⟩ := ih H F; ⟨.rule a, b, c⟩
  | «at» _ ih => exact fun H F => let ⟨a, b, c⟩ := ih H F; ⟨.at a, b, c⟩
  | load ho _ ih => exact fun H F => let ⟨a, b, c⟩ := ih H F; ⟨.load ho a, b, c⟩
  | update ho _ ih => exact fun H F => let ⟨a, b, c⟩ := ih H F; ⟨.update ho a, b, c⟩
  | loadIfAlive _ ih => exact fun H F => let ⟨a, b, c⟩ := ih H F; ⟨.loadIfAlive a, b, c⟩
  | point _ ih => exact fun H F => let ⟨a, b, c⟩ := ih H F; ⟨.point a, b, c⟩
  | alloc _ ih => exact fun H F => let ⟨a, b, c⟩ := ih H F; ⟨.alloc a, b, c⟩
  | fresh _ ih => exact fun H F => let ⟨a, b, c⟩ := ih H F; ⟨.fresh a, b, c⟩
  | ask _ ih => exact fun H F => let ⟨a, b, c⟩ := ih H F; ⟨.ask a, b, c⟩
  | choose hn _ ih => exact fun H F => let ⟨a, b, c⟩ := ih H F; ⟨.choose hn a, b, c⟩
  | os _ ih => exact fun H F => let ⟨a, b, c⟩ := ih H F; ⟨.os a, b, c⟩
  | handled _ ih => exact fun H F => let ⟨a, b, c⟩ := ih H F; ⟨.handled a, b, c⟩
  | genState hg _ ih =>
    intro H F
    obtain ⟨a, b, c⟩ := ih H F
    obtain ⟨x, hx, hs⟩ := H.seen hg
    rw [← hs] at a
    exact ⟨.genState hx a, b, c⟩
  | stack _ ih => exact fun H F => let ⟨a, b, c⟩ := ih H F; ⟨.stack a, b, c⟩
  | thread _ ih => exact fun H F => let ⟨a, b, c⟩ := ih H F; ⟨.thread a, b, c⟩
  | newGen _ ih =>
    intro H F
    obtain ⟨a, b, d⟩ := ih (H.push _).1 F
    rw [up_push H] at a
    exact ⟨.newGen (by rw [up_size]; exact a), b, d⟩
  | call _ _ ih1 ih2 =>
    intro H F
    obtain ⟨a, b, _⟩ := ih1 H fsOk_nil
    obtain ⟨a2, b2, c2⟩ := ih2 b F
    exact ⟨.call a a2, b2, c2⟩
  | callSusp _ ih =>
    intro H F
    obtain ⟨a, b, c⟩ := ih H fsOk_nil
    exact ⟨.callSusp a, b, FsOk.app c fun g kk ll cc pp z => by cases (List.mem_singleton.mp z)⟩
  | yield => exact fun H _ => ⟨.yield, H, fsOk_nil⟩
  | @resumeFresh Γ p g l k s c e₁ s₁ e s' hg _ hq _ ih1 ih2 =>
    intro H F
    have n := H.not_fresh hg (by first | exact not_fixd_fresh | exact not_fixd_fin)
    obtain ⟨h1, h2⟩ := up_set H n (y := .running) (fun _ _ _ _ _ _ z => by cases z)
    obtain ⟨a, b, d⟩ := ih1 h1 fsOk_nil
    obtain ⟨h3, h4⟩ := up_set b n (endOk_state d)
    obtain ⟨a2, b2, c2⟩ := ih2 h3 F
    rw [h2] at a
    rw [h4] at a2
    exact ⟨.resumeFresh (up_get n hg) a hq a2, b2, c2⟩
  | @resumeSuspended Γ p g r l k s k₀ l₀ c₀ p₀ fs cl e₁ s₁ e s' hg h1r hq _ ih1 ih2 =>
    intro H F
    cases q : ρ g with
    | some x =>
      obtain ⟨hx, z⟩ := H.at_ g x q
      rw [hg] at z
      rcases hx with ⟨k', l', c', p', fs', cl', rfl⟩ | rfl
      · cases z
        exact (no_run h1r rfl).elim
      · cases z
    | none =>
      obtain ⟨h1, h2⟩ := up_set H q (y := .running) (fun _ _ _ _ _ _ z => by cases z)
      obtain ⟨a, b, d⟩ := ih1 h1 (H.fr _ _ _ _ _ _ _ q hg)
      obtain ⟨h3, h4⟩ := up_set b q (endOk_state d)
      obtain ⟨a2, b2, c2⟩ := ih2 h3 F
      rw [h2] at a
      rw [h4] at a2
      exact ⟨.resumeSuspended (up_get q hg) a hq a2, b2, c2⟩
  | resumeJustStarted hg hv _ ih =>
    intro H F
    have n := H.not_fresh hg (by first | exact not_fixd_fresh | exact not_fixd_fin)
    obtain ⟨a, b, d⟩ := ih H F
    exact ⟨.resumeJustStarted (up_get n hg) hv a, b, d⟩
  | resumeThrowFresh hg _ ih =>
    intro H F
    have n := H.not_fresh hg (by first | exact not_fixd_fresh | exact not_fixd_fin)
    obtain ⟨h1, h2⟩ := up_set H n (y := .finished) (fun _ _ _ _ _ _ z => by cases z)
    obtain ⟨a, b, d⟩ := ih h1 F
    rw [h2] at a
    exact ⟨.resumeThrowFresh (up_get n hg) a, b, d⟩
  | resumeRunning hg _ ih =>
    intro H F
    obtain ⟨a, b, d⟩ := ih H F
    exact ⟨.resumeRunning (H.run hg) a, b, d⟩
  | resumeFinished hg _ ih =>
    intro H F
    have n := H.not_fresh hg (by first | exact not_fixd_fresh | exact not_fixd_fin)
    obtain ⟨a, b, d⟩ := ih H F
    exact ⟨.resumeFinished (up_get n hg) a, b, d⟩
  | segRet _ _ ih1 ih2 =>
    intro H F
    obtain ⟨a, b, _⟩ := ih1 H fsOk_nil
    obtain ⟨a2, b2, c2⟩ := ih2 b F.tail
    exact ⟨.segRet a a2, b2, c2⟩
  | @segGen Γ p t g k l c₁ p₁ fs s r s₁ e s' _ _ ih1 ih2 =>
    intro H F
    have n := F _ _ _ _ _ List.mem_cons_self
    obtain ⟨a, b, _⟩ := ih1 H fsOk_nil
    obtain ⟨h1, h2⟩ := up_set b n (y := .finished) (fun _ _ _ _ _ _ z => by cases z)
    obtain ⟨a2, b2, c2⟩ := ih2 h1 F.tail
    rw [h2] at a2
    exact ⟨.segGen a a2, b2, c2⟩
  | segSuspOut hs _ ih =>
    intro H F
    obtain ⟨a, b, c⟩ := ih H fsOk_nil
    exact ⟨.segSuspOut hs a, b, FsOk.app c F⟩
  | @segSuspGen Γ p t F0 fs pre g k c₁ p₁ rest s v g₀ l₀ k₀ c₀ p₀ fs₀ s₁ e s' hs _ hq _ ih1 ih2 =>
    intro H F
    obtain ⟨⟨l, m1⟩, m2, m3⟩ := split_mem hs
    have n := F _ _ _ _ _ m1
    obtain ⟨a, b, c⟩ := ih1 H fsOk_nil
    have c' : EndOk ρ (End.susp v g₀ l₀ k₀ c₀ p₀ (fs₀ ++ pre)) := FsOk.app c fun g kk ll cc pp z => F g kk ll cc pp (m2 _ z)
    obtain ⟨h1, h2⟩ := up_set b n (endOk_state c')
    obtain ⟨a2, b2, c2⟩ := ih2 h1 fun g kk ll cc pp z => F g kk ll cc pp (m3 _ z)
    rw [h2] at a2
    exact ⟨.segSuspGen hs a hq a2, b2, c2⟩
theorem wakes_up {M : Model} {ρ : Map} {Γ : Ctx} {p : Pos} {g : Nat} {r : Resume} {s s' : Shared} {res : GenResult} (H : Held ρ s.gens) (h : Wakes M Γ p g r s res s') :
    Wakes M Γ p g r (up ρ s) res (up ρ s') ∧ Held ρ s'.gens := by
  unfold Wakes at h
  cases hg : s.gens[g]? with
  | none => rw [hg] at h; exact h.elim
  | some x =>
    rw [hg] at h
    cases x with
    | fresh c =>
      have n := H.not_fresh hg (by first | exact not_fixd_fresh | exact not_fixd_fin)
      unfold Wakes
      rw [up_get n hg]
      cases r with
      | send v =>
        cases v with
        | none =>
          obtain ⟨e₁, s₁, hr, hq, h1, rfl⟩ := h
          obtain ⟨z1, z2⟩ := up_set H n (y := .running) (fun _ _ _ _ _ _ z => by cases z)
          obtain ⟨a, b, d⟩ := runs_up hr z1 fsOk_nil
          obtain ⟨z3, z4⟩ := up_set b n (endOk_state d)
          rw [z2] at a
          exact ⟨⟨e₁, _, a, hq, h1, z4⟩, z3⟩
        | _ =>
          obtain ⟨h1, rfl⟩ := h
          exact ⟨⟨h1, rfl⟩, H⟩
      | throw x =>
        obtain ⟨h1, rfl⟩ := h
        obtain ⟨z1, z2⟩ := up_set H n (y := .finished) (fun _ _ _ _ _ _ z => by cases z)
        exact ⟨⟨h1, z2⟩, z1⟩
    | suspended k₀ l₀ c₀ p₀ fs cl =>
      obtain ⟨e₁, s₁, hr, hq, h1, rfl⟩ := h
      cases q : ρ g with
      | some x =>
        obtain ⟨hx, z⟩ := H.at_ g x q
        rw [hg] at z
        rcases hx with ⟨k', l', c', p', fs', cl', rfl⟩ | rfl
        · cases z
          exact (no_run hr rfl).elim
        · cases z
      | none =>
        unfold Wakes
        rw [up_get q hg]
        obtain ⟨z1, z2⟩ := up_set H q (y := .running) (fun _ _ _ _ _ _ z => by cases z)
        obtain ⟨a, b, d⟩ := runs_up hr z1 (H.fr _ _ _ _ _ _ _ q hg)
        obtain ⟨z3, z4⟩ := up_set b q (endOk_state d)
        rw [z2] at a
        exact ⟨⟨e₁, _, a, hq, h1, z4⟩, z3⟩
    | running =>
      obtain ⟨h1, rfl⟩ := h
      unfold Wakes
      rw [show (up ρ s').gens[g]? = some .running from H.run hg]
      exact ⟨⟨h1, rfl⟩, H⟩
    | finished =>
      have n := H.not_fresh hg (by first | exact not_fixd_fresh | exact not_fixd_fin)
      obtain ⟨h1, rfl⟩ := h
      unfold Wakes
      rw [up_get n hg]
      exact ⟨⟨h1, rfl⟩, H⟩
theorem wp_up {α : Type} (M : Model) (ρ : Map) (Γ : Ctx) (t : Sem α) : ∀ (Q : α → Pos → Shared → Prop) (E : Value → Pos → Shared → Prop) (p : Pos) (s : Shared), Held ρ s.gens → wp M Γ t Q E p s →
    wp M Γ t (fun a p' s1 => ∃ s2, Q a p' s2 ∧ Held ρ s2.gens ∧ s1 = up ρ s2) (fun e p' s1 => ∃ s2, E e p' s2 ∧ Held ρ s2.gens ∧ s1 = up ρ s2) p (up ρ s) := by
  induction t with
  | pure a => exact fun Q E p s H h => ⟨s, h, H, rfl⟩
  | raise e => exact fun Q E p s H h => ⟨s, h, H, rfl⟩
  | unsupported _ => exact fun Q E p s _ h => h
  | finish _ => exact fun Q E p s _ h => h
  | rule _ k ih => exact fun Q E p s H h => ih () Q E p s H h
  | «at» p' k ih => exact fun Q E p s H h => ih () Q E p' s H h
  | load a _ k ih => exact fun Q E p s H h => let ⟨o, ho, h⟩ := h; ⟨o, ho, ih o Q E p s H h⟩
  | update a _ f k ih => exact fun Q E p s H h => ⟨h.1, ih () Q E p { s with heap := s.heap.update a f } H h.2⟩
  | loadIfAlive a k ih => exact fun Q E p s H h => ih _ Q E p s H h
  | point _ k ih => exact fun Q E p s H h => ih () Q E p s H h
  | register _ _ => exact fun Q E p s _ h => h
  | alloc o k ih => exact fun Q E p s H h => ih _ Q E p { s with heap := s.heap.push o } H h
  | fresh k ih => exact fun Q E p s H h => ih _ Q E p { s with toks := s.toks + 1 } H h
  | ask k ih => exact fun Q E p s H h => ih _ Q E p s H h
  | choose src m k ih => exact fun Q E p s H h => ⟨h.1, ih _ Q E p { s with drawn := s.drawn.bump src } H h.2⟩
  | os q _ k ih => exact fun Q E p s H h => ih _ Q E p { s with os := (Os.step s.os q).1 } H h
  | call c hd _ _ k ih =>
    intro Q E p s H h
    obtain ⟨r, s', hr, h⟩ := h
    obtain ⟨a, b, _⟩ := runs_up hr H fsOk_nil
    exact ⟨r, _, a, ih r Q E p s' b h⟩
  | handled own k ih => exact fun Q E p s H h => ih _ Q E p s H h
  | genState g k ih =>
    intro Q E p s H h
    obtain ⟨st, hs, h⟩ := h
    obtain ⟨x, hx, he⟩ := H.seen hs
    refine ⟨x, hx, ?_⟩
    rw [he]
    exact ih _ Q E p s H h
  | newGen c k ih =>
    intro Q E p s H h
    have z := ih _ Q E p _ (H.push c).1 h
    rw [up_push H] at z
    show wp M Γ (k (up ρ s).gens.size) _ _ _ _
    rw [up_size]
    exact z
  | resume g r _ k ih =>
    intro Q E p s H h
    obtain ⟨res, s', hw, h⟩ := h
    obtain ⟨a, b⟩ := wakes_up H hw
    exact ⟨res, _, a, ih res Q E p s' b h⟩
  | yield _ _ _ _ => exact fun Q E p s _ h => h
  | stack k ih => exact fun Q E p s H h => ih _ Q E p s H h
  | fork _ _ => exact fun Q E p s _ h => h
  | thread k ih => exact fun Q E p s H h => ih _ Q E p s H h
  | await _ _ _ _ _ => exact fun Q E p s _ h => h
open Classical in
theorem pois_susp {x : GenState} : IsSusp (pois x) ↔ IsSusp x := by
  cases x with
  | suspended k l c p fs cl => exact ⟨fun _ => ⟨_, _, _, _, _, _, rfl⟩, fun _ => ⟨_, _, _, _, _, _, rfl⟩⟩
  | _ => exact Iff.rfl
theorem held_of (G : Array GenState) : Held (sleepers G) (G.map pois) := by
  refine ⟨fun i x e => ?_, fun i k l c p fs cl e q => ?_⟩
  · unfold sleepers at e
    split at e
    · rename_i y hy
      split at e
      · rename_i hs
        cases e
        exact ⟨hs, by rw [Array.getElem?_map, hy]; rfl⟩
      · cases e
    · cases e
  · exfalso
    rw [Array.getElem?_map] at q
    cases hy : G[i]? with
    | none => rw [hy] at q; cases q
    | some y =>
      rw [hy] at q
      have q' : pois y = .suspended k l c p fs cl := Option.some.inj q
      have hs : Fixd y := .inl (pois_susp.mp (by rw [q']; exact ⟨_, _, _, _, _, _, rfl⟩))
      unfold sleepers at e
      rw [hy] at e
      dsimp only at e
      rw [if_pos hs] at e
      cases e
abbrev AllB (G : Array GenState) : Prop := ∀ y ∈ G, y.bare = true
structure Kept (s s1 s2 : Shared) : Prop where
  eq : s1 = { s2 with gens := s1.gens }
  sleep : Sleep s s1
  bare : AllB s.gens → AllB s2.gens → AllB s1.gens
theorem kept_of {s s2 : Shared} (H : Held (sleepers s.gens) s2.gens) : Kept s (up (sleepers s.gens) s2) s2 := by
  refine ⟨rfl, fun i x hx e => ?_, fun h1 h2 y hy => ?_⟩
  · have hq : sleepers s.gens i = some x := by
      unfold sleepers
      rw [e]
      dsimp only
      rw [if_pos hx]
    obtain ⟨_, z⟩ := H.at_ i x hq
    show (rest _ _)[i]? = _
    rw [rest_get, z, hq]
    rfl
  · obtain ⟨i, hi, rfl⟩ := Array.mem_iff_getElem.mp hy
    have z : (rest (sleepers s.gens) s2.gens)[i]? = some (up (sleepers s.gens) s2).gens[i] := Array.getElem?_eq_getElem hi
    rw [rest_get] at z
    cases q : s2.gens[i]? with
    | none => rw [q] at z; cases z
    | some x =>
      rw [q] at z
      have z' : (sleepers s.gens i).getD x = (up (sleepers s.gens) s2).gens[i] := Option.some.inj z
      rw [← z']
      cases q2 : sleepers s.gens i with
      | none => exact h2 x (Array.mem_of_getElem? q)
      | some y' =>
        show y'.bare = true
        unfold sleepers at q2
        split at q2
        · rename_i y2 hy2
          split at q2
          · cases q2
            exact h1 _ (Array.mem_of_getElem? hy2)
          · cases q2
        · cases q2
theorem bare_map {G : Array GenState} (h : AllB G) : AllB (G.map pois) := fun y hy => by
  obtain ⟨x, hx, rfl⟩ := Array.mem_map.mp hy
  rw [pois_bare]
  exact h x hx
end Gz
end
section
set_option Elab.async false
set_option linter.all false
set_option maxRecDepth 100000
set_option maxHeartbeats 4000000
namespace Gz
open PySem PySem.Spec PyProof.Rows L2 GenW Gh
abbrev poisS (s : Shared) : Shared := { s with gens := s.gens.map pois }
theorem upW {α : Type} {M : Model} {A : Around} {ρ : Map} {t : Sem α} {Q Q' : α → Shared → Prop} {E E' : Value → Shared → Prop} {s : Shared} (H : Held ρ s.gens) (h : wpAny M A t Q E s)
    (hQ : ∀ a s2, Held ρ s2.gens → Q a s2 → Q' a (up ρ s2)) (hE : ∀ e s2, Held ρ s2.gens → E e s2 → E' e (up ρ s2)) : wpAny M A t Q' E' (up ρ s) := by
  intro Γ p hΓ
  refine Sem.wp_mono M Γ t ?_ ?_ p _ (wp_up M ρ Γ t _ _ p s H (h Γ p hΓ))
  · rintro a p' s1 ⟨s2, q, H2, rfl⟩
    exact hQ a s2 H2 q
  · rintro a p' s1 ⟨s2, q, H2, rfl⟩
    exact hE a s2 H2 q
theorem up_pois (s : Shared) : up (sleepers s.gens) (poisS s) = s := by
  show ({ s with gens := rest _ _ } : Shared) = s
  rw [rest_of]
theorem keepW {α : Type} {M : Model} {A : Around} {t : Sem α} {Q Q' : α → Shared → Prop} {E E' : Value → Shared → Prop} {s : Shared} (h : wpAny M A t Q E (poisS s))
    (hQ : ∀ a s2, Held (sleepers s.gens) s2.gens → Q a s2 → Q' a (up (sleepers s.gens) s2)) (hE : ∀ e s2, Held (sleepers s.gens) s2.gens → E e s2 → E' e (up (sleepers s.gens) s2)) : wpAny M A t Q' E' s := by
  have z := upW (held_of s.gens) h hQ hE
  rw [up_pois] at z
  exact z
variable {X : Cx}
theorem inv_gens {pins : List (Addr × Obj)} {σ : L2.St} {H : Hp} {s : Shared} (I : Inv X pins σ H s) {G : Array GenState} (hG : AllB G) : Inv X pins σ H { s with gens := G } :=
  ⟨I.ok, I.os, hG, I.base, I.loc, I.cell, I.free, I.freeC, I.pin, I.hok, I.len⟩
theorem inv_pois {pins : List (Addr × Obj)} {σ : L2.St} {H : Hp} {s : Shared} (I : Inv X pins σ H s) : Inv X pins σ H (poisS s) := inv_gens I (bare_map I.bare)
theorem inv_up {pins : List (Addr × Obj)} {σ : L2.St} {H : Hp} {s s2 : Shared} (b : AllB s.gens) (h : Held (sleepers s.gens) s2.gens) (I : Inv X pins σ H s2) : Inv X pins σ H (up (sleepers s.gens) s2) :=
  inv_gens I ((kept_of h).bare b I.bare)
theorem up_sleep {s s2 : Shared} (h : Held (sleepers s.gens) s2.gens) : Sleep s (up (sleepers s.gens) s2) := (kept_of h).sleep
theorem sp_up {pins : List (Addr × Obj)} {D : Ends} {f : Flow} {s s2 : Shared} (b : AllB s.gens) (h : Held (sleepers s.gens) s2.gens) (q : SP X pins D f s2) : SP X pins D f (up (sleepers s.gens) s2) := by
  cases f with
  | next => obtain ⟨σ, H, I, q⟩ := q; exact ⟨σ, H, inv_up (σ := σ) (H := H) b h I, q⟩
  | brk => obtain ⟨σ, H, I, q⟩ := q; exact ⟨σ, H, inv_up (σ := σ) (H := H) b h I, q⟩
  | cont => obtain ⟨σ, H, I, q⟩ := q; exact ⟨σ, H, inv_up (σ := σ) (H := H) b h I, q⟩
  | ret u => obtain ⟨v, σ, H, I, r, q⟩ := q; exact ⟨v, σ, H, inv_up (σ := σ) (H := H) b h I, r, q⟩
theorem cut_get {h : Heap} {n b : Nat} (hb : b < n) : (cut h n).get? b = h.get? b := by
  unfold cut Heap.get?
  have e : (h.objs.extract 0 n)[b]? = h.objs[b]? := by
    rw [Array.getElem?_extract]
    by_cases q : b < h.objs.size
    · rw [if_pos (by omega), Nat.zero_add]
    · rw [if_neg (by omega), Array.getElem?_eq_none (by omega)]
  simp only [e]
theorem cut_lt {h : Heap} {n b : Nat} {o : Obj} (e : (cut h n).get? b = some o) : b < n := by
  have z : b < (h.objs.extract 0 n).size := Heap.lt_size e
  rw [Array.size_extract] at z
  have : min n h.objs.size ≤ n := Nat.min_le_left _ _
  omega
theorem cut_size {h : Heap} {n : Nat} (hn : n ≤ h.objs.size) : (cut h n).objs.size = n := by
  unfold cut
  simp only [Array.size_extract]
  omega
abbrev TQ (T : Type) := Pro T → QE T → Nat → T → L2.St → Hp → Prop
def QY {T : Type} (X : Cx) (g n0 : Nat) (P : Pro T) (C : Nat → T → Shared → Prop) : Protocol := fun n s₀ v s kap =>
  ∃ γ σ ip x H, C (n + 1) γ s₀ ∧ QI X g n0 P ip γ s₀ σ H s ∧ RelV x v ∧ P.out n γ x H ∧
    ∀ s' γ', C n γ' s' → QI X g n0 P ip γ' s' σ (P.hp γ') s' → Sleep s s' → P.lk n γ H γ' → kap (.send .none) s'
def QSP {T : Type} (X : Cx) (g n0 : Nat) (P : Pro T) (ip : List (Addr × Obj)) (D : QE T) (n : Nat) (γ : T) (s₀ : Shared) (f : Flow) (s : Shared) : Prop :=
  match f with
  | .next => ∃ σ H, QI X g n0 P ip γ s₀ σ H s ∧ D.nx n γ σ H
  | .brk => ∃ σ H, QI X g n0 P ip γ s₀ σ H s ∧ D.bk n γ σ H
  | .cont => ∃ σ H, QI X g n0 P ip γ s₀ σ H s ∧ D.ct n γ σ H
  | .ret u => ∃ v σ H, QI X g n0 P ip γ s₀ σ H s ∧ RelV v u ∧ D.rt n γ v H
structure QC (X : Cx) (A : Around) (c : Code) (fs : List Frame) (gd : Bool → Bool) : Prop where
  over : A.over c fs = X.A
  split : splitAtGen fs = none
  guard : fs.any Frame.guarded = false
  gd : gd false = false
def QK {T : Type} (X : Cx) (g n0 : Nat) (P : Pro T) (C : Nat → T → Shared → Prop) (A : Around) (R : GenEnd) (ip : List (Addr × Obj)) (c : Code) (fs : List Frame) (K : Flow → Sem PySem.Fin) (D : QE T) : Prop :=
  ∀ (n : Nat) (s₀ : Shared) (γ : T) (s : Shared) (f : Flow), C n γ s₀ → QSP X g n0 P ip D n γ s₀ f s → Seg (model X.prog X.w) A R (QY X g n0 P C) n s₀ c (K f) fs s
structure QS (T : Type) (X : Cx) (st : Stmt) (t : TQ T) : Prop where
  run : ∀ (g n0 : Nat) (P : Pro T) (C : Nat → T → Shared → Prop) (A : Around) (ip : List (Addr × Obj)) (R : GenEnd) (n : Nat) (γ : T) (s₀ : Shared) (c : Code) (fs : List Frame) (K : Flow → Sem PySem.Fin) (J : Value → Sem PySem.Fin) (gd : Bool → Bool) (lv : List Value → List Value) (s : Shared) (σ : L2.St) (H : Hp) (D : QE T),
    QC X A c fs gd → C n γ s₀ → QK X g n0 P C A R ip c fs K D → QI X g n0 P ip γ s₀ σ H s → t P D n γ σ H → Seg (model X.prog X.w) A R (QY X g n0 P C) n s₀ c ((exec st X.env).wrap K J gd lv) fs s
structure QSs (T : Type) (X : Cx) (st : List Stmt) (t : TQ T) : Prop where
  run : ∀ (g n0 : Nat) (P : Pro T) (C : Nat → T → Shared → Prop) (A : Around) (ip : List (Addr × Obj)) (R : GenEnd) (n : Nat) (γ : T) (s₀ : Shared) (c : Code) (fs : List Frame) (K : Flow → Sem PySem.Fin) (J : Value → Sem PySem.Fin) (gd : Bool → Bool) (lv : List Value → List Value) (s : Shared) (σ : L2.St) (H : Hp) (D : QE T),
    QC X A c fs gd → C n γ s₀ → QK X g n0 P C A R ip c fs K D → QI X g n0 P ip γ s₀ σ H s → t P D n γ σ H → Seg (model X.prog X.w) A R (QY X g n0 P C) n s₀ c ((execs st X.env).wrap K J gd lv) fs s
section
variable {T : Type} {st : Stmt} {rest : List Stmt} {pos : Pos}
theorem sp_qsp {g n0 n : Nat} {P : Pro T} {ip : List (Addr × Obj)} {D : QE T} {γ : T} {s₀ s s2 : Shared} {f : Flow} (z : n0 ≤ (P.src γ s₀).heap.objs.size) (zi : ∀ p ∈ ip, n0 ≤ p.1) (b : AllB s.gens) (r : s.gens[g]? = some .running) (h : Held (sleepers s.gens) s2.gens) (q : SP (reb X (cutS (P.src γ s₀) n0) (P.hp γ)) ip (D.at n γ) f s2) :
    QSP X g n0 P ip D n γ s₀ f (up (sleepers s.gens) s2) := by
  have q2 := sp_up b h q
  have r2 := up_sleep h g _ fixd_run r
  cases f with
  | next => obtain ⟨σ, H, I, q⟩ := q2; exact ⟨σ, H, ⟨I, r2, z, zi⟩, q⟩
  | brk => obtain ⟨σ, H, I, q⟩ := q2; exact ⟨σ, H, ⟨I, r2, z, zi⟩, q⟩
  | cont => obtain ⟨σ, H, I, q⟩ := q2; exact ⟨σ, H, ⟨I, r2, z, zi⟩, q⟩
  | ret u => obtain ⟨v, σ, H, I, r, q⟩ := q2; exact ⟨v, σ, H, ⟨I, r2, z, zi⟩, r, q⟩
def tQP (t : TS) : TQ T := fun _ D n γ σ H => t (D.at n γ) σ H
theorem qs_ps {t : TS} (h : ∀ s0 H0, PS (reb X s0 H0) st t) : QS T X st (tQP t) := by
  refine ⟨fun g n0 P C A ip R n γ s₀ c fs K J gd lv s σ H D gc hc k hI ht => ?_⟩
  refine seg_wrap ?_
  rw [gc.over]
  exact keepW ((h _ _).run ip _ σ H (D.at n γ) (inv_pois hI.inv) ht) (fun f s' hh hs => k n s₀ γ _ f hc (sp_qsp hI.sz hI.ips hI.inv.bare hI.run hh hs)) fun x s' _ hx => hx.elim
def tQ0 : TQ T := fun _ D n γ σ H => D.nx n γ σ H
theorem qss_nil : QSs T X [] tQ0 := by
  refine ⟨fun g n0 P C A ip R n γ s₀ c fs K J gd lv s σ H D gc hc k hI ht => ?_⟩
  exact seg_execs_nil (k n s₀ γ s .next hc ⟨σ, H, hI, ht⟩)
def tQThen (t u : TQ T) : TQ T := fun P D n γ σ H => t P { D with nx := fun n' γ' σ' H' => u P D n' γ' σ' H' } n γ σ H
theorem qss_cons {t u : TQ T} (a : QS T X st t) (b : QSs T X rest u) : QSs T X (st :: rest) (tQThen t u) := by
  refine ⟨fun g n0 P C A ip R n γ s₀ c fs K J gd lv s σ H D gc hc k hI ht => ?_⟩
  refine seg_execs_cons ?_
  refine a.run g n0 P C A ip R n γ s₀ c fs _ J gd lv s σ H { D with nx := fun n' γ' σ' H' => u P D n' γ' σ' H' } gc hc (fun n' s₀' γ' s' f hc' hs => ?_) hI ht
  cases f with
  | next =>
    obtain ⟨σ', H', I', q⟩ := hs
    exact b.run g n0 P C A ip R n' γ' s₀' c fs K J gd lv s' σ' H' D gc hc' k I' q
  | brk => exact k n' s₀' γ' s' .brk hc' hs
  | cont => exact k n' s₀' γ' s' .cont hc' hs
  | ret u => exact k n' s₀' γ' s' (.ret u) hc' hs
theorem tp_up {ip : List (Addr × Obj)} {σ : L2.St} {Q : Bool → Hp → Prop} {d : Bool} {s s2 : Shared} (b : AllB s.gens) (h : Held (sleepers s.gens) s2.gens) (q : TP X ip σ Q d s2) : TP X ip σ Q d (up (sleepers s.gens) s2) := by
  obtain ⟨H1, I1, q1⟩ := q
  exact ⟨H1, inv_up (σ := σ) (H := H1) b h I1, q1⟩
def tQY (te : TE) : TQ T := fun P D n γ σ H => ∃ m, n = m + 1 ∧ te σ H fun x H1 => P.out m γ x H1 ∧ ∀ γ', P.lk m γ H1 γ' → D.nx m γ' σ (P.hp γ')
theorem ep_up {ip : List (Addr × Obj)} {σ : L2.St} {Q : VK} {v : Value} {s s2 : Shared} (b : AllB s.gens) (h : Held (sleepers s.gens) s2.gens) (q : EP X ip σ Q v s2) : EP X ip σ Q v (up (sleepers s.gens) s2) := by
  obtain ⟨x, H1, I1, r1, q1⟩ := q
  exact ⟨x, H1, inv_up (σ := σ) (H := H1) b h I1, r1, q1⟩
theorem qs_yield {e : Expr} {te : TE} {yp : Pos} (he : ∀ s0 H0, PE (reb X s0 H0) e te) (hco : X.env.scope.isCoroutine = false := by rfl) (hi : interactive X.env = false := by rfl) : QS T X (.Expr (.Yield (some e) yp) pos) (tQY te) := by
  refine ⟨fun g n0 P C A ip R n γ s₀ c fs K J gd lv s σ H D gc hcons k hI ht => ?_⟩
  obtain ⟨n, rfl, ht⟩ := ht
  refine seg_Expr_Yield gc.split gc.gd gc.guard ?_ hco hi
  rw [gc.over]
  refine keepW ((he _ _).run ip _ σ H _ (inv_pois hI.inv) ht) (fun v s' hh hv => ?_) fun x s' _ hx => hx.elim
  obtain ⟨x, H1, I1, rv, q1, q2⟩ := ep_up hI.inv.bare hh hv
  have r1 := up_sleep hh g _ fixd_run hI.run
  intro kap hk
  refine ⟨γ, σ, ip, x, H1, hcons, ⟨I1, r1, hI.sz, hI.ips⟩, rv, q1, fun s'' γ' hc' hI' _ hl => hk .none s'' ?_⟩
  exact k n s'' γ' s'' .next hc' ⟨σ, _, hI', q2 γ' hl⟩
def tQWhile (c : TT) (tb : TQ T) : TQ T := fun P D n γ σ H => ∃ W : Nat → Nat → T → L2.St → Hp → Prop, (∃ m, W m n γ σ H) ∧ ∀ m n γ σ H, W m n γ σ H →
  c σ H fun b H1 => if b = true then ∃ N : Nat → T → L2.St → Hp → Prop, (∀ n' γ' σ' H', N n' γ' σ' H' → ∃ m', m' < m ∧ W m' n' γ' σ' H') ∧ tb P { D with nx := N, ct := N, bk := D.nx } n γ σ H1 else D.nx n γ σ H1
theorem qc_loop {A : Around} {c c' : Code} {fs : List Frame} {gd : Bool → Bool} {k : Result → Sem PySem.Fin} {l kp : List Value} {p : Pos} (g : QC X A c fs gd) (hw : c'.weight = 0) (hu : c'.cUnits = 0) :
    QC X A c' (.ret k none (gd false) l c p kp :: fs) id where
  over := (over_loop hw hu).trans g.over
  split := by
    show (splitAtGen fs).map _ = none
    rw [g.split]; rfl
  guard := by
    show (gd false || fs.any Frame.guarded) = false
    rw [g.gd, g.guard]; rfl
  gd := rfl
theorem qs_while {test : Expr} {body : List Stmt} {tc : TT} {tb : TQ T} (hc : ∀ s0 H0, PT (reb X s0 H0) test tc) (hb : QSs T X body tb) : QS T X (.While test body [] pos) (tQWhile tc tb) := by
  refine ⟨fun g n0 P C A ip R n γ s₀ c fs K J gd lv s σ H D gc hcons k hI ht => ?_⟩
  obtain ⟨W, ⟨m0, w0⟩, turn⟩ := ht
  refine seg_While fun p => ?_
  have gl := fun (kk : Result → Sem PySem.Fin) => qc_loop (k := kk) (c' := .whileLoop test body [] X.env) (l := lv []) (kp := []) (p := p) gc rfl rfl
  have loop : ∀ (m n : Nat) (γ : T) (s₀ s : Shared) (σ : L2.St) (H : Hp), C n γ s₀ → W m n γ σ H → QI X g n0 P ip γ s₀ σ H s →
      Seg (model X.prog X.w) A R (QY X g n0 P C) n s₀ (.whileLoop test body [] X.env) ((model X.prog X.w).den (.whileLoop test body [] X.env))
        (.ret (fun r => ((match r with | .ok f => (.pure f : Sem Flow) | .error e => .raise e).onRaise (cameBack X.env)).wrap K J gd lv) none (gd false) (lv []) c p [] :: fs) s := by
    intro m
    induction m using Nat.strongRecOn with
    | ind m ih =>
      intro n γ s₀ s σ H hcons w hI
      refine seg_whileLoop ?_
      rw [(gl _).over]
      refine keepW ((hc _ _).run ip _ σ H _ (inv_pois hI.inv) (turn m n γ σ H w)) (fun b s' hh hb' => ?_) fun x s' _ hx => hx.elim
      obtain ⟨H2, I2, q2⟩ := tp_up hI.inv.bare hh hb'
      have r2 := up_sleep hh g _ fixd_run hI.run
      cases b with
      | true =>
        obtain ⟨N, hN, q2⟩ := q2
        rw [if_pos rfl]
        refine hb.run g n0 P C A ip R n γ s₀ _ _ _ _ id id _ σ H2 { D with nx := N, ct := N, bk := D.nx } (gl _) hcons (fun n' s₀' γ' s3 f hc' hs => ?_) ⟨I2, r2, hI.sz, hI.ips⟩ q2
        cases f with
        | next =>
          obtain ⟨σ3, H3, I3, n3⟩ := hs
          obtain ⟨m', hm, w3⟩ := hN n' γ' σ3 H3 n3
          exact seg_again rfl (ih m' hm n' γ' s₀' s3 σ3 H3 hc' w3 I3)
        | cont =>
          obtain ⟨σ3, H3, I3, n3⟩ := hs
          obtain ⟨m', hm, w3⟩ := hN n' γ' σ3 H3 n3
          exact seg_again rfl (ih m' hm n' γ' s₀' s3 σ3 H3 hc' w3 I3)
        | brk => exact seg_leaf (.ok .next) (k n' s₀' γ' s3 .next hc' hs)
        | ret v => exact seg_leaf (.ok (.ret v)) (k n' s₀' γ' s3 (.ret v) hc' hs)
      | false =>
        rw [if_neg Bool.false_ne_true]
        refine seg_execs_nil ?_
        exact seg_leaf (.ok .next) (k n s₀ γ _ .next hcons ⟨σ, H2, ⟨I2, r2, hI.sz, hI.ips⟩, q2⟩)
  exact loop m0 n γ s₀ s σ H hcons w0 hI
end
end Gz
end
section
set_option Elab.async false
set_option linter.all false
set_option maxRecDepth 100000
set_option maxHeartbeats 4000000
namespace Gz
open PySem PySem.Spec PyProof.Rows L2 GenW Gh
theorem funs_cut {h h0 base : Heap} {n : Nat} : ∀ {l : List Env}, h.FunFrames base l → (cut h0 n).FunFrames base l → (cut h n).FunFrames base l
  | [], _, _ => trivial
  | env :: rest, ⟨hk, ⟨L, o, hf, hn, ho, hd⟩, hr⟩, ⟨_, ⟨L', o', hf', _, ho', _⟩, hr'⟩ => by
    have e : L = L' := by rw [hf] at hf'; exact Option.some.inj hf'
    subst e
    exact ⟨hk, ⟨L, o, hf, hn, by rw [cut_get (cut_lt ho')]; exact ho, hd⟩, funs_cut hr hr'⟩
section
variable {X Xc : Cx} {ip pins : List (Addr × Obj)} {σ σc : L2.St} {H h0 h1 H1 : Hp} {s s0 s' : Shared} {n0 : Nat}
structure Frm (X : Cx) (ip : List (Addr × Obj)) (s : Shared) (pl : List (Addr × Obj)) : Prop where
  eq : ∃ oL, s.heap.get? X.env.locals = some oL ∧ (∀ v, oL.data ≠ .cell v) ∧ pl = (X.env.locals, oL) :: (X.pn ++ ip)
theorem frm_of (I : Inv (reb X s0 h0) ip σ H s) : ∃ pl, Frm X ip s pl := by
  obtain ⟨m, ⟨o, es, ep, ho, r⟩, _⟩ := I.loc
  refine ⟨_, ⟨o, ho, ?_, rfl⟩⟩
  intro v q
  first
    | (rw [r.1] at q; cases q)
    | (obtain ⟨r1, _⟩ := r; rw [r1] at q; cases q)
theorem inv_woken (I : Inv (reb X (cutS s0 n0) h0) ip σ H s) {pl : List (Addr × Obj)} (F : Frm X ip s pl) (hz0 : n0 ≤ s0.heap.objs.size) (hz : n0 ≤ s'.heap.objs.size) (hcel : ∀ x c, X.env.cells.lookup x = some c → False) (hb : AllB s'.gens) (hok : HOk X.prog X.w H1 s'.heap)
    (hbase : ∀ b o, X.base.get? b = some o → s'.heap.get? b = some o ∧ H1 b = none) (hfr : s'.heap.FunFrames X.base X.outer) (hfn : ∀ b ∈ X.fs, H1 b = none)
    (hp : ∀ p ∈ pl, s'.heap.get? p.1 = some p.2 ∧ H1 p.1 = none) : Inv (reb X (cutS s' n0) H1) ip σ H1 s' := by
  obtain ⟨oL, hL, _, rfl⟩ := F.eq
  have e0 : (cutS s0 n0).heap.objs.size = n0 := cut_size hz0
  have e1 : (cutS s' n0).heap.objs.size = n0 := cut_size hz
  have ok := I.ok
  have bsz : X.base.objs.size ≤ n0 := by have := ok.bsz; rw [show (reb X (cutS s0 n0) h0).s_0.heap.objs.size = n0 from e0] at this; exact this
  refine ⟨⟨ok.mod, ok.kind, ok.glob, ok.blt, ?_, ok.inj, ok.has, fun x c _ e => (hcel x c e).elim, ok.hd, ok.frames, ok.stk, ok.exf, fun b o e => ?_, ?_, ok.noex, ok.exfs, ?_, hfn⟩,
    rfl, hb, ⟨fun b o e _ _ _ => ?_, fun b o e _ _ _ => ?_, fun b o _ n _ => n, fun b o e _ => ?_, fun _ _ e => e, fun _ _ _ e => e, fun b ps e => ⟨#[], by rw [Array.append_empty]; exact e⟩⟩, ?_, fun x c e => (hcel x c e).elim, ?_, fun x c e => (hcel x c e).elim, fun p hm => ?_, hok, I.len⟩
  · show (cutS s' n0).heap.objs.size ≤ X.env.locals
    rw [e1]
    have := ok.above
    rw [show (reb X (cutS s0 n0) h0).s_0.heap.objs.size = n0 from e0] at this
    exact this
  · obtain ⟨a, b'⟩ := hbase b o e
    refine ⟨?_, b'⟩
    show (cut s'.heap n0).get? b = some o
    rw [cut_get (Nat.lt_of_lt_of_le (Heap.lt_size e) bsz)]
    exact a
  · show X.base.objs.size ≤ (cutS s' n0).heap.objs.size
    rw [e1]
    exact bsz
  · exact funs_cut hfr ok.funs
  · have e' : (cut s'.heap n0).get? b = some o := e
    rw [cut_get (cut_lt e')] at e'
    exact e'
  · have e' : (cut s'.heap n0).get? b = some o := e
    rw [cut_get (cut_lt e')] at e'
    exact ⟨o.slots, e'⟩
  · have e' : (cut s'.heap n0).get? b = some o := e
    rw [cut_get (cut_lt e')] at e'
    exact ⟨o, e'⟩
  · obtain ⟨m, ⟨o, es, ep, ho, r⟩, hl⟩ := I.loc
    have q : o = oL := Option.some.inj (ho.symm.trans hL)
    subst q
    refine ⟨m, ⟨o, es, ep, (hp _ List.mem_cons_self).1, r⟩, fun i x v a b c => ?_⟩
    obtain ⟨u, ru, lu⟩ := hl i x v a b c
    refine ⟨u, ru, ?_⟩
    rcases lu with z | ⟨_, c', z, _⟩
    · exact .inl z
    · exact (hcel x c' z).elim
  · exact (hp _ List.mem_cons_self).2
  · obtain ⟨a, b⟩ := hp p (List.mem_cons_of_mem _ hm)
    obtain ⟨_, _, c1, c2, c3⟩ := I.pin p hm
    exact ⟨a, b, c1, c2, c3⟩
theorem inv_back (I : Inv Xc pins σc h1 s) (J : Inv (reb X (cutS s0 n0) h1) ip σ H1 s') (hs : s0.heap = s.heap) (ho : s0.os = s.os) (hpw : X.prog = Xc.prog ∧ X.w = Xc.w) (hfs : X.fs = frs Xc.stack) (hex : X.ex = [])
    (hn : Xc.s_0.heap.objs.size ≤ n0) (hl : Xc.env.locals < n0) (hc : ∀ x c, Xc.env.cells.lookup x = some c → c < n0) (hp : ∀ p ∈ Xc.pn ++ pins, p.1 < n0) : Inv Xc pins σc H1 s' := by
  have cg : ∀ {b : Addr} {o : Obj}, b < n0 → s.heap.get? b = some o → (cut s0.heap n0).get? b = some o := fun {b o} hb e => by rw [cut_get hb, hs]; exact e
  have nex : ∀ b, b ∉ X.ex := fun b z => by rw [hex] at z; cases z
  have nfs : ∀ {b : Addr}, b ≠ Xc.env.locals → b ∉ Xc.fs → b ∉ X.fs := fun {b} h1 h2 z => by
    rw [hfs] at z
    exact (List.mem_cons.mp (I.stkSub b z)).elim h1 h2
  have any : ∀ {b : Addr} {o : Obj}, b < n0 → s.heap.get? b = some o → h1 b = none → ∃ sl, s'.heap.get? b = some { o with slots := sl } := fun {b o} hb e n => J.base.any (cg hb e) n (nex b)
  have lt0 : ∀ {b : Addr} {o : Obj}, Xc.s_0.heap.get? b = some o → b < n0 := fun {b o} e => Nat.lt_of_lt_of_le (Heap.lt_size e) hn
  have nL : ∀ {b : Addr} {o : Obj}, Xc.s_0.heap.get? b = some o → b ≠ Xc.env.locals := fun {b o} e z => by
    have := I.ok.above
    rw [z] at e
    exact absurd (Nat.lt_of_lt_of_le (Heap.lt_size e) this) (Nat.lt_irrefl _)
  refine ⟨I.ok, ?_, J.bare, ⟨fun b o e n hf hx => ?_, fun b o e n hf hx => ?_, fun b o e n hx => ?_, fun b o e hx => ?_, fun b xs e => J.base.tups b xs (I.base.tups b xs e), fun b o u e => J.base.frzs b o u (I.base.frzs b o u e), fun b ps e => ?_⟩, ?_, fun x c e => ?_, ?_, fun x c e => ?_, fun p hm => ?_, ?_, I.len⟩
  · have z : s'.os = s0.os := J.os
    rw [z, ho]
    exact I.os
  · exact J.base.keep b o (cg (lt0 e) (I.base.keep b o e n hf hx)) (I.base.free b o e n hx) (nfs (nL e) hf) (nex b)
  · obtain ⟨sl, z⟩ := I.base.slot b o e n hf hx
    obtain ⟨sl2, z2⟩ := any (lt0 e) z (I.base.free b o e n hx)
    exact ⟨sl2, z2⟩
  · obtain ⟨o', z⟩ := I.base.there b o e hx
    exact J.base.free b o' (cg (lt0 e) z) (I.base.free b o e n hx) (nex b)
  · obtain ⟨o', z⟩ := I.base.there b o e hx
    exact J.base.there b o' (cg (lt0 e) z) (nex b)
  · obtain ⟨m, z⟩ := I.base.tbls b ps e
    obtain ⟨m2, z2⟩ := J.base.tbls b _ z
    exact ⟨m ++ m2, by rw [z2, Array.append_assoc]⟩
  · obtain ⟨m, ⟨o, es, ep, ho', r⟩, hlk⟩ := I.loc
    obtain ⟨sl, z⟩ := any hl ho' I.free
    refine ⟨m, ⟨_, es, ep, z, r⟩, fun i x v a b c => ?_⟩
    obtain ⟨u, ru, lu⟩ := hlk i x v a b c
    refine ⟨u, ru, ?_⟩
    rcases lu with q | ⟨q1, c', q2, q3⟩
    · exact .inl q
    · obtain ⟨oc, q4, q5⟩ := q3
      obtain ⟨sl', z'⟩ := any (hc x c' q2) q4 (I.freeC x c' q2)
      exact .inr ⟨q1, c', q2, _, z', q5⟩
  · obtain ⟨v, o, q4, q5⟩ := I.cell x c e
    obtain ⟨sl', z'⟩ := any (hc x c e) q4 (I.freeC x c e)
    exact ⟨v, _, z', q5⟩
  · obtain ⟨m, ⟨o, es, ep, ho', r⟩, _⟩ := I.loc
    exact J.base.free _ o (cg hl ho') I.free (nex _)
  · obtain ⟨v, o, q4, q5⟩ := I.cell x c e
    exact J.base.free _ o (cg (hc x c e) q4) (I.freeC x c e) (nex _)
  · obtain ⟨a1, a2, a3, a4, a5⟩ := I.pin p hm
    have b := hp p hm
    exact ⟨J.base.keep p.1 p.2 (cg b a1) a2 (nfs a3 a4) (nex _), J.base.free p.1 p.2 (cg b a1) a2 (nex _), a3, a4, a5⟩
  · have z := J.hok
    rw [← hpw.1, ← hpw.2]
    exact z
end
end Gz
end
section
set_option Elab.async false
set_option linter.all false
set_option maxRecDepth 100000
set_option maxHeartbeats 4000000
namespace Gz
open PySem PySem.Spec PyProof.Rows L2 GenW Gh
section
variable {X : Cx} {ip : List (Addr × Obj)} {σ : L2.St} {H : Hp} {s : Shared}
theorem inv_first (I : Inv X ip σ H s) : Inv (reb X (cutS X.s_0 X.s_0.heap.objs.size) X.H_0) ip σ H s := by
  have e0 : (cutS X.s_0 X.s_0.heap.objs.size).heap.objs.size = X.s_0.heap.objs.size := cut_size (Nat.le_refl _)
  have cg : ∀ {b : Addr} {o : Obj}, X.s_0.heap.get? b = some o → (cut X.s_0.heap X.s_0.heap.objs.size).get? b = some o := fun {b o} e => by rw [cut_get (Heap.lt_size e)]; exact e
  have gc : ∀ {b : Addr} {o : Obj}, (cut X.s_0.heap X.s_0.heap.objs.size).get? b = some o → X.s_0.heap.get? b = some o := fun {b o} e => by rw [cut_get (cut_lt e)] at e; exact e
  have ok := I.ok
  refine ⟨⟨ok.mod, ok.kind, ok.glob, ok.blt, ?_, ok.inj, ok.has, fun x c h1 h2 => ?_, ok.hd, ok.frames, ok.stk, ok.exf, fun b o e => ⟨cg (ok.bs b o e).1, (ok.bs b o e).2⟩, ?_, ok.noex, ok.exfs, ok.funs.of_keeps fun b o e _ => ⟨o, cg e, rfl⟩, ok.frf⟩,
    I.os, I.bare, ⟨fun b o e n h1 h2 => I.base.keep b o (gc e) n h1 h2, fun b o e n h1 h2 => I.base.slot b o (gc e) n h1 h2, fun b o e n h1 => I.base.free b o (gc e) n h1, fun b o e h1 => I.base.there b o (gc e) h1, I.base.tups, I.base.frzs, I.base.tbls⟩, I.loc, I.cell, I.free, I.freeC, I.pin, I.hok, I.len⟩
  · show (cutS X.s_0 X.s_0.heap.objs.size).heap.objs.size ≤ X.env.locals
    rw [e0]; exact ok.above
  · show (cutS X.s_0 X.s_0.heap.objs.size).heap.objs.size ≤ c
    rw [e0]; exact ok.cab x c h1 h2
  · show X.base.objs.size ≤ (cutS X.s_0 X.s_0.heap.objs.size).heap.objs.size
    rw [e0]; exact ok.bsz
end
structure Q0 (T : Type) (X : Cx) (body : List Stmt) (t : TQ T) : Prop where
  run : ∀ (g : Nat) (P : Pro T) (C : Nat → T → Shared → Prop) (A : Around) (R : GenEnd) (n : Nat) (γ : T) (s₀ : Shared) (c : Code) (fs : List Frame) (K : Flow → Sem PySem.Fin) (J : Value → Sem PySem.Fin) (gd : Bool → Bool) (lv : List Value → List Value) (s : Shared) (σ : L2.St) (H : Hp) (D : QE T),
    QC X A c fs gd → C n γ s₀ → P.hp γ = X.H_0 → P.src γ s₀ = X.s_0 → QK X g X.s_0.heap.objs.size P C A R [] c fs K D → (∀ e s, X.xe e s → Seg (model X.prog X.w) A R (QY X g X.s_0.heap.objs.size P C) n s₀ c (J e) fs s) →
    (∀ (s s2 : Shared) (e : Value), AllB s.gens → Held (sleepers s.gens) s2.gens → X.xe e s2 → X.xe e (up (sleepers s.gens) s2)) → Inv X [] σ H s → s.gens[g]? = some .running → t P D n γ σ H → Seg (model X.prog X.w) A R (QY X g X.s_0.heap.objs.size P C) n s₀ c ((execs body X.env).wrap K J gd lv) fs s
section
variable {T : Type} {X : Cx} {st : Stmt} {rest : List Stmt}
theorem q0_rest {t : TQ T} (h : QSs T X rest t) : Q0 T X rest t := by
  refine ⟨fun g P C A R n γ s₀ c fs K J gd lv s σ H D gc hc hh hs k ex hxe I r ht => ?_⟩
  exact h.run g _ P C A [] R n γ s₀ c fs K J gd lv s σ H D gc hc k ⟨by rw [hs, hh]; exact inv_first I, r, by rw [hs]; exact Nat.le_refl _, fun p hp => by cases hp⟩ ht
def tQPre (t : TS) (u : TQ T) : TQ T := fun P D n γ σ H => t { nx := fun σ' H' => u P D n γ σ' H', rt := D.rt n γ, bk := fun _ _ => False, ct := fun _ _ => False } σ H
theorem q0_cons {t : TS} {u : TQ T} (a : PS X st t) (b : Q0 T X rest u) : Q0 T X (st :: rest) (tQPre t u) := by
  refine ⟨fun g P C A R n γ s₀ c fs K J gd lv s σ H D gc hc hh hs k ex hxe I r ht => ?_⟩
  refine seg_execs_cons (seg_wrap ?_)
  rw [gc.over]
  refine keepW (a.run [] _ σ H _ (inv_pois I) ht) (fun f s' hd q => ?_) fun e s' hd hx => ex e _ (hxe _ _ _ I.bare hd hx)
  have q2 := sp_up I.bare hd q
  have r2 := up_sleep hd g _ fixd_run r
  cases f with
  | next =>
    obtain ⟨σ', H', I', q'⟩ := q2
    exact b.run g P C A R n γ s₀ c fs K J gd lv _ σ' H' D gc hc hh hs k ex hxe I' r2 q'
  | brk => obtain ⟨_, _, _, z⟩ := q2; exact z.elim
  | cont => obtain ⟨_, _, _, z⟩ := q2; exact z.elim
  | ret u =>
    obtain ⟨v, σ', H', I', rv, q'⟩ := q2
    exact k n s₀ γ _ (.ret u) hc ⟨v, σ', H', ⟨by rw [hs, hh]; exact inv_first I', r2, by rw [hs]; exact Nat.le_refl _, fun p hp => by cases hp⟩, rv, q'⟩
end
structure GX (X : Cx) (P : Program) (w : World) (base : Heap) (outer : List Env) (a : Addr) (g n0 : Nat) : Prop where
  prog : X.prog = P
  w : X.w = w
  base : X.base = base
  outer : X.outer = outer
  ex : X.ex = []
  cel : ∀ x c, X.env.cells.lookup x = some c → False
  gen : ∀ h : Heap, (∀ p ∈ X.pn, h.get? p.1 = some p.2) → h.IsGen a g
  loc : n0 ≤ X.env.locals
  pns : ∀ p ∈ X.pn, n0 ≤ p.1
abbrev SpQ := (T : Type) → Pro T → Nat → T → Prop
def GMadeQ (P : Program) (w : World) (base : Heap) (k : Nat) (outer : List Env) (H : Hp) (s : Shared) (sp : SpQ) (E : XK) (u : Value) (s' : Shared) : Prop :=
  ∃ (a : Addr) (g : Nat) (c : Code), u = .ref a ∧ s.heap.objs.size ≤ a ∧ s'.heap.IsGen a g ∧ s'.gens[g]? = some (.fresh c) ∧ s'.os = s.os ∧ AllBare s'.gens ∧ s'.heap.NoLimit ∧ (∀ b o, s.heap.get? b = some o → s'.heap.get? b = some o) ∧ Sleep s s' ∧ s.gens.size ≤ g ∧
    ∀ (A : Around), Room k A → A.frames = some outer → ∃ X : Cx, GX X P w base outer a g s.heap.objs.size ∧ ∀ (T : Type) (Pr : Pro T) (C : Nat → T → Shared → Prop) (N : Nat) (γ : T), sp T Pr N γ → Pr.hp γ = H →
      ∀ s2, (∀ b o, s'.heap.get? b = some o → s2.heap.get? b = some o) → s2.os = s.os → AllBare s2.gens → s2.gens[g]? = some .running → Pr.src γ s2 = s → C N γ s2 →
        Seg (model P w) A (QR X g s.heap.objs.size Pr C N (fun e s1 => CX P w outer H s E e s1 ∧ s1.heap.IsGen a g)) (QY X g s.heap.objs.size Pr C) N s2 c ((model P w).den c) [] s2
structure QFn (P : Program) (w : World) (K : PySem.W.Frag) (mg : Str → Option Value) (base : Heap) (k : Nat) (f : Addr) (fd : FuncData) (ps : List Str) (sp : List V → Hp → XK → SpQ) : Prop where
  run : ∀ (A : Around) (outer : List Env) (s : Shared) (H : Hp) (args : Args) (us : List Value) (vs : List V) (E : XK), Room k A → Env0 P w K mg base A outer s H → BindsTo s fd args (ps.zip us) → Vals vs us → vs.length = ps.length →
    codeAny (model P w) A (.call (.ref f) args) (fun r s' => match r with | .ok (.ret u) => GMadeQ P w base k outer H s (sp vs H E) E u s' | _ => False) s
def endQ {T : Type} (P : Pro T) : QE T := { nx := fun n γ _ H => P.fin n γ H, rt := fun n γ v H => v = .non ∧ P.fin n γ H }
theorem xe_up {P : Program} {w : World} {K : PySem.W.Frag} {mg : Str → Option Value} {base : Heap} {N : List Str} {qual : Str} {scope : Scope} {f : Addr} {cd : Value} {A : Around} {outer : List Env} {s : Shared} {H : Hp} {E : XK} {pn : List (Addr × Obj)} :
    ∀ (s1 s2 : Shared) (e : Value), AllB s1.gens → Held (sleepers s1.gens) s2.gens → (gcxOf P w K mg base N qual scope f cd A outer s H E pn).xe e s2 → (gcxOf P w K mg base N qual scope f cd A outer s H E pn).xe e (up (sleepers s1.gens) s2) := by
  intro s1 s2 e hb hd hx
  refine upW hd hx (fun _ s3 h3 q => ?_) fun _ _ _ z => z.elim
  obtain ⟨⟨a, B, H', cls, d, z1, z2, z3, z4, z5, z6, z7, z8⟩, q2⟩ := q
  exact ⟨⟨a, B, H', cls, d, z1, z2, z3, z4, z5, z6, (kept_of h3).bare hb z7, z8⟩, q2⟩
theorem qfn_of {P : Program} {w : World} {K : PySem.W.Frag} {mg : Str → Option Value} {base : Heap} {k : Nat} {f : Addr} {name qual : Str} {params : Arguments} {body : List Stmt} {scope : Scope} {dV kV doc pm cdv ct oc : Value} {an od : Option Addr}
    {osl : Array (Option Value)} {N ps : List Str} {sp : List V → Hp → XK → SpQ} (lk : K.lookup f = some ⟨oc, od, .func (PySem.W.fnOf name qual params body scope dV kV doc pm an cdv ct), osl⟩) (hcd : PySem.W.codeIn K cdv qual = true) (S : GScope N ps scope)
    (hnc : ∀ n x c, (cellsFrom n scope.names []).lookup x = some c → False)
    (hbody : ∀ (A : Around) (outer : List Env) (s : Shared) (H : Hp) (vs : List V) (E : XK) (pn : List (Addr × Obj)) (T : Type) (Pr : Pro T) (M : Nat) (γ : T), Room k (A.deeper (envOfC qual scope s.heap.objs.size f cdv)) → sp vs H E T Pr M γ → Pr.hp γ = H → vs.length = ps.length →
      ∃ t, Q0 T (gcxOf P w K mg base N qual scope f cdv A outer s H E pn) body t ∧ t Pr (endQ Pr) M γ (start N vs) H) :
    QFn P w K mg base (k + 1) f (PySem.W.fnOf name qual params body scope dV kV doc pm an cdv ct) ps sp := by
  refine ⟨fun A outer s H args us vs E hr e0 hb r hl => ?_⟩
  have KX : K.In s.heap := e0.mod.kin.keeps fun b o e => (e0.bs b o e).1
  have lim : s.heap.NoLimit := e0.mod.nolimit.keeps fun b o e => (e0.bs b o e).1
  have hkind : ∀ y ∈ ps.zip us, scope.names.lookup y.1 = some .local ∨ (scope.names.lookup y.1 = some .cell ∧ ((cellsFrom (s.heap.objs.size + 1) scope.names []).lookup y.1).isSome = true) := fun ⟨n, v⟩ hy => by
    rcases S.par n (List.of_mem_zip hy).1 with q | q
    · exact .inl q
    · exact .inr ⟨q, PySem.W.cellsFrom_some _ _ _ (.inl q)⟩
  refine codeAny_call_generator hr.depth (KX _ _ lk) rfl S.co S.gen rfl (PySem.W.codeRec_of KX hcd) (hb _ _ _ _ ?_)
  refine wpAny_newFunctionEnv_cells S.kind hkind fun env he s1 x => ?_
  subst he
  have lim1 : s1.heap.NoLimit := lim.keeps x.toInCall.keep
  refine ⟨lim1, ?_⟩
  obtain ⟨h1, tk, es1, hk1⟩ := x.done
  have os1 : s1.os = s.os := by rw [es1]
  have gen1 : s1.gens = s.gens := by rw [es1]
  have lt1 : s.heap.objs.size < s1.heap.objs.size := x.toInCall.ns.lt
  have sz1 : s.heap.objs.size ≤ s1.heap.objs.size := Nat.le_of_lt lt1
  have kp1 : ∀ b o, s.heap.get? b = some o → s1.heap.get? b = some o := x.toInCall.keep
  have main : ∀ (go : Obj) (nm qn : Value) (tk2 : Nat), go.cls = .type "generator" → go.data = .fields #[.int s1.gens.size 0, nm, qn] → go.slots = #[] → (∀ h : Heap, (h.push go).get? h.objs.size = some go) →
      GMadeQ P w base (k + 1) outer H s (sp vs H E) E (.ref s1.heap.objs.size) { s1 with gens := s1.gens.push (.fresh (.func body (envOfC qual scope s.heap.objs.size f cdv))), toks := tk2, heap := s1.heap.push go } := by
    intro go nm qn tk2 hgc hgd0 hgs hgp
    have hgen : ∀ h : Heap, h.get? s1.heap.objs.size = some go → h.IsGen s1.heap.objs.size s1.gens.size := fun h e => ⟨go, nm, qn, e, hgc, hgd0, hgs⟩
    have hpushed : (s1.heap.push go).get? s1.heap.objs.size = some go := hgp _
    refine ⟨s1.heap.objs.size, s1.gens.size, _, rfl, sz1, hgen _ hpushed, Array.getElem?_push_size .., os1, AllBare.push (by rw [gen1]; exact e0.bare) rfl, lim1.keeps fun b o e => Heap.get?_push_of_some _ e, fun b o e => Heap.get?_push_of_some _ (kp1 b o e), fun i y _ e => ?_, by rw [gen1]; exact Nat.le_refl _, ?_⟩
    · show (s1.gens.push _)[i]? = _
      rw [gen1]
      have hlt := (Array.getElem?_eq_some_iff.mp e).1
      rw [Array.getElem?_push, if_neg (Nat.ne_of_lt hlt)]
      exact e
    intro Aw hrw hfr
    have hgd : ∀ v, go.data ≠ .cell v := fun v q => by rw [hgd0] at q; cases q
    refine ⟨gcxOf P w K mg base N qual scope f cdv Aw outer s H E [(s1.heap.objs.size, go)], ⟨rfl, rfl, rfl, rfl, rfl, fun y c h => hnc _ y c h, fun h hp => hgen h (hp _ List.mem_cons_self), Nat.le_refl _, fun p hp => by rw [List.mem_singleton.mp hp]; exact sz1⟩, ?_⟩
    intro T Pr C M γ hsp hhp s2 hk2 hos hba hrun hsrc hC
    have e0w : Env0 P w K mg base Aw outer s H := ⟨hfr, e0.mod, e0.bs, e0.bsz, e0.funs, e0.frf, e0.hok, e0.bare⟩
    obtain ⟨t, ht, hq⟩ := hbody Aw outer s H vs E [(s1.heap.objs.size, go)] T Pr M γ (hrw.deeper _) hsp hhp hl
    have I1 : Inv (gcxOf P w K mg base N qual scope f cdv Aw outer s H E []) [] (start N vs) H s1 := inv_startG S hrw.hd e0w hl r x
    have kp2 : ∀ b o, s1.heap.get? b = some o → s2.heap.get? b = some o := fun b o e => hk2 b o (Heap.get?_push_of_some _ e)
    have I2 : Inv (gcxOf P w K mg base N qual scope f cdv Aw outer s H E []) [] (start N vs) H s2 :=
      I1.call' (ch := []) (hos.trans os1.symm) (Un.kept kp2) (I1.hok.kept kp2) hba fun b z => by simp at z
    have hea : s2.heap.get? s1.heap.objs.size = some go := hk2 s1.heap.objs.size go hpushed
    have young : H s1.heap.objs.size = none ∧ s1.heap.objs.size ≠ s.heap.objs.size ∧ s1.heap.objs.size ∉ frs outer := ⟨I1.hok.fresh (Nat.le_refl _), Nat.ne_of_gt lt1, I1.nofs (Nat.le_refl _)⟩
    have I3 : Inv (gcxOf P w K mg base N qual scope f cdv Aw outer s H E [(s1.heap.objs.size, go)]) [] (start N vs) H s2 := Inv.pinnedG I2 fun p hp => by
      rcases List.mem_append.mp hp with z | z
      · rw [List.mem_singleton.mp z]
        obtain ⟨y1, y2, y3⟩ := young
        exact ⟨hea, y1, y2, y3, hgd⟩
      · simp at z
    refine seg_func ?_
    refine ht.run s1.gens.size Pr C Aw _ M γ s2 _ [] _ _ id id s2 (start N vs) H (endQ Pr) ⟨over_func, rfl, rfl, rfl⟩ hC hhp hsrc (fun n s₀ γ' s' fl hc' hs => ?_) (fun e s' hx => ?_) xe_up I3 hrun hq
    · cases fl with
      | next =>
        obtain ⟨σ', H', hI, hQ⟩ := hs
        exact seg_end (.ok (.ret .none)) (.inl ⟨.inl rfl, γ', σ', [], H', hc', hI, hQ⟩)
      | brk => obtain ⟨_, _, _, q⟩ := hs; exact False.elim q
      | cont => obtain ⟨_, _, _, q⟩ := hs; exact False.elim q
      | ret u =>
        obtain ⟨v, σ', H', hI, rv, ev, hQ⟩ := hs
        subst ev
        have eu : u = Value.none := rv
        subst eu
        exact seg_end (.ok (.ret .none)) (.inl ⟨.inl rfl, γ', σ', [], H', hc', hI, hQ⟩)
    · refine seg_wrap ?_
      rw [over_func]
      refine wpAny_mono (show wpAny (model P w) (Aw.deeper (envOfC qual scope s.heap.objs.size f cdv)) (leaving (envOfC qual scope s.heap.objs.size f cdv) e) (fun _ s'' => CX P w outer H s E e s'' ∧ ∀ p ∈ [(s1.heap.objs.size, go)], s''.heap.get? p.1 = some p.2) (fun _ _ => False) s' from hx) (fun _ s'' q => ?_) fun _ s'' q => q.elim
      exact seg_end (.error e) (.inr ⟨e, rfl, rfl, q.1, hgen _ (q.2 _ (List.mem_singleton.mpr rfl))⟩)
  exact main _ _ _ _ rfl rfl rfl fun h => Heap.get?_push_size _ rfl
end Gz
end
section
set_option Elab.async false
set_option linter.all false
set_option maxRecDepth 100000
set_option maxHeartbeats 4000000
namespace Gz
open PySem PySem.Spec PyProof.Rows L2 GenW Gh
def kapOf (M : Model) (A : Around) (R : GenEnd) (Y : Protocol) : Nat → GenState → Resume → Shared → Prop
  | 0, _, _, _ => False
  | m + 1, gs', r', s'' => gs'.Goes M A R Y m r' s''
section
variable {M : Model}
theorem wpAny_resumeS {A : Around} {R : GenEnd} {Y : Protocol} {n : Nat} {E : Value → Shared → Prop} {s : Shared} {g : Nat} {gs : GenState}
    {r : Resume} {l : List Value} {α : Type} {k : GenResult → Sem α} {Q : α → Shared → Prop} (hg : s.gens[g]? = some gs)
    (hgo : gs.Goes M A R Y n r (s.setGen g .running))
    (hR : ∀ x s₁, R n (s.setGen g .running) x s₁ → wpAny M A (k (End.ret x).result) Q E (s₁.setGen g .finished))
    (hY : ∀ v s₁ gs', gs'.bare = true → IsSusp gs' → Y (n - 1) (s.setGen g .running) v s₁ (kapOf M A R Y n gs') →
      wpAny M A (k (.yielded v)) Q E (s₁.setGen g gs')) :
    wpAny M A (.resume g r l k) Q E s := by
  intro Γ p hΓ
  rw [Sem.wp_resume]
  have hB : ∀ c, (Γ.wake c p).Woken A := fun c => hΓ.wake c p
  have fin : ∀ e₁ s₁, SegEnd R Y n (Seg.next M A R Y n) (s.setGen g .running) e₁ s₁ →
      Sem.wp M Γ (k e₁.result) (fun a _ s' => Q a s') (fun e _ s' => E e s') p (s₁.setGen g e₁.genState) := by
    intro e₁ s₁ he
    cases e₁ with
    | ret x => exact hR x s₁ he Γ p hΓ
    | susp v g₀ l₀ k₀ c₀ p₀ fs₀ =>
      refine hY v s₁ _ (End.bare_of_quiet he.1) ⟨_, _, _, _, _, _, rfl⟩ ?_ Γ p hΓ
      cases n with
      | zero => exact he.2
      | succ m => exact he.2
  have hqt : ∀ e₁ s₁, SegEnd R Y n (Seg.next M A R Y n) (s.setGen g .running) e₁ s₁ → e₁.quiet = true := by
    intro e₁ s₁ he
    cases e₁ with
    | ret x => rfl
    | susp v g₀ l₀ k₀ c₀ p₀ fs₀ => exact he.1
  cases gs with
  | fresh c =>
    obtain ⟨rfl, hs⟩ := hgo
    obtain ⟨e₁, s₁, hr, he⟩ := seg_iff.mp hs (Γ.wake c p) p rfl (hB c)
    exact ⟨_, _, by unfold Wakes; rw [hg]; exact ⟨e₁, s₁, hr, hqt e₁ s₁ he, rfl, rfl⟩, fin e₁ s₁ he⟩
  | suspended k₀ l₀ c₀ p₀ fs₀ cl =>
    obtain ⟨e₁, s₁, hr, he⟩ := seg_iff.mp hgo (Γ.wake c₀ p) p₀ rfl (hB c₀)
    exact ⟨_, _, by unfold Wakes; rw [hg]; exact ⟨e₁, s₁, hr, hqt e₁ s₁ he, rfl, rfl⟩, fin e₁ s₁ he⟩
  | running => exact hgo.elim
  | finished => exact hgo.elim
end
section
variable {P : Program} {w : World} {A : Around} {E : Value → Shared → Prop} {s : Shared}
theorem next_genS {a : Addr} {g n : Nat} {gs : GenState} {F : Nat → Shared → Shared → Prop} {Er : Nat → Value → Shared → Prop} {Y : Protocol} {Q : Option Value → Shared → Prop} (hh : A.handled = none)
    (hl : s.heap.NoLimit) (hroom : A.depth < recursionLimit) (hg : s.heap.IsGen a g) (hgs : s.gens[g]? = some gs)
    (hgo : gs.Goes (model P w) A.in1 (fun n s₀ r s₁ => ((r = .ok (.ret .none) ∨ r = .ok .next) ∧ F n s₀ s₁) ∨ ∃ e, r = .error e ∧ Er n e s₁) Y n (.send .none) (s.setGen g .running))
    (hY : ∀ v s₁ gs', gs'.bare = true → IsSusp gs' → Y (n - 1) (s.setGen g .running) v s₁ (kapOf (model P w) A.in1 (fun n s₀ r s₁ => ((r = .ok (.ret .none) ∨ r = .ok .next) ∧ F n s₀ s₁) ∨ ∃ e, r = .error e ∧ Er n e s₁) Y n gs') → Q (some v) (s₁.setGen g gs'))
    (hP : ∀ s₁, F n (s.setGen g .running) s₁ → ∀ h', (∀ b o, s₁.heap.get? b = some o → h'.get? b = some o) → Q none { s₁.setGen g .finished with heap := h' })
    (hE : ∀ e s₁, Er n e s₁ → s₁.heap.IsGen a g ∧ NotStop (model P w) e s₁.heap ∧ E e (s₁.setGen g .finished)) :
    wpAny (model P w) A (pyNext (.ref a)) Q E s := by
  unfold pyNext
  refine wpAny_bind (wpAny_attempt (wpAny_callSpecial?_slot (name := Str.ofString "__next__") hg.typeIs slot_gen_next
    (wpAny_call_entry slot_gen_next hg.typeIs entry_gen_next ?_ (args_gen_next _))))
  show wpAny _ A.in1 (Builtin.Generator.genWake (.ref a) (.send .none)) _ _ s
  unfold Builtin.Generator.genWake
  refine wpAny_bind (wpAny_holding (wpAny_genNumber hg (wpAny_bind (wpAny_genState hgs ?_))))
  cases gs with
  | running => exact hgo.elim
  | finished => exact hgo.elim
  | _ =>
    refine wpAny_bind (wpAny_roomToWake hl hroom ?_)
    show wpAny _ A.in1 (.resume g (.send .none) [] _) _ _ s
    refine wpAny_resumeS hgs hgo (fun x s₁ hx => ?_) (fun v s₁ gs' hb hsu hv => ?_)
    · rcases hx with ⟨hr, hp⟩ | ⟨e, rfl, he⟩
      · have hres : End.result (.ret x) = .returned .none := by
          rcases hr with hr | hr <;> rw [hr] <;> rfl
        first | rw [hres] | simp only [hres]
        show wpAny _ A.in1 (newExc (.type "StopIteration") [] >>= _) _ _ _
        refine wpAny_bind ?_
        simp only [newExc, newTuple]
        refine wpAny_bind (wpAny_newObj_type ?_ (by size_fits))
        refine wpAny_bind (m := firstArgMember _ _) (wpAny_of_eq (a := Value.none) (by first | rfl | (simp only [firstArgMember]; rfl)) ?_)
        refine wpAny_newObj_type ?_ (by size_fits)
        simp only [raiseNew]
        refine wpAny_bind (wpAny_bind (wpAny_handled ?_))
        first | rw [show A.in1.handled = none from hh] | rw [hh]
        refine wpAny_throw ?_
        refine wpAny_bind (wpAny_isInstance (T := "StopIteration") (b := true) ⟨_, Heap.get?_push_size _ rfl, rfl⟩ isSubtype_stop ?_)
        exact wpAny_pure (hP s₁ hp _ fun b o hb => Heap.get?_push_of_some _ (Heap.get?_push_of_some _ hb))
      · obtain ⟨hg1, hns, hq⟩ := hE e s₁ he
        obtain ⟨o, nm, qn, ho, hc, hd, hsl⟩ := hg1
        show wpAny _ A.in1 (Builtin.Generator.genLeft (.ref a) e) _ _ _
        unfold Builtin.Generator.genLeft Builtin.Generator.madeByALambda
        refine wpAny_bind (wpAny_bind (wpAny_load (o := o) ho (wpAny_pure ?_)))
        refine wpAny_bind (hns _ _ _ _ rfl ?_)
        rw [Bool.and_false, if_neg Bool.false_ne_true]
        unfold Builtin.Generator.genEscaped
        first
          | refine wpAny_bind (hns _ _ _ _ rfl ?_)
          | refine wpAny_bind (wpAny_pure (wpAny_bind (hns _ _ _ _ rfl ?_)))
        rw [if_pos (show (!false) = true from rfl)]
        first
          | refine wpAny_throw ?_
          | refine wpAny_bind (wpAny_throw ?_)
        refine wpAny_bind (hns _ _ _ _ rfl ?_)
        rw [if_neg Bool.false_ne_true]
        exact wpAny_throw hq
    · exact wpAny_pure ⟨v, rfl, wpAny_pure (hY v s₁ gs' hb hsu hv)⟩
end
abbrev TQG := L2.St → Hp → (SpQ → Hp → Prop) → Prop
structure PQ (X : Cx) (k : Nat) (e : Expr) (tq : TQG) (E : XK) : Prop where
  run : ∀ (pins : List (Addr × Obj)) (s : Shared) (σ : L2.St) (H : Hp) (R : SpQ → Hp → Prop), Inv X pins σ H s → tq σ H R → wpAny (model X.prog X.w) X.A (eval e X.env)
    (fun u s' => ∃ H1 sc sp, Inv X pins σ H1 sc ∧ GMadeQ X.prog X.w X.base k X.stack H1 sc sp E u s' ∧ R sp H1) X.xe s
section
variable {X : Cx} {k : Nat} {f C : Addr} {fd : FuncData} {ps : List Str} {sp : List V → Hp → XK → SpQ} {dvs : List V} {ds : List Value} {x m : Str} {p pos pos' apos : Pos} {o : Expr} {ta : TE}
theorem run_qfn {pins : List (Addr × Obj)} {σ : L2.St} {H : Hp} {s : Shared} {us : List Value} {vs : List V} {E : XK} {E1 : Value → Shared → Prop} {R : SpQ → Hp → Prop} (F : QFn X.prog X.w X.K X.mg X.base k f fd ps sp) (hr : Room k X.A) (hb : Binds X.K fd ps ds) (hd : Vals dvs ds)
    (I : Inv X pins σ H s) (r : Vals vs us) (hl : (vs ++ dvs).length = ps.length) (h : R (sp (vs ++ dvs) H E) H) :
    wpAny (model X.prog X.w) X.A (call (.ref f) us) (fun u s' => ∃ H1 sc sp, Inv X pins σ H1 sc ∧ GMadeQ X.prog X.w X.base k X.stack H1 sc sp E u s' ∧ R sp H1) E1 s := by
  have r2 : Vals (vs ++ dvs) (us ++ ds) := r.append hd
  have hl2 : (us ++ ds).length = ps.length := by rw [← r2.length]; exact hl
  refine wpAny_call (codeAny_mono (F.run X.A X.stack s H ⟨us, []⟩ (us ++ ds) (vs ++ dvs) E hr I.env0 (hb s us I.kIn hl2) r2 hl) fun r s' hq => ?_)
  cases r with
  | error e => exact False.elim hq
  | ok fl =>
    cases fl with
    | ret u => exact ⟨H, s, _, I, hq, h⟩
    | next => exact False.elim hq
    | brk => exact False.elim hq
    | cont => exact False.elim hq
def tCallQ (sp : List V → Hp → XK → SpQ) (n : Nat) (dvs : List V) (E : XK) (t : TA) : TQG := fun σ H R => t σ H fun vs H1 => (vs ++ dvs).length = n ∧ R (sp (vs ++ dvs) H1 E) H1
theorem pq_call {E : XK} {e : Expr} {es : List Expr} {t : TA} (F : QFn X.prog X.w X.K X.mg X.base k f fd ps sp) (hr : Room k X.A) (hg : Gl X x) (hm : X.mg x = some (.ref f)) (hk : PySem.W.keepIn X.K (.ref f) = true) (hb : Binds X.K fd ps ds) (hd : Vals dvs ds)
    (ha : PA X (e :: es) t) (hdb : (x == ("__debug__" : Str)) = false := by decide) (he : starEach (e :: es) X.env = (false, eval e X.env) :: starEach es X.env := by rfl) (hpl : (backTo pos' (starEach es X.env)).any (·.1) = false := by rfl) :
    PQ X k (.Call (.Name x p) (e :: es) [] pos') (tCallQ sp ps.length dvs E t) E := by
  refine ⟨fun pins s σ H R I h => ?_⟩
  refine wpAny_Call_Name_kw (ld_glob I hg hm ?_ hdb)
  refine PySem.W.callWith_K (h₀ := X.base) I.ok.mod.kin hk (thn (ha.run pos' pins s σ H _ I h) fun us s1 ⟨vs, H1, I1, r, hl, q⟩ => ⟨I1.kIn, ?_⟩) he hpl
  exact run_qfn F hr hb hd I1 r hl q
end
end Gz
end
section
set_option Elab.async false
set_option linter.all false
set_option maxRecDepth 100000
set_option maxHeartbeats 4000000
namespace Gz
open PySem PySem.Spec PyProof.Rows L2 GenW Gh
def wrapP {T : Type} (P : Pro T) : Pro (T × Option Shared) := { hp := fun γ => P.hp γ.1, src := fun γ s => γ.2.getD s, out := fun n γ => P.out n γ.1, lk := fun n γ H γ' => P.lk n γ.1 H γ'.1, fin := fun n γ => P.fin n γ.1 }
def tForQ (tg : TQG) (gt : TG) (tb : TS) : TS := fun D σ H => tg σ H fun sp H1 =>
  ∃ (T : Type) (P : Pro T) (N : Nat) (γ0 : T) (I : Nat → T → L2.St → Prop), P.hp γ0 = H1 ∧ (∀ o, sp (T × Option Shared) (wrapP P) (N + 1) (γ0, o)) ∧ I N γ0 σ ∧
   (∀ n γ σ x H2, I n γ σ → P.out n γ x H2 → gt x σ H2 fun σ3 H3 => tb { nx := fun σ4 H4 => ∃ m γ', n = m + 1 ∧ P.hp γ' = H4 ∧ P.lk n γ H2 γ' ∧ I m γ' σ4, ct := fun σ4 H4 => ∃ m γ', n = m + 1 ∧ P.hp γ' = H4 ∧ P.lk n γ H2 γ' ∧ I m γ' σ4, bk := D.nx, rt := D.rt } σ3 H3) ∧
   (∀ n γ σ H2, I n γ σ → P.fin (n + 1) γ H2 → D.nx σ H2)
def Cn {T : Type} (X : Cx) (pins : List (Addr × Obj)) (P : Pro T) (I : Nat → T → L2.St → Prop) (sc : Shared) : Nat → T × Option Shared → Shared → Prop
  | 0, _, _ => False
  | n + 1, γ, s => ∃ σ, I n γ.1 σ ∧ Inv X pins σ (P.hp γ.1) s ∧ ∀ s', γ.2 = some s' → s' = sc ∧ Inv X pins σ (P.hp γ.1) sc
section
variable {X : Cx} {tg iter : Expr} {body : List Stmt} {tq : TQG} {gt : TG} {tb : TS} {pos : Pos} {k : Nat} {E : XK}
theorem ps_forQ (hp : PassesOwn (model X.prog X.w) X.A X.env X.xe) (hc : X.calm = true) (hpas : Passes (CX X.prog X.w) X E) (hns : NoStop X.K E) (hr : Room (k + 3) X.A)
    (hxe : ∀ (s s2 : Shared) (e : Value), AllB s.gens → Held (sleepers s.gens) s2.gens → X.xe e s2 → X.xe e (up (sleepers s.gens) s2))
    (hq : PQ X k iter tq E) (hg : PG X tg gt) (hb : PSs X body tb) (hs : ∀ x, foldedSetIterable iter X.env x = pure x := by intro _; rfl) : PS X (.For tg iter body [] pos) (tForQ tq gt tb) := by
  refine ⟨fun pins s σ H D I h => ?_⟩
  refine wpAny_For (thn (hq.run pins s σ H _ I h) fun u s1 hG => ?_) hs
  obtain ⟨H1, sc, sp, I1, ⟨a, g, c, rfl, ha, hgen, hfr, hos, hb1, hlim, hkp, hslp, hgs, wake⟩, T, P, N, γ0, II, hhp, hsp, hI0, hitem, hdone⟩ := hG
  refine wpAny_pyIter_gen hgen ?_
  have J1 : Inv X pins σ H1 s1 := I1.call' (ch := []) hos (Un.kept hkp) (I1.hok.kept hkp) hb1 fun b z => by simp at z
  obtain ⟨XG, gx, wk⟩ := wake X.A.in1 ((Room.in1 (k := k + 2) hr).mono (by omega)) I1.ok.frames
  have hn : X.s_0.heap.objs.size ≤ sc.heap.objs.size := I1.sz
  have hl : X.env.locals < sc.heap.objs.size := I1.lt
  have hcl : ∀ x c, X.env.cells.lookup x = some c → c < sc.heap.objs.size := fun x c e => by
    obtain ⟨v, o, q, _⟩ := I1.cell x c e
    exact Heap.lt_size q
  have hpl : ∀ p ∈ X.pn ++ pins, p.1 < sc.heap.objs.size := fun p hp => Heap.lt_size (I1.pin p hp).1
  have hfs : ∀ b ∈ X.fs, b < sc.heap.objs.size := fun b hb => by
    obtain ⟨_, o, e, _⟩ := I1.ok.funs.mem hb
    exact Nat.lt_of_lt_of_le (Heap.lt_size e) hn
  have hgfs : XG.fs = frs X.stack := by show frs XG.outer = _; rw [gx.outer]
  have hglt : g < s1.gens.size := (Array.getElem?_eq_some_iff.mp hfr).1
  -- behind a turn
  have back : ∀ {n : Nat} {γ : T × Option Shared} {s₀ s4 : Shared} {ip : List (Addr × Obj)} {σg : L2.St} {H4 : Hp}, Cn X pins P II sc (n + 1) γ s₀ → QI XG g sc.heap.objs.size (wrapP P) ip γ s₀ σg H4 s4 → ∃ σ2, II n γ.1 σ2 ∧ Inv X pins σ2 H4 s4 := fun {n γ s₀ s4 ip σg H4} hC hQ => by
    obtain ⟨σ2, h1, h2, h3⟩ := hC
    refine ⟨σ2, h1, ?_⟩
    obtain ⟨γ, o⟩ := γ
    cases o with
    | none => exact inv_back h2 hQ.inv rfl rfl ⟨gx.prog, gx.w⟩ hgfs gx.ex hn hl hcl hpl
    | some s' =>
      obtain ⟨rfl, h4⟩ := h3 s' rfl
      exact inv_back h4 hQ.inv rfl rfl ⟨gx.prog, gx.w⟩ hgfs gx.ex hn hl hcl hpl
  refine codeAny_forLoop_any (fun n s' => ∃ γ, Cn X pins P II sc (n + 1) γ s' ∧ s'.heap.IsGen a g ∧ ∃ gs, s'.gens[g]? = some gs ∧ gs.Goes (model X.prog X.w) X.A.in1
    (QR XG g sc.heap.objs.size (wrapP P) (Cn X pins P II sc) (N + 1) (fun e s1 => CX X.prog X.w X.stack H1 sc E e s1 ∧ s1.heap.IsGen a g)) (QY XG g sc.heap.objs.size (wrapP P) (Cn X pins P II sc)) (n + 1) (.send .none) (s'.setGen g .running)) ?_ N ?_
  · rintro n s3 ⟨γ3, hC3, hgen3, gs3, hgs3, hgo3⟩
    have I3 : ∃ σ3, Inv X pins σ3 (P.hp γ3.1) s3 := by
      obtain ⟨σ3, _, q, _⟩ := hC3
      exact ⟨σ3, q⟩
    obtain ⟨σ3, I3⟩ := I3
    refine wpAny_passesOwn hp (next_genS (I3.ok.hd hc) I3.nolimit hr.depth hgen3 hgs3 hgo3 (fun v s4 gs' hb4 hsu hy => ?_) (fun s4 hF h' hk => ?_) (fun e s4 he => ?_))
    · -- an item
      obtain ⟨γ, σg, ip, x, H4, hC, hQ, rv, hout, hres⟩ := hy
      obtain ⟨σ2, hI, J4⟩ := back hC hQ
      have hsz4 : g < s4.gens.size := (Array.getElem?_eq_some_iff.mp hQ.run).1
      have J5 : Inv X pins σ2 H4 (s4.setGen g gs') := inv_gens J4 (allBare_setGen J4.bare hb4)
      obtain ⟨pl, F⟩ := frm_of hQ.inv
      obtain ⟨oL, hL, hLc, hpl0⟩ := F.eq
      have plok : ∀ p ∈ pl, s4.heap.get? p.1 = some p.2 ∧ H4 p.1 = none ∧ sc.heap.objs.size ≤ p.1 ∧ ∀ v, p.2.data ≠ .cell v := fun p hp => by
        rw [hpl0] at hp
        rcases List.mem_cons.mp hp with z | z
        · rw [z]
          exact ⟨hL, hQ.inv.free, gx.loc, hLc⟩
        · obtain ⟨q1, q2, _, _, q5⟩ := hQ.inv.pin p z
          refine ⟨q1, q2, ?_, q5⟩
          rcases List.mem_append.mp z with y | y
          · exact gx.pns p y
          · exact hQ.ips p y
      have J6 : Inv X (pins ++ pl) σ2 H4 (s4.setGen g gs') := J5.pins_of fun p hp => by
        rcases List.mem_append.mp hp with z | z
        · exact J5.pin p (List.mem_append_right _ z)
        · obtain ⟨q1, q2, q3, q4⟩ := plok p z
          exact ⟨q1, q2, fun y => by rw [y] at q3; exact absurd (Nat.lt_of_lt_of_le hl q3) (Nat.lt_irrefl _), fun y => absurd (Nat.lt_of_lt_of_le (hfs _ y) q3) (Nat.lt_irrefl _), q4⟩
      have gen4 : ∀ h : Heap, (∀ p ∈ pl, h.get? p.1 = some p.2) → h.IsGen a g := fun h hh => gx.gen h fun p hp => hh p (by rw [hpl0]; exact List.mem_cons_of_mem _ (List.mem_append_left _ hp))
      obtain ⟨og, nm, qn, ho, hcg, hdg, _⟩ := gen4 (s4.setGen g gs').heap fun p hp => (plok p hp).1
      refine go_of (s := s4.setGen g gs') ho hcg hdg (by decide) ?_
      refine wpAny_passesOwn hp (keepW (hg.run (pins ++ pl) _ σ2 H4 x v _ (inv_pois J6) rv (hitem n γ.1 σ2 x H4 hI hout)) (fun _ s6 hh6 h6 => ?_) (fun e s6 hh6 hx => hxe _ _ _ J6.bare hh6 hx))
      obtain ⟨σ6, H6, I6, q6⟩ := h6
      have J7 := inv_up J6.bare hh6 I6
      have sl6 := up_sleep hh6
      refine wpAny_passesOwn hp (keepW (hb.run (pins ++ pl) _ σ6 H6 _ (inv_pois J7) q6) (fun f s7 hh7 q7 => ?_) (fun e s7 hh7 hx => hxe _ _ _ J7.bare hh7 hx))
      have q8 := sp_up J7.bare hh7 q7
      have sl7 := sl6.trans (up_sleep hh7)
      have hg5 : (s4.setGen g gs').gens[g]? = some gs' := setGen_at hsz4
      have hg7 := sl7 g gs' (.inl hsu) hg5
      have again : ∀ {σ7 : L2.St} {H7 : Hp}, Inv X (pins ++ pl) σ7 H7 (up (sleepers (up (sleepers (s4.setGen g gs').gens) s6).gens) s7) → (∃ m γ', n = m + 1 ∧ P.hp γ' = H7 ∧ P.lk n γ.1 H4 γ' ∧ II m γ' σ7) →
          ∃ m, m < n ∧ ∃ γ, Cn X pins P II sc (m + 1) γ (up (sleepers (up (sleepers (s4.setGen g gs').gens) s6).gens) s7) ∧ (up (sleepers (up (sleepers (s4.setGen g gs').gens) s6).gens) s7).heap.IsGen a g ∧ ∃ gs, (up (sleepers (up (sleepers (s4.setGen g gs').gens) s6).gens) s7).gens[g]? = some gs ∧
            gs.Goes (model X.prog X.w) X.A.in1 (QR XG g sc.heap.objs.size (wrapP P) (Cn X pins P II sc) (N + 1) (fun e s1 => CX X.prog X.w X.stack H1 sc E e s1 ∧ s1.heap.IsGen a g)) (QY XG g sc.heap.objs.size (wrapP P) (Cn X pins P II sc)) (m + 1) (.send .none) ((up (sleepers (up (sleepers (s4.setGen g gs').gens) s6).gens) s7).setGen g .running) := fun {σ7 H7} I7 hm => by
        obtain ⟨m, γ', rfl, rfl, hlk, hI'⟩ := hm
        generalize hS : up (sleepers (up (sleepers (s4.setGen g gs').gens) s6).gens) s7 = S at *
        have pin7 : ∀ p ∈ pl, S.heap.get? p.1 = some p.2 ∧ P.hp γ' p.1 = none := fun p hp => by
          obtain ⟨q1, q2, _⟩ := I7.pin p (List.mem_append_right _ (List.mem_append_right _ hp))
          exact ⟨q1, q2⟩
        have hsz7 : g < S.gens.size := (Array.getElem?_eq_some_iff.mp hg7).1
        have R7 : Inv X pins σ7 (P.hp γ') (S.setGen g .running) := inv_gens I7.unpinned (allBare_setGen I7.bare rfl)
        have n7 : sc.heap.objs.size ≤ S.heap.objs.size := by
          have z := Heap.lt_size (pin7 (XG.env.locals, oL) (by rw [hpl0]; exact List.mem_cons_self)).1
          exact Nat.le_trans gx.loc (Nat.le_of_lt z)
        have C7 : ∀ s', Inv X pins σ7 (P.hp γ') s' → Cn X pins P II sc (m + 1) (γ', none) s' := fun s' q => ⟨σ7, hI', q, fun _ z => by cases z⟩
        refine ⟨m, Nat.lt_succ_self m, (γ', none), C7 _ I7.unpinned, gen4 _ fun p hp => (pin7 p hp).1, gs', hg7, ?_⟩
        refine hres (S.setGen g .running) (γ', none) (C7 _ R7) ⟨?_, setGen_at hsz7, n7, hQ.ips⟩ ?_ hlk
        · refine inv_woken (s' := S.setGen g .running) hQ.inv F hQ.sz n7 gx.cel (allBare_setGen I7.bare rfl) ?_ ?_ ?_ ?_ pin7
          · have z := I7.hok
            rw [gx.prog, gx.w]
            exact z
          · intro b o e
            rw [gx.base] at e
            exact I7.bs b o e
          · have z := I7.stack
            rw [gx.base, gx.outer]
            exact z
          · intro b hb'
            rw [hgfs] at hb'
            exact I7.env0.frf b hb'
        · intro i y hy e
          by_cases hi : i = g
          · subst hi
            rw [hQ.run] at e
            cases e
            exact setGen_at hsz7
          · have e5 : (s4.setGen g gs').gens[i]? = some y := by
              show (s4.gens.setIfInBounds g gs')[i]? = _
              rw [Array.getElem?_setIfInBounds_ne (Ne.symm hi)]
              exact e
            have e7 := sl7 i y hy e5
            show (S.gens.setIfInBounds g .running)[i]? = _
            rw [Array.getElem?_setIfInBounds_ne (Ne.symm hi)]
            exact e7
      cases f with
      | next => obtain ⟨σ7, H7, I7, n7⟩ := q8; exact again I7 n7
      | cont => obtain ⟨σ7, H7, I7, n7⟩ := q8; exact again I7 n7
      | brk => obtain ⟨σ7, H7, I7, q7⟩ := q8; exact ⟨σ7, H7, I7.unpinned, q7⟩
      | ret v => obtain ⟨x7, σ7, H7, I7, r7, q7⟩ := q8; exact ⟨x7, σ7, H7, I7.unpinned, r7, q7⟩
    · -- no more
      obtain ⟨γ, σg, ip, H4, hC, hQ, hfin⟩ := hF
      obtain ⟨σ2, hI, J4⟩ := back hC hQ
      have J5 : Inv X pins σ2 H4 (s4.setGen g .finished) := inv_gens J4 (allBare_setGen J4.bare rfl)
      exact wpAny_execs_nil ⟨σ2, H4, J5.kept (t' := s4.toks) hk, hdone n γ.1 σ2 H4 hI hfin⟩
    · -- an error
      obtain ⟨_, hcx, hg4⟩ := he
      have kin : X.K.In s4.heap := by
        obtain ⟨a, B, H', cls, d, _, fl, _, ub, _⟩ := id hcx
        refine I1.ok.mod.kin.keeps fun b o eb => fl.1 b o (ub.keep b o (I1.bs b o eb).1 (I1.bs b o eb).2 fun hm => ?_)
        rcases List.mem_cons.mp (I1.stkSub b hm) with z | z
        · have h1 := Heap.lt_size eb
          have h2 := Nat.le_trans I1.ok.bsz I1.ok.above
          rw [z] at h1
          exact absurd (Nat.lt_of_lt_of_le h1 h2) (Nat.lt_irrefl _)
        · exact I1.ok.nofr eb z
      refine ⟨hg4, notStop_of hns kin hcx, hpas pins σ H1 sc e _ I1 ?_⟩
      obtain ⟨a, B, H', cls, d, z1, fl, z2, ub, z3, z4, z5, z6⟩ := hcx
      exact ⟨a, B, H', cls, d, z1, fl, z2, ub, z3, z4, allBare_setGen z5 rfl, z6⟩
  · have hC0 : ∀ s', Inv X pins σ H1 s' → Cn X pins P II sc (N + 1) (γ0, some sc) s' := fun s' q => ⟨σ, hI0, by rw [hhp]; exact q, fun s'' e => by cases e; exact ⟨rfl, by rw [hhp]; exact I1⟩⟩
    refine ⟨(γ0, some sc), hC0 s1 J1, hgen, .fresh c, hfr, rfl, ?_⟩
    exact wk _ (wrapP P) (Cn X pins P II sc) (N + 1) (γ0, some sc) (hsp _) hhp (s1.setGen g .running) (fun b o e => e) hos (allBare_setGen hb1 rfl) (setGen_at hglt) rfl (hC0 _ (inv_gens J1 (allBare_setGen hb1 rfl)))
end
end Gz
end
section
set_option Elab.async false
set_option linter.all false
set_option maxRecDepth 100000
set_option maxHeartbeats 4000000
namespace Gp
open PySem PySem.Spec PyProof.Rows L2 Gh Gz
structure GT (α : Type) where
  out : List D
  res : Tr α
section
variable {W W' L : Type}
def gbF (m : GT (Fl W' L)) (k : W' → GT (Fl W L)) : GT (Fl W L) := match m.res with
  | .ok (.nx w) => ⟨m.out ++ (k w).out, (k w).res⟩
  | .ok (.rt d) => ⟨m.out, .ok (.rt d)⟩
  | .ok (.bk l) => ⟨m.out, .ok (.bk l)⟩
  | .ok (.ct l) => ⟨m.out, .ok (.ct l)⟩
  | _ => ⟨m.out, .bad⟩
def gpl (m : Tr (Fl W L)) : GT (Fl W L) := ⟨[], m⟩
def gyl (m : Tr D) (w : W) : GT (Fl W L) := match m with
  | .ok d => ⟨[d], .ok (.nx w)⟩
  | _ => ⟨[], .bad⟩
def whY (c : W → Tr Bool) (f : W → GT (Fl W W)) : Nat → W → GT (Fl W L)
  | 0, _ => ⟨[], .bad⟩
  | n + 1, w => match c w with
    | .ok true => (match (f w).res with
      | .ok (.nx w') => ⟨(f w).out ++ (whY c f n w').out, (whY c f n w').res⟩
      | .ok (.ct w') => ⟨(f w).out ++ (whY c f n w').out, (whY c f n w').res⟩
      | .ok (.bk w') => ⟨(f w).out, .ok (.nx w')⟩
      | _ => ⟨(f w).out, .bad⟩)
    | .ok false => ⟨[], .ok (.nx w)⟩
    | _ => ⟨[], .bad⟩
def gfin (m : GT (Fl Unit Empty)) : GT Unit := match m.res with
  | .ok (.nx _) => ⟨m.out, .ok ()⟩
  | _ => ⟨m.out, .bad⟩
def gpre (m : Tr (Fl W Empty)) (k : W → GT Unit) : GT Unit := match m with
  | .ok (.nx w) => k w
  | .ex c fs => ⟨[], .ex c fs⟩
  | _ => ⟨[], .bad⟩
def endY (l : List Str) (m : GT Unit) : Tr Unit := match m.res with
  | .ok _ => .ok ()
  | .ex c fs => if (m.out.isEmpty && l.contains c) = true then .ex c fs else .bad
  | _ => .bad
def forYF (f : D → W → Tr (Fl W W)) (e : Tr Unit) : List D → W → Tr (Fl W L)
  | [], w => bd e fun _ => .ok (.nx w)
  | x :: xs, w => bd (f x w) fun r => match r with
    | .nx w' => forYF f e xs w'
    | .ct w' => forYF f e xs w'
    | .bk w' => .ok (.nx w')
    | .rt d => .ok (.rt d)
end
structure PY (g : Gw) (all : List D) (N : Nat) {T : Type} (P : Pro T) where
  U : T → Addr → Prop
  B : T → Nat
  ok : Prop
  out : ∀ n γ x H1 d, n + 1 ≤ N → all[N - (n + 1)]? = some d → Den g (U γ) H1 x d → Wd g H1 (B γ) → Fr (P.hp γ) H1 g.p → P.out n γ x H1
  lk : ∀ n γ H1 γ', P.lk n γ H1 γ' → 0 < n ∧ Ev (U γ) H1 (U γ') (P.hp γ') ∧ UOk g (U γ') (P.hp γ') ∧ Wd g (P.hp γ') (B γ')
  fin : ∀ n γ H1, ok → n + all.length = N → Wd g H1 (B γ) → Fr (P.hp γ) H1 g.p → P.fin n γ H1
abbrev TQA := (T : Type) → TQ T
abbrev NoM : Addr → Prop := fun _ => False
section
variable {g : Gw} {T : Type} {P : Pro T} {all : List D} {N : Nat} {W W' L : Type}
def gqP (Y : PY g all N P) (D : QE T) (env : W → Env) (envL : L → Env) (n : Nat) (U : Addr → Prop) (H : Hp) : Fl W L → Prop
  | .nx w => ∀ γ' U' σ' H', Ev U H U' H' → Stt g NoM (Y.U γ') (P.hp γ') U' σ' H' (Y.B γ') (env w) → D.nx n γ' σ' H'
  | .rt _ => False
  | .bk w => ∀ γ' U' σ' H', Ev U H U' H' → Stt g NoM (Y.U γ') (P.hp γ') U' σ' H' (Y.B γ') (envL w) → D.bk n γ' σ' H'
  | .ct w => ∀ γ' U' σ' H', Ev U H U' H' → Stt g NoM (Y.U γ') (P.hp γ') U' σ' H' (Y.B γ') (envL w) → D.ct n γ' σ' H'
theorem gqP.ev {Y : PY g all N P} {D : QE T} {env : W → Env} {envL : L → Env} {n : Nat} {U U1 : Addr → Prop} {H H1 : Hp} (e : Ev U H U1 H1) : ∀ {f : Fl W L}, gqP Y D env envL n U H f → gqP Y D env envL n U1 H1 f
  | .nx w, h => fun γ' U' σ' H' e1 => h γ' U' σ' H' (e.trans e1)
  | .rt _, h => h
  | .bk w, h => fun γ' U' σ' H' e1 => h γ' U' σ' H' (e.trans e1)
  | .ct w, h => fun γ' U' σ' H' e1 => h γ' U' σ' H' (e.trans e1)
def okQ {α : Type} (m : Tr α) (R : α → Prop) : Prop := match m with
  | .ok f => R f
  | _ => False
end
def fzB : Env → Bool
  | [] => true
  | .fz _ :: r => fzB r
  | .no :: r => fzB r
  | _ :: _ => false
theorem fzB_mem {ε : Env} (h : fzB ε = true) : ∀ s ∈ ε, (∃ d, s = .fz d) ∨ s = .no := by
  induction ε with
  | nil => exact fun _ m => absurd m List.not_mem_nil
  | cons x r ih =>
    intro s m
    cases x with
    | fz d => rcases List.mem_cons.mp m with z | z; exact .inl ⟨d, z⟩; exact ih h s z
    | no => rcases List.mem_cons.mp m with z | z; exact .inr z; exact ih h s z
    | ow ds => cases h
    | oi c fs => cases h
theorem fzB_own {ε : Env} {σ : L2.St} (h : fzB ε = true) : ∀ i a, ¬ OwnAt σ ε i a := fun i a ⟨_, z⟩ => by
  rcases z with ⟨x, z⟩ | ⟨x, y, z⟩
  · rcases fzB_mem h _ (List.mem_of_getElem? z) with ⟨d, e⟩ | e <;> cases e
  · rcases fzB_mem h _ (List.mem_of_getElem? z) with ⟨d, e⟩ | e <;> cases e
theorem stt_wake {g : Gw} {U0 U U' : Addr → Prop} {H0 H H' : Hp} {σ : L2.St} {b b' : Nat} {ε : Env} (s : Stt g NoM U0 H0 U σ H b ε) (fz : fzB ε = true) (e : Ev U0 H U' H') (u : UOk g U' H') (w : Wd g H' b') : Stt g NoM U' H' U' σ H' b' ε :=
  ⟨⟨s.rel.len, fun i x hx => by
    obtain ⟨o, h1, h2⟩ := s.rel.at_ i x hx
    refine ⟨o, h1, ?_⟩
    rcases fzB_mem fz _ (List.mem_of_getElem? hx) with ⟨d, rfl⟩ | rfl
    · obtain ⟨v, e1, dn⟩ := h2
      exact ⟨v, e1, (dn.sub (U' := U0) fun a _ z => s.sub a z).ev e⟩
    · trivial, fun i j a n h1 h2 => (fzB_own fz _ _ h1).elim⟩, w, u, fun _ z => z, fun i a z => (fzB_own fz _ _ z).elim, fun _ _ z _ _ _ => z, fun i ds a z1 z2 => (fzB_own fz i a ⟨z2, .inl ⟨ds, z1⟩⟩).elim, fun i c fs a z1 z2 => (fzB_own fz i a ⟨z2, .inr ⟨c, fs, z1⟩⟩).elim⟩
def YS {W L : Type} (g : Gw) (ε : Env) (t : TQA) (env : W → Env) (envL : L → Env) (m : GT (Fl W L)) : Prop := ∀ (T : Type) (P : Pro T) (all : List D) (N : Nat) (Y : PY g all N P) (D : QE T) γ U σ H n pre post,
  Stt g NoM (Y.U γ) (P.hp γ) U σ H (Y.B γ) ε → all = pre ++ (m.out ++ post) → n + pre.length = N → m.out.length ≤ n → ((m.out = [] ∨ m.out.length < n) → okQ m.res (gqP Y D env envL (n - m.out.length) U H)) → t T P D n γ σ H
section
variable {g : Gw} {W W' L : Type} {ε : Env} {env : W → Env} {envL : L → Env} {env' : W' → Env} {u ta tb : TQA} {te : TE} {me : Tr D}
theorem ys_nil {w : W} (l : Le (env w) ε) : YS g ε (fun _ => tQ0) env envL ⟨[], .ok (.nx w)⟩ := fun T P all N Y D γ U σ H n pre post s ha hn hl q =>
  q (.inl rfl) γ U σ H Ev.refl (s.le l)
theorem gbF_nx {m : GT (Fl W' L)} {k : W' → GT (Fl W L)} {w : W'} (e : m.res = .ok (.nx w)) : gbF m k = ⟨m.out ++ (k w).out, (k w).res⟩ := by unfold gbF; rw [e]
theorem YS.seq {m : GT (Fl W' L)} {k : W' → GT (Fl W L)} (h1 : YS g ε ta env' envL m) (h2 : ∀ w, YS g (env' w) u env envL (k w)) : YS g ε (fun T => tQThen (ta T) (u T)) env envL (gbF m k) := fun T P all N Y D γ U σ H n pre post s ha hn hl q => by
  have run : ∀ (R : List Gp.D), all = pre ++ (m.out ++ R) → m.out.length ≤ n → ((m.out = [] ∨ m.out.length < n) → okQ m.res (gqP Y { D with nx := fun n' γ' σ' H' => u T P D n' γ' σ' H' } env' envL (n - m.out.length) U H)) → tQThen (ta T) (u T) P D n γ σ H :=
    fun R hR hl' hq => h1 T P all N Y _ γ U σ H n pre R s hR hn hl' hq
  cases e : m.res with
  | ok f =>
    cases f with
    | nx w =>
      rw [gbF_nx e] at ha hl q
      have ha' : all = pre ++ (m.out ++ ((k w).out ++ post)) := by rw [ha]; simp [List.append_assoc]
      have hl' : m.out.length + (k w).out.length ≤ n := by rw [← List.length_append]; exact hl
      refine run _ ha' (by omega) fun hc => ?_
      rw [e]
      intro γ' U' σ' H' ev s'
      refine h2 w T P all N Y D γ' U' σ' H' (n - m.out.length) (pre ++ m.out) post s' (by rw [ha']; simp [List.append_assoc]) (by rw [List.length_append]; omega) (by omega) fun hc2 => ?_
      have z := q (by
        rcases hc2 with z | z
        · rw [z, List.append_nil]; exact hc
        · exact .inr (by show (m.out ++ (k w).out).length < n; rw [List.length_append]; omega))
      have e3 : n - (m.out ++ (k w).out).length = n - m.out.length - (k w).out.length := by rw [List.length_append]; omega
      change okQ (k w).res (gqP Y D env envL (n - (m.out ++ (k w).out).length) U H) at z
      rw [e3] at z
      cases e4 : (k w).res with
      | ok f2 => rw [e4] at z; exact gqP.ev ev z
      | ex c fs => rw [e4] at z; exact z.elim
      | bad => rw [e4] at z; exact z.elim
      | draw _ _ => rw [e4] at z; exact z.elim
    | rt d =>
      have e2 : gbF m k = ⟨m.out, .ok (.rt d)⟩ := by unfold gbF; rw [e]
      rw [e2] at ha hl q
      exact run post ha hl fun hc => by rw [e]; exact q hc
    | bk l =>
      have e2 : gbF m k = ⟨m.out, .ok (.bk l)⟩ := by unfold gbF; rw [e]
      rw [e2] at ha hl q
      exact run post ha hl fun hc => by rw [e]; exact q hc
    | ct l =>
      have e2 : gbF m k = ⟨m.out, .ok (.ct l)⟩ := by unfold gbF; rw [e]
      rw [e2] at ha hl q
      exact run post ha hl fun hc => by rw [e]; exact q hc
  | ex c fs =>
    have e2 : gbF m k = ⟨m.out, .bad⟩ := by unfold gbF; rw [e]
    rw [e2] at ha hl q
    exact run post ha hl fun hc => (q hc).elim
  | bad =>
    have e2 : gbF m k = ⟨m.out, .bad⟩ := by unfold gbF; rw [e]
    rw [e2] at ha hl q
    exact run post ha hl fun hc => (q hc).elim
  | draw _ _ =>
    have e2 : gbF m k = ⟨m.out, .bad⟩ := by unfold gbF; rw [e]
    rw [e2] at ha hl q
    exact run post ha hl fun hc => (q hc).elim
theorem ys_pl {t : TS} {m : Tr (Fl W L)} (h : SS g EF ε (tSeq t tNext) env envL m) : YS g ε (fun _ => tQP t) env envL (gpl m) := fun T P all N Y D γ U σ H n pre post s ha hn hl q => by
  have z := q (.inl rfl)
  refine h NoM (Y.U γ) (P.hp γ) U (D.at n γ) σ H _ s ?_
  change okQ m (gqP Y D env envL (n - 0) U H) at z
  cases m with
  | ok f =>
    cases f with
    | nx w => exact fun U' σ' H' e s' => z γ U' σ' H' e s'
    | rt d => exact z.elim
    | bk w => exact fun U' σ' H' e s' => z γ U' σ' H' e s'
    | ct w => exact fun U' σ' H' e s' => z γ U' σ' H' e s'
  | ex c fs => exact z.elim
  | bad => exact z.elim
  | draw _ _ => exact z.elim
theorem ys_yield {w : W} (he : SE g EF ε te me) (l : Le (env w) ε) (fz : fzB ε = true) : YS g ε (fun _ => tQY te) env envL (gyl me w) := fun T P all N Y D γ U σ H n pre post s ha hn hl q => by
  cases me with
  | ok d =>
    have hl' : 1 ≤ n := hl
    obtain ⟨m, rfl⟩ : ∃ m, n = m + 1 := ⟨n - 1, by omega⟩
    refine ⟨m, rfl, he U σ H (Y.B γ) _ s.rel s.wd s.uok fun v H1 d1 w1 f1 => ?_⟩
    have s1 := s.fr f1 w1
    refine ⟨Y.out m γ v H1 d (by omega) ?_ (d1.sub fun a _ z => s.sub a z) w1 fun a o e n1 n2 => s1.ext a o e n1 (fun z => z) n2, fun γ' hk => ?_⟩
    · have e : N - (m + 1) = pre.length := by omega
      rw [e, ha, List.getElem?_append_right (Nat.le_refl _), Nat.sub_self]
      rfl
    · obtain ⟨hp, ev, uk, wk⟩ := Y.lk m γ H1 γ' hk
      have z := q (.inr (show 1 < m + 1 by omega))
      exact z γ' (Y.U γ') σ (P.hp γ') ((s.uok.ev f1).trans (ev.sup s.sub)) ((stt_wake s1 fz ev uk wk).le l)
  | ex c fs => exact (q (.inl rfl)).elim
  | bad => exact (q (.inl rfl)).elim
  | draw _ _ => exact (q (.inl rfl)).elim
theorem okQ_ev {T : Type} {P : Pro T} {all : List D} {N n : Nat} {Y : PY g all N P} {D : QE T} {U U1 : Addr → Prop} {H H1 : Hp} (e : Ev U H U1 H1) {m : Tr (Fl W L)} (h : okQ m (gqP Y D env envL n U H)) : okQ m (gqP Y D env envL n U1 H1) := by
  cases m with
  | ok f => exact gqP.ev e h
  | ex c fs => exact h.elim
  | bad => exact h.elim
  | draw _ _ => exact h.elim
theorem cond_app {α β : Type} {a b : List α} {n : Nat} {r : Tr β} {R : β → Prop} (hc : a = [] ∨ a.length < n) (q : (a ++ b = [] ∨ (a ++ b).length < n) → okQ r R) (hb : b = [] ∨ b.length < n - a.length) : okQ r R := q (by
  rcases hb with z | z
  · rw [z, List.append_nil]; exact hc
  · exact .inr (by rw [List.length_append]; omega))
theorem ys_while {c : TT} {mc : W → Tr Bool} {f : W → GT (Fl W W)} {w0 : W} (k : Nat) (l : Le (env w0) ε) (hc : ∀ w, ST g EF (env w) c (mc w)) (hb : ∀ w, YS g (env w) tb env env (f w)) : YS g ε (fun T => tQWhile c (tb T)) env envL (whY mc f k w0) := fun T P all N Y D γ U σ H n pre post s ha hn hl q => by
  refine ⟨fun m n γ σ H => ∃ w U pre, Stt g NoM (Y.U γ) (P.hp γ) U σ H (Y.B γ) (env w) ∧ all = pre ++ ((whY (L := L) mc f m w).out ++ post) ∧ n + pre.length = N ∧ (whY (L := L) mc f m w).out.length ≤ n ∧
    (((whY (L := L) mc f m w).out = [] ∨ (whY (L := L) mc f m w).out.length < n) → okQ (whY mc f m w).res (gqP Y D env envL (n - (whY (L := L) mc f m w).out.length) U H)), ⟨k, w0, U, pre, s.le l, ha, hn, hl, q⟩, ?_⟩
  rintro m n γ σ H ⟨w, U, pre, s, ha, hn, hl, q⟩
  cases m with
  | zero => exact (q (.inl rfl)).elim
  | succ m =>
    unfold whY at ha hl q
    cases e : mc w with
    | ok b =>
      rw [e] at ha hl q
      have hst := hc w
      rw [e] at hst
      refine hst U σ H (Y.B γ) _ s.rel s.wd s.uok fun H1 w1 f1 => ?_
      have ev := s.uok.ev f1
      have s1 := s.fr f1 w1
      cases b with
      | false =>
        have z := q (.inl rfl)
        exact z γ U σ H1 ev s1
      | true =>
        refine ⟨fun n γ σ H => ∃ w U pre, Stt g NoM (Y.U γ) (P.hp γ) U σ H (Y.B γ) (env w) ∧ all = pre ++ ((whY (L := L) mc f m w).out ++ post) ∧ n + pre.length = N ∧ (whY (L := L) mc f m w).out.length ≤ n ∧
          (((whY (L := L) mc f m w).out = [] ∨ (whY (L := L) mc f m w).out.length < n) → okQ (whY mc f m w).res (gqP Y D env envL (n - (whY (L := L) mc f m w).out.length) U H)), fun n' γ' σ' H' h => ⟨m, Nat.lt_succ_self m, h⟩, ?_⟩
        cases e2 : (f w).res with
        | ok r =>
          simp only [e2] at ha hl q
          cases r with
          | nx w' =>
            refine hb w T P all N Y _ γ U σ H1 n pre ((whY (L := L) mc f m w').out ++ post) s1 (by rw [ha]; simp [List.append_assoc]) hn (by rw [List.length_append] at hl; omega) fun hcc => ?_
            rw [e2]
            intro γ' U' σ' H' e3 s3
            refine ⟨w', U', pre ++ (f w).out, s3, by rw [ha]; simp [List.append_assoc], by rw [List.length_append] at hl ⊢; omega, by rw [List.length_append] at hl; omega, fun hb2 => ?_⟩
            have z := cond_app hcc q hb2
            rw [show n - ((f w).out ++ (whY (L := L) mc f m w').out).length = n - (f w).out.length - (whY (L := L) mc f m w').out.length by rw [List.length_append]; omega] at z
            exact okQ_ev (ev.trans e3) z
          | ct w' =>
            refine hb w T P all N Y _ γ U σ H1 n pre ((whY (L := L) mc f m w').out ++ post) s1 (by rw [ha]; simp [List.append_assoc]) hn (by rw [List.length_append] at hl; omega) fun hcc => ?_
            rw [e2]
            intro γ' U' σ' H' e3 s3
            refine ⟨w', U', pre ++ (f w).out, s3, by rw [ha]; simp [List.append_assoc], by rw [List.length_append] at hl ⊢; omega, by rw [List.length_append] at hl; omega, fun hb2 => ?_⟩
            have z := cond_app hcc q hb2
            rw [show n - ((f w).out ++ (whY (L := L) mc f m w').out).length = n - (f w).out.length - (whY (L := L) mc f m w').out.length by rw [List.length_append]; omega] at z
            exact okQ_ev (ev.trans e3) z
          | bk w' =>
            refine hb w T P all N Y _ γ U σ H1 n pre post s1 ha hn hl fun hcc => ?_
            rw [e2]
            have z := q hcc
            exact fun γ' U' σ' H' e3 s3 => z γ' U' σ' H' (ev.trans e3) s3
          | rt d =>
            refine hb w T P all N Y _ γ U σ H1 n pre post s1 ha hn hl fun hcc => ?_
            exact (q hcc).elim
        | ex c fs =>
          simp only [e2] at ha hl q
          exact hb w T P all N Y _ γ U σ H1 n pre post s1 ha hn hl fun hcc => (q hcc).elim
        | bad =>
          simp only [e2] at ha hl q
          exact hb w T P all N Y _ γ U σ H1 n pre post s1 ha hn hl fun hcc => (q hcc).elim
        | draw _ _ =>
          simp only [e2] at ha hl q
          exact hb w T P all N Y _ γ U σ H1 n pre post s1 ha hn hl fun hcc => (q hcc).elim
    | ex c fs => rw [e] at q; exact (q (.inl rfl)).elim
    | bad => rw [e] at q; exact (q (.inl rfl)).elim
    | draw _ _ => rw [e] at q; exact (q (.inl rfl)).elim
end
end Gp
end
section
set_option Elab.async false
set_option linter.all false
set_option maxRecDepth 100000
set_option maxHeartbeats 4000000
namespace Gp
open PySem PySem.Spec PyProof.Rows L2 Gh Gz
section
variable {g : Gw} {W W' L : Type} {ε : Env} {env : W → Env} {envL : L → Env} {env' : W' → Env} {u ta tb : TQA} {te : TE} {me : Tr D}
end
def endOk (g : Gw) (U : Addr → Prop) (H : Hp) (E : XK) (b : Nat) (m : GT Unit) : Prop := match m.res with
  | .ok _ => True
  | .ex c fs => m.out = [] ∧ exP g U E H c fs b
  | _ => False
theorem endOk_bad {g : Gw} {U : Addr → Prop} {H : Hp} {E : XK} {b : Nat} {m : GT Unit} (h : m.res = .bad) (z : endOk g U H E b m) : False := by
  unfold endOk at z
  rw [h] at z
  exact z
def S0 (g : Gw) (E : XK) (ε : Env) (t : TQA) (m : GT Unit) : Prop := ∀ (T : Type) (P : Pro T) (N : Nat) (Y : PY g m.out N P) γ U σ H, Stt g NoM (Y.U γ) (P.hp γ) U σ H (Y.B γ) ε → m.out.length ≤ N →
  ((∃ u, m.res = .ok u) → Y.ok) → ((m.out = [] ∨ m.out.length < N) → endOk g (Y.U γ) (P.hp γ) E (Y.B γ) m) → t T P (endQ P) N γ σ H
section
variable {g : Gw} {W : Type} {ε : Env} {E : XK} {u : TQA} {t : TS}
theorem s0_rest {envU : Unit → Env} {t : TQA} {m : GT (Fl Unit Empty)} (h : YS g ε t envU envE m) : S0 g E ε t (gfin m) := fun T P N Y γ U σ H s hl hk q => by
  have key : ∀ (out : List D) (Y : PY g out N P), out = m.out → (∀ γ, Y.U γ = Y.U γ) → Stt g NoM (Y.U γ) (P.hp γ) U σ H (Y.B γ) ε → m.out.length ≤ N → ((m.out = [] ∨ m.out.length < N) → Y.ok ∧ ∃ w, m.res = .ok (.nx w)) → t T P (endQ P) N γ σ H := by
    intro out Y ho _ s hl q
    subst ho
    refine h T P m.out N Y (endQ P) γ U σ H N [] [] s (by simp) (by simp) hl fun hc => ?_
    obtain ⟨ho, w, e⟩ := q hc
    rw [e]
    intro γ' U' σ' H' _ s'
    exact Y.fin _ γ' H' ho (by omega) s'.wd fun a o e n1 n2 => s'.ext a o e n1 (fun z => z) n2
  cases e : m.res with
  | ok f =>
    cases f with
    | nx w =>
      have e1 : gfin m = ⟨m.out, .ok ()⟩ := by unfold gfin; rw [e]
      have e2 : (gfin m).out = m.out := by rw [e1]
      exact key _ Y e2 (fun _ => rfl) s (by rw [← e2]; exact hl) fun _ => ⟨hk ⟨(), by rw [e1]⟩, w, e⟩
    | rt d =>
      have e1 : gfin m = ⟨m.out, .bad⟩ := by unfold gfin; rw [e]
      have e2 : (gfin m).out = m.out := by rw [e1]
      exact key _ Y e2 (fun _ => rfl) s (by rw [← e2]; exact hl) fun hc => by
        have z := q (by rw [e2]; exact hc)
        exact (endOk_bad (by rw [e1]) z).elim
    | bk x => exact nomatch x
    | ct x => exact nomatch x
  | ex c fs =>
    have e1 : gfin m = ⟨m.out, .bad⟩ := by unfold gfin; rw [e]
    have e2 : (gfin m).out = m.out := by rw [e1]
    exact key _ Y e2 (fun _ => rfl) s (by rw [← e2]; exact hl) fun hc => by
      have z := q (by rw [e2]; exact hc)
      exact (endOk_bad (by rw [e1]) z).elim
  | bad =>
    have e1 : gfin m = ⟨m.out, .bad⟩ := by unfold gfin; rw [e]
    have e2 : (gfin m).out = m.out := by rw [e1]
    exact key _ Y e2 (fun _ => rfl) s (by rw [← e2]; exact hl) fun hc => by
      have z := q (by rw [e2]; exact hc)
      exact (endOk_bad (by rw [e1]) z).elim
  | draw _ _ =>
    have e1 : gfin m = ⟨m.out, .bad⟩ := by unfold gfin; rw [e]
    have e2 : (gfin m).out = m.out := by rw [e1]
    exact key _ Y e2 (fun _ => rfl) s (by rw [← e2]; exact hl) fun hc => by
      have z := q (by rw [e2]; exact hc)
      exact (endOk_bad (by rw [e1]) z).elim
theorem s0_pre {env : W → Env} {m : Tr (Fl W Empty)} {k : W → GT Unit} (h : SS g E ε (tSeq t tNext) env envE m) (hk : ∀ w, S0 g E (env w) u (k w)) : S0 g E ε (fun T => tQPre t (u T)) (gpre m k) := fun T P N Y γ U σ H s hl hk2 q => by
  refine h NoM (Y.U γ) (P.hp γ) U { nx := fun σ' H' => u T P (endQ P) N γ σ' H', rt := (endQ P).rt N γ, bk := fun _ _ => False, ct := fun _ _ => False } σ H (Y.B γ) s ?_
  cases m with
  | ok f =>
    cases f with
    | nx w => exact fun U' σ' H' _ s' => hk w T P N Y γ U' σ' H' s' hl hk2 q
    | rt d => exact (q (.inl rfl)).elim
    | bk x => exact nomatch x
    | ct x => exact nomatch x
  | ex c fs =>
    obtain ⟨_, z⟩ := q (.inl rfl)
    exact fun dd fvs H' h1 h2 h3 h4 h5 => z dd fvs H' h1 h2 h3 h4 fun a o e n1 n2 => h5 a o e n1 (fun z => z) n2
  | bad => exact (q (.inl rfl)).elim
  | draw _ _ => exact (q (.inl rfl)).elim
end
def spY (K : PySem.W.Frag) (Tb : List (Addr × Str)) (F : List D → GT Unit) : List V → Hp → XK → SpQ := fun vs H E T P N γ => ∃ p c ds, ∃ Y : PY ⟨K, Tb, p, c⟩ (F ds).out N P, DenL ⟨K, Tb, p, c⟩ (Y.U γ) H vs ds ∧ P.hp γ = H ∧ Wd ⟨K, Tb, p, c⟩ H (Y.B γ) ∧ UOk ⟨K, Tb, p, c⟩ (Y.U γ) H ∧
  (F ds).out.length ≤ N ∧ ((∃ u, (F ds).res = .ok u) → Y.ok) ∧ (((F ds).out = [] ∨ (F ds).out.length < N) → endOk ⟨K, Tb, p, c⟩ (Y.U γ) H E (Y.B γ) (F ds))
end Gp
end
section
set_option Elab.async false
set_option linter.all false
set_option maxRecDepth 100000
set_option maxHeartbeats 4000000
namespace Gp
open PySem PySem.Spec PyProof.Rows L2 Gh Gz
def yl2 (F : D → D → GT Unit) : List D → GT Unit
  | [x, y] => F x y
  | _ => ⟨[], .bad⟩
section
variable {K : PySem.W.Frag} {Tb : List (Addr × Str)} {Nn : List Str} {vs : List V} {t : TQA} {H : Hp} {E : XK} {T : Type} {P : Pro T} {N : Nat} {γ : T}
def StartY (t : TQA) (T : Type) (P : Pro T) (N : Nat) (γ : T) (σ : L2.St) (H : Hp) : Prop := t T P (endQ P) N γ σ H
theorem yfn_run {F : List D → GT Unit} (h : spY K Tb F vs H E T P N γ) (hs : ∀ p c ds, ds.length = vs.length → S0 ⟨K, Tb, p, c⟩ E (ds.map Sl.fz ++ List.replicate (Nn.length - ds.length) Sl.no) t (F ds)) : StartY t T P N γ (L2.start Nn vs) H := by
  obtain ⟨p, c, ds, Y, dn, hh, wd, u, hl, hk, q⟩ := h
  have ss := hs p c ds dn.length.symm
  have no : ∀ i a, ¬ OwnAt (L2.start Nn vs) (ds.map Sl.fz ++ List.replicate (Nn.length - ds.length) Sl.no) i a := fun i a ⟨_, z⟩ => by
    have : ∀ s : Sl, (ds.map Sl.fz ++ List.replicate (Nn.length - ds.length) Sl.no)[i]? = some s → (∃ d, s = .fz d) ∨ s = .no := fun s e => by
      have m := List.mem_of_getElem? e
      rcases List.mem_append.mp m with m | m
      · obtain ⟨d, _, e⟩ := List.mem_map.mp m
        exact .inl ⟨d, e.symm⟩
      · exact .inr (List.mem_replicate.mp m).2
    rcases z with ⟨x, z⟩ | ⟨x, y, z⟩
    · rcases this _ z with ⟨d, e⟩ | e <;> cases e
    · rcases this _ z with ⟨d, e⟩ | e <;> cases e
  refine ss T P N Y γ (Y.U γ) _ H ⟨rel_start dn, wd, u, fun _ z => z, fun i a z => (no i a z).elim, fun a o z _ _ _ => by rw [hh] at z; exact z, fun i ds' a z1 z2 => (no i a ⟨z2, .inl ⟨ds', z1⟩⟩).elim, fun i c fs a z1 z2 => (no i a ⟨z2, .inr ⟨c, fs, z1⟩⟩).elim⟩ hl hk fun hc => ?_
  rw [hh]
  exact q hc
theorem yfn_of2 {F : D → D → GT Unit} (h : spY K Tb (yl2 F) vs H E T P N γ) (hv : vs.length = 2) (hs : ∀ p c x y, S0 ⟨K, Tb, p, c⟩ E ([x, y].map Sl.fz ++ List.replicate (Nn.length - 2) Sl.no) t (F x y)) : StartY t T P N γ (L2.start Nn vs) H :=
  yfn_run h fun p c ds hd => by
    match ds, hd.trans hv with
    | [x, y], _ => exact hs p c x y
end
section
variable {P : Program} {w : World} {K : PySem.W.Frag} {mg : Str → Option Value} {base : Heap}
theorem fnYQ {k : Nat} {f : Addr} {fd : FuncData} {ps N : List Str} {sp : List V → Hp → XK → SpQ} {dvs : List V} {x qual : Str} {params : Arguments} {body : List Stmt} {scope : Scope} {kws : List (Str × V)}
    (F : FunD K x qual params body scope dvs kws f fd) (S : GScope N ps scope) (hnc : ∀ n x c, (cellsFrom n scope.names []).lookup x = some c → False)
    (hbody : ∀ (cdv : Value) (A : Around) (outer : List PySem.Env) (s : Shared) (H : Hp) (vs : List V) (E : XK) (pn : List (Addr × Obj)), Room k (A.deeper (envOfC qual scope s.heap.objs.size f cdv)) → vs.length = ps.length →
      ∃ t : TQA, (∀ T, Q0 T (gcxOf P w K mg base N qual scope f cdv A outer s H E pn) body (t T)) ∧ ∀ (T : Type) (Pr : Pro T) (M : Nat) (γ : T), sp vs H E T Pr M γ → Pr.hp γ = H → StartY t T Pr M γ (L2.start N vs) H) : QFn P w K mg base (k + 1) f fd ps sp := by
  obtain ⟨oc, od, dV, kV, doc, pm, an, cdv, ct, osl, rfl, lk, hcd, _, _⟩ := F.ex
  exact qfn_of lk hcd S hnc fun A outer s H vs E pn T Pr M γ hr h hh hl => by
    obtain ⟨t, h1, h2⟩ := hbody cdv A outer s H vs E pn hr hl
    exact ⟨t T, h1 T, h2 T Pr M γ h hh⟩
end
def SGen (g : Gw) (E E' : XK) (ε : Env) (tq : TQG) (m : Tr (GT Unit)) : Prop := ∀ U σ H b R, Rel g U H σ ε → Wd g H b → UOk g U H →
  Al (fun (gt : GT Unit) b' => ∀ (sp : SpQ) H', (∀ (T : Type) (P : Pro T) N γ (Y : PY g gt.out N P), Y.U γ = U → Y.B γ = b' → P.hp γ = H' → gt.out.length ≤ N → ((∃ u, gt.res = .ok u) → Y.ok) → ((gt.out = [] ∨ gt.out.length < N) → endOk g U H' E' b' gt) → sp T P N γ) → Wd g H' b' → UOk g U H' → Fr H H' g.p → R sp H') (exP g U E H) m b → tq σ H R
section
variable {g : Gw} {E E' : XK} {W W' L : Type} {ε : Env} {env : W → Env} {envL : L → Env} {u tb : TS} {t : TA} {mt : Tr (List D)} {tx : TE} {ma : Tr D}
theorem spY_of {F : List D → GT Unit} {U : Addr → Prop} {H : Hp} {b : Nat} {vs : List V} {ds : List D} (dn : DenL g U H vs ds) (w : Wd g H b) (u : UOk g U H) {T : Type} {P : Pro T} {N : Nat} {γ : T} (Y : PY g (F ds).out N P) (h1 : Y.U γ = U) (h2 : Y.B γ = b) (h3 : P.hp γ = H) (h4 : (F ds).out.length ≤ N) (h5 : (∃ u, (F ds).res = .ok u) → Y.ok)
    (h6 : ((F ds).out = [] ∨ (F ds).out.length < N) → endOk g U H E b (F ds)) : spY g.K g.T F vs H E T P N γ := by
  subst h1 h2
  exact ⟨g.p, g.c, ds, Y, dn, h3, w, u, h4, h5, h6⟩
theorem sgen_call {F : List D → GT Unit} {n : Nat} {dvs : List V} {dds : List D} (hd : ∀ U H, DenL g U H dvs dds) (ht : SA g E ε t mt) : SGen g E E' ε (tCallQ (spY g.K g.T F) n dvs E' t) (bd mt fun ds => if (ds ++ dds).length = n then .ok (F (ds ++ dds)) else .bad) := fun U σ H b R r w u q =>
  ht U σ H b _ r w u ((al_bd.mp q).mono (fun ds b1 h1 vs H1 dn w1 f1 => by
    split at h1
    · rename_i hl
      have dn2 := dn.append (hd U H1)
      have u1 := u.fr f1 w1
      exact ⟨by rw [dn2.length]; exact hl, h1 _ H1 (fun T P N γ Y e1 e2 e3 e4 e5 e6 => spY_of dn2 w1 u1 Y e1 e2 e3 e4 e5 e6) w1 u1 f1⟩
    · exact h1.elim) (fun _ _ _ h => h))
abbrev CT : Type := (Addr → Prop) × Hp × Nat
def conP (g : Gw) (m : GT Unit) (N : Nat) : Pro CT where
  hp γ := γ.2.1
  src _ s := s
  out n γ x H2 := ∃ d : D, m.out[N - n]? = some d ∧ n ≤ N ∧ Den g γ.1 H2 x d ∧ Wd g H2 γ.2.2 ∧ Fr γ.2.1 H2 g.p
  lk n γ H2 γ' := 0 < n ∧ Ev γ.1 H2 γ'.1 γ'.2.1 ∧ UOk g γ'.1 γ'.2.1 ∧ Wd g γ'.2.1 γ'.2.2
  fin n γ H2 := (∃ u, m.res = .ok u) ∧ n + m.out.length = N + 1 ∧ Wd g H2 γ.2.2 ∧ Fr γ.2.1 H2 g.p
theorem ss_forQ0 {tq : TQG} {gt : TG} {mg : Tr (GT Unit)} {f : D → W → Tr (Fl W W)} {w0 : W} (lst : List Str) (hlst : ∀ c ∈ lst, PySem.W.subIn g.K (.ref (gd c g.K)) (.type "StopIteration") = some false) (hg : SGen g E (nsE g.K E) ε tq mg) (l : Le (env w0) ε) (hb : ∀ d w, SX g E (env w) d gt tb env env (f d w)) : SS g E ε (tForQ tq gt tb) env envL (bd mg fun m => forYF f (endY lst m) m.out w0) := fun Mt U0 H0 U D σ H b s q => by
  refine hg U σ H b _ s.rel s.wd s.uok ((al_bd.mp q).mono (fun m b1 h1 sp H1 hsp w1 u1 f1 => ?_) (fun _ _ _ h => exS.exP s h))
  have s1 := s.fr f1 w1
  -- how many may be taken
  obtain ⟨N, hN, hend, hNL⟩ : ∃ N, m.out.length ≤ N + 1 ∧ ((m.out = [] ∨ m.out.length < N + 1) → endOk g U H1 (nsE g.K E) b1 m) ∧ ((N = m.out.length) ∨ (N + 1 = m.out.length ∧ endY lst m = .bad)) := by
    by_cases hb0 : endY lst m = .bad
    · by_cases he : m.out = []
      · rw [he] at h1
        change Al _ _ (bd (endY lst m) _) b1 at h1
        rw [hb0] at h1
        exact h1.elim
      · have hp : 0 < m.out.length := List.length_pos_iff.mpr he
        exact ⟨m.out.length - 1, by omega, fun z => z.elim (fun z => absurd z he) (fun z => by omega), .inr ⟨by omega, hb0⟩⟩
    · refine ⟨m.out.length, by omega, fun _ => ?_, .inl rfl⟩
      unfold endOk
      cases e : m.res with
      | ok a => trivial
      | ex c fs =>
        by_cases hc : (m.out.isEmpty && lst.contains c) = true
        · have e2 : endY lst m = .ex c fs := by unfold endY; rw [e]; dsimp only; rw [if_pos hc]
          rw [Bool.and_eq_true] at hc
          have ho : m.out = [] := List.isEmpty_iff.mp hc.1
          have hm : c ∈ lst := List.contains_iff_mem.mp hc.2
          refine ⟨ho, ?_⟩
          rw [ho] at h1
          change Al _ _ (bd (endY lst m) _) b1 at h1
          rw [e2] at h1
          have z := exS.exP s1 h1
          exact fun dd fvs H' a1 a2 a3 a4 a5 => ⟨z dd fvs H' a1 a2 a3 a4 a5, hlst c hm⟩
        · exact absurd (by unfold endY; rw [e]; dsimp only; rw [if_neg hc]) hb0
      | bad => exact absurd (by unfold endY; rw [e]) hb0
      | draw _ _ => exact absurd (by unfold endY; rw [e]) hb0
  let T := CT
  let P : Pro T := conP g m N
  let Y : PY g m.out (N + 1) (wrapP P) := PY.mk (fun γ => γ.1.1) (fun γ => γ.1.2.2) (∃ u, m.res = .ok u)
    (fun n γ x H2 d hn e dn w f => ⟨d, (by rw [show N - n = N + 1 - (n + 1) by omega]; exact e), (by omega), dn, w, f⟩) (fun n γ H2 γ' h => h) (fun n γ H2 ho hn w f => ⟨ho, hn, w, f⟩)
  refine ⟨T, P, N, (U, H1, b1), fun n γ σ => ∃ w, n ≤ N ∧ Stt g Mt U0 H0 γ.1 σ γ.2.1 γ.2.2 (env w) ∧ Al (flP g Mt U0 H0 γ.1 γ.2.1 D env envL) (exS g Mt U0 H0 E) (forYF f (endY lst m) (m.out.drop (N - n)) w) γ.2.2, rfl,
    fun o => hsp _ (wrapP P) (N + 1) ((U, H1, b1), o) Y rfl rfl rfl hN (fun z => z) hend, ⟨w0, Nat.le_refl _, s1.le l, ?_⟩, ?_, ?_⟩
  · rw [Nat.sub_self, List.drop_zero]
    exact Al.mono (fun _ _ z => z.ev (s.uok.ev f1)) (fun _ _ _ z => z) h1
  · rintro n γ σ x H2 ⟨w, hle, s', q'⟩ ⟨d, hd, _, dn, w2, f2⟩
    have s2 := s'.fr f2 w2
    have ev2 := s'.uok.ev f2
    have hlt : N - n < m.out.length := (List.getElem?_eq_some_iff.mp hd).1
    have hcons : m.out.drop (N - n) = d :: m.out.drop (N - n + 1) := by
      rw [List.drop_eq_getElem_cons hlt]
      congr 1
      exact (List.getElem?_eq_some_iff.mp hd).2
    rw [hcons] at q'
    have more : ∀ {w' : W} {b2 : Nat}, Al (flP g Mt U0 H0 γ.1 γ.2.1 D env envL) (exS g Mt U0 H0 E) (forYF f (endY lst m) (m.out.drop (N - n + 1)) w') b2 → ∀ U3 σ3 H3, Ev γ.1 H2 U3 H3 → Stt g Mt U0 H0 U3 σ3 H3 b2 (env w') →
        ∃ k γ', n = k + 1 ∧ P.hp γ' = H3 ∧ P.lk n γ H2 γ' ∧ ∃ w, k ≤ N ∧ Stt g Mt U0 H0 γ'.1 σ3 γ'.2.1 γ'.2.2 (env w) ∧ Al (flP g Mt U0 H0 γ'.1 γ'.2.1 D env envL) (exS g Mt U0 H0 E) (forYF f (endY lst m) (m.out.drop (N - k)) w) γ'.2.2 := fun {w' b2} h2 U3 σ3 H3 e3 s3 => by
      have hpos : 0 < n := by
        rcases Nat.eq_zero_or_pos n with z | z
        · exfalso
          rcases hNL with z1 | ⟨z1, z2⟩
          · omega
          · rw [show m.out.drop (N - n + 1) = [] from List.drop_eq_nil_of_le (by omega)] at h2
            change Al _ _ (bd (endY lst m) _) b2 at h2
            rw [z2] at h2
            exact h2
        · exact z
      refine ⟨n - 1, (U3, H3, b2), by omega, rfl, ⟨hpos, e3, s3.uok, s3.wd⟩, w', by omega, s3, ?_⟩
      rw [show N - (n - 1) = N - n + 1 by omega]
      exact Al.mono (fun _ _ z => z.ev (ev2.trans e3)) (fun _ _ _ z => z) h2
    refine hb d w Mt U0 H0 γ.1 _ σ H2 γ.2.2 x s2 dn ((al_bd.mp q').mono (fun r b2 h2 => ?_) (fun _ _ _ z => z))
    cases r with
    | nx w' => exact fun U3 σ3 H3 e3 s3 => more h2 U3 σ3 H3 e3 s3
    | ct w' => exact fun U3 σ3 H3 e3 s3 => more h2 U3 σ3 H3 e3 s3
    | bk w' => exact fun U3 σ3 H3 e3 s3 => h2 U3 σ3 H3 (ev2.trans e3) s3
    | rt d => exact h2
  · rintro n γ σ H2 ⟨w, hle, s', q'⟩ ⟨⟨a, ho⟩, hn, w2, f2⟩
    rw [show m.out.drop (N - n) = [] from List.drop_eq_nil_of_le (by omega)] at q'
    change Al _ _ (bd (endY lst m) _) γ.2.2 at q'
    have e2 : endY lst m = .ok () := by unfold endY; rw [ho]
    rw [e2] at q'
    exact q' γ.1 σ H2 (s'.uok.ev f2) (s'.fr f2 w2)
theorem ss_forQ {tq : TQG} {gt : TG} {mg : Tr (GT Unit)} {f : D → W' → Tr (Fl W' W')} {w0 : W'} {k : W' → Tr (Fl W L)} (env' : W' → Env) (lst : List Str) (hlst : ∀ c ∈ lst, PySem.W.subIn g.K (.ref (gd c g.K)) (.type "StopIteration") = some false) (hg : SGen g E (nsE g.K E) ε tq mg) (l : Le (env' w0) ε) (hb : ∀ d w, SX g E (env' w) d gt tb env' env' (f d w)) (hk : ∀ w, SS g E (env' w) u env envL (k w)) :
    SS g E ε (tSeq (tForQ tq gt tb) u) env envL (bdF (bd mg fun m => forYF f (endY lst m) m.out w0) k) := (ss_forQ0 lst hlst hg l hb).seq hk
end
end Gp
end
section
set_option Elab.async false
set_option linter.all false
set_option maxRecDepth 100000
set_option maxHeartbeats 4000000
namespace Gp
open PySem PySem.Spec PyProof.Rows L2 Gh Gz
def PromQ (P : Program) (w : World) (K : PySem.W.Frag) (mg : Str → Option Value) (base : Heap) (k : Nat) (f : Addr) (n : Nat) (dvs : List V) (sp : List V → Hp → XK → SpQ) : Prop := ∃ (fd : FuncData) (ps : List Str) (ds : List Value), ps.length = n ∧ QFn P w K mg base k f fd ps sp ∧ Binds K fd ps ds ∧ Vals dvs ds
theorem hxe_cx {P : Program} {w : World} {K : PySem.W.Frag} {mg : Str → Option Value} {base : Heap} {N : List Str} {qual : Str} {scope : Scope} {f : Addr} {cd : Value} {A : Around} {outer : List PySem.Env} {s : Shared} {H : Hp} {E : XK} :
    ∀ (s1 s2 : Shared) (e : Value), AllB s1.gens → Held (sleepers s1.gens) s2.gens → (cxOf (L2.CX P w) P w K mg base N qual scope f cd A outer s H E).xe e s2 → (cxOf (L2.CX P w) P w K mg base N qual scope f cd A outer s H E).xe e (up (sleepers s1.gens) s2) := by
  intro s1 s2 e hb hd hx
  have cx : ∀ (e : Value) (s3 : Shared), Held (sleepers s1.gens) s3.gens → L2.CX P w outer H s E e s3 → L2.CX P w outer H s E e (up (sleepers s1.gens) s3) := fun e s3 h3 ⟨a, B, H', cls, d, z1, z2, z3, z4, z5, z6, z7, z8⟩ => ⟨a, B, H', cls, d, z1, z2, z3, z4, z5, z6, (kept_of h3).bare hb z7, z8⟩
  exact upW hd hx (fun _ s3 h3 q => cx e s3 h3 q) (fun e' s3 h3 q => cx e' s3 h3 q)
section
variable {X : Cx} {k n : Nat} {f C : Addr} {sp : List V → Hp → XK → SpQ} {dvs : List V} {x m : Str} {p pos pos' apos : Pos} {o : Expr} {ta : TE} {E : XK}
theorem pq_c {e : Expr} {es : List Expr} {t : TA} (F : PromQ X.prog X.w X.K X.mg X.base k f n dvs sp) (hr : Room k X.A) (hg : Gl X x) (hm : X.mg x = some (.ref f)) (hk : PySem.W.keepIn X.K (.ref f) = true)
    (ha : PA X (e :: es) t) (hdb : (x == ("__debug__" : Str)) = false := by decide) (he : starEach (e :: es) X.env = (false, eval e X.env) :: starEach es X.env := by rfl) (hpl : (backTo pos' (starEach es X.env)).any (·.1) = false := by rfl) :
    PQ X k (.Call (.Name x p) (e :: es) [] pos') (tCallQ sp n dvs E t) E := by
  obtain ⟨fd, ps, ds, rfl, G, hb, hd⟩ := F
  exact pq_call G hr hg hm hk hb hd ha hdb he hpl
theorem ps_forY {tg iter : Expr} {body : List Stmt} {tq : TQG} {gt : TG} {tb : TS} (hp : PassesOwn (model X.prog X.w) X.A X.env X.xe) (hc : X.calm = true) (hpas : Passes (L2.CX X.prog X.w) X E) (hr : Room (k + 3) X.A)
    (hxe : ∀ (s s2 : Shared) (e : Value), AllB s.gens → Held (sleepers s.gens) s2.gens → X.xe e s2 → X.xe e (up (sleepers s.gens) s2))
    {K : PySem.W.Frag} (hK : X.K = K) (hq : PQ X k iter tq (nsE K E)) (hg : PG X tg gt) (hb : PSs X body tb) (hs : ∀ x, foldedSetIterable iter X.env x = pure x := by intro _; rfl) : PS X (.For tg iter body [] pos) (tForQ tq gt tb) := by
  subst hK
  exact ps_forQ hp hc (pass_ns hpas) noStop_ns hr hxe hq hg hb hs
end
end Gp
end
section
set_option Elab.async false
set_option linter.all false
set_option maxRecDepth 100000
set_option maxHeartbeats 4000000
namespace Gp
open PySem PySem.Spec PyProof.Rows L2 Gh Gz
section
variable {g : Gw} {E E' : XK} {W W' L : Type} {ε : Env} {env : W → Env} {envL : L → Env} {u tb : TS} {t : TA} {mt : Tr (List D)} {tx : TE} {ma : Tr D}
theorem ss_forQn0 {tq : TQG} {gt : TG} {mg : Tr (GT Unit)} {f : D → W → Tr (Fl W W)} {w0 : W} (hg : SGen g E E' ε tq mg) (l : Le (env w0) ε) (hb : ∀ d w, SX g E (env w) d gt tb env env (f d w)) : SS g E ε (tForQ tq gt tb) env envL (bd mg fun m => forYF f (endY [] m) m.out w0) := fun Mt U0 H0 U D σ H b s q => by
  refine hg U σ H b _ s.rel s.wd s.uok ((al_bd.mp q).mono (fun m b1 h1 sp H1 hsp w1 u1 f1 => ?_) (fun _ _ _ h => exS.exP s h))
  have s1 := s.fr f1 w1
  -- how many may be taken
  obtain ⟨N, hN, hend, hNL⟩ : ∃ N, m.out.length ≤ N + 1 ∧ ((m.out = [] ∨ m.out.length < N + 1) → endOk g U H1 E' b1 m) ∧ ((N = m.out.length) ∨ (N + 1 = m.out.length ∧ endY [] m = .bad)) := by
    by_cases hb0 : endY [] m = .bad
    · by_cases he : m.out = []
      · rw [he] at h1
        change Al _ _ (bd (endY [] m) _) b1 at h1
        rw [hb0] at h1
        exact h1.elim
      · have hp : 0 < m.out.length := List.length_pos_iff.mpr he
        exact ⟨m.out.length - 1, by omega, fun z => z.elim (fun z => absurd z he) (fun z => by omega), .inr ⟨by omega, hb0⟩⟩
    · refine ⟨m.out.length, by omega, fun _ => ?_, .inl rfl⟩
      unfold endOk
      cases e : m.res with
      | ok a => trivial
      | ex c fs =>
        exact absurd (by unfold endY; rw [e]; dsimp only; rw [if_neg (by rw [Bool.and_eq_true]; rintro ⟨_, z⟩; cases z)]) hb0
      | bad => exact absurd (by unfold endY; rw [e]) hb0
      | draw _ _ => exact absurd (by unfold endY; rw [e]) hb0
  let T := CT
  let P : Pro T := conP g m N
  let Y : PY g m.out (N + 1) (wrapP P) := PY.mk (fun γ => γ.1.1) (fun γ => γ.1.2.2) (∃ u, m.res = .ok u)
    (fun n γ x H2 d hn e dn w f => ⟨d, (by rw [show N - n = N + 1 - (n + 1) by omega]; exact e), (by omega), dn, w, f⟩) (fun n γ H2 γ' h => h) (fun n γ H2 ho hn w f => ⟨ho, hn, w, f⟩)
  refine ⟨T, P, N, (U, H1, b1), fun n γ σ => ∃ w, n ≤ N ∧ Stt g Mt U0 H0 γ.1 σ γ.2.1 γ.2.2 (env w) ∧ Al (flP g Mt U0 H0 γ.1 γ.2.1 D env envL) (exS g Mt U0 H0 E) (forYF f (endY [] m) (m.out.drop (N - n)) w) γ.2.2, rfl,
    fun o => hsp _ (wrapP P) (N + 1) ((U, H1, b1), o) Y rfl rfl rfl hN (fun z => z) hend, ⟨w0, Nat.le_refl _, s1.le l, ?_⟩, ?_, ?_⟩
  · rw [Nat.sub_self, List.drop_zero]
    exact Al.mono (fun _ _ z => z.ev (s.uok.ev f1)) (fun _ _ _ z => z) h1
  · rintro n γ σ x H2 ⟨w, hle, s', q'⟩ ⟨d, hd, _, dn, w2, f2⟩
    have s2 := s'.fr f2 w2
    have ev2 := s'.uok.ev f2
    have hlt : N - n < m.out.length := (List.getElem?_eq_some_iff.mp hd).1
    have hcons : m.out.drop (N - n) = d :: m.out.drop (N - n + 1) := by
      rw [List.drop_eq_getElem_cons hlt]
      congr 1
      exact (List.getElem?_eq_some_iff.mp hd).2
    rw [hcons] at q'
    have more : ∀ {w' : W} {b2 : Nat}, Al (flP g Mt U0 H0 γ.1 γ.2.1 D env envL) (exS g Mt U0 H0 E) (forYF f (endY [] m) (m.out.drop (N - n + 1)) w') b2 → ∀ U3 σ3 H3, Ev γ.1 H2 U3 H3 → Stt g Mt U0 H0 U3 σ3 H3 b2 (env w') →
        ∃ k γ', n = k + 1 ∧ P.hp γ' = H3 ∧ P.lk n γ H2 γ' ∧ ∃ w, k ≤ N ∧ Stt g Mt U0 H0 γ'.1 σ3 γ'.2.1 γ'.2.2 (env w) ∧ Al (flP g Mt U0 H0 γ'.1 γ'.2.1 D env envL) (exS g Mt U0 H0 E) (forYF f (endY [] m) (m.out.drop (N - k)) w) γ'.2.2 := fun {w' b2} h2 U3 σ3 H3 e3 s3 => by
      have hpos : 0 < n := by
        rcases Nat.eq_zero_or_pos n with z | z
        · exfalso
          rcases hNL with z1 | ⟨z1, z2⟩
          · omega
          · rw [show m.out.drop (N - n + 1) = [] from List.drop_eq_nil_of_le (by omega)] at h2
            change Al _ _ (bd (endY [] m) _) b2 at h2
            rw [z2] at h2
            exact h2
        · exact z
      refine ⟨n - 1, (U3, H3, b2), by omega, rfl, ⟨hpos, e3, s3.uok, s3.wd⟩, w', by omega, s3, ?_⟩
      rw [show N - (n - 1) = N - n + 1 by omega]
      exact Al.mono (fun _ _ z => z.ev (ev2.trans e3)) (fun _ _ _ z => z) h2
    refine hb d w Mt U0 H0 γ.1 _ σ H2 γ.2.2 x s2 dn ((al_bd.mp q').mono (fun r b2 h2 => ?_) (fun _ _ _ z => z))
    cases r with
    | nx w' => exact fun U3 σ3 H3 e3 s3 => more h2 U3 σ3 H3 e3 s3
    | ct w' => exact fun U3 σ3 H3 e3 s3 => more h2 U3 σ3 H3 e3 s3
    | bk w' => exact fun U3 σ3 H3 e3 s3 => h2 U3 σ3 H3 (ev2.trans e3) s3
    | rt d => exact h2
  · rintro n γ σ H2 ⟨w, hle, s', q'⟩ ⟨⟨a, ho⟩, hn, w2, f2⟩
    rw [show m.out.drop (N - n) = [] from List.drop_eq_nil_of_le (by omega)] at q'
    change Al _ _ (bd (endY [] m) _) γ.2.2 at q'
    have e2 : endY [] m = .ok () := by unfold endY; rw [ho]
    rw [e2] at q'
    exact q' γ.1 σ H2 (s'.uok.ev f2) (s'.fr f2 w2)
theorem ss_forQn {tq : TQG} {gt : TG} {mg : Tr (GT Unit)} {f : D → W' → Tr (Fl W' W')} {w0 : W'} {k : W' → Tr (Fl W L)} (env' : W' → Env) (hg : SGen g E E' ε tq mg) (l : Le (env' w0) ε) (hb : ∀ d w, SX g E (env' w) d gt tb env' env' (f d w)) (hk : ∀ w, SS g E (env' w) u env envL (k w)) :
    SS g E ε (tSeq (tForQ tq gt tb) u) env envL (bdF (bd mg fun m => forYF f (endY [] m) m.out w0) k) := (ss_forQn0 hg l hb).seq hk
end
end Gp
end
section
set_option Elab.async false
set_option linter.all false
set_option maxRecDepth 100000
set_option maxHeartbeats 4000000
namespace Gp
open PySem PySem.Spec PyProof.Rows L2 Gh Gz
@[irreducible] def rShowE (K : PySem.W.Frag) : List V → Hp → VK → Prop := fun xs H Q => rShow K xs H Q ∨ ∃ a, xs = [.ref a] ∧ H a = some (.dK []) ∧ Q (.str "{}") H
section
variable {X : Cx} {K : PySem.W.Frag}
theorem call_showE (hK : X.K = K) (hu : X.A.units + 102 < cLine) (hg : X.A.guards = some []) : CallR X (.builtin "repr") (rShowE K) := by
  intro pins s σ H xs us Q I r h
  unfold rShowE at h
  rcases h with h | ⟨a, rfl, ha, q⟩
  · exact call_show hK hu hg pins s σ H xs us Q I r h
  · obtain ⟨u, rfl, ru⟩ := vals1 r
    cases (show u = Value.ref a from ru)
    obtain ⟨_, sm, vs, kv, o, es, ep, ho, hc, hd, _, hp, _⟩ := dk_of I.hok ha
    have e0 : vs = [] := by
      have := kv.length
      cases vs with
      | nil => rfl
      | cons x r => simp at this
    subst e0
    have e1 : es.toList = [] := by
      have := hp.length
      cases h : es.toList with
      | nil => rfl
      | cons x r => rw [h] at this; simp at this
    have rd : Reads s.heap (.ref a) (.dict []) [a] := .dict (as := []) (bs := []) ho hc.1 hd (by rw [e1]; exact .nil) (by rw [e1]; exact .nil)
    exact repr_of_reads' rd rfl (fun _ z => by
      rw [List.mem_singleton.mp z] at sm
      simp at sm) hg (by show X.A.units + (_ + 1) < cLine; exact Nat.lt_of_le_of_lt (Nat.add_le_add_left (by decide) _) hu) (fun _ _ e => e) (fun h' u tk k => ⟨.str "{}", H, I.kept k, ⟨u, rfl⟩, q⟩)
end
def reprE : D → Tr D
  | .dct => .ok (.str "{}")
  | d => reprD d
section
variable {g : Gw} {E : XK}
theorem srl_reprE : SRL g E (rShowE g.K) (ul1 reprE) := fun U H b xs dxs Q dn w u q => by
  obtain ⟨x, rfl, q1⟩ := al_ul1 q
  unfold rShowE
  by_cases hx : x = .dct
  · subst hx
    obtain ⟨v, rfl, d1⟩ := denL_1 dn
    cases d1 with
    | dct ha na => exact .inr ⟨_, rfl, ha, okP.here q1 w (.str _ (by decide))⟩
  · have e : reprE x = reprD x := by
      unfold reprE
      split
      · exact absurd rfl hx
      · rfl
    rw [e] at q1
    exact .inl (srl_repr U H b xs [x] Q dn w u q1)
end
end Gp
end
section
set_option Elab.async false
set_option linter.all false
set_option maxRecDepth 100000
set_option maxHeartbeats 4000000
namespace Gp
open PySem PySem.Spec PyProof.Rows L2 Gh Gz
theorem takesG {P : Program} {w : World} {K : PySem.W.Frag} {mg : Str → Option Value} {base : Heap} {N : List Str} {qual : Str} {scope : Scope} {f : Addr} {cd : Value} {A : Around} {outer : List PySem.Env} {s : Shared} {H : Hp} {E : XK} {pn : List (Addr × Obj)} :
    Takes (gcxOf P w K mg base N qual scope f cd A outer s H E pn) (fun cls d _ H => E cls d H) :=
  fun u s' x => XE.leaveG (X := gcxOf P w K mg base N qual scope f cd A outer s H E pn) (W := fun cls d _ H => E cls d H) (E := E) rfl rfl rfl (fun _ _ _ _ h => h) x
def iaddD (x y : D) : Tr D := match x, y with
  | .int i, .int j => .ok (.int (i + j))
  | _, _ => .bad
section
variable {W L : Type} {g : Gw} {E : XK} {ε : Env} {u : TS} {env : W → Env} {envL : L → Env} {te : TE} {me : Tr D}
theorem sr_ipadd : SR2 g E (ipI fun i j => i + j) iaddD := fun U H b x y dx dy Q d1 d2 w u q => by
  unfold iaddD at q
  split at q
  · rename_i i j
    cases den_int d1
    cases den_int d2
    exact ⟨i, j, rfl, rfl, okP.here q w (.int _)⟩
  · exact q.elim
theorem ss_augadd {i : Nat} {d : D} {k : D → Tr (Fl W L)} (h : SE g E ε te me) (hk : ∀ d, SS g E (ε.set i (.fz d)) u env envL (k d)) (hx : ε[i]? = some (.fz d) := by rfl) :
    SS g E ε (tSeq (tAug i te (ipI fun i j => i + j)) u) env envL (bd (bd me fun y => iaddD d y) k) := ss_augN (se_op sr_ipadd (se_var hx) h) hk
end
end Gp
end
section
set_option Elab.async false
set_option linter.all false
set_option maxRecDepth 100000
set_option maxHeartbeats 0
namespace Lw
open PySem PySem.Spec PyProof.Rows L2 Gh Gp
theorem ob_eq (s : PySem.W.SharedT) : ob s = hk.obs s.abs := Gp.obsL_eq (HandSHeadRun.getT_eq s)
structure Tx (K : PySem.W.Frag) (mg : Str → Option Value) : Prop where
  f_abs : mg "abs" = none
  f_bool : mg "bool" = none
  f_int : mg "int" = none
  f_isinstance : mg "isinstance" = none
  f_len : mg "len" = none
  f_list : mg "list" = none
  f_range : mg "range" = none
  f_repr : mg "repr" = none
  g__law_pen : mg "_law_pen" = some (.ref (gd "_law_pen" K))
  k__law_pen : PySem.W.keepIn K (.ref (gd "_law_pen" K)) = true
  g__law_draw : mg "_law_draw" = some (.ref (gd "_law_draw" K))
  k__law_draw : PySem.W.keepIn K (.ref (gd "_law_draw" K)) = true
  g_is_integer : mg "is_integer" = some (.ref (gd "is_integer" K))
  k_is_integer : PySem.W.keepIn K (.ref (gd "is_integer" K)) = true
  g_is_within : mg "is_within" = some (.ref (gd "is_within" K))
  k_is_within : PySem.W.keepIn K (.ref (gd "is_within" K)) = true
  g_is_length : mg "is_length" = some (.ref (gd "is_length" K))
  k_is_length : PySem.W.keepIn K (.ref (gd "is_length" K)) = true
  g_is_rest : mg "is_rest" = some (.ref (gd "is_rest" K))
  k_is_rest : PySem.W.keepIn K (.ref (gd "is_rest" K)) = true
  g_need_length : mg "need_length" = some (.ref (gd "need_length" K))
  k_need_length : PySem.W.keepIn K (.ref (gd "need_length" K)) = true
  g_need_rest : mg "need_rest" = some (.ref (gd "need_rest" K))
  k_need_rest : PySem.W.keepIn K (.ref (gd "need_rest" K)) = true
  g_rest_of : mg "rest_of" = some (.ref (gd "rest_of" K))
  k_rest_of : PySem.W.keepIn K (.ref (gd "rest_of" K)) = true
  g_first_of : mg "first_of" = some (.ref (gd "first_of" K))
  k_first_of : PySem.W.keepIn K (.ref (gd "first_of" K)) = true
  g_lengths_of : mg "lengths_of" = some (.ref (gd "lengths_of" K))
  k_lengths_of : PySem.W.keepIn K (.ref (gd "lengths_of" K)) = true
  g__law_pick : mg "_law_pick" = some (.ref (gd "_law_pick" K))
  k__law_pick : PySem.W.keepIn K (.ref (gd "_law_pick" K)) = true
  g__law_first : mg "_law_first" = some (.ref (gd "_law_first" K))
  k__law_first : PySem.W.keepIn K (.ref (gd "_law_first" K)) = true
  g__law_heard : mg "_law_heard" = some (.ref (gd "_law_heard" K))
  k__law_heard : PySem.W.keepIn K (.ref (gd "_law_heard" K)) = true
  g__law_plain : mg "_law_plain" = some (.ref (gd "_law_plain" K))
  k__law_plain : PySem.W.keepIn K (.ref (gd "_law_plain" K)) = true
  g_BadLength : mg "BadLength" = some (.ref (gd "BadLength" K))
  k_BadLength : PySem.W.keepIn K (.ref (gd "BadLength" K)) = true
  g_BadRest : mg "BadRest" = some (.ref (gd "BadRest" K))
  k_BadRest : PySem.W.keepIn K (.ref (gd "BadRest" K)) = true
  g_BadNumber : mg "BadNumber" = some (.ref (gd "BadNumber" K))
  k_BadNumber : PySem.W.keepIn K (.ref (gd "BadNumber" K)) = true
  g_HuntError : mg "HuntError" = some (.ref (gd "HuntError" K))
  k_HuntError : PySem.W.keepIn K (.ref (gd "HuntError" K)) = true
  m_CLASSES : ∃ t, mg "CLASSES" = some (.int 4 t)
  m_GREATEST_LENGTH : ∃ t, mg "GREATEST_LENGTH" = some (.int 10000000000000000000000000000000000000000 t)
  n_BadLength_value : NoAttr K (gd "BadLength" K) "value"
  er_BadLength : ErrT K (gd "BadLength" K)
  ox_BadLength : OexC K (gd "BadLength" K)
  in_BadLength : IniT K (gd "BadLength" K) (md "BadLength" "__init__" K)
  xh_BadLength : PySem.W.exmOne K (.ref (gd "BadLength" K)) (.ref (gd "HuntError" K)) = some true
  n_BadRest_value : NoAttr K (gd "BadRest" K) "value"
  er_BadRest : ErrT K (gd "BadRest" K)
  ox_BadRest : OexC K (gd "BadRest" K)
  in_BadRest : IniT K (gd "BadRest" K) (md "BadRest" "__init__" K)
  xh_BadRest : PySem.W.exmOne K (.ref (gd "BadRest" K)) (.ref (gd "HuntError" K)) = some true
  n_BadNumber_value : NoAttr K (gd "BadNumber" K) "value"
  er_BadNumber : ErrT K (gd "BadNumber" K)
  ox_BadNumber : OexC K (gd "BadNumber" K)
  in_BadNumber : IniT K (gd "BadNumber" K) (md "BadNumber" "__init__" K)
  xh_BadNumber : PySem.W.exmOne K (.ref (gd "BadNumber" K)) (.ref (gd "HuntError" K)) = some true
  ns_BadNumber : PySem.W.subIn K (.ref (gd "BadNumber" K)) (.type "StopIteration") = some false
  ns_BadRest : PySem.W.subIn K (.ref (gd "BadRest" K)) (.type "StopIteration") = some false
  ki_BadLength_BadLength : PySem.W.kitOne K (.ref (gd "BadLength" K)) (.ref (gd "BadLength" K)) = some true
  ki_BadRest_BadLength : PySem.W.kitOne K (.ref (gd "BadRest" K)) (.ref (gd "BadLength" K)) = some false
  ki_BadNumber_BadLength : PySem.W.kitOne K (.ref (gd "BadNumber" K)) (.ref (gd "BadLength" K)) = some false
  ki_BadLength_BadRest : PySem.W.kitOne K (.ref (gd "BadLength" K)) (.ref (gd "BadRest" K)) = some false
  ki_BadRest_BadRest : PySem.W.kitOne K (.ref (gd "BadRest" K)) (.ref (gd "BadRest" K)) = some true
  ki_BadNumber_BadRest : PySem.W.kitOne K (.ref (gd "BadNumber" K)) (.ref (gd "BadRest" K)) = some false
  ki_BadLength_BadNumber : PySem.W.kitOne K (.ref (gd "BadLength" K)) (.ref (gd "BadNumber" K)) = some false
  ki_BadRest_BadNumber : PySem.W.kitOne K (.ref (gd "BadRest" K)) (.ref (gd "BadNumber" K)) = some false
  ki_BadNumber_BadNumber : PySem.W.kitOne K (.ref (gd "BadNumber" K)) (.ref (gd "BadNumber" K)) = some true
theorem tx_of {K : PySem.W.Frag} {h : Heap} {mg : Str → Option Value} (X : K.In h) (G : h.Ns mainGlobals mg) (c : Says exs fns K) : Tx K mg :=
  ⟨(He.free_ok X G (c.fact 0 rfl)), (He.free_ok X G (c.fact 1 rfl)), (He.free_ok X G (c.fact 2 rfl)), (He.free_ok X G (c.fact 3 rfl)), (He.free_ok X G (c.fact 4 rfl)), (He.free_ok X G (c.fact 5 rfl)), (He.free_ok X G (c.fact 6 rfl)), (He.free_ok X G (c.fact 7 rfl)), (He.glo_ok X G (c.fact 8 rfl)), ((c.fact 9 rfl)), (He.glo_ok X G (c.fact 10 rfl)), ((c.fact 11 rfl)), (He.glo_ok X G (c.fact 12 rfl)), ((c.fact 13 rfl)), (He.glo_ok X G (c.fact 14 rfl)), ((c.fact 15 rfl)), (He.glo_ok X G (c.fact 16 rfl)), ((c.fact 17 rfl)), (He.glo_ok X G (c.fact 18 rfl)), ((c.fact 19 rfl)), (He.glo_ok X G (c.fact 20 rfl)), ((c.fact 21 rfl)), (He.glo_ok X G (c.fact 22 rfl)), ((c.fact 23 rfl)), (He.glo_ok X G (c.fact 24 rfl)), ((c.fact 25 rfl)), (He.glo_ok X G (c.fact 26 rfl)), ((c.fact 27 rfl)), (He.glo_ok X G (c.fact 28 rfl)), ((c.fact 29 rfl)), (He.glo_ok X G (c.fact 30 rfl)), ((c.fact 31 rfl)), (He.glo_ok X G (c.fact 32 rfl)), ((c.fact 33 rfl)), (He.glo_ok X G (c.fact 34 rfl)), ((c.fact 35 rfl)), (He.glo_ok X G (c.fact 36 rfl)), ((c.fact 37 rfl)), (He.glo_ok X G (c.fact 38 rfl)), ((c.fact 39 rfl)), (He.glo_ok X G (c.fact 40 rfl)), ((c.fact 41 rfl)), (He.glo_ok X G (c.fact 42 rfl)), ((c.fact 43 rfl)), (He.glo_ok X G (c.fact 44 rfl)), ((c.fact 45 rfl)), (He.int_ok X G (c.fact 46 rfl)), (He.int_ok X G (c.fact 47 rfl)), (He.eqO_ok (c.fact 48 rfl)), (errB_ok (c.fact 49 rfl)), (oexB_ok (c.fact 50 rfl)), (iniB_ok (c.fact 51 rfl)), (of_decide_eq_true (c.fact 52 rfl)), (He.eqO_ok (c.fact 53 rfl)), (errB_ok (c.fact 54 rfl)), (oexB_ok (c.fact 55 rfl)), (iniB_ok (c.fact 56 rfl)), (of_decide_eq_true (c.fact 57 rfl)), (He.eqO_ok (c.fact 58 rfl)), (errB_ok (c.fact 59 rfl)), (oexB_ok (c.fact 60 rfl)), (iniB_ok (c.fact 61 rfl)), (of_decide_eq_true (c.fact 62 rfl)), (of_decide_eq_true (c.fact 63 rfl)), (of_decide_eq_true (c.fact 64 rfl)), (of_decide_eq_true (c.fact 65 rfl)), (of_decide_eq_true (c.fact 66 rfl)), (of_decide_eq_true (c.fact 67 rfl)), (of_decide_eq_true (c.fact 68 rfl)), (of_decide_eq_true (c.fact 69 rfl)), (of_decide_eq_true (c.fact 70 rfl)), (of_decide_eq_true (c.fact 71 rfl)), (of_decide_eq_true (c.fact 72 rfl)), (of_decide_eq_true (c.fact 73 rfl))⟩
section
variable {K : PySem.W.Frag} {mg : Str → Option Value} {Tb : List (Addr × Str)} {p c : Addr}
theorem xt_value (T : Tx K mg) : ∀ c ∈ (["BadLength", "BadRest", "BadNumber"] : List Str), ErrT K (gd c K) ∧ PySem.W.findIn K (.ref (gd c K)) "value" = some none := by
  intro c h
  simp only [List.mem_cons, List.mem_nil_iff, or_false] at h
  rcases h with rfl | rfl | rfl
  · exact ⟨T.er_BadLength, T.n_BadLength_value⟩
  · exact ⟨T.er_BadRest, T.n_BadRest_value⟩
  · exact ⟨T.er_BadNumber, T.n_BadNumber_value⟩
def isi_int : D → Option Bool := isF (fun n => kitB n "int") [] []
theorem isT_int (T : Tx K mg) : IsT ⟨K, Tb, p, c⟩ (.type "int") isi_int := isT_of (fun n k h => kit_ty h) (fun c k h => nomatch h) (fun c k h => nomatch h)
def isi_bool : D → Option Bool := isF (fun n => kitB n "bool") [] []
theorem isT_bool (T : Tx K mg) : IsT ⟨K, Tb, p, c⟩ (.type "bool") isi_bool := isT_of (fun n k h => kit_ty h) (fun c k h => nomatch h) (fun c k h => nomatch h)
def isi_BadLength : D → Option Bool := isF (fun _ => none) [] [("BadLength", true), ("BadRest", false), ("BadNumber", false)]
theorem isT_BadLength (T : Tx K mg) : IsT ⟨K, Tb, p, c⟩ (.ref (gd "BadLength" K)) isi_BadLength := isT_of (fun n k h => nomatch h) (fun c k h => nomatch h) (fun c k h => (look_cons h).elim (fun e => by obtain ⟨rfl, rfl⟩ := e; exact ⟨T.er_BadLength, T.ki_BadLength_BadLength⟩) (fun h => (look_cons h).elim (fun e => by obtain ⟨rfl, rfl⟩ := e; exact ⟨T.er_BadRest, T.ki_BadRest_BadLength⟩) (fun h => (look_cons h).elim (fun e => by obtain ⟨rfl, rfl⟩ := e; exact ⟨T.er_BadNumber, T.ki_BadNumber_BadLength⟩) (fun h => nomatch h))))
def isi_BadRest : D → Option Bool := isF (fun _ => none) [] [("BadLength", false), ("BadRest", true), ("BadNumber", false)]
theorem isT_BadRest (T : Tx K mg) : IsT ⟨K, Tb, p, c⟩ (.ref (gd "BadRest" K)) isi_BadRest := isT_of (fun n k h => nomatch h) (fun c k h => nomatch h) (fun c k h => (look_cons h).elim (fun e => by obtain ⟨rfl, rfl⟩ := e; exact ⟨T.er_BadLength, T.ki_BadLength_BadRest⟩) (fun h => (look_cons h).elim (fun e => by obtain ⟨rfl, rfl⟩ := e; exact ⟨T.er_BadRest, T.ki_BadRest_BadRest⟩) (fun h => (look_cons h).elim (fun e => by obtain ⟨rfl, rfl⟩ := e; exact ⟨T.er_BadNumber, T.ki_BadNumber_BadRest⟩) (fun h => nomatch h))))
def isi_BadNumber : D → Option Bool := isF (fun _ => none) [] [("BadLength", false), ("BadRest", false), ("BadNumber", true)]
theorem isT_BadNumber (T : Tx K mg) : IsT ⟨K, Tb, p, c⟩ (.ref (gd "BadNumber" K)) isi_BadNumber := isT_of (fun n k h => nomatch h) (fun c k h => nomatch h) (fun c k h => (look_cons h).elim (fun e => by obtain ⟨rfl, rfl⟩ := e; exact ⟨T.er_BadLength, T.ki_BadLength_BadNumber⟩) (fun h => (look_cons h).elim (fun e => by obtain ⟨rfl, rfl⟩ := e; exact ⟨T.er_BadRest, T.ki_BadRest_BadNumber⟩) (fun h => (look_cons h).elim (fun e => by obtain ⟨rfl, rfl⟩ := e; exact ⟨T.er_BadNumber, T.ki_BadNumber_BadNumber⟩) (fun h => nomatch h))))
end
end Lw
end
section
set_option Elab.async false
set_option linter.all false
set_option maxRecDepth 100000
set_option maxHeartbeats 4000000
set_option pp.maxSteps 600
namespace Lw
open PySem PySem.Spec PyProof.Rows L2 Gh
local macro_rules | `(tactic| nofun) => `(tactic| (first | assumption | exact Ne.symm (by assumption) | (apply nw_pen'; (· assumption); (· assumption); (· ac_rfl)) | (apply Ne.symm; apply nw_pen'; (· assumption); (· assumption); (· ac_rfl)) | (apply nw_cell'; (· assumption); (· assumption); (· ac_rfl)) | (apply Ne.symm; apply nw_cell'; (· assumption); (· assumption); (· ac_rfl)) | (apply none_pen'; (· assumption); (· assumption); (· ac_rfl)) | (apply Ne.symm; apply none_pen'; (· assumption); (· assumption); (· ac_rfl)) | (apply none_cell'; (· assumption); (· assumption); (· ac_rfl)) | (apply Ne.symm; apply none_cell'; (· assumption); (· assumption); (· ac_rfl)) | (apply tup_pen'; (· assumption); (· assumption); (· ac_rfl)) | (apply Ne.symm; apply tup_pen'; (· assumption); (· assumption); (· ac_rfl)) | (apply tup_cell'; (· assumption); (· assumption); (· ac_rfl)) | (apply Ne.symm; apply tup_cell'; (· assumption); (· assumption); (· ac_rfl)) | (apply ins_pen'; (· assumption); (· assumption); (· ac_rfl)) | (apply Ne.symm; apply ins_pen'; (· assumption); (· assumption); (· ac_rfl)) | (apply ins_cell'; (· assumption); (· assumption); (· ac_rfl)) | (apply Ne.symm; apply ins_cell'; (· assumption); (· assumption); (· ac_rfl)) | (apply ins_lst; (· assumption); (· infer_instance)) | (apply Ne.symm; apply ins_lst; (· assumption); (· infer_instance)) | (apply ins_tup; (· assumption); (· infer_instance)) | (apply Ne.symm; apply ins_tup; (· assumption); (· infer_instance)) | (apply tup_lst; (· assumption); (· infer_instance)) | (apply Ne.symm; apply tup_lst; (· assumption); (· infer_instance)) | (apply nw_ne; (· assumption); (· infer_instance)) | (apply Ne.symm; apply nw_ne; (· assumption); (· infer_instance)) | (apply none_ne; (· assumption); (· infer_instance)) | (apply Ne.symm; apply none_ne; (· assumption); (· infer_instance))))
local macro_rules | `(tactic| ac_rfl) => `(tactic| ((repeat (first | assumption | (apply Pen.nw; (focus assumption)) | (apply Pen.same; (focus assumption)) | (apply Pen.mu; (focus assumption); (focus nofun); (focus nofun)) | (apply Pen.keep; (focus assumption); (focus nofun); (focus nofun)))); done))
local macro_rules | `(tactic| infer_instance) => `(tactic| ((repeat (first | assumption | (apply Nw.at_; assumption) | (apply Mu.at_; assumption) | (apply Nw.up; (focus assumption)) | (apply same_up; (focus assumption)) | (apply Mu.up; (focus assumption); (focus nofun)) | (apply keep_up; (focus assumption); (focus nofun)) | (apply keep2_up; (focus assumption); (focus nofun); (focus nofun)))); done))
local macro_rules | `(tactic| symm_saturate) => `(tactic| (repeat (first | with_reducible refine st_seq ?_ | with_reducible refine st_asg ?_ | with_reducible refine st_name ?_ | with_reducible refine st_ret ?_ | with_reducible refine st_drop ?_ | with_reducible refine st_ifS ?_ | with_reducible refine st_nx ?_ | with_reducible refine st_brk ?_ | with_reducible refine st_cnt ?_ | with_reducible refine st_c ?_ | with_reducible refine st_op ?_ | with_reducible refine st_un ?_ | with_reducible refine st_rI0 ?_ | with_reducible refine st_cons ?_ | with_reducible refine st_nil ?_ | with_reducible refine st_cl ?_ | with_reducible refine st_cb ?_ | with_reducible refine st_mt ?_ | with_reducible refine st_pr ?_ | with_reducible refine st_test ?_ | with_reducible refine st_ebl ?_ | with_reducible refine st_eint ?_ | with_reducible refine st_par ?_ | with_reducible refine st_par2 ?_ | with_reducible refine st_and ?_ | with_reducible refine st_or ?_ | with_reducible refine st_not ?_ | with_reducible refine st_andV ?_ | with_reducible refine st_orV ?_ | with_reducible refine st_notV ?_ | with_reducible refine st_ifE ?_ | with_reducible refine st_chain ?_ | with_reducible refine st_lst ?_ | with_reducible refine st_tup ?_ | with_reducible refine st_retN ?_ | with_reducible refine st_rU ?_ | with_reducible refine st_rAdd ?_ | with_reducible refine st_rSub ?_ | with_reducible refine st_isN ?_ | with_reducible refine st_notN ?_ | with_reducible refine st_sF ?_ | with_reducible refine st_int ?_ | with_reducible refine st_intB ?_ | with_reducible refine st_abs ?_ | with_reducible refine st_sl ?_ | with_reducible refine st_part ?_ | with_reducible refine st_nopart ?_ | with_reducible refine st_bm ?_ | with_reducible refine st_bm0 ?_ | with_reducible refine st_tyS ?_ | with_reducible refine st_gsub ?_ | with_reducible refine st_gcons ?_ | with_reducible refine st_gnil ?_ | with_reducible refine st_chain3 ?_ | with_reducible refine st_gsl ?_ | with_reducible refine st_clK ?_ | with_reducible refine st_mtK ?_ | with_reducible refine st_lcR1 ?_ | with_reducible refine st_lcR2 ?_ | with_reducible refine st_lcL ?_ | with_reducible refine st_lcT ?_ | with_reducible refine st_yes ?_ | with_reducible refine st_forR1 ?_ | with_reducible refine st_forR2 ?_ | with_reducible refine st_forL ?_ | with_reducible refine st_forT ?_ | with_reducible refine st_forE ?_ | with_reducible refine st_list ?_ | with_reducible refine st_itup ?_ | with_reducible refine st_tB ?_ | ((with_reducible apply st_var); exact rfl) | ((with_reducible apply st_aug); exact rfl) | ((with_reducible apply st_eq); exact rfl) | ((with_reducible apply st_ne); exact rfl) | ((with_reducible apply st_spK); (focus exact rfl); (focus exact rfl)) | ((with_reducible apply st_rI); (first | decide | (refine Or.inl ⟨?_, ?_⟩ <;> omega) | (refine Or.inr ⟨?_, ?_⟩ <;> omega) | (show (0 : Int) < _; omega) | exact ⟨by omega, log_of (by omega) (by omega)⟩ | exact ⟨by decide, by decide, by decide⟩)) | ((with_reducible apply st_powK); (focus exact ⟨by decide, by decide, by decide⟩); (focus decide)) | ((with_reducible apply st_eR1); (focus omega); (focus omega)) | ((with_reducible apply st_eR2); (focus omega)) | ((with_reducible apply st_if1); (first | with_reducible rfl | assumption | exact rfl | decide | (simp only [decide_eq_true_eq, decide_eq_false_iff_not, Bool.not_eq_true', Bool.not_eq_false', Bool.not_true, Bool.not_false, Bool.true_and, Bool.and_true, Bool.false_and, Bool.and_false, V.int.injEq, V.str.injEq, V.bl.injEq, V.ref.injEq, reduceCtorEq, not_true, not_false_eq_true, decide_true, decide_false, Int.not_lt, Int.not_le, ne_eq, List.length_cons, List.length_nil, List.length_map, List.length_append, List.length_set, List.length_take, List.length_drop] <;> omega))) | ((with_reducible apply st_if0); (first | with_reducible rfl | assumption | exact rfl | decide | (simp only [decide_eq_true_eq, decide_eq_false_iff_not, Bool.not_eq_true', Bool.not_eq_false', Bool.not_true, Bool.not_false, Bool.true_and, Bool.and_true, Bool.false_and, Bool.and_false, V.int.injEq, V.str.injEq, V.bl.injEq, V.ref.injEq, reduceCtorEq, not_true, not_false_eq_true, decide_true, decide_false, Int.not_lt, Int.not_le, ne_eq, List.length_cons, List.length_nil, List.length_map, List.length_append, List.length_set, List.length_take, List.length_drop] <;> omega))) | ((with_reducible apply st_lenL); (focus infer_instance)) | ((with_reducible apply st_lenT); (focus infer_instance)) | ((with_reducible apply st_tupT); (focus infer_instance)) | ((with_reducible apply st_tyL); (focus infer_instance)) | ((with_reducible apply st_elist); (focus infer_instance)) | ((with_reducible apply st_eitup); (focus infer_instance)) | ((with_reducible apply st_eE); (focus infer_instance)) | ((with_reducible apply st_epr); (focus infer_instance)) | ((with_reducible apply st_setO); (focus infer_instance)) | ((with_reducible apply st_ixO); (focus infer_instance)) | ((with_reducible apply st_ixLs); (focus assumption); (focus (first | exact rfl | exact atI_nat (by assumption)))) | ((with_reducible apply st_ixTs); (focus assumption); (focus (first | exact rfl | exact atI_nat (by assumption)))) | ((with_reducible apply st_fld); (focus infer_instance); (focus exact rfl)) | ((with_reducible apply st_const); (focus infer_instance); (focus exact rfl)) | ((with_reducible apply st_emt); (focus infer_instance); (focus exact rfl)) | ((with_reducible apply st_ixL); (focus infer_instance); (focus (first | exact rfl | exact atI_nat (by assumption)))) | ((with_reducible apply st_ixT); (focus infer_instance); (focus (first | exact rfl | exact atI_nat (by assumption)))) | ((with_reducible apply st_gtup); (focus infer_instance); (focus (first | exact rfl | exact atI_nat (by assumption)))))))
local macro_rules | `(tactic| subst_eqs) => `(tactic| (repeat (first | with_reducible refine st_seq ?_ | with_reducible refine st_asg ?_ | with_reducible refine st_name ?_ | with_reducible refine st_ret ?_ | with_reducible refine st_drop ?_ | with_reducible refine st_ifS ?_ | with_reducible refine st_nx ?_ | with_reducible refine st_brk ?_ | with_reducible refine st_cnt ?_ | with_reducible refine st_c ?_ | with_reducible refine st_op ?_ | with_reducible refine st_un ?_ | with_reducible refine st_rI0 ?_ | with_reducible refine st_cons ?_ | with_reducible refine st_nil ?_ | with_reducible refine st_cl ?_ | with_reducible refine st_cb ?_ | with_reducible refine st_mt ?_ | with_reducible refine st_pr ?_ | with_reducible refine st_test ?_ | with_reducible refine st_ebl ?_ | with_reducible refine st_eint ?_ | with_reducible refine st_par ?_ | with_reducible refine st_par2 ?_ | with_reducible refine st_and ?_ | with_reducible refine st_or ?_ | with_reducible refine st_not ?_ | with_reducible refine st_andV ?_ | with_reducible refine st_orV ?_ | with_reducible refine st_notV ?_ | with_reducible refine st_ifE ?_ | with_reducible refine st_chain ?_ | with_reducible refine st_lst ?_ | with_reducible refine st_tup ?_ | with_reducible refine st_retN ?_ | with_reducible refine st_rU ?_ | with_reducible refine st_rAdd ?_ | with_reducible refine st_rSub ?_ | with_reducible refine st_isN ?_ | with_reducible refine st_notN ?_ | with_reducible refine st_sF ?_ | with_reducible refine st_int ?_ | with_reducible refine st_intB ?_ | with_reducible refine st_abs ?_ | with_reducible refine st_sl ?_ | with_reducible refine st_part ?_ | with_reducible refine st_nopart ?_ | with_reducible refine st_bm ?_ | with_reducible refine st_bm0 ?_ | with_reducible refine st_tyS ?_ | with_reducible refine st_gsub ?_ | with_reducible refine st_gcons ?_ | with_reducible refine st_gnil ?_ | with_reducible refine st_chain3 ?_ | with_reducible refine st_gsl ?_ | with_reducible refine st_clK ?_ | with_reducible refine st_mtK ?_ | with_reducible refine st_lcR1 ?_ | with_reducible refine st_lcR2 ?_ | with_reducible refine st_lcL ?_ | with_reducible refine st_lcT ?_ | with_reducible refine st_yes ?_ | with_reducible refine st_forR1 ?_ | with_reducible refine st_forR2 ?_ | with_reducible refine st_forL ?_ | with_reducible refine st_forT ?_ | with_reducible refine st_forE ?_ | with_reducible refine st_list ?_ | with_reducible refine st_itup ?_ | with_reducible refine st_tB ?_ | ((with_reducible apply st_var); exact rfl) | ((with_reducible apply st_aug); exact rfl) | ((with_reducible apply st_eq); exact rfl) | ((with_reducible apply st_ne); exact rfl) | ((with_reducible apply st_spK); (focus exact rfl); (focus exact rfl)) | ((with_reducible apply st_rI); (first | decide | (refine Or.inl ⟨?_, ?_⟩ <;> omega) | (refine Or.inr ⟨?_, ?_⟩ <;> omega) | (show (0 : Int) < _; omega) | exact ⟨by omega, log_of (by omega) (by omega)⟩ | exact ⟨by decide, by decide, by decide⟩)) | ((with_reducible apply st_powK); (focus exact ⟨by decide, by decide, by decide⟩); (focus decide)) | ((with_reducible apply st_eR1); (focus omega); (focus omega)) | ((with_reducible apply st_eR2); (focus omega)) | ((with_reducible apply st_if1); (first | with_reducible rfl | assumption | exact rfl | decide | (simp only [decide_eq_true_eq, decide_eq_false_iff_not, Bool.not_eq_true', Bool.not_eq_false', Bool.not_true, Bool.not_false, Bool.true_and, Bool.and_true, Bool.false_and, Bool.and_false, V.int.injEq, V.str.injEq, V.bl.injEq, V.ref.injEq, reduceCtorEq, not_true, not_false_eq_true, decide_true, decide_false, Int.not_lt, Int.not_le, ne_eq, List.length_cons, List.length_nil, List.length_map, List.length_append, List.length_set, List.length_take, List.length_drop] <;> omega))) | ((with_reducible apply st_if0); (first | with_reducible rfl | assumption | exact rfl | decide | (simp only [decide_eq_true_eq, decide_eq_false_iff_not, Bool.not_eq_true', Bool.not_eq_false', Bool.not_true, Bool.not_false, Bool.true_and, Bool.and_true, Bool.false_and, Bool.and_false, V.int.injEq, V.str.injEq, V.bl.injEq, V.ref.injEq, reduceCtorEq, not_true, not_false_eq_true, decide_true, decide_false, Int.not_lt, Int.not_le, ne_eq, List.length_cons, List.length_nil, List.length_map, List.length_append, List.length_set, List.length_take, List.length_drop] <;> omega))) | ((with_reducible apply st_lenL); (focus infer_instance)) | ((with_reducible apply st_lenT); (focus infer_instance)) | ((with_reducible apply st_tupT); (focus infer_instance)) | ((with_reducible apply st_tyL); (focus infer_instance)) | ((with_reducible apply st_elist); (focus infer_instance)) | ((with_reducible apply st_eitup); (focus infer_instance)) | ((with_reducible apply st_eE); (focus infer_instance)) | ((with_reducible apply st_epr); (focus infer_instance)) | ((with_reducible apply st_setO); (focus infer_instance)) | ((with_reducible apply st_ixO); (focus infer_instance)) | ((with_reducible apply st_ixLs); (focus assumption); (focus (first | exact rfl | exact atI_nat (by assumption)))) | ((with_reducible apply st_ixTs); (focus assumption); (focus (first | exact rfl | exact atI_nat (by assumption)))) | ((with_reducible apply st_fld); (focus infer_instance); (focus exact rfl)) | ((with_reducible apply st_const); (focus infer_instance); (focus exact rfl)) | ((with_reducible apply st_emt); (focus infer_instance); (focus exact rfl)) | ((with_reducible apply st_ixL); (focus infer_instance); (focus (first | exact rfl | exact atI_nat (by assumption)))) | ((with_reducible apply st_ixT); (focus infer_instance); (focus (first | exact rfl | exact atI_nat (by assumption)))) | ((with_reducible apply st_gtup); (focus infer_instance); (focus (first | exact rfl | exact atI_nat (by assumption)))) | ((with_reducible apply st_newL); (focus (refine len_ok ?_; simp only [List.length_cons, List.length_nil, List.length_append, List.length_map, List.length_set, List.length_take, List.length_drop]; omega)); intro l Hn nw) | ((with_reducible apply st_newT); (focus (refine len_ok ?_; simp only [List.length_cons, List.length_nil, List.length_append, List.length_map, List.length_set, List.length_take, List.length_drop]; omega)); intro l Hn nw) | ((with_reducible apply st_listL); (focus infer_instance); intro l Hn nw) | ((with_reducible apply st_listT); (focus infer_instance); intro l Hn nw) | ((with_reducible apply st_tupL); (focus infer_instance); intro l Hn nw) | ((with_reducible apply st_slL); (focus infer_instance); intro l Hn nw) | ((with_reducible apply st_cat); (focus infer_instance); (focus infer_instance); (focus (refine len_ok ?_; simp only [List.length_cons, List.length_nil, List.length_append, List.length_map, List.length_set, List.length_take, List.length_drop]; omega)); intro l Hn nw))))
section
variable {P : Program} {w : World} {K : PySem.W.Frag} {mg : Str → Option Value} {base : Heap} {f : Addr} {fd : FuncData} {Tb : List (Addr × Str)}
abbrev N__law_pen : List Str := ["_law_script"]
theorem sc__law_pen : FnScope N__law_pen ["_law_script"] (defScope s__law_pen) := ⟨rfl, rfl, rfl, by decide +kernel, rfl, by decide +kernel, by decide +kernel⟩
theorem ok0__law_pen (F : FnA K d__law_pen fd) (T : Tx K mg) : FnOk P w K mg base CX0 1 (d__law_pen.adr K) fd ["_law_script"] (spPn K) := by
  refine fnO0 F sc__law_pen (fun vs H Q E h => by (repeat (first | (obtain ⟨rfl, _⟩ := h; rfl) | (obtain ⟨_, h⟩ := h)))) (fun cdv A outer s H vs Q E hr h => ?_)
  refine ⟨_, (pss_one (ps_ret (pe_lst (pa_cons (pe_callTy (cr_listOf (K := K) rfl) (by rfl) T.f_list (by decide +kernel) (pa_cons (pe_slice (sl_listK (K := K) rfl) (pv 0) po_none (po_some pe_int)) pa_nil)) (pa_cons pe_int (pa_cons pe_int pa_nil)))))), ?_⟩
  obtain ⟨a, ns, rfl, hS, hl, q⟩ := h
  have ec : cutV (ns.map V.int) none (some 63) = ns.map V.int := cut_all (by rw [List.length_map]; exact hl)
  symm_saturate
  refine st_slLs hS fun c H1 n1 => ?_
  rw [ec] at n1
  symm_saturate
  refine st_listL (by infer_instance) fun e H2 n2 => ?_
  symm_saturate
  refine st_newL (by (refine len_ok ?_; simp only [List.length_cons, List.length_nil, List.length_append, List.length_map, List.length_set, List.length_take, List.length_drop]; omega)) fun p H3 n3 => ?_
  refine q p e _ (n1.same.free (n2.same.free n3.no)) ⟨ns, 0, 0, by infer_instance, by infer_instance, hl, Int.le_refl _, by decide, Int.le_refl _⟩ (n1.same.trans (n2.same.trans n3.same))
abbrev N__law_draw : List Str := ["_law_pen_here", "_law_many", "_law_at", "_law_cell", "_law_mixed", "_law_digit", "_law_great"]
theorem sc__law_draw : FnScope N__law_draw ["_law_pen_here", "_law_many"] (defScope s__law_draw) := ⟨rfl, rfl, rfl, by decide +kernel, rfl, by decide +kernel, by decide +kernel⟩
theorem ok0__law_draw (F : FnA K d__law_draw fd) (T : Tx K mg) : FnOk P w K mg base CX0 1 (d__law_draw.adr K) fd ["_law_pen_here", "_law_many"] spDr := by
  refine fnO0 F sc__law_draw (fun vs H Q E h => by (repeat (first | (obtain ⟨rfl, _⟩ := h; rfl) | (obtain ⟨_, h⟩ := h)))) (fun cdv A outer s H vs Q E hr h => ?_)
  refine ⟨_, (pss_cons (ps_if (pt_cmpR op_gt (pe_ix (ix_listK (K := K) rfl) (pv 0) pe_int (fun _ _ => rfl)) pe_int (nomark _))
      (pss_cons (ps_set (i := 5) sc__law_draw.nd rfl (.inl rfl) (pe_op op_mod (pe_callTy cr_int (by rfl) T.f_int (by decide +kernel) (pa_cons (pe_ix (ix_listK (K := K) rfl) (pv 0) pe_int (fun _ _ => rfl)) pa_nil)) (pv 1)))
      (pss_cons (ps_asg (pe_op op_fdivW (pe_callTy cr_int (by rfl) T.f_int (by decide +kernel) (pa_cons (pe_ix (ix_listK (K := K) rfl) (pv 0) pe_int (fun _ _ => rfl)) pa_nil)) (pv 1)) (pg_sub (pv 0) pe_int set_list))
      (pss_one (ps_ret (pv 5))))) pss_nil)
      (pss_cons (ps_set (i := 2) sc__law_draw.nd rfl (.inl rfl) (pe_ix (ix_listK (K := K) rfl) (pv 0) pe_int (fun _ _ => rfl)))
      (pss_cons (ps_asg (pe_op op_add (pv 2) pe_int) (pg_sub (pv 0) pe_int set_list))
      (pss_cons (ps_set (i := 3) sc__law_draw.nd rfl (.inl rfl) (pe_op op_add (pe_op op_mul pe_int (pv 2)) pe_int))
      (pss_cut (ps_if (pt_cmpR (op_neDK (K := K) rfl hr.units) (pe_ix (ix_listK (K := K) rfl) (pv 0) pe_int (fun _ _ => rfl)) (pe_lst pa_nil) (nomark _))
      (pss_one (ps_set (i := 3) sc__law_draw.nd rfl (.inl rfl) (pe_ix (ix_listK (K := K) rfl) (pe_ix (ix_listK (K := K) rfl) (pv 0) pe_int (fun _ _ => rfl)) (pe_op op_mod (pe_callTy cr_int (by rfl) T.f_int (by decide +kernel) (pa_cons (pv 2) pa_nil)) (pe_callB (cr_len (K := K) rfl) (by rfl) T.f_len (by decide +kernel) (pa_cons (pe_ix (ix_listK (K := K) rfl) (pv 0) pe_int (fun _ _ => rfl)) pa_nil))) (fun _ _ => rfl)))) pss_nil)
      (pss_cut (ps_if (PW.pt (pw_and (pt_cmpR op_lt (pv 2) (pe_callB (cr_len (K := K) rfl) (by rfl) T.f_len (by decide +kernel) (pa_cons (pe_ix (ix_listK (K := K) rfl) (pv 0) pe_int (fun _ _ => rfl)) pa_nil)) (nomark _)) (pw_and1 (pt_cmpR op_ge (pe_callB cr_abs (by rfl) T.f_abs (by decide +kernel) (pa_cons (pv 3) pa_nil)) (pe_op (op_powK 1000000000000000000) pe_int pe_int) (nomark _)))))
      (pss_cons (ps_set (i := 6) sc__law_draw.nd rfl (.inl rfl) (pe_op op_add (pe_op op_mul pe_int (pe_op op_sub (pe_callB cr_abs (by rfl) T.f_abs (by decide +kernel) (pa_cons (pv 3) pa_nil)) (pe_op (op_powK 1000000000000000000) pe_int pe_int))) (pe_callTy cr_int (by rfl) T.f_int (by decide +kernel) (pa_cons (pe_cmpR op_lt (pv 3) pe_int (nomark _)) pa_nil))))
      (pss_cons (ps_asg (pe_op op_fdivW (pe_callTy cr_int (by rfl) T.f_int (by decide +kernel) (pa_cons (pv 6) pa_nil)) (pv 1)) (pg_sub (pv 0) pe_int set_list))
      (pss_one (ps_ret (pe_op op_mod (pe_callTy cr_int (by rfl) T.f_int (by decide +kernel) (pa_cons (pv 6) pa_nil)) (pv 1)))))) pss_nil)
      (pss_cons (ps_set (i := 4) sc__law_draw.nd rfl (.inl rfl) (pe_op op_mod (pe_callTy cr_int (by rfl) T.f_int (by decide +kernel) (pa_cons (pe_op op_pow (pe_op op_add (pe_op op_add (pe_op op_mod (pe_callTy cr_int (by rfl) T.f_int (by decide +kernel) (pa_cons (pv 3) pa_nil)) pe_int) (pe_op op_mul pe_int (pv 2))) pe_int) pe_int) pa_nil)) pe_int))
      (pss_cons (ps_set (i := 4) sc__law_draw.nd rfl (.inl rfl) (pe_op op_mod (pe_callTy cr_int (by rfl) T.f_int (by decide +kernel) (pa_cons (pe_op op_pow (pe_op op_add (pe_op op_add (pe_op op_mul (pv 4) (pe_op op_add (pe_op op_mul pe_int (pv 2)) pe_int)) (pe_op op_mul (pe_op op_mul pe_int (pv 2)) (pv 2))) pe_int) pe_int) pa_nil)) pe_int))
      (pss_one (ps_ret (pe_op op_mod (pe_callTy cr_int (by rfl) T.f_int (by decide +kernel) (pa_cons (pe_op op_fdivW (pv 4) pe_int) pa_nil)) (pv 1)))))))))))), ?_⟩
  obtain ⟨p, c, b, m, rfl, hm, hlog, ⟨ns, i, z, hp, hc, hl, hi, hb, hz⟩, q⟩ := h
  have ncp : c ≠ p := pen_ne hp hc
  have mm := fun x : Int => mod_lt x hm
  have hdiv : ∀ x, CDivW x m := fun _ => ⟨hm, hlog⟩
  symm_saturate
  refine ite2 (fun h1 => ?_) (fun h1 => ?_)
  · symm_saturate
    refine st_rI (hdiv _) ?_
    symm_saturate
    refine st_setL hp rfl fun H1 n1 => ?_
    symm_saturate
    exact q _ _ (mm z).1 (mm z).2 ⟨ns, i, z / m, by infer_instance, by infer_instance, hl, hi, by omega, Int.ediv_nonneg hz (by omega)⟩ n1.keep
  · have z0 : z = 0 := by
      have : ¬ (z > 0) := by simpa using h1
      omega
    subst z0
    symm_saturate
    refine st_setL hp rfl fun H2 n2 => ?_
    have hp2 : H2 p = some (.lst [.ref c, .int (i + 1), .int 0]) := n2.at_
    have hc2 : H2 c = some (.lst (ns.map V.int)) := by infer_instance
    have k2 := n2.keep
    clear n2
    symm_saturate
    refine ⟨fun σ' H' => ∃ cell : Int, σ' = [some (.ref p), some (.int m), some (.int i), some (.int cell), none, none, none] ∧ H' p = some (.lst [.ref c, .int (i + 1), .int 0]) ∧ H' c = some (.lst (ns.map V.int)) ∧ Keep H H' p, ?_, ?_⟩
    · -- if the cells are not empty
      symm_saturate
      refine st_newL (by (refine len_ok ?_; simp only [List.length_cons, List.length_nil, List.length_append, List.length_map, List.length_set, List.length_take, List.length_drop]; omega)) fun e H3 n3 => ?_
      have hp3 : H3 p = some (.lst [.ref c, .int (i + 1), .int 0]) := by infer_instance
      have hc3 : H3 c = some (.lst (ns.map V.int)) := by infer_instance
      have k3 : Keep H H3 p := fun a o h1 h2 => n3.up (k2 _ _ h1 h2)
      refine st_neD (.lst (SqL.of hc3) (dp_ints K _ ns)) (.lst (SqL.of n3.at_) .nil) (PySem.W.ke_shaped_ints ns) (by decide +kernel) ?_
      clear n3
      symm_saturate
      refine ite2 (fun h2 => ?_) (fun h2 => ?_)
      · have hne : 0 < ns.length := by
          rw [eqv_nil] at h2
          cases ns with
          | nil => cases h2
          | cons a r => exact Nat.succ_pos _
        have hlen : (0 : Int) < ((ns.map V.int).length : Int) := by rw [List.length_map]; omega
        have mi := mod_lt i hlen
        obtain ⟨v, ev, _⟩ := atI_int (ns := ns) (i := i % ((ns.map V.int).length : Int)) mi.1 (by have := mi.2; rw [List.length_map] at this ⊢; exact this)
        symm_saturate
        refine st_ixL hc3 ev ?_
        symm_saturate
        exact ⟨v, rfl, hp3, hc3, k3⟩
      · symm_saturate
        exact ⟨_, rfl, hp3, hc3, k3⟩
    · rintro σ' H' ⟨cell, rfl, hp3, hc3, k3⟩
      -- a great cell?
      refine ⟨fun σ1 H1 => σ1 = [some (.ref p), some (.int m), some (.int i), some (.int cell), none, none, none] ∧ H1 = H', ?_, ?_⟩
      · symm_saturate
        refine ite2 (fun _ => ?_) (fun _ => ?_)
        · symm_saturate
          refine ite2 (fun h3 => ?_) (fun _ => ?_)
          · have hab : 1000000000000000000 ≤ (if cell < 0 then -cell else cell) := by simpa using h3
            symm_saturate
            have hgr : 0 ≤ 2 * ((if cell < 0 then -cell else cell) - 1000000000000000000) + (if decide (cell < 0) = true then 1 else 0) := by
              have : (0 : Int) ≤ (if decide (cell < 0) = true then 1 else 0) := by split <;> decide
              omega
            refine st_rI (hdiv _) ?_
            symm_saturate
            refine st_setL hp3 rfl fun H4 n4 => ?_
            symm_saturate
            refine q _ _ (mm _).1 (mm _).2 ⟨ns, i + 1, _, n4.at_, by infer_instance, hl, by omega, by omega, Int.ediv_nonneg hgr (by omega)⟩ (k3.trans n4.keep)
          · symm_saturate
            exact ⟨rfl, rfl⟩
        · symm_saturate
          exact ⟨rfl, rfl⟩
      · rintro σ1 H1 ⟨rfl, rfl⟩
        have hi2 : i ≤ 1000000 := by omega
        -- the first mix
        symm_saturate
        refine st_rI ⟨by decide, by decide, ?_⟩ ?_
        · refine pow_lt ?_ ?_ <;> omega
        have hx := mod_lt ((cell % 2147483549 + 45158 * i + 216) ^ (5 : Int).toNat) (show (0 : Int) < 2147483489 by decide)
        -- the second one
        symm_saturate
        refine st_rI ⟨by decide, by decide, ?_⟩ ?_
        · exact mix_ok hx.1 (Int.lt_trans hx.2 (by decide)) hi hi2 ⟨by decide, by decide⟩ ⟨by decide, by decide⟩ ⟨by decide, by decide⟩
        symm_saturate
        exact q _ _ (mm _).1 (mm _).2 ⟨ns, i + 1, 0, hp3, hc3, hl, by omega, by omega, Int.le_refl _⟩ k3
theorem ok__law_pen (F : FnA K d__law_pen fd) (T : Tx K mg) : FnOk P w K mg base CX0 1 (d__law_pen.adr K) fd ["_law_script"] (spPn K) := ok0__law_pen F T
theorem ok__law_draw (F : FnA K d__law_draw fd) (T : Tx K mg) : FnOk P w K mg base CX0 1 (d__law_draw.adr K) fd ["_law_pen_here", "_law_many"] (Gp.spF K Tb (Gp.ul2 Gp.F_draw)) := Gp.fnOk_weak (ok0__law_draw F T) fun _ _ _ _ => Gp.draw_of
end
end Lw
end
section
set_option Elab.async false
set_option linter.all false
set_option maxRecDepth 100000
set_option maxHeartbeats 4000000
set_option pp.maxSteps 600
namespace Lw
open PySem PySem.Spec PyProof.Rows L2 Gh Gp Gz
section
variable {P : Program} {w : World} {K : PySem.W.Frag} {mg : Str → Option Value} {base : Heap} {f : Addr} {fd : FuncData} {Tb : List (Addr × Str)}
abbrev N_BadLength___init__ : List Str := ["self", "value"]
theorem sc_BadLength___init__ : FnScope N_BadLength___init__ ["self", "value"] (defScope s_BadLength___init__) := ⟨rfl, rfl, rfl, by decide +kernel, rfl, by decide +kernel, by decide +kernel⟩
theorem ok_BadLength___init__ (F : FnA K d_BadLength___init__ fd) (T : Tx K mg) : FnOk P w K mg base CX0 1 (d_BadLength___init__.adr K) fd ["self", "value"] (spErr1 (gd "BadLength" K) "value") := by
  refine fnO0 F sc_BadLength___init__ (fun vs H Q E h => ?_) (fun cdv A outer s H vs Q E hr h => ?_)
  · obtain ⟨a, v, rfl, _⟩ := h
    rfl
  · obtain ⟨a, v, rfl, ha, q⟩ := h
    refine ⟨_, pss_one (ps_ost (pv 0) (pv 1)), ?_⟩
    exact ⟨_, rfl, _, rfl, a, _, rfl, T.ox_BadLength, T.n_BadLength_value, .inl ⟨ha, q⟩⟩
abbrev N_BadRest___init__ : List Str := ["self", "value"]
theorem sc_BadRest___init__ : FnScope N_BadRest___init__ ["self", "value"] (defScope s_BadRest___init__) := ⟨rfl, rfl, rfl, by decide +kernel, rfl, by decide +kernel, by decide +kernel⟩
theorem ok_BadRest___init__ (F : FnA K d_BadRest___init__ fd) (T : Tx K mg) : FnOk P w K mg base CX0 1 (d_BadRest___init__.adr K) fd ["self", "value"] (spErr1 (gd "BadRest" K) "value") := by
  refine fnO0 F sc_BadRest___init__ (fun vs H Q E h => ?_) (fun cdv A outer s H vs Q E hr h => ?_)
  · obtain ⟨a, v, rfl, _⟩ := h
    rfl
  · obtain ⟨a, v, rfl, ha, q⟩ := h
    refine ⟨_, pss_one (ps_ost (pv 0) (pv 1)), ?_⟩
    exact ⟨_, rfl, _, rfl, a, _, rfl, T.ox_BadRest, T.n_BadRest_value, .inl ⟨ha, q⟩⟩
abbrev N_BadNumber___init__ : List Str := ["self", "value"]
theorem sc_BadNumber___init__ : FnScope N_BadNumber___init__ ["self", "value"] (defScope s_BadNumber___init__) := ⟨rfl, rfl, rfl, by decide +kernel, rfl, by decide +kernel, by decide +kernel⟩
theorem ok_BadNumber___init__ (F : FnA K d_BadNumber___init__ fd) (T : Tx K mg) : FnOk P w K mg base CX0 1 (d_BadNumber___init__.adr K) fd ["self", "value"] (spErr1 (gd "BadNumber" K) "value") := by
  refine fnO0 F sc_BadNumber___init__ (fun vs H Q E h => ?_) (fun cdv A outer s H vs Q E hr h => ?_)
  · obtain ⟨a, v, rfl, _⟩ := h
    rfl
  · obtain ⟨a, v, rfl, ha, q⟩ := h
    refine ⟨_, pss_one (ps_ost (pv 0) (pv 1)), ?_⟩
    exact ⟨_, rfl, _, rfl, a, _, rfl, T.ox_BadNumber, T.n_BadNumber_value, .inl ⟨ha, q⟩⟩
abbrev N_is_integer : List Str := ["value"]
theorem sc_is_integer : FnScope N_is_integer ["value"] (defScope s_is_integer) := ⟨rfl, rfl, rfl, by decide +kernel, rfl, by decide +kernel, by decide +kernel⟩
def F_is_integer (value : D) : Tr D :=
  fin (bd (bd (bd (bd (.ok value) fun d => bd (opt (isi_int d)) fun k => .ok (.bl k)) asB) fun k => if k = true then (bd (bd (bd (.ok value) fun d => bd (opt (isi_bool d)) fun k => .ok (.bl k)) asB) fun k => .ok (.bl (!k))) else .ok (.bl false)) fun d => .ok (.rt d))
theorem ok_is_integer (F : FnA K d_is_integer fd) (T : Tx K mg)  : FnOk P w K mg base CX0 1 (d_is_integer.adr K) fd ["value"] (spF K Tb (ul1 F_is_integer)) := by
  refine fnO0 F sc_is_integer (fun vs H Q E h => spF_len len1 h) (fun cdv A outer s H vs Q E hr h => ?_)
  refine ⟨_, (pss_cons (ps_ret (pe_and (pe_callB (call_isiZ (K := K) rfl) (by rfl) T.f_isinstance (by decide +kernel) (pa_cons (pv 0) (pa_cons (pe_bltn (v := .ty "int") (by rfl) T.f_int (by decide +kernel) rfl) pa_nil))) (pe_one (pe_not (pe_callB (call_isiZ (K := K) rfl) (by rfl) T.f_isinstance (by decide +kernel) (pa_cons (pv 0) (pa_cons (pe_bltn (v := .ty "bool") (by rfl) T.f_bool (by decide +kernel) rfl) pa_nil))))))) pss_nil), ?_⟩
  exact fn_of1 (F := F_is_integer) (envU := fun _ => List.replicate 1 .no) h (fun value => rfl) (fun p c value => (ss_ret (se_andV (se_isi (.ty _) (isT_int T) se_var) (se_notV (se_isi (.ty _) (isT_bool T) se_var)))))
abbrev N_is_within : List Str := ["value", "least", "most"]
theorem sc_is_within : FnScope N_is_within ["value", "least", "most"] (defScope s_is_within) := ⟨rfl, rfl, rfl, by decide +kernel, rfl, by decide +kernel, by decide +kernel⟩
def F_is_within (value least most : D) : Tr D :=
  fin (bd (bd (bd (bd (bd (.ok value) fun v1 => (bd (.ok []) fun r2 => .ok (v1 :: r2))) (ul1 F_is_integer)) asB) fun k => if k = true then (bd (.ok least) fun v3 => (bd (.ok value) fun v4 => (bd (bd (leD v3 v4) asB) fun k => if k = true then (bd (.ok most) fun v5 => leD v4 v5) else .ok (.bl false)))) else .ok (.bl false)) fun d => .ok (.rt d))
theorem ok_is_within (F : FnA K d_is_within fd) (T : Tx K mg) (G_is_integer : PromO P w K mg base CX0 1 (gd "is_integer" K) [] (spF K Tb (ul1 F_is_integer))) : FnOk P w K mg base CX0 2 (d_is_within.adr K) fd ["value", "least", "most"] (spF K Tb (ul3 F_is_within)) := by
  refine fnO0 F sc_is_within (fun vs H Q E h => spF_len len3 h) (fun cdv A outer s H vs Q E hr h => ?_)
  refine ⟨_, (pss_cons (ps_ret (pe_and (pe_g (PromO.call G_is_integer (hr.mono (by decide)) (passA (E := E))) (by rfl) T.g_is_integer T.k_is_integer (pa_cons (pv 0) pa_nil)) (pe_one (pe_chain op_le op_le (pv 1) (pv 0) (pv 2))))) pss_nil), ?_⟩
  exact fn_of3 (F := F_is_within) (envU := fun _ => List.replicate 3 .no) h (fun value least most => rfl) (fun p c value least most => (ss_ret (se_andV (se_cl srl_sp0 (sa_cons se_var sa_nil)) (se_chain sr_le sr_le se_var se_var se_var))))
abbrev N_is_length : List Str := ["value"]
theorem sc_is_length : FnScope N_is_length ["value"] (defScope s_is_length) := ⟨rfl, rfl, rfl, by decide +kernel, rfl, by decide +kernel, by decide +kernel⟩
def F_is_length (value : D) : Tr D :=
  fin (bd (bd (bd (.ok value) fun v5 => (bd (bd (.ok (.int 1)) fun v3 => (bd (bd (.ok (.int 10000000000000000000000000000000000000000)) fun v1 => (bd (.ok []) fun r2 => .ok (v1 :: r2))) fun r4 => .ok (v3 :: r4))) fun r6 => .ok (v5 :: r6))) (ul3 F_is_within)) fun d => .ok (.rt d))
theorem ok_is_length (F : FnA K d_is_length fd) (T : Tx K mg) (G_is_within : PromO P w K mg base CX0 2 (gd "is_within" K) [] (spF K Tb (ul3 F_is_within))) : FnOk P w K mg base CX0 3 (d_is_length.adr K) fd ["value"] (spF K Tb (ul1 F_is_length)) := by
  refine fnO0 F sc_is_length (fun vs H Q E h => spF_len len1 h) (fun cdv A outer s H vs Q E hr h => ?_)
  refine ⟨_, (pss_cons (ps_ret (pe_g (PromO.call G_is_within (hr.mono (by decide)) (passA (E := E))) (by rfl) T.g_is_within T.k_is_within (pa_cons (pv 0) (pa_cons pe_int (pa_cons (pe_gi T.m_GREATEST_LENGTH (by rfl)) pa_nil))))) pss_nil), ?_⟩
  exact fn_of1 (F := F_is_length) (envU := fun _ => List.replicate 1 .no) h (fun value => rfl) (fun p c value => (ss_ret (se_cl srl_sp0 (sa_cons se_var (sa_cons se_int (sa_cons se_int sa_nil))))))
abbrev N_is_rest : List Str := ["value"]
theorem sc_is_rest : FnScope N_is_rest ["value"] (defScope s_is_rest) := ⟨rfl, rfl, rfl, by decide +kernel, rfl, by decide +kernel, by decide +kernel⟩
def F_is_rest (value : D) : Tr D :=
  fin (bd (bd (bd (.ok value) fun v5 => (bd (bd (.ok (.int 0)) fun v3 => (bd (bd (.ok (.int 3)) fun v1 => (bd (.ok []) fun r2 => .ok (v1 :: r2))) fun r4 => .ok (v3 :: r4))) fun r6 => .ok (v5 :: r6))) (ul3 F_is_within)) fun d => .ok (.rt d))
theorem ok_is_rest (F : FnA K d_is_rest fd) (T : Tx K mg) (G_is_within : PromO P w K mg base CX0 2 (gd "is_within" K) [] (spF K Tb (ul3 F_is_within))) : FnOk P w K mg base CX0 3 (d_is_rest.adr K) fd ["value"] (spF K Tb (ul1 F_is_rest)) := by
  refine fnO0 F sc_is_rest (fun vs H Q E h => spF_len len1 h) (fun cdv A outer s H vs Q E hr h => ?_)
  refine ⟨_, (pss_cons (ps_ret (pe_g (PromO.call G_is_within (hr.mono (by decide)) (passA (E := E))) (by rfl) T.g_is_within T.k_is_within (pa_cons (pv 0) (pa_cons pe_int (pa_cons pe_int pa_nil))))) pss_nil), ?_⟩
  exact fn_of1 (F := F_is_rest) (envU := fun _ => List.replicate 1 .no) h (fun value => rfl) (fun p c value => (ss_ret (se_cl srl_sp0 (sa_cons se_var (sa_cons se_int (sa_cons se_int sa_nil))))))
abbrev N_need_length : List Str := ["value"]
theorem sc_need_length : FnScope N_need_length ["value"] (defScope s_need_length) := ⟨rfl, rfl, rfl, by decide +kernel, rfl, by decide +kernel, by decide +kernel⟩
def F_need_length (value : D) : Tr D :=
  fin (bdF (W' := Unit) (bd (bd (bd (bd (bd (.ok value) fun v1 => (bd (.ok []) fun r2 => .ok (v1 :: r2))) (ul1 F_is_length)) asB) fun k => .ok (!k)) fun k => if k = true then (bd (.ok value) fun d => .ex "BadLength" [("value", d)]) else (.ok (.nx ()))) fun (w3 : Unit) => (.ok (.nx ())))
theorem ok_need_length (F : FnA K d_need_length fd) (T : Tx K mg) (G_is_length : PromO P w K mg base CX0 3 (gd "is_length" K) [] (spF K Tb (ul1 F_is_length))) (G_BadLength___init__ : PromO P w K mg base CX0 1 (md "BadLength" "__init__" K) [] (spErr1 (gd "BadLength" K) "value")) : FnOk P w K mg base (L2.CX P w) 4 (d_need_length.adr K) fd ["value"] (spF K Tb (ul1 F_need_length)) := by
  refine F.ok sc_need_length (fun vs H Q E h => spF_len len1 h) (fun cdv A outer s H vs Q E hr h => ?_)
  refine ⟨_, (pss_cons (ps_if (pt_not (pt_val (pe_g (PromO.call G_is_length (hr.mono (by decide)) (passA (E := E))) (by rfl) T.g_is_length T.k_is_length (pa_cons (pv 0) pa_nil))))
      (pss_cons (ps_raise rfl (takes_of rfl rfl rfl rfl) (pmk_po T.ox_BadLength T.in_BadLength.iC T.in_BadLength.tI G_BadLength___init__ (hr.mono (by decide)) pass0 T.g_BadLength (pa_cons (pv 0) pa_nil))) pss_nil) pss_nil)
      pss_nil), ?_⟩
  exact fn_of1 (F := F_need_length) (envU := fun _ => List.replicate 1 .no) h (fun value => rfl) (fun p c value => (ss_if (fun (w3 : Unit) => [.fz value]) (sb_not (sb_tb (se_cl srl_sp0 (sa_cons se_var sa_nil)))) (ss_raise1 se_var) (ss_nx (.s .nil)) (fun (w3 : Unit) => (ss_nx (le_no _ rfl)))))
abbrev N_need_rest : List Str := ["value"]
theorem sc_need_rest : FnScope N_need_rest ["value"] (defScope s_need_rest) := ⟨rfl, rfl, rfl, by decide +kernel, rfl, by decide +kernel, by decide +kernel⟩
def F_need_rest (value : D) : Tr D :=
  fin (bdF (W' := Unit) (bd (bd (bd (bd (bd (.ok value) fun v1 => (bd (.ok []) fun r2 => .ok (v1 :: r2))) (ul1 F_is_rest)) asB) fun k => .ok (!k)) fun k => if k = true then (bd (.ok value) fun d => .ex "BadRest" [("value", d)]) else (.ok (.nx ()))) fun (w3 : Unit) => (.ok (.nx ())))
theorem ok_need_rest (F : FnA K d_need_rest fd) (T : Tx K mg) (G_is_rest : PromO P w K mg base CX0 3 (gd "is_rest" K) [] (spF K Tb (ul1 F_is_rest))) (G_BadRest___init__ : PromO P w K mg base CX0 1 (md "BadRest" "__init__" K) [] (spErr1 (gd "BadRest" K) "value")) : FnOk P w K mg base (L2.CX P w) 4 (d_need_rest.adr K) fd ["value"] (spF K Tb (ul1 F_need_rest)) := by
  refine F.ok sc_need_rest (fun vs H Q E h => spF_len len1 h) (fun cdv A outer s H vs Q E hr h => ?_)
  refine ⟨_, (pss_cons (ps_if (pt_not (pt_val (pe_g (PromO.call G_is_rest (hr.mono (by decide)) (passA (E := E))) (by rfl) T.g_is_rest T.k_is_rest (pa_cons (pv 0) pa_nil))))
      (pss_cons (ps_raise rfl (takes_of rfl rfl rfl rfl) (pmk_po T.ox_BadRest T.in_BadRest.iC T.in_BadRest.tI G_BadRest___init__ (hr.mono (by decide)) pass0 T.g_BadRest (pa_cons (pv 0) pa_nil))) pss_nil) pss_nil)
      pss_nil), ?_⟩
  exact fn_of1 (F := F_need_rest) (envU := fun _ => List.replicate 1 .no) h (fun value => rfl) (fun p c value => (ss_if (fun (w3 : Unit) => [.fz value]) (sb_not (sb_tb (se_cl srl_sp0 (sa_cons se_var sa_nil)))) (ss_raise1 se_var) (ss_nx (.s .nil)) (fun (w3 : Unit) => (ss_nx (le_no _ rfl)))))
abbrev N_rest_of : List Str := ["n"]
theorem sc_rest_of : FnScope N_rest_of ["n"] (defScope s_rest_of) := ⟨rfl, rfl, rfl, by decide +kernel, rfl, by decide +kernel, by decide +kernel⟩
def F_rest_of (n : D) : Tr D :=
  fin (bd (bd (bd (.ok n) fun v1 => (bd (.ok []) fun r2 => .ok (v1 :: r2))) (ul1 F_need_length)) fun _ => (bd (bd (.ok n) fun v3 => (bd (.ok (.int 4)) fun v4 => modD v3 v4)) fun d => .ok (.rt d)))
theorem ok_rest_of (F : FnA K d_rest_of fd) (T : Tx K mg) (G_need_length : PromO P w K mg base (L2.CX P w) 4 (gd "need_length" K) [] (spF K Tb (ul1 F_need_length))) : FnOk P w K mg base (L2.CX P w) 5 (d_rest_of.adr K) fd ["n"] (spF K Tb (ul1 F_rest_of)) := by
  refine F.ok sc_rest_of (fun vs H Q E h => spF_len len1 h) (fun cdv A outer s H vs Q E hr h => ?_)
  refine ⟨_, (pss_cons (ps_expr (pe_g (PromO.call G_need_length (hr.mono (by decide)) (pass_on rfl rfl rfl rfl)) (by rfl) T.g_need_length T.k_need_length (pa_cons (pv 0) pa_nil)))
      (pss_cons (ps_ret (pe_op op_mod (pv 0) (pe_gi T.m_CLASSES (by rfl)))) pss_nil)), ?_⟩
  exact fn_of1 (F := F_rest_of) (envU := fun _ => List.replicate 1 .no) h (fun n => rfl) (fun p c n => (ss_drop (se_cl srl_sp0 (sa_cons se_var sa_nil)) (ss_ret (se_op sr_mod se_var se_int))))
abbrev N_first_of : List Str := ["rest", "least"]
theorem sc_first_of : FnScope N_first_of ["rest", "least"] (defScope s_first_of) := ⟨rfl, rfl, rfl, by decide +kernel, rfl, by decide +kernel, by decide +kernel⟩
def F_first_of (rest least : D) : Tr D :=
  fin (bd (bd (.ok least) fun v5 => (bd (bd (bd (.ok rest) fun v1 => (bd (.ok least) fun v2 => subD v1 v2)) fun v3 => (bd (.ok (.int 4)) fun v4 => modD v3 v4)) fun v6 => addD v5 v6)) fun d => .ok (.rt d))
theorem ok_first_of (F : FnA K d_first_of fd) (T : Tx K mg)  : FnOk P w K mg base CX0 1 (d_first_of.adr K) fd ["rest", "least"] (spF K Tb (ul2 F_first_of)) := by
  refine fnO0 F sc_first_of (fun vs H Q E h => spF_len len2 h) (fun cdv A outer s H vs Q E hr h => ?_)
  refine ⟨_, (pss_cons (ps_ret (pe_op (op_addA (K := K) rfl) (pv 1) (pe_op op_mod (pe_op op_sub (pv 0) (pv 1)) (pe_gi T.m_CLASSES (by rfl))))) pss_nil), ?_⟩
  exact fn_of2 (F := F_first_of) (envU := fun _ => List.replicate 2 .no) h (fun rest least => rfl) (fun p c rest least => (ss_ret (se_op sr_add se_var (se_op sr_mod (se_op sr_sub se_var se_var) se_int))))
abbrev N_lengths_of : List Str := ["rest", "least", "n"]
theorem sc_lengths_of : GScope N_lengths_of ["rest", "least"] (defScope s_lengths_of) := ⟨rfl, rfl, rfl, by decide +kernel, rfl, by decide +kernel, by decide +kernel⟩
def F_lengths_of (rest least : D) : GT Unit :=
  (gpre (bd (bd (bd (.ok rest) fun v2 => (bd (.ok []) fun r3 => .ok (v2 :: r3))) (ul1 F_need_rest)) fun _ => (.ok (.nx ()))) fun (w1 : Unit) => (gpre (bdF (W' := Unit) (bd (bd (bd (bd (bd (bd (.ok least) fun v5 => (bd (.ok []) fun r6 => .ok (v5 :: r6))) (ul1 F_is_integer)) asB) fun k => .ok (!k)) fun k => if k = true then .ok true else (bd (bd (.ok least) fun v7 => (bd (.ok (.int 1)) fun v8 => ltD v7 v8)) asB)) fun k => if k = true then (bd (.ok least) fun d => .ex "BadNumber" [("value", d)]) else (.ok (.nx ()))) fun (w9 : Unit) => (.ok (.nx ()))) fun (w4 : Unit) => (gpre (bd (bd (bd (.ok rest) fun v16 => (bd (bd (.ok least) fun v14 => (bd (.ok []) fun r15 => .ok (v14 :: r15))) fun r17 => .ok (v16 :: r17))) (ul2 F_first_of)) fun n12 => (.ok (.nx n12))) fun (w12 : D) => (gfin (gbF (W' := D) (whY (fun (w18 : D) => (bd (.ok (.bl true)) asB)) (fun (w18 : D) => (gbF (W' := Unit) (gyl (.ok w18) ()) fun _ => (gbF (W' := D) (gpl (bd (bd (.ok (.int 4)) fun y => iaddD w18 y) fun n19 => (.ok (.nx n19)))) fun (w19 : D) => ⟨[], .ok (.nx w19)⟩))) 40 w12) fun (w18 : D) => ⟨[], .ok (.nx ())⟩)))))
theorem ok_lengths_of (F : FnA K d_lengths_of fd) (T : Tx K mg) (G_need_rest : PromO P w K mg base (L2.CX P w) 4 (gd "need_rest" K) [] (spF K Tb (ul1 F_need_rest))) (G_is_integer : PromO P w K mg base CX0 1 (gd "is_integer" K) [] (spF K Tb (ul1 F_is_integer))) (G_BadNumber___init__ : PromO P w K mg base CX0 1 (md "BadNumber" "__init__" K) [] (spErr1 (gd "BadNumber" K) "value")) (G_first_of : PromO P w K mg base CX0 1 (gd "first_of" K) [] (spF K Tb (ul2 F_first_of))) : QFn P w K mg base 5 (d_lengths_of.adr K) fd ["rest", "least"] (spY K Tb (yl2 F_lengths_of)) := by
  refine fnYQ F sc_lengths_of (fun n x c h => by cases h) (fun cdv A outer s H vs E pn hr hl => ?_)
  refine ⟨_, fun T_ => (q0_cons (ps_expr (pe_g (PromO.call G_need_rest (hr.mono (by decide)) passG) (by rfl) T.g_need_rest T.k_need_rest (pa_cons (pv 0) pa_nil)))
      (q0_cons (ps_if (PW.pt (pw_or (pt_not (pt_val (pe_g (PromO.call G_is_integer (hr.mono (by decide)) (passA (E := E))) (by rfl) T.g_is_integer T.k_is_integer (pa_cons (pv 1) pa_nil)))) (pw_or1 (pt_cmpR op_lt (pv 1) pe_int (nomark _)))))
      (pss_cons (ps_raise rfl takesG (pmk_po T.ox_BadNumber T.in_BadNumber.iC T.in_BadNumber.tI G_BadNumber___init__ (hr.mono (by decide)) pass0 T.g_BadNumber (pa_cons (pv 1) pa_nil))) pss_nil) pss_nil)
      (q0_cons (ps_set (i := 2) sc_lengths_of.nd rfl (.inl rfl) (pe_g (PromO.call G_first_of (hr.mono (by decide)) (passA (E := E))) (by rfl) T.g_first_of T.k_first_of (pa_cons (pv 0) (pa_cons (pv 1) pa_nil))))
      (q0_rest (qss_cons (qs_while (fun _ _ => (pt_val pe_bl))
      (qss_cons (qs_yield (fun _ _ => (pv 2)))
      (qss_cons (qs_ps (fun _ _ => (ps_aug (i := 2) sc_lengths_of.nd rfl (.inl rfl) (pe_gi T.m_CLASSES (by rfl)) ip_add)))
      qss_nil)))
      qss_nil))))), fun T_ Pr M γ h hh => ?_⟩
  exact yfn_of2 (F := F_lengths_of) h hl (fun p c rest least => (s0_pre (env := fun (w1 : Unit) => [.fz rest, .fz least, .no]) (ss_drop (se_cl srl_sp0 (sa_cons se_var sa_nil)) (ss_nx (.s (.s (.s .nil))))) (fun (w1 : Unit) => (s0_pre (env := fun (w4 : Unit) => [.fz rest, .fz least, .no]) (ss_if (fun (w9 : Unit) => [.fz rest, .fz least, .no]) (sb_or (sb_not (sb_tb (se_cl srl_sp0 (sa_cons se_var sa_nil)))) (sb_tst (se_op sr_lt se_var se_int))) (ss_raise1 se_var) (ss_nx (.s (.s (.s .nil)))) (fun (w9 : Unit) => (ss_nx (.s (.s (.s .nil)))))) (fun (w4 : Unit) => (s0_pre (env := fun (w12 : D) => [.fz rest, .fz least, .fz w12]) (ss_asg (se_cl srl_sp0 (sa_cons se_var (sa_cons se_var sa_nil))) (fun n12 => (ss_nx (.s (.s (.s .nil)))))) (fun (w12 : D) => (s0_rest (envU := fun _ => List.replicate 3 .no) (YS.seq (env' := fun (w18 : D) => [.fz rest, .fz least, .fz w18]) (ys_while 40 (.s (.s (.s .nil))) (fun (w18 : D) => (sb_tb se_bl)) (fun (w18 : D) => (YS.seq (env' := fun (_ : Unit) => [.fz rest, .fz least, .fz w18]) (ys_yield se_var (.s (.s (.s .nil))) rfl) (fun _ => (YS.seq (env' := fun (w19 : D) => [.fz rest, .fz least, .fz w19]) (ys_pl (ss_augadd se_int (fun n19 => (ss_nx (.s (.s (.s .nil))))))) (fun (w19 : D) => (ys_nil (.s (.s (.s .nil)))))))))) (fun (w18 : D) => (ys_nil (le_no _ rfl))))))))))))
end
end Lw
end
section
set_option Elab.async false
set_option linter.all false
set_option maxRecDepth 100000
set_option maxHeartbeats 4000000
set_option pp.maxSteps 600
namespace Lw
open PySem PySem.Spec PyProof.Rows L2 Gh Gp Gz
section
variable {P : Program} {w : World} {K : PySem.W.Frag} {mg : Str → Option Value} {base : Heap} {f : Addr} {fd : FuncData} {Tb : List (Addr × Str)}
abbrev N__law_pick : List Str := ["_law_pen_here", "_law_some"]
theorem sc__law_pick : FnScope N__law_pick ["_law_pen_here", "_law_some"] (defScope s__law_pick) := ⟨rfl, rfl, rfl, by decide +kernel, rfl, by decide +kernel, by decide +kernel⟩
def F__law_pick (l_pen_here l_some : D) : Tr D :=
  fin (bd (bd (.ok l_some) fun v1 => (bd (bd (bd (.ok l_pen_here) fun v7 => (bd (bd (bd (bd (.ok l_some) fun v3 => (bd (.ok []) fun r4 => .ok (v3 :: r4))) (ul1 lenD)) fun v5 => (bd (.ok []) fun r6 => .ok (v5 :: r6))) fun r8 => .ok (v7 :: r8))) (ul2 F_draw)) fun v2 => ixD v1 v2)) fun d => .ok (.rt d))
theorem ok__law_pick (F : FnA K d__law_pick fd) (T : Tx K mg) (G__law_draw : PromO P w K mg base CX0 1 (gd "_law_draw" K) [] (spF K Tb (ul2 F_draw))) : FnOk P w K mg base CX0 2 (d__law_pick.adr K) fd ["_law_pen_here", "_law_some"] (spF K Tb (ul2 F__law_pick)) := by
  refine fnO0 F sc__law_pick (fun vs H Q E h => spF_len len2 h) (fun cdv A outer s H vs Q E hr h => ?_)
  refine ⟨_, (pss_cons (ps_ret (pe_ix (ix_seqK (K := K) rfl) (pv 1) (pe_g (PromO.call G__law_draw (hr.mono (by decide)) (passA (E := E))) (by rfl) T.g__law_draw T.k__law_draw (pa_cons (pv 0) (pa_cons (pe_callB (cr_len (K := K) rfl) (by rfl) T.f_len (by decide +kernel) (pa_cons (pv 1) pa_nil)) pa_nil))) (fun _ _ => rfl))) pss_nil), ?_⟩
  exact fn_of2 (F := F__law_pick) (envU := fun _ => List.replicate 2 .no) h (fun l_pen_here l_some => rfl) (fun p c l_pen_here l_some => (ss_ret (se_op sr_ix se_var (se_cl srl_sp0 (sa_cons se_var (sa_cons (se_cb srl_len (sa_cons se_var sa_nil)) sa_nil))))))
abbrev N__law_first : List Str := ["_law_rest", "_law_least", "_law_many", "_law_found", "_law_n"]
theorem sc__law_first : FnScope N__law_first ["_law_rest", "_law_least", "_law_many"] (defScope s__law_first) := ⟨rfl, rfl, rfl, by decide +kernel, rfl, by decide +kernel, by decide +kernel⟩
def F__law_first (l_rest l_least l_many : D) : Tr D :=
  fin (bd (bd (.ok []) fun ds => if ds.length ≤ sizeLine then .ok ds else .bad) fun l_found0 => (bdF (bd (bd (bd (.ok l_rest) fun v4 => (bd (bd (.ok l_least) fun v2 => (bd (.ok []) fun r3 => .ok (v2 :: r3))) fun r5 => .ok (v4 :: r5))) fun ds => if (ds ++ []).length = 2 then .ok ((yl2 F_lengths_of) (ds ++ [])) else .bad) fun m => forYF (fun (d7 : D) (w6 : List D) => (bd (.ok d7) fun (v9 : D) => if w6.length < sizeLine then (bdF (W' := Unit) (bd (bd (bd (pk (bd (bd (.ok (.lst (w6 ++ [v9]))) fun v10 => (bd (.ok []) fun r11 => .ok (v10 :: r11))) (ul1 lenD))) fun v12 => (bd (.ok l_many) fun v13 => eqD v12 v13)) asB) fun k => if k = true then (.ok (.bk (w6 ++ [v9]))) else (.ok (.nx ()))) fun (w14 : Unit) => (.ok (.nx (w6 ++ [v9])))) else .bad)) (endY ["BadRest", "BadNumber"] m) m.out l_found0) fun (w6 : List D) => (bd (.ok (.lst w6)) fun d => .ok (.rt d))))
theorem ok__law_first (F : FnA K d__law_first fd) (T : Tx K mg) (G_lengths_of : PromQ P w K mg base 5 (gd "lengths_of" K) 2 [] (spY K Tb (yl2 F_lengths_of))) : FnOk P w K mg base (L2.CX P w) 9 (d__law_first.adr K) fd ["_law_rest", "_law_least", "_law_many"] (spF K Tb (ul3 F__law_first)) := by
  refine F.ok sc__law_first (fun vs H Q E h => spF_len len3 h) (fun cdv A outer s H vs Q E hr h => ?_)
  refine ⟨_, (pss_cons (ps_set (i := 3) sc__law_first.nd rfl (.inl rfl) (pe_lst pa_nil))
      (pss_cons (ps_forY (passes_of rfl) rfl (pass_on rfl rfl rfl rfl) (hr.mono (by decide)) hxe_cx (K := K) rfl (pq_c G_lengths_of (hr.mono (by decide)) (by rfl) T.g_lengths_of T.k_lengths_of (pa_cons (pv 0) (pa_cons (pv 1) pa_nil))) (pg_name (i := 4) sc__law_first.nd rfl (.inl rfl))
      (pss_cons (ps_expr (pe_bm PySem.F.plainAttrs_list PySem.F.slot_list_append PySem.F.type_list_append mt_append (pv 3) (pa_cons (pv 4) pa_nil)))
      (pss_cons (ps_if (pt_cmpR (op_eqA (K := K) rfl hr.units) (pe_callB (cr_len (K := K) rfl) (by rfl) T.f_len (by decide +kernel) (pa_cons (pv 3) pa_nil)) (pv 2) (nomark _))
      (pss_cons ps_break pss_nil) pss_nil)
      pss_nil)))
      (pss_cons (ps_ret (pv 3)) pss_nil))), ?_⟩
  exact fn_of3 (F := F__law_first) (envU := fun _ => List.replicate 5 .no) h (fun l_rest l_least l_many => rfl) (fun p c l_rest l_least l_many => (ss_own (sn_lst sa_nil) (fun l_found0 => (ss_forQ (fun (w6 : List D) => [.fz l_rest, .fz l_least, .fz l_many, .ow w6, .no]) ["BadRest", "BadNumber"] (fun c h => by simp only [List.mem_cons, List.mem_nil_iff, or_false] at h; rcases h with rfl | rfl; exact T.ns_BadRest; exact T.ns_BadNumber) (sgen_call (dvs := []) (dds := []) (fun _ _ => .nil) (sa_cons se_var (sa_cons se_var sa_nil))) (.s (.s (.s (.s (.s .nil))))) (fun (d7 : D) (w6 : List D) => (sx_name (ss_app se_var (fun v9 => (ss_if (fun (w14 : Unit) => [.fz l_rest, .fz l_least, .fz l_many, .ow (w6 ++ [v9]), .fz d7]) (sb_tst (se_op sr_eq (se_lend (i := 3) (ds := (w6 ++ [v9])) (se_cb srl_len (sa_cons se_var sa_nil))) se_var)) (ss_bk (.s (.s (.s (.s (.n .nil)))))) (ss_nx (.s (.s (.s (.s (.s .nil)))))) (fun (w14 : Unit) => (ss_nx (.s (.s (.s (.s (.n .nil)))))))))))) (fun (w6 : List D) => (ss_fz (i := 3) rfl (ss_ret se_var)))))))
abbrev N__law_heard : List Str := ["_law_ask", "_law_caught", "error", "_law_kinds"]
theorem sc__law_heard : FnScope N__law_heard ["_law_ask"] (defScope s__law_heard) := ⟨rfl, rfl, rfl, by decide +kernel, rfl, by decide +kernel, by decide +kernel⟩
def xh__law_heard (cl : Str) : Bool := decide (cl ∈ (["BadLength", "BadRest", "BadNumber"] : List Str))
theorem xhT__law_heard (T : Tx K mg) : ∀ cl, xh__law_heard cl = true → PySem.W.exmOne K (.ref (gd cl K)) (.ref (gd "HuntError" K)) = some true := by
  intro cl h
  unfold xh__law_heard at h
  simp only [decide_eq_true_eq, List.mem_cons, List.mem_nil_iff, or_false] at h
  rcases h with rfl | rfl | rfl
  · exact T.xh_BadLength
  · exact T.xh_BadRest
  · exact T.xh_BadNumber
def F__law_heard (m : Tr D) : Tr D := tryT (bd m fun d => .ok (.tup [.str "told", d])) .ok (fun cl fs => if xh__law_heard cl = true then nox (fin (bd (bd (bd (bd (.ok (.err cl fs)) fun d => bd (opt (isi_BadLength d)) fun k => .ok (.bl k)) fun v6 => (bd (bd (bd (.ok (.err cl fs)) fun d => bd (opt (isi_BadRest d)) fun k => .ok (.bl k)) fun v4 => (bd (bd (bd (.ok (.err cl fs)) fun d => bd (opt (isi_BadNumber d)) fun k => .ok (.bl k)) fun v2 => (bd (.ok []) fun r3 => .ok (v2 :: r3))) fun r5 => .ok (v4 :: r5))) fun r7 => .ok (v6 :: r7))) fun ds => if ds.length ≤ sizeLine then .ok (.lst ds) else .bad) fun l_kinds0 => (bd (bd (bd (bd (.ok (.bl true)) fun v8 => (bd (.ok l_kinds0) fun v9 => inOD v8 v9)) asB) fun k => if k = true then (bd (bd (.ok l_kinds0) fun v14 => (bd (bd (bd (bd (bd (.ok (.err cl fs)) (xaD ["BadLength", "BadRest", "BadNumber"] "value")) fun v10 => (bd (.ok []) fun r11 => .ok (v10 :: r11))) (ul1 reprE)) fun v12 => (bd (.ok []) fun r13 => .ok (v12 :: r13))) fun r15 => .ok (v14 :: r15))) fun ds => if ds.length ≤ sizeLine then .ok (.tup ds) else .bad) else (.ok (.str "odd"))) fun d => .ok (.rt d)))) else .bad)
theorem ok__law_heard {X : Cx} {Tb : List (Addr × Str)} (T : Tx X.K X.mg) (hu105 : X.A.units + 105 < cLine) (hg : X.A.guards = some []) {g : Addr} {cdv : Value} {q : Str} : LamX.GivesTo X N__law_heard "_law_heard" (defScope s__law_heard) g cdv (defBody s__law_heard) "_law_ask" q (THd X.K Tb F__law_heard) := by
  intro f c' s H Q tl act hc h
  obtain ⟨p, c, U, b, m, wd, u, ha, al⟩ := h
  have hu100 : X.A.units + 3 + 102 < cLine := by omega
  refine ⟨_, pss_cons (ps_set (i := 1) sc__law_heard.nd rfl (.inl rfl) pe_non) (pss_cons (ps_try_keep (X := (cxOf C8.CX0 X.prog X.w X.K X.mg X.base N__law_heard "_law_heard" (defScope s__law_heard) g cdv X.A X.stack s H C8.E0).nox) (i := 2) (c := .ref (gd "HuntError" X.K)) (Wout := fun _ _ _ _ => False) (tb := fun W => tTry 4 (fun E => tRet (tTup (tCons (tC (.str "told")) (tCons (tAct f c' q (tl E)) tNil)))) W) rfl rfl rfl sc__law_heard.nd rfl rfl ⟨rfl, by decide, .inl T.g_HuntError⟩ LamX.takes0 (fun W pn xe tk _ => try_act 4 rfl tk fun E ⟨W', tk', hW⟩ => pss_one (ps_ret (pe_tup (pa_cons pe_str (pa_cons (act W' pn xe E _ _ tk' hW) pa_nil))))) (fun a oe cls d pn _ _ => pss_one (ps_set (i := 1) sc__law_heard.nd rfl (.inl rfl) (pv 2))))
      (pss_cons (ps_set (i := 3) sc__law_heard.nd rfl (.inl rfl) (pe_lst (pa_cons (pe_callB (call_isiZ (K := X.K) rfl) (by rfl) T.f_isinstance (by decide +kernel) (pa_cons (pv 1) (pa_cons (pe_glob (v := .ref _) rfl T.g_BadLength rfl) pa_nil))) (pa_cons (pe_callB (call_isiZ (K := X.K) rfl) (by rfl) T.f_isinstance (by decide +kernel) (pa_cons (pv 1) (pa_cons (pe_glob (v := .ref _) rfl T.g_BadRest rfl) pa_nil))) (pa_cons (pe_callB (call_isiZ (K := X.K) rfl) (by rfl) T.f_isinstance (by decide +kernel) (pa_cons (pv 1) (pa_cons (pe_glob (v := .ref _) rfl T.g_BadNumber rfl) pa_nil))) pa_nil)))))
      (pss_cons (ps_ret (pe_ifExp (pt_cmpR (op_inA (K := X.K) rfl) pe_bl (pv 3) (by rfl)) (pe_tup (pa_cons (pv 3) (pa_cons (pe_callB (call_showE (K := X.K) rfl hu100 hg) (by rfl) T.f_repr (by decide +kernel) (pa_cons (pe_xa (K := X.K) rfl (pv 1)) pa_nil)) pa_nil))) pe_str)) pss_nil))), ?_⟩
  exact heardA (g := ⟨X.K, Tb, p, c⟩) (n := 4) (i := 2) (j := 1) (mrest := fun x => match x with | .err cl fs => (bd (bd (bd (bd (.ok (.err cl fs)) fun d => bd (opt (isi_BadLength d)) fun k => .ok (.bl k)) fun v6 => (bd (bd (bd (.ok (.err cl fs)) fun d => bd (opt (isi_BadRest d)) fun k => .ok (.bl k)) fun v4 => (bd (bd (bd (.ok (.err cl fs)) fun d => bd (opt (isi_BadNumber d)) fun k => .ok (.bl k)) fun v2 => (bd (.ok []) fun r3 => .ok (v2 :: r3))) fun r5 => .ok (v4 :: r5))) fun r7 => .ok (v6 :: r7))) fun ds => if ds.length ≤ sizeLine then .ok (.lst ds) else .bad) fun l_kinds0 => (bd (bd (bd (bd (.ok (.bl true)) fun v8 => (bd (.ok l_kinds0) fun v9 => inOD v8 v9)) asB) fun k => if k = true then (bd (bd (.ok l_kinds0) fun v14 => (bd (bd (bd (bd (bd (.ok (.err cl fs)) (xaD ["BadLength", "BadRest", "BadNumber"] "value")) fun v10 => (bd (.ok []) fun r11 => .ok (v10 :: r11))) (ul1 reprE)) fun v12 => (bd (.ok []) fun r13 => .ok (v12 :: r13))) fun r15 => .ok (v14 :: r15))) fun ds => if ds.length ≤ sizeLine then .ok (.tup ds) else .bad) else (.ok (.str "odd"))) fun d => .ok (.rt d))) | _ => .bad) (envU := fun _ => List.replicate 4 .no) (xh := xh__law_heard) (HE := gd "HuntError" X.K) rfl (by decide) (by decide) (by decide) (by decide) (xhT__law_heard T) (fun cl fs => (ss_asg (se_lst (sa_cons (se_isi (.own _) (isT_BadLength T) se_var) (sa_cons (se_isi (.own _) (isT_BadRest T) se_var) (sa_cons (se_isi (.own _) (isT_BadNumber T) se_var) sa_nil)))) (fun l_kinds0 => (ss_ret (se_if (sb_tst (se_op sr_in se_bl se_var)) (se_tup (sa_cons se_var (sa_cons (se_cb srl_reprE (sa_cons (se_xa (xt_value T) se_var) sa_nil)) sa_nil))) (se_str (by decide))))))) (act_tup (by decide) hc (code_np wd hc) ha) wd u al
abbrev N__law_plain : List Str := ["_law_found", "_law_rest", "_law_row", "_law_n"]
theorem sc__law_plain : FnScope N__law_plain [] (defScope s__law_plain) := ⟨rfl, rfl, rfl, by decide +kernel, rfl, by decide +kernel, by decide +kernel⟩
def F__law_plain : Tr D :=
  fin (bd (bd (.ok []) fun ds => if ds.length ≤ sizeLine then .ok ds else .bad) fun l_found0 => (bdF (bd (bd (bd (.ok (.int 4)) fun v2 => (bd (.ok []) fun r3 => .ok (v2 :: r3))) (ul1 rg1)) fun ds => forF (fun (d5 : D) (w4 : List D) => (bd (bd (.ok []) fun ds => if ds.length ≤ sizeLine then .ok ds else .bad) fun l_row6 => (bdF (bd (bd (bd (.ok d5) fun v8 => (bd (.ok []) fun r9 => .ok (v8 :: r9))) fun ds => if (ds ++ [D.int 1]).length = 2 then .ok ((yl2 F_lengths_of) (ds ++ [D.int 1])) else .bad) fun m => forYF (fun (d11 : D) (w10 : List D) => (bd (.ok d11) fun (v13 : D) => if w10.length < sizeLine then (bdF (W' := Unit) (bd (bd (bd (pk (bd (bd (.ok (.lst (w10 ++ [v13]))) fun v14 => (bd (.ok []) fun r15 => .ok (v14 :: r15))) (ul1 lenD))) fun v16 => (bd (.ok (.int 2)) fun v17 => gtD v16 v17)) asB) fun k => if k = true then (.ok (.bk (w10 ++ [v13]))) else (.ok (.nx ()))) fun (w18 : Unit) => (.ok (.nx (w10 ++ [v13])))) else .bad)) (endY [] m) m.out l_row6) fun (w10 : List D) => (bd (.ok (.lst w10)) fun (v19 : D) => if w4.length < sizeLine then (.ok (.nx (w4 ++ [v19]))) else .bad)))) ds l_found0) fun (w4 : List D) => (bd (.ok (.lst w4)) fun d => .ok (.rt d))))
theorem ok__law_plain (F : FnA K d__law_plain fd) (T : Tx K mg) (GD_lengths_of_0 : PromQ P w K mg base 5 (gd "lengths_of" K) 2 [V.int 1] (spY K Tb (yl2 F_lengths_of))) : FnOk P w K mg base CX0 9 (d__law_plain.adr K) fd [] (spF K Tb (ul0 F__law_plain)) := by
  refine fnO0 F sc__law_plain (fun vs H Q E h => spF_len len0 h) (fun cdv A outer s H vs Q E hr h => ?_)
  refine ⟨_, (pss_cons (ps_set (i := 0) sc__law_plain.nd rfl (.inl rfl) (pe_lst pa_nil))
      (pss_cons (ps_for PassesOwn.never rfl (pi_range1 (by rfl) T.f_range (pa_cons pe_int pa_nil)) (pg_name (i := 1) sc__law_plain.nd rfl (.inl rfl))
      (pss_cons (ps_set (i := 2) sc__law_plain.nd rfl (.inl rfl) (pe_lst pa_nil))
      (pss_cons (ps_forY PassesOwn.never rfl passF (hr.mono (by decide)) (fun _ _ _ _ _ h => h.elim) (K := K) rfl (pq_c GD_lengths_of_0 (hr.mono (by decide)) (by rfl) T.g_lengths_of T.k_lengths_of (pa_cons (pv 1) pa_nil)) (pg_name (i := 3) sc__law_plain.nd rfl (.inl rfl))
      (pss_cons (ps_expr (pe_bm PySem.F.plainAttrs_list PySem.F.slot_list_append PySem.F.type_list_append mt_append (pv 2) (pa_cons (pv 3) pa_nil)))
      (pss_cons (ps_if (pt_cmpR op_gt (pe_callB (cr_len (K := K) rfl) (by rfl) T.f_len (by decide +kernel) (pa_cons (pv 2) pa_nil)) pe_int (nomark _))
      (pss_cons ps_break pss_nil) pss_nil)
      pss_nil)))
      (pss_cons (ps_expr (pe_bm PySem.F.plainAttrs_list PySem.F.slot_list_append PySem.F.type_list_append mt_append (pv 0) (pa_cons (pv 2) pa_nil)))
      pss_nil))))
      (pss_cons (ps_ret (pv 0)) pss_nil))), ?_⟩
  exact fn_of0 (F := F__law_plain) (envU := fun _ => List.replicate 4 .no) h rfl (fun p c => (ss_own (sn_lst sa_nil) (fun l_found0 => (ss_for (fun (w4 : List D) => [.ow w4, .no, .no, .no]) (si_rg1 (sa_cons se_int sa_nil)) (.s (.s (.s (.s .nil)))) (fun (d5 : D) (w4 : List D) => (sx_name (ss_own (sn_lst sa_nil) (fun l_row6 => (ss_forQn (fun (w10 : List D) => [.ow w4, .fz d5, .ow w10, .no])  (sgen_call (dvs := [V.int 1]) (dds := [D.int 1]) (fun _ _ => (.cons (.int _) .nil)) (sa_cons se_var sa_nil)) (.s (.s (.s (.s .nil)))) (fun (d11 : D) (w10 : List D) => (sx_name (ss_app se_var (fun v13 => (ss_if (fun (w18 : Unit) => [.ow w4, .fz d5, .ow (w10 ++ [v13]), .fz d11]) (sb_tst (se_op sr_gt (se_lend (i := 2) (ds := (w10 ++ [v13])) (se_cb srl_len (sa_cons se_var sa_nil))) se_int)) (ss_bk (.s (.s (.s (.n .nil))))) (ss_nx (.s (.s (.s (.s .nil))))) (fun (w18 : Unit) => (ss_nx (.s (.s (.s (.n .nil))))))))))) (fun (w10 : List D) => (ss_fz (i := 2) rfl (ss_app se_var (fun v19 => (ss_nx (.s (.n (.n (.s .nil)))))))))))))) (fun (w4 : List D) => (ss_fz (i := 0) rfl (ss_ret se_var)))))))
end
end Lw
end
section
set_option Elab.async false
set_option linter.all false
set_option maxRecDepth 100000
set_option maxHeartbeats 4000000
set_option pp.maxSteps 600
namespace Lw
open PySem PySem.Spec PyProof.Rows L2 Gh Gp Gz
section
variable {P : Program} {w : World} {K : PySem.W.Frag} {mg : Str → Option Value} {base : Heap} {f : Addr} {fd : FuncData} {Tb : List (Addr × Str)}
abbrev N_law : List Str := ["_law_script", "_law_pen_here", "_law_turn", "_law_n", "_law_some", "_law_begin", "_law_many", "_law_odd", "_law_heard_here", "_law_rest", "_law_least", "_law_k"]
theorem sc_law : FnScope N_law ["_law_script"] (defScope s_law) := ⟨rfl, rfl, rfl, by decide +kernel, rfl, by decide +kernel, by decide +kernel⟩
def F_law : Tr D :=
  fin (bdF (bd (bd (bd (.ok (.int 6)) fun v1 => (bd (.ok []) fun r2 => .ok (v1 :: r2))) (ul1 rg1)) fun ds => forF (fun (d4 : D) (w3 : Unit) => (bd (bd (bd (.ok .pen) fun v35 => (bd (bd (bd (bd (.ok (.int 1)) fun v31 => (bd (bd (.ok (.int 2)) fun v29 => (bd (bd (.ok (.int 3)) fun v27 => (bd (bd (.ok (.int 4)) fun v25 => (bd (bd (bd (.ok (.int 1)) fun v11 => (bd (bd (bd (.ok .pen) fun v9 => (bd (bd (.ok (.int 999)) fun v7 => (bd (.ok []) fun r8 => .ok (v7 :: r8))) fun r10 => .ok (v9 :: r10))) (ul2 F_draw)) fun v12 => addD v11 v12)) fun v23 => (bd (bd (.ok (.int 10000000000000000000000000000000000000000)) fun v21 => (bd (bd (bd (.ok (.int 1)) fun v17 => (bd (bd (bd (.ok .pen) fun v15 => (bd (bd (.ok (.int 10000000000000000000000000000000000000000)) fun v13 => (bd (.ok []) fun r14 => .ok (v13 :: r14))) fun r16 => .ok (v15 :: r16))) (ul2 F_draw)) fun v18 => addD v17 v18)) fun v19 => (bd (.ok []) fun r20 => .ok (v19 :: r20))) fun r22 => .ok (v21 :: r22))) fun r24 => .ok (v23 :: r24))) fun r26 => .ok (v25 :: r26))) fun r28 => .ok (v27 :: r28))) fun r30 => .ok (v29 :: r30))) fun r32 => .ok (v31 :: r32))) fun ds => if ds.length ≤ sizeLine then .ok (.lst ds) else .bad) fun v33 => (bd (.ok []) fun r34 => .ok (v33 :: r34))) fun r36 => .ok (v35 :: r36))) (ul2 F__law_pick)) fun l_n5 => (bdF (W' := Unit) (bd (bd (bd (bd (bd (nox (bd (bd (.ok l_n5) fun v37 => (bd (.ok []) fun r38 => .ok (v37 :: r38))) (ul1 F_rest_of))) fun v39 => (bd (.ok []) fun r40 => .ok (v39 :: r40))) (ul1 reprE)) fun v47 => (bd (bd (bd (bd (bd (bd (.ok l_n5) fun v41 => (bd (.ok []) fun r42 => .ok (v41 :: r42))) (ul1 intD)) fun v43 => (bd (.ok (.int 4)) fun v44 => modD v43 v44)) fun v45 => (bd (.ok []) fun r46 => .ok (v45 :: r46))) (ul1 reprE)) fun v48 => neD v47 v48)) asB) fun k => if k = true then (bd (.ok (.bl false)) fun d => .ok (.rt d)) else (.ok (.nx ()))) fun (w49 : Unit) => (bd (bd (bd (.ok (.int 1)) fun v71 => (bd (bd (.ok (.int 2)) fun v69 => (bd (bd (.ok (.int 3)) fun v67 => (bd (bd (.ok (.int 4)) fun v65 => (bd (bd (.ok (.int 5)) fun v63 => (bd (bd (.ok l_n5) fun v61 => (bd (bd (bd (.ok (.int 1000000000000000000000000000000)) fun v55 => (bd (bd (bd (.ok .pen) fun v53 => (bd (bd (.ok (.int 1000000000)) fun v51 => (bd (.ok []) fun r52 => .ok (v51 :: r52))) fun r54 => .ok (v53 :: r54))) (ul2 F_draw)) fun v56 => addD v55 v56)) fun v59 => (bd (bd (.ok (.int 100000000000000000000000000000000000000000000000000)) fun v57 => (bd (.ok []) fun r58 => .ok (v57 :: r58))) fun r60 => .ok (v59 :: r60))) fun r62 => .ok (v61 :: r62))) fun r64 => .ok (v63 :: r64))) fun r66 => .ok (v65 :: r66))) fun r68 => .ok (v67 :: r68))) fun r70 => .ok (v69 :: r70))) fun r72 => .ok (v71 :: r72))) fun ds => if ds.length ≤ sizeLine then .ok (.lst ds) else .bad) fun l_some49 => (bd (bd (bd (bd (bd (.ok .pen) fun v75 => (bd (bd (.ok (.int 4)) fun v73 => (bd (.ok []) fun r74 => .ok (v73 :: r74))) fun r76 => .ok (v75 :: r76))) (ul2 F_draw)) fun v83 => (bd (bd (bd (bd (.ok .pen) fun v79 => (bd (bd (.ok l_some49) fun v77 => (bd (.ok []) fun r78 => .ok (v77 :: r78))) fun r80 => .ok (v79 :: r80))) (ul2 F__law_pick)) fun v81 => (bd (.ok []) fun r82 => .ok (v81 :: r82))) fun r84 => .ok (v83 :: r84))) fun ds => if ds.length ≤ sizeLine then .ok (.tup ds) else .bad) fun d86 => un2 d86 fun l_rest84 l_least84 => (bd (.ok l_least84) fun l_begin86 => (bdF (whF (fun (w88 : D) => (bd (bd (bd (bd (bd (.ok w88) fun v89 => (bd (.ok []) fun r90 => .ok (v89 :: r90))) (ul1 intD)) fun v91 => (bd (.ok (.int 4)) fun v92 => modD v91 v92)) fun v93 => (bd (.ok l_rest84) fun v94 => neD v93 v94)) asB)) (fun (w88 : D) => (bd (bd (.ok w88) fun v96 => (bd (.ok (.int 1)) fun v97 => addD v96 v97)) fun l_begin94 => (.ok (.nx l_begin94)))) 6 l_begin86) fun (w88 : D) => (bd (bd (.ok (.int 1)) fun v103 => (bd (bd (bd (.ok .pen) fun v101 => (bd (bd (.ok (.int 30)) fun v99 => (bd (.ok []) fun r100 => .ok (v99 :: r100))) fun r102 => .ok (v101 :: r102))) (ul2 F_draw)) fun v104 => addD v103 v104)) fun l_many97 => (bdF (W' := Unit) (bd (bd (bd (nox (bd (bd (.ok l_rest84) fun v109 => (bd (bd (.ok l_least84) fun v107 => (bd (bd (.ok l_many97) fun v105 => (bd (.ok []) fun r106 => .ok (v105 :: r106))) fun r108 => .ok (v107 :: r108))) fun r110 => .ok (v109 :: r110))) (ul3 F__law_first))) fun v118 => (bd (bd (bd (bd (.ok l_many97) fun v111 => (bd (.ok []) fun r112 => .ok (v111 :: r112))) (ul1 rg1)) fun ds => bd (lcF (fun l_k112 => nox (bd (bd (.ok w88) fun v116 => (bd (bd (.ok (.int 4)) fun v114 => (bd (.ok l_k112) fun v115 => mulD v114 v115)) fun v117 => addD v116 v117)) fun y => .ok (some y))) ds) fun r => .ok (.lst r)) fun v119 => neD v118 v119)) asB) fun k => if k = true then (bd (.ok (.bl false)) fun d => .ok (.rt d)) else (.ok (.nx ()))) fun (w120 : Unit) => (bd (bd (bd (.ok .pen) fun v146 => (bd (bd (bd (bd (.ok (.int 0)) fun v142 => (bd (bd (bd (.ok (.int 1)) negD) fun v140 => (bd (bd (.ok .non) fun v138 => (bd (bd (.ok (.bl true)) fun v136 => (bd (bd (.ok (.str "1")) fun v134 => (bd (bd (bd (.ok (.int 10000000000000000000000000000000000000000)) fun v122 => (bd (.ok (.int 1)) fun v123 => addD v122 v123)) fun v132 => (bd (bd (bd (bd (.ok (.int 1)) fun v124 => (bd (.ok []) fun r125 => .ok (v124 :: r125))) fun ds => if ds.length ≤ sizeLine then .ok (.tup ds) else .bad) fun v130 => (bd (bd (bd (.ok []) fun ds => if ds.length ≤ sizeLine then .ok (.lst ds) else .bad) fun v128 => (bd (bd (.ok .dct) fun v126 => (bd (.ok []) fun r127 => .ok (v126 :: r127))) fun r129 => .ok (v128 :: r129))) fun r131 => .ok (v130 :: r131))) fun r133 => .ok (v132 :: r133))) fun r135 => .ok (v134 :: r135))) fun r137 => .ok (v136 :: r137))) fun r139 => .ok (v138 :: r139))) fun r141 => .ok (v140 :: r141))) fun r143 => .ok (v142 :: r143))) fun ds => if ds.length ≤ sizeLine then .ok (.lst ds) else .bad) fun v144 => (bd (.ok []) fun r145 => .ok (v144 :: r145))) fun r147 => .ok (v146 :: r147))) (ul2 F__law_pick)) fun l_odd120 => (bdF (W' := Unit) (bd (bd (bd (nox (F__law_heard (bd (bd (.ok l_odd120) fun v148 => (bd (.ok []) fun r149 => .ok (v148 :: r149))) (ul1 F_rest_of)))) fun v162 => (bd (bd (bd (bd (bd (.ok (.bl true)) fun v154 => (bd (bd (.ok (.bl false)) fun v152 => (bd (bd (.ok (.bl false)) fun v150 => (bd (.ok []) fun r151 => .ok (v150 :: r151))) fun r153 => .ok (v152 :: r153))) fun r155 => .ok (v154 :: r155))) fun ds => if ds.length ≤ sizeLine then .ok (.lst ds) else .bad) fun v160 => (bd (bd (bd (bd (.ok l_odd120) fun v156 => (bd (.ok []) fun r157 => .ok (v156 :: r157))) (ul1 reprE)) fun v158 => (bd (.ok []) fun r159 => .ok (v158 :: r159))) fun r161 => .ok (v160 :: r161))) fun ds => if ds.length ≤ sizeLine then .ok (.tup ds) else .bad) fun v163 => neD v162 v163)) asB) fun k => if k = true then (bd (.ok (.bl false)) fun d => .ok (.rt d)) else (.ok (.nx ()))) fun (w164 : Unit) => (bd (bd (bd (.ok .pen) fun v190 => (bd (bd (bd (bd (.ok (.int 4)) fun v186 => (bd (bd (bd (.ok (.int 1)) negD) fun v184 => (bd (bd (.ok .non) fun v182 => (bd (bd (.ok (.bl true)) fun v180 => (bd (bd (.ok (.bl false)) fun v178 => (bd (bd (.ok (.str "1")) fun v176 => (bd (bd (.ok (.int 10000000000000000000000000000000000000000)) fun v174 => (bd (bd (bd (bd (.ok (.int 1)) fun v166 => (bd (.ok []) fun r167 => .ok (v166 :: r167))) fun ds => if ds.length ≤ sizeLine then .ok (.tup ds) else .bad) fun v172 => (bd (bd (bd (bd (.ok (.int 0)) fun v168 => (bd (.ok []) fun r169 => .ok (v168 :: r169))) fun ds => if ds.length ≤ sizeLine then .ok (.lst ds) else .bad) fun v170 => (bd (.ok []) fun r171 => .ok (v170 :: r171))) fun r173 => .ok (v172 :: r173))) fun r175 => .ok (v174 :: r175))) fun r177 => .ok (v176 :: r177))) fun r179 => .ok (v178 :: r179))) fun r181 => .ok (v180 :: r181))) fun r183 => .ok (v182 :: r183))) fun r185 => .ok (v184 :: r185))) fun r187 => .ok (v186 :: r187))) fun ds => if ds.length ≤ sizeLine then .ok (.lst ds) else .bad) fun v188 => (bd (.ok []) fun r189 => .ok (v188 :: r189))) fun r191 => .ok (v190 :: r191))) (ul2 F__law_pick)) fun l_odd164 => (bd (bd (bd (nox (F__law_heard (bd (bd (.ok l_odd164) fun v197 => (bd (bd (.ok (.int 1)) fun v195 => (bd (bd (.ok (.int 1)) fun v193 => (bd (.ok []) fun r194 => .ok (v193 :: r194))) fun r196 => .ok (v195 :: r196))) fun r198 => .ok (v197 :: r198))) (ul3 F__law_first)))) fun v199 => (bd (.ok []) fun r200 => .ok (v199 :: r200))) fun ds => if ds.length ≤ sizeLine then .ok ds else .bad) fun l_heard_here191 => (bd (nox (F__law_heard (bd (bd (.ok l_odd164) fun v205 => (bd (bd (.ok (.int 0)) fun v203 => (bd (bd (.ok (.int 1)) fun v201 => (bd (.ok []) fun r202 => .ok (v201 :: r202))) fun r204 => .ok (v203 :: r204))) fun r206 => .ok (v205 :: r206))) (ul3 F__law_first)))) fun (v207 : D) => if l_heard_here191.length < sizeLine then (bd (nox (F__law_heard (bd (bd (.ok l_odd164) fun v212 => (bd (bd (.ok .non) fun v210 => (bd (bd (.ok (.int 1)) fun v208 => (bd (.ok []) fun r209 => .ok (v208 :: r209))) fun r211 => .ok (v210 :: r211))) fun r213 => .ok (v212 :: r213))) (ul3 F__law_first)))) fun (v214 : D) => if (l_heard_here191 ++ [v207]).length < sizeLine then (bdF (W' := Unit) (bd (bd (bd (.ok (.lst ((l_heard_here191 ++ [v207]) ++ [v214]))) fun v231 => (bd (bd (bd (bd (bd (bd (bd (bd (.ok (.bl false)) fun v219 => (bd (bd (.ok (.bl true)) fun v217 => (bd (bd (.ok (.bl false)) fun v215 => (bd (.ok []) fun r216 => .ok (v215 :: r216))) fun r218 => .ok (v217 :: r218))) fun r220 => .ok (v219 :: r220))) fun ds => if ds.length ≤ sizeLine then .ok (.lst ds) else .bad) fun v225 => (bd (bd (bd (bd (.ok l_odd164) fun v221 => (bd (.ok []) fun r222 => .ok (v221 :: r222))) (ul1 reprE)) fun v223 => (bd (.ok []) fun r224 => .ok (v223 :: r224))) fun r226 => .ok (v225 :: r226))) fun ds => if ds.length ≤ sizeLine then .ok (.tup ds) else .bad) fun v227 => (bd (.ok []) fun r228 => .ok (v227 :: r228))) fun ds => if ds.length ≤ sizeLine then .ok (.lst ds) else .bad) fun v229 => (bd (.ok (.int 3)) fun v230 => mulD v229 v230)) fun v232 => neD v231 v232)) asB) fun k => if k = true then (bd (.ok (.bl false)) fun d => .ok (.rt d)) else (.ok (.nx ()))) fun (w233 : Unit) => (bd (bd (bd (.ok .pen) fun v253 => (bd (bd (bd (bd (.ok (.int 0)) fun v249 => (bd (bd (bd (.ok (.int 3)) negD) fun v247 => (bd (bd (.ok .non) fun v245 => (bd (bd (.ok (.bl true)) fun v243 => (bd (bd (.ok (.str "1")) fun v241 => (bd (bd (bd (bd (.ok (.int 1)) fun v235 => (bd (.ok []) fun r236 => .ok (v235 :: r236))) fun ds => if ds.length ≤ sizeLine then .ok (.tup ds) else .bad) fun v239 => (bd (bd (bd (.ok []) fun ds => if ds.length ≤ sizeLine then .ok (.lst ds) else .bad) fun v237 => (bd (.ok []) fun r238 => .ok (v237 :: r238))) fun r240 => .ok (v239 :: r240))) fun r242 => .ok (v241 :: r242))) fun r244 => .ok (v243 :: r244))) fun r246 => .ok (v245 :: r246))) fun r248 => .ok (v247 :: r248))) fun r250 => .ok (v249 :: r250))) fun ds => if ds.length ≤ sizeLine then .ok (.lst ds) else .bad) fun v251 => (bd (.ok []) fun r252 => .ok (v251 :: r252))) fun r254 => .ok (v253 :: r254))) (ul2 F__law_pick)) fun l_odd233 => (bdF (W' := Unit) (bd (bd (bd (nox (F__law_heard (bd (bd (.ok l_rest84) fun v259 => (bd (bd (.ok l_odd233) fun v257 => (bd (bd (.ok (.int 1)) fun v255 => (bd (.ok []) fun r256 => .ok (v255 :: r256))) fun r258 => .ok (v257 :: r258))) fun r260 => .ok (v259 :: r260))) (ul3 F__law_first)))) fun v273 => (bd (bd (bd (bd (bd (.ok (.bl false)) fun v265 => (bd (bd (.ok (.bl false)) fun v263 => (bd (bd (.ok (.bl true)) fun v261 => (bd (.ok []) fun r262 => .ok (v261 :: r262))) fun r264 => .ok (v263 :: r264))) fun r266 => .ok (v265 :: r266))) fun ds => if ds.length ≤ sizeLine then .ok (.lst ds) else .bad) fun v271 => (bd (bd (bd (bd (.ok l_odd233) fun v267 => (bd (.ok []) fun r268 => .ok (v267 :: r268))) (ul1 reprE)) fun v269 => (bd (.ok []) fun r270 => .ok (v269 :: r270))) fun r272 => .ok (v271 :: r272))) fun ds => if ds.length ≤ sizeLine then .ok (.tup ds) else .bad) fun v274 => neD v273 v274)) asB) fun k => if k = true then (bd (.ok (.bl false)) fun d => .ok (.rt d)) else (.ok (.nx ()))) fun (w275 : Unit) => (.ok (.nx ()))))) else .bad) else .bad)))))))))))))) ds ()) fun (w3 : Unit) => (bd (bd (bd (bd (bd (.ok []) (ul0 F__law_plain)) fun v308 => (bd (bd (bd (bd (bd (.ok (.int 4)) fun v280 => (bd (bd (.ok (.int 8)) fun v278 => (bd (bd (.ok (.int 12)) fun v276 => (bd (.ok []) fun r277 => .ok (v276 :: r277))) fun r279 => .ok (v278 :: r279))) fun r281 => .ok (v280 :: r281))) fun ds => if ds.length ≤ sizeLine then .ok (.lst ds) else .bad) fun v306 => (bd (bd (bd (bd (.ok (.int 1)) fun v286 => (bd (bd (.ok (.int 5)) fun v284 => (bd (bd (.ok (.int 9)) fun v282 => (bd (.ok []) fun r283 => .ok (v282 :: r283))) fun r285 => .ok (v284 :: r285))) fun r287 => .ok (v286 :: r287))) fun ds => if ds.length ≤ sizeLine then .ok (.lst ds) else .bad) fun v304 => (bd (bd (bd (bd (.ok (.int 2)) fun v292 => (bd (bd (.ok (.int 6)) fun v290 => (bd (bd (.ok (.int 10)) fun v288 => (bd (.ok []) fun r289 => .ok (v288 :: r289))) fun r291 => .ok (v290 :: r291))) fun r293 => .ok (v292 :: r293))) fun ds => if ds.length ≤ sizeLine then .ok (.lst ds) else .bad) fun v302 => (bd (bd (bd (bd (.ok (.int 3)) fun v298 => (bd (bd (.ok (.int 7)) fun v296 => (bd (bd (.ok (.int 11)) fun v294 => (bd (.ok []) fun r295 => .ok (v294 :: r295))) fun r297 => .ok (v296 :: r297))) fun r299 => .ok (v298 :: r299))) fun ds => if ds.length ≤ sizeLine then .ok (.lst ds) else .bad) fun v300 => (bd (.ok []) fun r301 => .ok (v300 :: r301))) fun r303 => .ok (v302 :: r303))) fun r305 => .ok (v304 :: r305))) fun r307 => .ok (v306 :: r307))) fun ds => if ds.length ≤ sizeLine then .ok (.lst ds) else .bad) fun v309 => eqD v308 v309)) asB) fun k => if k = true then (bd (nox (bd (bd (.ok (.int 6)) fun v310 => (bd (.ok []) fun r311 => .ok (v310 :: r311))) (ul1 F_rest_of))) fun v312 => (bd (.ok (.int 2)) fun v313 => eqD v312 v313)) else .ok (.bl false)) fun d => .ok (.rt d)))
theorem ok_law (F : FnA K d_law fd) (T : Tx K mg) (hyes : Yes F_law) (G__law_pen : PromO P w K mg base CX0 1 (gd "_law_pen" K) [] (spPn K)) (G__law_pick : PromO P w K mg base CX0 2 (gd "_law_pick" K) [] (spF K Tb (ul2 F__law_pick))) (G__law_draw : PromO P w K mg base CX0 1 (gd "_law_draw" K) [] (spF K Tb (ul2 F_draw))) (G_rest_of : PromO P w K mg base (L2.CX P w) 5 (gd "rest_of" K) [] (spF K Tb (ul1 F_rest_of))) (G__law_first : PromO P w K mg base (L2.CX P w) 9 (gd "_law_first" K) [] (spF K Tb (ul3 F__law_first))) (GH__law_heard : HrdP K d__law_heard ["_law_ask"]) (LD_law : LamD base mg K Tb d_law ("law", none)) (G__law_plain : PromO P w K mg base CX0 9 (gd "_law_plain" K) [] (spF K Tb (ul0 F__law_plain))) : FnG P w K mg base CX0 12 (d_law.adr K) fd ["_law_script"] (spLaw K Tb) := by
  obtain ⟨fdH, FH, hbH⟩ := GH__law_heard
  obtain ⟨ocH, odH, dVH, kVH, docH, pmH, anH, cdvH, ctH, oslH, rfl, lkH, hcH, _, _⟩ := FH.ex
  have ecode : fd.code = .ref (He.cT K ("law", none)).1 := codeOf_fn (p := ("law", none)) F
  refine fnG1 F sc_law (fun vs H Q E h => spLaw_len h) (fun cdv A outer s H vs Q E hcdv hr hg h => ?_)
  have hcode : cdv = .ref (He.cT K ("law", none)).1 := hcdv.trans ecode
  have hu100 := Nat.lt_of_le_of_lt (Nat.add_le_add_left (show 102 ≤ 16 * 11 + 200 by decide) _) (show _ + (16 * 11 + 200) < cLine from hr.un)
  refine ⟨_, pss_cons (ps_set (i := 1) sc_law.nd rfl (.inl rfl) (pe_g (PromO.call G__law_pen (hr.mono (by decide)) (passA (E := E))) (by rfl) T.g__law_pen T.k__law_pen (pa_cons (pv 0) pa_nil)))
      (pss_cons (ps_for PassesOwn.never rfl (pi_range1 (by rfl) T.f_range (pa_cons pe_int pa_nil)) (pg_name (i := 2) sc_law.nd rfl (.inl rfl))
      (pss_cons (ps_set (i := 3) sc_law.nd rfl (.inl rfl) (pe_g (PromO.call G__law_pick (hr.mono (by decide)) (passA (E := EF))) (by rfl) T.g__law_pick T.k__law_pick (pa_cons (pv 1) (pa_cons (pe_lst (pa_cons pe_int (pa_cons pe_int (pa_cons pe_int (pa_cons pe_int (pa_cons (pe_op (op_addA (K := K) rfl) pe_int (pe_g (PromO.call G__law_draw (hr.mono (by decide)) (passA (E := EF))) (by rfl) T.g__law_draw T.k__law_draw (pa_cons (pv 1) (pa_cons pe_int pa_nil)))) (pa_cons (pe_op (op_powK 10000000000000000000000000000000000000000) pe_int pe_int) (pa_cons (pe_op (op_addA (K := K) rfl) pe_int (pe_g (PromO.call G__law_draw (hr.mono (by decide)) (passA (E := EF))) (by rfl) T.g__law_draw T.k__law_draw (pa_cons (pv 1) (pa_cons (pe_op (op_powK 10000000000000000000000000000000000000000) pe_int pe_int) pa_nil)))) pa_nil)))))))) pa_nil))))
      (pss_cons (ps_if (pt_cmpR (op_neA (K := K) rfl hr.units) (pe_callB (call_showE (K := K) rfl hu100 hg) (by rfl) T.f_repr (by decide +kernel) (pa_cons (pe_g (PromO.call G_rest_of (hr.mono (by decide)) passF) (by rfl) T.g_rest_of T.k_rest_of (pa_cons (pv 3) pa_nil)) pa_nil)) (pe_callB (call_showE (K := K) rfl hu100 hg) (by rfl) T.f_repr (by decide +kernel) (pa_cons (pe_op op_mod (pe_callTy cr_int (by rfl) T.f_int (by decide +kernel) (pa_cons (pv 3) pa_nil)) pe_int) pa_nil)) (nomark _))
      (pss_cons (ps_ret pe_bl) pss_nil) pss_nil)
      (pss_cons (ps_set (i := 4) sc_law.nd rfl (.inl rfl) (pe_lst (pa_cons pe_int (pa_cons pe_int (pa_cons pe_int (pa_cons pe_int (pa_cons pe_int (pa_cons (pv 3) (pa_cons (pe_op (op_addA (K := K) rfl) (pe_op (op_powK 1000000000000000000000000000000) pe_int pe_int) (pe_g (PromO.call G__law_draw (hr.mono (by decide)) (passA (E := EF))) (by rfl) T.g__law_draw T.k__law_draw (pa_cons (pv 1) (pa_cons (pe_op (op_powK 1000000000) pe_int pe_int) pa_nil)))) (pa_cons (pe_op (op_powK 100000000000000000000000000000000000000000000000000) pe_int pe_int) pa_nil))))))))))
      (pss_cons (ps_asg (pe_tup (pa_cons (pe_g (PromO.call G__law_draw (hr.mono (by decide)) (passA (E := EF))) (by rfl) T.g__law_draw T.k__law_draw (pa_cons (pv 1) (pa_cons pe_int pa_nil))) (pa_cons (pe_g (PromO.call G__law_pick (hr.mono (by decide)) (passA (E := EF))) (by rfl) T.g__law_pick T.k__law_pick (pa_cons (pv 1) (pa_cons (pv 4) pa_nil))) pa_nil))) (pg_tup rfl (pgs_cons (pg_name (i := 9) sc_law.nd rfl (.inr rfl)) (pgs_cons (pg_name (i := 10) sc_law.nd rfl (.inl rfl)) pgs_nil))))
      (pss_cons (ps_set (i := 5) sc_law.nd rfl (.inr rfl) (pv 10))
      (pss_cons (ps_while PassesOwn.never (pt_cmpR (op_neA (K := K) rfl hr.units) (pe_op op_mod (pe_callTy cr_int (by rfl) T.f_int (by decide +kernel) (pa_cons (pv 5) pa_nil)) pe_int) (pv 9) (nomark _))
      (pss_cons (ps_set (i := 5) sc_law.nd rfl (.inr rfl) (pe_op (op_addA (K := K) rfl) (pv 5) pe_int))
      pss_nil))
      (pss_cons (ps_set (i := 6) sc_law.nd rfl (.inl rfl) (pe_op (op_addA (K := K) rfl) pe_int (pe_g (PromO.call G__law_draw (hr.mono (by decide)) (passA (E := EF))) (by rfl) T.g__law_draw T.k__law_draw (pa_cons (pv 1) (pa_cons pe_int pa_nil)))))
      (pss_cons (ps_if (pt_cmpR (op_neA (K := K) rfl hr.units) (pe_g (PromO.call G__law_first (hr.mono (by decide)) passF) (by rfl) T.g__law_first T.k__law_first (pa_cons (pv 9) (pa_cons (pv 10) (pa_cons (pv 6) pa_nil)))) (pe_lc (own := [("_law_k", 11)]) (g := gName 11) (by rfl) sc_law.nd (pi_range1 (by rfl) T.f_range (pa_cons (pv 6) pa_nil)) (blkOk_by (own := [("_law_k", 11)]) (N := N_law) (sc := defScope s_law) (by decide +kernel)) (fun _ _ _ _ _ => pg_name (i := 11) sc_law.nd rfl (Or.inl rfl)) (fun _ _ _ _ _ => pts_nil) (fun _ _ _ _ _ => (pe_op (op_addA (K := K) rfl) (pv 5) (pe_op op_mulA pe_int (pv 11))))) (nomark _))
      (pss_cons (ps_ret pe_bl) pss_nil) pss_nil)
      (pss_cons (ps_set (i := 7) sc_law.nd rfl (.inr rfl) (pe_g (PromO.call G__law_pick (hr.mono (by decide)) (passA (E := EF))) (by rfl) T.g__law_pick T.k__law_pick (pa_cons (pv 1) (pa_cons (pe_lst (pa_cons pe_int (pa_cons (pe_un un_neg pe_int) (pa_cons pe_non (pa_cons pe_bl (pa_cons pe_str (pa_cons (pe_op (op_addA (K := K) rfl) (pe_op (op_powK 10000000000000000000000000000000000000000) pe_int pe_int) pe_int) (pa_cons (pe_tup (pa_cons pe_int pa_nil)) (pa_cons (pe_lst pa_nil) (pa_cons pe_dnewK pa_nil)))))))))) pa_nil))))
      (pss_cons (ps_if (pt_cmpR (op_neA (K := K) rfl hr.units) (LamX.pe_lamcall (T := Tb) (k := 9) (by rfl) T.g__law_heard T.k__law_heard lkH hcH hbH sc__law_heard rfl (.inl rfl) (ok__law_heard (Tb := Tb) T (Nat.lt_of_le_of_lt (Nat.add_le_add_left (show 105 ≤ 16 * 11 + 200 by decide) _) (show _ + (16 * 11 + 200) < cLine from hr.un)) hg) LD_law.tb hcode LD_law.mem LD_law.hu (hr.mono (by decide)) (LamX.lamS_by (by show LamX.lamSB (defScope s_law) _ = true; decide +kernel)) rfl (fun _ _ _ _ _ => rfl) (fun A outer s H E f c' hr => (pe_g (PromO.call G_rest_of (hr.mono (by decide)) (pass_on rfl rfl rfl rfl)) (by rfl) T.g_rest_of T.k_rest_of (pa_cons (pv 7) pa_nil)))) (pe_tup (pa_cons (pe_lst (pa_cons pe_bl (pa_cons pe_bl (pa_cons pe_bl pa_nil)))) (pa_cons (pe_callB (call_showE (K := K) rfl hu100 hg) (by rfl) T.f_repr (by decide +kernel) (pa_cons (pv 7) pa_nil)) pa_nil))) (nomark _))
      (pss_cons (ps_ret pe_bl) pss_nil) pss_nil)
      (pss_cons (ps_set (i := 7) sc_law.nd rfl (.inr rfl) (pe_g (PromO.call G__law_pick (hr.mono (by decide)) (passA (E := EF))) (by rfl) T.g__law_pick T.k__law_pick (pa_cons (pv 1) (pa_cons (pe_lst (pa_cons pe_int (pa_cons (pe_un un_neg pe_int) (pa_cons pe_non (pa_cons pe_bl (pa_cons pe_bl (pa_cons pe_str (pa_cons (pe_op (op_powK 10000000000000000000000000000000000000000) pe_int pe_int) (pa_cons (pe_tup (pa_cons pe_int pa_nil)) (pa_cons (pe_lst (pa_cons pe_int pa_nil)) pa_nil)))))))))) pa_nil))))
      (pss_cons (ps_set (i := 8) sc_law.nd rfl (.inl rfl) (pe_lst (pa_cons (LamX.pe_lamcall (T := Tb) (k := 9) (by rfl) T.g__law_heard T.k__law_heard lkH hcH hbH sc__law_heard rfl (.inl rfl) (ok__law_heard (Tb := Tb) T (Nat.lt_of_le_of_lt (Nat.add_le_add_left (show 105 ≤ 16 * 11 + 200 by decide) _) (show _ + (16 * 11 + 200) < cLine from hr.un)) hg) LD_law.tb hcode LD_law.mem LD_law.hu (hr.mono (by decide)) (LamX.lamS_by (by show LamX.lamSB (defScope s_law) _ = true; decide +kernel)) rfl (fun _ _ _ _ _ => rfl) (fun A outer s H E f c' hr => (pe_g (PromO.call G__law_first (hr.mono (by decide)) (pass_on rfl rfl rfl rfl)) (by rfl) T.g__law_first T.k__law_first (pa_cons (pv 7) (pa_cons pe_int (pa_cons pe_int pa_nil)))))) pa_nil)))
      (pss_cons (ps_expr (pe_bm PySem.F.plainAttrs_list PySem.F.slot_list_append PySem.F.type_list_append mt_append (pv 8) (pa_cons (LamX.pe_lamcall (T := Tb) (k := 9) (by rfl) T.g__law_heard T.k__law_heard lkH hcH hbH sc__law_heard rfl (.inl rfl) (ok__law_heard (Tb := Tb) T (Nat.lt_of_le_of_lt (Nat.add_le_add_left (show 105 ≤ 16 * 11 + 200 by decide) _) (show _ + (16 * 11 + 200) < cLine from hr.un)) hg) LD_law.tb hcode LD_law.mem LD_law.hu (hr.mono (by decide)) (LamX.lamS_by (by show LamX.lamSB (defScope s_law) _ = true; decide +kernel)) rfl (fun _ _ _ _ _ => rfl) (fun A outer s H E f c' hr => (pe_g (PromO.call G__law_first (hr.mono (by decide)) (pass_on rfl rfl rfl rfl)) (by rfl) T.g__law_first T.k__law_first (pa_cons (pv 7) (pa_cons pe_int (pa_cons pe_int pa_nil)))))) pa_nil)))
      (pss_cons (ps_expr (pe_bm PySem.F.plainAttrs_list PySem.F.slot_list_append PySem.F.type_list_append mt_append (pv 8) (pa_cons (LamX.pe_lamcall (T := Tb) (k := 9) (by rfl) T.g__law_heard T.k__law_heard lkH hcH hbH sc__law_heard rfl (.inl rfl) (ok__law_heard (Tb := Tb) T (Nat.lt_of_le_of_lt (Nat.add_le_add_left (show 105 ≤ 16 * 11 + 200 by decide) _) (show _ + (16 * 11 + 200) < cLine from hr.un)) hg) LD_law.tb hcode LD_law.mem LD_law.hu (hr.mono (by decide)) (LamX.lamS_by (by show LamX.lamSB (defScope s_law) _ = true; decide +kernel)) rfl (fun _ _ _ _ _ => rfl) (fun A outer s H E f c' hr => (pe_g (PromO.call G__law_first (hr.mono (by decide)) (pass_on rfl rfl rfl rfl)) (by rfl) T.g__law_first T.k__law_first (pa_cons (pv 7) (pa_cons pe_non (pa_cons pe_int pa_nil)))))) pa_nil)))
      (pss_cons (ps_if (pt_cmpR (op_neA (K := K) rfl hr.units) (pv 8) (pe_op op_mulA (pe_lst (pa_cons (pe_tup (pa_cons (pe_lst (pa_cons pe_bl (pa_cons pe_bl (pa_cons pe_bl pa_nil)))) (pa_cons (pe_callB (call_showE (K := K) rfl hu100 hg) (by rfl) T.f_repr (by decide +kernel) (pa_cons (pv 7) pa_nil)) pa_nil))) pa_nil)) pe_int) (nomark _))
      (pss_cons (ps_ret pe_bl) pss_nil) pss_nil)
      (pss_cons (ps_set (i := 7) sc_law.nd rfl (.inr rfl) (pe_g (PromO.call G__law_pick (hr.mono (by decide)) (passA (E := EF))) (by rfl) T.g__law_pick T.k__law_pick (pa_cons (pv 1) (pa_cons (pe_lst (pa_cons pe_int (pa_cons (pe_un un_neg pe_int) (pa_cons pe_non (pa_cons pe_bl (pa_cons pe_str (pa_cons (pe_tup (pa_cons pe_int pa_nil)) (pa_cons (pe_lst pa_nil) pa_nil)))))))) pa_nil))))
      (pss_cons (ps_if (pt_cmpR (op_neA (K := K) rfl hr.units) (LamX.pe_lamcall (T := Tb) (k := 9) (by rfl) T.g__law_heard T.k__law_heard lkH hcH hbH sc__law_heard rfl (.inl rfl) (ok__law_heard (Tb := Tb) T (Nat.lt_of_le_of_lt (Nat.add_le_add_left (show 105 ≤ 16 * 11 + 200 by decide) _) (show _ + (16 * 11 + 200) < cLine from hr.un)) hg) LD_law.tb hcode LD_law.mem LD_law.hu (hr.mono (by decide)) (LamX.lamS_by (by show LamX.lamSB (defScope s_law) _ = true; decide +kernel)) rfl (fun _ _ _ _ _ => rfl) (fun A outer s H E f c' hr => (pe_g (PromO.call G__law_first (hr.mono (by decide)) (pass_on rfl rfl rfl rfl)) (by rfl) T.g__law_first T.k__law_first (pa_cons (pv 9) (pa_cons (pv 7) (pa_cons pe_int pa_nil)))))) (pe_tup (pa_cons (pe_lst (pa_cons pe_bl (pa_cons pe_bl (pa_cons pe_bl pa_nil)))) (pa_cons (pe_callB (call_showE (K := K) rfl hu100 hg) (by rfl) T.f_repr (by decide +kernel) (pa_cons (pv 7) pa_nil)) pa_nil))) (nomark _))
      (pss_cons (ps_ret pe_bl) pss_nil) pss_nil)
      pss_nil))))))))))))))))))
      (pss_cons (ps_ret (pe_and (pe_cmpR (op_eqA (K := K) rfl hr.units) (pe_g0 (PromO.call G__law_plain (hr.mono (by decide)) (passA (E := EF))) (by rfl) T.g__law_plain T.k__law_plain) (pe_lst (pa_cons (pe_lst (pa_cons pe_int (pa_cons pe_int (pa_cons pe_int pa_nil)))) (pa_cons (pe_lst (pa_cons pe_int (pa_cons pe_int (pa_cons pe_int pa_nil)))) (pa_cons (pe_lst (pa_cons pe_int (pa_cons pe_int (pa_cons pe_int pa_nil)))) (pa_cons (pe_lst (pa_cons pe_int (pa_cons pe_int (pa_cons pe_int pa_nil)))) pa_nil))))) (nomark _)) (pe_one (pe_cmpR (op_eqA (K := K) rfl hr.units) (pe_g (PromO.call G_rest_of (hr.mono (by decide)) passF) (by rfl) T.g_rest_of T.k_rest_of (pa_cons pe_int pa_nil)) pe_int (nomark _))))) pss_nil)), ?_⟩
  exact law_of (N := N_law) (i := 1) (n := 11) (F := F_law) (envU := fun _ => List.replicate 12 .no) hyes h rfl (by decide) (by decide) rfl (fun p c => (ss_for (fun (w3 : Unit) => [.no, .fz .pen, .no, .no, .no, .no, .no, .no, .no, .no, .no, .no]) (si_rg1 (sa_cons se_int sa_nil)) (.s (.s (.s (.s (.s (.s (.s (.s (.s (.s (.s (.s .nil)))))))))))) (fun (d4 : D) (w3 : Unit) => (sx_name (ss_asg (se_cl srl_sp0 (sa_cons se_var (sa_cons (se_lst (sa_cons se_int (sa_cons se_int (sa_cons se_int (sa_cons se_int (sa_cons (se_op sr_add se_int (se_cl srl_sp0 (sa_cons se_var (sa_cons se_int sa_nil)))) (sa_cons (se_powK (by decide) (by decide) (by decide)) (sa_cons (se_op sr_add se_int (se_cl srl_sp0 (sa_cons se_var (sa_cons (se_powK (by decide) (by decide) (by decide)) sa_nil)))) sa_nil)))))))) sa_nil))) (fun l_n5 => (ss_if (fun (w49 : Unit) => [.no, .fz .pen, .fz d4, .fz l_n5, .no, .no, .no, .no, .no, .no, .no, .no]) (sb_tst (se_op sr_ne (se_cb srl_reprE (sa_cons (se_nox (se_cl srl_sp0 (sa_cons se_var sa_nil))) sa_nil)) (se_cb srl_reprE (sa_cons (se_op sr_mod (se_cb srl_int (sa_cons se_var sa_nil)) se_int) sa_nil)))) (ss_ret se_bl) (ss_nx (.s (.s (.s (.s (.s (.s (.s (.s (.s (.s (.s (.s .nil))))))))))))) (fun (w49 : Unit) => (ss_asg (se_lst (sa_cons se_int (sa_cons se_int (sa_cons se_int (sa_cons se_int (sa_cons se_int (sa_cons se_var (sa_cons (se_op sr_add (se_powK (by decide) (by decide) (by decide)) (se_cl srl_sp0 (sa_cons se_var (sa_cons (se_powK (by decide) (by decide) (by decide)) sa_nil)))) (sa_cons (se_powK (by decide) (by decide) (by decide)) sa_nil))))))))) (fun l_some49 => (ss_unp (se_tup (sa_cons (se_cl srl_sp0 (sa_cons se_var (sa_cons se_int sa_nil))) (sa_cons (se_cl srl_sp0 (sa_cons se_var (sa_cons se_var sa_nil))) sa_nil))) (fun d86 => sx_tup2 (fun l_rest84 l_least84 => (ss_asg se_var (fun l_begin86 => (ss_wh (fun (w88 : D) => [.no, .fz .pen, .fz d4, .fz l_n5, .fz l_some49, .fz w88, .no, .no, .no, .fz l_rest84, .fz l_least84, .no]) 6 (.s (.s (.s (.s (.s (.s (.s (.s (.s (.s (.s (.s .nil)))))))))))) (fun (w88 : D) => (sb_tst (se_op sr_ne (se_op sr_mod (se_cb srl_int (sa_cons se_var sa_nil)) se_int) se_var))) (fun (w88 : D) => (ss_asg (se_op sr_add se_var se_int) (fun l_begin94 => (ss_nx (.s (.s (.s (.s (.s (.s (.s (.s (.s (.s (.s (.s .nil)))))))))))))))) (fun (w88 : D) => (ss_asg (se_op sr_add se_int (se_cl srl_sp0 (sa_cons se_var (sa_cons se_int sa_nil)))) (fun l_many97 => (ss_if (fun (w120 : Unit) => [.no, .fz .pen, .fz d4, .fz l_n5, .fz l_some49, .fz w88, .fz l_many97, .no, .no, .fz l_rest84, .fz l_least84, .no]) (sb_tst (se_op sr_ne (se_nox (se_cl srl_sp0 (sa_cons se_var (sa_cons se_var (sa_cons se_var sa_nil))))) (se_lc (si_rg1 (sa_cons se_var sa_nil)) (fun l_k112 => (sc_map (se_op sr_add se_var (se_op sr_mul se_int se_var))))))) (ss_ret se_bl) (ss_nx (.s (.s (.s (.s (.s (.s (.s (.s (.s (.s (.s (.s .nil))))))))))))) (fun (w120 : Unit) => (ss_asg (se_cl srl_sp0 (sa_cons se_var (sa_cons (se_lst (sa_cons se_int (sa_cons (se_un sr_neg se_int) (sa_cons se_non (sa_cons se_bl (sa_cons (se_str (by decide)) (sa_cons (se_op sr_add (se_powK (by decide) (by decide) (by decide)) se_int) (sa_cons (se_tup (sa_cons se_int sa_nil)) (sa_cons (se_lst sa_nil) (sa_cons se_dct sa_nil)))))))))) sa_nil))) (fun l_odd120 => (ss_if (fun (w164 : Unit) => [.no, .fz .pen, .fz d4, .fz l_n5, .fz l_some49, .fz w88, .fz l_many97, .fz l_odd120, .no, .fz l_rest84, .fz l_least84, .no]) (sb_tst (se_op sr_ne (se_lam fun E => (se_cl srl_sp0 (sa_cons se_var sa_nil))) (se_tup (sa_cons (se_lst (sa_cons se_bl (sa_cons se_bl (sa_cons se_bl sa_nil)))) (sa_cons (se_cb srl_reprE (sa_cons se_var sa_nil)) sa_nil))))) (ss_ret se_bl) (ss_nx (.s (.s (.s (.s (.s (.s (.s (.s (.s (.s (.s (.s .nil))))))))))))) (fun (w164 : Unit) => (ss_asg (se_cl srl_sp0 (sa_cons se_var (sa_cons (se_lst (sa_cons se_int (sa_cons (se_un sr_neg se_int) (sa_cons se_non (sa_cons se_bl (sa_cons se_bl (sa_cons (se_str (by decide)) (sa_cons (se_powK (by decide) (by decide) (by decide)) (sa_cons (se_tup (sa_cons se_int sa_nil)) (sa_cons (se_lst (sa_cons se_int sa_nil)) sa_nil)))))))))) sa_nil))) (fun l_odd164 => (ss_own (sn_lst (sa_cons (se_lam fun E => (se_cl srl_sp0 (sa_cons se_var (sa_cons se_int (sa_cons se_int sa_nil))))) sa_nil)) (fun l_heard_here191 => (ss_app (se_lam fun E => (se_cl srl_sp0 (sa_cons se_var (sa_cons se_int (sa_cons se_int sa_nil))))) (fun v207 => (ss_app (se_lam fun E => (se_cl srl_sp0 (sa_cons se_var (sa_cons se_non (sa_cons se_int sa_nil))))) (fun v214 => (ss_fz (i := 8) rfl (ss_if (fun (w233 : Unit) => [.no, .fz .pen, .fz d4, .fz l_n5, .fz l_some49, .fz w88, .fz l_many97, .fz l_odd164, .fz (.lst ((l_heard_here191 ++ [v207]) ++ [v214])), .fz l_rest84, .fz l_least84, .no]) (sb_tst (se_op sr_ne se_var (se_op sr_mul (se_lst (sa_cons (se_tup (sa_cons (se_lst (sa_cons se_bl (sa_cons se_bl (sa_cons se_bl sa_nil)))) (sa_cons (se_cb srl_reprE (sa_cons se_var sa_nil)) sa_nil))) sa_nil)) se_int))) (ss_ret se_bl) (ss_nx (.s (.s (.s (.s (.s (.s (.s (.s (.s (.s (.s (.s .nil))))))))))))) (fun (w233 : Unit) => (ss_asg (se_cl srl_sp0 (sa_cons se_var (sa_cons (se_lst (sa_cons se_int (sa_cons (se_un sr_neg se_int) (sa_cons se_non (sa_cons se_bl (sa_cons (se_str (by decide)) (sa_cons (se_tup (sa_cons se_int sa_nil)) (sa_cons (se_lst sa_nil) sa_nil)))))))) sa_nil))) (fun l_odd233 => (ss_if (fun (w275 : Unit) => [.no, .fz .pen, .fz d4, .fz l_n5, .fz l_some49, .fz w88, .fz l_many97, .fz l_odd233, .fz (.lst ((l_heard_here191 ++ [v207]) ++ [v214])), .fz l_rest84, .fz l_least84, .no]) (sb_tst (se_op sr_ne (se_lam fun E => (se_cl srl_sp0 (sa_cons se_var (sa_cons se_var (sa_cons se_int sa_nil))))) (se_tup (sa_cons (se_lst (sa_cons se_bl (sa_cons se_bl (sa_cons se_bl sa_nil)))) (sa_cons (se_cb srl_reprE (sa_cons se_var sa_nil)) sa_nil))))) (ss_ret se_bl) (ss_nx (.s (.s (.s (.s (.s (.s (.s (.s (.s (.s (.s (.s .nil))))))))))))) (fun (w275 : Unit) => (ss_nx (.s (.s (.n (.n (.n (.n (.n (.n (.n (.n (.n (.s .nil))))))))))))))))))))))))))))))))))))))))))))))))))) (fun (w3 : Unit) => (ss_ret (se_andV (se_op sr_eq (se_cl srl_sp0 sa_nil) (se_lst (sa_cons (se_lst (sa_cons se_int (sa_cons se_int (sa_cons se_int sa_nil)))) (sa_cons (se_lst (sa_cons se_int (sa_cons se_int (sa_cons se_int sa_nil)))) (sa_cons (se_lst (sa_cons se_int (sa_cons se_int (sa_cons se_int sa_nil)))) (sa_cons (se_lst (sa_cons se_int (sa_cons se_int (sa_cons se_int sa_nil)))) sa_nil)))))) (se_op sr_eq (se_nox (se_cl srl_sp0 (sa_cons se_int sa_nil))) se_int))))))
end
end Lw
end
section
set_option linter.all false
set_option maxRecDepth 100000
namespace Gp
open PySem
section
variable {α β γ : Type}
def Bo (P : α → Prop) : Tr α → Nat → Prop
  | .ok a, _ => P a
  | .ex _ _, _ => False
  | .bad, _ => False
  | .draw m k, n => ∃ n', n = n' + 1 ∧ 0 < m ∧ m < 10 ^ 100 ∧ ∀ d, 0 ≤ d → d < m → Bo P (k d) n'
theorem Bo.mono {P Q : α → Prop} (h : ∀ a, P a → Q a) : ∀ {m : Tr α} {n k : Nat}, n ≤ k → Bo P m n → Bo Q m k
  | .ok a, _, _, _, z => h a z
  | .ex _ _, _, _, _, z => z
  | .bad, _, _, _, z => z
  | .draw m f, n, k, l, ⟨n', e, h1, h2, h3⟩ => ⟨k - 1, by omega, h1, h2, fun d d0 d1 => Bo.mono h (m := f d) (n := n') (by omega) (h3 d d0 d1)⟩
theorem Bo.bd {P : α → Prop} {Q : β → Prop} {k : α → Tr β} {b : Nat} : ∀ {m : Tr α} {a : Nat}, Bo P m a → (∀ x, P x → Bo Q (k x) b) → Bo Q (bd m k) (a + b)
  | .ok x, a, h, hk => (hk x h).mono (fun _ z => z) (Nat.le_add_left _ _)
  | .ex _ _, _, h, _ => h
  | .bad, _, h, _ => h
  | .draw m f, a, ⟨n', e, h1, h2, h3⟩, hk => ⟨n' + b, by omega, h1, h2, fun d d0 d1 => Bo.bd (m := f d) (h3 d d0 d1) hk⟩
theorem Bo.al {P : α → Prop} {Q : α → Nat → Prop} {E : Str → Fs → Nat → Prop} (h : ∀ a b, P a → Q a b) : ∀ {m : Tr α} {n : Nat}, Bo P m n → Al Q E m n
  | .ok a, _, z => h a _ z
  | .ex _ _, _, z => z.elim
  | .bad, _, z => z
  | .draw m f, n, ⟨n', e, h1, h2, h3⟩ => ⟨n', e, h1, h2, fun d d0 d1 => Bo.al (m := f d) h (h3 d d0 d1)⟩
theorem Bo.yes {F : Tr D} {n : Nat} (hn : n ≤ 1000000) (h : Bo (fun d => d = .bl true) F n) : Yes F :=
  Bo.al (fun _ _ z => z) (h.mono (fun _ z => z) hn)
theorem bo_ok {P : α → Prop} {a : α} {n : Nat} (h : P a) : Bo P (.ok a) n := h
theorem bo_draw {P : α → Prop} {m : Int} {k : Int → Tr α} {n : Nat} (h1 : 0 < m) (h2 : m < 10 ^ 100) (h : ∀ d, 0 ≤ d → d < m → Bo P (k d) n) : Bo P (.draw m k) (n + 1) := ⟨n, rfl, h1, h2, h⟩
variable {W L : Type}
theorem lcF_map {f : D → Tr (Option D)} {g : D → D} : ∀ {ds : List D}, (∀ d ∈ ds, f d = .ok (some (g d))) → lcF f ds = .ok (ds.map g)
  | [], _ => rfl
  | d :: ds, h => by
    rw [lcF_cons, h d List.mem_cons_self, bd_ok, lcF_map fun x hx => h x (List.mem_cons_of_mem _ hx)]
    rfl
end
end Gp
end
section
set_option linter.all false
set_option maxRecDepth 100000
set_option maxHeartbeats 4000000
namespace Gp
open PySem
@[simp] theorem s_bd {α β : Type} (a : α) (k : α → Tr β) : bd (.ok a) k = k a := rfl
@[simp] theorem s_bdx {α β : Type} (c : Str) (fs : Fs) (k : α → Tr β) : bd (.ex c fs) k = .ex c fs := rfl
@[simp] theorem s_bdd {α β : Type} (m : Int) (f : Int → Tr α) (k : α → Tr β) : bd (.draw m f) k = .draw m fun d => bd (f d) k := rfl
@[simp] theorem s_nox {α : Type} (a : α) : nox (.ok a) = .ok a := rfl
@[simp] theorem s_bdF {W W' L : Type} (w : W') (k : W' → Tr (Fl W L)) : bdF (.ok (.nx w)) k = k w := rfl
@[simp] theorem s_bdFr {W W' L : Type} (d : D) (k : W' → Tr (Fl W L)) : bdF (.ok (.rt d)) k = .ok (.rt d) := rfl
@[simp] theorem s_finr (d : D) : fin (.ok (.rt d)) = .ok d := rfl
@[simp] theorem s_finn (w : Unit) : fin (.ok (.nx w)) = .ok .non := rfl
@[simp] theorem s_finI (fs : Fs) : finI (.ok (.nx fs)) = .ok fs := rfl
@[simp] theorem s_asB (b : Bool) : asB (.bl b) = .ok b := rfl
@[simp] theorem s_ul0 {α : Type} (k : Tr α) : ul0 k [] = k := rfl
@[simp] theorem s_ul1 {α : Type} (k : D → Tr α) (x : D) : ul1 k [x] = k x := rfl
@[simp] theorem s_ul2 {α : Type} (k : D → D → Tr α) (x y : D) : ul2 k [x, y] = k x y := rfl
@[simp] theorem s_ul3 {α : Type} (k : D → D → D → Tr α) (x y z : D) : ul3 k [x, y, z] = k x y z := rfl
@[simp] theorem s_ul4 {α : Type} (k : D → D → D → D → Tr α) (x y z w : D) : ul4 k [x, y, z, w] = k x y z w := rfl
@[simp] theorem s_isO {α : Type} (c : Str) (fs : Fs) (k : Fs → Tr α) : isO c (.obj c fs) k = k fs := by unfold isO; simp
@[simp] theorem s_lt (i j : Int) : ltD (.int i) (.int j) = .ok (.bl (decide (i < j))) := rfl
@[simp] theorem s_le (i j : Int) : leD (.int i) (.int j) = .ok (.bl (decide (i ≤ j))) := rfl
@[simp] theorem s_gt (i j : Int) : gtD (.int i) (.int j) = .ok (.bl (decide (j < i))) := rfl
@[simp] theorem s_ge (i j : Int) : geD (.int i) (.int j) = .ok (.bl (decide (j ≤ i))) := rfl
@[simp] theorem s_sub (i j : Int) : subD (.int i) (.int j) = .ok (.int (i - j)) := rfl
@[simp] theorem s_add (i j : Int) : addD (.int i) (.int j) = .ok (.int (i + j)) := rfl
@[simp] theorem s_neg (i : Int) : negD (.int i) = .ok (.int (-i)) := rfl
@[simp] theorem s_eq (i j : Int) : eqD (.int i) (.int j) = .ok (.bl (decide (i = j))) := rfl
@[simp] theorem s_eqs (i j : Str) : eqD (.str i) (.str j) = .ok (.bl (decide (i = j))) := rfl
@[simp] theorem s_eqb (i j : Bool) : eqD (.bl i) (.bl j) = .ok (.bl (decide (i = j))) := rfl
@[simp] theorem s_len (ds : List D) : lenD (.lst ds) = .ok (.int ds.length) := rfl
@[simp] theorem s_itl (ds : List D) : itD (.lst ds) = .ok ds := rfl
@[simp] theorem s_itt (ds : List D) : itD (.tup ds) = .ok ds := rfl
@[simp] theorem s_int (i : Int) : intD (.int i) = .ok (.int i) := rfl
@[simp] theorem s_intb (k : Bool) : intD (.bl k) = .ok (.int (if k = true then 1 else 0)) := rfl
@[simp] theorem s_abs (i : Int) : absD (.int i) = .ok (.int (if i < 0 then -i else i)) := rfl
@[simp] theorem s_opt {α : Type} (a : α) : opt (some a) = .ok a := rfl
theorem s_mod {i j : Int} (h : 0 < j) : modD (.int i) (.int j) = .ok (.int (i % j)) := if_pos h
@[simp] theorem s_mod2 (i : Int) : modD (.int i) (.int 2) = .ok (.int (i % 2)) := rfl
@[simp] theorem s_div2 (i : Int) : divD (.int i) (.int 2) = .ok (.int (i / 2)) := rfl
theorem s_mul {i j : Int} (h : (-(2 ^ 64) < i ∧ i < 2 ^ 64) ∨ (-(2 ^ 64) < j ∧ j < 2 ^ 64)) : mulD (.int i) (.int j) = .ok (.int (i * j)) := if_pos h
end Gp
namespace Gp
open PySem PyProof.Rows L2
theorem toPyL_ints : ∀ l : List Int, toPyL (l.map D.int) = some (l.map PyData.int)
  | [] => rfl
  | a :: r => by
    rw [List.map_cons]
    unfold toPyL
    rw [toPyL_ints r]
    rfl
theorem eqv_ints : ∀ l m : List Int, PyData.eqvAll (l.map PyData.int) (m.map PyData.int) = decide (l = m)
  | [], [] => by simp [PyData.eqvAll]
  | [], _ :: _ => by simp [PyData.eqvAll]
  | _ :: _, [] => by simp [PyData.eqvAll]
  | a :: r, b :: s => by
    simp only [List.map_cons, PyData.eqvAll, PyData.eqv, eqv_ints r s]
    by_cases h : a = b <;> by_cases h' : r = s <;> simp [h, h']
theorem canLayAll_ints : ∀ ns : List Int, PyData.canLayAll0 (ns.map PyData.int) = true
  | [] => rfl
  | _ :: r => by simp [PyData.canLayAll0, PyData.canLay0, canLayAll_ints r]
theorem depthAll_ints : ∀ ns : List Int, PyData.depthAll (ns.map PyData.int) = 0
  | [] => rfl
  | _ :: r => by simp [PyData.depthAll, PyData.depth, depthAll_ints r]
theorem shaped_ints (ns : List Int) : SeqAt.shaped (.list (ns.map PyData.int)) = true := by
  simp [SeqAt.shaped, PyData.canLay0, PyData.depth, canLayAll_ints, depthAll_ints]
theorem s_eq_ints (l m : List Int) : eqD (.lst (l.map D.int)) (.lst (m.map D.int)) = .ok (.bl (decide (l = m))) := by
  have e : ∀ l : List Int, toPy (.lst (l.map D.int)) = some (.list (l.map PyData.int)) := fun l => by
    unfold toPy
    rw [toPyL_ints]
    rfl
  have e2 : eqB (.lst (l.map D.int)) (.lst (m.map D.int)) = .ok (decide (l = m)) := by
    unfold eqB
    rw [show eqS (.lst (l.map D.int)) (.lst (m.map D.int)) = none from rfl]
    dsimp only
    rw [e l, e m]
    dsimp only
    rw [if_pos ⟨shaped_ints l, shaped_ints m⟩]
    unfold PyData.eqv
    rw [eqv_ints]
  unfold eqD
  rw [e2]
  rfl
@[simp] theorem s_find (m : Int) (f : Int → Tr (Fl Unit Empty)) : fin (.draw m f) = .draw m fun d => fin (f d) := rfl
@[simp] theorem s_bdFd {W W' L : Type} (m : Int) (f : Int → Tr (Fl W' L)) (k : W' → Tr (Fl W L)) : bdF (.draw m f) k = .draw m fun d => bdF (f d) k := rfl
theorem bd_ok_id {α : Type} (m : Tr α) : bd m .ok = m := by
  induction m with
  | draw m f ih => show Tr.draw m _ = _; congr 1; funext d; exact ih d
  | _ => rfl
theorem s_fin_id (m : Tr D) : fin (bd m fun d => .ok (.rt d)) = m := by
  unfold fin
  rw [bd_bd]
  exact bd_ok_id m
@[simp] theorem s_bdbd {α β γ : Type} (m : Tr α) (k : α → Tr β) (l : β → Tr γ) : bd (bd m k) l = bd m fun a => bd (k a) l := bd_bd ..
@[simp] theorem s_finbd {α : Type} (m : Tr α) (k : α → Tr (Fl Unit Empty)) : fin (bd m k) = bd m fun a => fin (k a) := bd_bd ..
@[simp] theorem s_bdFbd {α W W' L : Type} (m : Tr α) (f : α → Tr (Fl W' L)) (k : W' → Tr (Fl W L)) : bdF (bd m f) k = bd m fun a => bdF (f a) k := bd_bd ..
@[simp] theorem s_finIbd {α : Type} (m : Tr α) (k : α → Tr (Fl Fs Empty)) : finI (bd m k) = bd m fun a => finI (k a) := bd_bd ..
@[simp] theorem s_bdok {α : Type} (m : Tr α) : bd m (fun a => .ok a) = m := bd_ok_id m
@[simp] theorem s_ne (i j : Int) : neD (.int i) (.int j) = .ok (.bl (!decide (i = j))) := rfl
@[simp] theorem s_nes (i j : Str) : neD (.str i) (.str j) = .ok (.bl (!decide (i = j))) := rfl
theorem s_ixL {ds : List D} {i : Int} {d : D} (h0 : 0 ≤ i) (h : ds[i.toNat]? = some d) : ixD (.lst ds) (.int i) = .ok d := by
  have hl := (List.getElem?_eq_some_iff.mp h).1
  have e : atI ds i = some d := by
    unfold atI ixN
    rw [if_pos h0, if_pos (by omega)]
    exact h
  unfold ixD
  dsimp only
  rw [e]
end Gp
end
section
set_option linter.all false
set_option maxRecDepth 100000
set_option maxHeartbeats 400000
namespace Gp
open PySem PyProof.Rows L2 Gh
structure Sh (d : D) (n b : Nat) : Prop where
  ex : ∃ e, toPy d = some e ∧ Fn e n b
structure ShL (ds : List D) (n b : Nat) : Prop where
  ex : ∃ es, toPyL ds = some es ∧ FnAll es n b
theorem Sh.le {d : D} {n b n' b' : Nat} (h : Sh d n b) (h1 : n ≤ n') (h2 : b ≤ b') : Sh d n' b' := by
  obtain ⟨e, h3, h4⟩ := h.ex
  exact ⟨e, h3, h4.le h1 h2⟩
theorem Sh.int {i : Int} (h1 : -(10 ^ 100) < i) (h2 : i < 10 ^ 100) : Sh (.int i) 0 0 := ⟨_, rfl, .int h1 h2⟩
theorem Sh.bl (b : Bool) : Sh (.bl b) 0 0 := ⟨_, rfl, .bool b⟩
theorem Sh.non : Sh .non 0 0 := ⟨_, rfl, .none⟩
theorem Sh.str {x : Str} (h0 : (PyData.str x).canLay0 = true) (h : (x.cps.toList.all fun c => decide (c < 16 ^ 8)) = true) : Sh (.str x) 0 x.cps.size := ⟨_, rfl, .str h0 h⟩
theorem ShL.nil {n b : Nat} : ShL [] n b := ⟨_, rfl, .nil⟩
theorem ShL.cons {d : D} {ds : List D} {n b c : Nat} (h : Sh d n b) (k : ShL ds n c) : ShL (d :: ds) n (b + 1 + c) := by
  obtain ⟨e, h3, h4⟩ := h.ex
  obtain ⟨es, h5, h6⟩ := k.ex
  refine ⟨e :: es, ?_, .cons h4 h6⟩
  unfold toPyL
  rw [h3, h5]
theorem ShL.le {ds : List D} {n b n' b' : Nat} (h : ShL ds n b) (h1 : n ≤ n') (h2 : b ≤ b') : ShL ds n' b' := by
  obtain ⟨e, h3, h4⟩ := h.ex
  exact ⟨e, h3, h4.cl, h4.sh, h4.nd, h4.ls, Nat.le_trans h4.dp h1, Nat.le_trans h4.bk h2⟩
theorem Sh.lst {ds : List D} {n b : Nat} (h : ShL ds n b) : Sh (.lst ds) (n + 1) b := by
  obtain ⟨es, h3, h4⟩ := h.ex
  refine ⟨.list es, ?_, .list h4⟩
  unfold toPy
  rw [h3]
  rfl
theorem Sh.tup {ds : List D} {n b : Nat} (h : ShL ds n b) : Sh (.tup ds) (n + 1) b := by
  obtain ⟨es, h3, h4⟩ := h.ex
  refine ⟨.tuple es, ?_, .tuple h4⟩
  unfold toPy
  rw [h3]
  rfl
theorem fn_len {e : PyData} {n b : Nat} (f : Fn e n b) (hb : b ≤ 80000) : e.shown.length ≤ sizeLine := by
  have z := PyData.shown_le_bulk 200 (by decide) e f.ls
  have := f.bk
  rw [sizeLine_eq]
  omega
theorem Sh.repr {d : D} {n b : Nat} (h : Sh d n b) (hn : n ≤ 100) (hb : b ≤ 80000) : ∃ x, reprD d = .ok (.str x) := by
  obtain ⟨e, h1, f⟩ := h.ex
  have l := fn_len f hb
  have key : ∀ {x : Str}, shwD d = some x → x.length ≤ sizeLine → ∃ x, reprD d = .ok (.str x) := fun {x} e1 e2 => ⟨x, by
    unfold reprD
    rw [e1]
    dsimp only
    rw [if_pos e2]⟩
  have big : (∀ i, d ≠ .int i) → (∀ x, d ≠ .str x) → (∀ x, d ≠ .bl x) → d ≠ .non → ∃ x, reprD d = .ok (.str x) := fun n1 n2 n3 n4 => by
    refine key (x := e.shown) ?_ l
    have g : (if e.showable = true ∧ e.hasDict = false ∧ e.depth ≤ 100 ∧ e.shown.length ≤ sizeLine then some e.shown else none) = some e.shown := if_pos ⟨f.sh, f.nd, Nat.le_trans f.dp hn, l⟩
    cases d with
    | int i => exact absurd rfl (n1 i)
    | str x => exact absurd rfl (n2 x)
    | bl x => exact absurd rfl (n3 x)
    | non => exact absurd rfl n4
    | tup ds => unfold shwD; dsimp only; rw [h1]; exact g
    | lst ds => unfold shwD; dsimp only; rw [h1]; exact g
    | obj c fs => unfold toPy at h1; cases h1
    | err c fs => unfold toPy at h1; cases h1
    | pen => unfold toPy at h1; cases h1
    | cls c => unfold toPy at h1; cases h1
    | dct => unfold toPy at h1; cases h1
    | dic ps => unfold toPy at h1; cases h1
    | dit ps => unfold toPy at h1; cases h1
  cases d with
  | non => exact ⟨_, rfl⟩
  | bl b => cases b <;> exact ⟨_, rfl⟩
  | int i =>
    unfold toPy at h1
    cases h1
    have h2 : i.natAbs.log2 < 1920 := of_decide_eq_true f.sh
    refine key (x := Str.ofString (toString i)) ?_ l
    unfold shwD
    dsimp only
    rw [if_pos h2]
  | str x =>
    unfold toPy at h1
    cases h1
    have l2 : (reprText x).length ≤ sizeLine := l
    refine key (x := reprText x) ?_ l2
    unfold shwD
    dsimp only
    rw [if_pos l2]
  | tup ds => exact big (fun _ z => by cases z) (fun _ z => by cases z) (fun _ z => by cases z) (fun z => by cases z)
  | lst ds => exact big (fun _ z => by cases z) (fun _ z => by cases z) (fun _ z => by cases z) (fun z => by cases z)
  | obj c fs => unfold toPy at h1; cases h1
  | err c fs => unfold toPy at h1; cases h1
  | pen => unfold toPy at h1; cases h1
  | cls c => unfold toPy at h1; cases h1
  | dct => unfold toPy at h1; cases h1
  | dic ps => unfold toPy at h1; cases h1
  | dit ps => unfold toPy at h1; cases h1
end Gp
end
section
set_option linter.all false
set_option maxRecDepth 100000
set_option maxHeartbeats 400000
namespace Gp
open PySem
theorem bo_then {α β : Type} {P : α → Prop} {Q : β → Prop} {m : Tr α} {k : α → Tr β} {a b n : Nat} (h : Bo P m a) (hk : ∀ x, P x → Bo Q (k x) b) (l : a + b ≤ n) : Bo Q (bd m k) n := (h.bd hk).mono (fun _ z => z) l
theorem bo_forU {L : Type} {f : D → Unit → Tr (Fl Unit Unit)} {c : Nat} : ∀ {ds : List D}, (∀ d ∈ ds, Bo (fun r : Fl Unit Unit => r = .nx ()) (f d ()) c) → Bo (fun r : Fl Unit L => r = .nx ()) (forF f ds ()) (c * ds.length)
  | [], _ => bo_ok rfl
  | d :: ds, h => by
    rw [forF_cons]
    refine bo_then (b := c * ds.length) (h d List.mem_cons_self) (fun r hr => ?_) (by rw [List.length_cons, Nat.mul_succ]; omega)
    subst hr
    exact bo_forU fun x hx => h x (List.mem_cons_of_mem _ hx)
end Gp
end
section
set_option Elab.async false
set_option linter.all false
set_option maxRecDepth 100000
set_option maxHeartbeats 400000
namespace Gp
open PySem
@[irreducible] def Bx {α : Type} (P : α → Prop) (m : Tr α) (n : Nat) : Prop := Bo P m n
theorem Bx.bo {α : Type} {P : α → Prop} {m : Tr α} {n : Nat} (h : Bx P m n) : Bo P m n := by
  unfold Bx at h
  exact h
theorem bx_of {α : Type} {P : α → Prop} {m : Tr α} {n : Nat} (h : Bo P m n) : Bx P m n := by
  unfold Bx
  exact h
theorem bx_draw {α : Type} {P : α → Prop} {m : Int} {k : Int → Tr α} {n : Nat} (h1 : 0 < m) (h2 : m < 10 ^ 100) (h : ∀ d, 0 ≤ d → d < m → Bx P (k d) n) : Bx P (.draw m k) (n + 1) := bx_of (bo_draw h1 h2 fun d a b => (h d a b).bo)
theorem bx_ok {α : Type} {P : α → Prop} {a : α} {n : Nat} (h : P a) : Bx P (.ok a) n := bx_of (bo_ok h)
theorem bx_loopU {f : D → Unit → Tr (Fl Unit Unit)} {ds : List D} {K : Unit → Tr (Fl Unit Empty)} {Q : D → Prop} {c b n : Nat} (h : ∀ d ∈ ds, Bx (fun r : Fl Unit Unit => r = .nx ()) (f d ()) c) (hk : Bx Q (fin (K ())) b) (l : c * ds.length + b ≤ n) : Bx Q (fin (bdF (forF f ds ()) K)) n := by
  refine bx_of ?_
  unfold fin bdF
  rw [bd_bd]
  refine bo_then (b := b) (bo_forU fun d hd => (h d hd).bo) (fun r hr => ?_) l
  subst hr
  exact hk.bo
end Gp
end
section
set_option Elab.async false
set_option linter.all false
set_option maxRecDepth 100000
set_option maxHeartbeats 400000
namespace Gp
open PySem
mutual
def sameD : D → D → Bool
  | .non, y => match y with | .non => true | _ => false
  | .bl a, y => match y with | .bl b => a == b | _ => false
  | .int a, y => match y with | .int b => decide (a = b) | _ => false
  | .str a, y => match y with | .str b => decide (a = b) | _ => false
  | .tup a, y => match y with | .tup b => sameL a b | _ => false
  | .lst a, y => match y with | .lst b => sameL a b | _ => false
  | .dct, y => match y with | .dct => true | _ => false
  | _, _ => false
def sameL : List D → List D → Bool
  | [], y => match y with | [] => true | _ => false
  | a :: r, y => match y with | b :: s => sameD a b && sameL r s | [] => false
end
mutual
theorem sameD_eq : ∀ {x y : D}, sameD x y = true → x = y
  | .non, .non, _ => rfl
  | .bl a, .bl b, h => by
    have h : (a == b) = true := h
    rw [eq_of_beq h]
  | .int a, .int b, h => by
    have h : decide (a = b) = true := h
    rw [of_decide_eq_true h]
  | .str a, .str b, h => by
    have h : decide (a = b) = true := h
    rw [of_decide_eq_true h]
  | .tup a, .tup b, h => by
    have h : sameL a b = true := h
    rw [sameL_eq h]
  | .lst a, .lst b, h => by
    have h : sameL a b = true := h
    rw [sameL_eq h]
  | .dct, .dct, _ => rfl
theorem sameL_eq : ∀ {x y : List D}, sameL x y = true → x = y
  | [], [], _ => rfl
  | a :: r, b :: s, h => by
    have h : (sameD a b && sameL r s) = true := h
    rw [Bool.and_eq_true] at h
    rw [sameD_eq h.1, sameL_eq h.2]
end
def sameT : Tr D → D → Bool
  | .ok d, e => sameD d e
  | _, _ => false
theorem sameT_eq : ∀ {m : Tr D} {e : D}, sameT m e = true → m = .ok e
  | .ok d, e, h => by rw [sameD_eq (x := d) (y := e) h]
def strT : Tr D → (Str → Bool) → Bool
  | .ok (.str x), f => f x
  | _, _ => false
theorem strT_eq : ∀ {m : Tr D} {f : Str → Bool}, strT m f = true → ∃ x, m = .ok (.str x) ∧ f x = true
  | .ok (.str x), _, h => ⟨x, rfl, h⟩
def yesB : Tr D → Bool
  | .ok (.bl b) => b
  | _ => false
theorem yesB_ok : ∀ {m : Tr D}, yesB m = true → m = .ok (.bl true)
  | .ok (.bl true), _ => rfl
def nxB : Tr (Fl Unit Unit) → Bool
  | .ok (.nx _) => true
  | _ => false
theorem nxB_ok : ∀ {m : Tr (Fl Unit Unit)}, nxB m = true → m = .ok (.nx ())
  | .ok (.nx ()), _ => rfl
theorem yes_of {m : Tr D} (h : yesB m = true) {b : Nat} : Bx (fun d => d = .bl true) m b := by rw [yesB_ok h]; exact bx_ok rfl
theorem bx_chk {m : Tr (Fl Unit Unit)} {k : Unit → Tr (Fl Unit Unit)} {P : Fl Unit Unit → Prop} {b : Nat} (h : m = .ok (.nx ())) (hk : Bx P (k ()) b) : Bx P (bdF m k) b := by rw [h]; exact hk
theorem dec_mem {f : D → Tr (Fl Unit Unit)} {L : List D} (h : L.all (fun d => nxB (f d)) = true) : ∀ d, d ∈ L → f d = .ok (.nx ()) := fun d hd => nxB_ok (List.all_eq_true.mp h d hd)
theorem ix_mem {ds : List D} {i : Int} (h0 : 0 ≤ i) (h1 : i < ds.length) : ∃ d, ixD (.lst ds) (.int i) = .ok d ∧ d ∈ ds :=
  ⟨ds[i.toNat]'(by omega), s_ixL h0 (List.getElem?_eq_getElem (by omega)), List.getElem_mem _⟩
theorem ne_of_eqD {x y : D} {k : Bool} (h : eqD x y = .ok (.bl k)) : neD x y = .ok (.bl (!k)) := by
  unfold eqD at h
  unfold neD
  cases e : eqB x y with
  | ok b => rw [e] at h; cases h; rfl
  | ex c fs => rw [e] at h; cases h
  | bad => rw [e] at h; cases h
  | draw m f => rw [e] at h; cases h
theorem s_neS (x : Str) : neD (.str x) (.str x) = .ok (.bl false) := by
  show Tr.ok (D.bl (!decide (x = x))) = _
  simp
theorem s_neI (i j : Int) : neD (.int i) (.int j) = .ok (.bl (!decide (i = j))) := rfl
end Gp
end
section
set_option Elab.async false
set_option linter.all false
set_option maxRecDepth 100000
set_option maxHeartbeats 400000
namespace Lw
open PySem Gp
abbrev N40 : Int := 10000000000000000000000000000000000000000
@[simp] theorem isi_int_int (i : Int) : isi_int (.int i) = some true := rfl
@[simp] theorem isi_bool_int (i : Int) : isi_bool (.int i) = some false := rfl
theorem q_is_integer (i : Int) : F_is_integer (.int i) = .ok (.bl true) := by simp [F_is_integer]
theorem q_is_within (i a b : Int) : F_is_within (.int i) (.int a) (.int b) = .ok (.bl (decide (a ≤ i ∧ i ≤ b))) := by
  simp only [F_is_within, s_bd, s_ul1, q_is_integer, s_asB, if_true, s_le, s_finr]
  by_cases h : a ≤ i <;> simp [h]
theorem q_need_length {n : Int} (h : 1 ≤ n ∧ n ≤ N40) : F_need_length (.int n) = .ok .non := by
  simp [F_need_length, F_is_length, q_is_within, h]
theorem q_need_rest {n : Int} (h : 0 ≤ n ∧ n ≤ 3) : F_need_rest (.int n) = .ok .non := by
  simp [F_need_rest, F_is_rest, q_is_within, h]
theorem repr_int {i : Int} (h1 : -(10 ^ 100) < i) (h2 : i < 10 ^ 100) : ∃ x, reprD (.int i) = .ok (.str x) := (Sh.int h1 h2).repr (by decide) (by decide)
@[simp] theorem s_draw (m : Int) : F_draw .pen (.int m) = .draw m fun d => .ok (.int d) := rfl
theorem q_pick (ds : List D) : F__law_pick .pen (.lst ds) = .draw ds.length fun i => ixD (.lst ds) (.int i) := by
  simp -implicitDefEqProofs only [F__law_pick, s_bd, s_ul1, s_ul2, s_len, s_draw, s_bdd, s_find, s_fin_id]
def begZ (r l : Int) : Int := l + (r - l) % 4
def lensD (b : Int) (n : Nat) : List D := (List.range n).map fun k : Nat => .int (b + 4 * (k : Int))
theorem lensD_succ (b : Int) (n : Nat) : lensD b (n + 1) = .int b :: lensD (b + 4) n := by
  unfold lensD
  rw [List.range_eq_range', List.range_eq_range', List.range'_succ, List.map_cons]
  congr 1
  · simp
  · apply List.ext_getElem
    · simp
    · intro i h1 h2
      simp
      omega
theorem why_len {f : D → GT (Fl D D)} {c : D → Tr Bool} (hc : ∀ w, c w = .ok true) (hf : ∀ b : Int, f (.int b) = ⟨[.int b], .ok (.nx (.int (b + 4)))⟩) : ∀ (n : Nat) (b : Int), whY (L := Empty) c f n (.int b) = ⟨lensD b n, .bad⟩
  | 0, b => rfl
  | n + 1, b => by
    unfold whY
    simp only [hc, hf]
    rw [why_len hc hf n (b + 4), lensD_succ]
    rfl
theorem q_lens {r l : Int} (hr : 0 ≤ r ∧ r ≤ 3) (hl : 1 ≤ l) : F_lengths_of (.int r) (.int l) = ⟨lensD (begZ r l) 40, .bad⟩ := by
  have hl' : ¬ l < 1 := by omega
  simp only [F_lengths_of, s_bd, s_ul1, s_ul2, q_need_rest hr, q_is_integer, s_asB, Bool.not_true, Bool.false_eq_true, if_false, s_lt, decide_eq_false hl', s_bdF, F_first_of, s_sub, s_mod (show (0 : Int) < 4 by decide), s_add, s_finr]
  unfold gpre
  dsimp only
  have e := why_len (c := fun w18 => .ok true) (f := fun w18 => gbF (gyl (Tr.ok w18) ()) fun x => gbF (gpl (bd (iaddD w18 (D.int 4)) fun n19 => Tr.ok (Fl.nx n19))) fun w19 => { out := [], res := Tr.ok (Fl.nx w19) }) (fun _ => rfl) (fun b => rfl) 40 (l + (r - l) % 4)
  rw [e]
  rfl
end Lw
end
section
set_option Elab.async false
set_option linter.all false
set_option maxRecDepth 100000
set_option maxHeartbeats 400000
namespace Lw
open PySem Gp
theorem forYF_first {f : D → List D → Tr (Fl (List D) (List D))} {e : Tr Unit} {L : Type} {m : Nat}
    (hf : ∀ (b : Int) (w : List D), w.length < m → f (.int b) w = if w.length + 1 = m then .ok (.bk (w ++ [.int b])) else .ok (.nx (w ++ [.int b]))) :
    ∀ (j n : Nat) (b : Int) (w : List D), w.length + (j + 1) = m → j + 1 ≤ n → forYF (L := L) f e (lensD b n) w = .ok (.nx (w ++ lensD b (j + 1)))
  | 0, n + 1, b, w, h, _ => by
    rw [lensD_succ]
    unfold forYF
    rw [hf b w (by omega), if_pos (by omega), lensD_succ b 0]
    rfl
  | j + 1, n + 1, b, w, h, hn => by
    rw [lensD_succ]
    unfold forYF
    rw [hf b w (by omega), if_neg (by omega)]
    show forYF f e (lensD (b + 4) n) (w ++ [.int b]) = _
    rw [forYF_first (L := L) (e := e) hf j n (b + 4) (w ++ [D.int b]) (by rw [List.length_append]; simp; omega) (by omega), lensD_succ b (j + 1), List.append_assoc]
    rfl
theorem q_first {r l : Int} {m : Nat} (hr : 0 ≤ r ∧ r ≤ 3) (hl : 1 ≤ l) (hm : 1 ≤ m ∧ m ≤ 30) : F__law_first (.int r) (.int l) (.int m) = .ok (.lst (lensD (begZ r l) m)) := by
  obtain ⟨j, rfl⟩ : ∃ j, m = j + 1 := ⟨m - 1, by omega⟩
  simp only [F__law_first, s_bd, List.length_nil, Nat.zero_le, if_true, List.append_nil, List.length_cons, yl2, q_lens hr hl]
  rw [forYF_first (m := j + 1) (fun b w hw => ?_) j 40 _ [] (by simp) (by omega)]
  · rfl
  have hs : w.length < sizeLine := Nat.lt_of_lt_of_le (show w.length < 30 by omega) (by decide)
  rw [if_pos hs]
  have e : pk (bd (Tr.ok [D.lst (w ++ [.int b])]) (ul1 lenD)) = .ok (.int ((w.length + 1 : Nat) : Int)) := by
    show pk (Tr.ok (D.int _)) = _
    rw [List.length_append]
    rfl
  simp only [s_bd] at e
  simp only [e, s_bd, s_eq, s_asB]
  by_cases z : w.length + 1 = j + 1
  · rw [if_pos z, z]
    simp
    rfl
  · rw [if_neg z]
    have z' : ¬ ((w.length + 1 : Nat) : Int) = ((j + 1 : Nat) : Int) := by omega
    simp only [decide_eq_false z', Bool.false_eq_true, if_false]
    rfl
theorem q_rest_of {n : Int} (h : 1 ≤ n ∧ n ≤ N40) : F_rest_of (.int n) = .ok (.int (n % 4)) := by
  simp only [F_rest_of, s_bd, s_ul1, q_need_length h, s_mod (show (0 : Int) < 4 by decide), s_finr]
end Lw
end
section
set_option Elab.async false
set_option linter.all false
set_option maxRecDepth 100000
set_option maxHeartbeats 400000
namespace Lw
open PySem Gp
theorem q_wh {L : Type} {r l : Int} (hr : 0 ≤ r ∧ r ≤ 3) : whF (L := L) (fun w => bd (bd (bd (intD w) fun v => modD v (.int 4)) fun v => neD v (.int r)) asB) (fun w => bd (addD w (.int 1)) fun b => .ok (.nx b)) 6 (.int l) = .ok (.nx (.int (begZ r l))) := by
  have h4 : (0 : Int) < 4 := by decide
  have hc : (r - l) % 4 = 0 ∨ (r - l) % 4 = 1 ∨ (r - l) % 4 = 2 ∨ (r - l) % 4 = 3 := by omega
  unfold begZ
  have n0 : l % 4 = r ∨ l % 4 ≠ r := by omega
  rcases hc with h | h | h | h
  · have e0 : l % 4 = r := by omega
    simp [whF_succ, s_mod h4, s_neI, e0, h]
  · have e0 : ¬ l % 4 = r := by omega
    have e1 : (l + 1) % 4 = r := by omega
    simp [whF_succ, s_mod h4, s_neI, e0, e1, h]
  · have e0 : ¬ l % 4 = r := by omega
    have e1 : ¬ (l + 1) % 4 = r := by omega
    have e2 : (l + 1 + 1) % 4 = r := by omega
    simp [whF_succ, s_mod h4, s_neI, e0, e1, e2, h]
    omega
  · have e0 : ¬ l % 4 = r := by omega
    have e1 : ¬ (l + 1) % 4 = r := by omega
    have e2 : ¬ (l + 1 + 1) % 4 = r := by omega
    have e3 : (l + 1 + 1 + 1) % 4 = r := by omega
    simp [whF_succ, s_mod h4, s_neI, e0, e1, e2, e3, h]
    omega
theorem lens_ints (b : Int) (n : Nat) : lensD b n = ((List.range n).map fun k : Nat => b + 4 * (k : Int)).map D.int := by
  unfold lensD
  rw [List.map_map]
  rfl
theorem ne_lens (b : Int) (n : Nat) : neD (.lst (lensD b n)) (.lst (lensD b n)) = .ok (.bl false) := by
  have h := s_eq_ints ((List.range n).map fun k : Nat => b + 4 * (k : Int)) ((List.range n).map fun k : Nat => b + 4 * (k : Int))
  rw [← lens_ints] at h
  simp only [decide_true] at h
  exact ne_of_eqD h
theorem q_comp (b : Int) {m : Nat} (hm : m ≤ 100) : bd (rg1 (.int (m : Int))) (fun ds => bd (lcF (fun k => nox (bd (bd (mulD (.int 4) k) fun v => addD (.int b) v) fun y => .ok (some y))) ds) fun r => .ok (D.lst r)) = .ok (D.lst (lensD b m)) := by
  have e : rg1 (.int (m : Int)) = .ok (rgD 0 m) := by
    unfold rg1
    dsimp only
    rw [if_pos (by omega)]
    rfl
  rw [e]
  show bd (lcF _ _) _ = _
  rw [lcF_map (g := fun d => match d with | .int k => .int (b + 4 * k) | d => d) (fun d hd => by
    unfold rgD at hd
    obtain ⟨i, _, rfl⟩ := List.mem_map.mp hd
    simp only [s_mul (i := 4) (.inl (by decide)), s_bd, s_add, s_nox])]
  show Tr.ok (D.lst _) = _
  unfold rgD lensD
  rw [List.map_map]
  congr 3
  funext k
  simp
def dueR (x : Str) : D := .tup [.lst [.bl false, .bl true, .bl false], .str x]
def neB : Tr D → Bool
  | .ok (.bl b) => !b
  | _ => false
theorem neB_ok : ∀ {m : Tr D}, neB m = true → m = .ok (.bl false)
  | .ok (.bl false), _ => rfl
def row2 (d : D) : Bool := strT (reprE d) fun x => sameT (nox (F__law_heard (F__law_first d (.int 1) (.int 1)))) (dueR x) && sameT (nox (F__law_heard (F__law_first d (.int 0) (.int 1)))) (dueR x) &&
  sameT (nox (F__law_heard (F__law_first d .non (.int 1)))) (dueR x) && neB (neD (.lst [dueR x, dueR x, dueR x]) (.lst [dueR x, dueR x, dueR x]))
def L2d : List D := [.int 4, .int (-1), .non, .bl true, .bl false, .str "1", .int 10000000000000000000000000000000000000000, .tup [.int 1], .lst [.int 0]]
theorem row2_all : L2d.all row2 = true := by decide +kernel
def row3 (r : Int) (d : D) : Bool := strT (reprE d) fun x => sameT (nox (F__law_heard (F__law_first (.int r) d (.int 1)))) (.tup [.lst [.bl false, .bl false, .bl true], .str x]) &&
  neB (neD (.tup [.lst [.bl false, .bl false, .bl true], .str x]) (.tup [.lst [.bl false, .bl false, .bl true], .str x]))
def L3d : List D := [.int 0, .int (-3), .non, .bl true, .str "1", .tup [.int 1], .lst []]
theorem row3_all : ([0, 1, 2, 3] : List Int).all (fun r => L3d.all (row3 r)) = true := by decide +kernel
theorem law_yes : Yes F_law := by
  refine Bo.yes (n := 14 * 6 + 1) (by decide +kernel) ?_
  apply Bx.bo
  unfold F_law
  have e4 : rg1 (.int 6) = .ok ((List.range' 0 6).map fun k : Nat => D.int k) := rfl
  simp -implicitDefEqProofs only [s_bd, s_ul1, e4]
  refine bx_loopU (c := 14) (b := 1) (fun d hd => ?_) ?_ (by rw [List.length_map, List.length_range']; exact Nat.le_refl _)
  · simp -implicitDefEqProofs only [s_bd, s_ul2, s_draw, s_bdd, s_add, List.length_cons, List.length_nil, s_ul1]
    refine bx_draw (by decide) (by decide) fun a a0 a1 => ?_
    refine bx_draw (by decide) (by decide) fun a' b0 b1 => ?_
    simp -implicitDefEqProofs only [if_pos (show 0 + 1 + 1 + 1 + 1 + 1 + 1 + 1 ≤ sizeLine by decide), s_bd, s_ul2, q_pick, s_bdd]
    refine bx_draw (by simp) (by simp) fun i i0 i1 => ?_
    obtain ⟨d, hd, hm⟩ := ix_mem i0 i1
    rw [hd]
    obtain ⟨n, rfl, n0, n1⟩ : ∃ n, d = .int n ∧ 1 ≤ n ∧ n ≤ N40 := by
      simp only [List.mem_cons, List.mem_nil_iff, or_false] at hm
      rcases hm with rfl | rfl | rfl | rfl | rfl | rfl | rfl
      all_goals exact ⟨_, rfl, by omega, by show _ ≤ (10000000000000000000000000000000000000000 : Int); omega⟩
    clear hm hd i0 i1
    have r4 : 0 ≤ n % 4 ∧ n % 4 < 4 := by omega
    obtain ⟨x1, h1⟩ := repr_int (i := n % 4) (by omega) (by omega)
    have h1' : reprE (.int (n % 4)) = .ok (.str x1) := h1
    simp -implicitDefEqProofs only [q_rest_of ⟨n0, n1⟩, s_nox, s_bd, s_ul1, h1', s_int, s_mod (show (0 : Int) < 4 by decide), s_neS, s_asB, Bool.false_eq_true, if_false, s_bdF, s_bdFd]
    refine bx_draw (by decide) (by decide) fun c c0 c1 => ?_
    simp -implicitDefEqProofs only [if_pos (show 0 + 1 + 1 + 1 + 1 + 1 + 1 + 1 + 1 ≤ sizeLine by decide), s_bd, s_bdd, s_bdFd]
    refine bx_draw (by decide) (by decide) fun r r0 r1 => ?_
    simp -implicitDefEqProofs only [q_pick, s_bdd, s_bd, s_bdFd]
    refine bx_draw (by simp) (by simp) fun i i0 i1 => ?_
    obtain ⟨d, hd, hm⟩ := ix_mem i0 i1
    rw [hd]
    obtain ⟨l, rfl, l0⟩ : ∃ l, d = .int l ∧ 1 ≤ l := by
      simp only [List.mem_cons, List.mem_nil_iff, or_false] at hm
      rcases hm with rfl | rfl | rfl | rfl | rfl | rfl | rfl | rfl
      all_goals exact ⟨_, rfl, by omega⟩
    clear hm hd i0 i1
    have hr : 0 ≤ r ∧ r ≤ 3 := by omega
    simp -implicitDefEqProofs only [s_bd, List.length_cons, List.length_nil, if_pos (show 0 + 1 + 1 ≤ sizeLine by decide), un2, q_wh hr, s_bdF, s_bdFd]
    refine bx_draw (by decide) (by decide) fun k k0 k1 => ?_
    obtain ⟨m, hk, m0, m1⟩ : ∃ m : Nat, 1 + k = (m : Int) ∧ 1 ≤ m ∧ m ≤ 30 := ⟨(1 + k).toNat, by omega, by omega, by omega⟩
    simp -implicitDefEqProofs only [hk, s_ul3, q_first hr l0 ⟨m0, m1⟩, s_nox, s_bd, q_comp (begZ r l) (show m ≤ 100 by omega), ne_lens, s_asB, Bool.false_eq_true, if_false, s_bdF]
    clear hk k0 k1 m0 m1 m h1 h1' x1 r4 l0 l
    have z0 : (0 : Nat) ≤ sizeLine := by decide
    have z1 : 0 + 1 ≤ sizeLine := by decide
    have z7 : 0 + 1 + 1 + 1 + 1 + 1 + 1 + 1 ≤ sizeLine := by decide
    have z9 : 0 + 1 + 1 + 1 + 1 + 1 + 1 + 1 + 1 + 1 ≤ sizeLine := by decide
    have z2 : 0 + 1 + 1 ≤ sizeLine := by decide
    have z3 : 0 + 1 + 1 + 1 ≤ sizeLine := by decide
    simp -implicitDefEqProofs only [s_neg, if_pos z0, if_pos z1, if_pos z2, if_pos z3, if_pos z7, if_pos z9, s_bd, List.length_cons, List.length_nil, s_ul2, q_pick, s_bdd]
    refine bx_draw (by decide) (by decide) fun i i0 i1 => ?_
    obtain ⟨d, hd, hm⟩ := ix_mem (ds := [.int 0, .int (-1), .non, .bl true, .str "1", .int (10000000000000000000000000000000000000000 + 1), .tup [.int 1], .lst [], .dct]) i0 i1
    rw [hd]
    clear hd i0 i1
    simp -implicitDefEqProofs only [s_bd]
    refine bx_chk ?_ ?_
    · revert d
      refine dec_mem ?_
      decide +kernel
    refine bx_draw (by decide) (by decide) fun i i0 i1 => ?_
    obtain ⟨d, hd, hm⟩ := ix_mem (ds := L2d) i0 i1
    unfold L2d at hd
    rw [hd]
    have h2 := List.all_eq_true.mp row2_all d hm
    obtain ⟨x, hx, h2⟩ := strT_eq h2
    simp only [Bool.and_eq_true] at h2
    obtain ⟨⟨⟨h2, h3⟩, h4⟩, h5⟩ := h2
    clear hd hm i0 i1
    simp -implicitDefEqProofs only [s_bd, s_ul3, sameT_eq h2, sameT_eq h3, sameT_eq h4, hx, if_pos z0, if_pos z1, if_pos z2, if_pos z3, List.length_cons, List.length_nil, List.cons_append, List.nil_append, List.length_append, z1, if_true, s_ul1]
    have em : mulD (.lst [.tup [.lst [.bl false, .bl true, .bl false], .str x]]) (.int 3) = .ok (.lst [dueR x, dueR x, dueR x]) := rfl
    simp -implicitDefEqProofs only [if_pos (show 0 + 1 < sizeLine by decide), if_pos (show 0 + 1 + (0 + 1) < sizeLine by decide), em, s_bd, neB_ok h5, s_asB, Bool.false_eq_true, if_false, s_bdF]
    clear em h3 h4 h5 hx
    refine bx_draw (by decide) (by decide) fun i i0 i1 => ?_
    obtain ⟨d, hd, hm⟩ := ix_mem (ds := L3d) i0 i1
    unfold L3d at hd
    rw [hd]
    have hr4 : r ∈ ([0, 1, 2, 3] : List Int) := by
      simp only [List.mem_cons, List.mem_nil_iff, or_false]
      omega
    have h2 := List.all_eq_true.mp (List.all_eq_true.mp row3_all r hr4) d hm
    obtain ⟨x, hx, h2⟩ := strT_eq h2
    rw [Bool.and_eq_true] at h2
    simp -implicitDefEqProofs only [s_bd, sameT_eq h2.1, hx, if_pos z2, List.length_cons, List.length_nil, neB_ok h2.2, s_asB, Bool.false_eq_true, if_false, s_bdF]
    exact bx_ok rfl
  · exact yes_of (by decide +kernel)
end Lw
end
section
set_option Elab.async false
set_option linter.all false
set_option maxRecDepth 100000
set_option maxHeartbeats 4000000
set_option pp.maxSteps 600
namespace Lw
open PySem PySem.Spec PyProof.Rows L2 Gh Gp Gz
theorem pm_PromO {P : Program} {w : World} {K : PySem.W.Frag} {mg : Str → Option Value} {base : Heap} {CX : CXT} {k : Nat} {f : Addr} {fd : FuncData} {ps : List Str} {sp : Sp} (G : FnOk P w K mg base CX k f fd ps sp) (b : Binds K fd ps []) : PromO P w K mg base CX k f [] sp := ⟨fd, ps, [], G, b, .nil⟩
def TTl (K : PySem.W.Frag) : List (Addr × Str) := [((He.cT K ("law", none)).2, Gp.qlOf d_law K)]
theorem facts {P : Program} {w : World} {K : PySem.W.Frag} {h : Heap} {mg : Str → Option Value} {f : Addr} (X : K.In h) (G : h.Ns mainGlobals mg) (hfa : mg ("law" : Str) = some (.ref f)) (c2 : Gp.SaysS exs fns tfs sds pfile h K) (gl : (He.Fa.glo "law").ok K = true) (hP : ((P.main.file : Str) == pfile) = true ∧ (P.main.scope.names.lookup ("super" : Str)).isSome = false) :
    ∃ fd : FuncData, (∀ (s : Shared) (v : Value), BindsTo s fd ⟨[v], []⟩ [("_law_script", v)]) ∧ ∀ base : Heap, K.In base → base.Ns mainGlobals mg → (∀ p ∈ tfs.map (He.cT K), LamX.TabB base mg p.1 p.2) → FnG P w K mg base CX0 12 f fd ["_law_script"] (spLaw K (TTl K)) := by
  have c := c2.s.t
  have T : Tx K mg := tx_of X G c
  have e := hfa.symm.trans (He.glo_ok X G gl)
  cases e
  obtain ⟨f0, F0⟩ := c.def_ 0 (d := d_BadLength___init__) rfl
  obtain ⟨f1, F1⟩ := c.def_ 1 (d := d_BadRest___init__) rfl
  obtain ⟨f2, F2⟩ := c.def_ 2 (d := d_BadNumber___init__) rfl
  obtain ⟨f3, F3⟩ := c.def_ 3 (d := d__law_pen) rfl
  obtain ⟨f4, F4⟩ := c.def_ 4 (d := d__law_draw) rfl
  obtain ⟨f5, F5⟩ := c.def_ 5 (d := d_is_integer) rfl
  obtain ⟨f6, F6⟩ := c.def_ 6 (d := d_is_within) rfl
  obtain ⟨f7, F7⟩ := c.def_ 7 (d := d_is_length) rfl
  obtain ⟨f8, F8⟩ := c.def_ 8 (d := d_is_rest) rfl
  obtain ⟨f9, F9⟩ := c.def_ 9 (d := d_need_length) rfl
  obtain ⟨f10, F10⟩ := c.def_ 10 (d := d_need_rest) rfl
  obtain ⟨f11, F11⟩ := c.def_ 11 (d := d_rest_of) rfl
  obtain ⟨f12, F12⟩ := c.def_ 12 (d := d_first_of) rfl
  obtain ⟨f13, F13⟩ := c.def_ 13 (d := d_lengths_of) rfl
  obtain ⟨f14, F14⟩ := c.def_ 14 (d := d__law_pick) rfl
  obtain ⟨f15, F15⟩ := c.def_ 15 (d := d__law_first) rfl
  obtain ⟨f16, F16⟩ := c.def_ 16 (d := d__law_heard) rfl
  obtain ⟨f17, F17⟩ := c.def_ 17 (d := d__law_plain) rfl
  obtain ⟨f18, F18⟩ := c.def_ 18 (d := d_law) rfl
  have b18 := FunD.bindsA (ps := ["_law_script"]) F18 fun _ _ _ _ _ _ us hl => match us, hl with | [_], _ => rfl
  refine ⟨f18, fun s v => b18 s [v] rfl, fun base _ _ TB => ?_⟩
  have lm_law : LamD base mg K (TTl K) d_law ("law", none) := ⟨TB _ (List.mem_map.mpr ⟨_, by decide, rfl⟩), by simp only [TTl, List.mem_cons, true_or, or_true], fun p hp e => by
      simp only [TTl, List.mem_cons, List.mem_nil_iff, or_false] at hp
      rcases hp with rfl
      · rfl⟩
  have p0 : PromO P w K mg base CX0 1 (md "BadLength" "__init__" K) [] (spErr1 (gd "BadLength" K) "value") := pm_PromO (ok_BadLength___init__ F0 T ) (F0.bindsN fun _ _ _ _ _ _ us hl => match us, hl with | [_, _], _ => rfl)
  have p1 : PromO P w K mg base CX0 1 (md "BadRest" "__init__" K) [] (spErr1 (gd "BadRest" K) "value") := pm_PromO (ok_BadRest___init__ F1 T ) (F1.bindsN fun _ _ _ _ _ _ us hl => match us, hl with | [_, _], _ => rfl)
  have p2 : PromO P w K mg base CX0 1 (md "BadNumber" "__init__" K) [] (spErr1 (gd "BadNumber" K) "value") := pm_PromO (ok_BadNumber___init__ F2 T ) (F2.bindsN fun _ _ _ _ _ _ us hl => match us, hl with | [_, _], _ => rfl)
  have p3 : PromO P w K mg base CX0 1 (gd "_law_pen" K) [] (spPn K) := pm_PromO (ok__law_pen F3 T ) (F3.bindsN fun _ _ _ _ _ _ us hl => match us, hl with | [_], _ => rfl)
  have p4 : PromO P w K mg base CX0 1 (gd "_law_draw" K) [] (spF K (TTl K) (ul2 F_draw)) := pm_PromO (ok__law_draw (Tb := TTl K) F4 T ) (F4.bindsN fun _ _ _ _ _ _ us hl => match us, hl with | [_, _], _ => rfl)
  have p5 : PromO P w K mg base CX0 1 (gd "is_integer" K) [] (spF K (TTl K) (ul1 F_is_integer)) := pm_PromO (ok_is_integer (Tb := TTl K) F5 T ) (F5.bindsN fun _ _ _ _ _ _ us hl => match us, hl with | [_], _ => rfl)
  have p6 : PromO P w K mg base CX0 2 (gd "is_within" K) [] (spF K (TTl K) (ul3 F_is_within)) := pm_PromO (ok_is_within (Tb := TTl K) F6 T p5) (F6.bindsN fun _ _ _ _ _ _ us hl => match us, hl with | [_, _, _], _ => rfl)
  have p7 : PromO P w K mg base CX0 3 (gd "is_length" K) [] (spF K (TTl K) (ul1 F_is_length)) := pm_PromO (ok_is_length (Tb := TTl K) F7 T p6) (F7.bindsN fun _ _ _ _ _ _ us hl => match us, hl with | [_], _ => rfl)
  have p8 : PromO P w K mg base CX0 3 (gd "is_rest" K) [] (spF K (TTl K) (ul1 F_is_rest)) := pm_PromO (ok_is_rest (Tb := TTl K) F8 T p6) (F8.bindsN fun _ _ _ _ _ _ us hl => match us, hl with | [_], _ => rfl)
  have p9 : PromO P w K mg base (L2.CX P w) 4 (gd "need_length" K) [] (spF K (TTl K) (ul1 F_need_length)) := pm_PromO (ok_need_length (Tb := TTl K) F9 T p7 p0) (F9.bindsN fun _ _ _ _ _ _ us hl => match us, hl with | [_], _ => rfl)
  have p10 : PromO P w K mg base (L2.CX P w) 4 (gd "need_rest" K) [] (spF K (TTl K) (ul1 F_need_rest)) := pm_PromO (ok_need_rest (Tb := TTl K) F10 T p8 p1) (F10.bindsN fun _ _ _ _ _ _ us hl => match us, hl with | [_], _ => rfl)
  have p11 : PromO P w K mg base (L2.CX P w) 5 (gd "rest_of" K) [] (spF K (TTl K) (ul1 F_rest_of)) := pm_PromO (ok_rest_of (Tb := TTl K) F11 T p9) (F11.bindsN fun _ _ _ _ _ _ us hl => match us, hl with | [_], _ => rfl)
  have p12 : PromO P w K mg base CX0 1 (gd "first_of" K) [] (spF K (TTl K) (ul2 F_first_of)) := pm_PromO (ok_first_of (Tb := TTl K) F12 T ) (F12.bindsN fun _ _ _ _ _ _ us hl => match us, hl with | [_, _], _ => rfl)
  have p13 : PromQ P w K mg base 5 (gd "lengths_of" K) 2 [] (spY K (TTl K) (yl2 F_lengths_of)) := by
    obtain ⟨ds, hv, hb⟩ := FunD.binds1 (ps := ["rest", "least"]) F13 2 1 (by intro z; cases z) rfl fun _ _ _ _ _ _ _ us its hu hi => match us, hu, its, hi with | [_, _], _, [_], _ => ⟨_, rfl, rfl⟩
    cases hv; exact ⟨_, _, [], rfl, (ok_lengths_of (Tb := TTl K) F13 T p10 p5 p2 p12), hb, .nil⟩
  have pd13_0 : PromQ P w K mg base 5 (gd "lengths_of" K) 2 [V.int 1] (spY K (TTl K) (yl2 F_lengths_of)) := by
    obtain ⟨ds, hv, hb⟩ := FunD.binds1 (ps := ["rest", "least"]) F13 1 0 (by intro z; cases z) rfl fun _ _ _ _ _ _ _ us its hu hi => match us, hu, its, hi with | [_], _, [_], _ => ⟨_, rfl, rfl⟩
    exact ⟨_, _, ds, rfl, (ok_lengths_of (Tb := TTl K) F13 T p10 p5 p2 p12), hb, hv⟩
  have p14 : PromO P w K mg base CX0 2 (gd "_law_pick" K) [] (spF K (TTl K) (ul2 F__law_pick)) := pm_PromO (ok__law_pick (Tb := TTl K) F14 T p4) (F14.bindsN fun _ _ _ _ _ _ us hl => match us, hl with | [_, _], _ => rfl)
  have p15 : PromO P w K mg base (L2.CX P w) 9 (gd "_law_first" K) [] (spF K (TTl K) (ul3 F__law_first)) := pm_PromO (ok__law_first (Tb := TTl K) F15 T p13) (F15.bindsN fun _ _ _ _ _ _ us hl => match us, hl with | [_, _, _], _ => rfl)
  have p16 : HrdP K d__law_heard ["_law_ask"] := ⟨f16, F16, F16.bindsN fun _ _ _ _ _ _ us hl => match us, hl with | [_], _ => rfl⟩
  have p17 : PromO P w K mg base CX0 9 (gd "_law_plain" K) [] (spF K (TTl K) (ul0 F__law_plain)) := pm_PromO (ok__law_plain (Tb := TTl K) F17 T pd13_0) (F17.bindsN fun _ _ _ _ _ _ us hl => match us, hl with | [], _ => rfl)
  exact ok_law (Tb := TTl K) F18 T law_yes p3 p14 p4 p11 p15 p16 lm_law p17
end Lw
open PySem PySem.W PySem.Calls PyProof.Rows
set_option maxRecDepth 100000 in
set_option maxHeartbeats 0 in
theorem PySem.Challenge.cw_everyhunt_k05_rests_and_lengths_holds : PySem.Challenge.rw_everyhunt_k05_rests_and_lengths.Holds := by
  w_on; o_law
  refine HandSHeadRun.head_any (r := OpenLaw.row PySem.Challenge.rw_everyhunt_k05_rests_and_lengths) (q := view (OpenLaw.row PySem.Challenge.rw_everyhunt_k05_rests_and_lengths).prog [25]) (H := Lw.hk) (ob := Lw.ob) (M := 20000) (loose := Lw.loose) (d := HandSHeadRun.topDef (OpenLaw.row PySem.Challenge.rw_everyhunt_k05_rests_and_lengths).prog 25) (kwd := []) Lw.ob_eq
    (by kernel_rfl) (fun s => by kernel_rfl) Lw.run (by kernel_rfl) (by kernel_rfl) (by kernel_rfl) (by rfl) (by first | assumption | decide +kernel) (by decide +kernel) ⟨rfl, rfl, rfl, rfl, rfl, by decide +kernel⟩ ?hw ?hc
  case hw => w_witness2
  case hc =>
    refine Gh.walk_ofTsG (l := PySem.Challenge.rw_everyhunt_k05_rests_and_lengths) (n := 63) (k := 12) (x := "_law_script") (CX := fun _ => L2.CX0) rfl (by decide) (by kernel_rfl) ⟨rfl, by decide, by decide⟩ ?F (fun _ _ _ _ _ z => z)
    intro w mg fa h Y G hmg0
    obtain ⟨K, KX, c⟩ := Y
    have hmg : mg ("law" : PySem.Str) = some (.ref fa) := by
      have e : (HandSHeadRun.topDef (OpenLaw.row PySem.Challenge.rw_everyhunt_k05_rests_and_lengths).prog 25).name = ("law" : PySem.Str) := by kernel_rfl
      rw [← e]
      exact hmg0
    obtain ⟨fd, hb, hF⟩ := Lw.facts (P := (PySem.Challenge.rw_everyhunt_k05_rests_and_lengths).prog) (w := w) KX G hmg c (c.s.t.fact 74 rfl) ⟨by kernel_rfl, by kernel_rfl⟩
    refine ⟨K, fd, Lw.tfs.map (He.cT K), Gp.spLaw K (Lw.TTl K), KX, fun p hp => ?_, fun p hp => ?_, fun p hp => ?_, hb, fun H a ns hl hT hS => ⟨a, ns, rfl, hS, hl, fun p hp => ?_, fun _ => rfl⟩, fun base h1 h2 h3 => hF base h1 h2 h3⟩
    · obtain ⟨d, hd, rfl⟩ := List.mem_map.mp hp
      exact c.s.empty d hd
    · obtain ⟨d, hd, rfl⟩ := List.mem_map.mp hp
      exact c.s.out d hd
    · obtain ⟨d, hd, rfl⟩ := List.mem_map.mp hp
      exact PySem.W.codeHd_of_K KX (c.s.hd d hd)
    · have e : ∀ p ∈ Lw.TTl K, ∃ d ∈ Lw.tfs.map (He.cT K), p.1 = d.2 := fun p hp => by
        have z : (Lw.TTl K).map (·.1) = (Lw.tfs.map (He.cT K)).map (·.2) := rfl
        have m : p.1 ∈ (Lw.tfs.map (He.cT K)).map (·.2) := by rw [← z]; exact List.mem_map.mpr ⟨p, hp, rfl⟩
        obtain ⟨d, hd, e⟩ := List.mem_map.mp m
        exact ⟨d, hd, e.symm⟩
      obtain ⟨d, hd, ed⟩ := e p hp
      exact LamX.TabS.nil (by rw [ed]; exact hT d hd)
#print axioms PySem.Challenge.cw_everyhunt_k05_rests_and_lengths_holds
end
