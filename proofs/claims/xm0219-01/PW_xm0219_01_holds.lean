import PyProof.Rows.All
import Wide.All
import OpenK.KCell
import Wide.FinOn
import PySem.Challenge.RW_xm0219_01
open PySem PySem.W PySem.Calls PyProof.Rows PySem.Spec
set_option Elab.async false
set_option maxRecDepth 100000
set_option maxHeartbeats 4000000
set_option linter.all false
namespace Mine
-- MBase
noncomputable abbrev PH := Addr → Option Obj
noncomputable def PH.add (P : PH) (a : Addr) (o : Obj) : PH := fun b => if b = a then some o else P b
noncomputable abbrev tupO (vs : List Value) (n : Nat) : Obj := { cls := .type "tuple", data := .seq vs.toArray n }
noncomputable abbrev lstO (vs : List Value) (n : Nat) : Obj := { cls := .type "list", data := .seq vs.toArray n }
mutual
inductive Rep (P : PH) : Value → PyData → Prop
  | none : Rep P .none .none
  | bool (b : Bool) : Rep P (.bool b) (.bool b)
  | int (i : Int) (t : Tok) : Rep P (.int i t) (.int i)
  | str (x : Str) (t : Tok) : Rep P (.str x t) (.str x)
  | tup {a : Addr} {vs : List Value} {n : Nat} {ds : List PyData} : P a = some (tupO vs n) → Reps P vs ds → Rep P (.ref a) (.tuple ds)
  | lst {a : Addr} {vs : List Value} {n : Nat} {ds : List PyData} : P a = some (lstO vs n) → Reps P vs ds → Rep P (.ref a) (.list ds)
inductive Reps (P : PH) : List Value → List PyData → Prop
  | nil : Reps P [] []
  | cons {v : Value} {vs : List Value} {d : PyData} {ds : List PyData} : Rep P v d → Reps P vs ds → Reps P (v :: vs) (d :: ds)
end
noncomputable def PLe (P P' : PH) : Prop := ∀ a o, P a = some o → P' a = some o
theorem PLe.refl (P : PH) : PLe P P := fun _ _ e => e
theorem PLe.trans {P P' P'' : PH} (x : PLe P P') (y : PLe P' P'') : PLe P P'' := fun a o e => y a o (x a o e)
mutual
theorem Rep.mono {P P' : PH} (k : PLe P P') : ∀ {v : Value} {d : PyData}, Rep P v d → Rep P' v d
  | _, _, .none => .none
  | _, _, .bool b => .bool b
  | _, _, .int i t => .int i t
  | _, _, .str x t => .str x t
  | _, _, .tup h r => .tup (k _ _ h) (Reps.mono k r)
  | _, _, .lst h r => .lst (k _ _ h) (Reps.mono k r)
theorem Reps.mono {P P' : PH} (k : PLe P P') : ∀ {vs : List Value} {ds : List PyData}, Reps P vs ds → Reps P' vs ds
  | _, _, .nil => .nil
  | _, _, .cons a b => .cons (Rep.mono k a) (Reps.mono k b)
end
mutual
theorem Rep.reads {P : PH} {h : Heap} (k : ∀ a o, P a = some o → h.get? a = some o) : ∀ {v : Value} {d : PyData}, Rep P v d → ∃ as, Reads h v d as
  | _, _, .none => ⟨_, .none⟩
  | _, _, .bool b => ⟨_, .bool b⟩
  | _, _, .int i t => ⟨_, .int i t⟩
  | _, _, .str x t => ⟨_, .str x t⟩
  | _, _, .tup h r => let ⟨_, q⟩ := Reps.reads k r; ⟨_, .tuple (k _ _ h) rfl rfl (by simpa using q)⟩
  | _, _, .lst h r => let ⟨_, q⟩ := Reps.reads k r; ⟨_, .list (k _ _ h) rfl rfl (by simpa using q)⟩
theorem Reps.reads {P : PH} {h : Heap} (k : ∀ a o, P a = some o → h.get? a = some o) : ∀ {vs : List Value} {ds : List PyData}, Reps P vs ds → ∃ as, ReadsAll h vs ds as
  | _, _, .nil => ⟨_, .nil⟩
  | _, _, .cons a b => let ⟨_, p⟩ := Rep.reads k a; let ⟨_, q⟩ := Reps.reads k b; ⟨_, .cons p q⟩
end
theorem Reps.length {P : PH} : ∀ {vs : List Value} {ds : List PyData}, Reps P vs ds → vs.length = ds.length
  | _, _, .nil => rfl
  | _, _, .cons _ b => by rw [List.length_cons, List.length_cons, b.length]
theorem Reps.get {P : PH} : ∀ {vs : List Value} {ds : List PyData}, Reps P vs ds → ∀ {j : Nat} {d : PyData}, ds[j]? = some d → ∃ v, vs[j]? = some v ∧ Rep P v d
  | _, _, .cons a _, 0, _, e => by
    simp only [List.getElem?_cons_zero, Option.some.injEq] at e
    subst e
    exact ⟨_, by simp, a⟩
  | _, _, .cons _ b, j + 1, d, e => by
    simp only [List.getElem?_cons_succ] at e ⊢
    exact b.get e
theorem Reps.append {P : PH} {ws : List Value} {es : List PyData} (y : Reps P ws es) : ∀ {vs : List Value} {ds : List PyData}, Reps P vs ds → Reps P (vs ++ ws) (ds ++ es)
  | _, _, .nil => y
  | _, _, .cons a b => .cons a (Reps.append y b)
theorem Reps.app {P : PH} {vs ws : List Value} {ds es : List PyData} (x : Reps P vs ds) (y : Reps P ws es) : Reps P (vs ++ ws) (ds ++ es) := Reps.append y x
theorem Reps.take {P : PH} : ∀ {vs : List Value} {ds : List PyData}, Reps P vs ds → ∀ n, Reps P (vs.take n) (ds.take n)
  | _, _, _, 0 => by simpa using Reps.nil
  | _, _, .nil, _ + 1 => by simpa using Reps.nil
  | _, _, .cons a b, n + 1 => by simpa using Reps.cons a (b.take n)
theorem Reps.drop {P : PH} : ∀ {vs : List Value} {ds : List PyData}, Reps P vs ds → ∀ n, Reps P (vs.drop n) (ds.drop n)
  | _, _, h, 0 => h
  | _, _, .nil, _ + 1 => by simpa using Reps.nil
  | _, _, .cons _ b, n + 1 => by simpa using b.drop n
theorem Reps.reverse {P : PH} : ∀ {vs : List Value} {ds : List PyData}, Reps P vs ds → Reps P vs.reverse ds.reverse
  | _, _, .nil => .nil
  | _, _, .cons a b => by simpa using Reps.append (Reps.cons a .nil) b.reverse
noncomputable def usedB : List Str := [Str.ofString "len", Str.ofString "isinstance", Str.ofString "tuple", Str.ofString "int", Str.ofString "bool", Str.ofString "str", Str.ofString "list", Str.ofString "max", Str.ofString "range", Str.ofString "zip"]
structure Cx where
  prog : Program
  w : World
  h₀ : Heap
  mg : Str → Option Value
  mb : Str → Option Value
  g : h₀.Ns mainGlobals mg
  b : h₀.Ns builtinsNs mb
  boot : ∀ x : Str, x ≠ "__name__" → mb x = bootBuiltins x
  free : ∀ x ∈ usedB, mg x = none
  nolimit : h₀.NoLimit
  nodigits : ∃ mc, h₀.Ns cStatics mc ∧ mc "sys.int_max_str_digits" = none
  on : Bool
  S : Addr
structure Base (C : Cx) (σ : Int × Int) (P : PH) (h : Heap) : Prop where
  stay : ∀ a o, P a = some o → h.get? a = some o
  base : ∀ a o, C.h₀.get? a = some o → P a = some o
  src : C.on = true → P C.S = none ∧ ∃ ta tb n, h.get? C.S = some (lstO [.int σ.1 ta, .int σ.2 tb] n)
structure CStep (C : Cx) (P : PH) (h : Heap) (P' : PH) (h' : Heap) : Prop where
  le : PLe P P'
  fresh : ∀ a o, P' a = some o → P a = some o ∨ h.get? a = none
  keep : ∀ a o, (C.on = true → a ≠ C.S) → h.get? a = some o → h'.get? a = some o
  dom : ∀ a o, h.get? a = some o → ∃ o', h'.get? a = some o'
theorem CStep.refl {C : Cx} (P : PH) (h : Heap) : CStep C P h P h := ⟨PLe.refl P, fun _ _ e => .inl e, fun _ _ _ e => e, fun _ o e => ⟨o, e⟩⟩
theorem CStep.trans {C : Cx} {P P₁ P₂ : PH} {h h₁ h₂ : Heap} (x : CStep C P h P₁ h₁) (y : CStep C P₁ h₁ P₂ h₂) : CStep C P h P₂ h₂ := by
  refine ⟨x.le.trans y.le, fun a o e => ?_, fun a o n e => y.keep a o n (x.keep a o n e), fun a o e => ?_⟩
  · rcases y.fresh a o e with e | e
    · exact x.fresh a o e
    · refine .inr ?_
      cases q : h.get? a with
      | none => rfl
      | some o' => obtain ⟨o'', q'⟩ := x.dom a o' q; rw [e] at q'; cases q'
  · obtain ⟨o', e'⟩ := x.dom a o e
    exact y.dom a o' e'
theorem CStep.ext {C : Cx} {P : PH} {h h' : Heap} (k : ∀ b o, h.get? b = some o → h'.get? b = some o) : CStep C P h P h' :=
  ⟨PLe.refl P, fun _ _ e => .inl e, fun a o _ e => k a o e, fun a o e => ⟨o, k a o e⟩⟩
theorem PH.le_add {P : PH} {a : Addr} {o : Obj} (n : P a = none) : PLe P (P.add a o) := by
  intro b p e
  unfold PH.add
  split
  · rename_i q; subst q; rw [n] at e; cases e
  · exact e
theorem CStep.ext_add {C : Cx} {σ : Int × Int} {P : PH} {h h' : Heap} {a : Addr} {o : Obj} (B : Base C σ P h) (k : ∀ b o, h.get? b = some o → h'.get? b = some o) (n : h.get? a = none) : CStep C P h (P.add a o) h' := by
  have nP : P a = none := by
    cases q : P a with
    | none => rfl
    | some o' => rw [B.stay a o' q] at n; cases n
  refine ⟨PH.le_add nP, fun b p e => ?_, fun a o _ e => k a o e, fun a o e => ⟨o, k a o e⟩⟩
  unfold PH.add at e
  split at e
  · rename_i q; subst q; exact .inr n
  · exact .inl e
theorem Base.ext {C : Cx} {σ : Int × Int} {P : PH} {h h' : Heap} (B : Base C σ P h) (k : ∀ b o, h.get? b = some o → h'.get? b = some o) : Base C σ P h' :=
  ⟨fun a o e => k a o (B.stay a o e), B.base, fun q => let ⟨x, ta, tb, n, l⟩ := B.src q; ⟨x, ta, tb, n, k _ _ l⟩⟩
theorem Base.ext_add {C : Cx} {σ : Int × Int} {P : PH} {h h' : Heap} {a : Addr} {o : Obj} (B : Base C σ P h) (k : ∀ b o, h.get? b = some o → h'.get? b = some o) (n : h.get? a = none) (ha : h'.get? a = some o) : Base C σ (P.add a o) h' := by
  refine ⟨fun b p e => ?_, fun b p e => ?_, fun q => ?_⟩
  · unfold PH.add at e
    split at e
    · rename_i q; subst q; cases e; exact ha
    · exact k _ _ (B.stay b p e)
  · have hb := B.base b p e
    have hn : b ≠ a := by rintro rfl; rw [B.stay _ _ hb] at n; cases n
    unfold PH.add
    rw [if_neg hn]; exact hb
  · obtain ⟨x, ta, tb, nn, l⟩ := B.src q
    have hn : C.S ≠ a := by
      intro e
      rw [e, n] at l; cases l
    exact ⟨by unfold PH.add; rw [if_neg hn]; exact x, ta, tb, nn, k _ _ l⟩
inductive AV where
  | dat (d : PyData)
  | src
  | box (ds : List PyData)
  | scr (ns : List Int)
noncomputable abbrev Loc := List (Str × AV)
inductive VD where
  | dat (d : PyData)
  | src
  | var (x : Str)
  | scr (ns : List Int)
structure Fi where
  sc : Scope
  own : List Str
structure Frm where
  env : Env
  hs : Heap
  P₀ : PH
noncomputable def VOk (C : Cx) (f : Frm) (P : PH) (h : Heap) (v : Value) : AV → Prop
  | .dat d => Rep P v d
  | .src => C.on = true ∧ v = .ref C.S
  | .scr ns => ∃ l vs, v = .ref l ∧ C.h₀.IsList l vs.toArray ∧ IntsAre vs ns
  | .box ds => ∃ B vs n, v = .ref B ∧ h.get? B = some (lstO vs n) ∧ Reps P vs ds ∧ P B = none ∧ (C.on = true → C.S ≠ B) ∧ f.hs.get? B = none
noncomputable def Kinded (f : Frm) (x : Str) : Prop := f.env.kindOf x = some .local ∨ ((f.env.kindOf x = some .cell ∨ f.env.kindOf x = some .free) ∧ ∃ c, f.env.cells.lookup x = some c)
structure St (C : Cx) (fi : Fi) (f : Frm) (σ : Int × Int) (P : PH) (μ : Str → Option Value) (ρ : Loc) (h : Heap) : Prop where
  B : Base C σ P h
  sc : f.env.scope = fi.sc
  fnk : fi.sc.kind = .function
  glob : f.env.globals = mainGlobals
  blt : f.env.builtins = builtinsNs
  ns : ∃ m, h.Ns f.env.locals m ∧ ∀ x, f.env.kindOf x = some .local → m x = μ x
  nsP : P f.env.locals = none
  nsF : f.hs.get? f.env.locals = none
  cell : ∀ x c, f.env.cells.lookup x = some c → P c = none ∧ f.env.kindOf x ≠ some .local ∧ h.IsCell c (μ x)
  capart : ∀ x y c, f.env.cells.lookup x = some c → f.env.cells.lookup y = some c → x = y
  cown : ∀ x ∈ fi.own, ∃ c, f.env.cells.lookup x = some c ∧ f.hs.get? c = none
  vars : ∀ x av, ρ.lookup x = some av → Kinded f x ∧ ∃ v, μ x = some v ∧ VOk C f P h v av
  boxes : ∀ x y ds es v, ρ.lookup x = some (.box ds) → ρ.lookup y = some (.box es) → μ x = some v → μ y = some v → x = y
  fr : CStep C f.P₀ f.hs P h
theorem St.after {C : Cx} {fi : Fi} {f : Frm} {σ σ' : Int × Int} {P P' : PH} {μ : Str → Option Value} {ρ : Loc} {h h' : Heap}
    (s : St C fi f σ P μ ρ h) (c : CStep C P h P' h') (b : Base C σ' P' h') : St C fi f σ' P' μ ρ h' := by
  have notS : ∀ a o, h.get? a = some o → (∀ vs n, o.data ≠ .seq vs n) → C.on = true → a ≠ C.S := by
    rintro a o e nd q rfl
    obtain ⟨_, ta, tb, n, l⟩ := s.B.src q
    rw [e] at l; cases l
    exact nd _ _ rfl
  have stillNone : ∀ a o, h.get? a = some o → P a = none → P' a = none := fun a o e n => by
    cases q : P' a with
    | none => rfl
    | some o' =>
      rcases c.fresh a o' q with q' | q'
      · rw [n] at q'; cases q'
      · rw [e] at q'; cases q'
  obtain ⟨m, hn, hm⟩ := s.ns
  obtain ⟨oL, es, ep, hL, hLd, hLk, hLf⟩ := id hn
  refine ⟨b, s.sc, s.fnk, s.glob, s.blt, ⟨m, ⟨oL, es, ep, c.keep _ _ (notS _ _ hL (by rw [hLd]; intros; simp)) hL, hLd, hLk, hLf⟩, hm⟩, stillNone _ _ hL s.nsP, s.nsF, fun x cc e => ?_, s.capart, s.cown, fun x av e => ?_, s.boxes, s.fr.trans c⟩
  · obtain ⟨h1, h2, h3⟩ := s.cell x cc e
    obtain ⟨oc, hoc, hd⟩ := h3
    exact ⟨stillNone _ _ hoc h1, h2, oc, c.keep _ _ (notS _ _ hoc (by rw [hd]; intros; simp)) hoc, hd⟩
  · obtain ⟨h1, v, h2, h3⟩ := s.vars x av e
    refine ⟨h1, v, h2, ?_⟩
    cases av with
    | dat d => exact Rep.mono c.le h3
    | src => exact h3
    | scr ns => exact h3
    | box ds =>
      obtain ⟨B, vs, n, rfl, hl, hr, hP, hS, hF⟩ := h3
      exact ⟨B, vs, n, rfl, c.keep _ _ (fun q e' => hS q e'.symm) hl, Reps.mono c.le hr, stillNone _ _ hl hP, hS, hF⟩
noncomputable def VRep (P : PH) (C : Cx) (μ : Str → Option Value) (ρ : Loc) (v : Value) : VD → Prop
  | .dat d => Rep P v d
  | .src => C.on = true ∧ v = .ref C.S
  | .var x => μ x = some v ∧ ∃ ds, ρ.lookup x = some (.box ds)
  | .scr ns => ∃ l vs, v = .ref l ∧ C.h₀.IsList l vs.toArray ∧ IntsAre vs ns
theorem VRep.mono {P P' : PH} {C : Cx} {μ : Str → Option Value} {ρ : Loc} {v : Value} {r : VD} (k : PLe P P') (x : VRep P C μ ρ v r) : VRep P' C μ ρ v r := by
  cases r with
  | dat d => exact Rep.mono k x
  | src => exact x
  | var y => exact x
  | scr ns => exact x
noncomputable def AOk (A : Around) (k : Nat) : Prop := A.handled = none ∧ A.depth + k ≤ 900 ∧ A.units + 20 * k ≤ 9000
noncomputable def Post (C : Cx) (μ : Str → Option Value) (ρ : Loc) (P : PH) (σ' : Int × Int) (r : VD) (Q : Value → Shared → Prop) (s : Shared) : Prop :=
  ∀ v h' tk P', CStep C P s.heap P' h' → Base C σ' P' h' → VRep P' C μ ρ v r → Q v { s with heap := h', toks := tk }
structure Ev (C : Cx) (k : Nat) (fi : Fi) (ρ : Loc) (σ : Int × Int) (e : Expr) (r : VD) (σ' : Int × Int) : Prop where
  run : ∀ (f : Frm) (A : Around) (s : Shared) (P : PH) (μ : Str → Option Value) (E : Value → Shared → Prop) (Q : Value → Shared → Prop), AOk A k → St C fi f σ P μ ρ s.heap →
    Post C μ ρ P σ' r Q s → wpAny (model C.prog C.w) A (eval e f.env) Q E s
-- MExpr
section
variable {C : Cx} {k : Nat} {fi : Fi} {ρ : Loc} {σ σ₁ σ₂ σ₃ : Int × Int}
theorem AOk.lt {A : Around} (h : AOk A k) : A.depth < recursionLimit := by have := h.2.1; show A.depth < 1000; omega
theorem AOk.units {A : Around} (h : AOk A k) : A.units + 64 < cLine := by have := h.2.2; show A.units + 64 < 9900; omega
theorem AOk.le {A : Around} {j : Nat} (h : AOk A k) (hj : j ≤ k) : AOk A j := ⟨h.1, by have := h.2.1; omega, by have := h.2.2; omega⟩
theorem Ev.none {kd : Nat} {pos : Pos} : Ev C k fi ρ σ (.Constant .none kd pos) (.dat .none) σ :=
  .mk <| fun _ _ s P _ _ _ _ hS h => wpAny_Constant_none (h _ s.heap s.toks P (CStep.refl ..) hS.B .none)
theorem Ev.bool {b : Bool} {kd : Nat} {pos : Pos} : Ev C k fi ρ σ (.Constant (.bool b) kd pos) (.dat (.bool b)) σ :=
  .mk <| fun _ _ s P _ _ _ _ hS h => wpAny_Constant_bool (h _ s.heap s.toks P (CStep.refl ..) hS.B (.bool b))
theorem Ev.int {i : Int} {kd : Nat} {pos : Pos} : Ev C k fi ρ σ (.Constant (.int i) kd pos) (.dat (.int i)) σ :=
  .mk <| fun _ _ s P _ _ _ _ hS h => wpAny_Constant_int (h _ s.heap _ P (CStep.refl ..) hS.B (.int i _))
theorem Ev.str {x : Str} {kd : Nat} {pos : Pos} : Ev C k fi ρ σ (.Constant (.str x) kd pos) (.dat (.str x)) σ :=
  .mk <| fun _ _ s P _ _ _ _ hS h => wpAny_Constant_str (h _ s.heap _ P (CStep.refl ..) hS.B (.str x _))
theorem loadVar {f : Frm} {P : PH} {μ : Str → Option Value} {s : Shared} {M : Model} {A : Around} {E : Value → Shared → Prop} {Q : Value → Shared → Prop} {x : Str} {pos : Pos} {v : Value}
    (hS : St C fi f σ P μ ρ s.heap) (hk : Kinded f x) (hv : μ x = some v) (hd : (x == ("__debug__" : Str)) = false) (hc : (x == ("__classdict__" : Str)) = false) (h : Q v s) : wpAny M A (eval (.Name x pos) f.env) Q E s := by
  have fk : f.env.scope.kind = .function := by rw [hS.sc]; exact hS.fnk
  refine wpAny_Name ?_ hd
  rcases hk with hk | ⟨hk, c, hc'⟩
  · obtain ⟨m, hn, hm⟩ := hS.ns
    exact wpAny_loadName_local fk hk hn ((hm x hk).trans hv) h
  · have h3 := (hS.cell x c hc').2.2
    rw [hv] at h3
    rcases hk with hk | hk
    · exact wpAny_loadName_cell fk hk hc' h3 h
    · exact wpAny_loadName_free fk hk hc' h3 h hc
theorem Ev.name {x : Str} {pos : Pos} {d : PyData} (hx : ρ.lookup x = some (.dat d)) (hd : (x == ("__debug__" : Str)) = false := by decide) (hc : (x == ("__classdict__" : Str)) = false := by decide) :
    Ev C k fi ρ σ (.Name x pos) (.dat d) σ := .mk <| fun _ _ s P _ _ _ _ hS h => by
  obtain ⟨hk, v, hv, hr⟩ := hS.vars x _ hx
  exact loadVar hS hk hv hd hc (h _ s.heap s.toks P (CStep.refl ..) hS.B hr)
theorem Ev.nameS {x : Str} {pos : Pos} (hx : ρ.lookup x = some .src) (hd : (x == ("__debug__" : Str)) = false := by decide) (hc : (x == ("__classdict__" : Str)) = false := by decide) :
    Ev C k fi ρ σ (.Name x pos) .src σ := .mk <| fun _ _ s P _ _ _ _ hS h => by
  obtain ⟨hk, v, hv, hr⟩ := hS.vars x _ hx
  exact loadVar hS hk hv hd hc (h _ s.heap s.toks P (CStep.refl ..) hS.B hr)
theorem Ev.nameB {x : Str} {pos : Pos} {ds : List PyData} (hx : ρ.lookup x = some (.box ds)) (hd : (x == ("__debug__" : Str)) = false := by decide) (hc : (x == ("__classdict__" : Str)) = false := by decide) :
    Ev C k fi ρ σ (.Name x pos) (.var x) σ := .mk <| fun _ _ s P _ _ _ _ hS h => by
  obtain ⟨hk, v, hv, hr⟩ := hS.vars x _ hx
  exact loadVar hS hk hv hd hc (h _ s.heap s.toks P (CStep.refl ..) hS.B ⟨hv, ds, hx⟩)
noncomputable def LRep (P : PH) (h : Heap) (v : Value) (ds : List PyData) : Prop := ∃ a vs n, v = .ref a ∧ h.get? a = some (lstO vs n) ∧ Reps P vs ds
inductive LstOf (ρ : Loc) : VD → List PyData → Prop
  | dat (ds : List PyData) : LstOf ρ (.dat (.list ds)) ds
  | var {x : Str} {ds : List PyData} (h : ρ.lookup x = some (.box ds)) : LstOf ρ (.var x) ds
theorem LstOf.rep {r : VD} {ds : List PyData} {f : Frm} {P : PH} {μ : Str → Option Value} {h : Heap} {v : Value} (l : LstOf ρ r ds) (hS : St C fi f σ P μ ρ h) (hr : VRep P C μ ρ v r) : LRep P h v ds := by
  cases l with
  | dat ds =>
    cases hr with
    | lst hp rs => exact ⟨_, _, _, rfl, hS.B.stay _ _ hp, rs⟩
  | var hx =>
    obtain ⟨_, v', hv, B, vs, n, rfl, hl, rs, _⟩ := hS.vars _ _ hx
    obtain ⟨hm, _⟩ := hr
    rw [hv] at hm; cases hm
    exact ⟨_, _, _, rfl, hl, rs⟩
structure OpD (C : Cx) (k : Nat) (op : Value → Value → Sem Value) (d₁ d₂ d : PyData) : Prop where
  run : ∀ (A : Around) (s : Shared) (P : PH) (σ : Int × Int) (E : Value → Shared → Prop) (Q : Value → Shared → Prop) (v₁ v₂ : Value), AOk A k → Base C σ P s.heap → Rep P v₁ d₁ → Rep P v₂ d₂ →
    (∀ v h' tk P', CStep C P s.heap P' h' → Base C σ P' h' → Rep P' v d → Q v { s with heap := h', toks := tk }) → wpAny (model C.prog C.w) A (op v₁ v₂) Q E s
theorem Ev.bin {l r : Expr} {op : Operator} {pos : Pos} {d₁ d₂ d : PyData} (hl : Ev C k fi ρ σ l (.dat d₁) σ₁) (hr : Ev C k fi ρ σ₁ r (.dat d₂) σ₂) (ho : OpD C k (binaryOp op) d₁ d₂ d) :
    Ev C k fi ρ σ (.BinOp l op r pos) (.dat d) σ₂ := .mk <| fun f A s P μ E Q hA hS h =>
  wpAny_BinOp (hl.run f A s P μ E _ hA hS fun v₁ h₁ t₁ P₁ c₁ b₁ r₁ => hr.run f A { s with heap := h₁, toks := t₁ } P₁ μ E _ hA (hS.after c₁ b₁) fun v₂ h₂ t₂ P₂ c₂ b₂ r₂ =>
    ho.run A { s with heap := h₂, toks := t₂ } P₂ σ₂ E Q v₁ v₂ hA b₂ (Rep.mono c₂.le r₁) r₂ fun v h' tk P' c b r => h v h' tk P' ((c₁.trans c₂).trans c) b r)
theorem Ev.cmp {l r : Expr} {op : CmpOp} {pos : Pos} {d₁ d₂ d : PyData} (hl : Ev C k fi ρ σ l (.dat d₁) σ₁) (hr : Ev C k fi ρ σ₁ r (.dat d₂) σ₂) (ho : OpD C k (compareOp op) d₁ d₂ d)
    (hm : behindInMarks op r = false := by with_unfolding_all rfl) : Ev C k fi ρ σ (.Compare l [op] [r] pos) (.dat d) σ₂ := .mk <| fun f A s P μ E Q hA hS h =>
  wpAny_Compare1 (hl.run f A s P μ E _ hA hS fun v₁ h₁ t₁ P₁ c₁ b₁ r₁ => hr.run f A { s with heap := h₁, toks := t₁ } P₁ μ E _ hA (hS.after c₁ b₁) fun v₂ h₂ t₂ P₂ c₂ b₂ r₂ =>
    ho.run A { s with heap := h₂, toks := t₂ } P₂ σ₂ E Q v₁ v₂ hA b₂ (Rep.mono c₂.le r₁) r₂ fun v h' tk P' c b r => h v h' tk P' ((c₁.trans c₂).trans c) b r) hm
structure Ts (C : Cx) (k : Nat) (fi : Fi) (ρ : Loc) (σ : Int × Int) (e : Expr) (b : Bool) (σ' : Int × Int) : Prop where
  run : ∀ (f : Frm) (A : Around) (s : Shared) (P : PH) (μ : Str → Option Value) (E : Value → Shared → Prop) (Q : Bool → Shared → Prop), AOk A k → St C fi f σ P μ ρ s.heap →
    (∀ h' tk P', CStep C P s.heap P' h' → Base C σ' P' h' → Q b { s with heap := h', toks := tk }) → wpAny (model C.prog C.w) A (isTrue e f.env (eval e f.env)) Q E s
structure TsAll (C : Cx) (k : Nat) (fi : Fi) (ρ : Loc) (σ : Int × Int) (op : BoolOp) (es : List Expr) (b : Bool) (σ' : Int × Int) : Prop where
  run : ∀ (f : Frm) (A : Around) (s : Shared) (P : PH) (μ : Str → Option Value) (E : Value → Shared → Prop) (Q : Bool → Shared → Prop), AOk A k → St C fi f σ P μ ρ s.heap →
    (∀ h' tk P', CStep C P s.heap P' h' → Base C σ' P' h' → Q b { s with heap := h', toks := tk }) → wpAny (model C.prog C.w) A (allTrue op es f.env) Q E s
theorem Ts.cmp {l r : Expr} {op : CmpOp} {pos : Pos} {d₁ d₂ : PyData} {b : Bool} (hl : Ev C k fi ρ σ l (.dat d₁) σ₁) (hr : Ev C k fi ρ σ₁ r (.dat d₂) σ₂) (ho : OpD C k (compareOp op) d₁ d₂ (.bool b))
    (hm : behindInMarks op r = false := by with_unfolding_all rfl) : Ts C k fi ρ σ (.Compare l [op] [r] pos) b σ₂ := .mk <| fun f A s P μ E Q hA hS h =>
  wpAny_isTrue_Compare1 (hl.run f A s P μ E _ hA hS fun v₁ h₁ t₁ P₁ c₁ b₁ r₁ => hr.run f A { s with heap := h₁, toks := t₁ } P₁ μ E _ hA (hS.after c₁ b₁) fun v₂ h₂ t₂ P₂ c₂ b₂ r₂ =>
    ho.run A { s with heap := h₂, toks := t₂ } P₂ σ₂ E _ v₁ v₂ hA b₂ (Rep.mono c₂.le r₁) r₂ fun v h' tk P' c b r => by
      cases r
      exact wpAny_truthy_bool (h h' tk P' ((c₁.trans c₂).trans c) ‹_›)) hm
theorem Ts.not {x : Expr} {pos : Pos} {b : Bool} (hx : Ts C k fi ρ σ x b σ₁) : Ts C k fi ρ σ (.UnaryOp .Not x pos) (!b) σ₁ := .mk <| fun f A s P μ E _ hA hS h =>
  wpAny_isTrue_Not (hx.run f A s P μ E _ hA hS fun h' tk P' c b => h h' tk P' c b)
theorem Ts.val {e : Expr} {b : Bool} (he : Ev C k fi ρ σ e (.dat (.bool b)) σ₁) (hi : ∀ env, isTrue e env (eval e env) = (do let v ← eval e env; standAt e.pos; holding [v] (truthy v)) := by intro _; rfl) : Ts C k fi ρ σ e b σ₁ :=
  .mk <| fun f A s P μ E _ hA hS h => wpAny_isTrue_value (he.run f A s P μ E _ hA hS fun v h' tk P' c b r => by
    cases r
    exact wpAny_truthy_bool (h h' tk P' c ‹_›)) (hi f.env)
theorem Ts.boolOp {op : BoolOp} {es : List Expr} {pos : Pos} {b : Bool} (h : TsAll C k fi ρ σ op es b σ₁) : Ts C k fi ρ σ (.BoolOp op es pos) b σ₁ := .mk <| fun f A s P μ E Q hA hS q => wpAny_isTrue_BoolOp (h.run f A s P μ E Q hA hS q)
theorem TsAll.nilA : TsAll C k fi ρ σ .And [] true σ := .mk <| fun _ _ s P _ _ _ _ hS h => wpAny_allTrue_And_nil (h s.heap s.toks P (CStep.refl ..) hS.B)
theorem TsAll.nilO : TsAll C k fi ρ σ .Or [] false σ := .mk <| fun _ _ s P _ _ _ _ hS h => wpAny_allTrue_Or_nil (h s.heap s.toks P (CStep.refl ..) hS.B)
theorem TsAll.andF {e : Expr} {es : List Expr} (he : Ts C k fi ρ σ e false σ₁) : TsAll C k fi ρ σ .And (e :: es) false σ₁ := .mk <| fun f A s P μ E _ hA hS h =>
  wpAny_allTrue_And_cons (he.run f A s P μ E _ hA hS fun h' tk P' c b => h h' tk P' c b)
theorem TsAll.andT {e : Expr} {es : List Expr} {b : Bool} (he : Ts C k fi ρ σ e true σ₁) (hr : TsAll C k fi ρ σ₁ .And es b σ₂) : TsAll C k fi ρ σ .And (e :: es) b σ₂ := .mk <| fun f A s P μ E _ hA hS h =>
  wpAny_allTrue_And_cons (he.run f A s P μ E _ hA hS fun h' tk P' c b => hr.run f A { s with heap := h', toks := tk } P' μ E _ hA (hS.after c b) fun h'' tk' P'' c' b' => h h'' tk' P'' (c.trans c') b')
theorem TsAll.orT {e : Expr} {es : List Expr} (he : Ts C k fi ρ σ e true σ₁) : TsAll C k fi ρ σ .Or (e :: es) true σ₁ := .mk <| fun f A s P μ E _ hA hS h =>
  wpAny_allTrue_Or_cons (he.run f A s P μ E _ hA hS fun h' tk P' c b => h h' tk P' c b)
theorem TsAll.orF {e : Expr} {es : List Expr} {b : Bool} (he : Ts C k fi ρ σ e false σ₁) (hr : TsAll C k fi ρ σ₁ .Or es b σ₂) : TsAll C k fi ρ σ .Or (e :: es) b σ₂ := .mk <| fun f A s P μ E _ hA hS h =>
  wpAny_allTrue_Or_cons (he.run f A s P μ E _ hA hS fun h' tk P' c b => hr.run f A { s with heap := h', toks := tk } P' μ E _ hA (hS.after c b) fun h'' tk' P'' c' b' => h h'' tk' P'' (c.trans c') b')
theorem Ev.ifT {t x y : Expr} {pos : Pos} {r : VD} (ht : Ts C k fi ρ σ t true σ₁) (hx : Ev C k fi ρ σ₁ x r σ₂) : Ev C k fi ρ σ (.IfExp t x y pos) r σ₂ := .mk <| fun f A s P μ E _ hA hS h =>
  wpAny_IfExp (ht.run f A s P μ E _ hA hS fun h' tk P' c b => hx.run f A { s with heap := h', toks := tk } P' μ E _ hA (hS.after c b) fun v h'' tk' P'' c' b' r => h v h'' tk' P'' (c.trans c') b' r)
theorem Ev.ifF {t x y : Expr} {pos : Pos} {r : VD} (ht : Ts C k fi ρ σ t false σ₁) (hy : Ev C k fi ρ σ₁ y r σ₂) : Ev C k fi ρ σ (.IfExp t x y pos) r σ₂ := .mk <| fun f A s P μ E _ hA hS h =>
  wpAny_IfExp (ht.run f A s P μ E _ hA hS fun h' tk P' c b => hy.run f A { s with heap := h', toks := tk } P' μ E _ hA (hS.after c b) fun v h'' tk' P'' c' b' r => h v h'' tk' P'' (c.trans c') b' r)
theorem Ev.not {x : Expr} {pos : Pos} {b : Bool} (hx : Ev C k fi ρ σ x (.dat (.bool b)) σ₁) : Ev C k fi ρ σ (.UnaryOp .Not x pos) (.dat (.bool (!b))) σ₁ := .mk <| fun f A s P μ E _ hA hS h =>
  wpAny_UnaryOp (hx.run f A s P μ E _ hA hS fun v h' tk P' c b r => by
    cases r
    exact not_value (wpAny_truthy_bool (h _ h' tk P' c ‹_› (.bool _))))
theorem Ev.neg {x : Expr} {pos : Pos} {i : Int} (hx : Ev C k fi ρ σ x (.dat (.int i)) σ₁) : Ev C k fi ρ σ (.UnaryOp .USub x pos) (.dat (.int (-i))) σ₁ := .mk <| fun f A s P μ E _ hA hS h =>
  wpAny_UnaryOp (hx.run f A s P μ E _ hA hS fun v h' tk P' c b r => by
    cases r
    exact _root_.PySem.P.neg_int (h _ h' _ P' c b (.int _ _)))
structure BoolV (C : Cx) (k : Nat) (fi : Fi) (ρ : Loc) (σ : Int × Int) (op : BoolOp) (es : List Expr) (b : Bool) (σ' : Int × Int) : Prop where
  run : ∀ (f : Frm) (A : Around) (s : Shared) (P : PH) (μ : Str → Option Value) (E : Value → Shared → Prop) (Q : Value → Shared → Prop) (pos : Pos), AOk A k → St C fi f σ P μ ρ s.heap →
    Post C μ ρ P σ' (.dat (.bool b)) Q s → wpAny (model C.prog C.w) A (boolOp pos op (evalEach es f.env)) Q E s
theorem Ev.boolOp {op : BoolOp} {es : List Expr} {pos : Pos} {b : Bool} (h : BoolV C k fi ρ σ op es b σ₁) : Ev C k fi ρ σ (.BoolOp op es pos) (.dat (.bool b)) σ₁ := .mk <| fun f A s P μ E Q hA hS q => h.run f A s P μ E Q pos hA hS q
theorem BoolV.one {op : BoolOp} {e : Expr} {b : Bool} (h : Ev C k fi ρ σ e (.dat (.bool b)) σ₁) : BoolV C k fi ρ σ op [e] b σ₁ := .mk <| fun f A s P μ E Q _ hA hS q => h.run f A s P μ E Q hA hS q
theorem boolOp_step {M : Model} {A : Around} {E : Value → Shared → Prop} {s : Shared} {pos : Pos} {op : BoolOp} {x y : Sem Value} {rest : List (Sem Value)} {Q : Value → Shared → Prop}
    (h : wpAny M A x (fun v s₁ => wpAny M A (truthy v) (fun t s₂ => match op, t with | .And, false => Q v s₂ | .Or, true => Q v s₂ | _, _ => wpAny M A (boolOp pos op (y :: rest)) Q E s₂) E s₁) E s) :
    wpAny M A (boolOp pos op (x :: y :: rest)) Q E s := by
  show wpAny M A (do
    let v ← x
    standAt pos
    let t ← holding [v] (truthy v)
    match op, t with
    | .And, false | .Or, true => pure v
    | _, _ => boolOp pos op (y :: rest)) Q E s
  refine wpAny_bind (wpAny_mono h (fun v s₁ h₁ => wpAny_bind (wpAny_standAt (wpAny_bind (wpAny_holding (wpAny_mono h₁ (fun t s₂ h₂ => ?_) fun _ _ x => x))))) fun _ _ x => x)
  cases op <;> cases t <;> first | exact wpAny_pure h₂ | exact h₂
theorem BoolV.andF {e e' : Expr} {es : List Expr} (h : Ev C k fi ρ σ e (.dat (.bool false)) σ₁) : BoolV C k fi ρ σ .And (e :: e' :: es) false σ₁ := .mk <| fun f A s P μ E _ _ hA hS q =>
  boolOp_step (h.run f A s P μ E _ hA hS fun v h' tk P' c b r => by cases r; exact wpAny_truthy_bool (q _ h' tk P' c b (.bool _)))
theorem BoolV.andT {e e' : Expr} {es : List Expr} {b : Bool} (h : Ev C k fi ρ σ e (.dat (.bool true)) σ₁) (hr : BoolV C k fi ρ σ₁ .And (e' :: es) b σ₂) : BoolV C k fi ρ σ .And (e :: e' :: es) b σ₂ := .mk <| fun f A s P μ E _ pos hA hS q =>
  boolOp_step (h.run f A s P μ E _ hA hS fun v h' tk P' c b r => by
    cases r
    exact wpAny_truthy_bool (hr.run f A { s with heap := h', toks := tk } P' μ E _ pos hA (hS.after c b) fun v h'' tk' P'' c' b' r => q v h'' tk' P'' (c.trans c') b' r))
structure Evs (C : Cx) (k : Nat) (fi : Fi) (ρ : Loc) (σ : Int × Int) (es : List Expr) (ds : List PyData) (σ' : Int × Int) : Prop where
  run : ∀ (f : Frm) (A : Around) (s : Shared) (P : PH) (μ : Str → Option Value) (E : Value → Shared → Prop) (Q : List Value → Shared → Prop) (pos : Pos), AOk A k → St C fi f σ P μ ρ s.heap →
    (∀ vs h' tk P', CStep C P s.heap P' h' → Base C σ' P' h' → Reps P' vs ds → Q vs { s with heap := h', toks := tk }) → wpAny (model C.prog C.w) A (spliced (backTo pos (starEach es f.env))) Q E s
theorem Evs.nil : Evs C k fi ρ σ [] [] σ := .mk <| fun _ _ s P _ _ _ _ _ hS h => wpAny_items_nil (h [] s.heap s.toks P (CStep.refl ..) hS.B .nil)
theorem Evs.cons {e : Expr} {es : List Expr} {d : PyData} {ds : List PyData} (h : Ev C k fi ρ σ e (.dat d) σ₁) (hr : Evs C k fi ρ σ₁ es ds σ₂) (he : ∀ env, starEach (e :: es) env = (false, eval e env) :: starEach es env := by intro _; rfl) :
    Evs C k fi ρ σ (e :: es) (d :: ds) σ₂ := .mk <| fun f A s P μ E _ pos hA hS q =>
  wpAny_items_cons (h.run f A s P μ E _ hA hS fun v h₁ t₁ P₁ c₁ b₁ r₁ => hr.run f A { s with heap := h₁, toks := t₁ } P₁ μ E _ pos hA (hS.after c₁ b₁) fun vs h₂ t₂ P₂ c₂ b₂ r₂ => q (v :: vs) h₂ t₂ P₂ (c₁.trans c₂) b₂ (.cons (Rep.mono c₂.le r₁) r₂)) (he f.env)
inductive ARep (C : Cx) (P : PH) : List Value → List VD → Prop
  | nil : ARep C P [] []
  | dat {v : Value} {vs : List Value} {d : PyData} {rs : List VD} : Rep P v d → ARep C P vs rs → ARep C P (v :: vs) (.dat d :: rs)
  | src {vs : List Value} {rs : List VD} : C.on = true → ARep C P vs rs → ARep C P (.ref C.S :: vs) (.src :: rs)
  | scr {l : Addr} {us vs : List Value} {ns : List Int} {rs : List VD} : C.h₀.IsList l us.toArray → IntsAre us ns → ARep C P vs rs → ARep C P (.ref l :: vs) (.scr ns :: rs)
theorem ARep.mono {P P' : PH} (k : PLe P P') : ∀ {vs : List Value} {rs : List VD}, ARep C P vs rs → ARep C P' vs rs
  | _, _, .nil => .nil
  | _, _, .dat a b => .dat (Rep.mono k a) (ARep.mono k b)
  | _, _, .src a b => .src a (ARep.mono k b)
  | _, _, .scr a b c => .scr a b (ARep.mono k c)
structure Args (C : Cx) (k : Nat) (fi : Fi) (ρ : Loc) (σ : Int × Int) (es : List Expr) (rs : List VD) (σ' : Int × Int) : Prop where
  run : ∀ (f : Frm) (A : Around) (s : Shared) (P : PH) (μ : Str → Option Value) (E : Value → Shared → Prop) (Q : List Value → Shared → Prop) (pos : Pos), AOk A k → St C fi f σ P μ ρ s.heap →
    (∀ vs h' tk P', CStep C P s.heap P' h' → Base C σ' P' h' → ARep C P' vs rs → Q vs { s with heap := h', toks := tk }) → wpAny (model C.prog C.w) A (spliced (backTo pos (starEach es f.env))) Q E s
theorem Args.nil : Args C k fi ρ σ [] [] σ := .mk <| fun _ _ s P _ _ _ _ _ hS h => wpAny_items_nil (h [] s.heap s.toks P (CStep.refl ..) hS.B .nil)
theorem Args.dat {e : Expr} {es : List Expr} {d : PyData} {rs : List VD} (h : Ev C k fi ρ σ e (.dat d) σ₁) (hr : Args C k fi ρ σ₁ es rs σ₂) (he : ∀ env, starEach (e :: es) env = (false, eval e env) :: starEach es env := by intro _; rfl) :
    Args C k fi ρ σ (e :: es) (.dat d :: rs) σ₂ := .mk <| fun f A s P μ E _ pos hA hS q =>
  wpAny_items_cons (h.run f A s P μ E _ hA hS fun v h₁ t₁ P₁ c₁ b₁ r₁ => hr.run f A { s with heap := h₁, toks := t₁ } P₁ μ E _ pos hA (hS.after c₁ b₁) fun vs h₂ t₂ P₂ c₂ b₂ r₂ => q (v :: vs) h₂ t₂ P₂ (c₁.trans c₂) b₂ (.dat (Rep.mono c₂.le r₁) r₂)) (he f.env)
theorem Args.src {e : Expr} {es : List Expr} {rs : List VD} (h : Ev C k fi ρ σ e .src σ₁) (hr : Args C k fi ρ σ₁ es rs σ₂) (he : ∀ env, starEach (e :: es) env = (false, eval e env) :: starEach es env := by intro _; rfl) :
    Args C k fi ρ σ (e :: es) (.src :: rs) σ₂ := .mk <| fun f A s P μ E _ pos hA hS q =>
  wpAny_items_cons (h.run f A s P μ E _ hA hS fun v h₁ t₁ P₁ c₁ b₁ r₁ => hr.run f A { s with heap := h₁, toks := t₁ } P₁ μ E _ pos hA (hS.after c₁ b₁) fun vs h₂ t₂ P₂ c₂ b₂ r₂ => by
    obtain ⟨o, rfl⟩ := r₁
    exact q (_ :: vs) h₂ t₂ P₂ (c₁.trans c₂) b₂ (.src o r₂)) (he f.env)
theorem Ev.nameC {x : Str} {pos : Pos} {ns : List Int} (hx : ρ.lookup x = some (.scr ns)) (hd : (x == ("__debug__" : Str)) = false := by decide) (hc : (x == ("__classdict__" : Str)) = false := by decide) :
    Ev C k fi ρ σ (.Name x pos) (.scr ns) σ := .mk <| fun _ _ s P _ _ _ _ hS h => by
  obtain ⟨hk, v, hv, hr⟩ := hS.vars x _ hx
  exact loadVar hS hk hv hd hc (h _ s.heap s.toks P (CStep.refl ..) hS.B hr)
theorem Args.scr {e : Expr} {es : List Expr} {ns : List Int} {rs : List VD} (h : Ev C k fi ρ σ e (.scr ns) σ₁) (hr : Args C k fi ρ σ₁ es rs σ₂) (he : ∀ env, starEach (e :: es) env = (false, eval e env) :: starEach es env := by intro _; rfl) :
    Args C k fi ρ σ (e :: es) (.scr ns :: rs) σ₂ := .mk <| fun f A s P μ E _ pos hA hS q =>
  wpAny_items_cons (h.run f A s P μ E _ hA hS fun v h₁ t₁ P₁ c₁ b₁ r₁ => hr.run f A { s with heap := h₁, toks := t₁ } P₁ μ E _ pos hA (hS.after c₁ b₁) fun vs h₂ t₂ P₂ c₂ b₂ r₂ => by
    obtain ⟨l, us, rfl, hl, hi⟩ := r₁
    exact q (_ :: vs) h₂ t₂ P₂ (c₁.trans c₂) b₂ (.scr hl hi r₂)) (he f.env)
theorem fresh_size (h : Heap) : h.get? h.objs.size = Option.none := by
  cases q : h.get? h.objs.size with
  | none => rfl
  | some o => exact absurd (Heap.lt_size q) (Nat.lt_irrefl _)
theorem push_fresh {P : PH} {h : Heap} {o : Obj} (B : Base C σ P h) (hf : o.isFreed = false := by rfl) : CStep C P h (P.add h.objs.size o) (h.push o) ∧ Base C σ (P.add h.objs.size o) (h.push o) :=
  ⟨CStep.ext_add B (fun _ _ e => Heap.get?_push_of_some _ e) (fresh_size h), B.ext_add (fun _ _ e => Heap.get?_push_of_some _ e) (fresh_size h) (Heap.get?_push_size _ hf)⟩
theorem PH.add_self {P : PH} {a : Addr} {o : Obj} : P.add a o a = some o := by unfold PH.add; rw [if_pos rfl]
theorem Ev.tuple {es : List Expr} {kd : Nat} {pos : Pos} {ds : List PyData} (h : Evs C k fi ρ σ es ds σ₁) (hl : ds.length ≤ 1000 := by decide) : Ev C k fi ρ σ (.Tuple es kd pos) (.dat (.tuple ds)) σ₁ := .mk <| fun f A s P μ E _ hA hS q =>
  wpAny_Tuple (h.run f A s P μ E _ pos hA hS fun vs h₁ t₁ P₁ c₁ b₁ r₁ => by
    have rs := r₁
    refine ⟨by rw [rs.length, sizeLine_eq]; omega, ?_⟩
    obtain ⟨c₂, b₂⟩ := push_fresh (o := tupO vs 0) b₁
    exact q _ _ t₁ _ (c₁.trans c₂) b₂ (.tup (n := 0) PH.add_self (Reps.mono c₂.le rs)))
structure Evf (C : Cx) (k : Nat) (fi : Fi) (ρ : Loc) (σ : Int × Int) (e : Expr) (ds : List PyData) (σ' : Int × Int) : Prop where
  run : ∀ (f : Frm) (A : Around) (s : Shared) (P : PH) (μ : Str → Option Value) (E : Value → Shared → Prop) (Q : Value → Shared → Prop), AOk A k → St C fi f σ P μ ρ s.heap →
    (∀ a vs n h' tk P', CStep C P s.heap P' h' → Base C σ' P' h' → s.heap.get? a = none → P' a = none → h'.get? a = some (lstO vs n) → Reps P' vs ds → Q (.ref a) { s with heap := h', toks := tk }) → wpAny (model C.prog C.w) A (eval e f.env) Q E s
theorem Base.add {P : PH} {h : Heap} {a : Addr} {o : Obj} (B : Base C σ P h) (n : P a = none) (hS : C.on = true → a ≠ C.S) (ha : h.get? a = some o) : Base C σ (P.add a o) h := by
  refine ⟨fun b p e => ?_, fun b p e => PH.le_add n _ _ (B.base b p e), fun q => ?_⟩
  · unfold PH.add at e
    split at e
    · rename_i q; subst q; cases e; exact ha
    · exact B.stay b p e
  · obtain ⟨x, ta, tb, nn, l⟩ := B.src q
    exact ⟨by unfold PH.add; rw [if_neg fun e => hS q e.symm]; exact x, ta, tb, nn, l⟩
theorem freeze {P P' : PH} {h h' : Heap} {a : Addr} {o : Obj} (B₀ : Base C σ P h) (c : CStep C P h P' h') (B : Base C σ₁ P' h') (n : h.get? a = none) (nP : P' a = none) (ha : h'.get? a = some o) :
    CStep C P h (P'.add a o) h' ∧ Base C σ₁ (P'.add a o) h' ∧ PLe P' (P'.add a o) := by
  have hS : C.on = true → a ≠ C.S := by
    rintro q rfl
    obtain ⟨_, ta, tb, nn, l⟩ := B₀.src q
    rw [n] at l; cases l
  refine ⟨⟨c.le.trans (PH.le_add nP), fun b p e => ?_, c.keep, c.dom⟩, B.add nP hS ha, PH.le_add nP⟩
  unfold PH.add at e
  split at e
  · rename_i q; subst q; exact .inr n
  · exact c.fresh b p e
theorem Evf.ev {e : Expr} {ds : List PyData} (h : Evf C k fi ρ σ e ds σ₁) : Ev C k fi ρ σ e (.dat (.list ds)) σ₁ := .mk <| fun f A s P μ E Q hA hS q =>
  h.run f A s P μ E Q hA hS fun a vs n h' tk P' c b hn hP ha hr => by
    obtain ⟨c', b', l'⟩ := freeze hS.B c b hn hP ha
    exact q _ h' tk _ c' b' (.lst (n := n) PH.add_self (Reps.mono l' hr))
theorem Evf.list {es : List Expr} {pos : Pos} {ds : List PyData} (h : Evs C k fi ρ σ es ds σ₁) (hl : ds.length ≤ 1000 := by decide) : Evf C k fi ρ σ (.List es pos) ds σ₁ := .mk <| fun f A s P μ E _ hA hS q =>
  wpAny_List (h.run f A s P μ E _ pos hA hS fun vs h₁ t₁ P₁ c₁ b₁ r₁ => by
    refine ⟨by rw [r₁.length, sizeLine_eq]; omega, ?_⟩
    have k₁ : ∀ b o, h₁.get? b = some o → (h₁.push (lstO vs 0)).get? b = some o := fun _ _ e => Heap.get?_push_of_some _ e
    have n₁ := fresh_size h₁
    refine q _ vs 0 _ t₁ P₁ (c₁.trans (CStep.ext k₁)) (b₁.ext k₁) ?_ ?_ (Heap.get?_push_size _ rfl) r₁
    · cases e : s.heap.get? h₁.objs.size with
      | none => rfl
      | some o => obtain ⟨o', e'⟩ := c₁.dom _ _ e; rw [n₁] at e'; cases e'
    · cases e : P₁ h₁.objs.size with
      | none => rfl
      | some o => rw [b₁.stay _ _ e] at n₁; cases n₁)
end
-- MOps
section
variable {C : Cx} {k : Nat} {fi : Fi} {ρ : Loc} {σ σ₁ σ₂ σ₃ : Int × Int}
theorem toks_step {C : Cx} {σ : Int × Int} {P : PH} {s : Shared} {Q : Value → Shared → Prop} {d : PyData} {v : Value} {tk : Nat} (B : Base C σ P s.heap)
    (q : ∀ v h' tk P', CStep C P s.heap P' h' → Base C σ P' h' → Rep P' v d → Q v { s with heap := h', toks := tk }) (r : Rep P v d) : Q v { s with toks := tk } := q v s.heap tk P (CStep.refl ..) B r
theorem op_add_str {x y : Str} (hsz : x.length + y.length ≤ 10000000) : OpD C k (binaryOp .Add) (.str x) (.str y) (.str (x ++ y)) := .mk <| fun A s P σ E Q v₁ v₂ _ B r₁ r₂ q => by
  cases r₁; cases r₂
  exact SB.add (fun t' tk => toks_step B q (.str _ _)) (by rw [sizeLine_eq]; omega)
theorem op_eq_str {x y : Str} {b : Bool} (hb : (x == y) = b) : OpD C k (compareOp .Eq) (.str x) (.str y) (.bool b) := .mk <| fun A s P σ E Q v₁ v₂ _ B r₁ r₂ q => by
  cases r₁; cases r₂
  refine _root_.PySem.P.eq_str ?_
  have e : (x.cps.toList == y.cps.toList) = b := by
    rw [← hb]
    by_cases e : x = y
    · subst e; simp
    · have e' : x.cps.toList ≠ y.cps.toList := fun h => e (by cases x; cases y; congr 1; exact Array.toList_inj.mp h)
      rw [beq_eq_false_iff_ne.mpr e, beq_eq_false_iff_ne.mpr e']
  rw [e]
  exact toks_step (tk := s.toks) B q (.bool _)
theorem op_ne_str {x y : Str} {b : Bool} (hb : (x != y) = b) : OpD C k (compareOp .NotEq) (.str x) (.str y) (.bool b) := .mk <| fun A s P σ E Q v₁ v₂ _ B r₁ r₂ q => by
  cases r₁; cases r₂
  refine _root_.PySem.P.ne_str ?_
  have e : (x.cps.toList != y.cps.toList) = b := by
    rw [← hb]
    by_cases e : x = y
    · subst e; simp
    · have e' : x.cps.toList ≠ y.cps.toList := fun h => e (by cases x; cases y; congr 1; exact Array.toList_inj.mp h)
      rw [bne_iff_ne.mpr e, bne_iff_ne.mpr e']
  rw [e]
  exact toks_step (tk := s.toks) B q (.bool _)
theorem op_eq_int {x y : Int} {b : Bool} (hb : (x == y) = b) : OpD C k (compareOp .Eq) (.int x) (.int y) (.bool b) := .mk <| fun A s P σ E Q v₁ v₂ _ B r₁ r₂ q => by
  cases r₁; cases r₂; subst hb; exact _root_.PySem.P.eq_int (toks_step (tk := s.toks) B q (.bool _))
theorem op_lt_int {x y : Int} {b : Bool} (hb : decide (x < y) = b) : OpD C k (compareOp .Lt) (.int x) (.int y) (.bool b) := .mk <| fun A s P σ E Q v₁ v₂ _ B r₁ r₂ q => by
  cases r₁; cases r₂; subst hb; exact _root_.PySem.P.lt_int (toks_step (tk := s.toks) B q (.bool _))
theorem op_le_int {x y : Int} {b : Bool} (hb : decide (x ≤ y) = b) : OpD C k (compareOp .LtE) (.int x) (.int y) (.bool b) := .mk <| fun A s P σ E Q v₁ v₂ _ B r₁ r₂ q => by
  cases r₁; cases r₂; subst hb; exact _root_.PySem.P.le_int (toks_step (tk := s.toks) B q (.bool _))
theorem op_gt_int {x y : Int} {b : Bool} (hb : decide (x > y) = b) : OpD C k (compareOp .Gt) (.int x) (.int y) (.bool b) := .mk <| fun A s P σ E Q v₁ v₂ _ B r₁ r₂ q => by
  cases r₁; cases r₂; subst hb; exact _root_.PySem.P.gt_int (toks_step (tk := s.toks) B q (.bool _))
theorem op_ge_int {x y : Int} {b : Bool} (hb : decide (x ≥ y) = b) : OpD C k (compareOp .GtE) (.int x) (.int y) (.bool b) := .mk <| fun A s P σ E Q v₁ v₂ _ B r₁ r₂ q => by
  cases r₁; cases r₂; subst hb; exact _root_.PySem.P.ge_int (toks_step (tk := s.toks) B q (.bool _))
theorem op_add_int {x y : Int} : OpD C k (binaryOp .Add) (.int x) (.int y) (.int (x + y)) := .mk <| fun A s P σ E Q v₁ v₂ _ B r₁ r₂ q => by
  cases r₁; cases r₂; exact _root_.PySem.P.add_int (toks_step B q (.int _ _))
theorem op_sub_int {x y : Int} : OpD C k (binaryOp .Sub) (.int x) (.int y) (.int (x - y)) := .mk <| fun A s P σ E Q v₁ v₂ _ B r₁ r₂ q => by
  cases r₁; cases r₂; exact _root_.PySem.P.sub_int (toks_step B q (.int _ _))
theorem op_mul_int {x y : Int} (hm : IntMulOk x y) : OpD C k (binaryOp .Mult) (.int x) (.int y) (.int (x * y)) := .mk <| fun A s P σ E Q v₁ v₂ _ B r₁ r₂ q => by
  cases r₁; cases r₂; exact _root_.PySem.P.mul_int (toks_step B q (.int _ _)) hm
theorem op_mod_int {x y : Int} (hy : y ≠ 0) : OpD C k (binaryOp .Mod) (.int x) (.int y) (.int (x.fmod y)) := .mk <| fun A s P σ E Q v₁ v₂ _ B r₁ r₂ q => by
  cases r₁; cases r₂; exact PyProof.Rows.mod_int hy (toks_step B q (.int _ _))
theorem noPylong {x y : Int} (h0 : 0 < y) (h1 : y < 2 ^ 30) : Builtin.divisionGoesByPylong x y = false := by
  have e : y.natAbs.log2 < 30 := (Nat.log2_lt (by omega)).mpr (by omega)
  have e2 : y.natAbs.log2 / 30 = 0 := Nat.div_eq_of_lt e
  have e3 : (y == 0) = false := beq_eq_false_iff_ne.mpr (by omega)
  unfold Builtin.divisionGoesByPylong
  dsimp only
  simp [e3, e2]
theorem op_fdiv_int {x y : Int} (h0 : 0 < y) (h1 : y < 2 ^ 30) : OpD C k (binaryOp .FloorDiv) (.int x) (.int y) (.int (x.fdiv y)) := .mk <| fun A s P σ E Q v₁ v₂ hA B r₁ r₂ q => by
  cases r₁; cases r₂
  exact floordiv_int (by omega) (toks_step B q (.int _ _)) (.inl (noPylong h0 h1))
theorem op_pow_int {x y : Int} (h0 : 0 ≤ y) (h1 : y ≤ 1000000) (hx : x.natAbs < 2 ^ 64) : OpD C k (binaryOp .Pow) (.int x) (.int y) (.int (x ^ y.toNat)) := .mk <| fun A s P σ E Q v₁ v₂ _ B r₁ r₂ q => by
  cases r₁; cases r₂; exact pow_int_small h0 h1 hx (toks_step B q (.int _ _))
theorem op_isNone {d : PyData} {b : Bool} (hb : (match d with | .none => true | _ => false) = b) : OpD C k (compareOp .Is) d .none (.bool b) := .mk <| fun A s P σ E Q v₁ v₂ _ B r₁ r₂ q => by
  cases r₂
  refine is_none ?_
  have e : (v₁ == Value.none) = b := by rw [← hb]; cases r₁ <;> rfl
  rw [e]
  exact toks_step (tk := s.toks) B q (.bool _)
theorem op_isNotNone {d : PyData} {b : Bool} (hb : (match d with | .none => false | _ => true) = b) : OpD C k (compareOp .IsNot) d .none (.bool b) := .mk <| fun A s P σ E Q v₁ v₂ _ B r₁ r₂ q => by
  cases r₂
  refine isNot_none ?_
  have e : (!(v₁ == Value.none)) = b := by rw [← hb]; cases r₁ <;> rfl
  rw [e]
  exact toks_step (tk := s.toks) B q (.bool _)
theorem op_eq_data {d₁ d₂ : PyData} {b : Bool} (h₁ : SeqAt.shaped d₁ = true) (h₂ : SeqAt.shaped d₂ = true) (hb : PyData.eqv d₁ d₂ = b) : OpD C k (compareOp .Eq) d₁ d₂ (.bool b) := .mk <| fun A s P σ E Q v₁ v₂ hA B r₁ r₂ q => by
  obtain ⟨_, q₁⟩ := Rep.reads B.stay r₁
  obtain ⟨_, q₂⟩ := Rep.reads B.stay r₂
  subst hb
  exact eq_dataH q₁ q₂ h₁ h₂ hA.units (toks_step (tk := s.toks) B q (.bool _))
theorem op_ne_data {d₁ d₂ : PyData} {b : Bool} (h₁ : SeqAt.shaped d₁ = true) (h₂ : SeqAt.shaped d₂ = true) (hb : (!PyData.eqv d₁ d₂) = b) : OpD C k (compareOp .NotEq) d₁ d₂ (.bool b) := .mk <| fun A s P σ E Q v₁ v₂ hA B r₁ r₂ q => by
  obtain ⟨_, q₁⟩ := Rep.reads B.stay r₁
  obtain ⟨_, q₂⟩ := Rep.reads B.stay r₂
  subst hb
  exact ne_dataH q₁ q₂ h₁ h₂ hA.units (toks_step (tk := s.toks) B q (.bool _))
theorem op_in_tup {d : PyData} {ds : List PyData} {b : Bool} (h₁ : d.canLay0 = true) (h₂ : PyData.canLayAll0 ds = true) (hd : min (PyData.depthAll ds) d.depth ≤ 50) (hb : (ds.any fun y => PyData.eqv y d) = b) :
    OpD C k (compareOp .In) d (.tuple ds) (.bool b) := .mk <| fun A s P σ E Q v₁ v₂ hA B r₁ r₂ q => by
  obtain ⟨_, q₁⟩ := Rep.reads B.stay r₁
  obtain ⟨_, q₂⟩ := Rep.reads B.stay r₂
  subst hb
  exact SeqAt.in_tuple_reads q₂ q₁ h₂ h₁ (by have := hA.units; omega) (toks_step (tk := s.toks) B q (.bool _))
inductive Tgl (ρ : Loc) : VD → Bool → Prop
  | lst {r : VD} {ds : List PyData} {b : Bool} (l : LstOf ρ r ds) (hb : ds.isEmpty = b) : Tgl ρ r b
theorem empty_size {vs : List Value} {P : PH} {ds : List PyData} (r : Reps P vs ds) : vs.isEmpty = ds.isEmpty := by cases r <;> rfl
theorem rc_list_nil {A : Around} {s : Shared} {P : PH} {v : Value} {ds : List PyData} {a : Addr} {n : Nat} (hu : A.units < cLine) (l : LRep P s.heap v ds) (ha : s.heap.get? a = some (lstO [] n)) : SeqAt.RcAt A s v (.ref a) ds.isEmpty := by
  obtain ⟨b, vs, m, rfl, hb, r⟩ := l
  rw [← empty_size r]
  have lb : s.heap.IsList b vs.toArray := ⟨_, hb, rfl, m, rfl⟩
  have la : s.heap.IsList a ([] : List Value).toArray := ⟨_, ha, rfl, n, rfl⟩
  cases vs with
  | nil => exact SeqAt.RcAt.lists (e := fun _ => true) lb la rfl hu fun j h1 _ => absurd h1 (by simp)
  | cons x y => exact SeqAt.RcAt.lists_lengths lb la (by simp) hu
theorem rcne_list_nil {A : Around} {s : Shared} {P : PH} {v : Value} {ds : List PyData} {a : Addr} {n : Nat} (hu : A.units < cLine) (l : LRep P s.heap v ds) (ha : s.heap.get? a = some (lstO [] n)) : SeqAt.RcNeAt A s v (.ref a) (!ds.isEmpty) := by
  obtain ⟨b, vs, m, rfl, hb, r⟩ := l
  rw [← empty_size r]
  have lb : s.heap.IsList b vs.toArray := ⟨_, hb, rfl, m, rfl⟩
  have la : s.heap.IsList a ([] : List Value).toArray := ⟨_, ha, rfl, n, rfl⟩
  cases vs with
  | nil => exact SeqAt.RcNeAt.lists (e := fun _ => true) lb la rfl hu fun j h1 _ => absurd h1 (by simp)
  | cons x y => exact SeqAt.RcNeAt.lists_lengths lb la (by simp) hu
theorem nil_list_eval {e : Expr} {op : CmpOp} {p : Pos} {r : VD} {ds : List PyData} (he : Ev C k fi ρ σ e r σ₁) (l : LstOf ρ r ds) {f : Frm} {A : Around} {s : Shared} {P : PH} {μ : Str → Option Value} {E : Value → Shared → Prop} {Q : Value → Shared → Prop} (hA : AOk A k) (hS : St C fi f σ P μ ρ s.heap)
    (h : ∀ v a n h' tk P', CStep C P s.heap P' h' → Base C σ₁ P' h' → LRep P' h' v ds → h'.get? a = some (lstO [] n) → wpAny (model C.prog C.w) A (compareOp op v (.ref a)) Q E { s with heap := h', toks := tk }) :
    wpAny (model C.prog C.w) A (eval e f.env) (fun v s₁ => wpAny (model C.prog C.w) A (eval (.List [] p) f.env) (fun w s₂ => wpAny (model C.prog C.w) A (compareOp op v w) Q E s₂) E s₁) E s :=
  he.run f A s P μ E _ hA hS fun v h₁ t₁ P₁ c₁ b₁ r₁ =>
    (Evf.list (k := k) (pos := p) (Evs.nil (C := C) (fi := fi) (ρ := ρ) (σ := σ₁))).run f A { s with heap := h₁, toks := t₁ } P₁ μ E _ hA (hS.after c₁ b₁) fun a vs n h₂ t₂ P₂ c₂ b₂ hn hP ha hr => by
      cases hr
      exact h v a n h₂ t₂ P₂ (c₁.trans c₂) b₂ (l.rep ((hS.after c₁ b₁).after c₂ b₂) (VRep.mono c₂.le r₁)) ha
theorem Ts.eqNil {e : Expr} {pos p : Pos} {r : VD} {ds : List PyData} {b : Bool} (he : Ev C k fi ρ σ e r σ₁) (l : LstOf ρ r ds) (hb : ds.isEmpty = b) : Ts C k fi ρ σ (.Compare e [.Eq] [.List [] p] pos) b σ₁ := .mk <| fun f A s P μ E _ hA hS h =>
  wpAny_isTrue_Compare1 (nil_list_eval he l hA hS fun v a n h' tk P' c B lr ha => by
    refine rc_list_nil (by have := hA.units; omega) lr ha C.prog C.w E _ (wpAny_truthy_bool ?_)
    rw [hb]; exact h h' tk P' c B)
theorem Ts.neNil {e : Expr} {pos p : Pos} {r : VD} {ds : List PyData} {b : Bool} (he : Ev C k fi ρ σ e r σ₁) (l : LstOf ρ r ds) (hb : (!ds.isEmpty) = b) : Ts C k fi ρ σ (.Compare e [.NotEq] [.List [] p] pos) b σ₁ := .mk <| fun f A s P μ E _ hA hS h =>
  wpAny_isTrue_Compare1 (nil_list_eval he l hA hS fun v a n h' tk P' c B lr ha => by
    refine rcne_list_nil (by have := hA.units; omega) lr ha C.prog C.w E _ (wpAny_truthy_bool ?_)
    rw [hb]; exact h h' tk P' c B)
theorem Ev.neNil {e : Expr} {pos p : Pos} {r : VD} {ds : List PyData} {b : Bool} (he : Ev C k fi ρ σ e r σ₁) (l : LstOf ρ r ds) (hb : (!ds.isEmpty) = b) : Ev C k fi ρ σ (.Compare e [.NotEq] [.List [] p] pos) (.dat (.bool b)) σ₁ := .mk <| fun f A s P μ E _ hA hS h =>
  wpAny_Compare1 (nil_list_eval he l hA hS fun v a n h' tk P' c B lr ha => by
    refine rcne_list_nil (by have := hA.units; omega) lr ha C.prog C.w E _ ?_
    rw [hb]; exact h _ h' tk P' c B (.bool _))
theorem op_ne_unit {ds : List PyData} {b : Bool} (hb : (!ds.isEmpty) = b) : OpD C k (compareOp .NotEq) (.tuple ds) (.tuple []) (.bool b) := .mk <| fun A s P σ E Q v₁ v₂ hA B r₁ r₂ q => by
  cases r₁ with
  | tup h₁ rs₁ =>
  rename_i vs m
  cases r₂ with
  | tup h₂ rs₂ =>
  cases rs₂
  rw [← empty_size rs₁] at hb
  have lb : s.heap.IsTuple _ vs.toArray := ⟨_, B.stay _ _ h₁, rfl, m, rfl⟩
  have la : s.heap.IsTuple _ ([] : List Value).toArray := ⟨_, B.stay _ _ h₂, rfl, _, rfl⟩
  refine SeqAt.RcNeAt.tuples (e := fun _ => true) lb la (by have := hA.units; omega) (fun j _ h2 => absurd h2 (by simp)) C.prog C.w E Q ?_
  have e : (!((List.range (min vs.toArray.size ([] : List Value).toArray.size)).all (fun _ => true) && vs.toArray.size == ([] : List Value).toArray.size)) = b := by
    rw [← hb]; cases vs <;> simp
  rw [e]
  exact toks_step (tk := s.toks) B q (.bool _)
end
-- MSeq
section
variable {C : Cx} {k : Nat} {fi : Fi} {ρ : Loc} {σ σ₁ σ₂ σ₃ : Int × Int}
theorem subG {prog : Program} {w : World} {A : Around} {E : Value → Shared → Prop} {s : Shared} {value slice : Expr} {o i : Value} {T id : String} {ops : List Value} {Q : Value → Shared → Prop} (hT : s.TypeIs o T)
    (hl : typeLookup (.type T) "__getitem__" = pure (some (.builtin id))) (h : wpAny (model prog w) A (getItem o i) Q E s)
    (hs : subscripted slice false o i = operate ops (getItem o i)) :
    wpAny (model prog w) A (subscriptTail value slice o i) Q E s := by
  unfold subscriptTail
  refine wpAny_bind ?_
  rw [getitemInPython_of_ne hT.not_modules]
  refine wpAny_bind (wpAny_specialOf hT hl ?_)
  have fin : wpAny (model prog w) A (subscripted slice false o i) (fun r s₃ => wpAny (model prog w) A (letTemporaryGo value o r >>= fun _ => pure r) Q E s₃) E s := by
    rw [hs]
    exact wpAny_operating (wpAny_mono h (fun r s₃ h₃ => wpAny_bind (wpAny_letTemporaryGo (wpAny_pure h₃))) fun _ _ x => x)
  first
    | exact wpAny_pure (wpAny_bind fin)
    | exact wpAny_bind (wpAny_pure (wpAny_bind fin))
    | exact wpAny_bind fin
noncomputable def plainIx : Expr → Bool
  | .Slice .. => false
  | _ => true
theorem sub_plain {slice : Expr} (h : plainIx slice = true) (o i : Value) : subscripted slice false o i = operate [o, i] (getItem o i) := by
  cases slice <;> first | rfl | cases h
theorem Ev.itemT {e i : Expr} {pos : Pos} {ds : List PyData} {j : Int} {n : Nat} {d : PyData} (he : Ev C k fi ρ σ e (.dat (.tuple ds)) σ₁) (hi : Ev C k fi ρ σ₁ i (.dat (.int j)) σ₂) (hj : seqIndex? j ds.length = some n) (hd : ds[n]? = some d)
    (hlo : -1000 ≤ j ∧ j < 1000000 := by decide) (hp : plainIx i = true := by rfl) : Ev C k fi ρ σ (.Subscript e i pos) (.dat d) σ₂ := .mk <| fun f A s P μ E _ hA hS q =>
  Subscript_ (he.run f A s P μ E _ hA hS fun v h₁ t₁ P₁ c₁ b₁ r₁ => hi.run f A { s with heap := h₁, toks := t₁ } P₁ μ E _ hA (hS.after c₁ b₁) fun w h₂ t₂ P₂ c₂ b₂ r₂ => by
    cases r₂
    have r₁' := Rep.mono c₂.le r₁
    cases r₁' with
    | tup ht rs =>
    obtain ⟨x, hx, rx⟩ := rs.get hd
    have it : IsTup h₂ _ _ := ⟨_, b₂.stay _ _ ht, rfl, _, rfl⟩
    exact subG (IsTup.typeIs (s := { s with heap := h₂, toks := t₂ }) it) slot_tuple_getitem.lookup
      (PyProof.Rows.getItem_tuple it (by omega) (by omega) (by rw [List.size_toArray, rs.length]; exact hj) (by simpa using hx) (q x h₂ t₂ P₂ (c₁.trans c₂) b₂ rx)) (sub_plain hp _ _))
theorem Ev.itemL {e i : Expr} {pos : Pos} {r : VD} {ds : List PyData} {j : Int} {d : PyData} (he : Ev C k fi ρ σ e r σ₁) (l : LstOf ρ r ds) (hi : Ev C k fi ρ σ₁ i (.dat (.int j)) σ₂) (hj : 0 ≤ j) (hd : ds[j.toNat]? = some d)
    (hlo : j < 1000000 := by decide) (hp : plainIx i = true := by rfl) : Ev C k fi ρ σ (.Subscript e i pos) (.dat d) σ₂ := .mk <| fun f A s P μ E _ hA hS q =>
  Subscript_ (he.run f A s P μ E _ hA hS fun v h₁ t₁ P₁ c₁ b₁ r₁ => hi.run f A { s with heap := h₁, toks := t₁ } P₁ μ E _ hA (hS.after c₁ b₁) fun w h₂ t₂ P₂ c₂ b₂ r₂ => by
    cases r₂
    obtain ⟨a, vs, n, rfl, hl, rs⟩ := l.rep ((hS.after c₁ b₁).after c₂ b₂) (VRep.mono c₂.le r₁)
    obtain ⟨x, hx, rx⟩ := rs.get hd
    have it : h₂.IsList _ _ := ⟨_, hl, rfl, _, rfl⟩
    exact subG (Heap.IsList.typeIs (s := { s with heap := h₂, toks := t₂ }) it) slot_list_getitem.lookup
      (wpAny_getItem_list it hj (by omega) (by simpa using hx) (q x h₂ t₂ P₂ (c₁.trans c₂) b₂ rx)) (sub_plain hp _ _))
theorem Ev.itemLn {e i : Expr} {pos : Pos} {r : VD} {ds : List PyData} {j : Int} {d : PyData} (he : Ev C k fi ρ σ e r σ₁) (l : LstOf ρ r ds) (hi : Ev C k fi ρ σ₁ i (.dat (.int j)) σ₂) (hj : j < 0) (hj2 : -(ds.length : Int) ≤ j) (hd : ds[(j + ds.length).toNat]? = some d)
    (hlo : -1000 ≤ j := by decide) (hp : plainIx i = true := by rfl) : Ev C k fi ρ σ (.Subscript e i pos) (.dat d) σ₂ := .mk <| fun f A s P μ E _ hA hS q =>
  Subscript_ (he.run f A s P μ E _ hA hS fun v h₁ t₁ P₁ c₁ b₁ r₁ => hi.run f A { s with heap := h₁, toks := t₁ } P₁ μ E _ hA (hS.after c₁ b₁) fun w h₂ t₂ P₂ c₂ b₂ r₂ => by
    cases r₂
    obtain ⟨a, vs, n, rfl, hl, rs⟩ := l.rep ((hS.after c₁ b₁).after c₂ b₂) (VRep.mono c₂.le r₁)
    obtain ⟨x, hx, rx⟩ := rs.get hd
    have it : h₂.IsList _ _ := ⟨_, hl, rfl, _, rfl⟩
    exact subG (Heap.IsList.typeIs (s := { s with heap := h₂, toks := t₂ }) it) slot_list_getitem.lookup
      (wpAny_getItem_list_neg it hj (by rw [List.size_toArray, rs.length]; exact hj2) (by omega) (by rw [List.size_toArray, rs.length]; simpa using hx) (q x h₂ t₂ P₂ (c₁.trans c₂) b₂ rx)) (sub_plain hp _ _))
inductive PartOf : PyData → Option Int → Prop
  | none : PartOf .none none
  | int (i : Int) : PartOf (.int i) (some i)
theorem PartOf.is {P : PH} {v : Value} {d : PyData} {o : Option Int} (p : PartOf d o) (r : Rep P v d) : IsPart v o := by
  cases p <;> cases r <;> constructor
structure EvPart (C : Cx) (k : Nat) (fi : Fi) (ρ : Loc) (σ : Int × Int) (e : Option Expr) (o : Option Int) (σ' : Int × Int) : Prop where
  run : ∀ (f : Frm) (A : Around) (s : Shared) (P : PH) (μ : Str → Option Value) (E : Value → Shared → Prop) (Q : Value → Shared → Prop), AOk A k → St C fi f σ P μ ρ s.heap →
    (∀ v h' tk P', CStep C P s.heap P' h' → Base C σ' P' h' → IsPart v o → Q v { s with heap := h', toks := tk }) → wpAny (model C.prog C.w) A (evalPart e f.env) Q E s
theorem EvPart.none : EvPart C k fi ρ σ none none σ := .mk <| fun _ _ s P _ _ _ _ hS q => wpAny_pure (q _ s.heap s.toks P (CStep.refl ..) hS.B .none)
theorem EvPart.some {e : Expr} {i : Int} (h : Ev C k fi ρ σ e (.dat (.int i)) σ₁) : EvPart C k fi ρ σ (some e) (some i) σ₁ := .mk <| fun f A s P μ E _ hA hS q =>
  h.run f A s P μ E _ hA hS fun v h' tk P' c b r => by cases r; exact q _ h' tk P' c b (.int _ _)
theorem slice_eval {lo hi st : Option Expr} {p : Pos} {a b c : Option Int} (hl : EvPart C k fi ρ σ lo a σ₁) (hh : EvPart C k fi ρ σ₁ hi b σ₂) (hs : EvPart C k fi ρ σ₂ st c σ₃)
    {f : Frm} {A : Around} {s : Shared} {P : PH} {μ : Str → Option Value} {E : Value → Shared → Prop} {Q : Value → Shared → Prop} (hA : AOk A k) (hS : St C fi f σ P μ ρ s.heap)
    (q : ∀ sl va vb vc h' tk P', CStep C P s.heap P' h' → Base C σ₃ P' h' → h'.IsSliceOf sl va vb vc → IsPart va a → IsPart vb b → IsPart vc c → Q (.ref sl) { s with heap := h', toks := tk }) :
    wpAny (model C.prog C.w) A (eval (.Slice lo hi st p) f.env) Q E s :=
  wpAny_Slice (hl.run f A s P μ E _ hA hS fun va h₁ t₁ P₁ c₁ b₁ p₁ => hh.run f A { s with heap := h₁, toks := t₁ } P₁ μ E _ hA (hS.after c₁ b₁) fun vb h₂ t₂ P₂ c₂ b₂ p₂ =>
    hs.run f A { s with heap := h₂, toks := t₂ } P₂ μ E _ hA ((hS.after c₁ b₁).after c₂ b₂) fun vc h₃ t₃ P₃ c₃ b₃ p₃ =>
      q _ va vb vc _ t₃ P₃ (((c₁.trans c₂).trans c₃).trans (CStep.ext fun _ _ e => Heap.get?_push_of_some _ e)) (b₃.ext fun _ _ e => Heap.get?_push_of_some _ e) (Heap.IsSliceOf.new ..) p₁ p₂ p₃)
theorem Evf.slice {e : Expr} {lo hi : Option Expr} {p pos : Pos} {r : VD} {ds es : List PyData} {a b : Option Int} (he : Ev C k fi ρ σ e r σ₁) (l : LstOf ρ r ds) (hl : EvPart C k fi ρ σ₁ lo a σ₂) (hh : EvPart C k fi ρ σ₂ hi b σ₃)
    (hp : ∀ (P : PH) (vs : List Value), Reps P vs ds → Reps P (slicePick vs.toArray a b none).toList es) (hn : ds.length ≤ 100000 := by decide) : Evf C k fi ρ σ (.Subscript e (.Slice lo hi none p) pos) es σ₃ := .mk <| fun f A s P μ E _ hA hS q =>
  Subscript_ (he.run f A s P μ E _ hA hS fun v h₁ t₁ P₁ c₁ b₁ r₁ => slice_eval hl hh EvPart.none hA (s := { s with heap := h₁, toks := t₁ }) (hS.after c₁ b₁) fun sl va vb vc h₂ t₂ P₂ c₂ b₂ hsl p₁ p₂ p₃ => by
    obtain ⟨A₀, vs, n, rfl, hl, rs⟩ := l.rep ((hS.after c₁ b₁).after c₂ b₂) (VRep.mono c₂.le r₁)
    have it : h₂.IsList _ _ := ⟨_, hl, rfl, _, rfl⟩
    refine subG (ops := [.ref sl, .ref A₀]) (Heap.IsList.typeIs (s := { s with heap := h₂, toks := t₂ }) it) list_getitem_lookup
      (wpAny_getItem_list_slice it hsl p₁ p₂ p₃ (by simp) ?_ (by rw [List.size_toArray, rs.length, sizeLine_eq]; omega)) rfl
    have kk : ∀ (o : Obj) b' o', h₂.get? b' = some o' → (h₂.push o).get? b' = some o' := fun o _ _ e => Heap.get?_push_of_some _ e
    have n₁ := fresh_size h₂
    have cc := c₁.trans c₂
    refine q h₂.objs.size (slicePick vs.toArray a b none).toList 0 _ t₂ P₂ (cc.trans (CStep.ext (kk _))) (b₂.ext (kk _)) ?_ ?_ ?_ (hp P₂ vs rs)
    · cases e : s.heap.get? h₂.objs.size with
      | none => rfl
      | some o => obtain ⟨o', e'⟩ := cc.dom _ _ e; rw [n₁] at e'; cases e'
    · cases e : P₂ h₂.objs.size with
      | none => rfl
      | some o => rw [b₂.stay _ _ e] at n₁; cases n₁
    · have := Heap.get?_push_size h₂ (o := { cls := .type "list", data := .seq (slicePick vs.toArray a b none) }) rfl
      simpa using this)
theorem pick_from {ds : List PyData} {n : Nat} : ∀ (P : PH) (vs : List Value), Reps P vs ds → Reps P (slicePick vs.toArray (some (n : Int)) none none).toList (ds.drop n) := fun P vs r => by
  rw [slicePick_from']; simpa using r.drop n
theorem pick_upto {ds : List PyData} {n : Nat} : ∀ (P : PH) (vs : List Value), Reps P vs ds → Reps P (slicePick vs.toArray none (some (n : Int)) none).toList (ds.take n) := fun P vs r => by
  rw [slicePick_upto']; simpa using r.take n
theorem pick_butLast {ds : List PyData} : ∀ (P : PH) (vs : List Value), Reps P vs ds → Reps P (slicePick vs.toArray none (some (-1)) none).toList (ds.take (ds.length - 1)) := fun P vs r => by
  have := slicePick_butLast vs.toArray 1 (by omega)
  simp only [Int.natCast_one] at this
  rw [show (-1 : Int) = -((1 : Nat) : Int) by rfl, slicePick_butLast vs.toArray 1 (by omega)]
  rw [← r.length]
  simpa using r.take (vs.length - 1)
end
-- MCall
section
variable {C : Cx} {k : Nat} {fi : Fi} {ρ : Loc} {σ σ₁ σ₂ σ₃ : Int × Int}
theorem mkList {f : Frm} {s : Shared} {P P₁ : PH} {μ : Str → Option Value} {h₁ : Heap} {t₁ : Nat} {vs : List Value} {ds : List PyData} {Q : Value → Shared → Prop} (_hS : St C fi f σ P μ ρ s.heap) (c₁ : CStep C P s.heap P₁ h₁) (b₁ : Base C σ₁ P₁ h₁) (r : Reps P₁ vs ds)
    (q : ∀ a vs n h' tk P', CStep C P s.heap P' h' → Base C σ₁ P' h' → s.heap.get? a = none → P' a = none → h'.get? a = some (lstO vs n) → Reps P' vs ds → Q (.ref a) { s with heap := h', toks := tk }) :
    Q (.ref h₁.objs.size) { s with heap := h₁.push (lstO vs 0), toks := t₁ } := by
  have k₁ : ∀ b o, h₁.get? b = some o → (h₁.push (lstO vs 0)).get? b = some o := fun _ _ e => Heap.get?_push_of_some _ e
  have n₁ := fresh_size h₁
  refine q _ vs 0 _ t₁ P₁ (c₁.trans (CStep.ext k₁)) (b₁.ext k₁) ?_ ?_ (Heap.get?_push_size _ rfl) r
  · cases e : s.heap.get? h₁.objs.size with
    | none => rfl
    | some o => obtain ⟨o', e'⟩ := c₁.dom _ _ e; rw [n₁] at e'; cases e'
  · cases e : P₁ h₁.objs.size with
    | none => rfl
    | some o => rw [b₁.stay _ _ e] at n₁; cases n₁
theorem Evf.add {l r : Expr} {pos : Pos} {rl rr : VD} {ds es : List PyData} (hl : Ev C k fi ρ σ l rl σ₁) (ll : LstOf ρ rl ds) (hr : Ev C k fi ρ σ₁ r rr σ₂) (lr : LstOf ρ rr es) (hn : ds.length + es.length ≤ 100000) :
    Evf C k fi ρ σ (.BinOp l .Add r pos) (ds ++ es) σ₂ := .mk <| fun f A s P μ E _ hA hS q =>
  wpAny_BinOp (hl.run f A s P μ E _ hA hS fun v₁ h₁ t₁ P₁ c₁ b₁ r₁ => hr.run f A { s with heap := h₁, toks := t₁ } P₁ μ E _ hA (hS.after c₁ b₁) fun v₂ h₂ t₂ P₂ c₂ b₂ r₂ => by
    obtain ⟨a, vs, n, rfl, ha, rs⟩ := ll.rep ((hS.after c₁ b₁).after c₂ b₂) (VRep.mono c₂.le r₁)
    obtain ⟨b, ws, m, rfl, hb, rs'⟩ := lr.rep ((hS.after c₁ b₁).after c₂ b₂) r₂
    refine _root_.PySem.P.add_list (n := n) (n2 := m) ha hb ?_ (by rw [List.size_toArray, List.size_toArray, rs.length, rs'.length, sizeLine_eq]; omega)
    rw [show vs.toArray ++ ws.toArray = (vs ++ ws).toArray by simp]
    exact mkList (s := s) (t₁ := t₂) hS (c₁.trans c₂) b₂ (rs.app rs') q)
theorem Reps.rep {P : PH} {vs : List Value} {ds : List PyData} (r : Reps P vs ds) : ∀ n : Nat, Reps P (List.replicate n vs).flatten (List.replicate n ds).flatten
  | 0 => .nil
  | n + 1 => by simpa [List.replicate_succ] using r.app (r.rep n)
theorem Evf.mul {l r : Expr} {pos : Pos} {ds : List PyData} {n : Nat} (hl : Ev C k fi ρ σ l (.dat (.list ds)) σ₁) (hr : Ev C k fi ρ σ₁ r (.dat (.int n)) σ₂) (hd : ds.isEmpty = false := by rfl) (hn : ds.length ≤ 100 := by decide) (hn' : n ≤ 100) :
    Evf C k fi ρ σ (.BinOp l .Mult r pos) (List.replicate n ds).flatten σ₂ := .mk <| fun f A s P μ E _ hA hS q =>
  wpAny_BinOp (hl.run f A s P μ E _ hA hS fun v₁ h₁ t₁ P₁ c₁ b₁ r₁ => hr.run f A { s with heap := h₁, toks := t₁ } P₁ μ E _ hA (hS.after c₁ b₁) fun v₂ h₂ t₂ P₂ c₂ b₂ r₂ => by
    have r₁' := Rep.mono c₂.le r₁
    cases r₂
    cases r₁' with
    | lst hp rs =>
    rename_i u a vs m
    have ha := b₂.stay _ _ hp
    have he : vs.toArray.isEmpty = false := by
      have := empty_size rs
      rw [hd] at this
      simpa using this
    have hm : vs.length * n ≤ 10000 := by
      rw [rs.length]
      exact Nat.mul_le_mul hn hn'
    have hm' : vs.toArray.size * (n : Int).toNat ≤ 10000 := by rw [List.size_toArray, Int.toNat_natCast]; exact hm
    generalize hx : (n : Int) = x at *
    refine wpAny_binaryOp_repeat_ref (T := "list") (U := "int") (by decide) ⟨_, ha, rfl⟩ (fun s' => typeIs_int s' _ u) noFill_list_mul F.fills_int_mul F.slot_int_rmul repeat_list F.slot_int_index.lookup ?_
    refine call_meets F.slot_int_rmul (typeIs_int _ _ u) F.entry_int_rmul (F.args_int_rmul_2 _ _) (int___rmul___int_list _ u _ vs.toArray m) ⟨ha, rfl, ⟨_, ha, rfl⟩, ?_⟩
    have gm := AutoListH.list___mul___list_int_3 a vs.toArray m x u (by simp [Builtin.List.listFitsIndex]; omega) (by omega) (by simp [Builtin.List.listTooLong, sizeLine]; simp at hm'; omega)
    refine call_meets F.slot_list_mul ⟨_, ha, rfl⟩ F.entry_list_mul (F.args_list_mul_2 _ _) gm ⟨ha, ?_⟩
    rw [he]
    subst hx
    simp only [Bool.false_eq_true, if_false, listMul_foldl, Int.toNat_natCast]
    have := mkList (s := s) (t₁ := t₂) hS (c₁.trans c₂) b₂ (rs.rep n) q
    simpa using this)
theorem ARep.one {P : PH} {vs : List Value} {d : PyData} (r : ARep C P vs [.dat d]) : ∃ v, vs = [v] ∧ Rep P v d := by
  cases r with
  | dat a b => cases b; exact ⟨_, rfl, a⟩
theorem ARep.two {P : PH} {vs : List Value} {d d' : PyData} (r : ARep C P vs [.dat d, .dat d']) : ∃ v w, vs = [v, w] ∧ Rep P v d ∧ Rep P w d' := by
  cases r with
  | dat a b => cases b with
    | dat a' b' => cases b'; exact ⟨_, _, rfl, a, a'⟩
theorem global_builtin {f : Frm} {A : Around} {s : Shared} {P : PH} {μ : Str → Option Value} {E : Value → Shared → Prop} {Q : Value → Shared → Prop} {x : Str} {pos : Pos} {v : Value} (hS : St C fi f σ P μ ρ s.heap) (hx : fi.sc.names.lookup x = some .globalImplicit)
    (hu : x ∈ usedB) (hv : bootBuiltins x = some v) (hn : x ≠ "__name__") (hd : (x == ("__debug__" : Str)) = false) (q : Q v s) : wpAny (model C.prog C.w) A (eval (.Name x pos) f.env) Q E s := by
  have kp : ∀ b o, C.h₀.get? b = some o → s.heap.get? b = some o := fun b o e => hS.B.stay b o (hS.B.base b o e)
  refine Name_function_global (by rw [hS.sc]; exact hS.fnk) (by unfold Env.kindOf; rw [hS.sc]; exact hx) (loadGlobal_builtin (mg := C.mg) (mb := C.mb) (by rw [hS.glob]; exact C.g.keeps kp) (C.free x hu) (by rw [hS.blt]; exact C.b.keeps kp) ((C.boot x hn).trans hv) q) hd
noncomputable def CallD (C : Cx) (k : Nat) (σ : Int × Int) (v : Value) (rs : List VD) (d : PyData) (σ' : Int × Int) : Prop :=
  ∀ (A : Around) (s : Shared) (P : PH) (E : Value → Shared → Prop) (Q : Value → Shared → Prop) (vs : List Value), AOk A k → Base C σ P s.heap → ARep C P vs rs →
    (∀ v h' tk P', CStep C P s.heap P' h' → Base C σ' P' h' → Rep P' v d → Q v { s with heap := h', toks := tk }) → wpAny (model C.prog C.w) A (call v vs) Q E s
noncomputable def noStar : Expr → Bool
  | .Starred .. => false
  | _ => true
theorem eval_Call_name (x p args pos) (env : Env) : eval (.Call (.Name x p) args [] pos) env = (do callWith pos (← eval (.Name x p) env) [] (backTo pos (starEach args env)) (backToKw pos (keywordEach [] env))) := rfl
theorem plainArgs {pos : Pos} {env : Env} : ∀ {es : List Expr}, es.all noStar = true → (backTo pos (starEach es env)).any (·.1) = false
  | [], _ => rfl
  | e :: es, h => by
    simp only [List.all_cons, Bool.and_eq_true] at h
    have ih := plainArgs (pos := pos) (env := env) h.2
    have e1 : starEach (e :: es) env = (false, eval e env) :: starEach es env := by cases e <;> first | rfl | exact absurd h.1 Bool.false_ne_true
    rw [e1]
    show (false || (backTo pos (starEach es env)).any (·.1)) = false
    rw [ih]; rfl
theorem starEach_cons {env : Env} {e : Expr} {es : List Expr} (h : noStar e = true) : starEach (e :: es) env = (false, eval e env) :: starEach es env := by
  cases e <;> first | rfl | cases h
theorem Ev.callB {x : Str} {p pos : Pos} {id : String} {e : Expr} {es : List Expr} {rs : List VD} {d : PyData} (ha : Args C k fi ρ σ (e :: es) rs σ₁) (ho : CallD C k σ₁ (.builtin id) rs d σ₂) (hx : fi.sc.names.lookup x = some .globalImplicit)
    (hu : x ∈ usedB) (hv : bootBuiltins x = some (.builtin id)) (hs : (e :: es).all noStar = true := by rfl) (hn : x ≠ "__name__" := by decide) (hd : (x == ("__debug__" : Str)) = false := by decide) :
    Ev C k fi ρ σ (.Call (.Name x p) (e :: es) [] pos) (.dat d) σ₂ := .mk <| fun f A s P μ E Q hA hS q => by
  rw [eval_Call_name]
  refine wpAny_bind (global_builtin hS hx hu hv hn hd ?_)
  have h1 : noStar e = true := by simp only [List.all_cons, Bool.and_eq_true] at hs; exact hs.1
  refine callWith_builtin (plainArgs hs) ?_
  have e1 := starEach_cons (env := f.env) (es := es) h1
  have := ha.run f A s P μ E (fun vs s' => wpAny (model C.prog C.w) A (call (.builtin id) ([] ++ vs)) Q E s') pos hA hS fun vs h' tk P' c b r =>
    ho A { s with heap := h', toks := tk } P' E Q vs hA b r fun v h'' tk' P'' c' b' r' => q v h'' tk' P'' (c.trans c') b' r'
  rw [e1] at this ⊢
  exact evalArgs_plain this
theorem Ev.callT {x : Str} {p pos : Pos} {T : String} {e : Expr} {es : List Expr} {rs : List VD} {d : PyData} (ha : Args C k fi ρ σ (e :: es) rs σ₁) (ho : CallD C k σ₁ (.type T) rs d σ₂) (hx : fi.sc.names.lookup x = some .globalImplicit)
    (hu : x ∈ usedB) (hv : bootBuiltins x = some (.type T)) (hs : (e :: es).all noStar = true := by rfl) (hn : x ≠ "__name__" := by decide) (hd : (x == ("__debug__" : Str)) = false := by decide) :
    Ev C k fi ρ σ (.Call (.Name x p) (e :: es) [] pos) (.dat d) σ₂ := .mk <| fun f A s P μ E Q hA hS q => by
  rw [eval_Call_name]
  refine wpAny_bind (global_builtin hS hx hu hv hn hd ?_)
  have h1 : noStar e = true := by simp only [List.all_cons, Bool.and_eq_true] at hs; exact hs.1
  refine PyProof.Rows.callWith_type (plainArgs hs) ?_
  have e1 := starEach_cons (env := f.env) (es := es) h1
  have := ha.run f A s P μ E (fun vs s' => wpAny (model C.prog C.w) A (call (.type T) ([] ++ vs)) Q E s') pos hA hS fun vs h' tk P' c b r =>
    ho A { s with heap := h', toks := tk } P' E Q vs hA b r fun v h'' tk' P'' c' b' r' => q v h'' tk' P'' (c.trans c') b' r'
  rw [e1] at this ⊢
  exact evalArgs_plain this
noncomputable def isiT : PyData → String → Option Bool
  | .tuple _, "tuple" => some true
  | .str _, "tuple" | .int _, "tuple" | .bool _, "tuple" | .none, "tuple" | .list _, "tuple" => some false
  | .str _, "str" => some true
  | .int _, "str" | .tuple _, "str" | .bool _, "str" | .none, "str" | .list _, "str" => some false
  | .int _, "int" | .bool _, "int" => some true
  | .str _, "int" | .tuple _, "int" | .none, "int" | .list _, "int" => some false
  | .bool _, "bool" => some true
  | .str _, "bool" | .tuple _, "bool" | .none, "bool" | .list _, "bool" | .int _, "bool" => some false
  | _, _ => none
theorem isi {A : Around} {s : Shared} {P : PH} {E : Value → Shared → Prop} {Q : Value → Shared → Prop} {v : Value} {d : PyData} {T : String} {b : Bool} (hi : isiT d T = some b) (B : Base C σ P s.heap) (r : Rep P v d)
    (q : ∀ tk, Q (.bool b) { s with toks := tk }) : wpAny (model C.prog C.w) A (call (.builtin "isinstance") [v, .type T]) Q E s := by
  have qs : Q (.bool b) s := q s.toks
  unfold isiT at hi
  split at hi <;> cases hi <;> cases r <;> first
    | exact IsiPair.tuple_tuple (B.stay _ _ ‹_›) rfl qs | exact IsiPair.str_tuple (q _) | exact IsiPair.int_tuple (q _) | exact IsiPair.bool_tuple (q _) | exact IsiPair.NoneType_tuple (q _) | exact IsiPair.list_tuple (B.stay _ _ ‹_›) rfl (q _)
    | exact IsiPair.str_str qs | exact IsiPair.int_str (q _) | exact IsiPair.tuple_str (B.stay _ _ ‹_›) rfl (q _) | exact IsiPair.bool_str (q _) | exact IsiPair.NoneType_str (q _) | exact IsiPair.list_str (B.stay _ _ ‹_›) rfl (q _)
    | exact IsiPair.int_int qs | exact IsiPair.bool_int qs | exact IsiPair.str_int (q _) | exact IsiPair.tuple_int (B.stay _ _ ‹_›) rfl (q _) | exact IsiPair.NoneType_int (q _) | exact IsiPair.list_int (B.stay _ _ ‹_›) rfl (q _)
    | exact IsiPair.bool_bool qs | exact IsiPair.str_bool (q _) | exact IsiPair.tuple_bool (B.stay _ _ ‹_›) rfl (q _) | exact IsiPair.NoneType_bool (q _) | exact IsiPair.list_bool (B.stay _ _ ‹_›) rfl (q _) | exact IsiPair.int_bool (q _)
end
-- MCall2
section
variable {C : Cx} {k : Nat} {fi : Fi} {ρ : Loc} {σ σ₁ σ₂ σ₃ : Int × Int}
theorem callB1 {x : Str} {p pos : Pos} {id : String} {e : Expr} {r : VD} (he : Ev C k fi ρ σ e r σ₁) {f : Frm} {A : Around} {s : Shared} {P : PH} {μ : Str → Option Value} {E : Value → Shared → Prop} {Q : Value → Shared → Prop} (hA : AOk A k) (hS : St C fi f σ P μ ρ s.heap)
    (hx : fi.sc.names.lookup x = some .globalImplicit) (hu : x ∈ usedB) (hv : bootBuiltins x = some (.builtin id)) (hs : noStar e = true) (hn : x ≠ "__name__") (hd : (x == ("__debug__" : Str)) = false)
    (ho : ∀ v h' tk P', CStep C P s.heap P' h' → Base C σ₁ P' h' → St C fi f σ₁ P' μ ρ h' → VRep P' C μ ρ v r → wpAny (model C.prog C.w) A (call (.builtin id) [v]) Q E { s with heap := h', toks := tk }) :
    wpAny (model C.prog C.w) A (eval (.Call (.Name x p) [e] [] pos) f.env) Q E s := by
  rw [eval_Call_name]
  refine wpAny_bind (global_builtin hS hx hu hv hn hd ?_)
  refine callWith_builtin (plainArgs (by simp only [List.all_cons, hs, List.all_nil, Bool.and_true])) ?_
  rw [starEach_cons (env := f.env) (es := []) hs]
  refine evalArgs_plain ?_
  have := wpAny_items_cons (M := model C.prog C.w) (A := A) (E := E) (s := s) (env := f.env) (pos := pos) (e := e) (rest := []) (Q := fun vs s' => wpAny (model C.prog C.w) A (call (.builtin id) ([] ++ vs)) Q E s')
    (he.run f A s P μ E _ hA hS fun v h' tk P' c b r => wpAny_items_nil (ho v h' tk P' c b (hS.after c b) r)) (starEach_cons hs)
  rw [starEach_cons (env := f.env) (es := []) hs] at this
  exact this
theorem callT1 {x : Str} {p pos : Pos} {T : String} {e : Expr} {r : VD} (he : Ev C k fi ρ σ e r σ₁) {f : Frm} {A : Around} {s : Shared} {P : PH} {μ : Str → Option Value} {E : Value → Shared → Prop} {Q : Value → Shared → Prop} (hA : AOk A k) (hS : St C fi f σ P μ ρ s.heap)
    (hx : fi.sc.names.lookup x = some .globalImplicit) (hu : x ∈ usedB) (hv : bootBuiltins x = some (.type T)) (hs : noStar e = true) (hn : x ≠ "__name__") (hd : (x == ("__debug__" : Str)) = false)
    (ho : ∀ v h' tk P', CStep C P s.heap P' h' → Base C σ₁ P' h' → St C fi f σ₁ P' μ ρ h' → VRep P' C μ ρ v r → wpAny (model C.prog C.w) A (call (.type T) [v]) Q E { s with heap := h', toks := tk }) :
    wpAny (model C.prog C.w) A (eval (.Call (.Name x p) [e] [] pos) f.env) Q E s := by
  rw [eval_Call_name]
  refine wpAny_bind (global_builtin hS hx hu hv hn hd ?_)
  refine PyProof.Rows.callWith_type (plainArgs (by simp only [List.all_cons, hs, List.all_nil, Bool.and_true])) ?_
  rw [starEach_cons (env := f.env) (es := []) hs]
  refine evalArgs_plain ?_
  have := wpAny_items_cons (M := model C.prog C.w) (A := A) (E := E) (s := s) (env := f.env) (pos := pos) (e := e) (rest := []) (Q := fun vs s' => wpAny (model C.prog C.w) A (call (.type T) ([] ++ vs)) Q E s')
    (he.run f A s P μ E _ hA hS fun v h' tk P' c b r => wpAny_items_nil (ho v h' tk P' c b (hS.after c b) r)) (starEach_cons hs)
  rw [starEach_cons (env := f.env) (es := []) hs] at this
  exact this
theorem boot_len : bootBuiltins (Str.ofString "len") = some (.builtin "len") := PyProof.Rows.Boot.len
theorem boot_isinstance : bootBuiltins (Str.ofString "isinstance") = some (.builtin "isinstance") := PyProof.Rows.Boot.isinstance
theorem boot_tuple : bootBuiltins (Str.ofString "tuple") = some (.type "tuple") := PyProof.Rows.Boot.tuple
theorem boot_int : bootBuiltins (Str.ofString "int") = some (.type "int") := PyProof.Rows.Boot.int
theorem boot_bool : bootBuiltins (Str.ofString "bool") = some (.type "bool") := PyProof.Rows.Boot.bool
theorem boot_str : bootBuiltins (Str.ofString "str") = some (.type "str") := PyProof.Rows.Boot.str
theorem boot_list : bootBuiltins (Str.ofString "list") = some (.type "list") := PyProof.Rows.Boot.list
theorem boot_max : bootBuiltins (Str.ofString "max") = some (.builtin "max") := PyProof.Rows.Boot.max
theorem boot_range : bootBuiltins (Str.ofString "range") = some (.type "range") := PyProof.Rows.Boot.range
theorem boot_zip : bootBuiltins (Str.ofString "zip") = some (.type "zip") := PyProof.Rows.Boot.zip
theorem Ev.lenL {p pos : Pos} {e : Expr} {r : VD} {ds : List PyData} (he : Ev C k fi ρ σ e r σ₁) (l : LstOf ρ r ds) (hx : fi.sc.names.lookup (Str.ofString "len") = some .globalImplicit) (hs : noStar e = true := by rfl) (hn : ds.length ≤ 100000) :
    Ev C k fi ρ σ (.Call (.Name (Str.ofString "len") p) [e] [] pos) (.dat (.int ds.length)) σ₁ := .mk <| fun f A s P μ E Q hA hS q =>
  callB1 he hA hS hx (by decide) boot_len hs (by decide) (by decide) fun v h' tk P' c b hS' r => by
    obtain ⟨a, vs, n, rfl, hl, rs⟩ := l.rep hS' r
    have it : h'.IsList _ _ := ⟨_, hl, rfl, _, rfl⟩
    refine Calls.call_len_list it (by rw [List.size_toArray, rs.length]; omega) ?_
    rw [List.size_toArray, rs.length]
    exact q _ h' _ P' c b (.int _ _)
theorem Ev.lenT {p pos : Pos} {e : Expr} {ds : List PyData} (he : Ev C k fi ρ σ e (.dat (.tuple ds)) σ₁) (hx : fi.sc.names.lookup (Str.ofString "len") = some .globalImplicit) (hs : noStar e = true := by rfl) (hn : ds.length ≤ 100000) :
    Ev C k fi ρ σ (.Call (.Name (Str.ofString "len") p) [e] [] pos) (.dat (.int ds.length)) σ₁ := .mk <| fun f A s P μ E Q hA hS q =>
  callB1 he hA hS hx (by decide) boot_len hs (by decide) (by decide) fun v h' tk P' c b hS' r => by
    cases r with
    | tup ht rs =>
    have it : IsTup h' _ _ := ⟨_, b.stay _ _ ht, rfl, _, rfl⟩
    refine PyProof.Rows.len_tuple it (by rw [List.size_toArray, rs.length]; omega) ?_
    rw [List.size_toArray, rs.length]
    exact q _ h' _ P' c b (.int _ _)
theorem Ev.tupL {p pos : Pos} {e : Expr} {r : VD} {ds : List PyData} (he : Ev C k fi ρ σ e r σ₁) (l : LstOf ρ r ds) (hx : fi.sc.names.lookup (Str.ofString "tuple") = some .globalImplicit) (hs : noStar e = true := by rfl) (hn : ds.length ≤ 100000) :
    Ev C k fi ρ σ (.Call (.Name (Str.ofString "tuple") p) [e] [] pos) (.dat (.tuple ds)) σ₁ := .mk <| fun f A s P μ E Q hA hS q =>
  callT1 he hA hS hx (by decide) boot_tuple hs (by decide) (by decide) fun v h' tk P' c b hS' r => by
    obtain ⟨a, vs, n, rfl, hl, rs⟩ := l.rep hS' r
    have it : h'.IsList _ _ := ⟨_, hl, rfl, _, rfl⟩
    refine call_tuple_list it (fun h₂ k₂ => ?_) (by rw [List.size_toArray, rs.length, sizeLine_eq]; omega)
    obtain ⟨c₃, b₃⟩ := push_fresh (o := tupO vs 0) (b.ext k₂)
    exact q _ _ tk _ ((c.trans (CStep.ext k₂)).trans c₃) b₃ (.tup (n := 0) PH.add_self (Reps.mono c₃.le rs))
theorem Evf.listT {p pos : Pos} {e : Expr} {ds : List PyData} (he : Ev C k fi ρ σ e (.dat (.tuple ds)) σ₁) (hx : fi.sc.names.lookup (Str.ofString "list") = some .globalImplicit) (hs : noStar e = true := by rfl) (hn : ds.length ≤ 100000) :
    Evf C k fi ρ σ (.Call (.Name (Str.ofString "list") p) [e] [] pos) ds σ₁ := .mk <| fun f A s P μ E Q hA hS q =>
  callT1 he hA hS hx (by decide) boot_list hs (by decide) (by decide) fun v h' tk P' c b hS' r => by
    cases r with
    | tup ht rs =>
    rename_i vs n
    refine call_list_seq _ (T := "tuple") (.inr rfl) (b.stay _ _ ht) rfl rfl (fun h₂ c' k₂ hl => ?_) (by rw [List.size_toArray, rs.length, sizeLine_eq]; omega)
    have n₁ := fresh_size h'
    refine q _ vs c' h₂ tk P' (c.trans (CStep.ext k₂)) (b.ext k₂) ?_ ?_ hl rs
    · cases e : s.heap.get? h'.objs.size with
      | none => rfl
      | some o => obtain ⟨o', e'⟩ := c.dom _ _ e; rw [n₁] at e'; cases e'
    · cases e : P' h'.objs.size with
      | none => rfl
      | some o => rw [b.stay _ _ e] at n₁; cases n₁
theorem Ev.isi {p pos p' : Pos} {e : Expr} {T : String} {d : PyData} {b : Bool} (he : Ev C k fi ρ σ e (.dat d) σ₁) (hi : isiT d T = some b) (hx : fi.sc.names.lookup (Str.ofString "isinstance") = some .globalImplicit) (hT : fi.sc.names.lookup (Str.ofString T) = some .globalImplicit)
    (hu : Str.ofString T ∈ usedB := by decide) (hb : bootBuiltins (Str.ofString T) = some (.type T)) (hs : noStar e = true := by rfl) (hn : Str.ofString T ≠ "__name__" := by decide) (hd : (Str.ofString T == ("__debug__" : Str)) = false := by decide) :
    Ev C k fi ρ σ (.Call (.Name (Str.ofString "isinstance") p) [e, .Name (Str.ofString T) p'] [] pos) (.dat (.bool b)) σ₁ := .mk <| fun f A s P μ E Q hA hS q => by
  rw [eval_Call_name]
  refine wpAny_bind (global_builtin hS hx (by decide) boot_isinstance (by decide) (by decide) ?_)
  refine callWith_builtin (plainArgs (by simp only [List.all_cons, hs, List.all_nil, Bool.and_true]; rfl)) ?_
  rw [starEach_cons (env := f.env) (es := _) hs]
  refine evalArgs_plain ?_
  have := wpAny_items_cons (M := model C.prog C.w) (A := A) (E := E) (s := s) (env := f.env) (pos := pos) (e := e) (rest := [.Name (Str.ofString T) p']) (Q := fun vs s' => wpAny (model C.prog C.w) A (call (.builtin "isinstance") ([] ++ vs)) Q E s')
    (he.run f A s P μ E _ hA hS fun v h' tk P' c b r => wpAny_items_cons (global_builtin (s := { s with heap := h', toks := tk }) (hS.after c b) hT hu hb hn hd (wpAny_items_nil
      (Mine.isi (s := { s with heap := h', toks := tk }) hi b r fun tk' => q _ h' tk' P' c b (.bool _)))) rfl) (starEach_cons hs)
  rw [starEach_cons (env := f.env) (es := _) hs] at this
  exact this
theorem call_max {x y : Int} : CallD C k σ (.builtin "max") [.dat (.int x), .dat (.int y)] (.int (if y > x then y else x)) σ := fun A s P E Q vs hA B r q => by
  obtain ⟨v, w, rfl, r₁, r₂⟩ := r.two
  cases r₁; cases r₂
  refine max_two_ints hA.1 fun h' tk k' => ?_
  by_cases hlt : y > x
  · rw [if_pos hlt]; exact q _ h' tk P (CStep.ext k') (B.ext k') (by rw [if_pos hlt]; exact .int _ _)
  · rw [if_neg hlt]; exact q _ h' tk P (CStep.ext k') (B.ext k') (by rw [if_neg hlt]; exact .int _ _)
end
-- MCall3
section
variable {C : Cx} {k : Nat} {fi : Fi} {ρ : Loc} {σ σ₁ σ₂ σ₃ : Int × Int}
theorem call_str {i : Int} (hi : i.natAbs.log2 < 1920) : CallD C k σ (.type "str") [.dat (.int i)] (.str (Str.ofString (toString i))) σ := fun A s P E Q vs hA B r q => by
  obtain ⟨v, rfl, r₁⟩ := r.one
  cases r₁
  exact _root_.PySem.P.str_of_int hi (q _ s.heap _ P (CStep.refl ..) B (.str _ _))
theorem Reps.strs {P : PH} : ∀ {ys : List Str} {vs : List Value}, Reps P vs (ys.map .str) → StrsAre vs ys
  | [], _, h => by cases h; exact .nil
  | y :: ys, _, h => by
    cases h with
    | cons a b => cases a; exact .cons _ _ (Reps.strs b)
theorem Ev.join {sep : Str} {kd : Nat} {cp apos pos : Pos} {e : Expr} {r : VD} {ys : List Str} (he : Ev C k fi ρ σ e r σ₁) (l : LstOf ρ r (ys.map .str)) (hn : (ys.map (·.length)).sum + ys.length * sep.length ≤ 16000000) (hs : noStar e = true := by rfl) (hl : (apos.endLine == pos.line) = true := by rfl) :
    Ev C k fi ρ σ (.Call (.Attribute (.Constant (.str sep) kd cp) (Str.ofString "join") apos) [e] [] pos) (.dat (.str (Txt.join sep ys))) σ₁ := .mk <| fun f A s P μ E Q hA hS q => by
  refine Call_method1 rfl (by rw [starEach_cons hs]; rfl) hl (wpAny_Constant_str ?_)
  refine SB.join ?_
  refine he.run f A { s with toks := s.toks + 1 } P μ E _ hA hS fun v h' tk P' c b r => ?_
  obtain ⟨a, vs, n, rfl, ha, rs⟩ := l.rep (hS.after c b) r
  obtain ⟨m, rfl, hm⟩ := strsAre_values (Reps.strs rs)
  exact ⟨a, m, rfl, ⟨_, ha, rfl, _, rfl⟩, ys, hm, joinOk_of (by omega), fun t' tk' => q _ h' tk' P' c b (.str _ _)⟩
noncomputable def tupPick {α : Type} (xs : List α) (a b st : Option Int) : List α :=
  let p := Builtin.Slice.sliceAdjust a b (st.getD 1) xs.length
  (List.range (Builtin.Slice.slicePlaces p.1 p.2 (st.getD 1))).filterMap fun (k : Nat) => xs[(p.1 + (k : Int) * (st.getD 1)).toNat]?
theorem sliceApplied_of {A : Around} {E : Value → Shared → Prop} {s : Shared} {prog : Program} {w : World} {sl : Addr} {va vb vc : Value} {a b c : Option Int} {n : Nat} {Q : Int × Int × Nat → Shared → Prop} (hs : s.heap.IsSliceOf sl va vb vc) (pa : IsPart va a) (pb : IsPart vb b) (pc : IsPart vc c) (h0 : (c.getD 1 == 0) = false)
    (h : Q ((Builtin.Slice.sliceAdjust a b (c.getD 1) n).1, c.getD 1, Builtin.Slice.slicePlaces (Builtin.Slice.sliceAdjust a b (c.getD 1) n).1 (Builtin.Slice.sliceAdjust a b (c.getD 1) n).2 (c.getD 1)) s) :
    wpAny (model prog w) A (Builtin.Slice.sliceApplied (.ref sl) (pure (n : Int))) Q E s := by
  have part : ∀ {v : Value} {o : Option Int} {Q : Option Int → Shared → Prop}, IsPart v o → Q o s → wpAny (model prog w) A (Builtin.Slice.slicePartIndex v) Q E s := fun p q => by
    cases p with
    | none => exact slicePart_none q
    | int i t => exact slicePart_int q
  obtain ⟨os, hos, hcs, hds⟩ := id hs
  unfold Builtin.Slice.sliceApplied Builtin.Slice.sliceFields
  refine wpAny_bind (wpAny_bind (wpAny_field hos hds (x := va) rfl (wpAny_bind (wpAny_field hos hds (x := vb) rfl (wpAny_bind (wpAny_field hos hds (x := vc) rfl (wpAny_pure ?_)))))))
  refine wpAny_bind (part pc ?_)
  show wpAny _ _ (if (c.getD 1 == 0) = true then _ else _) _ _ s
  rw [if_neg (by rw [h0]; exact Bool.false_ne_true)]
  exact wpAny_bind (part pa (wpAny_bind (part pb (wpAny_bind (wpAny_pure (wpAny_pure h))))))
theorem getItem_tuple_slice {A : Around} {E : Value → Shared → Prop} {s : Shared} {prog : Program} {w : World} {t sl : Addr} {vs : List Value} {n : Nat} {va vb vc : Value} {a b c : Option Int} {Q : Value → Shared → Prop} (ht : s.heap.get? t = some (tupO vs n)) (hs : s.heap.IsSliceOf sl va vb vc) (pa : IsPart va a) (pb : IsPart vb b) (pc : IsPart vc c)
    (h0 : (c.getD 1 == 0) = false) (hz : (tupPick vs a b c).length ≤ sizeLine)
    (same : tupPick vs a b c = vs → Q (.ref t) s)
    (h : Q (.ref s.heap.objs.size) { s with heap := s.heap.push (tupO (tupPick vs a b c) 0) }) : wpAny (model prog w) A (getItem (.ref t) (.ref sl)) Q E s := by
  have it : IsTup s.heap t vs.toArray := ⟨_, ht, rfl, n, rfl⟩
  obtain ⟨os, hos, hcs, hds⟩ := id hs
  have hTs : s.TypeIs (.ref sl) "slice" := ⟨os, hos, hcs⟩
  unfold getItem
  try with_reducible refine wpAny_holding ?_
  first | refine wpAny_bind (wpAny_pure ?_) | skip
  refine wpAny_bind (wpAny_sequenceKey it.typeIs (by decide) ?_)
  refine wpAny_bind (wpAny_callSpecial?_slot (name := Str.ofString "__getitem__") it.typeIs slot_tuple_getitem
    (wpAny_call_entry slot_tuple_getitem it.typeIs entry_tuple_getitem ?_ (args_tuple_getitem _ _)))
  show wpAny _ _ (Builtin.Tuple.tupleItemsOf (.ref t) >>= _) _ _ s
  refine wpAny_bind (tupleItemsOf_ it ?_)
  refine wpAny_bind (wpAny_typeOf hTs ?_)
  rw [if_pos (by decide)]
  refine wpAny_bind (sliceApplied_of hs pa pb pc h0 ?_)
  have hp : tupPick vs a b c = (List.range (Builtin.Slice.slicePlaces (Builtin.Slice.sliceAdjust a b (c.getD 1) vs.toArray.size).1 (Builtin.Slice.sliceAdjust a b (c.getD 1) vs.toArray.size).2 (c.getD 1))).filterMap fun (k : Nat) => vs.toArray[((Builtin.Slice.sliceAdjust a b (c.getD 1) vs.toArray.size).1 + (k : Int) * (c.getD 1)).toNat]? := by
    unfold tupPick; simp
  have mk : wpAny (model prog w) A.in1 (Builtin.Tuple.tupleExact ((List.range (Builtin.Slice.slicePlaces (Builtin.Slice.sliceAdjust a b (c.getD 1) vs.toArray.size).1 (Builtin.Slice.sliceAdjust a b (c.getD 1) vs.toArray.size).2 (c.getD 1))).filterMap fun (k : Nat) => vs.toArray[((Builtin.Slice.sliceAdjust a b (c.getD 1) vs.toArray.size).1 + (k : Int) * (c.getD 1)).toNat]?).toArray) (fun v s' => Q v s') E s := by
    rw [← hp]
    exact wpAny_newObj_type h (by show (tupPick vs a b c).toArray.size ≤ sizeLine; rw [List.size_toArray]; exact hz)
  dsimp only
  have fin : wpAny (model prog w) A.in1 (do
      let r ← Builtin.Tuple.tupleExact ((List.range (Builtin.Slice.slicePlaces (Builtin.Slice.sliceAdjust a b (c.getD 1) vs.toArray.size).1 (Builtin.Slice.sliceAdjust a b (c.getD 1) vs.toArray.size).2 (c.getD 1))).filterMap fun (k : Nat) => vs.toArray[((Builtin.Slice.sliceAdjust a b (c.getD 1) vs.toArray.size).1 + (k : Int) * (c.getD 1)).toNat]?).toArray
      ret r) (fun fin s' => ∃ v, fin = Fin.done (Flow.ret v) ∧ Q v s') E s := wpAny_bind (wpAny_mono mk (fun v s' q => wpAny_pure ⟨v, rfl, q⟩) fun _ _ e => e)
  have fin' := wpAny_mono fin (fun r s' (x : ∃ v, r = Fin.done (Flow.ret v) ∧ Q v s') => let ⟨v, e, q⟩ := x; (⟨v, e, wpAny_pure q⟩ : ∃ v, r = Fin.done (Flow.ret v) ∧ wpAny (model prog w) A (pure v) Q E s')) fun _ _ e => e
  by_cases hc : ((Builtin.Slice.sliceAdjust a b (c.getD 1) vs.toArray.size).1 == 0 && c.getD 1 == 1 && Builtin.Slice.slicePlaces (Builtin.Slice.sliceAdjust a b (c.getD 1) vs.toArray.size).1 (Builtin.Slice.sliceAdjust a b (c.getD 1) vs.toArray.size).2 (c.getD 1) == vs.toArray.size) = true
  · rw [if_pos hc]
    have hsame : tupPick vs a b c = vs := by
      simp only [Bool.and_eq_true, beq_iff_eq] at hc
      obtain ⟨⟨e1, e2⟩, e3⟩ := hc
      rw [hp, e3, e1, e2]
      refine List.ext_getElem? fun i => ?_
      have e : (fun (k : Nat) => vs.toArray[((0 : Int) + (k : Int) * 1).toNat]?) = fun k => vs[k]? := by
        funext k
        have : ((0 : Int) + (k : Int) * 1).toNat = k := by omega
        rw [this]; simp
      rw [e, List.size_toArray]
      have q : ∀ (l : List Value), (List.range l.length).filterMap (fun k => l[k]?) = l := fun l => by
        have := pick_run l.toArray 0 l.length
        simp at this
        simpa using this
      rw [q]
    unfold Builtin.Tuple.tupleIsExact
    refine wpAny_bind (wpAny_bind (wpAny_typeOf it.typeIs (wpAny_pure ?_)))
    rw [if_pos (by decide)]
    exact wpAny_bind (wpAny_rule (wpAny_pure ⟨_, rfl, wpAny_pure (same hsame)⟩))
  · rw [if_neg hc]
    exact fin'
end
-- MCall4
section
variable {C : Cx} {k : Nat} {fi : Fi} {ρ : Loc} {σ σ₁ σ₂ σ₃ σ₄ : Int × Int}
theorem Reps.pick {P : PH} {vs : List Value} {ds : List PyData} (r : Reps P vs ds) (g : Nat → Nat) : ∀ l : List Nat, Reps P (l.filterMap fun i => vs[g i]?) (l.filterMap fun i => ds[g i]?)
  | [] => .nil
  | i :: l => by
    have ih := Reps.pick r g l
    rw [List.filterMap_cons, List.filterMap_cons]
    cases e : ds[g i]? with
    | none =>
      have e' : vs[g i]? = none := by
        rw [List.getElem?_eq_none_iff] at e ⊢
        rw [r.length]; exact e
      rw [e']; exact ih
    | some d =>
      obtain ⟨v, hv, rv⟩ := r.get e
      rw [hv]; exact .cons rv ih
theorem Reps.tupPick {P : PH} {vs : List Value} {ds : List PyData} (r : Reps P vs ds) (a b st : Option Int) : Reps P (Mine.tupPick vs a b st) (Mine.tupPick ds a b st) := by
  unfold Mine.tupPick
  rw [r.length]
  exact r.pick _ _
theorem tupPick_length {α : Type} (xs : List α) (a b st : Option Int) (n : Nat) (h : Builtin.Slice.slicePlaces (Builtin.Slice.sliceAdjust a b (st.getD 1) xs.length).1 (Builtin.Slice.sliceAdjust a b (st.getD 1) xs.length).2 (st.getD 1) ≤ n) : (tupPick xs a b st).length ≤ n := by
  unfold tupPick
  exact Nat.le_trans (List.length_filterMap_le _ _) (by rw [List.length_range]; exact h)
theorem subscripted_slice (lo hi : Option Expr) (p : Pos) (o i : Value) : subscripted (.Slice lo hi none p) false o i = operate [i, o] (getItem o i) := rfl
theorem subscripted_sliceS (lo hi : Option Expr) (st : Expr) (p : Pos) (o i : Value) : subscripted (.Slice lo hi (some st) p) false o i = operate [o, i] (getItem o i) := rfl
theorem Ev.tupSlice {e : Expr} {lo hi st : Option Expr} {p pos : Pos} {ds es : List PyData} {a b c : Option Int} (he : Ev C k fi ρ σ e (.dat (.tuple ds)) σ₁) (hl : EvPart C k fi ρ σ₁ lo a σ₂) (hh : EvPart C k fi ρ σ₂ hi b σ₃) (hs : EvPart C k fi ρ σ₃ st c σ₄)
    (hp : tupPick ds a b c = es) (h0 : (c.getD 1 == 0) = false := by rfl) (hn : Builtin.Slice.slicePlaces (Builtin.Slice.sliceAdjust a b (c.getD 1) ds.length).1 (Builtin.Slice.sliceAdjust a b (c.getD 1) ds.length).2 (c.getD 1) ≤ 100000) :
    Ev C k fi ρ σ (.Subscript e (.Slice lo hi st p) pos) (.dat (.tuple es)) σ₄ := .mk <| fun f A s P μ E _ hA hS q =>
  Subscript_ (he.run f A s P μ E _ hA hS fun v h₁ t₁ P₁ c₁ b₁ r₁ => slice_eval hl hh hs hA (s := { s with heap := h₁, toks := t₁ }) (hS.after c₁ b₁) fun sl va vb vc h₂ t₂ P₂ c₂ b₂ hsl p₁ p₂ p₃ => by
    have r₁' := Rep.mono c₂.le r₁
    cases r₁' with
    | tup ht rs =>
    rename_i t vs n
    have ha := b₂.stay _ _ ht
    have it : IsTup h₂ _ _ := ⟨_, ha, rfl, _, rfl⟩
    have pk := rs.tupPick a b c
    rw [hp] at pk
    obtain ⟨c₃, b₃⟩ := push_fresh (o := tupO (tupPick vs a b c) 0) b₂
    have hss : ∃ ops, subscripted (.Slice lo hi st p) false (.ref t) (.ref sl) = operate ops (getItem (.ref t) (.ref sl)) := by cases st <;> exact ⟨_, rfl⟩
    obtain ⟨ops, hss⟩ := hss
    refine subG (IsTup.typeIs (s := { s with heap := h₂, toks := t₂ }) it) slot_tuple_getitem.lookup
      (getItem_tuple_slice ha hsl p₁ p₂ p₃ h0 (Nat.le_trans (tupPick_length _ _ _ _ 100000 (by rw [rs.length]; exact hn)) (by rw [sizeLine_eq]; omega)) (fun same => ?_) ?_) hss
    · exact q _ h₂ t₂ P₂ (c₁.trans c₂) b₂ (.tup ht (by rw [← same]; exact pk))
    · exact q _ _ t₂ _ ((c₁.trans c₂).trans c₃) b₃ (.tup (n := 0) PH.add_self (Reps.mono c₃.le pk)))
noncomputable def cut2 (x : Str) : Str := ⟨(x.cps.toList.take 2).toArray⟩
theorem cut2_made (x : Str) (t u : Tok) {s : Shared} {Q : Value → Shared → Prop} (q : ∀ t' tk, Q (.str (cut2 x) t') { s with toks := tk }) : (PySem.sliceMade x t none (some (2, u)) none).post Q s := by
  have pk : ∀ n : Nat, n ≤ x.length → (Builtin.Str.strSliceIndices (some ((0 : Nat) : Int)) (some (n : Int)) 1 x.length).filterMap (x.cps[·]?) = x.cps.toList.take n ∧ (Builtin.Str.strSliceIndices (some ((0 : Nat) : Int)) (some (n : Int)) 1 x.length).length = n := fun n h => by
    refine ⟨by simpa using StrLaws.sliced_plain x (a := 0) (b := n) (by omega) h, ?_⟩
    rw [StrLaws.strSliceIndices_plain (a := 0) (b := n) (len := x.length) (by omega) h]; simp
  have e : (PySem.slicePicked x none (some (2, u)) none).filterMap (x.cps[·]?) = x.cps.toList.take 2 ∧ (PySem.slicePicked x none (some (2, u)) none).length = min 2 x.length := by
    unfold PySem.slicePicked
    show (Builtin.Str.strSliceIndices none (some 2) 1 x.length).filterMap (x.cps[·]?) = _ ∧ (Builtin.Str.strSliceIndices none (some 2) 1 x.length).length = _
    rcases Nat.le_total 2 x.length with h | h
    · rw [StrLaws.sliceIdx_none_lo]
      have := pk 2 h
      have e2 : min 2 x.length = 2 := by omega
      rw [e2]; exact this
    · rw [PyProof.Rows.sliceIdx_hi_beyond x.length (by omega), StrLaws.sliceIdx_none_lo]
      have := pk x.length (Nat.le_refl _)
      have e2 : min 2 x.length = x.length := by omega
      rw [e2]
      refine ⟨?_, this.2⟩
      have e3 : x.cps.toList.take 2 = x.cps.toList := List.take_of_length_le (by simpa [Str.length] using h)
      have e4 : x.cps.toList.take x.length = x.cps.toList := List.take_of_length_le (by simp [Str.length])
      rw [e3, ← e4]; exact this.1
  unfold PySem.sliceMade
  rw [e.1]
  split
  · rename_i hc
    have hc' : min 2 x.length = x.length := by simpa [e.2] using hc
    have e3 : cut2 x = x := by
      unfold cut2
      rw [List.take_of_length_le (by simp only [Array.length_toList]; show x.length ≤ 2; omega)]
    have := q t s.toks
    rw [e3] at this
    exact this
  · exact ⟨by show (x.cps.toList.take 2).toArray.size ≤ sizeLine; rw [List.size_toArray, List.length_take, sizeLine_eq]; omega, q _ _⟩
theorem Ev.cut2 {e : Expr} {p p' pos : Pos} {kd : Nat} {x : Str} (he : Ev C k fi ρ σ e (.dat (.str x)) σ₁) (ht : ∀ o r, letTemporaryGo e o r = pure () := by intro _ _; rfl) :
    Ev C k fi ρ σ (.Subscript e (.Slice Option.none (some (.Constant (.int 2) kd p)) Option.none p') pos) (.dat (.str (Mine.cut2 x))) σ₁ := .mk <| fun f A s P μ E _ hA hS q =>
  wpAny_Subscript_str_slice (he.run f A s P μ E _ hA hS fun v h₁ t₁ P₁ c₁ b₁ r₁ => by
    cases r₁
    rename_i t
    rw [evalPart_none]
    refine wpAny_pure ?_
    rw [evalPart_some]
    refine wpAny_Constant_int ⟨x, t, Option.none, some (2, t₁), rfl, rfl, rfl, cut2_made x t t₁ fun t' tk => ?_⟩
    have k₁ : ∀ b o, h₁.get? b = some o → (h₁.push { cls := .type "slice", data := .fields #[.none, .int 2 t₁, .none] }).get? b = some o := fun _ _ e => Heap.get?_push_of_some _ e
    exact q _ _ tk P₁ (c₁.trans (CStep.ext k₁)) (b₁.ext k₁) (.str _ _)) ht
set_option maxHeartbeats 2000000 in
theorem Ev.dict3 {i : Expr} {k₁ k₂ k₃ x₁ x₂ x₃ y z : Str} {a₁ a₂ a₃ b₁ b₂ b₃ : Nat} {p₁ p₂ p₃ q₁ q₂ q₃ pos pos' : Pos} {sel : Value → Value → Value → Value} (hi : Ev C k fi ρ σ i (.dat (.str y)) σ₁)
    (hv : ∀ v₁ v₂ v₃ : Value, valueAt (merged [] [(k₁, v₁), (k₂, v₂), (k₃, v₃)]) y = some (sel v₁ v₂ v₃)) (hz : ∀ (P : PH) (t₁ t₂ t₃ : Tok), Rep P (sel (.str x₁ t₁) (.str x₂ t₂) (.str x₃ t₃)) (.str z)) (hp : plainIx i = true := by rfl) :
    Ev C k fi ρ σ (.Subscript (.Dict [some (.Constant (.str k₁) a₁ p₁), some (.Constant (.str k₂) a₂ p₂), some (.Constant (.str k₃) a₃ p₃)] [.Constant (.str x₁) b₁ q₁, .Constant (.str x₂) b₂ q₂, .Constant (.str x₃) b₃ q₃] pos) i pos') (.dat (.str z)) σ₁ := by
    refine Ev.mk ?_
    intro f A s P μ E Q hA hS q
    refine Subscript_ ?_
    refine wpAny_Dict_pairs (knd := strKind C.prog C.w) (pairs := [(eval (.Constant (.str k₁) a₁ p₁) f.env, do let x ← eval (.Constant (.str x₁) b₁ q₁) f.env; standAt pos; pure x), (eval (.Constant (.str k₂) a₂ p₂) f.env, do let x ← eval (.Constant (.str x₂) b₂ q₂) f.env; standAt pos; pure x), (eval (.Constant (.str k₃) a₃ p₃) f.env, do let x ← eval (.Constant (.str x₃) b₃ q₃) f.env; standAt pos; pure x)]) rfl (by simp) (Nat.le_of_ble_eq_true rfl) ?_
    have one : ∀ {kk xx : Str} {a b : Nat} {p q : Pos} {s : Shared} {rest : List (Sem Value × Sem Value)} {Q : List (Value × Value) → Shared → Prop}, wpAny (model C.prog C.w) A (evalPairs rest) (fun vs s₃ => Q ((.str kk s.toks, .str xx (s.toks + 1)) :: vs) s₃) E { s with toks := s.toks + 1 + 1 } →
        wpAny (model C.prog C.w) A (evalPairs ((eval (.Constant (.str kk) a p) f.env, do let x ← eval (.Constant (.str xx) b q) f.env; standAt pos; pure x) :: rest)) Q E s := fun h =>
      evalPairs_cons (wpAny_Constant_str (wpAny_bind (wpAny_Constant_str (wpAny_bind (wpAny_standAt (wpAny_pure h))))))
    refine one (one (one (evalPairs_nil ?_)))
    refine ⟨[(k₁, _), (k₂, _), (k₃, _)], ⟨strKind_is _ _ _ _, rfl, strKind_is _ _ _ _, rfl, strKind_is _ _ _ _, rfl, trivial⟩, Heap.DictOf.new _, fun h₁ hd hs => ?_⟩
    have k₁' : ∀ b o, s.heap.get? b = some o → h₁.get? b = some o := fun b o e => (hs.2 b (Nat.ne_of_lt (Heap.lt_size e))).trans (Heap.get?_push_of_some _ e)
    have c₁ : CStep C P s.heap P h₁ := CStep.ext k₁'
    have b₁ : Base C σ P h₁ := hS.B.ext k₁'
    refine hi.run f A { s with heap := h₁, toks := _ } P μ E _ hA (hS.after c₁ b₁) fun w h₂ t₂ P₂ c₂ b₂ r₂ => ?_
    cases r₂
    rename_i u
    have nP : P s.heap.objs.size = Option.none := by
      cases e : P s.heap.objs.size with
      | none => rfl
      | some o => have := hS.B.stay _ _ e; rw [fresh_size] at this; cases this
    obtain ⟨od, es, ep, ho, hr⟩ := id hd
    have nS : C.on = true → s.heap.objs.size ≠ C.S := by
      intro o e
      obtain ⟨_, ta, tb, nn, l⟩ := hS.B.src o
      rw [← e, fresh_size] at l; cases l
    have hd₂ : h₂.DictOf (strKind C.prog C.w) s.heap.objs.size _ := ⟨od, es, ep, c₂.keep _ _ nS ho, hr⟩
    exact subG (Heap.MapOf.typeIs (s := { s with heap := h₂, toks := t₂ }) hd₂.mapOf) slot_dict_getitem.lookup (wpAny_getItem_of (strKind_is _ _ _ _) hd₂.mapOf (hv _ _ _) (q _ h₂ _ P₂ (c₁.trans c₂) b₂ (hz _ _ _ _))) (sub_plain hp _ _)
end
-- MStmt
section
variable {C : Cx} {k : Nat} {fi : Fi} {ρ ρ₁ ρ₂ : Loc} {σ σ₁ σ₂ σ₃ : Int × Int}
noncomputable def Storable (fi : Fi) (x : Str) : Prop := fi.sc.names.lookup x = some .local ∨ (fi.sc.names.lookup x = some .cell ∧ x ∈ fi.own)
noncomputable def NewOk (C : Cx) (f : Frm) (P : PH) (h : Heap) (μ : Str → Option Value) (ρ : Loc) (x : Str) (v : Value) (av : AV) : Prop :=
  VOk C f P h v av ∧ ∀ ds, av = .box ds → ∀ y es, y ≠ x → ρ.lookup y = some (.box es) → μ y ≠ some v
theorem lookup_cons_ne {x y : Str} {av : AV} (h : y ≠ x) : List.lookup y ((x, av) :: ρ) = ρ.lookup y := by
  rw [List.lookup_cons, beq_eq_false_iff_ne.mpr h]
theorem lookup_cons_eq {x : Str} {av : AV} : List.lookup x ((x, av) :: ρ) = some av := by
  rw [List.lookup_cons, beq_self_eq_true]
theorem poke {f : Frm} {P : PH} {h h' : Heap} {a : Addr} (B : Base C σ P h) (fr : CStep C f.P₀ f.hs P h) (nP : P a = none) (nF : f.hs.get? a = none) (nS : C.on = true → C.S ≠ a) (hs : Heap.SameBut a h h') : Base C σ P h' ∧ CStep C f.P₀ f.hs P h' := by
  refine ⟨⟨fun b o e => ?_, B.base, fun q => ?_⟩, ⟨fr.le, fr.fresh, fun b o n e => ?_, fun b o e => ?_⟩⟩
  · have : b ≠ a := by rintro rfl; rw [nP] at e; cases e
    exact (hs.2 b this).trans (B.stay b o e)
  · obtain ⟨x, ta, tb, n, l⟩ := B.src q
    exact ⟨x, ta, tb, n, (hs.2 _ (nS q)).trans l⟩
  · have : b ≠ a := by rintro rfl; rw [nF] at e; cases e
    exact (hs.2 b this).trans (fr.keep b o n e)
  · have : b ≠ a := by rintro rfl; rw [nF] at e; cases e
    obtain ⟨o', e'⟩ := fr.dom b o e
    exact ⟨o', (hs.2 b this).trans e'⟩
theorem St.L_dict {f : Frm} {P : PH} {μ : Str → Option Value} {h : Heap} (s : St C fi f σ P μ ρ h) : ∃ o es ep, h.get? f.env.locals = some o ∧ o.data = .dict es ep := by
  obtain ⟨m, ⟨o, es, ep, e, d, _⟩, _⟩ := s.ns
  exact ⟨o, es, ep, e, d⟩
theorem storeVar {f : Frm} {P : PH} {μ : Str → Option Value} {s : Shared} {A : Around} {E : Value → Shared → Prop} {Q : Unit → Shared → Prop} {x : Str} {v : Value} {av : AV} (hS : St C fi f σ P μ ρ s.heap) (hk : Storable fi x) (hv : NewOk C f P s.heap μ ρ x v av)
    (q : ∀ h' tk, St C fi f σ P (fun y => if y = x then some v else μ y) ((x, av) :: ρ) h' → (∀ b o, b ≠ f.env.locals → (∀ c, f.env.cells.lookup x = some c → b ≠ c) → s.heap.get? b = some o → h'.get? b = some o) → Q () { s with heap := h', toks := tk }) : wpAny (model C.prog C.w) A (storeName f.env x v) Q E s := by
  have kd : f.env.kindOf x = fi.sc.names.lookup x := by unfold Env.kindOf; rw [hS.sc]
  have fk : f.env.scope.kind = .function := by rw [hS.sc]; exact hS.fnk
  obtain ⟨oL, esL, epL, eL, dL⟩ := hS.L_dict
  have notL : ∀ {b : Addr} {vs : List Value} {n : Nat}, s.heap.get? b = some (lstO vs n) → b ≠ f.env.locals := by
    rintro b vs n e rfl
    rw [eL] at e; cases e; cases dL
  have cellNe : ∀ {b c : Addr} {vs : List Value} {n : Nat} {y : Str}, f.env.cells.lookup y = some c → s.heap.get? b = some (lstO vs n) → b ≠ c := by
    rintro b c vs n y hc e rfl
    obtain ⟨oc, hoc, hd⟩ := (hS.cell y b hc).2.2
    rw [e] at hoc; cases hoc; cases hd
  have bx : ∀ y z ds es w, List.lookup y ((x, av) :: ρ) = some (.box ds) → List.lookup z ((x, av) :: ρ) = some (.box es) → (if y = x then some v else μ y) = some w → (if z = x then some v else μ z) = some w → y = z := by
    intro y z ds es w hy hz ey ez
    by_cases hyx : y = x <;> by_cases hzx : z = x
    · rw [hyx, hzx]
    · exfalso
      rw [lookup_cons_ne hzx] at hz
      rw [if_neg hzx] at ez
      rw [if_pos hyx] at ey
      subst hyx
      rw [lookup_cons_eq] at hy
      exact hv.2 ds (Option.some.inj hy) z es hzx hz (ez.trans ey.symm)
    · exfalso
      rw [lookup_cons_ne hyx] at hy
      rw [if_neg hyx] at ey
      rw [if_pos hzx] at ez
      subst hzx
      rw [lookup_cons_eq] at hz
      exact hv.2 es (Option.some.inj hz) y ds hyx hy (ey.trans ez.symm)
    · rw [lookup_cons_ne hyx] at hy; rw [lookup_cons_ne hzx] at hz
      rw [if_neg hyx] at ey; rw [if_neg hzx] at ez
      exact hS.boxes y z ds es w hy hz ey ez
  rcases hk with hk | ⟨hk, ho⟩
  · -- a local
    rw [← kd] at hk
    obtain ⟨m, hn, hm⟩ := hS.ns
    have nS : C.on = true → C.S ≠ f.env.locals := fun o e => by
      obtain ⟨_, ta, tb, n, l⟩ := hS.B.src o
      exact notL l e
    refine wpAny_storeName_local hk hn (fun h' hn' hs' => ?_) (by rw [fk]; rfl)
    obtain ⟨b', fr'⟩ := poke hS.B hS.fr hS.nsP hS.nsF nS hs'
    have vk : ∀ {w : Value} {a : AV}, VOk C f P s.heap w a → VOk C f P h' w a := fun {w a} hw => by
      cases a with
      | dat d => exact hw
      | src => exact hw
      | scr ns => exact hw
      | box ds =>
        obtain ⟨B, vs, n, rfl, hl, r⟩ := hw
        exact ⟨B, vs, n, rfl, (hs'.2 B (notL hl)).trans hl, r⟩
    refine q h' _ ⟨b', hS.sc, hS.fnk, hS.glob, hS.blt, ⟨_, hn', fun y hy => ?_⟩, hS.nsP, hS.nsF, fun y c hc => ?_, hS.capart, hS.cown, fun y a hy => ?_, bx, fr'⟩ (fun b o nb _ e => (hs'.2 b nb).trans e)
    · by_cases e : y = x
      · simp [e]
      · simp only [if_neg e]; exact hm y hy
    · obtain ⟨h1, h2, h3⟩ := hS.cell y c hc
      have hcL : c ≠ f.env.locals := by
        rintro rfl
        obtain ⟨oc, hoc, hd⟩ := h3
        rw [eL] at hoc; cases hoc; rw [dL] at hd; cases hd
      have hyx : y ≠ x := by rintro rfl; exact h2 hk
      exact ⟨h1, h2, by rw [if_neg hyx]; exact h3.sameBut hs' hcL⟩
    · by_cases e : y = x
      · subst e
        rw [lookup_cons_eq] at hy
        cases hy
        exact ⟨.inl hk, v, by simp, vk hv.1⟩
      · rw [lookup_cons_ne e] at hy
        obtain ⟨h1, w, h2, h3⟩ := hS.vars y a hy
        exact ⟨h1, w, by rw [if_neg e]; exact h2, vk h3⟩
  · -- a cell of the frame's own
    rw [← kd] at hk
    obtain ⟨c, hc, hF⟩ := hS.cown x ho
    obtain ⟨h1, h2, h3⟩ := hS.cell x c hc
    have nS : C.on = true → C.S ≠ c := fun o e => by
      obtain ⟨_, ta, tb, n, l⟩ := hS.B.src o
      exact cellNe hc l e
    refine wpAny_storeName_cell fk hk hc h3 fun h' hc' hs' => ?_
    obtain ⟨b', fr'⟩ := poke hS.B hS.fr h1 hF nS hs'
    have vk : ∀ {w : Value} {a : AV}, VOk C f P s.heap w a → VOk C f P h' w a := fun {w a} hw => by
      cases a with
      | dat d => exact hw
      | src => exact hw
      | scr ns => exact hw
      | box ds =>
        obtain ⟨B, vs, n, rfl, hl, r⟩ := hw
        exact ⟨B, vs, n, rfl, (hs'.2 B (cellNe hc hl)).trans hl, r⟩
    have hLc : f.env.locals ≠ c := by
      rintro e
      obtain ⟨oc, hoc, hd⟩ := h3
      rw [← e, eL] at hoc; cases hoc; rw [dL] at hd; cases hd
    obtain ⟨m, hn, hm⟩ := hS.ns
    refine q h' s.toks ⟨b', hS.sc, hS.fnk, hS.glob, hS.blt, ⟨m, hn.sameBut hs' hLc, fun y hy => ?_⟩, hS.nsP, hS.nsF, fun y d hd => ?_, hS.capart, hS.cown, fun y a hy => ?_, bx, fr'⟩ (fun b o _ nc e => (hs'.2 b (nc c hc)).trans e)
    · have hyx : y ≠ x := by rintro rfl; rw [hk] at hy; cases hy
      simp only [if_neg hyx]; exact hm y hy
    · obtain ⟨k1, k2, k3⟩ := hS.cell y d hd
      refine ⟨k1, k2, ?_⟩
      by_cases e : y = x
      · subst e
        rw [hc] at hd; cases hd
        simpa using hc'
      · rw [if_neg e]
        exact k3.sameBut hs' fun e' => e (hS.capart y x d hd (e' ▸ hc))
    · by_cases e : y = x
      · subst e
        rw [lookup_cons_eq] at hy
        cases hy
        exact ⟨.inr ⟨.inl hk, c, hc⟩, v, by simp, vk hv.1⟩
      · rw [lookup_cons_ne e] at hy
        obtain ⟨g1, w, g2, g3⟩ := hS.vars y a hy
        exact ⟨g1, w, by rw [if_neg e]; exact g2, vk g3⟩
noncomputable def isBox : AV → Bool
  | .box _ => true
  | _ => false
noncomputable def ItemOk (h₀ : Heap) (P : PH) (h : Heap) (v : Value) : AV → Prop
  | .dat d => Rep P v d
  | .box ds => ∃ a vs n, v = .ref a ∧ h₀.get? a = none ∧ P a = none ∧ h.get? a = some (lstO vs n) ∧ Reps P vs ds
  | _ => False
noncomputable def PW (ps : List (Value × AV)) : Prop := ps.Pairwise fun p q => (isBox p.2 = true ∨ isBox q.2 = true) → p.1 ≠ q.1
noncomputable def Items (h₀ : Heap) (P : PH) (h : Heap) (ps : List (Value × AV)) : Prop := (∀ p ∈ ps, ItemOk h₀ P h p.1 p.2) ∧ PW ps
theorem ItemOk.newOk {f : Frm} {P P' : PH} {μ : Str → Option Value} {h₀ h : Heap} {v : Value} {av : AV} (hS₀ : St C fi f σ P μ ρ h₀) (i : ItemOk h₀ P' h v av) : VOk C f P' h v av := by
  cases av with
  | dat d => exact i
  | src => exact i.elim
  | scr ns => exact i.elim
  | box ds =>
    obtain ⟨a, vs, n, rfl, e, n', hl, r⟩ := i
    refine ⟨a, vs, n, rfl, hl, r, n', fun o e' => ?_, ?_⟩
    · obtain ⟨_, ta, tb, nn, l⟩ := hS₀.B.src o
      rw [e', e] at l; cases l
    · cases q : f.hs.get? a with
      | none => rfl
      | some o => obtain ⟨o', q'⟩ := hS₀.fr.dom a o q; rw [e] at q'; cases q'
noncomputable def StoresTo (env : Env) (x : Str) (t : Value → Sem Unit) : Prop := ∀ (M : Model) (A : Around) (E : Value → Shared → Prop) (Q : Unit → Shared → Prop) (s : Shared) (v : Value), wpAny M A (storeName env x v) Q E s → wpAny M A (t v) Q E s
theorem storesTo_bind (env : Env) (x : Str) : StoresTo env x fun v => bindName env x v := fun _ _ _ _ _ _ h => wpAny_bindName h
theorem storesTo_assign (env : Env) (x : Str) (p : Pos) : StoresTo env x (assign (.Name x p) env) := fun _ _ _ _ _ _ h => wpAny_assign_Name h
theorem storeMany {f : Frm} {A : Around} {E : Value → Shared → Prop} : ∀ (xs : List Str) (ts : List (Value → Sem Unit)) (ps : List (Value × AV)) (ρ : Loc) (P : PH) (μ : Str → Option Value) (s : Shared) (Q : Unit → Shared → Prop), xs.length = ps.length → ts.length = xs.length → (∀ (i : Nat) (x : Str) (t : Value → Sem Unit), xs[i]? = some x → ts[i]? = some t → StoresTo f.env x t) →
    St C fi f σ P μ ρ s.heap → (∀ x ∈ xs, Storable fi x) → (∀ p ∈ ps, VOk C f P s.heap p.1 p.2) → PW ps → (∀ p ∈ ps, isBox p.2 = true → ∀ y es, ρ.lookup y = some (.box es) → μ y ≠ some p.1) →
    (∀ h' tk μ', St C fi f σ P μ' ((xs.zip (ps.map (·.2))).reverse ++ ρ) h' → Q () { s with heap := h', toks := tk }) → wpAny (model C.prog C.w) A (assignInOrder ts (ps.map (·.1))) Q E s
  | [], [], [], ρ, P, μ, s, Q, _, _, _, hS, _, _, _, _, q => wpAny_pure (q s.heap s.toks μ hS)
  | x :: xs, t :: ts, (v, av) :: ps, ρ, P, μ, s, Q, hl, hl', hst, hS, hk, hv, hpw, hb, q => by
    show wpAny _ A (holding (ps.map (·.1)) (t v) >>= fun _ => assignInOrder ts (ps.map (·.1))) Q E s
    refine wpAny_bind (wpAny_holding (hst 0 x t rfl rfl _ _ _ _ _ _ ?_))
    have hpw' := List.pairwise_cons.mp hpw
    refine storeVar hS (hk x (.head _)) ⟨hv (v, av) (.head _), fun ds e y es _ hy => hb (v, av) (.head _) (by subst e; rfl) y es hy⟩ fun h' tk hS' keep => ?_
    refine storeMany xs ts ps ((x, av) :: ρ) P _ { s with heap := h', toks := tk } Q (by simpa using hl) (by simpa using hl') (fun (i : Nat) (y : Str) (t' : Value → Sem Unit) hy ht => hst (i + 1) y t' hy ht) hS' (fun y hy => hk y (.tail _ hy)) (fun p hp => ?_) hpw'.2 (fun p hp hbx y es hy => ?_) fun h'' tk' μ' hS'' => ?_
    · have := hv p (.tail _ hp)
      obtain ⟨w, a⟩ := p
      cases a with
      | dat d => exact this
      | src => exact this
      | scr ns => exact this
      | box ds =>
        obtain ⟨B, vs, n, e, hlB, r⟩ := this
        refine ⟨B, vs, n, e, keep B _ ?_ ?_ hlB, r⟩
        · rintro rfl
          obtain ⟨oL, es, ep, eL, dL⟩ := hS.L_dict
          rw [eL] at hlB; cases hlB; cases dL
        · rintro c hc rfl
          obtain ⟨oc, hoc, hd⟩ := (hS.cell x B hc).2.2
          rw [hlB] at hoc; cases hoc; cases hd
    · by_cases e : y = x
      · subst e
        rw [lookup_cons_eq] at hy
        cases hy
        simp only [if_pos]
        exact fun e' => hpw'.1 p hp (.inr hbx) (Option.some.inj e')
      · rw [lookup_cons_ne e] at hy
        simp only [if_neg e]
        exact hb p (.tail _ hp) hbx y es hy
    · refine q h'' tk' μ' ?_
      simpa using hS''
  | [], _ :: _, _, _, _, _, _, _, _, hl', _, _, _, _, _, _, _ => by cases hl'
  | _ :: _, [], _, _, _, _, _, _, _, hl', _, _, _, _, _, _, _ => by cases hl'
  | [], _, _ :: _, _, _, _, _, _, hl, _, _, _, _, _, _, _, _ => by cases hl
  | _ :: _, _, [], _, _, _, _, _, hl, _, _, _, _, _, _, _, _ => by cases hl
inductive Out where
  | next (ρ : Loc) (σ : Int × Int)
  | ret (d : PyData) (σ : Int × Int)
  | own (ds : List PyData) (σ : Int × Int)
noncomputable def Ends (C : Cx) (fi : Fi) (f : Frm) (P : PH) (Q : Flow → Shared → Prop) (s : Shared) : Out → Prop
  | .next ρ' σ' => ∀ h' tk P' μ', PLe P P' → St C fi f σ' P' μ' ρ' h' → Q .next { s with heap := h', toks := tk }
  | .ret d σ' => ∀ v h' tk P', CStep C f.P₀ f.hs P' h' → Base C σ' P' h' → Rep P' v d → Q (.ret v) { s with heap := h', toks := tk }
  | .own ds σ' => ∀ a vs n h' tk P', CStep C f.P₀ f.hs P' h' → Base C σ' P' h' → f.hs.get? a = none → P' a = none → h'.get? a = some (lstO vs n) → Reps P' vs ds → Q (.ret (.ref a)) { s with heap := h', toks := tk }
theorem Ends.mono {f : Frm} {P P' : PH} {Q : Flow → Shared → Prop} {s : Shared} {h : Heap} {tk : Nat} {o : Out} (k : PLe P P') (e : Ends C fi f P Q s o) : Ends C fi f P' Q { s with heap := h, toks := tk } o := by
  cases o with
  | next ρ' σ' => exact fun h' tk P'' μ' k' hS => e h' tk P'' μ' (k.trans k') hS
  | ret d σ' => exact e
  | own ds σ' => exact e
structure Sx (C : Cx) (k : Nat) (fi : Fi) (ρ : Loc) (σ : Int × Int) (ss : List Stmt) (o : Out) : Prop where
  run : ∀ (f : Frm) (A : Around) (s : Shared) (P : PH) (μ : Str → Option Value) (E : Value → Shared → Prop) (Q : Flow → Shared → Prop), AOk A k → St C fi f σ P μ ρ s.heap → Ends C fi f P Q s o → wpAny (model C.prog C.w) A (execs ss f.env) Q E s
structure Sx1 (C : Cx) (k : Nat) (fi : Fi) (ρ : Loc) (σ : Int × Int) (st : Stmt) (o : Out) : Prop where
  run : ∀ (f : Frm) (A : Around) (s : Shared) (P : PH) (μ : Str → Option Value) (E : Value → Shared → Prop) (Q : Flow → Shared → Prop), AOk A k → St C fi f σ P μ ρ s.heap → Ends C fi f P Q s o → wpAny (model C.prog C.w) A (exec st f.env) Q E s
theorem Sx.nil : Sx C k fi ρ σ [] (.next ρ σ) := .mk <| fun _ _ s P μ _ _ _ hS q => wpAny_execs_nil (q s.heap s.toks P μ (PLe.refl P) hS)
theorem Sx.cons {st : Stmt} {ss : List Stmt} {o : Out} (h : Sx1 C k fi ρ σ st (.next ρ₁ σ₁)) (hr : Sx C k fi ρ₁ σ₁ ss o) : Sx C k fi ρ σ (st :: ss) o := .mk <| fun f A s P μ E Q hA hS q =>
  wpAny_execs_cons (h.run f A s P μ E _ hA hS fun h' tk P' μ' k' hS' => hr.run f A { s with heap := h', toks := tk } P' μ' E Q hA hS' (q.mono k'))
theorem Sx.ret {st : Stmt} {ss : List Stmt} {d : PyData} (h : Sx1 C k fi ρ σ st (.ret d σ₁)) : Sx C k fi ρ σ (st :: ss) (.ret d σ₁) := .mk <| fun f A s P μ E _ hA hS q =>
  wpAny_execs_cons (h.run f A s P μ E _ hA hS fun v h' tk P' c b r => q v h' tk P' c b r)
theorem Sx.own {st : Stmt} {ss : List Stmt} {ds : List PyData} (h : Sx1 C k fi ρ σ st (.own ds σ₁)) : Sx C k fi ρ σ (st :: ss) (.own ds σ₁) := .mk <| fun f A s P μ E _ hA hS q =>
  wpAny_execs_cons (h.run f A s P μ E _ hA hS fun a vs n h' tk P' c b x y z r => q a vs n h' tk P' c b x y z r)
theorem Sx1.ret {e : Expr} {pos : Pos} {d : PyData} (he : Ev C k fi ρ σ e (.dat d) σ₁) : Sx1 C k fi ρ σ (.Return (some e) pos) (.ret d σ₁) := .mk <| fun f A s P μ E _ hA hS q =>
  wpAny_Return_some (he.run f A s P μ E _ hA hS fun v h' tk P' c b r => q v h' tk P' (hS.fr.trans c) b r)
theorem Sx1.retOwn {e : Expr} {pos : Pos} {ds : List PyData} (he : Evf C k fi ρ σ e ds σ₁) : Sx1 C k fi ρ σ (.Return (some e) pos) (.own ds σ₁) := .mk <| fun f A s P μ E _ hA hS q =>
  wpAny_Return_some (he.run f A s P μ E _ hA hS fun a vs n h' tk P' c b hn hP ha r => q a vs n h' tk P' (hS.fr.trans c) b (by
    cases e : f.hs.get? a with
    | none => rfl
    | some o => obtain ⟨o', e'⟩ := hS.fr.dom _ _ e; rw [hn] at e'; cases e') hP ha r)
theorem Sx1.ifT {t : Expr} {body orelse : List Stmt} {pos : Pos} {o : Out} (ht : Ts C k fi ρ σ t true σ₁) (hb : Sx C k fi ρ σ₁ body o) : Sx1 C k fi ρ σ (.If t body orelse pos) o := .mk <| fun f A s P μ E Q hA hS q =>
  wpAny_If (ht.run f A s P μ E _ hA hS fun h' tk P' c b => hb.run f A { s with heap := h', toks := tk } P' μ E Q hA (hS.after c b) (q.mono c.le))
theorem Sx1.ifF {t : Expr} {body orelse : List Stmt} {pos : Pos} {o : Out} (ht : Ts C k fi ρ σ t false σ₁) (hb : Sx C k fi ρ σ₁ orelse o) : Sx1 C k fi ρ σ (.If t body orelse pos) o := .mk <| fun f A s P μ E Q hA hS q =>
  wpAny_If (ht.run f A s P μ E _ hA hS fun h' tk P' c b => by
    show wpAny _ _ _ _ _ _
    exact hb.run f A { s with heap := h', toks := tk } P' μ E Q hA (hS.after c b) (q.mono c.le))
theorem Sx1.assign {x : Str} {p pos : Pos} {e : Expr} {d : PyData} (he : Ev C k fi ρ σ e (.dat d) σ₁) (hk : Storable fi x) (hs : ∀ env, swapsWith e (some (.Name x p)) pos.line env = pure false := by intro _; rfl) :
    Sx1 C k fi ρ σ (.Assign [.Name x p] e pos) (.next ((x, .dat d) :: ρ) σ₁) := .mk <| fun f A s P μ E _ hA hS q =>
  wpAny_Assign_Name (he.run f A s P μ E _ hA hS fun v h' tk P' c b r => storeVar (s := { s with heap := h', toks := tk }) (hS.after c b) hk ⟨(show VOk C f P' h' v (.dat d) from r), fun _ e => by cases e⟩ fun h'' tk' hS' _ => q h'' tk' P' _ c.le hS') (hs f.env)
theorem Sx1.assignBox {x : Str} {p pos : Pos} {e : Expr} {ds : List PyData} (he : Evf C k fi ρ σ e ds σ₁) (hk : Storable fi x) (hs : ∀ env, swapsWith e (some (.Name x p)) pos.line env = pure false := by intro _; rfl) :
    Sx1 C k fi ρ σ (.Assign [.Name x p] e pos) (.next ((x, .box ds) :: ρ) σ₁) := .mk <| fun f A s P μ E _ hA hS q =>
  wpAny_Assign_Name (he.run f A s P μ E _ hA hS fun a vs n h' tk P' c b hn hP ha r => by
    have i : ItemOk s.heap P' h' (.ref a) (.box ds) := ⟨a, vs, n, rfl, hn, hP, ha, r⟩
    refine storeVar (s := { s with heap := h', toks := tk }) (hS.after c b) hk ⟨i.newOk hS, fun _ _ y es _ hy e => ?_⟩ fun h'' tk' hS' _ => q h'' tk' P' _ c.le hS'
    obtain ⟨_, v, hv, B, us, m, rfl, hl, _⟩ := hS.vars y _ hy
    rw [hv] at e; cases e
    rw [hn] at hl; cases hl) (hs f.env)
end
-- MStmt2
section
variable {C : Cx} {k : Nat} {fi : Fi} {ρ ρ₁ ρ₂ : Loc} {σ σ₁ σ₂ σ₃ : Int × Int}
theorem ItemOk.ext {h₀ h h' : Heap} {P : PH} {v : Value} {av : AV} (e : ∀ b o, h.get? b = some o → h'.get? b = some o) (i : ItemOk h₀ P h v av) : ItemOk h₀ P h' v av := by
  cases av with
  | dat d => exact i
  | src => exact i.elim
  | scr ns => exact i.elim
  | box ds =>
    obtain ⟨a, vs, n, rfl, x, y, hl, r⟩ := i
    exact ⟨a, vs, n, rfl, x, y, e _ _ hl, r⟩
theorem Items.dats {h₀ h : Heap} {P : PH} : ∀ {vs : List Value} {ds : List PyData}, Reps P vs ds → Items h₀ P h (vs.zip (ds.map .dat))
  | _, _, .nil => ⟨by intro p hp; simp at hp, List.Pairwise.nil⟩
  | _, _, .cons (v := v) (d := d) a b => by
    obtain ⟨x, y⟩ := Items.dats (h₀ := h₀) (h := h) b
    refine ⟨fun p hp => ?_, List.pairwise_cons.mpr ⟨fun q hq hb => ?_, y⟩⟩
    · rcases List.mem_cons.mp hp with rfl | hp
      · exact a
      · exact x p hp
    · rcases hb with hb | hb
      · cases hb
      · have := x q hq
        obtain ⟨w, av⟩ := q
        have hm : ∃ d, av = .dat d := by
          obtain ⟨d, _, e⟩ := List.mem_map.mp (List.of_mem_zip hq).2
          exact ⟨d, e.symm⟩
        obtain ⟨d, rfl⟩ := hm
        cases hb
structure EvI (C : Cx) (k : Nat) (fi : Fi) (ρ : Loc) (σ : Int × Int) (es : List Expr) (avs : List AV) (σ' : Int × Int) : Prop where
  run : ∀ (f : Frm) (A : Around) (s : Shared) (P : PH) (μ : Str → Option Value) (E : Value → Shared → Prop) (Q : List Value → Shared → Prop) (pos : Pos), AOk A k → St C fi f σ P μ ρ s.heap →
    (∀ vs h' tk P', CStep C P s.heap P' h' → Base C σ' P' h' → vs.length = avs.length → Items s.heap P' h' (vs.zip avs) → Q vs { s with heap := h', toks := tk }) → wpAny (model C.prog C.w) A (spliced (backTo pos (starEach es f.env))) Q E s
theorem EvI.nil : EvI C k fi ρ σ [] [] σ := .mk <| fun _ _ s P _ _ _ _ _ hS h => wpAny_items_nil (h [] s.heap s.toks P (CStep.refl ..) hS.B rfl ⟨by intro p hp; simp at hp, List.Pairwise.nil⟩)
theorem Rep.at {P : PH} {a : Addr} {d : PyData} (r : Rep P (.ref a) d) : ∃ o, P a = some o := by cases r <;> exact ⟨_, ‹_›⟩
theorem ItemOk.back {h₀ h : Heap} {P : PH} {v : Value} {av : AV} {h₁ : Heap} (x : ∀ a o, h₀.get? a = some o → ∃ o', h₁.get? a = some o') (i : ItemOk h₁ P h v av) : ItemOk h₀ P h v av := by
  cases av with
  | dat d => exact i
  | src => exact i.elim
  | scr ns => exact i.elim
  | box ds =>
    obtain ⟨a, vs, n, rfl, e, y, hl, r⟩ := i
    refine ⟨a, vs, n, rfl, ?_, y, hl, r⟩
    cases q : h₀.get? a with
    | none => rfl
    | some o => obtain ⟨o', q'⟩ := x a o q; rw [e] at q'; cases q'
theorem EvI.dat {e : Expr} {es : List Expr} {d : PyData} {avs : List AV} (h : Ev C k fi ρ σ e (.dat d) σ₁) (hr : EvI C k fi ρ σ₁ es avs σ₂) (he : ∀ env, starEach (e :: es) env = (false, eval e env) :: starEach es env := by intro _; rfl) :
    EvI C k fi ρ σ (e :: es) (.dat d :: avs) σ₂ := .mk <| fun f A s P μ E _ pos hA hS q =>
  wpAny_items_cons (h.run f A s P μ E _ hA hS fun v h₁ t₁ P₁ c₁ b₁ r₁ => hr.run f A { s with heap := h₁, toks := t₁ } P₁ μ E _ pos hA (hS.after c₁ b₁) fun vs h₂ t₂ P₂ c₂ b₂ hl ⟨i, pw⟩ => by
    refine q (v :: vs) h₂ t₂ P₂ (c₁.trans c₂) b₂ (by simpa using hl) ⟨fun p hp => ?_, List.pairwise_cons.mpr ⟨fun p hp hb => ?_, pw⟩⟩
    · rcases List.mem_cons.mp hp with rfl | hp
      · exact Rep.mono c₂.le r₁
      · exact (i p hp).back c₁.dom
    · rcases hb with hb | hb
      · cases hb
      · have := i p hp
        obtain ⟨w, av⟩ := p
        cases av with
        | dat d => cases hb
        | src => cases hb
        | scr ns => cases hb
        | box ds =>
          obtain ⟨a, vs, n, rfl, e, _⟩ := this
          rintro rfl
          obtain ⟨o, ho⟩ := Rep.at r₁
          rw [b₁.stay _ _ ho] at e; cases e) (he f.env)
theorem EvI.box {e : Expr} {es : List Expr} {ds : List PyData} {avs : List AV} (h : Evf C k fi ρ σ e ds σ₁) (hr : EvI C k fi ρ σ₁ es avs σ₂) (he : ∀ env, starEach (e :: es) env = (false, eval e env) :: starEach es env := by intro _; rfl) :
    EvI C k fi ρ σ (e :: es) (.box ds :: avs) σ₂ := .mk <| fun f A s P μ E _ pos hA hS q =>
  wpAny_items_cons (h.run f A s P μ E _ hA hS fun a us n h₁ t₁ P₁ c₁ b₁ hn hP ha r₁ => hr.run f A { s with heap := h₁, toks := t₁ } P₁ μ E _ pos hA (hS.after c₁ b₁) fun vs h₂ t₂ P₂ c₂ b₂ hl ⟨i, pw⟩ => by
    have nS : C.on = true → a ≠ C.S := by
      rintro o rfl
      obtain ⟨_, ta, tb, m, l⟩ := hS.B.src o
      rw [hn] at l; cases l
    have nP : P₂ a = none := by
      cases q : P₂ a with
      | none => rfl
      | some o =>
        rcases c₂.fresh a o q with q' | q'
        · rw [hP] at q'; cases q'
        · rw [ha] at q'; cases q'
    refine q (.ref a :: vs) h₂ t₂ P₂ (c₁.trans c₂) b₂ (by simpa using hl) ⟨fun p hp => ?_, List.pairwise_cons.mpr ⟨fun p hp hb => ?_, pw⟩⟩
    · rcases List.mem_cons.mp hp with rfl | hp
      · exact ⟨a, us, n, rfl, hn, nP, c₂.keep _ _ nS ha, Reps.mono c₂.le r₁⟩
      · exact (i p hp).back c₁.dom
    · have := i p hp
      obtain ⟨w, av⟩ := p
      cases av with
      | dat d =>
        rintro rfl
        obtain ⟨o, ho⟩ := Rep.at this
        rw [nP] at ho; cases ho
      | src => exact this.elim
      | scr ns => exact this.elim
      | box ds =>
        obtain ⟨b, vs, n, rfl, e, _⟩ := this
        rintro ⟨⟩
        rw [ha] at e; cases e) (he f.env)
structure Evm (C : Cx) (k : Nat) (fi : Fi) (ρ : Loc) (σ : Int × Int) (e : Expr) (avs : List AV) (σ' : Int × Int) : Prop where
  run : ∀ (f : Frm) (A : Around) (s : Shared) (P : PH) (μ : Str → Option Value) (E : Value → Shared → Prop) (Q : Value → Shared → Prop), AOk A k → St C fi f σ P μ ρ s.heap →
    (∀ t vs n h' tk P', CStep C P s.heap P' h' → Base C σ' P' h' → h'.get? t = some (tupO vs n) → vs.length = avs.length → Items s.heap P' h' (vs.zip avs) → Q (.ref t) { s with heap := h', toks := tk }) → wpAny (model C.prog C.w) A (eval e f.env) Q E s
theorem Evm.data {e : Expr} {ds : List PyData} (h : Ev C k fi ρ σ e (.dat (.tuple ds)) σ₁) : Evm C k fi ρ σ e (ds.map .dat) σ₁ := .mk <| fun f A s P μ E _ hA hS q =>
  h.run f A s P μ E _ hA hS fun v h' tk P' c b r => by
    cases r with
    | tup ht rs => exact q _ _ _ h' tk P' c b (b.stay _ _ ht) (by rw [List.length_map, rs.length]) (Items.dats rs)
theorem Evm.tuple {es : List Expr} {kd : Nat} {pos : Pos} {avs : List AV} (h : EvI C k fi ρ σ es avs σ₁) (hl : avs.length ≤ 1000 := by decide) : Evm C k fi ρ σ (.Tuple es kd pos) avs σ₁ := .mk <| fun f A s P μ E _ hA hS q =>
  wpAny_Tuple (h.run f A s P μ E _ pos hA hS fun vs h₁ t₁ P₁ c₁ b₁ hn i => by
    refine ⟨by rw [hn, sizeLine_eq]; omega, ?_⟩
    have k₁ : ∀ b o, h₁.get? b = some o → (h₁.push (tupO vs 0)).get? b = some o := fun _ _ e => Heap.get?_push_of_some _ e
    exact q _ vs 0 _ t₁ P₁ (c₁.trans (CStep.ext k₁)) (b₁.ext k₁) (Heap.get?_push_size _ rfl) hn ⟨fun p hp => (i.1 p hp).ext k₁, i.2⟩)
theorem zip_fst {α β : Type} : ∀ {vs : List α} {avs : List β}, vs.length = avs.length → (vs.zip avs).map (·.1) = vs
  | [], [], _ => rfl
  | _ :: _, _ :: _, h => by simp [zip_fst (by simpa using h)]
  | [], _ :: _, h => by cases h
  | _ :: _, [], h => by cases h
theorem zip_snd {α β : Type} : ∀ {vs : List α} {avs : List β}, vs.length = avs.length → (vs.zip avs).map (·.2) = avs
  | [], [], _ => rfl
  | _ :: _, _ :: _, h => by simp [zip_snd (by simpa using h)]
  | [], _ :: _, h => by cases h
  | _ :: _, [], h => by cases h
theorem noStars {env : Env} : ∀ xs : List (Str × Pos), (xs.map fun x => (false, PySem.assign (.Name x.1 x.2) env)).findIdx? (·.1) = none
  | [] => rfl
  | x :: xs => by simp [List.findIdx?_cons, noStars xs]
theorem itemsGo {f : Frm} {A : Around} {s : Shared} {P P' : PH} {μ : Str → Option Value} {E : Value → Shared → Prop} {Q : Unit → Shared → Prop} {h' h'' : Heap} {tk : Nat} {ps : List (Value × AV)} {xs : List Str} {ts : List (Value → Sem Unit)} (hS : St C fi f σ P μ ρ s.heap) (c : CStep C P s.heap P' h') (b : Base C σ₁ P' h') (ext : ∀ b o, h'.get? b = some o → h''.get? b = some o)
    (it : Items s.heap P' h' ps) (hl : xs.length = ps.length) (hl' : ts.length = xs.length) (hst : ∀ (i : Nat) (x : Str) (t : Value → Sem Unit), xs[i]? = some x → ts[i]? = some t → StoresTo f.env x t) (hk : ∀ x ∈ xs, Storable fi x)
    (q : ∀ h₃ tk μ', St C fi f σ₁ P' μ' ((xs.zip (ps.map (·.2))).reverse ++ ρ) h₃ → Q () { s with heap := h₃, toks := tk }) :
    wpAny (model C.prog C.w) A (assignInOrder ts (ps.map (·.1))) Q E { s with heap := h'', toks := tk } := by
  have hS' := (hS.after c b).after (CStep.ext ext) (b.ext ext)
  refine storeMany xs ts ps ρ P' μ { s with heap := h'', toks := tk } Q hl hl' hst hS' hk (fun p hp => ((it.1 p hp).ext ext).newOk hS) it.2 (fun p hp hb y es hy e => ?_) q
  have := it.1 p hp
  obtain ⟨w, av⟩ := p
  cases av with
  | dat d => cases hb
  | src => cases hb
  | scr ns => cases hb
  | box ds =>
    obtain ⟨a, vs, n, rfl, hn, _⟩ := this
    obtain ⟨_, v, hv, B, us, m, rfl, hl, _⟩ := hS.vars y _ hy
    rw [hv] at e; cases e
    rw [hn] at hl; cases hl
theorem Sx1.unpack {elts : List Expr} {kd : Nat} {tpos pos : Pos} {value : Expr} {avs : List AV} (xs : List (Str × Pos)) (he : Evm C k fi ρ σ value avs σ₁) (hx : ∀ env, assignEach elts env = xs.map fun x => (false, PySem.assign (.Name x.1 x.2) env)) (hl : xs.length = avs.length) (hk : ∀ x ∈ xs.map (·.1), Storable fi x)
    (hs : ∀ env, swapsWithSole [.Tuple elts kd tpos] value pos.line env = pure false) (hw : ∀ env : Env, env.scope = fi.sc → swappedStores [.Tuple elts kd tpos] value env = pure none) :
    Sx1 C k fi ρ σ (.Assign [.Tuple elts kd tpos] value pos) (.next (((xs.map (·.1)).zip avs).reverse ++ ρ) σ₁) := .mk <| fun f A s P μ E Q hA hS q =>
  Assign_Tuple (he.run f A s P μ E _ hA hS fun t vs n h' tk P' c b ht hlen it => by
    have itp : IsTup h' t vs.toArray := ⟨_, ht, rfl, n, rfl⟩
    refine assign_Tuple_tuple hA.1 itp (by rw [hx]; simp [hl, hlen]) (by rw [hx]; exact noStars xs) fun h'' he => ?_
    have e : (assignEach elts f.env).map (·.2) = xs.map fun x => PySem.assign (.Name x.1 x.2) f.env := by rw [hx, List.map_map]; rfl
    rw [e, List.toList_toArray]
    have ext : ∀ b o, h'.get? b = some o → h''.get? b = some o := fun b o e => he b o (Nat.ne_of_lt (Heap.lt_size e)) e
    have := itemsGo (C := C) (tk := tk) (Q := fun _ s' => Q .next s') (A := A) (E := E) (xs := xs.map (·.1)) (ts := xs.map fun x => PySem.assign (.Name x.1 x.2) f.env) hS c b ext it (by simp [hl, hlen]) (by simp) (fun i x t hx ht => ?_) hk fun h₃ tk μ' hS' => q h₃ tk P' μ' c.le (by rw [zip_snd hlen] at hS'; exact hS')
    · rw [zip_fst hlen] at this; exact this
    · simp only [List.getElem?_map, Option.map_eq_some_iff] at hx ht
      obtain ⟨y, hy, rfl⟩ := hx
      obtain ⟨z, hz, rfl⟩ := ht
      rw [hy] at hz; cases hz
      exact storesTo_assign _ _ _) (hs f.env) (hw f.env hS.sc)
theorem Sx1.swap {elts : List Expr} {kd : Nat} {tpos pos : Pos} {value : Expr} {avs : List AV} (names : List Str) (he : Evm C k fi ρ σ value avs σ₁) (hl : names.length = avs.length) (hk : ∀ x ∈ names, Storable fi x)
    (hs : ∀ env, swapsWithSole [.Tuple elts kd tpos] value pos.line env = pure false) (hw : ∀ env : Env, env.scope = fi.sc → swappedStores [.Tuple elts kd tpos] value env = pure (some names)) :
    Sx1 C k fi ρ σ (.Assign [.Tuple elts kd tpos] value pos) (.next ((names.reverse.zip avs.reverse).reverse ++ ρ) σ₁) := .mk <| fun f A s P μ E Q hA hS q =>
  Assign_Tuple_swapped (he.run f A s P μ E _ hA hS fun t vs n h' tk P' c b ht hlen it => by
    have itp : IsTup h' t vs.toArray := ⟨_, ht, rfl, n, rfl⟩
    have hn : names.length = vs.toArray.size := by simp [hl, hlen]
    rw [hn]
    refine unpackItems_tuple hA.1 itp fun h'' he => ?_
    have ext : ∀ b o, h'.get? b = some o → h''.get? b = some o := fun b o e => he b o (Nat.ne_of_lt (Heap.lt_size e)) e
    have it' : Items s.heap P' h' ((vs.zip avs).reverse) := ⟨fun p hp => it.1 p (List.mem_reverse.mp hp), by
      unfold PW
      rw [List.pairwise_reverse]
      exact it.2.imp fun h hb e => h hb.symm e.symm⟩
    have := itemsGo (C := C) (tk := tk) (Q := fun _ s' => Q .next s') (A := A) (E := E) (xs := names.reverse) (ts := names.reverse.map fun n => bindName f.env n) hS c b ext it' (by simp [hl, hlen]) (by simp) (fun i x t hx ht => ?_) (fun x hx => hk x (List.mem_reverse.mp hx)) fun h₃ tk μ' hS' => q h₃ tk P' μ' c.le (by rw [List.map_reverse, zip_snd hlen] at hS'; exact hS')
    · have ez : (vs.zip avs).reverse.map (·.1) = vs.reverse := by rw [List.map_reverse, zip_fst hlen]
      rw [ez] at this
      exact this
    · simp only [List.getElem?_map, Option.map_eq_some_iff] at ht
      obtain ⟨z, hz, rfl⟩ := ht
      rw [hx] at hz; cases hz
      exact storesTo_bind _ _) (hs f.env) (hw f.env hS.sc)
structure EvS (C : Cx) (k : Nat) (fi : Fi) (ρ : Loc) (σ : Int × Int) (e : Expr) (d : PyData) (ρ' : Loc) (σ' : Int × Int) : Prop where
  run : ∀ (f : Frm) (A : Around) (s : Shared) (P : PH) (μ : Str → Option Value) (E : Value → Shared → Prop) (Q : Value → Shared → Prop), AOk A k → St C fi f σ P μ ρ s.heap →
    (∀ v h' tk P' μ', PLe P P' → St C fi f σ' P' μ' ρ' h' → Rep P' v d → Q v { s with heap := h', toks := tk }) → wpAny (model C.prog C.w) A (eval e f.env) Q E s
theorem St.box {f : Frm} {P : PH} {μ : Str → Option Value} {h h' : Heap} {x : Str} {ds ds' : List PyData} {a : Addr} {us : List Value} {m : Nat} (s : St C fi f σ P μ ρ h) (hx : ρ.lookup x = some (.box ds)) (hv : μ x = some (.ref a)) (hs : Heap.SameBut a h h') (hl : h'.get? a = some (lstO us m)) (r : Reps P us ds') : St C fi f σ P μ ((x, .box ds') :: ρ) h' := by
  obtain ⟨kx, v, hv', B, vs, n, rfl, hB, _, nP, nS, nF⟩ := s.vars x _ hx
  rw [hv] at hv'; cases hv'
  obtain ⟨b', fr'⟩ := poke s.B s.fr nP nF nS hs
  obtain ⟨m₀, hn, hm⟩ := s.ns
  obtain ⟨oL, es, ep, eL, dL⟩ := s.L_dict
  have nL : f.env.locals ≠ a := by rintro e; rw [← e, eL] at hB; cases hB; cases dL
  refine ⟨b', s.sc, s.fnk, s.glob, s.blt, ⟨m₀, hn.sameBut hs nL, hm⟩, s.nsP, s.nsF, fun y c hc => ?_, s.capart, s.cown, fun y av hy => ?_, fun y z es fs w hy hz ey ez => ?_, fr'⟩
  · obtain ⟨g1, g2, g3⟩ := s.cell y c hc
    refine ⟨g1, g2, g3.sameBut hs ?_⟩
    rintro rfl
    obtain ⟨oc, hoc, hd⟩ := g3
    rw [hB] at hoc; cases hoc; cases hd
  · by_cases e : y = x
    · subst e
      rw [lookup_cons_eq] at hy
      cases hy
      exact ⟨kx, _, hv, a, us, m, rfl, hl, r, nP, nS, nF⟩
    · rw [lookup_cons_ne e] at hy
      obtain ⟨g1, w, g2, g3⟩ := s.vars y av hy
      refine ⟨g1, w, g2, ?_⟩
      cases av with
      | dat d => exact g3
      | src => exact g3
      | scr ns => exact g3
      | box es =>
        obtain ⟨B', vs', n', rfl, hl', r', x1, x2, x3⟩ := g3
        refine ⟨B', vs', n', rfl, (hs.2 B' ?_).trans hl', r', x1, x2, x3⟩
        rintro rfl
        exact e (s.boxes y x es ds _ hy hx g2 hv)
  · have step : ∀ y es, List.lookup y ((x, AV.box ds') :: ρ) = some (.box es) → ∃ es', ρ.lookup y = some (.box es') := by
      intro y es hy
      by_cases e : y = x
      · subst e; exact ⟨ds, hx⟩
      · rw [lookup_cons_ne e] at hy; exact ⟨es, hy⟩
    obtain ⟨es', hy'⟩ := step y es hy
    obtain ⟨fs', hz'⟩ := step z fs hz
    exact s.boxes y z es' fs' w hy' hz' ey ez
theorem Reps.snoc {P : PH} {d : PyData} : ∀ {ds : List PyData} {vs : List Value}, Reps P vs (ds ++ [d]) → ∃ us v, vs = us ++ [v] ∧ Reps P us ds ∧ Rep P v d
  | [], _, .cons a .nil => ⟨[], _, rfl, .nil, a⟩
  | _ :: ds, _, .cons a b => by
    obtain ⟨us, v, rfl, x, y⟩ := Reps.snoc (ds := ds) b
    exact ⟨_ :: us, v, rfl, .cons a x, y⟩
theorem EvS.append {x : Str} {p apos pos : Pos} {e : Expr} {ds : List PyData} {d : PyData} (hx : ρ.lookup x = some (.box ds)) (he : Ev C k fi ρ σ e (.dat d) σ₁) (hn : ds.length ≤ 100000) (hs : noStar e = true := by rfl) (hl : (apos.endLine == pos.line) = true := by rfl) (hd : (x == ("__debug__" : Str)) = false := by decide) (hc : (x == ("__classdict__" : Str)) = false := by decide) :
    EvS C k fi ρ σ (.Call (.Attribute (.Name x p) (Str.ofString "append") apos) [e] [] pos) .none ((x, .box (ds ++ [d])) :: ρ) σ₁ := .mk <| fun f A s P μ E Q hA hS q => by
  obtain ⟨kx, v, hv, a, vs, n, rfl, ha, _⟩ := hS.vars x _ hx
  refine Call_method1 rfl (by rw [starEach_cons hs]; rfl) hl (loadVar hS kx hv hd hc ?_)
  refine ⟨"list", "list.append", PySem.F.plainAttrs_list, PySem.F.slot_list_append, PySem.F.type_list_append, ⟨_, ha, rfl⟩, fun b eb => by cases eb; exact ⟨_, ha, rfl⟩, ?_⟩
  refine _root_.PySem.P.append_list (he.run f A s P μ E _ hA hS fun w h' tk P' c b r => ?_)
  have hS' := hS.after c b
  obtain ⟨_, v', hv', a', vs', n', rfl, ha', r', _⟩ := hS'.vars x _ hx
  rw [hv] at hv'; cases hv'
  refine ⟨vs'.toArray, n', by rw [List.size_toArray, r'.length, sizeLine_eq]; omega, ha', ?_⟩
  have hu := PySem.IsL.update (h := h') (l := a) (items := vs'.toArray) (n := n') ha' (fun xs => xs.push w)
  have e : vs'.toArray.push w = (vs' ++ [w]).toArray := by simp
  rw [e] at hu
  exact q _ _ tk P' μ c.le (hS'.box (us := vs' ++ [w]) hx hv (Heap.SameBut.update ..) hu (r'.app (.cons r .nil))) .none
theorem EvS.extend {x : Str} {p apos pos : Pos} {e : Expr} {ds es : List PyData} (hx : ρ.lookup x = some (.box ds)) (he : Ev C k fi ρ σ e (.dat (.list es)) σ₁) (hn : ds.length + es.length ≤ 100000) (hs : noStar e = true := by rfl) (hl : (apos.endLine == pos.line) = true := by rfl) (hd : (x == ("__debug__" : Str)) = false := by decide) (hc : (x == ("__classdict__" : Str)) = false := by decide) :
    EvS C k fi ρ σ (.Call (.Attribute (.Name x p) (Str.ofString "extend") apos) [e] [] pos) .none ((x, .box (ds ++ es)) :: ρ) σ₁ := .mk <| fun f A s P μ E Q hA hS q => by
  obtain ⟨kx, v, hv, a, vs, n, rfl, ha, _⟩ := hS.vars x _ hx
  refine Call_method1 rfl (by rw [starEach_cons hs]; rfl) hl (loadVar hS kx hv hd hc ?_)
  refine ⟨"list", "list.extend", PySem.F.plainAttrs_list, PySem.F.slot_list_extend, PySem.F.type_list_extend, ⟨_, ha, rfl⟩, fun b eb => by cases eb; exact ⟨_, ha, rfl⟩, ?_⟩
  refine _root_.PySem.P.extend_list (he.run f A s P μ E _ hA hS fun w h' tk P' c b r => ?_)
  have hS' := hS.after c b
  obtain ⟨_, v', hv', a', vs', n', rfl, ha', r', _⟩ := hS'.vars x _ hx
  rw [hv] at hv'; cases hv'
  cases r with
  | lst hp rs =>
  rename_i a₂ us m
  have e1 := r'.length
  have e2 := rs.length
  refine ⟨a₂, vs'.toArray, us.toArray, n', m, by rw [List.size_toArray, sizeLine_eq]; omega, by rw [List.size_toArray, List.size_toArray, sizeLine_eq]; omega, ?_, rfl, ha', b.stay _ _ hp, ?_⟩
  · have : Builtin.List.listTooLong (vs'.toArray.size + us.toArray.size) = false := by
      unfold Builtin.List.listTooLong
      simp [sizeLine_eq]
      omega
    rw [this]; simp
  · have hu := PySem.IsL.update (h := h') (l := a) (items := vs'.toArray) (n := n') ha' (fun xs => xs ++ us.toArray)
    have e : vs'.toArray ++ us.toArray = (vs' ++ us).toArray := by simp
    rw [e] at hu
    exact q _ _ tk P' μ c.le (hS'.box (us := vs' ++ us) hx hv (Heap.SameBut.update ..) hu (r'.app rs)) .none
theorem eraseE (ys : List Value) (k : Nat) : ys.toArray.eraseIdxIfInBounds k = (ys.eraseIdx k).toArray := by simp
theorem EvS.pop {x : Str} {p apos pos : Pos} {ds : List PyData} {d : PyData} (hx : ρ.lookup x = some (.box (ds ++ [d]))) (hn : ds.length ≤ 100000) (hl : (apos.endLine == pos.line) = true := by rfl) (hd : (x == ("__debug__" : Str)) = false := by decide) (hc : (x == ("__classdict__" : Str)) = false := by decide) :
    EvS C k fi ρ σ (.Call (.Attribute (.Name x p) (Str.ofString "pop") apos) [] [] pos) d ((x, .box ds) :: ρ) σ := .mk <| fun f A s P μ E Q hA hS q => by
  obtain ⟨kx, v, hv, a, vs, n, rfl, ha, r, _⟩ := hS.vars x _ hx
  refine Call_method0 rfl hl (loadVar hS kx hv hd hc ?_)
  refine ⟨"list", "list.pop", PySem.F.plainAttrs_list, PySem.F.slot_list_pop, PySem.F.type_list_pop, ⟨_, ha, rfl⟩, fun b eb => by cases eb; exact ⟨_, ha, rfl⟩, ?_⟩
  obtain ⟨us, w, rfl, rs, rw'⟩ := r.snoc
  have e1 := rs.length
  refine _root_.PySem.P.pop_list (items := (us ++ [w]).toArray) (n := n) (y := w) ha (by simp) ?_ (by rw [List.size_toArray, List.length_append, sizeLine_eq]; simp; omega)
  have hu := PySem.IsL.update (h := s.heap) (l := a) (items := (us ++ [w]).toArray) (n := n) ha (fun xs => xs.eraseIdxIfInBounds ((us ++ [w]).toArray.size - 1))
  have e : (us ++ [w]).toArray.eraseIdxIfInBounds ((us ++ [w]).toArray.size - 1) = us.toArray := by
    have e0 : (us ++ [w]).toArray.size - 1 = us.length := by simp
    rw [e0, eraseE, List.eraseIdx_append_of_length_le (Nat.le_refl _)]; simp
  rw [e] at hu
  exact q _ _ s.toks P μ (PLe.refl P) (hS.box (us := us) hx hv (Heap.SameBut.update ..) hu rs) rw'
theorem Sx1.exprS {e : Expr} {pos : Pos} (he : EvS C k fi ρ σ e .none ρ₁ σ₁) (hi : ∀ env : Env, env.scope = fi.sc → interactive env = false) (hs : ∀ env, swapsWith e none pos.line env = pure false := by intro _; rfl) : Sx1 C k fi ρ σ (.Expr e pos) (.next ρ₁ σ₁) := .mk <| fun f A s P μ E _ hA hS q =>
  wpAny_Expr (he.run f A s P μ E _ hA hS fun v h' tk P' μ' k' hS' r => by cases r; exact q h' tk P' μ' k' hS') (hi f.env hS.sc) (hs f.env)
theorem Sx1.unpackS {elts : List Expr} {kd : Nat} {tpos pos : Pos} {value : Expr} {ds : List PyData} (xs : List (Str × Pos)) (he : EvS C k fi ρ σ value (.tuple ds) ρ₁ σ₁) (hx : ∀ env, assignEach elts env = xs.map fun x => (false, PySem.assign (.Name x.1 x.2) env)) (hl : xs.length = ds.length) (hk : ∀ x ∈ xs.map (·.1), Storable fi x)
    (hs : ∀ env, swapsWithSole [.Tuple elts kd tpos] value pos.line env = pure false) (hw : ∀ env : Env, env.scope = fi.sc → swappedStores [.Tuple elts kd tpos] value env = pure none) :
    Sx1 C k fi ρ σ (.Assign [.Tuple elts kd tpos] value pos) (.next (((xs.map (·.1)).zip (ds.map .dat)).reverse ++ ρ₁) σ₁) := .mk <| fun f A s P μ E Q hA hS q =>
  Assign_Tuple (he.run f A s P μ E _ hA hS fun t h' tk P' μ' k' hS' r => by
    cases r with
    | tup ht rs =>
    rename_i t vs n
    have hlen : vs.length = (ds.map AV.dat).length := by rw [List.length_map, rs.length]
    have itp : IsTup h' t vs.toArray := ⟨_, hS'.B.stay _ _ ht, rfl, n, rfl⟩
    refine assign_Tuple_tuple hA.1 itp (by rw [hx]; simp [hl, rs.length]) (by rw [hx]; exact noStars xs) fun h'' he => ?_
    have e : (assignEach elts f.env).map (·.2) = xs.map fun x => PySem.assign (.Name x.1 x.2) f.env := by rw [hx, List.map_map]; rfl
    rw [e, List.toList_toArray]
    have ext : ∀ b o, h'.get? b = some o → h''.get? b = some o := fun b o e => he b o (Nat.ne_of_lt (Heap.lt_size e)) e
    have := itemsGo (C := C) (s := { s with heap := h', toks := tk }) (tk := tk) (Q := fun _ s' => Q .next s') (A := A) (E := E) (xs := xs.map (·.1)) (ts := xs.map fun x => PySem.assign (.Name x.1 x.2) f.env) hS' (CStep.refl ..) hS'.B ext (Items.dats rs) (by simp [hl, rs.length]) (by simp) (fun i x t hx ht => ?_) hk fun h₃ tk μ'' hS'' => q h₃ tk P' μ'' k' (by rw [zip_snd hlen] at hS''; exact hS'')
    · rw [zip_fst hlen] at this; exact this
    · simp only [List.getElem?_map, Option.map_eq_some_iff] at hx ht
      obtain ⟨y, hy, rfl⟩ := hx
      obtain ⟨z, hz, rfl⟩ := ht
      rw [hy] at hz; cases hz
      exact storesTo_assign _ _ _) (hs f.env) (hw f.env hS.sc)
end
-- MStmt3
section
variable {C : Cx} {k : Nat} {fi : Fi} {ρ ρ' ρ₁ ρ₂ : Loc} {σ σ₁ σ₂ σ₃ : Int × Int}
theorem St.sub {f : Frm} {P : PH} {μ : Str → Option Value} {h : Heap} (s : St C fi f σ P μ ρ h) (k : ∀ x av, ρ'.lookup x = some av → ρ.lookup x = some av) : St C fi f σ P μ ρ' h :=
  ⟨s.B, s.sc, s.fnk, s.glob, s.blt, s.ns, s.nsP, s.nsF, s.cell, s.capart, s.cown, fun x av e => s.vars x av (k x av e), fun x y ds es v hx hy => s.boxes x y ds es v (k _ _ hx) (k _ _ hy), s.fr⟩
noncomputable def Sub (ρ' ρ : Loc) : Prop := ∀ x av, ρ'.lookup x = some av → ρ.lookup x = some av
theorem Sub.nil : Sub [] ρ := fun _ _ e => by cases e
theorem Sub.cons {x : Str} {av : AV} (h : ρ.lookup x = some av) (r : Sub ρ' ρ) : Sub ((x, av) :: ρ') ρ := fun y a e => by
  by_cases q : y = x
  · subst q; rw [lookup_cons_eq] at e; cases e; exact h
  · rw [lookup_cons_ne q] at e; exact r y a e
theorem Sx.sub {ss : List Stmt} {o : Out} (k' : Sub ρ' ρ) (h : Sx C k fi ρ' σ ss o) : Sx C k fi ρ σ ss o := .mk <| fun f A s P μ E Q hA hS q => h.run f A s P μ E Q hA (hS.sub k') q
theorem St.freeze {f : Frm} {P : PH} {μ : Str → Option Value} {h : Heap} {x : Str} {ds : List PyData} (s : St C fi f σ P μ ρ h) (hx : ρ.lookup x = some (.box ds)) : ∃ P', PLe P P' ∧ St C fi f σ P' μ ((x, .dat (.list ds)) :: ρ) h := by
  obtain ⟨kx, v, hv, a, us, m, rfl, hl, r, nP, nS, nF⟩ := s.vars x _ hx
  have le := PH.le_add (o := lstO us m) nP
  obtain ⟨oL, es, ep, eL, dL⟩ := s.L_dict
  have nL : f.env.locals ≠ a := by rintro e; rw [← e, eL] at hl; cases hl; cases dL
  have off : ∀ {b : Addr}, b ≠ a → P b = none → P.add a (lstO us m) b = none := fun n e => by unfold PH.add; rw [if_neg n]; exact e
  refine ⟨P.add a (lstO us m), le, ⟨s.B.add nP (fun o e => nS o e.symm) hl, s.sc, s.fnk, s.glob, s.blt, s.ns, off nL s.nsP, s.nsF, fun y c hc => ?_, s.capart, s.cown, fun y av hy => ?_, fun y z es fs w hy hz ey ez => ?_, ?_⟩⟩
  · obtain ⟨g1, g2, g3⟩ := s.cell y c hc
    refine ⟨off ?_ g1, g2, g3⟩
    rintro rfl
    obtain ⟨oc, hoc, hd⟩ := g3
    rw [hl] at hoc; cases hoc; cases hd
  · by_cases e : y = x
    · subst e
      rw [lookup_cons_eq] at hy
      cases hy
      exact ⟨kx, _, hv, .lst (n := m) PH.add_self (Reps.mono le r)⟩
    · rw [lookup_cons_ne e] at hy
      obtain ⟨g1, w, g2, g3⟩ := s.vars y av hy
      refine ⟨g1, w, g2, ?_⟩
      cases av with
      | dat d => exact Rep.mono le g3
      | src => exact g3
      | scr ns => exact g3
      | box es =>
        obtain ⟨B', vs', n', rfl, hl', r', x1, x2, x3⟩ := g3
        refine ⟨B', vs', n', rfl, hl', Reps.mono le r', off ?_ x1, x2, x3⟩
        rintro rfl
        exact e (s.boxes y x es ds _ hy hx g2 hv)
  · have step : ∀ y es, List.lookup y ((x, AV.dat (.list ds)) :: ρ) = some (.box es) → ρ.lookup y = some (.box es) := by
      intro y es hy
      by_cases e : y = x
      · subst e; rw [lookup_cons_eq] at hy; cases hy
      · rw [lookup_cons_ne e] at hy; exact hy
    exact s.boxes y z es fs w (step y es hy) (step z fs hz) ey ez
  · refine ⟨s.fr.le.trans le, fun b p e => ?_, s.fr.keep, s.fr.dom⟩
    unfold PH.add at e
    split at e
    · rename_i q; subst q; exact .inr nF
    · exact s.fr.fresh b p e
theorem Sx.freeze {x : Str} {ss : List Stmt} {o : Out} {ds : List PyData} (hx : ρ.lookup x = some (.box ds)) (h : Sx C k fi ((x, .dat (.list ds)) :: ρ) σ ss o) : Sx C k fi ρ σ ss o := .mk <| fun f A s P μ E Q hA hS q => by
  obtain ⟨P', le, hS'⟩ := hS.freeze hx
  exact h.run f A s P' μ E Q hA hS' (q.mono (h := s.heap) (tk := s.toks) le)
theorem put_list {prog : Program} {w : World} {A : Around} {E : Value → Shared → Prop} {s : Shared} {l : Addr} {vs : List Value} {n : Nat} {k : Int} {j : Nat} {t : Tok} {v : Value} {Q : Unit → Shared → Prop} (ho : s.heap.get? l = some (lstO vs n)) (hf : Builtin.List.listFitsIndex k = true) (hk : seqIndex? k vs.length = some j) (hj : j < vs.length)
    (hQ : Q () { s with heap := s.heap.update l (Obj.mapSeq (·.setIfInBounds j v)) }) : wpAny (model prog w) A (setItem (.ref l) (.int k t) v) Q E s := by
  have hT : s.TypeIs (.ref l) "list" := ⟨_, ho, rfl⟩
  have hx : vs.toArray[j]? = some vs[j] := by simp [hj]
  have hk' : seqIndex? k vs.toArray.size = some j := by simpa using hk
  unfold setItem
  try with_reducible refine wpAny_holding ?_
  first | refine wpAny_bind (wpAny_pure ?_) | skip
  refine wpAny_bind (wpAny_sequenceKey hT (by decide) ?_)
  refine wpAny_bind (wpAny_callSpecial?_slot (name := Str.ofString "__setitem__") hT slot_list_setitem (wpAny_call_entry slot_list_setitem hT entry_list_setitem ?_ (args_list_setitem _ _ _)))
  show wpAny _ _ (Builtin.List.listSubscript? (.int k t) >>= _) _ _ s
  refine wpAny_bind (wpAny_listSubscript_int hf ?_)
  cases k with
  | ofNat i =>
    have e : i = j := by
      unfold seqIndex? at hk
      simp at hk
      omega
    subst e
    show wpAny _ _ ((seqItemAt l i >>= fun r => pure (r.map (i, ·))) >>= _) _ _ s
    refine wpAny_bind (wpAny_bind (wpAny_seqItemAt ho rfl (wpAny_pure ?_)))
    rw [hx]
    show wpAny _ _ (setSeqItemAt l i v >>= _) _ _ s
    refine wpAny_bind (wpAny_setSeqItemAt ho rfl ?_)
    first
      | exact wpAny_bind (wpAny_pure (wpAny_pure ⟨.none, rfl, wpAny_pure hQ⟩))
      | exact wpAny_pure ⟨.none, rfl, wpAny_pure hQ⟩
  | negSucc i =>
    show wpAny _ _ ((Builtin.List.listItems (.ref l) >>= fun xs => pure ((seqIndex? (Int.negSucc i) xs.size).bind fun i => xs[i]?.map (i, ·))) >>= _) _ _ s
    refine wpAny_bind (wpAny_bind ?_)
    show wpAny _ _ (seqItems? (.ref l) >>= _) _ _ s
    refine wpAny_bind (wpAny_seqItems ho rfl (wpAny_pure (wpAny_pure ?_)))
    rw [hk']
    simp only [Option.bind_some, hx, Option.map_some]
    show wpAny _ _ (setSeqItemAt l j v >>= _) _ _ s
    refine wpAny_bind (wpAny_setSeqItemAt ho rfl ?_)
    first
      | exact wpAny_bind (wpAny_pure (wpAny_pure ⟨.none, rfl, wpAny_pure hQ⟩))
      | exact wpAny_pure ⟨.none, rfl, wpAny_pure hQ⟩
theorem Sx1.setSrc {o i value : Expr} {pos' pos : Pos} {j x : Int} (hv : Ev C k fi ρ σ value (.dat (.int x)) σ₁) (ho : Ev C k fi ρ σ₁ o .src σ₁) (hi : Ev C k fi ρ σ₁ i (.dat (.int j)) σ₁) (hj : (j = 0 ∧ σ₂ = (x, σ₁.2)) ∨ (j = 1 ∧ σ₂ = (σ₁.1, x)))
    (hs : ∀ env, swapsWith value (some (.Subscript o i pos')) pos.line env = pure false := by intro _; rfl) : Sx1 C k fi ρ σ (.Assign [.Subscript o i pos'] value pos) (.next ρ σ₂) := .mk <| fun f A s P μ E _ hA hS q =>
  wpAny_Assign_Subscript (hv.run f A s P μ E _ hA hS fun v h₁ t₁ P₁ c₁ b₁ r₁ => ho.run f A { s with heap := h₁, toks := t₁ } P₁ μ E _ hA (hS.after c₁ b₁) fun ov h₂ t₂ P₂ c₂ b₂ r₂ => hi.run f A { s with heap := h₂, toks := t₂ } P₂ μ E _ hA ((hS.after c₁ b₁).after c₂ b₂) fun iv h₃ t₃ P₃ c₃ b₃ r₃ => by
    cases r₁
    cases r₃
    rename_i tx tj
    obtain ⟨on, rfl⟩ := r₂
    have hS₃ := ((hS.after c₁ b₁).after c₂ b₂).after c₃ b₃
    obtain ⟨nP, ta, tb, n, hl⟩ := b₃.src on
    have hj0 : 0 ≤ j ∧ j < 2 := by rcases hj with h | h <;> omega
    refine put_list hl (fitsIndex_of hj0.1 (by omega)) (PyProof.Rows.seqIndex_at hj0.1 (by simp only [List.length_cons, List.length_nil]; omega)) (by simp only [List.length_cons, List.length_nil]; omega) ?_
    have hs := Heap.SameBut.update h₃ C.S (Obj.mapSeq fun xs => xs.setIfInBounds j.toNat (.int x tx))
    have hu := PySem.IsL.update (h := h₃) (l := C.S) hl (fun xs => xs.setIfInBounds j.toNat (.int x tx))
    refine q _ t₃ P₃ μ ((c₁.le.trans c₂.le).trans c₃.le) (hS₃.after ⟨PLe.refl _, fun _ _ e => .inl e, fun a o n e => (hs.2 a (n on)).trans e, fun a o e => ?_⟩ ⟨fun a o e => (hs.2 a ?_).trans (b₃.stay a o e), b₃.base, fun _ => ⟨nP, ?_⟩⟩)
    · by_cases h : a = C.S
      · subst h; exact ⟨_, hu⟩
      · exact ⟨o, (hs.2 a h).trans e⟩
    · rintro rfl; rw [nP] at e; cases e
    · rcases hj with ⟨rfl, rfl⟩ | ⟨rfl, rfl⟩
      · exact ⟨_, _, _, hu⟩
      · exact ⟨_, _, _, hu⟩) (hs f.env)
theorem Sx1.setLast {x : Str} {p pos' pos : Pos} {i value : Expr} {ds : List PyData} {d₀ d : PyData} (hv : Ev C k fi ρ σ value (.dat d) σ₁) (hx : ρ.lookup x = some (.box (ds ++ [d₀]))) (hi : Ev C k fi ρ σ₁ i (.dat (.int (-1))) σ₁) (hn : ds.length ≤ 100000)
    (hd : (x == ("__debug__" : Str)) = false := by decide) (hc : (x == ("__classdict__" : Str)) = false := by decide)
    (hs : ∀ env, swapsWith value (some (.Subscript (.Name x p) i pos')) pos.line env = pure false := by intro _; rfl) : Sx1 C k fi ρ σ (.Assign [.Subscript (.Name x p) i pos'] value pos) (.next ((x, .box (ds ++ [d])) :: ρ) σ₁) := .mk <| fun f A s P μ E _ hA hS q =>
  wpAny_Assign_Subscript (hv.run f A s P μ E _ hA hS fun v h₁ t₁ P₁ c₁ b₁ r₁ => by
    have hS₁ := hS.after c₁ b₁
    obtain ⟨kx, w, hw, a, us, n, rfl, ha, rs, _⟩ := hS₁.vars x _ hx
    refine loadVar hS₁ kx hw hd hc (hi.run f A { s with heap := h₁, toks := t₁ } P₁ μ E _ hA hS₁ fun iv h₂ t₂ P₂ c₂ b₂ r₂ => ?_)
    cases r₂
    have hS₂ := hS₁.after c₂ b₂
    obtain ⟨_, w', hw', a', us', n', rfl, ha', rs', _⟩ := hS₂.vars x _ hx
    rw [hw] at hw'; cases hw'
    obtain ⟨vs, v₀, rfl, rvs, _⟩ := rs'.snoc
    have e1 := rvs.length
    refine put_list (vs := vs ++ [v₀]) ha' (by decide) (PyProof.Rows.seqIndex_back (by decide) (by simp; omega)) (by simp; omega) ?_
    have hu := PySem.IsL.update (h := h₂) (l := a) (items := (vs ++ [v₀]).toArray) ha' (fun xs => xs.setIfInBounds ((-1 : Int) + ((vs ++ [v₀]).length : Int)).toNat v)
    have e0 : ((-1 : Int) + ((vs ++ [v₀]).length : Int)).toNat = vs.length := by simp; omega
    have e : (vs ++ [v₀]).toArray.setIfInBounds ((-1 : Int) + ((vs ++ [v₀]).length : Int)).toNat v = (vs ++ [v]).toArray := by
      rw [e0]; simp
    rw [e] at hu
    exact q _ t₂ P₂ μ (c₁.le.trans c₂.le) (hS₂.box (us := vs ++ [v]) hx hw (Heap.SameBut.update ..) hu (rvs.app (.cons (Rep.mono c₂.le r₁) .nil)))) (hs f.env)
structure Wh (C : Cx) (k : Nat) (fi : Fi) (ρ : Loc) (σ : Int × Int) (test : Expr) (body : List Stmt) (o : Out) : Prop where
  run : ∀ (f : Frm) (A : Around) (s : Shared) (P : PH) (μ : Str → Option Value) (E : Value → Shared → Prop) (Q : Flow → Shared → Prop), AOk A k → St C fi f σ P μ ρ s.heap → Ends C fi f P Q s o →
    codeAny (model C.prog C.w) A (.whileLoop test body [] f.env) (fun r s' => match r with | .ok g => Q g s' | .error e => E e s') s
theorem Wh.done {test : Expr} {body : List Stmt} (ht : Ts C k fi ρ σ test false σ₁) : Wh C k fi ρ σ test body (.next ρ σ₁) := .mk <| fun f A s P μ E Q hA hS q => by
  refine codeAny_of_tree ?_
  show wpAny _ A ((whileTurn test body [] f.env).onRaise (fun x => do noteFrame x f.env; theTreesLotGoes x)) _ _ s
  refine wpAny_noted ?_
  simp only [whileTurn]
  refine wpAny_bind (ht.run f A s P μ _ _ hA hS fun h' tk P' c b => ?_)
  simp only [Bool.false_eq_true, if_false]
  exact wpAny_bind (wpAny_execs_nil (wpAny_pure (q h' tk P' μ c.le (hS.after c b))))
theorem Wh.turn {test : Expr} {body : List Stmt} {o : Out} (ht : Ts C k fi ρ σ test true σ₁) (hb : Sx C k fi ρ σ₁ body (.next ρ₂ σ₂)) (hr : Wh C k fi ρ₂ σ₂ test body o) : Wh C k fi ρ σ test body o := .mk <| fun f A s P μ E Q hA hS q => by
  refine codeAny_of_tree ?_
  show wpAny _ A ((whileTurn test body [] f.env).onRaise (fun x => do noteFrame x f.env; theTreesLotGoes x)) _ _ s
  refine wpAny_noted ?_
  simp only [whileTurn]
  refine wpAny_bind (ht.run f A s P μ _ _ hA hS fun h' tk P' c b => ?_)
  simp only [if_true]
  refine wpAny_bind (hb.run f A { s with heap := h', toks := tk } P' μ _ _ hA (hS.after c b) fun h'' tk' P'' μ' k' hS' => wpAny_pure ⟨rfl, ?_⟩)
  exact hr.run f A { s with heap := h'', toks := tk' } P'' μ' E Q hA hS' (q.mono (c.le.trans k'))
theorem Wh.sub {test : Expr} {body : List Stmt} {o : Out} (k' : Sub ρ' ρ) (h : Wh C k fi ρ' σ test body o) : Wh C k fi ρ σ test body o := .mk <| fun f A s P μ E Q hA hS q => h.run f A s P μ E Q hA (hS.sub k') q
theorem Sx1.while {test : Expr} {body : List Stmt} {pos : Pos} {o : Out} (h : Wh C k fi ρ σ test body o) : Sx1 C k fi ρ σ (.While test body [] pos) o := .mk <| fun f A s P μ E Q hA hS q =>
  wpAny_While (h.run f A s P μ _ Q hA hS q)
end
-- MComp
inductive Tgt where
  | name (x : Str)
  | pair (x y : Str)
noncomputable def Tgt.binds : Tgt → PyData → Option Loc
  | .name x, d => some [(x, .dat d)]
  | .pair x y, .tuple [a, b] => some [(y, .dat b), (x, .dat a)]
  | _, _ => none
noncomputable def Tgt.names : Tgt → List Str
  | .name x => [x]
  | .pair x y => [x, y]
inductive TgtE : Tgt → Expr → Prop
  | name {x : Str} {p : Pos} : TgtE (.name x) (.Name x p)
  | pair {x y : Str} {p q pos : Pos} {kd : Nat} : TgtE (.pair x y) (.Tuple [.Name x p, .Name y q] kd pos)
section
variable {C : Cx} {k : Nat} {fi : Fi} {ρ ρ' ρ₁ ρ₂ : Loc} {σ σ₁ σ₂ σ₃ : Int × Int}
noncomputable def Apart (env : Env) (xs : List Str) (a : Addr) : Prop := a ≠ env.locals ∧ ∀ x ∈ xs, ∀ c, env.cells.lookup x = some c → a ≠ c
theorem assignTgt {f : Frm} {P : PH} {μ : Str → Option Value} {s : Shared} {A : Around} {E : Value → Shared → Prop} {Q : Unit → Shared → Prop} {t : Tgt} {te : Expr} {b : Loc} {v : Value} {d : PyData} (ht : TgtE t te) (hb : t.binds d = some b) (hA : AOk A k) (hS : St C fi f σ P μ ρ s.heap) (hk : ∀ x ∈ t.names, Storable fi x) (r : Rep P v d)
    (q : ∀ h' tk μ', St C fi f σ P μ' (b ++ ρ) h' → (∀ a o, Apart f.env t.names a → s.heap.get? a = some o → h'.get? a = some o) → Q () { s with heap := h', toks := tk }) : wpAny (model C.prog C.w) A (assign te f.env v) Q E s := by
  have nb : ∀ {v : Value} {d : PyData} {P : PH} {h : Heap} {μ : Str → Option Value} {ρ : Loc} {x : Str}, Rep P v d → NewOk C f P h μ ρ x v (.dat d) := fun {v d P h μ ρ x} r => ⟨(show VOk C f P h v (.dat d) from r), fun _ e => by cases e⟩
  cases ht with
  | name =>
    cases hb
    refine wpAny_assign_Name (storeVar hS (hk _ (.head _)) (nb r) fun h' tk hS' keep => q h' tk _ hS' fun a o n e => keep a o n.1 (fun c hc => n.2 _ (.head _) c hc) e)
  | pair =>
    rename_i x y p p' pos kd
    match d, hb with
    | .tuple [d₁, d₂], hb =>
      cases hb
      cases r with
      | tup hp rs =>
      cases rs with
      | cons r₁ rs =>
      cases rs with
      | cons r₂ rs =>
      cases rs
      rename_i tt n v₁ v₂
      have itp : IsTup s.heap tt #[v₁, v₂] := ⟨_, hS.B.stay _ _ hp, rfl, n, rfl⟩
      refine assign_Tuple_tuple hA.1 itp rfl rfl fun h'' he => ?_
      have ext : ∀ b o, s.heap.get? b = some o → h''.get? b = some o := fun b o e => he b o (Nat.ne_of_lt (Heap.lt_size e)) e
      have hS' := hS.after (CStep.ext ext) (hS.B.ext ext)
      show wpAny _ A (holding [v₂] (assign (.Name x p) f.env v₁) >>= fun _ => (holding [] (assign (.Name y p') f.env v₂) >>= fun _ => assignInOrder [] [])) Q E _
      refine wpAny_bind (wpAny_holding (wpAny_assign_Name (storeVar (s := { s with heap := h'' }) hS' (hk _ (.head _)) (nb r₁) fun h₁ t₁ S₁ k₁ => ?_)))
      refine wpAny_bind (wpAny_holding (wpAny_assign_Name (storeVar (s := { s with heap := h₁, toks := t₁ }) S₁ (hk _ (.tail _ (.head _))) (nb r₂) fun h₂ t₂ S₂ k₂ => ?_)))
      exact wpAny_pure (q h₂ t₂ _ S₂ fun a o n e => k₂ a o n.1 (fun c hc => n.2 _ (.tail _ (.head _)) c hc) (k₁ a o n.1 (fun c hc => n.2 _ (.head _) c hc) (ext a o e)))
structure Ifs (C : Cx) (k : Nat) (fi : Fi) (ρ : Loc) (σ : Int × Int) (ifs : List Expr) (b : Bool) (σ' : Int × Int) : Prop where
  run : ∀ (f : Frm) (A : Around) (s : Shared) (P : PH) (μ : Str → Option Value) (E : Value → Shared → Prop) (Q : Bool → Shared → Prop), AOk A k → St C fi f σ P μ ρ s.heap →
    (∀ h' tk P', CStep C P s.heap P' h' → Base C σ' P' h' → Q b { s with heap := h', toks := tk }) →
    wpAny (model C.prog C.w) A (forIn ifs true fun c r => if r = true then do let ok ← isTrue c f.env (eval c f.env); pure (ForInStep.yield ok) else pure (ForInStep.yield r)) Q E s
theorem Ifs.nil : Ifs C k fi ρ σ [] true σ := .mk <| fun _ _ s P _ _ _ _ hS q => wpAny_tests_nil (q s.heap s.toks P (CStep.refl ..) hS.B)
theorem Ifs.one {e : Expr} {b : Bool} (h : Ts C k fi ρ σ e b σ₁) : Ifs C k fi ρ σ [e] b σ₁ := .mk <| fun f A s P μ E Q hA hS q => wpAny_tests_one (h.run f A s P μ E Q hA hS q)
inductive Ct (C : Cx) (k : Nat) (fi : Fi) (ρ : Loc) (elt : Expr) (ifs : List Expr) (t : Tgt) : Int × Int → List PyData → List PyData → Int × Int → Prop
  | nil {σ : Int × Int} : Ct C k fi ρ elt ifs t σ [] [] σ
  | cons {σ σ₁ σ₂ σ₃ : Int × Int} {d y : PyData} {ds ys : List PyData} {b : Loc} (hb : t.binds d = some b) (hi : Ifs C k fi (b ++ ρ) σ ifs true σ₁) (he : Ev C k fi (b ++ ρ) σ₁ elt (.dat y) σ₂) (hr : Ct C k fi ρ elt ifs t σ₂ ds ys σ₃) : Ct C k fi ρ elt ifs t σ (d :: ds) (y :: ys) σ₃
  | skip {σ σ₁ σ₃ : Int × Int} {d : PyData} {ds ys : List PyData} {b : Loc} (hb : t.binds d = some b) (hi : Ifs C k fi (b ++ ρ) σ ifs false σ₁) (hr : Ct C k fi ρ elt ifs t σ₁ ds ys σ₃) : Ct C k fi ρ elt ifs t σ (d :: ds) ys σ₃
structure Iter (C : Cx) (A : Around) (te : Expr) (I : Addr) (fp wr : List Addr) (P₀ : PH) (ds : List PyData) (S : Nat → Heap → Prop) : Prop where
  sub : ∀ b ∈ wr, b ∈ fp
  frame : ∀ i h h', S i h → (∀ b ∈ fp, ∀ o, h.get? b = some o → h'.get? b = some o) → S i h'
  item : ∀ i d (s : Shared) (P : PH) (Q : Value → Shared → Prop) (E : Value → Shared → Prop), ds[i]? = some d → S i s.heap → PLe P₀ P → (∀ a o, P a = some o → s.heap.get? a = some o) → (∀ b ∈ wr, P b = none) →
    (∀ v h' tk P', Rep P' v d → PLe P P' → (∀ a o, P' a = some o → P a = some o ∨ s.heap.get? a = none) → (∀ a o, P' a = some o → h'.get? a = some o) → (∀ b ∈ wr, P' b = none) → S (i + 1) h' → (∀ b o, b ∉ wr → s.heap.get? b = some o → h'.get? b = some o) → Q v { s with heap := h', toks := tk }) →
    wpAny (model C.prog C.w) A (pyNext (.ref I)) (fun r s₁ => ∃ v, r = some v ∧ wpAny (model C.prog C.w) A (letOwnedTupleGo te (.ref I) v) (fun _ s₂ => Q v s₂) E s₁) E s
  live : ∀ i h, S i h → ∀ b ∈ wr, ∃ o, h.get? b = some o
  done : ∀ (s : Shared) (Q : Option Value → Shared → Prop) (E : Value → Shared → Prop), S ds.length s.heap → (∀ h' tk, (∀ b o, b ∉ wr → s.heap.get? b = some o → h'.get? b = some o) → Q none { s with heap := h', toks := tk }) → wpAny (model C.prog C.w) A (pyNext (.ref I)) Q E s
  self : ∀ i (s : Shared) (Q : Value → Shared → Prop) (E : Value → Shared → Prop), S i s.heap → Q (.ref I) s → wpAny (model C.prog C.w) A (pyIter (.ref I)) Q E s
noncomputable def NoBox (ρ : Loc) : Prop := ∀ x ds, ρ.lookup x ≠ some (.box ds)
theorem NoBox.binds {t : Tgt} {d : PyData} {b : Loc} (h : NoBox ρ) (hb : t.binds d = some b) : NoBox (b ++ ρ) := by
  have cons : ∀ {ρ : Loc} {x : Str} {d : PyData}, NoBox ρ → NoBox ((x, .dat d) :: ρ) := fun {ρ x d} h y ds e => by
    by_cases q : y = x
    · subst q; rw [lookup_cons_eq] at e; cases e
    · rw [lookup_cons_ne q] at e; exact h y ds e
  cases t with
  | name x => cases hb; exact cons h
  | pair x y =>
    match d, hb with
    | .tuple [d₁, d₂], hb => cases hb; exact cons (cons h)
theorem binds_sub {t : Tgt} {d : PyData} {b : Loc} (hb : t.binds d = some b) (hf : ∀ x ∈ t.names, ρ.lookup x = none) : Sub ρ (b ++ ρ) := fun y a e => by
  have cons : ∀ {ρ' : Loc} {x : Str} {d : PyData}, ρ.lookup x = none → ρ'.lookup y = some a → List.lookup y ((x, AV.dat d) :: ρ') = some a := fun {ρ' x d} n e' => by
    by_cases q : y = x
    · subst q; rw [n] at e; cases e
    · rw [lookup_cons_ne q]; exact e'
  cases t with
  | name x => cases hb; exact cons (hf _ (.head _)) e
  | pair x y' =>
    match d, hb with
    | .tuple [d₁, d₂], hb => cases hb; exact cons (hf _ (.tail _ (.head _))) (cons (hf _ (.head _)) e)
theorem VOk.noBox {f : Frm} {P P' : PH} {h h' : Heap} {v : Value} {av : AV} (n : isBox av = false) (k : PLe P P') (x : VOk C f P h v av) : VOk C f P' h' v av := by
  cases av with
  | dat d => exact Rep.mono k x
  | src => exact x
  | scr ns => exact x
  | box ds => cases n
theorem St.pull {f : Frm} {P P' : PH} {μ : Str → Option Value} {h h' : Heap} {wr : List Addr} (s : St C fi f σ P μ ρ h) (nb : NoBox ρ) (le : PLe P P') (fresh : ∀ a o, P' a = some o → P a = some o ∨ h.get? a = none) (stay : ∀ a o, P' a = some o → h'.get? a = some o) (keep : ∀ b o, b ∉ wr → h.get? b = some o → h'.get? b = some o)
    (wF : ∀ b ∈ wr, f.hs.get? b = none) (wL : f.env.locals ∉ wr) (wC : ∀ x c, f.env.cells.lookup x = some c → c ∉ wr) (wS : C.on = true → C.S ∉ wr) : St C fi f σ P' μ ρ h' := by
  have stillNone : ∀ a o, h.get? a = some o → P a = none → P' a = none := fun a o e n => by
    cases q : P' a with
    | none => rfl
    | some o' =>
      rcases fresh a o' q with q' | q'
      · rw [n] at q'; cases q'
      · rw [e] at q'; cases q'
  obtain ⟨m, hn, hm⟩ := s.ns
  obtain ⟨oL, es, ep, hL, hLd, hLk, hLf⟩ := id hn
  refine ⟨⟨stay, fun a o e => le a o (s.B.base a o e), fun q => ?_⟩, s.sc, s.fnk, s.glob, s.blt, ⟨m, ⟨oL, es, ep, keep _ _ wL hL, hLd, hLk, hLf⟩, hm⟩, stillNone _ _ hL s.nsP, s.nsF, fun x c hc => ?_, s.capart, s.cown, fun x av hx => ?_, s.boxes, ?_⟩
  · obtain ⟨x, ta, tb, n, l⟩ := s.B.src q
    exact ⟨stillNone _ _ l x, ta, tb, n, keep _ _ (wS q) l⟩
  · obtain ⟨h1, h2, oc, hoc, hd⟩ := s.cell x c hc
    exact ⟨stillNone _ _ hoc h1, h2, oc, keep _ _ (wC x c hc) hoc, hd⟩
  · obtain ⟨h1, v, h2, h3⟩ := s.vars x av hx
    refine ⟨h1, v, h2, h3.noBox ?_ le⟩
    cases av with
    | box ds => exact absurd hx (nb x ds)
    | _ => rfl
  · refine ⟨s.fr.le.trans le, fun a o e => ?_, fun a o n e => ?_, fun a o e => ?_⟩
    · rcases fresh a o e with e | e
      · exact s.fr.fresh a o e
      · refine .inr ?_
        cases q : f.hs.get? a with
        | none => rfl
        | some o' => obtain ⟨o'', q'⟩ := s.fr.dom a o' q; rw [e] at q'; cases q'
    · exact keep a o (fun hw => by rw [wF a hw] at e; cases e) (s.fr.keep a o n e)
    · obtain ⟨o', e'⟩ := s.fr.dom a o e
      exact ⟨o', keep a o' (fun hw => by rw [wF a hw] at e; cases e) e'⟩
theorem St.poke {f : Frm} {P : PH} {μ : Str → Option Value} {h h' : Heap} {D : Addr} (s : St C fi f σ P μ ρ h) (nb : NoBox ρ) (hs : Heap.SameBut D h h') (nP : P D = none) (nF : f.hs.get? D = none) (nS : C.on = true → C.S ≠ D) (nL : f.env.locals ≠ D) (nC : ∀ x c, f.env.cells.lookup x = some c → c ≠ D) : St C fi f σ P μ ρ h' := by
  obtain ⟨b', fr'⟩ := Mine.poke s.B s.fr nP nF nS hs
  obtain ⟨m, hn, hm⟩ := s.ns
  refine ⟨b', s.sc, s.fnk, s.glob, s.blt, ⟨m, hn.sameBut hs nL, hm⟩, s.nsP, s.nsF, fun x c hc => ?_, s.capart, s.cown, fun x av hx => ?_, s.boxes, fr'⟩
  · obtain ⟨h1, h2, h3⟩ := s.cell x c hc
    exact ⟨h1, h2, h3.sameBut hs (nC x c hc)⟩
  · obtain ⟨h1, v, h2, h3⟩ := s.vars x av hx
    refine ⟨h1, v, h2, h3.noBox ?_ (PLe.refl P)⟩
    cases av with
    | box ds => exact absurd hx (nb x ds)
    | _ => rfl
theorem compLoop_turn {prog : Program} {w : World} {A : Around} {R : Result → Shared → Prop} {s : Shared} {elt target iter : Expr} {ifs : List Expr} {scope : Scope} {pos : Pos} {it acc : Value} {env : Env}
    (h : wpAny (model prog w) A (pyNext it) (fun r s₁ => match r with
      | none => R (.ok .next) s₁
      | some v => wpAny (model prog w) A (letOwnedTupleGo target it v) (fun _ s₁' => wpAny (model prog w) A (assign target env v) (fun _ s₂ =>
          wpAny (model prog w) A (forIn ifs true fun c r => if r = true then do let ok ← isTrue c env (eval c env); pure (ForInStep.yield ok) else pure (ForInStep.yield r)) (fun ok s₃ =>
            if ok = true then wpAny (model prog w) A (eval elt env) (fun x s₄ =>
              wpAny (model prog w) A (call (.builtin "list.append") [acc, x]) (fun _ s₅ => codeAny (model prog w) A (.compLoop (.ListComp elt [⟨target, iter, ifs, 0⟩] scope pos) 0 it acc env) R s₅) (notedBy (model prog w) A env fun e s' => R (.error e) s') s₄) (notedBy (model prog w) A env fun e s' => R (.error e) s') s₃
            else codeAny (model prog w) A (.compLoop (.ListComp elt [⟨target, iter, ifs, 0⟩] scope pos) 0 it acc env) R s₃) (notedBy (model prog w) A env fun e s' => R (.error e) s') s₂) (notedBy (model prog w) A env fun e s' => R (.error e) s') s₁') (notedBy (model prog w) A env fun e s' => R (.error e) s') s₁) (notedBy (model prog w) A env fun e s' => R (.error e) s') s) :
    codeAny (model prog w) A (.compLoop (.ListComp elt [⟨target, iter, ifs, 0⟩] scope pos) 0 it acc env) R s := by
  refine codeAny_of_tree ?_
  show wpAny _ A ((compTurn (.ListComp elt [⟨target, iter, ifs, 0⟩] scope pos) 0 it acc env).onRaise (fun x => do noteFrame x env; theTreesLotGoes x)) _ _ s
  refine wpAny_noted ?_
  rw [compTurn_list]
  refine wpAny_bind (wpAny_standAt (wpAny_bind (wpAny_mono h (fun r s₁ h₁ => ?_) fun _ _ h' => h')))
  cases r with
  | none => exact wpAny_pure h₁
  | some v =>
    refine wpAny_bind (wpAny_mono h₁ (fun _ s₁' h₁' => ?_) fun _ _ h' => h')
    refine wpAny_bind (wpAny_mono h₁' (fun _ s₂ h₂ => wpAny_bind (wpAny_mono h₂ (fun ok s₃ h₃ => ?_) fun _ _ h' => h')) fun _ _ h' => h')
    cases ok with
    | false => exact wpAny_pure ⟨rfl, h₃⟩
    | true =>
      exact wpAny_bind (wpAny_bind (wpAny_mono h₃ (fun x s₄ h₄ => wpAny_bind (wpAny_mono h₄ (fun _ s₅ h₅ => wpAny_pure (wpAny_pure ⟨rfl, h₅⟩)) fun _ _ h' => h')) fun _ _ h' => h'))
theorem compLoop_item {prog : Program} {w : World} {A : Around} {R : Result → Shared → Prop} {s : Shared} {elt target iter : Expr} {ifs : List Expr} {scope : Scope} {pos : Pos} {it acc : Value} {env : Env}
    (h : wpAny (model prog w) A (pyNext it) (fun r s₁ => ∃ v, r = some v ∧ wpAny (model prog w) A (letOwnedTupleGo target it v) (fun _ s₁' => (fun v s₁' => wpAny (model prog w) A (assign target env v) (fun _ s₂ =>
          wpAny (model prog w) A (forIn ifs true fun c r => if r = true then do let ok ← isTrue c env (eval c env); pure (ForInStep.yield ok) else pure (ForInStep.yield r)) (fun ok s₃ =>
            if ok = true then wpAny (model prog w) A (eval elt env) (fun x s₄ =>
              wpAny (model prog w) A (call (.builtin "list.append") [acc, x]) (fun _ s₅ => codeAny (model prog w) A (.compLoop (.ListComp elt [⟨target, iter, ifs, 0⟩] scope pos) 0 it acc env) R s₅) (notedBy (model prog w) A env fun e s' => R (.error e) s') s₄) (notedBy (model prog w) A env fun e s' => R (.error e) s') s₃
            else codeAny (model prog w) A (.compLoop (.ListComp elt [⟨target, iter, ifs, 0⟩] scope pos) 0 it acc env) R s₃) (notedBy (model prog w) A env fun e s' => R (.error e) s') s₂) (notedBy (model prog w) A env fun e s' => R (.error e) s') s₁') v s₁') (notedBy (model prog w) A env fun e s' => R (.error e) s') s₁) (notedBy (model prog w) A env fun e s' => R (.error e) s') s) :
    codeAny (model prog w) A (.compLoop (.ListComp elt [⟨target, iter, ifs, 0⟩] scope pos) 0 it acc env) R s := by
  refine compLoop_turn (wpAny_mono h (fun r s₁ hr => ?_) fun _ _ e => e)
  obtain ⟨v, rfl, hv⟩ := hr
  exact hv
theorem drop_cons {α : Type} {l : List α} {i : Nat} {d : α} {ds : List α} (h : l.drop i = d :: ds) : l[i]? = some d ∧ l.drop (i + 1) = ds := by
  constructor
  · have := congrArg (·[0]?) h
    simpa using this
  · have := congrArg (List.drop 1) h
    simpa [List.drop_drop, Nat.add_comm] using this
set_option maxHeartbeats 1000000 in
theorem compRun {t : Tgt} {te elt iter : Expr} {ifs : List Expr} {scope : Scope} {pos : Pos} (hte : TgtE t te) (hk : ∀ x ∈ t.names, Storable fi x) (hf : ∀ x ∈ t.names, ρ.lookup x = none) (nb : NoBox ρ) {σ σ' : Int × Int} {ds ys : List PyData} (hc : Ct C k fi ρ elt ifs t σ ds ys σ') :
    ∀ (f : Frm) (A : Around) (s : Shared) (P : PH) (μ : Str → Option Value) (R : Result → Shared → Prop) (I D : Addr) (fp wr : List Addr) (P₀ : PH) (all : List PyData) (S : Nat → Heap → Prop) (i : Nat) (pre : List PyData) (vs : List Value) (n : Nat),
      AOk A k → St C fi f σ P μ ρ s.heap → Iter C A te I fp wr P₀ all S → PLe P₀ P → (∀ b ∈ wr, P b = none) → S i s.heap → all.drop i = ds → i ≤ all.length → s.heap.get? D = some (lstO vs n) → Reps P vs pre → P D = none → D ∉ fp → (C.on = true → C.S ∉ fp) → (C.on = true → C.S ≠ D) →
      (f.env.locals ∉ fp) → (∀ x c, f.env.cells.lookup x = some c → c ∉ fp) → f.hs.get? D = none → f.env.locals ≠ D → (∀ x c, f.env.cells.lookup x = some c → c ≠ D) → (∀ b ∈ wr, f.hs.get? b = none) → pre.length + ds.length ≤ 100000 →
      (∀ h' tk P' μ' vs' n', PLe P P' → St C fi f σ' P' μ' ρ h' → h'.get? D = some (lstO vs' n') → Reps P' vs' (pre ++ ys) → P' D = none → R (.ok .next) { s with heap := h', toks := tk }) →
      codeAny (model C.prog C.w) A (.compLoop (.ListComp elt [⟨te, iter, ifs, 0⟩] scope pos) 0 (.ref I) (.ref D) f.env) R s := by
  induction hc with
  | nil =>
    intro f A s P μ R I D fp wr P₀ all S i pre vs n hA hS it le wP hSi hd hi hD rD nP nfp nSfp nSD nL nC nF nLD nCD wF _ q
    have e : i = all.length := by
      have := congrArg List.length hd
      simp at this
      omega
    refine compLoop_turn (it.done s _ _ (e ▸ hSi) fun h' tk keep => ?_)
    have wfp : ∀ b, b ∉ fp → b ∉ wr := fun b h h' => h (it.sub b h')
    have hS' := hS.pull nb (PLe.refl P) (fun _ _ e => .inl e) (fun a o e => keep a o (fun hw => by rw [wP a hw] at e; cases e) (hS.B.stay a o e)) keep wF (wfp _ nL) (fun x c hc => wfp _ (nC x c hc)) (fun o => wfp _ (nSfp o))
    exact q h' tk P μ vs n (PLe.refl P) hS' (keep _ _ (wfp _ nfp) hD) (by simpa using rD) nP
  | @cons σ σ₁ σ₂ σ₃ d y ds ys b hb hi he hr ih =>
    intro f A s P μ R I D fp wr P₀ all S i pre vs n hA hS it le wP hSi hd hil hD rD nP nfp nSfp nSD nL nC nF nLD nCD wF hsz q
    obtain ⟨hx, hd'⟩ := drop_cons hd
    have wfp : ∀ b, b ∉ fp → b ∉ wr := fun b h h' => h (it.sub b h')
    have i1 : i + 1 ≤ all.length := by
      have := (List.getElem?_eq_some_iff.mp hx).1
      omega
    refine compLoop_item (it.item i d s P _ _ hx hSi le hS.B.stay wP fun v h₁ t₁ P₁ rv le₁ fr₁ st₁ wP₁ hSi₁ keep₁ => ?_)
    have S₁ := hS.pull nb le₁ fr₁ st₁ keep₁ wF (wfp _ nL) (fun x c hc => wfp _ (nC x c hc)) (fun o => wfp _ (nSfp o))
    have D₁ := keep₁ _ _ (wfp _ nfp) hD
    have nP₁ : P₁ D = none := by
      cases q : P₁ D with
      | none => rfl
      | some o =>
        rcases fr₁ D o q with q' | q'
        · rw [nP] at q'; cases q'
        · rw [hD] at q'; cases q'
    refine assignTgt (s := { s with heap := h₁, toks := t₁ }) hte hb hA S₁ hk rv fun h₂ t₂ μ₂ S₂ keep₂ => ?_
    have apart : ∀ b ∈ fp, Apart f.env t.names b := fun b hb => ⟨fun e => nL (e ▸ hb), fun x _ c hc e => nC x c hc (e ▸ hb)⟩
    have apD : Apart f.env t.names D := ⟨fun e => nLD e.symm, fun x _ c hc e => nCD x c hc e.symm⟩
    refine hi.run f A { s with heap := h₂, toks := t₂ } P₁ μ₂ _ _ hA S₂ fun h₃ t₃ P₃ c₃ b₃ => ?_
    have S₃ := S₂.after c₃ b₃
    rw [if_pos rfl]
    refine he.run f A { s with heap := h₃, toks := t₃ } P₃ μ₂ _ _ hA S₃ fun z h₄ t₄ P₄ c₄ b₄ rz => ?_
    have S₄ := S₃.after c₄ b₄
    have c₃₄ := c₃.trans c₄
    have notS : ∀ a, a ∈ fp → C.on = true → a ≠ C.S := fun a h o e => nSfp o (e ▸ h)
    have D₄ : h₄.get? D = some (lstO vs n) := c₃₄.keep _ _ (fun o e => nSD o e.symm) (keep₂ _ _ apD D₁)
    have nP₄ : P₄ D = none := by
      cases q : P₄ D with
      | none => rfl
      | some o =>
        rcases c₃₄.fresh D o q with q' | q'
        · rw [nP₁] at q'; cases q'
        · rw [show h₂.get? D = _ from keep₂ _ _ apD D₁] at q'; cases q'
    have e1 := rD.length
    refine wpAny_list_append_plain (hsz := by rw [List.size_toArray, e1, sizeLine_eq]; omega) (l := D) (items := vs.toArray) ⟨n, D₄⟩ fun h₅ hl₅ hs₅ => ?_
    obtain ⟨n₅, hl₅⟩ := hl₅
    have hl₅' : h₅.get? D = some (lstO (vs ++ [z]) n₅) := by rw [hl₅]; simp [lstO]
    have S₅ := (S₄.poke (nb.binds hb) hs₅ nP₄ nF nSD nLD nCD).sub (binds_sub hb hf)
    have hSi₄ : S (i + 1) h₅ := it.frame _ _ _ (it.frame _ _ _ hSi₁ fun b hb o e => c₃₄.keep b o (notS b hb) (keep₂ b o (apart b hb) e)) fun b hb o e => (hs₅.2 b (fun e' => nfp (e' ▸ hb))).trans e
    have le₄ : PLe P P₄ := (le₁.trans c₃.le).trans c₄.le
    have hw₄ : ∀ b ∈ wr, P₄ b = none := fun b hb => by
      cases q : P₄ b with
      | none => rfl
      | some o =>
        have q₁ : h₁.get? b = none ∨ P₁ b = some o := by
          rcases c₃₄.fresh b o q with q' | q'
          · exact .inr q'
          · cases q₂ : h₁.get? b with
            | none => exact .inl rfl
            | some o' => rw [show h₂.get? b = _ from keep₂ b o' (apart b (it.sub b hb)) q₂] at q'; cases q'
        rcases q₁ with q₁ | q₁
        · obtain ⟨o', e'⟩ := it.live _ _ hSi₁ b hb
          rw [q₁] at e'; cases e'
        · rw [wP₁ b hb] at q₁; cases q₁
    refine ih f A { s with heap := h₅, toks := t₄ } P₄ μ₂ R I D fp wr P₀ all S (i + 1) (pre ++ [y]) (vs ++ [z]) n₅ hA S₅ it (le.trans le₄) hw₄ hSi₄ hd' i1 hl₅' ((Reps.mono le₄ rD).app (.cons rz .nil)) nP₄ nfp nSfp nSD nL nC nF nLD nCD wF (by rw [List.length_append, List.length_singleton]; rw [List.length_cons] at hsz; omega) fun h' tk P' μ' vs' n' le' S' D' r' nP' => ?_
    exact q h' tk P' μ' vs' n' (le₄.trans le') S' D' (by simpa using r') nP'
  | @skip σ σ₁ σ₃ d ds ys b hb hi hr ih =>
    intro f A s P μ R I D fp wr P₀ all S i pre vs n hA hS it le wP hSi hd hil hD rD nP nfp nSfp nSD nL nC nF nLD nCD wF hsz q
    obtain ⟨hx, hd'⟩ := drop_cons hd
    have wfp : ∀ b, b ∉ fp → b ∉ wr := fun b h h' => h (it.sub b h')
    have i1 : i + 1 ≤ all.length := by
      have := (List.getElem?_eq_some_iff.mp hx).1
      omega
    refine compLoop_item (it.item i d s P _ _ hx hSi le hS.B.stay wP fun v h₁ t₁ P₁ rv le₁ fr₁ st₁ wP₁ hSi₁ keep₁ => ?_)
    have S₁ := hS.pull nb le₁ fr₁ st₁ keep₁ wF (wfp _ nL) (fun x c hc => wfp _ (nC x c hc)) (fun o => wfp _ (nSfp o))
    have D₁ := keep₁ _ _ (wfp _ nfp) hD
    have nP₁ : P₁ D = none := by
      cases q : P₁ D with
      | none => rfl
      | some o =>
        rcases fr₁ D o q with q' | q'
        · rw [nP] at q'; cases q'
        · rw [hD] at q'; cases q'
    refine assignTgt (s := { s with heap := h₁, toks := t₁ }) hte hb hA S₁ hk rv fun h₂ t₂ μ₂ S₂ keep₂ => ?_
    have apart : ∀ b ∈ fp, Apart f.env t.names b := fun b hb => ⟨fun e => nL (e ▸ hb), fun x _ c hc e => nC x c hc (e ▸ hb)⟩
    have apD : Apart f.env t.names D := ⟨fun e => nLD e.symm, fun x _ c hc e => nCD x c hc e.symm⟩
    refine hi.run f A { s with heap := h₂, toks := t₂ } P₁ μ₂ _ _ hA S₂ fun h₃ t₃ P₃ c₃ b₃ => ?_
    have S₃ := (S₂.after c₃ b₃).sub (binds_sub hb hf)
    rw [if_neg Bool.false_ne_true]
    have notS : ∀ a, a ∈ fp → C.on = true → a ≠ C.S := fun a h o e => nSfp o (e ▸ h)
    have D₃ : h₃.get? D = some (lstO vs n) := c₃.keep _ _ (fun o e => nSD o e.symm) (keep₂ _ _ apD D₁)
    have nP₃ : P₃ D = none := by
      cases q : P₃ D with
      | none => rfl
      | some o =>
        rcases c₃.fresh D o q with q' | q'
        · rw [nP₁] at q'; cases q'
        · rw [show h₂.get? D = _ from keep₂ _ _ apD D₁] at q'; cases q'
    have hSi₃ : S (i + 1) h₃ := it.frame _ _ _ hSi₁ fun b hb o e => c₃.keep b o (notS b hb) (keep₂ b o (apart b hb) e)
    have le₃ : PLe P P₃ := le₁.trans c₃.le
    have hw₃ : ∀ b ∈ wr, P₃ b = none := fun b hb => by
      cases q : P₃ b with
      | none => rfl
      | some o =>
        have q₁ : h₁.get? b = none ∨ P₁ b = some o := by
          rcases c₃.fresh b o q with q' | q'
          · exact .inr q'
          · cases q₂ : h₁.get? b with
            | none => exact .inl rfl
            | some o' => rw [show h₂.get? b = _ from keep₂ b o' (apart b (it.sub b hb)) q₂] at q'; cases q'
        rcases q₁ with q₁ | q₁
        · obtain ⟨o', e'⟩ := it.live _ _ hSi₁ b hb
          rw [q₁] at e'; cases e'
        · rw [wP₁ b hb] at q₁; cases q₁
    refine ih f A { s with heap := h₃, toks := t₃ } P₃ μ₂ R I D fp wr P₀ all S (i + 1) pre vs n hA S₃ it (le.trans le₃) hw₃ hSi₃ hd' i1 D₃ (Reps.mono le₃ rD) nP₃ nfp nSfp nSD nL nC nF nLD nCD wF (by rw [List.length_cons] at hsz; omega) fun h' tk P' μ' vs' n' le' S' D' r' nP' => ?_
    exact q h' tk P' μ' vs' n' (le₃.trans le') S' D' r' nP'
end
-- MComp2
section
variable {C : Cx} {k : Nat} {fi : Fi} {ρ ρ' ρ₁ ρ₂ : Loc} {σ σ₁ σ₂ σ₃ : Int × Int}
theorem letOwned_plain {M : Model} {A : Around} {E : Value → Shared → Prop} {s : Shared} {t : Tgt} {te : Expr} {I : Addr} {v : Value} {o : Obj} {T : String} {Q : Unit → Shared → Prop} (hte : TgtE t te) (ho : s.heap.get? I = some o) (hc : o.cls = .type T)
    (hT : ["enumerate", "zip", "dict_itemiterator", "dict_reverseitemiterator", "odict_iterator", "itertools.zip_longest", "itertools.pairwise"].contains T = false) (h : Q () s) : wpAny M A (letOwnedTupleGo te (.ref I) v) Q E s := by
  cases hte with
  | name => exact wpAny_pure h
  | pair =>
    unfold letOwnedTupleGo
    cases v with
    | ref a =>
      refine wpAny_bind (wpAny_load ho ?_)
      rw [hc]
      cases hd : o.data with
      | fields vs =>
        show wpAny M A (if (["enumerate", "zip", "dict_itemiterator", "dict_reverseitemiterator", "odict_iterator", "itertools.zip_longest", "itertools.pairwise"].contains T && vs[0]? == some (rawInt a)) = true then _ else _) Q E s
        rw [hT, Bool.false_and, if_neg Bool.false_ne_true]
        exact wpAny_pure h
      | _ => exact wpAny_pure h
    | _ => exact wpAny_pure h
theorem Iter.list {A : Around} (hh : A.handled = none) {t : Tgt} {te : Expr} (hte : TgtE t te) {I ax : Addr} (hne : ax ≠ I) {vs : List Value} {P₀ : PH} {ds : List PyData} (r : Reps P₀ vs ds) : Iter C A te I [I, ax] [I] P₀ ds (fun i h => h.IsListIter I ax i ∧ h.IsList ax vs.toArray) where
  sub := fun b hb => by simp at hb; simp [hb]
  frame := fun _ _ _ st hk => ⟨st.1.at fun o e => hk I (by simp) o e, st.2.at fun o e => hk ax (by simp) o e⟩
  live := fun i h st b hb => by simp at hb; subst hb; obtain ⟨o, ho, _⟩ := st.1; exact ⟨o, ho⟩
  item := fun i d s P Q E hd st le stay wP hQ => by
    obtain ⟨x, hx, rx⟩ := r.get hd
    refine wpAny_pyNext_list_item st.1 st.2 (x := x) (by simpa using hx) fun h' hit' hs' => ⟨x, rfl, ?_⟩
    obtain ⟨o, ho, hc, _⟩ := id hit'
    refine letOwned_plain (s := { s with heap := h' }) hte ho hc (by decide) ?_
    have keep : ∀ b o, b ∉ [I] → s.heap.get? b = some o → h'.get? b = some o := fun b o hb e => hs'.extBut b o (fun h => hb (by simp [h])) e
    exact hQ x h' s.toks P (Rep.mono le rx) (PLe.refl P) (fun _ _ e => .inl e) (fun a o e => keep a o (fun hb => by rw [wP a hb] at e; cases e) (stay a o e)) wP ⟨hit', st.2.extBut hs'.extBut hne⟩ keep
  done := fun s Q E st hQ => wpAny_pyNext_list_end hh st.1 st.2 (by simp [r.length]) fun h' he' => hQ h' s.toks fun b o hb e => he' b o (fun h => hb (by simp [h])) e
  self := fun _ _ _ _ st hQ => wpAny_pyIter_listiter st.1 hQ
theorem Iter.tuple {A : Around} (hh : A.handled = none) {t : Tgt} {te : Expr} (hte : TgtE t te) {I ax : Addr} (hne : ax ≠ I) {vs : List Value} {P₀ : PH} {ds : List PyData} (r : Reps P₀ vs ds) : Iter C A te I [I, ax] [I] P₀ ds (fun i h => h.IsTupleIter I ax i ∧ h.IsTuple ax vs.toArray) where
  sub := fun b hb => by simp at hb; simp [hb]
  frame := fun _ _ _ st hk => ⟨st.1.at fun o e => hk I (by simp) o e, st.2.at fun o e => hk ax (by simp) o e⟩
  live := fun i h st b hb => by simp at hb; subst hb; obtain ⟨o, ho, _⟩ := st.1; exact ⟨o, ho⟩
  item := fun i d s P Q E hd st le stay wP hQ => by
    obtain ⟨x, hx, rx⟩ := r.get hd
    refine wpAny_pyNext_tuple_item st.1 st.2 (x := x) (by simpa using hx) fun h' hit' hs' => ⟨x, rfl, ?_⟩
    obtain ⟨o, ho, hc, _⟩ := id hit'
    refine letOwned_plain (s := { s with heap := h' }) hte ho hc (by decide) ?_
    have keep : ∀ b o, b ∉ [I] → s.heap.get? b = some o → h'.get? b = some o := fun b o hb e => hs'.extBut b o (fun h => hb (by simp [h])) e
    exact hQ x h' s.toks P (Rep.mono le rx) (PLe.refl P) (fun _ _ e => .inl e) (fun a o e => keep a o (fun hb => by rw [wP a hb] at e; cases e) (stay a o e)) wP ⟨hit', st.2.extBut hs'.extBut hne⟩ keep
  done := fun s Q E st hQ => wpAny_pyNext_tuple_end hh st.1 st.2 (by simp [r.length]) fun h' he' => hQ h' s.toks fun b o hb e => he' b o (fun h => hb (by simp [h])) e
  self := fun _ _ _ _ st hQ => wpAny_pyIter_tupleiter st.1 hQ
noncomputable def upTo (n : Nat) : List PyData := (List.range n).map fun (i : Nat) => PyData.int (i : Int)
theorem Iter.range {A : Around} (hh : A.handled = none) {x : Str} {p : Pos} {I : Addr} {n : Nat} {P₀ : PH} : Iter C A (.Name x p) I [I] [I] P₀ (upTo n) (fun i h => IsRangeIter h I (0 + (i : Nat) * 1) ((n : Int) - (i : Nat)) 1) where
  sub := fun _ hb => hb
  frame := fun _ _ _ st hk => hk I (by simp) _ st
  live := fun i h st b hb => by simp at hb; subst hb; exact ⟨_, st⟩
  item := fun i d s P Q E hd st le stay wP hQ => by
    have hi : i < n := by
      have := (List.getElem?_eq_some_iff.mp hd).1
      simpa [upTo] using this
    have hd' : d = .int i := by
      simp only [upTo, List.getElem?_map, List.getElem?_range hi, Option.map_some, Option.some.injEq] at hd
      exact hd.symm
    subst hd'
    refine (Walks.range hh I 0 1 n).item i s _ E hi st fun v h' tk ⟨t, e⟩ st' keep => ⟨v, rfl, ?_⟩
    subst e
    refine wpAny_pure (hQ _ h' tk P ?_ (PLe.refl P) (fun _ _ e => .inl e) (fun a o e => keep a o (fun hb => by rw [wP a hb] at e; cases e) (stay a o e)) wP st' keep)
    have : (0 : Int) + (i : Int) * 1 = i := by omega
    rw [this]; exact .int _ _
  done := fun s Q E st hQ => by
    rw [upTo, List.length_map, List.length_range] at st
    exact (Walks.range hh I 0 1 n).done s _ E st hQ
  self := fun _ _ _ _ st hQ => wpAny_pyIter_rangeiter st hQ
structure EvIt (C : Cx) (k : Nat) (fi : Fi) (ρ : Loc) (σ : Int × Int) (te e : Expr) (ds : List PyData) (σ' : Int × Int) : Prop where
  run : ∀ (f : Frm) (A : Around) (s : Shared) (P : PH) (μ : Str → Option Value) (E : Value → Shared → Prop) (Q : Value → Shared → Prop), AOk A k → St C fi f σ P μ ρ s.heap →
    (∀ I fp wr S h' tk P', CStep C P s.heap P' h' → Base C σ' P' h' → Iter C A te I fp wr P' ds S → S 0 h' → (∀ b ∈ fp, b < h'.objs.size) → (∀ b ∈ wr, s.heap.get? b = none ∧ P' b = none) → (C.on = true → C.S ∉ fp) → f.env.locals ∉ fp → (∀ x c, f.env.cells.lookup x = some c → c ∉ fp) → Q (.ref I) { s with heap := h', toks := tk }) →
    wpAny (model C.prog C.w) A (eval e f.env) (fun x s₁ => wpAny (model C.prog C.w) A (pyIter x) Q E s₁) E s
theorem none_of_size {P : PH} {h : Heap} {a : Addr} (B : Base C σ P h) (n : h.get? a = none) : P a = none := by
  cases q : P a with
  | none => rfl
  | some o => rw [B.stay a o q] at n; cases n
theorem old_none {P P' : PH} {h h' : Heap} {a : Addr} (c : CStep C P h P' h') (n : h'.get? a = none) : h.get? a = none := by
  cases q : h.get? a with
  | none => rfl
  | some o => obtain ⟨o', e⟩ := c.dom a o q; rw [n] at e; cases e
theorem St.apartSeq {f : Frm} {P : PH} {μ : Str → Option Value} {h : Heap} (s : St C fi f σ P μ ρ h) {a : Addr} {o : Obj} (e : h.get? a = some o) (hd : ∃ vs n, o.data = .seq vs n) : f.env.locals ≠ a ∧ ∀ x c, f.env.cells.lookup x = some c → c ≠ a := by
  obtain ⟨vs, n, hd⟩ := hd
  refine ⟨?_, fun x c hc => ?_⟩
  · rintro rfl
    obtain ⟨oL, es, ep, eL, dL⟩ := s.L_dict
    rw [eL] at e; cases e; rw [dL] at hd; cases hd
  · rintro rfl
    obtain ⟨oc, hoc, hd'⟩ := (s.cell x c hc).2.2
    rw [hoc] at e; cases e; rw [hd'] at hd; cases hd
theorem St.apartNew {f : Frm} {P : PH} {μ : Str → Option Value} {h : Heap} (s : St C fi f σ P μ ρ h) {a : Addr} (e : h.get? a = none) : f.env.locals ≠ a ∧ (∀ x c, f.env.cells.lookup x = some c → c ≠ a) ∧ (C.on = true → C.S ≠ a) := by
  refine ⟨?_, fun x c hc => ?_, fun o => ?_⟩
  · rintro rfl
    obtain ⟨oL, es, ep, eL, dL⟩ := s.L_dict
    rw [eL] at e; cases e
  · rintro rfl
    obtain ⟨oc, hoc, hd'⟩ := (s.cell x c hc).2.2
    rw [hoc] at e; cases e
  · rintro rfl
    obtain ⟨_, ta, tb, n, l⟩ := s.B.src o
    rw [l] at e; cases e
theorem EvIt.list {t : Tgt} {te e : Expr} {r : VD} {ds : List PyData} (hte : TgtE t te) (he : Ev C k fi ρ σ e r σ₁) (l : LstOf ρ r ds) : EvIt C k fi ρ σ te e ds σ₁ := .mk <| fun f A s P μ E Q hA hS q =>
  he.run f A s P μ E _ hA hS fun v h₁ t₁ P₁ c₁ b₁ r₁ => by
    have hS₁ := hS.after c₁ b₁
    obtain ⟨ax, vs, n, rfl, hl, rs⟩ := l.rep hS₁ r₁
    have it : h₁.IsList ax vs.toArray := ⟨_, hl, rfl, n, rfl⟩
    have k₁ : ∀ b o, h₁.get? b = some o → (h₁.push { cls := .type "list_iterator", data := .fields #[.ref ax, .int 0 0] }).get? b = some o := fun _ _ e => Heap.get?_push_of_some _ e
    have nw := hS₁.apartNew (fresh_size h₁)
    have sq := hS₁.apartSeq hl ⟨_, _, rfl⟩
    have nS : C.on = true → C.S ≠ ax := by
      cases l with
      | dat => cases r₁ with | lst hp _ => rintro o rfl; rw [(b₁.src o).1] at hp; cases hp
      | var hx =>
        obtain ⟨_, w, hw, B, us, m, e2, _, _, _, x, _⟩ := hS₁.vars _ _ hx
        obtain ⟨hw', _⟩ := r₁
        rw [hw] at hw'; cases hw'; cases e2; exact x
    refine wpAny_pyIter_list (s := { s with heap := h₁, toks := t₁ }) it (q h₁.objs.size [h₁.objs.size, ax] [h₁.objs.size] _ _ t₁ P₁ (c₁.trans (CStep.ext k₁)) (b₁.ext k₁) (Iter.list hA.1 hte (Nat.ne_of_lt (Heap.lt_size hl)) rs) ⟨⟨_, Heap.get?_push_size _ rfl, rfl, rfl⟩, it.push _⟩ (fun b hb => ?_) (fun b hb => ?_) (fun o hm => ?_) (fun hm => ?_) fun x c hc hm => ?_)
    · have hlt := Heap.lt_size hl
      rw [Heap.size_push]
      simp only [List.mem_cons, List.not_mem_nil, or_false] at hb
      rcases hb with rfl | rfl
      · exact Nat.lt_succ_self _
      · exact Nat.lt_succ_of_lt hlt
    · simp only [List.mem_cons, List.not_mem_nil, or_false] at hb
      subst hb
      exact ⟨old_none c₁ (fresh_size h₁), none_of_size b₁ (fresh_size h₁)⟩
    · simp only [List.mem_cons, List.not_mem_nil, or_false] at hm
      rcases hm with e | e
      · exact nw.2.2 o e
      · exact nS o e
    · simp only [List.mem_cons, List.not_mem_nil, or_false] at hm
      rcases hm with e | e
      · exact nw.1 e
      · exact sq.1 e
    · simp only [List.mem_cons, List.not_mem_nil, or_false] at hm
      rcases hm with e | e
      · exact nw.2.1 x c hc e
      · exact sq.2 x c hc e
theorem EvIt.tup {t : Tgt} {te e : Expr} {ds : List PyData} (hte : TgtE t te) (he : Ev C k fi ρ σ e (.dat (.tuple ds)) σ₁) : EvIt C k fi ρ σ te e ds σ₁ := .mk <| fun f A s P μ E Q hA hS q =>
  he.run f A s P μ E _ hA hS fun v h₁ t₁ P₁ c₁ b₁ r₁ => by
    have hS₁ := hS.after c₁ b₁
    cases r₁ with
    | tup hp rs =>
    rename_i ax vs n
    have hl := b₁.stay _ _ hp
    have it : h₁.IsTuple ax vs.toArray := ⟨_, hl, rfl, n, rfl⟩
    have k₁ : ∀ b o, h₁.get? b = some o → (h₁.push { cls := .type "tuple_iterator", data := .fields #[.ref ax, .int 0 0] }).get? b = some o := fun _ _ e => Heap.get?_push_of_some _ e
    have nw := hS₁.apartNew (fresh_size h₁)
    have sq := hS₁.apartSeq hl ⟨_, _, rfl⟩
    have nS : C.on = true → C.S ≠ ax := by rintro o rfl; rw [(b₁.src o).1] at hp; cases hp
    have it' : (h₁.push { cls := .type "tuple_iterator", data := .fields #[.ref ax, .int 0 0] }).IsTuple ax vs.toArray := ⟨_, k₁ _ _ hl, rfl, n, rfl⟩
    refine wpAny_pyIter_tuple (s := { s with heap := h₁, toks := t₁ }) it (q h₁.objs.size [h₁.objs.size, ax] [h₁.objs.size] _ _ t₁ P₁ (c₁.trans (CStep.ext k₁)) (b₁.ext k₁) (Iter.tuple hA.1 hte (Nat.ne_of_lt (Heap.lt_size hl)) rs) ⟨⟨_, Heap.get?_push_size _ rfl, rfl, rfl⟩, it'⟩ (fun b hb => ?_) (fun b hb => ?_) (fun o hm => ?_) (fun hm => ?_) fun x c hc hm => ?_)
    · have hlt := Heap.lt_size hl
      rw [Heap.size_push]
      simp only [List.mem_cons, List.not_mem_nil, or_false] at hb
      rcases hb with rfl | rfl
      · exact Nat.lt_succ_self _
      · exact Nat.lt_succ_of_lt hlt
    · simp only [List.mem_cons, List.not_mem_nil, or_false] at hb
      subst hb
      exact ⟨old_none c₁ (fresh_size h₁), none_of_size b₁ (fresh_size h₁)⟩
    · simp only [List.mem_cons, List.not_mem_nil, or_false] at hm
      rcases hm with e | e
      · exact nw.2.2 o e
      · exact nS o e
    · simp only [List.mem_cons, List.not_mem_nil, or_false] at hm
      rcases hm with e | e
      · exact nw.1 e
      · exact sq.1 e
    · simp only [List.mem_cons, List.not_mem_nil, or_false] at hm
      rcases hm with e | e
      · exact nw.2.1 x c hc e
      · exact sq.2 x c hc e
theorem EvIt.range {x : Str} {p₀ p pos : Pos} {e : Expr} {n : Nat} (he : Ev C k fi ρ σ e (.dat (.int n)) σ₁) (hn : n ≤ 100000) (hx : fi.sc.names.lookup (Str.ofString "range") = some .globalImplicit) (hs : noStar e = true := by rfl) :
    EvIt C k fi ρ σ (.Name x p₀) (.Call (.Name (Str.ofString "range") p) [e] [] pos) (upTo n) σ₁ := .mk <| fun f A s P μ E Q hA hS q =>
  callT1 he hA hS hx (by decide) boot_range hs (by decide) (by decide) fun v h₁ t₁ P₁ c₁ b₁ hS₁ r₁ => by
    cases r₁
    rename_i tn
    refine call_range_1 ?_
    have k₁ : ∀ o b o', h₁.get? b = some o' → (h₁.push o).get? b = some o' := fun _ _ _ e => Heap.get?_push_of_some _ e
    have c₂ := CStep.ext (C := C) (P := P₁) (k₁ { cls := .type "range", data := .fields #[.int 0 t₁, .int n tn, .int 1 (t₁ + 1)] })
    have b₂ := b₁.ext (k₁ { cls := .type "range", data := .fields #[.int 0 t₁, .int n tn, .int 1 (t₁ + 1)] })
    have hS₂ := hS₁.after c₂ b₂
    refine wpAny_pyIter_range (IsRange.new ..) (small_one (by omega) (by omega) (by omega) (by omega)) ?_
    have hz : Builtin.Range.rangeSize 0 (n : Int) 1 = n := by rw [rangeSize_one]; split <;> omega
    rw [hz]
    dsimp only
    generalize h₁.push { cls := .type "range", dict := none, data := .fields #[.int 0 t₁, .int n tn, .int 1 (t₁ + 1)], slots := #[] } = h₂ at *
    have k₂ : ∀ b o, h₂.get? b = some o → (h₂.push { cls := .type "range_iterator", data := .fields #[rawInt 0, rawInt n, rawInt 1] }).get? b = some o := fun _ _ e => Heap.get?_push_of_some _ e
    have nw := hS₂.apartNew (fresh_size h₂)
    refine q h₂.objs.size [h₂.objs.size] [h₂.objs.size] _ _ _ P₁ ((c₁.trans c₂).trans (CStep.ext k₂)) (b₂.ext k₂) (Iter.range hA.1) ?_ (fun b hb => ?_) (fun b hb => ?_) (fun o hm => ?_) (fun hm => ?_) fun x c hc hm => ?_
    · have : IsRangeIter (h₂.push { cls := .type "range_iterator", data := .fields #[rawInt 0, rawInt n, rawInt 1] }) h₂.objs.size 0 n 1 := Heap.get?_push_size _ rfl
      simpa using this
    · simp only [List.mem_cons, List.not_mem_nil, or_false] at hb
      subst hb; rw [Heap.size_push]; exact Nat.lt_succ_self _
    · simp only [List.mem_cons, List.not_mem_nil, or_false] at hb
      subst hb
      exact ⟨old_none (c₁.trans c₂) (fresh_size h₂), none_of_size b₂ (fresh_size h₂)⟩
    · simp only [List.mem_cons, List.not_mem_nil, or_false] at hm
      exact nw.2.2 o hm
    · simp only [List.mem_cons, List.not_mem_nil, or_false] at hm
      exact nw.1 hm
    · simp only [List.mem_cons, List.not_mem_nil, or_false] at hm
      exact nw.2.1 x c hc hm
end
-- MComp3
noncomputable def relabelS (scope sc : Scope) : Scope :=
  { scope with names := scope.names.map fun (n, k) => if (k == .free && sc.kind == .function && sc.names.lookup n == some .cell) then (n, .cell) else (n, k) }
theorem relabelS_eq (scope : Scope) (env : Env) : relabel scope env = relabelS scope env.scope := rfl
noncomputable def clOf (cells : List (Str × Addr)) : List (Str × NameKind) → List (Str × Addr) → List (Str × Addr)
  | [], acc => acc
  | (n, .free) :: r, acc => clOf cells r ((n, (cells.lookup n).getD 0) :: acc)
  | (_, .local) :: r, acc => clOf cells r acc
  | (_, .cell) :: r, acc => clOf cells r acc
  | (_, .globalExplicit) :: r, acc => clOf cells r acc
  | (_, .globalImplicit) :: r, acc => clOf cells r acc
theorem clOf_mem {cells : List (Str × Addr)} : ∀ {names : List (Str × NameKind)} {acc : List (Str × Addr)} {p : Str × Addr}, p ∈ clOf cells names acc → p ∈ acc ∨ ((p.1, NameKind.free) ∈ names ∧ p.2 = (cells.lookup p.1).getD 0)
  | [], _, _, h => .inl h
  | (n, .free) :: r, acc, p, h => by
    rcases clOf_mem (names := r) h with h | ⟨h, e⟩
    · rcases List.mem_cons.mp h with rfl | h
      · exact .inr ⟨.head _, rfl⟩
      · exact .inl h
    · exact .inr ⟨.tail _ h, e⟩
  | (_, .local) :: r, _, _, h => (clOf_mem (names := r) h).imp id fun ⟨h, e⟩ => ⟨.tail _ h, e⟩
  | (_, .cell) :: r, _, _, h => (clOf_mem (names := r) h).imp id fun ⟨h, e⟩ => ⟨.tail _ h, e⟩
  | (_, .globalExplicit) :: r, _, _, h => (clOf_mem (names := r) h).imp id fun ⟨h, e⟩ => ⟨.tail _ h, e⟩
  | (_, .globalImplicit) :: r, _, _, h => (clOf_mem (names := r) h).imp id fun ⟨h, e⟩ => ⟨.tail _ h, e⟩
theorem clOf_has {cells : List (Str × Addr)} : ∀ {names : List (Str × NameKind)} {acc : List (Str × Addr)} {x : Str}, (∃ a, (x, a) ∈ acc) ∨ (x, NameKind.free) ∈ names → ∃ a, (x, a) ∈ clOf cells names acc
  | [], _, _, h => by
    rcases h with h | h
    · exact h
    · cases h
  | (n, .free) :: r, acc, x, h => clOf_has (names := r) (by
    rcases h with ⟨a, h⟩ | h
    · exact .inl ⟨a, .tail _ h⟩
    · rcases List.mem_cons.mp h with h | h
      · cases h; exact .inl ⟨_, .head _⟩
      · exact .inr h)
  | (_, .local) :: r, _, _, h => clOf_has (names := r) (h.imp id fun h => (List.mem_cons.mp h).resolve_left (by intro e; cases e))
  | (_, .cell) :: r, _, _, h => clOf_has (names := r) (h.imp id fun h => (List.mem_cons.mp h).resolve_left (by intro e; cases e))
  | (_, .globalExplicit) :: r, _, _, h => clOf_has (names := r) (h.imp id fun h => (List.mem_cons.mp h).resolve_left (by intro e; cases e))
  | (_, .globalImplicit) :: r, _, _, h => clOf_has (names := r) (h.imp id fun h => (List.mem_cons.mp h).resolve_left (by intro e; cases e))
theorem clOf_for {env : Env} : ∀ (names : List (Str × NameKind)) (acc : List (Str × Addr)), (∀ x, (x, NameKind.free) ∈ names → ∃ c, env.cells.lookup x = some c) →
    (forIn names acc fun (x : Str × NameKind) (cs : List (Str × Addr)) => (do
      if x.2 == .free then pure (ForInStep.yield ((x.1, ← cellOf env x.1) :: cs))
      else pure (ForInStep.yield cs) : Sem (ForInStep (List (Str × Addr))))) = pure (clOf env.cells names acc)
  | [], _, _ => rfl
  | (n, k) :: r, acc, h => by
    have ih := fun acc => clOf_for (env := env) r acc fun x hx => h x (.tail _ hx)
    cases k with
    | free =>
      obtain ⟨c, hc⟩ := h n (.head _)
      rw [List.forIn_cons]
      have e : cellOf env n = pure c := by unfold cellOf; rw [hc]
      simp only [beq_self_eq_true, if_true, e, pure_bind]
      rw [ih]
      show _ = pure (clOf env.cells r ((n, (env.cells.lookup n).getD 0) :: acc))
      rw [hc]; rfl
    | «local» => rw [List.forIn_cons]; simp only [show (NameKind.local == NameKind.free) = false from rfl, Bool.false_eq_true, if_false, pure_bind]; exact ih acc
    | cell => rw [List.forIn_cons]; simp only [show (NameKind.cell == NameKind.free) = false from rfl, Bool.false_eq_true, if_false, pure_bind]; exact ih acc
    | globalExplicit => rw [List.forIn_cons]; simp only [show (NameKind.globalExplicit == NameKind.free) = false from rfl, Bool.false_eq_true, if_false, pure_bind]; exact ih acc
    | globalImplicit => rw [List.forIn_cons]; simp only [show (NameKind.globalImplicit == NameKind.free) = false from rfl, Bool.false_eq_true, if_false, pure_bind]; exact ih acc
theorem closure_is {scope : Scope} {env : Env} (h : ∀ x, (x, NameKind.free) ∈ scope.names → ∃ c, env.cells.lookup x = some c) : closureFor scope env = pure (clOf env.cells scope.names []) := by
  have := clOf_for (env := env) scope.names [] h
  unfold closureFor
  simp only [bind_pure_comp] at *
  first
    | exact this
    | (rw [this]; rfl)
    | (simp only [this, map_pure])
noncomputable def okNames (names : List (Str × NameKind)) : Bool := names.all fun p => names.lookup p.1 == some p.2
noncomputable def noCells (names : List (Str × NameKind)) : Bool := names.all fun p => p.2 != .cell
noncomputable def freesOk (fi : Fi) (ρ : Loc) (names : List (Str × NameKind)) : Bool := names.all fun p => p.2 != .free || ((ρ.lookup p.1).isSome && fi.sc.names.lookup p.1 != some .local)
noncomputable def SubF (scope : Scope) (ρ' ρ : Loc) : Prop := ∀ x av, ρ'.lookup x = some av → scope.names.lookup x = some .free ∧ ρ.lookup x = some av ∧ isBox av = false
theorem SubF.nil {scope : Scope} {ρ : Loc} : SubF scope [] ρ := fun _ _ e => by cases e
theorem SubF.cons {scope : Scope} {ρ' ρ : Loc} {x : Str} {av : AV} (h₁ : scope.names.lookup x = some .free) (h₂ : ρ.lookup x = some av) (h₃ : isBox av = false) (r : SubF scope ρ' ρ) : SubF scope ((x, av) :: ρ') ρ := fun y a e => by
  by_cases q : y = x
  · subst q; rw [lookup_cons_eq] at e; cases e; exact ⟨h₁, h₂, h₃⟩
  · rw [lookup_cons_ne q] at e; exact r y a e
theorem okNames.at {names : List (Str × NameKind)} (h : okNames names = true) {p : Str × NameKind} (hp : p ∈ names) : names.lookup p.1 = some p.2 := by
  have := List.all_eq_true.mp h p hp
  simpa using this
theorem lookup_mem {α : Type} : ∀ {l : List (Str × α)} {x : Str} {a : α}, l.lookup x = some a → (x, a) ∈ l
  | (y, b) :: r, x, a, h => by
    by_cases q : x = y
    · subst q
      rw [List.lookup_cons, beq_self_eq_true] at h
      cases h; exact .head _
    · rw [List.lookup_cons, beq_eq_false_iff_ne.mpr q] at h
      exact .tail _ (lookup_mem h)
theorem relabel_kind {scope sc : Scope} {x : Str} {kd : NameKind} (h : scope.names.lookup x = some kd) : ((relabelS scope sc).names.lookup x = some kd) ∨ (kd = .free ∧ (relabelS scope sc).names.lookup x = some .cell) := by
  unfold relabelS
  dsimp only
  generalize scope.names = names at h
  induction names with
  | nil => cases h
  | cons p r ih =>
    obtain ⟨n, k⟩ := p
    rw [List.map_cons]
    by_cases q : x = n
    · subst q
      rw [List.lookup_cons, beq_self_eq_true] at h
      cases h
      dsimp only
      split
      · rename_i hc
        simp only [Bool.and_eq_true, beq_iff_eq] at hc
        exact .inr ⟨hc.1.1, by rw [List.lookup_cons, beq_self_eq_true]⟩
      · exact .inl (by rw [List.lookup_cons, beq_self_eq_true])
    · rw [List.lookup_cons, beq_eq_false_iff_ne.mpr q] at h
      have e : ∀ (z : NameKind) (l : List (Str × NameKind)), List.lookup x ((n, z) :: l) = l.lookup x := fun z l => by rw [List.lookup_cons, beq_eq_false_iff_ne.mpr q]
      dsimp only
      split <;> rw [e] <;> exact ih h
section
variable {C : Cx} {k : Nat} {fi : Fi} {ρ ρ' ρ₁ ρ₂ : Loc} {σ σ₁ σ₂ σ₃ : Int × Int}
theorem St.pokeB {f : Frm} {P : PH} {μ : Str → Option Value} {h h' : Heap} {D : Addr} (s : St C fi f σ P μ ρ h) (nb : ∀ x ds, ρ.lookup x = some (.box ds) → μ x ≠ some (.ref D)) (hs : Heap.SameBut D h h') (nP : P D = none) (nF : f.hs.get? D = none) (nS : C.on = true → C.S ≠ D) (nL : f.env.locals ≠ D) (nC : ∀ x c, f.env.cells.lookup x = some c → c ≠ D) : St C fi f σ P μ ρ h' := by
  obtain ⟨b', fr'⟩ := Mine.poke s.B s.fr nP nF nS hs
  obtain ⟨m, hn, hm⟩ := s.ns
  refine ⟨b', s.sc, s.fnk, s.glob, s.blt, ⟨m, hn.sameBut hs nL, hm⟩, s.nsP, s.nsF, fun x c hc => ?_, s.capart, s.cown, fun x av hx => ?_, s.boxes, fr'⟩
  · obtain ⟨h1, h2, h3⟩ := s.cell x c hc
    exact ⟨h1, h2, h3.sameBut hs (nC x c hc)⟩
  · obtain ⟨h1, v, h2, h3⟩ := s.vars x av hx
    refine ⟨h1, v, h2, ?_⟩
    cases av with
    | dat d => exact h3
    | src => exact h3
    | scr ns => exact h3
    | box es =>
      obtain ⟨B', vs', n', rfl, hl', r', x1, x2, x3⟩ := h3
      exact ⟨B', vs', n', rfl, (hs.2 B' (fun e => nb x es hx (by rw [h2, e]))).trans hl', r', x1, x2, x3⟩
noncomputable def cfi (scope : Scope) (fi : Fi) : Fi := ⟨relabelS scope fi.sc, []⟩
set_option maxHeartbeats 1000000 in
theorem compCore {t : Tgt} {te elt iter : Expr} {ifs : List Expr} {scope : Scope} {pos : Pos} {ds ys : List PyData} (hte : TgtE t te) (hi : EvIt C k fi ρ σ te iter ds σ₁) (hc : Ct C k (cfi scope fi) ρ' elt ifs t σ₁ ds ys σ₂) (hsub : SubF scope ρ' ρ)
    (hn : okNames scope.names = true) (hcell : noCells scope.names = true) (hfr : freesOk fi ρ scope.names = true) (hkind : scope.kind = .function) (ht : (t.names.all fun x => scope.names.lookup x == some .local) = true) (hlen : ds.length ≤ 100000)
    {f : Frm} {A : Around} {s : Shared} {P : PH} {μ : Str → Option Value} {E : Value → Shared → Prop} {RR : Value → Addr → Result → Shared → Prop} (hA : AOk A k) (hS : St C fi f σ P μ ρ s.heap)
    (hRR : ∀ D Cc h' tk P' vs n m', CStep C P s.heap P' h' → Base C σ₂ P' h' → s.heap.get? D = none → P' D = none → h'.get? D = some (lstO vs n) → Reps P' vs ys → h'.Ns Cc m' → s.heap.get? Cc = none → P' Cc = none → D ≠ Cc → RR (.ref D) Cc (.ok .next) { s with heap := h', toks := tk }) :
    wpAny (model C.prog C.w) A (eval iter f.env) (fun x s₁ => wpAny (model C.prog C.w) A (pyIter x) (fun it s₂ => wpAny (model C.prog C.w) A (newList []) (fun acc s₃ =>
      wpAny (model C.prog C.w) A (newFunctionEnv scope f.env.globals (clOf f.env.cells scope.names []) [] f.env.qual none .none (some f.env)) (fun cenv s₄ =>
        codeAny (model C.prog C.w) A (.compStart (.ListComp elt [⟨te, iter, ifs, 0⟩] scope pos) 0 it acc { cenv with scope := relabel scope f.env }) (RR acc cenv.locals) s₄) E s₃) E s₂) E s₁) E s := by
  have hcell' : ∀ y ∈ scope.names, y.2 ≠ .cell := fun y hy => by
    have := List.all_eq_true.mp hcell y hy
    simpa using this
  refine hi.run f A s P μ E _ hA hS fun I fp wr S h₂ t₂ P₂ c₂ b₂ it hSi hfp hwr nSfp nLfp nCfp => ?_
  have hS₂ := hS.after c₂ b₂
  refine wpAny_newObj_type (wpAny_newFunctionEnv (s := { s with heap := h₂.push { cls := .type "list", data := .seq ([] : List Value).toArray }, toks := t₂ }) hcell' (by intro y hy; simp at hy) (fun h₁ hns₁ hsb₁ => ?_) hkind)
  dsimp only at hns₁ hsb₁ ⊢
  generalize hH2 : h₂.push { cls := .type "list", dict := none, data := .seq ([] : List Value).toArray } = H2 at hns₁ hsb₁ ⊢
  have hC : H2.objs.size = h₂.objs.size + 1 := by rw [← hH2, Heap.size_push]
  have below : ∀ b, b < h₂.objs.size → b ≠ H2.objs.size ∧ b ≠ h₂.objs.size := fun b hb => ⟨by rw [hC]; exact Nat.ne_of_lt (Nat.lt_succ_of_lt hb), Nat.ne_of_lt hb⟩
  have hDC : h₂.objs.size ≠ H2.objs.size := by rw [hC]; exact Nat.ne_of_lt (Nat.lt_succ_self _)
  have old : ∀ b o, h₂.get? b = some o → h₁.get? b = some o := fun b o e => hsb₁.extBut b o (below b (Heap.lt_size e)).1 (Heap.get?_push_of_some _ (hH2 ▸ Heap.get?_push_of_some _ e))
  have hacc : h₁.get? h₂.objs.size = some (lstO [] 0) := hsb₁.extBut _ _ hDC (Heap.get?_push_of_some _ (hH2 ▸ Heap.get?_push_size _ rfl))
  have nD := fresh_size h₂
  have nCc : h₂.get? H2.objs.size = none := by
    cases e : h₂.get? H2.objs.size with
    | none => rfl
    | some o => have := Heap.lt_size e; rw [hC] at this; exact absurd this (Nat.not_lt.mpr (Nat.le_succ _))
  have hcl : ∀ x, (x, NameKind.free) ∈ scope.names → ∃ c, f.env.cells.lookup x = some c := fun x hx => by
    have := List.all_eq_true.mp hfr _ hx
    simp only [bne_self_eq_false, Bool.false_or, Bool.and_eq_true, Option.isSome_iff_exists, bne_iff_ne, ne_eq] at this
    obtain ⟨⟨av, hav⟩, hne⟩ := this
    obtain ⟨kx, _⟩ := hS.vars x av hav
    rcases kx with kx | ⟨_, c, hc⟩
    · exact absurd (by unfold Env.kindOf at kx; rw [hS.sc] at kx; exact kx) hne
    · exact ⟨c, hc⟩
  have hcl' : ∀ x c, (clOf f.env.cells scope.names []).lookup x = some c → f.env.cells.lookup x = some c ∧ (x, NameKind.free) ∈ scope.names := fun x c hx => by
    rcases clOf_mem (lookup_mem hx) with h | ⟨h, e⟩
    · cases h
    · obtain ⟨c', hc'⟩ := hcl x h
      dsimp only at e
      rw [hc'] at e
      exact ⟨by rw [hc', e]; rfl, h⟩
  have hcl₂ : ∀ x c, f.env.cells.lookup x = some c → (x, NameKind.free) ∈ scope.names → (clOf f.env.cells scope.names []).lookup x = some c := fun x c hx hm => by
    cases e : (clOf f.env.cells scope.names []).lookup x with
    | none =>
      obtain ⟨a, ha⟩ := clOf_has (cells := f.env.cells) (acc := []) (.inr hm)
      exact absurd e (by
        have : ∀ l : List (Str × Addr), (∃ a, (x, a) ∈ l) → l.lookup x ≠ none := fun l => by
          induction l with
          | nil => rintro ⟨a, h⟩; cases h
          | cons p r ih =>
            rintro ⟨a, h⟩
            obtain ⟨n, b⟩ := p
            by_cases q : x = n
            · subst q; rw [List.lookup_cons, beq_self_eq_true]; simp
            · rw [List.lookup_cons, beq_eq_false_iff_ne.mpr q]
              rcases List.mem_cons.mp h with h | h
              · cases h; exact absurd rfl q
              · exact ih ⟨a, h⟩
        exact this _ ⟨a, ha⟩)
    | some c' => rw [← hx, (hcl' x c' e).1]
  have freeKind : ∀ x, (x, NameKind.free) ∈ scope.names → (relabelS scope fi.sc).names.lookup x = some .free ∨ (relabelS scope fi.sc).names.lookup x = some .cell := fun x hx => (relabel_kind (okNames.at hn hx)).imp id fun h => h.2
  let cenv : Env := { scope := relabel scope f.env, locals := H2.objs.size, globals := f.env.globals, cells := clOf f.env.cells scope.names [], qual := f.env.qual, func := none, code := f.env.code, frame := f.env.frame, builtins := f.env.builtins }
  let f' : Frm := ⟨cenv, s.heap, P⟩
  have hsc : cenv.scope = (cfi scope fi).sc := by show relabel scope f.env = relabelS scope fi.sc; rw [relabelS_eq, hS.sc]
  have kd : ∀ x, cenv.kindOf x = (relabelS scope fi.sc).names.lookup x := fun x => by unfold Env.kindOf; rw [hsc]; rfl
  let μ' : Str → Option Value := fun x => if (relabelS scope fi.sc).names.lookup x = some .local then none else μ x
  have c₁ : CStep C P₂ h₂ P₂ h₁ := CStep.ext old
  have b₁ : Base C σ₁ P₂ h₁ := b₂.ext old
  have hS₁ := hS₂.after c₁ b₁
  have S' : St C (cfi scope fi) f' σ₁ P₂ μ' ρ' h₁ := by
    refine ⟨b₁, hsc, hkind, hS.glob, hS.blt, ⟨_, hns₁, fun x hx => ?_⟩, none_of_size b₂ nCc, old_none c₂ nCc, fun x c hx => ?_, fun x y c hx hy => ?_, (fun x hx => by cases hx), fun x av hx => ?_, fun x y ds es v hx _ _ _ => ?_, c₂.trans c₁⟩
    · have : (relabelS scope fi.sc).names.lookup x = some .local := (kd x) ▸ hx
      show none = if _ then none else μ x
      rw [if_pos this]
    · obtain ⟨h1, h2⟩ := hcl' x c hx
      obtain ⟨g1, g2, g3⟩ := hS₁.cell x c h1
      have nl : (relabelS scope fi.sc).names.lookup x ≠ some .local := by rcases freeKind x h2 with h | h <;> rw [h] <;> simp
      refine ⟨g1, fun h => nl ((kd x) ▸ h), ?_⟩
      show h₁.IsCell c (if _ then none else μ x)
      rw [if_neg nl]; exact g3
    · exact hS₁.capart x y c (hcl' x c hx).1 (hcl' y c hy).1
    · obtain ⟨g1, g2, g3⟩ := hsub x av hx
      have hm := lookup_mem g1
      obtain ⟨_, v, hv, hok⟩ := hS₁.vars x av g2
      obtain ⟨c, hc⟩ := hcl x hm
      have nl : (relabelS scope fi.sc).names.lookup x ≠ some .local := by rcases freeKind x hm with h | h <;> rw [h] <;> simp
      refine ⟨.inr ⟨by rw [kd x]; exact (freeKind x hm).symm, c, hcl₂ x c hc hm⟩, v, ?_, ?_⟩
      · show (if _ then none else μ x) = _
        rw [if_neg nl]; exact hv
      · cases av with
        | dat d => exact hok
        | src => exact hok
        | scr ns => exact hok
        | box ds => cases g3
    · have := (hsub x _ hx).2.2
      cases this
  have nb : NoBox ρ' := fun x ds e => by
    have := (hsub x _ e).2.2
    cases this
  have htn : ∀ x ∈ t.names, scope.names.lookup x = some .local := fun x hx => by
    have := List.all_eq_true.mp ht x hx
    simpa using this
  have hk' : ∀ x ∈ t.names, Storable (cfi scope fi) x := fun x hx => by
    rcases relabel_kind (sc := fi.sc) (htn x hx) with h | ⟨h, _⟩
    · exact .inl h
    · cases h
  have hfρ : ∀ x ∈ t.names, ρ'.lookup x = none := fun x hx => by
    cases e : ρ'.lookup x with
    | none => rfl
    | some av => have := (hsub x av e).1; rw [htn x hx] at this; cases this
  have loop : codeAny (model C.prog C.w) A (.compLoop (.ListComp elt [⟨te, iter, ifs, 0⟩] scope pos) 0 (.ref I) (.ref h₂.objs.size) f'.env) (RR (.ref h₂.objs.size) H2.objs.size) { s with heap := h₁, toks := t₂ } := by
    refine compRun hte hk' hfρ nb hc f' A { s with heap := h₁, toks := t₂ } P₂ μ' _ I h₂.objs.size fp wr P₂ ds S 0 [] [] 0 hA S' it (PLe.refl _) (fun b hb => (hwr b hb).2) (it.frame _ _ _ hSi fun b _ o e => old b o e) rfl (Nat.zero_le _) hacc .nil (none_of_size b₂ nD)
      (fun hm => (below _ (hfp _ hm)).2 rfl) nSfp (fun o => (hS₂.apartNew nD).2.2 o) (fun hm => (below _ (hfp _ hm)).1 rfl) (fun x c hx hm => nCfp x c (hcl' x c hx).1 hm) (old_none c₂ nD) (Ne.symm hDC) (fun x c hx => (hS₂.apartNew nD).2.1 x c (hcl' x c hx).1) (fun b hb => (hwr b hb).1) (by simpa using hlen) fun h' tk P' μ'' vs n le' S'' hD r' nP' => ?_
    · obtain ⟨m', hn', _⟩ := S''.ns
      exact hRR _ _ h' tk P' vs n m' S''.fr S''.B (old_none c₂ nD) nP' hD (by simpa using r') hn' (old_none c₂ nCc) S''.nsP hDC
  exact codeAny_compStart_list loop (it.self 0 _ _ _ (it.frame _ _ _ hSi fun b _ o e => old b o e) loop)
end
-- MComp4
section
variable {C : Cx} {k : Nat} {fi : Fi} {ρ ρ' ρ₁ ρ₂ : Loc} {σ σ₁ σ₂ σ₃ : Int × Int}
theorem okNames.locals {names : List (Str × NameKind)} (h : okNames names = true) : ∀ x ∈ names, x.2 = .local → names.lookup x.1 = some .local := fun x hx e => by
  have := okNames.at h hx
  rw [this, e]
theorem St.closure {f : Frm} {P : PH} {μ : Str → Option Value} {h : Heap} {scope : Scope} (hS : St C fi f σ P μ ρ h) (hfr : freesOk fi ρ scope.names = true) : closureFor scope f.env = pure (clOf f.env.cells scope.names []) := closure_is fun x hx => by
  have := List.all_eq_true.mp hfr _ hx
  simp only [bne_self_eq_false, Bool.false_or, Bool.and_eq_true, Option.isSome_iff_exists, bne_iff_ne, ne_eq] at this
  obtain ⟨⟨av, hav⟩, hne⟩ := this
  obtain ⟨kx, _⟩ := hS.vars x av hav
  rcases kx with kx | ⟨_, c, hc⟩
  · exact absurd (by unfold Env.kindOf at kx; rw [hS.sc] at kx; exact kx) hne
  · exact ⟨c, hc⟩
theorem Evf.comp {t : Tgt} {te elt iter : Expr} {ifs : List Expr} {scope : Scope} {pos : Pos} {ds ys : List PyData} (hte : TgtE t te) (hi : EvIt C k fi ρ σ te iter ds σ₁) (hsub : SubF scope ρ' ρ) (hc : Ct C k (cfi scope fi) ρ' elt ifs t σ₁ ds ys σ₂)
    (hlen : ds.length ≤ 100000) (hn : okNames scope.names = true := by rfl) (hcell : noCells scope.names = true := by rfl) (hfr : freesOk fi ρ scope.names = true := by rfl) (hkind : scope.kind = .function := by rfl) (ht : (t.names.all fun x => scope.names.lookup x == some .local) = true := by rfl)
    (hs : ∀ env x, foldedSetIterable iter env x = pure x := by intro _ _; rfl) : Evf C k fi ρ σ (.ListComp elt [⟨te, iter, ifs, 0⟩] scope pos) ys σ₂ := .mk <| fun f A s P μ E Q hA hS q => by
  rw [eval_ListComp]
  refine wpAny_comprehension_free (use := none) rfl (hs f.env) (hS.closure hfr) hkind (okNames.locals hn) (compCore hte hi hc hsub hn hcell hfr hkind ht hlen hA hS fun D Cc h' tk P' vs n m' c b nD nP' hD r hn' nC nPC hDC => ?_)
  refine ⟨m', hn', fun h'' hs'' => ?_⟩
  have nS : C.on = true → C.S ≠ Cc := fun o => (hS.apartNew nC).2.2 o
  obtain ⟨b₂, c₂⟩ := Mine.poke (f := ⟨f.env, s.heap, P⟩) b c nPC nC nS hs''
  exact q D vs n h'' tk P' c₂ b₂ nD nP' ((hs''.2 D hDC).trans hD) r
theorem Sx1.assignComp {x : Str} {px spos : Pos} {t : Tgt} {te elt iter : Expr} {ifs : List Expr} {scope : Scope} {pos : Pos} {ds ys : List PyData} (hte : TgtE t te) (hi : EvIt C k fi ρ σ te iter ds σ₁) (hsub : SubF scope ρ' ρ) (hc : Ct C k (cfi scope fi) ρ' elt ifs t σ₁ ds ys σ₂)
    (hlen : ds.length ≤ 100000) (hx : fi.sc.names.lookup x = some .local) (hsw : ∀ env : Env, env.scope = fi.sc → swapsWith (.ListComp elt [⟨te, iter, ifs, 0⟩] scope pos) (some (.Name x px)) spos.line env = pure true)
    (hn : okNames scope.names = true := by rfl) (hcell : noCells scope.names = true := by rfl) (hfr : freesOk fi ρ scope.names = true := by rfl) (hkind : scope.kind = .function := by rfl) (ht : (t.names.all fun x => scope.names.lookup x == some .local) = true := by rfl)
    (hs : ∀ env x, foldedSetIterable iter env x = pure x := by intro _ _; rfl) : Sx1 C k fi ρ σ (.Assign [.Name x px] (.ListComp elt [⟨te, iter, ifs, 0⟩] scope pos) spos) (.next ((x, .box ys) :: ρ) σ₂) := .mk <| fun f A s P μ E Q hA hS q => by
  rw [exec_Assign_Name_used _ _ _ _ (hsw f.env hS.sc)]
  refine wpAny_bind (wpAny_standAt (wpAny_bind ?_))
  show wpAny _ A (do let _ ← comprehension (.ListComp elt [⟨te, iter, ifs, 0⟩] scope pos) scope f.env _ (newList []) false (eval iter f.env) (some (PySem.assign (.Name x px) f.env))) _ _ s
  refine wpAny_bind (wpAny_mono (wpAny_comprehension_free (use := some (PySem.assign (.Name x px) f.env)) (Q := fun _ s' => Q .next s') rfl (hs f.env) (hS.closure hfr) hkind (okNames.locals hn)
    (compCore hte hi hc hsub hn hcell hfr hkind ht hlen hA hS fun D Cc h' tk P' vs n m' c b nD nP' hD r hn' nC nPC hDC => ?_)) (fun _ s' hq => wpAny_pure (wpAny_pure hq)) fun _ _ e => e)
  show wpAny _ A (PySem.assign (.Name x px) f.env (.ref D)) _ _ _
  have i : ItemOk s.heap P' h' (.ref D) (.box ys) := ⟨D, vs, n, rfl, nD, nP', hD, r⟩
  have nb : ∀ y es w, ρ.lookup y = some (.box es) → μ y = some (.ref w) → s.heap.get? w ≠ none := fun y es w hy hw => by
    obtain ⟨_, v, hv, B, us, m, rfl, hl, _⟩ := hS.vars y _ hy
    rw [hv] at hw; cases hw
    rw [hl]; simp
  have new := hS.apartNew nC
  refine wpAny_assign_Name (storeVar (s := { s with heap := h', toks := tk }) (hS.after c b) (.inl hx) ⟨i.newOk hS, fun _ _ y es _ hy e => nb y es D hy e nD⟩ fun h₂ tk₂ hS₂ keep => ?_)
  have nL : Cc ≠ f.env.locals := fun e => new.1 e.symm
  have keepC : ∀ o, h'.get? Cc = some o → h₂.get? Cc = some o := fun o e => keep Cc o nL (fun c hc e' => new.2.1 x c hc e'.symm) e
  refine ⟨m', hn'.at' keepC, fun h₃ hs₃ => ?_⟩
  refine q h₃ tk₂ P' _ c.le (hS₂.pokeB (fun y es hy e => ?_) hs₃ nPC ?_ new.2.2 new.1 new.2.1)
  · by_cases e' : y = x
    · rw [if_pos e'] at e
      cases e; exact hDC rfl
    · rw [if_neg e'] at e
      rw [lookup_cons_ne e'] at hy
      exact nb y es Cc hy e nC
  · cases e : f.hs.get? Cc with
    | none => rfl
    | some o => obtain ⟨o', e'⟩ := hS.fr.dom _ _ e; rw [nC] at e'; cases e'
end
-- MFun
theorem cellsFrom_mem : ∀ {names : List (Str × NameKind)} {n : Nat} {acc : List (Str × Addr)} {p : Str × Addr}, p ∈ cellsFrom n names acc → p ∈ acc ∨ ((p.1, NameKind.cell) ∈ names ∧ n ≤ p.2)
  | [], _, _, _, h => .inl h
  | (x, kd) :: r, n, acc, p, h => by
    unfold cellsFrom at h
    split at h
    · rename_i hk
      have hk : kd = .cell := by simpa using hk
      subst hk
      rcases cellsFrom_mem (names := r) h with h | ⟨h, e⟩
      · rcases List.mem_cons.mp h with rfl | h
        · exact .inr ⟨.head _, Nat.le_refl _⟩
        · exact .inl h
      · exact .inr ⟨.tail _ h, Nat.le_of_succ_le e⟩
    · rcases cellsFrom_mem (names := r) h with h | ⟨h, e⟩
      · exact .inl h
      · exact .inr ⟨.tail _ h, e⟩
theorem cellsFrom_has : ∀ {names : List (Str × NameKind)} {n : Nat} {acc : List (Str × Addr)} {x : Str}, (∃ a, (x, a) ∈ acc) ∨ (x, NameKind.cell) ∈ names → ∃ a, (x, a) ∈ cellsFrom n names acc
  | [], _, _, _, h => by
    rcases h with h | h
    · exact h
    · cases h
  | (y, kd) :: r, n, acc, x, h => by
    unfold cellsFrom
    split
    · rename_i hk
      refine cellsFrom_has (names := r) ?_
      rcases h with ⟨a, h⟩ | h
      · exact .inl ⟨a, .tail _ h⟩
      · rcases List.mem_cons.mp h with h | h
        · cases h; exact .inl ⟨_, .head _⟩
        · exact .inr h
    · rename_i hk
      refine cellsFrom_has (names := r) ?_
      rcases h with h | h
      · exact .inl h
      · rcases List.mem_cons.mp h with h | h
        · cases h; exact absurd rfl hk
        · exact .inr h
theorem mem_lookup {α : Type} : ∀ {l : List (Str × α)} {x : Str} {a : α}, (x, a) ∈ l → ∃ b, l.lookup x = some b
  | (y, b) :: r, x, a, h => by
    by_cases q : x = y
    · subst q; exact ⟨b, by rw [List.lookup_cons, beq_self_eq_true]⟩
    · rw [List.lookup_cons, beq_eq_false_iff_ne.mpr q]
      rcases List.mem_cons.mp h with h | h
      · cases h; exact absurd rfl q
      · exact mem_lookup h
theorem bindL_eq {kindOf : Str → Option NameKind} {x : Str} (hx : kindOf x = some .local) : ∀ (b : List (Str × Value)) (m : Str → Option Value), bindL kindOf b m x = (b.reverse.lookup x).or (m x)
  | [], m => by simp [bindL]
  | (n, v) :: r, m => by
    unfold bindL
    rw [bindL_eq hx r, List.reverse_cons, List.lookup_append, Option.or_assoc]
    congr 1
    by_cases q : x = n
    · subst q
      rw [if_pos hx, List.lookup_cons, beq_self_eq_true]; simp
    · rw [List.lookup_cons, beq_eq_false_iff_ne.mpr q]
      split
      · simp [q]
      · simp
theorem bindC_eq {kindOf : Str → Option NameKind} {x : Str} (hx : kindOf x ≠ some .local) : ∀ (b : List (Str × Value)) (m : Str → Option Value), bindC kindOf b m x = (b.reverse.lookup x).or (m x)
  | [], m => by simp [bindC]
  | (n, v) :: r, m => by
    unfold bindC
    rw [bindC_eq hx r, List.reverse_cons, List.lookup_append, Option.or_assoc]
    congr 1
    by_cases q : x = n
    · subst q
      rw [if_neg hx, List.lookup_cons, beq_self_eq_true]; simp
    · rw [List.lookup_cons, beq_eq_false_iff_ne.mpr q]
      split
      · simp
      · simp [q]
noncomputable def avOf : VD → AV
  | .dat d => .dat d
  | .src => .src
  | .scr ns => .scr ns
  | .var _ => .src
structure FnAt (C : Cx) (x : Str) (n : Nat) (extra : List PyData) (names : List Str) (body : List Stmt) (sc : Scope) : Prop where
  ex : ∃ a o fd, C.mg x = some (.ref a) ∧ C.h₀.get? a = some o ∧ o.data = .func fd ∧ fd.body = .stmts body ∧ fd.scope = sc ∧ fd.closure = [] ∧ fd.globals = mainGlobals ∧ fd.builtins = builtinsNs ∧ C.h₀.CodeRec fd.code fd.qualname ∧
    ∀ (s : Shared) (vs : List Value), (∀ b o, C.h₀.get? b = some o → s.heap.get? b = some o) → vs.length = n → ∃ us, (∀ P : PH, Reps P us extra) ∧ BindsTo s fd ⟨vs, []⟩ (names.zip (vs ++ us))
noncomputable def FnD (C : Cx) (k : Nat) (x : Str) (rs : List VD) (σ : Int × Int) (d : PyData) (σ' : Int × Int) : Prop :=
  ∃ a o fd, C.mg x = some (.ref a) ∧ C.h₀.get? a = some o ∧ o.data = .func fd ∧ CallD C k σ (.ref a) rs d σ'
noncomputable def CallO (C : Cx) (k : Nat) (σ : Int × Int) (v : Value) (rs : List VD) (ds : List PyData) (σ' : Int × Int) : Prop :=
  ∀ (A : Around) (s : Shared) (P : PH) (E : Value → Shared → Prop) (Q : Value → Shared → Prop) (vs : List Value), AOk A k → Base C σ P s.heap → ARep C P vs rs →
    (∀ a us n h' tk P', CStep C P s.heap P' h' → Base C σ' P' h' → s.heap.get? a = none → P' a = none → h'.get? a = some (lstO us n) → Reps P' us ds → Q (.ref a) { s with heap := h', toks := tk }) → wpAny (model C.prog C.w) A (call v vs) Q E s
noncomputable def FnO (C : Cx) (k : Nat) (x : Str) (rs : List VD) (σ : Int × Int) (ds : List PyData) (σ' : Int × Int) : Prop :=
  ∃ a o fd, C.mg x = some (.ref a) ∧ C.h₀.get? a = some o ∧ o.data = .func fd ∧ CallO C k σ (.ref a) rs ds σ'
section
variable {C : Cx} {k : Nat} {fi : Fi} {ρ ρ' ρ₁ ρ₂ ρ₀ : Loc} {σ σ₁ σ₂ σ₃ σ' : Int × Int}
theorem AOk.deeper {A : Around} {env : Env} (h : AOk A (k + 1)) : AOk (A.deeper env) k := ⟨h.1, by have := h.2.1; show A.depth + 1 + k ≤ 900; omega, by have := h.2.2; show A.units + 3 + 20 * k ≤ 9000; omega⟩
theorem ARep.length {P : PH} : ∀ {vs : List Value} {rs : List VD}, ARep C P vs rs → vs.length = rs.length
  | _, _, .nil => rfl
  | _, _, .dat _ b => by rw [List.length_cons, List.length_cons, b.length]
  | _, _, .src _ b => by rw [List.length_cons, List.length_cons, b.length]
  | _, _, .scr _ _ b => by rw [List.length_cons, List.length_cons, b.length]
noncomputable def Bound (C : Cx) (P : PH) : List (Str × Value) → Loc → Prop
  | [], [] => True
  | (x, v) :: b, (y, av) :: ρ => x = y ∧ isBox av = false ∧ (∀ f h, VOk C f P h v av) ∧ Bound C P b ρ
  | _, _ => False
theorem Bound.at {P : PH} : ∀ {b : List (Str × Value)} {ρ : Loc}, Bound C P b ρ → ∀ {x : Str} {av : AV}, ρ.lookup x = some av → ∃ v, b.lookup x = some v ∧ isBox av = false ∧ ∀ f h, VOk C f P h v av
  | [], [], _, _, _, e => by cases e
  | (x, v) :: b, (y, av) :: ρ, ⟨e, n, h, r⟩, z, aw, hz => by
    subst e
    by_cases q : z = x
    · subst q
      rw [List.lookup_cons, beq_self_eq_true] at hz ⊢
      cases hz
      exact ⟨v, rfl, n, h⟩
    · rw [List.lookup_cons, beq_eq_false_iff_ne.mpr q] at hz ⊢
      exact r.at hz
theorem Bound.app {P : PH} : ∀ {b b' : List (Str × Value)} {ρ ρ' : Loc}, Bound C P b ρ → Bound C P b' ρ' → Bound C P (b ++ b') (ρ ++ ρ')
  | [], _, [], _, _, h => h
  | (_, _) :: _, _, (_, _) :: _, _, ⟨e, n, h, r⟩, h' => ⟨e, n, h, r.app h'⟩
theorem Bound.rev {P : PH} : ∀ {b : List (Str × Value)} {ρ : Loc}, Bound C P b ρ → Bound C P b.reverse ρ.reverse
  | [], [], _ => trivial
  | (_, _) :: _, (_, _) :: _, ⟨e, n, h, r⟩ => by
    rw [List.reverse_cons, List.reverse_cons]
    exact r.rev.app ⟨e, n, h, trivial⟩
theorem Bound.of {P : PH} : ∀ {vs : List Value} {rs : List VD}, ARep C P vs rs → ∀ {us : List Value} {ds : List PyData}, Reps P us ds → ∀ (names : List Str), Bound C P (names.zip (vs ++ us)) (names.zip (rs.map avOf ++ ds.map .dat))
  | _, _, _, _, _, _, [] => trivial
  | _, _, .nil, _, _, .nil, _ :: _ => trivial
  | _, _, .nil, _, _, .cons a b, x :: names => ⟨rfl, rfl, fun _ _ => a, Bound.of .nil b names⟩
  | _, _, .dat a b, _, _, c, x :: names => ⟨rfl, rfl, fun _ _ => a, Bound.of b c names⟩
  | _, _, .src a b, _, _, c, x :: names => ⟨rfl, rfl, fun _ _ => ⟨a, rfl⟩, Bound.of b c names⟩
  | _, _, .scr a a' b, _, _, c, x :: names => ⟨rfl, rfl, fun _ _ => ⟨_, _, rfl, a, a'⟩, Bound.of b c names⟩
theorem Bound.mem {P : PH} {b : List (Str × Value)} {ρ : Loc} (h : Bound C P b ρ) : ∀ x ∈ b, ∃ av, (x.1, av) ∈ ρ := by
  induction b generalizing ρ with
  | nil => intro x hx; cases hx
  | cons p b ih =>
    obtain ⟨n, v⟩ := p
    match ρ, h with
    | (y, av) :: ρ, ⟨e, _, _, r⟩ =>
      intro x hx
      rcases List.mem_cons.mp hx with rfl | hx
      · exact ⟨av, by rw [← e]; exact .head _⟩
      · obtain ⟨av', h'⟩ := ih r x hx
        exact ⟨av', .tail _ h'⟩
noncomputable def paramsOk (sc : Scope) (xs : List Str) : Bool := xs.all fun x => sc.names.lookup x == some .local || sc.names.lookup x == some .cell
noncomputable def ownOk (sc : Scope) (xs : List Str) : Bool := xs.all fun x => sc.names.lookup x == some .cell
set_option maxHeartbeats 1000000 in
theorem fn_core {extra : List PyData} {names : List Str} {body : List Stmt} {sc : Scope} {own : List Str} {rs : List VD} {o : Out} {A : Around} {s : Shared} {P : PH} {E : Value → Shared → Prop} {Q : Value → Shared → Prop} {vs us : List Value} {a : Addr} {ob : Obj} {fd : FuncData}
    (ho : C.h₀.get? a = some ob) (hd : ob.data = .func fd) (hb : fd.body = .stmts body) (hsc : fd.scope = sc) (hcl : fd.closure = []) (hg : fd.globals = mainGlobals) (hbt : fd.builtins = builtinsNs) (hcd : C.h₀.CodeRec fd.code fd.qualname)
    (hA : AOk A (k + 1)) (B : Base C σ P s.heap) (r : ARep C P vs rs) (ru : Reps P us extra) (bind : BindsTo s fd ⟨vs, []⟩ (names.zip (vs ++ us)))
    (h : Sx C k ⟨sc, own⟩ ρ₀ σ body o) (hρ : (names.zip (rs.map avOf ++ extra.map .dat)).reverse = ρ₀)
    (hk : sc.kind = .function) (hco : sc.isCoroutine = false) (hgen : sc.isGenerator = false) (hn : okNames sc.names = true) (hp : paramsOk sc names = true) (hown : ownOk sc own = true)
    (q : ∀ (env : Env) (s₁ : Shared), Ends C ⟨sc, own⟩ ⟨env, s.heap, P⟩ P (fun fl s' => Q (match fl with | .ret v => v | _ => .none) s') { s with heap := s₁.heap, toks := s₁.toks } o) : wpAny (model C.prog C.w) A (call (.ref a) vs) Q E s := by
  subst hsc
  have kp : ∀ b o, C.h₀.get? b = some o → s.heap.get? b = some o := fun b o e => B.stay b o (B.base b o e)
  refine wpAny_call (codeAny_call_function hA.lt (kp _ _ ho) hd hco hgen hb (by obtain ⟨c, oc, vs, t, e, e1, e2, e3⟩ := hcd; exact ⟨c, oc, vs, t, e, kp _ _ e1, e2, e3⟩) (bind _ _ _ _ ?_))
  rw [hcl]
  have bd := (Bound.of r ru names).rev
  rw [hρ] at bd
  refine wpAny_newFunctionEnv_cells hk (fun y hy => ?_) fun env he s' X => ?_
  · have hy' : y.1 ∈ names := (List.of_mem_zip hy).1
    have := List.all_eq_true.mp hp _ hy'
    simp only [Bool.or_eq_true, beq_iff_eq] at this
    rcases this with h | h
    · exact .inl h
    · refine .inr ⟨h, ?_⟩
      obtain ⟨a, ha⟩ := cellsFrom_has (names := fd.scope.names) (n := s.heap.objs.size + 1) (acc := []) (.inr (lookup_mem h))
      obtain ⟨b, hb⟩ := mem_lookup ha
      rw [hb]; rfl
  · have hks : env.scope = fd.scope := by rw [he]; rfl
    have hcells : env.cells = cellsFrom (s.heap.objs.size + 1) fd.scope.names [] := by rw [he]; rfl
    have hloc : env.locals = s.heap.objs.size := by rw [he]; rfl
    have kd : ∀ x, env.kindOf x = fd.scope.names.lookup x := fun x => by unfold Env.kindOf; rw [hks]
    obtain ⟨h₁, tk, rfl, keep⟩ := X.done
    have nL : s.heap.get? env.locals = none := by rw [hloc]; exact fresh_size _
    have cellKind : ∀ x c, env.cells.lookup x = some c → env.kindOf x = some .cell ∧ s.heap.get? c = none := fun x c hc => by
      have hm := lookup_mem hc
      have hlt := X.above x c hm
      rw [hcells] at hm
      rcases cellsFrom_mem hm with h | ⟨h, _⟩
      · cases h
      · refine ⟨by rw [kd]; exact okNames.at hn h, ?_⟩
        cases e : s.heap.get? c with
        | none => rfl
        | some o => have := Heap.lt_size e; rw [hloc] at hlt; exact absurd hlt (Nat.not_lt.mpr (Nat.le_of_lt this))
    let μ : Str → Option Value := fun y => (names.zip (vs ++ us)).reverse.lookup y
    have c₁ : CStep C P s.heap P h₁ := CStep.ext keep
    have S₁ : St C ⟨fd.scope, own⟩ ⟨env, s.heap, P⟩ σ P μ ρ₀ h₁ := by
      refine ⟨B.ext keep, hks, hk, by rw [he]; exact hg, by rw [he]; exact hbt, ⟨_, X.toInCall.ns, fun y hy => ?_⟩, none_of_size B nL, nL, fun y c hc => ?_, fun y z c hy hz => ?_, fun y hy => ?_, fun y av hy => ?_, fun y z ds es v hy _ _ _ => ?_, c₁⟩
      · rw [bindL_eq hy]; simp [μ]
      · obtain ⟨k1, k2⟩ := cellKind y c hc
        have nl : env.kindOf y ≠ some .local := by rw [k1]; simp
        refine ⟨none_of_size B k2, nl, ?_⟩
        have := X.cell y c hc
        rw [bindC_eq nl] at this
        simpa [μ] using this
      · exact name_of_addr X.apart (lookup_mem hy) (lookup_mem hz)
      · have := List.all_eq_true.mp hown _ hy
        have hk' : fd.scope.names.lookup y = some .cell := by simpa using this
        obtain ⟨a, ha⟩ := cellsFrom_has (names := fd.scope.names) (n := s.heap.objs.size + 1) (acc := []) (.inr (lookup_mem hk'))
        obtain ⟨b, hb⟩ := mem_lookup ha
        rw [← hcells] at hb
        exact ⟨b, hb, (cellKind y b hb).2⟩
      · obtain ⟨v, hv, _, hok⟩ := bd.at hy
        refine ⟨?_, v, hv, hok _ _⟩
        have hm : y ∈ names := (List.of_mem_zip (List.mem_reverse.mp (lookup_mem hv))).1
        have := List.all_eq_true.mp hp _ hm
        simp only [Bool.or_eq_true, beq_iff_eq] at this
        rcases this with h | h
        · exact .inl (by rw [← h]; exact kd y)
        · refine .inr ⟨.inl (by rw [← h]; exact kd y), ?_⟩
          obtain ⟨a, ha⟩ := cellsFrom_has (names := fd.scope.names) (n := s.heap.objs.size + 1) (acc := []) (.inr (lookup_mem h))
          obtain ⟨b, hb⟩ := mem_lookup ha
          rw [← hcells] at hb
          exact ⟨b, hb⟩
      · obtain ⟨_, _, nbx, _⟩ := bd.at hy
        cases nbx
    refine ⟨(C.nolimit.keeps kp).keeps keep, codeAny_func ?_⟩
    refine h.run ⟨env, s.heap, P⟩ (A.deeper env) { s with heap := h₁, toks := tk } P μ _ _ hA.deeper S₁ ?_
    exact q env { s with heap := h₁, toks := tk }
theorem FnD.intro {x : Str} {n : Nat} {extra : List PyData} {names : List Str} {body : List Stmt} {sc : Scope} {rs : List VD} {d : PyData} (own : List Str) (F : FnAt C x n extra names body sc) (h : Sx C k ⟨sc, own⟩ ρ₀ σ body (.ret d σ'))
    (hρ : (names.zip (rs.map avOf ++ extra.map .dat)).reverse = ρ₀ := by rfl) (hl : rs.length = n := by rfl) (hk : sc.kind = .function := by rfl) (hco : sc.isCoroutine = false := by rfl) (hgen : sc.isGenerator = false := by rfl) (hn : okNames sc.names = true := by rfl) (hp : paramsOk sc names = true := by rfl) (hown : ownOk sc own = true := by rfl) :
    FnD C (k + 1) x rs σ d σ' := by
  obtain ⟨a, o, fd, e1, e2, e3, e4, e5, e6, e7, e8, e9, e10⟩ := F.ex
  refine ⟨a, o, fd, e1, e2, e3, fun A s P E Q vs hA B r q => ?_⟩
  obtain ⟨us, ru, bind⟩ := e10 s vs (fun b o e => B.stay b o (B.base b o e)) (r.length.trans hl)
  exact fn_core e2 e3 e4 e5 e6 e7 e8 e9 hA B r (ru P) bind h hρ hk hco hgen hn hp hown fun env s₁ v h' tk P' c b r => q v h' tk P' c b r
theorem FnO.intro {x : Str} {n : Nat} {extra : List PyData} {names : List Str} {body : List Stmt} {sc : Scope} {rs : List VD} {ds : List PyData} (own : List Str) (F : FnAt C x n extra names body sc) (h : Sx C k ⟨sc, own⟩ ρ₀ σ body (.own ds σ'))
    (hρ : (names.zip (rs.map avOf ++ extra.map .dat)).reverse = ρ₀ := by rfl) (hl : rs.length = n := by rfl) (hk : sc.kind = .function := by rfl) (hco : sc.isCoroutine = false := by rfl) (hgen : sc.isGenerator = false := by rfl) (hn : okNames sc.names = true := by rfl) (hp : paramsOk sc names = true := by rfl) (hown : ownOk sc own = true := by rfl) :
    FnO C (k + 1) x rs σ ds σ' := by
  obtain ⟨a, o, fd, e1, e2, e3, e4, e5, e6, e7, e8, e9, e10⟩ := F.ex
  refine ⟨a, o, fd, e1, e2, e3, fun A s P E Q vs hA B r q => ?_⟩
  obtain ⟨us, ru, bind⟩ := e10 s vs (fun b o e => B.stay b o (B.base b o e)) (r.length.trans hl)
  exact fn_core e2 e3 e4 e5 e6 e7 e8 e9 hA B r (ru P) bind h hρ hk hco hgen hn hp hown fun env s₁ a us n h' tk P' c b x y z r => q a us n h' tk P' c b x y z r
theorem global_mine {f : Frm} {A : Around} {s : Shared} {P : PH} {μ : Str → Option Value} {E : Value → Shared → Prop} {Q : Value → Shared → Prop} {x : Str} {pos : Pos} {v : Value} (hS : St C fi f σ P μ ρ s.heap) (hx : fi.sc.names.lookup x = some .globalImplicit)
    (hv : C.mg x = some v) (hd : (x == ("__debug__" : Str)) = false) (q : Q v s) : wpAny (model C.prog C.w) A (eval (.Name x pos) f.env) Q E s := by
  have kp : ∀ b o, C.h₀.get? b = some o → s.heap.get? b = some o := fun b o e => hS.B.stay b o (hS.B.base b o e)
  exact Name_function_global (by rw [hS.sc]; exact hS.fnk) (by unfold Env.kindOf; rw [hS.sc]; exact hx) (loadGlobal_global (mg := C.mg) (by rw [hS.glob]; exact C.g.keeps kp) hv q) hd
theorem Ev.global {x : Str} {pos : Pos} {d : PyData} (hr : ∃ v, C.mg x = some v ∧ Rep (fun a => C.h₀.get? a) v d) (hx : fi.sc.names.lookup x = some .globalImplicit := by rfl) (hd : (x == ("__debug__" : Str)) = false := by decide) : Ev C k fi ρ σ (.Name x pos) (.dat d) σ := .mk <| fun f A s P μ E Q hA hS q => by
  obtain ⟨v, hv, r⟩ := hr
  exact global_mine hS hx hv hd (q v s.heap s.toks P (CStep.refl ..) hS.B (Rep.mono hS.B.base r))
theorem Ev.callF {x : Str} {p pos : Pos} {e : Expr} {es : List Expr} {rs : List VD} {d : PyData} (ha : Args C k fi ρ σ (e :: es) rs σ₁) (ho : FnD C k x rs σ₁ d σ₂) (hx : fi.sc.names.lookup x = some .globalImplicit := by rfl)
    (hs : (e :: es).all noStar = true := by rfl) (hd : (x == ("__debug__" : Str)) = false := by decide) : Ev C k fi ρ σ (.Call (.Name x p) (e :: es) [] pos) (.dat d) σ₂ := .mk <| fun f A s P μ E Q hA hS q => by
  obtain ⟨a, o, fd, h1, h2, h3, h4⟩ := ho
  rw [eval_Call_name]
  refine wpAny_bind (global_mine hS hx h1 hd ?_)
  have hs1 : noStar e = true := by simp only [List.all_cons, Bool.and_eq_true] at hs; exact hs.1
  refine PySem.Calls.callWith_function (o := o) (fd := fd) ?_
  have e1 := starEach_cons (env := f.env) (es := es) hs1
  have := ha.run f A s P μ E (fun vs s' => (s'.heap.get? a = some o ∧ o.data = .func fd) ∧ wpAny (model C.prog C.w) A (call (.ref a) ([] ++ vs) []) Q E s') pos hA hS fun vs h' tk P' c b r =>
    ⟨⟨b.stay _ _ (b.base _ _ h2), h3⟩, h4 A { s with heap := h', toks := tk } P' E Q vs hA b r fun v h'' tk' P'' c' b' r' => q v h'' tk' P'' (c.trans c') b' r'⟩
  rw [e1] at this ⊢
  exact evalArgs_plain this
theorem Ev.callF0 {x : Str} {p pos : Pos} {d : PyData} (ho : FnD C k x [] σ d σ₂) (hx : fi.sc.names.lookup x = some .globalImplicit := by rfl)
    (hd : (x == ("__debug__" : Str)) = false := by decide) : Ev C k fi ρ σ (.Call (.Name x p) [] [] pos) (.dat d) σ₂ := .mk <| fun f A s P μ E Q hA hS q => by
  obtain ⟨a, o, fd, h1, h2, h3, h4⟩ := ho
  rw [eval_Call_name]
  refine wpAny_bind (global_mine hS hx h1 hd ?_)
  refine PySem.Calls.callWith_function (o := o) (fd := fd) ?_
  refine PyProof.Rows.evalArgs_nil3 ⟨⟨hS.B.stay _ _ (hS.B.base _ _ h2), h3⟩, ?_⟩
  exact h4 A s P E Q [] hA hS.B .nil q
theorem Evf.callF {x : Str} {p pos : Pos} {e : Expr} {es : List Expr} {rs : List VD} {ds : List PyData} (ha : Args C k fi ρ σ (e :: es) rs σ₁) (ho : FnO C k x rs σ₁ ds σ₂) (hx : fi.sc.names.lookup x = some .globalImplicit := by rfl)
    (hs : (e :: es).all noStar = true := by rfl) (hd : (x == ("__debug__" : Str)) = false := by decide) : Evf C k fi ρ σ (.Call (.Name x p) (e :: es) [] pos) ds σ₂ := .mk <| fun f A s P μ E Q hA hS q => by
  obtain ⟨a, o, fd, h1, h2, h3, h4⟩ := ho
  rw [eval_Call_name]
  refine wpAny_bind (global_mine hS hx h1 hd ?_)
  have hs1 : noStar e = true := by simp only [List.all_cons, Bool.and_eq_true] at hs; exact hs.1
  refine PySem.Calls.callWith_function (o := o) (fd := fd) ?_
  have e1 := starEach_cons (env := f.env) (es := es) hs1
  have := ha.run f A s P μ E (fun vs s' => (s'.heap.get? a = some o ∧ o.data = .func fd) ∧ wpAny (model C.prog C.w) A (call (.ref a) ([] ++ vs) []) Q E s') pos hA hS fun vs h' tk P' c b r =>
    ⟨⟨b.stay _ _ (b.base _ _ h2), h3⟩, h4 A { s with heap := h', toks := tk } P' E Q vs hA b r fun a us n h'' tk' P'' c' b' x y z r' => q a us n h'' tk' P'' (c.trans c') b' (old_none c x) y z r'⟩
  rw [e1] at this ⊢
  exact evalArgs_plain this
end
-- MFor
noncomputable def PH.set (P : PH) (a : Addr) (q : Option Obj) : PH := fun b => if b = a then q else P b
theorem PH.set_ne {P : PH} {a b : Addr} {q : Option Obj} (h : b ≠ a) : P.set a q b = P b := by unfold PH.set; rw [if_neg h]
theorem PH.set_eq {P : PH} {a : Addr} {q : Option Obj} : P.set a q a = q := by unfold PH.set; rw [if_pos rfl]
noncomputable def NoSeq (o : Obj) : Prop := ∀ vs n, o.data ≠ .seq vs n
mutual
theorem Rep.set {P : PH} {I : Addr} {o : Obj} {q : Option Obj} (e : P I = some o) (hI : NoSeq o) : ∀ {v : Value} {d : PyData}, Rep P v d → Rep (P.set I q) v d
  | _, _, .none => .none
  | _, _, .bool b => .bool b
  | _, _, .int i t => .int i t
  | _, _, .str x t => .str x t
  | _, _, .tup (a := a) h r => .tup ((PH.set_ne (by rintro rfl; rw [e] at h; cases h; exact hI _ _ rfl)).trans h) (Reps.set e hI r)
  | _, _, .lst (a := a) h r => .lst ((PH.set_ne (by rintro rfl; rw [e] at h; cases h; exact hI _ _ rfl)).trans h) (Reps.set e hI r)
theorem Reps.set {P : PH} {I : Addr} {o : Obj} {q : Option Obj} (e : P I = some o) (hI : NoSeq o) : ∀ {vs : List Value} {ds : List PyData}, Reps P vs ds → Reps (P.set I q) vs ds
  | _, _, .nil => .nil
  | _, _, .cons a b => .cons (Rep.set e hI a) (Reps.set e hI b)
end
section
variable {C : Cx} {k : Nat} {fi : Fi} {ρ ρ' ρ₁ ρ₂ ρ₀ : Loc} {σ σ₁ σ₂ σ₃ σ' : Int × Int}
theorem St.set {f : Frm} {P : PH} {μ : Str → Option Value} {h h' : Heap} {I : Addr} {o : Obj} {q : Option Obj} (s : St C fi f σ P μ ρ h) (e : P I = some o) (hI : NoSeq o) (n₀ : f.P₀ I = none) (nF : f.hs.get? I = none) (nH : C.h₀.get? I = none)
    (keep : ∀ b o, b ≠ I → h.get? b = some o → h'.get? b = some o) (hq : ∀ o', q = some o' → h'.get? I = some o') : St C fi f σ (P.set I q) μ ρ h' := by
  have ne : ∀ {b}, P b = none → b ≠ I := by rintro b n rfl; rw [n] at e; cases e
  obtain ⟨m, hn, hm⟩ := s.ns
  obtain ⟨oL, es, ep, hL, hLd, hLk, hLf⟩ := id hn
  have nL := ne s.nsP
  refine ⟨⟨fun a o' ea => ?_, fun a o' ea => ?_, fun on => ?_⟩, s.sc, s.fnk, s.glob, s.blt, ⟨m, ⟨oL, es, ep, keep _ _ nL hL, hLd, hLk, hLf⟩, hm⟩, (PH.set_ne nL).trans s.nsP, s.nsF, fun x c hc => ?_, s.capart, s.cown, fun x av hx => ?_, s.boxes, ⟨fun a o' ea => ?_, fun a o' ea => ?_, fun a o' n ea => ?_, fun a o' ea => ?_⟩⟩
  · by_cases h : a = I
    · subst h; rw [PH.set_eq] at ea; exact hq o' ea
    · rw [PH.set_ne h] at ea; exact keep a o' h (s.B.stay a o' ea)
  · exact (PH.set_ne (by rintro rfl; rw [nH] at ea; cases ea)).trans (s.B.base a o' ea)
  · obtain ⟨x, ta, tb, n, l⟩ := s.B.src on
    exact ⟨(PH.set_ne (ne x)).trans x, ta, tb, n, keep _ _ (ne x) l⟩
  · obtain ⟨h1, h2, oc, hoc, hd⟩ := s.cell x c hc
    exact ⟨(PH.set_ne (ne h1)).trans h1, h2, oc, keep _ _ (ne h1) hoc, hd⟩
  · obtain ⟨h1, v, h2, h3⟩ := s.vars x av hx
    refine ⟨h1, v, h2, ?_⟩
    cases av with
    | dat d => exact Rep.set e hI h3
    | src => exact h3
    | scr ns => exact h3
    | box ds =>
      obtain ⟨B, vs, n, rfl, hl, hr, hP, hS, hF⟩ := h3
      exact ⟨B, vs, n, rfl, keep _ _ (ne hP) hl, Reps.set e hI hr, (PH.set_ne (ne hP)).trans hP, hS, hF⟩
  · exact (PH.set_ne (by rintro rfl; rw [n₀] at ea; cases ea)).trans (s.fr.le a o' ea)
  · by_cases h : a = I
    · subst h; exact .inr nF
    · rw [PH.set_ne h] at ea; exact s.fr.fresh a o' ea
  · exact keep a o' (by rintro rfl; rw [nF] at ea; cases ea) (s.fr.keep a o' n ea)
  · obtain ⟨o'', e''⟩ := s.fr.dom a o' ea
    exact ⟨o'', keep a o'' (by rintro rfl; rw [nF] at ea; cases ea) e''⟩
structure Fo (C : Cx) (k : Nat) (fi : Fi) (ρ : Loc) (σ : Int × Int) (x : Str) (body : List Stmt) (ds : List PyData) (o : Out) : Prop where
  run : ∀ (f : Frm) (A : Around) (s : Shared) (P : PH) (μ : Str → Option Value) (E : Value → Shared → Prop) (Q : Flow → Shared → Prop) (p : Pos) (I ax : Addr) (vs : List Value) (n i : Nat) (oI : Obj), AOk A k → St C fi f σ P μ ρ s.heap → P I = some oI → s.heap.IsListIter I ax i → P ax = some (lstO vs n) →
    f.P₀ I = none → f.hs.get? I = none → C.h₀.get? I = none → Reps P (vs.drop i) ds → Ends C fi f (P.set I none) Q s o →
    codeAny (model C.prog C.w) A (.forLoop (.Name x p) (.ref I) body [] f.env) (fun r s' => match r with | .ok g => Q g s' | .error e => E e s') s
theorem iter_noSeq {h : Heap} {I ax : Addr} {i : Nat} {o : Obj} (x : h.IsListIter I ax i) (e : h.get? I = some o) : NoSeq o := by
  obtain ⟨o', e', _, hd⟩ := x
  rw [e] at e'; cases e'
  intro vs n h; rw [hd] at h; cases h
theorem Fo.nil {x : Str} {body : List Stmt} : Fo C k fi ρ σ x body [] (.next ρ σ) := .mk <| fun f A s P μ E Q p I ax vs n i oI hA hS eI hit hax n₀ nF nH r q => by
  have hl : s.heap.IsList ax vs.toArray := ⟨_, hS.B.stay _ _ hax, rfl, n, rfl⟩
  have hend : vs.toArray[i]? = none := by
    have : vs.drop i = [] := by cases h : vs.drop i with | nil => rfl | cons a b => rw [h] at r; cases r
    rw [List.drop_eq_nil_iff] at this
    simpa using this
  refine codeAny_of_tree ?_
  show wpAny _ A ((forTurn (.Name x p) (.ref I) body [] f.env).onRaise (fun x => do noteFrame x f.env; theTreesLotGoes x)) _ _ s
  refine wpAny_noted ?_
  simp only [forTurn]
  refine wpAny_bind (wpAny_standAt (wpAny_bind (wpAny_onRaise (wpAny_pyNext_list_end hA.1 hit hl hend fun h' he => ?_))))
  refine wpAny_pure ⟨rfl, codeAny_block (wpAny_execs_nil ?_)⟩
  exact q h' s.toks _ μ (PLe.refl _) (hS.set eI (iter_noSeq hit (hS.B.stay _ _ eI)) n₀ nF nH he (fun _ e => by cases e))
theorem Fo.cons {x : Str} {body : List Stmt} {d : PyData} {ds : List PyData} {o : Out} (hk : Storable fi x) (hb : Sx C k fi ((x, .dat d) :: ρ) σ body (.next ρ₂ σ₂)) (hr : Fo C k fi ρ₂ σ₂ x body ds o) : Fo C k fi ρ σ x body (d :: ds) o := .mk <| fun f A s P μ E Q p I ax vs n i oI hA hS eI hit hax n₀ nF nH r q => by
  have hl : s.heap.IsList ax vs.toArray := ⟨_, hS.B.stay _ _ hax, rfl, n, rfl⟩
  have hns := iter_noSeq hit (hS.B.stay _ _ eI)
  generalize hv : vs.drop i = us at r
  cases r with
  | cons rv rs =>
  rename_i v us
  obtain ⟨hx, hd'⟩ := drop_cons hv
  refine codeAny_of_tree ?_
  show wpAny _ A ((forTurn (.Name x p) (.ref I) body [] f.env).onRaise (fun x => do noteFrame x f.env; theTreesLotGoes x)) _ _ s
  refine wpAny_noted ?_
  simp only [forTurn]
  refine wpAny_bind (wpAny_standAt (wpAny_bind (wpAny_onRaise (wpAny_pyNext_list_item hit hl (x := v) (by simpa using hx) fun h₁ hit₁ hs₁ => ?_))))
  refine wpAny_bind (wpAny_pure ?_)
  obtain ⟨oI₁, eI₁, hc₁, hd₁⟩ := id hit₁
  have S₁ := hS.set (q := some oI₁) eI hns n₀ nF nH (fun b o n e => (hs₁.2 b n).trans e) (fun o' e => by cases e; exact eI₁)
  have hns₁ := iter_noSeq hit₁ eI₁
  have nax : ax ≠ I := by rintro rfl; rw [hax] at eI; cases eI; exact hns _ _ rfl
  refine wpAny_bind (wpAny_assign_Name (storeVar (s := { s with heap := h₁ }) S₁ hk ⟨(show VOk C f _ h₁ v (.dat d) from Rep.set eI hns rv), fun _ e => by cases e⟩ fun h₂ t₂ S₂ _ => ?_))
  refine wpAny_bind (hb.run f A { s with heap := h₂, toks := t₂ } _ _ _ _ hA S₂ fun h₃ t₃ P₃ μ₃ le₃ S₃ => ?_)
  refine wpAny_pure ⟨rfl, ?_⟩
  have eI₃ : P₃ I = some oI₁ := le₃ _ _ PH.set_eq
  have le' : PLe (P.set I none) (P₃.set I none) := fun a o e => by
    by_cases h : a = I
    · subst h; rw [PH.set_eq] at e; cases e
    · rw [PH.set_ne h] at e ⊢
      exact le₃ a o ((PH.set_ne h).trans e)
  exact hr.run f A { s with heap := h₃, toks := t₃ } P₃ μ₃ E Q p I ax vs n (i + 1) oI₁ hA S₃ eI₃ ⟨oI₁, S₃.B.stay _ _ eI₃, hc₁, hd₁⟩ (le₃ _ _ ((PH.set_ne nax).trans hax)) n₀ nF nH (by rw [hd']; exact Reps.mono le₃ (Reps.set eI hns rs)) (q.mono le')
theorem Fo.sub {x : Str} {body : List Stmt} {ds : List PyData} {o : Out} (k' : Sub ρ' ρ) (h : Fo C k fi ρ' σ x body ds o) : Fo C k fi ρ σ x body ds o := .mk <| fun f A s P μ E Q p I ax vs n i oI hA hS => h.run f A s P μ E Q p I ax vs n i oI hA (hS.sub k')
theorem Sx1.for {x : Str} {p pos : Pos} {iter : Expr} {body : List Stmt} {ds : List PyData} {o : Out} (he : Ev C k fi ρ σ iter (.dat (.list ds)) σ₁) (h : Fo C k fi ρ σ₁ x body ds o) (hs : ∀ env x, foldedSetIterable iter env x = pure x := by intro _ _; rfl) : Sx1 C k fi ρ σ (.For (.Name x p) iter body [] pos) o := .mk <| fun f A s P μ E Q hA hS q => by
  refine wpAny_For (he.run f A s P μ _ _ hA hS fun v h₁ t₁ P₁ c₁ b₁ r => ?_) (hs f.env)
  cases r with
  | lst hp rs =>
  rename_i ax vs n
  have hl := b₁.stay _ _ hp
  have it : h₁.IsList ax vs.toArray := ⟨_, hl, rfl, n, rfl⟩
  refine wpAny_pyIter_list (s := { s with heap := h₁, toks := t₁ }) it ?_
  obtain ⟨c₂, b₂⟩ := push_fresh (o := { cls := .type "list_iterator", data := .fields #[.ref ax, .int 0 0] }) b₁
  have S₂ := (hS.after c₁ b₁).after c₂ b₂
  have nI := fresh_size h₁
  have nI₀ := old_none c₁ nI
  have nP : P₁ h₁.objs.size = none := none_of_size b₁ nI
  have nF : f.hs.get? h₁.objs.size = none := old_none hS.fr nI₀
  have n₀ : f.P₀ h₁.objs.size = none := by
    cases q : f.P₀ h₁.objs.size with
    | none => rfl
    | some o => rw [c₁.le _ _ (hS.fr.le _ _ q)] at nP; cases nP
  have nH : C.h₀.get? h₁.objs.size = none := by
    cases q : C.h₀.get? h₁.objs.size with
    | none => rfl
    | some o => rw [b₁.base _ _ q] at nP; cases nP
  refine h.run f A { s with heap := _, toks := t₁ } _ μ _ Q p h₁.objs.size ax vs n 0 _ hA S₂ PH.add_self ⟨_, Heap.get?_push_size _ rfl, rfl, rfl⟩ (c₂.le _ _ hp) n₀ nF nH (Reps.mono c₂.le rs) (q.mono fun a o e => ?_)
  have e₁ := c₁.le _ _ e
  exact (PH.set_ne (by rintro rfl; rw [nP] at e₁; cases e₁)).trans (c₂.le _ _ e₁)
theorem Ev.lenC {p pos : Pos} {e : Expr} {ns : List Int} (he : Ev C k fi ρ σ e (.scr ns) σ₁) (hn : ns.length ≤ 100000) (hx : fi.sc.names.lookup (Str.ofString "len") = some .globalImplicit := by rfl) (hs : noStar e = true := by rfl) :
    Ev C k fi ρ σ (.Call (.Name (Str.ofString "len") p) [e] [] pos) (.dat (.int ns.length)) σ₁ := .mk <| fun f A s P μ E Q hA hS q =>
  callB1 he hA hS hx (by decide) boot_len hs (by decide) (by decide) fun v h' tk P' c b hS' r => by
    obtain ⟨l, us, rfl, hl, hi⟩ := r
    have it : h'.IsList l us.toArray := hl.at fun o e => b.stay _ _ (b.base _ _ e)
    have e : us.length = ns.length := hi.length
    refine Calls.call_len_list it (by rw [List.size_toArray, e]; omega) ?_
    rw [List.size_toArray, e]
    exact q _ h' _ P' c b (.int _ _)
theorem Ev.headC {e i : Expr} {pos : Pos} {z : Int} {ns : List Int} (he : Ev C k fi ρ σ e (.scr (z :: ns)) σ₁) (hi : Ev C k fi ρ σ₁ i (.dat (.int 0)) σ₂) (hp : plainIx i = true := by rfl) : Ev C k fi ρ σ (.Subscript e i pos) (.dat (.int z)) σ₂ := .mk <| fun f A s P μ E _ hA hS q =>
  Subscript_ (he.run f A s P μ E _ hA hS fun v h₁ t₁ P₁ c₁ b₁ r₁ => hi.run f A { s with heap := h₁, toks := t₁ } P₁ μ E _ hA (hS.after c₁ b₁) fun w h₂ t₂ P₂ c₂ b₂ r₂ => by
    cases r₂
    obtain ⟨l, us, rfl, hl, hi⟩ := r₁
    have it : h₂.IsList l us.toArray := hl.at fun o e => b₂.stay _ _ (b₂.base _ _ e)
    cases hi with
    | cons t hi =>
    exact subG (Heap.IsList.typeIs (s := { s with heap := h₂, toks := t₂ }) it) slot_list_getitem.lookup
      (wpAny_getItem_list it (by decide) (by decide) (by rfl) (q _ h₂ t₂ P₂ (c₁.trans c₂) b₂ (.int _ _))) (sub_plain hp _ _))
end
-- MGen
section
variable {C : Cx} {k : Nat} {fi : Fi} {ρ ρ' ρ₁ ρ₂ ρ₀ : Loc} {σ σ₁ σ₂ σ₃ σ' : Int × Int}
inductive ItemOf (ρ : Loc) : VD → Int → PyData → Prop
  | tup {ds : List PyData} {j : Int} {n : Nat} {d : PyData} (hj : seqIndex? j ds.length = some n) (hd : ds[n]? = some d) (hlo : -1000 ≤ j ∧ j < 1000000) : ItemOf ρ (.dat (.tuple ds)) j d
  | lst {r : VD} {ds : List PyData} {j : Int} {d : PyData} (l : LstOf ρ r ds) (h0 : 0 ≤ j ∧ j < 1000000) (hd : ds[j.toNat]? = some d) : ItemOf ρ r j d
  | back {r : VD} {ds : List PyData} {j : Int} {d : PyData} (l : LstOf ρ r ds) (h0 : j < 0 ∧ -1000 ≤ j) (hj2 : -(ds.length : Int) ≤ j) (hd : ds[(j + ds.length).toNat]? = some d) : ItemOf ρ r j d
  | scr {z : Int} {ns : List Int} : ItemOf ρ (.scr (z :: ns)) 0 (.int z)
theorem Ev.item {e i : Expr} {pos : Pos} {r : VD} {j : Int} {d : PyData} (he : Ev C k fi ρ σ e r σ₁) (hi : Ev C k fi ρ σ₁ i (.dat (.int j)) σ₂) (h : ItemOf ρ r j d) (hp : plainIx i = true) : Ev C k fi ρ σ (.Subscript e i pos) (.dat d) σ₂ := by
  cases h with
  | tup hj hd hlo => exact Ev.itemT he hi hj hd hlo hp
  | lst l h0 hd => exact Ev.itemL he l hi h0.1 hd h0.2 hp
  | back l h0 hj2 hd => exact Ev.itemLn he l hi h0.1 hj2 hd h0.2 hp
  | scr => exact Ev.headC he hi hp
theorem ItemOf.tupN {ds : List PyData} {j : Int} {d : PyData} (h0 : 0 ≤ j ∧ j < 1000000) (hd : ds[j.toNat]? = some d) : ItemOf ρ (.dat (.tuple ds)) j d := by
  have hl := (List.getElem?_eq_some_iff.mp hd).1
  exact .tup (PyProof.Rows.seqIndex_at h0.1 (by omega)) hd ⟨by omega, h0.2⟩
theorem ItemOf.dl {ds : List PyData} {j : Int} {d : PyData} (h0 : 0 ≤ j ∧ j < 1000000) (hd : ds[j.toNat]? = some d) : ItemOf ρ (.dat (.list ds)) j d := .lst (LstOf.dat _) h0 hd
theorem ItemOf.vl {ds : List PyData} {x : Str} {j : Int} {d : PyData} (hx : ρ.lookup x = some (.box ds)) (h0 : 0 ≤ j ∧ j < 1000000) (hd : ds[j.toNat]? = some d) : ItemOf ρ (.var x) j d := .lst (LstOf.var hx) h0 hd
inductive LenOf (ρ : Loc) : VD → Nat → Prop
  | tup {ds : List PyData} (hn : ds.length ≤ 100000) : LenOf ρ (.dat (.tuple ds)) ds.length
  | lst {r : VD} {ds : List PyData} (l : LstOf ρ r ds) (hn : ds.length ≤ 100000) : LenOf ρ r ds.length
  | str {x : Str} (hn : x.length ≤ 1000000) : LenOf ρ (.dat (.str x)) x.length
  | scr {ns : List Int} (hn : ns.length ≤ 100000) : LenOf ρ (.scr ns) ns.length
theorem Ev.lenS {p pos : Pos} {e : Expr} {x : Str} (he : Ev C k fi ρ σ e (.dat (.str x)) σ₁) (hx : fi.sc.names.lookup (Str.ofString "len") = some .globalImplicit) (hs : noStar e = true) (hn : x.length ≤ 1000000) :
    Ev C k fi ρ σ (.Call (.Name (Str.ofString "len") p) [e] [] pos) (.dat (.int x.length)) σ₁ := .mk <| fun f A s P μ E Q hA hS q =>
  callB1 he hA hS hx (by decide) boot_len hs (by decide) (by decide) fun v h' tk P' c b hS' r => by
    cases r
    exact PySem.P.len_str (by omega) (q _ h' _ P' c b (.int _ _))
theorem Ev.len {p pos : Pos} {e : Expr} {r : VD} {n : Nat} (he : Ev C k fi ρ σ e r σ₁) (h : LenOf ρ r n) (hx : fi.sc.names.lookup (Str.ofString "len") = some .globalImplicit) (hs : noStar e = true) :
    Ev C k fi ρ σ (.Call (.Name (Str.ofString "len") p) [e] [] pos) (.dat (.int n)) σ₁ := by
  cases h with
  | tup hn => exact Ev.lenT he hx hs hn
  | lst l hn => exact Ev.lenL he l hx hs hn
  | str hn => exact Ev.lenS he hx hs hn
  | scr hn => exact Ev.lenC he hn hx hs
noncomputable def ArgOk : VD → Bool
  | .var _ => false
  | _ => true
theorem Args.cons {e : Expr} {es : List Expr} {r : VD} {rs : List VD} (h : Ev C k fi ρ σ e r σ₁) (hr : Args C k fi ρ σ₁ es rs σ₂) (ho : ArgOk r = true) (hs : noStar e = true) : Args C k fi ρ σ (e :: es) (r :: rs) σ₂ := by
  cases r with
  | dat d => exact Args.dat h hr fun _ => starEach_cons hs
  | src => exact Args.src h hr fun _ => starEach_cons hs
  | scr ns => exact Args.scr h hr fun _ => starEach_cons hs
  | var x => cases ho
theorem Evs.con {e : Expr} {es : List Expr} {d : PyData} {ds : List PyData} (h : Ev C k fi ρ σ e (.dat d) σ₁) (hr : Evs C k fi ρ σ₁ es ds σ₂) (hs : noStar e = true) : Evs C k fi ρ σ (e :: es) (d :: ds) σ₂ := Evs.cons h hr fun _ => starEach_cons hs
theorem EvI.dt {e : Expr} {es : List Expr} {d : PyData} {avs : List AV} (h : Ev C k fi ρ σ e (.dat d) σ₁) (hr : EvI C k fi ρ σ₁ es avs σ₂) (hs : noStar e = true) : EvI C k fi ρ σ (e :: es) (.dat d :: avs) σ₂ := EvI.dat h hr fun _ => starEach_cons hs
theorem EvI.bx {e : Expr} {es : List Expr} {ds : List PyData} {avs : List AV} (h : Evf C k fi ρ σ e ds σ₁) (hr : EvI C k fi ρ σ₁ es avs σ₂) (hs : noStar e = true) : EvI C k fi ρ σ (e :: es) (.box ds :: avs) σ₂ := EvI.box h hr fun _ => starEach_cons hs
theorem Ev.fn {x : Str} {p pos : Pos} {e : Expr} {es : List Expr} {rs : List VD} {d : PyData} (ha : Args C k fi ρ σ (e :: es) rs σ₁) (ho : FnD C k x rs σ₁ d σ₂) (hx : fi.sc.names.lookup x = some .globalImplicit)
    (hs : (e :: es).all noStar = true) (hd : (x == ("__debug__" : Str)) = false) : Ev C k fi ρ σ (.Call (.Name x p) (e :: es) [] pos) (.dat d) σ₂ := Ev.callF ha ho hx hs hd
theorem Ev.isin {p pos p' : Pos} {e : Expr} {T : String} {d : PyData} {b : Bool} (he : Ev C k fi ρ σ e (.dat d) σ₁) (hi : isiT d T = some b) (hx : fi.sc.names.lookup (Str.ofString "isinstance") = some .globalImplicit) (hT : fi.sc.names.lookup (Str.ofString T) = some .globalImplicit)
    (hb : (Str.ofString T ∈ usedB ∧ bootBuiltins (Str.ofString T) = some (.type T) ∧ Str.ofString T ≠ "__name__" ∧ (Str.ofString T == ("__debug__" : Str)) = false)) (hs : noStar e = true) :
    Ev C k fi ρ σ (.Call (.Name (Str.ofString "isinstance") p) [e, .Name (Str.ofString T) p'] [] pos) (.dat (.bool b)) σ₁ := Ev.isi he hi hx hT hb.1 hb.2.1 hs hb.2.2.1 hb.2.2.2
theorem t_tuple : Str.ofString "tuple" ∈ usedB ∧ bootBuiltins (Str.ofString "tuple") = some (.type "tuple") ∧ Str.ofString "tuple" ≠ "__name__" ∧ (Str.ofString "tuple" == ("__debug__" : Str)) = false := ⟨by decide, boot_tuple, by decide, by decide⟩
theorem t_int : Str.ofString "int" ∈ usedB ∧ bootBuiltins (Str.ofString "int") = some (.type "int") ∧ Str.ofString "int" ≠ "__name__" ∧ (Str.ofString "int" == ("__debug__" : Str)) = false := ⟨by decide, boot_int, by decide, by decide⟩
theorem t_str : Str.ofString "str" ∈ usedB ∧ bootBuiltins (Str.ofString "str") = some (.type "str") ∧ Str.ofString "str" ≠ "__name__" ∧ (Str.ofString "str" == ("__debug__" : Str)) = false := ⟨by decide, boot_str, by decide, by decide⟩
theorem t_bool : Str.ofString "bool" ∈ usedB ∧ bootBuiltins (Str.ofString "bool") = some (.type "bool") ∧ Str.ofString "bool" ≠ "__name__" ∧ (Str.ofString "bool" == ("__debug__" : Str)) = false := ⟨by decide, boot_bool, by decide, by decide⟩
theorem Ev.cmpr {l r : Expr} {op : CmpOp} {pos : Pos} {d₁ d₂ d : PyData} (hl : Ev C k fi ρ σ l (.dat d₁) σ₁) (hr : Ev C k fi ρ σ₁ r (.dat d₂) σ₂) (ho : OpD C k (compareOp op) d₁ d₂ d)
    (hm : behindInMarks op r = false) : Ev C k fi ρ σ (.Compare l [op] [r] pos) (.dat d) σ₂ := Ev.cmp hl hr ho hm
theorem Ts.cmpr {l r : Expr} {op : CmpOp} {pos : Pos} {d₁ d₂ : PyData} {b : Bool} (hl : Ev C k fi ρ σ l (.dat d₁) σ₁) (hr : Ev C k fi ρ σ₁ r (.dat d₂) σ₂) (ho : OpD C k (compareOp op) d₁ d₂ (.bool b))
    (hm : behindInMarks op r = false) : Ts C k fi ρ σ (.Compare l [op] [r] pos) b σ₂ := Ts.cmp hl hr ho hm
theorem Ev.tupl {es : List Expr} {kd : Nat} {pos : Pos} {ds : List PyData} (h : Evs C k fi ρ σ es ds σ₁) (hl : ds.length ≤ 1000) : Ev C k fi ρ σ (.Tuple es kd pos) (.dat (.tuple ds)) σ₁ := Ev.tuple h hl
theorem Ev.nm {x : Str} {pos : Pos} {r : VD} (hx : (match ρ.lookup x with | some (.dat d) => some (VD.dat d) | some .src => some .src | some (.box _) => some (.var x) | some (.scr ns) => some (.scr ns) | Option.none => Option.none) = some r) (hd : ((x == ("__debug__" : Str)) || (x == ("__classdict__" : Str))) = false) : Ev C k fi ρ σ (.Name x pos) r σ := by
  simp only [Bool.or_eq_false_iff] at hd
  cases e : ρ.lookup x with
  | none => rw [e] at hx; cases hx
  | some av =>
    rw [e] at hx
    cases av <;> (simp only [Option.some.injEq] at hx; subst hx)
    · exact Ev.name e hd.1 hd.2
    · exact Ev.nameS e hd.1 hd.2
    · exact Ev.nameB e hd.1 hd.2
    · exact Ev.nameC e hd.1 hd.2
theorem Ev.notv {x : Expr} {pos : Pos} {b c : Bool} (hx : Ev C k fi ρ σ x (.dat (.bool b)) σ₁) (hb : (!b) = c) : Ev C k fi ρ σ (.UnaryOp .Not x pos) (.dat (.bool c)) σ₁ := hb ▸ Ev.not hx
theorem Ts.notv {x : Expr} {pos : Pos} {b c : Bool} (hx : Ts C k fi ρ σ x b σ₁) (hb : (!b) = c) : Ts C k fi ρ σ (.UnaryOp .Not x pos) c σ₁ := hb ▸ Ts.not hx
theorem Ev.strI {p pos : Pos} {e : Expr} {i : Int} (he : Ev C k fi ρ σ e (.dat (.int i)) σ₁) (hi : i.natAbs.log2 < 1920) (hx : fi.sc.names.lookup (Str.ofString "str") = some .globalImplicit) (hs : noStar e = true) :
    Ev C k fi ρ σ (.Call (.Name (Str.ofString "str") p) [e] [] pos) (.dat (.str (Str.ofString (toString i)))) σ₁ := Ev.callT (Args.cons he Args.nil rfl hs) (call_str hi) hx (by decide) boot_str (by simp [hs])
theorem Ev.jn {sep : Str} {kd : Nat} {cp apos pos : Pos} {e : Expr} {r : VD} (ys : List Str) (he : Ev C k fi ρ σ e r σ₁) (l : LstOf ρ r (ys.map .str)) (hn : (ys.map (·.length)).sum + ys.length * sep.length ≤ 16000000) (hs : noStar e = true) (hl : (apos.endLine == pos.line) = true) :
    Ev C k fi ρ σ (.Call (.Attribute (.Constant (.str sep) kd cp) (Str.ofString "join") apos) [e] [] pos) (.dat (.str (Txt.join sep ys))) σ₁ := Ev.join he l hn hs hl
theorem Evm.of {e : Expr} {ds : List PyData} {avs : List AV} (h : Ev C k fi ρ σ e (.dat (.tuple ds)) σ₁) (q : ds.map .dat = avs) : Evm C k fi ρ σ e avs σ₁ := q ▸ Evm.data h
theorem Ev.srcAt {e i : Expr} {pos : Pos} {j : Int} {x : Int} (he : Ev C k fi ρ σ e .src σ₁) (hi : Ev C k fi ρ σ₁ i (.dat (.int j)) σ₂) (hj : (j = 0 ∧ x = σ₂.1) ∨ (j = 1 ∧ x = σ₂.2)) (hp : plainIx i = true) : Ev C k fi ρ σ (.Subscript e i pos) (.dat (.int x)) σ₂ := .mk <| fun f A s P μ E _ hA hS q =>
  Subscript_ (he.run f A s P μ E _ hA hS fun v h₁ t₁ P₁ c₁ b₁ r₁ => hi.run f A { s with heap := h₁, toks := t₁ } P₁ μ E _ hA (hS.after c₁ b₁) fun w h₂ t₂ P₂ c₂ b₂ r₂ => by
    cases r₂
    obtain ⟨on, rfl⟩ := r₁
    obtain ⟨_, ta, tb, n, hl⟩ := b₂.src on
    have it : h₂.IsList C.S [Value.int σ₂.1 ta, Value.int σ₂.2 tb].toArray := ⟨_, hl, rfl, n, rfl⟩
    have h0 : 0 ≤ j ∧ j < 1000 := by rcases hj with h | h <;> omega
    rcases hj with ⟨rfl, rfl⟩ | ⟨rfl, rfl⟩
    · exact subG (Heap.IsList.typeIs (s := { s with heap := h₂, toks := t₂ }) it) slot_list_getitem.lookup
        (wpAny_getItem_list it (by decide) (by decide) (by rfl) (q _ h₂ t₂ P₂ (c₁.trans c₂) b₂ (.int _ _))) (sub_plain hp _ _)
    · exact subG (Heap.IsList.typeIs (s := { s with heap := h₂, toks := t₂ }) it) slot_list_getitem.lookup
        (wpAny_getItem_list it (by decide) (by decide) (by rfl) (q _ h₂ t₂ P₂ (c₁.trans c₂) b₂ (.int _ _))) (sub_plain hp _ _))
theorem Sx.ifRet {t : Expr} {body : List Stmt} {orelse ss : List Stmt} {pos : Pos} {d : PyData} (ht : Ts C k fi ρ σ t true σ₁) (hb : Sx C k fi ρ σ₁ body (.ret d σ₂)) : Sx C k fi ρ σ (.If t body orelse pos :: ss) (.ret d σ₂) := Sx.ret (Sx1.ifT ht hb)
theorem Sx.ifSkip {t : Expr} {body ss : List Stmt} {pos : Pos} {o : Out} (ht : Ts C k fi ρ σ t false σ₁) (hr : Sx C k fi ρ σ₁ ss o) : Sx C k fi ρ σ (.If t body [] pos :: ss) o := Sx.cons (Sx1.ifF ht Sx.nil) hr
theorem Sx.ifThen {t : Expr} {body orelse ss : List Stmt} {pos : Pos} {o : Out} (ht : Ts C k fi ρ σ t true σ₁) (hb : Sx C k fi ρ σ₁ body (.next ρ₁ σ₂)) (hr : Sx C k fi ρ₁ σ₂ ss o) : Sx C k fi ρ σ (.If t body orelse pos :: ss) o := Sx.cons (Sx1.ifT ht hb) hr
theorem Sx.ifElse {t : Expr} {body orelse ss : List Stmt} {pos : Pos} {o : Out} (ht : Ts C k fi ρ σ t false σ₁) (hb : Sx C k fi ρ σ₁ orelse (.next ρ₁ σ₂)) (hr : Sx C k fi ρ₁ σ₂ ss o) : Sx C k fi ρ σ (.If t body orelse pos :: ss) o := Sx.cons (Sx1.ifF ht hb) hr
theorem Sx.elseRet {t : Expr} {body : List Stmt} {orelse ss : List Stmt} {pos : Pos} {d : PyData} (ht : Ts C k fi ρ σ t false σ₁) (hb : Sx C k fi ρ σ₁ orelse (.ret d σ₂)) : Sx C k fi ρ σ (.If t body orelse pos :: ss) (.ret d σ₂) := Sx.ret (Sx1.ifF ht hb)
theorem Sx.return {e : Expr} {pos : Pos} {ss : List Stmt} {d : PyData} (he : Ev C k fi ρ σ e (.dat d) σ₁) : Sx C k fi ρ σ (.Return (some e) pos :: ss) (.ret d σ₁) := Sx.ret (Sx1.ret he)
theorem Sx.let {x : Str} {p pos : Pos} {e : Expr} {ss : List Stmt} {d : PyData} {o : Out} (he : Ev C k fi ρ σ e (.dat d) σ₁) (hk : fi.sc.names.lookup x = some .local) (hs : ∀ env, swapsWith e (some (.Name x p)) pos.line env = pure false) (hr : Sx C k fi ((x, .dat d) :: ρ) σ₁ ss o) :
    Sx C k fi ρ σ (.Assign [.Name x p] e pos :: ss) o := Sx.cons (Sx1.assign he (.inl hk) hs) hr
theorem Sx.letC {x : Str} {p pos : Pos} {e : Expr} {ss : List Stmt} {d : PyData} {o : Out} (he : Ev C k fi ρ σ e (.dat d) σ₁) (hk : fi.sc.names.lookup x = some .cell ∧ x ∈ fi.own) (hs : ∀ env, swapsWith e (some (.Name x p)) pos.line env = pure false) (hr : Sx C k fi ((x, .dat d) :: ρ) σ₁ ss o) :
    Sx C k fi ρ σ (.Assign [.Name x p] e pos :: ss) o := Sx.cons (Sx1.assign he (.inr hk) hs) hr
end
-- MRow
noncomputable def nth (i : Nat) : Stmt := (PySem.Challenge.pw_xm0219_01.main.body[i]?).getD (.Pass ⟨0, 0, 0, 0⟩)
noncomputable def bodyOf (i : Nat) : List Stmt := match nth i with
  | .FunctionDef _ _ b .. => b
  | _ => []
noncomputable def scopeOf (i : Nat) : Scope := match nth i with
  | .FunctionDef _ _ _ _ _ _ s .. => s
  | _ => ⟨.function, [], false, false, []⟩
noncomputable abbrev S (x : String) : Str := Str.ofString x
structure Facts (C : Cx) : Prop where
  plain_tree : FnAt C (Str.ofString "plain_tree") 1 [] [Str.ofString "tree"] (bodyOf 8) (scopeOf 8)
  is_spot : FnAt C (Str.ofString "is_spot") 1 [] [Str.ofString "part"] (bodyOf 9) (scopeOf 9)
  without_spot : FnAt C (Str.ofString "without_spot") 2 [] [Str.ofString "here", Str.ofString "parts"] (bodyOf 10) (scopeOf 10)
  type_text : FnAt C (Str.ofString "type_text") 1 [] [Str.ofString "told"] (bodyOf 11) (scopeOf 11)
  parts_text : FnAt C (Str.ofString "parts_text") 2 [] [Str.ofString "word", Str.ofString "parts"] (bodyOf 12) (scopeOf 12)
  chan_text : FnAt C (Str.ofString "chan_text") 1 [] [Str.ofString "told"] (bodyOf 13) (scopeOf 13)
  field_text : FnAt C (Str.ofString "field_text") 1 [] [Str.ofString "field"] (bodyOf 14) (scopeOf 14)
  signature_text : FnAt C (Str.ofString "signature_text") 3 [] [Str.ofString "told", Str.ofString "params", Str.ofString "results"] (bodyOf 15) (scopeOf 15)
  level_of_expr : FnAt C (Str.ofString "level_of_expr") 1 [] [Str.ofString "e"] (bodyOf 16) (scopeOf 16)
  expr_text : FnAt C (Str.ofString "expr_text") 1 [.int 0, .bool false] [Str.ofString "e", Str.ofString "least", Str.ofString "no_literal"] (bodyOf 17) (scopeOf 17)
  bare_text : FnAt C (Str.ofString "bare_text") 2 [] [Str.ofString "e", Str.ofString "no_literal"] (bodyOf 19) (scopeOf 19)
  int_text : FnAt C (Str.ofString "int_text") 1 [] [Str.ofString "value"] (bodyOf 23) (scopeOf 23)
  types_text : FnAt C (Str.ofString "types_text") 1 [] [Str.ofString "some"] (bodyOf 39) (scopeOf 39)
  law_pool : FnAt C (Str.ofString "_law_pool") 1 [] [Str.ofString "script"] (bodyOf 42) (scopeOf 42)
  law_take : FnAt C (Str.ofString "_law_take") 2 [] [Str.ofString "source", Str.ofString "top"] (bodyOf 43) (scopeOf 43)
  law_one : FnAt C (Str.ofString "_law_one") 2 [] [Str.ofString "source", Str.ofString "things"] (bodyOf 44) (scopeOf 44)
  law_leaf : FnAt C (Str.ofString "_law_leaf") 2 [] [Str.ofString "source", Str.ofString "spot"] (bodyOf 45) (scopeOf 45)
  law_type : FnAt C (Str.ofString "_law_type") 2 [] [Str.ofString "source", Str.ofString "deep"] (bodyOf 46) (scopeOf 46)
  law_signed : FnAt C (Str.ofString "_law_signed") 3 [] [Str.ofString "source", Str.ofString "deep", Str.ofString "spot"] (bodyOf 47) (scopeOf 47)
  law_struct : FnAt C (Str.ofString "_law_struct") 3 [] [Str.ofString "source", Str.ofString "deep", Str.ofString "spot"] (bodyOf 48) (scopeOf 48)
  law_interface : FnAt C (Str.ofString "_law_interface") 3 [] [Str.ofString "source", Str.ofString "deep", Str.ofString "spot"] (bodyOf 49) (scopeOf 49)
  law_names_right : FnAt C (Str.ofString "_law_names_right") 1 [] [Str.ofString "source"] (bodyOf 50) (scopeOf 50)
  law_spots : FnAt C (Str.ofString "_law_spots") 0 [] [] (bodyOf 51) (scopeOf 51)
  law_fields : FnAt C (Str.ofString "_law_fields") 0 [] [] (bodyOf 52) (scopeOf 52)
  AHEAD_LEVEL : ∃ v, C.mg (Str.ofString "AHEAD_LEVEL") = some v ∧ Rep (fun a => C.h₀.get? a) v (.int 6)
  TIGHT_LEVEL : ∃ v, C.mg (Str.ofString "TIGHT_LEVEL") = some v ∧ Rep (fun a => C.h₀.get? a) v (.int 7)
  WHOLE_LEVEL : ∃ v, C.mg (Str.ofString "WHOLE_LEVEL") = some v ∧ Rep (fun a => C.h₀.get? a) v (.int 0)
  LONGEST_NUMBER : ∃ v, C.mg (Str.ofString "LONGEST_NUMBER") = some v ∧ Rep (fun a => C.h₀.get? a) v (.int 100)
-- MK1
noncomputable def paramsOf (i : Nat) : Arguments := match nth i with
  | .FunctionDef _ ps .. => ps
  | _ => ⟨[], [], none, [], [], none, []⟩
noncomputable def mainD (P : Params) : Obj := { cls := Value.type "dict", data := Data.dict #[{ hash := PyData.keyHash P (Str.ofString "__name__"), key := Value.str (Str.ofString "__name__") 165, val := Value.str (Str.ofString "law_xm0219_01") 520 }, { hash := PyData.keyHash P (Str.ofString "__doc__"), key := Value.str (Str.ofString "__doc__") 166, val := Value.none }, { hash := PyData.keyHash P (Str.ofString "__package__"), key := Value.str (Str.ofString "__package__") 167, val := Value.none }, { hash := PyData.keyHash P (Str.ofString "__loader__"), key := Value.str (Str.ofString "__loader__") 168, val := Value.builtin "__main__.__loader__#opaque" }, { hash := PyData.keyHash P (Str.ofString "__spec__"), key := Value.str (Str.ofString "__spec__") 169, val := Value.none }, { hash := PyData.keyHash P (Str.ofString "__annotations__"), key := Value.str (Str.ofString "__annotations__") 170, val := Value.ref 6 }, { hash := PyData.keyHash P (Str.ofString "__builtins__"), key := Value.str (Str.ofString "__builtins__") 171, val := Value.ref 4 }, { hash := PyData.keyHash P (Str.ofString "__file__"), key := Value.str (Str.ofString "__file__") 173, val := Value.str (Str.ofString "/claim/cut.py") 172 }, { hash := PyData.keyHash P (Str.ofString "__cached__"), key := Value.str (Str.ofString "__cached__") 174, val := Value.none }, { hash := PyData.keyHash P (Str.ofString "OPERATOR_LEVELS"), key := Value.str (Str.ofString "OPERATOR_LEVELS") 244, val := Value.ref 15 }, { hash := PyData.keyHash P (Str.ofString "LITERAL_TYPES"), key := Value.str (Str.ofString "LITERAL_TYPES") 249, val := Value.ref 17 }, { hash := PyData.keyHash P (Str.ofString "WHOLE_LEVEL"), key := Value.str (Str.ofString "WHOLE_LEVEL") 253, val := Value.int 0 252 }, { hash := PyData.keyHash P (Str.ofString "AHEAD_LEVEL"), key := Value.str (Str.ofString "AHEAD_LEVEL") 255, val := Value.int 6 254 }, { hash := PyData.keyHash P (Str.ofString "TIGHT_LEVEL"), key := Value.str (Str.ofString "TIGHT_LEVEL") 257, val := Value.int 7 256 }, { hash := PyData.keyHash P (Str.ofString "ROW_INDENT"), key := Value.str (Str.ofString "ROW_INDENT") 259, val := Value.str (Str.ofString "\t") 258 }, { hash := PyData.keyHash P (Str.ofString "LONGEST_NUMBER"), key := Value.str (Str.ofString "LONGEST_NUMBER") 261, val := Value.int 100 260 }, { hash := PyData.keyHash P (Str.ofString "plain_tree"), key := Value.str (Str.ofString "plain_tree") 267, val := Value.ref 22 }, { hash := PyData.keyHash P (Str.ofString "is_spot"), key := Value.str (Str.ofString "is_spot") 274, val := Value.ref 29 }, { hash := PyData.keyHash P (Str.ofString "without_spot"), key := Value.str (Str.ofString "without_spot") 282, val := Value.ref 36 }, { hash := PyData.keyHash P (Str.ofString "type_text"), key := Value.str (Str.ofString "type_text") 288, val := Value.ref 41 }, { hash := PyData.keyHash P (Str.ofString "parts_text"), key := Value.str (Str.ofString "parts_text") 296, val := Value.ref 48 }, { hash := PyData.keyHash P (Str.ofString "chan_text"), key := Value.str (Str.ofString "chan_text") 304, val := Value.ref 55 }, { hash := PyData.keyHash P (Str.ofString "field_text"), key := Value.str (Str.ofString "field_text") 314, val := Value.ref 62 }, { hash := PyData.keyHash P (Str.ofString "signature_text"), key := Value.str (Str.ofString "signature_text") 320, val := Value.ref 67 }, { hash := PyData.keyHash P (Str.ofString "level_of_expr"), key := Value.str (Str.ofString "level_of_expr") 327, val := Value.ref 74 }, { hash := PyData.keyHash P (Str.ofString "expr_text"), key := Value.str (Str.ofString "expr_text") 337, val := Value.ref 82 }, { hash := PyData.keyHash P (Str.ofString "exprs_text"), key := Value.str (Str.ofString "exprs_text") 343, val := Value.ref 88 }, { hash := PyData.keyHash P (Str.ofString "bare_text"), key := Value.str (Str.ofString "bare_text") 353, val := Value.ref 95 }, { hash := PyData.keyHash P (Str.ofString "ahead_text"), key := Value.str (Str.ofString "ahead_text") 363, val := Value.ref 102 }, { hash := PyData.keyHash P (Str.ofString "behind_text"), key := Value.str (Str.ofString "behind_text") 372, val := Value.ref 109 }, { hash := PyData.keyHash P (Str.ofString "cut_ends"), key := Value.str (Str.ofString "cut_ends") 378, val := Value.ref 114 }, { hash := PyData.keyHash P (Str.ofString "int_text"), key := Value.str (Str.ofString "int_text") 386, val := Value.ref 121 }, { hash := PyData.keyHash P (Str.ofString "rune_text"), key := Value.str (Str.ofString "rune_text") 393, val := Value.ref 128 }, { hash := PyData.keyHash P (Str.ofString "quoted_text"), key := Value.str (Str.ofString "quoted_text") 402, val := Value.ref 135 }, { hash := PyData.keyHash P (Str.ofString "values_text"), key := Value.str (Str.ofString "values_text") 408, val := Value.ref 140 }, { hash := PyData.keyHash P (Str.ofString "braced_rows"), key := Value.str (Str.ofString "braced_rows") 414, val := Value.ref 145 }, { hash := PyData.keyHash P (Str.ofString "indented_rows"), key := Value.str (Str.ofString "indented_rows") 420, val := Value.ref 150 }, { hash := PyData.keyHash P (Str.ofString "block_text"), key := Value.str (Str.ofString "block_text") 426, val := Value.ref 155 }, { hash := PyData.keyHash P (Str.ofString "statement_text"), key := Value.str (Str.ofString "statement_text") 434, val := Value.ref 162 }, { hash := PyData.keyHash P (Str.ofString "simple_text"), key := Value.str (Str.ofString "simple_text") 444, val := Value.ref 169 }, { hash := PyData.keyHash P (Str.ofString "declared_text"), key := Value.str (Str.ofString "declared_text") 450, val := Value.ref 174 }, { hash := PyData.keyHash P (Str.ofString "told_row"), key := Value.str (Str.ofString "told_row") 460, val := Value.ref 181 }, { hash := PyData.keyHash P (Str.ofString "header_text"), key := Value.str (Str.ofString "header_text") 470, val := Value.ref 188 }, { hash := PyData.keyHash P (Str.ofString "choice_text"), key := Value.str (Str.ofString "choice_text") 479, val := Value.ref 195 }, { hash := PyData.keyHash P (Str.ofString "labelled_text"), key := Value.str (Str.ofString "labelled_text") 485, val := Value.ref 200 }, { hash := PyData.keyHash P (Str.ofString "loop_text"), key := Value.str (Str.ofString "loop_text") 499, val := Value.ref 207 }, { hash := PyData.keyHash P (Str.ofString "cases_text"), key := Value.str (Str.ofString "cases_text") 505, val := Value.ref 212 }, { hash := PyData.keyHash P (Str.ofString "types_text"), key := Value.str (Str.ofString "types_text") 511, val := Value.ref 217 }, { hash := PyData.keyHash P (Str.ofString "deed_text"), key := Value.str (Str.ofString "deed_text") 519, val := Value.ref 224 }, { hash := PyData.keyHash P (Str.ofString "_law_pool"), key := Value.str (Str.ofString "_law_pool") 530, val := Value.ref 231 }, { hash := PyData.keyHash P (Str.ofString "_law_take"), key := Value.str (Str.ofString "_law_take") 539, val := Value.ref 238 }, { hash := PyData.keyHash P (Str.ofString "_law_one"), key := Value.str (Str.ofString "_law_one") 547, val := Value.ref 245 }, { hash := PyData.keyHash P (Str.ofString "_law_leaf"), key := Value.str (Str.ofString "_law_leaf") 555, val := Value.ref 252 }, { hash := PyData.keyHash P (Str.ofString "_law_type"), key := Value.str (Str.ofString "_law_type") 575, val := Value.ref 259 }, { hash := PyData.keyHash P (Str.ofString "_law_signed"), key := Value.str (Str.ofString "_law_signed") 581, val := Value.ref 264 }, { hash := PyData.keyHash P (Str.ofString "_law_struct"), key := Value.str (Str.ofString "_law_struct") 599, val := Value.ref 271 }, { hash := PyData.keyHash P (Str.ofString "_law_interface"), key := Value.str (Str.ofString "_law_interface") 605, val := Value.ref 276 }, { hash := PyData.keyHash P (Str.ofString "_law_names_right"), key := Value.str (Str.ofString "_law_names_right") 611, val := Value.ref 281 }, { hash := PyData.keyHash P (Str.ofString "_law_spots"), key := Value.str (Str.ofString "_law_spots") 617, val := Value.ref 288 }, { hash := PyData.keyHash P (Str.ofString "_law_fields"), key := Value.str (Str.ofString "_law_fields") 625, val := Value.ref 295 }, { hash := PyData.keyHash P (Str.ofString "law"), key := Value.str (Str.ofString "law") 631, val := Value.ref 300 }] 61 }
noncomputable def dfl : Obj := { cls := Value.type "tuple", data := Data.seq #[Value.int 0 252, Value.bool false] }
noncomputable def co_plain_tree : Obj := { cls := Value.type "code", data := Data.fields #[Value.str (Str.ofString "plain_tree") 262, Value.str (Str.ofString "plain_tree") 263, Value.str (Str.ofString "/claim/cut.py") 264, Value.int 9 0, Value.int 1 0, Value.int 0 0, Value.int 0 0, Value.int 3 0, Value.ref 18, Value.bool true, Value.int 181 0, Value.ref 19, Value.none, Value.none, Value.none, Value.ref 20, Value.int 265 0, Value.int 9 0, Value.str (Str.ofString "/claim/cut.py") 266] }
noncomputable def fo_plain_tree : Obj := { cls := Value.type "function", data := Data.func { name := Str.ofString "plain_tree", qualname := Str.ofString "plain_tree", params := paramsOf 8, body := .stmts (bodyOf 8), scope := scopeOf 8, globals := 3, closure := [], defaults := Value.none, kwdefaults := Value.none, pyModule := Value.str (Str.ofString "chancore.printer") 250, code := Value.ref 21 } }
noncomputable def co_is_spot : Obj := { cls := Value.type "code", data := Data.fields #[Value.str (Str.ofString "is_spot") 268, Value.str (Str.ofString "is_spot") 269, Value.str (Str.ofString "/claim/cut.py") 270, Value.int 24 0, Value.int 1 0, Value.int 0 0, Value.int 0 0, Value.int 3 0, Value.ref 23, Value.bool true, Value.int 181 0, Value.ref 24, Value.none, Value.ref 25, Value.ref 26, Value.ref 27, Value.int 272 0, Value.int 24 0, Value.str (Str.ofString "/claim/cut.py") 273] }
noncomputable def fo_is_spot : Obj := { cls := Value.type "function", data := Data.func { name := Str.ofString "is_spot", qualname := Str.ofString "is_spot", params := paramsOf 9, body := .stmts (bodyOf 9), scope := scopeOf 9, globals := 3, closure := [], defaults := Value.none, kwdefaults := Value.none, pyModule := Value.str (Str.ofString "chancore.printer") 250, code := Value.ref 28 } }
noncomputable def co_without_spot : Obj := { cls := Value.type "code", data := Data.fields #[Value.str (Str.ofString "without_spot") 275, Value.str (Str.ofString "without_spot") 276, Value.str (Str.ofString "/claim/cut.py") 277, Value.int 26 0, Value.int 2 0, Value.int 0 0, Value.int 0 0, Value.int 3 0, Value.ref 30, Value.bool true, Value.int 181 0, Value.ref 31, Value.none, Value.ref 32, Value.ref 33, Value.ref 34, Value.int 280 0, Value.int 26 0, Value.str (Str.ofString "/claim/cut.py") 281] }
noncomputable def fo_without_spot : Obj := { cls := Value.type "function", data := Data.func { name := Str.ofString "without_spot", qualname := Str.ofString "without_spot", params := paramsOf 10, body := .stmts (bodyOf 10), scope := scopeOf 10, globals := 3, closure := [], defaults := Value.none, kwdefaults := Value.none, pyModule := Value.str (Str.ofString "chancore.printer") 250, code := Value.ref 35 } }
noncomputable def co_type_text : Obj := { cls := Value.type "code", data := Data.fields #[Value.str (Str.ofString "type_text") 283, Value.str (Str.ofString "type_text") 284, Value.str (Str.ofString "/claim/cut.py") 285, Value.int 32 0, Value.int 1 0, Value.int 0 0, Value.int 0 0, Value.int 3 0, Value.ref 37, Value.bool true, Value.int 181 0, Value.ref 38, Value.none, Value.none, Value.none, Value.ref 39, Value.int 286 0, Value.int 32 0, Value.str (Str.ofString "/claim/cut.py") 287] }
noncomputable def fo_type_text : Obj := { cls := Value.type "function", data := Data.func { name := Str.ofString "type_text", qualname := Str.ofString "type_text", params := paramsOf 11, body := .stmts (bodyOf 11), scope := scopeOf 11, globals := 3, closure := [], defaults := Value.none, kwdefaults := Value.none, pyModule := Value.str (Str.ofString "chancore.printer") 250, code := Value.ref 40 } }
noncomputable def co_parts_text : Obj := { cls := Value.type "code", data := Data.fields #[Value.str (Str.ofString "parts_text") 289, Value.str (Str.ofString "parts_text") 290, Value.str (Str.ofString "/claim/cut.py") 291, Value.int 52 0, Value.int 2 0, Value.int 0 0, Value.int 0 0, Value.int 3 0, Value.ref 42, Value.bool true, Value.int 181 0, Value.ref 43, Value.none, Value.ref 44, Value.ref 45, Value.ref 46, Value.int 294 0, Value.int 52 0, Value.str (Str.ofString "/claim/cut.py") 295] }
noncomputable def fo_parts_text : Obj := { cls := Value.type "function", data := Data.func { name := Str.ofString "parts_text", qualname := Str.ofString "parts_text", params := paramsOf 12, body := .stmts (bodyOf 12), scope := scopeOf 12, globals := 3, closure := [], defaults := Value.none, kwdefaults := Value.none, pyModule := Value.str (Str.ofString "chancore.printer") 250, code := Value.ref 47 } }
noncomputable def co_chan_text : Obj := { cls := Value.type "code", data := Data.fields #[Value.str (Str.ofString "chan_text") 297, Value.str (Str.ofString "chan_text") 298, Value.str (Str.ofString "/claim/cut.py") 299, Value.int 54 0, Value.int 1 0, Value.int 0 0, Value.int 0 0, Value.int 3 0, Value.ref 49, Value.bool true, Value.int 181 0, Value.ref 50, Value.none, Value.ref 51, Value.ref 52, Value.ref 53, Value.int 302 0, Value.int 54 0, Value.str (Str.ofString "/claim/cut.py") 303] }
noncomputable def fo_chan_text : Obj := { cls := Value.type "function", data := Data.func { name := Str.ofString "chan_text", qualname := Str.ofString "chan_text", params := paramsOf 13, body := .stmts (bodyOf 13), scope := scopeOf 13, globals := 3, closure := [], defaults := Value.none, kwdefaults := Value.none, pyModule := Value.str (Str.ofString "chancore.printer") 250, code := Value.ref 54 } }
noncomputable def co_field_text : Obj := { cls := Value.type "code", data := Data.fields #[Value.str (Str.ofString "field_text") 305, Value.str (Str.ofString "field_text") 306, Value.str (Str.ofString "/claim/cut.py") 307, Value.int 59 0, Value.int 1 0, Value.int 0 0, Value.int 0 0, Value.int 3 0, Value.ref 56, Value.bool true, Value.int 181 0, Value.ref 57, Value.none, Value.ref 58, Value.ref 59, Value.ref 60, Value.int 312 0, Value.int 59 0, Value.str (Str.ofString "/claim/cut.py") 313] }
noncomputable def fo_field_text : Obj := { cls := Value.type "function", data := Data.func { name := Str.ofString "field_text", qualname := Str.ofString "field_text", params := paramsOf 14, body := .stmts (bodyOf 14), scope := scopeOf 14, globals := 3, closure := [], defaults := Value.none, kwdefaults := Value.none, pyModule := Value.str (Str.ofString "chancore.printer") 250, code := Value.ref 61 } }
noncomputable def co_signature_text : Obj := { cls := Value.type "code", data := Data.fields #[Value.str (Str.ofString "signature_text") 315, Value.str (Str.ofString "signature_text") 316, Value.str (Str.ofString "/claim/cut.py") 317, Value.int 62 0, Value.int 3 0, Value.int 0 0, Value.int 0 0, Value.int 3 0, Value.ref 63, Value.bool true, Value.int 181 0, Value.ref 64, Value.none, Value.none, Value.none, Value.ref 65, Value.int 318 0, Value.int 62 0, Value.str (Str.ofString "/claim/cut.py") 319] }
noncomputable def fo_signature_text : Obj := { cls := Value.type "function", data := Data.func { name := Str.ofString "signature_text", qualname := Str.ofString "signature_text", params := paramsOf 15, body := .stmts (bodyOf 15), scope := scopeOf 15, globals := 3, closure := [], defaults := Value.none, kwdefaults := Value.none, pyModule := Value.str (Str.ofString "chancore.printer") 250, code := Value.ref 66 } }
noncomputable def co_level_of_expr : Obj := { cls := Value.type "code", data := Data.fields #[Value.str (Str.ofString "level_of_expr") 321, Value.str (Str.ofString "level_of_expr") 322, Value.str (Str.ofString "/claim/cut.py") 323, Value.int 77 0, Value.int 1 0, Value.int 0 0, Value.int 0 0, Value.int 3 0, Value.ref 68, Value.bool true, Value.int 181 0, Value.ref 69, Value.none, Value.ref 70, Value.ref 71, Value.ref 72, Value.int 325 0, Value.int 77 0, Value.str (Str.ofString "/claim/cut.py") 326] }
noncomputable def fo_level_of_expr : Obj := { cls := Value.type "function", data := Data.func { name := Str.ofString "level_of_expr", qualname := Str.ofString "level_of_expr", params := paramsOf 16, body := .stmts (bodyOf 16), scope := scopeOf 16, globals := 3, closure := [], defaults := Value.none, kwdefaults := Value.none, pyModule := Value.str (Str.ofString "chancore.printer") 250, code := Value.ref 73 } }
noncomputable def co_expr_text : Obj := { cls := Value.type "code", data := Data.fields #[Value.str (Str.ofString "expr_text") 328, Value.str (Str.ofString "expr_text") 329, Value.str (Str.ofString "/claim/cut.py") 330, Value.int 83 0, Value.int 3 0, Value.int 0 0, Value.int 0 0, Value.int 3 0, Value.ref 76, Value.bool true, Value.int 181 0, Value.ref 77, Value.none, Value.ref 78, Value.ref 79, Value.ref 80, Value.int 335 0, Value.int 83 0, Value.str (Str.ofString "/claim/cut.py") 336] }
noncomputable def fo_expr_text : Obj := { cls := Value.type "function", data := Data.func { name := Str.ofString "expr_text", qualname := Str.ofString "expr_text", params := paramsOf 17, body := .stmts (bodyOf 17), scope := scopeOf 17, globals := 3, closure := [], defaults := Value.ref 75, kwdefaults := Value.none, pyModule := Value.str (Str.ofString "chancore.printer") 250, code := Value.ref 81 } }
noncomputable def co_bare_text : Obj := { cls := Value.type "code", data := Data.fields #[Value.str (Str.ofString "bare_text") 344, Value.str (Str.ofString "bare_text") 345, Value.str (Str.ofString "/claim/cut.py") 346, Value.int 90 0, Value.int 2 0, Value.int 0 0, Value.int 0 0, Value.int 3 0, Value.ref 89, Value.bool true, Value.int 181 0, Value.ref 90, Value.none, Value.ref 91, Value.ref 92, Value.ref 93, Value.int 351 0, Value.int 90 0, Value.str (Str.ofString "/claim/cut.py") 352] }
noncomputable def fo_bare_text : Obj := { cls := Value.type "function", data := Data.func { name := Str.ofString "bare_text", qualname := Str.ofString "bare_text", params := paramsOf 19, body := .stmts (bodyOf 19), scope := scopeOf 19, globals := 3, closure := [], defaults := Value.none, kwdefaults := Value.none, pyModule := Value.str (Str.ofString "chancore.printer") 250, code := Value.ref 94 } }
noncomputable def co_int_text : Obj := { cls := Value.type "code", data := Data.fields #[Value.str (Str.ofString "int_text") 379, Value.str (Str.ofString "int_text") 380, Value.str (Str.ofString "/claim/cut.py") 381, Value.int 131 0, Value.int 1 0, Value.int 0 0, Value.int 0 0, Value.int 3 0, Value.ref 115, Value.bool true, Value.int 181 0, Value.ref 116, Value.none, Value.ref 117, Value.ref 118, Value.ref 119, Value.int 384 0, Value.int 131 0, Value.str (Str.ofString "/claim/cut.py") 385] }
noncomputable def fo_int_text : Obj := { cls := Value.type "function", data := Data.func { name := Str.ofString "int_text", qualname := Str.ofString "int_text", params := paramsOf 23, body := .stmts (bodyOf 23), scope := scopeOf 23, globals := 3, closure := [], defaults := Value.none, kwdefaults := Value.none, pyModule := Value.str (Str.ofString "chancore.printer") 250, code := Value.ref 120 } }
noncomputable def co_types_text : Obj := { cls := Value.type "code", data := Data.fields #[Value.str (Str.ofString "types_text") 506, Value.str (Str.ofString "types_text") 507, Value.str (Str.ofString "/claim/cut.py") 508, Value.int 244 0, Value.int 1 0, Value.int 0 0, Value.int 0 0, Value.int 3 0, Value.ref 213, Value.bool true, Value.int 181 0, Value.ref 214, Value.none, Value.none, Value.none, Value.ref 215, Value.int 509 0, Value.int 244 0, Value.str (Str.ofString "/claim/cut.py") 510] }
noncomputable def fo_types_text : Obj := { cls := Value.type "function", data := Data.func { name := Str.ofString "types_text", qualname := Str.ofString "types_text", params := paramsOf 39, body := .stmts (bodyOf 39), scope := scopeOf 39, globals := 3, closure := [], defaults := Value.none, kwdefaults := Value.none, pyModule := Value.str (Str.ofString "chancore.printer") 250, code := Value.ref 216 } }
noncomputable def co_law_pool : Obj := { cls := Value.type "code", data := Data.fields #[Value.str (Str.ofString "_law_pool") 522, Value.str (Str.ofString "_law_pool") 523, Value.str (Str.ofString "/claim/cut.py") 524, Value.int 252 0, Value.int 1 0, Value.int 0 0, Value.int 0 0, Value.int 3 0, Value.ref 225, Value.bool true, Value.int 181 0, Value.ref 226, Value.none, Value.ref 227, Value.ref 228, Value.ref 229, Value.int 528 0, Value.int 252 0, Value.str (Str.ofString "/claim/cut.py") 529] }
noncomputable def fo_law_pool : Obj := { cls := Value.type "function", data := Data.func { name := Str.ofString "_law_pool", qualname := Str.ofString "_law_pool", params := paramsOf 42, body := .stmts (bodyOf 42), scope := scopeOf 42, globals := 3, closure := [], defaults := Value.none, kwdefaults := Value.none, pyModule := Value.str (Str.ofString "law_xm0219_01") 520, code := Value.ref 230 } }
noncomputable def co_law_take : Obj := { cls := Value.type "code", data := Data.fields #[Value.str (Str.ofString "_law_take") 531, Value.str (Str.ofString "_law_take") 532, Value.str (Str.ofString "/claim/cut.py") 533, Value.int 256 0, Value.int 2 0, Value.int 0 0, Value.int 0 0, Value.int 3 0, Value.ref 232, Value.bool true, Value.int 181 0, Value.ref 233, Value.none, Value.ref 234, Value.ref 235, Value.ref 236, Value.int 537 0, Value.int 256 0, Value.str (Str.ofString "/claim/cut.py") 538] }
noncomputable def fo_law_take : Obj := { cls := Value.type "function", data := Data.func { name := Str.ofString "_law_take", qualname := Str.ofString "_law_take", params := paramsOf 43, body := .stmts (bodyOf 43), scope := scopeOf 43, globals := 3, closure := [], defaults := Value.none, kwdefaults := Value.none, pyModule := Value.str (Str.ofString "law_xm0219_01") 520, code := Value.ref 237 } }
noncomputable def co_law_one : Obj := { cls := Value.type "code", data := Data.fields #[Value.str (Str.ofString "_law_one") 540, Value.str (Str.ofString "_law_one") 541, Value.str (Str.ofString "/claim/cut.py") 542, Value.int 263 0, Value.int 2 0, Value.int 0 0, Value.int 0 0, Value.int 3 0, Value.ref 239, Value.bool true, Value.int 181 0, Value.ref 240, Value.none, Value.ref 241, Value.ref 242, Value.ref 243, Value.int 545 0, Value.int 263 0, Value.str (Str.ofString "/claim/cut.py") 546] }
noncomputable def fo_law_one : Obj := { cls := Value.type "function", data := Data.func { name := Str.ofString "_law_one", qualname := Str.ofString "_law_one", params := paramsOf 44, body := .stmts (bodyOf 44), scope := scopeOf 44, globals := 3, closure := [], defaults := Value.none, kwdefaults := Value.none, pyModule := Value.str (Str.ofString "law_xm0219_01") 520, code := Value.ref 244 } }
noncomputable def co_law_leaf : Obj := { cls := Value.type "code", data := Data.fields #[Value.str (Str.ofString "_law_leaf") 548, Value.str (Str.ofString "_law_leaf") 549, Value.str (Str.ofString "/claim/cut.py") 550, Value.int 265 0, Value.int 2 0, Value.int 0 0, Value.int 0 0, Value.int 3 0, Value.ref 246, Value.bool true, Value.int 181 0, Value.ref 247, Value.none, Value.ref 248, Value.ref 249, Value.ref 250, Value.int 553 0, Value.int 265 0, Value.str (Str.ofString "/claim/cut.py") 554] }
noncomputable def fo_law_leaf : Obj := { cls := Value.type "function", data := Data.func { name := Str.ofString "_law_leaf", qualname := Str.ofString "_law_leaf", params := paramsOf 45, body := .stmts (bodyOf 45), scope := scopeOf 45, globals := 3, closure := [], defaults := Value.none, kwdefaults := Value.none, pyModule := Value.str (Str.ofString "law_xm0219_01") 520, code := Value.ref 251 } }
noncomputable def co_law_type : Obj := { cls := Value.type "code", data := Data.fields #[Value.str (Str.ofString "_law_type") 556, Value.str (Str.ofString "_law_type") 557, Value.str (Str.ofString "/claim/cut.py") 558, Value.int 269 0, Value.int 2 0, Value.int 0 0, Value.int 0 0, Value.int 3 0, Value.ref 253, Value.bool true, Value.int 181 0, Value.ref 254, Value.none, Value.ref 255, Value.ref 256, Value.ref 257, Value.int 573 0, Value.int 269 0, Value.str (Str.ofString "/claim/cut.py") 574] }
noncomputable def fo_law_type : Obj := { cls := Value.type "function", data := Data.func { name := Str.ofString "_law_type", qualname := Str.ofString "_law_type", params := paramsOf 46, body := .stmts (bodyOf 46), scope := scopeOf 46, globals := 3, closure := [], defaults := Value.none, kwdefaults := Value.none, pyModule := Value.str (Str.ofString "law_xm0219_01") 520, code := Value.ref 258 } }
noncomputable def co_law_signed : Obj := { cls := Value.type "code", data := Data.fields #[Value.str (Str.ofString "_law_signed") 576, Value.str (Str.ofString "_law_signed") 577, Value.str (Str.ofString "/claim/cut.py") 578, Value.int 294 0, Value.int 3 0, Value.int 0 0, Value.int 0 0, Value.int 3 0, Value.ref 260, Value.bool true, Value.int 181 0, Value.ref 261, Value.none, Value.none, Value.none, Value.ref 262, Value.int 579 0, Value.int 294 0, Value.str (Str.ofString "/claim/cut.py") 580] }
noncomputable def fo_law_signed : Obj := { cls := Value.type "function", data := Data.func { name := Str.ofString "_law_signed", qualname := Str.ofString "_law_signed", params := paramsOf 47, body := .stmts (bodyOf 47), scope := scopeOf 47, globals := 3, closure := [], defaults := Value.none, kwdefaults := Value.none, pyModule := Value.str (Str.ofString "law_xm0219_01") 520, code := Value.ref 263 } }
noncomputable def co_law_struct : Obj := { cls := Value.type "code", data := Data.fields #[Value.str (Str.ofString "_law_struct") 582, Value.str (Str.ofString "_law_struct") 583, Value.str (Str.ofString "/claim/cut.py") 584, Value.int 307 0, Value.int 3 0, Value.int 0 0, Value.int 0 0, Value.int 3 0, Value.ref 265, Value.bool true, Value.int 181 0, Value.ref 266, Value.none, Value.ref 267, Value.ref 268, Value.ref 269, Value.int 597 0, Value.int 307 0, Value.str (Str.ofString "/claim/cut.py") 598] }
noncomputable def fo_law_struct : Obj := { cls := Value.type "function", data := Data.func { name := Str.ofString "_law_struct", qualname := Str.ofString "_law_struct", params := paramsOf 48, body := .stmts (bodyOf 48), scope := scopeOf 48, globals := 3, closure := [], defaults := Value.none, kwdefaults := Value.none, pyModule := Value.str (Str.ofString "law_xm0219_01") 520, code := Value.ref 270 } }
noncomputable def co_law_interface : Obj := { cls := Value.type "code", data := Data.fields #[Value.str (Str.ofString "_law_interface") 600, Value.str (Str.ofString "_law_interface") 601, Value.str (Str.ofString "/claim/cut.py") 602, Value.int 318 0, Value.int 3 0, Value.int 0 0, Value.int 0 0, Value.int 3 0, Value.ref 272, Value.bool true, Value.int 181 0, Value.ref 273, Value.none, Value.none, Value.none, Value.ref 274, Value.int 603 0, Value.int 318 0, Value.str (Str.ofString "/claim/cut.py") 604] }
noncomputable def fo_law_interface : Obj := { cls := Value.type "function", data := Data.func { name := Str.ofString "_law_interface", qualname := Str.ofString "_law_interface", params := paramsOf 49, body := .stmts (bodyOf 49), scope := scopeOf 49, globals := 3, closure := [], defaults := Value.none, kwdefaults := Value.none, pyModule := Value.str (Str.ofString "law_xm0219_01") 520, code := Value.ref 275 } }
noncomputable def co_law_names_right : Obj := { cls := Value.type "code", data := Data.fields #[Value.str (Str.ofString "_law_names_right") 606, Value.str (Str.ofString "_law_names_right") 607, Value.str (Str.ofString "/claim/cut.py") 608, Value.int 330 0, Value.int 1 0, Value.int 0 0, Value.int 0 0, Value.int 3 0, Value.ref 277, Value.bool true, Value.int 181 0, Value.ref 278, Value.none, Value.none, Value.none, Value.ref 279, Value.int 609 0, Value.int 330 0, Value.str (Str.ofString "/claim/cut.py") 610] }
noncomputable def fo_law_names_right : Obj := { cls := Value.type "function", data := Data.func { name := Str.ofString "_law_names_right", qualname := Str.ofString "_law_names_right", params := paramsOf 50, body := .stmts (bodyOf 50), scope := scopeOf 50, globals := 3, closure := [], defaults := Value.none, kwdefaults := Value.none, pyModule := Value.str (Str.ofString "law_xm0219_01") 520, code := Value.ref 280 } }
noncomputable def co_law_spots : Obj := { cls := Value.type "code", data := Data.fields #[Value.str (Str.ofString "_law_spots") 612, Value.str (Str.ofString "_law_spots") 613, Value.str (Str.ofString "/claim/cut.py") 614, Value.int 342 0, Value.int 0 0, Value.int 0 0, Value.int 0 0, Value.int 3 0, Value.ref 282, Value.bool true, Value.int 181 0, Value.ref 283, Value.none, Value.ref 284, Value.ref 285, Value.ref 286, Value.int 615 0, Value.int 342 0, Value.str (Str.ofString "/claim/cut.py") 616] }
noncomputable def fo_law_spots : Obj := { cls := Value.type "function", data := Data.func { name := Str.ofString "_law_spots", qualname := Str.ofString "_law_spots", params := paramsOf 51, body := .stmts (bodyOf 51), scope := scopeOf 51, globals := 3, closure := [], defaults := Value.none, kwdefaults := Value.none, pyModule := Value.str (Str.ofString "law_xm0219_01") 520, code := Value.ref 287 } }
noncomputable def co_law_fields : Obj := { cls := Value.type "code", data := Data.fields #[Value.str (Str.ofString "_law_fields") 618, Value.str (Str.ofString "_law_fields") 619, Value.str (Str.ofString "/claim/cut.py") 620, Value.int 344 0, Value.int 0 0, Value.int 0 0, Value.int 0 0, Value.int 3 0, Value.ref 289, Value.bool true, Value.int 181 0, Value.ref 290, Value.none, Value.ref 291, Value.ref 292, Value.ref 293, Value.int 623 0, Value.int 344 0, Value.str (Str.ofString "/claim/cut.py") 624] }
noncomputable def fo_law_fields : Obj := { cls := Value.type "function", data := Data.func { name := Str.ofString "_law_fields", qualname := Str.ofString "_law_fields", params := paramsOf 52, body := .stmts (bodyOf 52), scope := scopeOf 52, globals := 3, closure := [], defaults := Value.none, kwdefaults := Value.none, pyModule := Value.str (Str.ofString "law_xm0219_01") 520, code := Value.ref 294 } }
noncomputable def theK (P : Params) : Frag := [(3, mainD P), (75, dfl), (21, co_plain_tree), (22, fo_plain_tree), (28, co_is_spot), (29, fo_is_spot), (35, co_without_spot), (36, fo_without_spot), (40, co_type_text), (41, fo_type_text), (47, co_parts_text), (48, fo_parts_text), (54, co_chan_text), (55, fo_chan_text), (61, co_field_text), (62, fo_field_text), (66, co_signature_text), (67, fo_signature_text), (73, co_level_of_expr), (74, fo_level_of_expr), (81, co_expr_text), (82, fo_expr_text), (94, co_bare_text), (95, fo_bare_text), (120, co_int_text), (121, fo_int_text), (216, co_types_text), (217, fo_types_text), (230, co_law_pool), (231, fo_law_pool), (237, co_law_take), (238, fo_law_take), (244, co_law_one), (245, fo_law_one), (251, co_law_leaf), (252, fo_law_leaf), (258, co_law_type), (259, fo_law_type), (263, co_law_signed), (264, fo_law_signed), (270, co_law_struct), (271, fo_law_struct), (275, co_law_interface), (276, fo_law_interface), (280, co_law_names_right), (281, fo_law_names_right), (287, co_law_spots), (288, fo_law_spots), (294, co_law_fields), (295, fo_law_fields)]
theorem facts_of {C : Cx} {P : Params} (KX : (theK P).In C.h₀) : Facts C where
  plain_tree := ⟨⟨22, fo_plain_tree, _, mg_of (v := .ref 22) KX C.g (by kernel_rfl), KX 22 fo_plain_tree (by kernel_rfl), rfl, rfl, rfl, rfl, rfl, rfl, codeRec_of KX (by kernel_rfl), fun s vs hk hl => by
    match vs, hl with
    | [u], _ => exact ⟨[], fun _ => .nil, BindsTo.of_eq rfl⟩⟩⟩
  is_spot := ⟨⟨29, fo_is_spot, _, mg_of (v := .ref 29) KX C.g (by kernel_rfl), KX 29 fo_is_spot (by kernel_rfl), rfl, rfl, rfl, rfl, rfl, rfl, codeRec_of KX (by kernel_rfl), fun s vs hk hl => by
    match vs, hl with
    | [u], _ => exact ⟨[], fun _ => .nil, BindsTo.of_eq rfl⟩⟩⟩
  without_spot := ⟨⟨36, fo_without_spot, _, mg_of (v := .ref 36) KX C.g (by kernel_rfl), KX 36 fo_without_spot (by kernel_rfl), rfl, rfl, rfl, rfl, rfl, rfl, codeRec_of KX (by kernel_rfl), fun s vs hk hl => by
    match vs, hl with
    | [u, v], _ => exact ⟨[], fun _ => .nil, BindsTo.of_eq rfl⟩⟩⟩
  type_text := ⟨⟨41, fo_type_text, _, mg_of (v := .ref 41) KX C.g (by kernel_rfl), KX 41 fo_type_text (by kernel_rfl), rfl, rfl, rfl, rfl, rfl, rfl, codeRec_of KX (by kernel_rfl), fun s vs hk hl => by
    match vs, hl with
    | [u], _ => exact ⟨[], fun _ => .nil, BindsTo.of_eq rfl⟩⟩⟩
  parts_text := ⟨⟨48, fo_parts_text, _, mg_of (v := .ref 48) KX C.g (by kernel_rfl), KX 48 fo_parts_text (by kernel_rfl), rfl, rfl, rfl, rfl, rfl, rfl, codeRec_of KX (by kernel_rfl), fun s vs hk hl => by
    match vs, hl with
    | [u, v], _ => exact ⟨[], fun _ => .nil, BindsTo.of_eq rfl⟩⟩⟩
  chan_text := ⟨⟨55, fo_chan_text, _, mg_of (v := .ref 55) KX C.g (by kernel_rfl), KX 55 fo_chan_text (by kernel_rfl), rfl, rfl, rfl, rfl, rfl, rfl, codeRec_of KX (by kernel_rfl), fun s vs hk hl => by
    match vs, hl with
    | [u], _ => exact ⟨[], fun _ => .nil, BindsTo.of_eq rfl⟩⟩⟩
  field_text := ⟨⟨62, fo_field_text, _, mg_of (v := .ref 62) KX C.g (by kernel_rfl), KX 62 fo_field_text (by kernel_rfl), rfl, rfl, rfl, rfl, rfl, rfl, codeRec_of KX (by kernel_rfl), fun s vs hk hl => by
    match vs, hl with
    | [u], _ => exact ⟨[], fun _ => .nil, BindsTo.of_eq rfl⟩⟩⟩
  signature_text := ⟨⟨67, fo_signature_text, _, mg_of (v := .ref 67) KX C.g (by kernel_rfl), KX 67 fo_signature_text (by kernel_rfl), rfl, rfl, rfl, rfl, rfl, rfl, codeRec_of KX (by kernel_rfl), fun s vs hk hl => by
    match vs, hl with
    | [u, v, w], _ => exact ⟨[], fun _ => .nil, BindsTo.of_eq rfl⟩⟩⟩
  level_of_expr := ⟨⟨74, fo_level_of_expr, _, mg_of (v := .ref 74) KX C.g (by kernel_rfl), KX 74 fo_level_of_expr (by kernel_rfl), rfl, rfl, rfl, rfl, rfl, rfl, codeRec_of KX (by kernel_rfl), fun s vs hk hl => by
    match vs, hl with
    | [u], _ => exact ⟨[], fun _ => .nil, BindsTo.of_eq rfl⟩⟩⟩
  expr_text := ⟨⟨82, fo_expr_text, _, mg_of (v := .ref 82) KX C.g (by kernel_rfl), KX 82 fo_expr_text (by kernel_rfl), rfl, rfl, rfl, rfl, rfl, rfl, codeRec_of KX (by kernel_rfl), fun s vs hk hl => by
    match vs, hl with
    | [u], _ => exact ⟨_, fun _ => .cons (.int 0 _) (.cons (.bool false) .nil), BindsTo.of_defaults rfl (hk _ _ (KX 75 dfl (by kernel_rfl))) rfl rfl rfl⟩⟩⟩
  bare_text := ⟨⟨95, fo_bare_text, _, mg_of (v := .ref 95) KX C.g (by kernel_rfl), KX 95 fo_bare_text (by kernel_rfl), rfl, rfl, rfl, rfl, rfl, rfl, codeRec_of KX (by kernel_rfl), fun s vs hk hl => by
    match vs, hl with
    | [u, v], _ => exact ⟨[], fun _ => .nil, BindsTo.of_eq rfl⟩⟩⟩
  int_text := ⟨⟨121, fo_int_text, _, mg_of (v := .ref 121) KX C.g (by kernel_rfl), KX 121 fo_int_text (by kernel_rfl), rfl, rfl, rfl, rfl, rfl, rfl, codeRec_of KX (by kernel_rfl), fun s vs hk hl => by
    match vs, hl with
    | [u], _ => exact ⟨[], fun _ => .nil, BindsTo.of_eq rfl⟩⟩⟩
  types_text := ⟨⟨217, fo_types_text, _, mg_of (v := .ref 217) KX C.g (by kernel_rfl), KX 217 fo_types_text (by kernel_rfl), rfl, rfl, rfl, rfl, rfl, rfl, codeRec_of KX (by kernel_rfl), fun s vs hk hl => by
    match vs, hl with
    | [u], _ => exact ⟨[], fun _ => .nil, BindsTo.of_eq rfl⟩⟩⟩
  law_pool := ⟨⟨231, fo_law_pool, _, mg_of (v := .ref 231) KX C.g (by kernel_rfl), KX 231 fo_law_pool (by kernel_rfl), rfl, rfl, rfl, rfl, rfl, rfl, codeRec_of KX (by kernel_rfl), fun s vs hk hl => by
    match vs, hl with
    | [u], _ => exact ⟨[], fun _ => .nil, BindsTo.of_eq rfl⟩⟩⟩
  law_take := ⟨⟨238, fo_law_take, _, mg_of (v := .ref 238) KX C.g (by kernel_rfl), KX 238 fo_law_take (by kernel_rfl), rfl, rfl, rfl, rfl, rfl, rfl, codeRec_of KX (by kernel_rfl), fun s vs hk hl => by
    match vs, hl with
    | [u, v], _ => exact ⟨[], fun _ => .nil, BindsTo.of_eq rfl⟩⟩⟩
  law_one := ⟨⟨245, fo_law_one, _, mg_of (v := .ref 245) KX C.g (by kernel_rfl), KX 245 fo_law_one (by kernel_rfl), rfl, rfl, rfl, rfl, rfl, rfl, codeRec_of KX (by kernel_rfl), fun s vs hk hl => by
    match vs, hl with
    | [u, v], _ => exact ⟨[], fun _ => .nil, BindsTo.of_eq rfl⟩⟩⟩
  law_leaf := ⟨⟨252, fo_law_leaf, _, mg_of (v := .ref 252) KX C.g (by kernel_rfl), KX 252 fo_law_leaf (by kernel_rfl), rfl, rfl, rfl, rfl, rfl, rfl, codeRec_of KX (by kernel_rfl), fun s vs hk hl => by
    match vs, hl with
    | [u, v], _ => exact ⟨[], fun _ => .nil, BindsTo.of_eq rfl⟩⟩⟩
  law_type := ⟨⟨259, fo_law_type, _, mg_of (v := .ref 259) KX C.g (by kernel_rfl), KX 259 fo_law_type (by kernel_rfl), rfl, rfl, rfl, rfl, rfl, rfl, codeRec_of KX (by kernel_rfl), fun s vs hk hl => by
    match vs, hl with
    | [u, v], _ => exact ⟨[], fun _ => .nil, BindsTo.of_eq rfl⟩⟩⟩
  law_signed := ⟨⟨264, fo_law_signed, _, mg_of (v := .ref 264) KX C.g (by kernel_rfl), KX 264 fo_law_signed (by kernel_rfl), rfl, rfl, rfl, rfl, rfl, rfl, codeRec_of KX (by kernel_rfl), fun s vs hk hl => by
    match vs, hl with
    | [u, v, w], _ => exact ⟨[], fun _ => .nil, BindsTo.of_eq rfl⟩⟩⟩
  law_struct := ⟨⟨271, fo_law_struct, _, mg_of (v := .ref 271) KX C.g (by kernel_rfl), KX 271 fo_law_struct (by kernel_rfl), rfl, rfl, rfl, rfl, rfl, rfl, codeRec_of KX (by kernel_rfl), fun s vs hk hl => by
    match vs, hl with
    | [u, v, w], _ => exact ⟨[], fun _ => .nil, BindsTo.of_eq rfl⟩⟩⟩
  law_interface := ⟨⟨276, fo_law_interface, _, mg_of (v := .ref 276) KX C.g (by kernel_rfl), KX 276 fo_law_interface (by kernel_rfl), rfl, rfl, rfl, rfl, rfl, rfl, codeRec_of KX (by kernel_rfl), fun s vs hk hl => by
    match vs, hl with
    | [u, v, w], _ => exact ⟨[], fun _ => .nil, BindsTo.of_eq rfl⟩⟩⟩
  law_names_right := ⟨⟨281, fo_law_names_right, _, mg_of (v := .ref 281) KX C.g (by kernel_rfl), KX 281 fo_law_names_right (by kernel_rfl), rfl, rfl, rfl, rfl, rfl, rfl, codeRec_of KX (by kernel_rfl), fun s vs hk hl => by
    match vs, hl with
    | [u], _ => exact ⟨[], fun _ => .nil, BindsTo.of_eq rfl⟩⟩⟩
  law_spots := ⟨⟨288, fo_law_spots, _, mg_of (v := .ref 288) KX C.g (by kernel_rfl), KX 288 fo_law_spots (by kernel_rfl), rfl, rfl, rfl, rfl, rfl, rfl, codeRec_of KX (by kernel_rfl), fun s vs hk hl => by
    match vs, hl with
    | [], _ => exact ⟨[], fun _ => .nil, BindsTo.of_eq rfl⟩⟩⟩
  law_fields := ⟨⟨295, fo_law_fields, _, mg_of (v := .ref 295) KX C.g (by kernel_rfl), KX 295 fo_law_fields (by kernel_rfl), rfl, rfl, rfl, rfl, rfl, rfl, codeRec_of KX (by kernel_rfl), fun s vs hk hl => by
    match vs, hl with
    | [], _ => exact ⟨[], fun _ => .nil, BindsTo.of_eq rfl⟩⟩⟩
  AHEAD_LEVEL := ⟨Value.int 6 254, mg_of (v := Value.int 6 254) KX C.g (by kernel_rfl), .int _ _⟩
  TIGHT_LEVEL := ⟨Value.int 7 256, mg_of (v := Value.int 7 256) KX C.g (by kernel_rfl), .int _ _⟩
  WHOLE_LEVEL := ⟨Value.int 0 252, mg_of (v := Value.int 0 252) KX C.g (by kernel_rfl), .int _ _⟩
  LONGEST_NUMBER := ⟨Value.int 100 260, mg_of (v := Value.int 100 260) KX C.g (by kernel_rfl), .int _ _⟩
-- MK2
noncomputable def qView : Program := { PySem.Challenge.rw_xm0219_01.row.prog with main := { PySem.Challenge.rw_xm0219_01.row.prog.main with body := [nth 53] } }
noncomputable def qLoose : List Str := [Str.ofString "OPERATOR_LEVELS", Str.ofString "LITERAL_TYPES", Str.ofString "WHOLE_LEVEL", Str.ofString "AHEAD_LEVEL", Str.ofString "TIGHT_LEVEL", Str.ofString "ROW_INDENT", Str.ofString "LONGEST_NUMBER", Str.ofString "plain_tree", Str.ofString "is_spot", Str.ofString "without_spot", Str.ofString "type_text", Str.ofString "parts_text", Str.ofString "chan_text", Str.ofString "field_text", Str.ofString "signature_text", Str.ofString "level_of_expr", Str.ofString "expr_text", Str.ofString "exprs_text", Str.ofString "bare_text", Str.ofString "ahead_text", Str.ofString "behind_text", Str.ofString "cut_ends", Str.ofString "int_text", Str.ofString "rune_text", Str.ofString "quoted_text", Str.ofString "values_text", Str.ofString "braced_rows", Str.ofString "indented_rows", Str.ofString "block_text", Str.ofString "statement_text", Str.ofString "simple_text", Str.ofString "declared_text", Str.ofString "told_row", Str.ofString "header_text", Str.ofString "choice_text", Str.ofString "labelled_text", Str.ofString "loop_text", Str.ofString "cases_text", Str.ofString "types_text", Str.ofString "deed_text", Str.ofString "_law_pool", Str.ofString "_law_take", Str.ofString "_law_one", Str.ofString "_law_leaf", Str.ofString "_law_type", Str.ofString "_law_signed", Str.ofString "_law_struct", Str.ofString "_law_interface", Str.ofString "_law_names_right", Str.ofString "_law_spots", Str.ofString "_law_fields"]
noncomputable def theHook : Hook := kHook theK [3, 75, 21, 22, 28, 29, 35, 36, 40, 41, 47, 48, 54, 55, 61, 62, 66, 67, 73, 74, 81, 82, 94, 95, 120, 121, 216, 217, 230, 231, 237, 238, 244, 245, 251, 252, 258, 259, 263, 264, 270, 271, 275, 276, 280, 281, 287, 288, 294, 295] (fun _ => by kernel_rfl)
noncomputable def theXt (s : Shared) : Bool := xlAt qView [] s && recOk (RowW.records (OpenRow.toRowW PySem.Challenge.rw_xm0219_01.row)) s
noncomputable def LeftAt (w : World) : Prop := (openEnds treeTable PySem.Challenge.rw_xm0219_01.row.prog w 3564).map (fun s => (openSeen qView qLoose (importedModules PySem.Challenge.rw_xm0219_01.row.prog.main.body) theXt true s, Hook.obs theHook s)) = some (openGood qView qLoose, Hook.val theHook w)
theorem left_f (w : World) : LeftAt (w.withFollow "special-get-raises" false) := by
  unfold LeftAt
  kernel_rfl
theorem left_t (w : World) : LeftAt (w.withFollow "special-get-raises" true) := by
  unfold LeftAt
  kernel_rfl
theorem left_ok : LeftO PySem.Challenge.rw_xm0219_01.row.prog qView qLoose theXt (Hook.obs theHook) (Hook.val theHook) 3564 := fun w => byRow2 "special-get-raises" (P := LeftAt) left_f left_t w
theorem said_ok : PySem.Challenge.rw_xm0219_01.wellSaid = true := by
  unfold OpenLaw.wellSaid
  repeat (with_reducible refine look_both ?_ (by decide +kernel))
  unfold OpenRow.wellSaid
  repeat (with_reducible refine look_both ?_ (by decide +kernel))
  unfold OpenRow.partSaid
  repeat (with_reducible refine look_both ?_ (by decide +kernel))
  unfold looksOpen
  repeat (with_reducible refine look_both ?_ (by decide +kernel))
  decide +kernel
theorem opens_ok : (chainsOk qView && opensWell PySem.Challenge.rw_xm0219_01.row.prog && (frees (OpenRow.toRowW PySem.Challenge.rw_xm0219_01.row) && (OpenRow.toRowW PySem.Challenge.rw_xm0219_01.row).within.isEmpty)) = true := by decide +kernel
-- MTy
theorem ln0 : (Str.ofString ", ").length = 2 := by rfl
theorem ln1 : (Str.ofString "; ").length = 2 := by rfl
theorem ln2 : (Str.ofString "(").length = 1 := by rfl
theorem ln3 : (Str.ofString " (").length = 2 := by rfl
theorem ln4 : (Str.ofString ")").length = 1 := by rfl
theorem ln5 : (Str.ofString " ").length = 1 := by rfl
theorem ln6 : (Str.ofString "...").length = 3 := by rfl
theorem ln7 : (Str.ofString "{}").length = 2 := by rfl
theorem ln8 : (Str.ofString " { ").length = 3 := by rfl
theorem ln9 : (Str.ofString " }").length = 2 := by rfl
theorem ln10 : (Str.ofString "struct").length = 6 := by rfl
theorem ln11 : (Str.ofString "interface").length = 9 := by rfl
theorem ln12 : (Str.ofString "func").length = 4 := by rfl
theorem ln13 : (Str.ofString "*").length = 1 := by rfl
theorem ln14 : (Str.ofString "[]").length = 2 := by rfl
theorem ln15 : (Str.ofString "[").length = 1 := by rfl
theorem ln16 : (Str.ofString "]").length = 1 := by rfl
theorem ln17 : (Str.ofString "map[").length = 4 := by rfl
theorem ln18 : (Str.ofString "").length = 0 := by rfl
theorem ln19 : (Str.ofString "chan ").length = 5 := by rfl
theorem ln20 : (Str.ofString "chan<- ").length = 7 := by rfl
theorem ln21 : (Str.ofString "<-chan ").length = 7 := by rfl
theorem ln22 : (Str.ofString "T").length = 1 := by rfl
theorem ln23 : (Str.ofString " T").length = 2 := by rfl
theorem ln24 : (Str.ofString "p.U").length = 3 := by rfl
theorem ln25 : (Str.ofString "struct{}").length = 8 := by rfl
theorem ln26 : (Str.ofString "interface{}").length = 11 := by rfl
theorem ln27 : (Str.ofString "struct { ").length = 9 := by rfl
theorem ln28 : (Str.ofString "interface { ").length = 12 := by rfl
theorem ln29 : (Str.ofString "a").length = 1 := by rfl
theorem ln30 : (Str.ofString "b").length = 1 := by rfl
theorem ln31 : (Str.ofString "_").length = 1 := by rfl
theorem ln32 : (Str.ofString "m").length = 1 := by rfl
theorem ln33 : (Str.ofString "n").length = 1 := by rfl
theorem ln34 : (Str.ofString "nil").length = 3 := by rfl
theorem ln35 : (Str.ofString "'").length = 1 := by rfl
theorem ln36 : (Str.ofString "U").length = 1 := by rfl
noncomputable def L (x : Str) : List Nat := x.cps.toList
theorem L_inj {x y : Str} (h : L x = L y) : x = y := by
  cases x; cases y
  exact congrArg Str.mk (Array.toList_inj.mp h)
theorem L_app (x y : Str) : L (x ++ y) = L x ++ L y := by
  show (x.cps ++ y.cps).toList = _
  simp [L]
theorem L_len (x : Str) : x.length = (L x).length := by simp [L, Str.length]
theorem len_app (x y : Str) : (x ++ y).length = x.length + y.length := by rw [L_len, L_app, List.length_append, ← L_len, ← L_len]
theorem app_assoc (x y z : Str) : (x ++ y) ++ z = x ++ (y ++ z) := L_inj (by simp [L_app, List.append_assoc])
theorem app_nil (x : Str) : x ++ Str.ofString "" = x := L_inj (by rw [L_app]; show L x ++ [] = L x; simp)
noncomputable def outsText : List Str → Str
  | [] => Str.ofString ""
  | [o] => Str.ofString " " ++ o
  | os => (Str.ofString " (" ++ Txt.join (Str.ofString ", ") os) ++ Str.ofString ")"
noncomputable def sigText (ts os : List Str) : Str := ((Str.ofString "(" ++ Txt.join (Str.ofString ", ") ts) ++ Str.ofString ")") ++ outsText os
noncomputable def braces (word : Str) (xs : List Str) : Str := word ++ (if xs.isEmpty then Str.ofString "{}" else (Str.ofString " { " ++ Txt.join (Str.ofString "; ") xs) ++ Str.ofString " }")
noncomputable abbrev Rel := PyData → PyData → Str → Prop
inductive Leaf : Rel
  | tT (s : Int) : Leaf (.tuple [.str (Str.ofString "name"), .int s, .none, .str (Str.ofString "T")]) (.tuple [.str (Str.ofString "name"), .int 0, .none, .str (Str.ofString "T")]) (Str.ofString "T")
  | pU (s : Int) : Leaf (.tuple [.str (Str.ofString "name"), .int s, .str (Str.ofString "p"), .str (Str.ofString "U")]) (.tuple [.str (Str.ofString "name"), .int 0, .str (Str.ofString "p"), .str (Str.ofString "U")]) (Str.ofString "p.U")
inductive Tys (R : Rel) : List PyData → List PyData → List Str → Prop
  | nil : Tys R [] [] []
  | cons {d p : PyData} {x : Str} {ds ps : List PyData} {xs : List Str} : R d p x → Tys R ds ps xs → Tys R (d :: ds) (p :: ps) (x :: xs)
noncomputable abbrev funcD (s : Int) (ds es : List PyData) (b : Bool) : PyData := .tuple [.str (Str.ofString "func"), .int s, .tuple ds, .tuple es, .bool b]
noncomputable abbrev sliceD (s : Int) (d : PyData) : PyData := .tuple [.str (Str.ofString "slice"), .int s, d]
inductive Sig (R : Rel) : Rel
  | plain {s : Int} {ds ps es qs : List PyData} {xs ys : List Str} : Tys R ds ps xs → Tys R es qs ys → ds.length ≤ 2 → es.length ≤ 2 → Sig R (funcD s ds es false) (funcD 0 ps qs false) (sigText xs ys)
  | row {s s' : Int} {ds ps es qs : List PyData} {d p : PyData} {x : Str} {xs ys : List Str} : Tys R ds ps xs → R d p x → Tys R es qs ys → ds.length ≤ 1 → es.length ≤ 2 → Sig R (funcD s (ds ++ [sliceD s' d]) es true) (funcD 0 (ps ++ [sliceD 0 p]) qs true) (sigText (xs ++ [Str.ofString "..." ++ x]) ys)
inductive Fields (R : Rel) : List PyData → List PyData → List Str → Prop
  | nil : Fields R [] [] []
  | emb {n : Str} {d p : PyData} {x : Str} {ds ps : List PyData} {xs : List Str} : R d p x → Fields R ds ps xs → Fields R (.tuple [.str n, d, .bool true] :: ds) (.tuple [.str n, p, .bool true] :: ps) (x :: xs)
  | nam {n : Str} {d p : PyData} {x : Str} {ds ps : List PyData} {xs : List Str} : n.length ≤ 10 → R d p x → Fields R ds ps xs → Fields R (.tuple [.str n, d, .bool false] :: ds) (.tuple [.str n, p, .bool false] :: ps) (((n ++ Str.ofString " ") ++ x) :: xs)
inductive Methods (R : Rel) : List PyData → List PyData → List Str → Prop
  | nil : Methods R [] [] []
  | cons {n : Str} {d p : PyData} {x : Str} {ds ps : List PyData} {xs : List Str} : n.length ≤ 10 → Sig R d p x → Methods R ds ps xs → Methods R (.tuple [.str n, d] :: ds) (.tuple [.str n, p] :: ps) ((n ++ x) :: xs)
inductive Dir : Str → Str → Prop
  | both : Dir (Str.ofString "both") (Str.ofString "chan ")
  | send : Dir (Str.ofString "send") (Str.ofString "chan<- ")
  | recv : Dir (Str.ofString "recv") (Str.ofString "<-chan ")
noncomputable def heldText (to : Str) (x : Str) : Str := if to == Str.ofString "both" then (if cut2 x == Str.ofString "<-" then (Str.ofString "(" ++ x) ++ Str.ofString ")" else x) else x
inductive Node (R : Rel) : Rel
  | leaf {d p : PyData} {x : Str} : Leaf d p x → Node R d p x
  | ptr {s : Int} {d p : PyData} {x : Str} : R d p x → Node R (.tuple [.str (Str.ofString "ptr"), .int s, d]) (.tuple [.str (Str.ofString "ptr"), .int 0, p]) (Str.ofString "*" ++ x)
  | slice {s : Int} {d p : PyData} {x : Str} : R d p x → Node R (sliceD s d) (sliceD 0 p) (Str.ofString "[]" ++ x)
  | array {s s' : Int} {m : Nat} {d p : PyData} {x : Str} : m < 30 → R d p x → Node R (.tuple [.str (Str.ofString "array"), .int s, .tuple [.str (Str.ofString "int"), .int s', .int m], d]) (.tuple [.str (Str.ofString "array"), .int 0, .tuple [.str (Str.ofString "int"), .int 0, .int m], p]) (((Str.ofString "[" ++ Str.ofString (toString (m : Int))) ++ Str.ofString "]") ++ x)
  | map {s : Int} {e q : PyData} {y : Str} {d p : PyData} {x : Str} : Leaf e q y → R d p x → Node R (.tuple [.str (Str.ofString "map"), .int s, e, d]) (.tuple [.str (Str.ofString "map"), .int 0, q, p]) (((Str.ofString "map[" ++ y) ++ Str.ofString "]") ++ x)
  | chan {s : Int} {to word : Str} {d p : PyData} {x : Str} : Dir to word → R d p x → Node R (.tuple [.str (Str.ofString "chan"), .int s, .str to, d]) (.tuple [.str (Str.ofString "chan"), .int 0, .str to, p]) (word ++ heldText to x)
  | func {d p : PyData} {x : Str} : Sig R d p x → Node R d p (Str.ofString "func" ++ x)
  | struct {s : Int} {ds ps : List PyData} {xs : List Str} : Fields R ds ps xs → ds.length ≤ 3 → Node R (.tuple [.str (Str.ofString "struct"), .int s, .tuple ds]) (.tuple [.str (Str.ofString "struct"), .int 0, .tuple ps]) (braces (Str.ofString "struct") xs)
  | iface {s : Int} {ds ps es qs : List PyData} {xs ys : List Str} : Methods R ds ps xs → Tys Leaf es qs ys → ds.length ≤ 2 → es.length ≤ 1 → Node R (.tuple [.str (Str.ofString "interface"), .int s, .tuple ds, .tuple es]) (.tuple [.str (Str.ofString "interface"), .int 0, .tuple ps, .tuple qs]) (braces (Str.ofString "interface") (xs ++ ys))
noncomputable def TyR : Nat → Rel
  | 0 => Leaf
  | n + 1 => Node (TyR n)
theorem Tys.len₁ {R : Rel} : ∀ {ds ps : List PyData} {xs : List Str}, Tys R ds ps xs → ps.length = ds.length ∧ xs.length = ds.length
  | _, _, _, .nil => ⟨rfl, rfl⟩
  | _, _, _, .cons _ r => ⟨by rw [List.length_cons, List.length_cons, r.len₁.1], by rw [List.length_cons, List.length_cons, r.len₁.2]⟩
theorem Fields.len₁ {R : Rel} : ∀ {ds ps : List PyData} {xs : List Str}, Fields R ds ps xs → ps.length = ds.length ∧ xs.length = ds.length
  | _, _, _, .nil => ⟨rfl, rfl⟩
  | _, _, _, .emb _ r => ⟨by rw [List.length_cons, List.length_cons, r.len₁.1], by rw [List.length_cons, List.length_cons, r.len₁.2]⟩
  | _, _, _, .nam _ _ r => ⟨by rw [List.length_cons, List.length_cons, r.len₁.1], by rw [List.length_cons, List.length_cons, r.len₁.2]⟩
theorem Methods.len₁ {R : Rel} : ∀ {ds ps : List PyData} {xs : List Str}, Methods R ds ps xs → ps.length = ds.length ∧ xs.length = ds.length
  | _, _, _, .nil => ⟨rfl, rfl⟩
  | _, _, _, .cons _ _ r => ⟨by rw [List.length_cons, List.length_cons, r.len₁.1], by rw [List.length_cons, List.length_cons, r.len₁.2]⟩
noncomputable def LenOk (R : Rel) (m : Nat) : Prop := ∀ d p x, R d p x → x.length ≤ m
noncomputable def total (xs : List Str) : Nat := (xs.map (·.length)).sum
theorem join_nil (sep : Str) : Txt.join sep [] = Str.ofString "" := by with_unfolding_all rfl
theorem glue_fold (sep : Str) : ∀ (rest : List Str) (acc : Array Nat), (rest.foldl (fun acc p => acc ++ sep.cps ++ p.cps) acc).toList = acc.toList ++ (rest.map fun x => L sep ++ L x).flatten
  | [], acc => by simp
  | x :: r, acc => by rw [List.foldl_cons, glue_fold sep r]; simp [L, List.append_assoc]
theorem join_L (sep x : Str) (r : List Str) : L (Txt.join sep (x :: r)) = L x ++ (r.map fun x => L sep ++ L x).flatten := glue_fold sep r x.cps
theorem join_one (sep x : Str) : Txt.join sep [x] = x := L_inj (by rw [join_L]; simp)
theorem join_two (sep x y : Str) : Txt.join sep [x, y] = (x ++ sep) ++ y := L_inj (by rw [join_L]; simp [L_app])
theorem join_len (sep : Str) : ∀ xs : List Str, (Txt.join sep xs).length ≤ total xs + xs.length * sep.length
  | [] => by rw [join_nil]; exact Nat.zero_le _
  | x :: r => by
    rw [L_len, join_L, List.length_append, List.length_flatten, List.map_map, ← L_len]
    have : ∀ r : List Str, (r.map (List.length ∘ fun x => L sep ++ L x)).sum = total r + r.length * sep.length := fun r => by
      induction r with
      | nil => simp [total]
      | cons y r ih =>
        rw [List.map_cons, List.sum_cons, ih]
        simp only [Function.comp, List.length_append, ← L_len, total, List.map_cons, List.sum_cons, List.length_cons, Nat.add_mul, Nat.one_mul]
        omega
    rw [this]
    simp only [total, List.map_cons, List.sum_cons, List.length_cons, Nat.add_mul, Nat.one_mul]
    omega
theorem total_le {xs : List Str} {m : Nat} (h : ∀ x ∈ xs, x.length ≤ m) : total xs ≤ xs.length * m := by
  induction xs with
  | nil => simp [total]
  | cons x r ih =>
    have h1 := h x (.head _)
    have h2 := ih fun y hy => h y (.tail _ hy)
    simp only [total, List.map_cons, List.sum_cons, List.length_cons, Nat.add_mul, Nat.one_mul] at h2 ⊢
    omega
theorem Tys.len {R : Rel} {m : Nat} (h : LenOk R m) : ∀ {ds ps : List PyData} {xs : List Str}, Tys R ds ps xs → ∀ x ∈ xs, x.length ≤ m
  | _, _, _, .nil, _, hx => by cases hx
  | _, _, _, .cons a r, x, hx => by
    rcases List.mem_cons.mp hx with rfl | hx
    · exact h _ _ _ a
    · exact r.len h x hx
theorem sep_lens : (Str.ofString ", ").length = 2 ∧ (Str.ofString "; ").length = 2 ∧ (Str.ofString "(").length = 1 ∧ (Str.ofString ")").length = 1 ∧ (Str.ofString " (").length = 2 ∧ (Str.ofString " ").length = 1 ∧ (Str.ofString "...").length = 3 ∧ (Str.ofString "{}").length = 2 ∧ (Str.ofString " { ").length = 3 ∧ (Str.ofString " }").length = 2 ∧ (Str.ofString "struct").length = 6 ∧ (Str.ofString "interface").length = 9 ∧ (Str.ofString "func").length = 4 ∧ (Str.ofString "*").length = 1 ∧ (Str.ofString "[]").length = 2 ∧ (Str.ofString "[").length = 1 ∧ (Str.ofString "]").length = 1 ∧ (Str.ofString "map[").length = 4 ∧ (Str.ofString "").length = 0 := by
  refine ⟨?_, ?_, ?_, ?_, ?_, ?_, ?_, ?_, ?_, ?_, ?_, ?_, ?_, ?_, ?_, ?_, ?_, ?_, ?_⟩ <;> rfl
theorem leaf_len : LenOk Leaf 3 := fun _ _ _ h => by cases h <;> decide
theorem outs_len {os : List Str} {m : Nat} (h : ∀ x ∈ os, x.length ≤ m) (hl : os.length ≤ 2) : (outsText os).length ≤ 2 * m + 7 := by
  obtain ⟨e1, _, _, e4, e5, e6, _⟩ := sep_lens
  match os, h, hl with
  | [], _, _ => exact Nat.zero_le _
  | [o], h, _ =>
    show (Str.ofString " " ++ o).length ≤ _
    have := h o (.head _)
    rw [len_app, e6]; omega
  | [o, o'], h, _ =>
    show ((Str.ofString " (" ++ Txt.join (Str.ofString ", ") [o, o']) ++ Str.ofString ")").length ≤ _
    have a := h o (.head _)
    have b := h o' (.tail _ (.head _))
    rw [join_two, len_app, len_app, len_app, len_app, e1, e4, e5]; omega
theorem sig_len {xs ys : List Str} {m : Nat} (h : ∀ x ∈ xs, x.length ≤ m) (h' : ∀ x ∈ ys, x.length ≤ m) (hx : xs.length ≤ 2) (hy : ys.length ≤ 2) : (sigText xs ys).length ≤ 4 * m + 20 := by
  obtain ⟨e1, _, e3, e4, _⟩ := sep_lens
  unfold sigText
  have a := outs_len h' hy
  have b := join_len (Str.ofString ", ") xs
  have c := total_le h
  have d : xs.length * m ≤ 2 * m := Nat.mul_le_mul_right m hx
  rw [len_app, len_app, len_app, e3, e4]
  rw [e1] at b
  omega
theorem Sig.len {R : Rel} {m : Nat} (h : LenOk R m) {d p : PyData} {x : Str} (s : Sig R d p x) : x.length ≤ 4 * m + 32 := by
  obtain ⟨_, _, _, _, _, _, e7, _⟩ := sep_lens
  cases s with
  | plain a b ha hb =>
    have := sig_len (a.len h) (b.len h) (by rw [a.len₁.2]; exact ha) (by rw [b.len₁.2]; exact hb)
    omega
  | @row s s' ds ps es qs d p x xs ys a c b ha hb =>
    have hc := h _ _ _ c
    have := sig_len (m := m + 3) (xs := xs ++ [Str.ofString "..." ++ x]) (ys := ys) (fun y hy => by
      rcases List.mem_append.mp hy with hy | hy
      · exact Nat.le_trans (a.len h y hy) (Nat.le_add_right _ _)
      · rw [List.mem_singleton.mp hy, len_app, e7]; omega) (fun y hy => Nat.le_trans (b.len h y hy) (Nat.le_add_right _ _)) (by rw [List.length_append, a.len₁.2]; simp; omega) (by rw [b.len₁.2]; exact hb)
    omega
theorem Fields.len {R : Rel} {m : Nat} (h : LenOk R m) : ∀ {ds ps : List PyData} {xs : List Str}, Fields R ds ps xs → ∀ x ∈ xs, x.length ≤ m + 11
  | _, _, _, .nil, _, hx => by cases hx
  | _, _, _, .emb a r, x, hx => by
    rcases List.mem_cons.mp hx with rfl | hx
    · exact Nat.le_trans (h _ _ _ a) (Nat.le_add_right _ _)
    · exact r.len h x hx
  | _, _, _, .nam hn a r, x, hx => by
    obtain ⟨_, _, _, _, _, e6, _⟩ := sep_lens
    rcases List.mem_cons.mp hx with rfl | hx
    · have := h _ _ _ a
      rw [len_app, len_app, e6]; omega
    · exact r.len h x hx
theorem Methods.len {R : Rel} {m : Nat} (h : LenOk R m) : ∀ {ds ps : List PyData} {xs : List Str}, Methods R ds ps xs → ∀ x ∈ xs, x.length ≤ 4 * m + 42
  | _, _, _, .nil, _, hx => by cases hx
  | _, _, _, .cons hn a r, x, hx => by
    rcases List.mem_cons.mp hx with rfl | hx
    · have := a.len h
      rw [len_app]; omega
    · exact r.len h x hx
theorem braces_len {word : Str} {xs : List Str} {m : Nat} (h : ∀ x ∈ xs, x.length ≤ m) (hx : xs.length ≤ 3) (hw : word.length ≤ 9) : (braces word xs).length ≤ 3 * m + 20 := by
  obtain ⟨_, e2, _, _, _, _, _, e8, e9, e10, _⟩ := sep_lens
  unfold braces
  rw [len_app]
  split
  · rw [e8]; omega
  · have b := join_len (Str.ofString "; ") xs
    have c := total_le h
    have d : xs.length * m ≤ 3 * m := Nat.mul_le_mul_right m hx
    rw [len_app, len_app, e9, e10]
    rw [e2] at b
    omega
theorem num_len {m : Nat} (h : m < 30) : (Str.ofString (toString (m : Int))).length ≤ 2 := by
  have : ∀ m : Fin 30, (Str.ofString (toString ((m : Nat) : Int))).length ≤ 2 := by decide
  exact this ⟨m, h⟩
theorem Node.len {R : Rel} {m : Nat} (h : LenOk R m) : LenOk (Node R) (20 * m + 300) := fun d p x hn => by
  obtain ⟨e1, e2, e3, e4, e5, e6, e7, e8, e9, e10, e11, e12, e13, e14, e15, e16, e17, e18, e19⟩ := sep_lens
  cases hn with
  | leaf a => have := leaf_len _ _ _ a; omega
  | ptr a => have := h _ _ _ a; rw [len_app, e14]; omega
  | slice a => have := h _ _ _ a; rw [len_app, e15]; omega
  | array hm a => have := h _ _ _ a; have := num_len hm; rw [len_app, len_app, len_app, e16, e17]; omega
  | map b a => have := h _ _ _ a; have := leaf_len _ _ _ b; rw [len_app, len_app, len_app, e18, e17]; omega
  | @chan s to word d p x hd a =>
    have := h _ _ _ a
    have hw : word.length ≤ 10 := by cases hd <;> decide
    have hh : (heldText to x).length ≤ x.length + 2 := by
      unfold heldText
      split
      · split
        · rw [len_app, len_app, e3, e4]; omega
        · omega
      · omega
    rw [len_app]; omega
  | func a => have := a.len h; rw [len_app, e13]; omega
  | struct a ha =>
    have := braces_len (a.len h) (by rw [a.len₁.2]; exact ha) (word := Str.ofString "struct") (by decide)
    omega
  | @iface s ds ps es qs xs ys a b ha hb =>
    have := braces_len (m := 4 * m + 42) (xs := xs ++ ys) (word := Str.ofString "interface") (fun y hy => by
      rcases List.mem_append.mp hy with hy | hy
      · exact a.len h y hy
      · have := b.len leaf_len y hy; omega) (by rw [List.length_append, a.len₁.2, b.len₁.2]; omega) (by decide)
    omega
noncomputable def bnd : Nat → Nat
  | 0 => 3
  | n + 1 => 20 * bnd n + 300
theorem TyR.len : ∀ n, LenOk (TyR n) (bnd n)
  | 0 => leaf_len
  | n + 1 => Node.len (TyR.len n)
-- MText1
local macro_rules | `(tactic| walk_at "m.len") => `(tactic| first | omega | (simp only [len_app, ln0, ln1, ln2, ln3, ln4, ln5, ln6, ln7, ln8, ln9, ln10, ln11, ln12, ln13, ln14, ln15, ln16, ln17, ln18, ln19, ln20, ln21, ln22, ln23, ln24, ln25, ln26, ln27, ln28, ln29, ln30, ln31, ln32, ln33, ln34, ln35, ln36]; omega) | (simp only [len_app, ln0, ln1, ln2, ln3, ln4, ln5, ln6, ln7, ln8, ln9, ln10, ln11, ln12, ln13, ln14, ln15, ln16, ln17, ln18, ln19, ln20, ln21, ln22, ln23, ln24, ln25, ln26, ln27, ln28, ln29, ln30, ln31, ln32, ln33, ln34, ln35, ln36] at *; omega))
local macro_rules | `(tactic| walk_at "m.env") => `(tactic| (intro env h; obtain ⟨sc, l, g, c, q, f, cd, fr, bt⟩ := env; cases h; rfl))
local macro_rules | `(tactic| walk_at "m.run") => `(tactic| repeat (first
  | ((with_reducible show Ev _ _ _ _ _ (Expr.Name _ _) _ _); (with_reducible apply Ev.nm) <;> exact Eq.refl _)
  | with_reducible exact Ev.str
  | with_reducible exact Ev.int
  | with_reducible exact Ev.none
  | with_reducible exact Ev.bool
  | ((with_reducible show Ev _ _ _ _ _ (Expr.Subscript (Expr.Name (Str.ofString "source") _) _ _) _ _); with_reducible apply Ev.srcAt)
  | ((with_reducible show Ev _ _ _ _ _ (Expr.Subscript _ _ _) _ _); with_reducible apply Ev.item)
  | ((with_reducible show _ ∨ _); first | exact Or.inl ⟨rfl, rfl⟩ | exact Or.inr ⟨rfl, rfl⟩)
  | ((with_reducible show Ev _ _ _ _ _ (Expr.BinOp _ _ _ _) _ _); with_reducible apply Ev.bin)
  | ((with_reducible show Ev _ _ _ _ _ (Expr.Compare _ [CmpOp.NotEq] [Expr.List [] _] _) _ _); with_reducible apply Ev.neNil)
  | ((with_reducible show Ev _ _ _ _ _ (Expr.Compare _ _ _ _) _ _); with_reducible apply Ev.cmpr)
  | ((with_reducible show Ev _ _ _ _ _ (Expr.Tuple _ _ _) _ _); with_reducible apply Ev.tupl)
  | ((with_reducible show Ev _ _ _ _ _ (Expr.Call (Expr.Name (Str.ofString "isinstance") _) _ _ _) _ _); with_reducible apply Ev.isin)
  | ((with_reducible show Ev _ _ _ _ _ (Expr.Call (Expr.Name (Str.ofString "len") _) _ _ _) _ _); with_reducible apply Ev.len)
  | ((with_reducible show Ev _ _ _ _ _ (Expr.UnaryOp UnaryOp.Not _ _) _ _); with_reducible apply Ev.notv)
  | ((with_reducible show Ev _ _ _ _ _ (Expr.UnaryOp UnaryOp.USub _ _) _ _); with_reducible apply Ev.neg)
  | with_reducible exact t_tuple
  | with_reducible exact t_int
  | with_reducible exact t_str
  | with_reducible exact t_bool
  | with_reducible exact Evs.nil
  | with_reducible exact Args.nil
  | ((with_reducible show Evs _ _ _ _ _ _ _ _); with_reducible apply Evs.con)
  | ((with_reducible show Args _ _ _ _ _ _ _ _); with_reducible apply Args.cons)
  | ((with_reducible show Ts _ _ _ _ _ (Expr.Compare _ [CmpOp.Eq] [Expr.List [] _] _) _ _); with_reducible apply Ts.eqNil)
  | ((with_reducible show Ts _ _ _ _ _ (Expr.Compare _ [CmpOp.NotEq] [Expr.List [] _] _) _ _); with_reducible apply Ts.neNil)
  | ((with_reducible show Ts _ _ _ _ _ (Expr.Compare _ _ _ _) _ _); with_reducible apply Ts.cmpr)
  | ((with_reducible show Ts _ _ _ _ _ (Expr.UnaryOp UnaryOp.Not _ _) _ _); with_reducible apply Ts.notv)
  | ((with_reducible show Ts _ _ _ _ _ (Expr.Name _ _) _ _); with_reducible apply Ts.val)
  | ((with_reducible show Ts _ _ _ _ _ (Expr.Subscript _ _ _) _ _); with_reducible apply Ts.val)
  | ((with_reducible show OpD _ _ (compareOp CmpOp.Eq) (PyData.str _) (PyData.str _) _); with_reducible apply op_eq_str)
  | ((with_reducible show OpD _ _ (compareOp CmpOp.NotEq) (PyData.str _) (PyData.str _) _); with_reducible apply op_ne_str)
  | ((with_reducible show OpD _ _ (binaryOp Operator.Add) (PyData.str _) (PyData.str _) _); with_reducible apply op_add_str)
  | ((with_reducible show OpD _ _ (compareOp CmpOp.Eq) (PyData.int _) (PyData.int _) _); with_reducible apply op_eq_int)
  | ((with_reducible show OpD _ _ (compareOp CmpOp.Gt) (PyData.int _) (PyData.int _) _); with_reducible apply op_gt_int)
  | ((with_reducible show OpD _ _ (compareOp CmpOp.Lt) (PyData.int _) (PyData.int _) _); with_reducible apply op_lt_int)
  | ((with_reducible show OpD _ _ (compareOp CmpOp.GtE) (PyData.int _) (PyData.int _) _); with_reducible apply op_ge_int)
  | ((with_reducible show OpD _ _ (compareOp CmpOp.LtE) (PyData.int _) (PyData.int _) _); with_reducible apply op_le_int)
  | ((with_reducible show OpD _ _ (binaryOp Operator.Add) (PyData.int _) (PyData.int _) _); with_reducible exact op_add_int)
  | ((with_reducible show OpD _ _ (binaryOp Operator.Sub) (PyData.int _) (PyData.int _) _); with_reducible exact op_sub_int)
  | ((with_reducible show OpD _ _ (compareOp CmpOp.Is) _ _ _); with_reducible apply op_isNone)
  | ((with_reducible show OpD _ _ (compareOp CmpOp.IsNot) _ _ _); with_reducible apply op_isNotNone)
  | ((with_reducible show OpD _ _ (compareOp CmpOp.NotEq) (PyData.tuple _) (PyData.tuple []) _); with_reducible apply op_ne_unit)
  | ((with_reducible show LstOf _ (VD.dat _) _); exact LstOf.dat _)
  | ((with_reducible show LstOf _ (VD.var _) _); exact LstOf.var (Eq.refl _))
  | ((with_reducible show ItemOf _ (VD.dat (PyData.tuple _)) _ _); first | exact ItemOf.tupN ⟨by decide, by decide⟩ (Eq.refl _) | exact ItemOf.tup (Eq.refl _) (Eq.refl _) ⟨by decide, by decide⟩)
  | ((with_reducible show ItemOf _ (VD.dat (PyData.list _)) _ _); exact ItemOf.dl ⟨by decide, by decide⟩ (Eq.refl _))
  | ((with_reducible show ItemOf _ (VD.var _) _ _); exact ItemOf.vl (Eq.refl _) ⟨by decide, by decide⟩ (Eq.refl _))
  | ((with_reducible show LenOf _ (VD.dat (PyData.list _)) _); exact LenOf.lst (LstOf.dat _) (by first | exact Nat.le_of_ble_eq_true (Eq.refl _) | omega | (simp only [List.length_cons, List.length_append, List.length_map, List.length_nil]; omega)))
  | ((with_reducible show LenOf _ (VD.dat (PyData.tuple _)) _); exact LenOf.tup (by first | exact Nat.le_of_ble_eq_true (Eq.refl _) | omega | (simp only [List.length_cons, List.length_append, List.length_map, List.length_nil]; omega)))
  | ((with_reducible show _ = _); first | exact Eq.refl _ | (with_unfolding_all exact Eq.refl _))
  | ((with_reducible show (_ : Nat) ≤ _); first | exact Nat.le_of_ble_eq_true (Eq.refl _) | walk_at "m.len")
  | ((with_reducible intro _); exact Eq.refl _)
  | ((with_reducible intro _ _); exact Eq.refl _)))
section
variable {C : Cx} {k : Nat} {σ : Int × Int}
theorem CallD.mono {j : Nat} {v : Value} {rs : List VD} {d : PyData} {σ' : Int × Int} (hj : j ≤ k) (h : CallD C j σ v rs d σ') : CallD C k σ v rs d σ' := fun A s P E Q vs hA => h A s P E Q vs (hA.le hj)
theorem FnD.mono {j : Nat} {x : Str} {rs : List VD} {d : PyData} {σ' : Int × Int} (h : FnD C j x rs σ d σ') (hj : j ≤ k) : FnD C k x rs σ d σ' :=
  let ⟨a, o, fd, e1, e2, e3, c⟩ := h; ⟨a, o, fd, e1, e2, e3, c.mono hj⟩
theorem is_spot_int (F : Facts C) (i : Int) : FnD C (k + 1) (Str.ofString "is_spot") [.dat (.int i)] σ (.bool true) σ := by
  refine FnD.intro [] F.is_spot ?_
  conv in (bodyOf _) => whnf
  with_reducible apply Sx.return
  with_reducible apply Ev.boolOp
  with_reducible apply BoolV.andT
  walk_at "m.run"
  with_reducible apply BoolV.one
  walk_at "m.run"
theorem is_spot_bool (F : Facts C) (i : Bool) : FnD C (k + 1) (Str.ofString "is_spot") [.dat (.bool i)] σ (.bool false) σ := by
  refine FnD.intro [] F.is_spot ?_
  conv in (bodyOf _) => whnf
  with_reducible apply Sx.return
  with_reducible apply Ev.boolOp
  with_reducible apply BoolV.andT
  walk_at "m.run"
  with_reducible apply BoolV.one
  walk_at "m.run"
theorem is_spot_str (F : Facts C) (x : Str) : FnD C (k + 1) (Str.ofString "is_spot") [.dat (.str x)] σ (.bool false) σ := by
  refine FnD.intro [] F.is_spot ?_
  conv in (bodyOf _) => whnf
  with_reducible apply Sx.return
  with_reducible apply Ev.boolOp
  with_reducible apply BoolV.andF
  walk_at "m.run"
theorem is_spot_none (F : Facts C) : FnD C (k + 1) (Str.ofString "is_spot") [.dat .none] σ (.bool false) σ := by
  refine FnD.intro [] F.is_spot ?_
  conv in (bodyOf _) => whnf
  with_reducible apply Sx.return
  with_reducible apply Ev.boolOp
  with_reducible apply BoolV.andF
  walk_at "m.run"
theorem is_spot_tuple (F : Facts C) (ds : List PyData) : FnD C (k + 1) (Str.ofString "is_spot") [.dat (.tuple ds)] σ (.bool false) σ := by
  refine FnD.intro [] F.is_spot ?_
  conv in (bodyOf _) => whnf
  with_reducible apply Sx.return
  with_reducible apply Ev.boolOp
  with_reducible apply BoolV.andF
  walk_at "m.run"
theorem int_text_ok (F : Facts C) (m : Nat) (hm : m < 30) : FnD C (k + 1) (Str.ofString "int_text") [.dat (.int m)] σ (.str (Str.ofString (toString (m : Int)))) σ := by
  have hl := num_len hm
  refine FnD.intro [] F.int_text ?_
  conv in (bodyOf _) => whnf
  with_reducible apply Sx.let
  · with_reducible apply Ev.strI
    walk_at "m.run"
    · have := Nat.log2_le_self ((m : Int)).natAbs
      omega
    walk_at "m.run"
  walk_at "m.run"
  with_reducible apply Sx.return
  with_reducible apply Ev.ifT
  with_reducible apply Ts.cmpr
  with_reducible apply Ev.len
  walk_at "m.run"
  exact LenOf.str (by omega)
  walk_at "m.run"
  exact Ev.global F.LONGEST_NUMBER
  apply op_le_int
  exact decide_eq_true (by omega)
  walk_at "m.run"
end
-- MText2
section
variable {C : Cx} {k : Nat} {σ : Int × Int}
noncomputable abbrev intE (s : Int) (m : Nat) : PyData := .tuple [.str (Str.ofString "int"), .int s, .int m]
theorem level_ok (F : Facts C) (s : Int) (m : Nat) : FnD C (k + 1) (Str.ofString "level_of_expr") [.dat (intE s m)] σ (.int 7) σ := by
  refine FnD.intro [] F.level_of_expr ?_
  conv in (bodyOf _) => whnf
  with_reducible apply Sx.ifSkip
  walk_at "m.run"
  with_reducible apply Sx.ifSkip
  walk_at "m.run"
  with_reducible apply Sx.return
  with_reducible apply Ev.ifF
  with_reducible apply Ts.cmpr
  walk_at "m.run"
  · apply op_in_tup
    · decide +kernel
    · decide +kernel
    · decide
    · rfl
  walk_at "m.run"
  exact Ev.global F.TIGHT_LEVEL
theorem bare_ok (F : Facts C) (s : Int) (m : Nat) (hm : m < 30) : FnD C (k + 2) (Str.ofString "bare_text") [.dat (intE s m), .dat (.bool false)] σ (.str (Str.ofString (toString (m : Int)))) σ := by
  refine FnD.intro [] F.bare_text ?_
  conv in (bodyOf _) => whnf
  with_reducible apply Sx.let
  walk_at "m.run"
  with_reducible apply Sx.ifRet
  walk_at "m.run"
  with_reducible apply Sx.return
  with_reducible apply Ev.fn (rs := [.dat (.int m)])
  walk_at "m.run"
  exact int_text_ok F m hm
  walk_at "m.run"
theorem expr_ok (F : Facts C) (s : Int) (m : Nat) (hm : m < 30) : FnD C (k + 3) (Str.ofString "expr_text") [.dat (intE s m)] σ (.str (Str.ofString (toString (m : Int)))) σ := by
  refine FnD.intro [] F.expr_text ?_
  conv in (bodyOf _) => whnf
  with_reducible apply Sx.let
  · with_reducible apply Ev.boolOp
    with_reducible apply BoolV.andF
    walk_at "m.run"
  rfl
  intro _; rfl
  with_reducible apply Sx.ifSkip
  · with_reducible apply Ts.boolOp
    with_reducible apply TsAll.orF
    with_reducible apply Ts.val
    walk_at "m.run"
    with_reducible apply TsAll.orF
    with_reducible apply Ts.cmpr
    · with_reducible apply Ev.fn (rs := [.dat (intE s m)])
      walk_at "m.run"
      exact level_ok F s m
      walk_at "m.run"
    walk_at "m.run"
    exact TsAll.nilO
  with_reducible apply Sx.return
  with_reducible apply Ev.fn (rs := [.dat (intE s m), .dat (.bool false)])
  walk_at "m.run"
  exact bare_ok F s m hm
  walk_at "m.run"
end
-- MText3
section
variable {C : Cx} {k : Nat} {fi : Fi} {ρ ρ' ρ₁ : Loc} {σ σ₁ σ₂ : Int × Int}
noncomputable def xsOf : List Expr → List (Str × Pos)
  | [] => []
  | .Name x p :: r => (x, p) :: xsOf r
  | _ :: r => xsOf r
noncomputable def allLocal (fi : Fi) (xs : List Str) : Bool := xs.all fun x => fi.sc.names.lookup x == some .local
theorem allLocal.at {xs : List Str} (h : allLocal fi xs = true) : ∀ x ∈ xs, Storable fi x := fun x hx => by
  have := List.all_eq_true.mp h x hx
  exact .inl (by simpa using this)
theorem Sx.unp {elts : List Expr} {kd : Nat} {tpos pos : Pos} {value : Expr} {avs : List AV} {ss : List Stmt} {o : Out} (he : Evm C k fi ρ σ value avs σ₁) (hρ : (((xsOf elts).map (·.1)).zip avs).reverse ++ ρ = ρ₁) (hl : (xsOf elts).length = avs.length) (hk : allLocal fi ((xsOf elts).map (·.1)) = true)
    (hx : ∀ env, assignEach elts env = (xsOf elts).map fun x => (false, assign (.Name x.1 x.2) env)) (hs : ∀ env, swapsWithSole [.Tuple elts kd tpos] value pos.line env = pure false) (hw : ∀ env : Env, env.scope = fi.sc → swappedStores [.Tuple elts kd tpos] value env = pure none) (hr : Sx C k fi ρ₁ σ₁ ss o) :
    Sx C k fi ρ σ (.Assign [.Tuple elts kd tpos] value pos :: ss) o := Sx.cons (Sx1.unpack _ he hx hl (allLocal.at hk) hs hw) (hρ ▸ hr)
theorem Sx.unpS {elts : List Expr} {kd : Nat} {tpos pos : Pos} {value : Expr} {ds : List PyData} {ss : List Stmt} {o : Out} (he : EvS C k fi ρ σ value (.tuple ds) ρ' σ₁) (hρ : (((xsOf elts).map (·.1)).zip (ds.map .dat)).reverse ++ ρ' = ρ₁) (hl : (xsOf elts).length = ds.length) (hk : allLocal fi ((xsOf elts).map (·.1)) = true)
    (hx : ∀ env, assignEach elts env = (xsOf elts).map fun x => (false, assign (.Name x.1 x.2) env)) (hs : ∀ env, swapsWithSole [.Tuple elts kd tpos] value pos.line env = pure false) (hw : ∀ env : Env, env.scope = fi.sc → swappedStores [.Tuple elts kd tpos] value env = pure none) (hr : Sx C k fi ρ₁ σ₁ ss o) :
    Sx C k fi ρ σ (.Assign [.Tuple elts kd tpos] value pos :: ss) o := Sx.cons (Sx1.unpackS _ he hx hl (allLocal.at hk) hs hw) (hρ ▸ hr)
theorem Sx.swp {elts : List Expr} {kd : Nat} {tpos pos : Pos} {value : Expr} {avs : List AV} {ss : List Stmt} {o : Out} (names : List Str) (he : Evm C k fi ρ σ value avs σ₁) (hρ : (names.reverse.zip avs.reverse).reverse ++ ρ = ρ₁) (hl : names.length = avs.length) (hk : allLocal fi names = true)
    (hs : ∀ env, swapsWithSole [.Tuple elts kd tpos] value pos.line env = pure false) (hw : ∀ env : Env, env.scope = fi.sc → swappedStores [.Tuple elts kd tpos] value env = pure (some names)) (hr : Sx C k fi ρ₁ σ₁ ss o) :
    Sx C k fi ρ σ (.Assign [.Tuple elts kd tpos] value pos :: ss) o := Sx.cons (Sx1.swap names he hl (allLocal.at hk) hs hw) (hρ ▸ hr)
inductive Each (f : PyData → PyData → Prop) : List PyData → List PyData → Prop
  | nil : Each f [] []
  | cons {d y : PyData} {ds ys : List PyData} : f d y → Each f ds ys → Each f (d :: ds) (y :: ys)
theorem Ct.each {elt : Expr} {x : Str} : ∀ {ds ys : List PyData}, Each (fun d y => Ev C k fi ((x, .dat d) :: ρ) σ elt (.dat y) σ) ds ys → Ct C k fi ρ elt [] (.name x) σ ds ys σ
  | _, _, .nil => .nil
  | _, _, .cons a r => .cons rfl Ifs.nil a (Ct.each r)
theorem Ev.nilNe {e : Expr} {pos p : Pos} {ds : List PyData} {b : Bool} (he : Evf C k fi ρ σ e ds σ₁) (hb : (!ds.isEmpty) = b) : Ts C k fi ρ σ (.Compare e [.NotEq] [.List [] p] pos) b σ₁ := Ts.neNil he.ev (LstOf.dat _) hb
theorem parts_ok (F : Facts C) (word : Str) (xs : List Str) (h : word.length + total xs + 2 * xs.length ≤ 1000000) : FnD C (k + 1) (Str.ofString "parts_text") [.dat (.str word), .dat (.list (xs.map .str))] σ (.str (braces word xs)) σ := by
  have hj := join_len (Str.ofString "; ") xs
  rw [ln1] at hj
  refine FnD.intro [] F.parts_text ?_
  conv in (bodyOf _) => whnf
  with_reducible apply Sx.return
  cases xs with
  | nil =>
    rw [show braces word [] = word ++ Str.ofString "{}" from rfl]
    with_reducible apply Ev.bin
    walk_at "m.run"
    with_reducible apply Ev.ifT
    walk_at "m.run"
  | cons x r =>
    rw [show braces word (x :: r) = word ++ ((Str.ofString " { " ++ Txt.join (Str.ofString "; ") (x :: r)) ++ Str.ofString " }") from rfl]
    with_reducible apply Ev.bin
    walk_at "m.run"
    with_reducible apply Ev.ifF
    walk_at "m.run"
    with_reducible apply Ev.jn (ys := x :: r)
    walk_at "m.run"
    · show total (x :: r) + _ ≤ _
      rw [ln1]; omega
    all_goals walk_at "m.run"
noncomputable def TextOk (C : Cx) (K : Nat) (R : Rel) : Prop := ∀ d p x, R d p x → ∀ (σ : Int × Int), FnD C K (Str.ofString "type_text") [.dat d] σ (.str x) σ
theorem TextOk.mono {K : Nat} {R : Rel} (h : TextOk C K R) (hk : K ≤ k) : TextOk C k R := fun d p x r σ => (h d p x r σ).mono hk
theorem field_emb (F : Facts C) {n : Str} {d : PyData} {x : Str} (h : FnD C k (Str.ofString "type_text") [.dat d] σ (.str x) σ) : FnD C (k + 1) (Str.ofString "field_text") [.dat (.tuple [.str n, d, .bool true])] σ (.str x) σ := by
  refine FnD.intro [] F.field_text ?_
  conv in (bodyOf _) => whnf
  with_reducible apply Sx.unp (avs := [.dat (.str n), .dat d, .dat (.bool true)])
  · with_reducible apply Evm.of (ds := [.str n, d, .bool true])
    walk_at "m.run"
  walk_at "m.run"
  with_reducible apply Sx.return
  with_reducible apply Ev.ifT
  with_reducible apply Ts.val
  walk_at "m.run"
  with_reducible apply Ev.fn (rs := [.dat d])
  walk_at "m.run"
  exact h
  walk_at "m.run"
theorem field_nam (F : Facts C) {n : Str} {d : PyData} {x : Str} (h : FnD C k (Str.ofString "type_text") [.dat d] σ (.str x) σ) (hn : n.length + x.length ≤ 1000000) : FnD C (k + 1) (Str.ofString "field_text") [.dat (.tuple [.str n, d, .bool false])] σ (.str ((n ++ Str.ofString " ") ++ x)) σ := by
  refine FnD.intro [] F.field_text ?_
  conv in (bodyOf _) => whnf
  with_reducible apply Sx.unp (avs := [.dat (.str n), .dat d, .dat (.bool false)])
  · with_reducible apply Evm.of (ds := [.str n, d, .bool false])
    walk_at "m.run"
  walk_at "m.run"
  with_reducible apply Sx.return
  with_reducible apply Ev.ifF
  with_reducible apply Ts.val
  walk_at "m.run"
  with_reducible apply Ev.fn (rs := [.dat d])
  walk_at "m.run"
  exact h
  walk_at "m.run"
end
-- MText4
section
variable {C : Cx} {k : Nat} {fi : Fi} {ρ ρ' ρ₁ : Loc} {σ σ₁ σ₂ : Int × Int} {R : Rel} {m : Nat}
theorem Tys.each {f : PyData → PyData → Prop} (g : ∀ d p x, R d p x → f d (.str x)) : ∀ {ds ps : List PyData} {xs : List Str}, Tys R ds ps xs → Each f ds (xs.map .str)
  | _, _, _, .nil => .nil
  | _, _, _, .cons a r => .cons (g _ _ _ a) (r.each g)
theorem Sx.comp {x : Str} {px spos : Pos} {t : Tgt} {te elt iter : Expr} {ifs : List Expr} {scope : Scope} {pos : Pos} {ds ys : List PyData} {ss : List Stmt} {o : Out} (hte : TgtE t te) (hi : EvIt C k fi ρ σ te iter ds σ₁) (hsub : SubF scope ρ' ρ) (hc : Ct C k (cfi scope fi) ρ' elt ifs t σ₁ ds ys σ₂)
    (hlen : ds.length ≤ 100000) (hx : fi.sc.names.lookup x = some .local) (hsw : ∀ env : Env, env.scope = fi.sc → swapsWith (.ListComp elt [⟨te, iter, ifs, 0⟩] scope pos) (some (.Name x px)) spos.line env = pure true)
    (hn : okNames scope.names = true) (hcell : noCells scope.names = true) (hfr : freesOk fi ρ scope.names = true) (hkind : scope.kind = .function) (ht : (t.names.all fun x => scope.names.lookup x == some .local) = true)
    (hs : ∀ env x, foldedSetIterable iter env x = pure x) (hr : Sx C k fi ((x, .box ys) :: ρ) σ₂ ss o) : Sx C k fi ρ σ (.Assign [.Name x px] (.ListComp elt [⟨te, iter, ifs, 0⟩] scope pos) spos :: ss) o :=
  Sx.cons (Sx1.assignComp hte hi hsub hc hlen hx hsw hn hcell hfr hkind ht hs) hr
theorem Evf.cmp {t : Tgt} {te elt iter : Expr} {ifs : List Expr} {scope : Scope} {pos : Pos} {ds ys : List PyData} (hte : TgtE t te) (hi : EvIt C k fi ρ σ te iter ds σ₁) (hsub : SubF scope ρ' ρ) (hc : Ct C k (cfi scope fi) ρ' elt ifs t σ₁ ds ys σ₂)
    (hlen : ds.length ≤ 100000) (hn : okNames scope.names = true) (hcell : noCells scope.names = true) (hfr : freesOk fi ρ scope.names = true) (hkind : scope.kind = .function) (ht : (t.names.all fun x => scope.names.lookup x == some .local) = true)
    (hs : ∀ env x, foldedSetIterable iter env x = pure x) : Evf C k fi ρ σ (.ListComp elt [⟨te, iter, ifs, 0⟩] scope pos) ys σ₂ := Evf.comp hte hi hsub hc hlen hn hcell hfr hkind ht hs
theorem type_slice (F : Facts C) {s : Int} {d : PyData} {x : Str} (h : FnD C k (Str.ofString "type_text") [.dat d] σ (.str x) σ) (hl : x.length ≤ 1000000) : FnD C (k + 1) (Str.ofString "type_text") [.dat (sliceD s d)] σ (.str (Str.ofString "[]" ++ x)) σ := by
  refine FnD.intro [] F.type_text ?_
  conv in (bodyOf _) => whnf
  with_reducible apply Sx.let
  walk_at "m.run"
  iterate 3
    with_reducible apply Sx.ifSkip
    walk_at "m.run"
  with_reducible apply Sx.ifRet
  walk_at "m.run"
  with_reducible apply Sx.return
  with_reducible apply Ev.bin
  walk_at "m.run"
  with_reducible apply Ev.fn (rs := [.dat d])
  walk_at "m.run"
  try exact h
  all_goals walk_at "m.run"
noncomputable def RowR (R : Rel) : Rel := fun d p x => R d p x ∨ ∃ s d' p' x', R d' p' x' ∧ d = sliceD s d' ∧ p = sliceD 0 p' ∧ x = Str.ofString "[]" ++ x'
theorem Tys.imp {R' : Rel} (h : ∀ d p x, R d p x → R' d p x) : ∀ {ds ps : List PyData} {xs : List Str}, Tys R ds ps xs → Tys R' ds ps xs
  | _, _, _, .nil => .nil
  | _, _, _, .cons a r => .cons (h _ _ _ a) (r.imp h)
theorem Tys.app : ∀ {ds ps es qs : List PyData} {xs ys : List Str}, Tys R ds ps xs → Tys R es qs ys → Tys R (ds ++ es) (ps ++ qs) (xs ++ ys)
  | _, _, _, _, _, _, .nil, h => h
  | _, _, _, _, _, _, .cons a r, h => .cons a (r.app h)
noncomputable abbrev sigLoc (zs : List Str) (t0 t1 t2 t4 : PyData) (es : List PyData) : Loc := [(Str.ofString "types", .box (zs.map .str)), (Str.ofString "told", .dat (.tuple [t0, t1, t2, .tuple es, t4])), (Str.ofString "params", .dat (.tuple [])), (Str.ofString "results", .dat (.tuple []))]
set_option maxHeartbeats 2000000 in
theorem sig_tail (hR : TextOk C k R) (hL : LenOk R m) (hm : m ≤ 10000) {t0 t1 t2 t4 : PyData} {es qs : List PyData} {xs ys : List Str} (b : Tys R es qs ys) (hb : es.length ≤ 2) (jx : (Txt.join (Str.ofString ", ") xs).length ≤ 100000) (tx : total xs + xs.length * 2 ≤ 100000) (σ : Int × Int) :
    Sx C (k + 1) ⟨scopeOf 15, []⟩ (sigLoc xs t0 t1 t2 t4 es) σ ((bodyOf 15).drop 2) (.ret (.str (sigText xs ys)) σ) := by
  conv in (List.drop _ _) => whnf
  with_reducible apply Sx.ifSkip
  · with_reducible apply Ev.nilNe
    · with_reducible apply Evf.cmp (ds := [])
      · exact TgtE.name
      · with_reducible apply EvIt.tup TgtE.name
        walk_at "m.run"
      · exact SubF.nil
      · exact Ct.nil
      walk_at "m.run"
    walk_at "m.run"
  with_reducible apply Sx.comp
  · exact TgtE.name
  · with_reducible apply EvIt.tup TgtE.name
    walk_at "m.run"
  · exact SubF.nil
  · refine Ct.each (b.each fun d p x r => ?_)
    with_reducible apply Ev.fn (rs := [.dat d])
    walk_at "m.run"
    exact (hR d p x r σ).mono (Nat.le_succ _)
    walk_at "m.run"
  · exact Nat.le_trans ‹_› (Nat.le_of_ble_eq_true rfl)
  · rfl
  · walk_at "m.env"
  iterate 6 first | rfl | (intro _ _; rfl)
  with_reducible apply Sx.ifSkip
  · walk_at "m.run"
  with_reducible apply Sx.let
  · with_reducible apply Ev.bin
    with_reducible apply Ev.bin
    walk_at "m.run"
    with_reducible apply Ev.jn (ys := xs)
    walk_at "m.run"
    · rw [ln0]; show total xs + _ ≤ _
      omega
    walk_at "m.run"
  · rfl
  · intro _; rfl
  match es, qs, ys, b, hb with
  | _, _, _, .nil, _ =>
    with_reducible apply Sx.ifRet
    walk_at "m.run"
    rw [show sigText xs [] = (Str.ofString "(" ++ Txt.join (Str.ofString ", ") xs) ++ Str.ofString ")" from app_nil _]
    with_reducible apply Sx.return
    walk_at "m.run"
  | _, _, _, .cons (x := o) b₁ .nil, _ =>
    have lo := hL _ _ _ b₁
    with_reducible apply Sx.ifSkip
    walk_at "m.run"
    with_reducible apply Sx.ifRet
    · with_reducible apply Ts.boolOp
      with_reducible apply TsAll.andT
      with_reducible apply Ts.cmpr
      with_reducible apply Ev.len
      walk_at "m.run"
      exact LenOf.lst (LstOf.var rfl) (by simp)
      walk_at "m.run"
      with_reducible apply TsAll.andT
      with_reducible apply Ts.cmpr
      walk_at "m.run"
      exact op_eq_data (by decide) (by decide) rfl
      walk_at "m.run"
      exact TsAll.nilA
    rw [show sigText xs [o] = (((Str.ofString "(" ++ Txt.join (Str.ofString ", ") xs) ++ Str.ofString ")") ++ Str.ofString " ") ++ o from (app_assoc _ _ _).symm]
    with_reducible apply Sx.return
    walk_at "m.run"
    all_goals walk_at "m.run"
  | _, _, _, .cons (x := o) b₁ (.cons (x := o') b₂ .nil), _ =>
    have lo := hL _ _ _ b₁
    have lo' := hL _ _ _ b₂
    have jy : (Txt.join (Str.ofString ", ") [o, o']).length ≤ 2 * m + 2 := by rw [join_two, len_app, len_app, ln0]; omega
    with_reducible apply Sx.ifSkip
    walk_at "m.run"
    with_reducible apply Sx.ifSkip
    · with_reducible apply Ts.boolOp
      with_reducible apply TsAll.andF
      with_reducible apply Ts.cmpr
      with_reducible apply Ev.len
      walk_at "m.run"
      exact LenOf.lst (LstOf.var rfl) (by simp)
      walk_at "m.run"
    rw [show sigText xs [o, o'] = ((((Str.ofString "(" ++ Txt.join (Str.ofString ", ") xs) ++ Str.ofString ")") ++ Str.ofString " (") ++ Txt.join (Str.ofString ", ") [o, o']) ++ Str.ofString ")" from by unfold sigText outsText; rw [app_assoc _ (Str.ofString " (") _, app_assoc _ (Str.ofString " (" ++ _) _]]
    with_reducible apply Sx.return
    with_reducible apply Ev.bin
    with_reducible apply Ev.bin
    walk_at "m.run"
    with_reducible apply Ev.jn (ys := [o, o'])
    walk_at "m.run"
    · rw [ln0]; show total [o, o'] + _ ≤ _
      simp only [total, List.map_cons, List.map_nil, List.sum_cons, List.sum_nil, List.length_cons, List.length_nil]
      omega
    all_goals walk_at "m.run"
  | _, _, _, .cons _ (.cons _ (.cons _ _)), hb => simp at hb
set_option maxHeartbeats 2000000 in
theorem sig_ok (F : Facts C) (hR : TextOk C k R) (hL : LenOk R m) (hm : m ≤ 10000) {d p : PyData} {x : Str} (hd : Sig R d p x) (σ : Int × Int) : FnD C (k + 2) (Str.ofString "signature_text") [.dat d, .dat (.tuple []), .dat (.tuple [])] σ (.str x) σ := by
  refine FnD.intro [] F.signature_text ?_
  conv in (bodyOf _) => whnf
  cases hd with
  | @plain s ds ps es qs xs ys a b ha hb =>
    have jx := join_len (Str.ofString ", ") xs
    have tx := total_le (a.len hL)
    have lx : xs.length * m ≤ 2 * m := Nat.mul_le_mul_right m (by rw [a.len₁.2]; exact ha)
    have xl : xs.length ≤ 2 := by rw [a.len₁.2]; exact ha
    rw [ln0] at jx
    with_reducible apply Sx.comp
    · exact TgtE.name
    · with_reducible apply EvIt.tup TgtE.name
      walk_at "m.run"
    · exact SubF.nil
    · refine Ct.each (a.each fun d p x r => ?_)
      with_reducible apply Ev.fn (rs := [.dat d])
      walk_at "m.run"
      exact (hR d p x r σ).mono (Nat.le_succ _)
      walk_at "m.run"
    · exact Nat.le_trans ha (Nat.le_of_ble_eq_true rfl)
    · rfl
    · walk_at "m.env"
    iterate 6 first | rfl | (intro _ _; rfl)
    with_reducible apply Sx.ifSkip
    · walk_at "m.run"
    exact Sx.sub (.cons rfl (.cons rfl (.cons rfl (.cons rfl .nil)))) (sig_tail hR hL hm b hb (by omega) (by omega) σ)
  | @row s s' ds ps es qs d p x xs ys a c b ha hb =>
    have hx := hL _ _ _ c
    have tx := total_le (a.len hL)
    have xl : xs.length ≤ 1 := by rw [a.len₁.2]; exact ha
    have lx : xs.length * m ≤ 1 * m := Nat.mul_le_mul_right m xl
    have jx := join_len (Str.ofString ", ") (xs ++ [Str.ofString "..." ++ x])
    have t2 : total (xs ++ [Str.ofString "..." ++ x]) = total xs + (3 + x.length) := by simp only [total, List.map_append, List.sum_append, List.map_cons, List.map_nil, List.sum_cons, List.sum_nil, len_app, ln6]; omega
    have t3 : (xs ++ [Str.ofString "..." ++ x]).length = xs.length + 1 := by simp
    rw [ln0, t2, t3] at jx
    have a' : Tys (RowR R) (ds ++ [sliceD s' d]) (ps ++ [sliceD 0 p]) (xs ++ [Str.ofString "[]" ++ x]) := (a.imp fun _ _ _ r => .inl r).app (.cons (.inr ⟨s', d, p, x, c, rfl, rfl, rfl⟩) .nil)
    have i1 : seqIndex? (-1) (ds ++ [sliceD s' d]).length = some ds.length := by
      rw [PyProof.Rows.seqIndex_back (by decide) (by simp; omega)]
      congr 1; simp; omega
    have i2 : (ds ++ [sliceD s' d])[ds.length]? = some (sliceD s' d) := by simp
    with_reducible apply Sx.comp
    · exact TgtE.name
    · with_reducible apply EvIt.tup TgtE.name
      walk_at "m.run"
    · exact SubF.nil
    · refine Ct.each (a'.each fun d p x r => ?_)
      with_reducible apply Ev.fn (rs := [.dat d])
      walk_at "m.run"
      · rcases r with r | ⟨s, d', p', x', r, rfl, rfl, rfl⟩
        · exact (hR d p x r σ).mono (Nat.le_succ _)
        · exact type_slice F (hR _ _ _ r σ) (Nat.le_trans (hL _ _ _ r) (by omega))
      walk_at "m.run"
    · rw [List.length_append]; simp; omega
    · rfl
    · walk_at "m.env"
    iterate 6 first | rfl | (intro _ _; rfl)
    rw [List.map_append]
    with_reducible apply Sx.ifThen
    · walk_at "m.run"
    · refine Sx.cons (Sx1.setLast (ds := xs.map .str) (d := .str (Str.ofString "..." ++ x)) (σ₁ := σ) ?_ rfl ?_ ?_) Sx.nil
      · with_reducible apply Ev.bin
        walk_at "m.run"
        with_reducible apply Ev.fn (rs := [.dat d])
        · with_reducible apply Args.cons
          with_reducible apply Ev.item
          with_reducible apply Ev.item
          walk_at "m.run"
          · exact ItemOf.tup i1 i2 ⟨by decide, by decide⟩
          all_goals walk_at "m.run"
        · exact (hR d p x c σ).mono (Nat.le_succ _)
        all_goals walk_at "m.run"
      · walk_at "m.run"
      · simp; omega
    rw [show xs.map PyData.str ++ [PyData.str (Str.ofString "..." ++ x)] = (xs ++ [Str.ofString "..." ++ x]).map .str from by simp]
    exact Sx.sub (.cons rfl (.cons rfl (.cons rfl (.cons rfl .nil)))) (sig_tail hR hL hm b hb (by omega) (by rw [t2, t3]; omega) σ)
end
-- MText5
section
variable {C : Cx} {k : Nat} {fi : Fi} {ρ ρ' ρ₁ : Loc} {σ σ₁ σ₂ : Int × Int} {R : Rel} {m : Nat}
theorem Ev.cutTwo {e : Expr} {p p' pos : Pos} {kd : Nat} {x : Str} (he : Ev C k fi ρ σ e (.dat (.str x)) σ₁) (ht : ∀ o r, letTemporaryGo e o r = pure ()) :
    Ev C k fi ρ σ (.Subscript e (.Slice Option.none (some (.Constant (.int 2) kd p)) Option.none p') pos) (.dat (.str (Mine.cut2 x))) σ₁ := Ev.cut2 he ht
theorem chan_ok (F : Facts C) {s : Int} {to word : Str} {d : PyData} {x : Str} (hd : Dir to word) (h : FnD C k (Str.ofString "type_text") [.dat d] σ (.str x) σ) (hl : x.length ≤ 1000000) : FnD C (k + 1) (Str.ofString "chan_text") [.dat (.tuple [.str (Str.ofString "chan"), .int s, .str to, d])] σ (.str (word ++ heldText to x)) σ := by
  refine FnD.intro [] F.chan_text ?_
  conv in (bodyOf _) => whnf
  with_reducible apply Sx.let
  · with_reducible apply Ev.fn (rs := [.dat d])
    walk_at "m.run"
    exact h
    walk_at "m.run"
  walk_at "m.run"
  cases hd with
  | both =>
    with_reducible apply Sx.ifRet
    walk_at "m.run"
    with_reducible apply Sx.return
    have e0 : heldText (Str.ofString "both") x = if cut2 x == Str.ofString "<-" then (Str.ofString "(" ++ x) ++ Str.ofString ")" else x := rfl
    rw [e0]
    cases hc : cut2 x == Str.ofString "<-" with
    | true =>
      rw [if_pos rfl]
      with_reducible apply Ev.bin
      walk_at "m.run"
      with_reducible apply Ev.ifT
      · with_reducible apply Ts.cmpr
        with_reducible apply Ev.cutTwo
        walk_at "m.run"
        exact hc
        walk_at "m.run"
      all_goals walk_at "m.run"
    | false =>
      rw [if_neg Bool.false_ne_true]
      with_reducible apply Ev.bin
      walk_at "m.run"
      with_reducible apply Ev.ifF
      · with_reducible apply Ts.cmpr
        with_reducible apply Ev.cutTwo
        walk_at "m.run"
        exact hc
        walk_at "m.run"
      all_goals walk_at "m.run"
  | send =>
    with_reducible apply Sx.ifSkip
    walk_at "m.run"
    rw [show heldText (Str.ofString "send") x = x from rfl]
    with_reducible apply Sx.return
    with_reducible apply Ev.bin
    with_reducible apply Ev.ifT
    all_goals walk_at "m.run"
  | recv =>
    with_reducible apply Sx.ifSkip
    walk_at "m.run"
    rw [show heldText (Str.ofString "recv") x = x from rfl]
    with_reducible apply Sx.return
    with_reducible apply Ev.bin
    with_reducible apply Ev.ifF
    all_goals walk_at "m.run"
theorem leaf_type (F : Facts C) {d p : PyData} {x : Str} (h : Leaf d p x) : FnD C (k + 1) (Str.ofString "type_text") [.dat d] σ (.str x) σ := by
  refine FnD.intro [] F.type_text ?_
  conv in (bodyOf _) => whnf
  with_reducible apply Sx.let
  · cases h <;> walk_at "m.run"
  walk_at "m.run"
  cases h with
  | tT s =>
    with_reducible apply Sx.ifRet
    walk_at "m.run"
    with_reducible apply Sx.return
    with_reducible apply Ev.ifT
    all_goals walk_at "m.run"
  | pU s =>
    rw [show Str.ofString "p.U" = (Str.ofString "p" ++ Str.ofString ".") ++ Str.ofString "U" from rfl]
    with_reducible apply Sx.ifRet
    walk_at "m.run"
    with_reducible apply Sx.return
    with_reducible apply Ev.ifF
    all_goals walk_at "m.run"
end
-- MText6
section
variable {C : Cx} {k : Nat} {fi : Fi} {ρ ρ' ρ₁ : Loc} {σ σ₁ σ₂ : Int × Int} {R : Rel} {m : Nat}
noncomputable abbrev tyLoc (d : PyData) : Loc := ([Str.ofString "told"].zip (List.map avOf [.dat d] ++ List.map .dat [])).reverse
theorem ty_ptr (F : Facts C) {s : Int} {d : PyData} {x : Str} (h : FnD C k (Str.ofString "type_text") [.dat d] σ (.str x) σ) (hl : x.length ≤ 1000000) : FnD C (k + 1) (Str.ofString "type_text") [.dat (.tuple [.str (Str.ofString "ptr"), .int s, d])] σ (.str (Str.ofString "*" ++ x)) σ := by
  refine FnD.intro [] F.type_text ?_
  conv in (bodyOf _) => whnf
  with_reducible apply Sx.let
  walk_at "m.run"
  iterate 1
    with_reducible apply Sx.ifSkip
    walk_at "m.run"
  with_reducible apply Sx.ifRet
  walk_at "m.run"
  with_reducible apply Sx.return
  with_reducible apply Ev.bin
  walk_at "m.run"
  with_reducible apply Ev.fn (rs := [.dat d])
  walk_at "m.run"
  try exact h
  all_goals walk_at "m.run"
theorem ty_array (F : Facts C) {s s' : Int} {n : Nat} (hn : n < 30) {d : PyData} {x : Str} (h : FnD C k (Str.ofString "type_text") [.dat d] σ (.str x) σ) (h3 : 3 ≤ k) (hl : x.length ≤ 1000000) : FnD C (k + 1) (Str.ofString "type_text") [.dat (.tuple [.str (Str.ofString "array"), .int s, .tuple [.str (Str.ofString "int"), .int s', .int n], d])] σ (.str (((Str.ofString "[" ++ Str.ofString (toString (n : Int))) ++ Str.ofString "]") ++ x)) σ := by
  have nl := num_len hn
  refine FnD.intro [] F.type_text ?_
  conv in (bodyOf _) => whnf
  with_reducible apply Sx.let
  walk_at "m.run"
  iterate 2
    with_reducible apply Sx.ifSkip
    walk_at "m.run"
  with_reducible apply Sx.ifRet
  walk_at "m.run"
  with_reducible apply Sx.return
  with_reducible apply Ev.bin
  with_reducible apply Ev.bin
  with_reducible apply Ev.bin
  walk_at "m.run"
  · with_reducible apply Ev.fn (rs := [.dat (intE s' n)])
    walk_at "m.run"
    exact (expr_ok (k := 0) F s' n hn).mono h3
    all_goals walk_at "m.run"
  walk_at "m.run"
  with_reducible apply Ev.fn (rs := [.dat d])
  walk_at "m.run"
  try exact h
  all_goals walk_at "m.run"
theorem ty_map (F : Facts C) {s : Int} {e d : PyData} {x y : Str} (h : FnD C k (Str.ofString "type_text") [.dat d] σ (.str x) σ) (he : FnD C k (Str.ofString "type_text") [.dat e] σ (.str y) σ) (hl : x.length ≤ 1000000) (hl' : y.length ≤ 1000000) : FnD C (k + 1) (Str.ofString "type_text") [.dat (.tuple [.str (Str.ofString "map"), .int s, e, d])] σ (.str (((Str.ofString "map[" ++ y) ++ Str.ofString "]") ++ x)) σ := by
  refine FnD.intro [] F.type_text ?_
  conv in (bodyOf _) => whnf
  with_reducible apply Sx.let
  walk_at "m.run"
  iterate 4
    with_reducible apply Sx.ifSkip
    walk_at "m.run"
  with_reducible apply Sx.ifRet
  walk_at "m.run"
  with_reducible apply Sx.return
  with_reducible apply Ev.bin
  with_reducible apply Ev.bin
  with_reducible apply Ev.bin
  walk_at "m.run"
  · with_reducible apply Ev.fn (rs := [.dat e])
    walk_at "m.run"
    exact he
    all_goals walk_at "m.run"
  walk_at "m.run"
  with_reducible apply Ev.fn (rs := [.dat d])
  walk_at "m.run"
  try exact h
  all_goals walk_at "m.run"
theorem ty_chan (F : Facts C) {s : Int} {to word : Str} {d : PyData} {x : Str} (hd : Dir to word) (h : FnD C k (Str.ofString "type_text") [.dat d] σ (.str x) σ) (hl : x.length ≤ 1000000) : FnD C (k + 2) (Str.ofString "type_text") [.dat (.tuple [.str (Str.ofString "chan"), .int s, .str to, d])] σ (.str (word ++ heldText to x)) σ := by
  refine FnD.intro [] F.type_text ?_
  conv in (bodyOf _) => whnf
  with_reducible apply Sx.let
  walk_at "m.run"
  iterate 5
    with_reducible apply Sx.ifSkip
    walk_at "m.run"
  with_reducible apply Sx.ifRet
  walk_at "m.run"
  with_reducible apply Sx.return
  with_reducible apply Ev.fn (rs := [.dat (.tuple [.str (Str.ofString "chan"), .int s, .str to, d])])
  walk_at "m.run"
  exact chan_ok F hd h hl
  all_goals walk_at "m.run"
theorem ty_func (F : Facts C) {s : Int} {ds es : List PyData} {b : Bool} {x : Str} (h : FnD C k (Str.ofString "signature_text") [.dat (funcD s ds es b), .dat (.tuple []), .dat (.tuple [])] σ (.str x) σ) (hl : x.length ≤ 1000000) : FnD C (k + 1) (Str.ofString "type_text") [.dat (funcD s ds es b)] σ (.str (Str.ofString "func" ++ x)) σ := by
  refine FnD.intro [] F.type_text ?_
  conv in (bodyOf _) => whnf
  with_reducible apply Sx.let
  walk_at "m.run"
  iterate 6
    with_reducible apply Sx.ifSkip
    walk_at "m.run"
  with_reducible apply Sx.ifRet
  walk_at "m.run"
  with_reducible apply Sx.return
  with_reducible apply Ev.bin
  walk_at "m.run"
  with_reducible apply Ev.fn (rs := [.dat (funcD s ds es b), .dat (.tuple []), .dat (.tuple [])])
  walk_at "m.run"
  try exact h
  all_goals walk_at "m.run"
theorem Fields.each {f : PyData → PyData → Prop} (g : ∀ n d p x, R d p x → f (.tuple [.str n, d, .bool true]) (.str x)) (g' : ∀ (n : Str) d p x, n.length ≤ 10 → R d p x → f (.tuple [.str n, d, .bool false]) (.str ((n ++ Str.ofString " ") ++ x))) : ∀ {ds ps : List PyData} {xs : List Str}, Fields R ds ps xs → Each f ds (xs.map .str)
  | _, _, _, .nil => .nil
  | _, _, _, .emb a r => .cons (g _ _ _ _ a) (r.each g g')
  | _, _, _, .nam hn a r => .cons (g' _ _ _ _ hn a) (r.each g g')
theorem Methods.each {f : PyData → PyData → Prop} (g : ∀ (n : Str) d p x, n.length ≤ 10 → Sig R d p x → f (.tuple [.str n, d]) (.str (n ++ x))) : ∀ {ds ps : List PyData} {xs : List Str}, Methods R ds ps xs → Each f ds (xs.map .str)
  | _, _, _, .nil => .nil
  | _, _, _, .cons hn a r => .cons (g _ _ _ _ hn a) (r.each g)
inductive EachP (f : PyData → PyData → PyData → Prop) : List PyData → List PyData → Prop
  | nil : EachP f [] []
  | cons {a b y : PyData} {ds ys : List PyData} : f a b y → EachP f ds ys → EachP f (.tuple [a, b] :: ds) (y :: ys)
theorem Ct.eachPair {elt : Expr} {x z : Str} : ∀ {ds ys : List PyData}, EachP (fun a b y => Ev C k fi ((z, .dat b) :: (x, .dat a) :: ρ) σ elt (.dat y) σ) ds ys → Ct C k fi ρ elt [] (.pair x z) σ ds ys σ
  | _, _, .nil => .nil
  | _, _, .cons a r => .cons rfl Ifs.nil a (Ct.eachPair r)
theorem Methods.eachPair {f : PyData → PyData → PyData → Prop} (g : ∀ (n : Str) d p x, n.length ≤ 10 → Sig R d p x → f (.str n) d (.str (n ++ x))) : ∀ {ds ps : List PyData} {xs : List Str}, Methods R ds ps xs → EachP f ds (xs.map .str)
  | _, _, _, .nil => .nil
  | _, _, _, .cons hn a r => .cons (g _ _ _ _ hn a) (r.eachPair g)
theorem ty_struct (F : Facts C) (hR : TextOk C k R) (hL : LenOk R m) (hm : m ≤ 10000) {s : Int} {ds ps : List PyData} {xs : List Str} (h : Fields R ds ps xs) (hd : ds.length ≤ 3) : FnD C (k + 2) (Str.ofString "type_text") [.dat (.tuple [.str (Str.ofString "struct"), .int s, .tuple ds])] σ (.str (braces (Str.ofString "struct") xs)) σ := by
  have xl : xs.length ≤ 3 := by rw [h.len₁.2]; exact hd
  have tx := total_le (h.len hL)
  have lx : xs.length * (m + 11) ≤ 3 * (m + 11) := Nat.mul_le_mul_right _ xl
  refine FnD.intro [] F.type_text ?_
  conv in (bodyOf _) => whnf
  with_reducible apply Sx.let
  walk_at "m.run"
  iterate 7
    with_reducible apply Sx.ifSkip
    walk_at "m.run"
  with_reducible apply Sx.ifRet
  walk_at "m.run"
  with_reducible apply Sx.return
  with_reducible apply Ev.fn (rs := [.dat (.str (Str.ofString "struct")), .dat (.list (xs.map .str))])
  · with_reducible apply Args.cons
    walk_at "m.run"
    · with_reducible apply Evf.ev
      with_reducible apply Evf.cmp
      · exact TgtE.name
      · with_reducible apply EvIt.tup TgtE.name
        walk_at "m.run"
      · exact SubF.nil
      · refine Ct.each (h.each (fun n d p x r => ?_) fun n d p x hn r => ?_)
        · with_reducible apply Ev.fn (rs := [.dat (.tuple [.str n, d, .bool true])])
          walk_at "m.run"
          exact field_emb F (hR d p x r σ)
          walk_at "m.run"
        · with_reducible apply Ev.fn (rs := [.dat (.tuple [.str n, d, .bool false])])
          walk_at "m.run"
          exact field_nam F (hR d p x r σ) (by have := hL _ _ _ r; omega)
          walk_at "m.run"
      · exact Nat.le_trans hd (Nat.le_of_ble_eq_true rfl)
      all_goals walk_at "m.run"
    all_goals walk_at "m.run"
  · exact parts_ok F _ _ (by rw [ln10]; omega)
  all_goals walk_at "m.run"
end
-- MText7
section
variable {C : Cx} {k : Nat} {fi : Fi} {ρ ρ' ρ₁ : Loc} {σ σ₁ σ₂ : Int × Int} {R : Rel} {m : Nat}
theorem Tys.leafs {R : Rel} {f : PyData → PyData → Prop} (g : ∀ d p x, R d p x → f d (.str x)) {ds ps : List PyData} {xs : List Str} (h : Tys R ds ps xs) : Each f ds (xs.map .str) := h.each g
theorem ty_iface (F : Facts C) (hR : TextOk C k R) (hL : LenOk R m) (hm : m ≤ 10000) {s : Int} {ds ps es qs : List PyData} {xs ys : List Str} (h : Methods R ds ps xs) (h' : Tys Leaf es qs ys) (hd : ds.length ≤ 2) (he : es.length ≤ 1) :
    FnD C (k + 3) (Str.ofString "type_text") [.dat (.tuple [.str (Str.ofString "interface"), .int s, .tuple ds, .tuple es])] σ (.str (braces (Str.ofString "interface") (xs ++ ys))) σ := by
  have xl : xs.length ≤ 2 := by rw [h.len₁.2]; exact hd
  have tx := total_le (h.len hL)
  have lx : xs.length * (4 * m + 42) ≤ 2 * (4 * m + 42) := Nat.mul_le_mul_right _ xl
  have yl : ys.length ≤ 1 := by rw [h'.len₁.2]; exact he
  have ty := total_le (h'.len leaf_len)
  have tt : total (xs ++ ys) = total xs + total ys := by simp [total]
  refine FnD.intro [] F.type_text ?_
  conv in (bodyOf _) => whnf
  with_reducible apply Sx.let
  walk_at "m.run"
  iterate 8
    with_reducible apply Sx.ifSkip
    walk_at "m.run"
  with_reducible apply Sx.comp
  · exact TgtE.pair
  · with_reducible apply EvIt.tup TgtE.pair
    walk_at "m.run"
  · exact SubF.nil
  · refine Ct.eachPair (h.eachPair fun n d p x hn r => ?_)
    with_reducible apply Ev.bin
    walk_at "m.run"
    · with_reducible apply Ev.fn (rs := [.dat d, .dat (.tuple []), .dat (.tuple [])])
      walk_at "m.run"
      exact sig_ok F hR hL hm r σ
      walk_at "m.run"
    · apply op_add_str
      have := r.len hL
      omega
  · exact Nat.le_trans hd (Nat.le_of_ble_eq_true rfl)
  · rfl
  · walk_at "m.env"
  iterate 6 first | rfl | (intro _ _; rfl)
  with_reducible apply Sx.return
  with_reducible apply Ev.fn (rs := [.dat (.str (Str.ofString "interface")), .dat (.list ((xs ++ ys).map .str))])
  · with_reducible apply Args.cons
    · walk_at "m.run"
    · with_reducible apply Args.cons
      · rw [List.map_append]
        with_reducible apply Evf.ev
        with_reducible apply Evf.add
        · walk_at "m.run"
        · walk_at "m.run"
        · with_reducible apply Evf.ev
          with_reducible apply Evf.cmp
          · exact TgtE.name
          · with_reducible apply EvIt.tup TgtE.name
            walk_at "m.run"
          · exact SubF.nil
          · refine Ct.each (h'.each fun d p x r => ?_)
            with_reducible apply Ev.fn (rs := [.dat d])
            walk_at "m.run"
            exact leaf_type F r
            walk_at "m.run"
          · exact Nat.le_trans he (Nat.le_of_ble_eq_true rfl)
          all_goals walk_at "m.run"
        · walk_at "m.run"
        · simp only [List.length_map]; omega
      all_goals walk_at "m.run"
    all_goals walk_at "m.run"
  · exact parts_ok F _ _ (by rw [ln11, tt, List.length_append]; omega)
  all_goals walk_at "m.run"
theorem node_text (F : Facts C) (hR : TextOk C k R) (hL : LenOk R m) (hm : m ≤ 10000) (h3 : 3 ≤ k) : TextOk C (k + 3) (Node R) := fun d p x h σ => by
  cases h with
  | leaf h => exact (leaf_type (k := k) F h).mono (by omega)
  | ptr h => exact (ty_ptr F (hR _ _ _ h σ) (Nat.le_trans (hL _ _ _ h) (by omega))).mono (by omega)
  | slice h => exact (type_slice F (hR _ _ _ h σ) (Nat.le_trans (hL _ _ _ h) (by omega))).mono (by omega)
  | array hn h => exact (ty_array F hn (hR _ _ _ h σ) h3 (Nat.le_trans (hL _ _ _ h) (by omega))).mono (by omega)
  | map h' h => exact (ty_map F (hR _ _ _ h σ) ((leaf_type (k := 0) F h').mono (by omega)) (Nat.le_trans (hL _ _ _ h) (by omega)) (Nat.le_trans (leaf_len _ _ _ h') (by omega))).mono (by omega)
  | chan hd h => exact (ty_chan F hd (hR _ _ _ h σ) (Nat.le_trans (hL _ _ _ h) (by omega))).mono (by omega)
  | func h =>
    have h' := sig_ok F hR hL hm h σ
    have hl := h.len hL
    cases h with
    | plain a b ha hb => exact ty_func F h' (by omega)
    | row a c b ha hb => exact ty_func F h' (by omega)
  | struct h hd => exact (ty_struct F hR hL hm h hd).mono (by omega)
  | iface h h' hd he => exact ty_iface F hR hL hm h h' hd he
theorem ty_text (F : Facts C) : ∀ n, n ≤ 3 → TextOk C (4 + 3 * n) (TyR n)
  | 0, _ => fun d p x h σ => (leaf_type (k := 0) F h).mono (by omega)
  | n + 1, hn => by
    have hb : bnd n ≤ 10000 := by
      have : n = 0 ∨ n = 1 ∨ n = 2 := by omega
      rcases this with rfl | rfl | rfl <;> decide
    have := node_text F (ty_text F n (by omega)) (TyR.len n) hb (by omega)
    rw [show 4 + 3 * (n + 1) = 4 + 3 * n + 3 from by omega]
    exact this
end
-- MPl1
section
variable {C : Cx} {k : Nat} {fi : Fi} {ρ ρ' ρ₁ : Loc} {σ σ₁ σ₂ σ₃ : Int × Int} {R : Rel} {m : Nat}
theorem adj_rev (n : Nat) : Builtin.Slice.sliceAdjust none none (-1) (n : Int) = ((n : Int) - 1, -1) := rfl
theorem places_rev (n : Nat) : Builtin.Slice.slicePlaces ((n : Int) - 1) (-1) (-1) = n := by
  unfold Builtin.Slice.slicePlaces
  rw [if_neg (by decide)]
  split
  · rw [show -(-1 : Int) = 1 from rfl, Int.ediv_one]; omega
  · omega
theorem pick_rev {α : Type} (xs : List α) : tupPick xs none none (some (-1)) = xs.reverse := by
  unfold tupPick
  show (List.range (Builtin.Slice.slicePlaces (Builtin.Slice.sliceAdjust none none (-1) (xs.length : Int)).1 (Builtin.Slice.sliceAdjust none none (-1) (xs.length : Int)).2 (-1))).filterMap (fun (k : Nat) => xs[((Builtin.Slice.sliceAdjust none none (-1) (xs.length : Int)).1 + (k : Int) * (-1)).toNat]?) = _
  rw [adj_rev]
  dsimp only
  rw [places_rev]
  have e : ∀ k ∈ List.range xs.length, xs[((xs.length : Int) - 1 + (k : Int) * (-1)).toNat]? = xs.reverse[k]? := fun k hk => by
    have hk : k < xs.length := List.mem_range.mp hk
    rw [List.getElem?_reverse hk]
    congr 1; omega
  have fc : ∀ (l : List Nat) (f g : Nat → Option α), (∀ k ∈ l, f k = g k) → l.filterMap f = l.filterMap g := fun l f g h => by
    induction l with
    | nil => rfl
    | cons a l ih => rw [List.filterMap_cons, List.filterMap_cons, h a (.head _), ih fun k hk => h k (.tail _ hk)]
  rw [fc _ _ _ e]
  have q : ∀ (l : List α), (List.range l.length).filterMap (fun k => l[k]?) = l := fun l => by
    induction l with
    | nil => rfl
    | cons a l ih =>
      rw [List.length_cons, List.range_succ_eq_map, List.filterMap_cons]
      simp only [List.getElem?_cons_zero, List.filterMap_map, Function.comp_def, List.getElem?_cons_succ]
      rw [ih]
  have := q xs.reverse
  rw [List.length_reverse] at this
  exact this
theorem Ev.revT {e st : Expr} {p pos : Pos} {ds : List PyData} (he : Ev C k fi ρ σ e (.dat (.tuple ds)) σ₁) (hs : Ev C k fi ρ σ₁ st (.dat (.int (-1))) σ₂) (hn : ds.length ≤ 100000) :
    Ev C k fi ρ σ (.Subscript e (.Slice Option.none Option.none (some st) p) pos) (.dat (.tuple ds.reverse)) σ₂ :=
  Ev.tupSlice he EvPart.none EvPart.none (EvPart.some hs) (pick_rev ds) rfl (by
    show Builtin.Slice.slicePlaces (Builtin.Slice.sliceAdjust Option.none Option.none (-1) (ds.length : Int)).1 (Builtin.Slice.sliceAdjust Option.none Option.none (-1) (ds.length : Int)).2 (-1) ≤ 100000
    rw [adj_rev, places_rev]; exact hn)
theorem Evf.from {e a : Expr} {p pos : Pos} {r : VD} {ds : List PyData} {n : Nat} (he : Ev C k fi ρ σ e r σ₁) (l : LstOf ρ r ds) (hl : Ev C k fi ρ σ₁ a (.dat (.int n)) σ₂) (hn : ds.length ≤ 100000) : Evf C k fi ρ σ (.Subscript e (.Slice (some a) Option.none Option.none p) pos) (ds.drop n) σ₂ := Evf.slice he l (EvPart.some hl) EvPart.none pick_from hn
theorem Evf.upto {e a : Expr} {p pos : Pos} {r : VD} {ds : List PyData} {n : Nat} (he : Ev C k fi ρ σ e r σ₁) (l : LstOf ρ r ds) (hl : Ev C k fi ρ σ₁ a (.dat (.int n)) σ₂) (hn : ds.length ≤ 100000) : Evf C k fi ρ σ (.Subscript e (.Slice Option.none (some a) Option.none p) pos) (ds.take n) σ₂ := Evf.slice he l EvPart.none (EvPart.some hl) pick_upto hn
theorem Evf.butLast {e a : Expr} {p pos : Pos} {r : VD} {ds : List PyData} (he : Ev C k fi ρ σ e r σ₁) (l : LstOf ρ r ds) (hl : Ev C k fi ρ σ₁ a (.dat (.int (-1))) σ₂) (hn : ds.length ≤ 100000) : Evf C k fi ρ σ (.Subscript e (.Slice Option.none (some a) Option.none p) pos) (ds.take (ds.length - 1)) σ₂ := Evf.slice he l EvPart.none (EvPart.some hl) pick_butLast hn
theorem Ev.tupC {p pos : Pos} {e : Expr} {r : VD} {ds : List PyData} (he : Ev C k fi ρ σ e r σ₁) (l : LstOf ρ r ds) (hx : fi.sc.names.lookup (Str.ofString "tuple") = some .globalImplicit) (hs : noStar e = true) (hn : ds.length ≤ 100000) :
    Ev C k fi ρ σ (.Call (.Name (Str.ofString "tuple") p) [e] [] pos) (.dat (.tuple ds)) σ₁ := Ev.tupL he l hx hs hn
theorem Evf.lst {es : List Expr} {pos : Pos} {ds : List PyData} (h : Evs C k fi ρ σ es ds σ₁) (hl : ds.length ≤ 1000) : Evf C k fi ρ σ (.List es pos) ds σ₁ := Evf.list h hl
noncomputable def isStr : PyData → Bool
  | .str _ => true
  | _ => false
noncomputable def isInt : PyData → Bool
  | .int _ => true
  | _ => false
noncomputable def okD : PyData → Bool
  | .dict _ => false
  | .list _ => false
  | _ => true
noncomputable def ws2 (d1 p0 p1 : PyData) : List PyData → List PyData → List PyData
  | [d2], [p2] => if isStr d1 && isInt d2 then [p0, p1, .int 0] else [p0, p1, p2]
  | _, pr => p0 :: p1 :: pr
noncomputable def wsF (ds ps : List PyData) : List PyData := match ds, ps with
  | d0 :: d1 :: r, p0 :: p1 :: pr => if isStr d0 && isInt d1 then p0 :: .int 0 :: pr else ws2 d1 p0 p1 r pr
  | _, _ => ps
theorem isi_str {d : PyData} (h : okD d = true) : isiT d "str" = some (isStr d) := by cases d <;> first | rfl | cases h
theorem spot_ok (F : Facts C) {d : PyData} (h : okD d = true) : FnD C (k + 1) (Str.ofString "is_spot") [.dat d] σ (.bool (isInt d)) σ := by
  cases d with
  | none => exact is_spot_none F
  | bool b => exact is_spot_bool F b
  | int i => exact is_spot_int F i
  | str x => exact is_spot_str F x
  | tuple ds => exact is_spot_tuple F ds
  | list => cases h
  | dict => cases h
set_option maxHeartbeats 2000000 in
theorem wspot_ok (F : Facts C) {ds ps : List PyData} (hd : ∀ d ∈ ds, okD d = true) (hl : ps.length = ds.length) (hn : ds.length ≤ 1000) : FnD C (k + 2) (Str.ofString "without_spot") [.dat (.tuple ds), .dat (.list ps)] σ (.list (wsF ds ps)) σ := by
  have small : ds.length ≤ 1 → FnD C (k + 2) (Str.ofString "without_spot") [.dat (.tuple ds), .dat (.list ps)] σ (.list ps) σ := fun h1 => by
    refine FnD.intro [] F.without_spot ?_
    conv in (bodyOf _) => whnf
    with_reducible apply Sx.ifSkip
    · with_reducible apply Ts.boolOp
      with_reducible apply TsAll.andF
      with_reducible apply Ts.cmpr
      with_reducible apply Ev.len
      walk_at "m.run"
      exact decide_eq_false (by omega)
      walk_at "m.run"
    with_reducible apply Sx.ifSkip
    · with_reducible apply Ts.boolOp
      with_reducible apply TsAll.andF
      with_reducible apply Ts.cmpr
      with_reducible apply Ev.len
      walk_at "m.run"
      exact beq_eq_false_iff_ne.mpr (by omega)
      walk_at "m.run"
    with_reducible apply Sx.return
    walk_at "m.run"
  match ds, ps, hl, hd, hn, small with
  | [], [], _, _, _, small => exact small (by simp)
  | [_], [_], _, _, _, small => exact small (by simp)
  | d0 :: d1 :: r, p0 :: p1 :: pr, hl, hd, hn, _ =>
    have h0 := hd d0 (.head _)
    have h1 := hd d1 (.tail _ (.head _))
    simp only [List.length_cons] at hn hl
    refine FnD.intro [] F.without_spot ?_
    conv in (bodyOf _) => whnf
    have c0 := isi_str h0
    have c1 := isi_str h1
    have len1 : ∀ {b : Bool}, decide (((d0 :: d1 :: r).length : Int) > 1) = b ↔ b = true := fun {b} => by
      have : decide (((d0 :: d1 :: r).length : Int) > 1) = true := decide_eq_true (by simp only [List.length_cons]; omega)
      rw [this]; cases b <;> simp
    cases e0 : isStr d0 && isInt d1 with
    | true =>
      rw [show wsF (d0 :: d1 :: r) (p0 :: p1 :: pr) = [p0, .int 0] ++ pr from by show (if (isStr d0 && isInt d1) = true then _ else _) = _; rw [if_pos e0]; rfl]
      simp only [Bool.and_eq_true] at e0
      rw [e0.1] at c0
      with_reducible apply Sx.ifRet
      · with_reducible apply Ts.boolOp
        with_reducible apply TsAll.andT
        with_reducible apply Ts.cmpr
        with_reducible apply Ev.len
        walk_at "m.run"
        · exact len1.mpr rfl
        walk_at "m.run"
        with_reducible apply TsAll.andT
        with_reducible apply Ts.val
        walk_at "m.run"
        exact c0
        walk_at "m.run"
        with_reducible apply TsAll.andT
        with_reducible apply Ts.val
        · with_reducible apply Ev.fn (rs := [.dat d1])
          walk_at "m.run"
          have := spot_ok (k := k) (σ := σ) F h1
          rw [e0.2] at this
          exact this
          walk_at "m.run"
        walk_at "m.run"
        exact TsAll.nilA
      with_reducible apply Sx.return
      with_reducible apply Evf.ev
      with_reducible apply Evf.add (es := pr)
      · with_reducible apply Evf.ev
        with_reducible apply Evf.lst
        walk_at "m.run"
      · walk_at "m.run"
      · with_reducible apply Evf.ev
        with_reducible apply Evf.from (n := 2)
        walk_at "m.run"
        · exact Ev.int
        · simp only [List.length_cons]; omega
      · walk_at "m.run"
      · show 2 + pr.length ≤ 100000
        omega
    | false =>
      have e0' : wsF (d0 :: d1 :: r) (p0 :: p1 :: pr) = ws2 d1 p0 p1 r pr := by
        show (if (isStr d0 && isInt d1) = true then _ else _) = _
        rw [if_neg (by rw [e0]; exact Bool.false_ne_true)]
      rw [e0']
      with_reducible apply Sx.ifSkip
      · with_reducible apply Ts.boolOp
        with_reducible apply TsAll.andT
        with_reducible apply Ts.cmpr
        with_reducible apply Ev.len
        walk_at "m.run"
        · exact len1.mpr rfl
        walk_at "m.run"
        cases e1 : isStr d0 with
        | false =>
          rw [e1] at c0
          with_reducible apply TsAll.andF
          with_reducible apply Ts.val
          walk_at "m.run"
          exact c0
          walk_at "m.run"
        | true =>
          rw [e1] at c0 e0
          have e2 : isInt d1 = false := by simpa using e0
          with_reducible apply TsAll.andT
          with_reducible apply Ts.val
          walk_at "m.run"
          exact c0
          walk_at "m.run"
          with_reducible apply TsAll.andF
          with_reducible apply Ts.val
          · with_reducible apply Ev.fn (rs := [.dat d1])
            walk_at "m.run"
            have := spot_ok (k := k) (σ := σ) F h1
            rw [e2] at this
            exact this
            walk_at "m.run"
          walk_at "m.run"
      match r, pr, hl, hd, hn with
      | [d2], [p2], hl, hd, hn =>
        have h2 := hd d2 (.tail _ (.tail _ (.head _)))
        cases e3 : isStr d1 with
        | false =>
          rw [e3] at c1
          rw [show ws2 d1 p0 p1 [d2] [p2] = [p0, p1, p2] from by simp [ws2, e3]]
          with_reducible apply Sx.ifSkip
          · with_reducible apply Ts.boolOp
            with_reducible apply TsAll.andT
            walk_at "m.run"
            with_reducible apply TsAll.andF
            with_reducible apply Ts.val
            walk_at "m.run"
            exact c1
            walk_at "m.run"
          with_reducible apply Sx.return
          walk_at "m.run"
        | true =>
          rw [e3] at c1
          cases e4 : isInt d2 with
          | false =>
            rw [show ws2 d1 p0 p1 [d2] [p2] = [p0, p1, p2] from by simp [ws2, e3, e4]]
            with_reducible apply Sx.ifSkip
            · with_reducible apply Ts.boolOp
              with_reducible apply TsAll.andT
              walk_at "m.run"
              with_reducible apply TsAll.andT
              with_reducible apply Ts.val
              walk_at "m.run"
              exact c1
              walk_at "m.run"
              with_reducible apply TsAll.andF
              with_reducible apply Ts.val
              · with_reducible apply Ev.fn (rs := [.dat d2])
                walk_at "m.run"
                have := spot_ok (k := k) (σ := σ) F h2
                rw [e4] at this
                exact this
                walk_at "m.run"
              walk_at "m.run"
            with_reducible apply Sx.return
            walk_at "m.run"
          | true =>
            rw [show ws2 d1 p0 p1 [d2] [p2] = [p0, p1] ++ [PyData.int 0] from by simp [ws2, e3, e4]]
            with_reducible apply Sx.ifRet
            · with_reducible apply Ts.boolOp
              with_reducible apply TsAll.andT
              walk_at "m.run"
              with_reducible apply TsAll.andT
              with_reducible apply Ts.val
              walk_at "m.run"
              exact c1
              walk_at "m.run"
              with_reducible apply TsAll.andT
              with_reducible apply Ts.val
              · with_reducible apply Ev.fn (rs := [.dat d2])
                walk_at "m.run"
                have := spot_ok (k := k) (σ := σ) F h2
                rw [e4] at this
                exact this
                walk_at "m.run"
              walk_at "m.run"
              exact TsAll.nilA
            with_reducible apply Sx.return
            with_reducible apply Evf.ev
            with_reducible apply Evf.add (ds := [p0, p1])
            · with_reducible apply Evf.ev
              with_reducible apply Evf.upto (n := 2) (ds := [p0, p1, p2])
              walk_at "m.run"
              · exact Ev.int
              walk_at "m.run"
            · exact LstOf.dat _
            · with_reducible apply Evf.ev
              with_reducible apply Evf.lst
              walk_at "m.run"
            · walk_at "m.run"
            · show 2 + 1 ≤ 100000
              decide
      | [], [], _, _, _ =>
        rw [show ws2 d1 p0 p1 [] [] = [p0, p1] from rfl]
        with_reducible apply Sx.ifSkip
        · with_reducible apply Ts.boolOp
          with_reducible apply TsAll.andF
          walk_at "m.run"
        with_reducible apply Sx.return
        walk_at "m.run"
      | d2 :: d3 :: r, p2 :: p3 :: pr, hl, _, hn =>
        simp only [List.length_cons] at hn
        rw [show ws2 d1 p0 p1 (d2 :: d3 :: r) (p2 :: p3 :: pr) = p0 :: p1 :: p2 :: p3 :: pr from rfl]
        with_reducible apply Sx.ifSkip
        · with_reducible apply Ts.boolOp
          with_reducible apply TsAll.andF
          with_reducible apply Ts.cmpr
          with_reducible apply Ev.len
          walk_at "m.run"
        with_reducible apply Sx.return
        walk_at "m.run"
      | [], _ :: _, hl, _, _ => simp at hl
      | [_], [], hl, _, _ => simp at hl
      | [_], _ :: _ :: _, hl, _, _ => simp at hl
      | _ :: _ :: _, [], hl, _, _ => simp at hl
      | _ :: _ :: _, [_], hl, _, _ => simp at hl
  | [], _ :: _, hl, _, _, _ => cases hl
  | [_], [], hl, _, _, _ => cases hl
  | [_], _ :: _ :: _, hl, _, _, _ => simp at hl
  | _ :: _ :: _, [], hl, _, _, _ => cases hl
  | _ :: _ :: _, [_], hl, _, _, _ => simp at hl
end
-- MPl2
section
variable {C : Cx} {k : Nat} {fi : Fi} {ρ ρ' ρ₁ : Loc} {σ σ₁ σ₂ σ₃ : Int × Int} {R : Rel} {m : Nat}
theorem EvS.app {x : Str} {p apos pos : Pos} {e : Expr} {ds : List PyData} {d : PyData} (hx : ρ.lookup x = some (.box ds)) (he : Ev C k fi ρ σ e (.dat d) σ₁) (hn : ds.length ≤ 100000) (hs : noStar e = true) (hl : (apos.endLine == pos.line) = true) (hd : (x == ("__debug__" : Str)) = false) (hc : (x == ("__classdict__" : Str)) = false) :
    EvS C k fi ρ σ (.Call (.Attribute (.Name x p) (Str.ofString "append") apos) [e] [] pos) .none ((x, .box (ds ++ [d])) :: ρ) σ₁ := EvS.append hx he hn hs hl hd hc
theorem EvS.ext {x : Str} {p apos pos : Pos} {e : Expr} {ds es : List PyData} (hx : ρ.lookup x = some (.box ds)) (he : Ev C k fi ρ σ e (.dat (.list es)) σ₁) (hn : ds.length + es.length ≤ 100000) (hs : noStar e = true) (hl : (apos.endLine == pos.line) = true) (hd : (x == ("__debug__" : Str)) = false) (hc : (x == ("__classdict__" : Str)) = false) :
    EvS C k fi ρ σ (.Call (.Attribute (.Name x p) (Str.ofString "extend") apos) [e] [] pos) .none ((x, .box (ds ++ es)) :: ρ) σ₁ := EvS.extend hx he hn hs hl hd hc
theorem EvS.pp {x : Str} {p apos pos : Pos} {ds : List PyData} {d : PyData} (hx : ρ.lookup x = some (.box (ds ++ [d]))) (hn : ds.length ≤ 100000) (hl : (apos.endLine == pos.line) = true) (hd : (x == ("__debug__" : Str)) = false) (hc : (x == ("__classdict__" : Str)) = false) :
    EvS C k fi ρ σ (.Call (.Attribute (.Name x p) (Str.ofString "pop") apos) [] [] pos) d ((x, .box ds) :: ρ) σ := EvS.pop hx hn hl hd hc
theorem Sx.expr {e : Expr} {pos : Pos} {ss : List Stmt} {o : Out} (he : EvS C k fi ρ σ e .none ρ₁ σ₁) (hk : fi.sc.kind = .function) (hs : ∀ env, swapsWith e none pos.line env = pure false) (hr : Sx C k fi ρ₁ σ₁ ss o) : Sx C k fi ρ σ (.Expr e pos :: ss) o :=
  Sx.cons (Sx1.exprS he (fun env h => by unfold interactive; rw [h, hk]; rfl) hs) hr
theorem Sx.letB {x : Str} {p pos : Pos} {e : Expr} {ss : List Stmt} {ds : List PyData} {o : Out} (he : Evf C k fi ρ σ e ds σ₁) (hk : fi.sc.names.lookup x = some .local) (hs : ∀ env, swapsWith e (some (.Name x p)) pos.line env = pure false) (hr : Sx C k fi ((x, .box ds) :: ρ) σ₁ ss o) :
    Sx C k fi ρ σ (.Assign [.Name x p] e pos :: ss) o := Sx.cons (Sx1.assignBox he (.inl hk) hs) hr
theorem Sx.ifT' {t : Expr} {body orelse : List Stmt} {pos : Pos} {ρ₂ : Loc} (ht : Ts C k fi ρ σ t true σ₁) (hb : Sx C k fi ρ σ₁ body (.next ρ₂ σ₂)) : Sx C k fi ρ σ (.If t body orelse pos :: []) (.next ρ₂ σ₂) := Sx.cons (Sx1.ifT ht hb) Sx.nil
theorem Sx.ifF' {t : Expr} {body orelse : List Stmt} {pos : Pos} {ρ₂ : Loc} (ht : Ts C k fi ρ σ t false σ₁) (hb : Sx C k fi ρ σ₁ orelse (.next ρ₂ σ₂)) : Sx C k fi ρ σ (.If t body orelse pos :: []) (.next ρ₂ σ₂) := Sx.cons (Sx1.ifF ht hb) Sx.nil
noncomputable def isTup : PyData → Bool
  | .tuple _ => true
  | _ => false
theorem isi_tup {d : PyData} (h : okD d = true) : isiT d "tuple" = some (isTup d) := by cases d <;> first | rfl | cases h
noncomputable abbrev mark (b : Bool) (d : PyData) : PyData := .tuple [d, .bool b]
noncomputable abbrev plLoc (L M : List PyData) : Loc := [(Str.ofString "left", .box L), (Str.ofString "made", .box M)]
noncomputable def plTest : Expr := match (bodyOf 8).drop 1 with
  | .While t _ _ _ :: _ => t
  | _ => .Name (Str.ofString "") ⟨0, 0, 0, 0⟩
noncomputable def plBody : List Stmt := match (bodyOf 8).drop 1 with
  | .While _ b _ _ :: _ => b
  | _ => []
noncomputable abbrev PlW (C : Cx) (k : Nat) (L M : List PyData) (σ : Int × Int) (o : Out) : Prop := Wh C k ⟨scopeOf 8, []⟩ (plLoc L M) σ plTest plBody o
theorem pl_test (L M : List PyData) (d : PyData) (b : Bool) : Ts C k ⟨scopeOf 8, []⟩ (plLoc (L ++ [mark b d]) M) σ plTest true σ := by
  conv in plTest => whnf
  with_reducible apply Ts.neNil
  walk_at "m.run"
  simp
theorem pl_leaf {d : PyData} {L M : List PyData} {o : Out} (hd : okD d = true) (ht : isTup d = false) (hL : L.length ≤ 50000) (hM : M.length ≤ 50000) (h : PlW C k L (M ++ [d]) σ o) : PlW C k (L ++ [mark false d]) M σ o := by
  have c := isi_tup hd
  rw [ht] at c
  with_reducible apply Wh.turn
  · exact pl_test L M d false
  · conv in plBody => whnf
    with_reducible apply Sx.unpS
    · with_reducible apply EvS.pp (ds := L) (d := mark false d)
      walk_at "m.run"
    walk_at "m.run"
    with_reducible apply Sx.ifT'
    · with_reducible apply Ts.notv (b := false)
      with_reducible apply Ts.val
      walk_at "m.run"
      exact c
      walk_at "m.run"
    · with_reducible apply Sx.expr
      · with_reducible apply EvS.app (ds := M)
        walk_at "m.run"
      walk_at "m.run"
      exact Sx.nil
  · exact Wh.sub (.cons rfl (.cons rfl .nil)) h
theorem Ev.cast {e : Expr} {d₀ d : PyData} (h : Ev C k fi ρ σ e (.dat d₀) σ₁) (q : d₀ = d) : Ev C k fi ρ σ e (.dat d) σ₁ := q ▸ h
theorem Evf.cast {e : Expr} {ds₀ ds : List PyData} (h : Evf C k fi ρ σ e ds₀ σ₁) (q : ds₀ = ds) : Evf C k fi ρ σ e ds σ₁ := q ▸ h
theorem pl_open {ds : List PyData} {L M : List PyData} {o : Out} (hL : L.length + ds.length ≤ 50000) (h : PlW C k (L ++ [mark true (.tuple ds)] ++ ds.reverse.map (mark false)) M σ o) : PlW C k (L ++ [mark false (.tuple ds)]) M σ o := by
  with_reducible apply Wh.turn
  · exact pl_test L M (.tuple ds) false
  · conv in plBody => whnf
    with_reducible apply Sx.unpS
    · with_reducible apply EvS.pp (ds := L) (d := mark false (.tuple ds))
      walk_at "m.run"
    walk_at "m.run"
    with_reducible apply Sx.ifF'
    · with_reducible apply Ts.notv (b := true)
      with_reducible apply Ts.val
      walk_at "m.run"
    · with_reducible apply Sx.ifT'
      · with_reducible apply Ts.notv (b := false)
        with_reducible apply Ts.val
        walk_at "m.run"
      with_reducible apply Sx.expr
      · with_reducible apply EvS.app (ds := L)
        walk_at "m.run"
      walk_at "m.run"
      with_reducible apply Sx.expr
      · with_reducible apply EvS.ext (ds := L ++ [mark true (.tuple ds)]) (es := ds.reverse.map (mark false))
        walk_at "m.run"
        · with_reducible apply Evf.ev
          with_reducible apply Evf.cmp
          · exact TgtE.name
          · with_reducible apply EvIt.tup TgtE.name
            with_reducible apply Ev.revT
            walk_at "m.run"
          · exact SubF.nil
          · refine Ct.each ?_
            generalize ds.reverse = es
            induction es with
            | nil => exact .nil
            | cons d es ih =>
              refine .cons ?_ ih
              walk_at "m.run"
          · rw [List.length_reverse]; omega
          all_goals walk_at "m.run"
        · simp only [List.length_append, List.length_map, List.length_reverse, List.length_cons, List.length_nil]; omega
        all_goals walk_at "m.run"
      walk_at "m.run"
      exact Sx.nil
  · exact Wh.sub (.cons rfl (.cons rfl .nil)) h
theorem pl_close (F : Facts C) {ds ps : List PyData} {L M : List PyData} {o : Out} (hd : ∀ d ∈ ds, okD d = true) (hl : ps.length = ds.length) (hn : ds.length ≤ 1000) (hL : L.length ≤ 50000) (hM : M.length + ds.length ≤ 50000) (hw : (wsF ds ps).length ≤ 1000)
    (h : PlW C (k + 2) L (M ++ [.tuple (wsF ds ps)]) σ o) : PlW C (k + 2) (L ++ [mark true (.tuple ds)]) (M ++ ps) σ o := by
  have e1 : ((M ++ ps).length : Int) - (ds.length : Int) = (M.length : Int) := by rw [List.length_append]; omega
  have e2 : (M ++ ps).drop M.length = ps := by simp
  have e3 : (M ++ ps).take M.length = M := by simp
  have e4 : (M ++ ps).length ≤ 100000 := by rw [List.length_append]; omega
  with_reducible apply Wh.turn
  · exact pl_test L (M ++ ps) (.tuple ds) true
  · conv in plBody => whnf
    with_reducible apply Sx.unpS
    · with_reducible apply EvS.pp (ds := L) (d := mark true (.tuple ds))
      walk_at "m.run"
    walk_at "m.run"
    with_reducible apply Sx.ifF'
    · with_reducible apply Ts.notv (b := true)
      with_reducible apply Ts.val
      walk_at "m.run"
    · with_reducible apply Sx.ifF'
      · with_reducible apply Ts.notv (b := true)
        with_reducible apply Ts.val
        walk_at "m.run"
      with_reducible apply Sx.let (d := .int (M.length : Int)) (σ₁ := σ)
      · refine Ev.cast ?_ (congrArg PyData.int e1)
        with_reducible apply Ev.bin
        with_reducible apply Ev.len
        walk_at "m.run"
        · exact LenOf.lst (LstOf.var rfl) e4
        walk_at "m.run"
      walk_at "m.run"
      with_reducible apply Sx.let (d := .list ps) (σ₁ := σ)
      · with_reducible apply Evf.ev
        refine Evf.cast ?_ e2
        with_reducible apply Evf.from
        walk_at "m.run"
      walk_at "m.run"
      with_reducible apply Sx.letB (ds := M) (σ₁ := σ)
      · refine Evf.cast ?_ e3
        with_reducible apply Evf.upto
        walk_at "m.run"
      walk_at "m.run"
      with_reducible apply Sx.expr
      · with_reducible apply EvS.app (ds := M)
        walk_at "m.run"
        · with_reducible apply Ev.tupC
          · with_reducible apply Ev.fn (rs := [.dat (.tuple ds), .dat (.list ps)])
            walk_at "m.run"
            exact wspot_ok F hd hl hn
            walk_at "m.run"
          all_goals walk_at "m.run"
        all_goals walk_at "m.run"
      walk_at "m.run"
      exact Sx.nil
  · exact Wh.sub (.cons rfl (.cons rfl .nil)) h
end
-- MPl3
section
variable {C : Cx} {k : Nat} {fi : Fi} {ρ ρ' ρ₁ : Loc} {σ σ₁ σ₂ σ₃ : Int × Int} {R : Rel} {m : Nat}
mutual
inductive PR : Nat → PyData → PyData → Prop
  | leaf {d : PyData} : okD d = true → isTup d = false → PR 1 d d
  | tup {n : Nat} {ds ps qs : List PyData} : PRs n ds ps → wsF ds ps = qs → qs.length ≤ 1000 → ds.length ≤ 1000 → PR (n + 1) (.tuple ds) (.tuple qs)
inductive PRs : Nat → List PyData → List PyData → Prop
  | nil : PRs 0 [] []
  | cons {a b : Nat} {d p : PyData} {ds ps : List PyData} : PR a d p → PRs b ds ps → PRs (a + b) (d :: ds) (p :: ps)
end
theorem PR.pos {n : Nat} {d p : PyData} (h : PR n d p) : 1 ≤ n := by cases h <;> omega
theorem PR.ok {n : Nat} {d p : PyData} (h : PR n d p) : okD d = true := by cases h <;> first | assumption | rfl
theorem PRs.len : ∀ {n : Nat} {ds ps : List PyData}, PRs n ds ps → ps.length = ds.length ∧ ds.length ≤ n ∧ ∀ d ∈ ds, okD d = true
  | _, _, _, .nil => ⟨rfl, Nat.le_refl _, fun _ h => by cases h⟩
  | _, _, _, .cons a r => by
    obtain ⟨h1, h2, h3⟩ := r.len
    have := a.pos
    refine ⟨by rw [List.length_cons, List.length_cons, h1], by rw [List.length_cons]; omega, fun d hd => ?_⟩
    rcases List.mem_cons.mp hd with rfl | hd
    · exact a.ok
    · exact h3 d hd
mutual
theorem pl_tree (F : Facts C) : ∀ {n : Nat} {d p : PyData}, PR n d p → ∀ {L M : List PyData} {o : Out}, L.length + n ≤ 40000 → M.length + n ≤ 40000 → PlW C (k + 2) L (M ++ [p]) σ o → PlW C (k + 2) (L ++ [mark false d]) M σ o
  | _, _, _, .leaf hd ht, L, M, o, hL, hM, h => pl_leaf hd ht (by omega) (by omega) h
  | _, _, _, .tup (n := n) (ds := ds) (ps := ps) r hw hq hn, L, M, o, hL, hM, h => by
    obtain ⟨h1, h2, h3⟩ := r.len
    refine pl_open (by omega) ?_
    refine pl_trees F r (by rw [List.length_append, List.length_cons, List.length_nil]; omega) (by omega) ?_
    subst hw
    exact pl_close F h3 h1 hn (by omega) (by omega) hq h
theorem pl_trees (F : Facts C) : ∀ {n : Nat} {ds ps : List PyData}, PRs n ds ps → ∀ {L M : List PyData} {o : Out}, L.length + n ≤ 40000 → M.length + n ≤ 40000 → PlW C (k + 2) L (M ++ ps) σ o → PlW C (k + 2) (L ++ ds.reverse.map (mark false)) M σ o
  | _, _, _, .nil, L, M, o, hL, hM, h => by simpa using h
  | _, _, _, .cons (a := a) (b := b) (d := d) (p := p) (ds := ds) (ps := ps) x r, L, M, o, hL, hM, h => by
    obtain ⟨h1, h2, _⟩ := r.len
    have hx := x.pos
    have e : L ++ (d :: ds).reverse.map (mark false) = (L ++ ds.reverse.map (mark false)) ++ [mark false d] := by simp
    rw [e]
    refine pl_tree F x (by rw [List.length_append, List.length_map, List.length_reverse]; omega) (by omega) ?_
    refine pl_trees F r (by omega) (by rw [List.length_append, List.length_cons, List.length_nil]; omega) ?_
    simpa using h
end
set_option maxHeartbeats 1000000 in
theorem plain_ok (F : Facts C) {n : Nat} {d p : PyData} (h : PR n d p) (hn : n ≤ 39000) (hp : p = p) : FnD C (k + 3) (Str.ofString "plain_tree") [.dat d] σ p σ := by
  refine FnD.intro [] F.plain_tree ?_
  conv in (bodyOf _) => whnf
  with_reducible apply Sx.swp [Str.ofString "left", Str.ofString "made"] (avs := [.box [mark false d], .box []])
  · refine Evm.tuple (EvI.bx (σ₁ := σ) ?_ (EvI.bx (σ₁ := σ) ?_ EvI.nil rfl) rfl) (Nat.le_of_ble_eq_true rfl)
    · with_reducible apply Evf.lst
      walk_at "m.run"
    · with_reducible apply Evf.lst
      walk_at "m.run"
  walk_at "m.run"
  · walk_at "m.env"
  have main : PlW C (k + 2) ([] ++ [mark false d]) [] σ (.next (plLoc [] ([] ++ [p])) σ) := by
    refine pl_tree (k := k) F h (by show 0 + n ≤ _; omega) (by show 0 + n ≤ _; omega) ?_
    refine Wh.done ?_
    conv in plTest => whnf
    with_reducible apply Ts.neNil
    walk_at "m.run"
  refine Sx.cons (ρ₁ := plLoc [] ([] ++ [p])) (σ₁ := σ) (Sx1.while (Wh.sub (.cons rfl (.cons rfl .nil)) main)) ?_
  with_reducible apply Sx.return
  walk_at "m.run"
end
-- MPl4
section
variable {R : Rel} {N : Nat}
noncomputable def PlainOk (R : Rel) (N : Nat) : Prop := ∀ d p x, R d p x → isTup d = true ∧ ∃ n, n ≤ N ∧ PR n d p
theorem wsF_tups {ds ps : List PyData} (h : ∀ d ∈ ds, isTup d = true) : wsF ds ps = ps := by
  have ns : ∀ {d : PyData}, isTup d = true → isStr d = false := fun {d} h => by cases d <;> first | rfl | cases h
  match ds, ps, h with
  | [], _, _ => rfl
  | [_], [], _ => rfl
  | [_], _ :: _, _ => rfl
  | _ :: _ :: _, [], _ => rfl
  | _ :: _ :: _, [_], _ => rfl
  | d0 :: d1 :: r, p0 :: p1 :: pr, h =>
    have h0 := ns (h d0 (.head _))
    have h1 := ns (h d1 (.tail _ (.head _)))
    show (if (isStr d0 && isInt d1) = true then _ else ws2 d1 p0 p1 r pr) = _
    rw [h0, Bool.false_and, if_neg Bool.false_ne_true]
    match r, pr with
    | [d2], [p2] => simp [ws2, h1]
    | [], _ => rfl
    | [_], [] => rfl
    | [_], _ :: _ :: _ => rfl
    | _ :: _ :: _, _ => rfl
theorem Tys.pr (h : PlainOk R N) : ∀ {ds ps : List PyData} {xs : List Str}, Tys R ds ps xs → (∀ d ∈ ds, isTup d = true) ∧ ∃ n, n ≤ ds.length * N ∧ PRs n ds ps
  | _, _, _, .nil => ⟨(fun _ h => by cases h), 0, Nat.zero_le _, .nil⟩
  | _, _, _, .cons a r => by
    obtain ⟨t, n, hn, pa⟩ := h _ _ _ a
    obtain ⟨ts, m, hm, pr⟩ := r.pr h
    refine ⟨fun d hd => ?_, n + m, by rw [List.length_cons, Nat.add_mul]; omega, .cons pa pr⟩
    rcases List.mem_cons.mp hd with rfl | hd
    · exact t
    · exact ts d hd
theorem pr_tups {n : Nat} {ds ps : List PyData} (h : PRs n ds ps) (ht : ∀ d ∈ ds, isTup d = true) (hl : ds.length ≤ 1000) : PR (n + 1) (.tuple ds) (.tuple ps) :=
  .tup h (wsF_tups ht) (by rw [h.len.1]; exact hl) hl
theorem pr_str (x : Str) : PR 1 (.str x) (.str x) := .leaf rfl rfl
theorem pr_int (x : Int) : PR 1 (.int x) (.int x) := .leaf rfl rfl
theorem pr_bool (x : Bool) : PR 1 (.bool x) (.bool x) := .leaf rfl rfl
theorem pr_none : PR 1 .none .none := .leaf rfl rfl
theorem pr_spot {a : Str} {i : Int} {n : Nat} {ds ps : List PyData} (h : PRs n ds ps) (hl : ds.length ≤ 900) : PR (n + 3) (.tuple (.str a :: .int i :: ds)) (.tuple (.str a :: .int 0 :: ps)) := by
  have := PR.tup (.cons (pr_str a) (.cons (pr_int i) h)) (qs := .str a :: .int 0 :: ps) rfl (by simp only [List.length_cons, h.len.1]; omega) (by simp only [List.length_cons]; omega)
  rw [show n + 3 = 1 + (1 + n) + 1 from by omega]; exact this
theorem leaf_pr : PlainOk Leaf 5 := fun d p x h => by
  cases h with
  | tT s => exact ⟨rfl, 5, Nat.le_refl _, pr_spot (.cons pr_none (.cons (pr_str _) .nil)) (by decide)⟩
  | pU s => exact ⟨rfl, 5, Nat.le_refl _, pr_spot (.cons (pr_str _) (.cons (pr_str _) .nil)) (by decide)⟩
theorem Sig.pr (h : PlainOk R N) : PlainOk (Sig R) (4 * N + 20) := fun d p x s => by
  cases s with
  | plain a b ha hb =>
    obtain ⟨t, n, hn, pa⟩ := a.pr h
    obtain ⟨t', n', hn', pb⟩ := b.pr h
    have e := Nat.mul_le_mul_right N ha
    have e' := Nat.mul_le_mul_right N hb
    refine ⟨rfl, _, ?_, pr_spot (.cons (pr_tups pa t (by omega)) (.cons (pr_tups pb t' (by omega)) (.cons (pr_bool _) .nil))) (by simp)⟩
    omega
  | @row s s' ds ps es qs d p x xs ys a c b ha hb =>
    obtain ⟨t, n, hn, pa⟩ := a.pr h
    obtain ⟨t', n', hn', pb⟩ := b.pr h
    obtain ⟨_, k, hk, pc⟩ := h _ _ _ c
    have e := Nat.mul_le_mul_right N ha
    have e' := Nat.mul_le_mul_right N hb
    have ap : ∀ {n : Nat} {ds ps : List PyData}, PRs n ds ps → ∀ {m : Nat} {d p : PyData}, PR m d p → PRs (n + m) (ds ++ [d]) (ps ++ [p]) := by
      intro n ds ps h
      induction ds generalizing n ps with
      | nil => cases h; intro m d p h'; have := PRs.cons h' .nil; simpa using this
      | cons d ds ih => cases h with | cons x r => intro m d' p' h'; have := PRs.cons x (ih r h'); rw [Nat.add_assoc]; exact this
    have pz := pr_spot (a := Str.ofString "slice") (i := s') (.cons pc .nil) (by simp)
    refine ⟨rfl, _, ?_, pr_spot (.cons (pr_tups (ap pa pz) (fun d hd => ?_) (by rw [List.length_append]; simp; omega)) (.cons (pr_tups pb t' (by omega)) (.cons (pr_bool _) .nil))) (by simp)⟩
    · omega
    · rcases List.mem_append.mp hd with hd | hd
      · exact t d hd
      · rw [List.mem_singleton.mp hd]; rfl
theorem Fields.pr (h : PlainOk R N) : ∀ {ds ps : List PyData} {xs : List Str}, Fields R ds ps xs → (∀ d ∈ ds, isTup d = true) ∧ ∃ n, n ≤ ds.length * (N + 3) ∧ PRs n ds ps := by
  have one : ∀ {n : Str} {d p : PyData} {b : Bool} {m : Nat}, isTup d = true → PR m d p → PR (m + 3) (.tuple [.str n, d, .bool b]) (.tuple [.str n, p, .bool b]) := fun {n d p b m} ht h => by
    have := PR.tup (.cons (pr_str n) (.cons h (.cons (pr_bool b) .nil))) (qs := [.str n, p, .bool b]) (by cases d <;> first | rfl | cases ht) (by simp) (by simp)
    rw [show m + 3 = 1 + (m + (1 + 0)) + 1 from by omega]; exact this
  intro ds ps xs r
  induction r with
  | nil => exact ⟨(fun _ h => by cases h), 0, Nat.zero_le _, .nil⟩
  | emb a r ih =>
    obtain ⟨t, n, hn, pa⟩ := h _ _ _ a
    obtain ⟨ts, m, hm, pr⟩ := ih
    refine ⟨fun d hd => ?_, _, ?_, .cons (one t pa) pr⟩
    · rcases List.mem_cons.mp hd with rfl | hd
      · rfl
      · exact ts d hd
    · rw [List.length_cons, Nat.add_mul]; omega
  | nam hl a r ih =>
    obtain ⟨t, n, hn, pa⟩ := h _ _ _ a
    obtain ⟨ts, m, hm, pr⟩ := ih
    refine ⟨fun d hd => ?_, _, ?_, .cons (one t pa) pr⟩
    · rcases List.mem_cons.mp hd with rfl | hd
      · rfl
      · exact ts d hd
    · rw [List.length_cons, Nat.add_mul]; omega
theorem Methods.pr (h : PlainOk R N) : ∀ {ds ps : List PyData} {xs : List Str}, Methods R ds ps xs → (∀ d ∈ ds, isTup d = true) ∧ ∃ n, n ≤ ds.length * (4 * N + 22) ∧ PRs n ds ps := by
  have one : ∀ {n : Str} {d p : PyData} {m : Nat}, isTup d = true → PR m d p → PR (m + 2) (.tuple [.str n, d]) (.tuple [.str n, p]) := fun {n d p m} ht h => by
    have := PR.tup (.cons (pr_str n) (.cons h .nil)) (qs := [.str n, p]) (by cases d <;> first | rfl | cases ht) (by simp) (by simp)
    rw [show m + 2 = 1 + (m + 0) + 1 from by omega]; exact this
  intro ds ps xs r
  induction r with
  | nil => exact ⟨(fun _ h => by cases h), 0, Nat.zero_le _, .nil⟩
  | cons hl a r ih =>
    obtain ⟨t, n, hn, pa⟩ := Sig.pr h _ _ _ a
    obtain ⟨ts, m, hm, pr⟩ := ih
    refine ⟨fun d hd => ?_, _, ?_, .cons (one t pa) pr⟩
    · rcases List.mem_cons.mp hd with rfl | hd
      · rfl
      · exact ts d hd
    · rw [List.length_cons, Nat.add_mul]; omega
theorem node_pr (h : PlainOk R N) : PlainOk (Node R) (10 * N + 80) := fun d p x hn => by
  cases hn with
  | leaf a => obtain ⟨t, n, hn, pa⟩ := leaf_pr _ _ _ a; exact ⟨t, n, by omega, pa⟩
  | ptr a => obtain ⟨t, n, hn, pa⟩ := h _ _ _ a; exact ⟨rfl, _, by omega, pr_spot (.cons pa .nil) (by simp)⟩
  | slice a => obtain ⟨t, n, hn, pa⟩ := h _ _ _ a; exact ⟨rfl, _, by omega, pr_spot (.cons pa .nil) (by simp)⟩
  | array hm a => obtain ⟨t, n, hn, pa⟩ := h _ _ _ a; exact ⟨rfl, _, by omega, pr_spot (.cons (pr_spot (.cons (pr_int _) .nil) (by simp)) (.cons pa .nil)) (by simp)⟩
  | map b a =>
    obtain ⟨t, n, hn, pa⟩ := h _ _ _ a
    obtain ⟨t', n', hn', pb⟩ := leaf_pr _ _ _ b
    exact ⟨rfl, _, by omega, pr_spot (.cons pb (.cons pa .nil)) (by simp)⟩
  | chan hd a => obtain ⟨t, n, hn, pa⟩ := h _ _ _ a; exact ⟨rfl, _, by omega, pr_spot (.cons (pr_str _) (.cons pa .nil)) (by simp)⟩
  | func a => obtain ⟨t, n, hn, pa⟩ := Sig.pr h _ _ _ a; exact ⟨t, n, by omega, pa⟩
  | struct a ha =>
    obtain ⟨t, n, hn, pa⟩ := a.pr h
    have e := Nat.mul_le_mul_right (N + 3) ha
    exact ⟨rfl, _, by omega, pr_spot (.cons (pr_tups pa t (by omega)) .nil) (by simp)⟩
  | iface a b ha hb =>
    obtain ⟨t, n, hn, pa⟩ := a.pr h
    obtain ⟨t', n', hn', pb⟩ := b.pr leaf_pr
    have e := Nat.mul_le_mul_right (4 * N + 22) ha
    exact ⟨rfl, _, by omega, pr_spot (.cons (pr_tups pa t (by omega)) (.cons (pr_tups pb t' (by omega)) .nil)) (by simp)⟩
noncomputable def sz : Nat → Nat
  | 0 => 5
  | n + 1 => 10 * sz n + 80
theorem TyR.pr : ∀ n, PlainOk (TyR n) (sz n)
  | 0 => leaf_pr
  | n + 1 => node_pr (TyR.pr n)
end
-- MB1
section
variable {C : Cx} {k : Nat} {fi : Fi} {ρ ρ' ρ₁ : Loc} {σ σ₁ σ₂ σ₃ : Int × Int}
theorem Sx.setS {o i value : Expr} {pos' pos : Pos} {j x : Int} {ss : List Stmt} {ot : Out} (hv : Ev C k fi ρ σ value (.dat (.int x)) σ₁) (ho : Ev C k fi ρ σ₁ o .src σ₁) (hi : Ev C k fi ρ σ₁ i (.dat (.int j)) σ₁) (hj : (j = 0 ∧ σ₂ = (x, σ₁.2)) ∨ (j = 1 ∧ σ₂ = (σ₁.1, x)))
    (hs : ∀ env, swapsWith value (some (.Subscript o i pos')) pos.line env = pure false) (hr : Sx C k fi ρ σ₂ ss ot) : Sx C k fi ρ σ (.Assign [.Subscript o i pos'] value pos :: ss) ot := Sx.cons (Sx1.setSrc hv ho hi hj hs) hr
noncomputable def SOk (σ : Int × Int) : Prop := 0 ≤ σ.2 ∧ σ.2 < 2147483647
theorem fmod_bnd {x y : Int} (h : 0 < y) : 0 ≤ x.fmod y ∧ x.fmod y < y := ⟨Int.fmod_nonneg_of_pos x h, Int.fmod_lt_of_pos x h⟩
theorem bits_ok {z : Int} (h : 0 ≤ z) (h' : z < 2147483647) : Builtin.Int.intBits z ≤ 64 := by
  unfold Builtin.Int.intBits
  split
  · omega
  · rename_i hz
    have hz : z ≠ 0 := by simpa using hz
    have : z.natAbs.log2 < 31 := (Nat.log2_lt (by omega)).mpr (by omega)
    omega
set_option maxHeartbeats 1000000 in
theorem take_ok (F : Facts C) (top : Nat) (h0 : 0 < top) (h1 : top ≤ 1000) (σ : Int × Int) (hσ : SOk σ) : ∃ (n : Nat) (σ' : Int × Int), n < top ∧ SOk σ' ∧ ∀ k, FnD C (k + 1) (Str.ofString "_law_take") [.src, .dat (.int top)] σ (.int n) σ' := by
  by_cases hg : σ.1 > 0
  · have hb := fmod_bnd (x := σ.1) (y := (top : Int)) (by omega)
    refine ⟨(σ.1.fmod top).toNat, (σ.1.fdiv top, σ.2), by omega, hσ, fun k => ?_⟩
    have e : ((σ.1.fmod top).toNat : Int) = σ.1.fmod top := Int.toNat_of_nonneg hb.1
    rw [e]
    refine FnD.intro [] F.law_take ?_
    conv in (bodyOf _) => whnf
    with_reducible apply Sx.ifRet
    · with_reducible apply Ts.cmpr
      walk_at "m.run"
      · exact decide_eq_true hg
      walk_at "m.run"
    with_reducible apply Sx.let
    · with_reducible apply Ev.bin
      walk_at "m.run"
      exact op_mod_int (by omega)
    walk_at "m.run"
    with_reducible apply Sx.setS
    · with_reducible apply Ev.bin
      walk_at "m.run"
      exact op_fdiv_int (by omega) (by omega)
    walk_at "m.run"
    with_reducible apply Sx.return
    walk_at "m.run"
  · have hb := fmod_bnd (x := σ.2 * 39373 + 7) (y := (2147483647 : Int)) (by decide)
    generalize hz : (σ.2 * 39373 + 7).fmod 2147483647 = z at hb
    have ht := fmod_bnd (x := ((z * z).fmod 2147483629).fdiv 32) (y := (top : Int)) (by omega)
    refine ⟨((((z * z).fmod 2147483629).fdiv 32).fmod top).toNat, (σ.1, z), by omega, hb, fun k => ?_⟩
    have e : (((((z * z).fmod 2147483629).fdiv 32).fmod top).toNat : Int) = (((z * z).fmod 2147483629).fdiv 32).fmod top := Int.toNat_of_nonneg ht.1
    rw [e]
    refine FnD.intro [] F.law_take ?_
    conv in (bodyOf _) => whnf
    with_reducible apply Sx.ifSkip
    · with_reducible apply Ts.cmpr
      walk_at "m.run"
      · exact decide_eq_false hg
      walk_at "m.run"
    with_reducible apply Sx.setS (x := z) (j := 1) (σ₁ := σ) (σ₂ := (σ.1, z))
    · refine Ev.cast ?_ (congrArg PyData.int hz)
      with_reducible apply Ev.bin
      with_reducible apply Ev.bin
      with_reducible apply Ev.bin
      walk_at "m.run"
      · exact op_mul_int (IntMulOk.of_right (by decide))
      walk_at "m.run"
      exact op_mod_int (by decide)
    walk_at "m.run"
    with_reducible apply Sx.return
    with_reducible apply Ev.bin
    with_reducible apply Ev.bin
    with_reducible apply Ev.bin
    with_reducible apply Ev.bin
    walk_at "m.run"
    · exact op_mul_int (IntMulOk.of_right (bits_ok hb.1 hb.2))
    walk_at "m.run"
    · exact op_mod_int (by decide)
    walk_at "m.run"
    · exact op_fdiv_int (by decide) (by decide)
    walk_at "m.run"
    · exact op_mod_int (by omega)
end
-- MB2
section
variable {C : Cx} {k : Nat} {fi : Fi} {ρ ρ' ρ₁ : Loc} {σ σ₁ σ₂ σ₃ : Int × Int}
noncomputable def Draws (C : Cx) (k : Nat) (x : Str) (rs : List VD) (G : PyData → Prop) : Prop := ∀ σ, SOk σ → ∃ d σ', G d ∧ SOk σ' ∧ FnD C k x rs σ d σ'
theorem one_ok (F : Facts C) {ds : List PyData} (hl : 0 < ds.length) (hm : ds.length ≤ 1000) (σ : Int × Int) (hσ : SOk σ) : ∃ (n : Nat) (d : PyData) (σ' : Int × Int), ds[n]? = some d ∧ SOk σ' ∧ ∀ k, FnD C (k + 2) (Str.ofString "_law_one") [.src, .dat (.list ds)] σ d σ' := by
  obtain ⟨n, σ', hn, hs, ht⟩ := take_ok F ds.length hl hm σ hσ
  refine ⟨n, ds[n], σ', by simp [hn], hs, fun k => ?_⟩
  refine FnD.intro [] F.law_one ?_
  conv in (bodyOf _) => whnf
  with_reducible apply Sx.return
  with_reducible apply Ev.item
  walk_at "m.run"
  · with_reducible apply Ev.fn (rs := [.src, .dat (.int ds.length)])
    walk_at "m.run"
    exact ht k
    walk_at "m.run"
  · exact ItemOf.dl ⟨by omega, by omega⟩ (by simp [hn])
  walk_at "m.run"
noncomputable abbrev tri (d p : PyData) (x : Str) : PyData := .tuple [d, p, .str x]
theorem leaf_ok (F : Facts C) (spot : Int) (σ : Int × Int) (hσ : SOk σ) : ∃ (d p : PyData) (x : Str) (σ' : Int × Int), Leaf d p x ∧ SOk σ' ∧ ∀ k, FnD C (k + 2) (Str.ofString "_law_leaf") [.src, .dat (.int spot)] σ (tri d p x) σ' := by
  obtain ⟨n, σ', hn, hs, ht⟩ := take_ok F 2 (by decide) (by decide) σ hσ
  have ht : ∀ k, FnD C (k + 1) (Str.ofString "_law_take") [.src, .dat (.int 2)] σ (.int n) σ' := ht
  by_cases h0 : n = 0
  · subst h0
    refine ⟨_, _, _, σ', .tT spot, hs, fun k => ?_⟩
    refine FnD.intro [] F.law_leaf ?_
    conv in (bodyOf _) => whnf
    with_reducible apply Sx.ifRet
    · with_reducible apply Ts.cmpr
      with_reducible apply Ev.fn (rs := [.src, .dat (.int 2)])
      walk_at "m.run"
      exact ht k
      walk_at "m.run"
    with_reducible apply Sx.return
    walk_at "m.run"
  · have h1 : n = 1 := by omega
    subst h1
    refine ⟨_, _, _, σ', .pU spot, hs, fun k => ?_⟩
    refine FnD.intro [] F.law_leaf ?_
    conv in (bodyOf _) => whnf
    with_reducible apply Sx.ifSkip
    · with_reducible apply Ts.cmpr
      with_reducible apply Ev.fn (rs := [.src, .dat (.int 2)])
      walk_at "m.run"
      exact ht k
      walk_at "m.run"
    with_reducible apply Sx.return
    walk_at "m.run"
theorem draws_ct {fn : Str} {rs : List VD} {G : PyData → Prop} (hd : Draws C k fn rs G) (hb : (fn == ("__debug__" : Str)) = false) : ∀ (ds : List PyData) (σ : Int × Int), SOk σ → ∃ ys σ', (∀ y ∈ ys, G y) ∧ ys.length = ds.length ∧ SOk σ' ∧
    ∀ (fi : Fi) (ρ : Loc) (x : Str) (p1 pos : Pos) (e : Expr) (es : List Expr), (∀ b σ, Args C k fi ((x, .dat b) :: ρ) σ (e :: es) rs σ) → fi.sc.names.lookup fn = some .globalImplicit → (e :: es).all noStar = true → Ct C k fi ρ (.Call (.Name fn p1) (e :: es) [] pos) [] (.name x) σ ds ys σ'
  | [], σ, hσ => ⟨[], σ, fun _ h => (by cases h), rfl, hσ, fun _ _ _ _ _ _ _ _ _ _ => .nil⟩
  | b :: ds, σ, hσ => by
    obtain ⟨y, σ₁, hy, h₁, hf⟩ := hd σ hσ
    obtain ⟨ys, σ₂, hys, hl, h₂, hc⟩ := draws_ct hd hb ds σ₁ h₁
    refine ⟨y :: ys, σ₂, fun z hz => ?_, by rw [List.length_cons, List.length_cons, hl], h₂, fun fi ρ x p1 pos e es ha hx hs => ?_⟩
    · rcases List.mem_cons.mp hz with rfl | hz
      · exact hy
      · exact hys z hz
    · exact .cons rfl Ifs.nil (Ev.fn (ha b σ) hf hx hs hb) (hc fi ρ x p1 pos e es ha hx hs)
theorem Draws.mono {j : Nat} {x : Str} {rs : List VD} {G : PyData → Prop} (h : Draws C j x rs G) (hj : j ≤ k) : Draws C k x rs G := fun σ hσ => let ⟨d, σ', a, b, c⟩ := h σ hσ; ⟨d, σ', a, b, c.mono hj⟩
noncomputable def IsTri (R : Rel) (y : PyData) : Prop := ∃ d p x, y = tri d p x ∧ R d p x
noncomputable def TypeOk (C : Cx) (k : Nat) (deep : Nat) : Prop := Draws C k (Str.ofString "_law_type") [.src, .dat (.int deep)] (IsTri (TyR deep))
noncomputable def SignedOk (C : Cx) (k : Nat) (deep : Nat) : Prop := ∀ spot : Int, Draws C k (Str.ofString "_law_signed") [.src, .dat (.int deep), .dat (.int spot)] (IsTri (Sig (TyR deep)))
noncomputable def StructOk (C : Cx) (k : Nat) (deep : Nat) : Prop := ∀ spot : Int, Draws C k (Str.ofString "_law_struct") [.src, .dat (.int deep), .dat (.int spot)] (IsTri (Node (TyR deep)))
noncomputable def IfaceOk (C : Cx) (k : Nat) (deep : Nat) : Prop := ∀ spot : Int, Draws C k (Str.ofString "_law_interface") [.src, .dat (.int deep), .dat (.int spot)] (IsTri (Node (TyR deep)))
end
-- MB3
section
variable {C : Cx} {k : Nat} {fi : Fi} {ρ ρ' ρ₁ : Loc} {σ σ₁ σ₂ σ₃ : Int × Int}
noncomputable def isRecv : PyData → Bool
  | .tuple [x, _, y, _] => (match x, y with
    | .str a, .str b => a == Str.ofString "chan" && b == Str.ofString "recv"
    | _, _ => false)
  | _ => false
theorem cut_app {w y : Str} (h : 2 ≤ (L w).length) : cut2 (w ++ y) = cut2 w := by
  apply L_inj
  show ((w ++ y).cps.toList.take 2).toArray.toList = (w.cps.toList.take 2).toArray.toList
  have e : (w ++ y).cps.toList = w.cps.toList ++ y.cps.toList := L_app w y
  rw [e]
  simp only [List.take_append_of_le_length (show 2 ≤ w.cps.toList.length from h)]
theorem cut_one {w y : Str} {c : Nat} (h : L w = [c]) (hc : c ≠ 60) : (cut2 (w ++ y) == Str.ofString "<-") = false := by
  rw [beq_eq_false_iff_ne]
  intro e
  have e' := congrArg L e
  have e1 : L (cut2 (w ++ y)) = (L (w ++ y)).take 2 := by simp [L, cut2]
  rw [e1, L_app, h] at e'
  have : (L (Str.ofString "<-")) = [60, 45] := by decide +kernel
  rw [this] at e'
  simp at e'
  exact hc e'.1
theorem leaf_held {d p : PyData} {x : Str} (h : Leaf d p x) : (cut2 x == Str.ofString "<-") = isRecv d := by
  cases h with
  | tT s => exact (by decide +kernel : (cut2 (Str.ofString "T") == Str.ofString "<-") = false)
  | pU s => exact (by decide +kernel : (cut2 (Str.ofString "p.U") == Str.ofString "<-") = false)
theorem cf {w y : Str} (h : (decide (2 ≤ (L w).length) && !(cut2 w == Str.ofString "<-")) = true) : (cut2 (w ++ y) == Str.ofString "<-") = false := by
  simp only [Bool.and_eq_true, decide_eq_true_eq, Bool.not_eq_true'] at h
  rw [cut_app h.1]; exact h.2
theorem node_held {R : Rel} {d p : PyData} {x : Str} (h : Node R d p x) : (cut2 x == Str.ofString "<-") = isRecv d := by
  cases h with
  | leaf h => exact leaf_held h
  | ptr h => exact cut_one (w := Str.ofString "*") (c := 42) (by decide +kernel) (by decide)
  | slice h => exact cf (w := Str.ofString "[]") (by decide +kernel)
  | array hm h => rw [app_assoc, app_assoc]; exact cut_one (w := Str.ofString "[") (c := 91) (by decide +kernel) (by decide)
  | map h' h => rw [app_assoc, app_assoc]; cases h' <;> exact cf (w := Str.ofString "map[") (by decide +kernel)
  | chan hd h =>
    cases hd with
    | both => exact (cf (w := Str.ofString "chan ") (by decide +kernel)).trans (by decide +kernel : false = (Str.ofString "chan" == Str.ofString "chan" && Str.ofString "both" == Str.ofString "recv"))
    | send => exact (cf (w := Str.ofString "chan<- ") (by decide +kernel)).trans (by decide +kernel : false = (Str.ofString "chan" == Str.ofString "chan" && Str.ofString "send" == Str.ofString "recv"))
    | recv => rw [cut_app (by decide +kernel)]; exact (by decide +kernel : (cut2 (Str.ofString "<-chan ") == Str.ofString "<-") = (Str.ofString "chan" == Str.ofString "chan" && Str.ofString "recv" == Str.ofString "recv"))
  | func h => cases h <;> exact cf (w := Str.ofString "func") (by decide +kernel)
  | struct h hd => exact cf (w := Str.ofString "struct") (by decide +kernel)
  | iface h h' hd he => exact cf (w := Str.ofString "interface") (by decide +kernel)
theorem ty_held : ∀ {n : Nat} {d p : PyData} {x : Str}, TyR n d p x → (cut2 x == Str.ofString "<-") = isRecv d
  | 0, _, _, _, h => leaf_held h
  | _ + 1, _, _, _, h => node_held h
theorem ty_open {n : Nat} {d p : PyData} {x : Str} (h : TyR n d p x) : (∃ s to d', d = .tuple [.str (Str.ofString "chan"), .int s, .str to, d']) ∨ (∃ a r, d = .tuple (.str a :: r) ∧ (a == Str.ofString "chan") = false ∧ isRecv d = false) := by
  have leaf : ∀ {d p : PyData} {x : Str}, Leaf d p x → (∃ a r, d = .tuple (.str a :: r) ∧ (a == Str.ofString "chan") = false ∧ isRecv d = false) := fun h => by
    cases h <;> exact ⟨_, _, rfl, by decide +kernel, rfl⟩
  cases n with
  | zero => exact .inr (leaf h)
  | succ n =>
    replace h : Node (TyR n) d p x := h
    cases h with
    | leaf h => exact .inr (leaf h)
    | ptr h => exact .inr ⟨_, _, rfl, by decide +kernel, rfl⟩
    | slice h => exact .inr ⟨_, _, rfl, by decide +kernel, rfl⟩
    | array hm h => exact .inr ⟨_, _, rfl, by decide +kernel, rfl⟩
    | map h' h => exact .inr ⟨_, _, rfl, by decide +kernel, by cases h' <;> rfl⟩
    | chan hd h => exact .inl ⟨_, _, _, rfl⟩
    | func h => cases h <;> exact .inr ⟨_, _, rfl, by decide +kernel, rfl⟩
    | struct h hd => exact .inr ⟨_, _, rfl, by decide +kernel, rfl⟩
    | iface h h' hd he => exact .inr ⟨_, _, rfl, by decide +kernel, rfl⟩
theorem ty_name {n : Nat} {d p : PyData} {x : Str} (h : TyR n d p x) : (∃ s q a, d = .tuple [.str (Str.ofString "name"), .int s, q, .str a] ∧ a.length ≤ 10) ∨ (∃ a r, d = .tuple (.str a :: r) ∧ (a == Str.ofString "name") = false) := by
  have leaf : ∀ {d p : PyData} {x : Str}, Leaf d p x → (∃ s q a, d = .tuple [.str (Str.ofString "name"), .int s, q, .str a] ∧ a.length ≤ 10) := fun h => by
    cases h <;> exact ⟨_, _, _, rfl, by decide +kernel⟩
  cases n with
  | zero => exact .inl (leaf h)
  | succ n =>
    replace h : Node (TyR n) d p x := h
    cases h with
    | leaf h => exact .inl (leaf h)
    | func h => cases h <;> exact .inr ⟨_, _, rfl, by decide +kernel⟩
    | _ => exact .inr ⟨_, _, rfl, by decide +kernel⟩
end
-- MB4
section
variable {C : Cx} {k : Nat} {fi : Fi} {ρ ρ' ρ₁ : Loc} {σ σ₁ σ₂ σ₃ : Int × Int}
noncomputable abbrev tLoc (spot way deep : Int) : Loc := [(Str.ofString "spot", .dat (.int spot)), (Str.ofString "way", .dat (.int way)), (Str.ofString "source", .src), (Str.ofString "deep", .dat (.int deep))]
noncomputable abbrev tLoc2 (spot way deep : Int) (d p : PyData) (x : Str) : Loc := (Str.ofString "text", .dat (.str x)) :: (Str.ofString "plain", .dat p) :: (Str.ofString "told", .dat d) :: tLoc spot way deep
theorem Ev.swapPair {kd : Nat} {pos : Pos} {a b : PyData} {e₁ e₂ : Expr} (h₁ : Ev C k fi ρ σ e₁ (.dat a) σ₁) (h₂ : Ev C k fi ρ σ₁ e₂ (.dat b) σ₂) (n₁ : noStar e₁ = true) (n₂ : noStar e₂ = true) : Evm C k fi ρ σ (.Tuple [e₁, e₂] kd pos) [.dat a, .dat b] σ₂ :=
  Evm.tuple (EvI.dt h₁ (EvI.dt h₂ EvI.nil n₂) n₁) (Nat.le_of_ble_eq_true rfl)
theorem Ev.dict {i : Expr} {k₁ k₂ k₃ x₁ x₂ x₃ y z : Str} {a₁ a₂ a₃ b₁ b₂ b₃ : Nat} {p₁ p₂ p₃ q₁ q₂ q₃ pos pos' : Pos} {sel : Value → Value → Value → Value} (hi : Ev C k fi ρ σ i (.dat (.str y)) σ₁)
    (hv : ∀ v₁ v₂ v₃ : Value, valueAt (merged [] [(k₁, v₁), (k₂, v₂), (k₃, v₃)]) y = some (sel v₁ v₂ v₃)) (hz : ∀ (P : PH) (t₁ t₂ t₃ : Tok), Rep P (sel (.str x₁ t₁) (.str x₂ t₂) (.str x₃ t₃)) (.str z)) (hp : plainIx i = true) :
    Ev C k fi ρ σ (.Subscript (.Dict [some (.Constant (.str k₁) a₁ p₁), some (.Constant (.str k₂) a₂ p₂), some (.Constant (.str k₃) a₃ p₃)] [.Constant (.str x₁) b₁ q₁, .Constant (.str x₂) b₂ q₂, .Constant (.str x₃) b₃ q₃] pos) i pos') (.dat (.str z)) σ₁ := Ev.dict3 hi hv hz hp
theorem op_sub_is {x y z : Int} (h : x - y = z) : OpD C k (binaryOp .Sub) (.int x) (.int y) (.int z) := h ▸ op_sub_int
theorem type_pre (F : Facts C) {deep : Nat} {spot way : Nat} {o : Out} (t₁ : ∀ k, FnD C (k + 1) (Str.ofString "_law_take") [.src, .dat (.int 60)] σ (.int spot) σ₁) (t₂ : ∀ k, FnD C (k + 1) (Str.ofString "_law_take") [.src, .dat (.int 10)] σ₁ (.int way) σ₂)
    (h : Sx C (k + 1) ⟨scopeOf 46, []⟩ (tLoc spot way (deep + 1 : Nat)) σ₂ ((bodyOf 46).drop 1) o) : Sx C (k + 1) ⟨scopeOf 46, []⟩ [(Str.ofString "deep", .dat (.int (deep + 1 : Nat))), (Str.ofString "source", .src)] σ (bodyOf 46) o := by
  conv in (bodyOf _) => whnf
  with_reducible apply Sx.swp [Str.ofString "spot", Str.ofString "way"] (avs := [.dat (.int spot), .dat (.int way)]) (σ₁ := σ₂)
  · with_reducible apply Ev.swapPair (σ₁ := σ₁)
    · with_reducible apply Ev.fn (rs := [.src, .dat (.int 60)])
      walk_at "m.run"
      exact t₁ k
      walk_at "m.run"
    · with_reducible apply Ev.ifT
      · with_reducible apply Ts.cmpr
        walk_at "m.run"
        exact decide_eq_true (by omega)
        walk_at "m.run"
      · with_reducible apply Ev.fn (rs := [.src, .dat (.int 10)])
        walk_at "m.run"
        exact t₂ k
        walk_at "m.run"
    all_goals walk_at "m.run"
  walk_at "m.run"
  · walk_at "m.env"
  exact Sx.sub (.cons rfl (.cons rfl (.cons rfl (.cons rfl .nil)))) h
theorem type_leaf (F : Facts C) {deep : Int} {spot way : Nat} {d : PyData} (hw : way < 2) (hl : ∀ k, FnD C (k + 2) (Str.ofString "_law_leaf") [.src, .dat (.int spot)] σ d σ₁) : Sx C (k + 2) ⟨scopeOf 46, []⟩ (tLoc spot way deep) σ ((bodyOf 46).drop 1) (.ret d σ₁) := by
  conv in (List.drop _ _) => whnf
  with_reducible apply Sx.ifRet
  · with_reducible apply Ts.cmpr
    walk_at "m.run"
    exact decide_eq_true (by omega)
    walk_at "m.run"
  with_reducible apply Sx.return
  with_reducible apply Ev.fn (rs := [.src, .dat (.int spot)])
  walk_at "m.run"
  exact hl k
  walk_at "m.run"
theorem type_func (F : Facts C) {deep : Nat} {spot : Nat} {d p : PyData} {x : Str} (hx : x.length ≤ 1000000) (hl : FnD C k (Str.ofString "_law_signed") [.src, .dat (.int deep), .dat (.int spot)] σ (tri d p x) σ₁) : Sx C k ⟨scopeOf 46, []⟩ (tLoc spot 7 (deep + 1 : Nat)) σ ((bodyOf 46).drop 1) (.ret (tri d p (Str.ofString "func" ++ x)) σ₁) := by
  have e : ((deep + 1 : Nat) : Int) - 1 = deep := by omega
  conv in (List.drop _ _) => whnf
  with_reducible apply Sx.ifSkip
  walk_at "m.run"
  with_reducible apply Sx.ifRet
  walk_at "m.run"
  with_reducible apply Sx.unp (avs := [.dat d, .dat p, .dat (.str x)]) (σ₁ := σ₁)
  · with_reducible apply Evm.of (ds := [d, p, .str x])
    · with_reducible apply Ev.fn (rs := [.src, .dat (.int deep), .dat (.int spot)]) (σ₁ := σ)
      · walk_at "m.run"
        exact op_sub_is e
        walk_at "m.run"
      · exact hl
      all_goals walk_at "m.run"
    walk_at "m.run"
  walk_at "m.run"
  with_reducible apply Sx.return
  walk_at "m.run"
theorem type_struct (F : Facts C) {deep : Nat} {spot : Nat} {d : PyData} (hl : FnD C k (Str.ofString "_law_struct") [.src, .dat (.int deep), .dat (.int spot)] σ d σ₁) : Sx C k ⟨scopeOf 46, []⟩ (tLoc spot 8 (deep + 1 : Nat)) σ ((bodyOf 46).drop 1) (.ret d σ₁) := by
  have e : ((deep + 1 : Nat) : Int) - 1 = deep := by omega
  conv in (List.drop _ _) => whnf
  with_reducible apply Sx.ifSkip
  walk_at "m.run"
  with_reducible apply Sx.ifSkip
  walk_at "m.run"
  with_reducible apply Sx.ifRet
  walk_at "m.run"
  with_reducible apply Sx.return
  with_reducible apply Ev.ifT
  walk_at "m.run"
  with_reducible apply Ev.fn (rs := [.src, .dat (.int deep), .dat (.int spot)]) (σ₁ := σ)
  · walk_at "m.run"
    exact op_sub_is e
    walk_at "m.run"
  · exact hl
  all_goals walk_at "m.run"
theorem type_iface (F : Facts C) {deep : Nat} {spot : Nat} {d : PyData} (hl : FnD C k (Str.ofString "_law_interface") [.src, .dat (.int deep), .dat (.int spot)] σ d σ₁) : Sx C k ⟨scopeOf 46, []⟩ (tLoc spot 9 (deep + 1 : Nat)) σ ((bodyOf 46).drop 1) (.ret d σ₁) := by
  have e : ((deep + 1 : Nat) : Int) - 1 = deep := by omega
  conv in (List.drop _ _) => whnf
  with_reducible apply Sx.ifSkip
  walk_at "m.run"
  with_reducible apply Sx.ifSkip
  walk_at "m.run"
  with_reducible apply Sx.ifRet
  walk_at "m.run"
  with_reducible apply Sx.return
  with_reducible apply Ev.ifF
  walk_at "m.run"
  with_reducible apply Ev.fn (rs := [.src, .dat (.int deep), .dat (.int spot)]) (σ₁ := σ)
  · walk_at "m.run"
    exact op_sub_is e
    walk_at "m.run"
  · exact hl
  all_goals walk_at "m.run"
end
-- MB5
section
variable {C : Cx} {k : Nat} {fi : Fi} {ρ ρ' ρ₁ : Loc} {σ σ₁ σ₂ σ₃ : Int × Int}
theorem type_mid (F : Facts C) {deep : Nat} {spot way : Nat} {d p : PyData} {x : Str} {o : Out} (hw : 2 ≤ way ∧ way < 7) (hl : FnD C k (Str.ofString "_law_type") [.src, .dat (.int deep)] σ (tri d p x) σ₁)
    (h : Sx C k ⟨scopeOf 46, []⟩ (tLoc2 spot way (deep + 1 : Nat) d p x) σ₁ ((bodyOf 46).drop 5) o) : Sx C k ⟨scopeOf 46, []⟩ (tLoc spot way (deep + 1 : Nat)) σ ((bodyOf 46).drop 1) o := by
  have e : ((deep + 1 : Nat) : Int) - 1 = deep := by omega
  conv in (List.drop 1 _) => whnf
  with_reducible apply Sx.ifSkip
  · with_reducible apply Ts.cmpr
    walk_at "m.run"
    exact decide_eq_false (by omega)
    walk_at "m.run"
  with_reducible apply Sx.ifSkip
  · with_reducible apply Ts.cmpr
    walk_at "m.run"
    exact beq_eq_false_iff_ne.mpr (by omega)
    walk_at "m.run"
  with_reducible apply Sx.ifSkip
  · with_reducible apply Ts.cmpr
    walk_at "m.run"
    exact decide_eq_false (by omega)
    walk_at "m.run"
  with_reducible apply Sx.unp (avs := [.dat d, .dat p, .dat (.str x)]) (σ₁ := σ₁)
  · with_reducible apply Evm.of (ds := [d, p, .str x])
    · with_reducible apply Ev.fn (rs := [.src, .dat (.int deep)]) (σ₁ := σ)
      · walk_at "m.run"
        exact op_sub_is e
        walk_at "m.run"
      · exact hl
      all_goals walk_at "m.run"
    walk_at "m.run"
  walk_at "m.run"
  exact Sx.sub (.cons rfl (.cons rfl (.cons rfl (.cons rfl (.cons rfl (.cons rfl (.cons rfl .nil))))))) h
theorem type_ptr {deep : Int} {spot : Nat} {d p : PyData} {x : Str} (hx : x.length ≤ 1000000) : Sx C k ⟨scopeOf 46, []⟩ (tLoc2 spot 2 deep d p x) σ ((bodyOf 46).drop 5) (.ret (tri (.tuple [.str (Str.ofString "ptr"), .int spot, d]) (.tuple [.str (Str.ofString "ptr"), .int 0, p]) (Str.ofString "*" ++ x)) σ) := by
  conv in (List.drop 5 _) => whnf
  with_reducible apply Sx.ifRet
  walk_at "m.run"
  with_reducible apply Sx.return
  walk_at "m.run"
theorem type_sl {deep : Int} {spot : Nat} {d p : PyData} {x : Str} (hx : x.length ≤ 1000000) : Sx C k ⟨scopeOf 46, []⟩ (tLoc2 spot 3 deep d p x) σ ((bodyOf 46).drop 5) (.ret (tri (sliceD spot d) (sliceD 0 p) (Str.ofString "[]" ++ x)) σ) := by
  conv in (List.drop 5 _) => whnf
  iterate 1
    with_reducible apply Sx.ifSkip
    walk_at "m.run"
  with_reducible apply Sx.ifRet
  walk_at "m.run"
  with_reducible apply Sx.return
  walk_at "m.run"
theorem type_arr (F : Facts C) {deep : Int} {spot n : Nat} {d p : PyData} {x : Str} (hx : x.length ≤ 1000000) (hn : n < 30) (ht : ∀ k, FnD C (k + 1) (Str.ofString "_law_take") [.src, .dat (.int 30)] σ (.int n) σ₁) :
    Sx C (k + 1) ⟨scopeOf 46, []⟩ (tLoc2 spot 4 deep d p x) σ ((bodyOf 46).drop 5) (.ret (tri (.tuple [.str (Str.ofString "array"), .int spot, .tuple [.str (Str.ofString "int"), .int (spot + 1), .int n], d]) (.tuple [.str (Str.ofString "array"), .int 0, .tuple [.str (Str.ofString "int"), .int 0, .int n], p]) (((Str.ofString "[" ++ Str.ofString (toString (n : Int))) ++ Str.ofString "]") ++ x)) σ₁) := by
  have nl := num_len hn
  conv in (List.drop 5 _) => whnf
  iterate 2
    with_reducible apply Sx.ifSkip
    walk_at "m.run"
  with_reducible apply Sx.ifRet
  walk_at "m.run"
  with_reducible apply Sx.swp [Str.ofString "many", Str.ofString "word"] (avs := [.dat (.int n), .dat (.str (Str.ofString "["))]) (σ₁ := σ₁)
  · with_reducible apply Ev.swapPair (σ₁ := σ₁)
    · with_reducible apply Ev.fn (rs := [.src, .dat (.int 30)])
      walk_at "m.run"
      exact ht k
      walk_at "m.run"
    all_goals walk_at "m.run"
  walk_at "m.run"
  · walk_at "m.env"
  with_reducible apply Sx.let
  · with_reducible apply Ev.bin
    with_reducible apply Ev.bin
    with_reducible apply Ev.bin
    walk_at "m.run"
    · with_reducible apply Ev.strI
      walk_at "m.run"
      · have := Nat.log2_le_self ((n : Int)).natAbs
        omega
      walk_at "m.run"
    walk_at "m.run"
  walk_at "m.run"
  with_reducible apply Sx.return
  walk_at "m.run"
theorem type_map {deep : Int} {spot : Nat} {d p e q : PyData} {x y : Str} (hx : x.length ≤ 1000000) (hy : y.length ≤ 1000000) (hl : ∀ k, FnD C (k + 2) (Str.ofString "_law_leaf") [.src, .dat (.int ((spot : Int) + 4))] σ (tri e q y) σ₁) :
    Sx C (k + 2) ⟨scopeOf 46, []⟩ (tLoc2 spot 5 deep d p x) σ ((bodyOf 46).drop 5) (.ret (tri (.tuple [.str (Str.ofString "map"), .int spot, e, d]) (.tuple [.str (Str.ofString "map"), .int 0, q, p]) (((Str.ofString "map[" ++ y) ++ Str.ofString "]") ++ x)) σ₁) := by
  conv in (List.drop 5 _) => whnf
  iterate 3
    with_reducible apply Sx.ifSkip
    walk_at "m.run"
  with_reducible apply Sx.ifRet
  walk_at "m.run"
  with_reducible apply Sx.unp (avs := [.dat e, .dat q, .dat (.str y)]) (σ₁ := σ₁)
  · with_reducible apply Evm.of (ds := [e, q, .str y])
    · with_reducible apply Ev.fn (rs := [.src, .dat (.int ((spot : Int) + 4))]) (σ₁ := σ)
      walk_at "m.run"
      exact hl k
      walk_at "m.run"
    walk_at "m.run"
  walk_at "m.run"
  with_reducible apply Sx.return
  walk_at "m.run"
theorem type_chan {deep : Int} {spot : Nat} {d p : PyData} {x to word : Str} (hd : Dir to word) (hx : x.length ≤ 1000000) (hc : (cut2 x == Str.ofString "<-") = isRecv d) (ho : (∃ s to d', d = .tuple [.str (Str.ofString "chan"), .int s, .str to, d']) ∨ (∃ a r, d = .tuple (.str a :: r) ∧ (a == Str.ofString "chan") = false ∧ isRecv d = false))
    (hl : ∀ k, FnD C (k + 2) (Str.ofString "_law_one") [.src, .dat (.list [.str (Str.ofString "both"), .str (Str.ofString "send"), .str (Str.ofString "recv")])] σ (.str to) σ₁) :
    Sx C (k + 2) ⟨scopeOf 46, []⟩ (tLoc2 spot 6 deep d p x) σ ((bodyOf 46).drop 5) (.ret (tri (.tuple [.str (Str.ofString "chan"), .int spot, .str to, d]) (.tuple [.str (Str.ofString "chan"), .int 0, .str to, p]) (word ++ heldText to x)) σ₁) := by
  conv in (List.drop 5 _) => whnf
  iterate 4
    with_reducible apply Sx.ifSkip
    walk_at "m.run"
  with_reducible apply Sx.let (d := .str to) (σ₁ := σ₁)
  · with_reducible apply Ev.fn (rs := [.src, .dat (.list [.str (Str.ofString "both"), .str (Str.ofString "send"), .str (Str.ofString "recv")])])
    · with_reducible apply Args.cons
      walk_at "m.run"
      · with_reducible apply Evf.ev
        with_reducible apply Evf.lst
        walk_at "m.run"
      all_goals walk_at "m.run"
    · exact hl k
    all_goals walk_at "m.run"
  walk_at "m.run"
  with_reducible apply Sx.let (d := .str word) (σ₁ := σ₁)
  · cases hd with
    | both => exact Ev.dict (sel := fun a _ _ => a) (Ev.nm rfl rfl) (fun _ _ _ => rfl) (fun _ _ _ _ => .str _ _) rfl
    | send => exact Ev.dict (sel := fun _ a _ => a) (Ev.nm rfl rfl) (fun _ _ _ => rfl) (fun _ _ _ _ => .str _ _) rfl
    | recv => exact Ev.dict (sel := fun _ _ a => a) (Ev.nm rfl rfl) (fun _ _ _ => rfl) (fun _ _ _ _ => .str _ _) rfl
  walk_at "m.run"
  have held : heldText to x = (if (to == Str.ofString "both" && isRecv d) = true then (Str.ofString "(" ++ x) ++ Str.ofString ")" else x) := by
    unfold heldText
    rw [hc]
    cases to == Str.ofString "both" <;> cases isRecv d <;> rfl
  rw [held]
  have wl : word.length ≤ 10 := by cases hd <;> decide
  with_reducible apply Sx.let (d := .bool (to == Str.ofString "both" && isRecv d)) (σ₁ := σ₁)
  · with_reducible apply Ev.boolOp
    cases h1 : to == Str.ofString "both" with
    | false =>
      rw [Bool.false_and]
      with_reducible apply BoolV.andF
      walk_at "m.run"
      exact h1
      walk_at "m.run"
    | true =>
      with_reducible apply BoolV.andT
      walk_at "m.run"
      exact h1
      walk_at "m.run"
      rcases ho with ⟨s, to', d', rfl⟩ | ⟨a, r, rfl, ha, hr⟩
      · with_reducible apply BoolV.andT
        walk_at "m.run"
        with_reducible apply BoolV.one
        walk_at "m.run"
      · rw [hr, Bool.and_false]
        with_reducible apply BoolV.andF
        walk_at "m.run"
        exact ha
        walk_at "m.run"
  walk_at "m.run"
  cases h1 : (to == Str.ofString "both" && isRecv d) with
  | false =>
    rw [if_neg Bool.false_ne_true]
    with_reducible apply Sx.return
    with_reducible apply Ev.tupl
    apply Evs.con
    walk_at "m.run"
    · with_reducible apply Ev.ifF
      walk_at "m.run"
    all_goals walk_at "m.run"
  | true =>
    rw [if_pos rfl]
    with_reducible apply Sx.return
    with_reducible apply Ev.tupl
    apply Evs.con
    walk_at "m.run"
    · with_reducible apply Ev.ifT
      walk_at "m.run"
    all_goals walk_at "m.run"
end
-- MB6
section
variable {C : Cx} {k : Nat} {fi : Fi} {ρ ρ' ρ₁ : Loc} {σ σ₁ σ₂ σ₃ : Int × Int}
theorem bnd_le : ∀ n, n ≤ 3 → bnd n ≤ 200000
  | 0, _ => by decide
  | 1, _ => by decide
  | 2, _ => by decide
  | 3, _ => by decide
  | n + 4, h => by omega
theorem type_zero (F : Facts C) : TypeOk C (k + 3) 0 := fun σ hσ => by
  obtain ⟨spot, σ₁, hspot, h₁, t₁⟩ := take_ok F 60 (by decide) (by decide) σ hσ
  obtain ⟨d, p, x, σ₂, hl, h₂, t₂⟩ := leaf_ok F spot σ₁ h₁
  refine ⟨_, σ₂, ⟨d, p, x, rfl, hl⟩, h₂, ?_⟩
  refine FnD.intro [] F.law_type ?_
  conv in (bodyOf _) => whnf
  with_reducible apply Sx.swp [Str.ofString "spot", Str.ofString "way"] (avs := [.dat (.int spot), .dat (.int 0)]) (σ₁ := σ₁)
  · with_reducible apply Ev.swapPair (σ₁ := σ₁)
    · with_reducible apply Ev.fn (rs := [.src, .dat (.int 60)])
      walk_at "m.run"
      exact t₁ (k + 1)
      walk_at "m.run"
    · with_reducible apply Ev.ifF
      · walk_at "m.run"
      · walk_at "m.run"
    all_goals walk_at "m.run"
  walk_at "m.run"
  · walk_at "m.env"
  exact Sx.sub (.cons rfl (.cons rfl (.cons rfl (.cons rfl .nil)))) (type_leaf (k := k) (way := 0) F (by decide) t₂)
theorem type_step (F : Facts C) {deep : Nat} (hd : deep ≤ 2) (hT : TypeOk C (k + 2) deep) (hS : SignedOk C (k + 2) deep) (hSt : StructOk C (k + 2) deep) (hI : IfaceOk C (k + 2) deep) : TypeOk C (k + 3) (deep + 1) := fun σ hσ => by
  obtain ⟨spot, σ₁, hspot, h₁, t₁⟩ := take_ok F 60 (by decide) (by decide) σ hσ
  obtain ⟨way, σ₂, hway, h₂, t₂⟩ := take_ok F 10 (by decide) (by decide) σ₁ h₁
  have go : ∀ {y : PyData} {σ' : Int × Int}, Sx C (k + 2) ⟨scopeOf 46, []⟩ (tLoc spot way (deep + 1 : Nat)) σ₂ ((bodyOf 46).drop 1) (.ret y σ') → FnD C (k + 3) (Str.ofString "_law_type") [.src, .dat (.int ((deep + 1 : Nat) : Int))] σ y σ' := fun {y σ'} h =>
    FnD.intro [] F.law_type (type_pre (k := k + 1) F t₁ t₂ h)
  have lenT : ∀ {d p : PyData} {x : Str}, TyR deep d p x → x.length ≤ 200000 := fun h => Nat.le_trans (TyR.len deep _ _ _ h) (bnd_le deep (by omega))
  by_cases w2 : way < 2
  · obtain ⟨d, p, x, σ₃, hl, h₃, t₃⟩ := leaf_ok F spot σ₂ h₂
    exact ⟨_, σ₃, ⟨d, p, x, rfl, .leaf hl⟩, h₃, go (type_leaf F w2 t₃)⟩
  by_cases w7 : way = 7
  · subst w7
    obtain ⟨y, σ₃, ⟨d, p, x, rfl, hy⟩, h₃, t₃⟩ := hS spot σ₂ h₂
    exact ⟨_, σ₃, ⟨d, p, _, rfl, .func hy⟩, h₃, go (type_func F (Nat.le_trans (hy.len (TyR.len deep)) (by have := bnd_le deep (by omega); omega)) t₃)⟩
  by_cases w8 : way = 8
  · subst w8
    obtain ⟨y, σ₃, ⟨d, p, x, rfl, hy⟩, h₃, t₃⟩ := hSt spot σ₂ h₂
    exact ⟨_, σ₃, ⟨d, p, x, rfl, hy⟩, h₃, go (type_struct F t₃)⟩
  by_cases w9 : way = 9
  · subst w9
    obtain ⟨y, σ₃, ⟨d, p, x, rfl, hy⟩, h₃, t₃⟩ := hI spot σ₂ h₂
    exact ⟨_, σ₃, ⟨d, p, x, rfl, hy⟩, h₃, go (type_iface F t₃)⟩
  obtain ⟨y, σ₃, ⟨d, p, x, rfl, hy⟩, h₃, t₃⟩ := hT σ₂ h₂
  have hx : x.length ≤ 1000000 := Nat.le_trans (lenT hy) (by decide)
  have mid : ∀ {y : PyData} {σ' : Int × Int}, Sx C (k + 2) ⟨scopeOf 46, []⟩ (tLoc2 spot way (deep + 1 : Nat) d p x) σ₃ ((bodyOf 46).drop 5) (.ret y σ') → FnD C (k + 3) (Str.ofString "_law_type") [.src, .dat (.int ((deep + 1 : Nat) : Int))] σ y σ' := fun h => go (type_mid F ⟨by omega, by omega⟩ t₃ h)
  have hw : way = 2 ∨ way = 3 ∨ way = 4 ∨ way = 5 ∨ way = 6 := by omega
  rcases hw with rfl | rfl | rfl | rfl | rfl
  · exact ⟨_, σ₃, ⟨_, _, _, rfl, .ptr hy⟩, h₃, mid (type_ptr hx)⟩
  · exact ⟨_, σ₃, ⟨_, _, _, rfl, .slice hy⟩, h₃, mid (type_sl hx)⟩
  · obtain ⟨n, σ₄, hn, h₄, t₄⟩ := take_ok F 30 (by decide) (by decide) σ₃ h₃
    exact ⟨_, σ₄, ⟨_, _, _, rfl, .array hn hy⟩, h₄, mid (type_arr (k := k + 1) F hx hn t₄)⟩
  · obtain ⟨e, q, y, σ₄, hl, h₄, t₄⟩ := leaf_ok F ((spot : Int) + 4) σ₃ h₃
    exact ⟨_, σ₄, ⟨_, _, _, rfl, .map hl hy⟩, h₄, mid (type_map hx (Nat.le_trans (leaf_len _ _ _ hl) (by decide)) t₄)⟩
  · obtain ⟨n, t, σ₄, hn, h₄, t₄⟩ := one_ok F (ds := [.str (Str.ofString "both"), .str (Str.ofString "send"), .str (Str.ofString "recv")]) (by decide +kernel) (by decide +kernel) σ₃ h₃
    have : ∃ to word, t = .str to ∧ Dir to word := by
      match n, hn with
      | 0, hn => cases hn; exact ⟨_, _, rfl, .both⟩
      | 1, hn => cases hn; exact ⟨_, _, rfl, .send⟩
      | 2, hn => cases hn; exact ⟨_, _, rfl, .recv⟩
      | n + 3, hn => simp at hn
    obtain ⟨to, word, rfl, hdir⟩ := this
    exact ⟨_, σ₄, ⟨_, _, _, rfl, .chan hdir hy⟩, h₄, mid (type_chan hdir hx (ty_held hy) (ty_open hy) t₄)⟩
end
-- MB7
section
variable {C : Cx} {k : Nat} {fi : Fi} {ρ ρ' ρ₁ : Loc} {σ σ₁ σ₂ σ₃ : Int × Int} {R : Rel}
noncomputable def stBody : List Stmt := match (bodyOf 48).drop 1 with
  | .For _ _ b _ _ :: _ => b
  | _ => []
noncomputable abbrev sLoc (ds ps : List PyData) (xs : List Str) (deep spot : Int) : Loc := [(Str.ofString "fields", .box ds), (Str.ofString "bare", .box ps), (Str.ofString "texts", .box (xs.map .str)), (Str.ofString "source", .src), (Str.ofString "deep", .dat (.int deep)), (Str.ofString "spot", .dat (.int spot))]
noncomputable abbrev sLoc1 (n : Str) (ds ps : List PyData) (xs : List Str) (deep spot : Int) : Loc := (Str.ofString "name", .dat (.str n)) :: sLoc ds ps xs deep spot
noncomputable abbrev sLoc2 (here : Str) (e : Bool) (d p : PyData) (x n : Str) (ds ps : List PyData) (xs : List Str) (deep spot : Int) : Loc := (Str.ofString "here", .dat (.str here)) :: (Str.ofString "is_embedded", .dat (.bool e)) :: (Str.ofString "text", .dat (.str x)) :: (Str.ofString "plain", .dat p) :: (Str.ofString "told", .dat d) :: sLoc1 n ds ps xs deep spot
theorem Sx.toNext {ss : List Stmt} (h : Sx C k fi ρ σ ss (.next ρ₁ σ₁)) (k' : Sub ρ' ρ₁) : Sx C k fi ρ σ ss (.next ρ' σ₁) := .mk <| fun f A s P μ E Q hA hS q => h.run f A s P μ E Q hA hS fun h' tk P' μ' le hS' => q h' tk P' μ' le (hS'.sub k')
theorem st_tail {here x n : Str} {e : Bool} {d p : PyData} {ds ps : List PyData} {xs : List Str} {deep spot : Int} (hx : x.length ≤ 1000000) (hn : n.length ≤ 10) (h1 : ds.length ≤ 1000) (h2 : ps.length ≤ 1000) (h3 : xs.length ≤ 1000) :
    Sx C k ⟨scopeOf 48, []⟩ (sLoc2 here e d p x n ds ps xs deep spot) σ (stBody.drop 3) (.next (sLoc (ds ++ [.tuple [.str here, d, .bool e]]) (ps ++ [.tuple [.str here, p, .bool e]]) (xs ++ [if e then x else (n ++ Str.ofString " ") ++ x]) deep spot) σ) := by
  conv in (List.drop 3 _) => whnf
  refine Sx.toNext (ρ₁ := (Str.ofString "texts", .box (xs.map .str ++ [.str (if e then x else (n ++ Str.ofString " ") ++ x)])) :: (Str.ofString "bare", .box (ps ++ [.tuple [.str here, p, .bool e]])) :: (Str.ofString "fields", .box (ds ++ [.tuple [.str here, d, .bool e]])) :: sLoc2 here e d p x n ds ps xs deep spot) ?_ (.cons rfl (.cons rfl (.cons (by rw [List.map_append]; rfl) (.cons rfl (.cons rfl (.cons rfl .nil))))))
  with_reducible apply Sx.expr
  · with_reducible apply EvS.app (ds := ds)
    walk_at "m.run"
  walk_at "m.run"
  with_reducible apply Sx.expr
  · with_reducible apply EvS.app (ds := ps)
    walk_at "m.run"
  walk_at "m.run"
  with_reducible apply Sx.expr
  · with_reducible apply EvS.app (ds := xs.map .str) (d := .str (if e then x else (n ++ Str.ofString " ") ++ x))
    walk_at "m.run"
    · cases e with
      | true =>
        refine Ev.cast (d₀ := .str x) (σ₁ := σ) ?_ rfl
        with_reducible apply Ev.ifT
        with_reducible apply Ts.val
        all_goals walk_at "m.run"
      | false =>
        refine Ev.cast (d₀ := .str ((n ++ Str.ofString " ") ++ x)) (σ₁ := σ) ?_ rfl
        with_reducible apply Ev.ifF
        with_reducible apply Ts.val
        all_goals walk_at "m.run"
    · rw [List.length_map]; omega
    walk_at "m.run"
  walk_at "m.run"
  exact Sx.nil
theorem st_turn (F : Facts C) {deep : Nat} {n : Str} (hn : n.length ≤ 10) (hd : deep ≤ 2) (hT : TypeOk C (k + 1) deep) (spot : Int) (σ : Int × Int) (hσ : SOk σ) : ∃ f g x' σ', Fields (TyR deep) [f] [g] [x'] ∧ SOk σ' ∧ ∀ (ds ps : List PyData) (xs : List Str), ds.length ≤ 1000 → ps.length ≤ 1000 → xs.length ≤ 1000 →
    Sx C (k + 1) ⟨scopeOf 48, []⟩ (sLoc1 n ds ps xs deep spot) σ stBody (.next (sLoc (ds ++ [f]) (ps ++ [g]) (xs ++ [x']) deep spot) σ') := by
  obtain ⟨y, σ₁, ⟨d, p, x, rfl, hy⟩, h₁, t₁⟩ := hT σ hσ
  have hx : x.length ≤ 1000000 := Nat.le_trans (Nat.le_trans (TyR.len deep _ _ _ hy) (bnd_le deep (by omega))) (by decide)
  have pre : ∀ {ds ps : List PyData} {xs : List Str} {o : Out}, Sx C (k + 1) ⟨scopeOf 48, []⟩ ((Str.ofString "text", .dat (.str x)) :: (Str.ofString "plain", .dat p) :: (Str.ofString "told", .dat d) :: sLoc1 n ds ps xs deep spot) σ₁ (stBody.drop 1) o → Sx C (k + 1) ⟨scopeOf 48, []⟩ (sLoc1 n ds ps xs deep spot) σ stBody o := fun h => by
    conv in stBody => whnf
    with_reducible apply Sx.unp (avs := [.dat d, .dat p, .dat (.str x)]) (σ₁ := σ₁)
    · with_reducible apply Evm.of (ds := [d, p, .str x])
      · with_reducible apply Ev.fn (rs := [.src, .dat (.int deep)]) (σ₁ := σ)
        walk_at "m.run"
        exact t₁
        walk_at "m.run"
      walk_at "m.run"
    walk_at "m.run"
    exact h
  rcases ty_name hy with ⟨s, q, a, rfl, ha⟩ | ⟨a, r, rfl, hne⟩
  · obtain ⟨b, σ₂, hb, h₂, t₂⟩ := take_ok F 2 (by decide) (by decide) σ₁ h₁
    by_cases hb0 : b = 0
    · subst hb0
      refine ⟨_, _, _, σ₂, .emb (n := a) hy .nil, h₂, fun ds ps xs l1 l2 l3 => pre ?_⟩
      conv in (List.drop 1 _) => whnf
      with_reducible apply Sx.let (d := .bool true) (σ₁ := σ₂)
      · with_reducible apply Ev.boolOp
        with_reducible apply BoolV.andT
        walk_at "m.run"
        with_reducible apply BoolV.one
        with_reducible apply Ev.cmpr
        · with_reducible apply Ev.fn (rs := [.src, .dat (.int 2)])
          walk_at "m.run"
          exact t₂ k
          walk_at "m.run"
        walk_at "m.run"
      walk_at "m.run"
      with_reducible apply Sx.let (d := .str a) (σ₁ := σ₂)
      · with_reducible apply Ev.ifT
        with_reducible apply Ts.val
        walk_at "m.run"
      walk_at "m.run"
      exact st_tail (e := true) hx hn l1 l2 l3
    · have hb1 : b = 1 := by omega
      subst hb1
      refine ⟨_, _, _, σ₂, .nam hn hy .nil, h₂, fun ds ps xs l1 l2 l3 => pre ?_⟩
      conv in (List.drop 1 _) => whnf
      with_reducible apply Sx.let (d := .bool false) (σ₁ := σ₂)
      · with_reducible apply Ev.boolOp
        with_reducible apply BoolV.andT
        walk_at "m.run"
        with_reducible apply BoolV.one
        with_reducible apply Ev.cmpr
        · with_reducible apply Ev.fn (rs := [.src, .dat (.int 2)])
          walk_at "m.run"
          exact t₂ k
          walk_at "m.run"
        walk_at "m.run"
      walk_at "m.run"
      with_reducible apply Sx.let (d := .str n) (σ₁ := σ₂)
      · with_reducible apply Ev.ifF
        with_reducible apply Ts.val
        walk_at "m.run"
      walk_at "m.run"
      exact st_tail (e := false) hx hn l1 l2 l3
  · refine ⟨_, _, _, σ₁, .nam hn hy .nil, h₁, fun ds ps xs l1 l2 l3 => pre ?_⟩
    conv in (List.drop 1 _) => whnf
    with_reducible apply Sx.let (d := .bool false) (σ₁ := σ₁)
    · with_reducible apply Ev.boolOp
      with_reducible apply BoolV.andF
      walk_at "m.run"
      exact hne
      walk_at "m.run"
    walk_at "m.run"
    with_reducible apply Sx.let (d := .str n) (σ₁ := σ₁)
    · with_reducible apply Ev.ifF
      with_reducible apply Ts.val
      walk_at "m.run"
    walk_at "m.run"
    exact st_tail (e := false) hx hn l1 l2 l3
end
-- MB8
section
variable {C : Cx} {k : Nat} {fi : Fi} {ρ ρ' ρ₁ : Loc} {σ σ₁ σ₂ σ₃ : Int × Int} {R : Rel}
theorem Fields.app : ∀ {ds ps es qs : List PyData} {xs ys : List Str}, Fields R ds ps xs → Fields R es qs ys → Fields R (ds ++ es) (ps ++ qs) (xs ++ ys)
  | _, _, _, _, _, _, .nil, h => h
  | _, _, _, _, _, _, .emb a r, h => .emb a (r.app h)
  | _, _, _, _, _, _, .nam hn a r, h => .nam hn a (r.app h)
theorem st_loop (F : Facts C) {deep : Nat} (hd : deep ≤ 2) (hT : TypeOk C (k + 1) deep) (spot : Int) : ∀ (ns : List Str), (∀ n ∈ ns, n.length ≤ 10) → ns.length ≤ 10 → ∀ (σ : Int × Int), SOk σ → ∃ fs gs xs' σ', Fields (TyR deep) fs gs xs' ∧ fs.length = ns.length ∧ SOk σ' ∧ ∀ (ds ps : List PyData) (xs : List Str), ds.length + ns.length ≤ 500 → ps.length + ns.length ≤ 500 → xs.length + ns.length ≤ 500 →
    Fo C (k + 1) ⟨scopeOf 48, []⟩ (sLoc ds ps xs deep spot) σ (Str.ofString "name") stBody (ns.map .str) (.next (sLoc (ds ++ fs) (ps ++ gs) (xs ++ xs') deep spot) σ')
  | [], _, _, σ, hσ => ⟨[], [], [], σ, .nil, rfl, hσ, fun ds ps xs _ _ _ => by
      simp only [List.append_nil]
      exact Fo.nil⟩
  | n :: ns, hn, hl, σ, hσ => by
    obtain ⟨f, g, x', σ₁, hf, h₁, ht⟩ := st_turn (k := k) F (hn n (.head _)) hd hT spot σ hσ
    obtain ⟨fs, gs, xs', σ₂, hfs, hlen, h₂, hr⟩ := st_loop F hd hT spot ns (fun m hm => hn m (.tail _ hm)) (by simp only [List.length_cons] at hl; omega) σ₁ h₁
    refine ⟨f :: fs, g :: gs, x' :: xs', σ₂, hf.app hfs, by rw [List.length_cons, List.length_cons, hlen], h₂, fun ds ps xs a b c => ?_⟩
    simp only [List.length_cons] at a b c
    have hr' := hr (ds ++ [f]) (ps ++ [g]) (xs ++ [x']) (by rw [List.length_append]; simp; omega) (by rw [List.length_append]; simp; omega) (by rw [List.length_append]; simp; omega)
    rw [List.append_assoc, List.append_assoc, List.append_assoc] at hr'
    exact Fo.cons (.inl rfl) (ht ds ps xs (by omega) (by omega) (by omega)) hr'
theorem Evf.empty {pos : Pos} : Evf C k fi ρ σ (.List [] pos) [] σ := Evf.list Evs.nil
theorem Ev.three {kd : Nat} {pos : Pos} {e₁ e₂ e₃ : Expr} {a b c : List PyData} (h₁ : Evf C k fi ρ σ e₁ a σ₁) (h₂ : Evf C k fi ρ σ₁ e₂ b σ₂) (h₃ : Evf C k fi ρ σ₂ e₃ c σ₃) (n₁ : noStar e₁ = true) (n₂ : noStar e₂ = true) (n₃ : noStar e₃ = true) : Evm C k fi ρ σ (.Tuple [e₁, e₂, e₃] kd pos) [.box a, .box b, .box c] σ₃ :=
  Evm.tuple (EvI.bx h₁ (EvI.bx h₂ (EvI.bx h₃ EvI.nil n₃) n₂) n₁) (Nat.le_of_ble_eq_true rfl)
theorem Sx.loop {x : Str} {p pos : Pos} {iter : Expr} {body ss : List Stmt} {ds : List PyData} {o : Out} (he : Ev C k fi ρ σ iter (.dat (.list ds)) σ₁) (h : Fo C k fi ρ σ₁ x body ds (.next ρ₁ σ₂)) (hs : ∀ env x, foldedSetIterable iter env x = pure x) (hr : Sx C k fi ρ₁ σ₂ ss o) : Sx C k fi ρ σ (.For (.Name x p) iter body [] pos :: ss) o :=
  Sx.cons (Sx1.for he h hs) hr
theorem struct_ok (F : Facts C) {deep : Nat} (hd : deep ≤ 2) (hT : TypeOk C (k + 1) deep) : StructOk C (k + 2) deep := fun spot σ hσ => by
  obtain ⟨m, σ₁, hm, h₁, t₁⟩ := take_ok F 4 (by decide) (by decide) σ hσ
  have hns : ∀ n ∈ [Str.ofString "a", Str.ofString "b", Str.ofString "_"].take m, n.length ≤ 10 := fun n hn => by
    have := List.mem_of_mem_take hn
    simp only [List.mem_cons, List.not_mem_nil, or_false] at this
    rcases this with rfl | rfl | rfl <;> decide +kernel
  have hml : ([Str.ofString "a", Str.ofString "b", Str.ofString "_"].take m).length ≤ 3 := by rw [List.length_take]; exact Nat.min_le_right _ _
  obtain ⟨fs, gs, xs, σ₂, hf, hlen, h₂, hloop⟩ := st_loop (k := k) F hd hT spot _ hns (by omega) σ₁ h₁
  have hfl : fs.length ≤ 3 := by omega
  have hxl : xs.length ≤ 3 := by rw [hf.len₁.2]; exact hfl
  have hgl : gs.length ≤ 3 := by rw [hf.len₁.1]; exact hfl
  have hxx := Fields.len (TyR.len deep) hf
  have hb := bnd_le deep (by omega)
  have tx := total_le hxx
  have lx : xs.length * (bnd deep + 11) ≤ 3 * (bnd deep + 11) := Nat.mul_le_mul_right _ hxl
  have jx := join_len (Str.ofString "; ") xs
  rw [ln1] at jx
  refine ⟨_, σ₂, ⟨_, _, _, rfl, .struct (s := spot) hf hfl⟩, h₂, ?_⟩
  refine FnD.intro [] F.law_struct ?_
  conv in (bodyOf _) => whnf
  with_reducible apply Sx.swp [Str.ofString "fields", Str.ofString "bare", Str.ofString "texts"] (avs := [.box [], .box [], .box []]) (σ₁ := σ)
  · exact Ev.three Evf.empty Evf.empty Evf.empty rfl rfl rfl
  walk_at "m.run"
  · walk_at "m.env"
  with_reducible apply Sx.loop (ds := ([Str.ofString "a", Str.ofString "b", Str.ofString "_"].take m).map .str) (σ₁ := σ₁) (ρ₁ := sLoc ([] ++ fs) ([] ++ gs) ([] ++ xs) deep spot) (σ₂ := σ₂)
  · rw [List.map_take]
    with_reducible apply Evf.ev
    with_reducible apply Evf.upto
    · with_reducible apply Evf.ev
      with_reducible apply Evf.lst
      walk_at "m.run"
    · exact LstOf.dat _
    · with_reducible apply Ev.fn (rs := [.src, .dat (.int 4)])
      walk_at "m.run"
      exact t₁ k
      walk_at "m.run"
    walk_at "m.run"
  · refine Fo.sub ?_ (hloop [] [] [] (by show 0 + _ ≤ _; omega) (by show 0 + _ ≤ _; omega) (by show 0 + _ ≤ _; omega))
    exact .cons rfl (.cons rfl (.cons rfl (.cons rfl (.cons rfl (.cons rfl .nil)))))
  walk_at "m.run"
  rw [List.nil_append, List.nil_append, List.nil_append]
  with_reducible apply Sx.let (d := .str (braces (Str.ofString "struct") xs)) (σ₁ := σ₂)
  · cases xs with
    | nil =>
      rw [show braces (Str.ofString "struct") [] = Str.ofString "struct{}" from by decide +kernel]
      with_reducible apply Ev.ifT
      all_goals walk_at "m.run"
    | cons x r =>
      rw [show braces (Str.ofString "struct") (x :: r) = (Str.ofString "struct { " ++ Txt.join (Str.ofString "; ") (x :: r)) ++ Str.ofString " }" from by
        show Str.ofString "struct" ++ ((Str.ofString " { " ++ Txt.join (Str.ofString "; ") (x :: r)) ++ Str.ofString " }") = _
        rw [← app_assoc, ← app_assoc]; rfl]
      with_reducible apply Ev.ifF
      walk_at "m.run"
      · with_reducible apply Ev.jn (ys := x :: r)
        walk_at "m.run"
        · rw [ln1]; show total (x :: r) + _ ≤ _
          omega
        all_goals walk_at "m.run"
      all_goals walk_at "m.run"
  walk_at "m.run"
  with_reducible apply Sx.return
  with_reducible apply Ev.tupl
  · apply Evs.con
    · with_reducible apply Ev.tupl
      · apply Evs.con
        walk_at "m.run"
        · with_reducible apply Ev.tupC
          walk_at "m.run"
        walk_at "m.run"
      walk_at "m.run"
    · apply Evs.con
      · with_reducible apply Ev.tupl
        · apply Evs.con
          walk_at "m.run"
          · with_reducible apply Ev.tupC
            walk_at "m.run"
          walk_at "m.run"
        walk_at "m.run"
      · walk_at "m.run"
      walk_at "m.run"
    walk_at "m.run"
  walk_at "m.run"
end
-- MC1
section
variable {prog : Program} {w : World} {A : Around} {R : Result → Shared → Prop} {s : Shared} {elt t1 i1 t2 i2 : Expr} {scope : Scope} {pos : Pos} {it acc : Value} {env : Env}
noncomputable abbrev two (elt t1 i1 t2 i2 : Expr) (scope : Scope) (pos : Pos) : Expr := .ListComp elt [⟨t1, i1, [], 0⟩, ⟨t2, i2, [], 0⟩] scope pos
theorem compTurn_two1 : compTurn (two elt t1 i1 t2 i2 scope pos) 1 it acc env = (do
      standAt i2.pos
      match ← pyNext it with
      | none => pure (.done .next)
      | some v =>
        letOwnedTupleGo t2 it v
        assign t2 env v
        let mut ok := true
        for c in ([] : List Expr) do
          if ok then ok ← isTrue c env (eval c env)
        if ok then
          (do let _ ← call (.builtin "list.append") [acc, ← eval elt env])
        again (.compLoop (two elt t1 i1 t2 i2 scope pos) 1 it acc env)) := by rfl
theorem compTurn_two0 : compTurn (two elt t1 i1 t2 i2 scope pos) 0 it acc env = (do
      standAt i1.pos
      match ← pyNext it with
      | none => pure (.done .next)
      | some v =>
        letOwnedTupleGo t1 it v
        assign t1 env v
        let mut ok := true
        for c in ([] : List Expr) do
          if ok then ok ← isTrue c env (eval c env)
        if ok then
          let x ← eval i2 env
          standAt i2.pos
          let x ← foldedSetIterable i2 env x
          let _ ← runOwn (.compStart (two elt t1 i1 t2 i2 scope pos) 1 (← holding [x] (pyIter x)) acc env) env
        again (.compLoop (two elt t1 i1 t2 i2 scope pos) 0 it acc env)) := by rfl
theorem two1_turn
    (h : wpAny (model prog w) A (pyNext it) (fun r s₁ => match r with
      | none => R (.ok .next) s₁
      | some v => wpAny (model prog w) A (letOwnedTupleGo t2 it v) (fun _ s₁' => wpAny (model prog w) A (assign t2 env v) (fun _ s₂ =>
          wpAny (model prog w) A (forIn ([] : List Expr) true fun c r => if r = true then do let ok ← isTrue c env (eval c env); pure (ForInStep.yield ok) else pure (ForInStep.yield r)) (fun ok s₃ =>
            if ok = true then wpAny (model prog w) A (eval elt env) (fun x s₄ =>
              wpAny (model prog w) A (call (.builtin "list.append") [acc, x]) (fun _ s₅ => codeAny (model prog w) A (.compLoop (two elt t1 i1 t2 i2 scope pos) 1 it acc env) R s₅) (notedBy (model prog w) A env fun e s' => R (.error e) s') s₄) (notedBy (model prog w) A env fun e s' => R (.error e) s') s₃
            else codeAny (model prog w) A (.compLoop (two elt t1 i1 t2 i2 scope pos) 1 it acc env) R s₃) (notedBy (model prog w) A env fun e s' => R (.error e) s') s₂) (notedBy (model prog w) A env fun e s' => R (.error e) s') s₁') (notedBy (model prog w) A env fun e s' => R (.error e) s') s₁) (notedBy (model prog w) A env fun e s' => R (.error e) s') s) :
    codeAny (model prog w) A (.compLoop (two elt t1 i1 t2 i2 scope pos) 1 it acc env) R s := by
  refine codeAny_of_tree ?_
  show wpAny _ A ((compTurn (two elt t1 i1 t2 i2 scope pos) 1 it acc env).onRaise (fun x => do noteFrame x env; theTreesLotGoes x)) _ _ s
  refine wpAny_noted ?_
  rw [compTurn_two1]
  refine wpAny_bind (wpAny_standAt (wpAny_bind (wpAny_mono h (fun r s₁ h₁ => ?_) fun _ _ h' => h')))
  cases r with
  | none => exact wpAny_pure h₁
  | some v =>
    refine wpAny_bind (wpAny_mono h₁ (fun _ s₁' h₁' => ?_) fun _ _ h' => h')
    refine wpAny_bind (wpAny_mono h₁' (fun _ s₂ h₂ => wpAny_bind (wpAny_mono h₂ (fun ok s₃ h₃ => ?_) fun _ _ h' => h')) fun _ _ h' => h')
    cases ok with
    | false => exact wpAny_pure ⟨rfl, h₃⟩
    | true =>
      exact wpAny_bind (wpAny_bind (wpAny_mono h₃ (fun x s₄ h₄ => wpAny_bind (wpAny_mono h₄ (fun _ s₅ h₅ => wpAny_pure (wpAny_pure ⟨rfl, h₅⟩)) fun _ _ h' => h')) fun _ _ h' => h'))
theorem two1_item
    (h : wpAny (model prog w) A (pyNext it) (fun r s₁ => ∃ v, r = some v ∧ wpAny (model prog w) A (letOwnedTupleGo t2 it v) (fun _ s₁' => (fun v s₁' => wpAny (model prog w) A (assign t2 env v) (fun _ s₂ =>
          wpAny (model prog w) A (forIn ([] : List Expr) true fun c r => if r = true then do let ok ← isTrue c env (eval c env); pure (ForInStep.yield ok) else pure (ForInStep.yield r)) (fun ok s₃ =>
            if ok = true then wpAny (model prog w) A (eval elt env) (fun x s₄ =>
              wpAny (model prog w) A (call (.builtin "list.append") [acc, x]) (fun _ s₅ => codeAny (model prog w) A (.compLoop (two elt t1 i1 t2 i2 scope pos) 1 it acc env) R s₅) (notedBy (model prog w) A env fun e s' => R (.error e) s') s₄) (notedBy (model prog w) A env fun e s' => R (.error e) s') s₃
            else codeAny (model prog w) A (.compLoop (two elt t1 i1 t2 i2 scope pos) 1 it acc env) R s₃) (notedBy (model prog w) A env fun e s' => R (.error e) s') s₂) (notedBy (model prog w) A env fun e s' => R (.error e) s') s₁') v s₁') (notedBy (model prog w) A env fun e s' => R (.error e) s') s₁) (notedBy (model prog w) A env fun e s' => R (.error e) s') s) :
    codeAny (model prog w) A (.compLoop (two elt t1 i1 t2 i2 scope pos) 1 it acc env) R s := by
  refine two1_turn (wpAny_mono h (fun r s₁ hr => ?_) fun _ _ e => e)
  obtain ⟨v, rfl, hv⟩ := hr
  exact hv
theorem two0_item (hs : ∀ x, foldedSetIterable i2 env x = pure x)
    (h : wpAny (model prog w) A (pyNext it) (fun r s₁ => ∃ v, r = some v ∧ wpAny (model prog w) A (letOwnedTupleGo t1 it v) (fun _ s₁' => (fun v s₁' => wpAny (model prog w) A (assign t1 env v) (fun _ s₂ =>
          wpAny (model prog w) A (eval i2 env) (fun x s₃ => wpAny (model prog w) A (pyIter x) (fun it2 s₄ =>
            codeAny (model prog w) A (.compStart (two elt t1 i1 t2 i2 scope pos) 1 it2 acc env) (fun r s' => match r with
              | .ok _ => codeAny (model prog w) A (.compLoop (two elt t1 i1 t2 i2 scope pos) 0 it acc env) R s'
              | .error e => cameBackBy (model prog w) A env (notedBy (model prog w) A env fun e s' => R (.error e) s') e s') s₄) (notedBy (model prog w) A env fun e s' => R (.error e) s') s₃) (notedBy (model prog w) A env fun e s' => R (.error e) s') s₂) (notedBy (model prog w) A env fun e s' => R (.error e) s') s₁') v s₁') (notedBy (model prog w) A env fun e s' => R (.error e) s') s₁) (notedBy (model prog w) A env fun e s' => R (.error e) s') s) :
    codeAny (model prog w) A (.compLoop (two elt t1 i1 t2 i2 scope pos) 0 it acc env) R s := by
  refine codeAny_of_tree ?_
  show wpAny _ A ((compTurn (two elt t1 i1 t2 i2 scope pos) 0 it acc env).onRaise (fun x => do noteFrame x env; theTreesLotGoes x)) _ _ s
  refine wpAny_noted ?_
  rw [compTurn_two0]
  refine wpAny_bind (wpAny_standAt (wpAny_bind (wpAny_mono h (fun r s₁ h₁ => ?_) fun _ _ h' => h')))
  obtain ⟨v, rfl, h₁⟩ := h₁
  refine wpAny_bind (wpAny_mono h₁ (fun _ s₁' h₁' => ?_) fun _ _ h' => h')
  refine wpAny_bind (wpAny_mono h₁' (fun _ s₂ h₂ => wpAny_bind (wpAny_tests_nil ?_)) fun _ _ h' => h')
  refine wpAny_bind (wpAny_mono h₂ (fun x s₃ h₃ => wpAny_bind (wpAny_standAt (wpAny_bind (wpAny_of_eq (hs x) (wpAny_bind (wpAny_holding (wpAny_mono h₃ (fun it2 s₄ h₄ => ?_) fun _ _ e => e))))))) fun _ _ e => e)
  refine wpAny_bind (wpAny_runOwn (codeAny_mono h₄ fun r s' hr => ?_))
  cases r with
  | ok g => exact wpAny_pure ⟨rfl, hr⟩
  | error e => exact hr
theorem two0_done (h : wpAny (model prog w) A (pyNext it) (fun r s₁ => r = none ∧ R (.ok .next) s₁) (notedBy (model prog w) A env fun e s' => R (.error e) s') s) : codeAny (model prog w) A (.compLoop (two elt t1 i1 t2 i2 scope pos) 0 it acc env) R s := by
  refine codeAny_of_tree ?_
  show wpAny _ A ((compTurn (two elt t1 i1 t2 i2 scope pos) 0 it acc env).onRaise (fun x => do noteFrame x env; theTreesLotGoes x)) _ _ s
  refine wpAny_noted ?_
  rw [compTurn_two0]
  refine wpAny_bind (wpAny_standAt (wpAny_bind (wpAny_mono h (fun r s₁ h₁ => ?_) fun _ _ h' => h')))
  obtain ⟨rfl, h₁⟩ := h₁
  exact wpAny_pure h₁
theorem start0 (h0 : codeAny (model prog w) A (.compLoop (two elt t1 i1 t2 i2 scope pos) 0 it acc env) R s) (h : wpAny (model prog w) A (pyIter it) (fun it' s' => codeAny (model prog w) A (.compLoop (two elt t1 i1 t2 i2 scope pos) 0 it' acc env) R s') (notedBy (model prog w) A env fun x s' => R (.error x) s') s) :
    codeAny (model prog w) A (.compStart (two elt t1 i1 t2 i2 scope pos) 0 it acc env) R s := codeAny_compStart_list h0 h
theorem start1 (h0 : codeAny (model prog w) A (.compLoop (two elt t1 i1 t2 i2 scope pos) 1 it acc env) R s) (h : wpAny (model prog w) A (pyIter it) (fun it' s' => codeAny (model prog w) A (.compLoop (two elt t1 i1 t2 i2 scope pos) 1 it' acc env) R s') (notedBy (model prog w) A env fun x s' => R (.error x) s') s) :
    codeAny (model prog w) A (.compStart (two elt t1 i1 t2 i2 scope pos) 1 it acc env) R s := by
  refine codeAny_of_tree ?_
  show wpAny _ _ ((compStart (two elt t1 i1 t2 i2 scope pos) 1 it acc env).onRaise (fun x => do noteFrame x env; standAt theWindowsPlace)) _ _ s
  refine wpAny_notedAt ?_
  unfold compStart
  show wpAny _ _ (ask >>= _) _ _ s
  refine wpAny_bind (wpAny_askSetting (wpAny_ite ?_))
  split
  · first
      | exact wpAny_bind (wpAny_pure (wpAny_pure (And.intro rfl h0)))
      | exact wpAny_pure (And.intro rfl h0)
  · refine wpAny_bind (wpAny_rule ?_)
    show wpAny _ _ (standAt i2.pos >>= _) _ _ s
    exact wpAny_bind (wpAny_standAt (wpAny_bind (wpAny_mono h (fun it' s' h' => wpAny_pure (And.intro rfl h')) fun _ _ x => x)))
end
-- MC2
section
variable {C : Cx} {k : Nat} {fi : Fi} {ρ ρ' ρ₁ ρ₂ : Loc} {σ σ₁ σ₂ σ₃ : Int × Int}
noncomputable def Off1 (C : Cx) (f : Frm) (t : Tgt) (wr : List Addr) (D b : Addr) : Prop := b ∉ wr ∧ b ≠ D ∧ Apart f.env t.names b ∧ (C.on = true → b ≠ C.S)
theorem still {P P₁ P₂ : PH} {h h₂ : Heap} {b : Addr} {o o' : Obj} (n : P b = none) (e : h.get? b = some o) (f₁ : ∀ o, P₁ b = some o → P b = some o ∨ h.get? b = none) (f₂ : ∀ o, P₂ b = some o → P₁ b = some o ∨ h₂.get? b = none) (e₂ : h₂.get? b = some o') : P₂ b = none := by
  cases q : P₂ b with
  | none => rfl
  | some x =>
    rcases f₂ x q with q | q
    · rcases f₁ x q with q | q
      · rw [n] at q; cases q
      · rw [e] at q; cases q
    · rw [e₂] at q; cases q
set_option maxHeartbeats 1000000 in
theorem compRun1 {t : Tgt} {te elt t1 i1 i2 : Expr} {scope : Scope} {pos : Pos} (hte : TgtE t te) (hk : ∀ x ∈ t.names, Storable fi x) (hf : ∀ x ∈ t.names, ρ.lookup x = none) (nb : NoBox ρ) {σ σ' : Int × Int} {ds ys : List PyData} (hc : Ct C k fi ρ elt [] t σ ds ys σ') :
    ∀ (f : Frm) (A : Around) (s : Shared) (P : PH) (μ : Str → Option Value) (R : Result → Shared → Prop) (I D : Addr) (fp wr : List Addr) (P₀ : PH) (all : List PyData) (S : Nat → Heap → Prop) (i : Nat) (pre : List PyData) (vs : List Value) (n : Nat),
      AOk A k → St C fi f σ P μ ρ s.heap → Iter C A te I fp wr P₀ all S → PLe P₀ P → (∀ b ∈ wr, P b = none) → S i s.heap → all.drop i = ds → i ≤ all.length → s.heap.get? D = some (lstO vs n) → Reps P vs pre → P D = none → D ∉ fp → (C.on = true → C.S ∉ fp) → (C.on = true → C.S ≠ D) →
      (f.env.locals ∉ fp) → (∀ x c, f.env.cells.lookup x = some c → c ∉ fp) → f.hs.get? D = none → f.env.locals ≠ D → (∀ x c, f.env.cells.lookup x = some c → c ≠ D) → (∀ b ∈ wr, f.hs.get? b = none) → pre.length + ds.length ≤ 100000 →
      (∀ h' tk P' μ' vs' n', PLe P P' → St C fi f σ' P' μ' ρ h' → h'.get? D = some (lstO vs' n') → Reps P' vs' (pre ++ ys) → P' D = none → (∀ b o, Off1 C f t wr D b → s.heap.get? b = some o → h'.get? b = some o ∧ (P b = none → P' b = none)) → R (.ok .next) { s with heap := h', toks := tk }) →
      codeAny (model C.prog C.w) A (.compLoop (two elt t1 i1 te i2 scope pos) 1 (.ref I) (.ref D) f.env) R s := by
  induction hc with
  | nil =>
    intro f A s P μ R I D fp wr P₀ all S i pre vs n hA hS it le wP hSi hd hi hD rD nP nfp nSfp nSD nL nC nF nLD nCD wF _ q
    have e : i = all.length := by
      have := congrArg List.length hd
      simp at this
      omega
    refine two1_turn (it.done s _ _ (e ▸ hSi) fun h' tk keep => ?_)
    have wfp : ∀ b, b ∉ fp → b ∉ wr := fun b h h' => h (it.sub b h')
    have hS' := hS.pull nb (PLe.refl P) (fun _ _ e => .inl e) (fun a o e => keep a o (fun hw => by rw [wP a hw] at e; cases e) (hS.B.stay a o e)) keep wF (wfp _ nL) (fun x c hc => wfp _ (nC x c hc)) (fun o => wfp _ (nSfp o))
    exact q h' tk P μ vs n (PLe.refl P) hS' (keep _ _ (wfp _ nfp) hD) (by simpa using rD) nP (fun b o hb e => ⟨keep b o hb.1 e, id⟩)
  | @cons σ σ₁ σ₂ σ₃ d y ds ys b hb hi he hr ih =>
    intro f A s P μ R I D fp wr P₀ all S i pre vs n hA hS it le wP hSi hd hil hD rD nP nfp nSfp nSD nL nC nF nLD nCD wF hsz q
    obtain ⟨hx, hd'⟩ := drop_cons hd
    have wfp : ∀ b, b ∉ fp → b ∉ wr := fun b h h' => h (it.sub b h')
    have i1 : i + 1 ≤ all.length := by
      have := (List.getElem?_eq_some_iff.mp hx).1
      omega
    refine two1_item (it.item i d s P _ _ hx hSi le hS.B.stay wP fun v h₁ t₁ P₁ rv le₁ fr₁ st₁ wP₁ hSi₁ keep₁ => ?_)
    have S₁ := hS.pull nb le₁ fr₁ st₁ keep₁ wF (wfp _ nL) (fun x c hc => wfp _ (nC x c hc)) (fun o => wfp _ (nSfp o))
    have D₁ := keep₁ _ _ (wfp _ nfp) hD
    have nP₁ : P₁ D = none := by
      cases q : P₁ D with
      | none => rfl
      | some o =>
        rcases fr₁ D o q with q' | q'
        · rw [nP] at q'; cases q'
        · rw [hD] at q'; cases q'
    refine assignTgt (s := { s with heap := h₁, toks := t₁ }) hte hb hA S₁ hk rv fun h₂ t₂ μ₂ S₂ keep₂ => ?_
    have apart : ∀ b ∈ fp, Apart f.env t.names b := fun b hb => ⟨fun e => nL (e ▸ hb), fun x _ c hc e => nC x c hc (e ▸ hb)⟩
    have apD : Apart f.env t.names D := ⟨fun e => nLD e.symm, fun x _ c hc e => nCD x c hc e.symm⟩
    refine hi.run f A { s with heap := h₂, toks := t₂ } P₁ μ₂ _ _ hA S₂ fun h₃ t₃ P₃ c₃ b₃ => ?_
    have S₃ := S₂.after c₃ b₃
    rw [if_pos rfl]
    refine he.run f A { s with heap := h₃, toks := t₃ } P₃ μ₂ _ _ hA S₃ fun z h₄ t₄ P₄ c₄ b₄ rz => ?_
    have S₄ := S₃.after c₄ b₄
    have c₃₄ := c₃.trans c₄
    have notS : ∀ a, a ∈ fp → C.on = true → a ≠ C.S := fun a h o e => nSfp o (e ▸ h)
    have D₄ : h₄.get? D = some (lstO vs n) := c₃₄.keep _ _ (fun o e => nSD o e.symm) (keep₂ _ _ apD D₁)
    have nP₄ : P₄ D = none := by
      cases q : P₄ D with
      | none => rfl
      | some o =>
        rcases c₃₄.fresh D o q with q' | q'
        · rw [nP₁] at q'; cases q'
        · rw [show h₂.get? D = _ from keep₂ _ _ apD D₁] at q'; cases q'
    have e1 := rD.length
    refine wpAny_list_append_plain (hsz := by rw [List.size_toArray, e1, sizeLine_eq]; omega) (l := D) (items := vs.toArray) ⟨n, D₄⟩ fun h₅ hl₅ hs₅ => ?_
    obtain ⟨n₅, hl₅⟩ := hl₅
    have hl₅' : h₅.get? D = some (lstO (vs ++ [z]) n₅) := by rw [hl₅]; simp [lstO]
    have S₅ := (S₄.poke (nb.binds hb) hs₅ nP₄ nF nSD nLD nCD).sub (binds_sub hb hf)
    have hSi₄ : S (i + 1) h₅ := it.frame _ _ _ (it.frame _ _ _ hSi₁ fun b hb o e => c₃₄.keep b o (notS b hb) (keep₂ b o (apart b hb) e)) fun b hb o e => (hs₅.2 b (fun e' => nfp (e' ▸ hb))).trans e
    have le₄ : PLe P P₄ := (le₁.trans c₃.le).trans c₄.le
    have hw₄ : ∀ b ∈ wr, P₄ b = none := fun b hb => by
      cases q : P₄ b with
      | none => rfl
      | some o =>
        have q₁ : h₁.get? b = none ∨ P₁ b = some o := by
          rcases c₃₄.fresh b o q with q' | q'
          · exact .inr q'
          · cases q₂ : h₁.get? b with
            | none => exact .inl rfl
            | some o' => rw [show h₂.get? b = _ from keep₂ b o' (apart b (it.sub b hb)) q₂] at q'; cases q'
        rcases q₁ with q₁ | q₁
        · obtain ⟨o', e'⟩ := it.live _ _ hSi₁ b hb
          rw [q₁] at e'; cases e'
        · rw [wP₁ b hb] at q₁; cases q₁
    refine ih f A { s with heap := h₅, toks := t₄ } P₄ μ₂ R I D fp wr P₀ all S (i + 1) (pre ++ [y]) (vs ++ [z]) n₅ hA S₅ it (le.trans le₄) hw₄ hSi₄ hd' i1 hl₅' ((Reps.mono le₄ rD).app (.cons rz .nil)) nP₄ nfp nSfp nSD nL nC nF nLD nCD wF (by rw [List.length_append, List.length_singleton]; rw [List.length_cons] at hsz; omega) fun h' tk P' μ' vs' n' le' S' D' r' nP' k' => ?_
    exact q h' tk P' μ' vs' n' (le₄.trans le') S' D' (by simpa using r') nP' (fun b o hb e => (k' b o hb ((hs₅.2 b hb.2.1).trans (c₃₄.keep b o hb.2.2.2 (keep₂ b o hb.2.2.1 (keep₁ b o hb.1 e))))).imp id fun z n => z (still n e (fr₁ b) (c₃₄.fresh b) (keep₂ b o hb.2.2.1 (keep₁ b o hb.1 e))))
  | @skip σ σ₁ σ₃ d ds ys b hb hi hr ih =>
    intro f A s P μ R I D fp wr P₀ all S i pre vs n hA hS it le wP hSi hd hil hD rD nP nfp nSfp nSD nL nC nF nLD nCD wF hsz q
    obtain ⟨hx, hd'⟩ := drop_cons hd
    have wfp : ∀ b, b ∉ fp → b ∉ wr := fun b h h' => h (it.sub b h')
    have i1 : i + 1 ≤ all.length := by
      have := (List.getElem?_eq_some_iff.mp hx).1
      omega
    refine two1_item (it.item i d s P _ _ hx hSi le hS.B.stay wP fun v h₁ t₁ P₁ rv le₁ fr₁ st₁ wP₁ hSi₁ keep₁ => ?_)
    have S₁ := hS.pull nb le₁ fr₁ st₁ keep₁ wF (wfp _ nL) (fun x c hc => wfp _ (nC x c hc)) (fun o => wfp _ (nSfp o))
    have D₁ := keep₁ _ _ (wfp _ nfp) hD
    have nP₁ : P₁ D = none := by
      cases q : P₁ D with
      | none => rfl
      | some o =>
        rcases fr₁ D o q with q' | q'
        · rw [nP] at q'; cases q'
        · rw [hD] at q'; cases q'
    refine assignTgt (s := { s with heap := h₁, toks := t₁ }) hte hb hA S₁ hk rv fun h₂ t₂ μ₂ S₂ keep₂ => ?_
    have apart : ∀ b ∈ fp, Apart f.env t.names b := fun b hb => ⟨fun e => nL (e ▸ hb), fun x _ c hc e => nC x c hc (e ▸ hb)⟩
    have apD : Apart f.env t.names D := ⟨fun e => nLD e.symm, fun x _ c hc e => nCD x c hc e.symm⟩
    refine hi.run f A { s with heap := h₂, toks := t₂ } P₁ μ₂ _ _ hA S₂ fun h₃ t₃ P₃ c₃ b₃ => ?_
    have S₃ := (S₂.after c₃ b₃).sub (binds_sub hb hf)
    rw [if_neg Bool.false_ne_true]
    have notS : ∀ a, a ∈ fp → C.on = true → a ≠ C.S := fun a h o e => nSfp o (e ▸ h)
    have D₃ : h₃.get? D = some (lstO vs n) := c₃.keep _ _ (fun o e => nSD o e.symm) (keep₂ _ _ apD D₁)
    have nP₃ : P₃ D = none := by
      cases q : P₃ D with
      | none => rfl
      | some o =>
        rcases c₃.fresh D o q with q' | q'
        · rw [nP₁] at q'; cases q'
        · rw [show h₂.get? D = _ from keep₂ _ _ apD D₁] at q'; cases q'
    have hSi₃ : S (i + 1) h₃ := it.frame _ _ _ hSi₁ fun b hb o e => c₃.keep b o (notS b hb) (keep₂ b o (apart b hb) e)
    have le₃ : PLe P P₃ := le₁.trans c₃.le
    have hw₃ : ∀ b ∈ wr, P₃ b = none := fun b hb => by
      cases q : P₃ b with
      | none => rfl
      | some o =>
        have q₁ : h₁.get? b = none ∨ P₁ b = some o := by
          rcases c₃.fresh b o q with q' | q'
          · exact .inr q'
          · cases q₂ : h₁.get? b with
            | none => exact .inl rfl
            | some o' => rw [show h₂.get? b = _ from keep₂ b o' (apart b (it.sub b hb)) q₂] at q'; cases q'
        rcases q₁ with q₁ | q₁
        · obtain ⟨o', e'⟩ := it.live _ _ hSi₁ b hb
          rw [q₁] at e'; cases e'
        · rw [wP₁ b hb] at q₁; cases q₁
    refine ih f A { s with heap := h₃, toks := t₃ } P₃ μ₂ R I D fp wr P₀ all S (i + 1) pre vs n hA S₃ it (le.trans le₃) hw₃ hSi₃ hd' i1 D₃ (Reps.mono le₃ rD) nP₃ nfp nSfp nSD nL nC nF nLD nCD wF (by rw [List.length_cons] at hsz; omega) fun h' tk P' μ' vs' n' le' S' D' r' nP' k' => ?_
    exact q h' tk P' μ' vs' n' (le₃.trans le') S' D' r' nP' (fun b o hb e => (k' b o hb (c₃.keep b o hb.2.2.2 (keep₂ b o hb.2.2.1 (keep₁ b o hb.1 e)))).imp id fun z n => z (still n e (fr₁ b) (c₃.fresh b) (keep₂ b o hb.2.2.1 (keep₁ b o hb.1 e))))
inductive Ct2 (C : Cx) (k : Nat) (fi : Fi) (ρ : Loc) (elt i2 : Expr) (t u : Tgt) : Int × Int → List PyData → List PyData → Int × Int → Prop
  | nil {σ : Int × Int} : Ct2 C k fi ρ elt i2 t u σ [] [] σ
  | cons {σ σ₁ σ₂ σ₃ : Int × Int} {d : PyData} {ds es ys zs : List PyData} {b : Loc} (hb : t.binds d = some b) (he : Ev C k fi (b ++ ρ) σ i2 (.dat (.list es)) σ₁) (hc : Ct C k fi (b ++ ρ) elt [] u σ₁ es ys σ₂) (hl : es.length ≤ 100) (hy : ys.length ≤ 100) (hr : Ct2 C k fi ρ elt i2 t u σ₂ ds zs σ₃) : Ct2 C k fi ρ elt i2 t u σ (d :: ds) (ys ++ zs) σ₃
set_option maxHeartbeats 2000000 in
theorem compRun2 {t u : Tgt} {te ue elt i1 i2 : Expr} {scope : Scope} {pos : Pos} (hte : TgtE t te) (hue : TgtE u ue) (hk : ∀ x ∈ t.names, Storable fi x) (hku : ∀ x ∈ u.names, Storable fi x) (hf : ∀ x ∈ t.names, ρ.lookup x = none) (hfu : ∀ d b, t.binds d = some b → ∀ x ∈ u.names, List.lookup x (b ++ ρ) = none) (nb : NoBox ρ) (hfs : ∀ env x, foldedSetIterable i2 env x = pure x) {σ σ' : Int × Int} {ds ys : List PyData} (hc : Ct2 C k fi ρ elt i2 t u σ ds ys σ') :
    ∀ (f : Frm) (A : Around) (s : Shared) (P : PH) (μ : Str → Option Value) (R : Result → Shared → Prop) (I D : Addr) (fp wr : List Addr) (P₀ : PH) (all : List PyData) (S : Nat → Heap → Prop) (i : Nat) (pre : List PyData) (vs : List Value) (n : Nat),
      AOk A k → St C fi f σ P μ ρ s.heap → Iter C A te I fp wr P₀ all S → PLe P₀ P → (∀ b ∈ wr, P b = none) → S i s.heap → all.drop i = ds → i ≤ all.length → s.heap.get? D = some (lstO vs n) → Reps P vs pre → P D = none → D ∉ fp → (C.on = true → C.S ∉ fp) → (C.on = true → C.S ≠ D) →
      (f.env.locals ∉ fp) → (∀ x c, f.env.cells.lookup x = some c → c ∉ fp) → f.hs.get? D = none → f.env.locals ≠ D → (∀ x c, f.env.cells.lookup x = some c → c ≠ D) → (∀ b ∈ wr, f.hs.get? b = none) → pre.length + 100 * ds.length ≤ 50000 → (∀ b ∈ fp, ∃ o, s.heap.get? b = some o) →
      (∀ h' tk P' μ' vs' n', PLe P P' → St C fi f σ' P' μ' ρ h' → h'.get? D = some (lstO vs' n') → Reps P' vs' (pre ++ ys) → P' D = none → R (.ok .next) { s with heap := h', toks := tk }) →
      codeAny (model C.prog C.w) A (.compLoop (two elt te i1 ue i2 scope pos) 0 (.ref I) (.ref D) f.env) R s := by
  induction hc with
  | nil =>
    intro f A s P μ R I D fp wr P₀ all S i pre vs n hA hS it le wP hSi hd hi hD rD nP nfp nSfp nSD nL nC nF nLD nCD wF _ _ q
    have e : i = all.length := by
      have := congrArg List.length hd
      simp at this
      omega
    refine two0_done (it.done s _ _ (e ▸ hSi) fun h' tk keep => ⟨rfl, ?_⟩)
    have wfp : ∀ b, b ∉ fp → b ∉ wr := fun b h h' => h (it.sub b h')
    have hS' := hS.pull nb (PLe.refl P) (fun _ _ e => .inl e) (fun a o e => keep a o (fun hw => by rw [wP a hw] at e; cases e) (hS.B.stay a o e)) keep wF (wfp _ nL) (fun x c hc => wfp _ (nC x c hc)) (fun o => wfp _ (nSfp o))
    exact q h' tk P μ vs n (PLe.refl P) hS' (keep _ _ (wfp _ nfp) hD) (by simpa using rD) nP
  | @cons σ σ₁ σ₂ σ₃ d ds es ys zs b hb he hc hl hy hr ih =>
    intro f A s P μ R I D fp wr P₀ all S i pre vs n hA hS it le wP hSi hd hil hD rD nP nfp nSfp nSD nL nC nF nLD nCD wF hsz hex q
    obtain ⟨hx, hd'⟩ := drop_cons hd
    have wfp : ∀ b, b ∉ fp → b ∉ wr := fun b h h' => h (it.sub b h')
    have i1' : i + 1 ≤ all.length := by
      have := (List.getElem?_eq_some_iff.mp hx).1
      omega
    refine two0_item (hfs f.env) (it.item i d s P _ _ hx hSi le hS.B.stay wP fun v h₁ t₁ P₁ rv le₁ fr₁ st₁ wP₁ hSi₁ keep₁ => ?_)
    have S₁ := hS.pull nb le₁ fr₁ st₁ keep₁ wF (wfp _ nL) (fun x c hc => wfp _ (nC x c hc)) (fun o => wfp _ (nSfp o))
    have D₁ := keep₁ _ _ (wfp _ nfp) hD
    have nP₁ : P₁ D = none := by
      cases q : P₁ D with
      | none => rfl
      | some o =>
        rcases fr₁ D o q with q' | q'
        · rw [nP] at q'; cases q'
        · rw [hD] at q'; cases q'
    refine assignTgt (s := { s with heap := h₁, toks := t₁ }) hte hb hA S₁ hk rv fun h₂ t₂ μ₂ S₂ keep₂ => ?_
    have apart : ∀ b ∈ fp, Apart f.env t.names b := fun b hb => ⟨fun e => nL (e ▸ hb), fun x _ c hc e => nC x c hc (e ▸ hb)⟩
    have apartU : ∀ b ∈ fp, Apart f.env u.names b := fun b hb => ⟨fun e => nL (e ▸ hb), fun x _ c hc e => nC x c hc (e ▸ hb)⟩
    have apD : Apart f.env t.names D := ⟨fun e => nLD e.symm, fun x _ c hc e => nCD x c hc e.symm⟩
    have ex₁ : ∀ b ∈ fp, ∃ o, h₁.get? b = some o := fun b hb => by
      by_cases hw : b ∈ wr
      · exact it.live _ _ hSi₁ b hw
      · obtain ⟨o, ho⟩ := hex b hb
        exact ⟨o, keep₁ b o hw ho⟩
    refine he.run f A { s with heap := h₂, toks := t₂ } P₁ μ₂ _ _ hA S₂ fun x h₃ t₃ P₃ c₃ b₃ r₃ => ?_
    have S₃ := S₂.after c₃ b₃
    cases r₃ with
    | lst hp rs =>
    rename_i ax us m
    have hlx := b₃.stay _ _ hp
    have itx : h₃.IsList ax us.toArray := ⟨_, hlx, rfl, m, rfl⟩
    have D₃ : h₃.get? D = some (lstO vs n) := c₃.keep _ _ (fun o e => nSD o e.symm) (keep₂ _ _ apD D₁)
    have nP₃ : P₃ D = none := by
      cases q : P₃ D with
      | none => rfl
      | some o =>
        rcases c₃.fresh D o q with q' | q'
        · rw [nP₁] at q'; cases q'
        · rw [show h₂.get? D = _ from keep₂ _ _ apD D₁] at q'; cases q'
    have k₄ : ∀ b o, h₃.get? b = some o → (h₃.push { cls := .type "list_iterator", data := .fields #[.ref ax, .int 0 0] }).get? b = some o := fun _ _ e => Heap.get?_push_of_some _ e
    have S₄ := S₃.after (CStep.ext k₄) (b₃.ext k₄)
    have nI := fresh_size h₃
    have nw := S₃.apartNew nI
    have sq := S₃.apartSeq hlx ⟨_, _, rfl⟩
    have axS : C.on = true → C.S ≠ ax := by rintro o rfl; rw [(b₃.src o).1] at hp; cases hp
    have axD : ax ≠ D := by rintro rfl; rw [nP₃] at hp; cases hp
    have ID : h₃.objs.size ≠ D := by rintro e; rw [e, D₃] at nI; cases nI
    have nFI : f.hs.get? h₃.objs.size = none := old_none S₃.fr nI
    refine wpAny_pyIter_list (s := { s with heap := h₃, toks := t₃ }) itx ?_
    have notS : ∀ a, a ∈ fp → C.on = true → a ≠ C.S := fun a h o e => nSfp o (e ▸ h)
    have run := compRun1 (t1 := te) (i1 := i1) (i2 := i2) (scope := scope) (pos := pos) hue hku (hfu d b hb) (nb.binds hb) hc f A { s with heap := h₃.push { cls := .type "list_iterator", data := .fields #[.ref ax, .int 0 0] }, toks := t₃ } P₃ μ₂
      (fun r s' => match r with
        | .ok _ => codeAny (model C.prog C.w) A (.compLoop (two elt te i1 ue i2 scope pos) 0 (.ref I) (.ref D) f.env) R s'
        | .error e => cameBackBy (model C.prog C.w) A f.env (notedBy (model C.prog C.w) A f.env fun e s' => R (.error e) s') e s')
      h₃.objs.size D [h₃.objs.size, ax] [h₃.objs.size] P₃ es _ 0 pre vs n hA S₄ (Iter.list hA.1 hue (Nat.ne_of_lt (Heap.lt_size hlx)) rs) (PLe.refl _) (fun b hb => by simp only [List.mem_cons, List.not_mem_nil, or_false] at hb; subst hb; exact none_of_size b₃ nI)
      ⟨⟨_, Heap.get?_push_size _ rfl, rfl, rfl⟩, itx.push _⟩ rfl (Nat.zero_le _) (k₄ _ _ D₃) (Reps.mono (le₁.trans c₃.le) rD) nP₃ (fun hm => by simp only [List.mem_cons, List.not_mem_nil, or_false] at hm; rcases hm with e | e; exact ID e.symm; exact axD e.symm)
      (fun o hm => by simp only [List.mem_cons, List.not_mem_nil, or_false] at hm; rcases hm with e | e; exact nw.2.2 o e; exact axS o e) nSD
      (fun hm => by simp only [List.mem_cons, List.not_mem_nil, or_false] at hm; rcases hm with e | e; exact nw.1 e; exact sq.1 e)
      (fun x c hc hm => by simp only [List.mem_cons, List.not_mem_nil, or_false] at hm; rcases hm with e | e; exact nw.2.1 x c hc e; exact sq.2 x c hc e)
      nF nLD nCD (fun b hb => by simp only [List.mem_cons, List.not_mem_nil, or_false] at hb; subst hb; exact nFI) (by omega) fun h' tk P' μ' vs' n' le' S' D' r' nP' k' => ?_
    · exact start1 run (wpAny_pyIter_listiter ⟨_, Heap.get?_push_size _ rfl, rfl, rfl⟩ run)
    · show codeAny _ _ _ R _
      have off : ∀ b ∈ fp, Off1 C f u [h₃.objs.size] D b := fun b hb => by
        refine ⟨fun hm => ?_, fun e => nfp (e ▸ hb), apartU b hb, notS b hb⟩
        simp only [List.mem_cons, List.not_mem_nil, or_false] at hm
        obtain ⟨o, ho⟩ := ex₁ b hb
        have := c₃.keep b o (notS b hb) (keep₂ b o (apart b hb) ho)
        rw [hm, nI] at this; cases this
      have step : ∀ b ∈ fp, ∀ o, h₁.get? b = some o → h'.get? b = some o := fun b hb o e => (k' b o (off b hb) (k₄ b o (c₃.keep b o (notS b hb) (keep₂ b o (apart b hb) e)))).1
      have hw' : ∀ b ∈ wr, P' b = none := fun b hb => by
        obtain ⟨o', ho'⟩ := ex₁ b (it.sub b hb)
        have e₃ := c₃.keep b o' (notS b (it.sub b hb)) (keep₂ b o' (apart b (it.sub b hb)) ho')
        exact (k' b o' (off b (it.sub b hb)) (k₄ b o' e₃)).2 (still (wP₁ b hb) ho' (fun _ e => .inl e) (c₃.fresh b) (keep₂ b o' (apart b (it.sub b hb)) ho'))
      refine ih f A { s with heap := h', toks := tk } P' μ' R I D fp wr P₀ all S (i + 1) (pre ++ ys) vs' n' hA (S'.sub (binds_sub hb hf)) it (le.trans ((le₁.trans c₃.le).trans le')) hw' (it.frame _ _ _ hSi₁ step) hd' i1' D' r' nP' nfp nSfp nSD nL nC nF nLD nCD wF (by rw [List.length_append]; rw [List.length_cons] at hsz; omega) (fun b hb => let ⟨o, ho⟩ := ex₁ b hb; ⟨o, step b hb o ho⟩) fun h'' tk' P'' μ'' vs'' n'' le'' S'' D'' r'' nP'' => ?_
      exact q h'' tk' P'' μ'' vs'' n'' ((le₁.trans c₃.le).trans (le'.trans le'')) S'' D'' (by simpa using r'') nP''
end
-- MC3
theorem cellsFrom_acc : ∀ (names : List (Str × NameKind)) (n : Nat) (acc : List (Str × Addr)), cellsFrom n names acc = cellsFrom n names [] ++ acc
  | [], _, _ => rfl
  | (x, kd) :: r, n, acc => by
    unfold cellsFrom
    split
    · rw [cellsFrom_acc r (n + 1) ((x, n) :: acc), cellsFrom_acc r (n + 1) [(x, n)], List.append_assoc]; rfl
    · exact cellsFrom_acc r n acc
theorem newComp {M : Model} {A : Around} {E : Value → Shared → Prop} {s : Shared} {scope : Scope} {globals : Addr} {cl : List (Str × Addr)} {qual : Str} {env : Env} {Q : Env → Shared → Prop}
    (h : Q { scope, locals := s.heap.objs.size, globals, cells := cellsFrom (s.heap.objs.size + 1) scope.names cl, qual, func := none, code := env.code, frame := env.frame, builtins := env.builtins } { s with heap := pushCells (s.heap.push { cls := .type "dict", data := .dict #[] }) scope.names }) :
    wpAny M A (newFunctionEnv scope globals cl [] qual none .none (some env)) Q E s := by
  simp only [newFunctionEnv, Option.isSome_some, if_true]
  refine wpAny_bind (wpAny_alloc ?_)
  refine wpAny_bind (wpAny_layCells _ (fun name kind cells => by cases hkc : kind == NameKind.cell <;> simp [hkc]) _ _ _ _ ?_)
  rw [show ({ s with heap := s.heap.push { cls := .type "dict", data := .dict #[] } } : Shared).heap.objs.size = s.heap.objs.size + 1 from Heap.size_push ..]
  exact wpAny_bind (wpAny_pure (wpAny_pure h))
noncomputable def cfi2 (scope : Scope) (fi : Fi) (own : List Str) : Fi := ⟨relabelS scope fi.sc, own⟩
section
variable {C : Cx} {k : Nat} {fi : Fi} {ρ ρ' ρ₁ ρ₂ : Loc} {σ σ₁ σ₂ σ₃ : Int × Int}
structure EvIt2 (C : Cx) (k : Nat) (fi : Fi) (ρ : Loc) (σ : Int × Int) (te e : Expr) (ds : List PyData) (σ' : Int × Int) : Prop where
  run : ∀ (f : Frm) (A : Around) (s : Shared) (P : PH) (μ : Str → Option Value) (E : Value → Shared → Prop) (Q : Value → Shared → Prop), AOk A k → St C fi f σ P μ ρ s.heap →
    (∀ I fp wr S h' tk P', CStep C P s.heap P' h' → Base C σ' P' h' → Iter C A te I fp wr P' ds S → S 0 h' → (∀ b ∈ fp, b < h'.objs.size) → (∀ b ∈ wr, s.heap.get? b = none ∧ P' b = none) → (C.on = true → C.S ∉ fp) → f.env.locals ∉ fp → (∀ x c, f.env.cells.lookup x = some c → c ∉ fp) → (∀ b ∈ fp, ∃ o, h'.get? b = some o) → Q (.ref I) { s with heap := h', toks := tk }) →
    wpAny (model C.prog C.w) A (eval e f.env) (fun x s₁ => wpAny (model C.prog C.w) A (pyIter x) Q E s₁) E s
theorem EvIt2.range {x : Str} {p₀ p pos : Pos} {e : Expr} {n : Nat} (he : Ev C k fi ρ σ e (.dat (.int n)) σ₁) (hn : n ≤ 100000) (hx : fi.sc.names.lookup (Str.ofString "range") = some .globalImplicit) (hs : noStar e = true := by rfl) :
    EvIt2 C k fi ρ σ (.Name x p₀) (.Call (.Name (Str.ofString "range") p) [e] [] pos) (upTo n) σ₁ := .mk <| fun f A s P μ E Q hA hS q =>
  callT1 he hA hS hx (by decide) boot_range hs (by decide) (by decide) fun v h₁ t₁ P₁ c₁ b₁ hS₁ r₁ => by
    cases r₁
    rename_i tn
    refine call_range_1 ?_
    have k₁ : ∀ o b o', h₁.get? b = some o' → (h₁.push o).get? b = some o' := fun _ _ _ e => Heap.get?_push_of_some _ e
    have c₂ := CStep.ext (C := C) (P := P₁) (k₁ { cls := .type "range", data := .fields #[.int 0 t₁, .int n tn, .int 1 (t₁ + 1)] })
    have b₂ := b₁.ext (k₁ { cls := .type "range", data := .fields #[.int 0 t₁, .int n tn, .int 1 (t₁ + 1)] })
    have hS₂ := hS₁.after c₂ b₂
    refine wpAny_pyIter_range (IsRange.new ..) (small_one (by omega) (by omega) (by omega) (by omega)) ?_
    have hz : Builtin.Range.rangeSize 0 (n : Int) 1 = n := by rw [rangeSize_one]; split <;> omega
    rw [hz]
    dsimp only
    generalize h₁.push { cls := .type "range", dict := none, data := .fields #[.int 0 t₁, .int n tn, .int 1 (t₁ + 1)], slots := #[] } = h₂ at *
    have k₂ : ∀ b o, h₂.get? b = some o → (h₂.push { cls := .type "range_iterator", data := .fields #[rawInt 0, rawInt n, rawInt 1] }).get? b = some o := fun _ _ e => Heap.get?_push_of_some _ e
    have nw := hS₂.apartNew (fresh_size h₂)
    refine q h₂.objs.size [h₂.objs.size] [h₂.objs.size] _ _ _ P₁ ((c₁.trans c₂).trans (CStep.ext k₂)) (b₂.ext k₂) (Iter.range hA.1) ?_ (fun b hb => ?_) (fun b hb => ?_) (fun o hm => ?_) (fun hm => ?_) (fun x c hc hm => ?_) fun b hb => ?_
    · have : IsRangeIter (h₂.push { cls := .type "range_iterator", data := .fields #[rawInt 0, rawInt n, rawInt 1] }) h₂.objs.size 0 n 1 := Heap.get?_push_size _ rfl
      simpa using this
    · simp only [List.mem_cons, List.not_mem_nil, or_false] at hb
      subst hb; rw [Heap.size_push]; exact Nat.lt_succ_self _
    · simp only [List.mem_cons, List.not_mem_nil, or_false] at hb
      subst hb
      exact ⟨old_none (c₁.trans c₂) (fresh_size h₂), none_of_size b₂ (fresh_size h₂)⟩
    · simp only [List.mem_cons, List.not_mem_nil, or_false] at hm
      exact nw.2.2 o hm
    · simp only [List.mem_cons, List.not_mem_nil, or_false] at hm
      exact nw.1 hm
    · simp only [List.mem_cons, List.not_mem_nil, or_false] at hm
      exact nw.2.1 x c hc hm
    · simp only [List.mem_cons, List.not_mem_nil, or_false] at hb
      subst hb
      exact ⟨_, Heap.get?_push_size _ rfl⟩
set_option maxHeartbeats 1000000 in
theorem compCore2 {t u : Tgt} {te ue elt iter i2 : Expr} {own : List Str} {scope : Scope} {pos : Pos} {ds ys : List PyData} (hte : TgtE t te) (hi : EvIt2 C k fi ρ σ te iter ds σ₁) (hue : TgtE u ue) (hc : Ct2 C k (cfi2 scope fi own) ρ' elt i2 t u σ₁ ds ys σ₂) (hsub : SubF scope ρ' ρ)
    (hn : okNames scope.names = true) (hown : (own.all fun x => scope.names.lookup x == some .cell) = true) (hfr : freesOk fi ρ scope.names = true) (hkind : scope.kind = .function) (ht : (t.names.all fun x => own.contains x) = true) (hu : (u.names.all fun x => scope.names.lookup x == some .local) = true) (hfu : ∀ d b, t.binds d = some b → ∀ x ∈ u.names, List.lookup x (b ++ ρ') = none) (hfs : ∀ env x, foldedSetIterable i2 env x = pure x) (hlen : ds.length ≤ 400)
    {f : Frm} {A : Around} {s : Shared} {P : PH} {μ : Str → Option Value} {E : Value → Shared → Prop} {RR : Value → Addr → Result → Shared → Prop} (hA : AOk A k) (hS : St C fi f σ P μ ρ s.heap)
    (hRR : ∀ D Cc h' tk P' vs n m', CStep C P s.heap P' h' → Base C σ₂ P' h' → s.heap.get? D = none → P' D = none → h'.get? D = some (lstO vs n) → Reps P' vs ys → h'.Ns Cc m' → s.heap.get? Cc = none → P' Cc = none → D ≠ Cc → RR (.ref D) Cc (.ok .next) { s with heap := h', toks := tk }) :
    wpAny (model C.prog C.w) A (eval iter f.env) (fun x s₁ => wpAny (model C.prog C.w) A (pyIter x) (fun it s₂ => wpAny (model C.prog C.w) A (newList []) (fun acc s₃ =>
      wpAny (model C.prog C.w) A (newFunctionEnv scope f.env.globals (clOf f.env.cells scope.names []) [] f.env.qual none .none (some f.env)) (fun cenv s₄ =>
        codeAny (model C.prog C.w) A (.compStart (two elt te iter ue i2 scope pos) 0 it acc { cenv with scope := relabel scope f.env }) (RR acc cenv.locals) s₄) E s₃) E s₂) E s₁) E s := by
  refine hi.run f A s P μ E _ hA hS fun I fp wr S h₂ t₂ P₂ c₂ b₂ it hSi hfp hwr nSfp nLfp nCfp hex => ?_
  have hS₂ := hS.after c₂ b₂
  refine wpAny_newObj_type (newComp (s := { s with heap := h₂.push { cls := .type "list", data := .seq ([] : List Value).toArray }, toks := t₂ }) ?_)
  dsimp only
  generalize hH2 : h₂.push { cls := .type "list", dict := none, data := .seq ([] : List Value).toArray } = H2
  have hC : H2.objs.size = h₂.objs.size + 1 := by rw [← hH2, Heap.size_push]
  have below : ∀ b, b < h₂.objs.size → b ≠ H2.objs.size ∧ b ≠ h₂.objs.size := fun b hb => ⟨by rw [hC]; exact Nat.ne_of_lt (Nat.lt_succ_of_lt hb), Nat.ne_of_lt hb⟩
  have hDC : h₂.objs.size ≠ H2.objs.size := by rw [hC]; exact Nat.ne_of_lt (Nat.lt_succ_self _)
  have hns₁ : (pushCells (H2.push { cls := .type "dict", data := .dict #[] }) scope.names).Ns H2.objs.size (fun _ => none) := (Heap.Ns.new H2 (.type "dict")).keeps (pushCells_keeps _ _)
  have old : ∀ b o, h₂.get? b = some o → (pushCells (H2.push { cls := .type "dict", data := .dict #[] }) scope.names).get? b = some o := fun b o e => pushCells_keeps _ _ b o (Heap.get?_push_of_some _ (hH2 ▸ Heap.get?_push_of_some _ e))
  have hacc : (pushCells (H2.push { cls := .type "dict", data := .dict #[] }) scope.names).get? h₂.objs.size = some (lstO [] 0) := pushCells_keeps _ _ _ _ (Heap.get?_push_of_some _ (hH2 ▸ Heap.get?_push_size _ rfl))
  have okc := cellsFrom_ok scope.names (H2.push { cls := .type "dict", data := .dict #[] }) (H2.objs.size + 1) [] ⟨fun _ _ hm => (nomatch hm), List.Pairwise.nil⟩ (by rw [Heap.size_push]; exact Nat.le_refl _)
  rw [Heap.size_push] at okc
  generalize pushCells (H2.push { cls := .type "dict", data := .dict #[] }) scope.names = h₁ at hns₁ old hacc okc ⊢
  have nD := fresh_size h₂
  have nCc : h₂.get? H2.objs.size = none := by
    cases e : h₂.get? H2.objs.size with
    | none => rfl
    | some o => have := Heap.lt_size e; rw [hC] at this; exact absurd this (Nat.not_lt.mpr (Nat.le_succ _))
  have hcl : ∀ x, (x, NameKind.free) ∈ scope.names → ∃ c, f.env.cells.lookup x = some c := fun x hx => by
    have := List.all_eq_true.mp hfr _ hx
    simp only [bne_self_eq_false, Bool.false_or, Bool.and_eq_true, Option.isSome_iff_exists, bne_iff_ne, ne_eq] at this
    obtain ⟨⟨av, hav⟩, hne⟩ := this
    obtain ⟨kx, _⟩ := hS.vars x av hav
    rcases kx with kx | ⟨_, c, hc⟩
    · exact absurd (by unfold Env.kindOf at kx; rw [hS.sc] at kx; exact kx) hne
    · exact ⟨c, hc⟩
  have hcl' : ∀ x c, (clOf f.env.cells scope.names []).lookup x = some c → f.env.cells.lookup x = some c ∧ (x, NameKind.free) ∈ scope.names := fun x c hx => by
    rcases clOf_mem (lookup_mem hx) with h | ⟨h, e⟩
    · cases h
    · obtain ⟨c', hc'⟩ := hcl x h
      dsimp only at e
      rw [hc'] at e
      exact ⟨by rw [hc', e]; rfl, h⟩
  have hcl₂ : ∀ x c, f.env.cells.lookup x = some c → (x, NameKind.free) ∈ scope.names → (clOf f.env.cells scope.names []).lookup x = some c := fun x c hx hm => by
    cases e : (clOf f.env.cells scope.names []).lookup x with
    | none =>
      obtain ⟨a, ha⟩ := clOf_has (cells := f.env.cells) (acc := []) (.inr hm)
      exact absurd e (by
        have : ∀ l : List (Str × Addr), (∃ a, (x, a) ∈ l) → l.lookup x ≠ none := fun l => by
          induction l with
          | nil => rintro ⟨a, h⟩; cases h
          | cons p r ih =>
            rintro ⟨a, h⟩
            obtain ⟨n, b⟩ := p
            by_cases q : x = n
            · subst q; rw [List.lookup_cons, beq_self_eq_true]; simp
            · rw [List.lookup_cons, beq_eq_false_iff_ne.mpr q]
              rcases List.mem_cons.mp h with h | h
              · cases h; exact absurd rfl q
              · exact ih ⟨a, h⟩
        exact this _ ⟨a, ha⟩)
    | some c' => rw [← hx, (hcl' x c' e).1]
  have freeKind : ∀ x, (x, NameKind.free) ∈ scope.names → (relabelS scope fi.sc).names.lookup x = some .free ∨ (relabelS scope fi.sc).names.lookup x = some .cell := fun x hx => (relabel_kind (okNames.at hn hx)).imp id fun h => h.2
  let cenv : Env := { scope := relabel scope f.env, locals := H2.objs.size, globals := f.env.globals, cells := cellsFrom (H2.objs.size + 1) scope.names (clOf f.env.cells scope.names []), qual := f.env.qual, func := none, code := f.env.code, frame := f.env.frame, builtins := f.env.builtins }
  let f' : Frm := ⟨cenv, s.heap, P⟩
  have hsc : cenv.scope = (cfi2 scope fi own).sc := by show relabel scope f.env = relabelS scope fi.sc; rw [relabelS_eq, hS.sc]
  have kd : ∀ x, cenv.kindOf x = (relabelS scope fi.sc).names.lookup x := fun x => by unfold Env.kindOf; rw [hsc]; rfl
  let μ' : Str → Option Value := fun x => if (relabelS scope fi.sc).names.lookup x = some .local then none else if scope.names.lookup x = some .cell then none else μ x
  have c₁ : CStep C P₂ h₂ P₂ h₁ := CStep.ext old
  have b₁ : Base C σ₁ P₂ h₁ := b₂.ext old
  have hS₁ := hS₂.after c₁ b₁
  have nC1 : ∀ c, H2.objs.size + 1 ≤ c → h₂.get? c = none := fun c hc => by
    cases e : h₂.get? c with
    | none => rfl
    | some o => exact absurd (Nat.lt_of_lt_of_le (Heap.lt_size e) (Nat.le_trans (show h₂.objs.size ≤ H2.objs.size + 1 by omega) hc)) (Nat.lt_irrefl _)
  have cellAt : ∀ x c, cenv.cells.lookup x = some c → ((x, c) ∈ cellsFrom (H2.objs.size + 1) scope.names [] ∧ scope.names.lookup x = some .cell ∧ h₁.IsCell c none ∧ H2.objs.size + 1 ≤ c) ∨ (f.env.cells.lookup x = some c ∧ (x, NameKind.free) ∈ scope.names) := fun x c hx => by
    have hx : (cellsFrom (H2.objs.size + 1) scope.names (clOf f.env.cells scope.names [])).lookup x = some c := hx
    rw [cellsFrom_acc, List.lookup_append] at hx
    cases e : (cellsFrom (H2.objs.size + 1) scope.names []).lookup x with
    | some c' =>
      rw [e] at hx
      cases hx
      have hm := lookup_mem e
      obtain ⟨g1, g2⟩ := okc.empty x c hm
      rcases cellsFrom_mem hm with h | ⟨h, _⟩
      · cases h
      · exact .inl ⟨hm, okNames.at hn h, g1, g2⟩
    | none =>
      rw [e] at hx
      exact .inr (hcl' x c hx)
  have freeNot : ∀ x, (x, NameKind.free) ∈ scope.names → scope.names.lookup x ≠ some .cell := fun x hx e => by rw [okNames.at hn hx] at e; cases e
  have cellKind : ∀ x, scope.names.lookup x = some .cell → (relabelS scope fi.sc).names.lookup x = some .cell := fun x hx => by
    rcases relabel_kind (sc := fi.sc) hx with h | ⟨h, _⟩
    · exact h
    · cases h
  have look : ∀ x c, f.env.cells.lookup x = some c → (x, NameKind.free) ∈ scope.names → cenv.cells.lookup x = some c := fun x c hx hm => by
    show (cellsFrom (H2.objs.size + 1) scope.names (clOf f.env.cells scope.names [])).lookup x = some c
    rw [cellsFrom_acc, List.lookup_append]
    cases e : (cellsFrom (H2.objs.size + 1) scope.names []).lookup x with
    | some c' =>
      rcases cellsFrom_mem (lookup_mem e) with h | ⟨h, _⟩
      · cases h
      · exact absurd (okNames.at hn h) (freeNot x hm)
    | none => exact hcl₂ x c hx hm
  have S' : St C (cfi2 scope fi own) f' σ₁ P₂ μ' ρ' h₁ := by
    refine ⟨b₁, hsc, hkind, hS.glob, hS.blt, ⟨_, hns₁, fun x hx => ?_⟩, none_of_size b₂ nCc, old_none c₂ nCc, fun x c hx => ?_, fun x y c hx hy => ?_, fun x hx => ?_, fun x av hx => ?_, fun x y ds es v hx _ _ _ => ?_, c₂.trans c₁⟩
    · have : (relabelS scope fi.sc).names.lookup x = some .local := (kd x) ▸ hx
      show none = if _ then none else _
      rw [if_pos this]
    · rcases cellAt x c hx with ⟨_, h1, h2, h3⟩ | ⟨h1, h2⟩
      · have nl : (relabelS scope fi.sc).names.lookup x ≠ some .local := by rw [cellKind x h1]; simp
        refine ⟨none_of_size b₂ (nC1 c h3), fun h => nl ((kd x) ▸ h), ?_⟩
        show h₁.IsCell c (if _ then none else if _ then none else μ x)
        rw [if_neg nl, if_pos h1]; exact h2
      · obtain ⟨g1, g2, g3⟩ := hS₁.cell x c h1
        have nl : (relabelS scope fi.sc).names.lookup x ≠ some .local := by rcases freeKind x h2 with h | h <;> rw [h] <;> simp
        refine ⟨g1, fun h => nl ((kd x) ▸ h), ?_⟩
        show h₁.IsCell c (if _ then none else if _ then none else μ x)
        rw [if_neg nl, if_neg (freeNot x h2)]; exact g3
    · have oldc : ∀ {x c}, f.env.cells.lookup x = some c → H2.objs.size + 1 ≤ c → False := fun {x c} h h' => by
        obtain ⟨oc, hoc, _⟩ := (hS₂.cell x c h).2.2
        rw [nC1 c h'] at hoc; cases hoc
      rcases cellAt x c hx with ⟨m1, _, _, h3⟩ | ⟨h1, _⟩ <;> rcases cellAt y c hy with ⟨m2, _, _, h3'⟩ | ⟨h1', _⟩
      · exact name_of_addr okc.apart m1 m2
      · exact (oldc h1' h3).elim
      · exact (oldc h1 h3').elim
      · exact hS₁.capart x y c h1 h1'
    · have := List.all_eq_true.mp hown x hx
      have hk : scope.names.lookup x = some .cell := by simpa using this
      obtain ⟨a, ha⟩ := cellsFrom_has (names := scope.names) (n := H2.objs.size + 1) (acc := []) (.inr (lookup_mem hk))
      obtain ⟨c, hc⟩ := mem_lookup ha
      refine ⟨c, ?_, old_none c₂ (nC1 c (okc.empty x c (lookup_mem hc)).2)⟩
      show (cellsFrom (H2.objs.size + 1) scope.names (clOf f.env.cells scope.names [])).lookup x = some c
      rw [cellsFrom_acc, List.lookup_append, hc]; rfl
    · obtain ⟨g1, g2, g3⟩ := hsub x av hx
      have hm := lookup_mem g1
      obtain ⟨_, v, hv, hok⟩ := hS₁.vars x av g2
      obtain ⟨c, hc⟩ := hcl x hm
      have nl : (relabelS scope fi.sc).names.lookup x ≠ some .local := by rcases freeKind x hm with h | h <;> rw [h] <;> simp
      refine ⟨.inr ⟨by rw [kd x]; exact (freeKind x hm).symm, c, look x c hc hm⟩, v, ?_, ?_⟩
      · show (if _ then none else if _ then none else μ x) = _
        rw [if_neg nl, if_neg (freeNot x hm)]; exact hv
      · cases av with
        | dat d => exact hok
        | src => exact hok
        | scr ns => exact hok
        | box ds => cases g3
    · have := (hsub x _ hx).2.2
      cases this
  have nb : NoBox ρ' := fun x ds e => by
    have := (hsub x _ e).2.2
    cases this
  have htn : ∀ x ∈ t.names, scope.names.lookup x = some .cell ∧ x ∈ own := fun x hx => by
    have h1 := List.all_eq_true.mp ht x hx
    have h1 : x ∈ own := by simpa using h1
    have h2 := List.all_eq_true.mp hown x h1
    exact ⟨by simpa using h2, h1⟩
  have hk' : ∀ x ∈ t.names, Storable (cfi2 scope fi own) x := fun x hx => .inr ⟨cellKind x (htn x hx).1, (htn x hx).2⟩
  have hun : ∀ x ∈ u.names, Storable (cfi2 scope fi own) x := fun x hx => by
    have := List.all_eq_true.mp hu x hx
    have h : scope.names.lookup x = some .local := by simpa using this
    rcases relabel_kind (sc := fi.sc) h with h | ⟨h, _⟩
    · exact .inl h
    · cases h
  have hfρ : ∀ x ∈ t.names, ρ'.lookup x = none := fun x hx => by
    cases e : ρ'.lookup x with
    | none => rfl
    | some av => have := (hsub x av e).1; rw [(htn x hx).1] at this; cases this
  have loop : codeAny (model C.prog C.w) A (.compLoop (two elt te iter ue i2 scope pos) 0 (.ref I) (.ref h₂.objs.size) f'.env) (RR (.ref h₂.objs.size) H2.objs.size) { s with heap := h₁, toks := t₂ } := by
    have cellsOff : ∀ x c, f'.env.cells.lookup x = some c → c ∉ fp ∧ c ≠ h₂.objs.size := fun x c hx => by
      rcases cellAt x c hx with ⟨_, _, _, h3⟩ | ⟨h1, _⟩
      · refine ⟨fun hm => ?_, fun e => ?_⟩
        · exact absurd (Nat.lt_of_lt_of_le (hfp c hm) (Nat.le_trans (show h₂.objs.size ≤ H2.objs.size + 1 by omega) h3)) (Nat.lt_irrefl _)
        · have h3' : H2.objs.size + 1 ≤ h₂.objs.size := e ▸ h3
          omega
      · exact ⟨nCfp x c h1, (hS₂.apartNew nD).2.1 x c h1⟩
    refine compRun2 hte hue hk' hun hfρ hfu nb hfs hc f' A { s with heap := h₁, toks := t₂ } P₂ μ' _ I h₂.objs.size fp wr P₂ ds S 0 [] [] 0 hA S' it (PLe.refl _) (fun b hb => (hwr b hb).2) (it.frame _ _ _ hSi fun b _ o e => old b o e) rfl (Nat.zero_le _) hacc .nil (none_of_size b₂ nD)
      (fun hm => (below _ (hfp _ hm)).2 rfl) nSfp (fun o => (hS₂.apartNew nD).2.2 o) (fun hm => (below _ (hfp _ hm)).1 rfl) (fun x c hx hm => (cellsOff x c hx).1 hm) (old_none c₂ nD) (Ne.symm hDC) (fun x c hx => (cellsOff x c hx).2) (fun b hb => (hwr b hb).1) (by show 0 + 100 * ds.length ≤ 50000; omega) (fun b hb => ?_) fun h' tk P' μ'' vs n le' S'' hD r' nP' => ?_
    · obtain ⟨o, ho⟩ := hex b hb
      exact ⟨o, old b o ho⟩
    · obtain ⟨m', hn', _⟩ := S''.ns
      exact hRR _ _ h' tk P' vs n m' S''.fr S''.B (old_none c₂ nD) nP' hD (by simpa using r') hn' (old_none c₂ nCc) S''.nsP hDC
  exact start0 loop (it.self 0 _ _ _ (it.frame _ _ _ hSi fun b _ o e => old b o e) loop)
end
-- MC4
section
variable {C : Cx} {k : Nat} {fi : Fi} {ρ ρ' ρ₁ ρ₂ : Loc} {σ σ₁ σ₂ σ₃ : Int × Int}
theorem Evf.two {t u : Tgt} {te ue elt iter i2 : Expr} {own : List Str} {scope : Scope} {pos : Pos} {ds ys : List PyData} (hte : TgtE t te) (hi : EvIt2 C k fi ρ σ te iter ds σ₁) (hue : TgtE u ue) (hsub : SubF scope ρ' ρ) (hc : Ct2 C k (cfi2 scope fi own) ρ' elt i2 t u σ₁ ds ys σ₂)
    (hlen : ds.length ≤ 400) (hn : okNames scope.names = true) (hown : (own.all fun x => scope.names.lookup x == some .cell) = true) (hfr : freesOk fi ρ scope.names = true) (hkind : scope.kind = .function) (ht : (t.names.all fun x => own.contains x) = true) (hu : (u.names.all fun x => scope.names.lookup x == some .local) = true) (hfu : ∀ d b, t.binds d = some b → ∀ x ∈ u.names, List.lookup x (b ++ ρ') = none) (hfs : ∀ env x, foldedSetIterable i2 env x = pure x)
    (hs : ∀ env x, foldedSetIterable iter env x = pure x) : Evf C k fi ρ σ (Mine.two elt te iter ue i2 scope pos) ys σ₂ := .mk <| fun f A s P μ E Q hA hS q => by
  show wpAny _ A (comprehension (Mine.two elt te iter ue i2 scope pos) scope f.env _ (newList []) false (eval iter f.env)) _ _ s
  refine wpAny_comprehension_free (use := none) rfl (hs f.env) (hS.closure hfr) hkind (okNames.locals hn) (compCore2 hte hi hue hc hsub hn hown hfr hkind ht hu hfu hfs hlen hA hS fun D Cc h' tk P' vs n m' c b nD nP' hD r hn' nC nPC hDC => ?_)
  refine ⟨m', hn', fun h'' hs'' => ?_⟩
  have nS : C.on = true → C.S ≠ Cc := fun o => (hS.apartNew nC).2.2 o
  obtain ⟨b₂, c₂⟩ := Mine.poke (f := ⟨f.env, s.heap, P⟩) b c nPC nC nS hs''
  exact q D vs n h'' tk P' c₂ b₂ nD nP' ((hs''.2 D hDC).trans hD) r
theorem Sx1.assignTwo {x : Str} {px spos : Pos} {t u : Tgt} {te ue elt iter i2 : Expr} {own : List Str} {scope : Scope} {pos : Pos} {ds ys : List PyData} (hte : TgtE t te) (hi : EvIt2 C k fi ρ σ te iter ds σ₁) (hue : TgtE u ue) (hsub : SubF scope ρ' ρ) (hc : Ct2 C k (cfi2 scope fi own) ρ' elt i2 t u σ₁ ds ys σ₂)
    (hlen : ds.length ≤ 400) (hx : fi.sc.names.lookup x = some .local) (hsw : ∀ env : Env, env.scope = fi.sc → swapsWith (Mine.two elt te iter ue i2 scope pos) (some (.Name x px)) spos.line env = pure true)
    (hn : okNames scope.names = true) (hown : (own.all fun x => scope.names.lookup x == some .cell) = true) (hfr : freesOk fi ρ scope.names = true) (hkind : scope.kind = .function) (ht : (t.names.all fun x => own.contains x) = true) (hu : (u.names.all fun x => scope.names.lookup x == some .local) = true) (hfu : ∀ d b, t.binds d = some b → ∀ x ∈ u.names, List.lookup x (b ++ ρ') = none) (hfs : ∀ env x, foldedSetIterable i2 env x = pure x)
    (hs : ∀ env x, foldedSetIterable iter env x = pure x) : Sx1 C k fi ρ σ (.Assign [.Name x px] (Mine.two elt te iter ue i2 scope pos) spos) (.next ((x, .box ys) :: ρ) σ₂) := .mk <| fun f A s P μ E Q hA hS q => by
  rw [exec_Assign_Name_used _ _ _ _ (hsw f.env hS.sc)]
  refine wpAny_bind (wpAny_standAt (wpAny_bind ?_))
  show wpAny _ A (do let _ ← comprehension (Mine.two elt te iter ue i2 scope pos) scope f.env _ (newList []) false (eval iter f.env) (some (PySem.assign (.Name x px) f.env))) _ _ s
  refine wpAny_bind (wpAny_mono (wpAny_comprehension_free (use := some (PySem.assign (.Name x px) f.env)) (Q := fun _ s' => Q .next s') rfl (hs f.env) (hS.closure hfr) hkind (okNames.locals hn)
    (compCore2 hte hi hue hc hsub hn hown hfr hkind ht hu hfu hfs hlen hA hS fun D Cc h' tk P' vs n m' c b nD nP' hD r hn' nC nPC hDC => ?_)) (fun _ s' hq => wpAny_pure (wpAny_pure hq)) fun _ _ e => e)
  show wpAny _ A (PySem.assign (.Name x px) f.env (.ref D)) _ _ _
  have i : ItemOk s.heap P' h' (.ref D) (.box ys) := ⟨D, vs, n, rfl, nD, nP', hD, r⟩
  have nb : ∀ y es w, ρ.lookup y = some (.box es) → μ y = some (.ref w) → s.heap.get? w ≠ none := fun y es w hy hw => by
    obtain ⟨_, v, hv, B, us, m, rfl, hl, _⟩ := hS.vars y _ hy
    rw [hv] at hw; cases hw
    rw [hl]; simp
  have new := hS.apartNew nC
  refine wpAny_assign_Name (storeVar (s := { s with heap := h', toks := tk }) (hS.after c b) (.inl hx) ⟨i.newOk hS, fun _ _ y es _ hy e => nb y es D hy e nD⟩ fun h₂ tk₂ hS₂ keep => ?_)
  have nL : Cc ≠ f.env.locals := fun e => new.1 e.symm
  have keepC : ∀ o, h'.get? Cc = some o → h₂.get? Cc = some o := fun o e => keep Cc o nL (fun c hc e' => new.2.1 x c hc e'.symm) e
  refine ⟨m', hn'.at' keepC, fun h₃ hs₃ => ?_⟩
  refine q h₃ tk₂ P' _ c.le (hS₂.pokeB (fun y es hy e => ?_) hs₃ nPC ?_ new.2.2 new.1 new.2.1)
  · by_cases e' : y = x
    · rw [if_pos e'] at e
      cases e; exact hDC rfl
    · rw [if_neg e'] at e
      rw [lookup_cons_ne e'] at hy
      exact nb y es Cc hy e nC
  · cases e : f.hs.get? Cc with
    | none => rfl
    | some o => obtain ⟨o', e'⟩ := hS.fr.dom _ _ e; rw [nC] at e'; cases e'
end
-- MC5
section
variable {C : Cx} {k : Nat} {fi : Fi} {ρ ρ' ρ₁ ρ₂ : Loc} {σ σ₁ σ₂ σ₃ : Int × Int}
theorem Sx.letK {x : Str} {p pos : Pos} {e : Expr} {ss : List Stmt} {d : PyData} {o : Out} (he : Ev C k fi ρ σ e (.dat d) σ₁) (hk : Storable fi x) (hs : ∀ env : Env, env.scope = fi.sc → swapsWith e (some (.Name x p)) pos.line env = pure false) (hr : Sx C k fi ((x, .dat d) :: ρ) σ₁ ss o) :
    Sx C k fi ρ σ (.Assign [.Name x p] e pos :: ss) o := Sx.cons (.mk <| fun f A s P μ E _ hA hS q =>
  wpAny_Assign_Name (he.run f A s P μ E _ hA hS fun v h' tk P' c b r => storeVar (s := { s with heap := h', toks := tk }) (hS.after c b) hk ⟨(show VOk C f P' h' v (.dat d) from r), fun _ e => by cases e⟩ fun h'' tk' hS' _ => q h'' tk' P' _ c.le hS') (hs f.env hS.sc)) hr
theorem Sx.unpC {elts : List Expr} {kd : Nat} {tpos pos : Pos} {value : Expr} {avs : List AV} {ss : List Stmt} {o : Out} (he : Evm C k fi ρ σ value avs σ₁) (hρ : (((xsOf elts).map (·.1)).zip avs).reverse ++ ρ = ρ₁) (hl : (xsOf elts).length = avs.length) (hk : ∀ x ∈ (xsOf elts).map (·.1), Storable fi x)
    (hx : ∀ env, assignEach elts env = (xsOf elts).map fun x => (false, assign (.Name x.1 x.2) env)) (hs : ∀ env, swapsWithSole [.Tuple elts kd tpos] value pos.line env = pure false) (hw : ∀ env : Env, env.scope = fi.sc → swappedStores [.Tuple elts kd tpos] value env = pure none) (hr : Sx C k fi ρ₁ σ₁ ss o) :
    Sx C k fi ρ σ (.Assign [.Tuple elts kd tpos] value pos :: ss) o := Sx.cons (Sx1.unpack _ he hx hl hk hs hw) (hρ ▸ hr)
noncomputable abbrev gFi : Fi := ⟨scopeOf 47, [Str.ofString "ins", Str.ofString "outs"]⟩
noncomputable abbrev gLoc (deep : Nat) (spot : Int) : Loc := [(Str.ofString "spot", .dat (.int spot)), (Str.ofString "deep", .dat (.int deep)), (Str.ofString "source", .src)]
theorem tris {R : Rel} : ∀ {ys : List PyData}, (∀ y ∈ ys, IsTri R y) → ∃ ds ps xs, Tys R ds ps xs ∧ ds.length = ys.length ∧ ys = (ds.zip (ps.zip xs)).map fun z => tri z.1 z.2.1 z.2.2
  | [], _ => ⟨[], [], [], .nil, rfl, rfl⟩
  | y :: ys, h => by
    obtain ⟨d, p, x, rfl, hy⟩ := h y (.head _)
    obtain ⟨ds, ps, xs, ht, hl, he⟩ := tris fun z hz => h z (.tail _ hz)
    exact ⟨d :: ds, p :: ps, x :: xs, .cons hy ht, by rw [List.length_cons, List.length_cons, hl], by simp [← he]⟩
theorem signed_pre (F : Facts C) {deep : Nat} {spot : Int} {n m : Nat} {ys zs : List PyData} {o : Out} (hT : TypeOk C (k + 1) deep) (hn : n < 3) (hm : m < 3) (t₁ : ∀ k, FnD C (k + 1) (Str.ofString "_law_take") [.src, .dat (.int 3)] σ (.int n) σ₁)
    (c₁ : ∀ (fi : Fi) (ρ : Loc) (x : Str) (p1 pos : Pos) (e : Expr) (es : List Expr), (∀ b σ, Args C (k + 1) fi ((x, .dat b) :: ρ) σ (e :: es) [.src, .dat (.int deep)] σ) → fi.sc.names.lookup (Str.ofString "_law_type") = some .globalImplicit → (e :: es).all noStar = true → Ct C (k + 1) fi ρ (.Call (.Name (Str.ofString "_law_type") p1) (e :: es) [] pos) [] (.name x) σ₁ (upTo n) ys σ₂)
    (h : Sx C (k + 1) gFi ((Str.ofString "ins", .dat (.list ys)) :: gLoc deep spot) σ₂ ((bodyOf 47).drop 1) o) : Sx C (k + 1) gFi (gLoc deep spot) σ (bodyOf 47) o := by
  conv in (bodyOf _) => whnf
  with_reducible apply Sx.letK (d := .list ys) (σ₁ := σ₂)
  · with_reducible apply Evf.ev
    with_reducible apply Evf.cmp (ρ' := [(Str.ofString "source", .src), (Str.ofString "deep", .dat (.int deep))]) (ds := upTo n) (σ₁ := σ₁)
    · exact TgtE.name
    · refine EvIt.range (n := n) ?_ (by omega) rfl
      with_reducible apply Ev.fn (rs := [.src, .dat (.int 3)])
      walk_at "m.run"
      exact t₁ k
      walk_at "m.run"
    · exact .cons rfl rfl rfl (.cons rfl rfl rfl .nil)
    · refine c₁ _ _ _ _ _ _ _ (fun b σ => ?_) rfl rfl
      walk_at "m.run"
    · rw [upTo, List.length_map, List.length_range]; omega
    all_goals walk_at "m.run"
  · exact .inr ⟨rfl, .head _⟩
  · walk_at "m.env"
  exact h
end
-- MC6
section
variable {C : Cx} {k : Nat} {fi : Fi} {ρ ρ' ρ₁ ρ₂ : Loc} {σ σ₁ σ₂ σ₃ : Int × Int}
noncomputable abbrev gLoc2 (ys zs : List PyData) (deep : Nat) (spot : Int) : Loc := (Str.ofString "outs", .dat (.list zs)) :: (Str.ofString "ins", .dat (.list ys)) :: gLoc deep spot
theorem signed_pre2 (F : Facts C) {deep : Nat} {spot : Int} {m : Nat} {ys zs : List PyData} {o : Out} (hm : m < 3) (t₁ : ∀ k, FnD C (k + 1) (Str.ofString "_law_take") [.src, .dat (.int 3)] σ (.int m) σ₁)
    (c₁ : ∀ (fi : Fi) (ρ : Loc) (x : Str) (p1 pos : Pos) (e : Expr) (es : List Expr), (∀ b σ, Args C (k + 1) fi ((x, .dat b) :: ρ) σ (e :: es) [.src, .dat (.int deep)] σ) → fi.sc.names.lookup (Str.ofString "_law_type") = some .globalImplicit → (e :: es).all noStar = true → Ct C (k + 1) fi ρ (.Call (.Name (Str.ofString "_law_type") p1) (e :: es) [] pos) [] (.name x) σ₁ (upTo m) zs σ₂)
    (h : Sx C (k + 1) gFi (gLoc2 ys zs deep spot) σ₂ ((bodyOf 47).drop 2) o) : Sx C (k + 1) gFi ((Str.ofString "ins", .dat (.list ys)) :: gLoc deep spot) σ ((bodyOf 47).drop 1) o := by
  conv in (List.drop 1 _) => whnf
  with_reducible apply Sx.letK (d := .list zs) (σ₁ := σ₂)
  · with_reducible apply Evf.ev
    with_reducible apply Evf.cmp (ρ' := [(Str.ofString "source", .src), (Str.ofString "deep", .dat (.int deep))]) (ds := upTo m) (σ₁ := σ₁)
    · exact TgtE.name
    · refine EvIt.range (n := m) ?_ (by omega) rfl
      with_reducible apply Ev.fn (rs := [.src, .dat (.int 3)])
      walk_at "m.run"
      exact t₁ k
      walk_at "m.run"
    · exact .cons rfl rfl rfl (.cons rfl rfl rfl .nil)
    · refine c₁ _ _ _ _ _ _ _ (fun b σ => ?_) rfl rfl
      walk_at "m.run"
    · rw [upTo, List.length_map, List.length_range]; omega
    all_goals walk_at "m.run"
  · exact .inr ⟨rfl, .tail _ (.head _)⟩
  · walk_at "m.env"
  exact h
theorem Tri.each {f : PyData → PyData → Prop} (i : Nat) (g : ∀ d p x, f (tri d p x) (match i with | 0 => d | 1 => p | _ => .str x)) : ∀ (l : List (PyData × PyData × Str)), Each f (l.map fun z => tri z.1 z.2.1 z.2.2) (l.map fun z => match i with | 0 => z.1 | 1 => z.2.1 | _ => .str z.2.2)
  | [] => .nil
  | _ :: l => .cons (g _ _ _) (Tri.each i g l)
theorem signed_texts {deep : Nat} {spot : Int} {l : List (PyData × PyData × Str)} {zs : List PyData} {row : Bool} {o : Out} (hl : l.length ≤ 2)
    (hr : ∀ {fi : Fi} {ρ : Loc} {es : List Expr}, True) (hb : (l = [] ∧ row = false ∧ σ₁ = σ) ∨ (l ≠ [] ∧ ∃ n : Nat, (row = ((n : Int) == 0)) ∧ ∀ k, FnD C (k + 1) (Str.ofString "_law_take") [.src, .dat (.int 3)] σ (.int n) σ₁))
    (h : Sx C (k + 1) gFi ((Str.ofString "texts", .dat (.list (l.map fun z => .str z.2.2))) :: (Str.ofString "is_row", .dat (.bool row)) :: gLoc2 (l.map fun z => tri z.1 z.2.1 z.2.2) zs deep spot) σ₁ ((bodyOf 47).drop 3) o) :
    Sx C (k + 1) gFi (gLoc2 (l.map fun z => tri z.1 z.2.1 z.2.2) zs deep spot) σ ((bodyOf 47).drop 2) o := by
  conv in (List.drop 2 _) => whnf
  with_reducible apply Sx.swp [Str.ofString "texts", Str.ofString "is_row"] (avs := [.dat (.list (l.map fun z => .str z.2.2)), .dat (.bool row)]) (σ₁ := σ₁)
  · with_reducible apply Ev.swapPair (σ₁ := σ)
    · with_reducible apply Evf.ev
      with_reducible apply Evf.cmp (ρ' := [])
      · exact TgtE.name
      · with_reducible apply EvIt.list TgtE.name (r := .dat (.list (l.map fun z => tri z.1 z.2.1 z.2.2)))
        · walk_at "m.run"
        · exact LstOf.dat _
      · exact SubF.nil
      · refine Ct.each (Tri.each 2 (fun d p x => ?_) l)
        walk_at "m.run"
      · rw [List.length_map]; omega
      all_goals walk_at "m.run"
    · with_reducible apply Ev.boolOp
      rcases hb with ⟨rfl, rfl, rfl⟩ | ⟨hne, n, rfl, ht⟩
      · with_reducible apply BoolV.andF
        walk_at "m.run"
      · with_reducible apply BoolV.andT
        · with_reducible apply Ev.neNil
          walk_at "m.run"
          cases l with
          | nil => exact absurd rfl hne
          | cons => rfl
        with_reducible apply BoolV.one
        with_reducible apply Ev.cmpr
        · with_reducible apply Ev.fn (rs := [.src, .dat (.int 3)])
          walk_at "m.run"
          exact ht k
          walk_at "m.run"
        walk_at "m.run"
    all_goals walk_at "m.run"
  walk_at "m.run"
  · walk_at "m.env"
  exact h
end
-- MC7
section
variable {C : Cx} {k : Nat} {fi : Fi} {ρ ρ' ρ₁ ρ₂ : Loc} {σ σ₁ σ₂ σ₃ : Int × Int}
noncomputable abbrev tri3 (z : PyData × PyData × Str) : PyData := tri z.1 z.2.1 z.2.2
noncomputable abbrev gLoc3 (ts : List Str) (row : Bool) (ys zs : List PyData) (deep : Nat) (spot : Int) : Loc := (Str.ofString "texts", .dat (.list (ts.map .str))) :: (Str.ofString "is_row", .dat (.bool row)) :: gLoc2 ys zs deep spot
theorem Evf.init {e a : Expr} {p pos : Pos} {ds : List PyData} {d : PyData} (he : Ev C k fi ρ σ e (.dat (.list (ds ++ [d]))) σ₁) (hl : Ev C k fi ρ σ₁ a (.dat (.int (-1))) σ₂) (hn : ds.length ≤ 1000) : Evf C k fi ρ σ (.Subscript e (.Slice Option.none (some a) Option.none p) pos) ds σ₂ := by
  have := Evf.butLast (p := p) (pos := pos) he (LstOf.dat _) hl (by simp; omega)
  have e : (ds ++ [d]).take ((ds ++ [d]).length - 1) = ds := by simp
  rw [e] at this
  exact this
theorem ItemOf.last {ds : List PyData} {d : PyData} : ItemOf ρ (.dat (.list (ds ++ [d]))) (-1) d := ItemOf.back (LstOf.dat _) ⟨by decide, by decide⟩ (by simp; omega) (by
  have : ((-1 : Int) + ((ds ++ [d]).length : Int)).toNat = ds.length := by simp; omega
  rw [this]; simp)
theorem signed_rowF {deep : Nat} {spot : Int} {ts : List Str} {ys zs : List PyData} {o : Out} (h : Sx C k gFi (gLoc3 ts false ys zs deep spot) σ ((bodyOf 47).drop 4) o) : Sx C k gFi (gLoc3 ts false ys zs deep spot) σ ((bodyOf 47).drop 3) o := by
  conv in (List.drop 3 _) => whnf
  with_reducible apply Sx.ifSkip
  · walk_at "m.run"
  exact h
theorem signed_rowT {deep : Nat} {spot : Int} {l : List (PyData × PyData × Str)} {d p : PyData} {x : Str} {zs : List PyData} {o : Out} (hl : l.length ≤ 1) (hx : x.length ≤ 1000000)
    (h : Sx C k gFi (gLoc3 (l.map (·.2.2) ++ [Str.ofString "..." ++ x]) true (l.map tri3 ++ [tri (sliceD spot d) (sliceD 0 p) (Str.ofString "")]) zs deep spot) σ ((bodyOf 47).drop 4) o) :
    Sx C k gFi (gLoc3 (l.map (·.2.2) ++ [x]) true (l.map tri3 ++ [tri d p x]) zs deep spot) σ ((bodyOf 47).drop 3) o := by
  conv in (List.drop 3 _) => whnf
  with_reducible apply Sx.ifThen (ρ₁ := (Str.ofString "texts", .dat (.list ((l.map (·.2.2)).map .str ++ [.str (Str.ofString "..." ++ x)]))) :: (Str.ofString "ins", .dat (.list (l.map tri3 ++ [tri (sliceD spot d) (sliceD 0 p) (Str.ofString "")]))) :: (Str.ofString "text", .dat (.str x)) :: (Str.ofString "plain", .dat p) :: (Str.ofString "told", .dat d) :: gLoc3 (l.map (·.2.2) ++ [x]) true (l.map tri3 ++ [tri d p x]) zs deep spot) (σ₂ := σ)
  · walk_at "m.run"
  · with_reducible apply Sx.unp (avs := [.dat d, .dat p, .dat (.str x)]) (σ₁ := σ)
    · with_reducible apply Evm.of (ds := [d, p, .str x])
      · with_reducible apply Ev.item
        walk_at "m.run"
        · exact ItemOf.last
        walk_at "m.run"
      walk_at "m.run"
    walk_at "m.run"
    with_reducible apply Sx.unpC (avs := [.dat (.list (l.map tri3 ++ [tri (sliceD spot d) (sliceD 0 p) (Str.ofString "")])), .dat (.list ((l.map (·.2.2)).map .str ++ [.str (Str.ofString "..." ++ x)]))]) (σ₁ := σ)
    · with_reducible apply Ev.swapPair (σ₁ := σ)
      · with_reducible apply Evf.ev
        with_reducible apply Evf.add
        · with_reducible apply Evf.ev
          with_reducible apply Evf.init (d := tri d p x)
          · walk_at "m.run"
          · walk_at "m.run"
          · rw [List.length_map]; omega
        · exact LstOf.dat _
        · with_reducible apply Evf.ev
          with_reducible apply Evf.lst
          walk_at "m.run"
        · exact LstOf.dat _
        · rw [List.length_map]; simp; omega
      · with_reducible apply Evf.ev
        with_reducible apply Evf.add
        · with_reducible apply Evf.ev
          with_reducible apply Evf.init (d := .str x)
          · refine Ev.cast (d₀ := .list ((l.map (·.2.2) ++ [x]).map .str)) (σ₁ := σ) ?_ (by rw [List.map_append]; rfl)
            walk_at "m.run"
          · walk_at "m.run"
          · simp; omega
        · exact LstOf.dat _
        · with_reducible apply Evf.ev
          with_reducible apply Evf.lst
          walk_at "m.run"
        · exact LstOf.dat _
        · simp; omega
      all_goals walk_at "m.run"
    · rfl
    · rfl
    · intro y hy
      simp only [xsOf, List.map_cons, List.map_nil, List.mem_cons, List.not_mem_nil, or_false] at hy
      rcases hy with rfl | rfl
      · exact .inr ⟨rfl, .head _⟩
      · exact .inl rfl
    walk_at "m.run"
    · walk_at "m.env"
    exact Sx.nil
  refine Sx.sub (.cons ?_ (.cons rfl (.cons rfl (.cons rfl (.cons rfl (.cons rfl (.cons rfl .nil))))))) h
  rw [List.map_append]; rfl
end
-- MC8
section
variable {C : Cx} {k : Nat} {fi : Fi} {ρ ρ' ρ₁ ρ₂ : Loc} {σ σ₁ σ₂ σ₃ : Int × Int}
noncomputable abbrev gLoc4 (b : Str) (ts : List Str) (row : Bool) (ys zs : List PyData) (deep : Nat) (spot : Int) : Loc := (Str.ofString "behind", .dat (.str b)) :: gLoc3 ts row ys zs deep spot
theorem signed_behind {deep : Nat} {spot : Int} {ts : List Str} {row : Bool} {ys : List PyData} {l : List (PyData × PyData × Str)} {o : Out} (hl : l.length ≤ 2) (hx : ∀ z ∈ l, z.2.2.length ≤ 1000000)
    (h : Sx C k gFi (gLoc4 (outsText (l.map (·.2.2))) ts row ys (l.map tri3) deep spot) σ ((bodyOf 47).drop 6) o) : Sx C k gFi (gLoc3 ts row ys (l.map tri3) deep spot) σ ((bodyOf 47).drop 4) o := by
  conv in (List.drop 4 _) => whnf
  match l, hl, hx, h with
  | [], _, _, h =>
    with_reducible apply Sx.let (d := .str (Str.ofString "")) (σ₁ := σ)
    · with_reducible apply Ev.ifT
      · with_reducible apply Ts.eqNil
        walk_at "m.run"
      walk_at "m.run"
    walk_at "m.run"
    with_reducible apply Sx.ifSkip
    · walk_at "m.run"
    exact h
  | [a], _, hx, h =>
    have h1 := hx a (.head _)
    with_reducible apply Sx.let (d := .str (Str.ofString " " ++ a.2.2)) (σ₁ := σ)
    · with_reducible apply Ev.ifF
      · with_reducible apply Ts.eqNil
        walk_at "m.run"
      walk_at "m.run"
    walk_at "m.run"
    with_reducible apply Sx.ifSkip
    · walk_at "m.run"
    exact h
  | [a, b], _, hx, h =>
    have h1 := hx a (.head _)
    have h2 := hx b (.tail _ (.head _))
    have e : outsText ([a, b].map (·.2.2)) = (((Str.ofString " (" ++ a.2.2) ++ Str.ofString ", ") ++ b.2.2) ++ Str.ofString ")" := by
      show (Str.ofString " (" ++ Txt.join (Str.ofString ", ") [a.2.2, b.2.2]) ++ Str.ofString ")" = _
      rw [join_two]
      exact L_inj (by simp only [L_app, List.append_assoc])
    rw [e] at h
    with_reducible apply Sx.let (d := .str (Str.ofString " " ++ a.2.2)) (σ₁ := σ)
    · with_reducible apply Ev.ifF
      · with_reducible apply Ts.eqNil
        walk_at "m.run"
      walk_at "m.run"
    walk_at "m.run"
    with_reducible apply Sx.ifThen (ρ₁ := (Str.ofString "behind", .dat (.str ((((Str.ofString " (" ++ a.2.2) ++ Str.ofString ", ") ++ b.2.2) ++ Str.ofString ")"))) :: (Str.ofString "behind", .dat (.str (Str.ofString " " ++ a.2.2))) :: gLoc3 ts row ys [tri3 a, tri3 b] deep spot) (σ₂ := σ)
    · walk_at "m.run"
    · with_reducible apply Sx.let
      walk_at "m.run"
      exact Sx.nil
    exact Sx.sub (.cons rfl (.cons rfl (.cons rfl (.cons rfl (.cons rfl (.cons rfl (.cons rfl (.cons rfl .nil)))))))) h
  | _ :: _ :: _ :: _, hl, _, _ => simp at hl
end
-- MC9
section
variable {C : Cx} {k : Nat} {fi : Fi} {ρ ρ' ρ₁ ρ₂ : Loc} {σ σ₁ σ₂ σ₃ : Int × Int}
theorem signed_told {deep : Nat} {spot : Int} {ts : List Str} {b : Str} {row : Bool} {l m : List (PyData × PyData × Str)} {o : Out} (hl : l.length ≤ 2) (hm : m.length ≤ 2)
    (h : Sx C k gFi ((Str.ofString "told", .box [.tuple (l.map (·.1)), .tuple (m.map (·.1)), .tuple (l.map (·.2.1)), .tuple (m.map (·.2.1))]) :: gLoc4 b ts row (l.map tri3) (m.map tri3) deep spot) σ ((bodyOf 47).drop 7) o) : Sx C k gFi (gLoc4 b ts row (l.map tri3) (m.map tri3) deep spot) σ ((bodyOf 47).drop 6) o := by
  conv in (List.drop 6 _) => whnf
  refine Sx.cons (Sx1.assignTwo (t := .name (Str.ofString "k")) (u := .name (Str.ofString "some")) (own := [Str.ofString "k"]) (ρ' := [(Str.ofString "ins", .dat (.list (l.map tri3))), (Str.ofString "outs", .dat (.list (m.map tri3)))]) (ds := upTo 2) (σ₁ := σ) (σ₂ := σ) TgtE.name ?_ TgtE.name ?_ ?_ ?_ rfl ?_ rfl rfl rfl rfl rfl rfl ?_ ?_ ?_) h
  · refine EvIt2.range (n := 2) ?_ (by decide) rfl
    exact Ev.int
  · exact .cons rfl rfl rfl (.cons rfl rfl rfl .nil)
  · have inner : ∀ (j : Nat) (f : PyData × PyData × Str → PyData), (∀ z, [z.1, z.2.1, .str z.2.2][j]? = some (f z)) → ∀ (q : List (PyData × PyData × Str)), True := fun _ _ _ _ => trivial
    refine Ct2.cons (t := .name (Str.ofString "k")) (u := .name (Str.ofString "some")) (b := [(Str.ofString "k", .dat (.int 0))]) (d := .int 0) (ds := [.int 1]) (es := [.list (l.map tri3), .list (m.map tri3)]) (ys := [.tuple (l.map (·.1)), .tuple (m.map (·.1))]) (zs := [.tuple (l.map (·.2.1)), .tuple (m.map (·.2.1))]) (σ₁ := σ) (σ₂ := σ) rfl ?_ ?_ (by simp) (by simp)
      (Ct2.cons (t := .name (Str.ofString "k")) (u := .name (Str.ofString "some")) (b := [(Str.ofString "k", .dat (.int 1))]) (d := .int 1) (ds := []) (es := [.list (l.map tri3), .list (m.map tri3)]) (ys := [.tuple (l.map (·.2.1)), .tuple (m.map (·.2.1))]) (zs := []) (σ₁ := σ) (σ₂ := σ) rfl ?_ ?_ (by simp) (by simp) Ct2.nil)
    · with_reducible apply Evf.ev
      with_reducible apply Evf.lst
      walk_at "m.run"
    · refine Ct.cons (t := .name (Str.ofString "some")) (d := .list (l.map tri3)) (ds := [.list (m.map tri3)]) (b := [(Str.ofString "some", .dat (.list (l.map tri3)))]) (y := .tuple (l.map (·.1))) (σ₁ := σ) (σ₂ := σ) rfl Ifs.nil ?_ (Ct.cons (t := .name (Str.ofString "some")) (d := .list (m.map tri3)) (ds := []) (b := [(Str.ofString "some", .dat (.list (m.map tri3)))]) (y := .tuple (m.map (·.1))) (σ₁ := σ) (σ₂ := σ) rfl Ifs.nil ?_ Ct.nil)
      · with_reducible apply Ev.tupC
        · with_reducible apply Evf.ev
          with_reducible apply Evf.cmp (ρ' := [(Str.ofString "k", .dat (.int 0))])
          · exact TgtE.name
          · with_reducible apply EvIt.list TgtE.name (r := .dat (.list (l.map tri3)))
            · walk_at "m.run"
            · exact LstOf.dat _
          · exact .cons rfl rfl rfl .nil
          · refine Ct.each (Tri.each 0 (fun d p x => ?_) l)
            walk_at "m.run"
          · rw [List.length_map]; omega
          all_goals walk_at "m.run"
        all_goals walk_at "m.run"
        rw [List.length_map]; omega
      · with_reducible apply Ev.tupC
        · with_reducible apply Evf.ev
          with_reducible apply Evf.cmp (ρ' := [(Str.ofString "k", .dat (.int 0))])
          · exact TgtE.name
          · with_reducible apply EvIt.list TgtE.name (r := .dat (.list (m.map tri3)))
            · walk_at "m.run"
            · exact LstOf.dat _
          · exact .cons rfl rfl rfl .nil
          · refine Ct.each (Tri.each 0 (fun d p x => ?_) m)
            walk_at "m.run"
          · rw [List.length_map]; omega
          all_goals walk_at "m.run"
        all_goals walk_at "m.run"
        rw [List.length_map]; omega
    · with_reducible apply Evf.ev
      with_reducible apply Evf.lst
      walk_at "m.run"
    · refine Ct.cons (t := .name (Str.ofString "some")) (d := .list (l.map tri3)) (ds := [.list (m.map tri3)]) (b := [(Str.ofString "some", .dat (.list (l.map tri3)))]) (y := .tuple (l.map (·.2.1))) (σ₁ := σ) (σ₂ := σ) rfl Ifs.nil ?_ (Ct.cons (t := .name (Str.ofString "some")) (d := .list (m.map tri3)) (ds := []) (b := [(Str.ofString "some", .dat (.list (m.map tri3)))]) (y := .tuple (m.map (·.2.1))) (σ₁ := σ) (σ₂ := σ) rfl Ifs.nil ?_ Ct.nil)
      · with_reducible apply Ev.tupC
        · with_reducible apply Evf.ev
          with_reducible apply Evf.cmp (ρ' := [(Str.ofString "k", .dat (.int 1))])
          · exact TgtE.name
          · with_reducible apply EvIt.list TgtE.name (r := .dat (.list (l.map tri3)))
            · walk_at "m.run"
            · exact LstOf.dat _
          · exact .cons rfl rfl rfl .nil
          · refine Ct.each (Tri.each 1 (fun d p x => ?_) l)
            walk_at "m.run"
          · rw [List.length_map]; omega
          all_goals walk_at "m.run"
        all_goals walk_at "m.run"
        rw [List.length_map]; omega
      · with_reducible apply Ev.tupC
        · with_reducible apply Evf.ev
          with_reducible apply Evf.cmp (ρ' := [(Str.ofString "k", .dat (.int 1))])
          · exact TgtE.name
          · with_reducible apply EvIt.list TgtE.name (r := .dat (.list (m.map tri3)))
            · walk_at "m.run"
            · exact LstOf.dat _
          · exact .cons rfl rfl rfl .nil
          · refine Ct.each (Tri.each 1 (fun d p x => ?_) m)
            walk_at "m.run"
          · rw [List.length_map]; omega
          all_goals walk_at "m.run"
        all_goals walk_at "m.run"
        rw [List.length_map]; omega
  · decide
  · walk_at "m.env"
  · intro d b hb; cases hb; intro x hx
    simp only [Tgt.names, List.mem_cons, List.not_mem_nil, or_false] at hx
    subst hx; rfl
  · intro _ _; rfl
  · intro _ _; rfl
end
-- MD1
section
variable {C : Cx} {k : Nat} {fi : Fi} {ρ ρ' ρ₁ ρ₂ : Loc} {σ σ₁ σ₂ σ₃ : Int × Int}
theorem signed_end {deep : Nat} {spot : Int} {ts os : List Str} {row : Bool} {ys zs : List PyData} {a b c d : PyData} (h1 : total ts + ts.length * 2 ≤ 1000000) (h2 : (outsText os).length ≤ 1000000) :
    Sx C k gFi ((Str.ofString "told", .box [a, b, c, d]) :: gLoc4 (outsText os) ts row ys zs deep spot) σ ((bodyOf 47).drop 7) (.ret (tri (.tuple [.str (Str.ofString "func"), .int spot, a, b, .bool row]) (.tuple [.str (Str.ofString "func"), .int 0, c, d, .bool row]) (sigText ts os)) σ) := by
  have jx := join_len (Str.ofString ", ") ts
  rw [ln0] at jx
  conv in (List.drop 7 _) => whnf
  with_reducible apply Sx.let (d := .str (sigText ts os)) (σ₁ := σ)
  · unfold sigText
    with_reducible apply Ev.bin
    with_reducible apply Ev.bin
    with_reducible apply Ev.bin
    walk_at "m.run"
    with_reducible apply Ev.jn (ys := ts)
    walk_at "m.run"
    · rw [ln0]; show total ts + _ ≤ _
      omega
    all_goals walk_at "m.run"
  walk_at "m.run"
  with_reducible apply Sx.return
  walk_at "m.run"
end
-- MD2
section
variable {C : Cx} {k : Nat} {fi : Fi} {ρ ρ' ρ₁ ρ₂ : Loc} {σ σ₁ σ₂ σ₃ : Int × Int}
theorem tris3 {R : Rel} : ∀ {ys : List PyData}, (∀ y ∈ ys, IsTri R y) → ∃ l : List (PyData × PyData × Str), ys = l.map tri3 ∧ l.length = ys.length ∧ Tys R (l.map (·.1)) (l.map (·.2.1)) (l.map (·.2.2)) ∧ ∀ z ∈ l, R z.1 z.2.1 z.2.2
  | [], _ => ⟨[], rfl, rfl, .nil, fun _ h => by cases h⟩
  | y :: ys, h => by
    obtain ⟨d, p, x, rfl, hy⟩ := h y (.head _)
    obtain ⟨l, e, hl, ht, hz⟩ := tris3 fun z hz => h z (.tail _ hz)
    refine ⟨(d, p, x) :: l, by rw [e]; rfl, by rw [List.length_cons, List.length_cons, hl], .cons hy ht, fun z hm => ?_⟩
    rcases List.mem_cons.mp hm with rfl | hm
    · exact hy
    · exact hz z hm
end
-- MD3
section
variable {C : Cx} {k : Nat} {fi : Fi} {ρ ρ' ρ₁ ρ₂ : Loc} {σ σ₁ σ₂ σ₃ : Int × Int}
theorem tys_of {R : Rel} : ∀ {l : List (PyData × PyData × Str)}, (∀ z ∈ l, R z.1 z.2.1 z.2.2) → Tys R (l.map (·.1)) (l.map (·.2.1)) (l.map (·.2.2))
  | [], _ => .nil
  | z :: _, h => .cons (h z (.head _)) (tys_of fun y hy => h y (.tail _ hy))
theorem signed_low {deep : Nat} {spot : Int} {ts : List Str} {row : Bool} {l q : List (PyData × PyData × Str)} (hl : l.length ≤ 2) (hq : q.length ≤ 2) (tl : ts.length ≤ 2) (tx : ∀ x ∈ ts, x.length ≤ 200010) (qx : ∀ z ∈ q, z.2.2.length ≤ 200000) :
    Sx C k gFi (gLoc3 ts row (l.map tri3) (q.map tri3) deep spot) σ ((bodyOf 47).drop 4) (.ret (tri (funcD spot (l.map (·.1)) (q.map (·.1)) row) (funcD 0 (l.map (·.2.1)) (q.map (·.2.1)) row) (sigText ts (q.map (·.2.2)))) σ) := by
  apply signed_behind hq (fun z hz => Nat.le_trans (qx z hz) (by decide))
  apply signed_told hl hq
  have h1 := total_le tx
  have h2 : ts.length * 200010 ≤ 2 * 200010 := Nat.mul_le_mul_right _ tl
  have h3 := outs_len (os := q.map (·.2.2)) (m := 200000) (fun x hx => by
    obtain ⟨z, hz, rfl⟩ := List.mem_map.mp hx
    exact qx z hz) (by rw [List.length_map]; exact hq)
  exact signed_end (by omega) (by omega)
theorem signed_ok (F : Facts C) {deep : Nat} (hd : deep ≤ 2) (hT : TypeOk C (k + 1) deep) : SignedOk C (k + 2) deep := fun spot σ hσ => by
  obtain ⟨n, σ₁, hn, h₁, t₁⟩ := take_ok F 3 (by decide) (by decide) σ hσ
  obtain ⟨ys, σ₂, hys, hyl, h₂, c₁⟩ := draws_ct hT (by decide) (upTo n) σ₁ h₁
  obtain ⟨m, σ₃, hm, h₃, t₃⟩ := take_ok F 3 (by decide) (by decide) σ₂ h₂
  obtain ⟨zs, σ₄, hzs, hzl, h₄, c₃⟩ := draws_ct hT (by decide) (upTo m) σ₃ h₃
  obtain ⟨l, rfl, ll, ht, hl⟩ := tris3 hys
  obtain ⟨q, rfl, ql, hq, hql⟩ := tris3 hzs
  have ln : l.length ≤ 2 := by rw [ll, hyl, upTo, List.length_map, List.length_range]; omega
  have qn : q.length ≤ 2 := by rw [ql, hzl, upTo, List.length_map, List.length_range]; omega
  have hb := bnd_le deep (by omega)
  have qx : ∀ z ∈ q, z.2.2.length ≤ 200000 := fun z hz => Nat.le_trans (TyR.len deep _ _ _ (hql z hz)) hb
  have lx : ∀ z ∈ l, z.2.2.length ≤ 200000 := fun z hz => Nat.le_trans (TyR.len deep _ _ _ (hl z hz)) hb
  have go : ∀ {y : PyData} {σ' : Int × Int}, Sx C (k + 1) gFi (gLoc2 (l.map tri3) (q.map tri3) deep spot) σ₄ ((bodyOf 47).drop 2) (.ret y σ') → FnD C (k + 2) (Str.ofString "_law_signed") [.src, .dat (.int deep), .dat (.int spot)] σ y σ' := fun h =>
    FnD.intro _ F.law_signed (signed_pre (zs := []) F hT hn hm t₁ c₁ (signed_pre2 F hm t₃ c₃ h))
  have el : l.map (fun z => PyData.str z.2.2) = (l.map (·.2.2)).map .str := by rw [List.map_map]; rfl
  have plain : ∀ {σ' : Int × Int}, ((l = [] ∧ false = false ∧ σ' = σ₄) ∨ (l ≠ [] ∧ ∃ n : Nat, (false = ((n : Int) == 0)) ∧ ∀ k, FnD C (k + 1) (Str.ofString "_law_take") [.src, .dat (.int 3)] σ₄ (.int n) σ')) → SOk σ' → ∃ d σ', IsTri (Sig (TyR deep)) d ∧ SOk σ' ∧ FnD C (k + 2) (Str.ofString "_law_signed") [.src, .dat (.int deep), .dat (.int spot)] σ d σ' := fun {σ'} hc hs => by
    refine ⟨_, σ', ⟨_, _, _, rfl, .plain (s := spot) ht hq (by rw [List.length_map]; exact ln) (by rw [List.length_map]; exact qn)⟩, hs, go ?_⟩
    apply signed_texts (σ₁ := σ') (row := false) ln (fun {_ _ _} => trivial) hc
    rw [el]
    apply signed_rowF
    exact signed_low ln qn (by rw [List.length_map]; exact ln) (fun x hx => by
      obtain ⟨z, hz, rfl⟩ := List.mem_map.mp hx
      exact Nat.le_trans (lx z hz) (by decide)) qx
  by_cases h0 : l = []
  · exact plain (.inl ⟨h0, rfl, rfl⟩) h₄
  obtain ⟨b, σ₅, hb', h₅, t₅⟩ := take_ok F 3 (by decide) (by decide) σ₄ h₄
  by_cases b0 : b = 0
  · subst b0
    have e : l = l.dropLast ++ [l.getLast h0] := (List.dropLast_concat_getLast h0).symm
    generalize l.dropLast = l₀ at e
    generalize l.getLast h0 = z at e
    subst e
    obtain ⟨d, p, x⟩ := z
    have hx : x.length ≤ 200000 := lx (d, p, x) (by simp)
    have hz : TyR deep d p x := hl (d, p, x) (by simp)
    have l0 : l₀.length ≤ 1 := by simp at ln; omega
    have t₀ := tys_of (l := l₀) fun z hz => hl z (by simp [hz])
    refine ⟨_, σ₅, ⟨_, _, _, rfl, .row (s := spot) (s' := spot) t₀ hz hq (by rw [List.length_map]; exact l0) (by rw [List.length_map]; exact qn)⟩, h₅, go ?_⟩
    apply signed_texts (σ₁ := σ₅) (row := true) ln (fun {_ _ _} => trivial) (.inr ⟨h0, 0, rfl, t₅⟩)
    have e1 : (l₀ ++ [(d, p, x)]).map (·.2.2) = l₀.map (·.2.2) ++ [x] := by rw [List.map_append]; rfl
    have e2 : (l₀ ++ [(d, p, x)]).map (fun z => tri z.1 z.2.1 z.2.2) = l₀.map tri3 ++ [tri d p x] := by rw [List.map_append]; rfl
    rw [el, e1, e2]
    apply signed_rowT l0 (Nat.le_trans hx (by decide))
    have := signed_low (C := C) (k := k + 1) (σ := σ₅) (deep := deep) (spot := spot) (ts := l₀.map (·.2.2) ++ [Str.ofString "..." ++ x]) (row := true) (l := l₀ ++ [(sliceD spot d, sliceD 0 p, Str.ofString "")]) (q := q) (by simpa using l0) qn (by simpa using l0) (fun y hy => by
      rcases List.mem_append.mp hy with hy | hy
      · obtain ⟨z, hz, rfl⟩ := List.mem_map.mp hy
        exact Nat.le_trans (lx z (by simp [hz])) (by decide)
      · rw [List.mem_singleton.mp hy, len_app, ln6]
        show 3 + x.length ≤ _
        have : x.length ≤ 200000 := hx
        omega) qx
    rw [List.map_append, List.map_append, List.map_append] at this
    exact this
  · exact plain (.inr ⟨h0, b, by
      symm; rw [beq_eq_false_iff_ne]; omega, t₅⟩) h₅
end
-- MD4
section
variable {C : Cx} {k : Nat} {fi : Fi} {ρ ρ' ρ₁ : Loc} {σ σ₁ σ₂ σ₃ : Int × Int} {R : Rel}
noncomputable def itBody : List Stmt := match (bodyOf 49).drop 1 with
  | .For _ _ b _ _ :: _ => b
  | _ => []
noncomputable abbrev iLoc (ds ps : List PyData) (xs : List Str) (deep spot : Int) : Loc := [(Str.ofString "methods", .box ds), (Str.ofString "bare", .box ps), (Str.ofString "texts", .box (xs.map .str)), (Str.ofString "source", .src), (Str.ofString "deep", .dat (.int deep)), (Str.ofString "spot", .dat (.int spot))]
noncomputable abbrev iLoc1 (n : Str) (ds ps : List PyData) (xs : List Str) (deep spot : Int) : Loc := (Str.ofString "name", .dat (.str n)) :: iLoc ds ps xs deep spot
theorem it_turn {deep : Nat} {n : Str} (hn : n.length ≤ 10) (hd : deep ≤ 2) (hT : SignedOk C k deep) (spot : Int) (σ : Int × Int) (hσ : SOk σ) : ∃ f g x' σ', Methods (TyR deep) [f] [g] [x'] ∧ SOk σ' ∧ ∀ (ds ps : List PyData) (xs : List Str), ds.length ≤ 1000 → ps.length ≤ 1000 → xs.length ≤ 1000 →
    Sx C k ⟨scopeOf 49, []⟩ (iLoc1 n ds ps xs deep spot) σ itBody (.next (iLoc (ds ++ [f]) (ps ++ [g]) (xs ++ [x']) deep spot) σ') := by
  obtain ⟨y, σ₁, ⟨d, p, x, rfl, hy⟩, h₁, t₁⟩ := hT (spot + 3) σ hσ
  have hx : x.length ≤ 1000000 := by
    have h1 := hy.len (TyR.len deep)
    have h2 := bnd_le deep (by omega)
    omega
  refine ⟨_, _, _, σ₁, .cons hn hy .nil, h₁, fun ds ps xs l1 l2 l3 => ?_⟩
  conv in itBody => whnf
  with_reducible apply Sx.unp (avs := [.dat d, .dat p, .dat (.str x)]) (σ₁ := σ₁)
  · with_reducible apply Evm.of (ds := [d, p, .str x])
    · with_reducible apply Ev.fn (rs := [.src, .dat (.int deep), .dat (.int (spot + 3))]) (σ₁ := σ)
      walk_at "m.run"
      exact t₁
      walk_at "m.run"
    walk_at "m.run"
  walk_at "m.run"
  refine Sx.toNext (ρ₁ := (Str.ofString "texts", .box (xs.map .str ++ [.str (n ++ x)])) :: (Str.ofString "bare", .box (ps ++ [.tuple [.str n, p]])) :: (Str.ofString "methods", .box (ds ++ [.tuple [.str n, d]])) :: (Str.ofString "text", .dat (.str x)) :: (Str.ofString "plain", .dat p) :: (Str.ofString "told", .dat d) :: iLoc1 n ds ps xs deep spot) ?_ (.cons rfl (.cons rfl (.cons (by rw [List.map_append]; rfl) (.cons rfl (.cons rfl (.cons rfl .nil))))))
  with_reducible apply Sx.expr
  · with_reducible apply EvS.app (ds := ds)
    walk_at "m.run"
  walk_at "m.run"
  with_reducible apply Sx.expr
  · with_reducible apply EvS.app (ds := ps)
    walk_at "m.run"
  walk_at "m.run"
  with_reducible apply Sx.expr
  · with_reducible apply EvS.app (ds := xs.map .str) (d := .str (n ++ x))
    walk_at "m.run"
    · rw [List.length_map]; omega
    walk_at "m.run"
  walk_at "m.run"
  exact Sx.nil
theorem Methods.app : ∀ {ds ps es qs : List PyData} {xs ys : List Str}, Methods R ds ps xs → Methods R es qs ys → Methods R (ds ++ es) (ps ++ qs) (xs ++ ys)
  | _, _, _, _, _, _, .nil, h => h
  | _, _, _, _, _, _, .cons hn a r, h => .cons hn a (r.app h)
theorem it_loop {deep : Nat} (hd : deep ≤ 2) (hT : SignedOk C k deep) (spot : Int) : ∀ (ns : List Str), (∀ n ∈ ns, n.length ≤ 10) → ns.length ≤ 10 → ∀ (σ : Int × Int), SOk σ → ∃ fs gs xs' σ', Methods (TyR deep) fs gs xs' ∧ fs.length = ns.length ∧ SOk σ' ∧ ∀ (ds ps : List PyData) (xs : List Str), ds.length + ns.length ≤ 500 → ps.length + ns.length ≤ 500 → xs.length + ns.length ≤ 500 →
    Fo C k ⟨scopeOf 49, []⟩ (iLoc ds ps xs deep spot) σ (Str.ofString "name") itBody (ns.map .str) (.next (iLoc (ds ++ fs) (ps ++ gs) (xs ++ xs') deep spot) σ')
  | [], _, _, σ, hσ => ⟨[], [], [], σ, .nil, rfl, hσ, fun ds ps xs _ _ _ => by
      simp only [List.append_nil]
      exact Fo.nil⟩
  | n :: ns, hn, hl, σ, hσ => by
    obtain ⟨f, g, x', σ₁, hf, h₁, ht⟩ := it_turn (k := k) (hn n (.head _)) hd hT spot σ hσ
    obtain ⟨fs, gs, xs', σ₂, hfs, hlen, h₂, hr⟩ := it_loop hd hT spot ns (fun m hm => hn m (.tail _ hm)) (by simp only [List.length_cons] at hl; omega) σ₁ h₁
    refine ⟨f :: fs, g :: gs, x' :: xs', σ₂, hf.app hfs, by rw [List.length_cons, List.length_cons, hlen], h₂, fun ds ps xs a b c => ?_⟩
    simp only [List.length_cons] at a b c
    have hr' := hr (ds ++ [f]) (ps ++ [g]) (xs ++ [x']) (by rw [List.length_append]; simp; omega) (by rw [List.length_append]; simp; omega) (by rw [List.length_append]; simp; omega)
    rw [List.append_assoc, List.append_assoc, List.append_assoc] at hr'
    exact Fo.cons (.inl rfl) (ht ds ps xs (by omega) (by omega) (by omega)) hr'
end
-- MD5
section
variable {C : Cx} {k : Nat} {fi : Fi} {ρ ρ' ρ₁ : Loc} {σ σ₁ σ₂ σ₃ : Int × Int} {R : Rel}
theorem leaf_draws (F : Facts C) (spot : Int) : Draws C (k + 2) (Str.ofString "_law_leaf") [.src, .dat (.int spot)] (IsTri Leaf) := fun σ hσ =>
  let ⟨d, p, x, σ', hl, hs, ht⟩ := leaf_ok F spot σ hσ
  ⟨_, σ', ⟨d, p, x, rfl, hl⟩, hs, ht k⟩
noncomputable abbrev iLoc2 (i : List PyData) (ds ps : List PyData) (xs : List Str) (deep spot : Int) : Loc := (Str.ofString "inner", .dat (.list i)) :: iLoc ds ps xs deep spot
theorem iface_end {deep : Nat} {spot : Int} {l : List (PyData × PyData × Str)} {ds ps : List PyData} {xs : List Str} (hl : l.length ≤ 2) (hx : xs.length ≤ 2) (h1 : ds.length ≤ 2) (h2 : ps.length ≤ 2) (xx : ∀ x ∈ xs, x.length ≤ 200000) (lx : ∀ z ∈ l, z.2.2.length ≤ 200000) :
    Sx C k ⟨scopeOf 49, []⟩ (iLoc2 (l.map tri3) ds ps xs deep spot) σ ((bodyOf 49).drop 3) (.ret (tri (.tuple [.str (Str.ofString "interface"), .int spot, .tuple ds, .tuple (l.map (·.1))]) (.tuple [.str (Str.ofString "interface"), .int 0, .tuple ps, .tuple (l.map (·.2.1))]) (braces (Str.ofString "interface") (xs ++ l.map (·.2.2)))) σ) := by
  have al : (xs ++ l.map (·.2.2)).length ≤ 4 := by rw [List.length_append, List.length_map]; omega
  have ax : ∀ x ∈ xs ++ l.map (·.2.2), x.length ≤ 200000 := fun x hx => by
    rcases List.mem_append.mp hx with hx | hx
    · exact xx x hx
    · obtain ⟨z, hz, rfl⟩ := List.mem_map.mp hx
      exact lx z hz
  have tx := total_le ax
  have t4 : (xs ++ l.map (·.2.2)).length * 200000 ≤ 4 * 200000 := Nat.mul_le_mul_right _ al
  conv in (List.drop 3 _) => whnf
  with_reducible apply Sx.let (d := .list ((xs ++ l.map (·.2.2)).map .str)) (σ₁ := σ)
  · rw [List.map_append]
    with_reducible apply Evf.ev
    with_reducible apply Evf.add (rr := .dat (.list ((l.map (·.2.2)).map .str)))
    · walk_at "m.run"
    · walk_at "m.run"
    · with_reducible apply Evf.ev
      with_reducible apply Evf.cmp (ρ' := [])
      · exact TgtE.name
      · with_reducible apply EvIt.list TgtE.name (r := .dat (.list (l.map tri3)))
        · walk_at "m.run"
        · exact LstOf.dat _
      · exact SubF.nil
      · rw [List.map_map]
        refine Ct.each (Tri.each 2 (fun d p x => ?_) l)
        walk_at "m.run"
      · rw [List.length_map]; omega
      all_goals walk_at "m.run"
    · exact LstOf.dat _
    · rw [List.length_map, List.length_map, List.length_map]; omega
  walk_at "m.run"
  generalize xs ++ l.map (·.2.2) = as at *
  have jx := join_len (Str.ofString "; ") as
  rw [ln1] at jx
  with_reducible apply Sx.let (d := .str (braces (Str.ofString "interface") as)) (σ₁ := σ)
  · cases as with
    | nil =>
      rw [show braces (Str.ofString "interface") [] = Str.ofString "interface{}" from by decide +kernel]
      with_reducible apply Ev.ifT
      all_goals walk_at "m.run"
    | cons x r =>
      rw [show braces (Str.ofString "interface") (x :: r) = (Str.ofString "interface { " ++ Txt.join (Str.ofString "; ") (x :: r)) ++ Str.ofString " }" from by
        show Str.ofString "interface" ++ ((Str.ofString " { " ++ Txt.join (Str.ofString "; ") (x :: r)) ++ Str.ofString " }") = _
        rw [← app_assoc, ← app_assoc]; rfl]
      with_reducible apply Ev.ifF
      walk_at "m.run"
      · with_reducible apply Ev.jn (ys := x :: r)
        walk_at "m.run"
        · rw [ln1]; show total (x :: r) + _ ≤ _
          omega
        all_goals walk_at "m.run"
      all_goals walk_at "m.run"
  walk_at "m.run"
  with_reducible apply Sx.let (d := .tuple [.str (Str.ofString "interface"), .int spot, .tuple ds, .tuple (l.map (·.1))]) (σ₁ := σ)
  · with_reducible apply Ev.tupl
    · apply Evs.con
      walk_at "m.run"
      · with_reducible apply Ev.tupC (σ := σ) (σ₁ := σ)
        · with_reducible apply Evf.ev
          with_reducible apply Evf.cmp (ρ' := [])
          · exact TgtE.name
          · with_reducible apply EvIt.list TgtE.name (r := .dat (.list (l.map tri3)))
            · walk_at "m.run"
            · exact LstOf.dat _
          · exact SubF.nil
          · refine Ct.each (Tri.each 0 (fun d p x => ?_) l)
            walk_at "m.run"
          · rw [List.length_map]; omega
          all_goals walk_at "m.run"
        all_goals walk_at "m.run"
        rw [List.length_map]; omega
      walk_at "m.run"
      · with_reducible apply Ev.tupC
        walk_at "m.run"
      walk_at "m.run"
    walk_at "m.run"
  walk_at "m.run"
  with_reducible apply Sx.return
  with_reducible apply Ev.tupl
  · apply Evs.con
    walk_at "m.run"
    · with_reducible apply Ev.tupC (σ := σ) (σ₁ := σ)
      · with_reducible apply Evf.ev
        with_reducible apply Evf.cmp (ρ' := [])
        · exact TgtE.name
        · with_reducible apply EvIt.list TgtE.name (r := .dat (.list (l.map tri3)))
          · walk_at "m.run"
          · exact LstOf.dat _
        · exact SubF.nil
        · refine Ct.each (Tri.each 1 (fun d p x => ?_) l)
          walk_at "m.run"
        · rw [List.length_map]; omega
        all_goals walk_at "m.run"
      all_goals walk_at "m.run"
      rw [List.length_map]; omega
    walk_at "m.run"
    · with_reducible apply Ev.tupC
      walk_at "m.run"
    walk_at "m.run"
  walk_at "m.run"
end
-- MD6
section
variable {C : Cx} {k : Nat} {fi : Fi} {ρ ρ' ρ₁ : Loc} {σ σ₁ σ₂ σ₃ : Int × Int} {R : Rel}
theorem iface_ok (F : Facts C) {deep : Nat} (hd : deep ≤ 2) (hS : SignedOk C (k + 2) deep) : IfaceOk C (k + 3) deep := fun spot σ hσ => by
  obtain ⟨m, σ₁, hm, h₁, t₁⟩ := take_ok F 3 (by decide) (by decide) σ hσ
  have hns : ∀ n ∈ [Str.ofString "m", Str.ofString "n"].take m, n.length ≤ 10 := fun n hn => by
    have := List.mem_of_mem_take hn
    simp only [List.mem_cons, List.not_mem_nil, or_false] at this
    rcases this with rfl | rfl <;> decide +kernel
  have hml : ([Str.ofString "m", Str.ofString "n"].take m).length ≤ 2 := by rw [List.length_take]; exact Nat.min_le_right _ _
  obtain ⟨fs, gs, xs, σ₂, hf, hlen, h₂, hloop⟩ := it_loop (k := k + 2) hd hS spot _ hns (by omega) σ₁ h₁
  obtain ⟨b, σ₃, hb, h₃, t₃⟩ := take_ok F 2 (by decide) (by decide) σ₂ h₂
  obtain ⟨ys, σ₄, hys, hyl, h₄, c₄⟩ := draws_ct (leaf_draws (k := k) F (spot + 9)) (by decide) (upTo b) σ₃ h₃
  obtain ⟨l, rfl, ll, ht, hl⟩ := tris3 hys
  have ln : l.length ≤ 1 := by rw [ll, hyl, upTo, List.length_map, List.length_range]; omega
  have hfl : fs.length ≤ 2 := by omega
  have hxl : xs.length ≤ 2 := by rw [hf.len₁.2]; exact hfl
  have hgl : gs.length ≤ 2 := by rw [hf.len₁.1]; exact hfl
  have hxx := Methods.len (TyR.len deep) hf
  have hb := bnd_le deep (by omega)
  have hb' : bnd deep ≤ 10000 := by
    match deep, hd with
    | 0, _ => decide
    | 1, _ => decide
    | 2, _ => decide
    | n + 3, h => omega
  refine ⟨_, σ₄, ⟨_, _, _, rfl, .iface (s := spot) hf ht hfl (by rw [List.length_map]; exact ln)⟩, h₄, ?_⟩
  refine FnD.intro [] F.law_interface ?_
  conv in (bodyOf _) => whnf
  with_reducible apply Sx.swp [Str.ofString "methods", Str.ofString "bare", Str.ofString "texts"] (avs := [.box [], .box [], .box []]) (σ₁ := σ)
  · exact Ev.three Evf.empty Evf.empty Evf.empty rfl rfl rfl
  walk_at "m.run"
  · walk_at "m.env"
  with_reducible apply Sx.loop (ds := ([Str.ofString "m", Str.ofString "n"].take m).map .str) (σ₁ := σ₁) (ρ₁ := iLoc ([] ++ fs) ([] ++ gs) ([] ++ xs) deep spot) (σ₂ := σ₂)
  · rw [List.map_take]
    with_reducible apply Evf.ev
    with_reducible apply Evf.upto
    · with_reducible apply Evf.ev
      with_reducible apply Evf.lst
      walk_at "m.run"
    · exact LstOf.dat _
    · with_reducible apply Ev.fn (rs := [.src, .dat (.int 3)])
      walk_at "m.run"
      exact t₁ (k + 1)
      walk_at "m.run"
    walk_at "m.run"
  · refine Fo.sub ?_ (hloop [] [] [] (by show 0 + _ ≤ _; omega) (by show 0 + _ ≤ _; omega) (by show 0 + _ ≤ _; omega))
    exact .cons rfl (.cons rfl (.cons rfl (.cons rfl (.cons rfl (.cons rfl .nil)))))
  walk_at "m.run"
  rw [List.nil_append, List.nil_append, List.nil_append]
  with_reducible apply Sx.comp (ρ' := [(Str.ofString "source", .src), (Str.ofString "spot", .dat (.int spot))]) (ds := upTo b) (σ₁ := σ₃)
  · exact TgtE.name
  · refine EvIt.range (n := b) ?_ (by omega) rfl
    with_reducible apply Ev.fn (rs := [.src, .dat (.int 2)])
    walk_at "m.run"
    exact t₃ (k + 1)
    walk_at "m.run"
  · exact .cons rfl rfl rfl (.cons rfl rfl rfl .nil)
  · refine c₄ _ _ _ _ _ _ _ (fun b σ => ?_) rfl rfl
    walk_at "m.run"
  · rw [upTo, List.length_map, List.length_range]; omega
  walk_at "m.run"
  · walk_at "m.env"
  walk_at "m.run"
  refine Sx.freeze (x := Str.ofString "inner") (ds := l.map tri3) rfl ?_
  refine Sx.sub (ρ' := iLoc2 (l.map tri3) fs gs xs deep spot) (.cons rfl (.cons rfl (.cons rfl (.cons rfl (.cons rfl (.cons rfl (.cons rfl .nil))))))) ?_
  exact iface_end (by omega) hxl hfl hgl (fun x hx => by have := hxx x hx; omega) (fun z hz => Nat.le_trans (leaf_len _ _ _ (hl z hz)) (by decide))
theorem type_up (F : Facts C) {deep : Nat} (hd : deep ≤ 2) (hT : TypeOk C (k + 1) deep) : TypeOk C (k + 4) (deep + 1) := by
  have hS := signed_ok F hd hT
  have hI := iface_ok F hd hS
  have hSt := struct_ok F hd hT
  exact type_step (k := k + 1) F hd (Draws.mono hT (by omega)) (fun s => Draws.mono (hS s) (by omega)) (fun s => Draws.mono (hSt s) (by omega)) hI
theorem types_ok (F : Facts C) : TypeOk C (k + 12) 3 ∧ SignedOk C (k + 10) 2 := by
  have h0 := type_zero (k := k) F
  have h1 := type_up (k := k + 2) F (by decide) h0
  have h2 := type_up (k := k + 5) F (by decide) h1
  exact ⟨type_up (k := k + 8) F (by decide) h2, signed_ok F (by decide) h2⟩
end
-- MZ1
section
variable {prog : Program} {w : World} {A : Around}
structure Feed (prog : Program) (w : World) (A : Around) (i l : Addr) (vs : List Value) (G : Nat → Heap → Prop) : Prop where
  at' : ∀ {k h h'}, G k h → (∀ o, h.get? i = some o → h'.get? i = some o) → (∀ o, h.get? l = some o → h'.get? l = some o) → G k h'
  live : ∀ {k h}, G k h → (∃ o, h.get? i = some o) ∧ ∃ o, h.get? l = some o
  item : ∀ {k x} {s : Shared} {Q E : Value → Shared → Prop}, G k s.heap → vs[k]? = some x → (∀ h', G (k + 1) h' → Heap.SameBut i s.heap h' → Q x { s with heap := h' }) → wpAny (model prog w) A (Builtin.SmallTypes.nextOf (.ref i)) Q E s
  done : ∀ {k} {s : Shared} {Q E : Value → Shared → Prop}, G k s.heap → vs[k]? = none → (∀ h' e, Heap.ExtBut i s.heap h' → (∃ o, h'.get? e = some o ∧ o.cls = .type "StopIteration") → E (.ref e) { s with heap := h' }) → wpAny (model prog w) A (Builtin.SmallTypes.nextOf (.ref i)) Q E s
theorem Feed.list (hh : A.handled = none) (i l : Addr) (hne : l ≠ i) (vs : List Value) : Feed prog w A i l vs fun k h => h.IsListIter i l k ∧ h.IsList l vs.toArray where
  at' := fun g a b => ⟨g.1.at a, g.2.at b⟩
  live := fun g => by obtain ⟨⟨o, e, _⟩, ⟨o', e', _⟩⟩ := g; exact ⟨⟨o, e⟩, ⟨o', e'⟩⟩
  item := fun g hx q => wpAny_nextOf_list_item g.1 g.2 (by simpa using hx) fun h' g' sb => q h' ⟨g', g.2.extBut sb.extBut hne⟩ sb
  done := fun g hx q => wpAny_nextOf_list_end hh g.1 g.2 (by simpa using hx) q
theorem nextOf_tup {i t : Addr} {k : Nat} {items : Array Value} {x : Value} {s : Shared} {Q E : Value → Shared → Prop} (hit : s.heap.IsTupleIter i t k) (ht : s.heap.IsTuple t items) (hx : items[k]? = some x)
    (hQ : ∀ h', h'.IsTupleIter i t (k + 1) → Heap.SameBut i s.heap h' → Q x { s with heap := h' }) : wpAny (model prog w) A (Builtin.SmallTypes.nextOf (.ref i)) Q E s := by
  obtain ⟨o, ho, hc, hd⟩ := id hit
  obtain ⟨ol, hol, _, nl, hdl⟩ := ht
  unfold Builtin.SmallTypes.nextOf
  refine wpAny_bind (wpAny_callSpecial?_slot (name := Str.ofString "__next__") hit.typeIs F.slot_tuple_iterator_next
    (wpAny_call_entry F.slot_tuple_iterator_next hit.typeIs F.entry_tuple_iterator_next ?_ (F.args_tuple_iterator_next_1 _)))
  show wpAny _ _ (field (.ref i) 0 >>= _) _ _ s
  refine wpAny_bind (wpAny_field ho hd (x := .ref t) rfl ?_)
  show wpAny _ _ (if (Value.ref t == Value.none) = true then _ else _) _ _ s
  rw [if_neg (show ¬ ((Value.ref t == Value.none) = true) from Bool.false_ne_true)]
  show wpAny _ _ (field (.ref i) 1 >>= _) _ _ s
  refine wpAny_bind (wpAny_field ho hd (x := .int k 0) rfl ?_)
  show wpAny _ _ (seqItems? (.ref t) >>= _) _ _ s
  refine wpAny_bind (wpAny_seqItems hol hdl ?_)
  simp only [Int.toNat_natCast, hx]
  refine wpAny_bind (wpAny_setField ho hd (by simp) (wpAny_pure ⟨x, rfl, wpAny_pure (hQ _ ?_ (Heap.SameBut.update ..))⟩))
  exact ⟨_, Heap.get?_update_self _ ho (Obj.isFreed_of_fields (Obj.data_mapFields hd _)), (Obj.cls_mapFields ..).trans hc, by
    rw [Obj.data_mapFields hd]; simp [rawInt]⟩
theorem nextOf_tup_end {i t : Addr} {k : Nat} {items : Array Value} {s : Shared} {Q E : Value → Shared → Prop} (hh : A.handled = none) (hit : s.heap.IsTupleIter i t k) (ht : s.heap.IsTuple t items) (hx : items[k]? = none)
    (hE : ∀ h' e, Heap.ExtBut i s.heap h' → (∃ o, h'.get? e = some o ∧ o.cls = .type "StopIteration") → E (.ref e) { s with heap := h' }) : wpAny (model prog w) A (Builtin.SmallTypes.nextOf (.ref i)) Q E s := by
  obtain ⟨o, ho, hc, hd⟩ := id hit
  obtain ⟨ol, hol, _, nl, hdl⟩ := ht
  unfold Builtin.SmallTypes.nextOf
  refine wpAny_bind (wpAny_callSpecial?_slot (name := Str.ofString "__next__") hit.typeIs F.slot_tuple_iterator_next
    (wpAny_call_entry F.slot_tuple_iterator_next hit.typeIs F.entry_tuple_iterator_next ?_ (F.args_tuple_iterator_next_1 _)))
  show wpAny _ _ (field (.ref i) 0 >>= _) _ _ s
  refine wpAny_bind (wpAny_field ho hd (x := .ref t) rfl ?_)
  show wpAny _ _ (if (Value.ref t == Value.none) = true then _ else _) _ _ s
  rw [if_neg (show ¬ ((Value.ref t == Value.none) = true) from Bool.false_ne_true)]
  show wpAny _ _ (field (.ref i) 1 >>= _) _ _ s
  refine wpAny_bind (wpAny_field ho hd (x := .int k 0) rfl ?_)
  show wpAny _ _ (seqItems? (.ref t) >>= _) _ _ s
  refine wpAny_bind (wpAny_seqItems hol hdl ?_)
  simp only [Int.toNat_natCast, hx]
  refine wpAny_bind (wpAny_rule (wpAny_bind (wpAny_setField ho hd (by simp) ?_)))
  show wpAny _ _ (newExc (.type "StopIteration") [] >>= _) _ _ _
  refine wpAny_bind ?_
  simp only [newExc, newTuple]
  refine wpAny_bind (wpAny_newObj_type ?_ (by size_fits))
  refine wpAny_bind (m := firstArgMember _ _) (wpAny_of_eq (a := Value.none) (by first | rfl | (simp only [firstArgMember]; rfl)) ?_)
  refine wpAny_newObj_type ?_ (by size_fits)
  simp only [raiseNew]
  refine wpAny_bind (wpAny_handled ?_)
  first | rw [show A.in1.handled = none from hh] | rw [hh]
  refine wpAny_bind (wpAny_pure (wpAny_throw ?_))
  exact hE _ _ (((Heap.SameBut.update ..).extBut.push _).push _) ⟨_, Heap.get?_push_size _ rfl, rfl⟩
theorem Feed.tup (hh : A.handled = none) (i l : Addr) (hne : l ≠ i) (vs : List Value) : Feed prog w A i l vs fun k h => h.IsTupleIter i l k ∧ h.IsTuple l vs.toArray where
  at' := fun g a b => ⟨g.1.at a, g.2.at b⟩
  live := fun g => by obtain ⟨⟨o, e, _⟩, ⟨o', e', _⟩⟩ := g; exact ⟨⟨o, e⟩, ⟨o', e'⟩⟩
  item := fun g hx q => nextOf_tup g.1 g.2 (by simpa using hx) fun h' g' sb => q h' ⟨g', g.2.extBut sb.extBut hne⟩ sb
  done := fun g hx q => nextOf_tup_end hh g.1 g.2 (by simpa using hx) q
end
section
variable {prog : Program} {w : World} {A : Around} {E : Value → Shared → Prop} {s : Shared} {z TI TO i1 i2 l1 l2 : Addr} {xs ys : List Value} {G₁ G₂ : Nat → Heap → Prop}
structure ZipSt (z TI TO i1 i2 : Addr) (G₁ G₂ : Nat → Heap → Prop) (f0 : Value) (j k : Nat) (h : Heap) : Prop where
  z : IsZip h z TI TO f0
  ti : IsPair h TI (.ref i1) (.ref i2)
  to : ∃ a b, IsPair h TO a b
  one : G₁ j h
  two : G₂ k h
theorem zip_turn (D : ZipApart z TI TO i1 i2 l1 l2) (F₁ : Feed prog w A i1 l1 xs G₁) (F₂ : Feed prog w A i2 l2 ys G₂) {k : Nat} {x y : Value} {Q : Value → Shared → Prop} (hz : ZipSt z TI TO i1 i2 G₁ G₂ .none k k s.heap) (hx : xs[k]? = some x) (hy : ys[k]? = some y)
    (hQ : ∀ h', ZipSt z TI TO i1 i2 G₁ G₂ (rawInt s.heap.objs.size) (k + 1) (k + 1) h' → IsPair h' s.heap.objs.size x y → (∀ c o, c ≠ z → c ≠ TO → c ≠ i1 → c ≠ i2 → s.heap.get? c = some o → h'.get? c = some o) → Q (.ref s.heap.objs.size) { s with heap := h' }) :
    wpAny (model prog w) A (Builtin.«zip.__next__» ⟨[.ref z], []⟩) (fun fin s' => ∃ v, fin = .done (.ret v) ∧ Q v s') E s := by
  obtain ⟨hz, hTI, ⟨a, b, hTO⟩, g1, g2⟩ := hz
  show wpAny _ _ (field (.ref z) 2 >>= _) _ _ _
  refine wpAny_bind (wpAny_field hz rfl (x := .bool false) rfl ?_)
  show wpAny _ _ (field (.ref z) 3 >>= _) _ _ _
  refine wpAny_bind (wpAny_field hz rfl (x := .ref TI) rfl (wpAny_bind (wpAny_seqItems hTI rfl ?_)))
  show wpAny _ _ (Builtin.SmallTypes.ownedTupleIsFree (.ref z) >>= _) _ _ _
  refine wpAny_bind ?_
  unfold Builtin.SmallTypes.ownedTupleIsFree
  refine wpAny_bind (wpAny_field hz rfl (x := .none) rfl (wpAny_pure ?_))
  simp only [if_true]
  refine wpAny_bind (wpAny_rule (wpAny_bind (wpAny_field hz rfl (x := .ref TO) rfl (wpAny_bind (wpAny_setField_rec hz (by simp) fun h₁ hz₁ s₁ => ?_)))))
  replace hz₁ : IsZip h₁ z TI TO .ellipsis := hz₁
  refine wpAny_bind ?_
  simp only [List.zipIdx_cons, List.zipIdx_nil, List.forIn_cons, List.forIn_nil]
  have k₁ : ∀ {c o}, c ≠ z → s.heap.get? c = some o → h₁.get? c = some o := fun n e => s₁.extBut _ _ n e
  refine wpAny_bind (wpAny_bind (wpAny_onRaise ?_))
  show wpAny _ _ (Builtin.SmallTypes.nextOf (.ref i1) >>= _) _ _ _
  refine wpAny_bind (F₁.item (F₁.at' g1 (fun _ e => k₁ D.i1z e) (fun _ e => k₁ D.l1z e)) hx fun h₂ g1₂ s₂ => wpAny_pure ?_)
  have k₂ : ∀ {c o}, c ≠ z → c ≠ i1 → s.heap.get? c = some o → h₂.get? c = some o := fun n m e => s₂.extBut _ _ m (k₁ n e)
  have to₂ : IsPair h₂ TO a b := k₂ D.TOz D.TOi1 hTO
  refine wpAny_bind (wpAny_seqItems to₂ rfl (wpAny_bind (wpAny_updateSeq_pair to₂ fun h₃ to₃ s₃ => ?_)))
  replace to₃ : IsPair h₃ TO x b := to₃
  have k₃ : ∀ {c o}, c ≠ z → c ≠ i1 → c ≠ TO → s.heap.get? c = some o → h₃.get? c = some o := fun n m p e => s₃.extBut _ _ p (k₂ n m e)
  refine wpAny_bind (wpAny_letGo (wpAny_pure ?_))
  refine wpAny_bind (wpAny_bind (wpAny_onRaise ?_))
  show wpAny _ _ (Builtin.SmallTypes.nextOf (.ref i2) >>= _) _ _ _
  refine wpAny_bind (F₂.item (F₂.at' g2 (fun _ e => k₃ D.i2z D.i12.symm D.TOi2.symm e) (fun _ e => k₃ D.l2z D.l2i1 D.l2TO e)) hy fun h₄ g2₄ s₄ => wpAny_pure ?_)
  have k₄ : ∀ {c o}, c ≠ z → c ≠ i1 → c ≠ TO → c ≠ i2 → s.heap.get? c = some o → h₄.get? c = some o := fun n m p q e => s₄.extBut _ _ q (k₃ n m p e)
  have to₄ : IsPair h₄ TO x b := s₄.extBut _ _ D.TOi2 to₃
  refine wpAny_bind (wpAny_seqItems to₄ rfl (wpAny_bind (wpAny_updateSeq_pair to₄ fun h₅ to₅ s₅ => ?_)))
  replace to₅ : IsPair h₅ TO x y := to₅
  have k₅ : ∀ {c o}, c ≠ z → c ≠ TO → c ≠ i1 → c ≠ i2 → s.heap.get? c = some o → h₅.get? c = some o := fun n p m q e => s₅.extBut _ _ p (k₄ n m p q e)
  refine wpAny_bind (wpAny_letGo (wpAny_pure (wpAny_pure ?_)))
  refine wpAny_bind (wpAny_seqItems to₅ rfl (wpAny_bind (wpAny_newTuple ?_)))
  have sz : h₅.objs.size = s.heap.objs.size := by rw [s₅.1, s₄.1, s₃.1, s₂.1, s₁.1]
  have z₅ : IsZip h₅ z TI TO .ellipsis := s₅.extBut _ _ D.TOz.symm (s₄.extBut _ _ D.i2z.symm (s₃.extBut _ _ D.TOz.symm (s₂.extBut _ _ D.i1z.symm hz₁)))
  have g1₅ : G₁ (k + 1) h₅ := F₁.at' g1₂ (fun _ e => s₅.extBut _ _ D.TOi1.symm (s₄.extBut _ _ D.i12 (s₃.extBut _ _ D.TOi1.symm e))) (fun _ e => s₅.extBut _ _ D.l1TO (s₄.extBut _ _ D.l1i2 (s₃.extBut _ _ D.l1TO e)))
  have g2₅ : G₂ (k + 1) h₅ := F₂.at' g2₄ (fun _ e => s₅.extBut _ _ D.TOi2.symm e) (fun _ e => s₅.extBut _ _ D.l2TO e)
  have lz : z < h₅.objs.size := Heap.lt_size z₅
  show wpAny _ _ (Builtin.SmallTypes.ownedTupleHandOut (.ref z) (.ref h₅.objs.size) >>= _) _ _ _
  refine wpAny_bind ?_
  unfold Builtin.SmallTypes.ownedTupleHandOut
  have z₆ : IsZip (h₅.push { cls := .type "tuple", data := .seq #[x, y] }) z TI TO .ellipsis := Heap.get?_push_of_some _ z₅
  refine wpAny_bind (wpAny_setField_rec z₆ (by simp) fun h₇ z₇ s₇ => ?_)
  replace z₇ : IsZip h₇ z TI TO (rawInt h₅.objs.size) := z₇
  refine wpAny_setField_rec z₇ (by simp) fun h₈ z₈ s₈ => ?_
  replace z₈ : IsZip h₈ z TI TO (rawInt h₅.objs.size) := z₈
  have up : ∀ {c o}, c ≠ z → h₅.get? c = some o → h₈.get? c = some o := fun n e => s₈.extBut _ _ n (s₇.extBut _ _ n (Heap.get?_push_of_some _ e))
  have t₈ : IsPair h₈ h₅.objs.size x y := s₈.extBut _ _ (Nat.ne_of_gt lz) (s₇.extBut _ _ (Nat.ne_of_gt lz) (Heap.get?_push_size _ rfl))
  rw [sz] at z₈ t₈
  refine wpAny_pure ⟨_, rfl, ?_⟩
  show Q (.ref h₅.objs.size) _
  rw [sz]
  exact hQ h₈ ⟨z₈, up D.TIz (k₅ D.TIz D.TITO D.TIi1 D.TIi2 hTI), ⟨_, _, up D.TOz to₅⟩, F₁.at' g1₅ (fun _ e => up D.i1z e) (fun _ e => up D.l1z e), F₂.at' g2₅ (fun _ e => up D.i2z e) (fun _ e => up D.l2z e)⟩ t₈ fun c o a b d e f => up a (k₅ a b d e f)
theorem zip_over (D : ZipApart z TI TO i1 i2 l1 l2) (F₁ : Feed prog w A i1 l1 xs G₁) {k : Nat} {Q : Fin → Shared → Prop} (hz : ZipSt z TI TO i1 i2 G₁ G₂ .none k k s.heap) (hx : xs[k]? = none)
    (hE : ∀ h' e, (∀ c o, c ≠ z → c ≠ TO → c ≠ i1 → c ≠ i2 → s.heap.get? c = some o → h'.get? c = some o) → (∃ o, h'.get? e = some o ∧ o.cls = .type "StopIteration") → E (.ref e) { s with heap := h' }) :
    wpAny (model prog w) A (Builtin.«zip.__next__» ⟨[.ref z], []⟩) Q E s := by
  obtain ⟨hz, hTI, ⟨a, b, hTO⟩, g1, g2⟩ := hz
  show wpAny _ _ (field (.ref z) 2 >>= _) _ _ _
  refine wpAny_bind (wpAny_field hz rfl (x := .bool false) rfl ?_)
  show wpAny _ _ (field (.ref z) 3 >>= _) _ _ _
  refine wpAny_bind (wpAny_field hz rfl (x := .ref TI) rfl (wpAny_bind (wpAny_seqItems hTI rfl ?_)))
  show wpAny _ _ (Builtin.SmallTypes.ownedTupleIsFree (.ref z) >>= _) _ _ _
  refine wpAny_bind ?_
  unfold Builtin.SmallTypes.ownedTupleIsFree
  refine wpAny_bind (wpAny_field hz rfl (x := .none) rfl (wpAny_pure ?_))
  simp only [if_true]
  refine wpAny_bind (wpAny_rule (wpAny_bind (wpAny_field hz rfl (x := .ref TO) rfl (wpAny_bind (wpAny_setField_rec hz (by simp) fun h₁ hz₁ s₁ => ?_)))))
  replace hz₁ : IsZip h₁ z TI TO .ellipsis := hz₁
  refine wpAny_bind ?_
  simp only [List.zipIdx_cons, List.zipIdx_nil, List.forIn_cons, List.forIn_nil]
  refine wpAny_bind (wpAny_bind (wpAny_onRaise ?_))
  show wpAny _ _ (Builtin.SmallTypes.nextOf (.ref i1) >>= _) _ _ _
  refine wpAny_bind (F₁.done (F₁.at' g1 (fun _ e => s₁.extBut _ _ D.i1z e) (fun _ e => s₁.extBut _ _ D.l1z e)) hx fun h₂ e x₂ he => ?_)
  obtain ⟨oe, hoe, hce⟩ := he
  have hz₂ : IsZip h₂ z TI TO .ellipsis := x₂ _ _ D.i1z.symm hz₁
  have hez : e ≠ z := fun q => by subst q; rw [hz₂] at hoe; cases hoe; simp at hce
  exact wpAny_setField_rec hz₂ (by simp) fun h₃ _ s₃ => hE h₃ e (fun c o c1 _ c3 _ q => s₃.extBut _ _ c1 (x₂ _ _ c3 (s₁.extBut _ _ c1 q))) ⟨oe, s₃.extBut _ _ hez hoe, hce⟩
end
-- MZ2
noncomputable abbrev zH1 (h : Heap) (l1 : Addr) : Heap := h.push { cls := .type "tuple_iterator", data := .fields #[.ref l1, .int 0 0] }
noncomputable abbrev zH2 (h : Heap) (l1 l2 : Addr) : Heap := (zH1 h l1).push { cls := .type "list_iterator", data := .fields #[.ref l2, .int 0 0] }
noncomputable abbrev zH3 (h : Heap) (l1 l2 : Addr) : Heap := (zH2 h l1 l2).push { cls := .type "tuple", data := .seq #[.ref h.objs.size, .ref (zH1 h l1).objs.size] }
noncomputable abbrev zH4 (h : Heap) (l1 l2 : Addr) : Heap := (zH3 h l1 l2).push { cls := .type "tuple", data := .seq #[.none, .none] }
noncomputable abbrev zH5 (h : Heap) (l1 l2 : Addr) : Heap := (zH4 h l1 l2).push { cls := .type "zip", data := .fields #[.none, .bool false, .bool false, .ref (zH2 h l1 l2).objs.size, .ref (zH3 h l1 l2).objs.size] }
theorem zip_made (l1 l2 : Addr) (xs ys : Array Value) :
    Meets (Builtin.«zip.__new__» ⟨[.type "zip", .ref l1, .ref l2], []⟩) (fun _ R s => s.heap.IsTuple l1 xs ∧ s.heap.IsList l2 ys ∧ R (.ok (.ret (.ref (zH4 s.heap l1 l2).objs.size))) { s with heap := zH5 s.heap l1 l2 }) :=
  .of_wp fun prog w A R s h => by
    obtain ⟨hp, g, d, tk, os⟩ := s; obtain ⟨hl1, hl2, h⟩ := h
    have hsub := sub_zip
    have hL1 : Heap.IsTuple (Shared.heap ⟨hp, g, d, tk, os⟩) l1 xs := hl1
    have hL2 : Heap.IsList (Shared.heap ⟨hp.push { cls := .type "tuple_iterator", data := .fields #[.ref l1, .int 0 0] }, g, d, tk, os⟩) l2 ys := Heap.IsList.push hl2 _
    wp_walk using wpAny_pyIter_tuple hL1, wpAny_pyIter_list hL2
    exact ⟨_, rfl, h⟩
theorem apart5 {n l1 l2 : Addr} (h1 : l1 < n) (h2 : l2 < n) : ZipApart (n + 4) (n + 2) (n + 3) n (n + 1) l1 l2 := by
  have e : ∀ {a b : Nat}, a < b → a ≠ b := fun h => Nat.ne_of_lt h
  have g : ∀ {a b : Nat}, b < a → a ≠ b := fun h => Nat.ne_of_gt h
  unfold Addr at *
  exact ⟨e (by omega), e (by omega), e (by omega), e (by omega), e (by omega), g (by omega), g (by omega), g (by omega), g (by omega), e (by omega), e (by omega), e (by omega), e (by omega), e (by omega), e (by omega), e (by omega), e (by omega), e (by omega)⟩
section
variable {prog : Program} {w : World} {A : Around} {E : Value → Shared → Prop} {s : Shared}
theorem call_zip_tl {l1 l2 : Addr} {xs ys : Array Value} {Q : Value → Shared → Prop} (hl1 : s.heap.IsTuple l1 xs) (hl2 : s.heap.IsList l2 ys)
    (h : ∀ h', IsZip h' (s.heap.objs.size + 4) (s.heap.objs.size + 2) (s.heap.objs.size + 3) .none → IsPair h' (s.heap.objs.size + 2) (.ref s.heap.objs.size) (.ref (s.heap.objs.size + 1)) →
      IsPair h' (s.heap.objs.size + 3) .none .none → h'.IsTupleIter s.heap.objs.size l1 0 → h'.IsListIter (s.heap.objs.size + 1) l2 0 → h'.objs.size = s.heap.objs.size + 5 →
      (∀ c o, s.heap.get? c = some o → h'.get? c = some o) → Q (.ref (s.heap.objs.size + 4)) { s with heap := h' }) :
    wpAny (model prog w) A (call (.type "zip") [.ref l1, .ref l2]) Q E s := by
  refine callType_new F.called_zip (by decide) (F.typeCall_zip_2 _ _) (F.newCall_zip_2 _ _) (fun obj => F.args_object_init_3 obj _ _) F.entry_zip_new (zip_made l1 l2 xs ys) ⟨hl1, hl2, ?_⟩
  have z1 : (zH1 s.heap l1).objs.size = s.heap.objs.size + 1 := Heap.size_push ..
  have z2 : (zH2 s.heap l1 l2).objs.size = s.heap.objs.size + 2 := by rw [Heap.size_push, z1]
  have z3 : (zH3 s.heap l1 l2).objs.size = s.heap.objs.size + 3 := by rw [Heap.size_push, z2]
  have z4 : (zH4 s.heap l1 l2).objs.size = s.heap.objs.size + 4 := by rw [Heap.size_push, z3]
  have z5 : (zH5 s.heap l1 l2).objs.size = s.heap.objs.size + 5 := by rw [Heap.size_push, z4]
  have up : ∀ {c o}, (zH4 s.heap l1 l2).get? c = some o → (zH5 s.heap l1 l2).get? c = some o := fun e => Heap.get?_push_of_some _ e
  have g5 : (zH5 s.heap l1 l2).get? (zH4 s.heap l1 l2).objs.size = some _ := Heap.get?_push_size _ rfl
  have g4 : (zH5 s.heap l1 l2).get? (zH3 s.heap l1 l2).objs.size = some _ := up (Heap.get?_push_size _ rfl)
  have g3 : (zH5 s.heap l1 l2).get? (zH2 s.heap l1 l2).objs.size = some _ := up (Heap.get?_push_of_some _ (Heap.get?_push_size _ rfl))
  have g2 : (zH5 s.heap l1 l2).get? (zH1 s.heap l1).objs.size = some _ := up (Heap.get?_push_of_some _ (Heap.get?_push_of_some _ (Heap.get?_push_size _ rfl)))
  have g1 : (zH5 s.heap l1 l2).get? s.heap.objs.size = some _ := up (Heap.get?_push_of_some _ (Heap.get?_push_of_some _ (Heap.get?_push_of_some _ (Heap.get?_push_size _ rfl))))
  show _ ∧ _
  rw [z2, z3, z4] at g5
  rw [z1, z2] at g3
  rw [z3] at g4
  rw [z1] at g2
  rw [z4]
  exact ⟨⟨_, g5, rfl⟩, h _ g5 g3 g4 ⟨_, g1, rfl, rfl⟩ ⟨_, g2, rfl, rfl⟩ z5 fun c o x => up (Heap.get?_push_of_some _ (Heap.get?_push_of_some _ (Heap.get?_push_of_some _ (Heap.get?_push_of_some _ x))))⟩
end
noncomputable def pairs (ds es : List PyData) : List PyData := List.zipWith (fun a b => PyData.tuple [a, b]) ds es
theorem pairs_at {ds es : List PyData} {i : Nat} {d : PyData} (h : (pairs ds es)[i]? = some d) : ∃ a b, ds[i]? = some a ∧ es[i]? = some b ∧ d = .tuple [a, b] := by
  unfold pairs at h
  rw [List.getElem?_zipWith] at h
  cases ha : ds[i]? with
  | none => rw [ha] at h; cases h
  | some a =>
    cases hb : es[i]? with
    | none => rw [ha, hb] at h; cases h
    | some b => rw [ha, hb] at h; cases h; exact ⟨a, b, rfl, rfl, rfl⟩
section
variable {C : Cx} {k : Nat} {fi : Fi} {ρ ρ' ρ₁ ρ₂ : Loc} {σ σ₁ σ₂ σ₃ : Int × Int} {z TI TO i1 i2 l1 l2 : Addr} {G₁ G₂ : Nat → Heap → Prop}
theorem Iter.zip {A : Around} {elts : List Expr} {kd : Nat} {tp : Pos} {vs ws : List Value} {P₀ : PH} {ds es : List PyData} (D : ZipApart z TI TO i1 i2 l1 l2) (r₁ : Reps P₀ vs ds) (r₂ : Reps P₀ ws es) (hl : ds.length = es.length) (F₁ : Feed C.prog C.w A.in1 i1 l1 vs G₁) (F₂ : Feed C.prog C.w A.in1 i2 l2 ws G₂) :
    Iter C A (.Tuple elts kd tp) z [z, TI, TO, i1, i2, l1, l2] [z, TO, i1, i2] P₀ (pairs ds es) (fun k h => ZipSt z TI TO i1 i2 G₁ G₂ .none k k h) where
  sub := fun b hb => by simp only [List.mem_cons, List.not_mem_nil, or_false] at hb ⊢; rcases hb with rfl | rfl | rfl | rfl <;> simp
  frame := fun i h h' st hk => by
    obtain ⟨a, b, e⟩ := st.to
    exact ⟨hk z (by simp) _ st.z, hk TI (by simp) _ st.ti, ⟨a, b, hk TO (by simp) _ e⟩, F₁.at' st.one (hk i1 (by simp)) (hk l1 (by simp)), F₂.at' st.two (hk i2 (by simp)) (hk l2 (by simp))⟩
  live := fun i h st b hb => by
    obtain ⟨_, _, e⟩ := st.to
    simp only [List.mem_cons, List.not_mem_nil, or_false] at hb
    rcases hb with rfl | rfl | rfl | rfl
    · exact ⟨_, st.z⟩
    · exact ⟨_, e⟩
    · exact (F₁.live st.one).1
    · exact (F₂.live st.two).1
  item := fun i d s P Q E hd st le stay wP hQ => by
    obtain ⟨a, b, ha, hb, rfl⟩ := pairs_at hd
    obtain ⟨x, hx, rx⟩ := r₁.get ha
    obtain ⟨y, hy, ry⟩ := r₂.get hb
    have hT : s.TypeIs (.ref z) "zip" := ⟨_, st.z, rfl⟩
    unfold pyNext
    refine wpAny_bind (wpAny_attempt (wpAny_callSpecial?_slot (name := Str.ofString "__next__") hT F.slot_zip_next
      (wpAny_call_entry F.slot_zip_next hT F.entry_zip_next (zip_turn D F₁ F₂ st hx hy fun h' st' hp hk => wpAny_pure ?_) (F.args_zip_next_1 _))))
    refine ⟨_, rfl, ?_⟩
    refine wpAny_letOwnedTupleGo_zip (s := { s with heap := h' }) st'.z fun h'' z'' sb => ?_
    have lz : z < s.heap.objs.size := Heap.lt_size st.z
    obtain ⟨_, _, eTO⟩ := st.to
    have nw : ∀ b ∈ [z, TO, i1, i2], b ≠ s.heap.objs.size := fun b hb => by
      simp only [List.mem_cons, List.not_mem_nil, or_false] at hb
      rcases hb with rfl | rfl | rfl | rfl
      · exact Nat.ne_of_lt lz
      · exact Nat.ne_of_lt (Heap.lt_size eTO)
      · obtain ⟨_, e⟩ := (F₁.live st.one).1; exact Nat.ne_of_lt (Heap.lt_size e)
      · obtain ⟨_, e⟩ := (F₂.live st.two).1; exact Nat.ne_of_lt (Heap.lt_size e)
    have nP : P s.heap.objs.size = none := by
      cases q : P s.heap.objs.size with
      | none => rfl
      | some o => have := stay _ _ q; rw [fresh_size] at this; cases this
    have keep : ∀ b o, b ∉ [z, TO, i1, i2] → s.heap.get? b = some o → h''.get? b = some o := fun b o hb e => sb.extBut _ _ (fun q => hb (by simp [q])) (hk b o (fun q => hb (by simp [q])) (fun q => hb (by simp [q])) (fun q => hb (by simp [q])) (fun q => hb (by simp [q])) e)
    have le' : PLe P (P.add s.heap.objs.size (tupO [x, y] 0)) := PH.le_add nP
    have hp'' : h''.get? s.heap.objs.size = some (tupO [x, y] 0) := sb.extBut _ _ (nw z (by simp)).symm hp
    obtain ⟨a', b', e'⟩ := st'.to
    refine hQ (.ref s.heap.objs.size) h'' s.toks (P.add s.heap.objs.size (tupO [x, y] 0)) (.tup PH.add_self (Reps.mono (le.trans le') (.cons rx (.cons ry .nil)))) le' (fun c o e => ?_) (fun c o e => ?_) (fun c hc => ?_)
      ⟨z'', sb.extBut _ _ D.TIz st'.ti, ⟨a', b', sb.extBut _ _ D.TOz e'⟩, F₁.at' st'.one (fun _ e => sb.extBut _ _ D.i1z e) (fun _ e => sb.extBut _ _ D.l1z e), F₂.at' st'.two (fun _ e => sb.extBut _ _ D.i2z e) (fun _ e => sb.extBut _ _ D.l2z e)⟩ keep
    · by_cases q : c = s.heap.objs.size
      · subst q; exact .inr (fresh_size _)
      · simp only [PH.add, if_neg q] at e; exact .inl e
    · by_cases q : c = s.heap.objs.size
      · subst q
        simp only [PH.add, if_true] at e; cases e; exact hp''
      · simp only [PH.add, if_neg q] at e
        exact keep c o (fun hc => by rw [wP c hc] at e; cases e) (stay c o e)
    · simp only [PH.add, if_neg (nw c hc)]; exact wP c hc
  done := fun s Q E st hQ => by
    have hT : s.TypeIs (.ref z) "zip" := ⟨_, st.z, rfl⟩
    have hlen : (pairs ds es).length = vs.length := by rw [pairs, List.length_zipWith, r₁.length, hl, Nat.min_self]
    unfold pyNext
    refine wpAny_bind (wpAny_attempt (wpAny_callSpecial?_slot (name := Str.ofString "__next__") hT F.slot_zip_next
      (wpAny_call_entry F.slot_zip_next hT F.entry_zip_next (zip_over D F₁ st (by rw [hlen]; simp) fun h' e hk he => ?_) (F.args_zip_next_1 _))))
    obtain ⟨o, ho, hc⟩ := he
    refine wpAny_bind (wpAny_isInstance (T := "StopIteration") (b := true) ⟨o, ho, hc⟩ isSubtype_stop ?_)
    exact wpAny_pure (hQ h' s.toks fun b o hb e => hk b o (fun q => hb (by simp [q])) (fun q => hb (by simp [q])) (fun q => hb (by simp [q])) (fun q => hb (by simp [q])) e)
  self := fun _ _ _ _ st hQ => wpAny_pyIter_zip st.z hQ
theorem EvIt.zip {elts : List Expr} {kd : Nat} {tp p pos : Pos} {e₁ e₂ : Expr} {ds es : List PyData} (ha : Args C k fi ρ σ [e₁, e₂] [.dat (.tuple ds), .dat (.list es)] σ₁) (hl : ds.length = es.length) (hx : fi.sc.names.lookup (Str.ofString "zip") = some .globalImplicit) (hs : [e₁, e₂].all noStar = true) :
    EvIt C k fi ρ σ (.Tuple elts kd tp) (.Call (.Name (Str.ofString "zip") p) [e₁, e₂] [] pos) (pairs ds es) σ₁ := .mk <| fun f A s P μ E Q hA hS q => by
  rw [eval_Call_name]
  refine wpAny_bind (global_builtin hS hx (by decide) boot_zip (by decide) (by decide) ?_)
  have h1 : noStar e₁ = true := by simp only [List.all_cons, Bool.and_eq_true] at hs; exact hs.1
  refine PyProof.Rows.callWith_type (plainArgs hs) ?_
  have e1 := starEach_cons (env := f.env) (es := [e₂]) h1
  have := ha.run f A s P μ E (fun vs s' => wpAny (model C.prog C.w) A (call (.type "zip") ([] ++ vs)) (fun x s₁ => wpAny (model C.prog C.w) A (pyIter x) Q E s₁) E s') pos hA hS fun vs h₁ t₁ P₁ c₁ b₁ r => by
    have hS₁ := hS.after c₁ b₁
    cases r with
    | dat ra r =>
    cases r with
    | dat rb r =>
    cases r
    cases ra with
    | tup hpa rsa =>
    cases rb with
    | lst hpb rsb =>
    rename_i a1 xs n1 a2 ys n2
    have hla := b₁.stay _ _ hpa
    have hlb := b₁.stay _ _ hpb
    refine call_zip_tl (s := { s with heap := h₁, toks := t₁ }) (l1 := a1) (l2 := a2) (xs := xs.toArray) (ys := ys.toArray) ⟨_, hla, rfl, n1, rfl⟩ ⟨_, hlb, rfl, n2, rfl⟩ fun h₂ g1 g2 g3 g4 g5 hsz hk => ?_
    have hz : ZipSt (h₁.objs.size + 4) (h₁.objs.size + 2) (h₁.objs.size + 3) h₁.objs.size (h₁.objs.size + 1) (fun k h => h.IsTupleIter h₁.objs.size a1 k ∧ h.IsTuple a1 xs.toArray) (fun k h => h.IsListIter (h₁.objs.size + 1) a2 k ∧ h.IsList a2 ys.toArray) .none 0 0 h₂ :=
      ⟨g1, g2, ⟨_, _, g3⟩, ⟨g4, _, hk _ _ hla, rfl, n1, rfl⟩, ⟨g5, _, hk _ _ hlb, rfl, n2, rfl⟩⟩
    refine wpAny_pyIter_zip (s := { s with heap := h₂, toks := t₁ }) g1 ?_
    have lt1 : a1 < h₁.objs.size := Heap.lt_size hla
    have lt2 : a2 < h₁.objs.size := Heap.lt_size hlb
    have D := apart5 lt1 lt2
    have nw : ∀ {b : Addr}, h₁.objs.size ≤ b → h₁.get? b = none := fun {b} hb => by
      cases q : h₁.get? b with
      | none => rfl
      | some o => exact absurd (Heap.lt_size q) (Nat.not_lt.mpr hb)
    have old : ∀ {b : Addr}, h₁.objs.size ≤ b → s.heap.get? b = none ∧ P₁ b = none := fun hb => ⟨old_none c₁ (nw hb), none_of_size b₁ (nw hb)⟩
    have ne : ∀ {b : Addr} {o : Obj}, h₁.get? b = some o → ∀ {c : Addr}, h₁.objs.size ≤ c → b ≠ c := fun e _ hc q => by subst q; rw [nw hc] at e; cases e
    have sq1 := hS₁.apartSeq hla ⟨_, _, rfl⟩
    have sq2 := hS₁.apartSeq hlb ⟨_, _, rfl⟩
    have five : ∀ {b : Addr}, b ∈ [h₁.objs.size + 4, h₁.objs.size + 2, h₁.objs.size + 3, h₁.objs.size, h₁.objs.size + 1, a1, a2] → h₁.objs.size ≤ b ∨ b = a1 ∨ b = a2 := fun {b} hb => by
      simp only [List.mem_cons, List.not_mem_nil, or_false] at hb
      rcases hb with rfl | rfl | rfl | rfl | rfl | rfl | rfl
      · exact .inl (Nat.le_add_right _ _)
      · exact .inl (Nat.le_add_right _ _)
      · exact .inl (Nat.le_add_right _ _)
      · exact .inl (Nat.le_refl _)
      · exact .inl (Nat.le_add_right _ _)
      · exact .inr (.inl rfl)
      · exact .inr (.inr rfl)
    refine q (h₁.objs.size + 4) _ _ _ h₂ t₁ P₁ (c₁.trans (CStep.ext hk)) (b₁.ext hk) (Iter.zip D rsa rsb hl (Feed.tup (A := A.in1) hA.1 _ _ D.l1i1 _) (Feed.list (A := A.in1) hA.1 _ _ D.l2i2 _)) hz (fun b hb => ?_) (fun b hb => ?_) (fun o hm => ?_) (fun hm => ?_) fun x c hc hm => ?_
    · rw [hsz]
      rcases five hb with h | rfl | rfl
      · simp only [List.mem_cons, List.not_mem_nil, or_false] at hb
        rcases hb with rfl | rfl | rfl | rfl | rfl | rfl | rfl
        · exact Nat.add_lt_add_left (by decide) _
        · exact Nat.add_lt_add_left (by decide) _
        · exact Nat.add_lt_add_left (by decide) _
        · exact Nat.lt_add_of_pos_right (by decide)
        · exact Nat.add_lt_add_left (by decide) _
        · exact Nat.lt_of_lt_of_le lt1 (Nat.le_add_right _ _)
        · exact Nat.lt_of_lt_of_le lt2 (Nat.le_add_right _ _)
      · exact Nat.lt_of_lt_of_le lt1 (Nat.le_add_right _ _)
      · exact Nat.lt_of_lt_of_le lt2 (Nat.le_add_right _ _)
    · refine old ?_
      simp only [List.mem_cons, List.not_mem_nil, or_false] at hb
      rcases hb with rfl | rfl | rfl | rfl
      · exact Nat.le_add_right _ _
      · exact Nat.le_add_right _ _
      · exact Nat.le_refl _
      · exact Nat.le_add_right _ _
    · rcases five hm with h | h | h
      · obtain ⟨_, ta, tb, n, l⟩ := b₁.src o
        exact ne l h rfl
      · rw [← h] at hpa; rw [(b₁.src o).1] at hpa; cases hpa
      · rw [← h] at hpb; rw [(b₁.src o).1] at hpb; cases hpb
    · rcases five hm with h | h | h
      · obtain ⟨oL, es', ep, eL, dL⟩ := hS₁.L_dict
        exact ne eL h rfl
      · exact sq1.1 h
      · exact sq2.1 h
    · rcases five hm with h | h | h
      · obtain ⟨oc, hoc, hd'⟩ := (hS₁.cell x c hc).2.2
        exact ne hoc h rfl
      · exact sq1.2 x c hc h
      · exact sq2.2 x c hc h
  rw [e1] at this ⊢
  exact evalArgs_plain this
end
-- ME1
section
variable {C : Cx} {k : Nat} {fi : Fi} {ρ ρ' ρ₁ ρ₂ : Loc} {σ σ₁ σ₂ σ₃ : Int × Int}
noncomputable def anyName (ns : List Str) : List Str := ns.filter fun n => !(n == Str.ofString "_")
theorem Ct.filt {x : Str} {e : Expr} {ifs : List Expr} (hi : ∀ n : Str, Ifs C k fi ((x, .dat (.str n)) :: ρ) σ ifs (!(n == Str.ofString "_")) σ) (he : ∀ n : Str, Ev C k fi ((x, .dat (.str n)) :: ρ) σ e (.dat (.str n)) σ) :
    ∀ ns : List Str, Ct C k fi ρ e ifs (.name x) σ (ns.map .str) ((anyName ns).map .str) σ
  | [] => .nil
  | n :: ns => by
    have ih := Ct.filt hi he ns
    have h1 := hi n
    unfold anyName at ih ⊢
    rw [List.filter_cons]
    cases hb : !(n == Str.ofString "_") with
    | true => rw [hb] at h1; exact .cons rfl h1 (he n) ih
    | false => rw [hb] at h1; exact .skip rfl h1 ih
noncomputable def namesOn (ns xs : List Str) : List Str := List.zipWith (fun n x => (n ++ Str.ofString " ") ++ x) ns xs
theorem pairs_each {f : PyData → PyData → PyData → Prop} : ∀ (ns xs : List Str), (∀ n ∈ ns, ∀ x ∈ xs, f (.str n) (.str x) (.str ((n ++ Str.ofString " ") ++ x))) → EachP f (pairs (ns.map .str) (xs.map .str)) ((namesOn ns xs).map .str)
  | [], _, _ => .nil
  | _ :: _, [], _ => .nil
  | n :: ns, x :: xs, h => .cons (h n (.head _) x (.head _)) (pairs_each ns xs fun m hm y hy => h m (.tail _ hm) y (.tail _ hy))
noncomputable abbrev nFi : Fi := ⟨scopeOf 15, []⟩
noncomputable abbrev nLoc (xs ns rs : List Str) (t : PyData) : Loc := [(Str.ofString "types", .dat (.list (xs.map .str))), (Str.ofString "told", .dat t), (Str.ofString "params", .dat (.tuple (ns.map .str))), (Str.ofString "results", .dat (.tuple (rs.map .str)))]
noncomputable abbrev nLoc2 (ys xs ns rs : List Str) (t : PyData) : Loc := (Str.ofString "outs", .dat (.list (ys.map .str))) :: nLoc xs ns rs t
noncomputable def insN (ns xs : List Str) : List Str := if (anyName ns).isEmpty then xs else namesOn ns xs
noncomputable def outsN (rs ys : List Str) : List Str := if rs.isEmpty then ys else namesOn rs ys
theorem sgn_params {xs ns rs : List Str} {t : PyData} {o : Out} (hl : (anyName ns).isEmpty = true ∨ ns.length = xs.length) (hn : ns.length ≤ 2) (nx : ∀ n ∈ ns, n.length ≤ 100) (xx : ∀ x ∈ xs, x.length ≤ 100)
    (h : Sx C k nFi (nLoc (insN ns xs) ns rs t) σ ((bodyOf 15).drop 3) o) : Sx C k nFi (nLoc xs ns rs t) σ ((bodyOf 15).drop 2) o := by
  conv in (List.drop 2 _) => whnf
  have test : ∀ {b : Bool}, (!(anyName ns).isEmpty) = b → (!((anyName ns).map PyData.str).isEmpty) = b := fun h => by rw [List.isEmpty_map]; exact h
  unfold insN at h
  cases hb : (anyName ns).isEmpty with
  | true =>
    rw [hb, if_pos rfl] at h
    with_reducible apply Sx.ifSkip
    · with_reducible apply Ev.nilNe
      · with_reducible apply Evf.cmp (ds := ns.map .str) (ys := (anyName ns).map .str)
        · exact TgtE.name
        · with_reducible apply EvIt.tup TgtE.name
          walk_at "m.run"
        · exact SubF.nil
        · refine Ct.filt (fun n => Ifs.one ?_) (fun n => ?_) ns
          · walk_at "m.run"
          · walk_at "m.run"
        · rw [List.length_map]; omega
        all_goals walk_at "m.run"
      · exact test (by rw [hb]; rfl)
    exact h
  | false =>
    rw [hb, if_neg (by decide)] at h
    have hl' : ns.length = xs.length := by
      rcases hl with e | e
      · rw [hb] at e; cases e
      · exact e
    with_reducible apply Sx.ifThen (ρ₁ := (Str.ofString "types", .box ((namesOn ns xs).map .str)) :: nLoc xs ns rs t) (σ₂ := σ)
    · with_reducible apply Ev.nilNe
      · with_reducible apply Evf.cmp (ds := ns.map .str) (ys := (anyName ns).map .str)
        · exact TgtE.name
        · with_reducible apply EvIt.tup TgtE.name
          walk_at "m.run"
        · exact SubF.nil
        · refine Ct.filt (fun n => Ifs.one ?_) (fun n => ?_) ns
          · walk_at "m.run"
          · walk_at "m.run"
        · rw [List.length_map]; omega
        all_goals walk_at "m.run"
      · exact test (by rw [hb]; rfl)
    · with_reducible apply Sx.comp (ds := pairs (ns.map .str) (xs.map .str)) (ys := (namesOn ns xs).map .str) (σ₁ := σ) (σ₂ := σ)
      · exact TgtE.pair
      · refine EvIt.zip ?_ (by rw [List.length_map, List.length_map]; exact hl') rfl rfl
        walk_at "m.run"
      · exact SubF.nil
      · refine Ct.eachPair (pairs_each ns xs fun n hn x hx => ?_)
        have h1 := nx n hn
        have h2 := xx x hx
        walk_at "m.run"
      · unfold pairs
        rw [List.length_zipWith, List.length_map]; omega
      · rfl
      · walk_at "m.env"
      iterate 6 first | rfl | (intro _ _; rfl)
      exact Sx.nil
    refine Sx.freeze (x := Str.ofString "types") (ds := (namesOn ns xs).map .str) rfl ?_
    exact Sx.sub (ρ' := nLoc (namesOn ns xs) ns rs t) (.cons rfl (.cons rfl (.cons rfl (.cons rfl .nil)))) h
theorem sgn_results {ys xs ns rs : List Str} {t : PyData} {o : Out} (hl : rs = [] ∨ rs.length = ys.length) (hn : rs.length ≤ 2) (nx : ∀ n ∈ rs, n.length ≤ 100) (xx : ∀ x ∈ ys, x.length ≤ 100)
    (h : Sx C k nFi (nLoc2 (outsN rs ys) xs ns rs t) σ ((bodyOf 15).drop 5) o) : Sx C k nFi (nLoc2 ys xs ns rs t) σ ((bodyOf 15).drop 4) o := by
  conv in (List.drop 4 _) => whnf
  unfold outsN at h
  cases rs with
  | nil =>
    with_reducible apply Sx.ifSkip
    · walk_at "m.run"
    exact h
  | cons r rs =>
    have hl' : (r :: rs).length = ys.length := by
      rcases hl with e | e
      · cases e
      · exact e
    generalize he : r :: rs = rr at *
    have hne : rr.isEmpty = false := by rw [← he]; rfl
    rw [hne, if_neg (by decide)] at h
    with_reducible apply Sx.ifThen (ρ₁ := (Str.ofString "outs", .box ((namesOn rr ys).map .str)) :: nLoc2 ys xs ns rr t) (σ₂ := σ)
    · rw [← he]
      walk_at "m.run"
    · with_reducible apply Sx.comp (ds := pairs (rr.map .str) (ys.map .str)) (ys := (namesOn rr ys).map .str) (σ₁ := σ) (σ₂ := σ)
      · exact TgtE.pair
      · refine EvIt.zip ?_ (by rw [List.length_map, List.length_map]; exact hl') rfl rfl
        walk_at "m.run"
      · exact SubF.nil
      · refine Ct.eachPair (pairs_each rr ys fun n hn x hx => ?_)
        have h1 := nx n hn
        have h2 := xx x hx
        walk_at "m.run"
      · unfold pairs
        rw [List.length_zipWith, List.length_map]; omega
      · rfl
      · walk_at "m.env"
      iterate 6 first | rfl | (intro _ _; rfl)
      exact Sx.nil
    refine Sx.freeze (x := Str.ofString "outs") (ds := (namesOn rr ys).map .str) rfl ?_
    exact Sx.sub (ρ' := nLoc2 (namesOn rr ys) xs ns rr t) (.cons rfl (.cons rfl (.cons rfl (.cons rfl (.cons rfl .nil))))) h
end
-- ME2
section
variable {C : Cx} {k : Nat} {fi : Fi} {ρ ρ' ρ₁ ρ₂ : Loc} {σ σ₁ σ₂ σ₃ : Int × Int}
theorem op_eq_unit {ds : List PyData} {b : Bool} (hb : ds.isEmpty = b) : OpD C k (compareOp .Eq) (.tuple ds) (.tuple []) (.bool b) := .mk <| fun A s P σ E Q v₁ v₂ hA B r₁ r₂ q => by
  cases r₁ with
  | tup h₁ rs₁ =>
  rename_i vs m
  cases r₂ with
  | tup h₂ rs₂ =>
  cases rs₂
  have lb : s.heap.IsTuple _ vs.toArray := ⟨_, B.stay _ _ h₁, rfl, m, rfl⟩
  have la : s.heap.IsTuple _ ([] : List Value).toArray := ⟨_, B.stay _ _ h₂, rfl, _, rfl⟩
  refine SeqAt.RcAt.tuples (e := fun _ => true) lb la (by have := hA.units; omega) (fun j _ h2 => absurd h2 (by simp)) C.prog C.w E Q ?_
  have e : ((List.range (min vs.toArray.size ([] : List Value).toArray.size)).all (fun _ => true) && vs.toArray.size == ([] : List Value).toArray.size) = b := by
    have l := rs₁.length
    rw [← hb]; cases vs <;> cases ds <;> simp at l ⊢
  rw [e]
  exact toks_step (tk := s.toks) B q (.bool _)
noncomputable abbrev baseN (ins : List Str) : Str := (Str.ofString "(" ++ Txt.join (Str.ofString ", ") ins) ++ Str.ofString ")"
noncomputable def sigN (ins outs rs : List Str) : Str := match outs, rs with
  | [], _ => baseN ins
  | [o], [] => (baseN ins ++ Str.ofString " ") ++ o
  | os, _ => ((baseN ins ++ Str.ofString " (") ++ Txt.join (Str.ofString ", ") os) ++ Str.ofString ")"
theorem sgn_end {ins outs ns rs : List Str} {t : PyData} (hi : ins.length ≤ 2) (ix : ∀ x ∈ ins, x.length ≤ 1000) (ho : outs.length ≤ 2) (ox : ∀ x ∈ outs, x.length ≤ 1000) (hr : rs = [] ∨ rs.length = outs.length) :
    Sx C k nFi (nLoc2 outs ins ns rs t) σ ((bodyOf 15).drop 5) (.ret (.str (sigN ins outs rs)) σ) := by
  have j1 := join_len (Str.ofString ", ") ins
  have t1 := total_le ix
  have l1 : ins.length * 1000 ≤ 2 * 1000 := Nat.mul_le_mul_right _ hi
  obtain ⟨t2, j2⟩ : total outs ≤ 2000 ∧ (Txt.join (Str.ofString ", ") outs).length ≤ 3000 := by
    have j2 := join_len (Str.ofString ", ") outs
    have t2 := total_le ox
    have l2 : outs.length * 1000 ≤ 2 * 1000 := Nat.mul_le_mul_right _ ho
    rw [ln0] at j2
    omega
  rw [ln0] at j1
  conv in (List.drop 5 _) => whnf
  with_reducible apply Sx.let (d := .str (baseN ins)) (σ₁ := σ)
  · with_reducible apply Ev.bin
    with_reducible apply Ev.bin
    walk_at "m.run"
    with_reducible apply Ev.jn (ys := ins)
    walk_at "m.run"
    · rw [ln0]; show total ins + _ ≤ _
      omega
    all_goals walk_at "m.run"
  walk_at "m.run"
  have lb : (baseN ins).length ≤ 10000 := by rw [len_app, len_app, ln2, ln4]; omega
  match outs, rs, hr, ho, ox, j2, t2 with
  | [], rs, _, _, _, _, _ =>
    show Sx _ _ _ _ _ _ (.ret (.str (baseN ins)) σ)
    generalize baseN ins = bn at *
    with_reducible apply Sx.ifRet
    walk_at "m.run"
    with_reducible apply Sx.return
    walk_at "m.run"
  | [o], [], _, _, ox, _, _ =>
    have lo := ox o (.head _)
    show Sx _ _ _ _ _ _ (.ret (.str ((baseN ins ++ Str.ofString " ") ++ o)) σ)
    generalize baseN ins = bn at *
    with_reducible apply Sx.ifSkip
    walk_at "m.run"
    with_reducible apply Sx.ifRet
    · with_reducible apply Ts.boolOp
      with_reducible apply TsAll.andT
      walk_at "m.run"
      with_reducible apply TsAll.andT
      with_reducible apply Ts.cmpr
      walk_at "m.run"
      exact op_eq_unit rfl
      walk_at "m.run"
      exact TsAll.nilA
    with_reducible apply Sx.return
    walk_at "m.run"
  | [o], [r], _, ho, ox, j2, t2 =>
    have lo := ox o (.head _)
    show Sx _ _ _ _ _ _ (.ret (.str (((baseN ins ++ Str.ofString " (") ++ Txt.join (Str.ofString ", ") [o]) ++ Str.ofString ")")) σ)
    generalize baseN ins = bn at *
    with_reducible apply Sx.ifSkip
    walk_at "m.run"
    with_reducible apply Sx.ifSkip
    · with_reducible apply Ts.boolOp
      with_reducible apply TsAll.andT
      walk_at "m.run"
      with_reducible apply TsAll.andF
      with_reducible apply Ts.cmpr
      walk_at "m.run"
      exact op_eq_unit rfl
      walk_at "m.run"
    with_reducible apply Sx.return
    with_reducible apply Ev.bin
    with_reducible apply Ev.bin
    walk_at "m.run"
    with_reducible apply Ev.jn (ys := [o])
    walk_at "m.run"
    · rw [ln0]; show total [o] + _ ≤ _
      omega
    all_goals walk_at "m.run"
  | [o, o'], rs, _, ho, ox, j2, t2 =>
    have lo := ox o (.head _)
    have lo' := ox o' (.tail _ (.head _))
    show Sx _ _ _ _ _ _ (.ret (.str (((baseN ins ++ Str.ofString " (") ++ Txt.join (Str.ofString ", ") [o, o']) ++ Str.ofString ")")) σ)
    generalize baseN ins = bn at *
    with_reducible apply Sx.ifSkip
    walk_at "m.run"
    with_reducible apply Sx.ifSkip
    · with_reducible apply Ts.boolOp
      with_reducible apply TsAll.andF
      walk_at "m.run"
    with_reducible apply Sx.return
    with_reducible apply Ev.bin
    with_reducible apply Ev.bin
    walk_at "m.run"
    with_reducible apply Ev.jn (ys := [o, o'])
    walk_at "m.run"
    · rw [ln0]; show total [o, o'] + _ ≤ _
      omega
    all_goals walk_at "m.run"
  | [_], _ :: _ :: _, hr, _, _, _, _ => exact absurd hr (by simp)
  | _ :: _ :: _ :: _, _, _, ho, _, _, _ => exact absurd ho (by simp)
noncomputable abbrev fnD (ds es : List PyData) : PyData := funcD 3 ds es false
theorem sig_names (F : Facts C) {ds ps es qs : List PyData} {xs ys ns rs : List Str} (a : Tys Leaf ds ps xs) (b : Tys Leaf es qs ys) (ha : ds.length ≤ 2) (hb : es.length ≤ 2) (hn : (anyName ns).isEmpty = true ∨ ns.length = xs.length) (hr : rs = [] ∨ rs.length = ys.length) (nl : ns.length ≤ 2) (nx : ∀ n ∈ ns, n.length ≤ 100) (rx : ∀ n ∈ rs, n.length ≤ 100) :
    FnD C (k + 4) (Str.ofString "signature_text") [.dat (fnD ds es), .dat (.tuple (ns.map .str)), .dat (.tuple (rs.map .str))] σ (.str (sigN (insN ns xs) (outsN rs ys) rs)) σ := by
  have xl : xs.length ≤ 2 := by rw [a.len₁.2]; exact ha
  have yl : ys.length ≤ 2 := by rw [b.len₁.2]; exact hb
  have xx : ∀ x ∈ xs, x.length ≤ 100 := fun x hx => Nat.le_trans (a.len leaf_len x hx) (by decide)
  have yx : ∀ x ∈ ys, x.length ≤ 100 := fun x hx => Nat.le_trans (b.len leaf_len x hx) (by decide)
  have rl : rs.length ≤ 2 := by rcases hr with rfl | e; exact Nat.zero_le _; omega
  have named : ∀ {ns xs : List Str}, (∀ n ∈ ns, n.length ≤ 100) → (∀ x ∈ xs, x.length ≤ 100) → ∀ y ∈ namesOn ns xs, y.length ≤ 1000 := fun {ns} {xs} hn hx y hy => by
    unfold namesOn at hy
    rw [List.zipWith_eq_zipWith_take_min, ← List.map_uncurry_zip_eq_zipWith] at hy
    obtain ⟨z, hz, rfl⟩ := List.mem_map.mp hy
    have h1 := hn z.1 (List.mem_of_mem_take (List.of_mem_zip hz).1)
    have h2 := hx z.2 (List.mem_of_mem_take (List.of_mem_zip hz).2)
    show ((z.1 ++ Str.ofString " ") ++ z.2).length ≤ _
    rw [len_app, len_app, ln5]; omega
  refine FnD.intro [] F.signature_text ?_
  conv in (bodyOf _) => whnf
  with_reducible apply Sx.comp (ds := ds) (ys := xs.map .str) (σ₁ := σ) (σ₂ := σ)
  · exact TgtE.name
  · with_reducible apply EvIt.tup TgtE.name
    walk_at "m.run"
  · exact SubF.nil
  · refine Ct.each (a.each fun d p x r => ?_)
    with_reducible apply Ev.fn (rs := [.dat d])
    walk_at "m.run"
    exact leaf_type F r
    walk_at "m.run"
  · omega
  · rfl
  · walk_at "m.env"
  iterate 6 first | rfl | (intro _ _; rfl)
  refine Sx.freeze (x := Str.ofString "types") (ds := xs.map .str) rfl ?_
  refine Sx.sub (ρ' := nLoc xs ns rs (fnD ds es)) (.cons rfl (.cons rfl (.cons rfl (.cons rfl .nil)))) ?_
  with_reducible apply Sx.ifSkip
  · walk_at "m.run"
  refine sgn_params hn nl nx xx ?_
  have il : (insN ns xs).length ≤ 2 := by
    unfold insN
    split
    · exact xl
    · unfold namesOn; rw [List.length_zipWith]; omega
  have ix : ∀ x ∈ insN ns xs, x.length ≤ 1000 := by
    unfold insN
    split
    · exact fun x hx => Nat.le_trans (xx x hx) (by decide)
    · exact named nx xx
  generalize insN ns xs = is at *
  conv in (List.drop 3 _) => whnf
  with_reducible apply Sx.comp (ds := es) (ys := ys.map .str) (σ₁ := σ) (σ₂ := σ)
  · exact TgtE.name
  · with_reducible apply EvIt.tup TgtE.name
    walk_at "m.run"
  · exact SubF.nil
  · refine Ct.each (b.each fun d p x r => ?_)
    with_reducible apply Ev.fn (rs := [.dat d])
    walk_at "m.run"
    exact leaf_type F r
    walk_at "m.run"
  · omega
  · rfl
  · walk_at "m.env"
  iterate 6 first | rfl | (intro _ _; rfl)
  refine Sx.freeze (x := Str.ofString "outs") (ds := ys.map .str) rfl ?_
  refine Sx.sub (ρ' := nLoc2 ys is ns rs (fnD ds es)) (.cons rfl (.cons rfl (.cons rfl (.cons rfl (.cons rfl .nil))))) ?_
  refine sgn_results hr rl rx yx ?_
  refine sgn_end il ix ?_ ?_ ?_
  · unfold outsN
    split
    · exact yl
    · unfold namesOn; rw [List.length_zipWith]; omega
  · unfold outsN
    split
    · exact fun x hx => Nat.le_trans (yx x hx) (by decide)
    · exact named rx yx
  · rcases hr with e | e
    · exact .inl e
    · refine .inr ?_
      unfold outsN
      split
      · exact e
      · unfold namesOn; rw [List.length_zipWith, e, Nat.min_self]
end
-- ME3
theorem noFill_tuple_mul : fillsNumberSlot (.type "tuple") "mul" = pure false :=
  PySem.fillsNumberSlot_seq (id := "tuple.__mul__") (r := some (.builtin "tuple.__rmul__")) F.slot_tuple_mul.lookup (by decide +kernel) F.slot_tuple_rmul.lookup (by decide +kernel)
theorem repeat_tuple : seqRepeat? (.type "tuple") = pure (some (.builtin "tuple.__mul__")) := by
  unfold seqRepeat?
  rw [PySem.seqSlot_of (T := "tuple") (name := "__mul__") (id := "tuple.__mul__") F.slot_tuple_mul.lookup (by decide +kernel), PySem.seqSlot_of (T := "tuple") (name := "__rmul__") (id := "tuple.__rmul__") F.slot_tuple_rmul.lookup (by decide +kernel)]
  rfl
theorem rmul_tuple (a : Int) (t : Tok) (l : Addr) (items : Array Value) (n : Nat) :
    Meets (Builtin.«int.__rmul__» ⟨[.int a t, .ref l], []⟩) (fun _ R s => s.heap.get? l = some { cls := .type "tuple", dict := none, data := .seq items n, slots := #[] } ∧ R (.ok (.ret Value.notImplemented)) s) :=
  .of_wp fun prog w A R s h => by obtain ⟨hp, g, d, tk, os⟩ := s; obtain ⟨hl, h⟩ := h; wp_walk; exact ⟨_, rfl, h⟩
theorem mul_tuple0 (a : Addr) (x : Value) (u : Tok) (n : Nat) :
    Meets (Builtin.«tuple.__mul__» ⟨[.ref a, .int 0 u], []⟩) (fun _ R s => s.heap.get? a = some { cls := .type "tuple", dict := none, data := .seq #[x] n, slots := #[] } ∧ R (.ok (.ret (.ref s.heap.objs.size))) { s with heap := s.heap.push { cls := .type "tuple", data := .seq #[] } }) :=
  .of_wp fun prog w A R s h => by obtain ⟨hp, g, d, tk, os⟩ := s; obtain ⟨hl, h⟩ := h; wp_walk; exact ⟨_, rfl, h⟩
theorem mul_tuple1 (a : Addr) (x : Value) (u : Tok) (n : Nat) :
    Meets (Builtin.«tuple.__mul__» ⟨[.ref a, .int 1 u], []⟩) (fun _ R s => s.heap.get? a = some { cls := .type "tuple", dict := none, data := .seq #[x] n, slots := #[] } ∧ R (.ok (.ret (.ref a))) s) :=
  .of_wp fun prog w A R s h => by obtain ⟨hp, g, d, tk, os⟩ := s; obtain ⟨hl, h⟩ := h; wp_walk; exact ⟨_, rfl, h⟩
theorem mul_tuple2 (a : Addr) (x : Value) (u : Tok) (n : Nat) :
    Meets (Builtin.«tuple.__mul__» ⟨[.ref a, .int 2 u], []⟩) (fun _ R s => s.heap.get? a = some { cls := .type "tuple", dict := none, data := .seq #[x] n, slots := #[] } ∧ R (.ok (.ret (.ref s.heap.objs.size))) { s with heap := s.heap.push { cls := .type "tuple", data := .seq #[x, x] } }) :=
  .of_wp fun prog w A R s h => by obtain ⟨hp, g, d, tk, os⟩ := s; obtain ⟨hl, h⟩ := h; wp_walk; exact ⟨_, rfl, h⟩
-- ME4
section
variable {C : Cx} {k : Nat} {fi : Fi} {ρ ρ' ρ₁ ρ₂ : Loc} {σ σ₁ σ₂ σ₃ : Int × Int}
theorem op_mul_tup {d : PyData} {n : Nat} (hn : n < 3) : OpD C k (binaryOp .Mult) (.tuple [d]) (.int n) (.tuple (List.replicate n d)) := .mk <| fun A s P σ E Q v₁ v₂ hA B r₁ r₂ q => by
  cases r₂
  rename_i u
  cases r₁ with
  | tup h₁ rs₁ =>
  rename_i a vs m
  cases rs₁ with
  | cons rx rs₁ =>
  cases rs₁
  rename_i x
  have ha : s.heap.get? a = some (tupO [x] m) := B.stay _ _ h₁
  refine wpAny_binaryOp_repeat_ref (T := "tuple") (U := "int") (by decide) ⟨_, ha, rfl⟩ (fun s' => typeIs_int s' _ u) noFill_tuple_mul F.fills_int_mul F.slot_int_rmul repeat_tuple F.slot_int_index.lookup ?_
  refine call_meets F.slot_int_rmul (typeIs_int _ _ u) F.entry_int_rmul (F.args_int_rmul_2 _ _) (rmul_tuple _ u _ #[x] m) ⟨ha, rfl, ⟨_, ha, rfl⟩, ?_⟩
  match n, hn with
  | 0, _ =>
    refine call_meets F.slot_tuple_mul ⟨_, ha, rfl⟩ F.entry_tuple_mul (F.args_tuple_mul_2 _ _) (mul_tuple0 a x u m) ⟨ha, ?_⟩
    obtain ⟨c₂, b₂⟩ := push_fresh (o := tupO [] 0) B
    exact q _ _ s.toks _ c₂ b₂ (.tup (n := 0) PH.add_self .nil)
  | 1, _ =>
    refine call_meets F.slot_tuple_mul ⟨_, ha, rfl⟩ F.entry_tuple_mul (F.args_tuple_mul_2 _ _) (mul_tuple1 a x u m) ⟨ha, ?_⟩
    exact toks_step (tk := s.toks) B q (.tup h₁ (.cons rx .nil))
  | 2, _ =>
    refine call_meets F.slot_tuple_mul ⟨_, ha, rfl⟩ F.entry_tuple_mul (F.args_tuple_mul_2 _ _) (mul_tuple2 a x u m) ⟨ha, ?_⟩
    obtain ⟨c₂, b₂⟩ := push_fresh (o := tupO [x, x] 0) B
    exact q _ _ s.toks _ c₂ b₂ (.tup (n := 0) PH.add_self (.cons (Rep.mono c₂.le rx) (.cons (Rep.mono c₂.le rx) .nil)))
  | n + 3, h => omega
theorem pick2 {ds : List PyData} {n : Nat} (hl : ds.length ≤ 2) (hn : n < 3) : tupPick ds Option.none (some (n : Int)) Option.none = ds.take n := by
  match ds, hl, n, hn with
  | [], _, 0, _ => rfl
  | [], _, 1, _ => rfl
  | [], _, 2, _ => rfl
  | [a], _, 0, _ => rfl
  | [a], _, 1, _ => rfl
  | [a], _, 2, _ =>
    have e : Builtin.Slice.sliceAdjust Option.none (some (2 : Int)) 1 1 = (0, 1) := by decide
    show (List.range (Builtin.Slice.slicePlaces (Builtin.Slice.sliceAdjust Option.none (some (2 : Int)) 1 1).1 (Builtin.Slice.sliceAdjust Option.none (some (2 : Int)) 1 1).2 1)).filterMap (fun (k : Nat) => [a][((Builtin.Slice.sliceAdjust Option.none (some (2 : Int)) 1 1).1 + (k : Int) * 1).toNat]?) = _
    rw [e]
    rfl
  | [a, b], _, 0, _ => rfl
  | [a, b], _, 1, _ => rfl
  | [a, b], _, 2, _ => rfl
  | _ :: _ :: _ :: _, h, _, _ => exact absurd h (by simp)
  | _, _, n + 3, h => omega
theorem Ev.tupUpto {e a : Expr} {p pos : Pos} {ds : List PyData} {n : Nat} (he : Ev C k fi ρ σ e (.dat (.tuple ds)) σ₁) (hl : Ev C k fi ρ σ₁ a (.dat (.int n)) σ₂) (hd : ds.length ≤ 2) (hn : n < 3) : Ev C k fi ρ σ (.Subscript e (.Slice Option.none (some a) Option.none p) pos) (.dat (.tuple (ds.take n))) σ₂ :=
  Ev.tupSlice he EvPart.none (EvPart.some hl) EvPart.none (pick2 hd hn) rfl (by
    generalize hq : ds.length = q at *
    match q, hd, n, hn with
    | 0, _, 0, _ => decide
    | 0, _, 1, _ => decide
    | 0, _, 2, _ => decide
    | 1, _, 0, _ => decide
    | 1, _, 1, _ => decide
    | 1, _, 2, _ => decide
    | 2, _, 0, _ => decide
    | 2, _, 1, _ => decide
    | 2, _, 2, _ => decide
    | q + 3, h, _, _ => omega
    | _, _, n + 3, h => omega)
theorem Ev.trio {kd : Nat} {pos : Pos} {a b c : PyData} {e₁ e₂ e₃ : Expr} (h₁ : Ev C k fi ρ σ e₁ (.dat a) σ₁) (h₂ : Ev C k fi ρ σ₁ e₂ (.dat b) σ₂) (h₃ : Ev C k fi ρ σ₂ e₃ (.dat c) σ₃) (n₁ : noStar e₁ = true) (n₂ : noStar e₂ = true) (n₃ : noStar e₃ = true) : Evm C k fi ρ σ (.Tuple [e₁, e₂, e₃] kd pos) [.dat a, .dat b, .dat c] σ₃ :=
  Evm.tuple (EvI.dt h₁ (EvI.dt h₂ (EvI.dt h₃ EvI.nil n₃) n₂) n₁) (Nat.le_of_ble_eq_true rfl)
end
-- ME5
section
variable {C : Cx} {k : Nat} {fi : Fi} {ρ ρ' ρ₁ ρ₂ : Loc} {σ σ₁ σ₂ σ₃ σ₄ : Int × Int}
noncomputable abbrev tD : PyData := .tuple [.str (Str.ofString "name"), .int 4, .none, .str (Str.ofString "T")]
noncomputable abbrev rFi : Fi := ⟨scopeOf 50, []⟩
noncomputable abbrev rLoc (many few : Nat) (ns rs : List Str) : Loc := [(Str.ofString "results", .dat (.tuple (rs.map .str))), (Str.ofString "names", .dat (.tuple (ns.map .str))), (Str.ofString "T", .dat tD), (Str.ofString "few", .dat (.int few)), (Str.ofString "many", .dat (.int many)), (Str.ofString "source", .src)]
noncomputable abbrev rLoc1 (is : List Str) (many few : Nat) (ns rs : List Str) : Loc := (Str.ofString "ins", .dat (.list (is.map .str))) :: rLoc many few ns rs
noncomputable abbrev rLoc2 (os is : List Str) (many few : Nat) (ns rs : List Str) : Loc := (Str.ofString "outs", .dat (.list (os.map .str))) :: rLoc1 is many few ns rs
noncomputable def onT (ns : List Str) : List Str := ns.map (· ++ Str.ofString " T")
theorem onT_each {f : PyData → PyData → Prop} : ∀ ns : List Str, (∀ n ∈ ns, f (.str n) (.str (n ++ Str.ofString " T"))) → Each f (ns.map .str) ((onT ns).map .str)
  | [], _ => .nil
  | n :: ns, h => .cons (h n (.head _)) (onT_each ns fun m hm => h m (.tail _ hm))
theorem rep_T (n : Nat) : (List.replicate n [PyData.str (Str.ofString "T")]).flatten = (List.replicate n (Str.ofString "T")).map .str := by
  induction n with
  | zero => rfl
  | succ n ih => rw [List.replicate_succ, List.replicate_succ, List.flatten_cons, ih]; rfl
theorem nr_pre (F : Facts C) {many few c r : Nat} {ns rs : List Str} {o : Out} (hm : many < 3) (hf : few < 3) (hc : c < 4) (hr : r < 3) (t₁ : ∀ k, FnD C (k + 1) (Str.ofString "_law_take") [.src, .dat (.int 3)] σ (.int many) σ₁) (t₂ : ∀ k, FnD C (k + 1) (Str.ofString "_law_take") [.src, .dat (.int 3)] σ₁ (.int few) σ₂)
    (t₃ : ∀ k, FnD C (k + 1) (Str.ofString "_law_take") [.src, .dat (.int 4)] σ₂ (.int c) σ₃) (t₄ : ∀ k, FnD C (k + 1) (Str.ofString "_law_take") [.src, .dat (.int 3)] σ₃ (.int r) σ₄)
    (hns : ([.tuple [.str (Str.ofString "a"), .str (Str.ofString "b")], .tuple [.str (Str.ofString "_"), .str (Str.ofString "_")], .tuple [.str (Str.ofString "_"), .str (Str.ofString "c")], .tuple []] : List PyData)[c]? = some (.tuple (ns.map .str))) (nl : ns.length ≤ 2)
    (hrs : ([.tuple [], .tuple [.str (Str.ofString "r"), .str (Str.ofString "s")], .tuple [.str (Str.ofString "_"), .str (Str.ofString "_")]] : List PyData)[r]? = some (.tuple (rs.map .str))) (rl : rs.length ≤ 2)
    (h : Sx C (k + 1) rFi (rLoc1 (List.replicate many (Str.ofString "T")) many few (ns.take many) (rs.take few)) σ₄ ((bodyOf 50).drop 4) o) : Sx C (k + 1) rFi [(Str.ofString "source", .src)] σ (bodyOf 50) o := by
  conv in (bodyOf _) => whnf
  with_reducible apply Sx.swp [Str.ofString "many", Str.ofString "few", Str.ofString "T"] (avs := [.dat (.int many), .dat (.int few), .dat tD]) (σ₁ := σ₂)
  · with_reducible apply Ev.trio (σ₁ := σ₁) (σ₂ := σ₂)
    · with_reducible apply Ev.fn (rs := [.src, .dat (.int 3)])
      walk_at "m.run"
      exact t₁ k
      walk_at "m.run"
    · with_reducible apply Ev.fn (rs := [.src, .dat (.int 3)])
      walk_at "m.run"
      exact t₂ k
      walk_at "m.run"
    all_goals walk_at "m.run"
  walk_at "m.run"
  · walk_at "m.env"
  with_reducible apply Sx.let (d := .tuple ((ns.take many).map .str)) (σ₁ := σ₃)
  · rw [List.map_take]
    with_reducible apply Ev.tupUpto (σ₁ := σ₃)
    · with_reducible apply Ev.item (σ₁ := σ₂)
      walk_at "m.run"
      · with_reducible apply Ev.fn (rs := [.src, .dat (.int 4)])
        walk_at "m.run"
        exact t₃ k
        walk_at "m.run"
      · exact ItemOf.tupN ⟨by omega, by omega⟩ hns
      walk_at "m.run"
    · walk_at "m.run"
    · rw [List.length_map]; exact nl
    · exact hm
  walk_at "m.run"
  with_reducible apply Sx.let (d := .tuple ((rs.take few).map .str)) (σ₁ := σ₄)
  · rw [show (rs.take few).map PyData.str = (rs.map .str).take few from List.map_take]
    with_reducible apply Ev.tupUpto (σ₁ := σ₄)
    · with_reducible apply Ev.item (σ₁ := σ₃)
      walk_at "m.run"
      · with_reducible apply Ev.fn (rs := [.src, .dat (.int 3)])
        walk_at "m.run"
        exact t₄ k
        walk_at "m.run"
      · exact ItemOf.tupN ⟨by omega, by omega⟩ hrs
      walk_at "m.run"
    · walk_at "m.run"
    · rw [List.length_map]; exact rl
    · exact hf
  walk_at "m.run"
  with_reducible apply Sx.let (d := .list ((List.replicate many (Str.ofString "T")).map .str)) (σ₁ := σ₄)
  · rw [← rep_T]
    with_reducible apply Evf.ev
    with_reducible apply Evf.mul
    · with_reducible apply Evf.ev
      with_reducible apply Evf.lst
      walk_at "m.run"
    · walk_at "m.run"
    · rfl
    · exact Nat.le_of_ble_eq_true rfl
    · omega
  walk_at "m.run"
  exact Sx.sub (.cons rfl (.cons rfl (.cons rfl (.cons rfl (.cons rfl (.cons rfl (.cons rfl .nil))))))) h
end
-- ME6
section
variable {C : Cx} {k : Nat} {fi : Fi} {ρ ρ' ρ₁ ρ₂ : Loc} {σ σ₁ σ₂ σ₃ σ₄ : Int × Int}
noncomputable def insT (xs ns : List Str) : List Str := if (anyName ns).isEmpty then xs else onT ns
noncomputable def outsT (ys rs : List Str) : List Str := if rs.isEmpty then ys else onT rs
noncomputable def nrTest : Expr := match (bodyOf 50).drop 4 with
  | .If t _ _ _ :: _ => t
  | _ => .Name (Str.ofString "") ⟨0, 0, 0, 0⟩
theorem nr_ins {xs ns rs : List Str} {many few : Nat} {o : Out} (nl : ns.length ≤ 2) (nx : ∀ n ∈ ns, n.length ≤ 100)
    (h : Sx C k rFi (rLoc1 (insT xs ns) many few ns rs) σ ((bodyOf 50).drop 5) o) : Sx C k rFi (rLoc1 xs many few ns rs) σ ((bodyOf 50).drop 4) o := by
  conv in (List.drop 4 _) => whnf
  have test : ∀ {b : Bool}, (!(anyName ns).isEmpty) = b → (!((anyName ns).map PyData.str).isEmpty) = b := fun h => by rw [List.isEmpty_map]; exact h
  have tst : ∀ {b : Bool}, (!(anyName ns).isEmpty) = b → Ts C k rFi (rLoc1 xs many few ns rs) σ nrTest b σ := fun hb => by
    conv in nrTest => whnf
    with_reducible apply Ev.nilNe
    · with_reducible apply Evf.cmp (ds := ns.map .str) (ys := (anyName ns).map .str)
      · exact TgtE.name
      · with_reducible apply EvIt.tup TgtE.name
        walk_at "m.run"
      · exact SubF.nil
      · refine Ct.filt (fun n => Ifs.one ?_) (fun n => ?_) ns
        · walk_at "m.run"
        · walk_at "m.run"
      · rw [List.length_map]; omega
      all_goals walk_at "m.run"
    · exact test hb
  unfold insT at h
  cases hb : (anyName ns).isEmpty with
  | true =>
    rw [hb, if_pos rfl] at h
    with_reducible apply Sx.ifSkip
    · exact tst (by rw [hb]; rfl)
    exact h
  | false =>
    rw [hb, if_neg (by decide)] at h
    with_reducible apply Sx.ifThen (ρ₁ := (Str.ofString "ins", .box ((onT ns).map .str)) :: rLoc1 xs many few ns rs) (σ₂ := σ)
    · exact tst (by rw [hb]; rfl)
    · with_reducible apply Sx.comp (ds := ns.map .str) (ys := (onT ns).map .str) (σ₁ := σ) (σ₂ := σ)
      · exact TgtE.name
      · with_reducible apply EvIt.tup TgtE.name
        walk_at "m.run"
      · exact SubF.nil
      · refine Ct.each (onT_each ns fun n hn => ?_)
        have h1 := nx n hn
        walk_at "m.run"
      · rw [List.length_map]; omega
      · rfl
      · walk_at "m.env"
      iterate 6 first | rfl | (intro _ _; rfl)
      exact Sx.nil
    refine Sx.freeze (x := Str.ofString "ins") (ds := (onT ns).map .str) rfl ?_
    exact Sx.sub (ρ' := rLoc1 (onT ns) many few ns rs) (.cons rfl (.cons rfl (.cons rfl (.cons rfl (.cons rfl (.cons rfl (.cons rfl .nil))))))) h
theorem nr_outs {is ns rs : List Str} {many few : Nat} {o : Out} (hf : few < 3) (rl : rs.length ≤ 2) (rx : ∀ n ∈ rs, n.length ≤ 100)
    (h : Sx C k rFi (rLoc2 (outsT (List.replicate few (Str.ofString "T")) rs) is many few ns rs) σ ((bodyOf 50).drop 6) o) : Sx C k rFi (rLoc1 is many few ns rs) σ ((bodyOf 50).drop 5) o := by
  conv in (List.drop 5 _) => whnf
  unfold outsT at h
  cases rs with
  | nil =>
    with_reducible apply Sx.let (d := .list ((List.replicate few (Str.ofString "T")).map .str)) (σ₁ := σ)
    · with_reducible apply Ev.ifF
      · with_reducible apply Ts.cmpr
        walk_at "m.run"
      · rw [← rep_T]
        with_reducible apply Evf.ev
        with_reducible apply Evf.mul
        · with_reducible apply Evf.ev
          with_reducible apply Evf.lst
          walk_at "m.run"
        · walk_at "m.run"
        · rfl
        · exact Nat.le_of_ble_eq_true rfl
        · omega
    walk_at "m.run"
    exact h
  | cons r rs =>
    with_reducible apply Sx.let (d := .list ((onT (r :: rs)).map .str)) (σ₁ := σ)
    · with_reducible apply Ev.ifT
      · with_reducible apply Ts.cmpr
        walk_at "m.run"
      · with_reducible apply Evf.ev
        with_reducible apply Evf.cmp (ds := (r :: rs).map .str) (ys := (onT (r :: rs)).map .str)
        · exact TgtE.name
        · with_reducible apply EvIt.tup TgtE.name
          walk_at "m.run"
        · exact SubF.nil
        · refine Ct.each (onT_each (r :: rs) fun n hn => ?_)
          have h1 := rx n hn
          walk_at "m.run"
        · rw [List.length_map]; omega
        all_goals walk_at "m.run"
    walk_at "m.run"
    exact h
noncomputable def dueN (ins outs rs : List Str) : Str := match outs, rs with
  | [], _ => baseN ins
  | [_], [] => baseN ins ++ Str.ofString " T"
  | os, _ => baseN ins ++ ((Str.ofString " (" ++ Txt.join (Str.ofString ", ") os) ++ Str.ofString ")")
theorem due_sig {ins outs rs : List Str} (h : ∀ o, outs = [o] → rs = [] → o = Str.ofString "T") : sigN ins outs rs = dueN ins outs rs := by
  unfold sigN dueN
  match outs, rs, h with
  | [], _, _ => rfl
  | [o], [], h =>
    rw [h o rfl rfl]
    show (baseN ins ++ Str.ofString " ") ++ Str.ofString "T" = baseN ins ++ Str.ofString " T"
    rw [app_assoc]; rfl
  | [o], r :: rs, _ =>
    show ((baseN ins ++ Str.ofString " (") ++ Txt.join (Str.ofString ", ") [o]) ++ Str.ofString ")" = _
    rw [app_assoc, app_assoc, ← app_assoc (Str.ofString " (")]
  | o :: o' :: os, rs, _ =>
    show ((baseN ins ++ Str.ofString " (") ++ Txt.join (Str.ofString ", ") (o :: o' :: os)) ++ Str.ofString ")" = _
    rw [app_assoc, app_assoc, ← app_assoc (Str.ofString " (")]
end
-- ME7
section
variable {C : Cx} {k : Nat} {fi : Fi} {ρ ρ' ρ₁ ρ₂ : Loc} {σ σ₁ σ₂ σ₃ σ₄ : Int × Int}
noncomputable abbrev rLoc3 (y : Str) (os is : List Str) (many few : Nat) (ns rs : List Str) : Loc := (Str.ofString "due", .dat (.str y)) :: rLoc2 os is many few ns rs
theorem nr_ret {os is ns rs : List Str} {many few : Nat} {y : Str} (hm : many < 3) (hf : few < 3) (hsig : FnD C k (Str.ofString "signature_text") [.dat (fnD (List.replicate many tD) (List.replicate few tD)), .dat (.tuple (ns.map .str)), .dat (.tuple (rs.map .str))] σ (.str y) σ) :
    Sx C k rFi (rLoc3 y os is many few ns rs) σ ((bodyOf 50).drop 8) (.ret (.bool true) σ) := by
  conv in (List.drop 8 _) => whnf
  with_reducible apply Sx.return
  with_reducible apply Ev.cmpr
  · with_reducible apply Ev.fn (rs := [.dat (fnD (List.replicate many tD) (List.replicate few tD)), .dat (.tuple (ns.map .str)), .dat (.tuple (rs.map .str))])
    · walk_at "m.run"
      · exact op_mul_tup hf
      walk_at "m.run"
      · exact op_mul_tup hm
      walk_at "m.run"
    · exact hsig
    all_goals walk_at "m.run"
  · walk_at "m.run"
  · exact op_eq_str (beq_self_eq_true _)
  all_goals walk_at "m.run"
theorem nr_end {os is ns rs : List Str} {many few : Nat} (hm : many < 3) (hf : few < 3) (hsig : FnD C k (Str.ofString "signature_text") [.dat (fnD (List.replicate many tD) (List.replicate few tD)), .dat (.tuple (ns.map .str)), .dat (.tuple (rs.map .str))] σ (.str (dueN is os rs)) σ)
    (hi : is.length ≤ 2) (ix : ∀ x ∈ is, x.length ≤ 1000) (ho : os.length = few) (ox : ∀ x ∈ os, x.length ≤ 1000) (hr : rs = [] ∨ rs.length = few) : Sx C k rFi (rLoc2 os is many few ns rs) σ ((bodyOf 50).drop 6) (.ret (.bool true) σ) := by
  have j1 := join_len (Str.ofString ", ") is
  have t1 := total_le ix
  have l1 : is.length * 1000 ≤ 2 * 1000 := Nat.mul_le_mul_right _ hi
  obtain ⟨t2, j2⟩ : total os ≤ 2000 ∧ (Txt.join (Str.ofString ", ") os).length ≤ 3000 := by
    have j2 := join_len (Str.ofString ", ") os
    have t2 := total_le ox
    have l2 : os.length * 1000 ≤ 2 * 1000 := Nat.mul_le_mul_right _ (by omega)
    rw [ln0] at j2
    omega
  rw [ln0] at j1
  conv in (List.drop 6 _) => whnf
  with_reducible apply Sx.let (d := .str (baseN is)) (σ₁ := σ)
  · with_reducible apply Ev.bin
    with_reducible apply Ev.bin
    walk_at "m.run"
    with_reducible apply Ev.jn (ys := is)
    walk_at "m.run"
    · rw [ln0]; show total is + _ ≤ _
      omega
    all_goals walk_at "m.run"
  walk_at "m.run"
  have lb : (baseN is).length ≤ 10000 := by rw [len_app, len_app, ln2, ln4]; omega
  have wide : ∀ {os rs : List Str}, 0 < few → os.length ≤ 2 → total os + os.length * 2 ≤ 3000 → (Txt.join (Str.ofString ", ") os).length ≤ 3000 → (few = 2 ∨ rs.isEmpty = false) →
      FnD C k (Str.ofString "signature_text") [.dat (fnD (List.replicate many tD) (List.replicate few tD)), .dat (.tuple (ns.map .str)), .dat (.tuple (rs.map .str))] σ (.str (baseN is ++ ((Str.ofString " (" ++ Txt.join (Str.ofString ", ") os) ++ Str.ofString ")"))) σ →
      Sx C k rFi (rLoc3 (baseN is) os is many few ns rs) σ ((bodyOf 50).drop 7) (.ret (.bool true) σ) := fun {os} {rs} h0 hl h3 h4 hn hs => by
    conv in (List.drop 7 _) => whnf
    with_reducible apply Sx.ifThen (ρ₁ := (Str.ofString "due", .dat (.str (baseN is ++ ((Str.ofString " (" ++ Txt.join (Str.ofString ", ") os) ++ Str.ofString ")")))) :: rLoc3 (baseN is) os is many few ns rs) (σ₂ := σ)
    · with_reducible apply Ts.cmpr
      walk_at "m.run"
      · exact decide_eq_true (by omega)
      walk_at "m.run"
    · generalize baseN is = bn at *
      with_reducible apply Sx.let (d := .str (bn ++ ((Str.ofString " (" ++ Txt.join (Str.ofString ", ") os) ++ Str.ofString ")"))) (σ₁ := σ)
      · with_reducible apply Ev.bin
        · walk_at "m.run"
        · with_reducible apply Ev.ifF
          · with_reducible apply Ts.boolOp
            by_cases h1 : few = 1
            · subst h1
              with_reducible apply TsAll.andT
              walk_at "m.run"
              with_reducible apply TsAll.andF
              with_reducible apply Ts.cmpr
              walk_at "m.run"
              refine op_eq_unit ?_
              rw [List.isEmpty_map]
              rcases hn with e | e
              · omega
              · exact e
              walk_at "m.run"
            · have h2 : few = 2 := by omega
              subst h2
              with_reducible apply TsAll.andF
              walk_at "m.run"
          · with_reducible apply Ev.bin
            with_reducible apply Ev.bin
            walk_at "m.run"
            with_reducible apply Ev.jn (ys := os)
            walk_at "m.run"
            · rw [ln0]; show total os + _ ≤ _
              omega
            all_goals walk_at "m.run"
        all_goals walk_at "m.run"
      walk_at "m.run"
      exact Sx.nil
    exact Sx.sub (.cons rfl (.cons rfl (.cons rfl (.cons rfl (.cons rfl (.cons rfl (.cons rfl (.cons rfl (.cons rfl .nil))))))))) (nr_ret (os := os) (is := is) hm hf hs)
  match os, rs, ho, hr, hsig, t2, j2, ox with
  | [], rs, ho, _, hsig, _, _, _ =>
    have h0 : few = 0 := ho.symm
    subst h0
    with_reducible apply Sx.ifSkip
    · walk_at "m.run"
    exact nr_ret (os := []) (is := is) hm hf hsig
  | [o], [], ho, _, hsig, _, _, _ =>
    have h1 : few = 1 := ho.symm
    subst h1
    with_reducible apply Sx.ifThen (ρ₁ := (Str.ofString "due", .dat (.str (baseN is ++ Str.ofString " T"))) :: rLoc3 (baseN is) [o] is many 1 ns []) (σ₂ := σ)
    · walk_at "m.run"
    · generalize baseN is = bn at *
      with_reducible apply Sx.let (d := .str (bn ++ Str.ofString " T")) (σ₁ := σ)
      · with_reducible apply Ev.bin
        · walk_at "m.run"
        · with_reducible apply Ev.ifT
          · with_reducible apply Ts.boolOp
            with_reducible apply TsAll.andT
            walk_at "m.run"
            with_reducible apply TsAll.andT
            with_reducible apply Ts.cmpr
            walk_at "m.run"
            exact op_eq_unit rfl
            walk_at "m.run"
            exact TsAll.nilA
          · walk_at "m.run"
        all_goals walk_at "m.run"
      walk_at "m.run"
      exact Sx.nil
    exact Sx.sub (.cons rfl (.cons rfl (.cons rfl (.cons rfl (.cons rfl (.cons rfl (.cons rfl (.cons rfl (.cons rfl .nil))))))))) (nr_ret (os := [o]) (is := is) hm hf hsig)
  | [o], r :: rs, ho, _, hsig, t2, j2, _ => exact wide (by simp at ho; omega) (Nat.le_of_ble_eq_true rfl) (by simp only [List.length_cons, List.length_nil]; omega) (by omega) (.inr rfl) hsig
  | o :: o' :: os, rs, ho, _, hsig, t2, j2, _ => exact wide (by simp only [List.length_cons] at ho; omega) (by rw [ho]; omega) (by rw [ho]; omega) (by omega) (.inl (by simp only [List.length_cons] at ho; omega)) hsig
end
-- ME8
section
variable {C : Cx} {k : Nat} {fi : Fi} {ρ ρ' ρ₁ ρ₂ : Loc} {σ σ₁ σ₂ σ₃ σ₄ : Int × Int}
theorem named_rep : ∀ ns : List Str, namesOn ns (List.replicate ns.length (Str.ofString "T")) = onT ns
  | [] => rfl
  | n :: ns => by
    show ((n ++ Str.ofString " ") ++ Str.ofString "T") :: namesOn ns (List.replicate ns.length (Str.ofString "T")) = (n ++ Str.ofString " T") :: onT ns
    rw [named_rep ns, app_assoc]; rfl
theorem tys_rep : ∀ n : Nat, Tys Leaf (List.replicate n tD) (List.replicate n (.tuple [.str (Str.ofString "name"), .int 0, .none, .str (Str.ofString "T")])) (List.replicate n (Str.ofString "T"))
  | 0 => .nil
  | n + 1 => .cons (.tT 4) (tys_rep n)
theorem take_two {ns : List Str} {n : Nat} (h : ns = [] ∨ ns.length = 2) (hn : n < 3) : ns.take n = [] ∨ (ns.take n).length = n := by
  rcases h with rfl | h
  · exact .inl (by simp)
  · exact .inr (by rw [List.length_take, h]; omega)
theorem onT_len {ns : List Str} (h : ∀ n ∈ ns, n.length ≤ 100) : ∀ y ∈ onT ns, y.length ≤ 1000 := fun y hy => by
  obtain ⟨n, hn, rfl⟩ := List.mem_map.mp hy
  have := h n hn
  rw [len_app, ln23]; omega
theorem rep_len {m : Nat} : ∀ y ∈ List.replicate m (Str.ofString "T"), y.length ≤ 1000 := fun y hy => by
  rw [List.eq_of_mem_replicate hy, ln22]; omega
theorem names_ok (F : Facts C) (σ : Int × Int) (hσ : SOk σ) : ∃ σ', SOk σ' ∧ ∀ k, FnD C (k + 5) (Str.ofString "_law_names_right") [.src] σ (.bool true) σ' := by
  obtain ⟨many, σ₁, hm, h₁, t₁⟩ := take_ok F 3 (by decide) (by decide) σ hσ
  obtain ⟨few, σ₂, hf, h₂, t₂⟩ := take_ok F 3 (by decide) (by decide) σ₁ h₁
  obtain ⟨c, σ₃, hc, h₃, t₃⟩ := take_ok F 4 (by decide) (by decide) σ₂ h₂
  obtain ⟨r, σ₄, hr, h₄, t₄⟩ := take_ok F 3 (by decide) (by decide) σ₃ h₃
  obtain ⟨ns, hns, nl, nx⟩ : ∃ ns : List Str, ([.tuple [.str (Str.ofString "a"), .str (Str.ofString "b")], .tuple [.str (Str.ofString "_"), .str (Str.ofString "_")], .tuple [.str (Str.ofString "_"), .str (Str.ofString "c")], .tuple []] : List PyData)[c]? = some (.tuple (ns.map .str)) ∧ (ns = [] ∨ ns.length = 2) ∧ ∀ n ∈ ns, n.length ≤ 100 := by
    match c, hc with
    | 0, _ => exact ⟨[Str.ofString "a", Str.ofString "b"], rfl, .inr rfl, by decide +kernel⟩
    | 1, _ => exact ⟨[Str.ofString "_", Str.ofString "_"], rfl, .inr rfl, by decide +kernel⟩
    | 2, _ => exact ⟨[Str.ofString "_", Str.ofString "c"], rfl, .inr rfl, by decide +kernel⟩
    | 3, _ => exact ⟨[], rfl, .inl rfl, by decide +kernel⟩
    | c + 4, h => omega
  obtain ⟨rs, hrs, rl, rx⟩ : ∃ rs : List Str, ([.tuple [], .tuple [.str (Str.ofString "r"), .str (Str.ofString "s")], .tuple [.str (Str.ofString "_"), .str (Str.ofString "_")]] : List PyData)[r]? = some (.tuple (rs.map .str)) ∧ (rs = [] ∨ rs.length = 2) ∧ ∀ n ∈ rs, n.length ≤ 100 := by
    match r, hr with
    | 0, _ => exact ⟨[], rfl, .inl rfl, by decide +kernel⟩
    | 1, _ => exact ⟨[Str.ofString "r", Str.ofString "s"], rfl, .inr rfl, by decide +kernel⟩
    | 2, _ => exact ⟨[Str.ofString "_", Str.ofString "_"], rfl, .inr rfl, by decide +kernel⟩
    | r + 3, h => omega
  have l2 : ∀ {l : List Str}, (l = [] ∨ l.length = 2) → l.length ≤ 2 := fun h => by
    rcases h with rfl | h
    · exact Nat.zero_le _
    · omega
  refine ⟨σ₄, h₄, fun k => FnD.intro [] F.law_names_right (nr_pre (k := k + 3) F hm hf hc hr t₁ t₂ t₃ t₄ hns (l2 nl) hrs (l2 rl) ?_)⟩
  have nl' := take_two nl hm
  have rl' := take_two rl hf
  have nx' : ∀ n ∈ ns.take many, n.length ≤ 100 := fun n h => nx n (List.mem_of_mem_take h)
  have rx' : ∀ n ∈ rs.take few, n.length ≤ 100 := fun n h => rx n (List.mem_of_mem_take h)
  generalize ns.take many = ns at *
  generalize rs.take few = rs at *
  have nl2 : ns.length ≤ 2 := by
    rcases nl' with rfl | h
    · exact Nat.zero_le _
    · omega
  have rl2 : rs.length ≤ 2 := by
    rcases rl' with rfl | h
    · exact Nat.zero_le _
    · omega
  refine nr_ins nl2 nx' (nr_outs hf rl2 rx' ?_)
  have hs := sig_names (k := k) (σ := σ₄) F (tys_rep many) (tys_rep few) (ns := ns) (rs := rs) (by rw [List.length_replicate]; omega) (by rw [List.length_replicate]; omega)
    (by rcases nl' with rfl | h
        · exact .inl rfl
        · exact .inr (by rw [List.length_replicate]; exact h))
    (by rcases rl' with h | h
        · exact .inl h
        · exact .inr (by rw [List.length_replicate]; exact h)) nl2 nx' rx'
  have e1 : insT (List.replicate many (Str.ofString "T")) ns = insN ns (List.replicate many (Str.ofString "T")) := by
    unfold insT insN
    split
    · rfl
    · rename_i hne
      rcases nl' with rfl | h
      · exact absurd rfl hne
      · rw [← h, named_rep]
  have e2 : outsT (List.replicate few (Str.ofString "T")) rs = outsN rs (List.replicate few (Str.ofString "T")) := by
    unfold outsT outsN
    split
    · rfl
    · rename_i hne
      rcases rl' with rfl | h
      · exact absurd rfl hne
      · rw [← h, named_rep]
  rw [due_sig (fun o ho hr => by
    subst hr
    have ho : List.replicate few (Str.ofString "T") = [o] := ho
    exact List.eq_of_mem_replicate (n := few) (by rw [ho]; exact .head _))] at hs
  rw [← e1, ← e2] at hs
  refine nr_end hm hf hs ?_ ?_ ?_ ?_ rl'
  · unfold insT
    split
    · rw [List.length_replicate]; omega
    · unfold onT; rw [List.length_map]; exact nl2
  · unfold insT
    split
    · exact rep_len
    · exact onT_len nx'
  · unfold outsT
    split
    · rw [List.length_replicate]
    · rename_i hne
      unfold onT; rw [List.length_map]
      rcases rl' with rfl | h
      · exact absurd rfl hne
      · exact h
  · unfold outsT
    split
    · exact rep_len
    · exact onT_len rx'
end
-- MG1
section
variable {C : Cx} {k : Nat} {fi : Fi} {ρ ρ' ρ₁ ρ₂ : Loc} {σ σ₁ σ₂ σ₃ σ₄ : Int × Int}
theorem depth_tup (ds : List PyData) : (PyData.tuple ds).depth = PyData.depthAll ds + 1 := by simp only [PyData.depth]
theorem depth_lst (ds : List PyData) : (PyData.list ds).depth = PyData.depthAll ds + 1 := by simp only [PyData.depth]
theorem depth_cons (d : PyData) (ds : List PyData) : PyData.depthAll (d :: ds) = max d.depth (PyData.depthAll ds) := by simp only [PyData.depthAll]
theorem depth_nil : PyData.depthAll [] = 0 := by simp only [PyData.depthAll]
theorem allR (n : Nat) : (List.range n).all (fun _ => true) = true := by simp
mutual
theorem eqR {P : PH} {s : Shared} (stay : ∀ a o, P a = some o → s.heap.get? a = some o) : ∀ (d : PyData) (v w : Value) (A : Around), Rep P v d → Rep P w d → A.units + d.depth < cLine → SeqAt.EqAt A s v w true
  | .none, _, _, A, r₁, r₂, _ => by cases r₁; cases r₂; exact SeqAt.EqAt.same _
  | .bool b, _, _, A, r₁, r₂, _ => by cases r₁; cases r₂; exact SeqAt.EqAt.same _
  | .int i, _, _, A, r₁, r₂, _ => by
    cases r₁; cases r₂
    rename_i t u
    have := SeqAt.EqAt.int_int (A := A) (s := s) i t i u
    rw [beq_self_eq_true] at this
    exact this
  | .str x, _, _, A, r₁, r₂, _ => by
    cases r₁; cases r₂
    rename_i t u
    have := SeqAt.EqAt.str_str (A := A) (s := s) x t x u
    rw [beq_self_eq_true] at this
    exact this
  | .tuple ds, _, _, A, r₁, r₂, h => by
    cases r₁ with
    | tup h₁ q₁ =>
    rename_i a vs n
    cases r₂ with
    | tup h₂ q₂ =>
    rename_i b ws m
    rw [depth_tup] at h
    by_cases e : a = b
    · subst e; exact SeqAt.EqAt.same _
    refine SeqAt.EqAt.of_refs e ?_
    have l₁ : s.heap.IsTuple a vs.toArray := ⟨_, stay _ _ h₁, rfl, n, rfl⟩
    have l₂ : s.heap.IsTuple b ws.toArray := ⟨_, stay _ _ h₂, rfl, m, rfl⟩
    have := SeqAt.RcAt.tuples (A := A) (e := fun _ => true) l₁ l₂ (by omega) fun j j1 j2 => by
      have := eqRs stay ds vs ws A.in1 q₁ q₂ (by show A.units + 1 + _ < _; omega) j (by simpa using j1) (by simpa using j2)
      simpa using this
    rw [allR, show vs.toArray.size = ws.toArray.size from by rw [List.size_toArray, List.size_toArray, q₁.length, q₂.length], beq_self_eq_true, Bool.and_self] at this
    exact this
  | .list ds, _, _, A, r₁, r₂, h => by
    cases r₁ with
    | lst h₁ q₁ =>
    rename_i a vs n
    cases r₂ with
    | lst h₂ q₂ =>
    rename_i b ws m
    rw [depth_lst] at h
    by_cases e : a = b
    · subst e; exact SeqAt.EqAt.same _
    refine SeqAt.EqAt.of_refs e ?_
    have l₁ : s.heap.IsList a vs.toArray := ⟨_, stay _ _ h₁, rfl, n, rfl⟩
    have l₂ : s.heap.IsList b ws.toArray := ⟨_, stay _ _ h₂, rfl, m, rfl⟩
    have := SeqAt.RcAt.lists (A := A) (e := fun _ => true) l₁ l₂ (by rw [List.size_toArray, List.size_toArray, q₁.length, q₂.length]) (by omega) fun j j1 j2 => by
      have := eqRs stay ds vs ws A.in1 q₁ q₂ (by show A.units + 1 + _ < _; omega) j (by simpa using j1) (by simpa using j2)
      simpa using this
    rw [allR] at this
    exact this
  | .dict _, _, _, A, r₁, _, _ => by cases r₁
theorem eqRs {P : PH} {s : Shared} (stay : ∀ a o, P a = some o → s.heap.get? a = some o) : ∀ (ds : List PyData) (vs ws : List Value) (A : Around), Reps P vs ds → Reps P ws ds → A.units + PyData.depthAll ds < cLine → ∀ j (h1 : j < vs.length) (h2 : j < ws.length), SeqAt.EqAt A s vs[j] ws[j] true
  | [], _, _, A, q₁, _, _, j, h1, _ => by cases q₁; exact absurd h1 (by simp)
  | d :: ds, _, _, A, q₁, q₂, h, j, h1, h2 => by
    rw [depth_cons] at h
    cases q₁ with
    | cons r₁ q₁ =>
    cases q₂ with
    | cons r₂ q₂ =>
    cases j with
    | zero => exact eqR stay d _ _ A r₁ r₂ (by omega)
    | succ j =>
      simp only [List.getElem_cons_succ]
      exact eqRs stay ds _ _ A q₁ q₂ (by omega) j (by simpa using h1) (by simpa using h2)
end
theorem op_ne_self {ds : List PyData} (hd : (PyData.tuple ds).depth ≤ 100) : OpD C k (compareOp .NotEq) (.tuple ds) (.tuple ds) (.bool false) := .mk <| fun A s P σ E Q v₁ v₂ hA B r₁ r₂ q => by
  have hu := hA.units
  rw [depth_tup] at hd
  cases r₁ with
  | tup h₁ q₁ =>
  rename_i vs n
  cases r₂ with
  | tup h₂ q₂ =>
  rename_i ws m
  have l₁ : s.heap.IsTuple _ vs.toArray := ⟨_, B.stay _ _ h₁, rfl, n, rfl⟩
  have l₂ : s.heap.IsTuple _ ws.toArray := ⟨_, B.stay _ _ h₂, rfl, m, rfl⟩
  refine SeqAt.RcNeAt.tuples (e := fun _ => true) l₁ l₂ (by omega) (fun j j1 j2 => ?_) C.prog C.w E Q ?_
  · have := eqRs B.stay ds vs ws A.in1 q₁ q₂ (by show A.units + 1 + _ < _; have := hA.2.2; rw [show cLine = 9900 from rfl] at *; omega) j (by simpa using j1) (by simpa using j2)
    simpa using this
  · rw [allR, show vs.toArray.size = ws.toArray.size from by rw [List.size_toArray, List.size_toArray, q₁.length, q₂.length], beq_self_eq_true]
    exact toks_step (tk := s.toks) B q (.bool _)
end
-- MG2
section
variable {R : Rel} {m : Nat}
noncomputable def DepOk (R : Rel) (m : Nat) : Prop := ∀ d p x, R d p x → p.depth ≤ m
theorem depth_all {m : Nat} : ∀ {ds : List PyData}, (∀ d ∈ ds, d.depth ≤ m) → PyData.depthAll ds ≤ m
  | [], _ => by rw [depth_nil]; omega
  | d :: ds, h => by
    have h1 := h d (.head _)
    have h2 := depth_all fun e he => h e (.tail _ he)
    rw [depth_cons]; omega
theorem d_str (x : Str) : (PyData.str x).depth = 0 := by simp only [PyData.depth]
theorem d_int (i : Int) : (PyData.int i).depth = 0 := by simp only [PyData.depth]
theorem d_bool (b : Bool) : (PyData.bool b).depth = 0 := by simp only [PyData.depth]
theorem d_none : PyData.none.depth = 0 := by simp only [PyData.depth]
theorem Tys.dep (h : DepOk R m) : ∀ {ds ps : List PyData} {xs : List Str}, Tys R ds ps xs → ∀ p ∈ ps, p.depth ≤ m
  | _, _, _, .nil, _, hp => by cases hp
  | _, _, _, .cons a r, p, hp => by
    rcases List.mem_cons.mp hp with rfl | hp
    · exact h _ _ _ a
    · exact r.dep h p hp
theorem Sig.dep (h : DepOk R m) {d p : PyData} {x : Str} (s : Sig R d p x) : p.depth ≤ m + 3 := by
  cases s with
  | plain a b ha hb =>
    have h1 := depth_all (a.dep h)
    have h2 := depth_all (b.dep h)
    simp only [depth_tup, depth_cons, depth_nil, d_str, d_int, d_bool]; omega
  | @row s s' ds ps es qs d p x xs ys a c b ha hb =>
    have h1 := depth_all (m := m + 1) (ds := ps ++ [sliceD 0 p]) fun e he => by
      rcases List.mem_append.mp he with he | he
      · exact Nat.le_succ_of_le (a.dep h e he)
      · have hc := h _ _ _ c
        rw [List.mem_singleton.mp he]
        simp only [depth_tup, depth_cons, depth_nil, d_str, d_int]; omega
    have h2 := depth_all (b.dep h)
    simp only [depth_tup, depth_cons, depth_nil, d_str, d_int, d_bool]; omega
theorem Fields.dep (h : DepOk R m) : ∀ {ds ps : List PyData} {xs : List Str}, Fields R ds ps xs → ∀ p ∈ ps, p.depth ≤ m + 1
  | _, _, _, .nil, _, hp => by cases hp
  | _, _, _, .emb a r, p, hp => by
    have := h _ _ _ a
    rcases List.mem_cons.mp hp with rfl | hp
    · simp only [depth_tup, depth_cons, depth_nil, d_str, d_bool]; omega
    · exact r.dep h p hp
  | _, _, _, .nam _ a r, p, hp => by
    have := h _ _ _ a
    rcases List.mem_cons.mp hp with rfl | hp
    · simp only [depth_tup, depth_cons, depth_nil, d_str, d_bool]; omega
    · exact r.dep h p hp
theorem Methods.dep (h : DepOk R m) : ∀ {ds ps : List PyData} {xs : List Str}, Methods R ds ps xs → ∀ p ∈ ps, p.depth ≤ m + 4
  | _, _, _, .nil, _, hp => by cases hp
  | _, _, _, .cons _ a r, p, hp => by
    have := a.dep h
    rcases List.mem_cons.mp hp with rfl | hp
    · simp only [depth_tup, depth_cons, depth_nil, d_str]; omega
    · exact r.dep h p hp
theorem leaf_dep : DepOk Leaf 1 := fun d p x h => by
  cases h <;> simp only [depth_tup, depth_cons, depth_nil, d_str, d_int, d_none] <;> omega
theorem Node.dep (h : DepOk R m) : DepOk (Node R) (m + 6) := fun d p x hn => by
  cases hn with
  | leaf a => have := leaf_dep _ _ _ a; omega
  | ptr a => have := h _ _ _ a; simp only [depth_tup, depth_cons, depth_nil, d_str, d_int]; omega
  | slice a => have := h _ _ _ a; simp only [depth_tup, depth_cons, depth_nil, d_str, d_int]; omega
  | array hm a => have := h _ _ _ a; simp only [depth_tup, depth_cons, depth_nil, d_str, d_int]; omega
  | map b a => have := h _ _ _ a; have := leaf_dep _ _ _ b; simp only [depth_tup, depth_cons, depth_nil, d_str, d_int]; omega
  | chan hd a => have := h _ _ _ a; simp only [depth_tup, depth_cons, depth_nil, d_str, d_int]; omega
  | func a => have := a.dep h; omega
  | struct a ha => have := depth_all (a.dep h); simp only [depth_tup, depth_cons, depth_nil, d_str, d_int]; omega
  | iface a b ha hb => have := depth_all (a.dep h); have := depth_all (b.dep leaf_dep); simp only [depth_tup, depth_cons, depth_nil, d_str, d_int]; omega
theorem TyR.dep : ∀ n, DepOk (TyR n) (1 + 6 * n)
  | 0 => leaf_dep
  | n + 1 => fun d p x h => by have := Node.dep (TyR.dep n) d p x h; omega
noncomputable def SelfOk (R : Rel) : Prop := ∀ d p x, R d p x → R p p x
theorem Tys.self (h : SelfOk R) : ∀ {ds ps : List PyData} {xs : List Str}, Tys R ds ps xs → Tys R ps ps xs
  | _, _, _, .nil => .nil
  | _, _, _, .cons a r => .cons (h _ _ _ a) (r.self h)
theorem Sig.self (h : SelfOk R) {d p : PyData} {x : Str} (s : Sig R d p x) : Sig R p p x := by
  cases s with
  | plain a b ha hb => exact .plain (a.self h) (b.self h) (by rw [a.len₁.1]; exact ha) (by rw [b.len₁.1]; exact hb)
  | row a c b ha hb => exact .row (a.self h) (h _ _ _ c) (b.self h) (by rw [a.len₁.1]; exact ha) (by rw [b.len₁.1]; exact hb)
theorem Fields.self (h : SelfOk R) : ∀ {ds ps : List PyData} {xs : List Str}, Fields R ds ps xs → Fields R ps ps xs
  | _, _, _, .nil => .nil
  | _, _, _, .emb a r => .emb (h _ _ _ a) (r.self h)
  | _, _, _, .nam hn a r => .nam hn (h _ _ _ a) (r.self h)
theorem Methods.self (h : SelfOk R) : ∀ {ds ps : List PyData} {xs : List Str}, Methods R ds ps xs → Methods R ps ps xs
  | _, _, _, .nil => .nil
  | _, _, _, .cons hn a r => .cons hn (a.self h) (r.self h)
theorem leaf_self : SelfOk Leaf := fun d p x h => by
  cases h
  · exact .tT 0
  · exact .pU 0
theorem Node.self (h : SelfOk R) : SelfOk (Node R) := fun d p x hn => by
  cases hn with
  | leaf a => exact .leaf (leaf_self _ _ _ a)
  | ptr a => exact .ptr (h _ _ _ a)
  | slice a => exact .slice (h _ _ _ a)
  | array hm a => exact .array hm (h _ _ _ a)
  | map b a => exact .map (leaf_self _ _ _ b) (h _ _ _ a)
  | chan hd a => exact .chan hd (h _ _ _ a)
  | func a => exact .func (a.self h)
  | struct a ha => exact .struct (a.self h) (by rw [a.len₁.1]; exact ha)
  | iface a b ha hb => exact .iface (a.self h) (b.self leaf_self) (by rw [a.len₁.1]; exact ha) (by rw [b.len₁.1]; exact hb)
theorem TyR.self : ∀ n, SelfOk (TyR n)
  | 0 => leaf_self
  | n + 1 => Node.self (TyR.self n)
end
-- MG3
section
variable {C : Cx} {k : Nat} {fi : Fi} {ρ ρ' ρ₁ ρ₂ : Loc} {σ σ₁ σ₂ σ₃ σ₄ : Int × Int}
noncomputable abbrev nameD (x : Str) : PyData := .tuple [.str (Str.ofString "name"), .int 2, .none, .str x]
theorem name_text (F : Facts C) {x : Str} : FnD C (k + 1) (Str.ofString "type_text") [.dat (nameD x)] σ (.str x) σ := by
  refine FnD.intro [] F.type_text ?_
  conv in (bodyOf _) => whnf
  with_reducible apply Sx.let
  walk_at "m.run"
  with_reducible apply Sx.ifRet
  walk_at "m.run"
  with_reducible apply Sx.return
  with_reducible apply Ev.ifT
  all_goals walk_at "m.run"
noncomputable def optD (x : Str) (b : Bool) : PyData := if b then nameD x else .none
noncomputable def optX (x : Str) (b : Bool) : Str := if b then x else Str.ofString "nil"
theorem opt_each {f : PyData → PyData → Prop} {x : Str} (h1 : f (nameD x) (.str x)) (h2 : f .none (.str (Str.ofString "nil"))) : ∀ bs : List Bool, Each f (bs.map (optD x)) ((bs.map (optX x)).map .str)
  | [] => .nil
  | true :: bs => .cons h1 (opt_each h1 h2 bs)
  | false :: bs => .cons h2 (opt_each h1 h2 bs)
theorem opt_len {x : Str} (hx : x.length ≤ 200000) (bs : List Bool) : ∀ y ∈ bs.map (optX x), y.length ≤ 200000 := fun y hy => by
  obtain ⟨b, _, rfl⟩ := List.mem_map.mp hy
  unfold optX
  split
  · exact hx
  · rw [ln34]; omega
theorem types_text_ok (F : Facts C) {x : Str} (hx : x.length ≤ 200000) (bs : List Bool) (hb : bs.length ≤ 4) : FnD C (k + 2) (Str.ofString "types_text") [.dat (.tuple (bs.map (optD x)))] σ (.str (Txt.join (Str.ofString ", ") (bs.map (optX x)))) σ := by
  have tx := total_le (opt_len hx bs)
  have lx : (bs.map (optX x)).length ≤ 4 := by rw [List.length_map]; exact hb
  have mx : (bs.map (optX x)).length * 200000 ≤ 4 * 200000 := Nat.mul_le_mul_right _ lx
  refine FnD.intro [] F.types_text ?_
  conv in (bodyOf _) => whnf
  with_reducible apply Sx.return
  with_reducible apply Ev.jn (ys := bs.map (optX x)) (r := .dat (.list ((bs.map (optX x)).map .str)))
  · with_reducible apply Evf.ev
    with_reducible apply Evf.cmp (ds := bs.map (optD x))
    · exact TgtE.name
    · with_reducible apply EvIt.tup TgtE.name
      walk_at "m.run"
    · exact SubF.nil
    · refine Ct.each (opt_each ?_ ?_ bs)
      · with_reducible apply Ev.ifF
        · walk_at "m.run"
        · with_reducible apply Ev.fn (rs := [.dat (nameD x)])
          walk_at "m.run"
          exact name_text F
          walk_at "m.run"
      · with_reducible apply Ev.ifT
        all_goals walk_at "m.run"
    · rw [List.length_map]; omega
    all_goals walk_at "m.run"
  · exact LstOf.dat _
  all_goals first | (rw [ln0]; show total _ + _ ≤ _; omega) | walk_at "m.run"
theorem Sx.retOwn {e : Expr} {pos : Pos} {ds : List PyData} {ss : List Stmt} (h : Evf C k fi ρ σ e ds σ₁) : Sx C k fi ρ σ (.Return (some e) pos :: ss) (.own ds σ₁) := Sx.own (Sx1.retOwn h)
theorem pool_ok (F : Facts C) (ns : List Int) (hn : ns.length ≤ 100) : ∃ a b : Int, (0 ≤ b ∧ b < 2147483647) ∧ FnO C (k + 1) (Str.ofString "_law_pool") [.scr ns] σ [.int a, .int b] σ := by
  generalize hc : (match ns with | z :: _ => z | [] => (0 : Int)) = c
  generalize hg : (if -1 - c > c then -1 - c else c) = g
  have hb := fmod_bnd (x := ((g.fmod 2147483629 + 195) * 48271)) (y := (2147483647 : Int)) (by decide)
  refine ⟨if decide (g ≥ 10 ^ 18) then g else 0, _, hb, ?_⟩
  refine FnO.intro [] F.law_pool ?_
  conv in (bodyOf _) => whnf
  with_reducible apply Sx.let (d := .int c) (σ₁ := σ)
  · cases ns with
    | nil =>
      subst hc
      with_reducible apply Ev.ifF
      · with_reducible apply Ts.cmpr
        · with_reducible apply Ev.len
          walk_at "m.run"
          exact LenOf.scr (by simp)
          walk_at "m.run"
        walk_at "m.run"
      · walk_at "m.run"
    | cons z zs =>
      subst hc
      with_reducible apply Ev.ifT
      · with_reducible apply Ts.cmpr
        · with_reducible apply Ev.len
          walk_at "m.run"
          exact LenOf.scr (by omega)
          walk_at "m.run"
        · walk_at "m.run"
        · refine op_gt_int (decide_eq_true ?_)
          simp only [List.length_cons]; omega
        walk_at "m.run"
      · with_reducible apply Ev.item
        walk_at "m.run"
        · exact ItemOf.scr
        walk_at "m.run"
  walk_at "m.run"
  with_reducible apply Sx.let (d := .int g) (σ₁ := σ)
  · refine Ev.cast (d₀ := .int (if -1 - c > c then -1 - c else c)) (σ₁ := σ) ?_ (by rw [hg])
    refine Ev.callB (rs := [.dat (.int c), .dat (.int (-1 - c))]) ?_ call_max rfl (by decide) boot_max
    walk_at "m.run"
  walk_at "m.run"
  refine Sx.retOwn ?_
  with_reducible apply Evf.lst
  · apply Evs.con
    · by_cases h : g ≥ 10 ^ 18
      · rw [decide_eq_true h, if_pos rfl]
        with_reducible apply Ev.ifT
        · with_reducible apply Ts.cmpr
          · walk_at "m.run"
          · with_reducible apply Ev.bin
            walk_at "m.run"
            exact op_pow_int (by decide) (by decide) (by decide)
          · exact op_ge_int (decide_eq_true h)
          walk_at "m.run"
        walk_at "m.run"
      · rw [decide_eq_false h, if_neg (by decide)]
        with_reducible apply Ev.ifF
        · with_reducible apply Ts.cmpr
          · walk_at "m.run"
          · with_reducible apply Ev.bin
            walk_at "m.run"
            exact op_pow_int (by decide) (by decide) (by decide)
          · exact op_ge_int (decide_eq_false h)
          walk_at "m.run"
        walk_at "m.run"
    · apply Evs.con
      · with_reducible apply Ev.bin
        with_reducible apply Ev.bin
        with_reducible apply Ev.bin
        with_reducible apply Ev.bin
        walk_at "m.run"
        · exact op_mod_int (by decide)
        walk_at "m.run"
        · exact op_mul_int (IntMulOk.of_right (by decide))
        walk_at "m.run"
        · exact op_mod_int (by decide)
      all_goals walk_at "m.run"
    walk_at "m.run"
  walk_at "m.run"
end
-- MG4
section
variable {C : Cx} {k : Nat} {fi : Fi} {ρ ρ' ρ₁ ρ₂ : Loc} {σ σ₁ σ₂ σ₃ σ₄ : Int × Int}
noncomputable abbrev Cx.at (C : Cx) (a : Addr) : Cx := { C with on := true, S := a }
theorem Sx.pool (hoff : C.on = false) {x : Str} {p pos : Pos} {e : Expr} {a b : Int} {ss : List Stmt} {d : PyData} {σ'' : Int × Int} (he : Evf C k fi ρ σ e [.int a, .int b] σ₁) (hk : Storable fi x) (hs : ∀ env : Env, env.scope = fi.sc → swapsWith e (some (.Name x p)) pos.line env = pure false)
    (hr : ∀ l : Addr, ∃ σ', Sx (C.at l) k fi [(x, .src)] (a, b) ss (.ret d σ')) : Sx C k fi ρ σ (.Assign [.Name x p] e pos :: ss) (.ret d σ'') := .mk <| fun f A s P μ E Q hA hS q => by
  refine wpAny_execs_cons (wpAny_Assign_Name (he.run f A s P μ E _ hA hS fun l vs n h₁ t₁ P₁ c₁ b₁ hn hP hl r => ?_) (hs f.env hS.sc))
  have i : ItemOk s.heap P₁ h₁ (.ref l) (.box [.int a, .int b]) := ⟨l, vs, n, rfl, hn, hP, hl, r⟩
  refine storeVar (s := { s with heap := h₁, toks := t₁ }) (hS.after c₁ b₁) hk ⟨i.newOk hS, fun _ _ y es _ hy e => ?_⟩ fun h₂ t₂ hS₂ _ => ?_
  · obtain ⟨_, v, hv, B, us, m, rfl, hl, _⟩ := hS.vars y _ hy
    rw [hv] at e; cases e
    rw [hn] at hl; cases hl
  obtain ⟨kx, v, hv, B, us, m, rfl, hB, rB, nB, _, fB⟩ := hS₂.vars x _ lookup_cons_eq
  have rB' := rB
  cases rB' with
  | cons ra rB' =>
  cases rB' with
  | cons rb rB' =>
  cases rB'
  cases ra; cases rb
  rename_i ta tb
  have S₃ : St (C.at B) fi f (a, b) P₁ (fun y => if y = x then some (.ref l) else μ y) [(x, .src)] h₂ := by
    refine ⟨⟨hS₂.B.stay, hS₂.B.base, fun _ => ⟨nB, ta, tb, m, hB⟩⟩, hS₂.sc, hS₂.fnk, hS₂.glob, hS₂.blt, hS₂.ns, hS₂.nsP, hS₂.nsF, hS₂.cell, hS₂.capart, hS₂.cown, fun y av e => ?_, fun y z ds es w e => ?_, ⟨hS₂.fr.le, hS₂.fr.fresh, fun c o _ e => hS₂.fr.keep c o (fun h => by rw [hoff] at h; cases h) e, hS₂.fr.dom⟩⟩
    · by_cases hy : y = x
      · subst hy
        rw [lookup_cons_eq] at e
        cases e
        exact ⟨kx, _, hv, rfl, rfl⟩
      · rw [lookup_cons_ne hy] at e; cases e
    · by_cases hy : y = x
      · subst hy; rw [lookup_cons_eq] at e; cases e
      · rw [lookup_cons_ne hy] at e; cases e
  obtain ⟨σ', hr'⟩ := hr B
  refine hr'.run f A _ P₁ _ E Q hA S₃ fun v h' tk P' c' b' r' => q v h' tk P' ⟨c'.le, c'.fresh, fun c o _ e => c'.keep c o (fun _ hc => ?_) e, c'.dom⟩ ⟨b'.stay, b'.base, fun h => by rw [hoff] at h; cases h⟩ r'
  rw [hc] at e; rw [show f.hs.get? B = none from fB] at e; cases e
theorem FnAt.at {C : Cx} {x : Str} {n : Nat} {extra : List PyData} {names : List Str} {body : List Stmt} {sc : Scope} (l : Addr) (F : FnAt C x n extra names body sc) : FnAt (C.at l) x n extra names body sc := ⟨F.ex⟩
theorem Facts.at {C : Cx} (l : Addr) (F : Facts C) : Facts (C.at l) := by
  constructor
  all_goals first | exact FnAt.at l F.plain_tree | exact FnAt.at l F.is_spot | exact FnAt.at l F.without_spot | exact FnAt.at l F.type_text | exact FnAt.at l F.parts_text | exact FnAt.at l F.chan_text | exact FnAt.at l F.field_text | exact FnAt.at l F.signature_text | exact FnAt.at l F.level_of_expr | exact FnAt.at l F.expr_text | exact FnAt.at l F.bare_text | exact FnAt.at l F.int_text | exact FnAt.at l F.types_text | exact FnAt.at l F.law_pool | exact FnAt.at l F.law_take | exact FnAt.at l F.law_one | exact FnAt.at l F.law_leaf | exact FnAt.at l F.law_type | exact FnAt.at l F.law_signed | exact FnAt.at l F.law_struct | exact FnAt.at l F.law_interface | exact FnAt.at l F.law_names_right | exact FnAt.at l F.law_spots | exact FnAt.at l F.law_fields | exact F.AHEAD_LEVEL | exact F.TIGHT_LEVEL | exact F.WHOLE_LEVEL | exact F.LONGEST_NUMBER
end
-- MG5
section
variable {C : Cx} {k : Nat} {fi : Fi} {ρ ρ' ρ₁ ρ₂ : Loc} {σ σ₁ σ₂ σ₃ σ₄ : Int × Int}
noncomputable def evAll (f : Expr → Option PyData) : List Expr → Option (List PyData)
  | [] => some []
  | e :: es => if noStar e then (match f e, evAll f es with
    | some d, some ds => some (d :: ds)
    | _, _ => Option.none) else Option.none
noncomputable def evD (ρ : Loc) : Nat → Expr → Option PyData
  | 0, _ => Option.none
  | n + 1, e => match e with
    | .Constant (.str x) _ _ => some (.str x)
    | .Constant (.int i) _ _ => some (.int i)
    | .Constant (.bool b) _ _ => some (.bool b)
    | .Constant .none _ _ => some .none
    | .Name x _ => if (x == ("__debug__" : Str)) || (x == ("__classdict__" : Str)) then Option.none else (match ρ.lookup x with
      | some (.dat d) => some d
      | _ => Option.none)
    | .Tuple es _ _ => (match evAll (evD ρ n) es with
      | some ds => if ds.length ≤ 1000 then some (.tuple ds) else Option.none
      | Option.none => Option.none)
    | .List es _ => (match evAll (evD ρ n) es with
      | some ds => if ds.length ≤ 1000 then some (.list ds) else Option.none
      | Option.none => Option.none)
    | _ => Option.none
theorem evAll_ok {f : Expr → Option PyData} (hf : ∀ e d, f e = some d → Ev C k fi ρ σ e (.dat d) σ) : ∀ (es : List Expr) (ds : List PyData), evAll f es = some ds → Evs C k fi ρ σ es ds σ
  | [], ds, h => by cases h; exact Evs.nil
  | e :: es, ds, h => by
    unfold evAll at h
    split at h
    · rename_i hs
      split at h
      · rename_i d ds' h1 h2
        cases h
        exact Evs.con (hf e d h1) (evAll_ok hf es _ h2) hs
      · cases h
    · cases h
theorem evD_ok : ∀ (n : Nat) (e : Expr) (d : PyData), evD ρ n e = some d → Ev C k fi ρ σ e (.dat d) σ
  | 0, _, _, h => by cases h
  | n + 1, e, d, h => by
    unfold evD at h
    split at h
    · cases h; exact Ev.str
    · cases h; exact Ev.int
    · cases h; exact Ev.bool
    · cases h; exact Ev.none
    · rename_i x p
      split at h
      · cases h
      · rename_i hd
        split at h
        · rename_i d' hl
          cases h
          refine Ev.nm (by rw [hl]) (by simpa using hd)
        · cases h
    · rename_i es _ _
      split at h
      · rename_i ds hds
        split at h
        · rename_i hl
          cases h
          exact Ev.tupl (evAll_ok (fun e d => evD_ok n e d) es ds hds) hl
        · cases h
      · cases h
    · rename_i es _
      split at h
      · rename_i ds hds
        split at h
        · rename_i hl
          cases h
          exact Evf.ev (Evf.lst (evAll_ok (fun e d => evD_ok n e d) es ds hds) hl)
        · cases h
      · cases h
    · cases h
noncomputable abbrev st (x : String) : PyData := .str (Str.ofString x)
noncomputable abbrev sp (a b : List PyData) : PyData := .tuple [.tuple a, .list b]
noncomputable def spotsD : List PyData := [sp [st "k", .int 5, .tuple [st "x"]] [st "k", .int 0, .tuple [st "x"]], sp [st "k", .int 5] [st "k", .int 0], sp [st "k"] [st "k"], sp [st "k", .bool true] [st "k", .bool true], sp [.none, st "p", .int 9] [.none, st "p", .int 0], sp [st "a", st "p", .int 9] [st "a", st "p", .int 0], sp [.none, st "p", .bool true] [.none, st "p", .bool true], sp [.int 7, .int 8] [.int 7, .int 8], sp [.tuple [st "k", .int 5], .int 3] [.tuple [st "k", .int 5], .int 3]]
theorem spots_ok (F : Facts C) : FnD C (k + 1) (Str.ofString "_law_spots") [] σ (.list spotsD) σ := by
  refine FnD.intro [] F.law_spots ?_
  conv in (bodyOf _) => whnf
  with_reducible apply Sx.return
  exact evD_ok 9 _ _ (by rfl)
noncomputable abbrev dT : PyData := .tuple [.str (Str.ofString "name"), .int 7, .none, .str (Str.ofString "T")]
noncomputable abbrev dU : PyData := .tuple [.str (Str.ofString "name"), .int 8, .str (Str.ofString "p"), .str (Str.ofString "U")]
noncomputable abbrev dP (d : PyData) : PyData := .tuple [.str (Str.ofString "ptr"), .int 6, d]
noncomputable abbrev fieldD (n : String) (d : PyData) (e : Bool) (x : String) : PyData := .tuple [.tuple [st n, d, .bool e], st x]
noncomputable def fieldsD : List PyData := [fieldD "a" dT false "a T", fieldD "T" dT true "T", fieldD "U" dU true "p.U", fieldD "b" dU false "b p.U", fieldD "T" (dP dT) true "*T", fieldD "c" (dP dU) false "c *p.U", fieldD "_" dT false "_ T", fieldD "U" (dP dU) true "*p.U"]
theorem fields_ok (F : Facts C) : FnD C (k + 1) (Str.ofString "_law_fields") [] σ (.list fieldsD) σ := by
  refine FnD.intro [] F.law_fields ?_
  conv in (bodyOf _) => whnf
  with_reducible apply Sx.unp (avs := [.dat dT, .dat dU]) (σ₁ := σ)
  · with_reducible apply Evm.of (ds := [dT, dU])
    walk_at "m.run"
  walk_at "m.run"
  · walk_at "m.env"
  refine Sx.sub (ρ' := [(Str.ofString "U", .dat dU), (Str.ofString "T", .dat dT)]) (.cons rfl (.cons rfl .nil)) ?_
  with_reducible apply Sx.return
  exact evD_ok 9 _ _ (by rfl)
end
-- MH1
section
variable {C : Cx} {k : Nat} {fi : Fi} {ρ ρ' ρ₁ ρ₂ : Loc} {σ σ₁ σ₂ σ₃ σ₄ : Int × Int}
theorem spot_at {n : Nat} {d : PyData} (h : spotsD[n]? = some d) : ∃ a b, d = sp a b ∧ wsF a a = b ∧ (∀ x ∈ a, okD x = true) ∧ a.length ≤ 10 ∧ SeqAt.shaped (.list b) = true ∧ PyData.eqv (.list b) (.list b) = true := by
  match n, h with
  | 0, h => cases h; exact ⟨_, _, rfl, rfl, by decide +kernel, by decide, by decide +kernel, by decide +kernel⟩
  | 1, h => cases h; exact ⟨_, _, rfl, rfl, by decide +kernel, by decide, by decide +kernel, by decide +kernel⟩
  | 2, h => cases h; exact ⟨_, _, rfl, rfl, by decide +kernel, by decide, by decide +kernel, by decide +kernel⟩
  | 3, h => cases h; exact ⟨_, _, rfl, rfl, by decide +kernel, by decide, by decide +kernel, by decide +kernel⟩
  | 4, h => cases h; exact ⟨_, _, rfl, rfl, by decide +kernel, by decide, by decide +kernel, by decide +kernel⟩
  | 5, h => cases h; exact ⟨_, _, rfl, rfl, by decide +kernel, by decide, by decide +kernel, by decide +kernel⟩
  | 6, h => cases h; exact ⟨_, _, rfl, rfl, by decide +kernel, by decide, by decide +kernel, by decide +kernel⟩
  | 7, h => cases h; exact ⟨_, _, rfl, rfl, by decide +kernel, by decide, by decide +kernel, by decide +kernel⟩
  | 8, h => cases h; exact ⟨_, _, rfl, rfl, by decide +kernel, by decide, by decide +kernel, by decide +kernel⟩
  | n + 9, h => simp [spotsD] at h
theorem field_at {n : Nat} {d : PyData} (h : fieldsD[n]? = some d) : ∃ (nm : Str) (dd p : PyData) (e : Bool) (x xx : Str), d = .tuple [.tuple [.str nm, dd, .bool e], .str xx] ∧ TyR 1 dd p x ∧ nm.length ≤ 10 ∧ xx = if e then x else (nm ++ Str.ofString " ") ++ x := by
  match n, h with
  | 0, h => cases h; exact ⟨_, _, _, _, _, _, rfl, .leaf (.tT 7), by decide +kernel, by decide +kernel⟩
  | 1, h => cases h; exact ⟨_, _, _, _, _, _, rfl, .leaf (.tT 7), by decide +kernel, by decide +kernel⟩
  | 2, h => cases h; exact ⟨_, _, _, _, _, _, rfl, .leaf (.pU 8), by decide +kernel, by decide +kernel⟩
  | 3, h => cases h; exact ⟨_, _, _, _, _, _, rfl, .leaf (.pU 8), by decide +kernel, by decide +kernel⟩
  | 4, h => cases h; exact ⟨_, _, _, _, _, _, rfl, .ptr (.tT 7), by decide +kernel, by decide +kernel⟩
  | 5, h => cases h; exact ⟨_, _, _, _, _, _, rfl, .ptr (.pU 8), by decide +kernel, by decide +kernel⟩
  | 6, h => cases h; exact ⟨_, _, _, _, _, _, rfl, .leaf (.tT 7), by decide +kernel, by decide +kernel⟩
  | 7, h => cases h; exact ⟨_, _, _, _, _, _, rfl, .ptr (.pU 8), by decide +kernel, by decide +kernel⟩
  | n + 8, h => simp [fieldsD] at h
noncomputable abbrev optP (x : Str) (b : Bool) : PyData := .tuple [.str (optX x b), optD x b]
theorem opt_draws (F : Facts C) (x : Str) : Draws C (k + 2) (Str.ofString "_law_one") [.src, .dat (.list [.tuple [.str (Str.ofString "nil"), .none], .tuple [.str x, nameD x]])] (fun y => ∃ b, y = optP x b) := fun σ hσ => by
  obtain ⟨n, d, σ', hn, hs, ht⟩ := one_ok F (ds := [.tuple [.str (Str.ofString "nil"), .none], .tuple [.str x, nameD x]]) (by simp) (by simp) σ hσ
  refine ⟨d, σ', ?_, hs, ht k⟩
  match n, hn with
  | 0, hn => cases hn; exact ⟨false, rfl⟩
  | 1, hn => cases hn; exact ⟨true, rfl⟩
  | n + 2, hn => simp at hn
theorem opts {x : Str} : ∀ {ys : List PyData}, (∀ y ∈ ys, ∃ b, y = optP x b) → ∃ bs : List Bool, ys = bs.map (optP x) ∧ bs.length = ys.length
  | [], _ => ⟨[], rfl, rfl⟩
  | y :: ys, h => by
    obtain ⟨b, rfl⟩ := h y (.head _)
    obtain ⟨bs, rfl, hl⟩ := opts fun z hz => h z (.tail _ hz)
    exact ⟨b :: bs, rfl, by rw [List.length_cons, List.length_cons, hl]⟩
theorem ty_tup {n : Nat} {d p : PyData} {x : Str} (h : TyR n d p x) : ∃ ps, p = .tuple ps := by
  obtain ⟨ht, m, _, hp⟩ := TyR.pr n d p x h
  cases hp with
  | leaf _ h' => rw [ht] at h'; cases h'
  | tup => exact ⟨_, rfl⟩
end
-- MH2
section
variable {C : Cx} {k : Nat} {fi : Fi} {ρ ρ' ρ₁ ρ₂ : Loc} {σ σ₁ σ₂ σ₃ σ₄ : Int × Int}
noncomputable abbrev lFi : Fi := ⟨scopeOf 53, [Str.ofString "text", Str.ofString "source"]⟩
noncomputable abbrev L0 : Loc := [(Str.ofString "source", .src)]
theorem lw14 (F : Facts C) : Sx C (k + 3) lFi L0 σ ((bodyOf 53).drop 14) (.ret (.bool true) σ) := by
  have p1 := parts_ok (k := k + 2) (σ := σ) F (Str.ofString "x") [Str.ofString "a", Str.ofString "b c"] (by decide +kernel)
  have p2 := parts_ok (k := k + 2) (σ := σ) F (Str.ofString "y") [Str.ofString "z"] (by decide +kernel)
  conv in (List.drop 14 _) => whnf
  with_reducible apply Sx.return
  with_reducible apply Ev.boolOp
  with_reducible apply BoolV.andT
  · with_reducible apply Ev.cmpr
    · refine Ev.callF (rs := [.dat (.str (Str.ofString "x")), .dat (.list ([Str.ofString "a", Str.ofString "b c"].map .str))]) ?_ p1
      with_reducible apply Args.cons
      · walk_at "m.run"
      · with_reducible apply Args.cons
        · exact evD_ok 9 _ _ (by rfl)
        walk_at "m.run"
      walk_at "m.run"
    · walk_at "m.run"
    · exact op_eq_str (by decide +kernel)
    walk_at "m.run"
  with_reducible apply BoolV.one
  with_reducible apply Ev.cmpr
  · refine Ev.callF (rs := [.dat (.str (Str.ofString "y")), .dat (.list ([Str.ofString "z"].map .str))]) ?_ p2
    with_reducible apply Args.cons
    · walk_at "m.run"
    · with_reducible apply Args.cons
      · exact evD_ok 9 _ _ (by rfl)
      walk_at "m.run"
    walk_at "m.run"
  · walk_at "m.run"
  · exact op_eq_str (by decide +kernel)
  walk_at "m.run"
theorem lw12 (F : Facts C) (hσ : SOk σ) : ∃ σ', Sx C (k + 9) lFi L0 σ ((bodyOf 53).drop 12) (.ret (.bool true) σ') := by
  obtain ⟨n, d, σ₁, hn, h₁, t₁⟩ := one_ok F (ds := fieldsD) (by decide) (by decide) σ hσ
  obtain ⟨nm, dd, p, e, x, xx, rfl, ht, hm, rfl⟩ := field_at hn
  refine ⟨σ₁, ?_⟩
  have hx : x.length ≤ 1000 := Nat.le_trans (TyR.len 1 _ _ _ ht) (by decide)
  have tx := (ty_text F 1 (by decide) _ _ _ ht σ₁)
  have hf : FnD C (k + 9) (Str.ofString "field_text") [.dat (.tuple [.str nm, dd, .bool e])] σ₁ (.str (if e then x else (nm ++ Str.ofString " ") ++ x)) σ₁ := by
    cases e with
    | true => exact (field_emb (k := 7) F tx).mono (by omega)
    | false => exact (field_nam (k := 7) F tx (by omega)).mono (by omega)
  have p1 := parts_ok (k := k + 8) (σ := σ₁) F (Str.ofString "x") [] (by decide +kernel)
  generalize (if e then x else (nm ++ Str.ofString " ") ++ x) = y at *
  conv in (List.drop 12 _) => whnf
  with_reducible apply Sx.unp (avs := [.dat (.tuple [.str nm, dd, .bool e]), .dat (.str y)]) (σ₁ := σ₁)
  · with_reducible apply Evm.of (ds := [.tuple [.str nm, dd, .bool e], .str y])
    · with_reducible apply Ev.fn (rs := [.src, .dat (.list fieldsD)]) (σ₁ := σ)
      · with_reducible apply Args.cons
        · walk_at "m.run"
        · with_reducible apply Args.cons
          · exact Ev.callF0 (fields_ok (k := k + 8) F)
          walk_at "m.run"
        walk_at "m.run"
      · exact t₁ (k + 7)
      all_goals walk_at "m.run"
    walk_at "m.run"
  walk_at "m.run"
  with_reducible apply Sx.ifSkip
  · with_reducible apply Ts.boolOp
    with_reducible apply TsAll.orF
    · with_reducible apply Ts.cmpr
      · with_reducible apply Ev.fn (rs := [.dat (.tuple [.str nm, dd, .bool e])])
        walk_at "m.run"
        exact hf
        walk_at "m.run"
      · walk_at "m.run"
      · exact op_ne_str (by simp)
      walk_at "m.run"
    with_reducible apply TsAll.orF
    · with_reducible apply Ts.cmpr
      · refine Ev.callF (rs := [.dat (.str (Str.ofString "x")), .dat (.list ([].map .str))]) ?_ p1
        with_reducible apply Args.cons
        · walk_at "m.run"
        · with_reducible apply Args.cons
          · exact evD_ok 9 _ _ (by rfl)
          walk_at "m.run"
        walk_at "m.run"
      · walk_at "m.run"
      · exact op_ne_str (by decide +kernel)
      walk_at "m.run"
    exact TsAll.nilO
  exact Sx.sub (.cons rfl .nil) (lw14 (k := k + 6) F)
end
-- MH3
section
variable {C : Cx} {k : Nat} {fi : Fi} {ρ ρ' ρ₁ ρ₂ : Loc} {σ σ₁ σ₂ σ₃ σ₄ : Int × Int}
noncomputable abbrev isL : List PyData := [.int 0, .int (-3), .bool true, .none, .str (Str.ofString "a")]
theorem is_each (F : Facts C) {f : PyData → PyData → Prop} (h : ∀ d, okD d = true → f d (.bool (isInt d))) : Each f isL [.bool true, .bool true, .bool false, .bool false, .bool false] :=
  .cons (h _ rfl) (.cons (h _ rfl) (.cons (h _ rfl) (.cons (h _ rfl) (.cons (h _ rfl) .nil))))
theorem lw11 (F : Facts C) {o : Out} (h : Sx C (k + 9) lFi L0 σ ((bodyOf 53).drop 12) o) : Sx C (k + 9) lFi L0 σ ((bodyOf 53).drop 11) o := by
  conv in (List.drop 11 _) => whnf
  with_reducible apply Sx.ifSkip
  · with_reducible apply Ts.cmpr (d₁ := .list [.bool true, .bool true, .bool false, .bool false, .bool false]) (d₂ := .list [.bool true, .bool true, .bool false, .bool false, .bool false]) (σ₁ := σ) (σ₂ := σ)
    · with_reducible apply Evf.ev
      with_reducible apply Evf.cmp (ds := isL) (σ₁ := σ)
      · exact TgtE.name
      · with_reducible apply EvIt.list TgtE.name (r := .dat (.list isL))
        · with_reducible apply Evf.ev
          with_reducible apply Evf.lst
          walk_at "m.run"
        · exact LstOf.dat _
      · exact SubF.nil
      · refine Ct.each (is_each F fun d hd => ?_)
        with_reducible apply Ev.fn (rs := [.dat d])
        walk_at "m.run"
        exact (spot_ok (k := k + 8) F hd)
        walk_at "m.run"
      · exact Nat.le_of_ble_eq_true rfl
      all_goals walk_at "m.run"
    · exact evD_ok 9 _ _ (by rfl)
    · exact op_ne_data (by decide +kernel) (by decide +kernel) (by decide +kernel)
    walk_at "m.run"
  exact h
theorem lw9 (F : Facts C) (hσ : SOk σ) : ∃ σ', Sx C (k + 9) lFi L0 σ ((bodyOf 53).drop 9) (.ret (.bool true) σ') := by
  obtain ⟨n, d, σ₁, hn, h₁, t₁⟩ := one_ok F (ds := spotsD) (by decide) (by decide) σ hσ
  obtain ⟨a, b, rfl, hw, hok, hl, hs, he⟩ := spot_at hn
  obtain ⟨σ', hr⟩ := lw12 (k := k) F h₁
  refine ⟨σ', ?_⟩
  have hf : FnD C (k + 9) (Str.ofString "without_spot") [.dat (.tuple a), .dat (.list a)] σ₁ (.list b) σ₁ := hw ▸ wspot_ok (k := k + 7) F hok rfl (by omega)
  conv in (List.drop 9 _) => whnf
  with_reducible apply Sx.unp (avs := [.dat (.tuple a), .dat (.list b)]) (σ₁ := σ₁)
  · with_reducible apply Evm.of (ds := [.tuple a, .list b])
    · with_reducible apply Ev.fn (rs := [.src, .dat (.list spotsD)]) (σ₁ := σ)
      · with_reducible apply Args.cons
        · walk_at "m.run"
        · with_reducible apply Args.cons
          · exact Ev.callF0 (spots_ok (k := k + 8) F)
          walk_at "m.run"
        walk_at "m.run"
      · exact t₁ (k + 7)
      all_goals walk_at "m.run"
    walk_at "m.run"
  walk_at "m.run"
  with_reducible apply Sx.ifSkip
  · with_reducible apply Ts.cmpr
    · with_reducible apply Ev.fn (rs := [.dat (.tuple a), .dat (.list a)])
      · with_reducible apply Args.cons
        · walk_at "m.run"
        · with_reducible apply Args.cons
          · with_reducible apply Evf.ev
            refine Evf.listT (σ₁ := σ₁) ?_ rfl rfl ?_
            · walk_at "m.run"
            · omega
          walk_at "m.run"
        walk_at "m.run"
      · exact hf
      all_goals walk_at "m.run"
    · walk_at "m.run"
    · exact op_ne_data hs hs (by rw [he]; rfl)
    walk_at "m.run"
  exact Sx.sub (.cons rfl .nil) (lw11 F hr)
end
-- MH4
section
variable {C : Cx} {k : Nat} {fi : Fi} {ρ ρ' ρ₁ ρ₂ : Loc} {σ σ₁ σ₂ σ₃ σ₄ : Int × Int}
noncomputable abbrev L1 (x : Str) : Loc := [(Str.ofString "text", .dat (.str x)), (Str.ofString "source", .src)]
noncomputable abbrev optsD (x : Str) : PyData := .list [.tuple [.str (Str.ofString "nil"), .none], .tuple [.str x, nameD x]]
theorem optP_each {f : PyData → PyData → Prop} {x : Str} {i : Nat} (h : ∀ b, f (optP x b) (match i with | 0 => .str (optX x b) | _ => optD x b)) : ∀ bs : List Bool, Each f (bs.map (optP x)) (bs.map fun b => match i with | 0 => .str (optX x b) | _ => optD x b)
  | [] => .nil
  | b :: bs => .cons (h b) (optP_each h bs)
theorem lw8 (F : Facts C) {x : Str} {bs : List Bool} {o : Out} (hx : x.length ≤ 200000) (hb : bs.length ≤ 4) (h : Sx C (k + 9) lFi L0 σ ((bodyOf 53).drop 9) o) : Sx C (k + 9) lFi ((Str.ofString "some", .dat (.list (bs.map (optP x)))) :: L1 x) σ ((bodyOf 53).drop 8) o := by
  have tx := total_le (opt_len hx bs)
  have lx : (bs.map (optX x)).length ≤ 4 := by rw [List.length_map]; exact hb
  have mx : (bs.map (optX x)).length * 200000 ≤ 4 * 200000 := Nat.mul_le_mul_right _ lx
  have hf := types_text_ok (k := k + 7) (σ := σ) F hx bs hb
  have e1 : (bs.map (optX x)).map PyData.str = bs.map fun b => .str (optX x b) := by rw [List.map_map]; rfl
  conv in (List.drop 8 _) => whnf
  with_reducible apply Sx.ifSkip
  · with_reducible apply Ts.cmpr
    · with_reducible apply Ev.fn (rs := [.dat (.tuple (bs.map (optD x)))])
      · with_reducible apply Args.cons
        · with_reducible apply Ev.tupC (r := .dat (.list (bs.map (optD x)))) (σ₁ := σ)
          · with_reducible apply Evf.ev
            with_reducible apply Evf.cmp (ρ' := []) (ds := bs.map (optP x)) (σ₁ := σ)
            · exact TgtE.name
            · with_reducible apply EvIt.list TgtE.name (r := .dat (.list (bs.map (optP x))))
              · walk_at "m.run"
              · exact LstOf.dat _
            · exact SubF.nil
            · refine Ct.each (optP_each (i := 1) (fun b => ?_) bs)
              walk_at "m.run"
            · rw [List.length_map]; omega
            all_goals walk_at "m.run"
          · exact LstOf.dat _
          walk_at "m.run"
          rw [List.length_map]; omega
        walk_at "m.run"
      · exact hf
      all_goals walk_at "m.run"
    · with_reducible apply Ev.jn (ys := bs.map (optX x)) (r := .dat (.list ((bs.map (optX x)).map .str)))
      · with_reducible apply Evf.ev
        with_reducible apply Evf.cmp (ρ' := []) (ds := bs.map (optP x)) (σ₁ := σ)
        · exact TgtE.name
        · with_reducible apply EvIt.list TgtE.name (r := .dat (.list (bs.map (optP x))))
          · walk_at "m.run"
          · exact LstOf.dat _
        · exact SubF.nil
        · rw [e1]
          refine Ct.each (optP_each (i := 0) (fun b => ?_) bs)
          walk_at "m.run"
        · rw [List.length_map]; omega
        all_goals walk_at "m.run"
      · exact LstOf.dat _
      all_goals first | (rw [ln0]; show total _ + _ ≤ _; omega) | walk_at "m.run"
    · exact op_ne_str (by simp)
    walk_at "m.run"
  exact Sx.sub (.cons rfl .nil) h
theorem lw7 (F : Facts C) (hσ : SOk σ) {x : Str} (hx : x.length ≤ 200000) : ∃ σ', Sx C (k + 9) lFi (L1 x) σ ((bodyOf 53).drop 7) (.ret (.bool true) σ') := by
  obtain ⟨m, σ₁, hm, h₁, t₁⟩ := take_ok F 4 (by decide) (by decide) σ hσ
  obtain ⟨ys, σ₂, hys, hyl, h₂, c₂⟩ := draws_ct (opt_draws (k := k + 7) F x) (by decide) (upTo m) σ₁ h₁
  obtain ⟨bs, rfl, hbl⟩ := opts hys
  have hb : bs.length ≤ 4 := by rw [hbl, hyl, upTo, List.length_map, List.length_range]; omega
  obtain ⟨σ', hr⟩ := lw9 (k := k) F h₂
  refine ⟨σ', ?_⟩
  conv in (List.drop 7 _) => whnf
  with_reducible apply Sx.comp (ρ' := [(Str.ofString "source", .src), (Str.ofString "text", .dat (.str x))]) (ds := upTo m) (σ₁ := σ₁)
  · exact TgtE.name
  · refine EvIt.range (n := m) ?_ (by omega) rfl
    with_reducible apply Ev.fn (rs := [.src, .dat (.int 4)])
    walk_at "m.run"
    exact t₁ (k + 8)
    walk_at "m.run"
  · exact .cons rfl rfl rfl (.cons rfl rfl rfl .nil)
  · refine c₂ _ _ _ _ _ _ _ (fun b σ => ?_) rfl rfl
    with_reducible apply Args.cons
    · walk_at "m.run"
    · with_reducible apply Args.cons
      · exact evD_ok 9 _ _ (by rfl)
      walk_at "m.run"
    walk_at "m.run"
  · rw [upTo, List.length_map, List.length_range]; omega
  · rfl
  · walk_at "m.env"
  iterate 6 first | rfl | (intro _ _; rfl)
  refine Sx.freeze (x := Str.ofString "some") (ds := bs.map (optP x)) rfl ?_
  exact Sx.sub (ρ' := (Str.ofString "some", .dat (.list (bs.map (optP x)))) :: L1 x) (.cons rfl (.cons rfl (.cons rfl .nil))) (lw8 F hx hb hr)
end
-- MH5
section
variable {C : Cx} {k : Nat} {fi : Fi} {ρ ρ' ρ₁ ρ₂ : Loc} {σ σ₁ σ₂ σ₃ σ₄ : Int × Int}
noncomputable abbrev L3 (d p : PyData) (x : Str) : Loc := [(Str.ofString "text", .dat (.str x)), (Str.ofString "plain", .dat p), (Str.ofString "told", .dat d), (Str.ofString "source", .src)]
theorem lw6 (F : Facts C) {d p : PyData} {x : Str} {o : Out} (hd : Sig (TyR 2) d p x) (hn : ∀ k, FnD C (k + 5) (Str.ofString "_law_names_right") [.src] σ (.bool true) σ₁) (h : Sx C (k + 15) lFi (L1 x) σ₁ ((bodyOf 53).drop 7) o) : Sx C (k + 15) lFi (L3 d p x) σ ((bodyOf 53).drop 6) o := by
  have hs := sig_ok F ((ty_text F 2 (by decide)).mono (k := k + 13) (by omega)) (TyR.len 2) (by decide) hd σ
  conv in (List.drop 6 _) => whnf
  with_reducible apply Sx.ifSkip (σ₁ := σ₁)
  · with_reducible apply Ts.boolOp
    with_reducible apply TsAll.orF (σ₁ := σ)
    · with_reducible apply Ts.cmpr
      · with_reducible apply Ev.fn (rs := [.dat d, .dat (.tuple []), .dat (.tuple [])])
        walk_at "m.run"
        exact hs
        walk_at "m.run"
      · walk_at "m.run"
      · exact op_ne_str (by simp)
      walk_at "m.run"
    with_reducible apply TsAll.orF (σ₁ := σ₁)
    · refine Ts.notv (b := true) (Ts.val ?_ ?_) rfl
      · with_reducible apply Ev.fn (rs := [.src])
        walk_at "m.run"
        exact hn (k + 10)
        walk_at "m.run"
      · walk_at "m.run"
    exact TsAll.nilO
  exact Sx.sub (.cons rfl (.cons rfl .nil)) h
theorem lw5 (F : Facts C) (hσ : SOk σ) : ∃ σ', Sx C (k + 15) lFi L0 σ ((bodyOf 53).drop 5) (.ret (.bool true) σ') := by
  obtain ⟨y, σ₁, ⟨d, p, x, rfl, hy⟩, h₁, t₁⟩ := (types_ok (k := k + 5) F).2 5 σ hσ
  obtain ⟨σ₂, h₂, t₂⟩ := names_ok F σ₁ h₁
  have hx : x.length ≤ 200000 := Nat.le_trans (hy.len (TyR.len 2)) (by decide)
  obtain ⟨σ', hr⟩ := lw7 (k := k + 6) F h₂ hx
  refine ⟨σ', ?_⟩
  conv in (List.drop 5 _) => whnf
  with_reducible apply Sx.unpC (avs := [.dat d, .dat p, .dat (.str x)]) (σ₁ := σ₁)
  · with_reducible apply Evm.of (ds := [d, p, .str x])
    · with_reducible apply Ev.fn (rs := [.src, .dat (.int 2), .dat (.int 5)])
      walk_at "m.run"
      exact t₁
      walk_at "m.run"
    walk_at "m.run"
  · rfl
  · rfl
  · intro y hy
    simp only [xsOf, List.map_cons, List.map_nil, List.mem_cons, List.not_mem_nil, or_false] at hy
    rcases hy with rfl | rfl | rfl
    · exact .inl rfl
    · exact .inl rfl
    · exact .inr ⟨rfl, .head _⟩
  walk_at "m.run"
  exact lw6 F hy t₂ hr
theorem lw3 (F : Facts C) (hσ : SOk σ) : ∃ σ', Sx C (k + 17) lFi L0 σ ((bodyOf 53).drop 3) (.ret (.bool true) σ') := by
  obtain ⟨y, σ₁, ⟨d, p, x, rfl, hy⟩, h₁, t₁⟩ := (types_ok (k := k + 5) F).1 σ hσ
  obtain ⟨σ', hr⟩ := lw5 (k := k + 2) F h₁
  refine ⟨σ', ?_⟩
  have t1 := (ty_text F 3 (by decide) d p x hy σ₁).mono (k := k + 17) (by omega)
  have t2 := (ty_text F 3 (by decide) p p x (TyR.self 3 _ _ _ hy) σ₁).mono (k := k + 17) (by omega)
  obtain ⟨_, n, hn, hp⟩ := TyR.pr 3 d p x hy
  have t3 := (plain_ok (k := k + 14) (σ := σ₁) F hp (Nat.le_trans hn (by decide)) rfl)
  obtain ⟨ps, rfl⟩ := ty_tup hy
  have dep := TyR.dep 3 _ _ _ hy
  conv in (List.drop 3 _) => whnf
  with_reducible apply Sx.unpC (avs := [.dat d, .dat (.tuple ps), .dat (.str x)]) (σ₁ := σ₁)
  · with_reducible apply Evm.of (ds := [d, .tuple ps, .str x])
    · with_reducible apply Ev.fn (rs := [.src, .dat (.int 3)])
      walk_at "m.run"
      exact t₁
      walk_at "m.run"
    walk_at "m.run"
  · rfl
  · rfl
  · intro y hy
    simp only [xsOf, List.map_cons, List.map_nil, List.mem_cons, List.not_mem_nil, or_false] at hy
    rcases hy with rfl | rfl | rfl
    · exact .inl rfl
    · exact .inl rfl
    · exact .inr ⟨rfl, .head _⟩
  walk_at "m.run"
  with_reducible apply Sx.ifSkip (σ₁ := σ₁)
  · with_reducible apply Ts.boolOp
    with_reducible apply TsAll.orF (σ₁ := σ₁)
    · with_reducible apply Ts.cmpr
      · with_reducible apply Ev.fn (rs := [.dat d])
        walk_at "m.run"
        exact t1
        walk_at "m.run"
      · walk_at "m.run"
      · exact op_ne_str (by simp)
      walk_at "m.run"
    with_reducible apply TsAll.orF (σ₁ := σ₁)
    · with_reducible apply Ts.cmpr
      · with_reducible apply Ev.fn (rs := [.dat (.tuple ps)])
        walk_at "m.run"
        exact t2
        walk_at "m.run"
      · walk_at "m.run"
      · exact op_ne_str (by simp)
      walk_at "m.run"
    with_reducible apply TsAll.orF (σ₁ := σ₁)
    · with_reducible apply Ts.cmpr
      · with_reducible apply Ev.fn (rs := [.dat d])
        walk_at "m.run"
        exact t3
        walk_at "m.run"
      · walk_at "m.run"
      · exact op_ne_self (by omega)
      walk_at "m.run"
    exact TsAll.nilO
  exact Sx.sub (.cons rfl .nil) hr
end
-- MH6
section
variable {C : Cx} {k : Nat} {fi : Fi} {ρ ρ' ρ₁ ρ₂ : Loc} {σ σ₁ σ₂ σ₃ σ₄ : Int × Int}
noncomputable abbrev innerD : PyData := .tuple [.str (Str.ofString "chan"), .int 2, .str (Str.ofString "recv"), .tuple [.str (Str.ofString "name"), .int 3, .none, .str (Str.ofString "T")]]
noncomputable abbrev firstD : PyData := .tuple [.str (Str.ofString "chan"), .int 1, .str (Str.ofString "both"), innerD]
theorem law_ok (F : Facts C) (hoff : C.on = false) {ns : List Int} (hn : ns.length ≤ 100) : Sx C (k + 17) lFi [(Str.ofString "script", .scr ns)] σ (bodyOf 53) (.ret (.bool true) σ) := by
  obtain ⟨a, b, hb, hp⟩ := pool_ok (k := k + 16) (σ := σ) F ns hn
  have hin := (ty_text F 1 (by decide) innerD _ _ (.chan .recv (.tT 3)) σ).mono (k := k + 16) (by omega)
  have hch := chan_ok (s := 1) F .both hin (by decide +kernel)
  conv in (bodyOf _) => whnf
  with_reducible apply Sx.let (d := firstD) (σ₁ := σ)
  · exact evD_ok 9 _ _ (by rfl)
  walk_at "m.run"
  with_reducible apply Sx.ifSkip (σ₁ := σ)
  · with_reducible apply Ts.cmpr
    · with_reducible apply Ev.fn (rs := [.dat firstD])
      walk_at "m.run"
      exact hch
      walk_at "m.run"
    · walk_at "m.run"
    · exact op_ne_str (by decide +kernel)
    walk_at "m.run"
  refine Sx.pool hoff (a := a) (b := b) (σ₁ := σ) ?_ ?_ ?_ ?_
  · refine Evf.callF (rs := [.scr ns]) ?_ hp
    walk_at "m.run"
  · exact .inr ⟨rfl, .tail _ (.head _)⟩
  · walk_at "m.env"
  · intro l
    exact lw3 (k := k) (F.at l) hb
end
-- MJ1
section
variable {C : Cx} {k : Nat} {fi : Fi} {ρ ρ' ρ₁ ρ₂ : Loc} {σ σ₁ σ₂ σ₃ σ₄ : Int × Int}
theorem sx_end {ns : List Int} (f : Frm) {A : Around} {s : Shared} {μ : Str → Option Value} {E : Value → Shared → Prop} {Q : Flow → Shared → Prop} (hA : AOk A 17) (hS : St C lFi f (0, 0) C.h₀.get? μ [(Str.ofString "script", .scr ns)] s.heap) {ss : List Stmt} (h0 : Sx C 17 lFi [(Str.ofString "script", .scr ns)] (0, 0) ss (.ret (.bool true) (0, 0))) (hh : f.hs = C.h₀)
    (q : ∀ h' tk, (∀ b o, C.h₀.get? b = some o → h'.get? b = some o) → Q (.ret (.bool true)) { s with heap := h', toks := tk }) (hoff : C.on = false) : wpAny (model C.prog C.w) A (execs ss f.env) Q E s := by
  refine h0.run f A s _ μ E Q hA hS fun v h' tk P' c b r => ?_
  cases r
  refine q h' tk fun b o e => c.keep b o (fun h => by rw [hoff] at h; cases h) ?_
  rw [hh]; exact e
theorem join_core (F : Facts C) (hoff : C.on = false) {ns : List Int} (hn : ns.length ≤ 100) (f : Frm) {A : Around} {s : Shared} {μ : Str → Option Value} {E : Value → Shared → Prop} {Q : Flow → Shared → Prop} (hA : AOk A 17) (hS : St C lFi f (0, 0) C.h₀.get? μ [(Str.ofString "script", .scr ns)] s.heap) (hh : f.hs = C.h₀)
    (q : ∀ h' tk, (∀ b o, C.h₀.get? b = some o → h'.get? b = some o) → Q (.ret (.bool true)) { s with heap := h', toks := tk }) : wpAny (model C.prog C.w) A (execs (bodyOf 53) f.env) Q E s := by
  have h0 : Sx C 17 lFi [(Str.ofString "script", .scr ns)] (0, 0) (bodyOf 53) (.ret (.bool true) (0, 0)) := law_ok (k := 0) (σ := (0, 0)) F hoff hn
  with_reducible exact sx_end f hA hS h0 hh q hoff
theorem join_ok (F : Facts C) (hoff : C.on = false) {fa l : Addr} {cd : Value} {name : Str} {s : Shared} {ns : List Int} {vs : List Value} {oT oS : Obj} {m : Str → Option Value} {E : Value → Shared → Prop} {Q : Flow → Shared → Prop}
    (hL : C.h₀.IsList l vs.toArray) (hI : IntsAre vs ns) (hn : ns.length ≤ 100) (Ff : Fr C.h₀ C.h₀.objs.size s.heap m)
    (N : News C.h₀ C.h₀.objs.size s.heap [(C.h₀.objs.size + 1 + 1, oT), (C.h₀.objs.size + 1, oS)]) (hT : oT.data = .cell Option.none) (hS : oS.data = .cell Option.none) (hm : m (Str.ofString "script") = some (.ref l))
    (q : ∀ h' tk, (∀ b o, C.h₀.get? b = some o → h'.get? b = some o) → Q (.ret (.bool true)) { s with heap := h', toks := tk }) :
    wpAny (model C.prog C.w) (callerA.deeper (envOfC name (scopeOf 53) C.h₀.objs.size fa cd)) (execs (bodyOf 53) (envOfC name (scopeOf 53) C.h₀.objs.size fa cd)) Q E s := by
  have hc : (envOfC name (scopeOf 53) C.h₀.objs.size fa cd).cells = [(Str.ofString "text", C.h₀.objs.size + 1 + 1), (Str.ofString "source", C.h₀.objs.size + 1)] := rfl
  have hkT : (envOfC name (scopeOf 53) C.h₀.objs.size fa cd).kindOf (Str.ofString "text") = some .cell := rfl
  have hkS : (envOfC name (scopeOf 53) C.h₀.objs.size fa cd).kindOf (Str.ofString "source") = some .cell := rfl
  have hks : (envOfC name (scopeOf 53) C.h₀.objs.size fa cd).kindOf (Str.ofString "script") = some .local := rfl
  have nT := N _ (.head _)
  have nS := N _ (.tail _ (.head _))
  have cells : ∀ x c, (envOfC name (scopeOf 53) C.h₀.objs.size fa cd).cells.lookup x = some c → (x = Str.ofString "text" ∧ c = C.h₀.objs.size + 1 + 1) ∨ (x = Str.ofString "source" ∧ c = C.h₀.objs.size + 1) := fun x c e => by
    rw [hc] at e
    by_cases h1 : x = Str.ofString "text"
    · subst h1
      rw [List.lookup_cons, beq_self_eq_true] at e
      cases e; exact .inl ⟨rfl, rfl⟩
    · rw [List.lookup_cons, beq_eq_false_iff_ne.mpr h1] at e
      by_cases h2 : x = Str.ofString "source"
      · subst h2
        rw [List.lookup_cons, beq_self_eq_true] at e
        cases e; exact .inr ⟨rfl, rfl⟩
      · rw [List.lookup_cons, beq_eq_false_iff_ne.mpr h2] at e
        cases e
  have nTS : Str.ofString "text" ≠ Str.ofString "source" := by decide +kernel
  have nsT : Str.ofString "script" ≠ Str.ofString "text" := by decide +kernel
  have nsS : Str.ofString "script" ≠ Str.ofString "source" := by decide +kernel
  have St₀ : St C lFi ⟨envOfC name (scopeOf 53) C.h₀.objs.size fa cd, C.h₀, C.h₀.get?⟩ (0, 0) C.h₀.get? (fun x => if x = Str.ofString "text" ∨ x = Str.ofString "source" then Option.none else m x) [(Str.ofString "script", .scr ns)] s.heap := by
    refine ⟨⟨Ff.keep, fun _ _ e => e, fun h => by rw [hoff] at h; cases h⟩, rfl, rfl, rfl, rfl, ⟨m, Ff.ns, fun x hx => ?_⟩, fresh_size _, fresh_size _, fun x c e => ?_, fun x y c ex ey => ?_, fun x hx => ?_, fun x av e => ?_, fun x y ds es v e => ?_, CStep.ext Ff.keep⟩
    · rw [if_neg]
      rintro (rfl | rfl)
      · rw [show Env.kindOf _ (Str.ofString "text") = some .cell from hkT] at hx; cases hx
      · rw [show Env.kindOf _ (Str.ofString "source") = some .cell from hkS] at hx; cases hx
    · rcases cells x c e with ⟨rfl, rfl⟩ | ⟨rfl, rfl⟩
      · refine ⟨nT.2.2, fun h => ?_, oT, nT.1, ?_⟩
        · rw [show Env.kindOf _ (Str.ofString "text") = some .cell from hkT] at h; cases h
        · rw [if_pos (.inl rfl)]; exact hT
      · refine ⟨nS.2.2, fun h => ?_, oS, nS.1, ?_⟩
        · rw [show Env.kindOf _ (Str.ofString "source") = some .cell from hkS] at h; cases h
        · rw [if_pos (.inr rfl)]; exact hS
    · have ne : (C.h₀.objs.size + 1 + 1 : Nat) ≠ C.h₀.objs.size + 1 := by omega
      rcases cells x c ex with ⟨rfl, rfl⟩ | ⟨rfl, rfl⟩
      · rcases cells y _ ey with ⟨rfl, h⟩ | ⟨rfl, h⟩
        · rfl
        · exact absurd h ne
      · rcases cells y _ ey with ⟨rfl, h⟩ | ⟨rfl, h⟩
        · exact absurd h.symm ne
        · rfl
    · rcases List.mem_cons.mp hx with rfl | hx
      · exact ⟨_, (by rw [hc, List.lookup_cons, beq_self_eq_true]), nT.2.2⟩
      · rw [List.mem_singleton.mp hx]
        exact ⟨_, (by rw [hc, List.lookup_cons, beq_eq_false_iff_ne.mpr nTS.symm]; simp only [List.lookup_cons, beq_self_eq_true]), nS.2.2⟩
    · by_cases h : x = Str.ofString "script"
      · subst h
        rw [lookup_cons_eq] at e
        cases e
        refine ⟨.inl hks, .ref l, ?_, l, vs, rfl, hL, hI⟩
        rw [if_neg (by rintro (h | h); exact nsT h; exact nsS h)]; exact hm
      · rw [lookup_cons_ne h] at e; cases e
    · by_cases h : x = Str.ofString "script"
      · subst h; rw [lookup_cons_eq] at e; cases e
      · rw [lookup_cons_ne h] at e; cases e
  have hA : AOk (callerA.deeper (envOfC name (scopeOf 53) C.h₀.objs.size fa cd)) 17 := by
    refine ⟨rfl, ?_, ?_⟩
    · show 1 + 300 + 1 + 17 ≤ 900
      decide
    · show 4 + 3 + 20 * 17 ≤ 9000
      decide
  with_reducible exact join_core F hoff hn ⟨envOfC name (scopeOf 53) C.h₀.objs.size fa cd, C.h₀, C.h₀.get?⟩ hA St₀ rfl q
theorem join_all (F : Facts C) (hoff : C.on = false) {fa l : Addr} {cd : Value} {name : Str} {s : Shared} {ns : List Int} {vs : List Value} {oT oS : Obj} {m : Str → Option Value} {E : Value → Shared → Prop} {Q : Flow → Shared → Prop} {sc : Scope} {body : List Stmt} {L : Addr}
    (hsc : sc = scopeOf 53) (hb : body = bodyOf 53) (hl : L = C.h₀.objs.size)
    (hL : C.h₀.IsList l vs.toArray) (hI : IntsAre vs ns) (hn : ns.length ≤ 100) (Ff : Fr C.h₀ C.h₀.objs.size s.heap m)
    (N : News C.h₀ C.h₀.objs.size s.heap [(C.h₀.objs.size + 1 + 1, oT), (C.h₀.objs.size + 1, oS)]) (hT : oT.data = .cell Option.none) (hS : oS.data = .cell Option.none) (hm : m (Str.ofString "script") = some (.ref l))
    (q : ∀ h' tk, (∀ b o, C.h₀.get? b = some o → h'.get? b = some o) → Q (.ret (.bool true)) { s with heap := h', toks := tk }) :
    wpAny (model C.prog C.w) (callerA.deeper (envOfC name sc L fa cd)) (execs body (envOfC name sc L fa cd)) Q E s := by
  subst hsc hb hl
  with_reducible exact join_ok F hoff hL hI hn Ff N hT hS hm q
end
end Mine
open Mine
theorem PySem.Challenge.cw_xm0219_01_holds : PySem.Challenge.rw_xm0219_01.Holds := by
  w_on
  refine holds_law said_ok fun said => ?_
  refine holds_open (q := qView) (loose := qLoose) (XP := XL qView []) (Yf := Hook.obs theHook) (Ya := Hook.val theHook) (YP := Hook.says theHook) (N := 3564) left_ok (Hook.of theHook) (Hook.keeps theHook) (fun s e => xl_of s (Bool.and_eq_true_iff.mp e).1) XL.keeps (by rfl) (by rfl) (by rfl) (fun s e => recFacts_of (Bool.and_eq_true_iff.mp e).2) (by rfl) said opens_ok ⟨rfl, rfl, rfl, rfl, rfl, by decide +kernel⟩ ?hw ?hc
  (case hw => w_witness2)
  intro w s₀ s₁ mg mb G Y fa o pm cd doc dV kV ho hd hcd hD hmg hg args vals as hpre hlay hrd hwl hlo
  have KX := kIn_of Y
  refine Ground.open G ?_
  intro T B D TE TW
  wrow_args hpre hlay hrd hwl hlo
  refine enter_call ?_
  refine codeAny_mono ?_ (fun _ _ g => GoodW.toG g)
  w_call any ho hd hcd hD T F
  rename IntsAre _ _ => hI
  rename Heap.IsList _ _ _ => hL
  rename Fr _ _ _ _ => Ff
  rename News _ _ _ _ => N0
  rename ¬ ((_ : Int) < _) => hn
  rename Obj.data _ = Data.cell (bindC _ _ _ (Str.ofString "text")) => hT
  rename Obj.data _ = Data.cell (bindC _ _ _ (Str.ofString "source")) => hS
  with_reducible refine join_all (C := ⟨_, _, _, _, _, T.g, T.b, T.builtins, ?_, T.nolimit, T.nodigits, false, 0⟩) ?_ ?_ ?_ ?_ ?_ hL hI ?_ Ff N0 ?_ ?_ ?_ ?_
  · intro x hx
    simp only [usedB, List.mem_cons, List.not_mem_nil, or_false] at hx
    rcases hx with rfl | rfl | rfl | rfl | rfl | rfl | rfl | rfl | rfl | rfl <;> exact mg_none_of KX T.g (by kernel_rfl)
  · exact facts_of KX
  · rfl
  · rfl
  · rfl
  · rfl
  · omega
  · exact hT
  · exact hS
  · rfl
  · intro h' tk keep
    refine ⟨.inl ⟨.bool true, .bool true, [], rfl, fun _ => rfl, .bool true, ?_, unshared_nil⟩, keep, rfl, hg⟩
    wrow_post
