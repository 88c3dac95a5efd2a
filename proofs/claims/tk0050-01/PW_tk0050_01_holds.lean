import PyProof.Rows.All
import Wide.All
import OpenK.AllK
import Wide.FinOn
import PySem.Challenge.RW_tk0050_01
set_option Elab.async false
section PartB1
open PySem PySem.Calls PyProof.Rows PySem.W
set_option Elab.async false
set_option maxRecDepth 100000
set_option autoImplicit false
namespace Mine

/-- deep data -/
inductive Dv where
  | int (i : Int)
  | bool (b : Bool)
  | none
  | fn (f : Str)
  | tup (ds : List Dv)
  | lst (ds : List Dv)

noncomputable abbrev Fro := Addr → Option Obj

noncomputable abbrev lstObj (vs : List Value) (n : Nat) : Obj := { cls := .type "list", data := .seq vs.toArray n }
noncomputable abbrev tupObj (vs : List Value) (n : Nat) : Obj := { cls := .type "tuple", data := .seq vs.toArray n }

mutual
inductive Den (G : Str → Option Value) (K : Fro) : Value → Dv → Prop
  | int (i : Int) (t : Tok) : Den G K (.int i t) (.int i)
  | bool (b : Bool) : Den G K (.bool b) (.bool b)
  | none : Den G K .none .none
  | fn {f : Str} {a : Addr} (h : G f = some (.ref a)) : Den G K (.ref a) (.fn f)
  | tup {a : Addr} {vs : List Value} {n : Nat} {ds : List Dv} (h : K a = some (tupObj vs n)) (hs : DenL G K vs ds) : Den G K (.ref a) (.tup ds)
  | lst {a : Addr} {vs : List Value} {n : Nat} {ds : List Dv} (h : K a = some (lstObj vs n)) (hs : DenL G K vs ds) : Den G K (.ref a) (.lst ds)
inductive DenL (G : Str → Option Value) (K : Fro) : List Value → List Dv → Prop
  | nil : DenL G K [] []
  | cons {v : Value} {d : Dv} {vs : List Value} {ds : List Dv} (h : Den G K v d) (hs : DenL G K vs ds) : DenL G K (v :: vs) (d :: ds)
end

noncomputable def Fro.le (K K' : Fro) : Prop := ∀ a o, K a = some o → K' a = some o
theorem Fro.le_refl (K : Fro) : Fro.le K K := fun _ _ e => e
theorem Fro.le.trans {K₁ K₂ K₃ : Fro} (x : Fro.le K₁ K₂) (y : Fro.le K₂ K₃) : Fro.le K₁ K₃ := fun a o e => y a o (x a o e)

mutual
theorem Den.mono {G : Str → Option Value} {K K' : Fro} (hk : Fro.le K K') {v : Value} {d : Dv} : Den G K v d → Den G K' v d
  | .int i t => .int i t
  | .bool b => .bool b
  | .none => .none
  | .fn h => .fn h
  | .tup h hs => .tup (hk _ _ h) (DenL.mono hk hs)
  | .lst h hs => .lst (hk _ _ h) (DenL.mono hk hs)
theorem DenL.mono {G : Str → Option Value} {K K' : Fro} (hk : Fro.le K K') {vs : List Value} {ds : List Dv} : DenL G K vs ds → DenL G K' vs ds
  | .nil => .nil
  | .cons h hs => .cons (Den.mono hk h) (DenL.mono hk hs)
end

namespace DenL
variable {G : Str → Option Value} {K : Fro}
theorem length {vs : List Value} {ds : List Dv} : DenL G K vs ds → vs.length = ds.length
  | .nil => rfl
  | .cons _ hs => congrArg (· + 1) hs.length
theorem get {vs : List Value} {ds : List Dv} (i : Nat) {d : Dv} : DenL G K vs ds → ds[i]? = some d → ∃ v, vs[i]? = some v ∧ Den G K v d
  | .nil, e => by simp at e
  | .cons (v := v) h hs, e => by
    cases i with
    | zero => simp at e; subst e; exact ⟨v, rfl, h⟩
    | succ i => simpa using hs.get i (by simpa using e)
theorem append {vs vs' : List Value} {ds ds' : List Dv} : DenL G K vs ds → DenL G K vs' ds' → DenL G K (vs ++ vs') (ds ++ ds')
  | .nil, y => y
  | .cons h hs, y => .cons h (hs.append y)
theorem take {vs : List Value} {ds : List Dv} : (n : Nat) → DenL G K vs ds → DenL G K (vs.take n) (ds.take n)
  | 0, _ => by simpa using DenL.nil
  | _ + 1, .nil => by simpa using DenL.nil
  | n + 1, .cons h hs => .cons h (hs.take n)
theorem drop {vs : List Value} {ds : List Dv} : (n : Nat) → DenL G K vs ds → DenL G K (vs.drop n) (ds.drop n)
  | 0, h => h
  | _ + 1, .nil => .nil
  | n + 1, .cons _ hs => hs.drop n
theorem reverse {vs : List Value} {ds : List Dv} : DenL G K vs ds → DenL G K vs.reverse ds.reverse
  | .nil => by simpa using DenL.nil
  | .cons h hs => by simpa using (hs.reverse).append (.cons h .nil)
theorem replicate {v : Value} {d : Dv} (h : Den G K v d) : (n : Nat) → DenL G K (List.replicate n v) (List.replicate n d)
  | 0 => .nil
  | n + 1 => .cons h (replicate h n)
theorem set {vs : List Value} {ds : List Dv} {v : Value} {d : Dv} (h' : Den G K v d) : (i : Nat) → DenL G K vs ds → DenL G K (vs.set i v) (ds.set i d)
  | _, .nil => .nil
  | 0, .cons _ hs => .cons h' hs
  | i + 1, .cons h hs => .cons h (hs.set h' i)
end DenL

/-- the fixed things: the program, the world, what the top has laid -/
structure Cx where
  prog : Program
  w : World
  p : Program
  loose : List Str
  mean : ExcName → Option Value
  mg : Str → Option Value
  mb : Str → Option Value
  cst : Str → Option Dv
  h0 : Heap
  top0 : Top p loose mean mg mb h0

structure Gd (G : Cx) (h : Heap) (K : Fro) : Prop where
  base : ∀ a o, G.h0.get? a = some o → h.get? a = some o
  sub : ∀ a o, K a = some o → h.get? a = some o
  cst : ∀ x d, G.cst x = some d → ∃ v, G.mg x = some v ∧ Den G.mg K v d

theorem Gd.top {G : Cx} {h : Heap} {K : Fro} (g : Gd G h K) : Top G.p G.loose G.mean G.mg G.mb h := G.top0.keeps g.base

/-- h' holds all of h; the frozen part has grown by new objects alone -/
structure Ext (h : Heap) (K : Fro) (h' : Heap) (K' : Fro) : Prop where
  keep : ∀ a o, h.get? a = some o → h'.get? a = some o
  le : Fro.le K K'
  sub : ∀ a o, K' a = some o → h'.get? a = some o
  new : ∀ a o, K' a = some o → K a = some o ∨ h.get? a = none

theorem Gd.ext {G : Cx} {h h' : Heap} {K K' : Fro} (g : Gd G h K) (x : Ext h K h' K') : Gd G h' K' :=
  ⟨fun a o e => x.keep a o (g.base a o e), x.sub, fun y d e => let ⟨v, h1, h2⟩ := g.cst y d e; ⟨v, h1, h2.mono x.le⟩⟩
theorem Ext.trans {h h₁ h₂ : Heap} {K K₁ K₂ : Fro} (x : Ext h K h₁ K₁) (y : Ext h₁ K₁ h₂ K₂) : Ext h K h₂ K₂ :=
  ⟨fun a o e => y.keep a o (x.keep a o e), x.le.trans y.le, y.sub, fun a o e => by
    rcases y.new a o e with e1 | e1
    · exact x.new a o e1
    · refine .inr ?_
      cases q : h.get? a with
      | none => rfl
      | some o' => rw [x.keep a o' q] at e1; cases e1⟩
theorem Ext.same {h : Heap} {K : Fro} (hs : ∀ a o, K a = some o → h.get? a = some o) : Ext h K h K := ⟨fun _ _ e => e, Fro.le_refl K, hs, fun _ _ e => .inl e⟩
theorem Ext.heap {h h' : Heap} {K : Fro} (hs : ∀ a o, K a = some o → h.get? a = some o) (hk : ∀ a o, h.get? a = some o → h'.get? a = some o) : Ext h K h' K :=
  ⟨hk, Fro.le_refl K, fun a o e => hk a o (hs a o e), fun _ _ e => .inl e⟩

noncomputable def Fro.put (K : Fro) (a : Addr) (o : Obj) : Fro := fun b => if b = a then some o else K b
theorem Fro.put_self (K : Fro) (a : Addr) (o : Obj) : (K.put a o) a = some o := by simp [Fro.put]
theorem Fro.put_le {K : Fro} {a : Addr} {o : Obj} (h : K a = none) : Fro.le K (K.put a o) := fun b o' e => by
  unfold Fro.put
  split
  · rename_i q; rw [q, h] at e; cases e
  · exact e
/-- one new object, frozen at once -/
theorem Ext.put {h h' : Heap} {K : Fro} {a : Addr} {o : Obj} (hs : ∀ a o, K a = some o → h.get? a = some o) (hk : ∀ b o, h.get? b = some o → h'.get? b = some o)
    (ha : h.get? a = none) (ha' : h'.get? a = some o) : Ext h K h' (K.put a o) :=
  have hn : K a = none := by
    cases q : K a with
    | none => rfl
    | some o' => rw [hs a o' q] at ha; cases ha
  ⟨hk, Fro.put_le hn, fun b o' e => by
    unfold Fro.put at e
    split at e
    · rename_i q; subst q; cases e; exact ha'
    · exact hk b o' (hs b o' e), fun b o' e => by
    unfold Fro.put at e
    split at e
    · rename_i q; subst q; exact .inr ha
    · exact .inl e⟩

theorem get_size_none (h : Heap) : h.get? h.objs.size = none := by
  cases q : h.get? h.objs.size with
  | none => rfl
  | some o => exact absurd (Heap.lt_size q) (Nat.lt_irrefl _)

/-- what a name holds: frozen data, a list of one's own, a list of lists of one's own -/
inductive Va where
  | fr (d : Dv)
  | own (ds : List Dv)
  | own2 (dss : List (List Dv))

noncomputable def Va.dv : Va → Dv
  | .fr d => d
  | .own ds => .lst ds
  | .own2 dss => .lst (dss.map .lst)

/-- one's own list at a -/
noncomputable def OwnAt (G : Cx) (K : Fro) (h : Heap) (a : Addr) (ds : List Dv) : Prop := ∃ vs n, h.get? a = some (lstObj vs n) ∧ DenL G.mg K vs ds

inductive OwnsAt (G : Cx) (K : Fro) (h : Heap) : List Addr → List (List Dv) → Prop
  | nil : OwnsAt G K h [] []
  | cons {a : Addr} {ds : List Dv} {as : List Addr} {dss : List (List Dv)} (x : OwnAt G K h a ds) (xs : OwnsAt G K h as dss) : OwnsAt G K h (a :: as) (ds :: dss)

inductive HV (G : Cx) (K : Fro) (h : Heap) : Value → Va → List Addr → Prop
  | fr {v : Value} {d : Dv} (x : Den G.mg K v d) : HV G K h v (.fr d) []
  | own {a : Addr} {ds : List Dv} (x : OwnAt G K h a ds) : HV G K h (.ref a) (.own ds) [a]
  | own2 {a : Addr} {as : List Addr} {n : Nat} {dss : List (List Dv)} (x : h.get? a = some (lstObj (as.map Value.ref) n)) (xs : OwnsAt G K h as dss) (nd : (a :: as).Nodup) :
      HV G K h (.ref a) (.own2 dss) (a :: as)

theorem OwnAt.mono {G : Cx} {K K' : Fro} {h h' : Heap} {a : Addr} {ds : List Dv} (x : OwnAt G K h a ds) (hk : Fro.le K K') (hh : ∀ o, h.get? a = some o → h'.get? a = some o) : OwnAt G K' h' a ds :=
  let ⟨vs, n, e, r⟩ := x; ⟨vs, n, hh _ e, r.mono hk⟩
theorem OwnsAt.mono {G : Cx} {K K' : Fro} {h h' : Heap} {as : List Addr} {dss : List (List Dv)} (x : OwnsAt G K h as dss) (hk : Fro.le K K') (hh : ∀ a ∈ as, ∀ o, h.get? a = some o → h'.get? a = some o) : OwnsAt G K' h' as dss := by
  induction x with
  | nil => exact .nil
  | cons x _ ih => exact .cons (x.mono hk (hh _ (.head _))) (ih fun a ha => hh a (.tail _ ha))
theorem HV.mono {G : Cx} {K K' : Fro} {h h' : Heap} {v : Value} {V : Va} {fp : List Addr} (x : HV G K h v V fp) (hk : Fro.le K K') (hh : ∀ a ∈ fp, ∀ o, h.get? a = some o → h'.get? a = some o) : HV G K' h' v V fp := by
  cases x with
  | fr x => exact .fr (x.mono hk)
  | own x => exact .own (x.mono hk (hh _ (.head _)))
  | own2 x xs nd => exact .own2 (hh _ (.head _) _ x) (xs.mono hk fun a ha => hh a (.tail _ ha)) nd
theorem OwnsAt.live {G : Cx} {K : Fro} {h : Heap} {as : List Addr} {dss : List (List Dv)} (x : OwnsAt G K h as dss) : ∀ a ∈ as, ∃ vs n, h.get? a = some (lstObj vs n) := by
  induction x with
  | nil => intro a ha; cases ha
  | cons x _ ih => intro a ha; cases ha with
    | head => let ⟨vs, n, e, _⟩ := x; exact ⟨vs, n, e⟩
    | tail _ ha => exact ih a ha
theorem HV.live {G : Cx} {K : Fro} {h : Heap} {v : Value} {V : Va} {fp : List Addr} (x : HV G K h v V fp) : ∀ a ∈ fp, ∃ vs n, h.get? a = some (lstObj vs n) := by
  cases x with
  | fr x => intro a ha; cases ha
  | own x => intro a ha; cases ha with
    | head => let ⟨vs, n, e, _⟩ := x; exact ⟨vs, n, e⟩
    | tail _ ha => cases ha
  | own2 x xs nd => intro a ha; cases ha with
    | head => exact ⟨_, _, x⟩
    | tail _ ha => exact xs.live a ha

/-- the frame's own part of the heap -/
structure Frm (E : Env) (h : Heap) (m : Str → Option Value) : Prop where
  ns : ∃ ml, h.Ns E.locals ml ∧ ∀ x, E.kindOf x = some .local → ml x = m x
  cell : ∀ x, (E.kindOf x = some .cell ∨ E.kindOf x = some .free) → ∃ c, E.cells.lookup x = some c ∧ h.IsCell c (m x)
  apart : ∀ x y c, E.cells.lookup x = some c → E.cells.lookup y = some c → x = y
  kind : E.scope.kind = .function
  glob : E.globals = mainGlobals
  bt : E.builtins = builtinsNs

noncomputable def Prv (E : Env) (a : Addr) : Prop := a = E.locals ∨ ∃ x, (E.kindOf x = some .cell ∨ E.kindOf x = some .free) ∧ E.cells.lookup x = some a

theorem Frm.keeps {E : Env} {h h' : Heap} {m : Str → Option Value} (F : Frm E h m) (hk : ∀ a o, h.get? a = some o → h'.get? a = some o) : Frm E h' m :=
  ⟨let ⟨ml, h1, h2⟩ := F.ns; ⟨ml, h1.keeps hk, h2⟩, fun x hx => let ⟨c, h1, h2⟩ := F.cell x hx; ⟨c, h1, h2.keeps hk⟩, F.apart, F.kind, F.glob, F.bt⟩
theorem Ns.keepsAt {h h' : Heap} {a : Addr} {m : Str → Option Value} (hn : h.Ns a m) (hk : ∀ o, h.get? a = some o → h'.get? a = some o) : h'.Ns a m :=
  let ⟨o, es, ep, e, r⟩ := hn; ⟨o, es, ep, hk _ e, r⟩
theorem Frm.keepsP {E : Env} {h h' : Heap} {m : Str → Option Value} (F : Frm E h m) (hk : ∀ a, Prv E a → ∀ o, h.get? a = some o → h'.get? a = some o) : Frm E h' m :=
  ⟨let ⟨ml, h1, h2⟩ := F.ns; ⟨ml, Ns.keepsAt h1 (hk _ (.inl rfl)), h2⟩, fun x hx => let ⟨c, h1, o, h2, h3⟩ := F.cell x hx; ⟨c, h1, o, hk c (.inr ⟨x, hx, h1⟩) o h2, h3⟩, F.apart, F.kind, F.glob, F.bt⟩

noncomputable abbrev St := List (Str × Va)

/-- the state that expressions see -/
structure RelE (G : Cx) (E : Env) (h : Heap) (K : Fro) (ρ : St) (fp : Str → List Addr) : Prop where
  gd : Gd G h K
  frm : ∃ m, Frm E h m ∧ ∀ x V, ρ.lookup x = some V → ∃ v, m x = some v ∧ HV G K h v V (fp x)
  emp : ∀ x, ρ.lookup x = none → fp x = []
  disj : ∀ x y a, a ∈ fp x → a ∈ fp y → x = y
  notK : ∀ x a, a ∈ fp x → K a = none

theorem RelE.ext {G : Cx} {E : Env} {h h' : Heap} {K K' : Fro} {ρ : St} {fp : Str → List Addr} (R : RelE G E h K ρ fp) (x : Ext h K h' K') : RelE G E h' K' ρ fp := by
  obtain ⟨m, F, hm⟩ := R.frm
  have lv : ∀ y a, a ∈ fp y → ∃ o, h.get? a = some o := fun y a ha => by
    cases q : ρ.lookup y with
    | none => rw [R.emp y q] at ha; cases ha
    | some V => obtain ⟨v, _, hv⟩ := hm y V q; obtain ⟨vs, n, e⟩ := hv.live a ha; exact ⟨_, e⟩
  refine ⟨R.gd.ext x, ⟨m, F.keeps x.keep, fun y V e => ?_⟩, R.emp, R.disj, fun y a ha => ?_⟩
  · obtain ⟨v, h1, h2⟩ := hm y V e
    exact ⟨v, h1, h2.mono x.le fun a _ o e => x.keep a o e⟩
  · cases q : K' a with
    | none => rfl
    | some o =>
      rcases x.new a o q with e | e
      · rw [R.notK y a ha] at e; cases e
      · obtain ⟨o', e'⟩ := lv y a ha; rw [e'] at e; cases e

/-- room for n calls -/
structure Room (n : Nat) (A : Around) : Prop where
  hd : A.handled = none
  dep : A.depth + n < recursionLimit
  un : A.units + 10 * n < 9000

theorem Room.zero {n : Nat} {A : Around} (h : Room n A) : Room 0 A := ⟨h.hd, by have := h.dep; omega, by have := h.un; omega⟩
theorem Room.le {n k : Nat} {A : Around} (h : Room n A) (hk : k ≤ n) : Room k A := ⟨h.hd, by have := h.dep; omega, by have := h.un; omega⟩

/-- an expression's value -/
noncomputable def Ev (G : Cx) (n : Nat) (E : Env) (ρ : St) (e : Expr) (d : Dv) : Prop :=
  ∀ (A : Around) (s : Shared) (K : Fro) (fp : Str → List Addr) (Q : Value → Shared → Prop), Room n A → RelE G E s.heap K ρ fp →
    (∀ v h' K' tk, Ext s.heap K h' K' → Den G.mg K' v d → Q v { s with heap := h', toks := tk }) → wpAny (model G.prog G.w) A (eval e E) Q (fun _ _ => False) s
/-- a test's -/
noncomputable def Tst (G : Cx) (n : Nat) (E : Env) (ρ : St) (e : Expr) (b : Bool) : Prop :=
  ∀ (A : Around) (s : Shared) (K : Fro) (fp : Str → List Addr) (Q : Bool → Shared → Prop), Room n A → RelE G E s.heap K ρ fp →
    (∀ h' K' tk, Ext s.heap K h' K' → Q b { s with heap := h', toks := tk }) → wpAny (model G.prog G.w) A (isTrue e E (eval e E)) Q (fun _ _ => False) s
/-- several expressions' -/
noncomputable def EvL (G : Cx) (n : Nat) (E : Env) (ρ : St) (es : List Expr) (pos : Pos) (ds : List Dv) : Prop :=
  ∀ (A : Around) (s : Shared) (K : Fro) (fp : Str → List Addr) (Q : List Value → Shared → Prop), Room n A → RelE G E s.heap K ρ fp →
    (∀ vs h' K' tk, Ext s.heap K h' K' → DenL G.mg K' vs ds → Q vs { s with heap := h', toks := tk }) →
    wpAny (model G.prog G.w) A (spliced (backTo pos (starEach es E))) Q (fun _ _ => False) s
/-- a call of a def -/
noncomputable def Fn (G : Cx) (n : Nat) (f : Str) (ds : List Dv) (d : Dv) : Prop :=
  ∀ (A : Around) (s : Shared) (K : Fro) (a : Addr) (vs : List Value) (Q : Value → Shared → Prop), Room n A → Gd G s.heap K → G.mg f = some (.ref a) → DenL G.mg K vs ds →
    (∀ v h' K' tk, Ext s.heap K h' K' → Den G.mg K' v d → Q v { s with heap := h', toks := tk }) → wpAny (model G.prog G.w) A (call (.ref a) vs) Q (fun _ _ => False) s

end Mine

end PartB1
section PartB2
open PySem PySem.Calls PyProof.Rows PySem.W
set_option Elab.async false
set_option maxRecDepth 100000
set_option autoImplicit false
set_option linter.unusedVariables false
namespace Mine

theorem notDebug_of {x : Str} (h : (x == ("__debug__" : Str)) = false) : (x == ("__debug__" : Str)) = false := h

section
variable {G : Cx} {n : Nat} {E : Env} {ρ : St}

/-- an operation on two values -/
noncomputable def Op2 (G : Cx) (f : Value → Value → Sem Value) (a b c : Dv) : Prop :=
  ∀ (A : Around) (s : Shared) (K : Fro) (va vb : Value) (Q : Value → Shared → Prop), Room 0 A → Gd G s.heap K → Den G.mg K va a → Den G.mg K vb b →
    (∀ v h' K' tk, Ext s.heap K h' K' → Den G.mg K' v c → Q v { s with heap := h', toks := tk }) → wpAny (model G.prog G.w) A (f va vb) Q (fun _ _ => False) s
noncomputable def Op1 (G : Cx) (f : Value → Sem Value) (a c : Dv) : Prop :=
  ∀ (A : Around) (s : Shared) (K : Fro) (va : Value) (Q : Value → Shared → Prop), Room 0 A → Gd G s.heap K → Den G.mg K va a →
    (∀ v h' K' tk, Ext s.heap K h' K' → Den G.mg K' v c → Q v { s with heap := h', toks := tk }) → wpAny (model G.prog G.w) A (f va) Q (fun _ _ => False) s
noncomputable def OpL (G : Cx) (f : List Value → Sem Value) (as : List Dv) (c : Dv) : Prop :=
  ∀ (A : Around) (s : Shared) (K : Fro) (vs : List Value) (Q : Value → Shared → Prop), Room 0 A → Gd G s.heap K → DenL G.mg K vs as →
    (∀ v h' K' tk, Ext s.heap K h' K' → Den G.mg K' v c → Q v { s with heap := h', toks := tk }) → wpAny (model G.prog G.w) A (f vs) Q (fun _ _ => False) s

theorem HV.inv {K : Fro} {h : Heap} {v : Value} {d : Dv} {fp : List Addr} (x : HV G K h v (.fr d) fp) : Den G.mg K v d := by
  generalize hV : Va.fr d = V at x
  cases x <;> cases hV
  assumption

theorem Ev.int (i : Int) (k : Nat) (pos : Pos) : Ev G n E ρ (.Constant (.int i) k pos) (.int i) := fun _ _ _ _ _ _ R hQ =>
  wpAny_Constant_int (hQ _ _ _ _ (.same R.gd.sub) (.int _ _))
theorem Ev.bool (b : Bool) (k : Nat) (pos : Pos) : Ev G n E ρ (.Constant (.bool b) k pos) (.bool b) := fun _ s _ _ _ _ R hQ =>
  Constant_bool (hQ _ s.heap _ s.toks (.same R.gd.sub) (.bool _))

theorem Frm.load {M : Model} {A : Around} {h : Heap} {m : Str → Option Value} {x : Str} {pos : Pos} {v : Value} {s : Shared} {Q : Value → Shared → Prop} {Er : Value → Shared → Prop} (F : Frm E h m) (hs : s.heap = h)
    (hx : E.kindOf x = some .local ∨ E.kindOf x = some .cell ∨ E.kindOf x = some .free) (hv : m x = some v) (hq : Q v s)
    (hd : (x == ("__debug__" : Str)) = false) (hc : (x == ("__classdict__" : Str)) = false) : wpAny M A (eval (.Name x pos) E) Q Er s := by
  subst hs
  refine wpAny_Name ?_ hd
  rcases hx with hx | hx | hx
  · obtain ⟨ml, h1, h2⟩ := F.ns
    exact wpAny_loadName_local F.kind hx h1 ((h2 x hx).trans hv) hq
  · obtain ⟨c, h1, h2⟩ := F.cell x (.inl hx)
    exact wpAny_loadName_cell F.kind hx h1 (hv ▸ h2) hq
  · obtain ⟨c, h1, h2⟩ := F.cell x (.inr hx)
    exact wpAny_loadName_free F.kind hx h1 (hv ▸ h2) hq hc

theorem Ev.var {x : Str} {pos : Pos} {d : Dv} (h : ρ.lookup x = some (.fr d)) (hx : E.kindOf x = some .local ∨ E.kindOf x = some .cell ∨ E.kindOf x = some .free)
    (hd : (x == ("__debug__" : Str)) = false) (hc : (x == ("__classdict__" : Str)) = false) : Ev G n E ρ (.Name x pos) d := fun _ s K _ _ _ R hQ => by
  obtain ⟨m, F, hm⟩ := R.frm
  obtain ⟨v, h1, h2⟩ := hm x _ h
  exact F.load rfl hx h1 (hQ v s.heap K s.toks (.same R.gd.sub) h2.inv) hd hc

theorem Ev.fn {x : Str} {pos : Pos} (hx : E.kindOf x = some .globalImplicit) (hg : ∃ a, G.mg x = some (.ref a)) (hd : (x == ("__debug__" : Str)) = false) : Ev G n E ρ (.Name x pos) (.fn x) := fun _ s K _ _ _ R hQ => by
  obtain ⟨m, F, _⟩ := R.frm
  obtain ⟨a, ha⟩ := hg
  exact Name_function_global F.kind hx (loadGlobal_global (F.glob ▸ R.gd.top.g) ha (hQ _ s.heap K s.toks (.same R.gd.sub) (.fn ha))) hd
theorem Ev.cst {x : Str} {pos : Pos} {d : Dv} (hx : E.kindOf x = some .globalImplicit) (hg : G.cst x = some d) (hd : (x == ("__debug__" : Str)) = false) : Ev G n E ρ (.Name x pos) d := fun _ s K _ _ _ R hQ => by
  obtain ⟨m, F, _⟩ := R.frm
  obtain ⟨v, h1, h2⟩ := R.gd.cst x d hg
  exact Name_function_global F.kind hx (loadGlobal_global (F.glob ▸ R.gd.top.g) h1 (hQ _ s.heap K s.toks (.same R.gd.sub) h2)) hd

theorem Ev.binop {l r : Expr} {op : Operator} {pos : Pos} {a b c : Dv} (hl : Ev G n E ρ l a) (hr : Ev G n E ρ r b) (ho : Op2 G (binaryOp op) a b c) : Ev G n E ρ (.BinOp l op r pos) c := fun A s K fp _ hR R hQ =>
  wpAny_BinOp (hl A s K fp _ hR R fun va h₁ K₁ tk₁ x₁ d₁ =>
    hr A _ K₁ fp _ hR (R.ext x₁) fun vb _ K₂ _ x₂ d₂ =>
      ho A _ K₂ va vb _ hR.zero ((R.ext x₁).ext x₂).gd (d₁.mono x₂.le) d₂ fun v h₃ K₃ tk₃ x₃ d₃ => hQ v h₃ K₃ tk₃ ((x₁.trans x₂).trans x₃) d₃)
theorem Ev.unop {e : Expr} {op : UnaryOp} {pos : Pos} {a c : Dv} (he : Ev G n E ρ e a) (ho : Op1 G (unaryOp op) a c) : Ev G n E ρ (.UnaryOp op e pos) c := fun A s K fp _ hR R hQ =>
  UnaryOp_ (he A s K fp _ hR R fun va h₁ K₁ tk₁ x₁ d₁ => ho A _ K₁ va _ hR.zero (R.ext x₁).gd d₁ fun v h₃ K₃ tk₃ x₃ d₃ => hQ v h₃ K₃ tk₃ (x₁.trans x₃) d₃)
theorem Ev.cmp {l r : Expr} {op : CmpOp} {pos : Pos} {a b c : Dv} (hl : Ev G n E ρ l a) (hr : Ev G n E ρ r b) (ho : Op2 G (compareOp op) a b c) (hm : behindInMarks op r = false) : Ev G n E ρ (.Compare l [op] [r] pos) c := fun A s K fp _ hR R hQ =>
  wpAny_Compare1 (hl A s K fp _ hR R fun va h₁ K₁ tk₁ x₁ d₁ =>
    hr A _ K₁ fp _ hR (R.ext x₁) fun vb _ K₂ _ x₂ d₂ =>
      ho A _ K₂ va vb _ hR.zero ((R.ext x₁).ext x₂).gd (d₁.mono x₂.le) d₂ fun v h₃ K₃ tk₃ x₃ d₃ => hQ v h₃ K₃ tk₃ ((x₁.trans x₂).trans x₃) d₃) hm
theorem Tst.cmp {l r : Expr} {op : CmpOp} {pos : Pos} {a b : Dv} {c : Bool} (hl : Ev G n E ρ l a) (hr : Ev G n E ρ r b) (ho : Op2 G (compareOp op) a b (.bool c)) (hm : behindInMarks op r = false) :
    Tst G n E ρ (.Compare l [op] [r] pos) c := fun A s K fp _ hR R hQ =>
  wpAny_isTrue_Compare1 (hl A s K fp _ hR R fun va h₁ K₁ tk₁ x₁ d₁ =>
    hr A _ K₁ fp _ hR (R.ext x₁) fun vb _ K₂ _ x₂ d₂ =>
      ho A _ K₂ va vb _ hR.zero ((R.ext x₁).ext x₂).gd (d₁.mono x₂.le) d₂ fun v h₃ K₃ tk₃ x₃ d₃ => by
        cases d₃; exact wpAny_truthy_bool (hQ h₃ K₃ tk₃ ((x₁.trans x₂).trans x₃))) hm
theorem Tst.of {e : Expr} {c : Bool} (he : Ev G n E ρ e (.bool c)) (hp : ∀ whole, isTrue e E whole = (do let v ← whole; standAt e.pos; holding [v] (truthy v))) : Tst G n E ρ e c := fun A s K fp _ hR R hQ =>
  isTrue_plain (he A s K fp _ hR R fun va h₁ K₁ tk₁ x₁ d₁ => by cases d₁; exact wpAny_truthy_bool (hQ h₁ K₁ tk₁ x₁)) (hp _)
theorem Tst.not {e : Expr} {pos : Pos} {c : Bool} (he : Tst G n E ρ e c) : Tst G n E ρ (.UnaryOp .Not e pos) (!c) := fun A s K fp _ hR R hQ =>
  isTrue_not (he A s K fp _ hR R fun h₁ K₁ tk₁ x₁ => hQ h₁ K₁ tk₁ x₁)
theorem Tst.and_f {e e' : Expr} {pos : Pos} (he : Tst G n E ρ e false) : Tst G n E ρ (.BoolOp .And [e, e'] pos) false := fun A s K fp _ hR R hQ =>
  isTrue_and (he A s K fp _ hR R fun h₁ K₁ tk₁ x₁ => hQ h₁ K₁ tk₁ x₁)
theorem Tst.and_t {e e' : Expr} {pos : Pos} {c : Bool} (he : Tst G n E ρ e true) (he' : Tst G n E ρ e' c) : Tst G n E ρ (.BoolOp .And [e, e'] pos) c := fun A s K fp _ hR R hQ =>
  isTrue_and (he A s K fp _ hR R fun h₁ K₁ tk₁ x₁ => isTrue_and (he' A _ K₁ fp _ hR (R.ext x₁) fun h₂ K₂ tk₂ x₂ => by
    cases c with
    | true => exact isTrue_and_nil (hQ h₂ K₂ tk₂ (x₁.trans x₂))
    | false => exact hQ h₂ K₂ tk₂ (x₁.trans x₂)))
theorem Tst.and {e e' : Expr} {pos : Pos} {b c : Bool} (he : Tst G n E ρ e b) (he' : b = true → Tst G n E ρ e' c) : Tst G n E ρ (.BoolOp .And [e, e'] pos) (b && c) := by
  cases b with
  | false => exact Tst.and_f he
  | true => simpa using Tst.and_t he (he' rfl)
/-- and as a value (of two truths) -/
theorem Ev.and {e e' : Expr} {pos : Pos} {b c : Bool} (he : Ev G n E ρ e (.bool b)) (he' : b = true → Ev G n E ρ e' (.bool c)) : Ev G n E ρ (.BoolOp .And [e, e'] pos) (.bool (b && c)) := fun A s K fp _ hR R hQ =>
  BoolOp_and (he A s K fp _ hR R fun va h₁ K₁ tk₁ x₁ d₁ => by
    cases d₁
    refine wpAny_truthy_bool ?_
    cases b with
    | false => exact hQ _ h₁ K₁ tk₁ x₁ (.bool _)
    | true => exact BoolOp_one (he' rfl A _ K₁ fp _ hR (R.ext x₁) fun v h₂ K₂ tk₂ x₂ d₂ => hQ v h₂ K₂ tk₂ (x₁.trans x₂) (by simpa using d₂)))
theorem Ev.ite {t a b : Expr} {pos : Pos} {c : Bool} {d : Dv} (ht : Tst G n E ρ t c) (ha : c = true → Ev G n E ρ a d) (hb : c = false → Ev G n E ρ b d) : Ev G n E ρ (.IfExp t a b pos) d := fun A s K fp _ hR R hQ =>
  IfExp_ (ht A s K fp _ hR R fun h₁ K₁ tk₁ x₁ => by
    cases c with
    | true => exact ha rfl A _ K₁ fp _ hR (R.ext x₁) fun v h₂ K₂ tk₂ x₂ d₂ => hQ v h₂ K₂ tk₂ (x₁.trans x₂) d₂
    | false => exact hb rfl A _ K₁ fp _ hR (R.ext x₁) fun v h₂ K₂ tk₂ x₂ d₂ => hQ v h₂ K₂ tk₂ (x₁.trans x₂) d₂)

theorem EvL.nil (pos : Pos) : EvL G n E ρ [] pos [] := fun _ s K _ _ _ R hQ => args_nil (hQ [] s.heap K s.toks (.same R.gd.sub) .nil)
theorem EvL.cons {e : Expr} {es : List Expr} {pos : Pos} {d : Dv} {ds : List Dv} (h : Ev G n E ρ e d) (hs : EvL G n E ρ es pos ds) (he : ∀ E, starEach (e :: es) E = (false, eval e E) :: starEach es E) :
    EvL G n E ρ (e :: es) pos (d :: ds) := fun A s K fp _ hR R hQ =>
  args_cons (h A s K fp _ hR R fun v _ K₁ _ x₁ d₁ => hs A _ K₁ fp _ hR (R.ext x₁) fun vs h₂ K₂ tk₂ x₂ d₂ => hQ (v :: vs) h₂ K₂ tk₂ (x₁.trans x₂) (.cons (d₁.mono x₂.le) d₂)) (he E)

/-- a tuple, a list, as a value -/
theorem Ev.tuple {es : List Expr} {k : Nat} {pos : Pos} {ds : List Dv} (h : EvL G n E ρ es pos ds) (hsz : ds.length ≤ 1000) : Ev G n E ρ (.Tuple es k pos) (.tup ds) := fun A s K fp _ hR R hQ =>
  Tuple_ (h A s K fp _ hR R fun vs h₁ K₁ tk₁ x₁ d₁ =>
    wpAny_newObj_type (hQ _ _ _ tk₁ (x₁.trans (.put x₁.sub (fun _ _ e => Heap.get?_push_of_some _ e) (get_size_none h₁) (Heap.get?_push_size _ rfl)))
      (.tup (Fro.put_self K₁ _ _) (d₁.mono (Fro.put_le (by
        cases q : K₁ h₁.objs.size with
        | none => rfl
        | some o => have := x₁.sub _ o q; rw [get_size_none] at this; cases this)))))
      (by show vs.toArray.size ≤ sizeLine; have := d₁.length; rw [List.size_toArray, sizeLine_eq]; omega))
theorem Ev.list {es : List Expr} {pos : Pos} {ds : List Dv} (h : EvL G n E ρ es pos ds) (hsz : ds.length ≤ 1000) : Ev G n E ρ (.List es pos) (.lst ds) := fun A s K fp _ hR R hQ =>
  List_ (h A s K fp _ hR R fun vs h₁ K₁ tk₁ x₁ d₁ =>
    wpAny_newObj_type (hQ _ _ _ tk₁ (x₁.trans (.put x₁.sub (fun _ _ e => Heap.get?_push_of_some _ e) (get_size_none h₁) (Heap.get?_push_size _ rfl)))
      (.lst (Fro.put_self K₁ _ _) (d₁.mono (Fro.put_le (by
        cases q : K₁ h₁.objs.size with
        | none => rfl
        | some o => have := x₁.sub _ o q; rw [get_size_none] at this; cases this)))))
      (by show vs.toArray.size ≤ sizeLine; have := d₁.length; rw [List.size_toArray, sizeLine_eq]; omega))

theorem Ev.sub {e i : Expr} {pos : Pos} {a b c : Dv} (he : Ev G n E ρ e a) (hi : Ev G n E ρ i b) (ho : Op2 G (subscriptTail e i) a b c) : Ev G n E ρ (.Subscript e i pos) c := fun A s K fp _ hR R hQ =>
  Subscript_ (he A s K fp _ hR R fun va h₁ K₁ tk₁ x₁ d₁ =>
    hi A _ K₁ fp _ hR (R.ext x₁) fun vb _ K₂ _ x₂ d₂ =>
      ho A _ K₂ va vb _ hR.zero ((R.ext x₁).ext x₂).gd (d₁.mono x₂.le) d₂ fun v h₃ K₃ tk₃ x₃ d₃ => hQ v h₃ K₃ tk₃ ((x₁.trans x₂).trans x₃) d₃)

theorem fn_at {h : Heap} {K : Fro} (g : Gd G h K) {f : Str} {a : Addr} (hf : G.mg f = some (.ref a)) (hr : f ∈ (recsOf G.p).map (·.name)) : ∃ o fd, h.get? a = some o ∧ o.data = .func fd := by
  obtain ⟨d, hd, rfl⟩ := List.mem_map.mp hr
  obtain ⟨a', o, pm, code, doc, h1, h2, h3, _⟩ := g.top.fn d hd
  rw [hf] at h1; cases h1
  exact ⟨o, _, h2, h3⟩

/-- a call of a def (one argument or more) -/
theorem Ev.call {fe e : Expr} {es : List Expr} {pos : Pos} {f : Str} {ds : List Dv} {d : Dv} (hf : Ev G n E ρ fe (.fn f)) (hs : EvL G n E ρ (e :: es) pos ds) (hc : Fn G n f ds d) (hr : f ∈ (recsOf G.p).map (·.name))
    (he : ∀ E, eval (.Call fe (e :: es) [] pos) E = (do callWith pos (← eval fe E) [] (backTo pos (starEach (e :: es) E)) (backToKw pos (keywordEach [] E))))
    (hst : ∀ E, starEach (e :: es) E = (false, eval e E) :: starEach es E) : Ev G n E ρ (.Call fe (e :: es) [] pos) d := fun A s K fp _ hR R hQ => by
  refine Call_ (hf A s K fp _ hR R fun vf h₁ K₁ tk₁ x₁ d₁ => ?_) (he E)
  cases d₁ with
  | fn hg =>
    rename_i a
    obtain ⟨o, fd, ho, hdat⟩ := fn_at (R.ext x₁).gd hg hr
    refine callWith_def (o := o) (fd := fd) hdat ?_ (hst E)
    exact hs A _ K₁ fp _ hR (R.ext x₁) fun vs h₂ K₂ tk₂ x₂ d₂ => ⟨x₂.keep _ _ ho, hc A _ K₂ a vs _ hR ((R.ext x₁).ext x₂).gd hg d₂ fun v h₃ K₃ tk₃ x₃ d₃ => hQ v h₃ K₃ tk₃ ((x₁.trans x₂).trans x₃) d₃⟩

/-- a call of a built-in -/
theorem Ev.bcall {x : Str} {id : String} {p pos : Pos} {e : Expr} {es : List Expr} {ds : List Dv} {d : Dv} (hx : E.kindOf x = some .globalImplicit) (hb : bootBuiltins x = some (.builtin id)) (hn : x ≠ "__name__")
    (hm : G.mg x = none) (hs : EvL G n E ρ (e :: es) pos ds) (hc : OpL G (fun vs => PySem.call (.builtin id) vs) ds d)
    (hst : ∀ E, starEach (e :: es) E = (false, eval e E) :: starEach es E) (hpl : ∀ E, (backTo pos (starEach es E)).any (·.1) = false) (hd : (x == ("__debug__" : Str)) = false) : Ev G n E ρ (.Call (.Name x p) (e :: es) [] pos) d := fun A s K fp _ hR R hQ => by
  obtain ⟨m, F, _⟩ := R.frm
  refine Call_Name rfl (Name_function_global F.kind hx (loadGlobal_builtin (F.glob ▸ R.gd.top.g) hm (F.bt ▸ R.gd.top.b) ((R.gd.top.builtins x hn).trans hb) ?_) hd)
  refine callWith_builtin1 ?_ (hst E) (hpl E)
  exact hs A s K fp _ hR R fun vs h₂ K₂ tk₂ x₂ d₂ => hc A _ K₂ vs _ hR.zero (R.ext x₂).gd d₂ fun v h₃ K₃ tk₃ x₃ d₃ => hQ v h₃ K₃ tk₃ (x₂.trans x₃) d₃
theorem Ev.tcall {x : Str} {T : String} {p pos : Pos} {e : Expr} {es : List Expr} {ds : List Dv} {d : Dv} (hx : E.kindOf x = some .globalImplicit) (hb : bootBuiltins x = some (.type T)) (hn : x ≠ "__name__")
    (hm : G.mg x = none) (hs : EvL G n E ρ (e :: es) pos ds) (hc : OpL G (fun vs => PySem.call (.type T) vs) ds d)
    (hst : ∀ E, starEach (e :: es) E = (false, eval e E) :: starEach es E) (hpl : ∀ E, (backTo pos (starEach es E)).any (·.1) = false) (hd : (x == ("__debug__" : Str)) = false) : Ev G n E ρ (.Call (.Name x p) (e :: es) [] pos) d := fun A s K fp _ hR R hQ => by
  obtain ⟨m, F, _⟩ := R.frm
  refine Call_Name rfl (Name_function_global F.kind hx (loadGlobal_builtin (F.glob ▸ R.gd.top.g) hm (F.bt ▸ R.gd.top.b) ((R.gd.top.builtins x hn).trans hb) ?_) hd)
  refine callWith_type1 ?_ (hst E) (hpl E)
  exact hs A s K fp _ hR R fun vs h₂ K₂ tk₂ x₂ d₂ => hc A _ K₂ vs _ hR.zero (R.ext x₂).gd d₂ fun v h₃ K₃ tk₃ x₃ d₃ => hQ v h₃ K₃ tk₃ (x₂.trans x₃) d₃
end

end Mine

end PartB2
section PartB3
open PySem PySem.Calls PyProof.Rows PySem.W
set_option Elab.async false
set_option maxRecDepth 100000
set_option autoImplicit false
set_option linter.unusedVariables false
namespace Mine

theorem none_of_new {h : Heap} {K : Fro} (hs : ∀ a o, K a = some o → h.get? a = some o) {a : Addr} (e : h.get? a = none) : K a = none := by
  cases q : K a with
  | none => rfl
  | some o => rw [hs a o q] at e; cases e

section
variable {G : Cx}
theorem op_int {f : Value → Value → Sem Value} {i j k : Int}
    (h : ∀ (A : Around) (s : Shared) (t u : Tok) (Q : Value → Shared → Prop), Room 0 A → Gd G s.heap (fun _ => none) → Q (.int k s.toks) { s with toks := s.toks + 1 } → wpAny (model G.prog G.w) A (f (.int i t) (.int j u)) Q (fun _ _ => False) s) : True := trivial

theorem Op2.add (i j : Int) : Op2 G (binaryOp .Add) (.int i) (.int j) (.int (i + j)) := fun A s K va vb Q hR g d₁ d₂ hQ => by
  cases d₁; cases d₂; exact add_int (hQ _ s.heap K _ (.same g.sub) (.int _ _))
theorem Op2.sub (i j : Int) : Op2 G (binaryOp .Sub) (.int i) (.int j) (.int (i - j)) := fun A s K va vb Q hR g d₁ d₂ hQ => by
  cases d₁; cases d₂; exact sub_int (hQ _ s.heap K _ (.same g.sub) (.int _ _))
theorem intBits_small {a : Int} (h : a.natAbs < 2 ^ 64) : Builtin.Int.intBits a ≤ 64 := intBits_le_64 (by omega) (by omega)
theorem Op2.mul (i j : Int) (h : i.natAbs < 2 ^ 64) : Op2 G (binaryOp .Mult) (.int i) (.int j) (.int (i * j)) := fun A s K va vb Q hR g d₁ d₂ hQ => by
  cases d₁; cases d₂; exact mul_int (hQ _ s.heap K _ (.same g.sub) (.int _ _)) (.of_left (intBits_small h))
theorem Op2.fdiv (i j : Int) (h : j ≠ 0) (hj : j.natAbs < 2 ^ 29) : Op2 G (binaryOp .FloorDiv) (.int i) (.int j) (.int (i.fdiv j)) := fun A s K va vb Q hR g d₁ d₂ hQ => by
  cases d₁; cases d₂; exact floordiv_int h (hQ _ s.heap K _ (.same g.sub) (.int _ _)) (Or.inl (PyProof.noPylong_small (by omega)))
theorem Op2.fmod (i j : Int) (h : j ≠ 0) : Op2 G (binaryOp .Mod) (.int i) (.int j) (.int (i.fmod j)) := fun A s K va vb Q hR g d₁ d₂ hQ => by
  cases d₁; cases d₂; exact mod_int' h (hQ _ s.heap K _ (.same g.sub) (.int _ _))
theorem Op2.band (i j : Int) : Op2 G (binaryOp .BitAnd) (.int i) (.int j) (.int (Builtin.bitAnd i j)) := fun A s K va vb Q hR g d₁ d₂ hQ => by
  cases d₁; cases d₂; exact and_int (hQ _ s.heap K _ (.same g.sub) (.int _ _))
theorem Op2.bor (i j : Int) : Op2 G (binaryOp .BitOr) (.int i) (.int j) (.int (Builtin.bitOr i j)) := fun A s K va vb Q hR g d₁ d₂ hQ => by
  cases d₁; cases d₂; exact or_int (hQ _ s.heap K _ (.same g.sub) (.int _ _))
theorem Op2.shl (i j : Int) (h0 : 0 ≤ j) (h1 : j ≤ 1000000) (h2 : i.natAbs < 2 ^ 64) : Op2 G (binaryOp .LShift) (.int i) (.int j) (.int (i * 2 ^ j.toNat)) := fun A s K va vb Q hR g d₁ d₂ hQ => by
  cases d₁; cases d₂; exact lshift_int_small h0 h1 h2 (hQ _ s.heap K _ (.same g.sub) (.int _ _))
theorem Op2.pow (i j : Int) (h0 : 0 ≤ j) (h1 : j ≤ 1000000) (h2 : i.natAbs < 2 ^ 64) : Op2 G (binaryOp .Pow) (.int i) (.int j) (.int (i ^ j.toNat)) := fun A s K va vb Q hR g d₁ d₂ hQ => by
  cases d₁; cases d₂; exact pow_int_small h0 h1 h2 (hQ _ s.heap K _ (.same g.sub) (.int _ _))
-- in place
theorem Op2.iadd (i j : Int) : Op2 G (inplaceOp .Add) (.int i) (.int j) (.int (i + j)) := fun A s K va vb Q hR g d₁ d₂ hQ => by
  cases d₁; cases d₂; exact wpAny_iadd_int (hQ _ s.heap K _ (.same g.sub) (.int _ _))
theorem Op2.isub (i j : Int) : Op2 G (inplaceOp .Sub) (.int i) (.int j) (.int (i - j)) := fun A s K va vb Q hR g d₁ d₂ hQ => by
  cases d₁; cases d₂; exact isub_int (hQ _ s.heap K _ (.same g.sub) (.int _ _))
theorem Op2.ishr (i j : Int) (h0 : 0 ≤ j) : Op2 G (inplaceOp .RShift) (.int i) (.int j) (.int (i.fdiv (2 ^ j.toNat))) := fun A s K va vb Q hR g d₁ d₂ hQ => by
  cases d₁; cases d₂; exact irshift_int h0 (hQ _ s.heap K _ (.same g.sub) (.int _ _))
theorem Op2.imod (i j : Int) (h : j ≠ 0) : Op2 G (inplaceOp .Mod) (.int i) (.int j) (.int (i.fmod j)) := fun A s K va vb Q hR g d₁ d₂ hQ => by
  cases d₁; cases d₂; exact imod_int h (hQ _ s.heap K _ (.same g.sub) (.int _ _))
-- comparisons
theorem Op2.lt (i j : Int) : Op2 G (compareOp .Lt) (.int i) (.int j) (.bool (decide (i < j))) := fun A s K va vb Q hR g d₁ d₂ hQ => by
  cases d₁; cases d₂; exact lt_int (hQ _ s.heap K s.toks (.same g.sub) (.bool _))
theorem Op2.le (i j : Int) : Op2 G (compareOp .LtE) (.int i) (.int j) (.bool (decide (i ≤ j))) := fun A s K va vb Q hR g d₁ d₂ hQ => by
  cases d₁; cases d₂; exact le_int (hQ _ s.heap K s.toks (.same g.sub) (.bool _))
theorem Op2.gt (i j : Int) : Op2 G (compareOp .Gt) (.int i) (.int j) (.bool (decide (j < i))) := fun A s K va vb Q hR g d₁ d₂ hQ => by
  cases d₁; cases d₂; exact gt_int (hQ _ s.heap K s.toks (.same g.sub) (.bool _))
theorem Op2.ge (i j : Int) : Op2 G (compareOp .GtE) (.int i) (.int j) (.bool (decide (j ≤ i))) := fun A s K va vb Q hR g d₁ d₂ hQ => by
  cases d₁; cases d₂; exact ge_int (hQ _ s.heap K s.toks (.same g.sub) (.bool _))
theorem Op2.eq (i j : Int) : Op2 G (compareOp .Eq) (.int i) (.int j) (.bool (decide (i = j))) := fun A s K va vb Q hR g d₁ d₂ hQ => by
  cases d₁; cases d₂; exact eq_int (hQ _ s.heap K s.toks (.same g.sub) (by rw [show (i == j) = decide (i = j) by by_cases h : i = j <;> simp [h]]; exact .bool _))
theorem Op2.ne (i j : Int) : Op2 G (compareOp .NotEq) (.int i) (.int j) (.bool (decide (i ≠ j))) := fun A s K va vb Q hR g d₁ d₂ hQ => by
  cases d₁; cases d₂; exact ne_int (hQ _ s.heap K s.toks (.same g.sub) (by rw [show (i != j) = decide (i ≠ j) from Bool.eq_iff_iff.mpr (by simp)]; exact .bool _))
theorem Op2.beq (i j : Bool) : Op2 G (compareOp .Eq) (.bool i) (.bool j) (.bool (i == j)) := fun A s K va vb Q hR g d₁ d₂ hQ => by
  cases d₁; cases d₂; exact eq_bool (hQ _ s.heap K s.toks (.same g.sub) (.bool _))
theorem Op2.bne (i j : Bool) : Op2 G (compareOp .NotEq) (.bool i) (.bool j) (.bool (i != j)) := fun A s K va vb Q hR g d₁ d₂ hQ => by
  cases d₁; cases d₂; exact ne_bool (hQ _ s.heap K s.toks (.same g.sub) (.bool _))
theorem Op1.neg (i : Int) : Op1 G (unaryOp .USub) (.int i) (.int (-i)) := fun A s K va Q hR g d₁ hQ => by
  cases d₁; exact neg_int (hQ _ s.heap K _ (.same g.sub) (.int _ _))
theorem Op1.not (b : Bool) : Op1 G (unaryOp .Not) (.bool b) (.bool (!b)) := fun A s K va Q hR g d₁ hQ => by
  cases d₁; exact not_of (wpAny_truthy_bool (hQ _ s.heap K s.toks (.same g.sub) (.bool _)))

-- lists
theorem DenL.one {K : Fro} {vs : List Value} {d : Dv} (h : DenL G.mg K vs [d]) : ∃ v, vs = [v] ∧ Den G.mg K v d := by
  cases h with | cons h hs => cases hs; exact ⟨_, rfl, h⟩
theorem DenL.two {K : Fro} {vs : List Value} {d e : Dv} (h : DenL G.mg K vs [d, e]) : ∃ v u, vs = [v, u] ∧ Den G.mg K v d ∧ Den G.mg K u e := by
  cases h with | cons h hs => obtain ⟨u, rfl, h'⟩ := hs.one; exact ⟨_, _, rfl, h, h'⟩
theorem Gd.list {h : Heap} {K : Fro} (g : Gd G h K) {a : Addr} {vs : List Value} {n : Nat} (e : K a = some (lstObj vs n)) : h.IsList a vs.toArray := ⟨_, g.sub _ _ e, rfl, n, rfl⟩
theorem Gd.tup {h : Heap} {K : Fro} (g : Gd G h K) {a : Addr} {vs : List Value} {n : Nat} (e : K a = some (tupObj vs n)) : IsTup h a vs.toArray := ⟨_, g.sub _ _ e, rfl, n, rfl⟩

theorem Op2.item {ve ie : Expr} {ds : List Dv} {i : Nat} {k : Int} {d : Dv} (hk : k = (i : Int)) (hi : i < 2 ^ 62) (h : ds[i]? = some d)
    (hs : ∀ l u, subscripted ie false (.ref l) (.int k u) = operate [.ref l, .int k u] (getItem (.ref l) (.int k u))) : Op2 G (subscriptTail ve ie) (.lst ds) (.int k) d := fun A s K va vb Q hR g d₁ d₂ hQ => by
  cases d₁ with | lst e L => cases d₂ with | int _ t =>
  obtain ⟨v, h1, h2⟩ := L.get i h
  exact tail_any (g.list e).typeIs slot_list_getitem.lookup (wpAny_getItem_list (g.list e) (by omega) (by omega) (by subst hk; simpa using h1) (hQ v s.heap K s.toks (.same g.sub) h2)) (hs _ _)
theorem Op2.itemNeg {ve ie : Expr} {ds : List Dv} {i : Nat} {k : Int} {d : Dv} (hk : k + ds.length = (i : Int)) (h0 : k < 0) (hi : -(2 ^ 62) < k) (h : ds[i]? = some d)
    (hs : ∀ l u, subscripted ie false (.ref l) (.int k u) = operate [.ref l, .int k u] (getItem (.ref l) (.int k u))) : Op2 G (subscriptTail ve ie) (.lst ds) (.int k) d := fun A s K va vb Q hR g d₁ d₂ hQ => by
  cases d₁ with | lst e L => cases d₂ with | int _ t =>
  rename_i a vs n
  obtain ⟨v, h1, h2⟩ := L.get i h
  have hl := L.length
  have hq : (k + (vs.toArray.size : Int)).toNat = i := by rw [List.size_toArray, hl]; omega
  exact tail_any (g.list e).typeIs slot_list_getitem.lookup (wpAny_getItem_list_neg (g.list e) h0 (by rw [List.size_toArray, hl]; omega) (by omega) (by rw [hq]; simpa using h1) (hQ v s.heap K s.toks (.same g.sub) h2)) (hs _ _)
theorem seqIndex_nat {i n : Nat} (h : i < n) : seqIndex? (i : Int) n = some i := by
  unfold seqIndex?
  simp only [Int.not_lt.mpr (Int.natCast_nonneg i), if_false]
  rw [if_pos (by simp; omega)]
  simp
theorem Op2.itemT {ve ie : Expr} {ds : List Dv} {i : Nat} {k : Int} {d : Dv} (hk : k = (i : Int)) (hi : i < 2 ^ 62) (h : ds[i]? = some d)
    (hs : ∀ l u, subscripted ie false (.ref l) (.int k u) = operate [.ref l, .int k u] (getItem (.ref l) (.int k u))) : Op2 G (subscriptTail ve ie) (.tup ds) (.int k) d := fun A s K va vb Q hR g d₁ d₂ hQ => by
  cases d₁ with | tup e L => cases d₂ with | int _ t =>
  rename_i a vs n
  obtain ⟨v, h1, h2⟩ := L.get i h
  have hl : i < vs.length := (List.getElem?_eq_some_iff.mp h1).1
  subst hk
  exact item_tupleT (g.tup e) (by omega) (by omega) (seqIndex_nat hl) h1 (hQ v s.heap K s.toks (.same g.sub) h2) (hs _ _)

theorem OpL.len {ds : List Dv} (hl : ds.length < 2 ^ 62) : OpL G (fun vs => PySem.call (.builtin "len") vs) [.lst ds] (.int ds.length) := fun A s K vs Q hR g d hQ => by
  obtain ⟨v, rfl, d₁⟩ := DenL.one d
  cases d₁ with | lst e L =>
  have hq := L.length
  refine call_len_list (g.list e) (by rw [List.size_toArray]; omega) ?_
  rw [List.size_toArray, hq]
  exact hQ _ s.heap K _ (.same g.sub) (.int _ _)
theorem OpL.abs (i : Int) : OpL G (fun vs => PySem.call (.builtin "abs") vs) [.int i] (.int i.natAbs) := fun A s K vs Q hR g d hQ => by
  obtain ⟨v, rfl, d₁⟩ := DenL.one d
  cases d₁
  refine call_abs_int fun u tk => ?_
  have : (if i < 0 then -i else i) = (i.natAbs : Int) := by omega
  rw [this]
  exact hQ _ s.heap K _ (.same g.sub) (.int _ _)
theorem OpL.intI (i : Int) : OpL G (fun vs => PySem.call (.type "int") vs) [.int i] (.int i) := fun A s K vs Q hR g d hQ => by
  obtain ⟨v, rfl, d₁⟩ := DenL.one d
  cases d₁
  exact call_int_int (hQ _ s.heap K s.toks (.same g.sub) (.int _ _))
theorem OpL.intB (b : Bool) : OpL G (fun vs => PySem.call (.type "int") vs) [.bool b] (.int (if b then 1 else 0)) := fun A s K vs Q hR g d hQ => by
  obtain ⟨v, rfl, d₁⟩ := DenL.one d
  cases d₁
  exact call_int_bool (hQ _ s.heap K _ (.same g.sub) (.int _ _))
theorem OpL.max (i j : Int) : OpL G (fun vs => PySem.call (.builtin "max") vs) [.int i, .int j] (.int (max i j)) := fun A s K vs Q hR g d hQ => by
  obtain ⟨v, u, rfl, d₁, d₂⟩ := DenL.two d
  cases d₁; cases d₂
  refine max_two_ints hR.hd fun h' tk hk => ?_
  by_cases c : j > i
  · rw [if_pos c, show Max.max i j = j by omega] at *; exact hQ _ h' K tk (.heap g.sub hk) (.int _ _)
  · rw [if_neg c, show Max.max i j = i by omega] at *; exact hQ _ h' K tk (.heap g.sub hk) (.int _ _)
theorem OpL.min (i j : Int) : OpL G (fun vs => PySem.call (.builtin "min") vs) [.int i, .int j] (.int (min i j)) := fun A s K vs Q hR g d hQ => by
  obtain ⟨v, u, rfl, d₁, d₂⟩ := DenL.two d
  cases d₁; cases d₂
  refine min_two_ints hR.hd fun h' tk hk => ?_
  by_cases c : j < i
  · rw [if_pos c, show Min.min i j = j by omega] at *; exact hQ _ h' K tk (.heap g.sub hk) (.int _ _)
  · rw [if_neg c, show Min.min i j = i by omega] at *; exact hQ _ h' K tk (.heap g.sub hk) (.int _ _)

/-- two lists glued -/
theorem Op2.cat {as bs : List Dv} (hl : as.length + bs.length ≤ 2 ^ 20) : Op2 G (binaryOp .Add) (.lst as) (.lst bs) (.lst (as ++ bs)) := fun A s K va vb Q hR g d₁ d₂ hQ => by
  cases d₁ with | lst e₁ L₁ => cases d₂ with | lst e₂ L₂ =>
  rename_i a vs n b us m
  have h1 := L₁.length
  have h2 := L₂.length
  have hn := none_of_new g.sub (get_size_none s.heap)
  refine P.add_list (g.sub _ _ e₁) (g.sub _ _ e₂) ?_ (by rw [List.size_toArray, List.size_toArray, sizeLine_eq]; omega)
  have e : (vs.toArray ++ us.toArray) = (vs ++ us).toArray := by simp
  rw [e]
  exact hQ _ _ (K.put s.heap.objs.size (lstObj (vs ++ us) 0)) s.toks (.put g.sub (fun _ _ e => Heap.get?_push_of_some _ e) (get_size_none _) (Heap.get?_push_size _ rfl))
    (.lst (Fro.put_self _ _ _) ((L₁.append L₂).mono (Fro.put_le hn)))
theorem foldl_append_replicate {α : Type} (l : List α) : ∀ (n : Nat) (acc : Array α), (List.replicate n l.toArray).foldl (fun x y => x ++ y) acc = acc ++ (List.replicate n l).flatten.toArray
  | 0, acc => by simp
  | n + 1, acc => by
    rw [List.replicate_succ, List.foldl_cons, foldl_append_replicate l n, List.replicate_succ, List.flatten_cons]
    simp
theorem Op2.rep (d : Dv) (k : Nat) (i : Int) (hi : i = (k : Int)) (hk : k ≤ 2 ^ 20) : Op2 G (binaryOp .Mult) (.lst [d]) (.int i) (.lst (List.replicate k d)) := fun A s K va vb Q hR g d₁ d₂ hQ => by
  cases d₁ with | lst e₁ L₁ => cases d₂ with | int _ t =>
  cases L₁ with | cons hd L₁ => cases L₁ with | nil =>
  rename_i a n v
  have hn := none_of_new g.sub (get_size_none s.heap)
  refine wpAny_binaryOp_repeat_ref (T := "list") (U := "int") (by decide) ⟨_, g.sub _ _ e₁, rfl⟩ (fun s' => typeIs_int s' i t) noFill_list_mul F.fills_int_mul F.slot_int_rmul repeat_list F.slot_int_index.lookup
    (call_meets F.slot_int_rmul (typeIs_int s i t) F.entry_int_rmul (F.args_int_rmul_2 _ _) (int___rmul___int_list i t a [v].toArray n)
      ⟨g.sub _ _ e₁, rfl, ⟨_, g.sub _ _ e₁, rfl⟩, call_meets F.slot_list_mul ⟨_, g.sub _ _ e₁, rfl⟩ F.entry_list_mul (F.args_list_mul_2 _ _)
        (AutoListH.list___mul___list_int_3 a [v].toArray n i t (by simp [Builtin.List.listFitsIndex]; omega) (by simp; omega) (by simp [Builtin.List.listTooLong, sizeLine]; omega))
        ⟨g.sub _ _ e₁, ?_⟩⟩)
  have e : (List.foldl (fun x1 x2 => x1 ++ x2) #[] (List.replicate (if ([v].toArray).isEmpty = true then 0 else i.toNat) [v].toArray)) = (List.replicate k v).toArray := by
    have : ([v].toArray).isEmpty = false := rfl
    rw [this, hi]
    simp only [Bool.false_eq_true, if_false, Int.toNat_natCast]
    rw [foldl_append_replicate]
    simp
  rw [e]
  exact hQ _ _ (K.put s.heap.objs.size (lstObj (List.replicate k v) 0)) s.toks (.put g.sub (fun _ _ e => Heap.get?_push_of_some _ e) (get_size_none _) (Heap.get?_push_size _ rfl))
    (.lst (Fro.put_self _ _ _) ((DenL.replicate hd k).mono (Fro.put_le hn)))
/-- a list against the empty one -/
theorem Op2.eqNil {as : List Dv} : Op2 G (compareOp .Eq) (.lst as) (.lst []) (.bool (decide (as = []))) := fun A s K va vb Q hR g d₁ d₂ hQ => by
  cases d₁ with | lst e₁ L₁ => cases d₂ with | lst e₂ L₂ =>
  cases L₂
  have hu : A.units < cLine := by have := hR.un; unfold cLine; omega
  cases L₁ with
  | nil => exact P.eq_list (e := fun _ => true) (g.sub _ _ e₁) (g.sub _ _ e₂) rfl (fun j h => absurd h (by simp)) hu (hQ _ s.heap K s.toks (.same g.sub) (by simpa using Den.bool true))
  | cons h L => exact P.eq_list_lengths (g.sub _ _ e₁) (g.sub _ _ e₂) (by simp) hu (hQ _ s.heap K s.toks (.same g.sub) (by simpa using Den.bool false))
end
end Mine

end PartB3
section PartB4
open PySem PySem.Calls PyProof.Rows PySem.W
set_option Elab.async false
set_option maxRecDepth 100000
set_option autoImplicit false
set_option linter.unusedVariables false
namespace Mine

theorem get_succ_none (h : Heap) : h.get? (h.objs.size + 1) = none := by
  cases q : h.get? (h.objs.size + 1) with
  | none => rfl
  | some o => exact absurd (Heap.lt_size q) (Nat.not_lt.mpr (Nat.le_succ _))

section
variable {G : Cx} {n : Nat} {E : Env} {ρ : St}

/-- a slice of a list that a name holds -/
theorem Ev.sliceOf {x : Str} {xp p pos : Pos} {lo up : Option Expr} {ds : List Dv} {dl du : Option Int} (hx : Ev G n E ρ (.Name x xp) (.lst ds))
    (hl : lo = none ∧ dl = none ∨ ∃ e i, lo = some e ∧ dl = some i ∧ Ev G n E ρ e (.int i)) (hu : up = none ∧ du = none ∨ ∃ e i, up = some e ∧ du = some i ∧ Ev G n E ρ e (.int i))
    (hsz : ds.length ≤ 2 ^ 20) {ds' : List Dv} (hp : ∀ vs : List Value, ∃ vs', slicePick vs.toArray dl du none = vs'.toArray ∧ ∀ K, DenL G.mg K vs ds → DenL G.mg K vs' ds') :
    Ev G n E ρ (.Subscript (.Name x xp) (.Slice lo up none p) pos) (.lst ds') := fun A s K fp Q hR R hQ => by
  have part : ∀ (o : Option Expr) (dd : Option Int), (o = none ∧ dd = none ∨ ∃ e i, o = some e ∧ dd = some i ∧ Ev G n E ρ e (.int i)) → ∀ (s : Shared) (K : Fro) (Q : Value → Shared → Prop), RelE G E s.heap K ρ fp →
      (∀ v h' K' tk, Ext s.heap K h' K' → IsPart v dd → Q v { s with heap := h', toks := tk }) → wpAny (model G.prog G.w) A (evalPart o E) Q (fun _ _ => False) s := by
    intro o dd ho s K Q R hQ
    rcases ho with ⟨rfl, rfl⟩ | ⟨e, i, rfl, rfl, he⟩
    · exact wpAny_pure (hQ .none s.heap K s.toks (.same R.gd.sub) .none)
    · exact he A s K fp _ hR R fun v h' K' tk x d => by cases d; exact hQ _ h' K' tk x (.int _ _)
  refine wpAny_Subscript_list_slice (hx A s K fp _ hR R fun va h₁ K₁ tk₁ x₁ d₁ => part lo dl hl _ K₁ _ (R.ext x₁) fun vl h₂ K₂ tk₂ x₂ p₂ => part up du hu _ K₂ _ ((R.ext x₁).ext x₂) fun vu h₃ K₃ tk₃ x₃ p₃ => ?_)
  cases d₁ with | lst e L =>
  rename_i a vs k
  obtain ⟨vs', e', L'⟩ := hp vs
  have hln := L.length
  have g := (((R.ext x₁).ext x₂).ext x₃).gd
  have e3 := x₃.le _ _ (x₂.le _ _ e)
  have L3 := (L.mono x₂.le).mono x₃.le
  refine ⟨a, vs.toArray, dl, du, rfl, g.list e3, by rw [List.size_toArray, sizeLine_eq]; omega, p₂, p₃, ?_⟩
  rw [e']
  have hsz1 : (h₃.push { cls := .type "slice", data := .fields #[vl, vu, .none] }).objs.size = h₃.objs.size + 1 := Heap.size_push ..
  have hnew : h₃.get? (h₃.objs.size + 1) = none := get_succ_none h₃
  have hgot : ((h₃.push { cls := .type "slice", data := .fields #[vl, vu, .none] }).push (lstObj vs' 0)).get? (h₃.objs.size + 1) = some (lstObj vs' 0) := by
    rw [← hsz1]; exact Heap.get?_push_size _ rfl
  exact hQ _ _ (K₃.put (h₃.objs.size + 1) (lstObj vs' 0)) tk₃
    (((x₁.trans x₂).trans x₃).trans (.put x₃.sub (fun _ _ q => Heap.get?_push_of_some _ (Heap.get?_push_of_some _ q)) hnew hgot))
    (.lst (Fro.put_self _ _ _) ((L' K₃ L3).mono (Fro.put_le (none_of_new x₃.sub hnew))))

theorem Ev.upto {x : Str} {xp p pos : Pos} {e : Expr} {ds : List Dv} {k : Int} {i : Nat} (hx : Ev G n E ρ (.Name x xp) (.lst ds)) (he : Ev G n E ρ e (.int k)) (hk : k = (i : Int)) (hsz : ds.length ≤ 2 ^ 20) :
    Ev G n E ρ (.Subscript (.Name x xp) (.Slice none (some e) none p) pos) (.lst (ds.take i)) :=
  .sliceOf hx (.inl ⟨rfl, rfl⟩) (.inr ⟨e, k, rfl, rfl, he⟩) hsz fun vs => ⟨vs.take i, by rw [hk, slicePick_upto'], fun K L => L.take i⟩
theorem Ev.copy {x : Str} {xp p pos : Pos} {ds : List Dv} (hx : Ev G n E ρ (.Name x xp) (.lst ds)) (hsz : ds.length ≤ 2 ^ 20) :
    Ev G n E ρ (.Subscript (.Name x xp) (.Slice none none none p) pos) (.lst ds) :=
  .sliceOf hx (.inl ⟨rfl, rfl⟩) (.inl ⟨rfl, rfl⟩) hsz fun vs => ⟨vs, by rw [slicePick_all], fun K L => L⟩

theorem Ev.rev {x : Str} {xp p pos : Pos} {e : Expr} {ds : List Dv} (hx : Ev G n E ρ (.Name x xp) (.lst ds)) (he : Ev G n E ρ e (.int (-1))) (hsz : ds.length ≤ 2 ^ 20) :
    Ev G n E ρ (.Subscript (.Name x xp) (.Slice none none (some e) p) pos) (.lst ds.reverse) := fun A s K fp Q hR R hQ => by
  refine wpAny_Subscript_Slice_step (T := "list") list_getitem_lookup (hx A s K fp _ hR R fun va h₁ K₁ tk₁ x₁ d₁ => wpAny_Slice ?_)
  rw [evalPart_none, evalPart_some]
  refine wpAny_pure (wpAny_pure (he A _ K₁ fp _ hR (R.ext x₁) fun vb h₂ K₂ tk₂ x₂ d₂ => ?_))
  cases d₂ with | int _ t =>
  cases d₁ with | lst e L =>
  rename_i a vs k
  have hln := L.length
  have g := ((R.ext x₁).ext x₂).gd
  have e3 := x₂.le _ _ e
  have L3 := L.mono x₂.le
  refine ⟨((g.list e3).push _).typeIs, wpAny_getItem_list_slice ((g.list e3).push _) (Heap.IsSliceOf.new ..) .none .none (.int _ _) (by simp) ?_ (by rw [List.size_toArray, sizeLine_eq]; omega)⟩
  rw [krv_pick]
  have hsz1 : (h₂.push { cls := .type "slice", data := .fields #[.none, .none, .int (-1) t] }).objs.size = h₂.objs.size + 1 := Heap.size_push ..
  have hnew : h₂.get? (h₂.objs.size + 1) = none := get_succ_none h₂
  have hgot : ((h₂.push { cls := .type "slice", data := .fields #[.none, .none, .int (-1) t] }).push (lstObj vs.reverse 0)).get? (h₂.objs.size + 1) = some (lstObj vs.reverse 0) := by
    rw [← hsz1]; exact Heap.get?_push_size _ rfl
  have := hQ (.ref (h₂.objs.size + 1)) _ (K₂.put (h₂.objs.size + 1) (lstObj vs.reverse 0)) tk₂
    ((x₁.trans x₂).trans (.put x₂.sub (fun _ _ q => Heap.get?_push_of_some _ (Heap.get?_push_of_some _ q)) hnew hgot))
    (.lst (Fro.put_self _ _ _) ((L3.reverse).mono (Fro.put_le (none_of_new x₂.sub hnew))))
  rw [← hsz1] at this
  exact this

-- what one owns, read
theorem HV.inv_own {K : Fro} {h : Heap} {v : Value} {ds : List Dv} {fp : List Addr} (x : HV G K h v (.own ds) fp) : ∃ a, v = .ref a ∧ fp = [a] ∧ OwnAt G K h a ds := by
  generalize hV : Va.own ds = V at x
  cases x <;> cases hV
  exact ⟨_, rfl, rfl, by assumption⟩
theorem HV.inv_own2 {K : Fro} {h : Heap} {v : Value} {dss : List (List Dv)} {fp : List Addr} (x : HV G K h v (.own2 dss) fp) :
    ∃ a as k, v = .ref a ∧ fp = a :: as ∧ h.get? a = some (lstObj (as.map Value.ref) k) ∧ OwnsAt G K h as dss ∧ (a :: as).Nodup := by
  generalize hV : Va.own2 dss = V at x
  cases x <;> cases hV
  exact ⟨_, _, _, rfl, rfl, by assumption, by assumption, by assumption⟩

theorem Ev.ownItem {x : Str} {xp pos : Pos} {ie : Expr} {ds : List Dv} {k : Int} {i : Nat} {d : Dv} (h : ρ.lookup x = some (.own ds)) (hx : E.kindOf x = some .local ∨ E.kindOf x = some .cell ∨ E.kindOf x = some .free)
    (hi : Ev G n E ρ ie (.int k)) (hk : k = (i : Int)) (hi' : i < 2 ^ 62) (hd' : ds[i]? = some d)
    (hs : ∀ l u, subscripted ie false (.ref l) (.int k u) = operate [.ref l, .int k u] (getItem (.ref l) (.int k u)))
    (hd : (x == ("__debug__" : Str)) = false) (hc : (x == ("__classdict__" : Str)) = false) : Ev G n E ρ (.Subscript (.Name x xp) ie pos) d := fun A s K fp Q hR R hQ => by
  obtain ⟨m, Fm, hm⟩ := R.frm
  obtain ⟨v, h1, h2⟩ := hm x _ h
  obtain ⟨a, rfl, hfp, ho⟩ := h2.inv_own
  refine Subscript_ (Fm.load rfl hx h1 ?_ hd hc)
  refine hi A s K fp _ hR R fun vb h₁ K₁ tk₁ x₁ d₁ => ?_
  cases d₁ with | int _ t =>
  obtain ⟨vs, c, e, L⟩ := ho
  obtain ⟨w, h3, h4⟩ := L.get i hd'
  have hl : h₁.IsList a vs.toArray := ⟨_, x₁.keep _ _ e, rfl, c, rfl⟩
  exact tail_any (Heap.IsList.typeIs (s := { s with heap := h₁, toks := tk₁ }) hl) slot_list_getitem.lookup (wpAny_getItem_list hl (by omega) (by omega) (by subst hk; simpa using h3) (hQ w h₁ K₁ tk₁ x₁ (h4.mono x₁.le))) (hs _ _)

/-- all that one owns, frozen -/
noncomputable def frz (ρ : St) : St := ρ.map fun p => (p.1, Va.fr p.2.dv)
theorem frz_lookup (x : Str) : ∀ ρ : St, (frz ρ).lookup x = (ρ.lookup x).map fun V => Va.fr V.dv
  | [] => rfl
  | (y, V) :: r => by
    have ih := frz_lookup x r
    simp only [frz, List.map_cons, List.lookup_cons] at ih ⊢
    cases x == y <;> simp_all

open Classical in
noncomputable def Fro.take (K : Fro) (h : Heap) (P : Addr → Prop) : Fro := fun a => if P a then h.get? a else K a
theorem Fro.take_of {K : Fro} {h : Heap} {P : Addr → Prop} {a : Addr} (ha : P a) : K.take h P a = h.get? a := if_pos ha
theorem Fro.take_not {K : Fro} {h : Heap} {P : Addr → Prop} {a : Addr} (ha : ¬ P a) : K.take h P a = K a := if_neg ha
theorem Fro.take_le {K : Fro} {h : Heap} {P : Addr → Prop} (hn : ∀ a, P a → K a = none) : Fro.le K (K.take h P) := fun a o e => by
  by_cases p : P a
  · rw [hn a p] at e; cases e
  · rw [Fro.take_not p]; exact e

theorem OwnsAt.den {K : Fro} {h : Heap} {P : Addr → Prop} (hn : ∀ a, P a → K a = none) {as : List Addr} {dss : List (List Dv)} (x : OwnsAt G K h as dss) (hp : ∀ a ∈ as, P a) : DenL G.mg (K.take h P) (as.map Value.ref) (dss.map Dv.lst) := by
  induction x with
  | nil => exact .nil
  | cons x _ ih =>
    obtain ⟨vs, c, e, L⟩ := x
    exact .cons (.lst (by rw [Fro.take_of (hp _ (.head _))]; exact e) (L.mono (Fro.take_le hn))) (ih fun a ha => hp a (.tail _ ha))
theorem HV.den {K : Fro} {h : Heap} {P : Addr → Prop} (hn : ∀ a, P a → K a = none) {v : Value} {V : Va} {fp : List Addr} (x : HV G K h v V fp) (hp : ∀ a ∈ fp, P a) : Den G.mg (K.take h P) v V.dv := by
  cases x with
  | fr x => exact x.mono (Fro.take_le hn)
  | own x =>
    obtain ⟨vs, c, e, L⟩ := x
    exact .lst (by rw [Fro.take_of (hp _ (.head _))]; exact e) (L.mono (Fro.take_le hn))
  | own2 x xs nd => exact .lst (by rw [Fro.take_of (hp _ (.head _))]; exact x) (xs.den hn fun a ha => hp a (.tail _ ha))

theorem RelE.freeze {h : Heap} {K : Fro} {fp : Str → List Addr} (R : RelE G E h K ρ fp) : RelE G E h (K.take h fun a => ∃ x, a ∈ fp x) (frz ρ) (fun _ => []) := by
  have hn : ∀ a, (∃ x, a ∈ fp x) → K a = none := fun a ⟨x, hx⟩ => R.notK x a hx
  obtain ⟨m, F, hm⟩ := R.frm
  refine ⟨⟨R.gd.base, fun a o e => ?_, fun x d e => let ⟨v, h1, h2⟩ := R.gd.cst x d e; ⟨v, h1, h2.mono (Fro.take_le hn)⟩⟩, ⟨m, F, fun x V e => ?_⟩, fun _ _ => rfl, (fun _ _ _ ha => nomatch ha), (fun _ _ ha => nomatch ha)⟩
  · by_cases p : ∃ x, a ∈ fp x
    · rw [Fro.take_of p] at e; exact e
    · rw [Fro.take_not p] at e; exact R.gd.sub a o e
  · rw [frz_lookup] at e
    cases q : ρ.lookup x with
    | none => rw [q] at e; cases e
    | some V' =>
      rw [q] at e; cases e
      obtain ⟨v, h1, h2⟩ := hm x V' q
      exact ⟨v, h1, .fr (h2.den hn fun a ha => ⟨x, ha⟩)⟩

noncomputable def Dv.scalar : Dv → Bool
  | .int _ | .bool _ | .none => true
  | _ => false
theorem Den.scalar {K K' : Fro} {mg : Str → Option Value} {v : Value} {d : Dv} (x : Den mg K v d) (hs : d.scalar = true) : Den mg K' v d := by
  cases x with
  | int i t => exact .int i t
  | bool b => exact .bool b
  | none => exact .none
  | _ => cases hs

/-- what one owns may be read as if frozen, where a scalar comes of it -/
theorem Ev.borrow {e : Expr} {d : Dv} (h : Ev G n E (frz ρ) e d) (hs : d.scalar = true) : Ev G n E ρ e d := fun A s K fp Q hR R hQ =>
  h A s _ _ Q hR R.freeze fun v h' K' tk x dv => hQ v h' K tk (.heap R.gd.sub x.keep) (dv.scalar hs)
theorem Tst.borrow {e : Expr} {b : Bool} (h : Tst G n E (frz ρ) e b) : Tst G n E ρ e b := fun A s K fp Q hR R hQ =>
  h A s _ _ Q hR R.freeze fun h' K' tk x => hQ h' K tk (.heap R.gd.sub x.keep)
end
end Mine

end PartB4
section PartB5
open PySem PySem.Calls PyProof.Rows PySem.W
set_option Elab.async false
set_option maxRecDepth 100000
set_option autoImplicit false
set_option linter.unusedVariables false
namespace Mine

/-- what the frame was given: the objects that it keeps, the frozen part -/
structure Base where
  h : Fro
  K : Fro

structure Rel (G : Cx) (B : Base) (E : Env) (h : Heap) (K : Fro) (ρ : St) (fp : Str → List Addr) : Prop where
  e : RelE G E h K ρ fp
  prvK : ∀ a, Prv E a → K a = none
  keep : ∀ a o, B.h a = some o → h.get? a = some o
  ownB : ∀ x a, a ∈ fp x → B.h a = none
  prvB : ∀ a, Prv E a → B.h a = none
  kle : Fro.le B.K K
  knew : ∀ a o, K a = some o → B.K a = some o ∨ B.h a = none
  base : ∀ a o, G.h0.get? a = some o → B.h a = some o

theorem Frm.live {E : Env} {h : Heap} {m : Str → Option Value} (F : Frm E h m) {a : Addr} (p : Prv E a) : ∃ o, h.get? a = some o ∧ ∀ vs n, o ≠ lstObj vs n := by
  rcases p with rfl | ⟨x, hx, hc⟩
  · obtain ⟨ml, ⟨o, es, ep, h1, h2, _⟩, _⟩ := F.ns
    exact ⟨o, h1, fun vs n e => by rw [e] at h2; cases h2⟩
  · obtain ⟨c, h1, o, h2, h3⟩ := F.cell x hx
    rw [hc] at h1; cases h1
    exact ⟨o, h2, fun vs n e => by rw [e] at h3; cases h3⟩

section
variable {G : Cx} {n : Nat} {E : Env} {ρ : St} {B : Base}

theorem RelE.live {h : Heap} {K : Fro} {fp : Str → List Addr} (R : RelE G E h K ρ fp) {x : Str} {a : Addr} (ha : a ∈ fp x) : ∃ vs k, h.get? a = some (lstObj vs k) := by
  obtain ⟨m, F, hm⟩ := R.frm
  cases q : ρ.lookup x with
  | none => rw [R.emp x q] at ha; cases ha
  | some V => obtain ⟨v, _, hv⟩ := hm x V q; exact hv.live a ha
theorem RelE.notPrv {h : Heap} {K : Fro} {fp : Str → List Addr} (R : RelE G E h K ρ fp) {x : Str} {a : Addr} (ha : a ∈ fp x) : ¬ Prv E a := fun p => by
  obtain ⟨vs, k, e⟩ := R.live ha
  obtain ⟨m, F, hm⟩ := R.frm
  obtain ⟨o, h1, h2⟩ := F.live p
  rw [e] at h1; cases h1; exact h2 vs k rfl

theorem Rel.ext {h h' : Heap} {K K' : Fro} {fp : Str → List Addr} (R : Rel G B E h K ρ fp) (x : Ext h K h' K') : Rel G B E h' K' ρ fp := by
  refine ⟨R.e.ext x, fun a p => ?_, fun a o e => x.keep a o (R.keep a o e), R.ownB, R.prvB, R.kle.trans x.le, fun a o e => ?_, R.base⟩
  · cases q : K' a with
    | none => rfl
    | some o =>
      obtain ⟨m, F, hm⟩ := R.e.frm
      obtain ⟨o', h1, _⟩ := F.live p
      rcases x.new a o q with e | e
      · rw [R.prvK a p] at e; cases e
      · rw [h1] at e; cases e
  · rcases x.new a o e with e | e
    · exact R.knew a o e
    · refine .inr ?_
      cases q : B.h a with
      | none => rfl
      | some o' => rw [R.keep a o' q] at e; cases e

theorem Rel.freeze {h : Heap} {K : Fro} {fp : Str → List Addr} (R : Rel G B E h K ρ fp) : Rel G B E h (K.take h fun a => ∃ x, a ∈ fp x) (frz ρ) (fun _ => []) := by
  have hn : ∀ a, (∃ x, a ∈ fp x) → K a = none := fun a ⟨x, hx⟩ => R.e.notK x a hx
  refine ⟨R.e.freeze, fun a p => ?_, R.keep, (fun _ _ ha => nomatch ha), R.prvB, R.kle.trans (Fro.take_le hn), fun a o e => ?_, R.base⟩
  · rw [Fro.take_not fun ⟨x, hx⟩ => R.e.notPrv hx p]; exact R.prvK a p
  · by_cases p : ∃ x, a ∈ fp x
    · obtain ⟨x, hx⟩ := p; exact .inr (R.ownB x a hx)
    · rw [Fro.take_not p] at e; exact R.knew a o e

noncomputable def St.set : St → Str → Va → St
  | [], x, V => [(x, V)]
  | (y, W) :: r, x, V => if x == y then (x, V) :: r else (y, W) :: St.set r x V
theorem St.lookup_set (z x : Str) (V : Va) : ∀ ρ : St, (St.set ρ x V).lookup z = if z = x then some V else ρ.lookup z
  | [] => by
    by_cases h : z = x
    · subst h; simp [St.set]
    · have : (z == x) = false := beq_eq_false_iff_ne.mpr h
      simp [St.set, List.lookup_cons, this, h]
  | (y, W) :: r => by
    have ih := St.lookup_set z x V r
    unfold St.set
    by_cases hxy : x = y
    · subst hxy
      simp only [beq_self_eq_true, if_true, List.lookup_cons]
      by_cases h : z = x
      · subst h; simp
      · have : (z == x) = false := beq_eq_false_iff_ne.mpr h
        simp [this, h]
    · have e1 : (x == y) = false := beq_eq_false_iff_ne.mpr hxy
      simp only [e1, Bool.false_eq_true, if_false, List.lookup_cons]
      by_cases h : z = y
      · subst h
        have : ¬ z = x := fun q => hxy q.symm
        simp [this]
      · have e2 : (z == y) = false := beq_eq_false_iff_ne.mpr h
        simp only [e2]; exact ih

/-- only the frame's own objects were touched -/
noncomputable def Touch (E : Env) (h h' : Heap) : Prop := ∀ a o, ¬ Prv E a → h.get? a = some o → h'.get? a = some o
theorem Touch.refl (E : Env) (h : Heap) : Touch E h h := fun _ _ _ e => e
theorem Touch.trans {h h₁ h₂ : Heap} (x : Touch E h h₁) (y : Touch E h₁ h₂) : Touch E h h₂ := fun a o p e => y a o p (x a o p e)

theorem HV.touch {h h' : Heap} {K : Fro} {v : Value} {V : Va} {fv : List Addr} {m : Str → Option Value} (x : HV G K h v V fv) (F : Frm E h m) (t : Touch E h h') : HV G K h' v V fv :=
  x.mono (Fro.le_refl K) fun a ha o e => t a o (fun p => by
    obtain ⟨vs, k, e1⟩ := x.live a ha
    obtain ⟨o', h1, h2⟩ := F.live p
    rw [e1] at h1; cases h1; exact h2 vs k rfl) e

theorem Rel.store {x : Str} {v : Value} {V : Va} {fv : List Addr} {s : Shared} {K : Fro} {fp : Str → List Addr} {M : Model} {A : Around} {Er : Value → Shared → Prop} {Q : Unit → Shared → Prop}
    (R : Rel G B E s.heap K ρ fp) (hv : HV G K s.heap v V fv) (hK : ∀ a ∈ fv, K a = none) (hB : ∀ a ∈ fv, B.h a = none) (hd : ∀ y a, a ∈ fv → y ≠ x → a ∉ fp y)
    (hx : E.kindOf x = some .local ∨ E.kindOf x = some .cell)
    (hQ : ∀ h' tk, Rel G B E h' K (St.set ρ x V) (fun y => if y = x then fv else fp y) → Touch E s.heap h' → Q () { s with heap := h', toks := tk }) : wpAny M A (storeName E x v) Q Er s := by
  obtain ⟨m, F, hm⟩ := R.e.frm
  have key : ∀ (p : Addr) (h' : Heap) (tk : Nat), Prv E p → Heap.SameBut p s.heap h' → Frm E h' (fun y => if y = x then some v else m y) → Q () { s with heap := h', toks := tk } := by
    intro p h' tk pp hs F'
    have hsub : ∀ a o, K a = some o → h'.get? a = some o := fun a o e => hs.extBut a o (fun q => by rw [q, R.prvK p pp] at e; cases e) (R.e.gd.sub a o e)
    have hkeep : ∀ a o, s.heap.get? a = some o → a ≠ p → h'.get? a = some o := fun a o e q => hs.extBut a o q e
    have t : Touch E s.heap h' := fun a o q e => hkeep a o e fun z => q (z ▸ pp)
    have own : ∀ y a, a ∈ fp y → a ≠ p := fun y a ha z => R.e.notPrv ha (z ▸ pp)
    refine hQ h' tk ⟨⟨⟨?_, hsub, R.e.gd.cst⟩, ⟨_, F', fun y W e => ?_⟩, fun y e => ?_, fun y z a h1 h2 => ?_, fun y a ha => ?_⟩, R.prvK, fun a o e => ?_, fun y a ha => ?_, R.prvB, R.kle, R.knew, R.base⟩ t
    · exact fun a o e => hkeep a o (R.e.gd.base a o e) fun z => absurd (R.base a o e) (by rw [z, R.prvB p pp]; simp)
    · rw [St.lookup_set] at e
      by_cases q : y = x
      · subst q
        simp only [if_true] at e ⊢; cases e
        exact ⟨v, rfl, hv.touch F t⟩
      · simp only [q, if_false] at e ⊢
        obtain ⟨u, h1, h2⟩ := hm y W e
        exact ⟨u, h1, h2.touch F t⟩
    · rw [St.lookup_set] at e
      by_cases q : y = x
      · simp [q] at e
      · simp only [q, if_false] at e ⊢; exact R.e.emp y e
    · by_cases q : y = x
      · by_cases q' : z = x
        · rw [q, q']
        · simp only [q, if_true, q', if_false] at h1 h2; exact absurd h2 (hd z a h1 q')
      · by_cases q' : z = x
        · simp only [q, if_false, q', if_true] at h1 h2; exact absurd h1 (hd y a h2 q)
        · simp only [q, if_false, q'] at h1 h2; exact R.e.disj y z a h1 h2
    · by_cases q : y = x
      · simp only [q, if_true] at ha; exact hK a ha
      · simp only [q, if_false] at ha; exact R.e.notK y a ha
    · exact hkeep a o (R.keep a o e) fun z => by rw [z, R.prvB p pp] at e; cases e
    · by_cases q : y = x
      · simp only [q, if_true] at ha; exact hB a ha
      · simp only [q, if_false] at ha; exact R.ownB y a ha
  rcases hx with hx | hx
  · obtain ⟨ml, h1, h2⟩ := F.ns
    refine wpAny_storeName_local hx h1 (fun h' hn hs => key _ h' _ (.inl rfl) hs ⟨⟨_, hn, fun y hy => ?_⟩, fun y hy => ?_, F.apart, F.kind, F.glob, F.bt⟩) ?_
    · by_cases q : y = x
      · simp [q]
      · simp only [q, if_false]; exact h2 y hy
    · obtain ⟨c, e1, o, e2, e3⟩ := F.cell y hy
      have q : y ≠ x := fun z => by rw [z, hx] at hy; simp at hy
      refine ⟨c, e1, o, hs.extBut c o (fun z => ?_) e2, by simp only [q, if_false]; exact e3⟩
      obtain ⟨o', es, ep, g1, g2, _⟩ := h1
      rw [← z, e2] at g1; cases g1; rw [e3] at g2; cases g2
    · show (E.scope.kind == .class || (E.scope.kind == .module && E.locals != E.globals)) = false
      rw [F.kind]; rfl
  · obtain ⟨c, e1, e2⟩ := F.cell x (.inl hx)
    refine wpAny_storeName_cell F.kind hx e1 e2 fun h' hc hs => key c h' s.toks (.inr ⟨x, .inl hx, e1⟩) hs ⟨?_, fun y hy => ?_, F.apart, F.kind, F.glob, F.bt⟩
    · obtain ⟨ml, h1, h2⟩ := F.ns
      refine ⟨ml, h1.sameBut hs fun z => ?_, fun y hy => ?_⟩
      · obtain ⟨o', es, ep, g1, g2, _⟩ := h1
        obtain ⟨o, e3, e4⟩ := e2
        rw [z, e3] at g1; cases g1; rw [e4] at g2; cases g2
      · have q : y ≠ x := fun z => by rw [z, hx] at hy; cases hy
        simp only [q, if_false]; exact h2 y hy
    · by_cases q : y = x
      · subst q; exact ⟨c, e1, by simpa using hc⟩
      · obtain ⟨c', g1, g2⟩ := F.cell y hy
        refine ⟨c', g1, ?_⟩
        simp only [q, if_false]
        exact g2.sameBut hs fun z => q (F.apart y x c' g1 (z ▸ e1))
end
end Mine

end PartB5
section PartB6
open PySem PySem.Calls PyProof.Rows PySem.W
set_option Elab.async false
set_option maxRecDepth 100000
set_option autoImplicit false
set_option linter.unusedVariables false
namespace Mine

section
variable {G : Cx} {n : Nat} {E : Env} {ρ : St} {B : Base}

/-- an expression's value, one's own list too -/
noncomputable def EvP (G : Cx) (n : Nat) (E : Env) (ρ : St) (e : Expr) (V : Va) : Prop :=
  ∀ (A : Around) (s : Shared) (K : Fro) (fp : Str → List Addr) (Q : Value → Shared → Prop), Room n A → RelE G E s.heap K ρ fp →
    (∀ v h' K' tk fv, Ext s.heap K h' K' → HV G K' h' v V fv → (∀ a ∈ fv, K' a = none ∧ s.heap.get? a = none) → Q v { s with heap := h', toks := tk }) →
    wpAny (model G.prog G.w) A (eval e E) Q (fun _ _ => False) s

theorem EvP.of {e : Expr} {d : Dv} (h : Ev G n E ρ e d) : EvP G n E ρ e (.fr d) := fun A s K fp Q hR R hQ =>
  h A s K fp Q hR R fun v h' K' tk x dv => hQ v h' K' tk [] x (.fr dv) (fun a ha => nomatch ha)
theorem fresh_notK {h h' : Heap} {K K' : Fro} (x : Ext h K h' K') {a : Addr} (hn : h.get? a = none) (hs : ∀ a o, K a = some o → h.get? a = some o) (e : K' a = none ∨ True) : K a = none := none_of_new hs hn
/-- a fresh list of frozen things -/
theorem EvP.list {es : List Expr} {pos : Pos} {ds : List Dv} (h : EvL G n E ρ es pos ds) (hsz : ds.length ≤ 1000) : EvP G n E ρ (.List es pos) (.own ds) := fun A s K fp Q hR R hQ =>
  List_ (h A s K fp _ hR R fun vs h₁ K₁ tk₁ x₁ d₁ =>
    wpAny_newObj_type (hQ _ _ K₁ tk₁ [h₁.objs.size] (x₁.trans (.heap x₁.sub (fun _ _ e => Heap.get?_push_of_some _ e))) (.own ⟨vs, 0, Heap.get?_push_size _ rfl, d₁⟩) (fun a ha => by
      obtain rfl := List.mem_singleton.mp ha
      refine ⟨none_of_new x₁.sub (get_size_none h₁), ?_⟩
      cases q : s.heap.get? h₁.objs.size with
      | none => rfl
      | some o => have := x₁.keep _ o q; rw [get_size_none] at this; cases this))
      (by show vs.toArray.size ≤ sizeLine; have := d₁.length; rw [List.size_toArray, sizeLine_eq]; omega))

/-- [x] * k, one's own -/
theorem EvP.rep {e i : Expr} {lp pos : Pos} {d : Dv} {k : Nat} {z : Int} (he : Ev G n E ρ (.List [e] lp) (.lst [d])) (hi : Ev G n E ρ i (.int z)) (hz : z = (k : Int)) (hk : k ≤ 2 ^ 20) :
    EvP G n E ρ (.BinOp (.List [e] lp) .Mult i pos) (.own (List.replicate k d)) := fun A s K fp Q hR R hQ => by
  refine wpAny_BinOp (he A s K fp _ hR R fun va h₁ K₁ tk₁ x₁ d₁ => hi A _ K₁ fp _ hR (R.ext x₁) fun vb h₂ K₂ tk₂ x₂ d₂ => ?_)
  cases d₁ with | lst e₁ L₁ => cases d₂ with | int _ t =>
  cases L₁ with | cons hd L₁ => cases L₁ with | nil =>
  rename_i a c v
  have g := ((R.ext x₁).ext x₂).gd
  have e2 := g.sub _ _ (x₂.le _ _ e₁)
  refine wpAny_binaryOp_repeat_ref (T := "list") (U := "int") (by decide) ⟨_, e2, rfl⟩ (fun s' => typeIs_int s' z t) noFill_list_mul F.fills_int_mul F.slot_int_rmul repeat_list F.slot_int_index.lookup
    (call_meets F.slot_int_rmul (typeIs_int _ z t) F.entry_int_rmul (F.args_int_rmul_2 _ _) (int___rmul___int_list z t a [v].toArray c)
      ⟨e2, rfl, ⟨_, e2, rfl⟩, call_meets F.slot_list_mul ⟨_, e2, rfl⟩ F.entry_list_mul (F.args_list_mul_2 _ _)
        (AutoListH.list___mul___list_int_3 a [v].toArray c z t (by simp [Builtin.List.listFitsIndex]; omega) (by simp; omega) (by simp [Builtin.List.listTooLong, sizeLine]; omega))
        ⟨e2, ?_⟩⟩)
  have e : (List.foldl (fun x1 x2 => x1 ++ x2) #[] (List.replicate (if ([v].toArray).isEmpty = true then 0 else z.toNat) [v].toArray)) = (List.replicate k v).toArray := by
    have : ([v].toArray).isEmpty = false := rfl
    rw [this, hz]
    simp only [Bool.false_eq_true, if_false, Int.toNat_natCast]
    rw [foldl_append_replicate]
    simp
  rw [e]
  refine hQ _ _ K₂ tk₂ [h₂.objs.size] ((x₁.trans x₂).trans (.heap x₂.sub (fun _ _ q => Heap.get?_push_of_some _ q))) (.own ⟨_, 0, Heap.get?_push_size _ rfl, DenL.replicate (hd.mono x₂.le) k⟩) (fun b hb => ?_)
  obtain rfl := List.mem_singleton.mp hb
  refine ⟨none_of_new x₂.sub (get_size_none h₂), ?_⟩
  cases q : s.heap.get? h₂.objs.size with
  | none => rfl
  | some o => have := x₂.keep _ o (x₁.keep _ o q); rw [get_size_none] at this; cases this

/-- values side by side, each with what it owns -/
inductive HVL (G : Cx) (K : Fro) (h : Heap) : List Value → List Va → List (List Addr) → Prop
  | nil : HVL G K h [] [] []
  | cons {v : Value} {V : Va} {f : List Addr} {vs : List Value} {Vs : List Va} {fs : List (List Addr)} (x : HV G K h v V f) (xs : HVL G K h vs Vs fs) (ap : ∀ a ∈ f, ∀ g ∈ fs, a ∉ g) : HVL G K h (v :: vs) (V :: Vs) (f :: fs)
theorem HVL.mono {K K' : Fro} {h h' : Heap} {vs : List Value} {Vs : List Va} {fs : List (List Addr)} (x : HVL G K h vs Vs fs) (hk : Fro.le K K') (hh : ∀ f ∈ fs, ∀ a ∈ f, ∀ o, h.get? a = some o → h'.get? a = some o) : HVL G K' h' vs Vs fs := by
  induction x with
  | nil => exact .nil
  | cons x _ ap ih => exact .cons (x.mono hk (hh _ (.head _))) (ih fun f hf => hh f (.tail _ hf)) ap
theorem HVL.length {K : Fro} {h : Heap} {vs : List Value} {Vs : List Va} {fs : List (List Addr)} (x : HVL G K h vs Vs fs) : vs.length = Vs.length := by
  induction x with
  | nil => rfl
  | cons _ _ _ ih => simp [ih]
theorem HVL.live {K : Fro} {h : Heap} {vs : List Value} {Vs : List Va} {fs : List (List Addr)} (x : HVL G K h vs Vs fs) : ∀ f ∈ fs, ∀ a ∈ f, ∃ us c, h.get? a = some (lstObj us c) := by
  induction x with
  | nil => intro f hf; cases hf
  | cons x _ _ ih => intro f hf; cases hf with
    | head => exact x.live
    | tail _ hf => exact ih f hf

noncomputable def EvPL (G : Cx) (n : Nat) (E : Env) (ρ : St) (es : List Expr) (pos : Pos) (Vs : List Va) : Prop :=
  ∀ (A : Around) (s : Shared) (K : Fro) (fp : Str → List Addr) (Q : List Value → Shared → Prop), Room n A → RelE G E s.heap K ρ fp →
    (∀ vs h' K' tk fs, Ext s.heap K h' K' → HVL G K' h' vs Vs fs → (∀ f ∈ fs, ∀ a ∈ f, K' a = none ∧ s.heap.get? a = none) → Q vs { s with heap := h', toks := tk }) →
    wpAny (model G.prog G.w) A (spliced (backTo pos (starEach es E))) Q (fun _ _ => False) s
theorem EvPL.nil (pos : Pos) : EvPL G n E ρ [] pos [] := fun _ s K _ _ _ R hQ => args_nil (hQ [] s.heap K s.toks [] (.same R.gd.sub) .nil (fun f hf => nomatch hf))
theorem EvPL.cons {e : Expr} {es : List Expr} {pos : Pos} {V : Va} {Vs : List Va} (h : EvP G n E ρ e V) (hs : EvPL G n E ρ es pos Vs) (he : ∀ E, starEach (e :: es) E = (false, eval e E) :: starEach es E) :
    EvPL G n E ρ (e :: es) pos (V :: Vs) := fun A s K fp Q hR R hQ =>
  args_cons (h A s K fp _ hR R fun v h₁ K₁ tk₁ f x₁ d₁ f₁ => hs A _ K₁ fp _ hR (R.ext x₁) fun vs h₂ K₂ tk₂ fs x₂ d₂ f₂ => by
    have lv := d₁.live
    refine hQ (v :: vs) h₂ K₂ tk₂ (f :: fs) (x₁.trans x₂) (.cons (d₁.mono x₂.le fun a _ o q => x₂.keep a o q) d₂ fun a ha g hg ha' => ?_) fun g hg a ha => ?_
    · obtain ⟨us, c, e1⟩ := lv a ha
      rw [show h₁.get? a = none from (f₂ g hg a ha').2] at e1; cases e1
    · cases hg with
      | head =>
        refine ⟨?_, (f₁ a ha).2⟩
        cases q : K₂ a with
        | none => rfl
        | some o =>
          obtain ⟨us, c, e1⟩ := lv a ha
          rcases x₂.new a o q with e | e
          · rw [(f₁ a ha).1] at e; cases e
          · rw [show h₁.get? a = none from e] at e1; cases e1
      | tail _ hg =>
        refine ⟨(f₂ g hg a ha).1, ?_⟩
        cases q : s.heap.get? a with
        | none => rfl
        | some o => have := x₁.keep a o q; rw [show h₁.get? a = none from (f₂ g hg a ha).2] at this; cases this) (he E)

/-- a statement that comes to its end -/
noncomputable def Ex1 (G : Cx) (n : Nat) (E : Env) (ρ : St) (st : Stmt) (ρ' : St) : Prop :=
  ∀ (A : Around) (B : Base) (s : Shared) (K : Fro) (fp : Str → List Addr) (Q : Flow → Shared → Prop), Room n A → Rel G B E s.heap K ρ fp →
    (∀ h' K' fp' tk, Rel G B E h' K' ρ' fp' → Q .next { s with heap := h', toks := tk }) → wpAny (model G.prog G.w) A (exec st E) Q (fun _ _ => False) s
/-- statements: P, where they come to their end; Rt, where they return -/
noncomputable def Ex (G : Cx) (n : Nat) (E : Env) (ρ : St) (ss : List Stmt) (P : St → Prop) (Rt : Dv → St → Prop) : Prop :=
  ∀ (A : Around) (B : Base) (s : Shared) (K : Fro) (fp : Str → List Addr) (Q : Flow → Shared → Prop), Room n A → Rel G B E s.heap K ρ fp →
    (∀ ρ' h' K' fp' tk, P ρ' → Rel G B E h' K' ρ' fp' → Q .next { s with heap := h', toks := tk }) →
    (∀ v d ρ' h' K' fp' tk, Rt d ρ' → Rel G B E h' K' ρ' fp' → Den G.mg K' v d → Q (.ret v) { s with heap := h', toks := tk }) → wpAny (model G.prog G.w) A (execs ss E) Q (fun _ _ => False) s

theorem Ex.nil {P : St → Prop} {Rt : Dv → St → Prop} (h : P ρ) : Ex G n E ρ [] P Rt := fun A B s K fp Q hR R hQ _ => wpAny_execs_nil (hQ ρ s.heap K fp s.toks h R)
theorem Ex.cons {st : Stmt} {rest : List Stmt} {ρ' : St} {P : St → Prop} {Rt : Dv → St → Prop} (h : Ex1 G n E ρ st ρ') (hs : Ex G n E ρ' rest P Rt) : Ex G n E ρ (st :: rest) P Rt := fun A B s K fp Q hR R hQ hr =>
  wpAny_execs_cons (h A B s K fp _ hR R fun h' K' fp' tk R' => hs A B _ K' fp' Q hR R' hQ hr)
theorem Ex.ret {e : Expr} {pos : Pos} {rest : List Stmt} {d : Dv} {P : St → Prop} {Rt : Dv → St → Prop} (h : Ev G n E ρ e d) (hr : Rt d ρ) : Ex G n E ρ (.Return (some e) pos :: rest) P Rt := fun A B s K fp Q hR R _ hQ =>
  wpAny_execs_cons (wpAny_Return_some (h A s K fp _ hR R.e fun v h' K' tk x dv => hQ v d ρ h' K' fp tk hr (R.ext x) dv))
theorem Ex.retF {e : Expr} {pos : Pos} {rest : List Stmt} {d : Dv} {P : St → Prop} {Rt : Dv → St → Prop} (h : Ev G n E (frz ρ) e d) (hr : Rt d (frz ρ)) : Ex G n E ρ (.Return (some e) pos :: rest) P Rt := fun A B s K fp Q hR R _ hQ =>
  wpAny_execs_cons (wpAny_Return_some (h A s _ _ _ hR R.freeze.e fun v h' K' tk x dv => hQ v d (frz ρ) h' K' _ tk hr (R.freeze.ext x) dv))
theorem Ex.freeze {ss : List Stmt} {P : St → Prop} {Rt : Dv → St → Prop} (h : Ex G n E (frz ρ) ss P Rt) : Ex G n E ρ ss P Rt := fun A B s K fp Q hR R hQ hr =>
  h A B s _ _ Q hR R.freeze hQ hr
theorem Ex.mono {ss : List Stmt} {P P' : St → Prop} {Rt Rt' : Dv → St → Prop} (h : Ex G n E ρ ss P Rt) (hP : ∀ ρ, P ρ → P' ρ) (hR' : ∀ d ρ, Rt d ρ → Rt' d ρ) : Ex G n E ρ ss P' Rt' := fun A B s K fp Q hR R hQ hr =>
  h A B s K fp Q hR R (fun ρ' h' K' fp' tk p => hQ ρ' h' K' fp' tk (hP _ p)) (fun v d ρ' h' K' fp' tk p => hr v d ρ' h' K' fp' tk (hR' _ _ p))
theorem Ex.ite {t : Expr} {a b rest : List Stmt} {pos : Pos} {c : Bool} {P : St → Prop} {Rt : Dv → St → Prop} (ht : Tst G n E ρ t c) (Pm : St → Prop)
    (ha : c = true → Ex G n E ρ a Pm Rt) (hb : c = false → Ex G n E ρ b Pm Rt) (hs : ∀ ρ', Pm ρ' → Ex G n E ρ' rest P Rt) : Ex G n E ρ (.If t a b pos :: rest) P Rt := fun A B s K fp Q hR R hQ hr =>
  wpAny_execs_cons (wpAny_If (ht A s K fp _ hR R.e fun h₁ K₁ tk₁ x₁ => by
    cases c with
    | true => exact ha rfl A B _ K₁ fp _ hR (R.ext x₁) (fun ρ' h' K' fp' tk p R' => hs ρ' p A B _ K' fp' Q hR R' hQ hr) hr
    | false => exact hb rfl A B _ K₁ fp _ hR (R.ext x₁) (fun ρ' h' K' fp' tk p R' => hs ρ' p A B _ K' fp' Q hR R' hQ hr) hr))
/-- one arm alone is gone -/
theorem Ex.ifT {t : Expr} {a b rest : List Stmt} {pos : Pos} {P : St → Prop} {Rt : Dv → St → Prop} (ht : Tst G n E ρ t true) (Pm : St → Prop) (ha : Ex G n E ρ a Pm Rt) (hs : ∀ ρ', Pm ρ' → Ex G n E ρ' rest P Rt) :
    Ex G n E ρ (.If t a b pos :: rest) P Rt := .ite ht Pm (fun _ => ha) (fun q => nomatch q) hs
theorem Ex.ifF {t : Expr} {a rest : List Stmt} {pos : Pos} {P : St → Prop} {Rt : Dv → St → Prop} (ht : Tst G n E ρ t false) (hs : Ex G n E ρ rest P Rt) :
    Ex G n E ρ (.If t a [] pos :: rest) P Rt := .ite ht (fun ρ' => ρ' = ρ) (fun q => nomatch q) (fun _ => .nil rfl) (fun ρ' q => q ▸ hs)

/-- one name -/
theorem Ex1.assign {x : Str} {px pos : Pos} {e : Expr} {V : Va} (h : EvP G n E ρ e V) (hx : E.kindOf x = some .local ∨ E.kindOf x = some .cell) (hs : swapsWith e (some (.Name x px)) pos.line E = pure false) :
    Ex1 G n E ρ (.Assign [.Name x px] e pos) (St.set ρ x V) := fun A B s K fp Q hR R hQ =>
  wpAny_Assign_Name (h A s K fp _ hR R.e fun v h₁ K₁ tk₁ fv x₁ d₁ f₁ => by
    refine Rel.store (R.ext x₁) d₁ (fun a ha => (f₁ a ha).1) (fun a ha => ?_) (fun y a ha _ ha' => ?_) hx fun h' tk R' t => hQ h' K₁ _ tk R'
    · cases q : B.h a with
      | none => rfl
      | some o => have := R.keep a o q; rw [(f₁ a ha).2] at this; cases this
    · obtain ⟨us, c, e1⟩ := R.e.live ha'
      rw [(f₁ a ha).2] at e1; cases e1) hs

/-- what one's own values may be stored as -/
structure Pend (G : Cx) (B : Base) (E : Env) (h : Heap) (K : Fro) (fp : Str → List Addr) (vs : List Value) (Vs : List Va) (fs : List (List Addr)) : Prop where
  hv : HVL G K h vs Vs fs
  nk : ∀ f ∈ fs, ∀ a ∈ f, K a = none
  nb : ∀ f ∈ fs, ∀ a ∈ f, B.h a = none
  ap : ∀ f ∈ fs, ∀ a ∈ f, ∀ y, a ∉ fp y

noncomputable def IsStore (E : Env) (t : Value → Sem Unit) (x : Str) : Prop := ∀ {M : Model} {A : Around} {Er : Value → Shared → Prop} {s : Shared} {v : Value} {Q : Unit → Shared → Prop}, wpAny M A (storeName E x v) Q Er s → wpAny M A (t v) Q Er s
inductive Stores (E : Env) : List (Value → Sem Unit) → List Str → Prop
  | nil : Stores E [] []
  | cons {t : Value → Sem Unit} {x : Str} {ts : List (Value → Sem Unit)} {xs : List Str} (h : IsStore E t x) (hs : Stores E ts xs) : Stores E (t :: ts) (x :: xs)
noncomputable def setAll : St → List Str → List Va → St
  | ρ, x :: xs, V :: Vs => setAll (St.set ρ x V) xs Vs
  | ρ, _, _ => ρ
theorem Rel.storeAll {M : Model} {A : Around} {Er : Value → Shared → Prop} : ∀ (ts : List (Value → Sem Unit)) (xs : List Str) (vs : List Value) (Vs : List Va) (fs : List (List Addr)) (ρ : St) (s : Shared) (K : Fro) (fp : Str → List Addr) (Q : Unit → Shared → Prop),
    Rel G B E s.heap K ρ fp → Pend G B E s.heap K fp vs Vs fs → Stores E ts xs → ts.length = Vs.length → (∀ x ∈ xs, E.kindOf x = some .local ∨ E.kindOf x = some .cell) →
    (∀ h' fp' tk, Rel G B E h' K (setAll ρ xs Vs) fp' → Touch E s.heap h' → Q () { s with heap := h', toks := tk }) → wpAny M A (assignInOrder ts vs) Q Er s
  | [], xs, vs, Vs, fs, ρ, s, K, fp, Q, R, P, T, hl, hx, hQ => by
    cases T
    have : Vs = [] := by cases Vs with | nil => rfl | cons _ _ => cases hl
    subst this
    exact assignInOrder_nil (hQ s.heap fp s.toks R (Touch.refl E _))
  | t :: ts, xs, vs, Vs, fs, ρ, s, K, fp, Q, R, P, T, hl, hx, hQ => by
    cases T with | cons ht T =>
    rename_i x xs
    obtain ⟨hv, nk, nb, ap⟩ := P
    cases hv with
    | nil => cases hl
    | cons hv hvs apt =>
      rename_i v V f vs Vs fs
      refine assignInOrder_cons (ht (Rel.store R hv (nk _ (.head _)) (nb _ (.head _)) (fun y a ha _ => ap _ (.head _) a ha y) (hx x (.head _)) fun h' tk R' tch => ?_))
      obtain ⟨m, F, _⟩ := R.e.frm
      have lv := hvs.live
      refine Rel.storeAll ts xs vs Vs fs _ _ K _ Q R' ⟨hvs.mono (Fro.le_refl K) fun g hg a ha o e => tch a o (fun p => ?_) e, fun g hg => nk g (.tail _ hg), fun g hg => nb g (.tail _ hg), fun g hg a ha y => ?_⟩ T (Nat.succ.inj hl) (fun y hy => hx y (.tail _ hy))
        fun h₂ fp' tk' R₂ tch₂ => hQ h₂ fp' tk' R₂ (tch.trans tch₂)
      · obtain ⟨us, c, e1⟩ := lv g hg a ha
        obtain ⟨o', g1, g2⟩ := F.live p
        rw [e1] at g1; cases g1; exact g2 us c rfl
      · by_cases q : y = x
        · simp only [q, if_true]; exact fun ha' => apt a ha' g hg ha
        · simp only [q, if_false]; exact ap g (.tail _ hg) a ha y

theorem isStore_Name (x : Str) (p : Pos) : IsStore E (assign (.Name x p) E) x := fun h => wpAny_assign_Name h
theorem isStore_bind (x : Str) : IsStore E (fun v => bindName E x v) x := fun h => bindName_ h

theorem pend_of {s : Shared} {K : Fro} {fp : Str → List Addr} (R : Rel G B E s.heap K ρ fp) {h₁ h₂ : Heap} {K₁ : Fro} {vs : List Value} {Vs : List Va} {fs : List (List Addr)} (x₁ : Ext s.heap K h₁ K₁) (hv : HVL G K₁ h₁ vs Vs fs)
    (nk : ∀ f ∈ fs, ∀ a ∈ f, K₁ a = none ∧ s.heap.get? a = none) (hk : ∀ a o, h₁.get? a = some o → h₂.get? a = some o) : Pend G B E h₂ K₁ fp vs Vs fs :=
  ⟨hv.mono (Fro.le_refl _) fun f _ a _ o e => hk a o e, fun f hf a ha => (nk f hf a ha).1, (fun f hf a ha => by
    cases q : B.h a with
    | none => rfl
    | some o => have := R.keep a o q; rw [(nk f hf a ha).2] at this; cases this), (fun f hf a ha y ha' => by
    obtain ⟨us, c, e1⟩ := R.e.live ha'
    rw [(nk f hf a ha).2] at e1; cases e1)⟩

/-- a, b = e1, e2: stored in their order -/
theorem Ex1.assignT {elts es : List Expr} {k k' : Nat} {tpos vpos pos : Pos} {xs : List Str} {Vs : List Va} (h : EvPL G n E ρ es vpos Vs) (hlen : es.length = Vs.length ∧ Vs.length ≤ 100)
    (ht : Stores E ((assignEach elts E).map (·.2)) xs) (hl : (assignEach elts E).length = Vs.length) (hstar : (assignEach elts E).findIdx? (·.1) = none)
    (hx : ∀ x ∈ xs, E.kindOf x = some .local ∨ E.kindOf x = some .cell) (hs : swapsWithSole [.Tuple elts k tpos] (.Tuple es k' vpos) pos.line E = pure false)
    (hw : swappedStores [.Tuple elts k tpos] (.Tuple es k' vpos) E = pure none) : Ex1 G n E ρ (.Assign [.Tuple elts k tpos] (.Tuple es k' vpos) pos) (setAll ρ xs Vs) := fun A B s K fp Q hR R hQ => by
  refine Assign_Tuple (Tuple_ (h A s K fp _ hR R.e fun vs h₁ K₁ tk₁ fs x₁ d₁ f₁ => ?_)) hs hw
  have hvl := d₁.length
  refine wpAny_newObj_type ?_ (by show vs.toArray.size ≤ sizeLine; rw [List.size_toArray, sizeLine_eq]; omega)
  have T : IsTup (h₁.push { cls := .type "tuple", data := .seq vs.toArray }) h₁.objs.size vs.toArray := ⟨_, Heap.get?_push_size _ rfl, rfl, 0, rfl⟩
  refine assign_Tuple_tuple (s := { s with heap := h₁.push { cls := .type "tuple", data := .seq vs.toArray }, toks := tk₁ }) hR.hd T (by rw [hl, List.size_toArray, hvl]) hstar fun h₂ e₂ => ?_
  have hk : ∀ a o, h₁.get? a = some o → h₂.get? a = some o := fun a o e => by
    have := Heap.get?_push_of_some { cls := .type "tuple", data := .seq vs.toArray } e
    exact e₂ a o (Nat.ne_of_lt (Heap.lt_size this)) this
  have x₂ : Ext h₁ K₁ h₂ K₁ := .heap x₁.sub hk
  exact Rel.storeAll _ xs vs Vs fs ρ _ K₁ fp _ (R.ext (x₁.trans x₂)) (pend_of R x₁ d₁ f₁ hk) ht (by rw [List.length_map]; exact hl) hx fun h' fp' tk R' _ => hQ h' K₁ fp' tk R'

theorem HVL.append {K : Fro} {h : Heap} {vs us : List Value} {Vs Us : List Va} {fs gs : List (List Addr)} (x : HVL G K h vs Vs fs) (y : HVL G K h us Us gs) (ap : ∀ f ∈ fs, ∀ a ∈ f, ∀ g ∈ gs, a ∉ g) : HVL G K h (vs ++ us) (Vs ++ Us) (fs ++ gs) := by
  induction x with
  | nil => exact y
  | cons x _ apt ih =>
    refine .cons x (ih fun f hf => ap f (.tail _ hf)) fun a ha g hg => ?_
    rcases List.mem_append.mp hg with hg | hg
    · exact apt a ha g hg
    · exact ap _ (.head _) a ha g hg
theorem HVL.reverse {K : Fro} {h : Heap} {vs : List Value} {Vs : List Va} {fs : List (List Addr)} (x : HVL G K h vs Vs fs) : HVL G K h vs.reverse Vs.reverse fs.reverse := by
  induction x with
  | nil => exact .nil
  | cons x xs apt ih =>
    simp only [List.reverse_cons]
    exact ih.append (.cons x .nil (fun _ _ _ hg => nomatch hg)) fun f hf a ha g hg ha' => by
      obtain rfl := List.mem_singleton.mp hg
      exact apt a ha' f (List.mem_reverse.mp hf) ha
/-- a, b = e1, e2 where the stores are swapped -/
theorem Ex1.assignS {elts es : List Expr} {k k' : Nat} {tpos vpos pos : Pos} {xs : List Str} {Vs : List Va} (h : EvPL G n E ρ es vpos Vs) (hlen : es.length = Vs.length ∧ Vs.length ≤ 100)
    (hl : xs.length = Vs.length) (hx : ∀ x ∈ xs, E.kindOf x = some .local ∨ E.kindOf x = some .cell) (hs : swapsWithSole [.Tuple elts k tpos] (.Tuple es k' vpos) pos.line E = pure false)
    (hw : swappedStores [.Tuple elts k tpos] (.Tuple es k' vpos) E = pure (some xs)) : Ex1 G n E ρ (.Assign [.Tuple elts k tpos] (.Tuple es k' vpos) pos) (setAll ρ xs.reverse Vs.reverse) := fun A B s K fp Q hR R hQ => by
  refine Assign_Tuple_swapped (Tuple_ (h A s K fp _ hR R.e fun vs h₁ K₁ tk₁ fs x₁ d₁ f₁ => ?_)) hs hw
  have hvl := d₁.length
  refine wpAny_newObj_type ?_ (by show vs.toArray.size ≤ sizeLine; rw [List.size_toArray, sizeLine_eq]; omega)
  have T : IsTup (h₁.push { cls := .type "tuple", data := .seq vs.toArray }) h₁.objs.size vs.toArray := ⟨_, Heap.get?_push_size _ rfl, rfl, 0, rfl⟩
  rw [show xs.length = vs.toArray.size by rw [hl, List.size_toArray, hvl]]
  refine unpackItems_tuple (s := { s with heap := h₁.push { cls := .type "tuple", data := .seq vs.toArray }, toks := tk₁ }) hR.hd T fun h₂ e₂ => ?_
  have hk : ∀ a o, h₁.get? a = some o → h₂.get? a = some o := fun a o e => by
    have := Heap.get?_push_of_some { cls := .type "tuple", data := .seq vs.toArray } e
    exact e₂ a o (Nat.ne_of_lt (Heap.lt_size this)) this
  have x₂ : Ext h₁ K₁ h₂ K₁ := .heap x₁.sub hk
  have P := pend_of R x₁ d₁ f₁ hk
  have hT : ∀ l : List Str, Stores E (l.map fun x => bindName E x) l := fun l => by
    induction l with
    | nil => exact .nil
    | cons x l ih => exact .cons (isStore_bind x) ih
  refine Rel.storeAll (xs.reverse.map fun x => bindName E x) xs.reverse vs.reverse Vs.reverse fs.reverse ρ _ K₁ fp _ (R.ext (x₁.trans x₂)) ⟨P.hv.reverse, fun f hf => P.nk f (List.mem_reverse.mp hf), fun f hf => P.nb f (List.mem_reverse.mp hf), fun f hf => P.ap f (List.mem_reverse.mp hf)⟩
    (hT _) (by simp [hl]) (fun x hx' => hx x (List.mem_reverse.mp hx')) fun h' fp' tk R' _ => hQ h' K₁ fp' tk R'

theorem HVL.ofDen {K : Fro} {h : Heap} {vs : List Value} {ds : List Dv} : DenL G.mg K vs ds → HVL G K h vs (ds.map .fr) (ds.map fun _ => [])
  | .nil => .nil
  | .cons x xs => .cons (.fr x) (HVL.ofDen xs) (fun _ ha => nomatch ha)
/-- a, b = call(..) -/
theorem Ex1.assignV {elts : List Expr} {k : Nat} {tpos pos : Pos} {e : Expr} {xs : List Str} {ds : List Dv} (h : Ev G n E ρ e (.tup ds))
    (ht : Stores E ((assignEach elts E).map (·.2)) xs) (hl : (assignEach elts E).length = ds.length) (hstar : (assignEach elts E).findIdx? (·.1) = none)
    (hx : ∀ x ∈ xs, E.kindOf x = some .local ∨ E.kindOf x = some .cell) (hs : swapsWithSole [.Tuple elts k tpos] e pos.line E = pure false)
    (hw : swappedStores [.Tuple elts k tpos] e E = pure none) : Ex1 G n E ρ (.Assign [.Tuple elts k tpos] e pos) (setAll ρ xs (ds.map .fr)) := fun A B s K fp Q hR R hQ => by
  refine Assign_Tuple (h A s K fp _ hR R.e fun v h₁ K₁ tk₁ x₁ d₁ => ?_) hs hw
  cases d₁ with | tup e₁ L₁ =>
  rename_i a vs c
  have hvl := L₁.length
  refine assign_Tuple_tuple (s := { s with heap := h₁, toks := tk₁ }) hR.hd ((R.ext x₁).e.gd.tup e₁) (by rw [hl, List.size_toArray, hvl]) hstar fun h₂ e₂ => ?_
  have hk : ∀ a o, h₁.get? a = some o → h₂.get? a = some o := fun a o e => e₂ a o (Nat.ne_of_lt (Heap.lt_size e)) e
  have x₂ : Ext h₁ K₁ h₂ K₁ := .heap x₁.sub hk
  have e0 : ∀ f ∈ ds.map (fun _ : Dv => ([] : List Addr)), f = [] := fun f hf => by obtain ⟨_, _, rfl⟩ := List.mem_map.mp hf; rfl
  refine Rel.storeAll _ xs vs (ds.map .fr) (ds.map fun _ => []) ρ _ K₁ fp _ (R.ext (x₁.trans x₂)) ⟨HVL.ofDen L₁, fun f hf a ha => ?_, fun f hf a ha => ?_, fun f hf a ha => ?_⟩ ht (by simp [hl]) hx fun h' fp' tk R' _ => hQ h' K₁ fp' tk R'
  all_goals (rw [e0 f hf] at ha; cases ha)

/-- x op= e -/
theorem Ex1.aug {x : Str} {px pos : Pos} {op : Operator} {e : Expr} {a b c : Dv} (hv : ρ.lookup x = some (.fr a)) (h : Ev G n E ρ e b) (ho : Op2 G (inplaceOp op) a b c) (hx : E.kindOf x = some .local) :
    Ex1 G n E ρ (.AugAssign (.Name x px) op e pos) (St.set ρ x (.fr c)) := fun A B s K fp Q hR R hQ => by
  obtain ⟨m, Fm, hm⟩ := R.e.frm
  obtain ⟨v, h1, h2⟩ := hm x _ hv
  obtain ⟨ml, g1, g2⟩ := Fm.ns
  refine wpAny_AugAssign_Name (wpAny_loadName_local Fm.kind hx g1 ((g2 x hx).trans h1) ?_)
  refine h A s K fp _ hR R.e fun vb h₁ K₁ tk₁ x₁ d₁ => ho A _ K₁ v vb _ hR.zero (R.ext x₁).e.gd (h2.inv.mono x₁.le) d₁ fun w h₂ K₂ tk₂ x₂ d₂ => ?_
  exact Rel.store (fv := []) (R.ext (x₁.trans x₂)) (.fr d₂) (fun _ ha => nomatch ha) (fun _ ha => nomatch ha) (fun _ _ ha => nomatch ha) (.inl hx) fun h' tk R' _ => hQ h' K₂ _ tk R'
end
end Mine

end PartB6
section PartB7
open PySem PySem.Calls PyProof.Rows PySem.W
set_option Elab.async false
set_option maxRecDepth 100000
set_option autoImplicit false
set_option linter.unusedVariables false
namespace Mine

section
variable {G : Cx} {n : Nat} {E : Env} {ρ : St} {B : Base}

theorem St.lookup_set_self (x : Str) (V : Va) (ρ : St) : (St.set ρ x V).lookup x = some V := by rw [St.lookup_set]; simp

/-- one's own object at a is changed -/
theorem Rel.mut {h h' : Heap} {K : Fro} {fp : Str → List Addr} {x : Str} {a : Addr} {V' : Va} (R : Rel G B E h K ρ fp) (ha : a ∈ fp x) (hs : Heap.SameBut a h h')
    (hV : ∀ v V, HV G K h v V (fp x) → ρ.lookup x = some V → HV G K h' v V' (fp x)) : Rel G B E h' K (St.set ρ x V') fp := by
  obtain ⟨m, F, hm⟩ := R.e.frm
  have hK := R.e.notK x a ha
  have hkeep : ∀ b o, h.get? b = some o → b ≠ a → h'.get? b = some o := fun b o e q => hs.extBut b o q e
  have np := R.e.notPrv ha
  refine ⟨⟨⟨fun b o e => hkeep b o (R.e.gd.base b o e) fun q => ?_, fun b o e => hkeep b o (R.e.gd.sub b o e) fun q => ?_, R.e.gd.cst⟩, ⟨m, F.keepsP fun b p o e => hkeep b o e fun q => np (q ▸ p), fun y V e => ?_⟩, fun y e => ?_, R.e.disj, R.e.notK⟩,
    R.prvK, fun b o e => hkeep b o (R.keep b o e) fun q => ?_, R.ownB, R.prvB, R.kle, R.knew, R.base⟩
  · have := R.base b o e; rw [q, R.ownB x a ha] at this; cases this
  · rw [q, hK] at e; cases e
  · rw [St.lookup_set] at e
    by_cases q : y = x
    · subst q
      simp only [if_true] at e; cases e
      cases z : ρ.lookup y with
      | none => have := R.e.emp y z; rw [this] at ha; cases ha
      | some V₀ =>
        obtain ⟨v, h1, h2⟩ := hm y V₀ z
        exact ⟨v, h1, hV v V₀ h2 z⟩
    · simp only [q, if_false] at e
      obtain ⟨v, h1, h2⟩ := hm y V e
      exact ⟨v, h1, h2.mono (Fro.le_refl K) fun b hb o e => hkeep b o e fun z => q (R.e.disj y x a (z ▸ hb) ha)⟩
  · rw [St.lookup_set] at e
    by_cases q : y = x
    · simp [q] at e
    · simp only [q, if_false] at e; exact R.e.emp y e
  · rw [q, R.ownB x a ha] at e; cases e

theorem Rel.get {h : Heap} {K : Fro} {fp : Str → List Addr} (R : Rel G B E h K ρ fp) {x : Str} {V : Va} (e : ρ.lookup x = some V) : ∃ m v, Frm E h m ∧ m x = some v ∧ HV G K h v V (fp x) :=
  let ⟨m, F, hm⟩ := R.e.frm; let ⟨v, h1, h2⟩ := hm x V e; ⟨m, v, F, h1, h2⟩

/-- names that may be read -/
noncomputable def Named (E : Env) (x : Str) : Prop := (E.kindOf x = some .local ∨ E.kindOf x = some .cell ∨ E.kindOf x = some .free) ∧ (x == ("__debug__" : Str)) = false ∧ (x == ("__classdict__" : Str)) = false

/-- x.append(e) -/
theorem Ex1.append {x : Str} {xp apos cpos pos : Pos} {e : Expr} {ds : List Dv} {d : Dv} (hv : ρ.lookup x = some (.own ds)) (hx : Named E x) (h : Ev G n E ρ e d) (hsz : ds.length ≤ 2 ^ 20)
    (hbase : attributeBase (.Name x xp) "append" E (eval (.Name x xp) E) = eval (.Name x xp) E)
    (hfew : ((backTo cpos (starEach [e] E)).all (fun x => !x.1) && (backToKw cpos (keywordEach [] E)).all (fun x => x.1.isSome) && decide ([e].length + ([] : List Keyword).length + (if ([] : List Keyword).isEmpty then 0 else 1) < 30)) = true)
    (hline : (apos.endLine == cpos.line) = true) (ht : backTo cpos (starEach [e] E) = [(false, eval e E)]) (hi : interactive E = false)
    (hs : swapsWith (.Call (.Attribute (.Name x xp) "append" apos) [e] [] cpos) none pos.line E = pure false) :
    Ex1 G n E ρ (.Expr (.Call (.Attribute (.Name x xp) "append" apos) [e] [] cpos) pos) (St.set ρ x (.own (ds ++ [d]))) := fun A B s K fp Q hR R hQ => by
  obtain ⟨m, v, Fm, h1, h2⟩ := R.get hv
  obtain ⟨a, rfl, hfp, vs₀, c₀, e₀, L₀⟩ := h2.inv_own
  refine wpAny_Expr_any (wpAny_Call_method (T := "list") (id := "list.append") hbase hfew hline F.plainAttrs_list F.slot_list_append (by kernel_rfl) (Fm.load rfl hx.1 h1 ⟨⟨_, e₀, rfl⟩, fun b hb => by cases hb; exact ⟨_, e₀, rfl⟩, ?_⟩ hx.2.1 hx.2.2)) hi hs
  rw [ht]
  refine P.append_list (h A s K fp _ hR R.e fun w h₁ K₁ tk₁ x₁ d₁ => ?_)
  have e1 := x₁.keep _ _ e₀
  have hl := L₀.length
  refine ⟨vs₀.toArray, c₀, by rw [List.size_toArray, sizeLine_eq]; omega, e1, ?_⟩
  have R1 := R.ext x₁
  refine hQ _ K₁ fp tk₁ (R1.mut (x := x) (a := a) (by rw [hfp]; exact List.mem_singleton.mpr rfl) (Heap.SameBut.update ..) fun u V hV hV' => ?_)
  rw [hv] at hV'; cases hV'
  obtain ⟨a', rfl, hfp', vs, c, e2, L⟩ := hV.inv_own
  rw [hfp] at hfp'
  obtain rfl : a = a' := by simpa using hfp'
  rw [e1] at e2
  obtain ⟨rfl⟩ : vs₀ = vs := by injection e2 with e2; injection e2 with _ _ e2; injection e2 with e2 _; simpa using e2
  rw [hfp]
  refine .own ⟨vs₀ ++ [w], c₀ + 1, ?_, (L₀.mono x₁.le).append (.cons d₁ .nil)⟩
  rw [Heap.get?_update_self _ e1 rfl]
  simp [Obj.mapSeq]

/-- a store into one's own list -/
theorem assign_item {x : Str} {xp spos : Pos} {ie : Expr} {ds : List Dv} {d : Dv} {k : Int} {i : Nat} {A : Around} {s : Shared} {K : Fro} {fp : Str → List Addr} {w : Value} {Q : Unit → Shared → Prop}
    (hv : ρ.lookup x = some (.own ds)) (hx : Named E x) (hi : Ev G n E ρ ie (.int k)) (hk : k = (i : Int)) (hi' : i < ds.length) (hsz : ds.length ≤ 2 ^ 20) (hR : Room n A) (R : Rel G B E s.heap K ρ fp) (dw : Den G.mg K w d)
    (hQ : ∀ h' K' tk, Rel G B E h' K' (St.set ρ x (.own (ds.set i d))) fp → Ext s.heap K h' K' ∨ Fro.le K K' → Fro.le K K' → Q () { s with heap := h', toks := tk }) :
    wpAny (model G.prog G.w) A (assign (.Subscript (.Name x xp) ie spos) E w) Q (fun _ _ => False) s := by
  obtain ⟨m, v, Fm, h1, h2⟩ := R.get hv
  obtain ⟨a, rfl, hfp, vs₀, c₀, e₀, L₀⟩ := h2.inv_own
  rw [assign_Subscript]
  refine wpAny_bind (wpAny_holding (Fm.load rfl hx.1 h1 ?_ hx.2.1 hx.2.2))
  refine wpAny_bind (wpAny_holding (hi A s K fp _ hR R.e fun vi h₁ K₁ tk₁ x₁ d₁ => ?_))
  cases d₁ with | int _ t =>
  have e1 := x₁.keep _ _ e₀
  have hl := L₀.length
  refine wpAny_bind (wpAny_standAt (wpAny_bind (wpAny_holding (ki_setAt e1 (by omega) (by omega) (by rw [List.size_toArray]; omega) ?_))))
  have R1 := R.ext x₁
  have key := R1.mut (x := x) (a := a) (V' := .own (ds.set i d)) (h' := h₁.update a (Obj.mapSeq (·.setIfInBounds k.toNat w))) (by rw [hfp]; exact List.mem_singleton.mpr rfl) (Heap.SameBut.update ..) fun u V hV hV' => by
    rw [hv] at hV'; cases hV'
    obtain ⟨a', rfl, hfp', vs, c, e2, L⟩ := hV.inv_own
    rw [hfp] at hfp'
    obtain rfl : a = a' := by simpa using hfp'
    rw [e1] at e2
    obtain ⟨rfl⟩ : vs₀ = vs := by injection e2 with e2; injection e2 with _ _ e2; injection e2 with e2 _; simpa using e2
    rw [hfp]
    refine .own ⟨vs₀.set i w, c₀, ?_, (L₀.mono x₁.le).set (dw.mono x₁.le) i⟩
    rw [Heap.get?_update_self _ e1 rfl, hk]
    simp [Obj.mapSeq]
  have fin := hQ _ K₁ tk₁ key (.inr x₁.le) x₁.le
  exact fun Γ p hΓ => by rw [Sem.wp_release]; exact fin

/-- x[i] = e -/
theorem Ex1.setItem {x : Str} {xp spos pos : Pos} {ie e : Expr} {ds : List Dv} {d : Dv} {k : Int} {i : Nat} (hv : ρ.lookup x = some (.own ds)) (hx : Named E x) (h : Ev G n E ρ e d) (hi : Ev G n E ρ ie (.int k)) (hk : k = (i : Int)) (hi' : i < ds.length)
    (hsz : ds.length ≤ 2 ^ 20) (hs : swapsWith e (some (.Subscript (.Name x xp) ie spos)) pos.line E = pure false) : Ex1 G n E ρ (.Assign [.Subscript (.Name x xp) ie spos] e pos) (St.set ρ x (.own (ds.set i d))) := fun A B s K fp Q hR R hQ => by
  rw [exec_Assign_Subscript _ _ _ _ _ hs]
  refine wpAny_bind (wpAny_standAt (wpAny_bind (h A s K fp _ hR R.e fun w h₁ K₁ tk₁ x₁ d₁ => wpAny_bind ?_)))
  exact assign_item hv hx hi hk hi' hsz hR (R.ext x₁) d₁ fun h' K' tk R' _ _ => wpAny_pure (hQ h' K' fp tk R')

/-- x[i], x[j] = e, e' -/
theorem Ex1.swap {x : Str} {xp xp' sp sp' tpos vpos pos : Pos} {k0 k1 : Nat} {ie ie' e e' : Expr} {ds : List Dv} {d d' : Dv} {k k' : Int} {i i' : Nat} (hv : ρ.lookup x = some (.own ds)) (hx : Named E x) (h : Ev G n E ρ (.Tuple [e, e'] k1 vpos) (.tup [d, d']))
    (hi : Ev G n E ρ ie (.int k)) (hk : k = (i : Int)) (hi1 : i < ds.length) (hi' : Ev G n E (St.set ρ x (.own (ds.set i d))) ie' (.int k')) (hk' : k' = (i' : Int)) (hi1' : i' < ds.length) (hsz : ds.length ≤ 2 ^ 20)
    (hs : swapsWithSole [.Tuple [.Subscript (.Name x xp) ie sp, .Subscript (.Name x xp') ie' sp'] k0 tpos] (.Tuple [e, e'] k1 vpos) pos.line E = pure false)
    (hw : swappedStores [.Tuple [.Subscript (.Name x xp) ie sp, .Subscript (.Name x xp') ie' sp'] k0 tpos] (.Tuple [e, e'] k1 vpos) E = pure none) :
    Ex1 G n E ρ (.Assign [.Tuple [.Subscript (.Name x xp) ie sp, .Subscript (.Name x xp') ie' sp'] k0 tpos] (.Tuple [e, e'] k1 vpos) pos) (St.set (St.set ρ x (.own (ds.set i d))) x (.own ((ds.set i d).set i' d'))) := fun A B s K fp Q hR R hQ => by
  refine Assign_Tuple (h A s K fp _ hR R.e fun v h₁ K₁ tk₁ x₁ d₁ => ?_) hs hw
  cases d₁ with | tup e₁ L₁ =>
  obtain ⟨v1, v2, rfl, g1, g2⟩ := L₁.two
  refine assign_Tuple_tuple (s := { s with heap := h₁, toks := tk₁ }) hR.hd ((R.ext x₁).e.gd.tup e₁) rfl rfl fun h₂ e₂ => ?_
  have hk₂ : ∀ a o, h₁.get? a = some o → h₂.get? a = some o := fun a o e => e₂ a o (Nat.ne_of_lt (Heap.lt_size e)) e
  have x₂ : Ext h₁ K₁ h₂ K₁ := .heap x₁.sub hk₂
  have R2 := R.ext (x₁.trans x₂)
  show wpAny _ A (assignInOrder [PySem.assign (.Subscript (.Name x xp) ie sp) E, PySem.assign (.Subscript (.Name x xp') ie' sp') E] [v1, v2]) _ _ _
  refine assignInOrder_cons (assign_item hv hx hi hk hi1 hsz hR R2 g1 fun h₃ K₃ tk₃ R3 _ le3 => ?_)
  refine assignInOrder_cons (assign_item (St.lookup_set_self ..) hx hi' hk' (by rw [List.length_set]; exact hi1') (by rw [List.length_set]; exact hsz) hR R3 (g2.mono le3) fun h₄ K₄ tk₄ R4 _ le4 => ?_)
  exact assignInOrder_nil (hQ h₄ K₄ fp tk₄ R4)

theorem OwnsAt.get {K : Fro} {h : Heap} {as : List Addr} {dss : List (List Dv)} (x : OwnsAt G K h as dss) : ∀ (i : Nat) (ds : List Dv), dss[i]? = some ds → ∃ a : Addr, as[i]? = some a ∧ OwnAt G K h a ds := by
  induction x with
  | nil => intro i ds e; simp at e
  | cons x _ ih => intro i ds e; cases i with
    | zero => simp at e; subst e; exact ⟨_, rfl, x⟩
    | succ i => simpa using ih i ds (by simpa using e)
theorem OwnsAt.length {K : Fro} {h : Heap} {as : List Addr} {dss : List (List Dv)} (x : OwnsAt G K h as dss) : as.length = dss.length := by
  induction x with
  | nil => rfl
  | cons _ _ ih => simp [ih]
theorem OwnsAt.set {K : Fro} {h h' : Heap} {as : List Addr} {dss : List (List Dv)} (x : OwnsAt G K h as dss) : as.Nodup → ∀ (i : Nat) (a : Addr) (ds' : List Dv), as[i]? = some a → OwnAt G K h' a ds' → (∀ b ∈ as, b ≠ a → ∀ o, h.get? b = some o → h'.get? b = some o) → OwnsAt G K h' as (dss.set i ds') := by
  induction x with
  | nil => intro _ i a ds' e; simp at e
  | cons x xs ih =>
    intro nd i a ds' e hn hk
    rw [List.nodup_cons] at nd
    cases i with
    | zero =>
      simp at e; subst e
      exact .cons hn (xs.mono (Fro.le_refl K) fun b hb o q => hk b (.tail _ hb) (fun z => nd.1 (z ▸ hb)) o q)
    | succ i =>
      have ha : a ∈ _ := List.mem_of_getElem? (by simpa using e)
      refine .cons (x.mono (Fro.le_refl K) fun o q => hk _ (.head _) (fun z => nd.1 (z ▸ ha)) o q) (ih nd.2 i a ds' (by simpa using e) hn fun b hb => hk b (.tail _ hb))

/-- x[i][j] = e, both lists one's own -/
theorem Ex1.setItem2 {x : Str} {xp sp1 spos pos : Pos} {ie je e : Expr} {dss : List (List Dv)} {ds : List Dv} {d : Dv} {k l : Int} {i j : Nat} (hv : ρ.lookup x = some (.own2 dss)) (hx : Named E x) (h : Ev G n E ρ e d)
    (hi : Ev G n E ρ ie (.int k)) (hk : k = (i : Int)) (hds : dss[i]? = some ds) (hj : Ev G n E ρ je (.int l)) (hl : l = (j : Int)) (hj' : j < ds.length) (hsz : ds.length ≤ 2 ^ 20) (hsz' : dss.length ≤ 2 ^ 20)
    (hsub : ∀ l u, subscripted ie false (.ref l) (.int k u) = operate [.ref l, .int k u] (getItem (.ref l) (.int k u)))
    (hs : swapsWith e (some (.Subscript (.Subscript (.Name x xp) ie sp1) je spos)) pos.line E = pure false) :
    Ex1 G n E ρ (.Assign [.Subscript (.Subscript (.Name x xp) ie sp1) je spos] e pos) (St.set ρ x (.own2 (dss.set i (ds.set j d)))) := fun A B s K fp Q hR R hQ => by
  rw [exec_Assign_Subscript _ _ _ _ _ hs]
  refine wpAny_bind (wpAny_standAt (wpAny_bind (h A s K fp _ hR R.e fun w h₁ K₁ tk₁ x₁ dw => wpAny_bind ?_)))
  have R1 := R.ext x₁
  obtain ⟨m, v, Fm, h1, h2⟩ := R1.get hv
  obtain ⟨a, as, c, rfl, hfp, e₀, xs, nd⟩ := h2.inv_own2
  obtain ⟨b, hb, vs₀, c₀, eb, L₀⟩ := xs.get i ds hds
  have hbm : b ∈ as := List.mem_of_getElem? hb
  have hil : i < as.length := (List.getElem?_eq_some_iff.mp hb).1
  have hl0 := L₀.length
  have hba : b ≠ a := fun z => (List.nodup_cons.mp nd).1 (z ▸ hbm)
  rw [assign_Subscript]
  refine wpAny_bind (wpAny_holding (Subscript_ (Fm.load rfl hx.1 h1 (hi A _ K₁ fp _ hR R1.e fun vi h₂ K₂ tk₂ x₂ d₂ => ?_) hx.2.1 hx.2.2)))
  cases d₂ with | int _ t =>
  have ea := x₂.keep _ _ e₀
  have la : h₂.IsList a (as.map Value.ref).toArray := ⟨_, ea, rfl, c, rfl⟩
  refine tail_any (Heap.IsList.typeIs (s := { s with heap := h₂, toks := tk₂ }) la) slot_list_getitem.lookup (wpAny_getItem_list (s := { s with heap := h₂, toks := tk₂ }) (x := .ref b) la (by omega) (by have := xs.length; omega) (by subst hk; simp [hb]) ?_) (hsub _ _)
  have R2 := R1.ext x₂
  refine wpAny_bind (wpAny_holding (hj A _ K₂ fp _ hR R2.e fun vj h₃ K₃ tk₃ x₃ d₃ => ?_))
  cases d₃ with | int _ t' =>
  have R3 := R2.ext x₃
  have eb3 := x₃.keep _ _ (x₂.keep _ _ eb)
  have ea3 := x₃.keep _ _ ea
  refine wpAny_bind (wpAny_standAt (wpAny_bind (wpAny_holding (ki_setAt eb3 (by omega) (by omega) (by rw [List.size_toArray]; omega) ?_))))
  have key := R3.mut (x := x) (a := b) (V' := .own2 (dss.set i (ds.set j d))) (h' := h₃.update b (Obj.mapSeq (·.setIfInBounds l.toNat w))) (by rw [hfp]; exact .tail _ hbm) (Heap.SameBut.update ..) fun u V hV hV' => by
    rw [hv] at hV'; cases hV'
    obtain ⟨a', as', c', rfl, hfp', e4, xs', nd'⟩ := hV.inv_own2
    rw [hfp] at hfp'
    obtain ⟨rfl, rfl⟩ : a = a' ∧ as = as' := by simpa using hfp'
    rw [hfp]
    refine .own2 (n := c) ?_ (xs'.set (List.nodup_cons.mp nd).2 i b _ hb ⟨vs₀.set j w, c₀, ?_, ((L₀.mono x₂.le).mono x₃.le).set ((dw.mono x₂.le).mono x₃.le) j⟩ fun b' hb' q o e => ?_) nd
    · exact (Heap.get?_update_other h₃ _ hba).trans ea3
    · rw [Heap.get?_update_self _ eb3 rfl, hl]
      simp [Obj.mapSeq]
    · exact (Heap.get?_update_other h₃ _ (Ne.symm q)).trans e
  have fin := hQ _ K₃ fp tk₃ key
  exact fun Γ p hΓ => by rw [Sem.wp_release]; exact wpAny_pure fin
end
end Mine

end PartB7
section PartB8
open PySem PySem.Calls PyProof.Rows PySem.W
set_option Elab.async false
set_option maxRecDepth 100000
set_option autoImplicit false
set_option linter.unusedVariables false
namespace Mine

theorem lift {α : Type} {M : Model} {A : Around} {t : Sem α} {Q : α → Shared → Prop} {Er : Value → Shared → Prop} {s : Shared} (h : wpAny M A t Q (fun _ _ => False) s) : wpAny M A t Q Er s := wpAny_mono h (fun _ _ x => x) fun _ _ f => f.elim

section
variable {G : Cx} {n : Nat} {E : Env} {ρ : St} {B : Base}

/-- the words of ρ' are words of ρ -/
noncomputable def Sub (ρ' ρ : St) : Prop := ∀ x V, ρ'.lookup x = some V → ρ.lookup x = some V
theorem Sub.refl (ρ : St) : Sub ρ ρ := fun _ _ e => e
theorem Sub.nil (ρ : St) : Sub [] ρ := fun _ _ e => by cases e
theorem Sub.cons {x : Str} {V : Va} {ρ' ρ : St} (h : ρ.lookup x = some V) (hs : Sub ρ' ρ) : Sub ((x, V) :: ρ') ρ := fun y W e => by
  by_cases q : y = x
  · subst q; simp at e; subst e; exact h
  · have : (y == x) = false := beq_eq_false_iff_ne.mpr q
    rw [List.lookup_cons, this] at e; exact hs y W e

theorem RelE.weak {h : Heap} {K : Fro} {fp : Str → List Addr} {ρ' : St} (R : RelE G E h K ρ fp) (hs : Sub ρ' ρ) : RelE G E h K ρ' (fun x => if ρ'.lookup x = none then [] else fp x) := by
  obtain ⟨m, F, hm⟩ := R.frm
  refine ⟨R.gd, ⟨m, F, fun x V e => ?_⟩, fun x e => by simp [e], fun x y a h1 h2 => ?_, fun x a ha => ?_⟩
  · have : ¬ ρ'.lookup x = none := by rw [e]; exact fun q => nomatch q
    simp only [this, if_false]
    exact hm x V (hs x V e)
  · split at h1
    · cases h1
    · split at h2
      · cases h2
      · exact R.disj x y a h1 h2
  · split at ha
    · cases ha
    · exact R.notK x a ha
theorem Rel.weak {h : Heap} {K : Fro} {fp : Str → List Addr} {ρ' : St} (R : Rel G B E h K ρ fp) (hs : Sub ρ' ρ) : Rel G B E h K ρ' (fun x => if ρ'.lookup x = none then [] else fp x) :=
  ⟨R.e.weak hs, R.prvK, R.keep, (fun x a ha => by
    split at ha
    · cases ha
    · exact R.ownB x a ha), R.prvB, R.kle, R.knew, R.base⟩
theorem Ex.weak {ss : List Stmt} {ρ' : St} {P : St → Prop} {Rt : Dv → St → Prop} (h : Ex G n E ρ' ss P Rt) (hs : Sub ρ' ρ) : Ex G n E ρ ss P Rt := fun A B s K fp Q hR R hQ hr => h A B s K _ Q hR (R.weak hs) hQ hr

open Classical in
theorem Rel.rebase {h : Heap} {K : Fro} {fp : Str → List Addr} (R : Rel G B E h K ρ fp) : ∃ B' : Base, Rel G B' E h K ρ fp ∧ B'.K = K ∧ (∀ a o, h.get? a = some o → (∀ x, a ∉ fp x) → ¬ Prv E a → B'.h a = some o) ∧
    (∀ h' K' ρ' fp', Rel G B' E h' K' ρ' fp' → Rel G B E h' K' ρ' fp') := by
  refine ⟨⟨fun a => if (∃ x, a ∈ fp x) ∨ Prv E a then none else h.get? a, K⟩, ⟨R.e, R.prvK, fun a o e => ?_, fun x a ha => if_pos (.inl ⟨x, ha⟩), fun a p => if_pos (.inr p), Fro.le_refl K, fun a o e => .inl e, fun a o e => ?_⟩, rfl, fun a o e h1 h2 => ?_, fun h' K' ρ' fp' R' => ?_⟩
  · by_cases q : (∃ x, a ∈ fp x) ∨ Prv E a
    · simp only [q, if_true] at e; cases e
    · simp only [q, if_false] at e; exact e
  · have eb := R.base a o e
    have : ¬ ((∃ x, a ∈ fp x) ∨ Prv E a) := fun q => by
      rcases q with ⟨x, hx⟩ | p
      · rw [R.ownB x a hx] at eb; cases eb
      · rw [R.prvB a p] at eb; cases eb
    simp only [this, if_false]; exact R.keep a o eb
  · have : ¬ ((∃ x, a ∈ fp x) ∨ Prv E a) := fun q => by
      rcases q with ⟨x, hx⟩ | p
      · exact h1 x hx
      · exact h2 p
    simp only [this, if_false]; exact e
  · have up : ∀ a o, B.h a = some o → (if (∃ x, a ∈ fp x) ∨ Prv E a then none else h.get? a) = some o := fun a o e => by
      have : ¬ ((∃ x, a ∈ fp x) ∨ Prv E a) := fun q => by
        rcases q with ⟨x, hx⟩ | p
        · rw [R.ownB x a hx] at e; cases e
        · rw [R.prvB a p] at e; cases e
      simp only [this, if_false]; exact R.keep a o e
    have dn : ∀ a, (if (∃ x, a ∈ fp x) ∨ Prv E a then none else h.get? a) = none → B.h a = none := fun a e => by
      cases q : B.h a with
      | none => rfl
      | some o => rw [up a o q] at e; cases e
    refine ⟨R'.e, R'.prvK, fun a o e => R'.keep a o (up a o e), fun x a ha => dn a (R'.ownB x a ha), R.prvB, R.kle.trans R'.kle, fun a o e => ?_, R.base⟩
    rcases R'.knew a o e with q | q
    · exact R.knew a o q
    · exact .inr (dn a q)

/-- a change of objects that are no one's -/
theorem Rel.outside {h h' : Heap} {K : Fro} {fp : Str → List Addr} {wr : List Addr} (R : Rel G B E h K ρ fp) (hk : ∀ b o, b ∉ wr → h.get? b = some o → h'.get? b = some o)
    (h1 : ∀ b ∈ wr, K b = none) (h2 : ∀ b ∈ wr, B.h b = none) (h3 : ∀ b ∈ wr, ∀ x, b ∉ fp x) (h4 : ∀ b ∈ wr, ¬ Prv E b) : Rel G B E h' K ρ fp := by
  obtain ⟨m, F, hm⟩ := R.e.frm
  refine ⟨⟨⟨fun a o e => hk a o (fun q => ?_) (R.e.gd.base a o e), fun a o e => hk a o (fun q => by rw [h1 a q] at e; cases e) (R.e.gd.sub a o e), R.e.gd.cst⟩, ⟨m, F.keepsP fun a p o e => hk a o (fun q => h4 a q p) e, fun x V e => ?_⟩, R.e.emp, R.e.disj, R.e.notK⟩, R.prvK, fun a o e => hk a o (fun q => by rw [h2 a q] at e; cases e) (R.keep a o e), R.ownB, R.prvB, R.kle, R.knew, R.base⟩
  · have := R.base a o e; rw [h2 a q] at this; cases this
  · obtain ⟨v, g1, g2⟩ := hm x V e
    exact ⟨v, g1, g2.mono (Fro.le_refl K) fun a ha o e => hk a o (fun q => h3 a q x ha) e⟩

/-- what a for's target takes -/
noncomputable def Asg (G : Cx) (n : Nat) (E : Env) (ρ : St) (t : Expr) (d : Dv) (ρ1 : St) : Prop :=
  ∀ (A : Around) (B : Base) (s : Shared) (K : Fro) (fp : Str → List Addr) (v : Value) (Q : Unit → Shared → Prop), Room n A → Rel G B E s.heap K ρ fp → Den G.mg K v d →
    (∀ h' fp' tk, Rel G B E h' K ρ1 fp' → Touch E s.heap h' → (∀ x a, a ∈ fp' x → a ∈ fp x) → Q () { s with heap := h', toks := tk }) → wpAny (model G.prog G.w) A (assign t E v) Q (fun _ _ => False) s
theorem Asg.name {x : Str} {p : Pos} {d : Dv} (hx : E.kindOf x = some .local ∨ E.kindOf x = some .cell) : Asg G n E ρ (.Name x p) d (St.set ρ x (.fr d)) := fun A B s K fp v Q hR R hd hQ =>
  wpAny_assign_Name (Rel.store (fv := []) R (.fr hd) (fun _ ha => nomatch ha) (fun _ ha => nomatch ha) (fun _ _ ha => nomatch ha) hx fun h' tk R' t => hQ h' _ tk R' t fun y a ha => by
    by_cases q : y = x
    · simp only [q, if_true] at ha; cases ha
    · simp only [q, if_false] at ha; exact ha)
theorem Asg.pair {x y : Str} {p q tp : Pos} {k : Nat} {d e : Dv} (hx : E.kindOf x = some .local ∨ E.kindOf x = some .cell) (hy : E.kindOf y = some .local ∨ E.kindOf y = some .cell) :
    Asg G n E ρ (.Tuple [.Name x p, .Name y q] k tp) (.tup [d, e]) (St.set (St.set ρ x (.fr d)) y (.fr e)) := fun A B s K fp v Q hR R hd hQ => by
  cases hd with | tup e₁ L₁ =>
  obtain ⟨v1, v2, rfl, g1, g2⟩ := L₁.two
  refine assign_Tuple_tuple hR.hd (R.e.gd.tup e₁) rfl rfl fun h₂ e₂ => ?_
  have hk₂ : ∀ a o, s.heap.get? a = some o → h₂.get? a = some o := fun a o e => e₂ a o (Nat.ne_of_lt (Heap.lt_size e)) e
  have R2 := R.ext (.heap R.e.gd.sub hk₂)
  show wpAny _ A (assignInOrder [assign (.Name x p) E, assign (.Name y q) E] [v1, v2]) _ _ _
  refine assignInOrder_cons (Asg.name hx A B _ K fp v1 _ hR R2 g1 fun h₃ fp₃ tk₃ R3 t3 s3 => ?_)
  refine assignInOrder_cons (Asg.name hy A B _ K fp₃ v2 _ hR R3 g2 fun h₄ fp₄ tk₄ R4 t4 s4 => assignInOrder_nil (hQ h₄ fp₄ tk₄ R4 (fun a o np e => t4 a o np (t3 a o np (hk₂ a o e))) fun z a ha => s3 z a (s4 z a ha)))

/-- what a for runs over: N turns; it i is the i-th -/
noncomputable def EvI (G : Cx) (n : Nat) (E : Env) (ρ : St) (iter : Expr) (N : Nat) (it : Nat → Dv) (tp : Prop) : Prop :=
  ∀ (A : Around) (s : Shared) (K : Fro) (fp : Str → List Addr) (Q : Value → Shared → Prop), Room n A → RelE G E s.heap K ρ fp →
    (∀ I ifp wr P St h' K' tk, Ext s.heap K h' K' → Walks G.prog G.w A I ifp wr N P St → St 0 h' → (∀ i h, St i h → ∀ b ∈ ifp, ∃ o, h.get? b = some o) → (∀ b ∈ wr, s.heap.get? b = none ∧ K' b = none) → (∀ b ∈ ifp, b ∈ wr ∨ ∃ o, K' b = some o) →
      (∀ i v, P i v → Den G.mg K' v (it i)) →
      (tp → ∀ (elts : List Expr) (k : Nat) (pos : Pos) (i : Nat) (b : Addr) (s : Shared) (Q : Unit → Shared → Prop) (Er : Value → Shared → Prop), St i s.heap → Q () s → wpAny (model G.prog G.w) A (letOwnedTupleGo (.Tuple elts k pos) (.ref I) (.ref b)) Q Er s) →
      Q (.ref I) { s with heap := h', toks := tk }) →
    wpAny (model G.prog G.w) A (eval iter E) (fun x s₁ => wpAny (model G.prog G.w) A (pyIter x) Q (fun _ _ => False) s₁) (fun _ _ => False) s

theorem Ex.for_ {target iter : Expr} {body rest : List Stmt} {pos : Pos} {N : Nat} {it : Nat → Dv} {tp : Prop} {P : St → Prop} {Rt : Dv → St → Prop} (J : Nat → St) (Iv : Nat → Prop) (hI : EvI G n E ρ iter N it tp) (hv0 : Iv 0)
    (htg : (∀ v I, letOwnedTupleGo target (.ref I) v = pure ()) ∨ (tp ∧ (∃ elts k p, target = .Tuple elts k p) ∧ ∀ i, i < N → ∃ ds, it i = .tup ds)) (h0 : Sub (J 0) ρ)
    (hb : ∀ i, i < N → Iv i → ∃ ρ1, Asg G n E (J i) target (it i) ρ1 ∧ Ex G n E ρ1 body (fun ρ' => Sub (J (i + 1)) ρ' ∧ Iv (i + 1)) Rt) (hr : Iv N → Ex G n E (J N) rest P Rt) (hs : ∀ x, foldedSetIterable iter E x = pure x) :
    Ex G n E ρ (.For target iter body [] pos :: rest) P Rt := fun A B s K fp Q hR R hQ hret => by
  refine wpAny_execs_cons (wpAny_For (hI A s K fp _ hR R.e fun I ifp wr PP Sta h₀ K₀ tk₀ x₀ W st₀ lv₀ wr₀ ik₀ dn₀ lg₀ => ?_) hs)
  have R₀ := (R.ext x₀).weak h0
  have notOwn : ∀ b ∈ ifp, ∀ x, b ∉ (fun x => if (J 0).lookup x = none then [] else fp x) x := fun b hb x hx => by
    dsimp only at hx
    split at hx
    · cases hx
    · rcases ik₀ b hb with q | ⟨o, q⟩
      · obtain ⟨us, c, e⟩ := R.e.live hx; rw [(wr₀ b q).1] at e; cases e
      · rw [(R.ext x₀).e.notK x b hx] at q; cases q
  have notPrv : ∀ b ∈ ifp, ¬ Prv E b := fun b hb p => by
    rcases ik₀ b hb with q | ⟨o, q⟩
    · obtain ⟨m, F, _⟩ := R.e.frm
      obtain ⟨o, e, _⟩ := F.live p; rw [(wr₀ b q).1] at e; cases e
    · rw [(R.ext x₀).prvK b p] at q; cases q
  have wrB : ∀ b ∈ wr, B.h b = none := fun b hb => by
    cases q : B.h b with
    | none => rfl
    | some o => have := R.keep b o q; rw [(wr₀ b hb).1] at this; cases this
  refine codeAny_forLoop_any (fun k s' => ∃ i h K' fp' tk, s' = { s with heap := h, toks := tk } ∧ k = N - i ∧ i ≤ N ∧ Rel G B E h K' (J i) fp' ∧ Sta i h ∧ (∀ b ∈ wr, K' b = none) ∧ (∀ b ∈ ifp, ∀ x, b ∉ fp' x) ∧ Fro.le K₀ K' ∧ Iv i)
    ?_ N ⟨0, h₀, K₀, _, tk₀, rfl, rfl, Nat.zero_le _, R₀, st₀, fun b hb => (wr₀ b hb).2, notOwn, Fro.le_refl _, hv0⟩
  rintro k s' ⟨i, h, K', fp', tk, rfl, rfl, hi, R', st, wk, no, le, hv⟩
  by_cases hlt : i < N
  · obtain ⟨ρ1, hasg, hbody⟩ := hb i hlt hv
    refine lift (W.item i _ _ _ hlt st fun v h₁ tk₁ hP st₁ k₁ => ?_)
    have R₁ := R'.outside k₁ wk wrB (fun b hb => no b (W.sub b hb)) (fun b hb => notPrv b (W.sub b hb))
    have hd := (dn₀ i v hP).mono le
    have go : ∀ (Q' : Unit → Shared → Prop) (Er : Value → Shared → Prop), Q' () { s with heap := h₁, toks := tk₁ } → wpAny (model G.prog G.w) A (letOwnedTupleGo target (.ref I) v) Q' Er { s with heap := h₁, toks := tk₁ } := by
      intro Q' Er hq
      rcases htg with e | ⟨htp, ⟨elts, kk, p, rfl⟩, ht⟩
      · rw [e]; exact wpAny_pure hq
      · obtain ⟨ds, e⟩ := ht i hlt
        rw [e] at hd
        cases hd
        exact lg₀ htp elts kk p (i + 1) _ _ Q' Er st₁ hq
    refine go _ _ ?_
    refine lift (hasg A B _ K' fp' v _ hR R₁ hd fun h₂ fp₂ tk₂ R₂ t₂ s₂ => ?_)
    have st₂ : Sta (i + 1) h₂ := W.frame _ _ _ st₁ fun b hb o e => t₂ b o (notPrv b hb) e
    have no₂ : ∀ b ∈ ifp, ∀ x, b ∉ fp₂ x := fun b hb x hx => no b hb x (s₂ x b hx)
    obtain ⟨B', RB, eK, up, back⟩ := R₂.rebase
    have upI : ∀ b ∈ ifp, ∃ o, B'.h b = some o ∧ h₂.get? b = some o := fun b hb => by
      obtain ⟨o, e⟩ := lv₀ _ _ st₂ b hb
      exact ⟨o, up b o e (no₂ b hb) (notPrv b hb), e⟩
    refine lift (hbody A B' _ K' fp₂ _ hR RB (fun ρ' h₃ K₃ fp₃ tk₃ hP₃ R₃ => ?_) fun w d ρ' h₃ K₃ fp₃ tk₃ hRt R₃ hd₃ => hret w d ρ' h₃ K₃ fp₃ tk₃ hRt (back _ _ _ _ R₃) hd₃)
    refine ⟨N - (i + 1), by omega, i + 1, h₃, K₃, _, tk₃, rfl, rfl, hlt, (back _ _ _ _ R₃).weak hP₃.1, W.frame _ _ _ st₂ fun b hb o e => ?_, fun b hb => ?_, fun b hb x hx => ?_, le.trans (eK ▸ R₃.kle), hP₃.2⟩
    · obtain ⟨o', e1, e2⟩ := upI b hb
      rw [e2] at e; obtain rfl := Option.some.inj e
      exact R₃.keep b _ e1
    · cases q : K₃ b with
      | none => rfl
      | some o =>
        obtain ⟨o', e1, e2⟩ := upI b (W.sub b hb)
        rcases R₃.knew b o q with e | e
        · rw [eK, wk b hb] at e; cases e
        · rw [e1] at e; cases e
    · have hx' : b ∈ (if (J (i + 1)).lookup x = none then [] else fp₃ x) := hx
      split at hx'
      · cases hx'
      · obtain ⟨o', e1, e2⟩ := upI b hb
        rw [R₃.ownB x b hx'] at e1; cases e1
  · have hiN : i = N := by omega
    subst hiN
    refine lift (W.done _ _ _ st fun h₁ tk₁ k₁ => ?_)
    have R₁ := R'.outside k₁ wk wrB (fun b hb => no b (W.sub b hb)) (fun b hb => notPrv b (W.sub b hb))
    exact wpAny_execs_nil (hr hv A B _ K' fp' Q hR R₁ hQ hret)
end
end Mine

end PartB8
section PartB9
open PySem PySem.Calls PyProof.Rows PySem.W
set_option Elab.async false
set_option maxRecDepth 100000
set_option autoImplicit false
set_option linter.unusedVariables false
namespace Mine

section
variable {G : Cx} {n : Nat} {E : Env} {ρ : St} {B : Base}

theorem live_back {h h₁ : Heap} {a : Addr} (hk : ∀ a o, h.get? a = some o → h₁.get? a = some o) (e : h₁.get? a = none) : h.get? a = none := by
  cases q : h.get? a with
  | none => rfl
  | some o => rw [hk a o q] at e; cases e

theorem EvI.list {e : Expr} {ds : List Dv} (h : Ev G n E ρ e (.lst ds)) : EvI G n E ρ e ds.length (fun i => ds.getD i .none) True := fun A s K fp Q hR R hQ => by
  refine h A s K fp _ hR R fun v h₁ K₁ tk₁ x₁ d₁ => ?_
  cases d₁ with | lst e₁ L₁ =>
  rename_i a vs c
  have g := (R.ext x₁).gd
  have hl := L₁.length
  have la := g.list e₁
  have alt : a < h₁.objs.size := Heap.lt_size (g.sub _ _ e₁)
  have hsz : vs.toArray.size = ds.length := by rw [List.size_toArray, hl]
  refine wpAny_pyIter_list (s := { s with heap := h₁, toks := tk₁ }) la ?_
  refine hQ h₁.objs.size [h₁.objs.size, a] [h₁.objs.size] _ _ _ K₁ tk₁ (x₁.trans (.heap x₁.sub fun _ _ q => Heap.get?_push_of_some _ q)) (hsz ▸ Walks.list hR.hd h₁.objs.size a (Nat.ne_of_lt alt) vs.toArray)
    ⟨⟨_, Heap.get?_push_size _ rfl, rfl, rfl⟩, la.push _⟩ (fun i h st b hb => ?_) (fun b hb => ?_) (fun b hb => ?_) (fun i v hv => ?_) (fun _ elts k pos i b s Q Er st hq => wpAny_letOwnedTupleGo_listiter st.1 hq)
  · rcases List.mem_cons.mp hb with rfl | hb
    · exact ⟨_, st.1.choose_spec.1⟩
    · obtain rfl := List.mem_singleton.mp hb; exact ⟨_, st.2.choose_spec.1⟩
  · obtain rfl := List.mem_singleton.mp hb
    exact ⟨live_back x₁.keep (get_size_none _), none_of_new x₁.sub (get_size_none _)⟩
  · rcases List.mem_cons.mp hb with rfl | hb
    · exact .inl (.head _)
    · obtain rfl := List.mem_singleton.mp hb; exact .inr ⟨_, e₁⟩
  · have hv' : vs[i]? = some v := by simpa using hv
    have hi : i < ds.length := by rw [← hl]; exact (List.getElem?_eq_some_iff.mp hv').1
    obtain ⟨v', g1, g2⟩ := L₁.get i (List.getElem?_eq_getElem hi)
    rw [hv'] at g1; cases g1
    simpa [List.getD, List.getElem?_eq_getElem hi] using g2

theorem EvI.tuple {e : Expr} {ds : List Dv} (h : Ev G n E ρ e (.tup ds)) : EvI G n E ρ e ds.length (fun i => ds.getD i .none) False := fun A s K fp Q hR R hQ => by
  refine h A s K fp _ hR R fun v h₁ K₁ tk₁ x₁ d₁ => ?_
  cases d₁ with | tup e₁ L₁ =>
  rename_i a vs c
  have g := (R.ext x₁).gd
  have hl := L₁.length
  have la : h₁.IsTuple a vs.toArray := g.tup e₁
  have alt : a < h₁.objs.size := Heap.lt_size (g.sub _ _ e₁)
  have hsz : vs.toArray.size = ds.length := by rw [List.size_toArray, hl]
  refine wpAny_pyIter_tuple (s := { s with heap := h₁, toks := tk₁ }) la ?_
  refine hQ h₁.objs.size [h₁.objs.size, a] [h₁.objs.size] _ _ _ K₁ tk₁ (x₁.trans (.heap x₁.sub fun _ _ q => Heap.get?_push_of_some _ q)) (hsz ▸ Walks.tuple hR.hd h₁.objs.size a (Nat.ne_of_lt alt) vs.toArray)
    ⟨⟨_, Heap.get?_push_size _ rfl, rfl, rfl⟩, la.push _⟩ (fun i h st b hb => ?_) (fun b hb => ?_) (fun b hb => ?_) (fun i v hv => ?_) (fun f => f.elim)
  · rcases List.mem_cons.mp hb with rfl | hb
    · exact ⟨_, st.1.choose_spec.1⟩
    · obtain rfl := List.mem_singleton.mp hb; exact ⟨_, st.2.choose_spec.1⟩
  · obtain rfl := List.mem_singleton.mp hb
    exact ⟨live_back x₁.keep (get_size_none _), none_of_new x₁.sub (get_size_none _)⟩
  · rcases List.mem_cons.mp hb with rfl | hb
    · exact .inl (.head _)
    · obtain rfl := List.mem_singleton.mp hb; exact .inr ⟨_, e₁⟩
  · have hv' : vs[i]? = some v := by simpa using hv
    have hi : i < ds.length := by rw [← hl]; exact (List.getElem?_eq_some_iff.mp hv').1
    obtain ⟨v', g1, g2⟩ := L₁.get i (List.getElem?_eq_getElem hi)
    rw [hv'] at g1; cases g1
    simpa [List.getD, List.getElem?_eq_getElem hi] using g2

/-- what holds of a range's object -/
theorem range_iter {A : Around} {s : Shared} {K K₁ : Fro} {h₁ h₂ : Heap} {tk : Nat} {Q : Value → Shared → Prop} {a b c : Int} {t u v : Tok} {r : Addr} {N : Nat} (hR : Room n A) (x₁ : Ext s.heap K h₁ K₁)
    (hr : IsRange h₂ r a b c t u v) (hk : ∀ b o, h₁.get? b = some o → h₂.get? b = some o) (hsm : Builtin.Range.small a b c = true) (hN : Builtin.Range.rangeSize a b c = (N : Int))
    (hQ : ∀ I ifp wr P St h' K' tk, Ext s.heap K h' K' → Walks G.prog G.w A I ifp wr N P St → St 0 h' → (∀ i h, St i h → ∀ b ∈ ifp, ∃ o, h.get? b = some o) → (∀ b ∈ wr, s.heap.get? b = none ∧ K' b = none) → (∀ b ∈ ifp, b ∈ wr ∨ ∃ o, K' b = some o) →
      (∀ i v, P i v → Den G.mg K' v (.int (a + i * c))) →
      (False → ∀ (elts : List Expr) (k : Nat) (pos : Pos) (i : Nat) (b : Addr) (s : Shared) (Q : Unit → Shared → Prop) (Er : Value → Shared → Prop), St i s.heap → Q () s → wpAny (model G.prog G.w) A (letOwnedTupleGo (.Tuple elts k pos) (.ref I) (.ref b)) Q Er s) →
      Q (.ref I) { s with heap := h', toks := tk }) :
    wpAny (model G.prog G.w) A (pyIter (.ref r)) Q (fun _ _ => False) { s with heap := h₂, toks := tk } := by
  have x₂ : Ext h₁ K₁ h₂ K₁ := .heap x₁.sub hk
  refine wpAny_pyIter_range (s := { s with heap := h₂, toks := tk }) hr hsm ?_
  refine hQ h₂.objs.size [h₂.objs.size] [h₂.objs.size] _ _ _ K₁ tk ((x₁.trans x₂).trans (.heap x₂.sub fun _ _ q => Heap.get?_push_of_some _ q)) (Walks.range hR.hd h₂.objs.size a c N) ?_ (fun i h st b hb => ?_) (fun b hb => ?_) (fun b hb => ?_) (fun i v hv => ?_) (fun f => f.elim)
  · show IsRangeIter _ _ _ _ _
    have := Heap.get?_push_size h₂ (o := { cls := .type "range_iterator", data := .fields #[rawInt a, rawInt (Builtin.Range.rangeSize a b c), rawInt c] }) rfl
    rw [hN] at this
    simpa [IsRangeIter, hN] using this
  · obtain rfl := List.mem_singleton.mp hb; exact ⟨_, st⟩
  · obtain rfl := List.mem_singleton.mp hb
    exact ⟨live_back x₁.keep (live_back hk (get_size_none _)), none_of_new x₂.sub (get_size_none _)⟩
  · exact .inl hb
  · obtain ⟨t, rfl⟩ := hv; exact .int _ _

theorem small_m1 {a b : Int} (ha : -(2 ^ 61) ≤ a) (ha' : a < 2 ^ 61) (hb : -(2 ^ 61) ≤ b) (hb' : b < 2 ^ 61) : Builtin.Range.small a b (-1) = true := by
  have : Builtin.Range.rangeSize a b (-1) = if a > b then a - b else 0 := by
    unfold Builtin.Range.rangeSize
    simp only [show ¬ (-1 : Int) > 0 by decide, if_false, show (- -1 : Int) = 1 by decide, Int.ediv_one]
    split <;> omega
  unfold Builtin.Range.small
  rw [this]
  simp only [Builtin.Range.rangeFitsLong, Bool.and_eq_true, Bool.or_eq_true, decide_eq_true_eq, beq_iff_eq, show ¬ (-1 : Int) > 0 by decide, if_false]
  split <;> omega

theorem EvI.range1 {x : Str} {p pos : Pos} {e : Expr} {k : Int} {N : Nat} (h : Ev G n E ρ e (.int k)) (hN : k = (N : Int)) (hb : N < 2 ^ 60) (hx : E.kindOf x = some .globalImplicit) (hbo : bootBuiltins x = some (.type "range")) (hn : x ≠ "__name__") (hm : G.mg x = none)
    (hst : ∀ E, starEach [e] E = [(false, eval e E)]) (hd : (x == ("__debug__" : Str)) = false) : EvI G n E ρ (.Call (.Name x p) [e] [] pos) N (fun i => .int i) False := fun A s K fp Q hR R hQ => by
  obtain ⟨m, F, _⟩ := R.frm
  refine Call_Name rfl (Name_function_global F.kind hx (loadGlobal_builtin (F.glob ▸ R.gd.top.g) hm (F.bt ▸ R.gd.top.b) ((R.gd.top.builtins x hn).trans hbo) ?_) hd)
  refine callWith_type1 (args_cons (h A s K fp _ hR R fun v h₁ K₁ tk₁ x₁ d₁ => args_nil ?_) (hst E)) (hst E) rfl
  cases d₁ with | int _ t =>
  refine call_range_1 ?_
  refine range_iter (s := s) (N := N) (a := 0) (b := k) (c := 1) (h₂ := h₁.push _) hR x₁ (Heap.get?_push_size _ rfl) (fun _ _ q => Heap.get?_push_of_some _ q) (small_one (by omega) (by omega) (by omega) (by omega)) (by rw [rangeSize_one]; split <;> omega) ?_
  intro I ifp wr P St h' K' tk x W st0 lv wr0 ik dn lg
  exact hQ I ifp wr P St h' K' tk x W st0 lv wr0 ik (fun i v hv => by have := dn i v hv; simpa using this) lg
theorem EvI.range2 {x : Str} {p pos : Pos} {e e' : Expr} {a b : Int} {N : Nat} (h : Ev G n E ρ e (.int a)) (h' : Ev G n E ρ e' (.int b)) (hN : (b - a).toNat = N) (hb : -(2 ^ 61) ≤ a ∧ a < 2 ^ 61 ∧ -(2 ^ 61) ≤ b ∧ b < 2 ^ 61) (hx : E.kindOf x = some .globalImplicit) (hbo : bootBuiltins x = some (.type "range")) (hn : x ≠ "__name__") (hm : G.mg x = none)
    (hst : ∀ E, starEach [e, e'] E = (false, eval e E) :: starEach [e'] E) (hst' : ∀ E, starEach [e'] E = [(false, eval e' E)]) (hd : (x == ("__debug__" : Str)) = false) : EvI G n E ρ (.Call (.Name x p) [e, e'] [] pos) N (fun i => .int (a + i)) False := fun A s K fp Q hR R hQ => by
  obtain ⟨m, F, _⟩ := R.frm
  refine Call_Name rfl (Name_function_global F.kind hx (loadGlobal_builtin (F.glob ▸ R.gd.top.g) hm (F.bt ▸ R.gd.top.b) ((R.gd.top.builtins x hn).trans hbo) ?_) hd)
  refine callWith_type1 (args_cons (h A s K fp _ hR R fun v h₁ K₁ tk₁ x₁ d₁ => args_cons (h' A _ K₁ fp _ hR (R.ext x₁) fun v' h₂ K₂ tk₂ x₂ d₂ => args_nil ?_) (hst' E)) (hst E)) (hst E) (by rw [hst' E]; rfl)
  cases d₁ with | int _ t => cases d₂ with | int _ t' =>
  refine call_range_2 ?_
  refine range_iter (s := s) (N := N) (a := a) (b := b) (c := 1) (h₂ := h₂.push _) hR (x₁.trans x₂) (Heap.get?_push_size _ rfl) (fun _ _ q => Heap.get?_push_of_some _ q) (small_one (by omega) (by omega) (by omega) (by omega)) (by rw [rangeSize_one]; split <;> omega) ?_
  intro I ifp wr P St h' K' tk x W st0 lv wr0 ik dn lg
  exact hQ I ifp wr P St h' K' tk x W st0 lv wr0 ik (fun i v hv => by have := dn i v hv; simpa using this) lg
theorem EvI.range3 {x : Str} {p pos : Pos} {e e' e'' : Expr} {a b : Int} {N : Nat} (h : Ev G n E ρ e (.int a)) (h' : Ev G n E ρ e' (.int b)) (h'' : Ev G n E ρ e'' (.int (-1))) (hN : (a - b).toNat = N) (hb : -(2 ^ 61) ≤ a ∧ a < 2 ^ 61 ∧ -(2 ^ 61) ≤ b ∧ b < 2 ^ 61) (hx : E.kindOf x = some .globalImplicit) (hbo : bootBuiltins x = some (.type "range")) (hn : x ≠ "__name__") (hm : G.mg x = none)
    (hst : ∀ E, starEach [e, e', e''] E = (false, eval e E) :: starEach [e', e''] E) (hst' : ∀ E, starEach [e', e''] E = (false, eval e' E) :: starEach [e''] E) (hst'' : ∀ E, starEach [e''] E = [(false, eval e'' E)]) (hd : (x == ("__debug__" : Str)) = false) : EvI G n E ρ (.Call (.Name x p) [e, e', e''] [] pos) N (fun i => .int (a - i)) False := fun A s K fp Q hR R hQ => by
  obtain ⟨m, F, _⟩ := R.frm
  refine Call_Name rfl (Name_function_global F.kind hx (loadGlobal_builtin (F.glob ▸ R.gd.top.g) hm (F.bt ▸ R.gd.top.b) ((R.gd.top.builtins x hn).trans hbo) ?_) hd)
  refine callWith_type1 (args_cons (h A s K fp _ hR R fun v h₁ K₁ tk₁ x₁ d₁ => args_cons (h' A _ K₁ fp _ hR (R.ext x₁) fun v' h₂ K₂ tk₂ x₂ d₂ => args_cons (h'' A _ K₂ fp _ hR ((R.ext x₁).ext x₂) fun v'' h₃ K₃ tk₃ x₃ d₃ => args_nil ?_) (hst'' E)) (hst' E)) (hst E)) (hst E) (by rw [hst' E, hst'' E]; rfl)
  cases d₁ with | int _ t => cases d₂ with | int _ t' => cases d₃ with | int _ t'' =>
  refine call_range_3 (by decide) ?_ (Or.inl (PyProof.noPylong_small (by decide)))
  have hrs : Builtin.Range.rangeSize a b (-1) = (N : Int) := by
    unfold Builtin.Range.rangeSize
    simp only [show ¬ (-1 : Int) > 0 by decide, if_false, show (- -1 : Int) = 1 by decide, Int.ediv_one]
    split <;> omega
  refine range_iter (s := s) (N := N) (a := a) (b := b) (c := -1) (h₂ := h₃.push _) hR ((x₁.trans x₂).trans x₃) (Heap.get?_push_size _ rfl) (fun _ _ q => Heap.get?_push_of_some _ q) (small_m1 (by omega) (by omega) (by omega) (by omega)) hrs ?_
  intro I ifp wr P St h' K' tk x W st0 lv wr0 ik dn lg
  refine hQ I ifp wr P St h' K' tk x W st0 lv wr0 ik (fun i v hv => ?_) lg
  have := dn i v hv
  rwa [show a + (i : Int) * -1 = a - (i : Int) by omega] at this
end
end Mine

end PartB9
section PartB10
open PySem PySem.Calls PyProof.Rows PySem.W
set_option Elab.async false
set_option maxRecDepth 100000
set_option autoImplicit false
set_option linter.unusedVariables false
namespace Mine

section
variable {G : Cx} {n : Nat} {E : Env} {ρ : St} {B : Base}

theorem Ev.ofP {e : Expr} {V : Va} (h : EvP G n E ρ e V) : Ev G n E ρ e V.dv := fun A s K fp Q hR R hQ =>
  h A s K fp _ hR R fun v h' K' tk fv x hv hf => by
    have hn : ∀ a, a ∈ fv → K' a = none := fun a ha => (hf a ha).1
    refine hQ v h' (K'.take h' (· ∈ fv)) tk ⟨x.keep, x.le.trans (Fro.take_le hn), fun a o e => ?_, fun a o e => ?_⟩ (hv.den hn fun a ha => ha)
    · by_cases p : a ∈ fv
      · rw [Fro.take_of p] at e; exact e
      · rw [Fro.take_not p] at e; exact x.sub a o e
    · by_cases p : a ∈ fv
      · exact .inr (hf a p).2
      · rw [Fro.take_not p] at e; exact x.new a o e

noncomputable def Tsts (G : Cx) (n : Nat) (E : Env) (ρ : St) (ifs : List Expr) (b : Bool) : Prop :=
  ∀ (A : Around) (s : Shared) (K : Fro) (fp : Str → List Addr) (Q : Bool → Shared → Prop), Room n A → RelE G E s.heap K ρ fp →
    (∀ h' K' tk, Ext s.heap K h' K' → Q b { s with heap := h', toks := tk }) →
    wpAny (model G.prog G.w) A (forIn ifs true fun c r => if r = true then do let ok ← isTrue c E (eval c E); pure (ForInStep.yield ok) else pure (ForInStep.yield r)) Q (fun _ _ => False) s
theorem Tsts.nil : Tsts G n E ρ [] true := fun A s K fp Q hR R hQ => by
  rw [List.forIn_nil]; exact wpAny_pure (hQ s.heap K s.toks (.same R.gd.sub))
theorem Tsts.one {c : Expr} {b : Bool} (h : Tst G n E ρ c b) : Tsts G n E ρ [c] b := fun A s K fp Q hR R hQ => by
  rw [List.forIn_cons]
  simp only [if_true]
  refine wpAny_bind (wpAny_bind (h A s K fp _ hR R fun h' K' tk x => wpAny_pure ?_))
  show wpAny _ _ (forIn [] b _) _ _ _
  rw [List.forIn_nil]
  exact wpAny_pure (hQ h' K' tk x)

/-- what a comprehension's block reads of the frame around -/
structure Block (E : Env) (scope : Scope) (cl : List (Str × Addr)) (x : Str) : Prop where
  clos : closureFor scope E = pure cl
  cell : ∀ y ∈ scope.names, y.2 ≠ .cell
  kind : scope.kind = .function
  names : ∀ y ∈ scope.names, y.2 = .local → scope.names.lookup y.1 = some .local
  tgt : scope.names.lookup x = some .local
  cells : ∀ y, ((relabel scope E).names.lookup y = some .cell ∨ (relabel scope E).names.lookup y = some .free) → (E.kindOf y = some .cell ∨ E.kindOf y = some .free) ∧ cl.lookup y = E.cells.lookup y
  sub : ∀ y c, cl.lookup y = some c → E.cells.lookup y = some c

theorem Block.frm {scope : Scope} {cl : List (Str × Addr)} {x : Str} {C : Addr} {h : Heap} {m ml : Str → Option Value} (b : Block E scope cl x) (F : Frm E h m) (hn : h.Ns C ml) :
    Frm (compEnvC scope cl C E) h (fun y => if (relabel scope E).names.lookup y = some .local then ml y else m y) :=
  ⟨⟨ml, hn, fun y hy => by
      have : (relabel scope E).names.lookup y = some .local := hy
      simp [this]⟩, fun y hy => by
      have hy' : (relabel scope E).names.lookup y = some .cell ∨ (relabel scope E).names.lookup y = some .free := hy
      obtain ⟨h1, h2⟩ := b.cells y hy'
      obtain ⟨c, h3, h4⟩ := F.cell y h1
      refine ⟨c, h2.trans h3, ?_⟩
      have : ¬ (relabel scope E).names.lookup y = some .local := fun q => by rcases hy' with z | z <;> (rw [q] at z; cases z)
      simp only [this, if_false]; exact h4, fun y z c h1 h2 => F.apart y z c (b.sub y c h1) (b.sub z c h2), b.kind, F.glob, F.bt⟩

theorem comp_core {elt iter : Expr} {x : Str} {px pos : Pos} {ifs : List Expr} {scope : Scope} {cl : List (Str × Addr)} {N : Nat} {it : Nat → Dv} {ρc : St} {ok : Nat → Bool} {out : Nat → Va} (b : Block E scope cl x)
    (hρ : ∀ y V, ρc.lookup y = some V → y ≠ x ∧ (∃ d, V = .fr d) ∧ ρ.lookup y = some V ∧ ¬ (relabel scope E).names.lookup y = some .local)
    (ht : ∀ i, i < N → ∀ C, Tsts G n (compEnvC scope cl C E) ((x, .fr (it i)) :: ρc) ifs (ok i)) (he : ∀ i, i < N → ok i = true → ∀ C, EvP G n (compEnvC scope cl C E) ((x, .fr (it i)) :: ρc) elt (out i)) (hN : N ≤ 2 ^ 20)
    {A : Around} {sS : Shared} {K₀ : Fro} {fp : Str → List Addr} {I : Addr} {ifp wr : List Addr} {PP : Nat → Value → Prop} {Sta : Nat → Heap → Prop} (hR : Room n A) (R : RelE G E sS.heap K₀ ρ fp) (W : Walks G.prog G.w A I ifp wr N PP Sta)
    (st₀ : Sta 0 sS.heap) (lv₀ : ∀ i h, Sta i h → ∀ b ∈ ifp, ∃ o, h.get? b = some o) (wk₀ : ∀ b ∈ wr, K₀ b = none) (wb₀ : ∀ b ∈ wr, G.h0.get? b = none) (no₀ : ∀ b ∈ wr, ∀ y, b ∉ fp y) (np₀ : ∀ b ∈ wr, ¬ Prv E b)
    (dn₀ : ∀ i v, PP i v → Den G.mg K₀ v (it i)) {RR : Value → Addr → Result → Shared → Prop}
    (hRR : ∀ D C h' K' tk ys Vs fs c ml, (∀ b o, b ∉ wr → sS.heap.get? b = some o → h'.get? b = some o) → Fro.le K₀ K' → (∀ a o, K' a = some o → h'.get? a = some o) → (∀ a o, K' a = some o → K₀ a = some o ∨ sS.heap.get? a = none) →
      sS.heap.get? D = none → sS.heap.get? C = none → D ≠ C → K' D = none → K' C = none → h'.get? D = some (lstObj ys c) → h'.Ns C ml → HVL G K' h' ys Vs fs → Vs = ((List.range N).filter ok).map out →
      (∀ f ∈ fs, ∀ a ∈ f, K' a = none ∧ sS.heap.get? a = none ∧ a ≠ D ∧ a ≠ C) → RR (.ref D) C (.ok .next) { sS with heap := h', toks := tk }) :
    wpAny (model G.prog G.w) A (newList []) (fun acc s₃ => wpAny (model G.prog G.w) A (newFunctionEnv scope E.globals cl [] E.qual none .none (some E)) (fun cenv s₄ =>
      codeAny (model G.prog G.w) A (.compStart (.ListComp elt [⟨.Name x px, iter, ifs, 0⟩] scope pos) 0 (.ref I) acc { cenv with scope := relabel scope E }) (RR acc cenv.locals) s₄) (fun _ _ => False) s₃) (fun _ _ => False) sS := by
  obtain ⟨m, F, hm⟩ := R.frm
  refine wpAny_newObj_type (wpAny_newFunctionEnv b.cell (by intro y hy; simp at hy) (fun h₁ hns₁ hsb₁ => ?_) b.kind)
  dsimp only at hns₁ hsb₁ ⊢
  generalize hH2 : sS.heap.push { cls := .type "list", dict := none, data := .seq ([] : List Value).toArray } = H2 at hns₁ hsb₁ ⊢
  have hC : H2.objs.size = sS.heap.objs.size + 1 := by rw [← hH2, Heap.size_push]
  have hDn : sS.heap.get? sS.heap.objs.size = none := get_size_none _
  have hCn : sS.heap.get? H2.objs.size = none := by rw [hC]; exact get_succ_none _
  have hDC : sS.heap.objs.size ≠ H2.objs.size := by rw [hC]; exact Nat.ne_of_lt (Nat.lt_succ_self _)
  have hD1 : h₁.get? sS.heap.objs.size = some (lstObj [] 0) := hsb₁.extBut _ _ hDC (Heap.get?_push_of_some _ (hH2 ▸ Heap.get?_push_size _ rfl))
  have old : ∀ b o, sS.heap.get? b = some o → h₁.get? b = some o := fun b o e =>
    hsb₁.extBut b o (fun q => by rw [q, hCn] at e; cases e) (Heap.get?_push_of_some _ (hH2 ▸ Heap.get?_push_of_some _ e))
  generalize hDD : sS.heap.objs.size = D at *
  generalize hCC : H2.objs.size = C at *
  have hDk : K₀ D = none := none_of_new R.gd.sub hDn
  have hCk : K₀ C = none := none_of_new R.gd.sub hCn
  have ifpl : ∀ b ∈ ifp, ∃ o, sS.heap.get? b = some o := lv₀ 0 _ st₀
  have hDw : D ∉ ifp := fun q => by obtain ⟨o, e⟩ := ifpl D q; rw [hDn] at e; cases e
  have hCw : C ∉ ifp := fun q => by obtain ⟨o, e⟩ := ifpl C q; rw [hCn] at e; cases e
  have loop : ∀ s₃ : Shared, s₃ = { sS with heap := h₁, toks := sS.toks + ([] : List (Str × Value)).length } →
      codeAny (model G.prog G.w) A (.compLoop (.ListComp elt [⟨.Name x px, iter, ifs, 0⟩] scope pos) 0 (.ref I) (.ref D) (compEnvC scope cl C E)) (RR (.ref D) C) s₃ := by
    rintro s₃ rfl
    refine codeAny_compLoop_tests (fun k s' => ∃ i h K' tk ys Vs fs c ml, s' = { sS with heap := h, toks := tk } ∧ k = N - i ∧ i ≤ N ∧ Sta i h ∧ (∀ b o, b ∉ wr → sS.heap.get? b = some o → h.get? b = some o) ∧ Fro.le K₀ K' ∧
        (∀ a o, K' a = some o → h.get? a = some o) ∧ (∀ a o, K' a = some o → K₀ a = some o ∨ sS.heap.get? a = none) ∧ K' D = none ∧ K' C = none ∧ (∀ b ∈ wr, K' b = none) ∧ h.get? D = some (lstObj ys c) ∧ h.Ns C ml ∧ HVL G K' h ys Vs fs ∧
        Vs = ((List.range i).filter ok).map out ∧ (∀ f ∈ fs, ∀ a ∈ f, K' a = none ∧ sS.heap.get? a = none ∧ a ≠ D ∧ a ≠ C)) ?_ N
      ⟨0, h₁, K₀, _, [], [], [], 0, _, rfl, rfl, Nat.zero_le _, W.frame _ _ _ st₀ (fun b _ o e => old b o e), fun b o _ e => old b o e, Fro.le_refl _, fun a o e => old a o (R.gd.sub a o e), fun a o e => .inl e, hDk, hCk, wk₀, hD1, hns₁, .nil, rfl, fun f hf => nomatch hf⟩
    rintro k s' ⟨i, h, K', tk, ys, Vs, fs, c, ml, rfl, rfl, hi, st, kp, le, sub, new, kD, kC, kw, hD, hns, hvl, hVs, hfs⟩
    have notw : ∀ f ∈ fs, ∀ a ∈ f, a ∉ wr := fun f hf a ha q => by obtain ⟨o, e⟩ := ifpl a (W.sub a q); rw [(hfs f hf a ha).2.1] at e; cases e
    by_cases hlt : i < N
    · refine lift (W.item i _ _ _ hlt st fun v h₂ tk₂ hP st₂ k₂ => ?_)
      have hDwr : D ∉ wr := fun q => hDw (W.sub D q)
      have hCwr : C ∉ wr := fun q => hCw (W.sub C q)
      refine lift (wpAny_assign_Name (wpAny_storeName_local (lookup_relabel_local b.tgt) (hns.at' fun o e => k₂ C o hCwr e) (fun h₃ hn₃ hs₃ => ?_) (by have hk : (compEnvC scope cl C E).scope.kind = .function := b.kind; rw [hk]; rfl)))
      -- the block's own state
      have kp₃ : ∀ b o, b ∉ wr → sS.heap.get? b = some o → h₃.get? b = some o := fun b o q e => hs₃.extBut b o (fun z => by have z' : b = C := z; rw [z', hCn] at e; cases e) (k₂ b o q (kp b o q e))
      have sub₃ : ∀ a o, K' a = some o → h₃.get? a = some o := fun a o e => hs₃.extBut a o (fun z => by have z' : a = C := z; rw [z', kC] at e; cases e) (k₂ a o (fun q => by rw [kw a q] at e; cases e) (sub a o e))
      have base₃ : ∀ a o, G.h0.get? a = some o → h₃.get? a = some o := fun a o e => kp₃ a o (fun q => by rw [wb₀ a q] at e; cases e) (R.gd.base a o e)
      have F₃ : Frm E h₃ m := F.keepsP fun a p o e => kp₃ a o (fun q => np₀ a q p) e
      have RC : RelE G (compEnvC scope cl C E) h₃ K' ((x, .fr (it i)) :: ρc) (fun _ => []) := by
        refine ⟨⟨base₃, sub₃, fun y d e => let ⟨v, g1, g2⟩ := R.gd.cst y d e; ⟨v, g1, g2.mono le⟩⟩, ⟨_, b.frm F₃ hn₃, fun y V e => ?_⟩, fun _ _ => rfl, (fun _ _ _ ha => nomatch ha), (fun _ _ ha => nomatch ha)⟩
        by_cases q : y = x
        · subst q
          simp at e; subst e
          refine ⟨v, ?_, .fr ((dn₀ i v hP).mono le)⟩
          have q : (relabel scope E).names.lookup y = some .local := lookup_relabel_local b.tgt
          show (if (relabel scope E).names.lookup y = some .local then _ else _) = _
          rw [if_pos q]
          simp
        · have : (y == x) = false := beq_eq_false_iff_ne.mpr q
          rw [List.lookup_cons, this] at e
          obtain ⟨_, ⟨d, rfl⟩, g3, g4⟩ := hρ y V e
          obtain ⟨u, g5, g6⟩ := hm y _ g3
          refine ⟨u, ?_, .fr (g6.inv.mono le)⟩
          rw [if_neg g4]; exact g5
      refine lift (ht i hlt C A { sS with heap := h₃, toks := _ } K' _ _ hR RC fun h₄ K₄ tk₄ x₄ => ?_)
      have lD₃ : h₃.get? D = some (lstObj ys c) := hs₃.extBut D _ (fun z => hDC z) (k₂ D _ hDwr hD)
      have lC₃ : ∃ o, h₃.get? C = some o := by obtain ⟨o, _, _, e, _⟩ := hn₃; exact ⟨o, e⟩
      have nw : ∀ (K₅ : Fro) (h₅ : Heap), Ext h₃ K' h₅ K₅ → ∀ a o, h₃.get? a = some o → K' a = none → K₅ a = none := fun K₅ h₅ x a o e kz => by
        cases q : K₅ a with
        | none => rfl
        | some o' =>
          rcases x.new a o' q with z | z
          · rw [kz] at z; cases z
          · rw [show h₃.get? a = none from z] at e; cases e
      have new₃ : ∀ (K₅ : Fro) (h₅ : Heap), Ext h₃ K' h₅ K₅ → (∀ a o, K₅ a = some o → K₀ a = some o ∨ sS.heap.get? a = none) := fun K₅ h₅ x a o e => by
        rcases x.new a o e with z | z
        · exact new a o z
        · refine .inr ?_
          cases q : sS.heap.get? a with
          | none => rfl
          | some o' =>
            by_cases w : a ∈ wr
            · obtain ⟨o'', e''⟩ := lv₀ _ _ (W.frame _ _ h₃ st₂ fun b' hb' o e => hs₃.extBut b' o (fun z => hCw (by have z' : b' = C := z; rw [← z']; exact hb')) e) a (W.sub a w)
              rw [show h₃.get? a = none from z] at e''; cases e''
            · have := kp₃ a o' w q; rw [show h₃.get? a = none from z] at this; cases this
      have lfs : ∀ f ∈ fs, ∀ a ∈ f, ∃ us d, h₃.get? a = some (lstObj us d) := fun f hf a ha => by
        obtain ⟨us, d, e⟩ := hvl.live f hf a ha
        exact ⟨us, d, hs₃.extBut a _ (fun z => (hfs f hf a ha).2.2.2 z) (k₂ a _ (notw f hf a ha) e)⟩
      have hvl₃ : HVL G K' h₃ ys Vs fs := hvl.mono (Fro.le_refl _) fun f hf a ha o e => hs₃.extBut a o (fun z => (hfs f hf a ha).2.2.2 z) (k₂ a o (notw f hf a ha) e)
      have st₃ : Sta (i + 1) h₃ := W.frame _ _ _ st₂ fun b' hb' o e => hs₃.extBut b' o (fun z => hCw (by have z' : b' = C := z; rw [← z']; exact hb')) e
      have kw₅ : ∀ (K₅ : Fro) (h₅ : Heap), Ext h₃ K' h₅ K₅ → ∀ b ∈ wr, K₅ b = none := fun K₅ h₅ x b' hb' => by
        obtain ⟨o, e⟩ := lv₀ _ _ st₃ b' (W.sub b' hb'); exact nw K₅ h₅ x b' o e (kw b' hb')
      cases hok : ok i with
      | false =>
        rw [if_neg (by simp)]
        obtain ⟨oC, eC⟩ := lC₃
        refine ⟨N - (i + 1), by omega, i + 1, h₄, K₄, tk₄, ys, Vs, fs, c, _, rfl, rfl, hlt, W.frame _ _ _ st₃ fun b' _ o e => x₄.keep b' o e, fun b' o q e => x₄.keep b' o (kp₃ b' o q e), le.trans x₄.le, x₄.sub, new₃ _ _ x₄, nw _ _ x₄ D _ lD₃ kD, nw _ _ x₄ C _ eC kC, kw₅ _ _ x₄,
          x₄.keep _ _ lD₃, hn₃.keeps x₄.keep, hvl₃.mono x₄.le (fun f _ a _ o e => x₄.keep a o e), ?_, fun f hf a ha => ?_⟩
        · rw [List.range_succ, List.filter_append, List.map_append, hVs]; simp [hok]
        · obtain ⟨us, d, e⟩ := lfs f hf a ha
          exact ⟨nw _ _ x₄ a _ e (hfs f hf a ha).1, (hfs f hf a ha).2⟩
      | true =>
        rw [if_pos rfl]
        refine lift (he i hlt hok C A { sS with heap := h₄, toks := tk₄ } K₄ _ _ hR (RC.ext x₄) fun w h₅ K₅ tk₅ fw x₅ hw hfw => ?_)
        have x₄₅ : Ext h₃ K' h₅ K₅ := x₄.trans x₅
        have lD₅ := x₄₅.keep _ _ lD₃
        have hyl : ys.length ≤ N := by
          have e1 := hvl.length
          rw [hVs, List.length_map] at e1
          have e2 : ((List.range i).filter ok).length ≤ (List.range i).length := List.length_filter_le _ _
          rw [List.length_range] at e2
          omega
        refine lift (wpAny_list_append_plain (s := { sS with heap := h₅, toks := tk₅ }) ⟨c, lD₅⟩ (fun h₆ hl₆ hs₆ => ?_) (by rw [List.size_toArray, sizeLine_eq]; omega))
        obtain ⟨c', hl₆⟩ := hl₆
        obtain ⟨oC, eC⟩ := lC₃
        have D5 : K₅ D = none := nw _ _ x₄₅ D _ lD₃ kD
        have nD : ∀ a ∈ fw, a ≠ D := fun a ha z => by
          have := (hfw a ha).2
          rw [z] at this
          have e := x₄.keep _ _ lD₃
          rw [show h₄.get? D = none from this] at e; cases e
        have nC : ∀ a ∈ fw, a ≠ C := fun a ha z => by
          have := (hfw a ha).2
          rw [z] at this
          have e := x₄.keep _ _ eC
          rw [show h₄.get? C = none from this] at e; cases e
        have keep6 : ∀ a o, a ≠ D → h₅.get? a = some o → h₆.get? a = some o := fun a o q e => hs₆.extBut a o q e
        refine ⟨N - (i + 1), by omega, i + 1, h₆, K₅, tk₅, ys ++ [w], Vs ++ [out i], fs ++ [fw], c', _, rfl, rfl, hlt, W.frame _ _ _ st₃ fun b' hb' o e => keep6 b' o (fun z => hDw (z ▸ hb')) (x₄₅.keep b' o e), fun b' o q e => keep6 b' o (fun z => by rw [z, hDn] at e; cases e) (x₄₅.keep b' o (kp₃ b' o q e)), le.trans x₄₅.le,
          fun a o e => keep6 a o (fun z => by rw [z, D5] at e; cases e) (x₄₅.sub a o e), new₃ _ _ x₄₅, D5, nw _ _ x₄₅ C _ eC kC, kw₅ _ _ x₄₅, ?_, (hn₃.keeps x₄₅.keep).sameBut hs₆ (Ne.symm hDC), ?_, ?_, ?_⟩
        · rw [hl₆]; simp
        · refine ((hvl₃.mono x₄₅.le fun f hf a ha o e => x₄₅.keep a o e).append (.cons hw .nil (fun _ _ _ hg => nomatch hg)) fun f hf a ha g hg ha' => ?_).mono (Fro.le_refl _) fun f hf a ha o e => keep6 a o (fun z => ?_) e
          · obtain rfl := List.mem_singleton.mp hg
            obtain ⟨us, d, e⟩ := lfs f hf a ha
            have e4 := x₄.keep _ _ e
            rw [show h₄.get? a = none from (hfw a ha').2] at e4; cases e4
          · rcases List.mem_append.mp hf with hf | hf
            · exact (hfs f hf a ha).2.2.1 z
            · obtain rfl := List.mem_singleton.mp hf; exact nD a ha z
        · rw [List.range_succ, List.filter_append, List.map_append, hVs]; simp [hok]
        · intro f hf a ha
          rcases List.mem_append.mp hf with hf | hf
          · obtain ⟨us, d, e⟩ := lfs f hf a ha
            exact ⟨nw _ _ x₄₅ a _ e (hfs f hf a ha).1, (hfs f hf a ha).2⟩
          · obtain rfl := List.mem_singleton.mp hf
            refine ⟨(hfw a ha).1, ?_, nD a ha, nC a ha⟩
            cases q : sS.heap.get? a with
            | none => rfl
            | some o =>
              by_cases z : a ∈ wr
              · obtain ⟨o', e'⟩ := lv₀ _ _ st₃ a (W.sub a z)
                have e4 := x₄.keep _ _ e'
                rw [show h₄.get? a = none from (hfw a ha).2] at e4; cases e4
              · have e4 := x₄.keep _ _ (kp₃ a o z q)
                rw [show h₄.get? a = none from (hfw a ha).2] at e4; cases e4
    · have hiN : i = N := by omega
      subst hiN
      refine lift (W.done _ _ _ st fun h₂ tk₂ k₂ => ?_)
      have hDwr : D ∉ wr := fun q => hDw (W.sub D q)
      have hCwr : C ∉ wr := fun q => hCw (W.sub C q)
      exact hRR D C h₂ K' tk₂ ys Vs fs c ml (fun b' o q e => k₂ b' o q (kp b' o q e)) le (fun a o e => k₂ a o (fun q => by rw [kw a q] at e; cases e) (sub a o e)) new hDn hCn hDC kD kC (k₂ D _ hDwr hD) (hns.at' fun o e => k₂ C o hCwr e)
        (hvl.mono (Fro.le_refl _) fun f hf a ha o e => k₂ a o (notw f hf a ha) e) hVs hfs
  exact codeAny_compStart_list (loop _ rfl) (lift (W.self 0 _ _ _ (W.frame _ _ _ st₀ fun b' _ o e => old b' o e) (loop _ rfl)))
end
end Mine

end PartB10
section PartB11
open PySem PySem.Calls PyProof.Rows PySem.W
set_option Elab.async false
set_option maxRecDepth 100000
set_option autoImplicit false
set_option linter.unusedVariables false
namespace Mine

section
variable {G : Cx} {n : Nat} {E : Env} {ρ : St} {B : Base}

theorem HVL.dens {K : Fro} {h : Heap} : ∀ {ys : List Value} {ds : List Dv} {fs : List (List Addr)}, HVL G K h ys (ds.map .fr) fs → DenL G.mg K ys ds
  | _, [], _, x => by
    generalize hV : List.map Va.fr [] = Vs at x
    cases x with
    | nil => exact .nil
    | cons _ _ _ => cases hV
  | _, d :: ds, _, x => by
    generalize hV : List.map Va.fr (d :: ds) = Vs at x
    cases x with
    | nil => cases hV
    | cons x xs _ =>
      rw [List.map_cons] at hV
      injection hV with h1 h2
      subst h1 h2
      exact .cons x.inv xs.dens
theorem HVL.owns {K : Fro} {h : Heap} : ∀ {ys : List Value} {dss : List (List Dv)} {fs : List (List Addr)}, HVL G K h ys (dss.map .own) fs → ∃ as : List Addr, ys = as.map Value.ref ∧ OwnsAt G K h as dss ∧ as.Nodup ∧ ∀ a ∈ as, ∃ f ∈ fs, a ∈ f
  | _, [], _, x => by
    generalize hV : List.map Va.own [] = Vs at x
    cases x with
    | nil => exact ⟨[], rfl, .nil, List.nodup_nil, fun a ha => nomatch ha⟩
    | cons _ _ _ => cases hV
  | _, d :: ds, _, x => by
    generalize hV : List.map Va.own (d :: ds) = Vs at x
    cases x with
    | nil => cases hV
    | cons x xs ap =>
      rw [List.map_cons] at hV
      injection hV with h1 h2
      subst h1 h2
      obtain ⟨a, rfl, rfl, ho⟩ := x.inv_own
      obtain ⟨as, rfl, hos, nd, hin⟩ := xs.owns
      refine ⟨a :: as, rfl, .cons ho hos, List.nodup_cons.mpr ⟨fun ha => ?_, nd⟩, fun b hb => ?_⟩
      · obtain ⟨f, hf, haf⟩ := hin a ha
        exact ap a (.head _) f hf haf
      · cases hb with
        | head => exact ⟨_, .head _, .head _⟩
        | tail _ hb => obtain ⟨f, hf, haf⟩ := hin b hb; exact ⟨f, .tail _ hf, haf⟩

theorem comp_val {elt iter : Expr} {x : Str} {px pos : Pos} {ifs : List Expr} {scope : Scope} {cl : List (Str × Addr)} {N : Nat} {it : Nat → Dv} {tp : Prop} {ρc : St} {ok : Nat → Bool} {out : Nat → Va} (hI : EvI G n E ρ iter N it tp) (b : Block E scope cl x)
    (hρ : ∀ y V, ρc.lookup y = some V → y ≠ x ∧ (∃ d, V = .fr d) ∧ ρ.lookup y = some V ∧ ¬ (relabel scope E).names.lookup y = some .local)
    (ht : ∀ i, i < N → ∀ C, Tsts G n (compEnvC scope cl C E) ((x, .fr (it i)) :: ρc) ifs (ok i)) (he : ∀ i, i < N → ok i = true → ∀ C, EvP G n (compEnvC scope cl C E) ((x, .fr (it i)) :: ρc) elt (out i)) (hN : N ≤ 2 ^ 20)
    (hs : ∀ x, foldedSetIterable iter E x = pure x) {A : Around} {s : Shared} {K : Fro} {fp : Str → List Addr} {Q : Value → Shared → Prop} (hR : Room n A) (R : RelE G E s.heap K ρ fp)
    (hQ : ∀ D h' K' tk ys Vs fs c, Ext s.heap K h' K' → h'.get? D = some (lstObj ys c) → s.heap.get? D = none → K' D = none → HVL G K' h' ys Vs fs → Vs = ((List.range N).filter ok).map out → (∀ f ∈ fs, ∀ a ∈ f, K' a = none ∧ s.heap.get? a = none ∧ a ≠ D) →
      Q (.ref D) { s with heap := h', toks := tk }) :
    wpAny (model G.prog G.w) A (eval (.ListComp elt [⟨.Name x px, iter, ifs, 0⟩] scope pos) E) Q (fun _ _ => False) s := by
  rw [eval_ListComp]
  refine wpAny_comprehension_free (use := none) rfl hs b.clos b.kind b.names (hI A s K fp _ hR R fun I ifp wr PP Sta h₀ K₀ tk₀ x₀ W st₀ lv₀ wr₀ ik₀ dn₀ lg₀ => ?_)
  have R₀ := R.ext x₀
  obtain ⟨m, F, _⟩ := R.frm
  refine comp_core (sS := { s with heap := h₀, toks := tk₀ }) b hρ ht he hN hR R₀ W st₀ lv₀ (fun b hb => (wr₀ b hb).2) (fun b hb => ?_) (fun b hb y hy => ?_) (fun b hb p => ?_) dn₀ (RR := fun acc C => compPost (model G.prog G.w) A (fun _ _ => False) none Q acc C) fun D C h' K' tk ys Vs fs c ml kp le sub new hDn hCn hDC kD kC hD hns hvl hVs hfs => ?_
  · cases q : G.h0.get? b with
    | none => rfl
    | some o => have := R.gd.base b o q; rw [(wr₀ b hb).1] at this; cases this
  · obtain ⟨us, c, e⟩ := R.live hy; rw [(wr₀ b hb).1] at e; cases e
  · obtain ⟨o, e, _⟩ := F.live p; rw [(wr₀ b hb).1] at e; cases e
  · refine ⟨ml, hns, fun h'' hs'' => ?_⟩
    have keep : ∀ a o, s.heap.get? a = some o → h''.get? a = some o := fun a o e => by
      have e0 := x₀.keep a o e
      refine hs''.extBut a o (fun z => by rw [z] at e0; rw [show h₀.get? C = none from hCn] at e0; cases e0) (kp a o (fun q => by rw [(wr₀ a q).1] at e; cases e) e0)
    have k2 : ∀ a o, a ≠ C → h'.get? a = some o → h''.get? a = some o := fun a o q e => hs''.extBut a o q e
    refine hQ D h'' K' tk ys Vs fs c ⟨keep, x₀.le.trans le, fun a o e => k2 a o (fun z => by rw [z, kC] at e; cases e) (sub a o e), fun a o e => ?_⟩ (k2 D _ hDC hD) (live_back x₀.keep hDn) kD (hvl.mono (Fro.le_refl _) fun f hf a ha o e => k2 a o (hfs f hf a ha).2.2.2 e) hVs
      fun f hf a ha => ⟨(hfs f hf a ha).1, live_back x₀.keep (hfs f hf a ha).2.1, (hfs f hf a ha).2.2.1⟩
    rcases new a o e with z | z
    · exact x₀.new a o z
    · exact .inr (live_back x₀.keep z)

theorem EvP.comp {elt iter : Expr} {x : Str} {px pos : Pos} {ifs : List Expr} {scope : Scope} {cl : List (Str × Addr)} {N : Nat} {it : Nat → Dv} {tp : Prop} (ρc : St) (ok : Nat → Bool) (out : Nat → Dv) (hI : EvI G n E ρ iter N it tp) (b : Block E scope cl x)
    (hρ : ∀ y V, ρc.lookup y = some V → y ≠ x ∧ (∃ d, V = .fr d) ∧ ρ.lookup y = some V ∧ ¬ (relabel scope E).names.lookup y = some .local)
    (ht : ∀ i, i < N → ∀ C, Tsts G n (compEnvC scope cl C E) ((x, .fr (it i)) :: ρc) ifs (ok i)) (he : ∀ i, i < N → ok i = true → ∀ C, Ev G n (compEnvC scope cl C E) ((x, .fr (it i)) :: ρc) elt (out i)) (hN : N ≤ 2 ^ 20)
    (hs : ∀ x, foldedSetIterable iter E x = pure x) : EvP G n E ρ (.ListComp elt [⟨.Name x px, iter, ifs, 0⟩] scope pos) (.own (((List.range N).filter ok).map out)) := fun A s K fp Q hR R hQ =>
  comp_val (out := fun i => .fr (out i)) hI b hρ ht (fun i hi h C => .of (he i hi h C)) hN hs hR R fun D h' K' tk ys Vs fs c x hD hDn kD hvl hVs hfs => by
    have e : Vs = (((List.range N).filter ok).map out).map Va.fr := by rw [hVs, List.map_map]; rfl
    subst e
    exact hQ (.ref D) h' K' tk [D] x (.own ⟨ys, c, hD, hvl.dens⟩) fun a ha => by obtain rfl := List.mem_singleton.mp ha; exact ⟨kD, hDn⟩
theorem EvP.comp2 {elt iter : Expr} {x : Str} {px pos : Pos} {scope : Scope} {cl : List (Str × Addr)} {N : Nat} {it : Nat → Dv} {tp : Prop} (ρc : St) (out : Nat → List Dv) (hI : EvI G n E ρ iter N it tp) (b : Block E scope cl x)
    (hρ : ∀ y V, ρc.lookup y = some V → y ≠ x ∧ (∃ d, V = .fr d) ∧ ρ.lookup y = some V ∧ ¬ (relabel scope E).names.lookup y = some .local)
    (he : ∀ i, i < N → ∀ C, EvP G n (compEnvC scope cl C E) ((x, .fr (it i)) :: ρc) elt (.own (out i))) (hN : N ≤ 2 ^ 20)
    (hs : ∀ x, foldedSetIterable iter E x = pure x) : EvP G n E ρ (.ListComp elt [⟨.Name x px, iter, [], 0⟩] scope pos) (.own2 ((List.range N).map out)) := fun A s K fp Q hR R hQ =>
  comp_val (ok := fun _ => true) (out := fun i => .own (out i)) hI b hρ (fun i hi C => .nil) (fun i hi h C => he i hi C) hN hs hR R fun D h' K' tk ys Vs fs c x hD hDn kD hvl hVs hfs => by
    have e : Vs = ((List.range N).map out).map Va.own := by rw [hVs, List.map_map, List.filter_eq_self.mpr (fun _ _ => rfl)]; rfl
    subst e
    obtain ⟨as, rfl, hos, nd, hin⟩ := hvl.owns
    refine hQ (.ref D) h' K' tk (D :: as) x (.own2 hD hos (List.nodup_cons.mpr ⟨fun ha => ?_, nd⟩)) fun a ha => ?_
    · obtain ⟨f, hf, haf⟩ := hin D ha; exact (hfs f hf D haf).2.2 rfl
    · cases ha with
      | head => exact ⟨kD, hDn⟩
      | tail _ ha => obtain ⟨f, hf, haf⟩ := hin a ha; exact ⟨(hfs f hf a haf).1, (hfs f hf a haf).2.1⟩

/-- y = [comprehension] where the store comes ahead of the block's end -/
theorem Ex1.assignComp {elt iter : Expr} {x y : Str} {px py pos spos : Pos} {ifs : List Expr} {scope : Scope} {cl : List (Str × Addr)} {N : Nat} {it : Nat → Dv} {tp : Prop} {ρc : St} {ok : Nat → Bool} {out : Nat → Va} {V : Va} (hI : EvI G n E ρ iter N it tp) (b : Block E scope cl x)
    (hρ : ∀ y V, ρc.lookup y = some V → y ≠ x ∧ (∃ d, V = .fr d) ∧ ρ.lookup y = some V ∧ ¬ (relabel scope E).names.lookup y = some .local)
    (ht : ∀ i, i < N → ∀ C, Tsts G n (compEnvC scope cl C E) ((x, .fr (it i)) :: ρc) ifs (ok i)) (he : ∀ i, i < N → ok i = true → ∀ C, EvP G n (compEnvC scope cl C E) ((x, .fr (it i)) :: ρc) elt (out i)) (hN : N ≤ 2 ^ 20)
    (hs : ∀ x, foldedSetIterable iter E x = pure x) (hsw : swapsWith (.ListComp elt [⟨.Name x px, iter, ifs, 0⟩] scope pos) (some (.Name y py)) spos.line E = pure true) (hy : E.kindOf y = some .local)
    (hV : ∀ (D : Addr) (h : Heap) (K : Fro) (ys : List Value) (fs : List (List Addr)) (c : Nat), h.get? D = some (lstObj ys c) → HVL G K h ys (((List.range N).filter ok).map out) fs → (∀ f ∈ fs, D ∉ f) → ∃ fv, HV G K h (.ref D) V fv ∧ ∀ a ∈ fv, a = D ∨ ∃ f ∈ fs, a ∈ f) :
    Ex1 G n E ρ (.Assign [.Name y py] (.ListComp elt [⟨.Name x px, iter, ifs, 0⟩] scope pos) spos) (St.set ρ y V) := fun A B s K fp Q hR R hQ => by
  rw [exec_Assign_Name_used _ _ _ _ hsw]
  refine wpAny_bind (wpAny_standAt (wpAny_bind ?_))
  show wpAny _ A (do let _ ← comprehension (.ListComp elt [⟨.Name x px, iter, ifs, 0⟩] scope pos) scope E _ (newList []) false (eval iter E) (some (PySem.assign (.Name y py) E))) _ _ s
  refine wpAny_bind (wpAny_mono (wpAny_comprehension_free (use := some (PySem.assign (.Name y py) E)) (Q := fun _ s' => Q .next s') rfl hs b.clos b.kind b.names
    (hI A s K fp _ hR R.e fun I ifp wr PP Sta h₀ K₀ tk₀ x₀ W st₀ lv₀ wr₀ ik₀ dn₀ lg₀ => ?_)) (fun _ s' hq => wpAny_pure (wpAny_pure hq)) fun _ _ e => e)
  have R₀ := R.ext x₀
  obtain ⟨m, F, _⟩ := R.e.frm
  refine comp_core (sS := { s with heap := h₀, toks := tk₀ }) b hρ ht he hN hR R₀.e W st₀ lv₀ (fun b hb => (wr₀ b hb).2) (fun b hb => ?_) (fun b hb y hy => ?_) (fun b hb p => ?_) dn₀
    (RR := fun acc C => compPost (model G.prog G.w) A (fun _ _ => False) (some (PySem.assign (.Name y py) E)) (fun _ s' => Q .next s') acc C) fun D C h' K' tk ys Vs fs c ml kp le sub new hDn hCn hDC kD kC hD hns hvl hVs hfs => ?_
  · cases q : G.h0.get? b with
    | none => rfl
    | some o => have := R.e.gd.base b o q; rw [(wr₀ b hb).1] at this; cases this
  · obtain ⟨us, c, e⟩ := R.e.live hy; rw [(wr₀ b hb).1] at e; cases e
  · obtain ⟨o, e, _⟩ := F.live p; rw [(wr₀ b hb).1] at e; cases e
  · have ex : Ext s.heap K h' K' := ⟨fun a o e => kp a o (fun q => by rw [(wr₀ a q).1] at e; cases e) (x₀.keep a o e), x₀.le.trans le, sub, fun a o e => by
      rcases new a o e with z | z
      · exact x₀.new a o z
      · exact .inr (live_back x₀.keep z)⟩
    have R₁ := R.ext ex
    subst hVs
    obtain ⟨fv, hv, hfv⟩ := hV D h' K' ys fs c hD hvl fun f hf q => (hfs f hf D q).2.2.1 rfl
    have fresh : ∀ a ∈ fv, K' a = none ∧ s.heap.get? a = none ∧ a ≠ C := fun a ha => by
      rcases hfv a ha with rfl | ⟨f, hf, haf⟩
      · exact ⟨kD, live_back x₀.keep hDn, hDC⟩
      · exact ⟨(hfs f hf a haf).1, live_back x₀.keep (hfs f hf a haf).2.1, (hfs f hf a haf).2.2.2⟩
    have hCs : s.heap.get? C = none := live_back x₀.keep hCn
    show wpAny _ A (PySem.assign (.Name y py) E (.ref D)) _ _ _
    refine wpAny_assign_Name (Rel.store R₁ hv (fun a ha => (fresh a ha).1) (fun a ha => ?_) (fun z a ha _ ha' => ?_) (.inl hy) fun h₂ tk₂ R₂ t₂ => ?_)
    · cases q : B.h a with
      | none => rfl
      | some o => have := R.keep a o q; rw [(fresh a ha).2.1] at this; cases this
    · obtain ⟨us, c, e⟩ := R.e.live ha'; rw [(fresh a ha).2.1] at e; cases e
    · have npC : ¬ Prv E C := fun p => by obtain ⟨o, e, _⟩ := F.live p; rw [hCs] at e; cases e
      refine ⟨ml, Ns.keepsAt hns fun o e => t₂ C o npC e, fun h₃ hs₃ => ?_⟩
      refine hQ h₃ K' _ tk₂ (R₂.outside (wr := [C]) (fun b' o q e => hs₃.extBut b' o (fun z => q (by rw [z]; exact .head _)) e) (fun b' hb' => ?_) (fun b' hb' => ?_) (fun b' hb' z hz => ?_) fun b' hb' p => ?_)
      · obtain rfl := List.mem_singleton.mp hb'; exact kC
      · obtain rfl := List.mem_singleton.mp hb'
        cases q : B.h b' with
        | none => rfl
        | some o => have := R.keep b' o q; rw [hCs] at this; cases this
      · obtain rfl := List.mem_singleton.mp hb'
        by_cases q : z = y
        · simp only [q, if_true] at hz; exact (fresh b' hz).2.2 rfl
        · simp only [q, if_false] at hz
          obtain ⟨us, c, e⟩ := R.e.live hz; rw [hCs] at e; cases e
      · obtain rfl := List.mem_singleton.mp hb'; exact npC p

theorem Ex1.compOwn {elt iter : Expr} {x y : Str} {px py pos spos : Pos} {ifs : List Expr} {scope : Scope} {cl : List (Str × Addr)} {N : Nat} {it : Nat → Dv} {tp : Prop} (ρc : St) (ok : Nat → Bool) (out : Nat → Dv) (hI : EvI G n E ρ iter N it tp) (b : Block E scope cl x)
    (hρ : ∀ y V, ρc.lookup y = some V → y ≠ x ∧ (∃ d, V = .fr d) ∧ ρ.lookup y = some V ∧ ¬ (relabel scope E).names.lookup y = some .local)
    (ht : ∀ i, i < N → ∀ C, Tsts G n (compEnvC scope cl C E) ((x, .fr (it i)) :: ρc) ifs (ok i)) (he : ∀ i, i < N → ok i = true → ∀ C, Ev G n (compEnvC scope cl C E) ((x, .fr (it i)) :: ρc) elt (out i)) (hN : N ≤ 2 ^ 20)
    (hs : ∀ x, foldedSetIterable iter E x = pure x) (hsw : swapsWith (.ListComp elt [⟨.Name x px, iter, ifs, 0⟩] scope pos) (some (.Name y py)) spos.line E = pure true) (hy : E.kindOf y = some .local) :
    Ex1 G n E ρ (.Assign [.Name y py] (.ListComp elt [⟨.Name x px, iter, ifs, 0⟩] scope pos) spos) (St.set ρ y (.own (((List.range N).filter ok).map out))) :=
  .assignComp (out := fun i => .fr (out i)) hI b hρ ht (fun i hi h C => .of (he i hi h C)) hN hs hsw hy fun D h K ys fs c hD hvl _ => by
    have e : (((List.range N).filter ok).map fun i => Va.fr (out i)) = (((List.range N).filter ok).map out).map Va.fr := by rw [List.map_map]; rfl
    rw [e] at hvl
    exact ⟨[D], .own ⟨ys, c, hD, hvl.dens⟩, fun a ha => .inl (List.mem_singleton.mp ha)⟩
theorem Ex1.compOwn2 {elt iter : Expr} {x y : Str} {px py pos spos : Pos} {scope : Scope} {cl : List (Str × Addr)} {N : Nat} {it : Nat → Dv} {tp : Prop} (ρc : St) (out : Nat → List Dv) (hI : EvI G n E ρ iter N it tp) (b : Block E scope cl x)
    (hρ : ∀ y V, ρc.lookup y = some V → y ≠ x ∧ (∃ d, V = .fr d) ∧ ρ.lookup y = some V ∧ ¬ (relabel scope E).names.lookup y = some .local)
    (he : ∀ i, i < N → ∀ C, EvP G n (compEnvC scope cl C E) ((x, .fr (it i)) :: ρc) elt (.own (out i))) (hN : N ≤ 2 ^ 20)
    (hs : ∀ x, foldedSetIterable iter E x = pure x) (hsw : swapsWith (.ListComp elt [⟨.Name x px, iter, [], 0⟩] scope pos) (some (.Name y py)) spos.line E = pure true) (hy : E.kindOf y = some .local) :
    Ex1 G n E ρ (.Assign [.Name y py] (.ListComp elt [⟨.Name x px, iter, [], 0⟩] scope pos) spos) (St.set ρ y (.own2 ((List.range N).map out))) :=
  .assignComp (ok := fun _ => true) (out := fun i => .own (out i)) hI b hρ (fun i hi C => .nil) (fun i hi h C => he i hi C) hN hs hsw hy fun D h K ys fs c hD hvl hap => by
    have e : (((List.range N).filter fun _ => true).map fun i => Va.own (out i)) = ((List.range N).map out).map Va.own := by rw [List.map_map, List.filter_eq_self.mpr (fun _ _ => rfl)]; rfl
    rw [e] at hvl
    obtain ⟨as, rfl, hos, nd, hin⟩ := hvl.owns
    exact ⟨D :: as, .own2 hD hos (List.nodup_cons.mpr ⟨fun ha => by obtain ⟨f, hf, haf⟩ := hin D ha; exact hap f hf haf, nd⟩), fun a ha => by
      cases ha with
      | head => exact .inl rfl
      | tail _ ha => exact .inr (hin a ha)⟩
end
end Mine

end PartB11
section PartB12
open PySem PySem.Calls PyProof.Rows PySem.W
set_option Elab.async false
set_option maxRecDepth 100000
set_option autoImplicit false
set_option linter.unusedVariables false
namespace Mine

section
variable {G : Cx} {n : Nat} {E : Env} {ρ : St} {B : Base}

theorem Ex.while_ {test : Expr} {body rest : List Stmt} {pos : Pos} {N : Nat} {P : St → Prop} {Rt : Dv → St → Prop} (J : Nat → St) (h0 : Sub (J 0) ρ) (ht : ∀ i, i < N → Tst G n E (J i) test true)
    (hb : ∀ i, i < N → Ex G n E (J i) body (fun ρ' => Sub (J (i + 1)) ρ') Rt) (hd : Tst G n E (J N) test false) (hr : Ex G n E (J N) rest P Rt) : Ex G n E ρ (.While test body [] pos :: rest) P Rt := fun A B s K fp Q hR R hQ hret => by
  refine wpAny_execs_cons (wpAny_While ?_)
  refine codeAny_whileLoop (fun k s' => ∃ i h K' fp' tk, s' = { s with heap := h, toks := tk } ∧ k = N - i ∧ i ≤ N ∧ Rel G B E h K' (J i) fp') ?_ N ⟨0, s.heap, K, _, s.toks, rfl, rfl, Nat.zero_le _, R.weak h0⟩
  rintro k s' ⟨i, h, K', fp', tk, rfl, rfl, hi, R'⟩
  by_cases hlt : i < N
  · refine lift (ht i hlt A _ K' fp' _ hR R'.e fun h₁ K₁ tk₁ x₁ => ?_)
    rw [if_pos rfl]
    exact lift (hb i hlt A B _ K₁ fp' _ hR (R'.ext x₁) (fun ρ' h₂ K₂ fp₂ tk₂ hS R₂ => ⟨N - (i + 1), by omega, i + 1, h₂, K₂, _, tk₂, rfl, rfl, hlt, R₂.weak hS⟩) fun v d ρ' h₂ K₂ fp₂ tk₂ hRt R₂ dv => hret v d ρ' h₂ K₂ fp₂ tk₂ hRt R₂ dv)
  · have hiN : i = N := by omega
    subst hiN
    refine lift (hd A _ K' fp' _ hR R'.e fun h₁ K₁ tk₁ x₁ => ?_)
    rw [if_neg (by simp)]
    exact wpAny_execs_nil (hr A B _ K₁ fp' Q hR (R'.ext x₁) hQ hret)

/-- for x, y in enumerate(e) -/
theorem Ex.forEnum {z x y : Str} {zp xp yp tp cp pos : Pos} {k0 : Nat} {e : Expr} {body rest : List Stmt} {ds : List Dv} {P : St → Prop} {Rt : Dv → St → Prop} (J : Nat → St) (he : Ev G n E ρ e (.lst ds))
    (hz : E.kindOf z = some .globalImplicit) (hbo : bootBuiltins z = some (.type "enumerate")) (hn : z ≠ "__name__") (hm : G.mg z = none) (hst : ∀ E, starEach [e] E = [(false, eval e E)]) (hd : (z == ("__debug__" : Str)) = false)
    (hx : E.kindOf x = some .local ∨ E.kindOf x = some .cell) (hy : E.kindOf y = some .local ∨ E.kindOf y = some .cell) (h0 : Sub (J 0) ρ)
    (hb : ∀ i d, ds[i]? = some d → Ex G n E (St.set (St.set (J i) x (.fr (.int i))) y (.fr d)) body (fun ρ' => Sub (J (i + 1)) ρ') Rt) (hr : Ex G n E (J ds.length) rest P Rt)
    (hs : ∀ v, foldedSetIterable (.Call (.Name z zp) [e] [] cp) E v = pure v) :
    Ex G n E ρ (.For (.Tuple [.Name x xp, .Name y yp] k0 tp) (.Call (.Name z zp) [e] [] cp) body [] pos :: rest) P Rt := fun A B s K fp Q hR R hQ hret => by
  obtain ⟨m, F, _⟩ := R.e.frm
  refine wpAny_execs_cons (wpAny_For (Call_Name rfl (Name_function_global F.kind hz (loadGlobal_builtin (F.glob ▸ R.e.gd.top.g) hm (F.bt ▸ R.e.gd.top.b) ((R.e.gd.top.builtins z hn).trans hbo) ?_) hd)) hs)
  refine callWith_type1 (args_cons (he A s K fp _ hR R.e fun v h₁ K₁ tk₁ x₁ d₁ => args_nil ?_) (hst E)) (hst E) rfl
  cases d₁ with | lst e₁ L₁ =>
  rename_i l vs c
  have R1 := R.ext x₁
  have hll := L₁.length
  refine call_enumerate_1 (R1.e.gd.sub _ _ e₁) fun h₂ he₂ hit₂ hsz₂ hk₂ => ?_
  generalize hit : h₁.objs.size = it at *
  dsimp only at he₂ hit₂ hsz₂ ⊢
  generalize hen : it + 1 = en at *
  have e1n : h₁.get? it = none := by rw [← hit]; exact get_size_none _
  have e2n : h₁.get? en = none := by rw [← hen, ← hit]; exact get_succ_none _
  have ltl : l < it := by rw [← hit]; exact Heap.lt_size (R1.e.gd.sub _ _ e₁)
  have x₂ : Ext h₁ K₁ h₂ K₁ := .heap x₁.sub hk₂
  have R2 := (R1.ext x₂).weak h0
  have nb : ∀ b ∈ [en, it], K₁ b = none ∧ B.h b = none ∧ (∀ x, b ∉ fp x) ∧ ¬ Prv E b := fun b hb => by
    have e : h₁.get? b = none := by
      rcases List.mem_cons.mp hb with rfl | hb
      · exact e2n
      · obtain rfl := List.mem_singleton.mp hb; exact e1n
    refine ⟨none_of_new x₁.sub e, ?_, fun x hx => ?_, fun p => ?_⟩
    · cases q : B.h b with
      | none => rfl
      | some o => have := R1.keep b o q; rw [e] at this; cases this
    · obtain ⟨us, c, e'⟩ := R1.e.live hx; rw [e] at e'; cases e'
    · obtain ⟨m', F', _⟩ := R1.e.frm
      obtain ⟨o, e', _⟩ := F'.live p; rw [e] at e'; cases e'
  refine wpAny_pyIter_enum (s := { s with heap := h₂, toks := tk₁ }) he₂ ?_
  refine codeAny_forLoop_any (fun k s' => ∃ i h K' fp' tk old, s' = { s with heap := h, toks := tk } ∧ k = ds.length - i ∧ i ≤ ds.length ∧ Rel G B E h K' (J i) fp' ∧ IsEnum h en it (i : Nat) old ∧ h.IsListIter it l i ∧ (∀ b ∈ [en, it], K' b = none) ∧ (∀ b ∈ [en, it], ∀ x, b ∉ fp' x) ∧ Fro.le K₁ K')
    ?_ ds.length ⟨0, h₂, K₁, _, tk₁, .none, rfl, rfl, Nat.zero_le _, R2, he₂, hit₂, fun b hb => (nb b hb).1, fun b hb x hx => ?_, Fro.le_refl _⟩
  · rintro k s' ⟨i, h, K', fp', tk, old, rfl, rfl, hi, R', st, sit, wk, no, le⟩
    have ll : h.IsList l vs.toArray := R'.e.gd.list (le _ _ e₁)
    have hne : en ≠ it := by omega
    by_cases hlt : i < ds.length
    · obtain ⟨w, g1, g2⟩ := L₁.get i (List.getElem?_eq_getElem hlt)
      refine lift (wpAny_pyNext_enum_item (s := { s with heap := h, toks := tk }) st sit ll (by simpa using g1) hne fun h₃ ho hit₃ hT hsz₃ hk₃ => ?_)
      have R₃ := R'.outside (h' := h₃) (wr := [en, it]) (fun b o q e => hk₃ b o (fun z => q (z ▸ .head _)) (fun z => q (z ▸ .tail _ (.head _))) e) wk (fun b hb => (nb b hb).2.1) no (fun b hb => (nb b hb).2.2.2)
      have Tn : h.get? h.objs.size = none := get_size_none _
      have kT : K' h.objs.size = none := none_of_new R'.e.gd.sub Tn
      refine lift (wpAny_letOwnedTupleGo_enum ho fun h₄ he₄ hs₄ => ?_)
      have R₄ := R₃.outside (h' := h₄) (wr := [en, it]) (fun b o q e => hs₄.extBut b o (fun z => q (z ▸ .head _)) e) wk (fun b hb => (nb b hb).2.1) no (fun b hb => (nb b hb).2.2.2)
      have Tne : h.objs.size ≠ en := fun z => by rw [z] at Tn; have st' : h.get? en = some _ := st; rw [Tn] at st'; cases st'
      have hT₄ : h₄.get? h.objs.size = some (tupObj [.int i tk, w] 0) := (hs₄.2 _ Tne).trans hT
      -- the pair is frozen
      have X : Ext h₄ K' h₄ (K'.put h.objs.size (tupObj [.int i tk, w] 0)) ∨ True := .inr trivial
      have R₅ : Rel G B E h₄ (K'.put h.objs.size (tupObj [.int i tk, w] 0)) (J i) fp' := by
        have nT : B.h h.objs.size = none := by
          cases q : B.h h.objs.size with
          | none => rfl
          | some o => have := R'.keep _ o q; rw [Tn] at this; cases this
        have npT : ¬ Prv E h.objs.size := fun p => by
          obtain ⟨m', F', _⟩ := R'.e.frm
          obtain ⟨o, e', _⟩ := F'.live p; rw [Tn] at e'; cases e'
        have noT : ∀ x, h.objs.size ∉ fp' x := fun x hx => by obtain ⟨us, c, e'⟩ := R'.e.live hx; rw [Tn] at e'; cases e'
        have lp := Fro.put_le (o := tupObj [.int i tk, w] 0) kT
        obtain ⟨m', F', hm'⟩ := R₄.e.frm
        refine ⟨⟨⟨R₄.e.gd.base, fun a o e => ?_, fun x d e => let ⟨v, h1, h2⟩ := R₄.e.gd.cst x d e; ⟨v, h1, h2.mono lp⟩⟩, ⟨m', F', fun x V e => let ⟨v, h1, h2⟩ := hm' x V e; ⟨v, h1, h2.mono lp fun _ _ _ e => e⟩⟩, R₄.e.emp, R₄.e.disj, fun x a ha => ?_⟩,
          fun a p => ?_, R₄.keep, R₄.ownB, R₄.prvB, R₄.kle.trans lp, fun a o e => ?_, R₄.base⟩
        · unfold Fro.put at e
          split at e
          · rename_i q; subst q; cases e; exact hT₄
          · exact R₄.e.gd.sub a o e
        · have : a ≠ h.objs.size := fun q => noT x (q ▸ ha)
          simp only [Fro.put, this, if_false]; exact R₄.e.notK x a ha
        · have : a ≠ h.objs.size := fun q => npT (q ▸ p)
          simp only [Fro.put, this, if_false]; exact R₄.prvK a p
        · unfold Fro.put at e
          split at e
          · rename_i q; subst q; exact .inr nT
          · exact R₄.knew a o e
      have lp := Fro.put_le (o := tupObj [.int i tk, w] 0) kT
      refine lift (Asg.pair hx hy A B _ _ fp' (.ref h.objs.size) _ hR R₅ (.tup (Fro.put_self _ _ _) (.cons (.int _ _) (.cons ((g2.mono le).mono lp) .nil))) fun h₆ fp₆ tk₆ R₆ t₆ s₆ => ?_)
      obtain ⟨B', RB, eK, up, back⟩ := R₆.rebase
      have he₆ : IsEnum h₆ en it ((i + 1 : Nat) : Int) w := by
        have := t₆ en _ (nb en (.head _)).2.2.2 he₄
        simpa [IsEnum] using this
      have hit₆ : h₆.IsListIter it l (i + 1) := (hit₃.at fun o e => hs₄.extBut it o (Ne.symm hne) e).at fun o e => t₆ it o (nb it (.tail _ (.head _))).2.2.2 e
      have wk₆ : ∀ b ∈ [en, it], (K'.put h.objs.size (tupObj [.int i tk, w] 0)) b = none := fun b hb => by
        have : b ≠ h.objs.size := fun q => by
          rcases List.mem_cons.mp hb with z | hb
          · exact Tne (q ▸ z)
          · obtain z := List.mem_singleton.mp hb
            obtain ⟨o, e, _⟩ := sit; rw [← z, q, Tn] at e; cases e
        simp only [Fro.put, this, if_false]; exact wk b hb
      have upI : ∀ b ∈ [en, it], ∃ o, B'.h b = some o ∧ h₆.get? b = some o := fun b hb => by
        have : ∃ o, h₆.get? b = some o := by
          rcases List.mem_cons.mp hb with rfl | hb
          · exact ⟨_, he₆⟩
          · obtain rfl := List.mem_singleton.mp hb; exact ⟨_, hit₆.choose_spec.1⟩
        obtain ⟨o, e⟩ := this
        exact ⟨o, up b o e (fun x hx => no b hb x (s₆ x b hx)) (nb b hb).2.2.2, e⟩
      have kp : ∀ b ∈ [en, it], ∀ h₇ : Heap, (∀ a o, B'.h a = some o → h₇.get? a = some o) → ∀ o, h₆.get? b = some o → h₇.get? b = some o := fun b hb h₇ hk o e => by
        obtain ⟨o', e1, e2⟩ := upI b hb
        rw [e2] at e; obtain rfl := Option.some.inj e
        exact hk b _ e1
      refine lift (hb i _ (List.getElem?_eq_getElem hlt) A B' _ _ fp₆ _ hR RB (fun ρ' h₇ K₇ fp₇ tk₇ hP₇ R₇ => ?_) fun w d ρ' h₇ K₇ fp₇ tk₇ hRt R₇ hd₇ => hret w d ρ' h₇ K₇ fp₇ tk₇ hRt (back _ _ _ _ R₇) hd₇)
      refine ⟨ds.length - (i + 1), by omega, i + 1, h₇, K₇, _, tk₇, w, rfl, rfl, hlt, (back _ _ _ _ R₇).weak hP₇, kp en (.head _) h₇ R₇.keep _ he₆, hit₆.at fun o e => kp it (.tail _ (.head _)) h₇ R₇.keep o e, fun b hb => ?_, fun b hb x hx => ?_, (le.trans lp).trans (eK ▸ R₇.kle)⟩
      · cases q : K₇ b with
        | none => rfl
        | some o =>
          obtain ⟨o', e1, e2⟩ := upI b hb
          rcases R₇.knew b o q with e | e
          · rw [eK, wk₆ b hb] at e; cases e
          · rw [e1] at e; cases e
      · have hx' : b ∈ (if (J (i + 1)).lookup x = none then [] else fp₇ x) := hx
        split at hx'
        · cases hx'
        · obtain ⟨o', e1, e2⟩ := upI b hb
          rw [R₇.ownB x b hx'] at e1; cases e1
    · have hiN : i = ds.length := by omega
      subst hiN
      refine lift (wpAny_pyNext_enum_end (s := { s with heap := h, toks := tk }) hR.hd st sit ll (by simp [hll]) fun h₃ he₃ => ?_)
      have R₃ := R'.outside (h' := h₃) (wr := [en, it]) (fun b o q e => he₃ b o (fun z => q (z ▸ .tail _ (.head _))) e) wk (fun b hb => (nb b hb).2.1) no (fun b hb => (nb b hb).2.2.2)
      exact wpAny_execs_nil (hr A B _ K' fp' Q hR R₃ hQ hret)
  · have hx' : b ∈ (if (J 0).lookup x = none then [] else fp x) := hx
    split at hx'
    · cases hx'
    · exact (nb b hb).2.2.1 x hx'
end
end Mine

end PartB12
section PartB13
open PySem PySem.Calls PyProof.Rows PySem.W
set_option Elab.async false
set_option maxRecDepth 100000
set_option autoImplicit false
set_option linter.unusedVariables false
namespace Mine

theorem cellsFrom_has (x : Str) : ∀ (names : List (Str × NameKind)) (k : Nat) (acc : List (Str × Addr)), ((x, NameKind.cell) ∈ names ∨ (acc.lookup x).isSome = true) → ((cellsFrom k names acc).lookup x).isSome = true
  | [], k, acc, h => by
    rcases h with h | h
    · cases h
    · exact h
  | (y, kd) :: r, k, acc, h => by
    unfold cellsFrom
    by_cases hc : (kd == NameKind.cell) = true
    · rw [if_pos hc]
      refine cellsFrom_has x r _ _ ?_
      rcases h with h | h
      · cases h with
        | head => right; simp
        | tail _ h => exact .inl h
      · right
        rw [List.lookup_cons]
        cases x == y <;> simp_all
    · rw [if_neg hc]
      refine cellsFrom_has x r _ _ ?_
      rcases h with h | h
      · cases h with
        | head => exact absurd rfl hc
        | tail _ h => exact .inl h
      · exact .inr h

theorem bindL_not {kindOf : Str → Option NameKind} (x : Str) : ∀ (l : List (Str × Value)) (m : Str → Option Value), x ∉ l.map (·.1) → bindL kindOf l m x = m x
  | [], m, _ => rfl
  | (y, v) :: r, m, h => by
    unfold bindL
    have h1 : x ≠ y := fun q => h (q ▸ List.mem_map.mpr ⟨_, .head _, rfl⟩)
    rw [bindL_not x r _ fun q => h (List.mem_cons_of_mem _ q)]
    split
    · simp [h1]
    · rfl
theorem bindC_not {kindOf : Str → Option NameKind} (x : Str) : ∀ (l : List (Str × Value)) (m : Str → Option Value), x ∉ l.map (·.1) → bindC kindOf l m x = m x
  | [], m, _ => rfl
  | (y, v) :: r, m, h => by
    unfold bindC
    have h1 : x ≠ y := fun q => h (q ▸ List.mem_map.mpr ⟨_, .head _, rfl⟩)
    rw [bindC_not x r _ fun q => h (List.mem_cons_of_mem _ q)]
    split
    · rfl
    · simp [h1]
theorem bindL_get {kindOf : Str → Option NameKind} {x : Str} {v : Value} (hk : kindOf x = some .local) : ∀ (l : List (Str × Value)) (m : Str → Option Value), (l.map (·.1)).Nodup → l.lookup x = some v → bindL kindOf l m x = some v
  | [], m, _, h => by cases h
  | (y, w) :: r, m, hn, h => by
    rw [List.map_cons, List.nodup_cons] at hn
    unfold bindL
    by_cases q : x = y
    · subst q
      simp at h; subst h
      rw [bindL_not x r _ hn.1, if_pos hk]; simp
    · have : (x == y) = false := beq_eq_false_iff_ne.mpr q
      rw [List.lookup_cons, this] at h
      exact bindL_get hk r _ hn.2 h
theorem bindC_get {kindOf : Str → Option NameKind} {x : Str} {v : Value} (hk : kindOf x ≠ some .local) : ∀ (l : List (Str × Value)) (m : Str → Option Value), (l.map (·.1)).Nodup → l.lookup x = some v → bindC kindOf l m x = some v
  | [], m, _, h => by cases h
  | (y, w) :: r, m, hn, h => by
    rw [List.map_cons, List.nodup_cons] at hn
    unfold bindC
    by_cases q : x = y
    · subst q
      simp at h; subst h
      rw [bindC_not x r _ hn.1, if_neg hk]; simp
    · have : (x == y) = false := beq_eq_false_iff_ne.mpr q
      rw [List.lookup_cons, this] at h
      exact bindC_get hk r _ hn.2 h

section
variable {G : Cx} {n : Nat}

/-- the footprints of the arguments, by name -/
noncomputable def fpOf : List Str → List (List Addr) → Str → List Addr
  | x :: xs, f :: fs, y => if y = x then f else fpOf xs fs y
  | _, _, _ => []
theorem zip_get {K : Fro} {h : Heap} : ∀ {xs : List Str} {vs : List Value} {Vs : List Va} {fs : List (List Addr)}, HVL G K h vs Vs fs → xs.length = Vs.length → ∀ x V, (xs.zip Vs).lookup x = some V → ∃ v, (xs.zip vs).lookup x = some v ∧ HV G K h v V (fpOf xs fs x)
  | [], _, _, _, _, _, x, V, e => by simp at e
  | x₀ :: xs, _, _, _, H, hl, x, V, e => by
    cases H with
    | nil => cases hl
    | cons hv hs ap =>
      by_cases q : x = x₀
      · subst q
        simp at e; subst e
        refine ⟨_, ?_, by simpa [fpOf] using hv⟩
        simp only [List.zip_cons_cons, List.lookup_cons, beq_self_eq_true]
      · have : (x == x₀) = false := beq_eq_false_iff_ne.mpr q
        simp only [List.zip_cons_cons, List.lookup_cons, this] at e ⊢
        obtain ⟨v, h1, h2⟩ := zip_get hs (Nat.succ.inj hl) x V e
        exact ⟨v, h1, by simpa [fpOf, q] using h2⟩
theorem fpOf_mem {K : Fro} {h : Heap} : ∀ {xs : List Str} {vs : List Value} {Vs : List Va} {fs : List (List Addr)}, HVL G K h vs Vs fs → ∀ x a, a ∈ fpOf xs fs x → ∃ f ∈ fs, a ∈ f ∧ ∀ y, a ∈ fpOf xs fs y → y = x
  | [], _, _, _, _, x, a, ha => by cases ha
  | x₀ :: xs, _, _, _, H, x, a, ha => by
    cases H with
    | nil => cases ha
    | cons hv hs ap =>
      rename_i f vs Vs fs
      by_cases q : x = x₀
      · subst q
        simp only [fpOf, if_true] at ha
        refine ⟨f, .head _, ha, fun y hy => ?_⟩
        by_cases q' : y = x
        · exact q'
        · simp only [fpOf, q', if_false] at hy
          obtain ⟨g, hg, hag, _⟩ := fpOf_mem hs y a hy
          exact absurd hag (ap a ha g hg)
      · simp only [fpOf, q, if_false] at ha
        obtain ⟨g, hg, hag, un⟩ := fpOf_mem hs x a ha
        refine ⟨g, .tail _ hg, hag, fun y hy => ?_⟩
        by_cases q' : y = x₀
        · subst q'
          simp only [fpOf, if_true] at hy
          exact absurd hag (ap a hy g hg)
        · simp only [fpOf, q', if_false] at hy
          exact un y hy
theorem fpOf_emp {K : Fro} {h : Heap} : ∀ {xs : List Str} {vs : List Value} {Vs : List Va} {fs : List (List Addr)}, HVL G K h vs Vs fs → xs.length = Vs.length → ∀ x, (xs.zip Vs).lookup x = none → fpOf xs fs x = []
  | [], _, _, _, _, _, x, _ => rfl
  | x₀ :: xs, _, _, _, H, hl, x, e => by
    cases H with
    | nil => cases hl
    | cons hv hs ap =>
      by_cases q : x = x₀
      · subst q; simp at e
      · have : (x == x₀) = false := beq_eq_false_iff_ne.mpr q
        simp only [List.zip_cons_cons, List.lookup_cons, this] at e
        simp only [fpOf, q, if_false]
        exact fpOf_emp hs (Nat.succ.inj hl) x e

/-- into a def -/
theorem enter {r : DefRec} {xs : List Str} {A : Around} {s : Shared} {K : Fro} {a : Addr} {vs : List Value} {Vs : List Va} {fs : List (List Addr)} {B : Base} {Q : Value → Shared → Prop} (hr : r ∈ recsOf G.p)
    (hbind : ∀ pm cd doc vs, vs.length = xs.length → bindArgs (docDef r.name r.params r.body r.scope pm cd doc) ⟨vs, []⟩ = pure (xs.zip vs)) (hl : xs.length = Vs.length) (hnd : xs.Nodup)
    (hkind : ∀ x ∈ xs, r.scope.names.lookup x = some .local ∨ r.scope.names.lookup x = some .cell) (hfree : ∀ y ∈ r.scope.names, y.2 ≠ .free)
    (hco : r.scope.isCoroutine = false) (hgen : r.scope.isGenerator = false) (hk : r.scope.kind = .function)
    (hR : Room (n + 1) A) (g : Gd G s.heap K) (hf : G.mg r.name = some (.ref a)) (hv : HVL G K s.heap vs Vs fs) (hfK : ∀ f ∈ fs, ∀ b ∈ f, K b = none ∧ B.h b = none) (hBK : B.K = K) (hBh : ∀ b o, B.h b = some o → s.heap.get? b = some o) (hB0 : ∀ b o, G.h0.get? b = some o → B.h b = some o)
    (hbody : ∀ L cd h₁ tk A', Room n A' → Rel G B (envOfC r.name r.scope L a cd) h₁ K (xs.zip Vs) (fpOf xs fs) → (∀ b o, s.heap.get? b = some o → h₁.get? b = some o) → 
      wpAny (model G.prog G.w) A' (execs r.body (envOfC r.name r.scope L a cd)) (fun fl s' => Q (match fl with | .ret v => v | _ => .none) s') (fun _ _ => False) { s with heap := h₁, toks := tk }) :
    wpAny (model G.prog G.w) A (PySem.call (.ref a) vs) Q (fun _ _ => False) s := by
  have T := g.top
  obtain ⟨a', o, pm, code, doc, h1, h2, h3, h4⟩ := T.fn r hr
  rw [hf] at h1; cases h1
  have hvl := hv.length
  have hzip : (xs.zip vs).map (·.1) = xs := by rw [List.map_fst_zip]; rw [hvl, hl]; exact Nat.le_refl _
  have hkc : ∀ x, r.scope.names.lookup x = some .cell → ∀ L, ((cellsFrom (L + 1) r.scope.names []).lookup x).isSome = true := fun x hx L => cellsFrom_has x _ _ _ (.inl (mem_of_lookup hx))
  refine wpAny_call (call_cells_ret (by have := hR.dep; omega) h2 h3 T.nolimit h4 (hbind pm code doc vs (by rw [hvl, hl])) (fun x hx => ?_) (fun h₁ tk F X => ?_) hco hgen hk)
  · have : x.1 ∈ xs := hzip ▸ List.mem_map.mpr ⟨x, hx, rfl⟩
    rcases hkind x.1 this with q | q
    · exact .inl q
    · exact .inr ⟨q, hkc x.1 q _⟩
  · refine hbody _ _ h₁ tk _ ⟨hR.hd, ?_, ?_⟩ ?_ F.keep
    · show A.depth + 1 + n < recursionLimit; have := hR.dep; omega
    · show A.units + 3 + 10 * n < 9000; have := hR.un; omega
    · generalize hE : envOfC r.name r.scope s.heap.objs.size a code = E at *
      have hkE : ∀ x, E.kindOf x = r.scope.names.lookup x := fun x => by rw [← hE]; rfl
      have hcE : E.cells = cellsFrom (s.heap.objs.size + 1) r.scope.names [] := by rw [← hE]; rfl
      have hLE : E.locals = s.heap.objs.size := by rw [← hE]; rfl
      have hkE' : ∀ x, E.kindOf x = r.scope.names.lookup x := hkE
      have nw : ∀ b, Prv E b → s.heap.get? b = none := fun b p => by
        rcases p with rfl | ⟨x, _, hx⟩
        · rw [hLE]; exact get_size_none _
        · rw [hcE] at hx
          have := X.above x b (mem_of_lookup hx)
          cases q : s.heap.get? b with
          | none => rfl
          | some o => exact absurd (Heap.lt_size q) (Nat.not_lt.mpr (Nat.le_of_lt this))
      have Fm : Frm E h₁ (fun x => if E.kindOf x = some .local then bindL E.kindOf (xs.zip vs) (fun _ => none) x else bindC E.kindOf (xs.zip vs) (fun _ => none) x) := by
        refine ⟨⟨_, hLE ▸ F.ns, fun x hx => by simp [hx]⟩, fun x hx => ?_, fun x y c e1 e2 => ?_, by rw [← hE]; exact hk, by rw [← hE]; rfl, by rw [← hE]; rfl⟩
        · have hc : r.scope.names.lookup x = some .cell := by
            rcases hx with hx | hx
            · rw [← hkE']; exact hx
            · rw [hkE'] at hx; exact absurd rfl (hfree _ (mem_of_lookup hx))
          obtain ⟨c, e⟩ := Option.isSome_iff_exists.mp (hkc x hc s.heap.objs.size)
          refine ⟨c, by rw [hcE]; exact e, ?_⟩
          have : ¬ E.kindOf x = some .local := by rw [hkE', hc]; exact fun q => nomatch q
          simp only [this, if_false]
          exact X.cell x c e
        · rw [hcE] at e1 e2
          exact name_of_addr X.apart (mem_of_lookup e1) (mem_of_lookup e2)
      have hv₁ : HVL G K h₁ vs Vs fs := hv.mono (Fro.le_refl _) fun _ _ b _ o e => F.keep b o e
      refine ⟨⟨⟨fun b o e => F.keep b o (g.base b o e), fun b o e => F.keep b o (g.sub b o e), g.cst⟩, ⟨_, Fm, fun x V e => ?_⟩, fun x e => fpOf_emp hv₁ hl x e, fun x y b e1 e2 => ?_, fun x b e => ?_⟩, fun b p => ?_, fun b o e => F.keep b o (hBh b o e), fun x b e => ?_, fun b p => ?_, hBK ▸ Fro.le_refl K, fun b o e => .inl (hBK ▸ e), hB0⟩
      · obtain ⟨v, e1, e2⟩ := zip_get hv₁ hl x V e
        refine ⟨v, ?_, e2⟩
        have hnd' : ((xs.zip vs).map (·.1)).Nodup := by rw [hzip]; exact hnd
        by_cases q : E.kindOf x = some .local
        · simp only [q, if_true]; exact bindL_get q _ _ hnd' e1
        · simp only [q, if_false]; exact bindC_get q _ _ hnd' e1
      · obtain ⟨f, _, _, un⟩ := fpOf_mem hv₁ y b e2; exact un x e1
      · obtain ⟨f, hf', hb', _⟩ := fpOf_mem hv₁ x b e; exact (hfK f hf' b hb').1
      · exact none_of_new g.sub (nw b p)
      · obtain ⟨f, hf', hb', _⟩ := fpOf_mem hv₁ x b e; exact (hfK f hf' b hb').2
      · cases q : B.h b with
        | none => rfl
        | some o => have := hBh b o q; rw [nw b p] at this; cases this

/-- a def, by its body -/
theorem Fn.of {r : DefRec} {xs : List Str} {ds : List Dv} {d : Dv} (hr : r ∈ recsOf G.p)
    (hbind : ∀ pm cd doc vs, vs.length = xs.length → bindArgs (docDef r.name r.params r.body r.scope pm cd doc) ⟨vs, []⟩ = pure (xs.zip vs)) (hl : xs.length = ds.length) (hnd : xs.Nodup)
    (hkind : ∀ x ∈ xs, r.scope.names.lookup x = some .local ∨ r.scope.names.lookup x = some .cell) (hfree : ∀ y ∈ r.scope.names, y.2 ≠ .free)
    (hco : r.scope.isCoroutine = false) (hgen : r.scope.isGenerator = false) (hk : r.scope.kind = .function)
    (hbody : ∀ L a cd, Ex G n (envOfC r.name r.scope L a cd) (xs.zip (ds.map .fr)) r.body (fun _ => False) (fun d' _ => d' = d)) : Fn G (n + 1) r.name ds d := fun A s K a vs Q hR g hf hd hQ => by
  refine enter (B := ⟨fun b => s.heap.get? b, K⟩) hr hbind (by simpa using hl) hnd hkind hfree hco hgen hk hR g hf (HVL.ofDen hd) (fun f hf b hb => ?_) rfl (fun _ _ e => e) g.base fun L cd h₁ tk A' hR' R kp => ?_
  · obtain ⟨_, _, rfl⟩ := List.mem_map.mp hf; cases hb
  · refine hbody L a cd A' _ { s with heap := h₁, toks := tk } K _ _ hR' R (fun ρ' h' K' fp' tk' f R' => f.elim) fun v d' ρ' h' K' fp' tk' e R' dv => ?_
    subst e
    exact hQ v h' K' tk' ⟨R'.keep, R'.kle, R'.e.gd.sub, R'.knew⟩ dv
end
end Mine

end PartB13
section PartC0
open PySem PySem.Calls PyProof.Rows PySem.W
set_option Elab.async false
set_option maxRecDepth 100000
set_option autoImplicit false
set_option linter.unusedVariables false
namespace Mine
noncomputable abbrev pw : Program := PySem.Challenge.pw_tk0050_01
noncomputable def rcOf : Option Stmt → DefRec
  | some (.FunctionDef name args body _ _ _ scope _ _ pos) => ⟨name, args, body, scope, pos⟩
  | _ => ⟨Str.ofString "", { posonlyargs := [], args := [], vararg := none, kwonlyargs := [], kw_defaults := [], kwarg := none, defaults := [] }, [], { kind := .function, names := [], isGenerator := false, isCoroutine := false, more := [] }, ⟨0,0,0,0⟩⟩
/-- the def that stands at row i -/
noncomputable def rc (i : Nat) : DefRec := rcOf pw.main.body[i]?
noncomputable abbrev str (x : String) : Str := Str.ofString x

structure OkG (G : Cx) : Prop where
  recs : ∀ r ∈ recsOf pw, r ∈ recsOf G.p
  len : G.mg (str "len") = none
  range : G.mg (str "range") = none
  enum : G.mg (str "enumerate") = none
  min : G.mg (str "min") = none
  max : G.mg (str "max") = none
  abs : G.mg (str "abs") = none
  int : G.mg (str "int") = none
  list : G.mg (str "list") = none
  nought : G.cst (str "NOUGHT") = some (.tup [.bool false, .lst []])
  unit : G.cst (str "UNIT") = some (.tup [.bool false, .lst [.int 1]])

/-- limbs -/
noncomputable def nats (xs : List Nat) : List Dv := xs.map fun x => .int (x : Nat)
noncomputable abbrev Ls (xs : List Nat) : Dv := .lst (nats xs)
theorem nats_len (xs : List Nat) : (nats xs).length = xs.length := by simp [nats]
theorem nats_get (xs : List Nat) (i : Nat) : (nats xs)[i]? = (xs[i]?).map fun (x : Nat) => Dv.int x := by simp [nats]
theorem nats_at {xs : List Nat} {i : Nat} {x : Nat} (h : xs[i]? = some x) : (nats xs)[i]? = some (.int x) := by rw [nats_get, h]; rfl

/-- a def's word -/
structure Df (G : Cx) (n : Nat) (f : Str) (ds : List Dv) (d : Dv) : Prop where
  fn : Fn G n f ds d
  mg : ∃ a, G.mg f = some (.ref a)
  mem : f ∈ (recsOf G.p).map (·.name)

section
variable {G : Cx} {n : Nat} {E : Env} {ρ : St}

theorem Df.of (o : OkG G) {r : DefRec} {f : Str} {xs : List Str} {ds : List Dv} {d : Dv} (k : Nat) (h : (recsOf pw)[k]? = some r) (hf : r.name = f)
    (hbody : ∀ L a cd, Ex G n (envOfC r.name r.scope L a cd) (xs.zip (ds.map .fr)) r.body (fun _ => False) (fun d' _ => d' = d))
    (hbind : ∀ pm cd doc vs, vs.length = xs.length → bindArgs (docDef r.name r.params r.body r.scope pm cd doc) ⟨vs, []⟩ = pure (xs.zip vs)) (hl : xs.length = ds.length := by rfl) (hnd : xs.Nodup := by decide)
    (hkind : ∀ x ∈ xs, r.scope.names.lookup x = some .local ∨ r.scope.names.lookup x = some .cell := by decide) (hfree : ∀ y ∈ r.scope.names, y.2 ≠ .free := by decide)
    (hco : r.scope.isCoroutine = false := by rfl) (hgen : r.scope.isGenerator = false := by rfl) (hk : r.scope.kind = .function := by rfl) : Df G (n + 1) f ds d := by
  subst hf
  have hr := o.recs r (List.mem_of_getElem? h)
  refine ⟨Fn.of hr hbind hl hnd hkind hfree hco hgen hk hbody, ?_, List.mem_map.mpr ⟨r, hr, rfl⟩⟩
  obtain ⟨a, _, _, _, _, e, _⟩ := G.top0.fn r hr
  exact ⟨a, e⟩

-- expressions
theorem v {x : Str} {pos : Pos} {d : Dv} (h : ρ.lookup x = some (.fr d) := by rfl) (hx : E.kindOf x = some .local ∨ E.kindOf x = some .cell ∨ E.kindOf x = some .free := by first | exact Or.inl rfl | exact Or.inr (Or.inl rfl) | exact Or.inr (Or.inr rfl))
    (hd : (x == ("__debug__" : Str)) = false := by decide) (hc : (x == ("__classdict__" : Str)) = false := by decide) : Ev G n E ρ (.Name x pos) d := Ev.var h hx hd hc
theorem nm_ {x : Str} (hx : E.kindOf x = some .local ∨ E.kindOf x = some .cell ∨ E.kindOf x = some .free := by first | exact Or.inl rfl | exact Or.inr (Or.inl rfl) | exact Or.inr (Or.inr rfl))
    (hd : (x == ("__debug__" : Str)) = false := by decide) (hc : (x == ("__classdict__" : Str)) = false := by decide) : Named E x := ⟨hx, hd, hc⟩
theorem vf {x : Str} {pos : Pos} {k : Nat} {ds : List Dv} {d : Dv} (h : Df G k x ds d) (hx : E.kindOf x = some .globalImplicit := by rfl) (hd : (x == ("__debug__" : Str)) = false := by decide) : Ev G n E ρ (.Name x pos) (.fn x) := Ev.fn hx h.mg hd
theorem vc {x : Str} {pos : Pos} {d : Dv} (h : G.cst x = some d) (hx : E.kindOf x = some .globalImplicit := by rfl) (hd : (x == ("__debug__" : Str)) = false := by decide) : Ev G n E ρ (.Name x pos) d := Ev.cst hx h hd
theorem i_ {i : Int} {k : Nat} {pos : Pos} : Ev G n E ρ (.Constant (.int i) k pos) (.int i) := Ev.int i k pos
theorem b_ {b : Bool} {k : Nat} {pos : Pos} : Ev G n E ρ (.Constant (.bool b) k pos) (.bool b) := Ev.bool b k pos
theorem neg {e : Expr} {pos : Pos} {i : Int} (h : Ev G n E ρ e (.int i)) : Ev G n E ρ (.UnaryOp .USub e pos) (.int (-i)) := Ev.unop h (Op1.neg _)
theorem not_ {e : Expr} {pos : Pos} {b : Bool} (h : Ev G n E ρ e (.bool b)) : Ev G n E ρ (.UnaryOp .Not e pos) (.bool (!b)) := Ev.unop h (Op1.not _)
section
variable {l r : Expr} {pos : Pos} {i j : Int}
theorem add (hl : Ev G n E ρ l (.int i)) (hr : Ev G n E ρ r (.int j)) : Ev G n E ρ (.BinOp l .Add r pos) (.int (i + j)) := Ev.binop hl hr (Op2.add _ _)
theorem sub (hl : Ev G n E ρ l (.int i)) (hr : Ev G n E ρ r (.int j)) : Ev G n E ρ (.BinOp l .Sub r pos) (.int (i - j)) := Ev.binop hl hr (Op2.sub _ _)
theorem mul (hl : Ev G n E ρ l (.int i)) (hr : Ev G n E ρ r (.int j)) (h : i.natAbs < 2 ^ 64) : Ev G n E ρ (.BinOp l .Mult r pos) (.int (i * j)) := Ev.binop hl hr (Op2.mul _ _ h)
theorem fdiv (hl : Ev G n E ρ l (.int i)) (hr : Ev G n E ρ r (.int j)) (h : j ≠ 0) (hj : j.natAbs < 2 ^ 29) : Ev G n E ρ (.BinOp l .FloorDiv r pos) (.int (i.fdiv j)) := Ev.binop hl hr (Op2.fdiv _ _ h hj)
theorem fmod (hl : Ev G n E ρ l (.int i)) (hr : Ev G n E ρ r (.int j)) (h : j ≠ 0) : Ev G n E ρ (.BinOp l .Mod r pos) (.int (i.fmod j)) := Ev.binop hl hr (Op2.fmod _ _ h)
theorem band (hl : Ev G n E ρ l (.int i)) (hr : Ev G n E ρ r (.int j)) : Ev G n E ρ (.BinOp l .BitAnd r pos) (.int (Builtin.bitAnd i j)) := Ev.binop hl hr (Op2.band _ _)
theorem bor (hl : Ev G n E ρ l (.int i)) (hr : Ev G n E ρ r (.int j)) : Ev G n E ρ (.BinOp l .BitOr r pos) (.int (Builtin.bitOr i j)) := Ev.binop hl hr (Op2.bor _ _)
theorem shl (hl : Ev G n E ρ l (.int i)) (hr : Ev G n E ρ r (.int j)) (h0 : 0 ≤ j) (h1 : j ≤ 1000000) (h2 : i.natAbs < 2 ^ 64) : Ev G n E ρ (.BinOp l .LShift r pos) (.int (i * 2 ^ j.toNat)) := Ev.binop hl hr (Op2.shl _ _ h0 h1 h2)
theorem pow (hl : Ev G n E ρ l (.int i)) (hr : Ev G n E ρ r (.int j)) (h0 : 0 ≤ j) (h1 : j ≤ 1000000) (h2 : i.natAbs < 2 ^ 64) : Ev G n E ρ (.BinOp l .Pow r pos) (.int (i ^ j.toNat)) := Ev.binop hl hr (Op2.pow _ _ h0 h1 h2)
theorem cat {as bs : List Dv} (hl : Ev G n E ρ l (.lst as)) (hr : Ev G n E ρ r (.lst bs)) (h : as.length + bs.length ≤ 2 ^ 20) : Ev G n E ρ (.BinOp l .Add r pos) (.lst (as ++ bs)) := Ev.binop hl hr (Op2.cat h)
-- tests
theorem tlt (hl : Ev G n E ρ l (.int i)) (hr : Ev G n E ρ r (.int j)) (hm : behindInMarks .Lt r = false := by rfl) : Tst G n E ρ (.Compare l [.Lt] [r] pos) (decide (i < j)) := Tst.cmp hl hr (Op2.lt _ _) hm
theorem tle (hl : Ev G n E ρ l (.int i)) (hr : Ev G n E ρ r (.int j)) (hm : behindInMarks .LtE r = false := by rfl) : Tst G n E ρ (.Compare l [.LtE] [r] pos) (decide (i ≤ j)) := Tst.cmp hl hr (Op2.le _ _) hm
theorem tgt (hl : Ev G n E ρ l (.int i)) (hr : Ev G n E ρ r (.int j)) (hm : behindInMarks .Gt r = false := by rfl) : Tst G n E ρ (.Compare l [.Gt] [r] pos) (decide (j < i)) := Tst.cmp hl hr (Op2.gt _ _) hm
theorem tge (hl : Ev G n E ρ l (.int i)) (hr : Ev G n E ρ r (.int j)) (hm : behindInMarks .GtE r = false := by rfl) : Tst G n E ρ (.Compare l [.GtE] [r] pos) (decide (j ≤ i)) := Tst.cmp hl hr (Op2.ge _ _) hm
theorem teq (hl : Ev G n E ρ l (.int i)) (hr : Ev G n E ρ r (.int j)) (hm : behindInMarks .Eq r = false := by rfl) : Tst G n E ρ (.Compare l [.Eq] [r] pos) (decide (i = j)) := Tst.cmp hl hr (Op2.eq _ _) hm
theorem tne (hl : Ev G n E ρ l (.int i)) (hr : Ev G n E ρ r (.int j)) (hm : behindInMarks .NotEq r = false := by rfl) : Tst G n E ρ (.Compare l [.NotEq] [r] pos) (decide (i ≠ j)) := Tst.cmp hl hr (Op2.ne _ _) hm
theorem tbeq {a b : Bool} (hl : Ev G n E ρ l (.bool a)) (hr : Ev G n E ρ r (.bool b)) (hm : behindInMarks .Eq r = false := by rfl) : Tst G n E ρ (.Compare l [.Eq] [r] pos) (a == b) := Tst.cmp hl hr (Op2.beq _ _) hm
theorem Tst.is {e : Expr} {b c : Bool} (h : Tst G n E ρ e c) (hc : c = b) : Tst G n E ρ e b := hc ▸ h
theorem Tst.yes {e : Expr} {p : Prop} {_ : Decidable p} (h : Tst G n E ρ e (decide p)) (hc : p) : Tst G n E ρ e true := by rwa [decide_eq_true hc] at h
theorem Tst.no {e : Expr} {p : Prop} {_ : Decidable p} (h : Tst G n E ρ e (decide p)) (hc : ¬ p) : Tst G n E ρ e false := by rwa [decide_eq_false hc] at h
theorem Ev.is {e : Expr} {d d' : Dv} (h : Ev G n E ρ e d) (hd : d = d') : Ev G n E ρ e d' := hd ▸ h
-- as values
theorem lt (hl : Ev G n E ρ l (.int i)) (hr : Ev G n E ρ r (.int j)) (hm : behindInMarks .Lt r = false := by rfl) : Ev G n E ρ (.Compare l [.Lt] [r] pos) (.bool (decide (i < j))) := Ev.cmp hl hr (Op2.lt _ _) hm
theorem gt (hl : Ev G n E ρ l (.int i)) (hr : Ev G n E ρ r (.int j)) (hm : behindInMarks .Gt r = false := by rfl) : Ev G n E ρ (.Compare l [.Gt] [r] pos) (.bool (decide (j < i))) := Ev.cmp hl hr (Op2.gt _ _) hm
theorem bne_ {a b : Bool} (hl : Ev G n E ρ l (.bool a)) (hr : Ev G n E ρ r (.bool b)) (hm : behindInMarks .NotEq r = false := by rfl) : Ev G n E ρ (.Compare l [.NotEq] [r] pos) (.bool (a != b)) := Ev.cmp hl hr (Op2.bne _ _) hm
theorem eqNil {as : List Dv} (hl : Ev G n E ρ l (.lst as)) (hr : Ev G n E ρ r (.lst [])) (hm : behindInMarks .Eq r = false := by rfl) : Ev G n E ρ (.Compare l [.Eq] [r] pos) (.bool (decide (as = []))) := Ev.cmp hl hr Op2.eqNil hm
end
theorem idx {e ie : Expr} {pos : Pos} {ds : List Dv} {k : Int} {i : Nat} {d : Dv} (he : Ev G n E ρ e (.lst ds)) (hi : Ev G n E ρ ie (.int k)) (hk : k = (i : Int)) (h : ds[i]? = some d) (hb : ds.length ≤ 2 ^ 20)
    (hs : ∀ l u, subscripted ie false (.ref l) (.int k u) = operate [.ref l, .int k u] (getItem (.ref l) (.int k u)) := by exact fun _ _ => rfl) : Ev G n E ρ (.Subscript e ie pos) d :=
  Ev.sub he hi (Op2.item hk (by have := (List.getElem?_eq_some_iff.mp h).1; omega) h hs)
theorem idxNeg {e ie : Expr} {pos : Pos} {ds : List Dv} {k : Int} {i : Nat} {d : Dv} (he : Ev G n E ρ e (.lst ds)) (hi : Ev G n E ρ ie (.int k)) (hk : k + ds.length = (i : Int)) (h0 : k < 0) (h1 : -(2 ^ 62) < k) (h : ds[i]? = some d)
    (hs : ∀ l u, subscripted ie false (.ref l) (.int k u) = operate [.ref l, .int k u] (getItem (.ref l) (.int k u)) := by exact fun _ _ => rfl) : Ev G n E ρ (.Subscript e ie pos) d :=
  Ev.sub he hi (Op2.itemNeg hk h0 h1 h hs)
theorem idxT {e ie : Expr} {pos : Pos} {ds : List Dv} {k : Int} {i : Nat} {d : Dv} (he : Ev G n E ρ e (.tup ds)) (hi : Ev G n E ρ ie (.int k)) (hk : k = (i : Int) := by rfl) (h : ds[i]? = some d := by rfl) (hb : i < 100 := by decide)
    (hs : ∀ l u, subscripted ie false (.ref l) (.int k u) = operate [.ref l, .int k u] (getItem (.ref l) (.int k u)) := by exact fun _ _ => rfl) : Ev G n E ρ (.Subscript e ie pos) d :=
  Ev.sub he hi (Op2.itemT hk (by omega) h hs)
theorem idxO {x : Str} {ie : Expr} {xp pos : Pos} {ds : List Dv} {k : Int} {i : Nat} {d : Dv} (hv : ρ.lookup x = some (.own ds)) (hi : Ev G n E ρ ie (.int k)) (hk : k = (i : Int)) (h : ds[i]? = some d) (hb : ds.length ≤ 2 ^ 20) (hx : Named E x := by exact nm_)
    (hs : ∀ l u, subscripted ie false (.ref l) (.int k u) = operate [.ref l, .int k u] (getItem (.ref l) (.int k u)) := by exact fun _ _ => rfl) : Ev G n E ρ (.Subscript (.Name x xp) ie pos) d :=
  Ev.ownItem hv hx.1 hi hk (by have := (List.getElem?_eq_some_iff.mp h).1; omega) h hs hx.2.1 hx.2.2
theorem tup_ {es : List Expr} {k : Nat} {pos : Pos} {ds : List Dv} (h : EvL G n E ρ es pos ds) (hsz : ds.length ≤ 1000 := by exact Nat.le_of_ble_eq_true rfl) : Ev G n E ρ (.Tuple es k pos) (.tup ds) := Ev.tuple h hsz
theorem lst_ {es : List Expr} {pos : Pos} {ds : List Dv} (h : EvL G n E ρ es pos ds) (hsz : ds.length ≤ 1000 := by exact Nat.le_of_ble_eq_true rfl) : Ev G n E ρ (.List es pos) (.lst ds) := Ev.list h hsz
-- calls
theorem e0 {pos : Pos} : EvL G n E ρ [] pos [] := EvL.nil _
theorem ec {e : Expr} {es : List Expr} {pos : Pos} {d : Dv} {ds : List Dv} (h : Ev G n E ρ e d) (hs : EvL G n E ρ es pos ds) (he : ∀ E, starEach (e :: es) E = (false, eval e E) :: starEach es E := by exact fun _ => rfl) : EvL G n E ρ (e :: es) pos (d :: ds) := EvL.cons h hs he
theorem call {fe e : Expr} {es : List Expr} {pos : Pos} {f : Str} {ds : List Dv} {d : Dv} (hc : Df G n f ds d) (hf : Ev G n E ρ fe (.fn f)) (hs : EvL G n E ρ (e :: es) pos ds)
    (he : ∀ E, eval (.Call fe (e :: es) [] pos) E = (do callWith pos (← eval fe E) [] (backTo pos (starEach (e :: es) E)) (backToKw pos (keywordEach [] E))) := by exact fun _ => rfl)
    (hst : ∀ E, starEach (e :: es) E = (false, eval e E) :: starEach es E := by exact fun _ => rfl) : Ev G n E ρ (.Call fe (e :: es) [] pos) d := Ev.call hf hs hc.fn hc.mem he hst
/-- a call of a def by its own name -/
theorem gcall {x : Str} {e : Expr} {es : List Expr} {p pos : Pos} {ds : List Dv} {d : Dv} (hc : Df G n x ds d) (hs : EvL G n E ρ (e :: es) pos ds) (hx : E.kindOf x = some .globalImplicit := by rfl) (hd : (x == ("__debug__" : Str)) = false := by decide)
    (hst : ∀ E, starEach (e :: es) E = (false, eval e E) :: starEach es E := by exact fun _ => rfl) : Ev G n E ρ (.Call (.Name x p) (e :: es) [] pos) d := call hc (vf hc hx hd) hs (fun _ => rfl) hst
theorem len {e : Expr} {p pos : Pos} {ds : List Dv} (o : OkG G) (h : Ev G n E ρ e (.lst ds)) (hl : ds.length ≤ 2 ^ 20) (hx : E.kindOf (str "len") = some .globalImplicit := by rfl) (hst : ∀ E, starEach [e] E = [(false, eval e E)] := by exact fun _ => rfl) :
    Ev G n E ρ (.Call (.Name (str "len") p) [e] [] pos) (.int ds.length) := Ev.bcall hx boot_len (by decide) o.len (ec h e0 hst) (OpL.len (by omega)) hst (fun _ => rfl) (by decide)
theorem abs_ {e : Expr} {p pos : Pos} {i : Int} (o : OkG G) (h : Ev G n E ρ e (.int i)) (hx : E.kindOf (str "abs") = some .globalImplicit := by rfl) (hst : ∀ E, starEach [e] E = [(false, eval e E)] := by exact fun _ => rfl) :
    Ev G n E ρ (.Call (.Name (str "abs") p) [e] [] pos) (.int i.natAbs) := Ev.bcall hx boot_abs (by decide) o.abs (ec h e0 hst) (OpL.abs _) hst (fun _ => rfl) (by decide)
theorem intI {e : Expr} {p pos : Pos} {i : Int} (o : OkG G) (h : Ev G n E ρ e (.int i)) (hx : E.kindOf (str "int") = some .globalImplicit := by rfl) (hst : ∀ E, starEach [e] E = [(false, eval e E)] := by exact fun _ => rfl) :
    Ev G n E ρ (.Call (.Name (str "int") p) [e] [] pos) (.int i) := Ev.tcall hx PyProof.Rows.boot_int (by decide) o.int (ec h e0 hst) (OpL.intI _) hst (fun _ => rfl) (by decide)
theorem intB {e : Expr} {p pos : Pos} {i : Bool} (o : OkG G) (h : Ev G n E ρ e (.bool i)) (hx : E.kindOf (str "int") = some .globalImplicit := by rfl) (hst : ∀ E, starEach [e] E = [(false, eval e E)] := by exact fun _ => rfl) :
    Ev G n E ρ (.Call (.Name (str "int") p) [e] [] pos) (.int (if i then 1 else 0)) := Ev.tcall hx PyProof.Rows.boot_int (by decide) o.int (ec h e0 hst) (OpL.intB _) hst (fun _ => rfl) (by decide)
theorem max_ {e e' : Expr} {p pos : Pos} {i j : Int} (o : OkG G) (h : Ev G n E ρ e (.int i)) (h' : Ev G n E ρ e' (.int j)) (hx : E.kindOf (str "max") = some .globalImplicit := by rfl) (hst : ∀ E, starEach [e, e'] E = (false, eval e E) :: starEach [e'] E := by exact fun _ => rfl)
    (hst' : ∀ E, starEach [e'] E = [(false, eval e' E)] := by exact fun _ => rfl) : Ev G n E ρ (.Call (.Name (str "max") p) [e, e'] [] pos) (.int (max i j)) :=
  Ev.bcall hx boot_max (by decide) o.max (ec h (ec h' e0 hst') hst) (OpL.max _ _) hst (fun E => by rw [hst' E]; rfl) (by decide)
theorem min_ {e e' : Expr} {p pos : Pos} {i j : Int} (o : OkG G) (h : Ev G n E ρ e (.int i)) (h' : Ev G n E ρ e' (.int j)) (hx : E.kindOf (str "min") = some .globalImplicit := by rfl) (hst : ∀ E, starEach [e, e'] E = (false, eval e E) :: starEach [e'] E := by exact fun _ => rfl)
    (hst' : ∀ E, starEach [e'] E = [(false, eval e' E)] := by exact fun _ => rfl) : Ev G n E ρ (.Call (.Name (str "min") p) [e, e'] [] pos) (.int (min i j)) :=
  Ev.bcall hx boot_min (by decide) o.min (ec h (ec h' e0 hst') hst) (OpL.min _ _) hst (fun E => by rw [hst' E]; rfl) (by decide)
-- what a for runs over
theorem rng1 {e : Expr} {p pos : Pos} {k : Int} {N : Nat} (o : OkG G) (h : Ev G n E ρ e (.int k)) (hN : k = (N : Int)) (hb : N < 2 ^ 60) (hx : E.kindOf (str "range") = some .globalImplicit := by rfl) (hst : ∀ E, starEach [e] E = [(false, eval e E)] := by exact fun _ => rfl) :
    EvI G n E ρ (.Call (.Name (str "range") p) [e] [] pos) N (fun i => .int i) False := EvI.range1 h hN hb hx PyProof.Rows.boot_range (by decide) o.range hst (by decide)
theorem rng2 {e e' : Expr} {p pos : Pos} {a b : Int} {N : Nat} (o : OkG G) (h : Ev G n E ρ e (.int a)) (h' : Ev G n E ρ e' (.int b)) (hN : (b - a).toNat = N) (hb : -(2 ^ 61) ≤ a ∧ a < 2 ^ 61 ∧ -(2 ^ 61) ≤ b ∧ b < 2 ^ 61) (hx : E.kindOf (str "range") = some .globalImplicit := by rfl)
    (hst : ∀ E, starEach [e, e'] E = (false, eval e E) :: starEach [e'] E := by exact fun _ => rfl) (hst' : ∀ E, starEach [e'] E = [(false, eval e' E)] := by exact fun _ => rfl) :
    EvI G n E ρ (.Call (.Name (str "range") p) [e, e'] [] pos) N (fun i => .int (a + i)) False := EvI.range2 h h' hN hb hx PyProof.Rows.boot_range (by decide) o.range hst hst' (by decide)
theorem rng3 {e e' e'' : Expr} {p pos : Pos} {a b : Int} {N : Nat} (o : OkG G) (h : Ev G n E ρ e (.int a)) (h' : Ev G n E ρ e' (.int b)) (h'' : Ev G n E ρ e'' (.int (-1))) (hN : (a - b).toNat = N) (hb : -(2 ^ 61) ≤ a ∧ a < 2 ^ 61 ∧ -(2 ^ 61) ≤ b ∧ b < 2 ^ 61) (hx : E.kindOf (str "range") = some .globalImplicit := by rfl)
    (hst : ∀ E, starEach [e, e', e''] E = (false, eval e E) :: starEach [e', e''] E := by exact fun _ => rfl) (hst' : ∀ E, starEach [e', e''] E = (false, eval e' E) :: starEach [e''] E := by exact fun _ => rfl) (hst'' : ∀ E, starEach [e''] E = [(false, eval e'' E)] := by exact fun _ => rfl) :
    EvI G n E ρ (.Call (.Name (str "range") p) [e, e', e''] [] pos) N (fun i => .int (a - i)) False := EvI.range3 h h' h'' hN hb hx PyProof.Rows.boot_range (by decide) o.range hst hst' hst'' (by decide)

/-- names that may be stored -/
inductive Nms (E : Env) : List Str → Prop
  | nil : Nms E []
  | cons {x : Str} {xs : List Str} (h : E.kindOf x = some .local ∨ E.kindOf x = some .cell) (hs : Nms E xs) : Nms E (x :: xs)
theorem Nms.all {xs : List Str} (h : Nms E xs) : ∀ x ∈ xs, E.kindOf x = some .local ∨ E.kindOf x = some .cell := by
  induction h with
  | nil => intro x hx; cases hx
  | cons h _ ih => intro x hx; cases hx with
    | head => exact h
    | tail _ hx => exact ih x hx
-- values and lists of one's own
theorem q0 {pos : Pos} : EvPL G n E ρ [] pos [] := EvPL.nil _
theorem qc {e : Expr} {es : List Expr} {pos : Pos} {V : Va} {Vs : List Va} (h : EvP G n E ρ e V) (hs : EvPL G n E ρ es pos Vs) (he : ∀ E, starEach (e :: es) E = (false, eval e E) :: starEach es E := by exact fun _ => rfl) : EvPL G n E ρ (e :: es) pos (V :: Vs) := EvPL.cons h hs he
theorem p_ {e : Expr} {d : Dv} (h : Ev G n E ρ e d) : EvP G n E ρ e (.fr d) := EvP.of h
theorem onil {pos : Pos} : EvP G n E ρ (.List [] pos) (.own []) := EvP.list e0 (by decide)

-- statements
theorem st1 {x : Str} {px pos : Pos} {e : Expr} {V : Va} {rest : List Stmt} {P : St → Prop} {Rt : Dv → St → Prop} (h : EvP G n E ρ e V) (hr : Ex G n E (St.set ρ x V) rest P Rt) (hx : E.kindOf x = some .local ∨ E.kindOf x = some .cell := by first | exact Or.inl rfl | exact Or.inr rfl)
    (hs : swapsWith e (some (.Name x px)) pos.line E = pure false := by rfl) : Ex G n E ρ (.Assign [.Name x px] e pos :: rest) P Rt := Ex.cons (Ex1.assign h hx hs) hr
theorem isub {x : Str} {px pos : Pos} {e : Expr} {i j : Int} {rest : List Stmt} {P : St → Prop} {Rt : Dv → St → Prop} (h : Ev G n E ρ e (.int j)) (hv : ρ.lookup x = some (.fr (.int i))) (hr : Ex G n E (St.set ρ x (.fr (.int (i - j)))) rest P Rt) (hx : E.kindOf x = some .local := by rfl) :
    Ex G n E ρ (.AugAssign (.Name x px) .Sub e pos :: rest) P Rt := Ex.cons (Ex1.aug hv h (Op2.isub _ _) hx) hr
theorem iadd {x : Str} {px pos : Pos} {e : Expr} {i j : Int} {rest : List Stmt} {P : St → Prop} {Rt : Dv → St → Prop} (h : Ev G n E ρ e (.int j)) (hv : ρ.lookup x = some (.fr (.int i))) (hr : Ex G n E (St.set ρ x (.fr (.int (i + j)))) rest P Rt) (hx : E.kindOf x = some .local := by rfl) :
    Ex G n E ρ (.AugAssign (.Name x px) .Add e pos :: rest) P Rt := Ex.cons (Ex1.aug hv h (Op2.iadd _ _) hx) hr
theorem ishr {x : Str} {px pos : Pos} {e : Expr} {i j : Int} {rest : List Stmt} {P : St → Prop} {Rt : Dv → St → Prop} (h : Ev G n E ρ e (.int j)) (hj : 0 ≤ j) (hv : ρ.lookup x = some (.fr (.int i))) (hr : Ex G n E (St.set ρ x (.fr (.int (i.fdiv (2 ^ j.toNat))))) rest P Rt) (hx : E.kindOf x = some .local := by rfl) :
    Ex G n E ρ (.AugAssign (.Name x px) .RShift e pos :: rest) P Rt := Ex.cons (Ex1.aug hv h (Op2.ishr _ _ hj) hx) hr
theorem imod {x : Str} {px pos : Pos} {e : Expr} {i j : Int} {rest : List Stmt} {P : St → Prop} {Rt : Dv → St → Prop} (h : Ev G n E ρ e (.int j)) (hj : j ≠ 0) (hv : ρ.lookup x = some (.fr (.int i))) (hr : Ex G n E (St.set ρ x (.fr (.int (i.fmod j)))) rest P Rt) (hx : E.kindOf x = some .local := by rfl) :
    Ex G n E ρ (.AugAssign (.Name x px) .Mod e pos :: rest) P Rt := Ex.cons (Ex1.aug hv h (Op2.imod _ _ hj) hx) hr
theorem app {x : Str} {xp apos cpos pos : Pos} {e : Expr} {ds : List Dv} {d : Dv} {rest : List Stmt} {P : St → Prop} {Rt : Dv → St → Prop} (hv : ρ.lookup x = some (.own ds)) (h : Ev G n E ρ e d) (hsz : ds.length ≤ 2 ^ 20) (hr : Ex G n E (St.set ρ x (.own (ds ++ [d]))) rest P Rt) (hx : Named E x := by exact nm_)
    (hbase : attributeBase (.Name x xp) "append" E (eval (.Name x xp) E) = eval (.Name x xp) E := by rfl)
    (hfew : ((backTo cpos (starEach [e] E)).all (fun x => !x.1) && (backToKw cpos (keywordEach [] E)).all (fun x => x.1.isSome) && decide ([e].length + ([] : List Keyword).length + (if ([] : List Keyword).isEmpty then 0 else 1) < 30)) = true := by rfl)
    (hline : (apos.endLine == cpos.line) = true := by rfl) (ht : backTo cpos (starEach [e] E) = [(false, eval e E)] := by rfl) (hi : interactive E = false := by rfl)
    (hs : swapsWith (.Call (.Attribute (.Name x xp) "append" apos) [e] [] cpos) none pos.line E = pure false := by rfl) :
    Ex G n E ρ (.Expr (.Call (.Attribute (.Name x xp) "append" apos) [e] [] cpos) pos :: rest) P Rt := Ex.cons (Ex1.append hv hx h hsz hbase hfew hline ht hi hs) hr
theorem put {x : Str} {xp spos pos : Pos} {ie e : Expr} {ds : List Dv} {d : Dv} {k : Int} {i : Nat} {rest : List Stmt} {P : St → Prop} {Rt : Dv → St → Prop} (hv : ρ.lookup x = some (.own ds)) (h : Ev G n E ρ e d) (hi : Ev G n E ρ ie (.int k)) (hk : k = (i : Int)) (hi' : i < ds.length)
    (hsz : ds.length ≤ 2 ^ 20) (hr : Ex G n E (St.set ρ x (.own (ds.set i d))) rest P Rt) (hx : Named E x := by exact nm_) (hs : swapsWith e (some (.Subscript (.Name x xp) ie spos)) pos.line E = pure false := by rfl) :
    Ex G n E ρ (.Assign [.Subscript (.Name x xp) ie spos] e pos :: rest) P Rt := Ex.cons (Ex1.setItem hv hx h hi hk hi' hsz hs) hr
theorem if1 {t : Expr} {s : Stmt} {b rest : List Stmt} {pos : Pos} {ρ' : St} {P : St → Prop} {Rt : Dv → St → Prop} (ht : Tst G n E ρ t true) (h : Ex1 G n E ρ s ρ') (hr : Ex G n E ρ' rest P Rt) : Ex G n E ρ (.If t [s] b pos :: rest) P Rt :=
  Ex.ifT ht (fun ρ'' => ρ'' = ρ') (Ex.cons h (Ex.nil rfl)) (fun ρ'' e => e ▸ hr)
theorem app1 {x : Str} {xp apos cpos pos : Pos} {e : Expr} {ds : List Dv} {d : Dv} (hv : ρ.lookup x = some (.own ds)) (h : Ev G n E ρ e d) (hsz : ds.length ≤ 2 ^ 20) (hx : Named E x := by exact nm_)
    (hbase : attributeBase (.Name x xp) "append" E (eval (.Name x xp) E) = eval (.Name x xp) E := by rfl)
    (hfew : ((backTo cpos (starEach [e] E)).all (fun x => !x.1) && (backToKw cpos (keywordEach [] E)).all (fun x => x.1.isSome) && decide ([e].length + ([] : List Keyword).length + (if ([] : List Keyword).isEmpty then 0 else 1) < 30)) = true := by rfl)
    (hline : (apos.endLine == cpos.line) = true := by rfl) (ht : backTo cpos (starEach [e] E) = [(false, eval e E)] := by rfl) (hi : interactive E = false := by rfl)
    (hs : swapsWith (.Call (.Attribute (.Name x xp) "append" apos) [e] [] cpos) none pos.line E = pure false := by rfl) :
    Ex1 G n E ρ (.Expr (.Call (.Attribute (.Name x xp) "append" apos) [e] [] cpos) pos) (St.set ρ x (.own (ds ++ [d]))) := Ex1.append hv hx h hsz hbase hfew hline ht hi hs
theorem ret {e : Expr} {pos : Pos} {rest : List Stmt} {d : Dv} {P : St → Prop} {d' : Dv} (h : Ev G n E (frz ρ) e d') (hd : d' = d) : Ex G n E ρ (.Return (some e) pos :: rest) P (fun d' _ => d' = d) := Ex.retF h hd
theorem sw {elts es : List Expr} {k k' : Nat} {tpos vpos pos : Pos} (xs : List Str) {Vs : List Va} {rest : List Stmt} {P : St → Prop} {Rt : Dv → St → Prop} (h : EvPL G n E ρ es vpos Vs) (hr : Ex G n E (setAll ρ xs.reverse Vs.reverse) rest P Rt)
    (hlen : es.length = Vs.length ∧ Vs.length ≤ 100 := by exact ⟨rfl, Nat.le_of_ble_eq_true rfl⟩) (hl : xs.length = Vs.length := by rfl) (hx : Nms E xs := by repeat (first | exact Nms.nil | refine Nms.cons (by first | exact Or.inl rfl | exact Or.inr rfl) ?_)) (hs : swapsWithSole [.Tuple elts k tpos] (.Tuple es k' vpos) pos.line E = pure false := by rfl)
    (hw : swappedStores [.Tuple elts k tpos] (.Tuple es k' vpos) E = pure (some xs) := by rfl) : Ex G n E ρ (.Assign [.Tuple elts k tpos] (.Tuple es k' vpos) pos :: rest) P Rt := Ex.cons (Ex1.assignS h hlen hl hx.all hs hw) hr
theorem tv {elts : List Expr} {k : Nat} {tpos pos : Pos} {e : Expr} (xs : List Str) {ds : List Dv} {rest : List Stmt} {P : St → Prop} {Rt : Dv → St → Prop} (h : Ev G n E ρ e (.tup ds)) (hr : Ex G n E (setAll ρ xs (ds.map .fr)) rest P Rt)
    (ht : Stores E ((assignEach elts E).map (·.2)) xs := by repeat (first | exact Stores.nil | refine Stores.cons (isStore_Name _ _) ?_)) (hl : (assignEach elts E).length = ds.length := by rfl) (hstar : (assignEach elts E).findIdx? (·.1) = none := by rfl)
    (hx : Nms E xs := by repeat (first | exact Nms.nil | refine Nms.cons (by first | exact Or.inl rfl | exact Or.inr rfl) ?_)) (hs : swapsWithSole [.Tuple elts k tpos] e pos.line E = pure false := by rfl)
    (hw : swappedStores [.Tuple elts k tpos] e E = pure none := by rfl) : Ex G n E ρ (.Assign [.Tuple elts k tpos] e pos :: rest) P Rt := Ex.cons (Ex1.assignV h ht hl hstar hx.all hs hw) hr
/-- a tuple of four and more -/
theorem tw {elts es : List Expr} {k k' : Nat} {tpos vpos pos : Pos} (xs : List Str) {Vs : List Va} {rest : List Stmt} {P : St → Prop} {Rt : Dv → St → Prop} (h : EvPL G n E ρ es vpos Vs) (hr : Ex G n E (setAll ρ xs Vs) rest P Rt)
    (hlen : es.length = Vs.length ∧ Vs.length ≤ 100 := by exact ⟨rfl, Nat.le_of_ble_eq_true rfl⟩) (ht : Stores E ((assignEach elts E).map (·.2)) xs := by repeat (first | exact Stores.nil | refine Stores.cons (isStore_Name _ _) ?_)) (hl : (assignEach elts E).length = Vs.length := by rfl) (hstar : (assignEach elts E).findIdx? (·.1) = none := by rfl)
    (hx : Nms E xs := by repeat (first | exact Nms.nil | refine Nms.cons (by first | exact Or.inl rfl | exact Or.inr rfl) ?_)) (hs : swapsWithSole [.Tuple elts k tpos] (.Tuple es k' vpos) pos.line E = pure false := by rfl)
    (hw : swappedStores [.Tuple elts k tpos] (.Tuple es k' vpos) E = pure none := by rfl) : Ex G n E ρ (.Assign [.Tuple elts k tpos] (.Tuple es k' vpos) pos :: rest) P Rt := Ex.cons (Ex1.assignT h hlen ht hl hstar hx.all hs hw) hr
theorem forN {x : Str} {xp pos : Pos} {iter : Expr} {body rest : List Stmt} {N : Nat} {it : Nat → Dv} {tp : Prop} {P : St → Prop} {Rt : Dv → St → Prop} (J : Nat → St) (hI : EvI G n E ρ iter N it tp) (h0 : Sub (J 0) ρ)
    (hb : ∀ i, i < N → Ex G n E (St.set (J i) x (.fr (it i))) body (fun ρ' => Sub (J (i + 1)) ρ') Rt) (hr : Ex G n E (J N) rest P Rt) (hx : E.kindOf x = some .local ∨ E.kindOf x = some .cell := by first | exact Or.inl rfl | exact Or.inr rfl)
    (hs : ∀ x, foldedSetIterable iter E x = pure x := by exact fun _ => rfl) : Ex G n E ρ (.For (.Name x xp) iter body [] pos :: rest) P Rt :=
  Ex.for_ J (fun _ => True) hI trivial (.inl fun _ _ => rfl) h0 (fun i hi _ => ⟨_, Asg.name hx, (hb i hi).mono (fun _ h => ⟨h, trivial⟩) fun _ _ h => h⟩) (fun _ => hr) hs
/-- with a fact that the turns hand on -/
theorem forV {x : Str} {xp pos : Pos} {iter : Expr} {body rest : List Stmt} {N : Nat} {it : Nat → Dv} {tp : Prop} {P : St → Prop} {Rt : Dv → St → Prop} (J : Nat → St) (Iv : Nat → Prop) (hI : EvI G n E ρ iter N it tp) (hv0 : Iv 0) (h0 : Sub (J 0) ρ)
    (hb : ∀ i, i < N → Iv i → Ex G n E (St.set (J i) x (.fr (it i))) body (fun ρ' => Sub (J (i + 1)) ρ' ∧ Iv (i + 1)) Rt) (hr : Iv N → Ex G n E (J N) rest P Rt) (hx : E.kindOf x = some .local ∨ E.kindOf x = some .cell := by first | exact Or.inl rfl | exact Or.inr rfl)
    (hs : ∀ x, foldedSetIterable iter E x = pure x := by exact fun _ => rfl) : Ex G n E ρ (.For (.Name x xp) iter body [] pos :: rest) P Rt :=
  Ex.for_ J Iv hI hv0 (.inl fun _ _ => rfl) h0 (fun i hi h => ⟨_, Asg.name hx, hb i hi h⟩) hr hs
theorem forP {x y : Str} {xp yp tp pos : Pos} {k : Nat} {iter : Expr} {body rest : List Stmt} {N : Nat} {it : Nat → Dv} {P : St → Prop} {Rt : Dv → St → Prop} (J : Nat → St) (hI : EvI G n E ρ iter N it True) (h0 : Sub (J 0) ρ)
    (hb : ∀ i, i < N → ∃ d e, it i = .tup [d, e] ∧ Ex G n E (St.set (St.set (J i) x (.fr d)) y (.fr e)) body (fun ρ' => Sub (J (i + 1)) ρ') Rt) (hr : Ex G n E (J N) rest P Rt) (hx : E.kindOf x = some .local ∨ E.kindOf x = some .cell := by first | exact Or.inl rfl | exact Or.inr rfl)
    (hy : E.kindOf y = some .local ∨ E.kindOf y = some .cell := by first | exact Or.inl rfl | exact Or.inr rfl) (hs : ∀ x, foldedSetIterable iter E x = pure x := by exact fun _ => rfl) : Ex G n E ρ (.For (.Tuple [.Name x xp, .Name y yp] k tp) iter body [] pos :: rest) P Rt :=
  Ex.for_ J (fun _ => True) hI trivial (.inr ⟨trivial, ⟨_, _, _, rfl⟩, fun i hi => let ⟨d, e, h, _⟩ := hb i hi; ⟨_, h⟩⟩) h0 (fun i hi _ => by obtain ⟨d, e, h, hE⟩ := hb i hi; rw [h]; exact ⟨_, Asg.pair hx hy, hE.mono (fun _ h => ⟨h, trivial⟩) fun _ _ h => h⟩) (fun _ => hr) hs
theorem forE {x y : Str} {zp xp yp tp cp pos : Pos} {k0 : Nat} {e : Expr} {body rest : List Stmt} {ds : List Dv} {P : St → Prop} {Rt : Dv → St → Prop} (o : OkG G) (J : Nat → St) (he : Ev G n E ρ e (.lst ds)) (h0 : Sub (J 0) ρ)
    (hb : ∀ i d, ds[i]? = some d → Ex G n E (St.set (St.set (J i) x (.fr (.int i))) y (.fr d)) body (fun ρ' => Sub (J (i + 1)) ρ') Rt) (hr : Ex G n E (J ds.length) rest P Rt)
    (hz : E.kindOf (str "enumerate") = some .globalImplicit := by rfl) (hst : ∀ E, starEach [e] E = [(false, eval e E)] := by exact fun _ => rfl)
    (hx : E.kindOf x = some .local ∨ E.kindOf x = some .cell := by first | exact Or.inl rfl | exact Or.inr rfl) (hy : E.kindOf y = some .local ∨ E.kindOf y = some .cell := by first | exact Or.inl rfl | exact Or.inr rfl)
    (hs : ∀ v, foldedSetIterable (.Call (.Name (str "enumerate") zp) [e] [] cp) E v = pure v := by exact fun _ => rfl) :
    Ex G n E ρ (.For (.Tuple [.Name x xp, .Name y yp] k0 tp) (.Call (.Name (str "enumerate") zp) [e] [] cp) body [] pos :: rest) P Rt :=
  Ex.forEnum J he hz PyProof.Rows.boot_enumerate (by decide) o.enum hst (by decide) hx hy h0 hb hr hs
end

-- bits
theorem band_mask (x w : Nat) : Builtin.bitAnd (x : Int) ((2 ^ w - 1 : Nat) : Int) = ((x % 2 ^ w : Nat) : Int) := by
  unfold Builtin.bitAnd
  rw [decide_eq_true (Int.natCast_nonneg x), decide_eq_true (Int.natCast_nonneg (2 ^ w - 1))]
  show (((x : Int).toNat &&& ((2 ^ w - 1 : Nat) : Int).toNat : Nat) : Int) = _
  rw [Int.toNat_natCast, Int.toNat_natCast, Nat.and_two_pow_sub_one_eq_mod]
theorem mask_is (w : Nat) : ((1 : Int) * 2 ^ ((w : Nat) : Int).toNat - 1) = ((2 ^ w - 1 : Nat) : Int) := by
  rw [Int.toNat_natCast, Int.one_mul, Int.natCast_sub (Nat.one_le_two_pow), Int.natCast_pow]; rfl
theorem base_is (w : Nat) : ((1 : Int) * 2 ^ ((w : Nat) : Int).toNat) = ((2 ^ w : Nat) : Int) := by
  rw [Int.toNat_natCast, Int.one_mul, Int.natCast_pow]; rfl
theorem shr_is (x w : Nat) : ((x : Int).fdiv (2 ^ ((w : Nat) : Int).toNat)) = ((x / 2 ^ w : Nat) : Int) := by
  rw [Int.toNat_natCast, Int.fdiv_eq_ediv_of_nonneg _ (by exact Int.le_of_lt (Int.pow_pos (by decide)))]
  simp
theorem bor_low (r a w : Nat) (h : a < 2 ^ w) : Builtin.bitOr ((r * 2 ^ w : Nat) : Int) (a : Int) = ((r * 2 ^ w + a : Nat) : Int) := by
  unfold Builtin.bitOr Builtin.bitAnd Builtin.bitNot
  have h1 : ¬ (0 : Int) ≤ -((r * 2 ^ w : Nat) : Int) - 1 := by omega
  have h2 : ¬ (0 : Int) ≤ -(a : Int) - 1 := by omega
  rw [decide_eq_false h1, decide_eq_false h2]
  simp only []
  rw [show (-(-((r * 2 ^ w : Nat) : Int) - 1) - 1).toNat = r * 2 ^ w by omega, show (-(-(a : Int) - 1) - 1).toNat = a by omega]
  rw [Nat.mul_comm r, ← Nat.two_pow_add_eq_or_of_lt h]
  omega
end Mine

end PartC0
section PartD1
set_option autoImplicit false
set_option linter.unusedVariables false
namespace Mine

/-- limbs of w bits -/
noncomputable def lim (w n j : Nat) : Nat := n / 2 ^ (w * j) % 2 ^ w
noncomputable def nl (w n : Nat) : Nat := if n = 0 then 0 else n.log2 / w + 1
noncomputable def tab (k : Nat) (f : Nat → Nat) : List Nat := (List.range k).map f
noncomputable def dg (w n : Nat) : List Nat := tab (nl w n) (lim w n)
/-- the last limb is not nought -/
noncomputable def Top1 (ys : List Nat) : Prop := ∀ x, ys.getLast? = some x → x ≠ 0

theorem tab_len (k : Nat) (f : Nat → Nat) : (tab k f).length = k := by simp [tab]
theorem tab_get {k i : Nat} {f : Nat → Nat} (h : i < k) : (tab k f)[i]? = some (f i) := by simp [tab, h]
theorem tab_congr {k : Nat} {f g : Nat → Nat} (h : ∀ i, i < k → f i = g i) : tab k f = tab k g := by
  unfold tab; exact List.map_congr_left fun i hi => h i (List.mem_range.mp hi)
theorem tab_succ (k : Nat) (f : Nat → Nat) : tab (k + 1) f = tab k f ++ [f k] := by simp [tab, List.range_succ]
theorem tab_set (k i x : Nat) (f : Nat → Nat) : (tab k f).set i x = tab k (fun j => if j = i then x else f j) := by
  apply List.ext_getElem?
  intro j
  by_cases hj : j < k
  · rw [tab_get hj, List.getElem?_set]
    by_cases e : i = j
    · subst e; simp [tab_len, hj]
    · have : ¬ j = i := fun q => e q.symm
      simp [e, this, tab_get hj]
  · have h1 : (tab k fun j => if j = i then x else f j).length ≤ j := by rw [tab_len]; omega
    have h2 : ((tab k f).set i x).length ≤ j := by rw [List.length_set, tab_len]; omega
    rw [List.getElem?_eq_none h1, List.getElem?_eq_none h2]
theorem tab_zero (k : Nat) (f : Nat → Nat) (h : ∀ i, i < k → f i = 0) : tab k f = List.replicate k 0 := by
  apply List.ext_getElem?
  intro j
  by_cases hj : j < k
  · rw [tab_get hj, List.getElem?_replicate, if_pos hj, h j hj]
  · rw [List.getElem?_eq_none (by rw [tab_len]; omega), List.getElem?_eq_none (by simp; omega)]
theorem tab_add (k l : Nat) (f : Nat → Nat) : tab (k + l) f = tab k f ++ tab l (fun j => f (k + j)) := by
  unfold tab
  rw [List.range_add, List.map_append, List.map_map]
  rfl

theorem p_succ (w j : Nat) : 2 ^ (w * (j + 1)) = 2 ^ (w * j) * 2 ^ w := by rw [Nat.mul_succ, Nat.pow_add]
theorem p_pos (w j : Nat) : 0 < 2 ^ (w * j) := Nat.two_pow_pos _
theorem p_mono (w : Nat) {i j : Nat} (h : i ≤ j) : 2 ^ (w * i) ≤ 2 ^ (w * j) := Nat.pow_le_pow_right (by decide) (Nat.mul_le_mul_left w h)
theorem p_add (w i j : Nat) : 2 ^ (w * (i + j)) = 2 ^ (w * i) * 2 ^ (w * j) := by rw [Nat.mul_add, Nat.pow_add]

theorem nl_zero (w : Nat) : nl w 0 = 0 := by simp [nl]
theorem nl_lt {w n : Nat} (hw : 0 < w) : n < 2 ^ (w * nl w n) := by
  unfold nl
  by_cases h : n = 0
  · subst h; simp
  · rw [if_neg h]
    refine Nat.lt_of_lt_of_le (Nat.lt_log2_self (n := n)) (Nat.pow_le_pow_right (by decide) ?_)
    have := Nat.lt_div_mul_add hw (a := n.log2)
    rw [Nat.mul_add, Nat.mul_one, Nat.mul_comm]
    omega
theorem nl_ge {w n : Nat} (h : n ≠ 0) : 2 ^ (w * (nl w n - 1)) ≤ n := by
  unfold nl
  rw [if_neg h, Nat.add_sub_cancel]
  refine Nat.le_trans (Nat.pow_le_pow_right (by decide) ?_) (Nat.log2_self_le h)
  rw [Nat.mul_comm]; exact Nat.div_mul_le_self ..
theorem nl_pos {w n : Nat} (h : n ≠ 0) : 0 < nl w n := by unfold nl; rw [if_neg h]; exact Nat.succ_pos _
theorem nl_le {w n k : Nat} (hw : 0 < w) (h : n < 2 ^ (w * k)) : nl w n ≤ k := by
  by_cases h0 : n = 0
  · subst h0; rw [nl_zero]; omega
  · apply Classical.byContradiction
    intro hc
    have h1 := nl_ge (w := w) h0
    have h2 := p_mono w (i := k) (j := nl w n - 1) (by omega)
    omega
theorem nl_gt {w n k : Nat} (hw : 0 < w) (h : 2 ^ (w * k) ≤ n) : k < nl w n := by
  apply Classical.byContradiction
  intro hc
  have h1 := nl_lt (n := n) hw
  have h2 := p_mono w (i := nl w n) (j := k) (by omega)
  omega
theorem nl_eq {w n k : Nat} (hw : 0 < w) (h1 : 2 ^ (w * k) ≤ n) (h2 : n < 2 ^ (w * (k + 1))) : nl w n = k + 1 := by
  have := nl_gt hw h1
  have := nl_le hw h2
  omega
theorem nl_le_of_le {w m n : Nat} (hw : 0 < w) (h : m ≤ n) : nl w m ≤ nl w n := nl_le hw (Nat.lt_of_le_of_lt h (nl_lt hw))

theorem dg_len (w n : Nat) : (dg w n).length = nl w n := tab_len ..
theorem dg_zero (w : Nat) : dg w 0 = [] := by simp [dg, nl_zero, tab]
theorem dg_get {w n i : Nat} (h : i < nl w n) : (dg w n)[i]? = some (lim w n i) := tab_get h
theorem lim_high {w n j : Nat} (hw : 0 < w) (h : nl w n ≤ j) : lim w n j = 0 := by
  unfold lim
  rw [Nat.div_eq_of_lt (Nat.lt_of_lt_of_le (nl_lt hw) (p_mono w h)), Nat.zero_mod]
theorem lim_lt (w n j : Nat) : lim w n j < 2 ^ w := Nat.mod_lt _ (Nat.two_pow_pos _)
theorem dg_top (w n : Nat) (hw : 0 < w) : Top1 (dg w n) := fun x hx => by
  by_cases h : n = 0
  · subst h; rw [dg_zero] at hx; cases hx
  · have hp := nl_pos (w := w) h
    rw [List.getLast?_eq_getElem?, dg_len, dg_get (by omega)] at hx
    obtain rfl := Option.some.inj hx
    unfold lim
    have h1 := nl_ge (w := w) h
    have h2 := nl_lt (n := n) hw
    rw [show nl w n = (nl w n - 1) + 1 by omega, p_succ] at h2
    rw [Nat.mod_eq_of_lt (Nat.div_lt_of_lt_mul (by rw [Nat.mul_comm] at h2; rw [Nat.mul_comm]; exact h2))]
    exact Nat.ne_of_gt (Nat.div_pos h1 (p_pos w _))
/-- more limbs than there are: noughts behind -/
theorem tab_dg {w n k : Nat} (hw : 0 < w) (h : nl w n ≤ k) : tab k (lim w n) = dg w n ++ List.replicate (k - nl w n) 0 := by
  have : k = nl w n + (k - nl w n) := by omega
  conv => lhs; rw [this]
  rw [tab_add, dg]
  congr 1
  exact tab_zero _ _ fun i _ => lim_high hw (by omega)
theorem dg_small {w n : Nat} (hw : 0 < w) (h0 : n ≠ 0) (h : n < 2 ^ w) : dg w n = [n] := by
  have h1 : nl w n = 1 := nl_eq (k := 0) hw (by simp; omega) (by simpa using h)
  simp [dg, h1, tab, List.range_succ, lim, Nat.mod_eq_of_lt h]

-- carries
theorem carry_mod (c M N b : Nat) : (c + M % b + N % b) % b = (c + M + N) % b := by
  rw [Nat.add_mod (c + M % b), Nat.add_mod c (M % b), Nat.mod_mod, Nat.mod_mod, ← Nat.add_mod c M, ← Nat.add_mod]
theorem carry_div (c M N b : Nat) (hb : 0 < b) : (c + M + N) / b = (c + M % b + N % b) / b + M / b + N / b := by
  have h1 : c + M + N = (c + M % b + N % b) + (M / b + N / b) * b := by
    have := Nat.div_add_mod M b
    have := Nat.div_add_mod N b
    rw [Nat.add_mul, Nat.mul_comm (M / b), Nat.mul_comm (N / b)]
    omega
  rw [h1, Nat.add_mul_div_right _ _ hb]; omega
theorem div_p (w n j : Nat) : n / 2 ^ (w * (j + 1)) = n / 2 ^ (w * j) / 2 ^ w := by rw [p_succ, Nat.div_div_eq_div_mul]
end Mine

end PartD1
section PartC1
open PySem PySem.Calls PyProof.Rows PySem.W
set_option Elab.async false
set_option maxRecDepth 100000
set_option autoImplicit false
set_option linter.unusedVariables false
set_option linter.unusedSimpArgs false
namespace Mine

theorem zeros_at (ys : List Nat) (z i : Nat) (h : i < z) : (ys ++ List.replicate z 0)[ys.length + z - i - 1]? = some 0 := by
  rw [List.getElem?_append_right (by omega)]
  rw [List.getElem?_replicate]
  rw [if_pos (by omega)]

theorem fn_normal {G : Cx} (o : OkG G) {n : Nat} (ys : List Nat) (z : Nat) (hl : ys.length + z ≤ 1000) (hy : Top1 ys) : Df G (n + 1) (str "normal") [Ls (ys ++ List.replicate z 0)] (Ls ys) := by
  refine Df.of (r := rc 4) (xs := [str "a"]) o 0 rfl rfl (fun L a cd => ?_) (fun pm cd doc vs h => by match vs, h with | [v], _ => rfl)
  have hln : (nats (ys ++ List.replicate z 0)).length = ys.length + z := by rw [nats_len]; simp
  refine st1 (p_ (len o v (by omega))) ?_
  rw [hln]
  refine Ex.while_ (N := z) (fun i => [(str "a", .fr (Ls (ys ++ List.replicate z 0))), (str "end", .fr (.int ((ys.length + z - i : Nat) : Int)))]) ?_ ?_ ?_ ?_ ?_
  · exact Sub.cons rfl (Sub.cons rfl (Sub.nil _))
  · intro i hi
    exact Tst.and_t ((tgt v i_).yes (by omega)) ((teq (idx (i := ys.length + z - i - 1) v (sub v i_) (by omega) (nats_at (zeros_at ys z i hi)) (by omega)) i_).yes rfl)
  · intro i hi
    exact isub i_ rfl (Ex.nil (Sub.cons rfl (Sub.cons (by rw [show ((ys.length + z - (i + 1) : Nat) : Int) = ((ys.length + z - i : Nat) : Int) - 1 by omega]; rfl) (Sub.nil _))))
  · cases hq : ys.getLast? with
    | none =>
      have : ys = [] := by simpa using hq
      subst this
      exact Tst.and_f ((tgt v i_).no (by simp))
    | some x =>
      have hne := hy x hq
      have hlen : 0 < ys.length := by cases ys with | nil => simp at hq | cons _ _ => simp
      have hget : (ys ++ List.replicate z 0)[ys.length - 1]? = some x := by
        rw [List.getElem?_append_left (by omega), ← List.getLast?_eq_getElem?]; exact hq
      exact Tst.and_t ((tgt v i_).yes (by omega)) ((teq (idx (i := ys.length - 1) v (sub v i_) (by omega) (nats_at hget) (by omega)) i_).no (by omega))
  · refine ret (Ev.upto (i := ys.length) v v (by omega) (by omega)) ?_
    simp [nats]

/-- limbs with noughts behind, made normal -/
theorem fn_normal' {G : Cx} (o : OkG G) {n : Nat} {w m k : Nat} (hw : 0 < w) (hk : nl w m ≤ k) (hl : k ≤ 1000) : Df G (n + 1) (str "normal") [Ls (tab k (lim w m))] (Ls (dg w m)) := by
  rw [tab_dg hw hk]
  exact fn_normal o _ _ (by rw [dg_len]; omega) (dg_top w m hw)

theorem nats_app (xs : List Nat) (x : Nat) : nats xs ++ [.int (x : Nat)] = nats (xs ++ [x]) := by simp [nats]

theorem fn_nat_of {G : Cx} (o : OkG G) {n : Nat} {w m : Nat} (hw : 0 < w) (hw' : w ≤ 60) (hl : nl w m ≤ 1000) : Df G (n + 1) (str "nat_of") [.int (m : Nat), .int (w : Nat)] (Ls (dg w m)) := by
  refine Df.of (r := rc 5) (xs := [str "number", str "w"]) o 1 rfl rfl (fun L a cd => ?_) (fun pm cd doc vs h => by match vs, h with | [v, u], _ => rfl)
  refine Ex.ifF ((tlt v i_).no (by omega)) ?_
  refine sw [str "found", str "mask"] (qc onil (qc (p_ (sub (shl i_ v (by omega) (by omega) (by decide)) i_)) q0)) ?_
  rw [mask_is]
  refine Ex.while_ (N := nl w m) (fun i => [(str "number", .fr (.int (m / 2 ^ (w * i) : Nat))), (str "w", .fr (.int (w : Nat))), (str "mask", .fr (.int (2 ^ w - 1 : Nat))), (str "found", .own (nats (tab i (lim w m))))]) ?_ ?_ ?_ ?_ ?_
  · exact Sub.cons (by simp; rfl) (Sub.cons rfl (Sub.cons rfl (Sub.cons rfl (Sub.nil _))))
  · intro i hi
    refine (tgt v i_).yes ?_
    have h0 : m ≠ 0 := fun h => by subst h; rw [nl_zero] at hi; omega
    have h1 := nl_ge (w := w) h0
    have h2 := p_mono w (i := i) (j := nl w m - 1) (by omega)
    have := Nat.div_pos (Nat.le_trans h2 h1) (p_pos w i)
    omega
  · intro i hi
    refine app rfl (band v v) (by rw [nats_len, tab_len]; omega) ?_
    rw [band_mask]
    refine ishr v (by omega) rfl ?_
    rw [shr_is]
    refine Ex.nil (Sub.cons ?_ (Sub.cons rfl (Sub.cons rfl (Sub.cons ?_ (Sub.nil _)))))
    · rw [div_p]; rfl
    · rw [tab_succ, ← nats_app]; rfl
  · refine (tgt v i_).no ?_
    rw [Nat.div_eq_of_lt (nl_lt hw)]; simp
  · exact ret v rfl

/-- as numbers are compared -/
noncomputable def cmpN (m k : Nat) : Int := if m < k then -1 else if k < m then 1 else 0

theorem lim_eq_of {w m k i : Nat} (h : ∀ j, i ≤ j → lim w m j = lim w k j) (hw : 0 < w) : m / 2 ^ (w * i) = k / 2 ^ (w * i) := by
  have key : ∀ d i, nl w m ≤ i + d → nl w k ≤ i + d → (∀ j, i ≤ j → lim w m j = lim w k j) → m / 2 ^ (w * i) = k / 2 ^ (w * i) := by
    intro d
    induction d with
    | zero =>
      intro i h1 h2 _
      have e1 : m / 2 ^ (w * i) = 0 := Nat.div_eq_of_lt (Nat.lt_of_lt_of_le (nl_lt hw) (p_mono w h1))
      have e2 : k / 2 ^ (w * i) = 0 := Nat.div_eq_of_lt (Nat.lt_of_lt_of_le (nl_lt hw) (p_mono w h2))
      rw [e1, e2]
    | succ d ih =>
      intro i h1 h2 h
      have e := ih (i + 1) (by omega) (by omega) fun j hj => h j (by omega)
      rw [div_p, div_p] at e
      have e2 := h i (Nat.le_refl _)
      unfold lim at e2
      rw [← Nat.div_add_mod (m / 2 ^ (w * i)) (2 ^ w), ← Nat.div_add_mod (k / 2 ^ (w * i)) (2 ^ w), e, e2]
  exact key (nl w m + nl w k) i (by omega) (by omega) h
theorem lt_of_limb {w m k i : Nat} (h : m / 2 ^ (w * (i + 1)) = k / 2 ^ (w * (i + 1))) (hl : lim w m i < lim w k i) : m < k := by
  rw [div_p, div_p] at h
  unfold lim at hl
  have h1 := Nat.div_add_mod (m / 2 ^ (w * i)) (2 ^ w)
  have h2 := Nat.div_add_mod (k / 2 ^ (w * i)) (2 ^ w)
  rw [h] at h1
  have : m / 2 ^ (w * i) < k / 2 ^ (w * i) := by omega
  exact Nat.lt_of_not_le fun hc => absurd (Nat.div_le_div_right (c := 2 ^ (w * i)) hc) (by omega)

theorem fn_compare {G : Cx} (o : OkG G) {n : Nat} {w m k : Nat} (hw : 0 < w) (hl : nl w m ≤ 1000) (hl' : nl w k ≤ 1000) : Df G (n + 1) (str "compare") [Ls (dg w m), Ls (dg w k)] (.int (cmpN m k)) := by
  refine Df.of (r := rc 6) (xs := [str "a", str "b"]) o 2 rfl rfl (fun L a cd => ?_) (fun pm cd doc vs h => by match vs, h with | [v, u], _ => rfl)
  have e1 : (nats (dg w m)).length = nl w m := by rw [nats_len, dg_len]
  have e2 : (nats (dg w k)).length = nl w k := by rw [nats_len, dg_len]
  by_cases hne : nl w m = nl w k
  · refine Ex.ifF ((tne (len o v (by omega)) (len o v (by omega))).no (by rw [e1, e2]; omega)) ?_
    refine forV (N := nl w m) (fun _ => [(str "a", .fr (Ls (dg w m))), (str "b", .fr (Ls (dg w k)))]) (fun i => ∀ j, nl w m - i ≤ j → lim w m j = lim w k j) (rng3 o (sub (len o v (by omega)) i_) (neg i_) (neg i_) (by rw [e1]; omega) (by rw [e1]; omega))
      (fun j hj => by rw [lim_high hw (by omega), lim_high hw (by omega)]) (Sub.cons rfl (Sub.cons rfl (Sub.nil _))) (fun i hi hv => ?_) fun hv => ?_
    · have ga := nats_at (dg_get (w := w) (n := m) (i := nl w m - 1 - i) (by omega))
      have gb := nats_at (dg_get (w := w) (n := k) (i := nl w m - 1 - i) (by omega))
      by_cases hq : lim w m (nl w m - 1 - i) = lim w k (nl w m - 1 - i)
      · refine Ex.ifF ((tne (idx v v (by rw [e1]; omega) ga (by omega)) (idx v v (by rw [e1]; omega) gb (by omega))).no (by omega)) ?_
        refine Ex.nil ⟨Sub.cons rfl (Sub.cons rfl (Sub.nil _)), fun j hj => ?_⟩
        by_cases hj' : nl w m - i ≤ j
        · exact hv j hj'
        · rw [show j = nl w m - 1 - i by omega]; exact hq
      · refine Ex.ifT ((tne (idx v v (by rw [e1]; omega) ga (by omega)) (idx v v (by rw [e1]; omega) gb (by omega))).yes (by omega)) (fun _ => False) ?_ (fun _ f => f.elim)
        have heq : m / 2 ^ (w * (nl w m - 1 - i + 1)) = k / 2 ^ (w * (nl w m - 1 - i + 1)) := lim_eq_of (fun j hj => hv j (by omega)) hw
        refine ret (Ev.ite (tlt (idx v v (by rw [e1]; omega) ga (by omega)) (idx v v (by rw [e1]; omega) gb (by omega))) (fun h => ?_) (fun h => ?_)) rfl
        · have : m < k := lt_of_limb heq (by simpa using h)
          exact (neg i_).is (by simp [cmpN, this])
        · have h' : ¬ lim w m (nl w m - 1 - i) < lim w k (nl w m - 1 - i) := by simpa using h
          have : k < m := lt_of_limb heq.symm (by omega)
          exact i_.is (by simp [cmpN, this, Nat.not_lt.mpr (Nat.le_of_lt this)])
    · have heq := lim_eq_of (i := 0) (fun j hj => hv j (by omega)) hw
      have : m = k := by simpa using heq
      exact ret i_ (by simp [cmpN, this])
  · refine Ex.ifT ((tne (len o v (by omega)) (len o v (by omega))).yes (by rw [e1, e2]; omega)) (fun _ => False) ?_ (fun _ f => f.elim)
    refine ret (Ev.ite (tlt (len o v (by omega)) (len o v (by omega))) (fun h => ?_) (fun h => ?_)) rfl
    · rw [e1, e2] at h
      have h' : nl w m < nl w k := by simpa using h
      have : m < k := Nat.lt_of_not_le fun hc => absurd (nl_le_of_le hw hc) (by omega)
      exact (neg i_).is (by simp [cmpN, this])
    · rw [e1, e2] at h
      have h' : ¬ nl w m < nl w k := by simpa using h
      have : k < m := Nat.lt_of_not_le fun hc => absurd (nl_le_of_le hw hc) (by omega)
      exact i_.is (by simp [cmpN, this, Nat.not_lt.mpr (Nat.le_of_lt this)])
end Mine

end PartC1
section PartC2
open PySem PySem.Calls PyProof.Rows PySem.W
set_option Elab.async false
set_option maxRecDepth 100000
set_option autoImplicit false
set_option linter.unusedVariables false
set_option linter.unusedSimpArgs false
namespace Mine

/-- the carry into limb i of x + y -/
noncomputable def cr (w x y i : Nat) : Nat := (x + y) / 2 ^ (w * i) - (x / 2 ^ (w * i) + y / 2 ^ (w * i))
theorem div_sum_le (x y p : Nat) : x / p + y / p ≤ (x + y) / p := by
  by_cases hp : p = 0
  · subst hp; simp
  · rw [Nat.le_div_iff_mul_le (by omega), Nat.add_mul]
    exact Nat.add_le_add (Nat.div_mul_le_self ..) (Nat.div_mul_le_self ..)
theorem div_sum_ge (x y p : Nat) (hp : 0 < p) : (x + y) / p ≤ x / p + y / p + 1 := by
  have h1 := Nat.div_add_mod x p
  have h2 := Nat.div_add_mod y p
  have h3 := Nat.mod_lt x hp
  have h4 := Nat.mod_lt y hp
  have : x + y < (x / p + y / p + 2) * p := by
    rw [Nat.add_mul, Nat.add_mul, Nat.mul_comm (x / p), Nat.mul_comm (y / p)]; omega
  have := (Nat.div_lt_iff_lt_mul hp).mpr this
  omega
theorem cr_le (w x y i : Nat) : cr w x y i ≤ 1 := by
  unfold cr
  have := div_sum_ge x y (2 ^ (w * i)) (p_pos w i)
  omega
theorem cr_step (w x y i : Nat) : cr w x y i + lim w x i + lim w y i = 2 ^ w * cr w x y (i + 1) + lim w (x + y) i := by
  unfold cr lim
  rw [div_p w (x + y), div_p w x, div_p w y]
  have h0 := div_sum_le x y (2 ^ (w * i))
  generalize (x + y) / 2 ^ (w * i) = S at *
  generalize x / 2 ^ (w * i) = X at *
  generalize y / 2 ^ (w * i) = Y at *
  have h1 := Nat.div_add_mod S (2 ^ w)
  have h2 := Nat.div_add_mod X (2 ^ w)
  have h3 := Nat.div_add_mod Y (2 ^ w)
  have h4 : X / 2 ^ w + Y / 2 ^ w ≤ S / 2 ^ w := Nat.le_trans (div_sum_le X Y (2 ^ w)) (Nat.div_le_div_right h0)
  rw [Nat.mul_sub, Nat.mul_add]
  have h5 : 2 ^ w * (X / 2 ^ w) + 2 ^ w * (Y / 2 ^ w) ≤ 2 ^ w * (S / 2 ^ w) := by rw [← Nat.mul_add]; exact Nat.mul_le_mul_left _ h4
  omega
theorem cr_zero (w x y : Nat) : cr w x y 0 = 0 := by simp [cr]
theorem cr_mod (w x y i : Nat) : (cr w x y i + lim w x i + lim w y i) % 2 ^ w = lim w (x + y) i := by
  rw [cr_step, Nat.mul_add_mod, Nat.mod_eq_of_lt (lim_lt ..)]
theorem cr_div (w x y i : Nat) : (cr w x y i + lim w x i + lim w y i) / 2 ^ w = cr w x y (i + 1) := by
  rw [cr_step, Nat.mul_add_div (Nat.two_pow_pos w), Nat.div_eq_of_lt (lim_lt ..), Nat.add_zero]

theorem fn_add {G : Cx} (o : OkG G) {n : Nat} {w m k : Nat} (hw : 0 < w) (hw' : w ≤ 60) (hl : nl w m ≤ 900) (hl' : nl w k ≤ 900) : Df G (n + 1) (str "add") [Ls (dg w m), Ls (dg w k), .int (w : Nat)] (Ls (dg w (m + k))) := by
  refine Df.of (r := rc 7) (xs := [str "a", str "b", str "w"]) o 3 rfl rfl (fun L a cd => ?_) (fun pm cd doc vs h => by match vs, h with | [v, u, t], _ => rfl)
  have ln : ∀ x, (nats (dg w x)).length = nl w x := fun x => by rw [nats_len, dg_len]
  refine Ex.ite (tlt (len o v (by rw [ln]; omega)) (len o v (by rw [ln]; omega))) (fun ρ' => ∃ x y, ρ' = [(str "a", .fr (Ls (dg w x))), (str "b", .fr (Ls (dg w y))), (str "w", .fr (.int (w : Nat)))] ∧ nl w y ≤ nl w x ∧ x + y = m + k ∧ nl w x ≤ 900)
    (fun h => ?_) (fun h => ?_) ?_
  · rw [ln, ln] at h
    have h' : nl w m < nl w k := by simpa using h
    exact sw [str "a", str "b"] (qc (p_ v) (qc (p_ v) q0)) (Ex.nil ⟨k, m, rfl, by omega, by omega, by omega⟩)
  · rw [ln, ln] at h
    have h' : ¬ nl w m < nl w k := by simpa using h
    exact Ex.nil ⟨m, k, rfl, by omega, rfl, by omega⟩
  rintro ρ' ⟨x, y, rfl, hxy, hS, hlx⟩
  rw [← hS]
  refine sw [str "found", str "carry", str "mask"] (qc onil (qc (p_ i_) (qc (p_ (sub (shl i_ v (by omega) (by omega) (by decide)) i_)) q0))) ?_
  rw [mask_is]
  refine forN (N := nl w y) (fun i => [(str "a", .fr (Ls (dg w x))), (str "b", .fr (Ls (dg w y))), (str "w", .fr (.int (w : Nat))), (str "mask", .fr (.int (2 ^ w - 1 : Nat))), (str "carry", .fr (.int (cr w x y i : Nat))), (str "found", .own (nats (tab i (lim w (x + y)))))])
    (rng1 o (len o v (by rw [ln]; omega)) (by rw [ln]) (by omega)) ?_ (fun i hi => ?_) ?_
  · rw [cr_zero]; exact Sub.cons rfl (Sub.cons rfl (Sub.cons rfl (Sub.cons rfl (Sub.cons rfl (Sub.cons rfl (Sub.nil _))))))
  · refine iadd (add (idx (i := i) v v rfl (nats_at (dg_get (by omega))) (by rw [ln]; omega)) (idx (i := i) v v rfl (nats_at (dg_get hi)) (by rw [ln]; omega))) rfl ?_
    rw [show ((cr w x y i : Nat) : Int) + (((lim w x i : Nat) : Int) + ((lim w y i : Nat) : Int)) = ((cr w x y i + lim w x i + lim w y i : Nat) : Int) by omega]
    refine app rfl (band v v) (by rw [nats_len, tab_len]; omega) ?_
    refine ishr v (by omega) rfl ?_
    rw [band_mask, shr_is, cr_mod, cr_div]
    exact Ex.nil (Sub.cons rfl (Sub.cons rfl (Sub.cons rfl (Sub.cons rfl (Sub.cons rfl (Sub.cons (by rw [tab_succ, ← nats_app]; rfl) (Sub.nil _)))))))
  refine forN (N := nl w x - nl w y) (fun i => [(str "a", .fr (Ls (dg w x))), (str "b", .fr (Ls (dg w y))), (str "w", .fr (.int (w : Nat))), (str "mask", .fr (.int (2 ^ w - 1 : Nat))), (str "carry", .fr (.int (cr w x y (nl w y + i) : Nat))), (str "found", .own (nats (tab (nl w y + i) (lim w (x + y)))))])
    (rng2 o (len o v (by rw [ln]; omega)) (len o v (by rw [ln]; omega)) (by rw [ln, ln]; omega) (by rw [ln, ln]; omega)) ?_ (fun i hi => ?_) ?_
  · exact Sub.cons rfl (Sub.cons rfl (Sub.cons rfl (Sub.cons rfl (Sub.cons rfl (Sub.cons rfl (Sub.nil _))))))
  · refine iadd (idx (i := nl w y + i) v v (by rw [ln]; omega) (nats_at (dg_get (by omega))) (by rw [ln]; omega)) rfl ?_
    rw [show ((cr w x y (nl w y + i) : Nat) : Int) + ((lim w x (nl w y + i) : Nat) : Int) = ((cr w x y (nl w y + i) + lim w x (nl w y + i) + lim w y (nl w y + i) : Nat) : Int) by rw [lim_high hw (n := y) (by omega)]; omega]
    refine app rfl (band v v) (by rw [nats_len, tab_len]; omega) ?_
    refine ishr v (by omega) rfl ?_
    rw [band_mask, shr_is, cr_mod, cr_div]
    exact Ex.nil (Sub.cons rfl (Sub.cons rfl (Sub.cons rfl (Sub.cons rfl (Sub.cons rfl (Sub.cons (by rw [← Nat.add_assoc, tab_succ, ← nats_app]; rfl) (Sub.nil _)))))))
  rw [show nl w y + (nl w x - nl w y) = nl w x by omega]
  have hc : cr w x y (nl w x) = (x + y) / 2 ^ (w * nl w x) := by
    unfold cr
    rw [Nat.div_eq_of_lt (nl_lt (n := x) hw), Nat.div_eq_of_lt (Nat.lt_of_lt_of_le (nl_lt (n := y) hw) (p_mono w hxy))]; simp
  have h1 := cr_le w x y (nl w x)
  have hlim : lim w (x + y) (nl w x) = cr w x y (nl w x) := by
    unfold lim; rw [← hc]; exact Nat.mod_eq_of_lt (Nat.lt_of_le_of_lt h1 (Nat.one_lt_two_pow (by omega)))
  by_cases h0 : cr w x y (nl w x) = 0
  · refine Ex.ifF ((tgt v i_).no (by omega)) (ret v ?_)
    have hlt : x + y < 2 ^ (w * nl w x) := by
      rw [hc] at h0
      exact (Nat.div_eq_zero_iff_lt (p_pos w _)).mp h0
    have : nl w (x + y) = nl w x := Nat.le_antisymm (nl_le hw hlt) (nl_le_of_le hw (by omega))
    rw [dg, this]; rfl
  · refine if1 ((tgt v i_).yes (by omega)) (app1 rfl v (by rw [nats_len, tab_len]; omega)) (ret v ?_)
    have hge : 2 ^ (w * nl w x) ≤ x + y := by
      apply Classical.byContradiction
      intro hh
      exact h0 (by rw [hc]; exact Nat.div_eq_of_lt (by omega))
    have hlt : x + y < 2 ^ (w * (nl w x + 1)) := by
      rw [p_succ]
      have := (Nat.div_lt_iff_lt_mul (p_pos w (nl w x))).mp (show (x + y) / 2 ^ (w * nl w x) < 2 ^ w by rw [← hc]; exact Nat.lt_of_le_of_lt h1 (Nat.one_lt_two_pow (by omega)))
      rwa [Nat.mul_comm] at this
    rw [dg, nl_eq hw hge hlt, tab_succ, hlim]; exact congrArg Dv.lst (nats_app _ _)

theorem fn_sub {G : Cx} (o : OkG G) {n : Nat} {w m k : Nat} (hw : 0 < w) (hw' : w ≤ 60) (hl : nl w m ≤ 900) (hkm : k ≤ m) : Df G (n + 2) (str "sub") [Ls (dg w m), Ls (dg w k), .int (w : Nat)] (Ls (dg w (m - k))) := by
  refine Df.of (r := rc 8) (xs := [str "a", str "b", str "w"]) o 4 rfl rfl (fun L a cd => ?_) (fun pm cd doc vs h => by match vs, h with | [v, u, t], _ => rfl)
  have ln : ∀ x, (nats (dg w x)).length = nl w x := fun x => by rw [nats_len, dg_len]
  have hlk : nl w k ≤ nl w m := nl_le_of_le hw hkm
  have hm : k + (m - k) = m := by omega
  have hb : (2 ^ w : Nat) ≤ 2 ^ 60 := Nat.pow_le_pow_right (by decide) hw'
  refine Ex.ifF ((tlt (gcall (fn_compare (m := m) (k := k) o hw (by omega) (by omega)) (ec v (ec v e0))) i_).no (by unfold cmpN; split <;> omega)) ?_
  refine sw [str "found", str "borrow", str "base"] (qc onil (qc (p_ i_) (qc (p_ (shl i_ v (by omega) (by omega) (by decide))) q0))) ?_
  rw [base_is]
  refine forN (N := nl w m) (fun i => [(str "a", .fr (Ls (dg w m))), (str "b", .fr (Ls (dg w k))), (str "w", .fr (.int (w : Nat))), (str "base", .fr (.int (2 ^ w : Nat))), (str "borrow", .fr (.int (cr w k (m - k) i : Nat))), (str "found", .own (nats (tab i (lim w (m - k)))))])
    (rng1 o (len o v (by rw [ln]; omega)) (by rw [ln]) (by omega)) ?_ (fun i hi => ?_) ?_
  · rw [cr_zero]; exact Sub.cons rfl (Sub.cons rfl (Sub.cons rfl (Sub.cons rfl (Sub.cons rfl (Sub.cons rfl (Sub.nil _))))))
  · have st := cr_step w k (m - k) i
    rw [hm] at st
    have c0 := cr_le w k (m - k) i
    have c1 := cr_le w k (m - k) (i + 1)
    have q1 := lim_lt w m i
    have q2 := lim_lt w k i
    have q3 := lim_lt w (m - k) i
    have hcases : (cr w k (m - k) (i + 1) = 0 ∧ cr w k (m - k) i + lim w k i + lim w (m - k) i = lim w m i) ∨ (cr w k (m - k) (i + 1) = 1 ∧ cr w k (m - k) i + lim w k i + lim w (m - k) i = 2 ^ w + lim w m i) := by
      rcases (show cr w k (m - k) (i + 1) = 0 ∨ cr w k (m - k) (i + 1) = 1 by omega) with q | q
      · left; rw [q] at st; exact ⟨q, by omega⟩
      · right; rw [q] at st; exact ⟨q, by omega⟩
    refine st1 (V := .fr (.int ((lim w m i : Nat) - (cr w k (m - k) i : Nat) - (lim w k i : Nat) : Int))) (p_ ?_) ?_
    · refine sub (sub (idx (i := i) v v rfl (nats_at (dg_get hi)) (by rw [ln]; omega)) v) ?_
      refine Ev.ite (tlt v (len o v (by rw [ln]; omega))) (fun h => ?_) (fun h => ?_)
      · rw [ln] at h
        exact idx (i := i) v v rfl (nats_at (dg_get (by simpa using h))) (by rw [ln]; omega)
      · rw [ln] at h
        have : nl w k ≤ i := by simpa using h
        exact i_.is (by rw [lim_high hw this]; rfl)
    refine st1 (V := .fr (.int (cr w k (m - k) (i + 1) : Nat))) (p_ (Ev.ite (tlt v i_) (fun h => ?_) (fun h => ?_))) ?_
    · have h' := of_decide_eq_true h
      rcases hcases with ⟨q, e⟩ | ⟨q, e⟩
      · omega
      · exact i_.is (by rw [q]; rfl)
    · have h' := of_decide_eq_false h
      rcases hcases with ⟨q, e⟩ | ⟨q, e⟩
      · exact i_.is (by rw [q]; rfl)
      · omega
    refine app rfl (d := .int (lim w (m - k) i : Nat)) (Ev.ite (tlt v i_) (fun h => Ev.is (add v v) ?_) (fun h => Ev.is v ?_)) (by rw [nats_len, tab_len]; omega) ?_
    · have h' := of_decide_eq_true h
      rcases hcases with ⟨q, e⟩ | ⟨q, e⟩
      · omega
      · congr 1; omega
    · have h' := of_decide_eq_false h
      rcases hcases with ⟨q, e⟩ | ⟨q, e⟩
      · congr 1; omega
      · omega
    exact Ex.nil (Sub.cons rfl (Sub.cons rfl (Sub.cons rfl (Sub.cons rfl (Sub.cons rfl (Sub.cons (by rw [tab_succ, ← nats_app]; rfl) (Sub.nil _)))))))
  exact ret (gcall (fn_normal' (m := m - k) (k := nl w m) o hw (nl_le_of_le hw (by omega)) (by omega)) (ec v e0)) rfl
end Mine

end PartC2
section PartC3
open PySem PySem.Calls PyProof.Rows PySem.W
set_option Elab.async false
set_option maxRecDepth 100000
set_option autoImplicit false
set_option linter.unusedVariables false
set_option linter.unusedSimpArgs false
namespace Mine

theorem mod_p_succ (w n s : Nat) : n % 2 ^ (w * (s + 1)) = n % 2 ^ (w * s) + lim w n s * 2 ^ (w * s) := by
  rw [p_succ, Nat.mod_mul, lim, Nat.mul_comm (2 ^ (w * s))]
theorem lim_add_mul (w x y i j : Nat) (h : j < i) : lim w (x + y * 2 ^ (w * i)) j = lim w x j := by
  unfold lim
  obtain ⟨d, rfl⟩ : ∃ d, i = (j + 1) + d := ⟨i - (j + 1), by omega⟩
  rw [p_add, p_succ, show y * (2 ^ (w * j) * 2 ^ w * 2 ^ (w * d)) = 2 ^ (w * j) * (2 ^ w * (y * 2 ^ (w * d))) by
    simp only [Nat.mul_comm, Nat.mul_left_comm, Nat.mul_assoc], Nat.add_mul_div_left _ _ (p_pos w j), Nat.add_mul_mod_self_left]

section
variable (w m k i : Nat)
/-- the product of the limbs below i -/
noncomputable def mP : Nat := (m % 2 ^ (w * i)) * k
noncomputable def mT (s : Nat) : Nat := mP w m k i + (lim w m i * (k % 2 ^ (w * s))) * 2 ^ (w * i)
noncomputable def mC (s : Nat) : Nat := mT w m k i s / 2 ^ (w * (i + s)) - mP w m k i / 2 ^ (w * (i + s))
noncomputable def mF (s j : Nat) : Nat := if j < i + s then lim w (mT w m k i s) j else lim w (mP w m k i) j
theorem mT_zero : mT w m k i 0 = mP w m k i := by simp [mT, Nat.mod_one]
theorem mT_succ (s : Nat) : mT w m k i (s + 1) = mT w m k i s + (lim w m i * lim w k s) * 2 ^ (w * (i + s)) := by
  unfold mT
  rw [mod_p_succ, Nat.mul_add, Nat.add_mul, p_add, ← Nat.add_assoc]
  simp only [Nat.mul_comm, Nat.mul_left_comm, Nat.mul_assoc]
theorem mT_ge (s : Nat) : mP w m k i ≤ mT w m k i s := Nat.le_add_right _ _
theorem mC_zero : mC w m k i 0 = 0 := by unfold mC; rw [mT_zero]; omega
theorem mT_div (s : Nat) : mT w m k i (s + 1) / 2 ^ (w * (i + s)) = mC w m k i s + mP w m k i / 2 ^ (w * (i + s)) + lim w m i * lim w k s := by
  rw [mT_succ, Nat.add_mul_div_right _ _ (p_pos w _), mC]
  have := Nat.div_le_div_right (c := 2 ^ (w * (i + s))) (mT_ge w m k i s)
  omega
theorem mC_mod (s : Nat) : (mC w m k i s + lim w (mP w m k i) (i + s) + lim w m i * lim w k s) % 2 ^ w = lim w (mT w m k i (s + 1)) (i + s) := by
  rw [lim, lim.eq_1 w (mT w m k i (s + 1)), mT_div]
  generalize mP w m k i / 2 ^ (w * (i + s)) = Z
  generalize lim w m i * lim w k s = X
  rw [Nat.add_right_comm, Nat.add_mod_mod, Nat.add_right_comm]
theorem mC_div (s : Nat) : (mC w m k i s + lim w (mP w m k i) (i + s) + lim w m i * lim w k s) / 2 ^ w = mC w m k i (s + 1) := by
  rw [mC.eq_1 w m k i (s + 1), ← Nat.add_assoc i s 1, div_p, mT_div, div_p, lim]
  generalize mP w m k i / 2 ^ (w * (i + s)) = Z
  generalize lim w m i * lim w k s = X
  generalize mC w m k i s = c
  have hb := Nat.two_pow_pos w
  have h := Nat.div_add_mod Z (2 ^ w)
  have e : c + Z + X = (c + Z % 2 ^ w + X) + 2 ^ w * (Z / 2 ^ w) := by omega
  rw [e, Nat.add_mul_div_left _ _ hb, Nat.add_sub_cancel]
theorem mF_zero : mF w m k i 0 = lim w (mP w m k i) := by funext j; unfold mF; rw [mT_zero]; split <;> rfl
theorem mF_at (s : Nat) : mF w m k i s (i + s) = lim w (mP w m k i) (i + s) := by unfold mF; rw [if_neg (by omega)]
theorem mF_succ (s : Nat) : (fun j => if j = i + s then (mC w m k i s + lim w (mP w m k i) (i + s) + lim w m i * lim w k s) % 2 ^ w else mF w m k i s j) = mF w m k i (s + 1) := by
  funext j
  unfold mF
  by_cases h : j = i + s
  · subst h; rw [if_pos rfl, if_pos (by omega), mC_mod]
  · rw [if_neg h]
    by_cases h2 : j < i + s
    · rw [if_pos h2, if_pos (by omega), mT_succ, lim_add_mul _ _ _ _ _ h2]
    · rw [if_neg h2, if_neg (by omega)]
theorem mT_end (hw : 0 < w) : mT w m k i (nl w k) = mP w m k (i + 1) := by
  unfold mT mP
  rw [Nat.mod_eq_of_lt (nl_lt (n := k) hw), mod_p_succ, Nat.add_mul]
  simp only [Nat.mul_comm, Nat.mul_left_comm, Nat.mul_assoc]
theorem mP_lt (hw : 0 < w) : mP w m k i < 2 ^ (w * (i + nl w k)) := by
  unfold mP; rw [p_add]
  exact Nat.mul_lt_mul_of_lt_of_le (Nat.mod_lt _ (p_pos w i)) (Nat.le_of_lt (nl_lt hw)) (p_pos w _)
theorem mF_end (hw : 0 < w) : (fun j => if j = i + nl w k then mC w m k i (nl w k) else mF w m k i (nl w k) j) = lim w (mP w m k (i + 1)) := by
  have h1 := mP_lt w m k i hw
  have h2 := mP_lt w m k (i + 1) hw
  funext j
  by_cases h : j = i + nl w k
  · subst h
    rw [if_pos rfl, mC, mT_end w m k i hw, Nat.div_eq_of_lt h1, Nat.sub_zero, lim]
    rw [show i + 1 + nl w k = i + nl w k + 1 by omega, p_succ] at h2
    exact (Nat.mod_eq_of_lt (Nat.div_lt_of_lt_mul h2)).symm
  · rw [if_neg h, mF, mT_end w m k i hw]
    by_cases h3 : j < i + nl w k
    · rw [if_pos h3]
    · rw [if_neg h3, lim, lim, Nat.div_eq_of_lt (Nat.lt_of_lt_of_le h1 (p_mono w (by omega))), Nat.div_eq_of_lt (Nat.lt_of_lt_of_le h2 (p_mono w (by omega)))]
end
theorem mP_end {w m k : Nat} (hw : 0 < w) : mP w m k (nl w m) = m * k := by unfold mP; rw [Nat.mod_eq_of_lt (nl_lt hw)]
theorem nl_mul {w m k : Nat} (hw : 0 < w) : nl w (m * k) ≤ nl w m + nl w k := by
  refine nl_le hw ?_
  rw [p_add]
  exact Nat.mul_lt_mul_of_lt_of_le (nl_lt hw) (Nat.le_of_lt (nl_lt hw)) (p_pos w _)

theorem nats_rep (k : Nat) : List.replicate k (Dv.int 0) = nats (tab k (lim 1 0)) := by
  rw [tab_zero _ _ (fun i _ => by simp [lim])]; simp [nats]
theorem nats_set (xs : List Nat) (i x : Nat) : (nats xs).set i (.int (x : Nat)) = nats (xs.set i x) := by simp [nats, List.map_set]

theorem fn_mul {G : Cx} (o : OkG G) {n : Nat} {w m k : Nat} (hw : 0 < w) (hw' : w ≤ 60) (hl : nl w m ≤ 400) (hl' : nl w k ≤ 400) : Df G (n + 2) (str "mul_school") [Ls (dg w m), Ls (dg w k), .int (w : Nat)] (Ls (dg w (m * k))) := by
  refine Df.of (r := rc 32) (xs := [str "a", str "b", str "w"]) o 23 rfl rfl (fun L a cd => ?_) (fun pm cd doc vs h => by match vs, h with | [v, u, t], _ => rfl)
  have ln : ∀ x, (nats (dg w x)).length = nl w x := fun x => by rw [nats_len, dg_len]
  have hb : (2 ^ w : Nat) ≤ 2 ^ 60 := Nat.pow_le_pow_right (by decide) hw'
  refine sw [str "found", str "mask"] (qc (EvP.rep (k := nl w m + nl w k) (Ev.list (ec i_ e0) (by decide)) (add (len o v (by rw [ln]; omega)) (len o v (by rw [ln]; omega))) (by rw [ln, ln]; omega) (by omega)) (qc (p_ (sub (shl i_ v (by omega) (by omega) (by decide)) i_)) q0)) ?_
  rw [mask_is]
  refine forE o (fun i => [(str "a", .fr (Ls (dg w m))), (str "b", .fr (Ls (dg w k))), (str "w", .fr (.int (w : Nat))), (str "mask", .fr (.int (2 ^ w - 1 : Nat))), (str "found", .own (nats (tab (nl w m + nl w k) (lim w (mP w m k i)))))]) v ?_ (fun i d hd => ?_) ?_
  · refine Sub.cons rfl (Sub.cons rfl (Sub.cons rfl (Sub.cons rfl (Sub.cons ?_ (Sub.nil _)))))
    have : mP w m k 0 = 0 := by simp [mP, Nat.mod_one]
    rw [this, show tab (nl w m + nl w k) (lim w 0) = tab (nl w m + nl w k) (lim 1 0) from tab_congr fun i _ => by simp [lim], ← nats_rep]
    rfl
  · have hi : i < nl w m := by have := (List.getElem?_eq_some_iff.mp hd).1; rwa [ln] at this
    rw [nats_at (dg_get hi)] at hd
    obtain rfl := Option.some.inj hd
    refine st1 (p_ i_) ?_
    refine forE o (fun s => [(str "a", .fr (Ls (dg w m))), (str "b", .fr (Ls (dg w k))), (str "w", .fr (.int (w : Nat))), (str "mask", .fr (.int (2 ^ w - 1 : Nat))), (str "found", .own (nats (tab (nl w m + nl w k) (mF w m k i s)))),
      (str "at", .fr (.int (i : Nat))), (str "limb", .fr (.int (lim w m i : Nat))), (str "carry", .fr (.int (mC w m k i s : Nat)))]) v ?_ (fun s d hd => ?_) ?_
    · rw [mF_zero, mC_zero]
      exact Sub.cons rfl (Sub.cons rfl (Sub.cons rfl (Sub.cons rfl (Sub.cons rfl (Sub.cons rfl (Sub.cons rfl (Sub.cons rfl (Sub.nil _))))))))
    · have hs : s < nl w k := by have := (List.getElem?_eq_some_iff.mp hd).1; rwa [ln] at this
      rw [nats_at (dg_get hs)] at hd
      obtain rfl := Option.some.inj hd
      have q1 := lim_lt w m i
      refine iadd (add (idxO (i := i + s) rfl (add v v) (by omega) (nats_at (tab_get (by omega))) (by rw [nats_len, tab_len]; omega)) (mul v v (by omega))) rfl ?_
      rw [mF_at, show ((mC w m k i s : Nat) : Int) + (((lim w (mP w m k i) (i + s) : Nat) : Int) + ((lim w m i : Nat) : Int) * ((lim w k s : Nat) : Int)) = ((mC w m k i s + lim w (mP w m k i) (i + s) + lim w m i * lim w k s : Nat) : Int) by push_cast; omega]
      refine put rfl (band v v) (add v v) (i := i + s) (by omega) (by rw [nats_len, tab_len]; omega) (by rw [nats_len, tab_len]; omega) ?_
      rw [band_mask, nats_set, tab_set, mF_succ]
      refine ishr v (by omega) rfl ?_
      rw [shr_is, mC_div]
      exact Ex.nil (Sub.cons rfl (Sub.cons rfl (Sub.cons rfl (Sub.cons rfl (Sub.cons rfl (Sub.cons rfl (Sub.cons rfl (Sub.cons rfl (Sub.nil _)))))))))
    · rw [ln]
      refine put rfl v (add v (len o v (by rw [ln]; omega))) (i := i + nl w k) (by rw [ln]; omega) (by rw [nats_len, tab_len]; omega) (by rw [nats_len, tab_len]; omega) ?_
      rw [nats_set, tab_set, mF_end w m k i hw]
      exact Ex.nil (Sub.cons rfl (Sub.cons rfl (Sub.cons rfl (Sub.cons rfl (Sub.cons rfl (Sub.nil _))))))
  · rw [ln, mP_end hw]
    exact ret (gcall (fn_normal' (m := m * k) (k := nl w m + nl w k) o hw (nl_mul hw) (by omega)) (ec v e0)) rfl
end Mine

end PartC3
section PartC4
open PySem PySem.Calls PyProof.Rows PySem.W
set_option Elab.async false
set_option maxRecDepth 100000
set_option autoImplicit false
set_option linter.unusedVariables false
set_option linter.unusedSimpArgs false
namespace Mine

theorem div_step (M B d : Nat) (hd : 0 < d) (hB : 0 < B) : ((M / B % d) * B + M % B) / d = M / d % B ∧ ((M / B % d) * B + M % B) % d = M % d ∧ (M / B % d) * B + M % B < d * B := by
  have h1 := Nat.div_add_mod M B
  have h2 := Nat.div_add_mod (M / B) d
  have h3 := Nat.mod_lt (M / B) hd
  have h4 := Nat.mod_lt M hB
  have hlt : (M / B % d) * B + M % B < d * B := by
    calc (M / B % d) * B + M % B < (M / B % d) * B + B := by omega
      _ = (M / B % d + 1) * B := by rw [Nat.add_mul, Nat.one_mul]
      _ ≤ d * B := Nat.mul_le_mul_right _ h3
  have e : M = d * (M / B / d * B) + ((M / B % d) * B + M % B) := by
    have : B * (M / B) = d * (M / B / d * B) + (M / B % d) * B := by
      conv => lhs; rw [← h2]
      rw [Nat.mul_add, Nat.mul_comm B (M / B % d)]
      simp only [Nat.mul_comm, Nat.mul_left_comm, Nat.mul_assoc]
    omega
  generalize hR : (M / B % d) * B + M % B = R at *
  have hq : R / d < B := Nat.div_lt_of_lt_mul hlt
  refine ⟨?_, ?_, hlt⟩
  · conv => rhs; rw [e]
    rw [Nat.mul_add_div hd, Nat.add_mod, Nat.mul_mod_left, Nat.zero_add, Nat.mod_mod, Nat.mod_eq_of_lt hq]
  · conv => rhs; rw [e]
    rw [Nat.mul_add_mod]

theorem fdiv_is (x d : Nat) : ((x : Int).fdiv (d : Int)) = ((x / d : Nat) : Int) := by
  rw [Int.fdiv_eq_ediv_of_nonneg _ (Int.natCast_nonneg d)]; simp
theorem fmod_is (x d : Nat) : ((x : Int).fmod (d : Int)) = ((x % d : Nat) : Int) := by
  rw [Int.fmod_eq_emod_of_nonneg _ (Int.natCast_nonneg d)]; simp
theorem shl_is (x w : Nat) : ((x : Int) * 2 ^ ((w : Nat) : Int).toNat) = ((x * 2 ^ w : Nat) : Int) := by
  rw [Int.toNat_natCast]; push_cast; rfl

theorem fn_divrem_limb {G : Cx} (o : OkG G) {n : Nat} {w m d : Nat} (hw : 0 < w) (hw' : w ≤ 28) (hl : nl w m ≤ 900) (hd : 0 < d) (hd' : d < 2 ^ w) :
    Df G (n + 2) (str "divrem_limb") [Ls (dg w m), .int (d : Nat), .int (w : Nat)] (.tup [Ls (dg w (m / d)), .int (m % d : Nat)]) := by
  refine Df.of (r := rc 9) (xs := [str "a", str "limb", str "w"]) o 5 rfl rfl (fun L a cd => ?_) (fun pm cd doc vs h => by match vs, h with | [v, u, t], _ => rfl)
  have ln : ∀ x, (nats (dg w x)).length = nl w x := fun x => by rw [nats_len, dg_len]
  have hb : (2 ^ w : Nat) ≤ 2 ^ 28 := Nat.pow_le_pow_right (by decide) hw'
  refine Ex.ifF ((teq v i_).no (by omega)) ?_
  refine sw [str "found", str "rest"] (qc (EvP.rep (k := nl w m) (lst_ (ec i_ e0)) (len o v (by rw [ln]; omega)) (by rw [ln]) (by omega)) (qc (p_ i_) q0)) ?_
  refine forN (N := nl w m) (fun i => [(str "a", .fr (Ls (dg w m))), (str "limb", .fr (.int (d : Nat))), (str "w", .fr (.int (w : Nat))), (str "rest", .fr (.int (m / 2 ^ (w * (nl w m - i)) % d : Nat))), (str "found", .own (nats (tab (nl w m) fun j => if nl w m - i ≤ j then lim w (m / d) j else 0)))])
    (rng3 o (sub (len o v (by rw [ln]; omega)) i_) (neg i_) (neg i_) (by rw [ln]; omega) (by rw [ln]; omega)) ?_ (fun i hi => ?_) ?_
  · refine Sub.cons rfl (Sub.cons rfl (Sub.cons rfl (Sub.cons ?_ (Sub.cons ?_ (Sub.nil _)))))
    · rw [Nat.sub_zero, Nat.div_eq_of_lt (nl_lt hw), Nat.zero_mod]; rfl
    · rw [tab_congr (g := lim 1 0) (fun j hj => by rw [if_neg (by omega)]; simp [lim]), ← nats_rep]; rfl
  · have e : nl w m - i = nl w m - 1 - i + 1 := by omega
    have st := div_step (m / 2 ^ (w * (nl w m - 1 - i))) (2 ^ w) d hd (Nat.two_pow_pos w)
    rw [← div_p, ← e, Nat.div_div_eq_div_mul, Nat.mul_comm (2 ^ (w * (nl w m - 1 - i))) d, ← Nat.div_div_eq_div_mul] at st
    have hr := Nat.mod_lt (m / 2 ^ (w * (nl w m - i))) hd
    have hlm := lim_lt w m (nl w m - 1 - i)
    have st1' : (m / 2 ^ (w * (nl w m - i)) % d * 2 ^ w + lim w m (nl w m - 1 - i)) / d = lim w (m / d) (nl w m - 1 - i) := st.1
    have st2' : (m / 2 ^ (w * (nl w m - i)) % d * 2 ^ w + lim w m (nl w m - 1 - i)) % d = m / 2 ^ (w * (nl w m - 1 - i)) % d := st.2.1
    refine st1 (p_ (bor (shl v v (by omega) (by omega) (by omega)) (idx (i := nl w m - 1 - i) v v (by rw [ln]; omega) (nats_at (dg_get (by omega))) (by rw [ln]; omega)))) ?_
    rw [shl_is, bor_low _ _ _ hlm]
    refine put rfl (fdiv v v (by omega) (by omega)) v (i := nl w m - 1 - i) (by rw [ln]; omega) (by rw [nats_len, tab_len]; omega) (by rw [nats_len, tab_len]; omega) ?_
    rw [fdiv_is, st1', nats_set, tab_set]
    refine imod v (by omega) rfl ?_
    rw [fmod_is, st2']
    refine Ex.nil (Sub.cons rfl (Sub.cons rfl (Sub.cons rfl (Sub.cons ?_ (Sub.cons ?_ (Sub.nil _))))))
    · rw [show nl w m - (i + 1) = nl w m - 1 - i by omega]; rfl
    · rw [tab_congr (f := fun j => if nl w m - (i + 1) ≤ j then lim w (m / d) j else 0) (g := fun j => if j = nl w m - 1 - i then lim w (m / d) (nl w m - 1 - i) else if nl w m - i ≤ j then lim w (m / d) j else 0) (fun j hj => by
        by_cases h : j = nl w m - 1 - i
        · rw [if_pos h, if_pos (by omega), h]
        · rw [if_neg h]
          by_cases h' : nl w m - i ≤ j
          · rw [if_pos h', if_pos (by omega)]
          · rw [if_neg h', if_neg (by omega)])]
      rfl
  · rw [Nat.sub_self, Nat.mul_zero, Nat.pow_zero, Nat.div_one, tab_congr (g := lim w (m / d)) (fun j _ => by rw [if_pos (Nat.zero_le _)])]
    exact ret (tup_ (ec (gcall (fn_normal' (m := m / d) (k := nl w m) o hw (nl_le_of_le hw (Nat.div_le_self ..)) (by omega)) (ec v e0)) (ec v e0))) rfl

theorem fn_divrem_small {G : Cx} (o : OkG G) {n : Nat} {w m d : Nat} (hw : 0 < w) (hw' : w ≤ 28) (hl : nl w m ≤ 900) (hd : 0 < d) (hd' : d < 2 ^ w) :
    Df G (n + 3) (str "divrem_small") [Ls (dg w m), Ls (dg w d), .int (w : Nat)] (.tup [Ls (dg w (m / d)), Ls (dg w (m % d))]) := by
  refine Df.of (r := rc 33) (xs := [str "a", str "b", str "w"]) o 24 rfl rfl (fun L a cd => ?_) (fun pm cd doc vs h => by match vs, h with | [v, u, t], _ => rfl)
  have hdd : dg w d = [d] := dg_small hw (by omega) hd'
  refine tv [str "quotient", str "rest"] (gcall (fn_divrem_limb (m := m) (d := d) o hw hw' hl hd hd') (ec v (ec (idx (i := 0) v i_ rfl (by rw [hdd]; rfl) (by rw [hdd]; exact Nat.le_of_ble_eq_true rfl)) (ec v e0)))) ?_
  refine ret (tup_ (ec v (ec (Ev.ite (d := Ls (dg w (m % d))) (tgt v i_) (fun h => ?_) (fun h => ?_)) e0))) rfl
  · have h' : m % d ≠ 0 := by have := of_decide_eq_true h; omega
    have hlt := Nat.mod_lt m hd
    rw [dg_small hw h' (by omega)]
    exact lst_ (ec v e0)
  · have h' : m % d = 0 := by have := of_decide_eq_false h; omega
    rw [h', dg_zero]
    exact lst_ e0

theorem fn_divrem {G : Cx} (o : OkG G) {n : Nat} {w m d : Nat} (hw : 0 < w) (hw' : w ≤ 28) (hl : nl w m ≤ 900) (hd : 0 < d) (hd' : d < 2 ^ w) :
    Df G (n + 4) (str "divrem_school") [Ls (dg w m), Ls (dg w d), .int (w : Nat)] (.tup [Ls (dg w (m / d)), Ls (dg w (m % d))]) := by
  refine Df.of (r := rc 38) (xs := [str "a", str "b", str "w"]) o 29 rfl rfl (fun L a cd => ?_) (fun pm cd doc vs h => by match vs, h with | [v, u, t], _ => rfl)
  have hdd : dg w d = [d] := dg_small hw (by omega) hd'
  have hld : nl w d = 1 := by rw [← dg_len, hdd]; rfl
  have ln : ∀ x, (nats (dg w x)).length = nl w x := fun x => by rw [nats_len, dg_len]
  refine Ex.ifF ((teq (len o v (by rw [ln]; omega)) i_).no (by rw [ln]; omega)) ?_
  by_cases hc : m < d
  · refine Ex.ifT ((tlt (gcall (fn_compare (m := m) (k := d) o hw (by omega) (by omega)) (ec v (ec v e0))) i_).yes (by simp [cmpN, hc])) (fun _ => False) ?_ (fun _ f => f.elim)
    refine ret (tup_ (ec (lst_ e0) (ec (Ev.copy v (by rw [ln]; omega)) e0))) ?_
    rw [Nat.div_eq_of_lt hc, Nat.mod_eq_of_lt hc, dg_zero]; rfl
  · refine Ex.ifF ((tlt (gcall (fn_compare (m := m) (k := d) o hw (by omega) (by omega)) (ec v (ec v e0))) i_).no (by unfold cmpN; rw [if_neg hc]; split <;> omega)) ?_
    refine Ex.ifT ((teq (len o v (by rw [ln]; omega)) i_).yes (by rw [ln]; omega)) (fun _ => False) ?_ (fun _ f => f.elim)
    exact ret (gcall (fn_divrem_small (m := m) (d := d) o hw hw' hl hd hd') (ec v (ec v (ec v e0)))) rfl
end Mine

end PartC4
section PartC5
open PySem PySem.Calls PyProof.Rows PySem.W
set_option Elab.async false
set_option maxRecDepth 100000
set_option autoImplicit false
set_option linter.unusedVariables false
set_option linter.unusedSimpArgs false
namespace Mine

/-- a signed number, w bits a limb -/
noncomputable def Sg (w : Nat) (z : Int) : Dv := .tup [.bool (decide (z < 0)), Ls (dg w z.natAbs)]
theorem nl_40 {w m : Nat} (hw : 0 < w) (h : m < 2 ^ 40) : nl w m ≤ 40 :=
  nl_le hw (Nat.lt_of_lt_of_le h (Nat.pow_le_pow_right (by decide) (by have := Nat.mul_le_mul_right 40 hw; omega)))

/-- 5 to 8 bits -/
structure W58 (w : Nat) : Prop where
  lo : 5 ≤ w
  hi : w ≤ 8

section
variable {G : Cx} {w : Nat}

theorem fn_signed (o : OkG G) {n : Nat} {m : Nat} {b : Bool} (hw : W58 w) (hm : nl w m ≤ 1000) : Df G (n + 1) (str "signed") [.bool b, Ls (dg w m)] (.tup [.bool (b && decide (m ≠ 0)), Ls (dg w m)]) := by
  refine Df.of (r := rc 14) (xs := [str "is_below", str "nat"]) o 9 rfl rfl (fun L a cd => ?_) (fun pm cd doc vs h => by match vs, h with | [v, u], _ => rfl)
  have ln : ∀ x, (nats (dg w x)).length = nl w x := fun x => by rw [nats_len, dg_len]
  refine ret (tup_ (ec (Ev.and (c := decide (m ≠ 0)) v fun _ => Ev.is (gt (len o v (by rw [ln]; omega)) i_) ?_) (ec v e0))) rfl
  rw [ln]
  have hz := nl_zero w
  have hp := @nl_pos w m
  congr 1
  by_cases h : m = 0
  · subst h; simp [hz]
  · have := hp h
    simp [h]; omega

theorem fn_s_of (o : OkG G) {n : Nat} {z : Int} (hw : W58 w) (hm : z.natAbs < 2 ^ 40) : Df G (n + 2) (str "s_of") [.int z, .int (w : Nat)] (Sg w z) := by
  have hl := nl_40 (w := w) (by have := hw.lo; omega) hm
  refine Df.of (r := rc 15) (xs := [str "number", str "w"]) o 10 rfl rfl (fun L a cd => ?_) (fun pm cd doc vs h => by match vs, h with | [v, u], _ => rfl)
  exact ret (tup_ (ec (lt v i_) (ec (gcall (fn_nat_of (m := z.natAbs) o (by have := hw.lo; omega) (by have := hw.hi; omega) (by omega)) (ec (abs_ o v) (ec v e0))) e0))) rfl

theorem fn_s_neg (o : OkG G) {n : Nat} {z : Int} (hw : W58 w) (hm : z.natAbs < 2 ^ 40) : Df G (n + 2) (str "s_neg") [Sg w z] (Sg w (-z)) := by
  have hl := nl_40 (w := w) (by have := hw.lo; omega) hm
  refine Df.of (r := rc 16) (xs := [str "x"]) o 11 rfl rfl (fun L a cd => ?_) (fun pm cd doc vs h => by match vs, h with | [v], _ => rfl)
  refine ret (gcall (fn_signed (m := z.natAbs) (b := !decide (z < 0)) o hw (by omega)) (ec (not_ (idxT v i_)) (ec (idxT v i_) e0))) ?_
  unfold Sg
  rw [Int.natAbs_neg]
  congr 3
  rw [Bool.eq_iff_iff]; simp; omega

theorem fn_s_sign (o : OkG G) {n : Nat} {z : Int} (hw : W58 w) (hm : z.natAbs < 2 ^ 40) : Df G (n + 1) (str "s_sign") [Sg w z] (.int z.sign) := by
  have hl := nl_40 (w := w) (by have := hw.lo; omega) hm
  have ln : ∀ x, (nats (dg w x)).length = nl w x := fun x => by rw [nats_len, dg_len]
  refine Df.of (r := rc 17) (xs := [str "x"]) o 12 rfl rfl (fun L a cd => ?_) (fun pm cd doc vs h => by match vs, h with | [v], _ => rfl)
  by_cases h0 : z = 0
  · subst h0
    refine Ex.ifT ((teq (len o (idxT v i_) (by rw [ln]; omega)) i_).yes (by rw [ln]; simp [nl_zero])) (fun _ => False) (ret i_ (by simp)) (fun _ f => f.elim)
  · have hp := nl_pos (w := w) (n := z.natAbs) (by omega)
    refine Ex.ifF ((teq (len o (idxT v i_) (by rw [ln]; omega)) i_).no (by rw [ln]; omega)) ?_
    refine ret (Ev.ite (Tst.of (idxT v i_) fun _ => rfl) (fun h => (neg i_).is ?_) (fun h => i_.is ?_)) rfl
    · have h' := of_decide_eq_true h
      rw [Int.sign_eq_neg_one_of_neg h']
    · have h' := of_decide_eq_false h
      rw [Int.sign_eq_one_of_pos (by omega)]

theorem fn_s_add (o : OkG G) {n : Nat} {x y : Int} (hw : W58 w) (hx : x.natAbs < 2 ^ 40) (hy : y.natAbs < 2 ^ 40) (hs : (x + y).natAbs < 2 ^ 40) : Df G (n + 3) (str "s_add") [Sg w x, Sg w y, .int (w : Nat)] (Sg w (x + y)) := by
  have hw0 : 0 < w := by have := hw.lo; omega
  have hw6 : w ≤ 60 := by have := hw.hi; omega
  have hlx := nl_40 hw0 hx
  have hly := nl_40 hw0 hy
  have hls := nl_40 hw0 hs
  refine Df.of (r := rc 18) (xs := [str "x", str "y", str "w"]) o 13 rfl rfl (fun L a cd => ?_) (fun pm cd doc vs h => by match vs, h with | [v, u, t], _ => rfl)
  by_cases hsg : decide (x < 0) = decide (y < 0)
  · refine Ex.ifT ((tbeq (idxT v i_) (idxT v i_)).is (by simpa using hsg)) (fun _ => False) ?_ (fun _ f => f.elim)
    have hsg' : x < 0 ↔ y < 0 := by simpa using hsg
    have e : (x + y).natAbs = x.natAbs + y.natAbs := by omega
    refine ret (gcall (fn_signed (m := x.natAbs + y.natAbs) (b := decide (x < 0)) o hw (by rw [← e]; omega)) (ec (idxT v i_) (ec (gcall (fn_add (m := x.natAbs) (k := y.natAbs) o hw0 hw6 (by omega) (by omega)) (ec (idxT v i_) (ec (idxT v i_) (ec v e0)))) e0))) ?_
    unfold Sg
    rw [e]
    congr 3
    rw [Bool.eq_iff_iff]; simp; omega
  · refine Ex.ifF ((tbeq (idxT v i_) (idxT v i_)).is (by simpa using hsg)) ?_
    have hsg' : ¬ (x < 0 ↔ y < 0) := by simpa using hsg
    by_cases hc : x.natAbs < y.natAbs
    · refine Ex.ifT ((tlt (gcall (fn_compare (m := x.natAbs) (k := y.natAbs) o hw0 (by omega) (by omega)) (ec (idxT v i_) (ec (idxT v i_) e0))) i_).yes (by simp [cmpN, hc])) (fun _ => False) ?_ (fun _ f => f.elim)
      have e : (x + y).natAbs = y.natAbs - x.natAbs := by omega
      refine ret (gcall (fn_signed (m := y.natAbs - x.natAbs) (b := decide (y < 0)) o hw (by rw [← e]; omega)) (ec (idxT v i_) (ec (gcall (fn_sub (m := y.natAbs) (k := x.natAbs) o hw0 hw6 (by omega) (by omega)) (ec (idxT v i_) (ec (idxT v i_) (ec v e0)))) e0))) ?_
      unfold Sg
      rw [e]
      congr 3
      rw [Bool.eq_iff_iff]; simp; omega
    · refine Ex.ifF ((tlt (gcall (fn_compare (m := x.natAbs) (k := y.natAbs) o hw0 (by omega) (by omega)) (ec (idxT v i_) (ec (idxT v i_) e0))) i_).no (by unfold cmpN; rw [if_neg hc]; split <;> omega)) ?_
      have e : (x + y).natAbs = x.natAbs - y.natAbs := by omega
      refine ret (gcall (fn_signed (m := x.natAbs - y.natAbs) (b := decide (x < 0)) o hw (by rw [← e]; omega)) (ec (idxT v i_) (ec (gcall (fn_sub (m := x.natAbs) (k := y.natAbs) o hw0 hw6 (by omega) (by omega)) (ec (idxT v i_) (ec (idxT v i_) (ec v e0)))) e0))) ?_
      unfold Sg
      rw [e]
      congr 3
      rw [Bool.eq_iff_iff]; simp; omega

theorem fn_s_sub (o : OkG G) {n : Nat} {x y : Int} (hw : W58 w) (hx : x.natAbs < 2 ^ 40) (hy : y.natAbs < 2 ^ 40) (hs : (x - y).natAbs < 2 ^ 40) : Df G (n + 4) (str "s_sub") [Sg w x, Sg w y, .int (w : Nat)] (Sg w (x - y)) := by
  refine Df.of (r := rc 19) (xs := [str "x", str "y", str "w"]) o 14 rfl rfl (fun L a cd => ?_) (fun pm cd doc vs h => by match vs, h with | [v, u, t], _ => rfl)
  refine ret (gcall (fn_s_add (x := x) (y := -y) o hw hx (by omega) (by rw [← Int.sub_eq_add_neg]; exact hs)) (ec v (ec (gcall (fn_s_neg (z := y) o hw hy) (ec v e0)) (ec v e0)))) ?_
  rw [Int.sub_eq_add_neg]

theorem sg_mul (x y : Int) : ((decide (x < 0) != decide (y < 0)) && decide ((x.natAbs * y.natAbs) ≠ 0)) = decide (x * y < 0) := by
  rw [← Int.natAbs_mul]
  rcases Int.lt_trichotomy x 0 with h | h | h <;> rcases Int.lt_trichotomy y 0 with h' | h' | h'
  · have := Int.mul_pos_of_neg_of_neg h h'
    simp [h, h', Int.not_lt.mpr (Int.le_of_lt this)]
  · simp [h']
  · have := Int.mul_neg_of_neg_of_pos h h'
    have : x * y ≠ 0 := by omega
    simp_all; omega
  · simp [h]
  · simp [h]
  · simp [h]
  · have := Int.mul_neg_of_pos_of_neg h h'
    have : x * y ≠ 0 := by omega
    simp_all; omega
  · simp [h']
  · have := Int.mul_pos h h'
    simp [Int.not_lt.mpr (Int.le_of_lt h), Int.not_lt.mpr (Int.le_of_lt h'), Int.not_lt.mpr (Int.le_of_lt this)]

theorem fn_s_mul (o : OkG G) {n : Nat} {x y : Int} (hw : W58 w) (hx : x.natAbs < 2 ^ 20) (hy : y.natAbs < 2 ^ 20) : Df G (n + 3) (str "s_mul") [Sg w x, Sg w y, .int (w : Nat), .fn (str "mul_school")] (Sg w (x * y)) := by
  have hw0 : 0 < w := by have := hw.lo; omega
  have hw6 : w ≤ 60 := by have := hw.hi; omega
  have hlx := nl_40 (w := w) (m := x.natAbs) hw0 (by omega)
  have hly := nl_40 (w := w) (m := y.natAbs) hw0 (by omega)
  have hlm := nl_mul (w := w) (m := x.natAbs) (k := y.natAbs) hw0
  refine Df.of (r := rc 20) (xs := [str "x", str "y", str "w", str "mul"]) o 15 rfl rfl (fun L a cd => ?_) (fun pm cd doc vs h => by match vs, h with | [v, u, t, s], _ => rfl)
  refine ret (gcall (fn_signed (m := x.natAbs * y.natAbs) (b := decide (x < 0) != decide (y < 0)) o hw (by omega)) (ec (bne_ (idxT v i_) (idxT v i_)) (ec (call (fn_mul (m := x.natAbs) (k := y.natAbs) o hw0 hw6 (by omega) (by omega)) v (ec (idxT v i_) (ec (idxT v i_) (ec v e0)))) e0))) ?_
  unfold Sg
  rw [sg_mul, Int.natAbs_mul]
end
end Mine

end PartC5
section PartC6
open PySem PySem.Calls PyProof.Rows PySem.W
set_option Elab.async false
set_option maxRecDepth 100000
set_option autoImplicit false
set_option linter.unusedVariables false
set_option linter.unusedSimpArgs false
namespace Mine

/-- the cells that a block closes over -/
inductive Cls (E : Env) : List (Str × Addr) → Prop
  | nil : Cls E []
  | cons {y : Str} {c : Addr} {cl : List (Str × Addr)} (h : E.cells.lookup y = some c) (hs : Cls E cl) : Cls E ((y, c) :: cl)
theorem Cls.get {E : Env} {cl : List (Str × Addr)} (h : Cls E cl) {y : Str} {c : Addr} (e : cl.lookup y = some c) : E.cells.lookup y = some c := by
  induction h with
  | nil => cases e
  | @cons z c' cl' h hs ih =>
    rw [List.lookup_cons] at e
    cases q : y == z with
    | true => rw [q] at e; cases e; rw [eq_of_beq q]; exact h
    | false => rw [q] at e; exact ih e
theorem lookup_key {β : Type} {y : Str} : ∀ {cl : List (Str × β)}, y ∈ cl.map (·.1) → ∃ c, cl.lookup y = some c
  | [], h => by cases h
  | (z, c) :: r, h => by
    rw [List.lookup_cons]
    cases q : y == z with
    | true => exact ⟨c, rfl⟩
    | false =>
      refine lookup_key (cl := r) ?_
      cases h with
      | head => simp at q
      | tail _ h => exact h
theorem relabel_free {E : Env} {y : Str} : ∀ {names : List (Str × NameKind)}, (∀ p ∈ names, p.2 ≠ .cell) →
    ((names.map fun (n, k) => if (k == NameKind.free && E.scope.kind == .function && E.kindOf n == some .cell) then (n, NameKind.cell) else (n, k)).lookup y = some .cell ∨
      (names.map fun (n, k) => if (k == NameKind.free && E.scope.kind == .function && E.kindOf n == some .cell) then (n, NameKind.cell) else (n, k)).lookup y = some .free) → (y, NameKind.free) ∈ names
  | [], _, h => by rcases h with h | h <;> cases h
  | (n, k) :: r, hc, h => by
    have ih := @relabel_free E y r (fun p hp => hc p (.tail _ hp))
    have hk := hc (n, k) (.head _)
    rw [List.map_cons] at h
    by_cases q : y = n
    · subst q
      by_cases z : (k == NameKind.free && E.scope.kind == .function && E.kindOf y == some .cell) = true
      · have : k = .free := by simp at z; exact z.1.1
        subst this; exact .head _
      · simp only [z] at h
        simp at h
        rcases h with h | h
        · exact absurd h hk
        · subst h; exact .head _
    · refine .tail _ (ih ?_)
      have e : ∀ (l : List (Str × NameKind)) (a : NameKind), List.lookup y ((n, a) :: l) = List.lookup y l := fun l a => by
        rw [List.lookup_cons, beq_eq_false_iff_ne.mpr q]
      by_cases z : (k == NameKind.free && E.scope.kind == .function && E.kindOf n == some .cell) = true
      · simp only [z, if_true, e] at h; exact h
      · simp only [z, if_false, e] at h
        simpa [e] using h

theorem Block.of {E : Env} {scope : Scope} {x : Str} (cl : List (Str × Addr)) (clos : closureFor scope E = pure cl) (cell : ∀ y ∈ scope.names, y.2 ≠ .cell) (kind : scope.kind = .function) (names : ∀ y ∈ scope.names, y.2 = .local → scope.names.lookup y.1 = some .local)
    (tgt : scope.names.lookup x = some .local) (k : (scope.names.all fun y => !(y.2 == .free) || (E.kindOf y.1 == some .cell || E.kindOf y.1 == some .free)) = true) (c : (scope.names.all fun y => !(y.2 == .free) || (cl.map (·.1)).contains y.1) = true) (s : Cls E cl) : Block E scope cl x := by
  refine ⟨clos, cell, kind, names, tgt, fun y h => ?_, fun y c e => s.get e⟩
  have hm := relabel_free cell h
  have hk := List.all_eq_true.mp k _ hm
  have hcc := List.all_eq_true.mp c _ hm
  refine ⟨by simpa using hk, ?_⟩
  obtain ⟨d, e⟩ := lookup_key (y := y) (cl := cl) (by simpa using hcc)
  rw [e, s.get e]

/-- what a block reads -/
inductive Car (E : Env) (scope : Scope) (x : Str) (ρ : St) : St → Prop
  | nil : Car E scope x ρ []
  | cons {y : Str} {d : Dv} {ρc : St} (hne : y ≠ x) (h : ρ.lookup y = some (.fr d)) (hk : ((relabel scope E).names.lookup y == some .local) = false) (hs : Car E scope x ρ ρc) : Car E scope x ρ ((y, .fr d) :: ρc)
theorem Car.all {E : Env} {scope : Scope} {x : Str} {ρ ρc : St} (h : Car E scope x ρ ρc) : ∀ y V, ρc.lookup y = some V → y ≠ x ∧ (∃ d, V = .fr d) ∧ ρ.lookup y = some V ∧ ¬ (relabel scope E).names.lookup y = some .local := by
  induction h with
  | nil => intro y V e; cases e
  | @cons z d ρc hne h hk hs ih =>
    intro y V e
    rw [List.lookup_cons] at e
    cases q : y == z with
    | true =>
      rw [q] at e; cases e
      obtain rfl := eq_of_beq q
      exact ⟨hne, ⟨_, rfl⟩, h, fun w => by rw [w] at hk; simp at hk⟩
    | false => rw [q] at e; exact ih y V e

section
variable {G : Cx} {n : Nat} {E : Env} {ρ : St}

theorem cmpF {elt iter : Expr} {x : Str} {px pos : Pos} {ifs : List Expr} {scope : Scope} {N : Nat} {it : Nat → Dv} {tp : Prop} (cl : List (Str × Addr)) (ρc : St) (ok : Nat → Bool) (out : Nat → Dv) (hI : EvI G n E ρ iter N it tp)
    (ht : ∀ i, i < N → ∀ C, Tsts G n (compEnvC scope cl C E) ((x, .fr (it i)) :: ρc) ifs (ok i)) (he : ∀ i, i < N → ok i = true → ∀ C, Ev G n (compEnvC scope cl C E) ((x, .fr (it i)) :: ρc) elt (out i)) (hN : N ≤ 2 ^ 20)
    (clos : closureFor scope E = pure cl := by rfl) (cell : ∀ y ∈ scope.names, y.2 ≠ .cell := by decide) (kind : scope.kind = .function := by rfl) (names : ∀ y ∈ scope.names, y.2 = .local → scope.names.lookup y.1 = some .local := by decide)
    (tgt : scope.names.lookup x = some .local := by rfl) (k : (scope.names.all fun y => !(y.2 == .free) || (E.kindOf y.1 == some .cell || E.kindOf y.1 == some .free)) = true := by rfl) (c : (scope.names.all fun y => !(y.2 == .free) || (cl.map (·.1)).contains y.1) = true := by rfl) (s : Cls E cl := by repeat (first | exact Cls.nil | refine Cls.cons rfl ?_))
    (hρ : Car E scope x ρ ρc := by repeat (first | exact Car.nil | refine Car.cons (by decide) rfl rfl ?_))
    (hs : ∀ x, foldedSetIterable iter E x = pure x := by exact fun _ => rfl) : EvP G n E ρ (.ListComp elt [⟨.Name x px, iter, ifs, 0⟩] scope pos) (.own (((List.range N).filter ok).map out)) :=
  EvP.comp ρc ok out hI (Block.of cl clos cell kind names tgt k c s) hρ.all ht he hN hs
theorem cmp_ {elt iter : Expr} {x : Str} {px pos : Pos} {scope : Scope} {N : Nat} {it : Nat → Dv} {tp : Prop} (cl : List (Str × Addr)) (ρc : St) (out : Nat → Dv) (hI : EvI G n E ρ iter N it tp)
    (he : ∀ i, i < N → ∀ C, Ev G n (compEnvC scope cl C E) ((x, .fr (it i)) :: ρc) elt (out i)) (hN : N ≤ 2 ^ 20)
    (clos : closureFor scope E = pure cl := by rfl) (cell : ∀ y ∈ scope.names, y.2 ≠ .cell := by decide) (kind : scope.kind = .function := by rfl) (names : ∀ y ∈ scope.names, y.2 = .local → scope.names.lookup y.1 = some .local := by decide)
    (tgt : scope.names.lookup x = some .local := by rfl) (k : (scope.names.all fun y => !(y.2 == .free) || (E.kindOf y.1 == some .cell || E.kindOf y.1 == some .free)) = true := by rfl) (c : (scope.names.all fun y => !(y.2 == .free) || (cl.map (·.1)).contains y.1) = true := by rfl) (s : Cls E cl := by repeat (first | exact Cls.nil | refine Cls.cons rfl ?_))
    (hρ : Car E scope x ρ ρc := by repeat (first | exact Car.nil | refine Car.cons (by decide) rfl rfl ?_))
    (hs : ∀ x, foldedSetIterable iter E x = pure x := by exact fun _ => rfl) : EvP G n E ρ (.ListComp elt [⟨.Name x px, iter, [], 0⟩] scope pos) (.own ((List.range N).map out)) := by
  have := cmpF (px := px) (pos := pos) cl ρc (fun _ => true) out hI (fun i hi C => .nil) (fun i hi _ C => he i hi C) hN clos cell kind names tgt k c s hρ hs
  rwa [List.filter_eq_self.mpr (fun _ _ => rfl)] at this
end

section
variable {G : Cx} {w : Nat}

theorem sg_div (x y : Int) (hy : y ≠ 0) : ((decide (x < 0) != decide (y < 0)) && decide (x.natAbs / y.natAbs ≠ 0)) = decide (x.tdiv y < 0) := by
  rw [← show (x.tdiv y).natAbs = x.natAbs / y.natAbs from Int.natAbs_tdiv x y]
  rcases Int.lt_trichotomy x 0 with h | h | h
  · rcases Int.lt_trichotomy y 0 with h' | h' | h'
    · have : 0 ≤ x.tdiv y := Int.tdiv_nonneg_of_nonpos_of_nonpos (by omega) (by omega)
      simp [h, h', Int.not_lt.mpr this]
    · exact absurd h' hy
    · have : x.tdiv y ≤ 0 := by
        have := Int.tdiv_nonneg (a := -x) (b := y) (by omega) (by omega)
        rw [Int.neg_tdiv] at this
        generalize x.tdiv y = q at *; omega
      generalize x.tdiv y = q at *
      rw [Bool.eq_iff_iff]; simp [h, Int.not_lt.mpr (Int.le_of_lt h')]; omega
  · subst h; simp
  · rcases Int.lt_trichotomy y 0 with h' | h' | h'
    · have : x.tdiv y ≤ 0 := by
        have := Int.tdiv_nonneg (a := x) (b := -y) (by omega) (by omega)
        rw [Int.tdiv_neg] at this
        generalize x.tdiv y = q at *; omega
      generalize x.tdiv y = q at *
      rw [Bool.eq_iff_iff]; simp [h', Int.not_lt.mpr (Int.le_of_lt h)]; omega
    · exact absurd h' hy
    · have : 0 ≤ x.tdiv y := Int.tdiv_nonneg (by omega) (by omega)
      simp [Int.not_lt.mpr (Int.le_of_lt h), Int.not_lt.mpr (Int.le_of_lt h'), Int.not_lt.mpr this]
theorem sg_mod (x y : Int) : (decide (x < 0) && decide (x.natAbs % y.natAbs ≠ 0)) = decide (x.tmod y < 0) := by
  rw [← Int.natAbs_tmod]
  rcases Int.lt_or_le x 0 with h | h
  · have : x.tmod y ≤ 0 := by
      have := Int.tmod_nonneg (a := -x) y (by omega)
      rw [Int.neg_tmod] at this
      generalize x.tmod y = q at *; omega
    generalize x.tmod y = q at *
    rw [Bool.eq_iff_iff]; simp [h]; omega
  · have := Int.tmod_nonneg (a := x) y h
    simp [Int.not_lt.mpr h, Int.not_lt.mpr this]

theorem fn_tdiv (o : OkG G) {n : Nat} {x y : Int} (hw : W58 w) (hx : x.natAbs < 2 ^ 40) (hy : y ≠ 0) (hy' : y.natAbs < 2 ^ w) : Df G (n + 5) (str "tdiv") [Sg w x, Sg w y, .int (w : Nat), .fn (str "divrem_school")] (.tup [Sg w (x.tdiv y), Sg w (x.tmod y)]) := by
  have hw0 : 0 < w := by have := hw.lo; omega
  have hw6 : w ≤ 28 := by have := hw.hi; omega
  have hlx := nl_40 hw0 hx
  have hyp : 0 < y.natAbs := by omega
  have hly : nl w y.natAbs = 1 := by rw [← dg_len, dg_small hw0 (by omega) hy']; rfl
  have ln : ∀ x, (nats (dg w x)).length = nl w x := fun x => by rw [nats_len, dg_len]
  have hq := nl_le_of_le hw0 (Nat.div_le_self x.natAbs y.natAbs)
  have hr := nl_le_of_le hw0 (Nat.mod_le x.natAbs y.natAbs)
  refine Df.of (r := rc 21) (xs := [str "x", str "y", str "w", str "divrem"]) o 16 rfl rfl (fun L a cd => ?_) (fun pm cd doc vs h => by match vs, h with | [v, u, t, s], _ => rfl)
  refine Ex.ifF ((teq (len o (idxT v i_) (by rw [ln]; omega)) i_).no (by rw [ln]; omega)) ?_
  refine tv [str "quotient", str "rest"] (call (fn_divrem (m := x.natAbs) (d := y.natAbs) o hw0 hw6 (by omega) hyp hy') v (ec (idxT v i_) (ec (idxT v i_) (ec v e0)))) ?_
  refine ret (tup_ (ec (gcall (fn_signed (m := x.natAbs / y.natAbs) (b := decide (x < 0) != decide (y < 0)) o hw (by omega)) (ec (bne_ (idxT v i_) (idxT v i_)) (ec v e0)))
    (ec (gcall (fn_signed (m := x.natAbs % y.natAbs) (b := decide (x < 0)) o hw (by omega)) (ec (idxT v i_) (ec v e0))) e0))) ?_
  unfold Sg
  rw [sg_div x y hy, sg_mod, show (x.tdiv y).natAbs = x.natAbs / y.natAbs from Int.natAbs_tdiv x y, Int.natAbs_tmod]

theorem fn_exact (o : OkG G) {n : Nat} {x y : Int} (hw : W58 w) (hx : x.natAbs < 2 ^ 40) (hy : y ≠ 0) (hy' : y.natAbs < 2 ^ w) : Df G (n + 6) (str "exact") [Sg w x, Sg w y, .int (w : Nat), .fn (str "divrem_school")] (Sg w (x.tdiv y)) := by
  refine Df.of (r := rc 26) (xs := [str "x", str "y", str "w", str "divrem"]) o 18 rfl rfl (fun L a cd => ?_) (fun pm cd doc vs h => by match vs, h with | [v, u, t, s], _ => rfl)
  refine tv [str "found", str "rest"] (gcall (fn_tdiv (x := x) (y := y) o hw hx hy hy') (ec v (ec v (ec v (ec v e0))))) ?_
  exact ret v rfl

/-- a matrix in limbs -/
noncomputable abbrev Rw (w : Nat) (r : List Int) : Dv := .lst (r.map (Sg w))
noncomputable abbrev Mt (w : Nat) (M : List (List Int)) : Dv := .lst (M.map (Rw w))
noncomputable abbrev Iv (r : List Int) : Dv := .lst (r.map .int)
noncomputable abbrev Im (M : List (List Int)) : Dv := .lst (M.map Iv)
theorem map_range {α β : Type} (f : α → β) (d : α) (l : List α) : (List.range l.length).map (fun i => f (l.getD i d)) = l.map f := by
  apply List.ext_getElem?
  intro i
  simp only [List.getElem?_map]
  by_cases h : i < l.length
  · rw [List.getElem?_range h]; simp [h]
  · rw [List.getElem?_eq_none (by simpa using h), List.getElem?_eq_none (by simpa using h)]; rfl

theorem fn_m_of (o : OkG G) {n : Nat} {M : List (List Int)} (hw : W58 w) (hb : ∀ r ∈ M, ∀ x ∈ r, x.natAbs < 2 ^ 40) (hn : M.length ≤ 3) (hn' : ∀ r ∈ M, r.length ≤ 3) : Df G (n + 3) (str "m_of") [Im M, .int (w : Nat)] (Mt w M) := by
  refine Df.of (r := rc 25) (xs := [str "rows", str "w"]) o 17 rfl rfl (fun L a cd => ?_) (fun pm cd doc vs h => by match vs, h with | [v, u], _ => rfl)
  refine ret (Ev.ofP (cmp_ [(str "w", L + 1)] [(str "w", .fr (.int (w : Nat)))] (fun i => Rw w (M.getD i [])) (EvI.list v) (fun i hi C => ?_) (by rw [List.length_map]; omega))) ?_
  · rw [List.length_map] at hi
    have e : (M.map Iv).getD i .none = Iv (M.getD i []) := by simp [List.getD, hi]
    rw [e]
    have hm : M.getD i [] ∈ M := by simp [List.getD, hi]
    generalize M.getD i [] = r at hm
    have hr := hb r hm
    have := hn' r hm
    refine Ev.is (Ev.ofP (cmp_ [(str "w", L + 1)] [(str "w", .fr (.int (w : Nat)))] (fun i => Sg w (r.getD i 0)) (EvI.list v) (fun i hi C => ?_) (by rw [List.length_map]; omega))) ?_
    · rw [List.length_map] at hi
      have e : (r.map Dv.int).getD i .none = .int (r.getD i 0) := by simp [List.getD, hi]
      rw [e]
      exact gcall (fn_s_of o hw (hr _ (by simp [List.getD, hi]))) (ec v (ec v e0))
    · show Dv.lst _ = _
      rw [List.length_map, map_range (Sg w)]
  · show Dv.lst _ = _
    rw [List.length_map, map_range (Rw w)]
end
end Mine

end PartC6
section PartC7
open PySem PySem.Calls PyProof.Rows PySem.W
set_option Elab.async false
set_option maxRecDepth 100000
set_option autoImplicit false
set_option linter.unusedVariables false
set_option linter.unusedSimpArgs false
namespace Mine

noncomputable def ent (M : List (List Int)) (i j : Nat) : Int := (M.getD i []).getD j 0
/-- the first row from top on with a pivot, k rows left -/
noncomputable def pv (M : List (List Int)) (col : Nat) : Nat → Nat → Option Nat
  | _, 0 => none
  | top, k + 1 => if ent M top col ≠ 0 then some top else pv M col (top + 1) k
noncomputable def pvI : Option Nat → Int
  | some i => i
  | none => -1
theorem pv_some {M : List (List Int)} {col : Nat} : ∀ {k top i : Nat}, (∀ j, j < i → ent M (top + j) col = 0) → i < k → ent M (top + i) col ≠ 0 → pv M col top k = some (top + i)
  | 0, _, _, _, h, _ => by omega
  | k + 1, top, 0, _, _, h => by unfold pv; rw [if_pos (show ent M top col ≠ 0 from h)]; rfl
  | k + 1, top, i + 1, h, hk, h' => by
    unfold pv
    rw [if_neg (fun q => q (h 0 (by omega))), pv_some (i := i) (fun j hj => by have := h (j + 1) (by omega); rwa [show top + (j + 1) = top + 1 + j by omega] at this) (by omega) (by rwa [show top + 1 + i = top + (i + 1) by omega])]
    congr 1; omega
theorem pv_none {M : List (List Int)} {col : Nat} : ∀ {k top : Nat}, (∀ j, j < k → ent M (top + j) col = 0) → pv M col top k = none
  | 0, _, _ => rfl
  | k + 1, top, h => by
    unfold pv
    rw [if_neg (fun q => q (h 0 (by omega))), pv_none (fun j hj => by have := h (j + 1) (by omega); rwa [show top + (j + 1) = top + 1 + j by omega] at this)]
theorem pv_range {M : List (List Int)} {col : Nat} : ∀ {k top p : Nat}, pv M col top k = some p → top ≤ p ∧ p < top + k ∧ ent M p col ≠ 0
  | 0, _, _, h => by cases h
  | k + 1, top, p, h => by
    unfold pv at h
    split at h
    · cases h; exact ⟨by omega, by omega, by assumption⟩
    · have := pv_range h; exact ⟨by omega, by omega, this.2.2⟩

noncomputable def clr (row head : List Int) (c : Nat) (b : Int) : List Int := (List.range row.length).map fun j => (row.getD j 0 * head.getD c 0 - row.getD c 0 * head.getD j 0).tdiv b

theorem rw_get {w : Nat} {r : List Int} {j : Nat} (h : j < r.length) : (r.map (Sg w))[j]? = some (Sg w (r.getD j 0)) := by simp [List.getD, h]
theorem mt_get {w : Nat} {M : List (List Int)} {j : Nat} (h : j < M.length) : (M.map (Rw w))[j]? = some (Rw w (M.getD j [])) := by simp [List.getD, h]
theorem getD_mem {α : Type} {d : α} {l : List α} {i : Nat} (h : i < l.length) : l.getD i d ∈ l := by simp [List.getD, h]

section
variable {G : Cx} {w : Nat}

theorem fn_pivot_row (o : OkG G) {n : Nat} {M : List (List Int)} {top col : Nat} (hw : W58 w) (hb : ∀ r ∈ M, ∀ x ∈ r, x.natAbs < 2 ^ 40) (hn : M.length ≤ 3) (hn' : ∀ r ∈ M, r.length ≤ 3 ∧ col < r.length) (ht : top ≤ 3) :
    Df G (n + 2) (str "pivot_row") [Mt w M, .int (top : Nat), .int (col : Nat)] (.int (pvI (pv M col top (M.length - top)))) := by
  refine Df.of (r := rc 27) (xs := [str "rows", str "top", str "column"]) o 19 rfl rfl (fun L a cd => ?_) (fun pm cd doc vs h => by match vs, h with | [v, u, t], _ => rfl)
  refine forV (N := M.length - top) (fun i => [(str "rows", .fr (Mt w M)), (str "top", .fr (.int (top : Nat))), (str "column", .fr (.int (col : Nat)))]) (fun i => ∀ j, j < i → ent M (top + j) col = 0)
    (rng2 o v (len o v (by rw [List.length_map]; omega)) (by rw [List.length_map]; omega) (by rw [List.length_map]; omega)) (fun j hj => by omega) (Sub.refl _) (fun i hi hv => ?_) (fun hv => ?_)
  · have hm : M.getD (top + i) [] ∈ M := getD_mem (by omega)
    have hc := (hn' _ hm).2
    have hx := hb _ hm _ (getD_mem (d := 0) hc)
    by_cases h0 : ent M (top + i) col = 0
    · refine Ex.ifF ((tne (gcall (fn_s_sign (z := ent M (top + i) col) o hw hx) (ec (idx (i := col) (idx (i := top + i) v v (by omega) (mt_get (by omega)) (by rw [List.length_map]; omega)) v rfl (rw_get hc) (by rw [List.length_map]; have := (hn' _ hm).1; omega)) e0)) i_).is (b := false) (by rw [h0]; rfl)) ?_
      refine Ex.nil ⟨Sub.cons rfl (Sub.cons rfl (Sub.cons rfl (Sub.nil _))), fun j hj => ?_⟩
      by_cases q : j = i
      · rw [q]; exact h0
      · exact hv j (by omega)
    · refine Ex.ifT ((tne (gcall (fn_s_sign (z := ent M (top + i) col) o hw hx) (ec (idx (i := col) (idx (i := top + i) v v (by omega) (mt_get (by omega)) (by rw [List.length_map]; omega)) v rfl (rw_get hc) (by rw [List.length_map]; have := (hn' _ hm).1; omega)) e0)) i_).is (b := true) (by simp [Int.sign_eq_zero_iff_zero, h0])) (fun _ => False) (ret v ?_) (fun _ f => f.elim)
      rw [pv_some hv hi h0]
      show Dv.int ((top : Int) + (i : Int)) = Dv.int ((top + i : Nat) : Int)
      rw [Int.natCast_add]
  · refine ret (neg i_) ?_
    rw [pv_none hv]; rfl

theorem clr_len (row head : List Int) (c : Nat) (b : Int) : (clr row head c b).length = row.length := by simp [clr]

theorem fn_cleared (o : OkG G) {n : Nat} {row head : List Int} {col : Nat} {b : Int} (hw : W58 w) (hr : ∀ x ∈ row, x.natAbs < 2 ^ 10) (hh : ∀ x ∈ head, x.natAbs < 2 ^ 10) (hl : head.length = row.length) (hn : row.length ≤ 3) (hc : col < row.length) (hb : b ≠ 0) (hb' : b.natAbs < 2 ^ 5) :
    Df G (n + 7) (str "cleared") [Rw w row, Rw w head, .int (col : Nat), Sg w b, .int (w : Nat), .fn (str "mul_school"), .fn (str "divrem_school")] (Rw w (clr row head col b)) := by
  have hbw : b.natAbs < 2 ^ w := Nat.lt_of_lt_of_le hb' (Nat.pow_le_pow_right (by decide) hw.lo)
  refine Df.of (r := rc 28) (xs := [str "row", str "head", str "column", str "before", str "w", str "mul", str "divrem"]) o 20 rfl rfl (fun L a cd => ?_) (fun pm cd doc vs h => by match vs, h with | [v, u, t, s, q, p, r], _ => rfl)
  refine sw [str "pivot", str "own"] (qc (p_ (idx (i := col) v v rfl (rw_get (by omega)) (by rw [List.length_map]; omega))) (qc (p_ (idx (i := col) v v rfl (rw_get hc) (by rw [List.length_map]; omega))) q0)) ?_
  refine st1 onil ?_
  have hho := hh _ (getD_mem (d := 0) (show col < head.length by omega))
  have hro := hr _ (getD_mem (d := 0) hc)
  refine forE o (fun i => [(str "head", .fr (Rw w head)), (str "before", .fr (Sg w b)), (str "w", .fr (.int (w : Nat))), (str "mul", .fr (.fn (str "mul_school"))), (str "divrem", .fr (.fn (str "divrem_school"))), (str "pivot", .fr (Sg w (head.getD col 0))), (str "own", .fr (Sg w (row.getD col 0))),
    (str "found", .own (((List.range i).map fun j => (row.getD j 0 * head.getD col 0 - row.getD col 0 * head.getD j 0).tdiv b).map (Sg w)))]) v ?_ (fun i d hd => ?_) ?_
  · exact Sub.cons rfl (Sub.cons rfl (Sub.cons rfl (Sub.cons rfl (Sub.cons rfl (Sub.cons rfl (Sub.cons rfl (Sub.cons rfl (Sub.nil _))))))))
  · have hi : i < row.length := by have := (List.getElem?_eq_some_iff.mp hd).1; rwa [List.length_map] at this
    rw [rw_get hi] at hd
    cases hd
    have hhi := hh _ (getD_mem (d := 0) (show i < head.length by omega))
    have hri := hr _ (getD_mem (d := 0) hi)
    have m1 : (row.getD i 0 * head.getD col 0).natAbs < 2 ^ 20 := by rw [Int.natAbs_mul]; exact Nat.mul_lt_mul'' (c := 2 ^ 10) (d := 2 ^ 10) hri hho
    have m2 : (row.getD col 0 * head.getD i 0).natAbs < 2 ^ 20 := by rw [Int.natAbs_mul]; exact Nat.mul_lt_mul'' (c := 2 ^ 10) (d := 2 ^ 10) hro hhi
    refine st1 (p_ (gcall (fn_s_sub (x := row.getD i 0 * head.getD col 0) (y := row.getD col 0 * head.getD i 0) o hw (by omega) (by omega) (by omega))
      (ec (gcall (fn_s_mul (x := row.getD i 0) (y := head.getD col 0) o hw (by omega) (by omega)) (ec v (ec v (ec v (ec v e0)))))
      (ec (gcall (fn_s_mul (x := row.getD col 0) (y := head.getD i 0) o hw (by omega) (by omega)) (ec v (ec (idx (i := i) v v rfl (rw_get (by omega)) (by rw [List.length_map]; omega)) (ec v (ec v e0))))) (ec v e0))))) ?_
    refine app rfl (gcall (fn_exact (x := row.getD i 0 * head.getD col 0 - row.getD col 0 * head.getD i 0) (y := b) o hw (by omega) hb hbw) (ec v (ec v (ec v (ec v e0))))) (by simp; omega) ?_
    refine Ex.nil (Sub.cons rfl (Sub.cons rfl (Sub.cons rfl (Sub.cons rfl (Sub.cons rfl (Sub.cons rfl (Sub.cons rfl (Sub.cons ?_ (Sub.nil _)))))))))
    rw [List.range_succ, List.map_append, List.map_append]; rfl
  · refine ret v ?_
    rw [List.length_map]; rfl

/-- the state of steps_down -/
structure Bs where
  rows : List (List Int)
  pl : List Nat
  odd : Bool
  bef : Int
noncomputable def swp (M : List (List Int)) (i j : Nat) : List (List Int) := if j ≠ i then (M.set i (M.getD j [])).set j (M.getD i []) else M
noncomputable def clrUp (M : List (List Int)) (top col : Nat) (b : Int) (k : Nat) : List (List Int) := (List.range M.length).map fun i => if top < i ∧ i < k then clr (M.getD i []) (M.getD top []) col b else M.getD i []
noncomputable def stp (s : Bs) (col : Nat) : Bs := match pv s.rows col s.pl.length (s.rows.length - s.pl.length) with
  | none => s
  | some p => ⟨clrUp (swp s.rows s.pl.length p) s.pl.length col s.bef s.rows.length, s.pl ++ [col], s.odd ^^ decide (p ≠ s.pl.length), ent (swp s.rows s.pl.length p) s.pl.length col⟩
noncomputable def run (M : List (List Int)) : Nat → Bs
  | 0 => ⟨M, [], false, 1⟩
  | i + 1 => stp (run M i) i

/-- what the walk asks of a state -/
structure Fit (n : Nat) (s : Bs) : Prop where
  len : s.rows.length = n
  wid : ∀ r ∈ s.rows, r.length = n
  pls : s.pl.length ≤ n
  sm : ∀ r ∈ s.rows, ∀ x ∈ r, x.natAbs < 2 ^ 40
  cl : s.pl.length + 1 < n → s.bef ≠ 0 ∧ s.bef.natAbs < 2 ^ 5 ∧ ∀ r ∈ s.rows, ∀ x ∈ r, x.natAbs < 2 ^ 10

theorem swp_len (M : List (List Int)) (i j : Nat) : (swp M i j).length = M.length := by unfold swp; split <;> simp
theorem swp_mem {M : List (List Int)} {i j : Nat} (hi : i < M.length) (hj : j < M.length) {r : List Int} (h : r ∈ swp M i j) : r ∈ M := by
  unfold swp at h
  split at h
  · rcases List.mem_or_eq_of_mem_set h with h | h
    · rcases List.mem_or_eq_of_mem_set h with h | h
      · exact h
      · exact h ▸ getD_mem hj
    · exact h ▸ getD_mem hi
  · exact h
theorem clrUp_len (M : List (List Int)) (top col : Nat) (b : Int) (k : Nat) : (clrUp M top col b k).length = M.length := by simp [clrUp]
theorem clrUp_get {M : List (List Int)} {top col : Nat} {b : Int} {k i : Nat} (h : i < M.length) : (clrUp M top col b k)[i]? = some (if top < i ∧ i < k then clr (M.getD i []) (M.getD top []) col b else M.getD i []) := by simp [clrUp, h]
theorem clrUp_zero (M : List (List Int)) (top col : Nat) (b : Int) : clrUp M top col b (top + 1) = M := by
  apply List.ext_getElem?
  intro i
  by_cases h : i < M.length
  · rw [clrUp_get h, if_neg (by omega)]; simp [List.getD, h]
  · rw [List.getElem?_eq_none (by rw [clrUp_len]; omega), List.getElem?_eq_none (by omega)]
theorem clrUp_succ (M : List (List Int)) (top col : Nat) (b : Int) (k : Nat) (ht : top < k) (hk : k < M.length) : (clrUp M top col b k).set k (clr (M.getD k []) (M.getD top []) col b) = clrUp M top col b (k + 1) := by
  apply List.ext_getElem?
  intro i
  by_cases h : i < M.length
  · rw [clrUp_get h, List.getElem?_set]
    by_cases q : k = i
    · subst q
      rw [if_pos rfl, if_pos (by rw [clrUp_len]; omega), if_pos (by omega)]
    · rw [if_neg q, clrUp_get h]
      by_cases z : top < i ∧ i < k
      · rw [if_pos z, if_pos (by omega)]
      · rw [if_neg z, if_neg (by omega)]
  · rw [List.getElem?_eq_none (by rw [List.length_set, clrUp_len]; omega), List.getElem?_eq_none (by rw [clrUp_len]; omega)]

noncomputable def Sd (w n : Nat) (M : List (List Int)) (s : Bs) : St := [(str "a", .fr (Mt w M)), (str "columns", .fr (.int (n : Nat))), (str "w", .fr (.int (w : Nat))), (str "mul", .fr (.fn (str "mul_school"))), (str "divrem", .fr (.fn (str "divrem_school"))),
  (str "rows", .own (s.rows.map (Rw w))), (str "places", .own (s.pl.map fun (x : Nat) => Dv.int x)), (str "is_odd", .fr (.bool s.odd)), (str "before", .fr (Sg w s.bef))]

theorem Sg_one (hw : W58 w) : Sg w 1 = .tup [.bool false, .lst [.int 1]] := by
  unfold Sg
  rw [show (1 : Int).natAbs = 1 from rfl, dg_small (by have := hw.lo; omega) (by decide) (by have := hw.lo; exact Nat.one_lt_two_pow (by omega))]
  rfl
theorem Sg_zero : Sg w 0 = .tup [.bool false, .lst []] := by
  unfold Sg
  rw [show (0 : Int).natAbs = 0 from rfl, dg_zero]
  rfl

theorem weakTo {G : Cx} {n : Nat} {E : Env} {ρ : St} (ρ' : St) {ss : List Stmt} {P : St → Prop} {Rt : Dv → St → Prop} (h : Ex G n E ρ' ss P Rt) (hs : Sub ρ' ρ := by repeat (first | exact Sub.nil _ | refine Sub.cons rfl ?_)) : Ex G n E ρ ss P Rt := h.weak hs

theorem fn_steps_down (o : OkG G) {n : Nat} {M : List (List Int)} {m : Nat} (hw : W58 w) (hm : m ≤ 3) (hfit : ∀ i, i ≤ m → Fit m (run M i)) :
    Df G (n + 8) (str "steps_down") [Mt w M, .int (m : Nat), .int (w : Nat), .fn (str "mul_school"), .fn (str "divrem_school")] (.tup [Mt w (run M m).rows, .lst ((run M m).pl.map fun (x : Nat) => Dv.int x), .bool (run M m).odd]) := by
  have hM0 : M.length = m := (hfit 0 (by omega)).len
  have hMb : ∀ r ∈ M, r.length = m := (hfit 0 (by omega)).wid
  refine Df.of (r := rc 29) (xs := [str "a", str "columns", str "w", str "mul", str "divrem"]) o 21 rfl rfl (fun L a cd => ?_) (fun pm cd doc vs h => by match vs, h with | [v, u, t, s, q], _ => rfl)
  refine tw [str "rows", str "places", str "is_odd", str "before"] (qc (cmp_ [] [] (fun i => Rw w (M.getD i [])) (EvI.list v) (fun i hi C => ?_) (by rw [List.length_map]; omega)) (qc onil (qc (p_ b_) (qc (p_ (vc o.unit)) q0)))) ?_
  · rw [List.length_map] at hi
    have e : (M.map (Rw w)).getD i .none = Rw w (M.getD i []) := by simp [List.getD, hi]
    rw [e]
    have := hMb _ (getD_mem (d := []) hi)
    exact Ev.copy v (by rw [List.length_map]; omega)
  refine forN (N := m) (fun i => Sd w m M (run M i)) (rng1 o v rfl (by omega)) ?_ (fun i hi => ?_) ?_
  · refine Sub.cons rfl (Sub.cons rfl (Sub.cons rfl (Sub.cons rfl (Sub.cons rfl (Sub.cons ?_ (Sub.cons rfl (Sub.cons rfl (Sub.cons ?_ (Sub.nil _)))))))))
    · rw [List.length_map, map_range (Rw w)]; rfl
    · rw [show (run M 0).bef = 1 from rfl, Sg_one hw]; rfl
  · have F := hfit i (by omega)
    have F' := hfit (i + 1) (by omega)
    have hstp : run M (i + 1) = stp (run M i) i := rfl
    generalize run M (i + 1) = s' at hstp F'
    generalize run M i = s at hstp F
    have hrl : s.rows.length ≤ 3 := by have := F.len; omega
    have hpl : s.pl.length ≤ 3 := by have := F.pls; omega
    refine st1 (p_ (Ev.borrow (len o v (by rw [List.length_map]; omega)) rfl)) ?_
    refine st1 (p_ (Ev.borrow (gcall (fn_pivot_row (M := s.rows) (top := s.pl.length) (col := i) o hw F.sm hrl (fun r hr => by have := F.wid r hr; omega) hpl) (ec v (ec (Ev.is v (by rw [List.length_map]; rfl)) (ec v e0)))) rfl)) ?_
    cases hp : pv s.rows i s.pl.length (s.rows.length - s.pl.length) with
    | none =>
      have hs' : s' = s := by rw [hstp]; unfold stp; rw [hp]
      refine Ex.ifF ((tge v i_).no (by simp [pvI])) ?_
      rw [hs']
      exact Ex.nil (Sub.cons rfl (Sub.cons rfl (Sub.cons rfl (Sub.cons rfl (Sub.cons rfl (Sub.cons rfl (Sub.cons rfl (Sub.cons rfl (Sub.cons rfl (Sub.nil _))))))))))
    | some p =>
      have hs' : s' = ⟨clrUp (swp s.rows s.pl.length p) s.pl.length i s.bef s.rows.length, s.pl ++ [i], s.odd ^^ decide (p ≠ s.pl.length), ent (swp s.rows s.pl.length p) s.pl.length i⟩ := by rw [hstp]; unfold stp; rw [hp]
      obtain ⟨p1, p2, p3⟩ := pv_range hp
      have hl := F.len
      have hpls := F.pls
      have hT : s.pl.length < s.rows.length := by omega
      have hP : p < s.rows.length := by omega
      refine Ex.ifT ((tge v i_).yes (by simp [pvI])) (fun ρ' => Sub (Sd w m M s') ρ') ?_ (fun ρ' h => Ex.nil h)
      refine Ex.ite (c := decide (p ≠ s.pl.length)) ((tne v v).is (by simp [pvI]; omega)) (fun ρ' => Sub [(str "a", .fr (Mt w M)), (str "columns", .fr (.int (m : Nat))), (str "w", .fr (.int (w : Nat))), (str "mul", .fr (.fn (str "mul_school"))), (str "divrem", .fr (.fn (str "divrem_school"))),
        (str "rows", .own ((swp s.rows s.pl.length p).map (Rw w))), (str "places", .own (s.pl.map fun (x : Nat) => Dv.int x)), (str "is_odd", .fr (.bool (s.odd ^^ decide (p ≠ s.pl.length)))), (str "before", .fr (Sg w s.bef)), (str "column", .fr (.int (i : Nat))), (str "top", .fr (.int (s.pl.length : Nat)))] ρ')
        (fun h => ?_) (fun h => ?_) (fun ρ' h => Ex.weak ?_ h)
      · have hne := of_decide_eq_true h
        refine Ex.cons (Ex1.swap (i := s.pl.length) (i' := p) rfl nm_ (tup_ (ec (idxO (i := p) rfl v rfl (mt_get hP) (by rw [List.length_map]; omega)) (ec (idxO (i := s.pl.length) rfl v (by rw [List.length_map]) (mt_get hT) (by rw [List.length_map]; omega)) e0))) v (by rw [List.length_map]) (by rw [List.length_map]; omega) v rfl (by rw [List.length_map]; omega) (by rw [List.length_map]; omega) rfl rfl) ?_
        refine st1 (p_ (not_ v)) (Ex.nil ?_)
        refine Sub.cons rfl (Sub.cons rfl (Sub.cons rfl (Sub.cons rfl (Sub.cons rfl (Sub.cons ?_ (Sub.cons rfl (Sub.cons ?_ (Sub.cons rfl (Sub.cons rfl (Sub.cons ?_ (Sub.nil _)))))))))))
        · unfold swp; rw [if_pos hne, List.map_set, List.map_set]; rfl
        · rw [h, show (s.odd ^^ true) = !s.odd by cases s.odd <;> rfl]; rfl
        · rw [← List.length_map (as := s.pl) (f := fun (x : Nat) => Dv.int x)]; rfl
      · have hne : p = s.pl.length := by simpa using h
        refine Ex.nil ?_
        refine Sub.cons rfl (Sub.cons rfl (Sub.cons rfl (Sub.cons rfl (Sub.cons rfl (Sub.cons ?_ (Sub.cons rfl (Sub.cons ?_ (Sub.cons rfl (Sub.cons rfl (Sub.cons ?_ (Sub.nil _)))))))))))
        · unfold swp; rw [if_neg (by omega)]; rfl
        · rw [h, show (s.odd ^^ false) = s.odd by cases s.odd <;> rfl]; rfl
        · rw [← List.length_map (as := s.pl) (f := fun (x : Nat) => Dv.int x)]; rfl
      · have hml : (swp s.rows s.pl.length p).length = m := by rw [swp_len, hl]
        have hmem : ∀ r, r ∈ swp s.rows s.pl.length p → r ∈ s.rows := fun r => swp_mem hT hP
        have hcl := F.cl
        generalize swp s.rows s.pl.length p = M' at hml hmem hs'
        generalize hb : s.bef = b at *
        generalize hpp : s.pl = pl at *
        have hT' : pl.length < m := by omega
        refine forN (N := m - (pl.length + 1)) (fun k => [(str "a", .fr (Mt w M)), (str "columns", .fr (.int (m : Nat))), (str "w", .fr (.int (w : Nat))), (str "mul", .fr (.fn (str "mul_school"))), (str "divrem", .fr (.fn (str "divrem_school"))),
          (str "rows", .own ((clrUp M' pl.length i b (pl.length + 1 + k)).map (Rw w))), (str "places", .own (pl.map fun (x : Nat) => Dv.int x)), (str "is_odd", .fr (.bool (s.odd ^^ decide (p ≠ pl.length)))), (str "before", .fr (Sg w b)), (str "column", .fr (.int (i : Nat))), (str "top", .fr (.int (pl.length : Nat)))])
          (rng2 o (add v i_) (Ev.borrow (len o v (by rw [List.length_map]; omega)) rfl) (by rw [List.length_map]; omega) (by rw [List.length_map]; omega)) ?_ (fun k hk => ?_) ?_
        · refine Sub.cons rfl (Sub.cons rfl (Sub.cons rfl (Sub.cons rfl (Sub.cons rfl (Sub.cons ?_ (Sub.cons rfl (Sub.cons rfl (Sub.cons rfl (Sub.cons rfl (Sub.cons rfl (Sub.nil _)))))))))))
          rw [Nat.add_zero, clrUp_zero]; rfl
        · obtain ⟨hb0, hb1, hb2⟩ := hcl (by omega)
          have hA : pl.length + 1 + k < M'.length := by omega
          have hB : pl.length < M'.length := by omega
          have mA := hmem _ (getD_mem (d := []) hA)
          have mB := hmem _ (getD_mem (d := []) hB)
          have wA := F.wid _ mA
          have wB := F.wid _ mB
          have g : ∀ j, j < M'.length → (j = pl.length ∨ pl.length + 1 + k ≤ j) → ((clrUp M' pl.length i b (pl.length + 1 + k)).map (Rw w))[j]? = some (Rw w (M'.getD j [])) := fun j hj hq => by
            rw [List.getElem?_map, clrUp_get hj, if_neg (by omega)]; rfl
          have cl3 : (clrUp M' pl.length i b (pl.length + 1 + k)).length = m := by rw [clrUp_len, hml]
          refine put (i := pl.length + 1 + k) (d := Rw w (clr (M'.getD (pl.length + 1 + k) []) (M'.getD pl.length []) i b)) rfl
            (gcall (fn_cleared (row := M'.getD (pl.length + 1 + k) []) (head := M'.getD pl.length []) (col := i) (b := b) o hw (hb2 _ mA) (hb2 _ mB) (by omega) (by omega) (by omega) hb0 hb1)
              (ec (idxO (i := pl.length + 1 + k) rfl v (by omega) (g _ hA (.inr (by omega))) (by rw [List.length_map]; omega)) (ec (idxO (i := pl.length) rfl v rfl (g _ hB (.inl rfl)) (by rw [List.length_map]; omega)) (ec v (ec v (ec v (ec v (ec v e0)))))))) v (by omega) (by rw [List.length_map]; omega) (by rw [List.length_map]; omega) ?_
          refine Ex.nil (Sub.cons rfl (Sub.cons rfl (Sub.cons rfl (Sub.cons rfl (Sub.cons rfl (Sub.cons ?_ (Sub.cons rfl (Sub.cons rfl (Sub.cons rfl (Sub.cons rfl (Sub.cons rfl (Sub.nil _))))))))))))
          rw [← Nat.add_assoc, ← clrUp_succ _ _ _ _ _ (by omega) hA, List.map_set]; rfl
        · have hB : pl.length < M'.length := by omega
          have mB := hmem _ (getD_mem (d := []) hB)
          have wB := F.wid _ mB
          have hk : pl.length + 1 + (m - (pl.length + 1)) = m := by omega
          rw [hk]
          refine st1 (p_ (idx (i := i) (idxO (i := pl.length) (d := Rw w (M'.getD pl.length [])) rfl v rfl (by rw [List.getElem?_map, clrUp_get hB, if_neg (by omega)]; rfl) (by rw [List.length_map, clrUp_len]; omega)) v rfl (rw_get (by omega)) (by rw [List.length_map]; omega))) ?_
          refine app rfl v (by rw [List.length_map]; omega) (Ex.nil ?_)
          rw [hs', hl]
          refine Sub.cons rfl (Sub.cons rfl (Sub.cons rfl (Sub.cons rfl (Sub.cons rfl (Sub.cons rfl (Sub.cons ?_ (Sub.cons rfl (Sub.cons rfl (Sub.nil _)))))))))
          rw [List.map_append]; rfl
  · exact ret (tup_ (ec v (ec v (ec v e0)))) rfl

/-- what det_bareiss finds -/
noncomputable def detB (M : List (List Int)) : Int :=
  if M.length = 0 then 1 else
  if (run M M.length).pl.length < M.length then 0 else
  if (run M M.length).odd then -(ent (run M M.length).rows (M.length - 1) (M.length - 1)) else ent (run M M.length).rows (M.length - 1) (M.length - 1)

theorem fn_det (o : OkG G) {n : Nat} {M : List (List Int)} (hw : W58 w) (hm : M.length ≤ 3) (hfit : ∀ i, i ≤ M.length → Fit M.length (run M i)) :
    Df G (n + 9) (str "det_bareiss") [Mt w M, .int (w : Nat), .fn (str "mul_school"), .fn (str "divrem_school")] (Sg w (detB M)) := by
  refine Df.of (r := rc 30) (xs := [str "a", str "w", str "mul", str "divrem"]) o 22 rfl rfl (fun L a cd => ?_) (fun pm cd doc vs h => by match vs, h with | [v, u, t, s], _ => rfl)
  have hla : (M.map (Rw w)).length = M.length := List.length_map ..
  by_cases h0 : M.length = 0
  · refine Ex.ifT ((teq (len o v (by rw [hla]; omega)) i_).yes (by rw [hla, h0]; rfl)) (fun _ => False) (ret (vc o.unit) ?_) (fun _ f => f.elim)
    unfold detB; rw [if_pos h0, Sg_one hw]
  · refine Ex.ifF ((teq (len o v (by rw [hla]; omega)) i_).no (by rw [hla]; omega)) ?_
    refine tv [str "rows", str "places", str "is_odd"] (gcall (fn_steps_down (M := M) (m := M.length) o hw hm hfit) (ec v (ec (Ev.is (len o v (by rw [hla]; omega)) (by rw [hla])) (ec v (ec v (ec v e0)))))) ?_
    have F := hfit M.length (Nat.le_refl _)
    have hd : detB M = if (run M M.length).pl.length < M.length then 0 else if (run M M.length).odd then -(ent (run M M.length).rows (M.length - 1) (M.length - 1)) else ent (run M M.length).rows (M.length - 1) (M.length - 1) := by
      unfold detB; rw [if_neg h0]
    rw [hd]
    generalize run M M.length = s at F
    have hpl := F.pls
    by_cases hlt : s.pl.length < M.length
    · refine Ex.ifT ((tlt (len o v (by rw [List.length_map]; omega)) (len o v (by rw [hla]; omega))).yes (by rw [hla, List.length_map]; omega)) (fun _ => False) (ret (vc o.nought) ?_) (fun _ f => f.elim)
      rw [if_pos hlt, Sg_zero]
    · refine Ex.ifF ((tlt (len o v (by rw [List.length_map]; omega)) (len o v (by rw [hla]; omega))).no (by rw [hla, List.length_map]; omega)) ?_
      rw [if_neg hlt]
      have hl := F.len
      have hmem : s.rows.getD (M.length - 1) [] ∈ s.rows := getD_mem (by omega)
      have hwd := F.wid _ hmem
      have hx : (ent s.rows (M.length - 1) (M.length - 1)).natAbs < 2 ^ 40 := F.sm _ hmem _ (getD_mem (by omega))
      refine st1 (p_ (idx (i := M.length - 1) (d := Sg w (ent s.rows (M.length - 1) (M.length - 1))) (idxNeg (i := M.length - 1) v (neg i_) (by rw [List.length_map]; omega) (by omega) (by omega) (mt_get (by omega))) (sub (len o v (by rw [hla]; omega)) i_) (by rw [hla]; omega) (rw_get (by omega)) (by rw [List.length_map]; omega))) ?_
      refine ret (Ev.ite (Tst.of v fun _ => rfl) (fun h => Ev.is (gcall (fn_s_neg (z := ent s.rows (M.length - 1) (M.length - 1)) o hw hx) (ec v e0)) ?_) (fun h => Ev.is v ?_)) rfl
      · rw [h]; rfl
      · rw [h]; rfl
end
end Mine

end PartC7
section PartC8
open PySem PySem.Calls PyProof.Rows PySem.W
set_option Elab.async false
set_option maxRecDepth 100000
set_option autoImplicit false
set_option linter.unusedVariables false
set_option linter.unusedSimpArgs false
namespace Mine

theorem denL_of {mg : Str → Option Value} {K : Fro} : ∀ (vs : List Value) (ds : List Dv), vs.length = ds.length → (∀ (i : Nat) v d, vs[i]? = some v → ds[i]? = some d → Den mg K v d) → DenL mg K vs ds
  | [], [], _, _ => .nil
  | [], _ :: _, h, _ => by cases h
  | _ :: _, [], h, _ => by cases h
  | v :: vs, d :: ds, h, hp => .cons (hp 0 v d rfl rfl) (denL_of vs ds (by simpa using h) fun i v' d' e e' => hp (i + 1) v' d' (by simpa using e) (by simpa using e'))

section
variable {G : Cx} {n : Nat} {E : Env} {ρ : St}

theorem EvI.castN {e : Expr} {N N' : Nat} {it : Nat → Dv} {tp : Prop} (h : EvI G n E ρ e N it tp) (hN : N = N') : EvI G n E ρ e N' it tp := hN ▸ h
/-- list(range(e)) -/
theorem Ev.listRange {xp yp p pos : Pos} {e : Expr} {k : Int} {N : Nat} (o : OkG G) (h : Ev G n E ρ e (.int k)) (hN : k = (N : Int)) (hb : N ≤ 2 ^ 20) (hx : E.kindOf (str "list") = some .globalImplicit := by rfl) (hy : E.kindOf (str "range") = some .globalImplicit := by rfl)
    (hst : ∀ E, starEach [e] E = [(false, eval e E)] := by exact fun _ => rfl) (hst' : ∀ E, starEach [.Call (.Name (str "range") yp) [e] [] p] E = [(false, eval (.Call (.Name (str "range") yp) [e] [] p) E)] := by exact fun _ => rfl) :
    Ev G n E ρ (.Call (.Name (str "list") xp) [.Call (.Name (str "range") yp) [e] [] p] [] pos) (.lst (nats (List.range N))) := fun A s K fp Q hR R hQ => by
  obtain ⟨m, F, _⟩ := R.frm
  refine Call_Name rfl (Name_function_global F.kind hx (loadGlobal_builtin (F.glob ▸ R.gd.top.g) o.list (F.bt ▸ R.gd.top.b) ((R.gd.top.builtins _ (by decide)).trans PyProof.Rows.boot_list) ?_) (by decide))
  refine callWith_type1 (args_cons ?_ (hst' E)) (hst' E) rfl
  refine Call_Name rfl (Name_function_global F.kind hy (loadGlobal_builtin (F.glob ▸ R.gd.top.g) o.range (F.bt ▸ R.gd.top.b) ((R.gd.top.builtins _ (by decide)).trans PyProof.Rows.boot_range) ?_) (by decide))
  refine callWith_type1 (args_cons (h A s K fp _ hR R fun v h₁ K₁ tk₁ x₁ d₁ => args_nil ?_) (hst E)) (hst E) rfl
  cases d₁ with | int _ t =>
  refine call_range_1 (args_nil ?_)
  subst hN
  have e0 := Heap.get?_push_size h₁ (o := { cls := .type "range", data := .fields #[.int 0 tk₁, .int (N : Int) t, .int 1 (tk₁ + 1)] }) rfl
  refine call_list_range (n := N) hR.hd e0 (small_one (by omega) (by omega) (by omega) (by omega)) (by rw [rangeSize_one]; split <;> omega) (by omega) fun h' tk acc' c' hk hS hacc => ?_
  dsimp only at hk hS ⊢
  generalize hH : h₁.push { cls := .type "range", data := .fields #[.int 0 tk₁, .int (N : Int) t, .int 1 (tk₁ + 1)] } = H at *
  have hk1 : ∀ a o, h₁.get? a = some o → h'.get? a = some o := fun a o e => hk a o (hH ▸ Heap.get?_push_of_some _ e)
  have hn1 : h₁.get? H.objs.size = none := by rw [← hH, Heap.size_push]; exact get_succ_none _
  have hS' : h'.get? H.objs.size = some (lstObj acc'.toList c') := by simpa [lstObj] using hS
  refine hQ _ h' (K₁.put H.objs.size (lstObj acc'.toList c')) tk (x₁.trans (.put x₁.sub hk1 hn1 hS')) (.lst (Fro.put_self _ _ _) (denL_of _ _ ?_ fun i v d e e' => ?_))
  · rw [Array.length_toList, nats_len, List.length_range]; exact hacc.1
  · obtain ⟨t, rfl⟩ := hacc.2 i v (by rw [← Array.getElem?_toList]; exact e)
    have hi : i < N := by have := (List.getElem?_eq_some_iff.mp e').1; rwa [nats_len, List.length_range] at this
    rw [nats_get, List.getElem?_range hi] at e'
    cases e'
    simp only [Int.zero_add, Int.mul_one]
    exact .int _ _
end

section
variable {G : Cx} {w : Nat}

theorem fn_plain (o : OkG G) {n : Nat} {m : Nat} (hw : W58 w) (hm : m < 2 ^ 40) : Df G (n + 1) (str "_law_plain") [Ls (dg w m), .int (w : Nat)] (.int (m : Nat)) := by
  have hw0 : 0 < w := by have := hw.lo; omega
  have hl := nl_40 hw0 hm
  have ln : ∀ x, (nats (dg w x)).length = nl w x := fun x => by rw [nats_len, dg_len]
  have h8 := hw.hi
  refine Df.of (r := rc 41) (xs := [str "row", str "w"]) o 31 rfl rfl (fun L a cd => ?_) (fun pm cd doc vs h => by match vs, h with | [v, u], _ => rfl)
  refine st1 (p_ i_) ?_
  refine forN (N := nl w m) (fun i => [(str "w", .fr (.int (w : Nat))), (str "found", .fr (.int (m / 2 ^ (w * (nl w m - i)) : Nat)))]) ((EvI.list (Ev.rev v (neg i_) (by rw [ln]; omega))).castN (by rw [List.length_reverse, ln])) ?_ (fun i hi => ?_) ?_
  · refine Sub.cons rfl (Sub.cons ?_ (Sub.nil _))
    rw [Nat.sub_zero, Nat.div_eq_of_lt (nl_lt hw0)]; rfl
  · have e : (nats (dg w m)).reverse.getD i .none = .int (lim w m (nl w m - 1 - i) : Nat) := by
      rw [List.getD, List.getElem?_reverse (by rw [ln]; exact hi), ln, nats_at (dg_get (by omega))]; rfl
    rw [e]
    have hle : m / 2 ^ (w * (nl w m - i)) ≤ m := Nat.div_le_self _ _
    refine st1 (p_ (add (mul v (pow i_ v (by omega) (by omega) (by omega)) (by rw [Int.natAbs_natCast]; omega)) v)) (Ex.nil ?_)
    refine Sub.cons rfl (Sub.cons ?_ (Sub.nil _))
    have q : m / 2 ^ (w * (nl w m - (i + 1))) = m / 2 ^ (w * (nl w m - i)) * 2 ^ w + lim w m (nl w m - 1 - i) := by
      have := div_p w m (nl w m - 1 - i)
      rw [show nl w m - 1 - i + 1 = nl w m - i by omega] at this
      rw [show nl w m - (i + 1) = nl w m - 1 - i by omega, this]
      unfold lim
      exact (Nat.div_add_mod' (m / 2 ^ (w * (nl w m - 1 - i))) (2 ^ w)).symm
    rw [q]
    rw [Int.toNat_natCast]; push_cast; rfl
  · refine ret v ?_
    rw [Nat.sub_self, Nat.mul_zero, Nat.pow_zero, Nat.div_one]; rfl

/-- edges -/
noncomputable abbrev Eg (es : List (Nat × Nat)) : List Dv := es.map fun e => .tup [.int (e.1 : Nat), .int (e.2 : Nat)]
theorem eg_get {es : List (Nat × Nat)} {i : Nat} (h : i < es.length) : (Eg es).getD i .none = .tup [.int ((es.getD i (0, 0)).1 : Nat), .int ((es.getD i (0, 0)).2 : Nat)] := by simp [List.getD, h]
/-- places below many -/
noncomputable def Pl (many : Nat) (es : List (Nat × Nat)) : Prop := ∀ e ∈ es, e.1 < many ∧ e.2 < many

noncomputable def jstep (ls : List Nat) (e : Nat × Nat) : List Nat := ls.map fun l => if l = ls.getD e.2 0 then ls.getD e.1 0 else l
noncomputable def joinB (ls : List Nat) : Bool := decide ((ls.filter fun l => decide (l ≠ ls.getD 0 0)) = [])
noncomputable def joins (many : Nat) (es : List (Nat × Nat)) : Bool := joinB (es.foldl jstep (List.range many))
theorem jstep_len (ls : List Nat) (e : Nat × Nat) : (jstep ls e).length = ls.length := by simp [jstep]
theorem jfold_len (es : List (Nat × Nat)) : ∀ ls, (es.foldl jstep ls).length = ls.length := by
  induction es with
  | nil => intro ls; rfl
  | cons e es ih => intro ls; rw [List.foldl_cons, ih, jstep_len]
theorem take_fold {α β : Type} (f : β → α → β) (d : α) (l : List α) (b : β) {i : Nat} (h : i < l.length) : (l.take (i + 1)).foldl f b = f ((l.take i).foldl f b) (l.getD i d) := by
  rw [List.take_add_one, List.getElem?_eq_getElem h, List.foldl_append]
  simp [List.getD, h]

theorem fn_joins (o : OkG G) {n : Nat} {many : Nat} {lot : List (Nat × Nat)} (hm : many ≤ 4) (h0 : 0 < many) (hl : lot.length ≤ 100) (hp : Pl many lot) : Df G (n + 1) (str "_law_joins") [.lst (Eg lot), .int (many : Nat)] (.bool (joins many lot)) := by
  refine Df.of (r := rc 43) (xs := [str "lot", str "many"]) o 33 rfl rfl (fun L a cd => ?_) (fun pm cd doc vs h => by match vs, h with | [v, u], _ => rfl)
  refine st1 (p_ (Ev.listRange o v rfl (by omega))) ?_
  refine forP (N := lot.length) (fun i => [(str "labels", .fr (.lst (nats ((lot.take i).foldl jstep (List.range many)))))]) ((EvI.list v).castN (by simp)) ?_ (fun i hi => ?_) ?_
  · exact Sub.cons rfl (Sub.nil _)
  · refine ⟨_, _, eg_get hi, ?_⟩
    have hfold := take_fold jstep (0, 0) lot (List.range many) hi
    have hlen : ((lot.take i).foldl jstep (List.range many)).length = many := by rw [jfold_len, List.length_range]
    rw [hfold]
    have hb := hp _ (getD_mem (d := (0, 0)) hi)
    generalize (lot.take i).foldl jstep (List.range many) = ls at hlen
    generalize lot.getD i (0, 0) = e at hb
    have g : ∀ j, j < many → (nats ls)[j]? = some (.int (ls.getD j 0 : Nat)) := fun j hj => nats_at (by simp [List.getD, hlen, hj])
    refine tw [str "kept", str "gone"] (qc (p_ (idx (i := e.1) v v rfl (g _ hb.1) (by rw [nats_len]; omega))) (qc (p_ (idx (i := e.2) v v rfl (g _ hb.2) (by rw [nats_len]; omega))) q0)) ?_
    refine st1 (p_ (Ev.ofP (cmp_ [(str "kept", L + 2), (str "gone", L + 3)] [(str "gone", .fr (.int (ls.getD e.2 0 : Nat))), (str "kept", .fr (.int (ls.getD e.1 0 : Nat)))] (fun i => .int ((if ls.getD i 0 = ls.getD e.2 0 then ls.getD e.1 0 else ls.getD i 0 : Nat) : Int)) (EvI.list v) (fun i hi C => ?_) (by rw [nats_len]; omega)))) (Ex.nil (Sub.cons ?_ (Sub.nil _)))
    · rw [nats_len] at hi
      have e1 : (nats ls).getD i .none = .int (ls.getD i 0 : Nat) := by rw [List.getD, g _ (by omega)]; rfl
      rw [e1]
      refine Ev.ite (teq v v) (fun h => Ev.is v ?_) (fun h => Ev.is v ?_)
      · have := of_decide_eq_true h; rw [if_pos (by omega)]
      · have := of_decide_eq_false h; rw [if_neg (by omega)]
    · rw [nats_len]
      unfold jstep
      rw [← map_range (fun l => if l = ls.getD e.2 0 then ls.getD e.1 0 else l) 0 ls]
      unfold nats
      rw [List.map_map]; rfl
  · rw [List.take_length]
    have hlen : (lot.foldl jstep (List.range many)).length = many := by rw [jfold_len, List.length_range]
    unfold joins
    generalize lot.foldl jstep (List.range many) = ls at hlen
    have g : ∀ j, j < many → (nats ls)[j]? = some (.int (ls.getD j 0 : Nat)) := fun j hj => nats_at (by simp [List.getD, hlen, hj])
    refine ret (eqNil (Ev.ofP (cmpF [(str "labels", L + 1)] [(str "labels", .fr (.lst (nats ls)))] (fun i => decide (ls.getD i 0 ≠ ls.getD 0 0)) (fun i => .int (ls.getD i 0 : Nat)) (EvI.list v) (fun i hi C => Tsts.one ?_) (fun i hi ho C => ?_) (by rw [nats_len]; omega))) (lst_ e0)) ?_
    · rw [nats_len] at hi
      have e1 : (nats ls).getD i .none = .int (ls.getD i 0 : Nat) := by rw [List.getD, g _ (by omega)]; rfl
      rw [e1]
      exact (tne v (idx (i := 0) v i_ rfl (g 0 h0) (by rw [nats_len]; omega))).is (by rw [decide_eq_decide]; omega)
    · rw [nats_len] at hi
      have e1 : (nats ls).getD i .none = .int (ls.getD i 0 : Nat) := by rw [List.getD, g _ (by omega)]; rfl
      rw [e1]
      exact v
    · unfold joinB
      congr 1
      rw [decide_eq_decide, nats_len, List.map_eq_nil_iff, List.filter_eq_nil_iff, List.filter_eq_nil_iff]
      constructor
      · intro h l hl
        obtain ⟨i, hi, rfl⟩ := List.mem_iff_getElem.mp hl
        have := h i (by simpa using hi)
        rwa [show ls.getD i 0 = ls[i] by simp [List.getD, hi]] at this
      · intro h i hi
        have hi' : i < ls.length := by simpa using hi
        exact h (ls.getD i 0) (getD_mem hi')
end
end Mine

end PartC8
section PartC9
open PySem PySem.Calls PyProof.Rows PySem.W
set_option Elab.async false
set_option maxRecDepth 100000
set_option autoImplicit false
set_option linter.unusedVariables false
set_option linter.unusedSimpArgs false
namespace Mine

section
variable {G : Cx} {w : Nat}

/-- lots -/
noncomputable abbrev Lt (ls : List (List (Nat × Nat))) : Dv := .lst (ls.map fun l => .lst (Eg l))
theorem eg_append (a b : List (Nat × Nat)) : Eg (a ++ b) = Eg a ++ Eg b := List.map_append
theorem lt_append (a b : List (List (Nat × Nat))) : Lt (a ++ b) = .lst (a.map (fun l => Dv.lst (Eg l)) ++ b.map fun l => Dv.lst (Eg l)) := congrArg Dv.lst List.map_append
noncomputable def tstep (many : Nat) (ls : List (List (Nat × Nat))) (e : Nat × Nat) : List (List (Nat × Nat)) := ls ++ (ls.filter fun l => decide (l.length < many - 1)).map (· ++ [e])
noncomputable def lots (many : Nat) (es : List (Nat × Nat)) : List (List (Nat × Nat)) := es.foldl (tstep many) [[]]
noncomputable def treesN (many : Nat) (es : List (Nat × Nat)) : Nat := ((lots many es).filter fun l => decide (l.length = many - 1) && joins many l).length
theorem tstep_len (many : Nat) (ls : List (List (Nat × Nat))) (e : Nat × Nat) : (tstep many ls e).length ≤ 2 * ls.length := by
  unfold tstep
  have := List.length_filter_le (fun l : List (Nat × Nat) => decide (l.length < many - 1)) ls
  simp; omega
theorem tfold_len (many : Nat) (es : List (Nat × Nat)) : ∀ ls, (es.foldl (tstep many) ls).length ≤ 2 ^ es.length * ls.length := by
  induction es with
  | nil => intro ls; simp
  | cons e es ih =>
    intro ls
    rw [List.foldl_cons, List.length_cons, Nat.pow_succ, Nat.mul_assoc]
    exact Nat.le_trans (ih _) (Nat.mul_le_mul_left _ (tstep_len many ls e))
theorem tfold_all (many m : Nat) (es : List (Nat × Nat)) (hp : Pl m es) : ∀ ls, (∀ l ∈ ls, Pl m l ∧ l.length ≤ many) → ∀ l ∈ es.foldl (tstep many) ls, Pl m l ∧ l.length ≤ many := by
  induction es with
  | nil => intro ls h; exact h
  | cons e es ih =>
    intro ls h
    rw [List.foldl_cons]
    refine ih (fun x hx => hp x (.tail _ hx)) _ fun l hl => ?_
    unfold tstep at hl
    rcases List.mem_append.mp hl with hl | hl
    · exact h l hl
    · obtain ⟨l', hl', rfl⟩ := List.mem_map.mp hl
      obtain ⟨h1, h2⟩ := List.mem_filter.mp hl'
      have h2 := of_decide_eq_true h2
      refine ⟨fun x hx => ?_, by simp; omega⟩
      rcases List.mem_append.mp hx with hx | hx
      · exact (h l' h1).1 x hx
      · obtain rfl := List.mem_singleton.mp hx; exact hp x (.head _)

theorem filter_map_range {α β : Type} (f : α → β) (p : α → Bool) (d : α) (l : List α) : ((List.range l.length).filter fun i => p (l.getD i d)).map (fun i => f (l.getD i d)) = (l.filter p).map f := by
  have h := map_range id d l
  conv => rhs; rw [show l = (List.range l.length).map (fun i => l.getD i d) by rw [show (fun i => l.getD i d) = (fun i => id (l.getD i d)) from rfl, h, List.map_id]]
  rw [List.filter_map, List.map_map]
  rfl

theorem filter_len {α : Type} {d : α} (l : List α) (p : α → Bool) : ((List.range l.length).filter fun i => p (l.getD i d)).length = (l.filter p).length := by
  have := congrArg List.length (filter_map_range id p d l)
  simpa using this
theorem Pl.take {m : Nat} {es : List (Nat × Nat)} (h : Pl m es) (i : Nat) : Pl m (es.take i) := fun x hx => h x (List.mem_of_mem_take hx)

theorem fn_trees (o : OkG G) {n : Nat} {many : Nat} {es : List (Nat × Nat)} (hm : many ≤ 4) (h0 : 0 < many) (hl : es.length ≤ 6) (hp : Pl many es) : Df G (n + 2) (str "_law_trees") [.lst (Eg es), .int (many : Nat)] (.int (treesN many es : Nat)) := by
  have hpow : ∀ i, i ≤ es.length → (lots many (es.take i)).length ≤ 64 := fun i hi => by
    refine Nat.le_trans (tfold_len many (es.take i) [[]]) ?_
    rw [List.length_take, Nat.min_eq_left hi]
    exact Nat.le_trans (Nat.mul_le_mul_right _ (Nat.pow_le_pow_right (by decide) (Nat.le_trans hi hl))) (by decide)
  have hall : ∀ i, ∀ l ∈ lots many (es.take i), Pl many l ∧ l.length ≤ many := fun i => tfold_all many many (es.take i) (hp.take i) [[]] (fun l hl => by obtain rfl := List.mem_singleton.mp hl; exact ⟨fun x hx => (nomatch hx), Nat.zero_le _⟩)
  have gl : ∀ (ls : List (List (Nat × Nat))) (i : Nat), i < ls.length → (ls.map fun l => Dv.lst (Eg l)).getD i .none = .lst (Eg (ls.getD i [])) := fun ls i hi => by simp [List.getD, hi]
  refine Df.of (r := rc 44) (xs := [str "edges", str "many"]) o 34 rfl rfl (fun L a cd => ?_) (fun pm cd doc vs h => by match vs, h with | [v, u], _ => rfl)
  refine st1 (p_ (lst_ (ec (lst_ e0) e0))) ?_
  refine forN (N := es.length) (fun i => [(str "edges", .fr (.lst (Eg es))), (str "many", .fr (.int (many : Nat))), (str "lots", .fr (Lt (lots many (es.take i))))]) ((EvI.list v).castN (by simp)) ?_ (fun i hi => ?_) ?_
  · exact Sub.cons rfl (Sub.cons rfl (Sub.cons rfl (Sub.nil _)))
  · rw [eg_get hi]
    have hfold : lots many (es.take (i + 1)) = tstep many (lots many (es.take i)) (es.getD i (0, 0)) := take_fold (tstep many) (0, 0) es [[]] hi
    have hlen := hpow i (by omega)
    have ha := hall i
    rw [hfold]
    generalize lots many (es.take i) = ls at hlen ha
    generalize es.getD i (0, 0) = e
    have hfl := List.length_filter_le (fun l : List (Nat × Nat) => decide (l.length < many - 1)) ls
    refine st1 (p_ (cat v (Ev.ofP (cmpF [(str "many", L + 1), (str "edge", L + 2)] [(str "many", .fr (.int (many : Nat))), (str "edge", .fr (.tup [.int (e.1 : Nat), .int (e.2 : Nat)]))] (fun i => decide ((ls.getD i []).length < many - 1)) (fun i => .lst (Eg (ls.getD i [] ++ [e]))) (EvI.list v) (fun i hi C => Tsts.one ?_) (fun i hi ho C => ?_) (by rw [List.length_map]; omega))) ?_)) (Ex.nil (Sub.cons rfl (Sub.cons rfl (Sub.cons ?_ (Sub.nil _)))))
    · rw [List.length_map] at hi
      rw [gl ls i hi]
      have := (ha _ (getD_mem (d := []) hi)).2
      exact (tlt (len o v (by rw [List.length_map]; omega)) (sub v i_)).is (by rw [decide_eq_decide, List.length_map]; omega)
    · rw [List.length_map] at hi
      rw [gl ls i hi]
      have := (ha _ (getD_mem (d := []) hi)).2
      refine Ev.is (cat v (lst_ (ec v e0)) (by simp only [List.length_map, List.length_cons, List.length_nil]; omega)) ?_
      rw [eg_append]; rfl
    · rw [List.length_map, List.length_map, filter_len ls fun l => decide (l.length < many - 1)]
      omega
    · rw [List.length_map, filter_map_range (fun l => Dv.lst (Eg (l ++ [e]))) (fun l => decide (l.length < many - 1)) [] ls]
      unfold tstep
      rw [lt_append, List.map_map]; rfl
  · rw [List.take_length]
    have hlen := hpow es.length (Nat.le_refl _)
    have ha := hall es.length
    rw [List.take_length] at hlen ha
    unfold treesN
    generalize lots many es = ls at hlen ha
    have hfl := List.length_filter_le (fun l : List (Nat × Nat) => decide (l.length = many - 1) && joins many l) ls
    refine ret (len o (Ev.ofP (cmpF [(str "many", L + 1)] [(str "many", .fr (.int (many : Nat)))] (fun i => decide ((ls.getD i []).length = many - 1) && joins many (ls.getD i [])) (fun i => .lst (Eg (ls.getD i []))) (EvI.list v) (fun i hi C => Tsts.one ?_) (fun i hi ho C => ?_) (by rw [List.length_map]; omega))) ?_) ?_
    · rw [List.length_map] at hi
      rw [gl ls i hi]
      obtain ⟨h1, h2⟩ := ha _ (getD_mem (d := []) hi)
      refine Tst.and ((teq (len o v (by rw [List.length_map]; omega)) (sub v i_)).is (by rw [decide_eq_decide, List.length_map]; omega)) (fun _ => Tst.of (gcall (fn_joins o hm h0 (by omega) h1) (ec v (ec v e0))) fun _ => rfl)
    · rw [List.length_map] at hi
      rw [gl ls i hi]
      exact v
    · rw [List.length_map, List.length_map, filter_len ls fun l => decide (l.length = many - 1) && joins many l]
      omega
    · congr 1
      rw [List.length_map, List.length_map, filter_len ls fun l => decide (l.length = many - 1) && joins many l]

noncomputable def mrg1 (lo hi x : Nat) : Int := (if x = hi then (lo : Int) else x) - (if (hi : Int) < (if x = hi then (lo : Int) else x) then 1 else 0)
noncomputable def mrg (a b : Nat) (e : Nat × Nat) : Nat × Nat := ((mrg1 (min a b) (max a b) e.1).toNat, (mrg1 (min a b) (max a b) e.2).toNat)
theorem mrg1_nat (lo hi x : Nat) (h : lo ≤ hi) : mrg1 lo hi x = ((mrg1 lo hi x).toNat : Int) := by
  unfold mrg1
  split <;> split <;> omega

theorem fn_merged (o : OkG G) {n : Nat} {es : List (Nat × Nat)} {a b : Nat} (ha : a < 4) (hb : b < 4) (hl : es.length ≤ 6) : Df G (n + 1) (str "_law_merged") [.lst (Eg es), .int (a : Nat), .int (b : Nat)] (.lst (Eg (es.map (mrg a b)))) := by
  refine Df.of (r := rc 45) (xs := [str "edges", str "one", str "other"]) o 35 rfl rfl (fun L ad cd => ?_) (fun pm cd doc vs h => by match vs, h with | [v, u, t], _ => rfl)
  refine tw [str "least", str "most", str "found"] (qc (p_ (min_ o v v)) (qc (p_ (max_ o v v)) (qc onil q0))) ?_
  have hmin : (min (a : Int) (b : Int)) = ((min a b : Nat) : Int) := by omega
  have hmax : (max (a : Int) (b : Int)) = ((max a b : Nat) : Int) := by omega
  rw [hmin, hmax]
  generalize hlo : min a b = lo
  generalize hhi : max a b = hi
  have hle : lo ≤ hi := by omega
  refine forN (N := es.length) (fun i => [(str "least", .fr (.int (lo : Nat))), (str "most", .fr (.int (hi : Nat))), (str "found", .own (Eg ((es.take i).map (mrg a b))))]) ((EvI.list v).castN (by simp)) ?_ (fun i hi' => ?_) ?_
  · exact Sub.cons rfl (Sub.cons rfl (Sub.cons rfl (Sub.nil _)))
  · rw [eg_get hi']
    have hfold : (es.take (i + 1)).map (mrg a b) = (es.take i).map (mrg a b) ++ [mrg a b (es.getD i (0, 0))] := by
      rw [List.take_add_one, List.getElem?_eq_getElem hi', List.map_append]; simp [List.getD, hi']
    rw [hfold]
    have hlen : ((es.take i).map (mrg a b)).length ≤ 6 := by rw [List.length_map, List.length_take]; omega
    generalize (es.take i).map (mrg a b) = ms at hlen
    generalize es.getD i (0, 0) = e
    refine Ex.cons (Ex1.compOwn [(str "least", .fr (.int (lo : Nat))), (str "most", .fr (.int (hi : Nat)))] (fun _ => true) (fun j => .int (if (if j = 0 then e.1 else e.2) = hi then (lo : Int) else ((if j = 0 then e.1 else e.2 : Nat) : Int))) (EvI.tuple v)
      (Block.of [(str "most", L + 2), (str "least", L + 1)] rfl (by decide) rfl (by decide) rfl rfl rfl (Cls.cons rfl (Cls.cons rfl Cls.nil))) (Car.all (Car.cons (by decide) rfl rfl (Car.cons (by decide) rfl rfl Car.nil))) (fun j hj C => .nil) (fun j hj ho C => ?_) (Nat.le_of_ble_eq_true rfl) (fun _ => rfl) rfl rfl) ?_
    · have hj2 : j = 0 ∨ j = 1 := by have : j < 2 := hj; omega
      rcases hj2 with rfl | rfl
      · refine Ev.ite (teq (i := (e.1 : Int)) (j := (hi : Int)) v v) (fun h => Ev.is v (?_ : Dv.int (lo : Int) = Dv.int (if e.1 = hi then (lo : Int) else (e.1 : Int)))) (fun h => Ev.is v (?_ : Dv.int (e.1 : Int) = Dv.int (if e.1 = hi then (lo : Int) else (e.1 : Int))))
        · have := of_decide_eq_true h; rw [if_pos (by omega)]
        · have := of_decide_eq_false h; rw [if_neg (by omega)]
      · refine Ev.ite (teq (i := (e.2 : Int)) (j := (hi : Int)) v v) (fun h => Ev.is v (?_ : Dv.int (lo : Int) = Dv.int (if e.2 = hi then (lo : Int) else (e.2 : Int)))) (fun h => Ev.is v (?_ : Dv.int (e.2 : Int) = Dv.int (if e.2 = hi then (lo : Int) else (e.2 : Int))))
        · have := of_decide_eq_true h; rw [if_pos (by omega)]
        · have := of_decide_eq_false h; rw [if_neg (by omega)]
    · refine app rfl (tup_ (ec (sub (idxO (i := 0) (d := .int (if e.1 = hi then (lo : Int) else e.1)) rfl i_ rfl rfl (Nat.le_of_ble_eq_true rfl)) (intB o (gt (idxO (i := 0) (d := .int (if e.1 = hi then (lo : Int) else e.1)) rfl i_ rfl rfl (Nat.le_of_ble_eq_true rfl)) v)))
        (ec (sub (idxO (i := 1) (d := .int (if e.2 = hi then (lo : Int) else e.2)) rfl i_ rfl rfl (Nat.le_of_ble_eq_true rfl)) (intB o (gt (idxO (i := 1) (d := .int (if e.2 = hi then (lo : Int) else e.2)) rfl i_ rfl rfl (Nat.le_of_ble_eq_true rfl)) v))) e0))) (by rw [List.length_map]; omega) (Ex.nil (Sub.cons rfl (Sub.cons rfl (Sub.cons ?_ (Sub.nil _)))))
      rw [eg_append]
      have m1 := mrg1_nat lo hi e.1 hle
      have m2 := mrg1_nat lo hi e.2 hle
      have em : mrg a b e = ((mrg1 lo hi e.1).toNat, (mrg1 lo hi e.2).toNat) := by unfold mrg; rw [hlo, hhi]
      rw [em]
      simp only [List.map_cons, List.map_nil]
      rw [← m1, ← m2]
      simp only [mrg1, decide_eq_true_eq]
      rfl
  · refine ret v ?_
    rw [List.take_length]; rfl
end
end Mine

end PartC9
section PartC10
open PySem PySem.Calls PyProof.Rows PySem.W
set_option Elab.async false
set_option maxRecDepth 100000
set_option autoImplicit false
set_option linter.unusedVariables false
set_option linter.unusedSimpArgs false
namespace Mine

noncomputable def inc (M : List (List Int)) (i j : Nat) (z : Int) : List (List Int) := M.set i ((M.getD i []).set j (ent M i j + z))
noncomputable def lstep (M : List (List Int)) (e : Nat × Nat) : List (List Int) := if e.1 = e.2 then M else inc (inc (inc (inc M e.1 e.1 1) e.2 e.2 1) e.1 e.2 (-1)) e.2 e.1 (-1)
noncomputable def lap (many : Nat) (es : List (Nat × Nat)) : List (List Int) := es.foldl lstep (List.replicate many (List.replicate many 0))
noncomputable def minor (many : Nat) (M : List (List Int)) : List (List Int) := (M.take (many - 1)).map (·.take (many - 1))
noncomputable def told (many : Nat) (es : List (Nat × Nat)) : Int := detB (minor many (lap many es))
structure Shp (k : Nat) (M : List (List Int)) : Prop where
  len : M.length = k
  wid : ∀ r ∈ M, r.length = k
theorem Shp.inc {k : Nat} {M : List (List Int)} (h : Shp k M) (i j : Nat) (z : Int) (hi : i < k) : Shp k (inc M i j z) := by
  have hl := h.len
  refine ⟨by unfold Mine.inc; rw [List.length_set, hl], fun r hr => ?_⟩
  unfold Mine.inc at hr
  rcases List.mem_or_eq_of_mem_set hr with hr | hr
  · exact h.wid r hr
  · rw [hr, List.length_set]; exact h.wid _ (getD_mem (by omega))
theorem Shp.lstep {k : Nat} {M : List (List Int)} (h : Shp k M) (e : Nat × Nat) (h1 : e.1 < k) (h2 : e.2 < k) : Shp k (lstep M e) := by
  unfold Mine.lstep
  split
  · exact h
  · exact (((h.inc _ _ _ h1).inc _ _ _ h2).inc _ _ _ h1).inc _ _ _ h2
theorem Shp.zero (k : Nat) : Shp k (List.replicate k (List.replicate k (0 : Int))) := ⟨by simp, fun r hr => by rw [List.eq_of_mem_replicate hr]; simp⟩
theorem Shp.fold {k : Nat} (es : List (Nat × Nat)) (hp : Pl k es) : ∀ {M : List (List Int)}, Shp k M → Shp k (es.foldl Mine.lstep M) := by
  induction es with
  | nil => intro M h; exact h
  | cons e es ih => intro M h; rw [List.foldl_cons]; exact ih (fun x hx => hp x (.tail _ hx)) (h.lstep e (hp e (.head _)).1 (hp e (.head _)).2)
theorem Shp.lap {k : Nat} {es : List (Nat × Nat)} (hp : Pl k es) : Shp k (lap k es) := Shp.fold es hp (Shp.zero k)
theorem Shp.row {k i : Nat} {M : List (List Int)} (h : Shp k M) (hi : i < k) : (M.getD i []).length = k := h.wid _ (getD_mem (by have := h.len; omega))

noncomputable abbrev Ir (M : List (List Int)) : List (List Dv) := M.map fun r => r.map .int
theorem ir_get {k i : Nat} {M : List (List Int)} (h : Shp k M) (hi : i < k) : (Ir M)[i]? = some ((M.getD i []).map .int) := by
  have := h.len
  simp [Ir, List.getD, this, hi]

section
variable {G : Cx} {n : Nat} {E : Env} {ρ : St}

theorem vg (o : OkG G) {r : DefRec} {x : Str} (k : Nat) {pos : Pos} (h : (recsOf pw)[k]? = some r) (hf : r.name = x) (hx : E.kindOf x = some .globalImplicit := by rfl) (hd : (x == ("__debug__" : Str)) = false := by decide) : Ev G n E ρ (.Name x pos) (.fn x) := by
  subst hf
  obtain ⟨a, _, _, _, _, e, _⟩ := G.top0.fn r (o.recs r (List.mem_of_getElem? h))
  exact Ev.fn hx ⟨a, e⟩ hd

theorem getInc {x : Str} {xp sp1 spos : Pos} {ie je : Expr} {M : List (List Int)} {k i j : Nat} (hS : Shp k M) (hk : k ≤ 4) (hi : i < k) (hj : j < k) (hv : ρ.lookup x = some (.own2 (Ir M))) (hie : Ev G n E (frz ρ) ie (.int (i : Nat))) (hje : Ev G n E (frz ρ) je (.int (j : Nat)))
    (hx : E.kindOf x = some .local ∨ E.kindOf x = some .cell ∨ E.kindOf x = some .free := by first | exact Or.inl rfl | exact Or.inr (Or.inl rfl) | exact Or.inr (Or.inr rfl)) (hd : (x == ("__debug__" : Str)) = false := by decide) (hc : (x == ("__classdict__" : Str)) = false := by decide)
    (hs : ∀ k l u, subscripted ie false (.ref l) (.int k u) = operate [.ref l, .int k u] (getItem (.ref l) (.int k u)) := by exact fun _ _ _ => rfl) (hs' : ∀ k l u, subscripted je false (.ref l) (.int k u) = operate [.ref l, .int k u] (getItem (.ref l) (.int k u)) := by exact fun _ _ _ => rfl) :
    Ev G n E (frz ρ) (.Subscript (.Subscript (.Name x xp) ie sp1) je spos) (.int (ent M i j)) := by
  have hl := hS.len
  have hr := hS.row hi
  have hv' : (frz ρ).lookup x = some (.fr (.lst ((Ir M).map .lst))) := by rw [frz_lookup, hv]; rfl
  refine idx (i := j) (idx (i := i) (Ev.var hv' hx hd hc) hie rfl (d := .lst ((M.getD i []).map .int)) (by rw [List.getElem?_map, ir_get hS hi]; rfl) (by simp; omega) (hs _)) hje rfl ?_ (by rw [List.length_map]; omega) (hs' _)
  unfold ent
  generalize M.getD i [] = r at hr
  rw [List.getElem?_map]
  simp [List.getD, List.getElem?_eq_getElem (show j < r.length by omega)]

theorem setInc {x : Str} {xp sp1 spos pos : Pos} {ie je e : Expr} {M : List (List Int)} {k i j : Nat} {z : Int} {rest : List Stmt} {P : St → Prop} {Rt : Dv → St → Prop} (hS : Shp k M) (hk : k ≤ 4) (hi : i < k) (hj : j < k) (hv : ρ.lookup x = some (.own2 (Ir M)))
    (h : Ev G n E (frz ρ) e (.int (ent M i j + z))) (hie : Ev G n E ρ ie (.int (i : Nat))) (hje : Ev G n E ρ je (.int (j : Nat))) (hr : Ex G n E (St.set ρ x (.own2 (Ir (inc M i j z)))) rest P Rt) (hx : Named E x := by exact nm_)
    (hs : ∀ k l u, subscripted ie false (.ref l) (.int k u) = operate [.ref l, .int k u] (getItem (.ref l) (.int k u)) := by exact fun _ _ _ => rfl)
    (hsw : swapsWith e (some (.Subscript (.Subscript (.Name x xp) ie sp1) je spos)) pos.line E = pure false := by rfl) :
    Ex G n E ρ (.Assign [.Subscript (.Subscript (.Name x xp) ie sp1) je spos] e pos :: rest) P Rt := by
  have hl := hS.len
  have hrw := hS.row hi
  refine Ex.cons (Ex1.setItem2 hv hx (h.borrow rfl) hie rfl (ir_get hS hi) hje rfl (by rw [List.length_map]; omega) (by rw [List.length_map]; omega) (by simp; omega) (hs _) hsw) ?_
  have e : Ir (inc M i j z) = (Ir M).set i (((M.getD i []).map .int).set j (.int (ent M i j + z))) := by
    unfold Ir Mine.inc
    rw [List.map_set, List.map_set]
  rw [← e]; exact hr
end

section
variable {G : Cx} {w : Nat}

/-- what the walk asks of a web -/
structure Okt (many : Nat) (es : List (Nat × Nat)) : Prop where
  fit : ∀ i, i ≤ many - 1 → Fit (many - 1) (run (minor many (lap many es)) i)
  sm : (told many es).natAbs < 2 ^ 40

theorem take_range {α : Type} (d : α) (l : List α) (k : Nat) (h : k ≤ l.length) : l.take k = (List.range k).map fun i => l.getD i d := by
  apply List.ext_getElem?
  intro i
  by_cases hi : i < k
  · rw [List.getElem?_take_of_lt hi, List.getElem?_map, List.getElem?_range hi]; simp [List.getD, show i < l.length by omega]
  · rw [List.getElem?_eq_none (by rw [List.length_take]; omega), List.getElem?_eq_none (by simp; omega)]

theorem fn_told (o : OkG G) {n : Nat} {many : Nat} {es : List (Nat × Nat)} (hw : W58 w) (hm : many ≤ 4) (h0 : 0 < many) (hl : es.length ≤ 6) (hp : Pl many es) (hok : Okt many es) : Df G (n + 10) (str "_law_told") [.lst (Eg es), .int (many : Nat), .int (w : Nat)] (.int (told many es)) := by
  refine Df.of (r := rc 42) (xs := [str "edges", str "many", str "w"]) o 32 rfl rfl (fun L a cd => ?_) (fun pm cd doc vs h => by match vs, h with | [v, u, t], _ => rfl)
  refine Ex.cons (Ex1.compOwn2 [(str "many", .fr (.int (many : Nat)))] (fun _ => List.replicate many (.int 0)) (rng1 o v rfl (by omega)) (Block.of [(str "many", L + 1)] rfl (by decide) rfl (by decide) rfl rfl rfl (Cls.cons rfl Cls.nil)) (Car.all (Car.cons (by decide) rfl rfl Car.nil))
    (fun i hi C => EvP.rep (k := many) (lst_ (ec i_ e0)) v rfl (by omega)) (by omega) (fun _ => rfl) rfl rfl) ?_
  refine forP (N := es.length) (fun i => [(str "many", .fr (.int (many : Nat))), (str "w", .fr (.int (w : Nat))), (str "rows", .own2 (Ir (lap many (es.take i))))]) ((EvI.list v).castN (by simp)) ?_ (fun i hi => ?_) ?_
  · refine Sub.cons rfl (Sub.cons rfl (Sub.cons ?_ (Sub.nil _)))
    have : Ir (lap many (es.take 0)) = (List.range many).map fun _ => List.replicate many (.int 0) := by
      show Ir (List.replicate many (List.replicate many 0)) = _
      unfold Ir
      rw [List.map_replicate, List.map_replicate, List.map_const', List.length_range]
    rw [this]; rfl
  · refine ⟨_, _, eg_get hi, ?_⟩
    have hfold : lap many (es.take (i + 1)) = lstep (lap many (es.take i)) (es.getD i (0, 0)) := take_fold lstep (0, 0) es _ hi
    have hS : Shp many (lap many (es.take i)) := Shp.lap (hp.take i)
    have hb := hp _ (getD_mem (d := (0, 0)) hi)
    rw [hfold]
    generalize lap many (es.take i) = M at hS
    generalize es.getD i (0, 0) = e at hb
    by_cases he : e.1 = e.2
    · refine Ex.ifF ((tne v v).no (by omega)) (Ex.nil ?_)
      unfold lstep
      rw [if_pos he]
      exact Sub.cons rfl (Sub.cons rfl (Sub.cons rfl (Sub.nil _)))
    · refine Ex.ifT ((tne v v).yes (by omega)) (fun ρ' => Sub [(str "many", .fr (.int (many : Nat))), (str "w", .fr (.int (w : Nat))), (str "rows", .own2 (Ir (lstep M e)))] ρ') ?_ (fun ρ' h => Ex.nil h)
      have S1 := hS.inc e.1 e.1 1 hb.1
      have S2 := S1.inc e.2 e.2 1 hb.2
      have S3 := S2.inc e.1 e.2 (-1) hb.1
      refine setInc hS hm hb.1 hb.1 rfl (add (getInc hS hm hb.1 hb.1 rfl v v) i_) v v ?_
      refine setInc S1 hm hb.2 hb.2 rfl (add (getInc S1 hm hb.2 hb.2 rfl v v) i_) v v ?_
      refine setInc S2 hm hb.1 hb.2 rfl (Ev.is (sub (getInc S2 hm hb.1 hb.2 rfl v v) i_) (by rw [Int.sub_eq_add_neg])) v v ?_
      refine setInc S3 hm hb.2 hb.1 rfl (Ev.is (sub (getInc S3 hm hb.2 hb.1 rfl v v) i_) (by rw [Int.sub_eq_add_neg])) v v ?_
      refine Ex.nil ?_
      unfold lstep
      rw [if_neg he]
      exact Sub.cons rfl (Sub.cons rfl (Sub.cons rfl (Sub.nil _)))
  · rw [List.take_length]
    have hS : Shp many (lap many es) := Shp.lap hp
    have hfit := hok.fit
    have hsm := hok.sm
    unfold told at hsm ⊢
    generalize lap many es = M at hS hfit hsm
    have hml : (minor many M).length = many - 1 := by unfold minor; have := hS.len; simp; omega
    refine Ex.freeze ?_
    refine tv [str "is_below", str "nat"] (gcall (fn_det (M := minor many M) o hw (by omega) (by rw [hml]; exact hfit)) (ec (gcall (fn_m_of (M := minor many M) o hw (hfit 0 (by omega)).sm (by omega) (fun r hr => by have := (hfit 0 (by omega)).wid r hr; omega))
      (ec (Ev.is (Ev.ofP (cmp_ [(str "many", L + 1)] [(str "many", .fr (.int (many : Nat)))] (fun i => Iv ((M.getD i []).take (many - 1))) (EvI.list (Ev.upto (i := many - 1) v (sub v i_) (by omega) (by simp; have := hS.len; omega))) (fun i hi C => ?_) (by simp; omega))) ?_) (ec v e0))) (ec v (ec (vg o 23 rfl rfl) (ec (vg o 29 rfl rfl) e0))))) ?_
    · have hi' : i < many - 1 := by simp at hi; omega
      have hr := hS.row (show i < many by omega)
      have e1 : (((Ir M).map Dv.lst).take (many - 1)).getD i .none = .lst ((M.getD i []).map .int) := by
        rw [List.getD, List.getElem?_take_of_lt hi', List.getElem?_map, ir_get hS (by omega)]; rfl
      rw [e1]
      refine Ev.is (Ev.upto (i := many - 1) v (sub v i_) (by omega) (by rw [List.length_map]; omega)) ?_
      rw [← List.map_take]
    · show Dv.lst _ = _
      have e2 : (((Ir M).map Dv.lst).take (many - 1)).length = many - 1 := by simp; have := hS.len; omega
      rw [e2]
      unfold minor
      rw [take_range [] M (many - 1) (by have := hS.len; omega), List.map_map]
      unfold Im
      rw [List.map_map]
      rfl
    · refine ret (Ev.ite (Tst.of v fun _ => rfl) (fun h => Ev.is (sub i_ (gcall (fn_plain (m := (detB (minor many M)).natAbs) o hw hsm) (ec v (ec v e0)))) ?_) (fun h => Ev.is (gcall (fn_plain (m := (detB (minor many M)).natAbs) o hw hsm) (ec v (ec v e0))) ?_)) rfl
      · have := of_decide_eq_true h; congr 1; omega
      · have := of_decide_eq_false h; congr 1; omega
end
end Mine

end PartC10
section PartC11
open PySem PySem.Calls PyProof.Rows PySem.W
set_option Elab.async false
set_option maxRecDepth 100000
set_option autoImplicit false
set_option linter.unusedVariables false
set_option linter.unusedSimpArgs false
namespace Mine

section
variable {G : Cx} {n : Nat} {E : Env} {ρ : St}

/-- statements that return d and change nothing -/
noncomputable def ExS (G : Cx) (n : Nat) (E : Env) (ρ : St) (ss : List Stmt) (d : Dv) : Prop :=
  ∀ (A : Around) (s : Shared) (K : Fro) (fp : Str → List Addr) (Q : Flow → Shared → Prop), Room n A → RelE G E s.heap K ρ fp →
    (∀ v h' K' tk, Ext s.heap K h' K' → Den G.mg K' v d → Q (.ret v) { s with heap := h', toks := tk }) → wpAny (model G.prog G.w) A (execs ss E) Q (fun _ _ => False) s
theorem ExS.ret {e : Expr} {pos : Pos} {rest : List Stmt} {d : Dv} (h : Ev G n E ρ e d) : ExS G n E ρ (.Return (some e) pos :: rest) d := fun A s K fp Q hR R hQ =>
  wpAny_execs_cons (wpAny_Return_some (h A s K fp _ hR R fun v h' K' tk x dv => hQ v h' K' tk x dv))
theorem ExS.ifT {t : Expr} {a b rest : List Stmt} {pos : Pos} {d : Dv} (ht : Tst G n E ρ t true) (h : ExS G n E ρ a d) : ExS G n E ρ (.If t a b pos :: rest) d := fun A s K fp Q hR R hQ =>
  wpAny_execs_cons (wpAny_If (ht A s K fp _ hR R fun h₁ K₁ tk₁ x₁ => h A _ K₁ fp _ hR (R.ext x₁) fun v h' K' tk x dv => hQ v h' K' tk (x₁.trans x) dv))
theorem ExS.ifF {t : Expr} {a rest : List Stmt} {pos : Pos} {d : Dv} (ht : Tst G n E ρ t false) (h : ExS G n E ρ rest d) : ExS G n E ρ (.If t a [] pos :: rest) d := fun A s K fp Q hR R hQ =>
  wpAny_execs_cons (wpAny_If (ht A s K fp _ hR R fun h₁ K₁ tk₁ x₁ => wpAny_execs_nil (h A _ K₁ fp _ hR (R.ext x₁) fun v h' K' tk x dv => hQ v h' K' tk (x₁.trans x) dv)))

/-- an int, and the state behind it -/
noncomputable def EvM (G : Cx) (n : Nat) (E : Env) (ρ : St) (e : Expr) (z : Int) (ρ' : St) : Prop :=
  ∀ (A : Around) (B : Base) (s : Shared) (K : Fro) (fp : Str → List Addr) (Q : Value → Shared → Prop), Room n A → Rel G B E s.heap K ρ fp →
    (∀ t h' K' fp' tk, Rel G B E h' K' ρ' fp' → Q (.int z t) { s with heap := h', toks := tk }) → wpAny (model G.prog G.w) A (eval e E) Q (fun _ _ => False) s
theorem EvM.of {e : Expr} {z : Int} (h : Ev G n E ρ e (.int z)) : EvM G n E ρ e z ρ := fun A B s K fp Q hR R hQ =>
  h A s K fp _ hR R.e fun v h' K' tk x d => by cases d with | int _ t => exact hQ t h' K' fp tk (R.ext x)
theorem EvM.bin {l r : Expr} {op : Operator} {pos : Pos} {i j k : Int} {ρ1 ρ2 : St} (hl : EvM G n E ρ l i ρ1) (hr : EvM G n E ρ1 r j ρ2) (ho : Op2 G (binaryOp op) (.int i) (.int j) (.int k)) : EvM G n E ρ (.BinOp l op r pos) k ρ2 := fun A B s K fp Q hR R hQ =>
  wpAny_BinOp (hl A B s K fp _ hR R fun t h₁ K₁ fp₁ tk₁ R₁ => hr A B _ K₁ fp₁ _ hR R₁ fun u h₂ K₂ fp₂ tk₂ R₂ =>
    ho A _ K₂ _ _ _ hR.zero R₂.e.gd (.int _ _) (.int _ _) fun v h₃ K₃ tk₃ x₃ d₃ => by cases d₃ with | int _ t' => exact hQ t' h₃ K₃ fp₂ tk₃ (R₂.ext x₃))

theorem Ex1.assignM {x : Str} {px pos : Pos} {e : Expr} {z : Int} {ρ' : St} (h : EvM G n E ρ e z ρ') (hx : E.kindOf x = some .local ∨ E.kindOf x = some .cell) (hs : swapsWith e (some (.Name x px)) pos.line E = pure false) :
    Ex1 G n E ρ (.Assign [.Name x px] e pos) (St.set ρ' x (.fr (.int z))) := fun A B s K fp Q hR R hQ =>
  wpAny_Assign_Name (h A B s K fp _ hR R fun t h₁ K₁ fp₁ tk₁ R₁ =>
    Rel.store R₁ (fv := []) (.fr (.int _ _)) (fun a ha => nomatch ha) (fun a ha => nomatch ha) (fun y a ha => nomatch ha) hx fun h' tk R' t => hQ h' K₁ _ tk R') hs

/-- values, and the state behind them -/
noncomputable def EvML (G : Cx) (n : Nat) (E : Env) (ρ : St) (es : List Expr) (pos : Pos) (Vs : List Va) (ρ' : St) : Prop :=
  ∀ (A : Around) (B : Base) (s : Shared) (K : Fro) (fp : Str → List Addr) (Q : List Value → Shared → Prop), Room n A → Rel G B E s.heap K ρ fp →
    (∀ vs h' K' fp' tk fs, Rel G B E h' K' ρ' fp' → Pend G B E h' K' fp' vs Vs fs → Q vs { s with heap := h', toks := tk }) →
    wpAny (model G.prog G.w) A (spliced (backTo pos (starEach es E))) Q (fun _ _ => False) s
theorem EvML.of {es : List Expr} {pos : Pos} {Vs : List Va} (h : EvPL G n E ρ es pos Vs) : EvML G n E ρ es pos Vs ρ := fun A B s K fp Q hR R hQ =>
  h A s K fp _ hR R.e fun vs h' K' tk fs x hv nk => hQ vs h' K' fp tk fs (R.ext x) (pend_of R x hv nk fun _ _ e => e)
theorem EvML.cons {e : Expr} {es : List Expr} {pos : Pos} {z : Int} {Vs : List Va} {ρ1 ρ' : St} (h : EvM G n E ρ e z ρ1) (hs : EvML G n E ρ1 es pos Vs ρ') (he : ∀ E, starEach (e :: es) E = (false, eval e E) :: starEach es E := by exact fun _ => rfl) :
    EvML G n E ρ (e :: es) pos (.fr (.int z) :: Vs) ρ' := fun A B s K fp Q hR R hQ =>
  args_cons (h A B s K fp _ hR R fun t h₁ K₁ fp₁ tk₁ R₁ => hs A B _ K₁ fp₁ _ hR R₁ fun vs h₂ K₂ fp₂ tk₂ fs R₂ P => hQ _ h₂ K₂ fp₂ tk₂ ([] :: fs) R₂
    ⟨.cons (.fr (.int _ _)) P.hv (fun a ha => nomatch ha), fun f hf a ha => by
      cases hf with
      | head => cases ha
      | tail _ hf => exact P.nk f hf a ha, fun f hf a ha => by
      cases hf with
      | head => cases ha
      | tail _ hf => exact P.nb f hf a ha, fun f hf a ha => by
      cases hf with
      | head => cases ha
      | tail _ hf => exact P.ap f hf a ha⟩) (he E)

theorem Ex1.assignSM {elts es : List Expr} {k k' : Nat} {tpos vpos pos : Pos} {xs : List Str} {Vs : List Va} {ρ' : St} (h : EvML G n E ρ es vpos Vs ρ') (hlen : es.length = Vs.length ∧ Vs.length ≤ 100)
    (hl : xs.length = Vs.length) (hx : ∀ x ∈ xs, E.kindOf x = some .local ∨ E.kindOf x = some .cell) (hs : swapsWithSole [.Tuple elts k tpos] (.Tuple es k' vpos) pos.line E = pure false)
    (hw : swappedStores [.Tuple elts k tpos] (.Tuple es k' vpos) E = pure (some xs)) : Ex1 G n E ρ (.Assign [.Tuple elts k tpos] (.Tuple es k' vpos) pos) (setAll ρ' xs.reverse Vs.reverse) := fun A B s K fp Q hR R hQ => by
  refine Assign_Tuple_swapped (Tuple_ (h A B s K fp _ hR R fun vs h₁ K₁ fp₁ tk₁ fs R₁ P₁ => ?_)) hs hw
  have hvl := P₁.hv.length
  refine wpAny_newObj_type ?_ (by show vs.toArray.size ≤ sizeLine; rw [List.size_toArray, sizeLine_eq]; omega)
  have T : IsTup (h₁.push { cls := .type "tuple", data := .seq vs.toArray }) h₁.objs.size vs.toArray := ⟨_, Heap.get?_push_size _ rfl, rfl, 0, rfl⟩
  rw [show xs.length = vs.toArray.size by rw [hl, List.size_toArray, hvl]]
  refine unpackItems_tuple (s := { s with heap := h₁.push { cls := .type "tuple", data := .seq vs.toArray }, toks := tk₁ }) hR.hd T fun h₂ e₂ => ?_
  have hk : ∀ a o, h₁.get? a = some o → h₂.get? a = some o := fun a o e => by
    have := Heap.get?_push_of_some { cls := .type "tuple", data := .seq vs.toArray } e
    exact e₂ a o (Nat.ne_of_lt (Heap.lt_size this)) this
  have x₂ : Ext h₁ K₁ h₂ K₁ := .heap R₁.e.gd.sub hk
  have P : Pend G B E h₂ K₁ fp₁ vs Vs fs := ⟨P₁.hv.mono (Fro.le_refl _) fun f _ a _ o e => hk a o e, P₁.nk, P₁.nb, P₁.ap⟩
  have hT : ∀ l : List Str, Stores E (l.map fun x => bindName E x) l := fun l => by
    induction l with
    | nil => exact .nil
    | cons x l ih => exact .cons (isStore_bind x) ih
  refine Rel.storeAll (xs.reverse.map fun x => bindName E x) xs.reverse vs.reverse Vs.reverse fs.reverse ρ' _ K₁ fp₁ _ (R₁.ext x₂) ⟨P.hv.reverse, fun f hf => P.nk f (List.mem_reverse.mp hf), fun f hf => P.nb f (List.mem_reverse.mp hf), fun f hf => P.ap f (List.mem_reverse.mp hf)⟩
    (hT _) (by simp [hl]) (fun x hx' => hx x (List.mem_reverse.mp hx')) fun h' fp' tk R' _ => hQ h' K₁ fp' tk R'

/-- an object of one's own is changed, the heap grows -/
theorem Rel.mutX {B : Base} {h h' : Heap} {K K' : Fro} {fp : Str → List Addr} {x : Str} {a : Addr} {V' : Va} {o' : Obj} (R : Rel G B E h K ρ fp) (ha : a ∈ fp x) (ho : ∃ o, h.get? a = some o) (ho' : h'.get? a = some o') (hKa : K' a = none)
    (hk : ∀ b o, b ≠ a → h.get? b = some o → h'.get? b = some o) (kle : Fro.le K K') (ksub : ∀ b o, K' b = some o → h'.get? b = some o) (knew : ∀ b o, K' b = some o → K b = some o ∨ h.get? b = none)
    (hV : HV G K' h' (.ref a) V' (fp x)) (hρ : ∃ ds, ρ.lookup x = some (.own ds)) : Rel G B E h' K' (St.set ρ x V') fp := by
  obtain ⟨o, e⟩ := ho
  have hf : o.isFreed = false := (Heap.get?_some_iff.mp e).2
  have hs := Heap.SameBut.update h' a (fun _ => o)
  have eu := Heap.get?_update_self (fun _ => o) ho' hf
  have R1 := R.ext (h' := h'.update a (fun _ => o)) (K' := K') ⟨fun b o e' => ?_, kle, fun b o e' => ?_, knew⟩
  · refine R1.mut (x := x) (a := a) (V' := V') ha ⟨hs.1.symm, fun b q => (hs.2 b q).symm⟩ fun v V hv hV' => ?_
    obtain ⟨ds, e1⟩ := hρ
    rw [e1] at hV'; cases hV'
    obtain ⟨a', rfl, hfp, _⟩ := hv.inv_own
    rw [hfp] at ha
    obtain rfl := List.mem_singleton.mp ha
    exact hV
  · by_cases q : b = a
    · subst q; rw [e] at e'; cases e'; exact eu
    · rw [hs.2 b q]; exact hk b o q e'
  · by_cases q : b = a
    · rw [q, hKa] at e'; cases e'
    · rw [hs.2 b q]; exact ksub b o e'
end
end Mine

end PartC11
section PartC12
open PySem PySem.Calls PyProof.Rows PySem.W
set_option Elab.async false
set_option maxRecDepth 100000
set_option autoImplicit false
set_option linter.unusedVariables false
set_option linter.unusedSimpArgs false
namespace Mine

section
variable {G : Cx} {n : Nat} {E : Env} {ρ : St}

theorem setItemS {x : Str} {xp spos pos : Pos} {ie e : Expr} {ds : List Dv} {d : Dv} {k : Int} {i : Nat} (hv : ρ.lookup x = some (.own ds)) (hx : Named E x) (h : Ev G n E ρ e d) (hi : Ev G n E ρ ie (.int k)) (hk : k = (i : Int)) (hi' : i < ds.length)
    (hsz : ds.length ≤ 2 ^ 20) (hs : swapsWith e (some (.Subscript (.Name x xp) ie spos)) pos.line E = pure false) {A : Around} {B : Base} {s : Shared} {K : Fro} {fp : Str → List Addr} {Q : Flow → Shared → Prop} (hR : Room n A) (R : Rel G B E s.heap K ρ fp)
    (hQ : ∀ h' K' tk, Rel G B E h' K' (St.set ρ x (.own (ds.set i d))) fp → Q .next { s with heap := h', toks := tk }) : wpAny (model G.prog G.w) A (exec (.Assign [.Subscript (.Name x xp) ie spos] e pos) E) Q (fun _ _ => False) s := by
  rw [exec_Assign_Subscript _ _ _ _ _ hs]
  refine wpAny_bind (wpAny_standAt (wpAny_bind (h A s K fp _ hR R.e fun w h₁ K₁ tk₁ x₁ d₁ => wpAny_bind ?_)))
  exact assign_item hv hx hi hk hi' hsz hR (R.ext x₁) d₁ fun h' K' tk R' _ _ => wpAny_pure (hQ h' K' tk R')

noncomputable def sift (xs : List Nat) (k m : Nat) : Nat := if k + 1 ≤ xs.length then xs.getD k 0 % m else (5 * (k + 1) + (k + 1) / 3 + 3) % m

theorem EvM.sifted (o : OkG G) {p tp pos : Pos} {me : Expr} {xs : List Nat} {k m : Nat} (hv : ρ.lookup (str "tub") = some (.own [.int (k : Nat), .lst (nats xs)])) (hm : Ev G (n + 1) E ρ me (.int (m : Nat))) (hm0 : 0 < m) (hx : xs.length ≤ 1000)
    (hn : Named E (str "tub") := by exact nm_) (hg : E.kindOf (str "_law_sifted") = some .globalImplicit := by rfl)
    (he : ∀ E, eval (.Call (.Name (str "_law_sifted") p) [.Name (str "tub") tp, me] [] pos) E = (do callWith pos (← eval (.Name (str "_law_sifted") p) E) [] (backTo pos (starEach [.Name (str "tub") tp, me] E)) (backToKw pos (keywordEach [] E))) := by exact fun _ => rfl)
    (hst : ∀ E, starEach [.Name (str "tub") tp, me] E = (false, eval (.Name (str "tub") tp) E) :: starEach [me] E := by exact fun _ => rfl) (hst2 : ∀ E, starEach [me] E = [(false, eval me E)] := by exact fun _ => rfl) :
    EvM G (n + 1) E ρ (.Call (.Name (str "_law_sifted") p) [.Name (str "tub") tp, me] [] pos) (sift xs k m : Nat) (St.set ρ (str "tub") (.own [.int ((k + 1 : Nat) : Int), .lst (nats xs)])) := fun A B s K fp Q hR R hQ => by
  have hf : Ev G (n + 1) E ρ (.Name (str "_law_sifted") p) (.fn (str "_law_sifted")) := vg o 30 rfl rfl hg
  have hr : rc 40 ∈ recsOf G.p := o.recs _ (List.mem_of_getElem? (show (recsOf pw)[30]? = some (rc 40) from rfl))
  refine Call_ (hf A s K fp _ hR R.e fun vf h₁ K₁ tk₁ x₁ d₁ => ?_) (he E)
  cases d₁ with | fn hgf =>
  rename_i af
  obtain ⟨of, fd, hof, hdat⟩ := fn_at (R.ext x₁).e.gd hgf (List.mem_map.mpr ⟨rc 40, hr, rfl⟩)
  refine callWith_def (o := of) (fd := fd) hdat ?_ (hst E)
  have R1 := R.ext x₁
  obtain ⟨m1, v1, Fm, h1, h2⟩ := R1.get hv
  obtain ⟨a, rfl, hfp, vs₀, c₀, e₀, L₀⟩ := h2.inv_own
  refine args_cons (Fm.load rfl hn.1 h1 ?_ hn.2.1 hn.2.2) (hst E)
  refine args_cons (hm A _ K₁ fp _ hR R1.e fun v₂ h₂ K₂ tk₂ x₂ d₂ => args_nil ?_) (hst2 E)
  have R2 := R1.ext x₂
  refine ⟨x₂.keep _ _ hof, ?_⟩
  have e₂ := x₂.keep _ _ e₀
  have haf : a ∈ fp (str "tub") := by rw [hfp]; exact .head _
  have hv2 : HV G K₂ h₂ (.ref a) (.own [.int (k : Nat), .lst (nats xs)]) [a] := .own ⟨vs₀, c₀, e₂, L₀.mono x₂.le⟩
  have aK : K₂ a = none := R2.e.notK _ a haf
  have aB := R2.ownB _ a haf
  refine enter (r := rc 40) (xs := [str "tub", str "many"]) (B := ⟨fun b => if b = a then none else h₂.get? b, K₂⟩) (Vs := [.own [.int (k : Nat), .lst (nats xs)], .fr (.int (m : Nat))]) (fs := [[a], []]) (vs := [.ref a, v₂]) (s := { s with heap := h₂, toks := tk₂ }) (K := K₂) hr
    (fun pm cd doc vs h => by match vs, h with | [v, u], _ => rfl) rfl (by decide) (by decide) (by decide) rfl rfl rfl hR R2.e.gd hgf (.cons hv2 (.cons (.fr d₂) .nil (fun _ _ _ hg => nomatch hg)) (fun _ _ g hg ha => by obtain rfl := List.mem_singleton.mp hg; cases ha))
    (fun f hf b hb => ?_) rfl (fun b o' e => ?_) (fun b o' e => ?_) fun L cd h₃ tk₃ A' hR' R' kp => ?_
  · cases hf with
    | head => obtain rfl := List.mem_singleton.mp hb; exact ⟨aK, if_pos rfl⟩
    | tail _ hf => obtain rfl := List.mem_singleton.mp hf; cases hb
  · dsimp only at e
    split at e
    · cases e
    · exact e
  · have hb : b ≠ a := fun q => by have := R2.base b o' e; rw [q, aB] at this; cases this
    show (if b = a then none else h₂.get? b) = _
    rw [if_neg hb]; exact R2.e.gd.base b o' e
  · refine wpAny_execs_cons (setItemS (i := 0) rfl nm_ (add (idxO (i := 0) rfl i_ rfl rfl (Nat.le_of_ble_eq_true rfl)) i_) i_ rfl (by show 0 < 2; decide) (Nat.le_of_ble_eq_true rfl) rfl hR' R' fun h₄ K₄ tk₄ R4 => ?_)
    have e1 : (k : Int) + 1 = ((k + 1 : Nat) : Int) := by omega
    have main : ∀ {rest : List Stmt}, ExS G n (envOfC (rc 40).name (rc 40).scope L af cd) (St.set ([str "tub", str "many"].zip [.own [.int (k : Nat), .lst (nats xs)], .fr (.int (m : Nat))]) (str "tub") (.own ([Dv.int (k : Nat), .lst (nats xs)].set 0 (.int ((k : Int) + 1))))) rest (.int (sift xs k m : Nat)) →
        wpAny (model G.prog G.w) A' (execs rest (envOfC (rc 40).name (rc 40).scope L af cd)) (fun fl s' => Q (match fl with | .ret v => v | _ => .none) s') (fun _ _ => False) { s with heap := h₄, toks := tk₄ } := fun {rest} hE => by
      refine hE A' _ K₄ _ _ hR' R4.e fun v h₅ K₅ tk₅ x₅ d₅ => ?_
      cases d₅ with | int _ t =>
      refine hQ t h₅ K₅ fp tk₅ ?_
      obtain ⟨m4, v4, F4, g1, g2⟩ := R4.get (x := str "tub") (St.lookup_set_self ..)
      obtain ⟨a', rfl, hfp4, vs4, c4, e4, L4⟩ := g2.inv_own
      obtain rfl : a = a' := by
        have : [a] = [a'] := hfp4
        exact List.head_eq_of_cons_eq this
      have aK4 : K₄ a = none := R4.e.notK (str "tub") a (by show a ∈ [a]; exact .head _)
      have aK5 : K₅ a = none := by
        cases q : K₅ a with
        | none => rfl
        | some o' =>
          rcases x₅.new a o' q with z | z
          · rw [aK4] at z; cases z
          · rw [show h₄.get? a = none from z] at e4; cases e4
      refine Rel.mutX (o' := lstObj vs4 c4) R2 haf ⟨_, e₂⟩ (x₅.keep _ _ e4) aK5 (fun b o' q e => x₅.keep b o' (R4.keep b o' (by show (if b = a then none else h₂.get? b) = _; rw [if_neg q]; exact e))) (R4.kle.trans x₅.le) x₅.sub (fun b o' e => ?_) ?_ ⟨_, hv⟩
      · have hb : b ≠ a := fun q => by rw [q, aK5] at e; cases e
        rcases x₅.new b o' e with z | z
        · rcases R4.knew b o' z with y | y
          · exact .inl y
          · refine .inr ?_
            have y' : (if b = a then none else h₂.get? b) = none := y
            rwa [if_neg hb] at y'
        · refine .inr ?_
          cases q : h₂.get? b with
          | none => rfl
          | some o'' =>
            have := R4.keep b o'' (by show (if b = a then none else h₂.get? b) = _; rw [if_neg hb]; exact q)
            rw [show h₄.get? b = none from z] at this; cases this
      · rw [hfp]
        refine .own ⟨vs4, c4, x₅.keep _ _ e4, ?_⟩
        have : [Dv.int (k : Nat), .lst (nats xs)].set 0 (.int ((k : Int) + 1)) = [.int ((k + 1 : Nat) : Int), .lst (nats xs)] := by rw [← e1]; rfl
        rw [← this]
        exact L4.mono x₅.le
    refine main ?_
    have hlen : (nats xs).length = xs.length := nats_len xs
    by_cases hk : k + 1 ≤ xs.length
    · refine ExS.ifT ((tle (idxO (i := 0) rfl i_ rfl rfl (Nat.le_of_ble_eq_true rfl)) (len o (idxO (i := 1) rfl i_ rfl rfl (Nat.le_of_ble_eq_true rfl)) (by rw [hlen]; omega))).yes (by rw [hlen]; omega)) (ExS.ret (Ev.is (fmod (i := (xs.getD k 0 : Nat)) (idx (i := k) (idxO (i := 1) rfl i_ rfl rfl (Nat.le_of_ble_eq_true rfl)) (sub (idxO (i := 0) rfl i_ rfl rfl (Nat.le_of_ble_eq_true rfl)) i_) (by omega) (nats_at (by simp [List.getD, show k < xs.length by omega])) (by rw [hlen]; omega)) v (by omega)) ?_))
      unfold sift
      rw [if_pos hk, fmod_is]
    · refine ExS.ifF ((tle (idxO (i := 0) rfl i_ rfl rfl (Nat.le_of_ble_eq_true rfl)) (len o (idxO (i := 1) rfl i_ rfl rfl (Nat.le_of_ble_eq_true rfl)) (by rw [hlen]; omega))).no (by rw [hlen]; omega)) (ExS.ret (Ev.is (fmod (i := (5 * (k + 1) + (k + 1) / 3 + 3 : Nat)) (Ev.is (add (add (mul i_ (idxO (i := 0) rfl i_ rfl rfl (Nat.le_of_ble_eq_true rfl)) (by decide)) (fdiv (idxO (i := 0) rfl i_ rfl rfl (Nat.le_of_ble_eq_true rfl)) i_ (by decide) (by decide))) i_) ?_) v (by omega)) ?_))
      · rw [e1, show (3 : Int) = ((3 : Nat) : Int) from rfl, fdiv_is]; congr 1
      · unfold sift
        rw [if_neg hk, fmod_is]
end
end Mine

end PartC12
section PartC13
open PySem PySem.Calls PyProof.Rows PySem.W
set_option Elab.async false
set_option maxRecDepth 100000
set_option autoImplicit false
set_option linter.unusedVariables false
set_option linter.unusedSimpArgs false
namespace Mine

section
variable {G : Cx} {n : Nat} {E : Env} {ρ : St}

/-- what a for runs over, and the state behind it -/
noncomputable def EvIM (G : Cx) (n : Nat) (E : Env) (ρ : St) (iter : Expr) (N : Nat) (it : Nat → Dv) (ρ' : St) : Prop :=
  ∀ (A : Around) (B : Base) (s : Shared) (K : Fro) (fp : Str → List Addr) (Q : Value → Shared → Prop), Room n A → Rel G B E s.heap K ρ fp →
    (∀ hM KM fpM, Rel G B E hM KM ρ' fpM → ∀ I ifp wr P St h' K' tk, Ext hM KM h' K' → Walks G.prog G.w A I ifp wr N P St → St 0 h' → (∀ i h, St i h → ∀ b ∈ ifp, ∃ o, h.get? b = some o) → (∀ b ∈ wr, hM.get? b = none ∧ K' b = none) → (∀ b ∈ ifp, b ∈ wr ∨ ∃ o, K' b = some o) →
      (∀ i v, P i v → Den G.mg K' v (it i)) → Q (.ref I) { s with heap := h', toks := tk }) →
    wpAny (model G.prog G.w) A (eval iter E) (fun x s₁ => wpAny (model G.prog G.w) A (pyIter x) Q (fun _ _ => False) s₁) (fun _ _ => False) s

theorem EvIM.range1 (o : OkG G) {p pos : Pos} {e : Expr} {k : Int} {N : Nat} {ρ' : St} (h : EvM G n E ρ e k ρ') (hN : k = (N : Int)) (hb : N < 2 ^ 60) (hx : E.kindOf (str "range") = some .globalImplicit := by rfl)
    (hst : ∀ E, starEach [e] E = [(false, eval e E)] := by exact fun _ => rfl) : EvIM G n E ρ (.Call (.Name (str "range") p) [e] [] pos) N (fun i => .int i) ρ' := fun A B s K fp Q hR R hQ => by
  obtain ⟨m, F, _⟩ := R.e.frm
  refine Call_Name rfl (Name_function_global F.kind hx (loadGlobal_builtin (F.glob ▸ R.e.gd.top.g) o.range (F.bt ▸ R.e.gd.top.b) ((R.e.gd.top.builtins _ (by decide)).trans PyProof.Rows.boot_range) ?_) (by decide))
  refine callWith_type1 (args_cons (h A B s K fp _ hR R fun t h₁ K₁ fp₁ tk₁ R₁ => args_nil ?_) (hst E)) (hst E) rfl
  refine call_range_1 ?_
  refine range_iter (s := { s with heap := h₁, toks := tk₁ }) (K := K₁) (K₁ := K₁) (h₁ := h₁) (N := N) (a := 0) (b := k) (c := 1) (h₂ := h₁.push _) hR (.same R₁.e.gd.sub) (Heap.get?_push_size _ rfl) (fun _ _ q => Heap.get?_push_of_some _ q) (small_one (by omega) (by omega) (by omega) (by omega)) (by rw [rangeSize_one]; split <;> omega) ?_
  intro I ifp wr P St h' K' tk x W st0 lv wr0 ik dn lg
  exact hQ h₁ K₁ fp₁ R₁ I ifp wr P St h' K' tk x W st0 lv wr0 ik (fun i v hv => by have := dn i v hv; simpa using this)

theorem Ex.forM {x : Str} {xp : Pos} {iter : Expr} {body rest : List Stmt} {pos : Pos} {N : Nat} {it : Nat → Dv} {ρ0 : St} {P : St → Prop} {Rt : Dv → St → Prop} (J : Nat → St) (hI : EvIM G n E ρ iter N it ρ0) (h0 : Sub (J 0) ρ0)
    (hb : ∀ i, i < N → Ex G n E (St.set (J i) x (.fr (it i))) body (fun ρ' => Sub (J (i + 1)) ρ') Rt) (hr : Ex G n E (J N) rest P Rt) (hx : E.kindOf x = some .local ∨ E.kindOf x = some .cell := by first | exact Or.inl rfl | exact Or.inr rfl) (hs : ∀ x, foldedSetIterable iter E x = pure x := by exact fun _ => rfl) :
    Ex G n E ρ (.For (.Name x xp) iter body [] pos :: rest) P Rt := fun A B s0 K0 fp0 Q hR R0 hQ hret => by
  refine wpAny_execs_cons (wpAny_For (hI A B s0 K0 fp0 _ hR R0 fun hM K fp R I ifp wr PP Sta h₀ K₀ tk₀ x₀ W st₀ lv₀ wr₀ ik₀ dn₀ => ?_) hs)
  have R₀ := (R.ext x₀).weak h0
  have notOwn : ∀ b ∈ ifp, ∀ x, b ∉ (fun x => if (J 0).lookup x = none then [] else fp x) x := fun b hb x hx => by
    dsimp only at hx
    split at hx
    · cases hx
    · rcases ik₀ b hb with q | ⟨o, q⟩
      · obtain ⟨us, c, e⟩ := R.e.live hx; rw [(wr₀ b q).1] at e; cases e
      · rw [(R.ext x₀).e.notK x b hx] at q; cases q
  have notPrv : ∀ b ∈ ifp, ¬ Prv E b := fun b hb p => by
    rcases ik₀ b hb with q | ⟨o, q⟩
    · obtain ⟨m, F, _⟩ := R.e.frm
      obtain ⟨o, e, _⟩ := F.live p; rw [(wr₀ b q).1] at e; cases e
    · rw [(R.ext x₀).prvK b p] at q; cases q
  have wrB : ∀ b ∈ wr, B.h b = none := fun b hb => by
    cases q : B.h b with
    | none => rfl
    | some o => have := R.keep b o q; rw [(wr₀ b hb).1] at this; cases this
  refine codeAny_forLoop_any (fun k s' => ∃ i h K' fp' tk, s' = { s0 with heap := h, toks := tk } ∧ k = N - i ∧ i ≤ N ∧ Rel G B E h K' (J i) fp' ∧ Sta i h ∧ (∀ b ∈ wr, K' b = none) ∧ (∀ b ∈ ifp, ∀ x, b ∉ fp' x) ∧ Fro.le K₀ K')
    ?_ N ⟨0, h₀, K₀, _, tk₀, rfl, rfl, Nat.zero_le _, R₀, st₀, fun b hb => (wr₀ b hb).2, notOwn, Fro.le_refl _⟩
  rintro k s' ⟨i, h, K', fp', tk, rfl, rfl, hi, R', st, wk, no, le⟩
  by_cases hlt : i < N
  · have hbody := hb i hlt
    refine lift (W.item i _ _ _ hlt st fun v h₁ tk₁ hP st₁ k₁ => ?_)
    have R₁ := R'.outside k₁ wk wrB (fun b hb => no b (W.sub b hb)) (fun b hb => notPrv b (W.sub b hb))
    have hd := (dn₀ i v hP).mono le
    have go : ∀ (Q' : Unit → Shared → Prop) (Er : Value → Shared → Prop), Q' () { s0 with heap := h₁, toks := tk₁ } → wpAny (model G.prog G.w) A (letOwnedTupleGo (.Name x xp) (.ref I) v) Q' Er { s0 with heap := h₁, toks := tk₁ } := by
      intro Q' Er hq
      rw [show letOwnedTupleGo (.Name x xp) (.ref I) v = pure () from rfl]; exact wpAny_pure hq
    refine go _ _ ?_
    refine lift (Asg.name hx A B _ K' fp' v _ hR R₁ hd fun h₂ fp₂ tk₂ R₂ t₂ s₂ => ?_)
    have st₂ : Sta (i + 1) h₂ := W.frame _ _ _ st₁ fun b hb o e => t₂ b o (notPrv b hb) e
    have no₂ : ∀ b ∈ ifp, ∀ x, b ∉ fp₂ x := fun b hb x hx => no b hb x (s₂ x b hx)
    obtain ⟨B', RB, eK, up, back⟩ := R₂.rebase
    have upI : ∀ b ∈ ifp, ∃ o, B'.h b = some o ∧ h₂.get? b = some o := fun b hb => by
      obtain ⟨o, e⟩ := lv₀ _ _ st₂ b hb
      exact ⟨o, up b o e (no₂ b hb) (notPrv b hb), e⟩
    refine lift (hbody A B' _ K' fp₂ _ hR RB (fun ρ' h₃ K₃ fp₃ tk₃ hP₃ R₃ => ?_) fun w d ρ' h₃ K₃ fp₃ tk₃ hRt R₃ hd₃ => hret w d ρ' h₃ K₃ fp₃ tk₃ hRt (back _ _ _ _ R₃) hd₃)
    refine ⟨N - (i + 1), by omega, i + 1, h₃, K₃, _, tk₃, rfl, rfl, hlt, (back _ _ _ _ R₃).weak hP₃, W.frame _ _ _ st₂ fun b hb o e => ?_, fun b hb => ?_, fun b hb x hx => ?_, le.trans (eK ▸ R₃.kle)⟩
    · obtain ⟨o', e1, e2⟩ := upI b hb
      rw [e2] at e; obtain rfl := Option.some.inj e
      exact R₃.keep b _ e1
    · cases q : K₃ b with
      | none => rfl
      | some o =>
        obtain ⟨o', e1, e2⟩ := upI b (W.sub b hb)
        rcases R₃.knew b o q with e | e
        · rw [eK, wk b hb] at e; cases e
        · rw [e1] at e; cases e
    · have hx' : b ∈ (if (J (i + 1)).lookup x = none then [] else fp₃ x) := hx
      split at hx'
      · cases hx'
      · obtain ⟨o', e1, e2⟩ := upI b hb
        rw [R₃.ownB x b hx'] at e1; cases e1
  · have hiN : i = N := by omega
    subst hiN
    refine lift (W.done _ _ _ st fun h₁ tk₁ k₁ => ?_)
    have R₁ := R'.outside k₁ wk wrB (fun b hb => no b (W.sub b hb)) (fun b hb => notPrv b (W.sub b hb))
    exact wpAny_execs_nil (hr A B _ K' fp' Q hR R₁ hQ hret)

theorem Op2.addN (i j k : Nat) (h : i + j = k) : Op2 G (binaryOp .Add) (.int (i : Int)) (.int (j : Int)) (.int (k : Int)) := by
  have := Op2.add (G := G) (i : Int) (j : Int)
  rwa [show (i : Int) + (j : Int) = (k : Int) by omega] at this
theorem Op2.modN (i j k : Nat) (h : i % j = k) (hj : j ≠ 0) : Op2 G (binaryOp .Mod) (.int (i : Int)) (.int (j : Int)) (.int (k : Int)) := by
  have := Op2.fmod (G := G) (i : Int) (j : Int) (by omega)
  rwa [fmod_is, h] at this
end

/-- the plain law -/
structure Plain : Prop where
  ok : ∀ {many : Nat} {es : List (Nat × Nat)}, 0 < many → many ≤ 4 → Pl many es → es.length ≤ 6 → Okt many es
  trees : ∀ {many : Nat} {es : List (Nat × Nat)}, 0 < many → many ≤ 4 → Pl many es → told many es = treesN many es
  dc : ∀ {many : Nat} {es : List (Nat × Nat)} {a b : Nat}, 2 ≤ many → many ≤ 4 → Pl many es → a < many → b < many → told many (es ++ [(a, b)]) = told many es + (if a ≠ b then told (many - 1) (es.map (mrg a b)) else 0)
  mrg : ∀ {many : Nat} {es : List (Nat × Nat)} {a b : Nat}, 2 ≤ many → Pl many es → a < many → b < many → a ≠ b → Pl (many - 1) (es.map (mrg a b))

section
variable {G : Cx}
theorem sift_lt (xs : List Nat) (k m : Nat) (h : 0 < m) : sift xs k m < m := by
  unfold sift; split <;> exact Nat.mod_lt _ h
noncomputable def one (xs : List Nat) (M j : Nat) : Nat := sift xs (3 + 2 * j) M
noncomputable def other (xs : List Nat) (M j : Nat) : Nat := (one xs M j + 1 + sift xs (3 + 2 * j + 1) M) % M
noncomputable def web (xs : List Nat) (M i : Nat) : List (Nat × Nat) := (List.range i).map fun j => (one xs M j, other xs M j)

theorem fn_law (pl : Plain) (o : OkG G) {script : List Int} (hs : script.length ≤ 63) : Df G 11 (str "law") [.lst (script.map .int)] (.bool true) := by
  refine Df.of (r := rc 46) (xs := [str "script"]) o 36 rfl rfl (fun L a cd => ?_) (fun pm cd doc vs h => by match vs, h with | [v], _ => rfl)
  generalize hxs : (script.take 15).map Int.natAbs = xs
  have hxl : xs.length ≤ 15 := by rw [← hxs]; simp; omega
  refine st1 (EvP.list (ec i_ (ec (Ev.is (Ev.ofP (cmp_ [] [] (fun i => .int (((script.take 15).getD i 0).natAbs : Nat)) (EvI.list (Ev.upto (i := 15) v i_ rfl (by rw [List.length_map]; omega))) (fun i hi C => ?_) (by simp; omega))) (?_ : _ = Dv.lst (nats xs))) e0)) (by show 2 ≤ 1000; decide)) ?_
  · have hi' : i < (script.take 15).length := by simpa using hi
    have e : ((script.map Dv.int).take 15).getD i .none = .int ((script.take 15).getD i 0) := by
      rw [← List.map_take, List.getD, List.getElem?_map, List.getD, List.getElem?_eq_getElem hi']; rfl
    rw [e]
    exact abs_ o (intI o v)
  · show Dv.lst _ = _
    rw [← List.map_take, List.length_map, map_range (fun z : Int => Dv.int (z.natAbs : Nat)) 0 (script.take 15), ← hxs]
    unfold nats
    rw [List.map_map]; rfl
  have hW := sift_lt xs 0 4 (by decide)
  have hM := sift_lt xs 1 3 (by decide)
  have hT := sift_lt xs 2 5 (by decide)
  generalize hWe : 5 + sift xs 0 4 = w
  generalize hMe : 2 + sift xs 1 3 = M
  generalize hTe : 2 + sift xs 2 5 = T
  have hw : W58 w := ⟨by omega, by omega⟩
  have hM2 : 2 ≤ M := by omega
  have hM4 : M ≤ 4 := by omega
  refine Ex.cons (Ex1.assignSM (xs := [str "w", str "many", str "edges"]) (EvML.cons (EvM.bin (EvM.of i_) (EvM.sifted (k := 0) (m := 4) (xs := xs) o rfl i_ (by decide) (by omega)) (Op2.addN 5 _ w hWe))
    (EvML.cons (EvM.bin (EvM.of i_) (EvM.sifted (k := 1) (m := 3) (xs := xs) o rfl i_ (by decide) (by omega)) (Op2.addN 2 _ M hMe)) (EvML.of (qc onil q0)))) ⟨rfl, Nat.le_of_ble_eq_true rfl⟩ rfl (Nms.all (Nms.cons (Or.inl rfl) (Nms.cons (Or.inl rfl) (Nms.cons (Or.inl rfl) Nms.nil)))) rfl rfl) ?_
  have hPl : ∀ i, Pl M (web xs M i) := fun i e he => by
    obtain ⟨j, _, rfl⟩ := List.mem_map.mp he
    exact ⟨sift_lt _ _ _ (by omega), Nat.mod_lt _ (by omega)⟩
  have hlen : ∀ i, (web xs M i).length = i := fun i => by simp [web]
  refine st1 (p_ (Ev.borrow (gcall (fn_told (n := 0) (many := M) (es := web xs M 0) o hw hM4 (by omega) (by rw [hlen]; omega) (hPl 0) (pl.ok (by omega) hM4 (hPl 0) (by rw [hlen]; omega))) (ec v (ec v (ec v e0)))) rfl)) ?_
  refine Ex.forM (N := T) (fun i => [(str "w", .fr (.int (w : Nat))), (str "many", .fr (.int (M : Nat))), (str "tub", .own [.int (3 + 2 * i : Nat), .lst (nats xs)]), (str "edges", .own (Eg (web xs M i))), (str "before", .fr (.int (told M (web xs M i))))])
    (EvIM.range1 o (EvM.bin (EvM.of i_) (EvM.sifted (k := 2) (m := 5) (xs := xs) o rfl i_ (by decide) (by omega)) (Op2.addN 2 _ T hTe)) rfl (by omega)) (Sub.cons rfl (Sub.cons rfl (Sub.cons rfl (Sub.cons rfl (Sub.cons rfl (Sub.nil _)))))) (fun i hi => ?_) ?_
  · refine Ex.cons (Ex1.assignM (EvM.sifted (k := 3 + 2 * i) (m := M) (xs := xs) o rfl v (by omega) (by omega)) (Or.inl rfl) rfl) ?_
    refine Ex.cons (Ex1.assignM (EvM.bin (EvM.bin (EvM.bin (EvM.of v) (EvM.of i_) (Op2.addN _ 1 _ rfl)) (EvM.sifted (k := 3 + 2 * i + 1) (m := M) (xs := xs) o rfl v (by omega) (by omega)) (Op2.addN _ _ _ rfl)) (EvM.of v) (Op2.modN _ M _ rfl (by omega))) (Or.inl rfl) rfl) ?_
    have ha : one xs M i < M := sift_lt _ _ _ (by omega)
    have hb : other xs M i < M := Nat.mod_lt _ (by omega)
    have hweb : web xs M (i + 1) = web xs M i ++ [(one xs M i, other xs M i)] := by unfold web; rw [List.range_succ, List.map_append]; rfl
    have hP := hPl i
    have hP1 := hPl (i + 1)
    have hl := hlen i
    have hl1 := hlen (i + 1)
    refine weakTo [(str "w", .fr (.int (w : Nat))), (str "many", .fr (.int (M : Nat))), (str "tub", .own [.int (3 + 2 * (i + 1) : Nat), .lst (nats xs)]), (str "edges", .own (Eg (web xs M i))), (str "before", .fr (.int (told M (web xs M i)))), (str "one", .fr (.int (one xs M i : Nat))), (str "other", .fr (.int (other xs M i : Nat)))] ?_
    rw [hweb] at hP1 hl1 ⊢
    generalize web xs M i = es at *
    generalize one xs M i = x at *
    generalize other xs M i = y at *
    have hl6 : (es ++ [(x, y)]).length ≤ 6 := by omega
    have hcat : ∀ {E : Env} {ρ : St} {xp yp zp p q r : Pos} {k : Nat} (hE : E = envOfC (rc 46).name (rc 46).scope L a cd), ρ.lookup (str "edges") = some (.fr (.lst (Eg es))) → ρ.lookup (str "one") = some (.fr (.int (x : Nat))) → ρ.lookup (str "other") = some (.fr (.int (y : Nat))) →
        Ev G 10 E ρ (.BinOp (.Name (str "edges") xp) .Add (.List [.Tuple [.Name (str "one") yp, .Name (str "other") zp] k p] q) r) (.lst (Eg (es ++ [(x, y)]))) := fun {E ρ xp yp zp p q r k} hE h1 h2 h3 => by
      subst hE
      refine Ev.is (cat (v h1) (lst_ (ec (tup_ (ec (v h2) (ec (v h3) e0))) e0)) (by simp only [List.length_map, List.length_cons, List.length_nil]; omega)) ?_
      rw [eg_append]; rfl
    have hok := pl.ok (by omega) hM4 hP1 hl6
    refine st1 (p_ (Ev.borrow (gcall (fn_told (n := 0) (many := M) (es := es ++ [(x, y)]) o hw hM4 (by omega) hl6 hP1 hok) (ec (hcat rfl rfl rfl rfl) (ec v (ec v e0)))) rfl)) ?_
    refine Ex.ifF (Tst.borrow ((tne v (gcall (fn_trees (n := 8) (many := M) (es := es ++ [(x, y)]) o hM4 (by omega) hl6 hP1) (ec (hcat rfl rfl rfl rfl) (ec v e0)))).no (by rw [pl.trees (by omega) hM4 hP1]; simp))) ?_
    refine st1 (p_ (Ev.borrow (Ev.ite (d := .int (if x ≠ y then told (M - 1) (es.map (mrg x y)) else 0)) (tne v v) (fun h => ?_) (fun h => ?_)) rfl)) ?_
    · have h' : x ≠ y := by have := of_decide_eq_true h; omega
      rw [if_pos h']
      have hPm := pl.mrg hM2 hP ha hb h'
      exact gcall (fn_told (n := 0) (many := M - 1) (es := es.map (mrg x y)) o hw (by omega) (by omega) (by rw [List.length_map]; omega) hPm (pl.ok (by omega) (by omega) hPm (by rw [List.length_map]; omega)))
        (ec (gcall (fn_merged (n := 9) (es := es) (a := x) (b := y) o (by omega) (by omega) (by omega)) (ec v (ec v (ec v e0)))) (ec (Ev.is (sub v i_) (by congr 1; omega)) (ec v e0)))
    · have h' : ¬ x ≠ y := by have := of_decide_eq_false h; omega
      rw [if_neg h']
      exact i_
    · refine Ex.ifF (Tst.borrow ((tne v (add v v)).no (by rw [pl.dc hM2 hM4 hP ha hb]; simp))) ?_
      refine app rfl (tup_ (ec v (ec v e0))) (by rw [List.length_map]; omega) ?_
      refine st1 (p_ v) (Ex.nil ?_)
      refine Sub.cons rfl (Sub.cons rfl (Sub.cons rfl (Sub.cons ?_ (Sub.cons rfl (Sub.nil _)))))
      rw [eg_append]; rfl
  · exact ret b_ rfl
end
end Mine

end PartC13
section PartC14
open PySem PySem.Calls PyProof.Rows PySem.W
set_option Elab.async false
set_option maxRecDepth 100000
set_option autoImplicit false
set_option linter.unusedVariables false
set_option linter.unusedSimpArgs false
namespace Mine

theorem ints_den {P : Params} {h : Heap} {mg : Str → Option Value} {K : Fro} : ∀ {vs : List Value} {zs : List Int}, WellAll P h vs (ofPys (zs.map PyData.int)) → DenL mg K vs (zs.map Dv.int)
  | vs, [], x => by
    rw [show ofPys (([] : List Int).map PyData.int) = [] from rfl] at x
    cases x; exact .nil
  | vs, z :: zs, x => by
    rw [show ofPys ((z :: zs).map PyData.int) = .int z :: ofPys (zs.map PyData.int) from rfl] at x
    cases x with | cons h1 h2 =>
    cases h1 with | int _ t => exact .cons (.int _ _) (ints_den h2)

noncomputable def cstOf (x : Str) : Option Dv := if x = str "NOUGHT" then some (.tup [.bool false, .lst []]) else if x = str "UNIT" then some (.tup [.bool false, .lst [.int 1]]) else none
theorem cst_n : cstOf (str "NOUGHT") = some (.tup [.bool false, .lst []]) := by
  unfold cstOf; rw [if_pos rfl]
theorem cst_u : cstOf (str "UNIT") = some (.tup [.bool false, .lst [.int 1]]) := by
  have h : ¬ str "UNIT" = str "NOUGHT" := by decide
  unfold cstOf; rw [if_neg h, if_pos rfl]
theorem finish (pl : Plain) {p : Program} {loose : List Str} {mean : ExcName → Option Value} {w : World} {s₁ : Shared} {mg mb : Str → Option Value} {K : Frag} (hr : recsOf p = recsOf pw) (T : Top p loose mean mg mb s₁.heap) (KX : K.In s₁.heap)
    {aN aL aU aM : Addr} {t : Tok} (hN : nsIn K mainGlobals (str "NOUGHT") = some (some (.ref aN))) (hN1 : K.lookup aN = some { cls := .type "tuple", data := .seq #[.bool false, .ref aL] }) (hN2 : K.lookup aL = some { cls := .type "list", data := .seq #[] })
    (hU : nsIn K mainGlobals (str "UNIT") = some (some (.ref aU))) (hU1 : K.lookup aU = some { cls := .type "tuple", data := .seq #[.bool false, .ref aM] }) (hU2 : K.lookup aM = some { cls := .type "list", data := .seq #[.int 1 t] })
    (b1 : nsIn K mainGlobals (str "len") = some none) (b2 : nsIn K mainGlobals (str "range") = some none) (b3 : nsIn K mainGlobals (str "enumerate") = some none) (b4 : nsIn K mainGlobals (str "min") = some none) (b5 : nsIn K mainGlobals (str "max") = some none)
    (b6 : nsIn K mainGlobals (str "abs") = some none) (b7 : nsIn K mainGlobals (str "int") = some none) (b8 : nsIn K mainGlobals (str "list") = some none)
    {fa a : Addr} {zs : List Int} (hmg : mg (str "law") = some (.ref fa)) (hw : Well w.params s₁.heap (.ref a) (ofPy (.list (zs.map .int)))) (hl : zs.length ≤ 63) {Q E : Value → Shared → Prop}
    (hQ : ∀ h' tk, (∀ a o, s₁.heap.get? a = some o → h'.get? a = some o) → Q (.bool true) { s₁ with heap := h', toks := tk }) : wpAny (model pw w) callerA (PySem.call (.ref fa) [.ref a]) Q E s₁ := by
  let G : Cx := { prog := pw, w := w, p := p, loose := loose, mean := mean, mg := mg, mb := mb, cst := cstOf, h0 := s₁.heap, top0 := T }
  have o : OkG G := ⟨fun r h => (by show r ∈ recsOf p; rw [hr]; exact h), mg_none_of KX T.g b1, mg_none_of KX T.g b2, mg_none_of KX T.g b3, mg_none_of KX T.g b4, mg_none_of KX T.g b5, mg_none_of KX T.g b6, mg_none_of KX T.g b7, mg_none_of KX T.g b8,
    cst_n, cst_u⟩
  have g : Gd G s₁.heap (fun a => s₁.heap.get? a) := by
    refine ⟨fun _ _ e => e, fun _ _ e => e, fun x d e => ?_⟩
    have e' : cstOf x = some d := e
    unfold cstOf at e'
    by_cases h1 : x = str "NOUGHT"
    · subst h1
      rw [if_pos rfl] at e'; cases e'
      exact ⟨_, mg_of KX T.g hN, .tup (vs := [.bool false, .ref aL]) (KX _ _ hN1) (.cons (.bool _) (.cons (.lst (vs := []) (KX _ _ hN2) .nil) .nil))⟩
    · rw [if_neg h1] at e'
      by_cases h2 : x = str "UNIT"
      · subst h2
        rw [if_pos rfl] at e'; cases e'
        exact ⟨_, mg_of KX T.g hU, .tup (vs := [.bool false, .ref aM]) (KX _ _ hU1) (.cons (.bool _) (.cons (.lst (vs := [.int 1 t]) (KX _ _ hU2) (.cons (.int _ _) .nil)) .nil))⟩
      · rw [if_neg h2] at e'; cases e'
  have hd : ∃ vs : List Value, s₁.heap.get? a = some { cls := .type "list", data := .seq vs.toArray } ∧ WellAll w.params s₁.heap vs (ofPys (zs.map PyData.int)) := by
    rw [show ofPy (.list (zs.map .int)) = .list (ofPys (zs.map PyData.int)) from rfl] at hw
    cases hw with | list e ws => exact ⟨_, e, ws⟩
  obtain ⟨vs, e, ws⟩ := hd
  refine lift ((fn_law (G := G) pl o hl).fn callerA s₁ (fun a => s₁.heap.get? a) fa [.ref a] _ ⟨rfl, by decide, by decide⟩ g hmg (.cons (.lst (vs := vs) e (ints_den ws)) .nil) fun v h' K' tk x d => ?_)
  cases d with | bool b => exact hQ h' tk x.keep
end Mine

end PartC14
section PartC15
open PySem PySem.Calls PyProof.Rows PySem.W
set_option Elab.async false
set_option maxRecDepth 100000
set_option maxHeartbeats 8000000
set_option autoImplicit false
set_option linter.unusedVariables false
namespace Mine

/-- what the walk knows of the top -/
noncomputable def qv : Program := view pw [1, 2, 3, 4, 5, 6, 7, 8, 9, 10, 11, 12, 14, 15, 16, 17, 18, 19, 20, 21, 23, 24, 25, 26, 27, 28, 29, 30, 32, 33, 34, 35, 36, 37, 38, 40, 41, 42, 43, 44, 45, 46]
noncomputable def ql : List Str := [Str.ofString "NOUGHT", Str.ofString "UNIT"]
noncomputable def hObjs : Frag := [(171, { cls := .type "list", data := .seq #[] }), (172, { cls := .type "tuple", data := .seq #[.bool false, .ref 171] }), (173, { cls := .type "list", data := .seq #[.int 1 420] }), (174, { cls := .type "tuple", data := .seq #[.bool false, .ref 173] })]
noncomputable def hNames : List Str := [str "NOUGHT", str "UNIT", str "len", str "range", str "enumerate", str "min", str "max", str "abs", str "int", str "list"]
noncomputable def hVals : List (Option (Option Value)) := [some (some (.ref 172)), some (some (.ref 174)), some none, some none, some none, some none, some none, some none, some none, some none]
noncomputable def seeMain (h : Heap) : List (Option (Option Value)) := match h.get? mainGlobals with
  | some o => hNames.map (nsIn [(mainGlobals, o)] mainGlobals)
  | none => []
noncomputable def hookSays (h : Heap) : Prop := hObjs.In h ∧ ∃ o, h.get? mainGlobals = some o ∧ hNames.map (nsIn [(mainGlobals, o)] mainGlobals) = hVals
noncomputable def hook : Hook where
  α := List (Option Obj) × List (Option (Option Value))
  obs := fun s => ((hObjs.map (·.1)).map s.heap.get?, seeMain s.heap)
  val := fun _ => (hObjs.map fun p => some p.2, hVals)
  says := fun _ h => hookSays h
  of := fun w s e => by
    have e1 := congrArg Prod.fst e
    have e2 : seeMain s.heap = hVals := congrArg Prod.snd e
    refine ⟨Frag.in_of rfl e1, ?_⟩
    unfold seeMain at e2
    cases q : s.heap.get? mainGlobals with
    | none => rw [q] at e2; cases e2
    | some o => rw [q] at e2; exact ⟨o, rfl, e2⟩
  keeps := fun w h h' x k => ⟨x.1.keeps k, let ⟨o, a, b⟩ := x.2; ⟨o, k _ _ a, b⟩⟩

theorem hook_mg {h : Heap} {mg : Str → Option Value} (x : hookSays h) (G : h.Ns mainGlobals mg) (i : Nat) (n : Str) (v : Option Value) (h1 : hNames[i]? = some n) (h2 : hVals[i]? = some (some v)) : mg n = v := by
  obtain ⟨_, o, a, b⟩ := x
  have X : Frag.In [(mainGlobals, o)] h := fun c o' e => by
    rw [List.lookup_cons] at e
    split at e
    · rename_i q; cases e; rw [beq_iff_eq.mp q]; exact a
    · cases e
  have e : nsIn [(mainGlobals, o)] mainGlobals n = some v := by
    rw [← b, List.getElem?_map, h1] at h2
    exact Option.some.inj h2
  cases v with
  | some v => exact mg_of X G e
  | none => exact mg_none_of X G e

/-- the parts of the text's i-th statement, a def -/
noncomputable def fPar (i : Nat) : Arguments := match (behindTheImports pw)[i]? with
  | some (.FunctionDef _ a _ _ _ _ _ _ _ _) => a
  | _ => ⟨[], [], none, [], [], none, []⟩
noncomputable def fBody (i : Nat) : FuncBody := match (behindTheImports pw)[i]? with
  | some (.FunctionDef _ _ b _ _ _ _ _ _ _) => .stmts b
  | _ => .stmts []
noncomputable def fScope (i : Nat) : Scope := match (behindTheImports pw)[i]? with
  | some (.FunctionDef _ _ _ _ _ _ s _ _ _) => s
  | _ => pw.main.scope
noncomputable def hEnv : Env := { scope := pw.main.scope, locals := mainNs, globals := mainNs, cells := [], code := .ref 13, frame := some 14 }
noncomputable def hCode : Code := .body (behindTheImports pw) hEnv
noncomputable def hAnn : Option Value := some (.ref 6)
noncomputable def hp_q : Pos := (@PySem.Pos.mk (nat_lit 0) (nat_lit 0) (nat_lit 0) (nat_lit 0))
noncomputable def ho_11 (P : Params) : Obj := (@PySem.Obj.mk (@PySem.Value.type "tuple") (@Option.none @Nat) (@PySem.Data.seq (Array.mk []) (nat_lit 0)) (Array.mk []))
noncomputable def ho_12 (P : Params) : Obj := (@PySem.Obj.mk @PySem.Value.none (@Option.none @Nat) (@PySem.Data.fields (Array.mk [])) (Array.mk []))
noncomputable def ho_13 (P : Params) : Obj := (@PySem.Obj.mk (@PySem.Value.type "code") (@Option.none @Nat) (@PySem.Data.fields (Array.mk [(@PySem.Value.str (@PySem.Str.ofString "<module>") (nat_lit 182)), (@PySem.Value.str (@PySem.Str.ofString "<module>") (nat_lit 183)), (@PySem.Value.str (@PySem.Str.ofString "/claim/cut.py") (nat_lit 184)), (@PySem.Value.int (Int.ofNat (nat_lit 1)) (nat_lit 0)), (@PySem.Value.int (Int.ofNat (nat_lit 0)) (nat_lit 0)), (@PySem.Value.int (Int.ofNat (nat_lit 0)) (nat_lit 0)), (@PySem.Value.int (Int.ofNat (nat_lit 0)) (nat_lit 0)), (@PySem.Value.int (Int.ofNat (nat_lit 0)) (nat_lit 0)), (@PySem.Value.ref (nat_lit 11)), (@PySem.Value.bool @Bool.false), (@PySem.Value.int (Int.ofNat (nat_lit 181)) (nat_lit 0)), (@PySem.Value.ref (nat_lit 12)), @PySem.Value.none, @PySem.Value.none, @PySem.Value.none, @PySem.Value.none, (@PySem.Value.int (Int.ofNat (nat_lit 185)) (nat_lit 0)), (@PySem.Value.int (Int.ofNat (nat_lit 1)) (nat_lit 0)), (@PySem.Value.str (@PySem.Str.ofString "/claim/cut.py") (nat_lit 186))])) (Array.mk []))
noncomputable def ho_14 (P : Params) : Obj := (@PySem.Obj.mk (@PySem.Value.type "frame") (@Option.none @Nat) @PySem.Data.plain (Array.mk [(@Option.some @PySem.Value (@PySem.Value.ref (nat_lit 13))), (@Option.some @PySem.Value (@PySem.Value.ref (nat_lit 3))), (@Option.some @PySem.Value (@PySem.Value.ref (nat_lit 3))), (@Option.none @PySem.Value), (@Option.some @PySem.Value (@PySem.Value.str (@PySem.Str.ofString "__main__") (nat_lit 164))), (@Option.none @PySem.Value), (@Option.some @PySem.Value (@PySem.Value.ref (nat_lit 0)))]))
noncomputable def hpA (P : Params) : Heap := ⟨⟨[boot_o_0 P, boot_o_1 P, boot_o_2 P, boot_o_3 P, boot_o_4 P, boot_o_5 P, boot_o_6 P, boot_o_7 P, boot_o_8 P, boot_o_9 P, boot_o_10 P, ho_11 P, ho_12 P, ho_13 P, ho_14 P]⟩, (@PySem.Life.mk [] [] [] (nat_lit 0) [] [] @Bool.false (Array.mk []) [] (nat_lit 0) @Bool.false @Bool.false @Bool.false (Int.ofNat (nat_lit 0)) [(Int.ofNat (nat_lit 2000)), (Int.ofNat (nat_lit 10)), (Int.ofNat (nat_lit 10))] @Bool.false (nat_lit 0) @Bool.true [] [] (nat_lit 0) @Bool.false)⟩
noncomputable def sA (w : World) (os : OsState) : Shared := ⟨hpA w.params, ⟨[]⟩, (@PySem.Drawn.mk (nat_lit 0) (nat_lit 0) (nat_lit 0) (nat_lit 0)), 187, os⟩
noncomputable def tr_0 (P : Params) : BT := (.node (boot_o_0 P) (.node (boot_o_1 P) (.node (boot_o_3 P) (.node (boot_o_7 P) .nil .nil) (.node (ho_11 P) .nil .nil)) (.node (boot_o_5 P) (.node (boot_o_9 P) .nil .nil) (.node (ho_13 P) .nil .nil))) (.node (boot_o_2 P) (.node (boot_o_4 P) (.node (boot_o_8 P) .nil .nil) (.node (ho_12 P) .nil .nil)) (.node (boot_o_6 P) (.node (boot_o_10 P) .nil .nil) (.node (ho_14 P) .nil .nil))))
noncomputable def sT_0 (w : World) (os : OsState) : SharedT := ⟨tr_0 w.params, 15, (@PySem.Life.mk [] [] [] (nat_lit 0) [] [] @Bool.false (Array.mk []) [] (nat_lit 0) @Bool.false @Bool.false @Bool.false (Int.ofNat (nat_lit 0)) [(Int.ofNat (nat_lit 2000)), (Int.ofNat (nat_lit 10)), (Int.ofNat (nat_lit 10))] @Bool.false (nat_lit 0) @Bool.true [] [] (nat_lit 0) @Bool.false), ⟨[]⟩, (@PySem.Drawn.mk (nat_lit 0) (nat_lit 0) (nat_lit 0) (nat_lit 0)), 187, os⟩
noncomputable def hp_0 : Pos := (@PySem.Pos.mk (nat_lit 0) (nat_lit 0) (nat_lit 0) (nat_lit 0))
noncomputable def ho_2_1 (P : Params) : Obj := (@PySem.Obj.mk @PySem.Value.none (@Option.none @Nat) (@PySem.Data.dict (Array.mk [(@PySem.DictEntry.mk (@PySem.PyData.keyHash P (@PySem.Str.ofString "type.__subclasses__.Exception.0")) (@PySem.Value.str (@PySem.Str.ofString "type.__subclasses__.Exception.0") (nat_lit 205)) (@PySem.Value.int (Int.ofNat (nat_lit 24)) (nat_lit 0))), (@PySem.DictEntry.mk (@PySem.PyData.keyHash P (@PySem.Str.ofString "type.__subclasses__.Exception.n")) (@PySem.Value.str (@PySem.Str.ofString "type.__subclasses__.Exception.n") (nat_lit 206)) (@PySem.Value.int (Int.ofNat (nat_lit 1)) (nat_lit 0)))]) (nat_lit 2)) (Array.mk []))
noncomputable def ho_3_1 (P : Params) : Obj := (@PySem.Obj.mk (@PySem.Value.type "dict") (@Option.none @Nat) (@PySem.Data.dict (Array.mk [(@PySem.DictEntry.mk (@PySem.PyData.keyHash P (@PySem.Str.ofString "__name__")) (@PySem.Value.str (@PySem.Str.ofString "__name__") (nat_lit 165)) (@PySem.Value.str (@PySem.Str.ofString "gmp.limbs") (nat_lit 187))), (@PySem.DictEntry.mk (@PySem.PyData.keyHash P (@PySem.Str.ofString "__doc__")) (@PySem.Value.str (@PySem.Str.ofString "__doc__") (nat_lit 166)) @PySem.Value.none), (@PySem.DictEntry.mk (@PySem.PyData.keyHash P (@PySem.Str.ofString "__package__")) (@PySem.Value.str (@PySem.Str.ofString "__package__") (nat_lit 167)) @PySem.Value.none), (@PySem.DictEntry.mk (@PySem.PyData.keyHash P (@PySem.Str.ofString "__loader__")) (@PySem.Value.str (@PySem.Str.ofString "__loader__") (nat_lit 168)) (@PySem.Value.builtin "__main__.__loader__#opaque")), (@PySem.DictEntry.mk (@PySem.PyData.keyHash P (@PySem.Str.ofString "__spec__")) (@PySem.Value.str (@PySem.Str.ofString "__spec__") (nat_lit 169)) @PySem.Value.none), (@PySem.DictEntry.mk (@PySem.PyData.keyHash P (@PySem.Str.ofString "__annotations__")) (@PySem.Value.str (@PySem.Str.ofString "__annotations__") (nat_lit 170)) (@PySem.Value.ref (nat_lit 6))), (@PySem.DictEntry.mk (@PySem.PyData.keyHash P (@PySem.Str.ofString "__builtins__")) (@PySem.Value.str (@PySem.Str.ofString "__builtins__") (nat_lit 171)) (@PySem.Value.ref (nat_lit 4))), (@PySem.DictEntry.mk (@PySem.PyData.keyHash P (@PySem.Str.ofString "__file__")) (@PySem.Value.str (@PySem.Str.ofString "__file__") (nat_lit 173)) (@PySem.Value.str (@PySem.Str.ofString "/claim/cut.py") (nat_lit 172))), (@PySem.DictEntry.mk (@PySem.PyData.keyHash P (@PySem.Str.ofString "__cached__")) (@PySem.Value.str (@PySem.Str.ofString "__cached__") (nat_lit 174)) @PySem.Value.none), (@PySem.DictEntry.mk (@PySem.PyData.keyHash P (@PySem.Str.ofString "GmpError")) (@PySem.Value.str (@PySem.Str.ofString "GmpError") (nat_lit 208)) (@PySem.Value.ref (nat_lit 24)))]) (nat_lit 10)) (Array.mk []))
noncomputable def ho_12_1 (P : Params) : Obj := (@PySem.Obj.mk @PySem.Value.none (@Option.none @Nat) (@PySem.Data.fields (Array.mk [(@PySem.Value.int (Int.ofNat (nat_lit 2)) (nat_lit 0)), (@PySem.Value.int (Int.ofNat (nat_lit 0)) (nat_lit 0)), (@PySem.Value.ref (nat_lit 20))])) (Array.mk []))
noncomputable def ho_15 (P : Params) : Obj := (@PySem.Obj.mk (@PySem.Value.type "tuple") (@Option.none @Nat) (@PySem.Data.seq (Array.mk [(@PySem.Value.type "Exception")]) (nat_lit 0)) (Array.mk []))
noncomputable def ho_16 (P : Params) : Obj := (@PySem.Obj.mk (@PySem.Value.type "builtin_function_or_method") (@Option.none @Nat) (@PySem.Data.fields (Array.mk [(@PySem.Value.builtin "type.__prepare__"), (@PySem.Value.type "type")])) (Array.mk []))
noncomputable def ho_17 (P : Params) : Obj := (@PySem.Obj.mk (@PySem.Value.type "dict") (@Option.none @Nat) (@PySem.Data.dict (Array.mk [(@PySem.DictEntry.mk (@PySem.PyData.keyHash P (@PySem.Str.ofString "__module__")) (@PySem.Value.str (@PySem.Str.ofString "__module__") (nat_lit 196)) (@PySem.Value.str (@PySem.Str.ofString "gmp.limbs") (nat_lit 187))), (@PySem.DictEntry.mk (@PySem.PyData.keyHash P (@PySem.Str.ofString "__qualname__")) (@PySem.Value.str (@PySem.Str.ofString "__qualname__") (nat_lit 198)) (@PySem.Value.str (@PySem.Str.ofString "GmpError") (nat_lit 197))), (@PySem.DictEntry.mk (@PySem.PyData.keyHash P (@PySem.Str.ofString "__firstlineno__")) (@PySem.Value.str (@PySem.Str.ofString "__firstlineno__") (nat_lit 200)) (@PySem.Value.int (Int.ofNat (nat_lit 2)) (nat_lit 199))), (@PySem.DictEntry.mk (@PySem.PyData.keyHash P (@PySem.Str.ofString "__static_attributes__")) (@PySem.Value.str (@PySem.Str.ofString "__static_attributes__") (nat_lit 201)) (@PySem.Value.ref (nat_lit 22)))]) (nat_lit 4)) (Array.mk []))
noncomputable def ho_18 (P : Params) : Obj := (@PySem.Obj.mk (@PySem.Value.type "tuple") (@Option.none @Nat) (@PySem.Data.seq (Array.mk []) (nat_lit 0)) (Array.mk []))
noncomputable def ho_19 (P : Params) : Obj := (@PySem.Obj.mk @PySem.Value.none (@Option.none @Nat) (@PySem.Data.fields (Array.mk [])) (Array.mk []))
noncomputable def ho_20 (P : Params) : Obj := (@PySem.Obj.mk (@PySem.Value.type "code") (@Option.none @Nat) (@PySem.Data.fields (Array.mk [(@PySem.Value.str (@PySem.Str.ofString "GmpError") (nat_lit 191)), (@PySem.Value.str (@PySem.Str.ofString "GmpError") (nat_lit 192)), (@PySem.Value.str (@PySem.Str.ofString "/claim/cut.py") (nat_lit 193)), (@PySem.Value.int (Int.ofNat (nat_lit 2)) (nat_lit 0)), (@PySem.Value.int (Int.ofNat (nat_lit 0)) (nat_lit 0)), (@PySem.Value.int (Int.ofNat (nat_lit 0)) (nat_lit 0)), (@PySem.Value.int (Int.ofNat (nat_lit 0)) (nat_lit 0)), (@PySem.Value.int (Int.ofNat (nat_lit 0)) (nat_lit 0)), (@PySem.Value.ref (nat_lit 18)), (@PySem.Value.bool @Bool.false), (@PySem.Value.int (Int.ofNat (nat_lit 181)) (nat_lit 0)), (@PySem.Value.ref (nat_lit 19)), @PySem.Value.none, @PySem.Value.none, @PySem.Value.none, @PySem.Value.none, (@PySem.Value.int (Int.ofNat (nat_lit 194)) (nat_lit 0)), (@PySem.Value.int (Int.ofNat (nat_lit 2)) (nat_lit 0)), (@PySem.Value.str (@PySem.Str.ofString "/claim/cut.py") (nat_lit 195))])) (Array.mk []))
noncomputable def ho_21 (P : Params) : Obj := (@PySem.Obj.mk (@PySem.Value.type "frame") (@Option.none @Nat) @PySem.Data.plain (Array.mk [(@Option.some @PySem.Value (@PySem.Value.ref (nat_lit 20))), (@Option.some @PySem.Value (@PySem.Value.ref (nat_lit 3))), (@Option.some @PySem.Value (@PySem.Value.ref (nat_lit 17))), (@Option.none @PySem.Value), (@Option.some @PySem.Value (@PySem.Value.str (@PySem.Str.ofString "gmp.limbs") (nat_lit 187))), (@Option.none @PySem.Value), (@Option.some @PySem.Value (@PySem.Value.ref (nat_lit 0)))]))
noncomputable def ho_22 (P : Params) : Obj := (@PySem.Obj.mk (@PySem.Value.type "tuple") (@Option.none @Nat) (@PySem.Data.seq (Array.mk []) (nat_lit 0)) (Array.mk []))
noncomputable def ho_23 (P : Params) : Obj := (@PySem.Obj.mk (@PySem.Value.type "dict") (@Option.none @Nat) (@PySem.Data.dict (Array.mk [(@PySem.DictEntry.mk (@PySem.PyData.keyHash P (@PySem.Str.ofString "__module__")) (@PySem.Value.str (@PySem.Str.ofString "__module__") (nat_lit 196)) (@PySem.Value.str (@PySem.Str.ofString "gmp.limbs") (nat_lit 187))), (@PySem.DictEntry.mk (@PySem.PyData.keyHash P (@PySem.Str.ofString "__firstlineno__")) (@PySem.Value.str (@PySem.Str.ofString "__firstlineno__") (nat_lit 200)) (@PySem.Value.int (Int.ofNat (nat_lit 2)) (nat_lit 199))), (@PySem.DictEntry.mk (@PySem.PyData.keyHash P (@PySem.Str.ofString "__static_attributes__")) (@PySem.Value.str (@PySem.Str.ofString "__static_attributes__") (nat_lit 201)) (@PySem.Value.ref (nat_lit 22))), (@PySem.DictEntry.mk (@PySem.PyData.keyHash P (@PySem.Str.ofString "__weakref__")) (@PySem.Value.str (@PySem.Str.ofString "__weakref__") (nat_lit 203)) (@PySem.Value.ref (nat_lit 25))), (@PySem.DictEntry.mk (@PySem.PyData.keyHash P (@PySem.Str.ofString "__doc__")) (@PySem.Value.str (@PySem.Str.ofString "__doc__") (nat_lit 204)) @PySem.Value.none)]) (nat_lit 3)) (Array.mk []))
noncomputable def ho_24 (P : Params) : Obj := (@PySem.Obj.mk (@PySem.Value.type "type") (@Option.none @Nat) (@PySem.Data.cls (@PySem.ClassData.mk (@PySem.Str.ofString "GmpError") [(@PySem.Value.type "Exception")] [(@PySem.Value.ref (nat_lit 24)), (@PySem.Value.type "Exception"), (@PySem.Value.type "BaseException"), (@PySem.Value.type "object")] (nat_lit 23) (@PySem.Str.ofString "GmpError") @Bool.true [] [] @Bool.false (@Option.none @Bool) @Bool.false)) (Array.mk [(@Option.some @PySem.Value (@PySem.Value.ref (nat_lit 15))), (@Option.none @PySem.Value), (@Option.some @PySem.Value (@PySem.Value.str (@PySem.Str.ofString "GmpError") (nat_lit 189))), (@Option.some @PySem.Value (@PySem.Value.str (@PySem.Str.ofString "GmpError") (nat_lit 197))), (@Option.some @PySem.Value (@PySem.Value.builtin "Exception.__new__")), (@Option.some @PySem.Value (@PySem.Value.bool @Bool.true))]))
noncomputable def ho_25 (P : Params) : Obj := (@PySem.Obj.mk (@PySem.Value.type "getset_descriptor") (@Option.none @Nat) (@PySem.Data.fields (Array.mk [(@PySem.Value.str (@PySem.Str.ofString "__weakref__") (nat_lit 202)), (@PySem.Value.ref (nat_lit 24)), (@PySem.Value.builtin "ExceptionGroup.__weakref__"), @PySem.Value.none])) (Array.mk []))
noncomputable def ho_26 (P : Params) : Obj := (@PySem.Obj.mk (@PySem.Value.type "super") (@Option.none @Nat) (@PySem.Data.fields (Array.mk [(@PySem.Value.ref (nat_lit 24)), (@PySem.Value.ref (nat_lit 24)), (@PySem.Value.ref (nat_lit 24))])) (Array.mk []))
noncomputable def ho_27 (P : Params) : Obj := (@PySem.Obj.mk (@PySem.Value.type "builtin_function_or_method") (@Option.none @Nat) (@PySem.Data.fields (Array.mk [(@PySem.Value.builtin "object.__init_subclass__"), (@PySem.Value.ref (nat_lit 24))])) (Array.mk []))
noncomputable def tr_1 (P : Params) : BT := (.node (boot_o_0 P) (.node (boot_o_1 P) (.node (ho_3_1 P) (.node (boot_o_7 P) (.node (ho_15 P) .nil .nil) (.node (ho_23 P) .nil .nil)) (.node (ho_11 P) (.node (ho_19 P) .nil .nil) (.node (ho_27 P) .nil .nil))) (.node (boot_o_5 P) (.node (boot_o_9 P) (.node (ho_17 P) .nil .nil) (.node (ho_25 P) .nil .nil)) (.node (ho_13 P) (.node (ho_21 P) .nil .nil) .nil))) (.node (ho_2_1 P) (.node (boot_o_4 P) (.node (boot_o_8 P) (.node (ho_16 P) .nil .nil) (.node (ho_24 P) .nil .nil)) (.node (ho_12_1 P) (.node (ho_20 P) .nil .nil) .nil)) (.node (boot_o_6 P) (.node (boot_o_10 P) (.node (ho_18 P) .nil .nil) (.node (ho_26 P) .nil .nil)) (.node (ho_14 P) (.node (ho_22 P) .nil .nil) .nil))))
noncomputable def sT_1 (w : World) (os : OsState) : SharedT := ⟨tr_1 w.params, 28, (@PySem.Life.mk [] [] [] (nat_lit 0) [] [] @Bool.false (Array.mk []) [] (nat_lit 0) @Bool.false @Bool.false @Bool.false (Int.ofNat (nat_lit 0)) [(Int.ofNat (nat_lit 2000)), (Int.ofNat (nat_lit 10)), (Int.ofNat (nat_lit 10))] @Bool.false (nat_lit 0) @Bool.true [] [] (nat_lit 0) @Bool.false), ⟨[]⟩, (@PySem.Drawn.mk (nat_lit 0) (nat_lit 0) (nat_lit 0) (nat_lit 0)), 209, os⟩
noncomputable def hp_1 : Pos := (@PySem.Pos.mk (nat_lit 2) (nat_lit 0) (nat_lit 3) (nat_lit 8))
noncomputable def st_1 : List Stmt := ((behindTheImports pw).drop 0).take 2
theorem seg_1 : ∀ w : World, (fun os => segRunT treeTable pw w 11 hAnn 1 206 (sT_0 w os) (piecesOf st_1 hEnv hCode hp_0 [topFrame hp_q])) = fun os => some (Flow.next, sT_1 w os, hCode, hp_1) := by
  rewrite [PySem.W.Fast.te10110043849684766642, PySem.W.Fast.te14364793385576792824]
  intro w
  kernel_rfl
noncomputable def ho_3_2 (P : Params) : Obj := (@PySem.Obj.mk (@PySem.Value.type "dict") (@Option.none @Nat) (@PySem.Data.dict (Array.mk [(@PySem.DictEntry.mk (@PySem.PyData.keyHash P (@PySem.Str.ofString "__name__")) (@PySem.Value.str (@PySem.Str.ofString "__name__") (nat_lit 165)) (@PySem.Value.str (@PySem.Str.ofString "gmp.limbs") (nat_lit 187))), (@PySem.DictEntry.mk (@PySem.PyData.keyHash P (@PySem.Str.ofString "__doc__")) (@PySem.Value.str (@PySem.Str.ofString "__doc__") (nat_lit 166)) @PySem.Value.none), (@PySem.DictEntry.mk (@PySem.PyData.keyHash P (@PySem.Str.ofString "__package__")) (@PySem.Value.str (@PySem.Str.ofString "__package__") (nat_lit 167)) @PySem.Value.none), (@PySem.DictEntry.mk (@PySem.PyData.keyHash P (@PySem.Str.ofString "__loader__")) (@PySem.Value.str (@PySem.Str.ofString "__loader__") (nat_lit 168)) (@PySem.Value.builtin "__main__.__loader__#opaque")), (@PySem.DictEntry.mk (@PySem.PyData.keyHash P (@PySem.Str.ofString "__spec__")) (@PySem.Value.str (@PySem.Str.ofString "__spec__") (nat_lit 169)) @PySem.Value.none), (@PySem.DictEntry.mk (@PySem.PyData.keyHash P (@PySem.Str.ofString "__annotations__")) (@PySem.Value.str (@PySem.Str.ofString "__annotations__") (nat_lit 170)) (@PySem.Value.ref (nat_lit 6))), (@PySem.DictEntry.mk (@PySem.PyData.keyHash P (@PySem.Str.ofString "__builtins__")) (@PySem.Value.str (@PySem.Str.ofString "__builtins__") (nat_lit 171)) (@PySem.Value.ref (nat_lit 4))), (@PySem.DictEntry.mk (@PySem.PyData.keyHash P (@PySem.Str.ofString "__file__")) (@PySem.Value.str (@PySem.Str.ofString "__file__") (nat_lit 173)) (@PySem.Value.str (@PySem.Str.ofString "/claim/cut.py") (nat_lit 172))), (@PySem.DictEntry.mk (@PySem.PyData.keyHash P (@PySem.Str.ofString "__cached__")) (@PySem.Value.str (@PySem.Str.ofString "__cached__") (nat_lit 174)) @PySem.Value.none), (@PySem.DictEntry.mk (@PySem.PyData.keyHash P (@PySem.Str.ofString "GmpError")) (@PySem.Value.str (@PySem.Str.ofString "GmpError") (nat_lit 208)) (@PySem.Value.ref (nat_lit 24))), (@PySem.DictEntry.mk (@PySem.PyData.keyHash P (@PySem.Str.ofString "DivisionByZero")) (@PySem.Value.str (@PySem.Str.ofString "DivisionByZero") (nat_lit 224)) (@PySem.Value.ref (nat_lit 37)))]) (nat_lit 11)) (Array.mk []))
noncomputable def ho_12_2 (P : Params) : Obj := (@PySem.Obj.mk @PySem.Value.none (@Option.none @Nat) (@PySem.Data.fields (Array.mk [(@PySem.Value.int (Int.ofNat (nat_lit 2)) (nat_lit 0)), (@PySem.Value.int (Int.ofNat (nat_lit 0)) (nat_lit 0)), (@PySem.Value.ref (nat_lit 20)), (@PySem.Value.int (Int.ofNat (nat_lit 4)) (nat_lit 0)), (@PySem.Value.int (Int.ofNat (nat_lit 0)) (nat_lit 0)), (@PySem.Value.ref (nat_lit 33))])) (Array.mk []))
noncomputable def ho_24_1 (P : Params) : Obj := (@PySem.Obj.mk (@PySem.Value.type "type") (@Option.none @Nat) (@PySem.Data.cls (@PySem.ClassData.mk (@PySem.Str.ofString "GmpError") [(@PySem.Value.type "Exception")] [(@PySem.Value.ref (nat_lit 24)), (@PySem.Value.type "Exception"), (@PySem.Value.type "BaseException"), (@PySem.Value.type "object")] (nat_lit 23) (@PySem.Str.ofString "GmpError") @Bool.true [] [(@PySem.Value.ref (nat_lit 37))] @Bool.false (@Option.none @Bool) @Bool.false)) (Array.mk [(@Option.some @PySem.Value (@PySem.Value.ref (nat_lit 15))), (@Option.none @PySem.Value), (@Option.some @PySem.Value (@PySem.Value.str (@PySem.Str.ofString "GmpError") (nat_lit 189))), (@Option.some @PySem.Value (@PySem.Value.str (@PySem.Str.ofString "GmpError") (nat_lit 197))), (@Option.some @PySem.Value (@PySem.Value.builtin "Exception.__new__")), (@Option.some @PySem.Value (@PySem.Value.bool @Bool.true))]))
noncomputable def ho_28 (P : Params) : Obj := (@PySem.Obj.mk (@PySem.Value.type "tuple") (@Option.none @Nat) (@PySem.Data.seq (Array.mk [(@PySem.Value.ref (nat_lit 24))]) (nat_lit 0)) (Array.mk []))
noncomputable def ho_29 (P : Params) : Obj := (@PySem.Obj.mk (@PySem.Value.type "builtin_function_or_method") (@Option.none @Nat) (@PySem.Data.fields (Array.mk [(@PySem.Value.builtin "type.__prepare__"), (@PySem.Value.type "type")])) (Array.mk []))
noncomputable def ho_30 (P : Params) : Obj := (@PySem.Obj.mk (@PySem.Value.type "dict") (@Option.none @Nat) (@PySem.Data.dict (Array.mk [(@PySem.DictEntry.mk (@PySem.PyData.keyHash P (@PySem.Str.ofString "__module__")) (@PySem.Value.str (@PySem.Str.ofString "__module__") (nat_lit 216)) (@PySem.Value.str (@PySem.Str.ofString "gmp.limbs") (nat_lit 187))), (@PySem.DictEntry.mk (@PySem.PyData.keyHash P (@PySem.Str.ofString "__qualname__")) (@PySem.Value.str (@PySem.Str.ofString "__qualname__") (nat_lit 218)) (@PySem.Value.str (@PySem.Str.ofString "DivisionByZero") (nat_lit 217))), (@PySem.DictEntry.mk (@PySem.PyData.keyHash P (@PySem.Str.ofString "__firstlineno__")) (@PySem.Value.str (@PySem.Str.ofString "__firstlineno__") (nat_lit 220)) (@PySem.Value.int (Int.ofNat (nat_lit 4)) (nat_lit 219))), (@PySem.DictEntry.mk (@PySem.PyData.keyHash P (@PySem.Str.ofString "__static_attributes__")) (@PySem.Value.str (@PySem.Str.ofString "__static_attributes__") (nat_lit 221)) (@PySem.Value.ref (nat_lit 35)))]) (nat_lit 4)) (Array.mk []))
noncomputable def ho_31 (P : Params) : Obj := (@PySem.Obj.mk (@PySem.Value.type "tuple") (@Option.none @Nat) (@PySem.Data.seq (Array.mk []) (nat_lit 0)) (Array.mk []))
noncomputable def ho_32 (P : Params) : Obj := (@PySem.Obj.mk @PySem.Value.none (@Option.none @Nat) (@PySem.Data.fields (Array.mk [])) (Array.mk []))
noncomputable def ho_33 (P : Params) : Obj := (@PySem.Obj.mk (@PySem.Value.type "code") (@Option.none @Nat) (@PySem.Data.fields (Array.mk [(@PySem.Value.str (@PySem.Str.ofString "DivisionByZero") (nat_lit 211)), (@PySem.Value.str (@PySem.Str.ofString "DivisionByZero") (nat_lit 212)), (@PySem.Value.str (@PySem.Str.ofString "/claim/cut.py") (nat_lit 213)), (@PySem.Value.int (Int.ofNat (nat_lit 4)) (nat_lit 0)), (@PySem.Value.int (Int.ofNat (nat_lit 0)) (nat_lit 0)), (@PySem.Value.int (Int.ofNat (nat_lit 0)) (nat_lit 0)), (@PySem.Value.int (Int.ofNat (nat_lit 0)) (nat_lit 0)), (@PySem.Value.int (Int.ofNat (nat_lit 0)) (nat_lit 0)), (@PySem.Value.ref (nat_lit 31)), (@PySem.Value.bool @Bool.false), (@PySem.Value.int (Int.ofNat (nat_lit 181)) (nat_lit 0)), (@PySem.Value.ref (nat_lit 32)), @PySem.Value.none, @PySem.Value.none, @PySem.Value.none, @PySem.Value.none, (@PySem.Value.int (Int.ofNat (nat_lit 214)) (nat_lit 0)), (@PySem.Value.int (Int.ofNat (nat_lit 4)) (nat_lit 0)), (@PySem.Value.str (@PySem.Str.ofString "/claim/cut.py") (nat_lit 215))])) (Array.mk []))
noncomputable def ho_34 (P : Params) : Obj := (@PySem.Obj.mk (@PySem.Value.type "frame") (@Option.none @Nat) @PySem.Data.plain (Array.mk [(@Option.some @PySem.Value (@PySem.Value.ref (nat_lit 33))), (@Option.some @PySem.Value (@PySem.Value.ref (nat_lit 3))), (@Option.some @PySem.Value (@PySem.Value.ref (nat_lit 30))), (@Option.none @PySem.Value), (@Option.some @PySem.Value (@PySem.Value.str (@PySem.Str.ofString "gmp.limbs") (nat_lit 187))), (@Option.none @PySem.Value), (@Option.some @PySem.Value (@PySem.Value.ref (nat_lit 0)))]))
noncomputable def ho_35 (P : Params) : Obj := (@PySem.Obj.mk (@PySem.Value.type "tuple") (@Option.none @Nat) (@PySem.Data.seq (Array.mk []) (nat_lit 0)) (Array.mk []))
noncomputable def ho_36 (P : Params) : Obj := (@PySem.Obj.mk (@PySem.Value.type "dict") (@Option.none @Nat) (@PySem.Data.dict (Array.mk [(@PySem.DictEntry.mk (@PySem.PyData.keyHash P (@PySem.Str.ofString "__module__")) (@PySem.Value.str (@PySem.Str.ofString "__module__") (nat_lit 216)) (@PySem.Value.str (@PySem.Str.ofString "gmp.limbs") (nat_lit 187))), (@PySem.DictEntry.mk (@PySem.PyData.keyHash P (@PySem.Str.ofString "__firstlineno__")) (@PySem.Value.str (@PySem.Str.ofString "__firstlineno__") (nat_lit 220)) (@PySem.Value.int (Int.ofNat (nat_lit 4)) (nat_lit 219))), (@PySem.DictEntry.mk (@PySem.PyData.keyHash P (@PySem.Str.ofString "__static_attributes__")) (@PySem.Value.str (@PySem.Str.ofString "__static_attributes__") (nat_lit 221)) (@PySem.Value.ref (nat_lit 35))), (@PySem.DictEntry.mk (@PySem.PyData.keyHash P (@PySem.Str.ofString "__doc__")) (@PySem.Value.str (@PySem.Str.ofString "__doc__") (nat_lit 222)) @PySem.Value.none)]) (nat_lit 2)) (Array.mk []))
noncomputable def ho_37 (P : Params) : Obj := (@PySem.Obj.mk (@PySem.Value.type "type") (@Option.none @Nat) (@PySem.Data.cls (@PySem.ClassData.mk (@PySem.Str.ofString "DivisionByZero") [(@PySem.Value.ref (nat_lit 24))] [(@PySem.Value.ref (nat_lit 37)), (@PySem.Value.ref (nat_lit 24)), (@PySem.Value.type "Exception"), (@PySem.Value.type "BaseException"), (@PySem.Value.type "object")] (nat_lit 36) (@PySem.Str.ofString "DivisionByZero") @Bool.true [] [] @Bool.false (@Option.none @Bool) @Bool.false)) (Array.mk [(@Option.some @PySem.Value (@PySem.Value.ref (nat_lit 28))), (@Option.none @PySem.Value), (@Option.some @PySem.Value (@PySem.Value.str (@PySem.Str.ofString "DivisionByZero") (nat_lit 209))), (@Option.some @PySem.Value (@PySem.Value.str (@PySem.Str.ofString "DivisionByZero") (nat_lit 217))), (@Option.some @PySem.Value (@PySem.Value.builtin "Exception.__new__")), (@Option.some @PySem.Value (@PySem.Value.bool @Bool.true))]))
noncomputable def ho_38 (P : Params) : Obj := (@PySem.Obj.mk (@PySem.Value.type "super") (@Option.none @Nat) (@PySem.Data.fields (Array.mk [(@PySem.Value.ref (nat_lit 37)), (@PySem.Value.ref (nat_lit 37)), (@PySem.Value.ref (nat_lit 37))])) (Array.mk []))
noncomputable def ho_39 (P : Params) : Obj := (@PySem.Obj.mk (@PySem.Value.type "builtin_function_or_method") (@Option.none @Nat) (@PySem.Data.fields (Array.mk [(@PySem.Value.builtin "object.__init_subclass__"), (@PySem.Value.ref (nat_lit 37))])) (Array.mk []))
noncomputable def tr_2 (P : Params) : BT := (.node (boot_o_0 P) (.node (boot_o_1 P) (.node (ho_3_2 P) (.node (boot_o_7 P) (.node (ho_15 P) (.node (ho_31 P) .nil .nil) .nil) (.node (ho_23 P) (.node (ho_39 P) .nil .nil) .nil)) (.node (ho_11 P) (.node (ho_19 P) (.node (ho_35 P) .nil .nil) .nil) (.node (ho_27 P) .nil .nil))) (.node (boot_o_5 P) (.node (boot_o_9 P) (.node (ho_17 P) (.node (ho_33 P) .nil .nil) .nil) (.node (ho_25 P) .nil .nil)) (.node (ho_13 P) (.node (ho_21 P) (.node (ho_37 P) .nil .nil) .nil) (.node (ho_29 P) .nil .nil)))) (.node (ho_2_1 P) (.node (boot_o_4 P) (.node (boot_o_8 P) (.node (ho_16 P) (.node (ho_32 P) .nil .nil) .nil) (.node (ho_24_1 P) .nil .nil)) (.node (ho_12_2 P) (.node (ho_20 P) (.node (ho_36 P) .nil .nil) .nil) (.node (ho_28 P) .nil .nil))) (.node (boot_o_6 P) (.node (boot_o_10 P) (.node (ho_18 P) (.node (ho_34 P) .nil .nil) .nil) (.node (ho_26 P) .nil .nil)) (.node (ho_14 P) (.node (ho_22 P) (.node (ho_38 P) .nil .nil) .nil) (.node (ho_30 P) .nil .nil)))))
noncomputable def sT_2 (w : World) (os : OsState) : SharedT := ⟨tr_2 w.params, 40, (@PySem.Life.mk [] [] [] (nat_lit 0) [] [] @Bool.false (Array.mk []) [] (nat_lit 0) @Bool.false @Bool.false @Bool.false (Int.ofNat (nat_lit 0)) [(Int.ofNat (nat_lit 2000)), (Int.ofNat (nat_lit 10)), (Int.ofNat (nat_lit 10))] @Bool.false (nat_lit 0) @Bool.true [] [] (nat_lit 0) @Bool.false), ⟨[]⟩, (@PySem.Drawn.mk (nat_lit 0) (nat_lit 0) (nat_lit 0) (nat_lit 0)), 225, os⟩
noncomputable def hp_2 : Pos := (@PySem.Pos.mk (nat_lit 4) (nat_lit 0) (nat_lit 5) (nat_lit 8))
noncomputable def st_2 : List Stmt := ((behindTheImports pw).drop 2).take 1
theorem seg_2 : ∀ w : World, (fun os => segRunT treeTable pw w 11 hAnn 1 214 (sT_1 w os) (piecesOf st_2 hEnv hCode hp_1 [topFrame hp_q])) = fun os => some (Flow.next, sT_2 w os, hCode, hp_2) := by
  rewrite [PySem.W.Fast.te10110043849684766642, PySem.W.Fast.te14364793385576792824]
  intro w
  kernel_rfl
noncomputable def ho_3_3 (P : Params) : Obj := (@PySem.Obj.mk (@PySem.Value.type "dict") (@Option.none @Nat) (@PySem.Data.dict (Array.mk [(@PySem.DictEntry.mk (@PySem.PyData.keyHash P (@PySem.Str.ofString "__name__")) (@PySem.Value.str (@PySem.Str.ofString "__name__") (nat_lit 165)) (@PySem.Value.str (@PySem.Str.ofString "gmp.limbs") (nat_lit 187))), (@PySem.DictEntry.mk (@PySem.PyData.keyHash P (@PySem.Str.ofString "__doc__")) (@PySem.Value.str (@PySem.Str.ofString "__doc__") (nat_lit 166)) @PySem.Value.none), (@PySem.DictEntry.mk (@PySem.PyData.keyHash P (@PySem.Str.ofString "__package__")) (@PySem.Value.str (@PySem.Str.ofString "__package__") (nat_lit 167)) @PySem.Value.none), (@PySem.DictEntry.mk (@PySem.PyData.keyHash P (@PySem.Str.ofString "__loader__")) (@PySem.Value.str (@PySem.Str.ofString "__loader__") (nat_lit 168)) (@PySem.Value.builtin "__main__.__loader__#opaque")), (@PySem.DictEntry.mk (@PySem.PyData.keyHash P (@PySem.Str.ofString "__spec__")) (@PySem.Value.str (@PySem.Str.ofString "__spec__") (nat_lit 169)) @PySem.Value.none), (@PySem.DictEntry.mk (@PySem.PyData.keyHash P (@PySem.Str.ofString "__annotations__")) (@PySem.Value.str (@PySem.Str.ofString "__annotations__") (nat_lit 170)) (@PySem.Value.ref (nat_lit 6))), (@PySem.DictEntry.mk (@PySem.PyData.keyHash P (@PySem.Str.ofString "__builtins__")) (@PySem.Value.str (@PySem.Str.ofString "__builtins__") (nat_lit 171)) (@PySem.Value.ref (nat_lit 4))), (@PySem.DictEntry.mk (@PySem.PyData.keyHash P (@PySem.Str.ofString "__file__")) (@PySem.Value.str (@PySem.Str.ofString "__file__") (nat_lit 173)) (@PySem.Value.str (@PySem.Str.ofString "/claim/cut.py") (nat_lit 172))), (@PySem.DictEntry.mk (@PySem.PyData.keyHash P (@PySem.Str.ofString "__cached__")) (@PySem.Value.str (@PySem.Str.ofString "__cached__") (nat_lit 174)) @PySem.Value.none), (@PySem.DictEntry.mk (@PySem.PyData.keyHash P (@PySem.Str.ofString "GmpError")) (@PySem.Value.str (@PySem.Str.ofString "GmpError") (nat_lit 208)) (@PySem.Value.ref (nat_lit 24))), (@PySem.DictEntry.mk (@PySem.PyData.keyHash P (@PySem.Str.ofString "DivisionByZero")) (@PySem.Value.str (@PySem.Str.ofString "DivisionByZero") (nat_lit 224)) (@PySem.Value.ref (nat_lit 37))), (@PySem.DictEntry.mk (@PySem.PyData.keyHash P (@PySem.Str.ofString "OutOfRange")) (@PySem.Value.str (@PySem.Str.ofString "OutOfRange") (nat_lit 240)) (@PySem.Value.ref (nat_lit 49)))]) (nat_lit 12)) (Array.mk []))
noncomputable def ho_12_3 (P : Params) : Obj := (@PySem.Obj.mk @PySem.Value.none (@Option.none @Nat) (@PySem.Data.fields (Array.mk [(@PySem.Value.int (Int.ofNat (nat_lit 2)) (nat_lit 0)), (@PySem.Value.int (Int.ofNat (nat_lit 0)) (nat_lit 0)), (@PySem.Value.ref (nat_lit 20)), (@PySem.Value.int (Int.ofNat (nat_lit 4)) (nat_lit 0)), (@PySem.Value.int (Int.ofNat (nat_lit 0)) (nat_lit 0)), (@PySem.Value.ref (nat_lit 33)), (@PySem.Value.int (Int.ofNat (nat_lit 6)) (nat_lit 0)), (@PySem.Value.int (Int.ofNat (nat_lit 0)) (nat_lit 0)), (@PySem.Value.ref (nat_lit 45))])) (Array.mk []))
noncomputable def ho_24_2 (P : Params) : Obj := (@PySem.Obj.mk (@PySem.Value.type "type") (@Option.none @Nat) (@PySem.Data.cls (@PySem.ClassData.mk (@PySem.Str.ofString "GmpError") [(@PySem.Value.type "Exception")] [(@PySem.Value.ref (nat_lit 24)), (@PySem.Value.type "Exception"), (@PySem.Value.type "BaseException"), (@PySem.Value.type "object")] (nat_lit 23) (@PySem.Str.ofString "GmpError") @Bool.true [] [(@PySem.Value.ref (nat_lit 37)), (@PySem.Value.ref (nat_lit 49))] @Bool.false (@Option.none @Bool) @Bool.false)) (Array.mk [(@Option.some @PySem.Value (@PySem.Value.ref (nat_lit 15))), (@Option.none @PySem.Value), (@Option.some @PySem.Value (@PySem.Value.str (@PySem.Str.ofString "GmpError") (nat_lit 189))), (@Option.some @PySem.Value (@PySem.Value.str (@PySem.Str.ofString "GmpError") (nat_lit 197))), (@Option.some @PySem.Value (@PySem.Value.builtin "Exception.__new__")), (@Option.some @PySem.Value (@PySem.Value.bool @Bool.true))]))
noncomputable def ho_40 (P : Params) : Obj := (@PySem.Obj.mk (@PySem.Value.type "tuple") (@Option.none @Nat) (@PySem.Data.seq (Array.mk [(@PySem.Value.ref (nat_lit 24))]) (nat_lit 0)) (Array.mk []))
noncomputable def ho_41 (P : Params) : Obj := (@PySem.Obj.mk (@PySem.Value.type "builtin_function_or_method") (@Option.none @Nat) (@PySem.Data.fields (Array.mk [(@PySem.Value.builtin "type.__prepare__"), (@PySem.Value.type "type")])) (Array.mk []))
noncomputable def ho_42 (P : Params) : Obj := (@PySem.Obj.mk (@PySem.Value.type "dict") (@Option.none @Nat) (@PySem.Data.dict (Array.mk [(@PySem.DictEntry.mk (@PySem.PyData.keyHash P (@PySem.Str.ofString "__module__")) (@PySem.Value.str (@PySem.Str.ofString "__module__") (nat_lit 232)) (@PySem.Value.str (@PySem.Str.ofString "gmp.limbs") (nat_lit 187))), (@PySem.DictEntry.mk (@PySem.PyData.keyHash P (@PySem.Str.ofString "__qualname__")) (@PySem.Value.str (@PySem.Str.ofString "__qualname__") (nat_lit 234)) (@PySem.Value.str (@PySem.Str.ofString "OutOfRange") (nat_lit 233))), (@PySem.DictEntry.mk (@PySem.PyData.keyHash P (@PySem.Str.ofString "__firstlineno__")) (@PySem.Value.str (@PySem.Str.ofString "__firstlineno__") (nat_lit 236)) (@PySem.Value.int (Int.ofNat (nat_lit 6)) (nat_lit 235))), (@PySem.DictEntry.mk (@PySem.PyData.keyHash P (@PySem.Str.ofString "__static_attributes__")) (@PySem.Value.str (@PySem.Str.ofString "__static_attributes__") (nat_lit 237)) (@PySem.Value.ref (nat_lit 47)))]) (nat_lit 4)) (Array.mk []))
noncomputable def ho_43 (P : Params) : Obj := (@PySem.Obj.mk (@PySem.Value.type "tuple") (@Option.none @Nat) (@PySem.Data.seq (Array.mk []) (nat_lit 0)) (Array.mk []))
noncomputable def ho_44 (P : Params) : Obj := (@PySem.Obj.mk @PySem.Value.none (@Option.none @Nat) (@PySem.Data.fields (Array.mk [])) (Array.mk []))
noncomputable def ho_45 (P : Params) : Obj := (@PySem.Obj.mk (@PySem.Value.type "code") (@Option.none @Nat) (@PySem.Data.fields (Array.mk [(@PySem.Value.str (@PySem.Str.ofString "OutOfRange") (nat_lit 227)), (@PySem.Value.str (@PySem.Str.ofString "OutOfRange") (nat_lit 228)), (@PySem.Value.str (@PySem.Str.ofString "/claim/cut.py") (nat_lit 229)), (@PySem.Value.int (Int.ofNat (nat_lit 6)) (nat_lit 0)), (@PySem.Value.int (Int.ofNat (nat_lit 0)) (nat_lit 0)), (@PySem.Value.int (Int.ofNat (nat_lit 0)) (nat_lit 0)), (@PySem.Value.int (Int.ofNat (nat_lit 0)) (nat_lit 0)), (@PySem.Value.int (Int.ofNat (nat_lit 0)) (nat_lit 0)), (@PySem.Value.ref (nat_lit 43)), (@PySem.Value.bool @Bool.false), (@PySem.Value.int (Int.ofNat (nat_lit 181)) (nat_lit 0)), (@PySem.Value.ref (nat_lit 44)), @PySem.Value.none, @PySem.Value.none, @PySem.Value.none, @PySem.Value.none, (@PySem.Value.int (Int.ofNat (nat_lit 230)) (nat_lit 0)), (@PySem.Value.int (Int.ofNat (nat_lit 6)) (nat_lit 0)), (@PySem.Value.str (@PySem.Str.ofString "/claim/cut.py") (nat_lit 231))])) (Array.mk []))
noncomputable def ho_46 (P : Params) : Obj := (@PySem.Obj.mk (@PySem.Value.type "frame") (@Option.none @Nat) @PySem.Data.plain (Array.mk [(@Option.some @PySem.Value (@PySem.Value.ref (nat_lit 45))), (@Option.some @PySem.Value (@PySem.Value.ref (nat_lit 3))), (@Option.some @PySem.Value (@PySem.Value.ref (nat_lit 42))), (@Option.none @PySem.Value), (@Option.some @PySem.Value (@PySem.Value.str (@PySem.Str.ofString "gmp.limbs") (nat_lit 187))), (@Option.none @PySem.Value), (@Option.some @PySem.Value (@PySem.Value.ref (nat_lit 0)))]))
noncomputable def ho_47 (P : Params) : Obj := (@PySem.Obj.mk (@PySem.Value.type "tuple") (@Option.none @Nat) (@PySem.Data.seq (Array.mk []) (nat_lit 0)) (Array.mk []))
noncomputable def ho_48 (P : Params) : Obj := (@PySem.Obj.mk (@PySem.Value.type "dict") (@Option.none @Nat) (@PySem.Data.dict (Array.mk [(@PySem.DictEntry.mk (@PySem.PyData.keyHash P (@PySem.Str.ofString "__module__")) (@PySem.Value.str (@PySem.Str.ofString "__module__") (nat_lit 232)) (@PySem.Value.str (@PySem.Str.ofString "gmp.limbs") (nat_lit 187))), (@PySem.DictEntry.mk (@PySem.PyData.keyHash P (@PySem.Str.ofString "__firstlineno__")) (@PySem.Value.str (@PySem.Str.ofString "__firstlineno__") (nat_lit 236)) (@PySem.Value.int (Int.ofNat (nat_lit 6)) (nat_lit 235))), (@PySem.DictEntry.mk (@PySem.PyData.keyHash P (@PySem.Str.ofString "__static_attributes__")) (@PySem.Value.str (@PySem.Str.ofString "__static_attributes__") (nat_lit 237)) (@PySem.Value.ref (nat_lit 47))), (@PySem.DictEntry.mk (@PySem.PyData.keyHash P (@PySem.Str.ofString "__doc__")) (@PySem.Value.str (@PySem.Str.ofString "__doc__") (nat_lit 238)) @PySem.Value.none)]) (nat_lit 2)) (Array.mk []))
noncomputable def ho_49 (P : Params) : Obj := (@PySem.Obj.mk (@PySem.Value.type "type") (@Option.none @Nat) (@PySem.Data.cls (@PySem.ClassData.mk (@PySem.Str.ofString "OutOfRange") [(@PySem.Value.ref (nat_lit 24))] [(@PySem.Value.ref (nat_lit 49)), (@PySem.Value.ref (nat_lit 24)), (@PySem.Value.type "Exception"), (@PySem.Value.type "BaseException"), (@PySem.Value.type "object")] (nat_lit 48) (@PySem.Str.ofString "OutOfRange") @Bool.true [] [] @Bool.false (@Option.none @Bool) @Bool.false)) (Array.mk [(@Option.some @PySem.Value (@PySem.Value.ref (nat_lit 40))), (@Option.none @PySem.Value), (@Option.some @PySem.Value (@PySem.Value.str (@PySem.Str.ofString "OutOfRange") (nat_lit 225))), (@Option.some @PySem.Value (@PySem.Value.str (@PySem.Str.ofString "OutOfRange") (nat_lit 233))), (@Option.some @PySem.Value (@PySem.Value.builtin "Exception.__new__")), (@Option.some @PySem.Value (@PySem.Value.bool @Bool.true))]))
noncomputable def ho_50 (P : Params) : Obj := (@PySem.Obj.mk (@PySem.Value.type "super") (@Option.none @Nat) (@PySem.Data.fields (Array.mk [(@PySem.Value.ref (nat_lit 49)), (@PySem.Value.ref (nat_lit 49)), (@PySem.Value.ref (nat_lit 49))])) (Array.mk []))
noncomputable def ho_51 (P : Params) : Obj := (@PySem.Obj.mk (@PySem.Value.type "builtin_function_or_method") (@Option.none @Nat) (@PySem.Data.fields (Array.mk [(@PySem.Value.builtin "object.__init_subclass__"), (@PySem.Value.ref (nat_lit 49))])) (Array.mk []))
noncomputable def tr_3 (P : Params) : BT := (.node (boot_o_0 P) (.node (boot_o_1 P) (.node (ho_3_3 P) (.node (boot_o_7 P) (.node (ho_15 P) (.node (ho_31 P) .nil .nil) (.node (ho_47 P) .nil .nil)) (.node (ho_23 P) (.node (ho_39 P) .nil .nil) .nil)) (.node (ho_11 P) (.node (ho_19 P) (.node (ho_35 P) .nil .nil) (.node (ho_51 P) .nil .nil)) (.node (ho_27 P) (.node (ho_43 P) .nil .nil) .nil))) (.node (boot_o_5 P) (.node (boot_o_9 P) (.node (ho_17 P) (.node (ho_33 P) .nil .nil) (.node (ho_49 P) .nil .nil)) (.node (ho_25 P) (.node (ho_41 P) .nil .nil) .nil)) (.node (ho_13 P) (.node (ho_21 P) (.node (ho_37 P) .nil .nil) .nil) (.node (ho_29 P) (.node (ho_45 P) .nil .nil) .nil)))) (.node (ho_2_1 P) (.node (boot_o_4 P) (.node (boot_o_8 P) (.node (ho_16 P) (.node (ho_32 P) .nil .nil) (.node (ho_48 P) .nil .nil)) (.node (ho_24_2 P) (.node (ho_40 P) .nil .nil) .nil)) (.node (ho_12_3 P) (.node (ho_20 P) (.node (ho_36 P) .nil .nil) .nil) (.node (ho_28 P) (.node (ho_44 P) .nil .nil) .nil))) (.node (boot_o_6 P) (.node (boot_o_10 P) (.node (ho_18 P) (.node (ho_34 P) .nil .nil) (.node (ho_50 P) .nil .nil)) (.node (ho_26 P) (.node (ho_42 P) .nil .nil) .nil)) (.node (ho_14 P) (.node (ho_22 P) (.node (ho_38 P) .nil .nil) .nil) (.node (ho_30 P) (.node (ho_46 P) .nil .nil) .nil)))))
noncomputable def sT_3 (w : World) (os : OsState) : SharedT := ⟨tr_3 w.params, 52, (@PySem.Life.mk [] [] [] (nat_lit 0) [] [] @Bool.false (Array.mk []) [] (nat_lit 0) @Bool.false @Bool.false @Bool.false (Int.ofNat (nat_lit 0)) [(Int.ofNat (nat_lit 2000)), (Int.ofNat (nat_lit 10)), (Int.ofNat (nat_lit 10))] @Bool.false (nat_lit 0) @Bool.true [] [] (nat_lit 0) @Bool.false), ⟨[]⟩, (@PySem.Drawn.mk (nat_lit 0) (nat_lit 0) (nat_lit 0) (nat_lit 0)), 241, os⟩
noncomputable def hp_3 : Pos := (@PySem.Pos.mk (nat_lit 6) (nat_lit 0) (nat_lit 7) (nat_lit 8))
noncomputable def st_3 : List Stmt := ((behindTheImports pw).drop 3).take 1
theorem seg_3 : ∀ w : World, (fun os => segRunT treeTable pw w 11 hAnn 1 214 (sT_2 w os) (piecesOf st_3 hEnv hCode hp_2 [topFrame hp_q])) = fun os => some (Flow.next, sT_3 w os, hCode, hp_3) := by
  rewrite [PySem.W.Fast.te10110043849684766642, PySem.W.Fast.te14364793385576792824]
  intro w
  kernel_rfl
noncomputable def ho_3_4 (P : Params) : Obj := (@PySem.Obj.mk (@PySem.Value.type "dict") (@Option.none @Nat) (@PySem.Data.dict (Array.mk [(@PySem.DictEntry.mk (@PySem.PyData.keyHash P (@PySem.Str.ofString "__name__")) (@PySem.Value.str (@PySem.Str.ofString "__name__") (nat_lit 165)) (@PySem.Value.str (@PySem.Str.ofString "gmp.signed") (nat_lit 345))), (@PySem.DictEntry.mk (@PySem.PyData.keyHash P (@PySem.Str.ofString "__doc__")) (@PySem.Value.str (@PySem.Str.ofString "__doc__") (nat_lit 166)) @PySem.Value.none), (@PySem.DictEntry.mk (@PySem.PyData.keyHash P (@PySem.Str.ofString "__package__")) (@PySem.Value.str (@PySem.Str.ofString "__package__") (nat_lit 167)) @PySem.Value.none), (@PySem.DictEntry.mk (@PySem.PyData.keyHash P (@PySem.Str.ofString "__loader__")) (@PySem.Value.str (@PySem.Str.ofString "__loader__") (nat_lit 168)) (@PySem.Value.builtin "__main__.__loader__#opaque")), (@PySem.DictEntry.mk (@PySem.PyData.keyHash P (@PySem.Str.ofString "__spec__")) (@PySem.Value.str (@PySem.Str.ofString "__spec__") (nat_lit 169)) @PySem.Value.none), (@PySem.DictEntry.mk (@PySem.PyData.keyHash P (@PySem.Str.ofString "__annotations__")) (@PySem.Value.str (@PySem.Str.ofString "__annotations__") (nat_lit 170)) (@PySem.Value.ref (nat_lit 6))), (@PySem.DictEntry.mk (@PySem.PyData.keyHash P (@PySem.Str.ofString "__builtins__")) (@PySem.Value.str (@PySem.Str.ofString "__builtins__") (nat_lit 171)) (@PySem.Value.ref (nat_lit 4))), (@PySem.DictEntry.mk (@PySem.PyData.keyHash P (@PySem.Str.ofString "__file__")) (@PySem.Value.str (@PySem.Str.ofString "__file__") (nat_lit 173)) (@PySem.Value.str (@PySem.Str.ofString "/claim/cut.py") (nat_lit 172))), (@PySem.DictEntry.mk (@PySem.PyData.keyHash P (@PySem.Str.ofString "__cached__")) (@PySem.Value.str (@PySem.Str.ofString "__cached__") (nat_lit 174)) @PySem.Value.none), (@PySem.DictEntry.mk (@PySem.PyData.keyHash P (@PySem.Str.ofString "GmpError")) (@PySem.Value.str (@PySem.Str.ofString "GmpError") (nat_lit 208)) (@PySem.Value.ref (nat_lit 24))), (@PySem.DictEntry.mk (@PySem.PyData.keyHash P (@PySem.Str.ofString "DivisionByZero")) (@PySem.Value.str (@PySem.Str.ofString "DivisionByZero") (nat_lit 224)) (@PySem.Value.ref (nat_lit 37))), (@PySem.DictEntry.mk (@PySem.PyData.keyHash P (@PySem.Str.ofString "OutOfRange")) (@PySem.Value.str (@PySem.Str.ofString "OutOfRange") (nat_lit 240)) (@PySem.Value.ref (nat_lit 49))), (@PySem.DictEntry.mk (@PySem.PyData.keyHash P (@PySem.Str.ofString "normal")) (@PySem.Value.str (@PySem.Str.ofString "normal") (nat_lit 248)) (@PySem.Value.ref (nat_lit 58))), (@PySem.DictEntry.mk (@PySem.PyData.keyHash P (@PySem.Str.ofString "nat_of")) (@PySem.Value.str (@PySem.Str.ofString "nat_of") (nat_lit 258)) (@PySem.Value.ref (nat_lit 65))), (@PySem.DictEntry.mk (@PySem.PyData.keyHash P (@PySem.Str.ofString "compare")) (@PySem.Value.str (@PySem.Str.ofString "compare") (nat_lit 267)) (@PySem.Value.ref (nat_lit 72))), (@PySem.DictEntry.mk (@PySem.PyData.keyHash P (@PySem.Str.ofString "add")) (@PySem.Value.str (@PySem.Str.ofString "add") (nat_lit 280)) (@PySem.Value.ref (nat_lit 79))), (@PySem.DictEntry.mk (@PySem.PyData.keyHash P (@PySem.Str.ofString "sub")) (@PySem.Value.str (@PySem.Str.ofString "sub") (nat_lit 294)) (@PySem.Value.ref (nat_lit 86))), (@PySem.DictEntry.mk (@PySem.PyData.keyHash P (@PySem.Str.ofString "divrem_limb")) (@PySem.Value.str (@PySem.Str.ofString "divrem_limb") (nat_lit 306)) (@PySem.Value.ref (nat_lit 93))), (@PySem.DictEntry.mk (@PySem.PyData.keyHash P (@PySem.Str.ofString "shift_left")) (@PySem.Value.str (@PySem.Str.ofString "shift_left") (nat_lit 321)) (@PySem.Value.ref (nat_lit 100))), (@PySem.DictEntry.mk (@PySem.PyData.keyHash P (@PySem.Str.ofString "shift_right")) (@PySem.Value.str (@PySem.Str.ofString "shift_right") (nat_lit 336)) (@PySem.Value.ref (nat_lit 107))), (@PySem.DictEntry.mk (@PySem.PyData.keyHash P (@PySem.Str.ofString "bits")) (@PySem.Value.str (@PySem.Str.ofString "bits") (nat_lit 344)) (@PySem.Value.ref (nat_lit 114))), (@PySem.DictEntry.mk (@PySem.PyData.keyHash P (@PySem.Str.ofString "signed")) (@PySem.Value.str (@PySem.Str.ofString "signed") (nat_lit 354)) (@PySem.Value.ref (nat_lit 121))), (@PySem.DictEntry.mk (@PySem.PyData.keyHash P (@PySem.Str.ofString "s_of")) (@PySem.Value.str (@PySem.Str.ofString "s_of") (nat_lit 362)) (@PySem.Value.ref (nat_lit 128))), (@PySem.DictEntry.mk (@PySem.PyData.keyHash P (@PySem.Str.ofString "s_neg")) (@PySem.Value.str (@PySem.Str.ofString "s_neg") (nat_lit 369)) (@PySem.Value.ref (nat_lit 135))), (@PySem.DictEntry.mk (@PySem.PyData.keyHash P (@PySem.Str.ofString "s_sign")) (@PySem.Value.str (@PySem.Str.ofString "s_sign") (nat_lit 376)) (@PySem.Value.ref (nat_lit 142)))]) (nat_lit 25)) (Array.mk []))
noncomputable def ho_12_4 (P : Params) : Obj := (@PySem.Obj.mk @PySem.Value.none (@Option.none @Nat) (@PySem.Data.fields (Array.mk [(@PySem.Value.int (Int.ofNat (nat_lit 2)) (nat_lit 0)), (@PySem.Value.int (Int.ofNat (nat_lit 0)) (nat_lit 0)), (@PySem.Value.ref (nat_lit 20)), (@PySem.Value.int (Int.ofNat (nat_lit 4)) (nat_lit 0)), (@PySem.Value.int (Int.ofNat (nat_lit 0)) (nat_lit 0)), (@PySem.Value.ref (nat_lit 33)), (@PySem.Value.int (Int.ofNat (nat_lit 6)) (nat_lit 0)), (@PySem.Value.int (Int.ofNat (nat_lit 0)) (nat_lit 0)), (@PySem.Value.ref (nat_lit 45)), (@PySem.Value.int (Int.ofNat (nat_lit 8)) (nat_lit 0)), (@PySem.Value.int (Int.ofNat (nat_lit 0)) (nat_lit 0)), (@PySem.Value.ref (nat_lit 57)), (@PySem.Value.int (Int.ofNat (nat_lit 13)) (nat_lit 0)), (@PySem.Value.int (Int.ofNat (nat_lit 0)) (nat_lit 0)), (@PySem.Value.ref (nat_lit 64)), (@PySem.Value.int (Int.ofNat (nat_lit 21)) (nat_lit 0)), (@PySem.Value.int (Int.ofNat (nat_lit 0)) (nat_lit 0)), (@PySem.Value.ref (nat_lit 71)), (@PySem.Value.int (Int.ofNat (nat_lit 28)) (nat_lit 0)), (@PySem.Value.int (Int.ofNat (nat_lit 0)) (nat_lit 0)), (@PySem.Value.ref (nat_lit 78)), (@PySem.Value.int (Int.ofNat (nat_lit 43)) (nat_lit 0)), (@PySem.Value.int (Int.ofNat (nat_lit 0)) (nat_lit 0)), (@PySem.Value.ref (nat_lit 85)), (@PySem.Value.int (Int.ofNat (nat_lit 52)) (nat_lit 0)), (@PySem.Value.int (Int.ofNat (nat_lit 0)) (nat_lit 0)), (@PySem.Value.ref (nat_lit 92)), (@PySem.Value.int (Int.ofNat (nat_lit 61)) (nat_lit 0)), (@PySem.Value.int (Int.ofNat (nat_lit 0)) (nat_lit 0)), (@PySem.Value.ref (nat_lit 99)), (@PySem.Value.int (Int.ofNat (nat_lit 73)) (nat_lit 0)), (@PySem.Value.int (Int.ofNat (nat_lit 0)) (nat_lit 0)), (@PySem.Value.ref (nat_lit 106)), (@PySem.Value.int (Int.ofNat (nat_lit 80)) (nat_lit 0)), (@PySem.Value.int (Int.ofNat (nat_lit 0)) (nat_lit 0)), (@PySem.Value.ref (nat_lit 113)), (@PySem.Value.int (Int.ofNat (nat_lit 83)) (nat_lit 0)), (@PySem.Value.int (Int.ofNat (nat_lit 0)) (nat_lit 0)), (@PySem.Value.ref (nat_lit 120)), (@PySem.Value.int (Int.ofNat (nat_lit 85)) (nat_lit 0)), (@PySem.Value.int (Int.ofNat (nat_lit 0)) (nat_lit 0)), (@PySem.Value.ref (nat_lit 127)), (@PySem.Value.int (Int.ofNat (nat_lit 87)) (nat_lit 0)), (@PySem.Value.int (Int.ofNat (nat_lit 0)) (nat_lit 0)), (@PySem.Value.ref (nat_lit 134)), (@PySem.Value.int (Int.ofNat (nat_lit 89)) (nat_lit 0)), (@PySem.Value.int (Int.ofNat (nat_lit 0)) (nat_lit 0)), (@PySem.Value.ref (nat_lit 141))])) (Array.mk []))
noncomputable def ho_52 (P : Params) : Obj := (@PySem.Obj.mk (@PySem.Value.type "tuple") (@Option.none @Nat) (@PySem.Data.seq (Array.mk []) (nat_lit 0)) (Array.mk []))
noncomputable def ho_53 (P : Params) : Obj := (@PySem.Obj.mk @PySem.Value.none (@Option.none @Nat) (@PySem.Data.fields (Array.mk [])) (Array.mk []))
noncomputable def ho_54 (P : Params) : Obj := (@PySem.Obj.mk (@PySem.Value.type "tuple") (@Option.none @Nat) (@PySem.Data.seq (Array.mk [(@PySem.Value.str (@PySem.Str.ofString "a") (nat_lit 244)), (@PySem.Value.str (@PySem.Str.ofString "end") (nat_lit 245))]) (nat_lit 0)) (Array.mk []))
noncomputable def ho_55 (P : Params) : Obj := (@PySem.Obj.mk (@PySem.Value.type "tuple") (@Option.none @Nat) (@PySem.Data.seq (Array.mk []) (nat_lit 0)) (Array.mk []))
noncomputable def ho_56 (P : Params) : Obj := (@PySem.Obj.mk @PySem.Value.none (@Option.none @Nat) (@PySem.Data.func (@PySem.FuncData.mk (@PySem.Str.ofString "normal") (@PySem.Str.ofString "normal") (fPar 4) (fBody 4) (fScope 4) (nat_lit 0) [] @PySem.Value.none @PySem.Value.none @PySem.Value.none @PySem.Value.none (@Option.none @Nat) @PySem.Value.none @PySem.Value.none (nat_lit 0))) (Array.mk []))
noncomputable def ho_57 (P : Params) : Obj := (@PySem.Obj.mk (@PySem.Value.type "code") (@Option.none @Nat) (@PySem.Data.fields (Array.mk [(@PySem.Value.str (@PySem.Str.ofString "normal") (nat_lit 241)), (@PySem.Value.str (@PySem.Str.ofString "normal") (nat_lit 242)), (@PySem.Value.str (@PySem.Str.ofString "/claim/cut.py") (nat_lit 243)), (@PySem.Value.int (Int.ofNat (nat_lit 8)) (nat_lit 0)), (@PySem.Value.int (Int.ofNat (nat_lit 1)) (nat_lit 0)), (@PySem.Value.int (Int.ofNat (nat_lit 0)) (nat_lit 0)), (@PySem.Value.int (Int.ofNat (nat_lit 0)) (nat_lit 0)), (@PySem.Value.int (Int.ofNat (nat_lit 3)) (nat_lit 0)), (@PySem.Value.ref (nat_lit 52)), (@PySem.Value.bool @Bool.true), (@PySem.Value.int (Int.ofNat (nat_lit 181)) (nat_lit 0)), (@PySem.Value.ref (nat_lit 53)), @PySem.Value.none, (@PySem.Value.ref (nat_lit 54)), (@PySem.Value.ref (nat_lit 55)), (@PySem.Value.ref (nat_lit 56)), (@PySem.Value.int (Int.ofNat (nat_lit 246)) (nat_lit 0)), (@PySem.Value.int (Int.ofNat (nat_lit 8)) (nat_lit 0)), (@PySem.Value.str (@PySem.Str.ofString "/claim/cut.py") (nat_lit 247))])) (Array.mk []))
noncomputable def ho_58 (P : Params) : Obj := (@PySem.Obj.mk (@PySem.Value.type "function") (@Option.none @Nat) (@PySem.Data.func (@PySem.FuncData.mk (@PySem.Str.ofString "normal") (@PySem.Str.ofString "normal") (fPar 4) (fBody 4) (fScope 4) (nat_lit 3) [] @PySem.Value.none @PySem.Value.none @PySem.Value.none (@PySem.Value.str (@PySem.Str.ofString "gmp.limbs") (nat_lit 187)) (@Option.none @Nat) (@PySem.Value.ref (nat_lit 57)) @PySem.Value.none (nat_lit 0))) (Array.mk []))
noncomputable def ho_59 (P : Params) : Obj := (@PySem.Obj.mk (@PySem.Value.type "tuple") (@Option.none @Nat) (@PySem.Data.seq (Array.mk []) (nat_lit 0)) (Array.mk []))
noncomputable def ho_60 (P : Params) : Obj := (@PySem.Obj.mk @PySem.Value.none (@Option.none @Nat) (@PySem.Data.fields (Array.mk [])) (Array.mk []))
noncomputable def ho_61 (P : Params) : Obj := (@PySem.Obj.mk (@PySem.Value.type "tuple") (@Option.none @Nat) (@PySem.Data.seq (Array.mk [(@PySem.Value.str (@PySem.Str.ofString "number") (nat_lit 252)), (@PySem.Value.str (@PySem.Str.ofString "w") (nat_lit 253)), (@PySem.Value.str (@PySem.Str.ofString "found") (nat_lit 254)), (@PySem.Value.str (@PySem.Str.ofString "mask") (nat_lit 255))]) (nat_lit 0)) (Array.mk []))
noncomputable def ho_62 (P : Params) : Obj := (@PySem.Obj.mk (@PySem.Value.type "tuple") (@Option.none @Nat) (@PySem.Data.seq (Array.mk []) (nat_lit 0)) (Array.mk []))
noncomputable def ho_63 (P : Params) : Obj := (@PySem.Obj.mk @PySem.Value.none (@Option.none @Nat) (@PySem.Data.func (@PySem.FuncData.mk (@PySem.Str.ofString "nat_of") (@PySem.Str.ofString "nat_of") (fPar 5) (fBody 5) (fScope 5) (nat_lit 0) [] @PySem.Value.none @PySem.Value.none @PySem.Value.none @PySem.Value.none (@Option.none @Nat) @PySem.Value.none @PySem.Value.none (nat_lit 0))) (Array.mk []))
noncomputable def ho_64 (P : Params) : Obj := (@PySem.Obj.mk (@PySem.Value.type "code") (@Option.none @Nat) (@PySem.Data.fields (Array.mk [(@PySem.Value.str (@PySem.Str.ofString "nat_of") (nat_lit 249)), (@PySem.Value.str (@PySem.Str.ofString "nat_of") (nat_lit 250)), (@PySem.Value.str (@PySem.Str.ofString "/claim/cut.py") (nat_lit 251)), (@PySem.Value.int (Int.ofNat (nat_lit 13)) (nat_lit 0)), (@PySem.Value.int (Int.ofNat (nat_lit 2)) (nat_lit 0)), (@PySem.Value.int (Int.ofNat (nat_lit 0)) (nat_lit 0)), (@PySem.Value.int (Int.ofNat (nat_lit 0)) (nat_lit 0)), (@PySem.Value.int (Int.ofNat (nat_lit 3)) (nat_lit 0)), (@PySem.Value.ref (nat_lit 59)), (@PySem.Value.bool @Bool.true), (@PySem.Value.int (Int.ofNat (nat_lit 181)) (nat_lit 0)), (@PySem.Value.ref (nat_lit 60)), @PySem.Value.none, (@PySem.Value.ref (nat_lit 61)), (@PySem.Value.ref (nat_lit 62)), (@PySem.Value.ref (nat_lit 63)), (@PySem.Value.int (Int.ofNat (nat_lit 256)) (nat_lit 0)), (@PySem.Value.int (Int.ofNat (nat_lit 13)) (nat_lit 0)), (@PySem.Value.str (@PySem.Str.ofString "/claim/cut.py") (nat_lit 257))])) (Array.mk []))
noncomputable def ho_65 (P : Params) : Obj := (@PySem.Obj.mk (@PySem.Value.type "function") (@Option.none @Nat) (@PySem.Data.func (@PySem.FuncData.mk (@PySem.Str.ofString "nat_of") (@PySem.Str.ofString "nat_of") (fPar 5) (fBody 5) (fScope 5) (nat_lit 3) [] @PySem.Value.none @PySem.Value.none @PySem.Value.none (@PySem.Value.str (@PySem.Str.ofString "gmp.limbs") (nat_lit 187)) (@Option.none @Nat) (@PySem.Value.ref (nat_lit 64)) @PySem.Value.none (nat_lit 0))) (Array.mk []))
noncomputable def ho_66 (P : Params) : Obj := (@PySem.Obj.mk (@PySem.Value.type "tuple") (@Option.none @Nat) (@PySem.Data.seq (Array.mk []) (nat_lit 0)) (Array.mk []))
noncomputable def ho_67 (P : Params) : Obj := (@PySem.Obj.mk @PySem.Value.none (@Option.none @Nat) (@PySem.Data.fields (Array.mk [])) (Array.mk []))
noncomputable def ho_68 (P : Params) : Obj := (@PySem.Obj.mk (@PySem.Value.type "tuple") (@Option.none @Nat) (@PySem.Data.seq (Array.mk [(@PySem.Value.str (@PySem.Str.ofString "a") (nat_lit 262)), (@PySem.Value.str (@PySem.Str.ofString "b") (nat_lit 263)), (@PySem.Value.str (@PySem.Str.ofString "at") (nat_lit 264))]) (nat_lit 0)) (Array.mk []))
noncomputable def ho_69 (P : Params) : Obj := (@PySem.Obj.mk (@PySem.Value.type "tuple") (@Option.none @Nat) (@PySem.Data.seq (Array.mk []) (nat_lit 0)) (Array.mk []))
noncomputable def ho_70 (P : Params) : Obj := (@PySem.Obj.mk @PySem.Value.none (@Option.none @Nat) (@PySem.Data.func (@PySem.FuncData.mk (@PySem.Str.ofString "compare") (@PySem.Str.ofString "compare") (fPar 6) (fBody 6) (fScope 6) (nat_lit 0) [] @PySem.Value.none @PySem.Value.none @PySem.Value.none @PySem.Value.none (@Option.none @Nat) @PySem.Value.none @PySem.Value.none (nat_lit 0))) (Array.mk []))
noncomputable def ho_71 (P : Params) : Obj := (@PySem.Obj.mk (@PySem.Value.type "code") (@Option.none @Nat) (@PySem.Data.fields (Array.mk [(@PySem.Value.str (@PySem.Str.ofString "compare") (nat_lit 259)), (@PySem.Value.str (@PySem.Str.ofString "compare") (nat_lit 260)), (@PySem.Value.str (@PySem.Str.ofString "/claim/cut.py") (nat_lit 261)), (@PySem.Value.int (Int.ofNat (nat_lit 21)) (nat_lit 0)), (@PySem.Value.int (Int.ofNat (nat_lit 2)) (nat_lit 0)), (@PySem.Value.int (Int.ofNat (nat_lit 0)) (nat_lit 0)), (@PySem.Value.int (Int.ofNat (nat_lit 0)) (nat_lit 0)), (@PySem.Value.int (Int.ofNat (nat_lit 3)) (nat_lit 0)), (@PySem.Value.ref (nat_lit 66)), (@PySem.Value.bool @Bool.true), (@PySem.Value.int (Int.ofNat (nat_lit 181)) (nat_lit 0)), (@PySem.Value.ref (nat_lit 67)), @PySem.Value.none, (@PySem.Value.ref (nat_lit 68)), (@PySem.Value.ref (nat_lit 69)), (@PySem.Value.ref (nat_lit 70)), (@PySem.Value.int (Int.ofNat (nat_lit 265)) (nat_lit 0)), (@PySem.Value.int (Int.ofNat (nat_lit 21)) (nat_lit 0)), (@PySem.Value.str (@PySem.Str.ofString "/claim/cut.py") (nat_lit 266))])) (Array.mk []))
noncomputable def ho_72 (P : Params) : Obj := (@PySem.Obj.mk (@PySem.Value.type "function") (@Option.none @Nat) (@PySem.Data.func (@PySem.FuncData.mk (@PySem.Str.ofString "compare") (@PySem.Str.ofString "compare") (fPar 6) (fBody 6) (fScope 6) (nat_lit 3) [] @PySem.Value.none @PySem.Value.none @PySem.Value.none (@PySem.Value.str (@PySem.Str.ofString "gmp.limbs") (nat_lit 187)) (@Option.none @Nat) (@PySem.Value.ref (nat_lit 71)) @PySem.Value.none (nat_lit 0))) (Array.mk []))
noncomputable def ho_73 (P : Params) : Obj := (@PySem.Obj.mk (@PySem.Value.type "tuple") (@Option.none @Nat) (@PySem.Data.seq (Array.mk []) (nat_lit 0)) (Array.mk []))
noncomputable def ho_74 (P : Params) : Obj := (@PySem.Obj.mk @PySem.Value.none (@Option.none @Nat) (@PySem.Data.fields (Array.mk [])) (Array.mk []))
noncomputable def ho_75 (P : Params) : Obj := (@PySem.Obj.mk (@PySem.Value.type "tuple") (@Option.none @Nat) (@PySem.Data.seq (Array.mk [(@PySem.Value.str (@PySem.Str.ofString "a") (nat_lit 271)), (@PySem.Value.str (@PySem.Str.ofString "b") (nat_lit 272)), (@PySem.Value.str (@PySem.Str.ofString "w") (nat_lit 273)), (@PySem.Value.str (@PySem.Str.ofString "found") (nat_lit 274)), (@PySem.Value.str (@PySem.Str.ofString "carry") (nat_lit 275)), (@PySem.Value.str (@PySem.Str.ofString "mask") (nat_lit 276)), (@PySem.Value.str (@PySem.Str.ofString "at") (nat_lit 277))]) (nat_lit 0)) (Array.mk []))
noncomputable def ho_76 (P : Params) : Obj := (@PySem.Obj.mk (@PySem.Value.type "tuple") (@Option.none @Nat) (@PySem.Data.seq (Array.mk []) (nat_lit 0)) (Array.mk []))
noncomputable def ho_77 (P : Params) : Obj := (@PySem.Obj.mk @PySem.Value.none (@Option.none @Nat) (@PySem.Data.func (@PySem.FuncData.mk (@PySem.Str.ofString "add") (@PySem.Str.ofString "add") (fPar 7) (fBody 7) (fScope 7) (nat_lit 0) [] @PySem.Value.none @PySem.Value.none @PySem.Value.none @PySem.Value.none (@Option.none @Nat) @PySem.Value.none @PySem.Value.none (nat_lit 0))) (Array.mk []))
noncomputable def ho_78 (P : Params) : Obj := (@PySem.Obj.mk (@PySem.Value.type "code") (@Option.none @Nat) (@PySem.Data.fields (Array.mk [(@PySem.Value.str (@PySem.Str.ofString "add") (nat_lit 268)), (@PySem.Value.str (@PySem.Str.ofString "add") (nat_lit 269)), (@PySem.Value.str (@PySem.Str.ofString "/claim/cut.py") (nat_lit 270)), (@PySem.Value.int (Int.ofNat (nat_lit 28)) (nat_lit 0)), (@PySem.Value.int (Int.ofNat (nat_lit 3)) (nat_lit 0)), (@PySem.Value.int (Int.ofNat (nat_lit 0)) (nat_lit 0)), (@PySem.Value.int (Int.ofNat (nat_lit 0)) (nat_lit 0)), (@PySem.Value.int (Int.ofNat (nat_lit 3)) (nat_lit 0)), (@PySem.Value.ref (nat_lit 73)), (@PySem.Value.bool @Bool.true), (@PySem.Value.int (Int.ofNat (nat_lit 181)) (nat_lit 0)), (@PySem.Value.ref (nat_lit 74)), @PySem.Value.none, (@PySem.Value.ref (nat_lit 75)), (@PySem.Value.ref (nat_lit 76)), (@PySem.Value.ref (nat_lit 77)), (@PySem.Value.int (Int.ofNat (nat_lit 278)) (nat_lit 0)), (@PySem.Value.int (Int.ofNat (nat_lit 28)) (nat_lit 0)), (@PySem.Value.str (@PySem.Str.ofString "/claim/cut.py") (nat_lit 279))])) (Array.mk []))
noncomputable def ho_79 (P : Params) : Obj := (@PySem.Obj.mk (@PySem.Value.type "function") (@Option.none @Nat) (@PySem.Data.func (@PySem.FuncData.mk (@PySem.Str.ofString "add") (@PySem.Str.ofString "add") (fPar 7) (fBody 7) (fScope 7) (nat_lit 3) [] @PySem.Value.none @PySem.Value.none @PySem.Value.none (@PySem.Value.str (@PySem.Str.ofString "gmp.limbs") (nat_lit 187)) (@Option.none @Nat) (@PySem.Value.ref (nat_lit 78)) @PySem.Value.none (nat_lit 0))) (Array.mk []))
noncomputable def ho_80 (P : Params) : Obj := (@PySem.Obj.mk (@PySem.Value.type "tuple") (@Option.none @Nat) (@PySem.Data.seq (Array.mk []) (nat_lit 0)) (Array.mk []))
noncomputable def ho_81 (P : Params) : Obj := (@PySem.Obj.mk @PySem.Value.none (@Option.none @Nat) (@PySem.Data.fields (Array.mk [])) (Array.mk []))
noncomputable def ho_82 (P : Params) : Obj := (@PySem.Obj.mk (@PySem.Value.type "tuple") (@Option.none @Nat) (@PySem.Data.seq (Array.mk [(@PySem.Value.str (@PySem.Str.ofString "a") (nat_lit 284)), (@PySem.Value.str (@PySem.Str.ofString "b") (nat_lit 285)), (@PySem.Value.str (@PySem.Str.ofString "w") (nat_lit 286)), (@PySem.Value.str (@PySem.Str.ofString "found") (nat_lit 287)), (@PySem.Value.str (@PySem.Str.ofString "borrow") (nat_lit 288)), (@PySem.Value.str (@PySem.Str.ofString "base") (nat_lit 289)), (@PySem.Value.str (@PySem.Str.ofString "at") (nat_lit 290)), (@PySem.Value.str (@PySem.Str.ofString "limb") (nat_lit 291))]) (nat_lit 0)) (Array.mk []))
noncomputable def ho_83 (P : Params) : Obj := (@PySem.Obj.mk (@PySem.Value.type "tuple") (@Option.none @Nat) (@PySem.Data.seq (Array.mk []) (nat_lit 0)) (Array.mk []))
noncomputable def ho_84 (P : Params) : Obj := (@PySem.Obj.mk @PySem.Value.none (@Option.none @Nat) (@PySem.Data.func (@PySem.FuncData.mk (@PySem.Str.ofString "sub") (@PySem.Str.ofString "sub") (fPar 8) (fBody 8) (fScope 8) (nat_lit 0) [] @PySem.Value.none @PySem.Value.none @PySem.Value.none @PySem.Value.none (@Option.none @Nat) @PySem.Value.none @PySem.Value.none (nat_lit 0))) (Array.mk []))
noncomputable def ho_85 (P : Params) : Obj := (@PySem.Obj.mk (@PySem.Value.type "code") (@Option.none @Nat) (@PySem.Data.fields (Array.mk [(@PySem.Value.str (@PySem.Str.ofString "sub") (nat_lit 281)), (@PySem.Value.str (@PySem.Str.ofString "sub") (nat_lit 282)), (@PySem.Value.str (@PySem.Str.ofString "/claim/cut.py") (nat_lit 283)), (@PySem.Value.int (Int.ofNat (nat_lit 43)) (nat_lit 0)), (@PySem.Value.int (Int.ofNat (nat_lit 3)) (nat_lit 0)), (@PySem.Value.int (Int.ofNat (nat_lit 0)) (nat_lit 0)), (@PySem.Value.int (Int.ofNat (nat_lit 0)) (nat_lit 0)), (@PySem.Value.int (Int.ofNat (nat_lit 3)) (nat_lit 0)), (@PySem.Value.ref (nat_lit 80)), (@PySem.Value.bool @Bool.true), (@PySem.Value.int (Int.ofNat (nat_lit 181)) (nat_lit 0)), (@PySem.Value.ref (nat_lit 81)), @PySem.Value.none, (@PySem.Value.ref (nat_lit 82)), (@PySem.Value.ref (nat_lit 83)), (@PySem.Value.ref (nat_lit 84)), (@PySem.Value.int (Int.ofNat (nat_lit 292)) (nat_lit 0)), (@PySem.Value.int (Int.ofNat (nat_lit 43)) (nat_lit 0)), (@PySem.Value.str (@PySem.Str.ofString "/claim/cut.py") (nat_lit 293))])) (Array.mk []))
noncomputable def ho_86 (P : Params) : Obj := (@PySem.Obj.mk (@PySem.Value.type "function") (@Option.none @Nat) (@PySem.Data.func (@PySem.FuncData.mk (@PySem.Str.ofString "sub") (@PySem.Str.ofString "sub") (fPar 8) (fBody 8) (fScope 8) (nat_lit 3) [] @PySem.Value.none @PySem.Value.none @PySem.Value.none (@PySem.Value.str (@PySem.Str.ofString "gmp.limbs") (nat_lit 187)) (@Option.none @Nat) (@PySem.Value.ref (nat_lit 85)) @PySem.Value.none (nat_lit 0))) (Array.mk []))
noncomputable def ho_87 (P : Params) : Obj := (@PySem.Obj.mk (@PySem.Value.type "tuple") (@Option.none @Nat) (@PySem.Data.seq (Array.mk []) (nat_lit 0)) (Array.mk []))
noncomputable def ho_88 (P : Params) : Obj := (@PySem.Obj.mk @PySem.Value.none (@Option.none @Nat) (@PySem.Data.fields (Array.mk [])) (Array.mk []))
noncomputable def ho_89 (P : Params) : Obj := (@PySem.Obj.mk (@PySem.Value.type "tuple") (@Option.none @Nat) (@PySem.Data.seq (Array.mk [(@PySem.Value.str (@PySem.Str.ofString "a") (nat_lit 298)), (@PySem.Value.str (@PySem.Str.ofString "limb") (nat_lit 299)), (@PySem.Value.str (@PySem.Str.ofString "w") (nat_lit 300)), (@PySem.Value.str (@PySem.Str.ofString "found") (nat_lit 301)), (@PySem.Value.str (@PySem.Str.ofString "rest") (nat_lit 302)), (@PySem.Value.str (@PySem.Str.ofString "at") (nat_lit 303))]) (nat_lit 0)) (Array.mk []))
noncomputable def ho_90 (P : Params) : Obj := (@PySem.Obj.mk (@PySem.Value.type "tuple") (@Option.none @Nat) (@PySem.Data.seq (Array.mk []) (nat_lit 0)) (Array.mk []))
noncomputable def ho_91 (P : Params) : Obj := (@PySem.Obj.mk @PySem.Value.none (@Option.none @Nat) (@PySem.Data.func (@PySem.FuncData.mk (@PySem.Str.ofString "divrem_limb") (@PySem.Str.ofString "divrem_limb") (fPar 9) (fBody 9) (fScope 9) (nat_lit 0) [] @PySem.Value.none @PySem.Value.none @PySem.Value.none @PySem.Value.none (@Option.none @Nat) @PySem.Value.none @PySem.Value.none (nat_lit 0))) (Array.mk []))
noncomputable def ho_92 (P : Params) : Obj := (@PySem.Obj.mk (@PySem.Value.type "code") (@Option.none @Nat) (@PySem.Data.fields (Array.mk [(@PySem.Value.str (@PySem.Str.ofString "divrem_limb") (nat_lit 295)), (@PySem.Value.str (@PySem.Str.ofString "divrem_limb") (nat_lit 296)), (@PySem.Value.str (@PySem.Str.ofString "/claim/cut.py") (nat_lit 297)), (@PySem.Value.int (Int.ofNat (nat_lit 52)) (nat_lit 0)), (@PySem.Value.int (Int.ofNat (nat_lit 3)) (nat_lit 0)), (@PySem.Value.int (Int.ofNat (nat_lit 0)) (nat_lit 0)), (@PySem.Value.int (Int.ofNat (nat_lit 0)) (nat_lit 0)), (@PySem.Value.int (Int.ofNat (nat_lit 3)) (nat_lit 0)), (@PySem.Value.ref (nat_lit 87)), (@PySem.Value.bool @Bool.true), (@PySem.Value.int (Int.ofNat (nat_lit 181)) (nat_lit 0)), (@PySem.Value.ref (nat_lit 88)), @PySem.Value.none, (@PySem.Value.ref (nat_lit 89)), (@PySem.Value.ref (nat_lit 90)), (@PySem.Value.ref (nat_lit 91)), (@PySem.Value.int (Int.ofNat (nat_lit 304)) (nat_lit 0)), (@PySem.Value.int (Int.ofNat (nat_lit 52)) (nat_lit 0)), (@PySem.Value.str (@PySem.Str.ofString "/claim/cut.py") (nat_lit 305))])) (Array.mk []))
noncomputable def ho_93 (P : Params) : Obj := (@PySem.Obj.mk (@PySem.Value.type "function") (@Option.none @Nat) (@PySem.Data.func (@PySem.FuncData.mk (@PySem.Str.ofString "divrem_limb") (@PySem.Str.ofString "divrem_limb") (fPar 9) (fBody 9) (fScope 9) (nat_lit 3) [] @PySem.Value.none @PySem.Value.none @PySem.Value.none (@PySem.Value.str (@PySem.Str.ofString "gmp.limbs") (nat_lit 187)) (@Option.none @Nat) (@PySem.Value.ref (nat_lit 92)) @PySem.Value.none (nat_lit 0))) (Array.mk []))
noncomputable def ho_94 (P : Params) : Obj := (@PySem.Obj.mk (@PySem.Value.type "tuple") (@Option.none @Nat) (@PySem.Data.seq (Array.mk []) (nat_lit 0)) (Array.mk []))
noncomputable def ho_95 (P : Params) : Obj := (@PySem.Obj.mk @PySem.Value.none (@Option.none @Nat) (@PySem.Data.fields (Array.mk [])) (Array.mk []))
noncomputable def ho_96 (P : Params) : Obj := (@PySem.Obj.mk (@PySem.Value.type "tuple") (@Option.none @Nat) (@PySem.Data.seq (Array.mk [(@PySem.Value.str (@PySem.Str.ofString "a") (nat_lit 310)), (@PySem.Value.str (@PySem.Str.ofString "n") (nat_lit 311)), (@PySem.Value.str (@PySem.Str.ofString "w") (nat_lit 312)), (@PySem.Value.str (@PySem.Str.ofString "spots") (nat_lit 313)), (@PySem.Value.str (@PySem.Str.ofString "few") (nat_lit 314)), (@PySem.Value.str (@PySem.Str.ofString "found") (nat_lit 315)), (@PySem.Value.str (@PySem.Str.ofString "carry") (nat_lit 316)), (@PySem.Value.str (@PySem.Str.ofString "mask") (nat_lit 317)), (@PySem.Value.str (@PySem.Str.ofString "one") (nat_lit 318))]) (nat_lit 0)) (Array.mk []))
noncomputable def ho_97 (P : Params) : Obj := (@PySem.Obj.mk (@PySem.Value.type "tuple") (@Option.none @Nat) (@PySem.Data.seq (Array.mk []) (nat_lit 0)) (Array.mk []))
noncomputable def ho_98 (P : Params) : Obj := (@PySem.Obj.mk @PySem.Value.none (@Option.none @Nat) (@PySem.Data.func (@PySem.FuncData.mk (@PySem.Str.ofString "shift_left") (@PySem.Str.ofString "shift_left") (fPar 10) (fBody 10) (fScope 10) (nat_lit 0) [] @PySem.Value.none @PySem.Value.none @PySem.Value.none @PySem.Value.none (@Option.none @Nat) @PySem.Value.none @PySem.Value.none (nat_lit 0))) (Array.mk []))
noncomputable def ho_99 (P : Params) : Obj := (@PySem.Obj.mk (@PySem.Value.type "code") (@Option.none @Nat) (@PySem.Data.fields (Array.mk [(@PySem.Value.str (@PySem.Str.ofString "shift_left") (nat_lit 307)), (@PySem.Value.str (@PySem.Str.ofString "shift_left") (nat_lit 308)), (@PySem.Value.str (@PySem.Str.ofString "/claim/cut.py") (nat_lit 309)), (@PySem.Value.int (Int.ofNat (nat_lit 61)) (nat_lit 0)), (@PySem.Value.int (Int.ofNat (nat_lit 3)) (nat_lit 0)), (@PySem.Value.int (Int.ofNat (nat_lit 0)) (nat_lit 0)), (@PySem.Value.int (Int.ofNat (nat_lit 0)) (nat_lit 0)), (@PySem.Value.int (Int.ofNat (nat_lit 3)) (nat_lit 0)), (@PySem.Value.ref (nat_lit 94)), (@PySem.Value.bool @Bool.true), (@PySem.Value.int (Int.ofNat (nat_lit 181)) (nat_lit 0)), (@PySem.Value.ref (nat_lit 95)), @PySem.Value.none, (@PySem.Value.ref (nat_lit 96)), (@PySem.Value.ref (nat_lit 97)), (@PySem.Value.ref (nat_lit 98)), (@PySem.Value.int (Int.ofNat (nat_lit 319)) (nat_lit 0)), (@PySem.Value.int (Int.ofNat (nat_lit 61)) (nat_lit 0)), (@PySem.Value.str (@PySem.Str.ofString "/claim/cut.py") (nat_lit 320))])) (Array.mk []))
noncomputable def ho_100 (P : Params) : Obj := (@PySem.Obj.mk (@PySem.Value.type "function") (@Option.none @Nat) (@PySem.Data.func (@PySem.FuncData.mk (@PySem.Str.ofString "shift_left") (@PySem.Str.ofString "shift_left") (fPar 10) (fBody 10) (fScope 10) (nat_lit 3) [] @PySem.Value.none @PySem.Value.none @PySem.Value.none (@PySem.Value.str (@PySem.Str.ofString "gmp.limbs") (nat_lit 187)) (@Option.none @Nat) (@PySem.Value.ref (nat_lit 99)) @PySem.Value.none (nat_lit 0))) (Array.mk []))
noncomputable def ho_101 (P : Params) : Obj := (@PySem.Obj.mk (@PySem.Value.type "tuple") (@Option.none @Nat) (@PySem.Data.seq (Array.mk []) (nat_lit 0)) (Array.mk []))
noncomputable def ho_102 (P : Params) : Obj := (@PySem.Obj.mk @PySem.Value.none (@Option.none @Nat) (@PySem.Data.fields (Array.mk [])) (Array.mk []))
noncomputable def ho_103 (P : Params) : Obj := (@PySem.Obj.mk (@PySem.Value.type "tuple") (@Option.none @Nat) (@PySem.Data.seq (Array.mk [(@PySem.Value.str (@PySem.Str.ofString "a") (nat_lit 325)), (@PySem.Value.str (@PySem.Str.ofString "n") (nat_lit 326)), (@PySem.Value.str (@PySem.Str.ofString "w") (nat_lit 327)), (@PySem.Value.str (@PySem.Str.ofString "spots") (nat_lit 328)), (@PySem.Value.str (@PySem.Str.ofString "few") (nat_lit 329)), (@PySem.Value.str (@PySem.Str.ofString "found") (nat_lit 330)), (@PySem.Value.str (@PySem.Str.ofString "mask") (nat_lit 331)), (@PySem.Value.str (@PySem.Str.ofString "at") (nat_lit 332)), (@PySem.Value.str (@PySem.Str.ofString "above") (nat_lit 333))]) (nat_lit 0)) (Array.mk []))
noncomputable def ho_104 (P : Params) : Obj := (@PySem.Obj.mk (@PySem.Value.type "tuple") (@Option.none @Nat) (@PySem.Data.seq (Array.mk []) (nat_lit 0)) (Array.mk []))
noncomputable def ho_105 (P : Params) : Obj := (@PySem.Obj.mk @PySem.Value.none (@Option.none @Nat) (@PySem.Data.func (@PySem.FuncData.mk (@PySem.Str.ofString "shift_right") (@PySem.Str.ofString "shift_right") (fPar 11) (fBody 11) (fScope 11) (nat_lit 0) [] @PySem.Value.none @PySem.Value.none @PySem.Value.none @PySem.Value.none (@Option.none @Nat) @PySem.Value.none @PySem.Value.none (nat_lit 0))) (Array.mk []))
noncomputable def ho_106 (P : Params) : Obj := (@PySem.Obj.mk (@PySem.Value.type "code") (@Option.none @Nat) (@PySem.Data.fields (Array.mk [(@PySem.Value.str (@PySem.Str.ofString "shift_right") (nat_lit 322)), (@PySem.Value.str (@PySem.Str.ofString "shift_right") (nat_lit 323)), (@PySem.Value.str (@PySem.Str.ofString "/claim/cut.py") (nat_lit 324)), (@PySem.Value.int (Int.ofNat (nat_lit 73)) (nat_lit 0)), (@PySem.Value.int (Int.ofNat (nat_lit 3)) (nat_lit 0)), (@PySem.Value.int (Int.ofNat (nat_lit 0)) (nat_lit 0)), (@PySem.Value.int (Int.ofNat (nat_lit 0)) (nat_lit 0)), (@PySem.Value.int (Int.ofNat (nat_lit 3)) (nat_lit 0)), (@PySem.Value.ref (nat_lit 101)), (@PySem.Value.bool @Bool.true), (@PySem.Value.int (Int.ofNat (nat_lit 181)) (nat_lit 0)), (@PySem.Value.ref (nat_lit 102)), @PySem.Value.none, (@PySem.Value.ref (nat_lit 103)), (@PySem.Value.ref (nat_lit 104)), (@PySem.Value.ref (nat_lit 105)), (@PySem.Value.int (Int.ofNat (nat_lit 334)) (nat_lit 0)), (@PySem.Value.int (Int.ofNat (nat_lit 73)) (nat_lit 0)), (@PySem.Value.str (@PySem.Str.ofString "/claim/cut.py") (nat_lit 335))])) (Array.mk []))
noncomputable def ho_107 (P : Params) : Obj := (@PySem.Obj.mk (@PySem.Value.type "function") (@Option.none @Nat) (@PySem.Data.func (@PySem.FuncData.mk (@PySem.Str.ofString "shift_right") (@PySem.Str.ofString "shift_right") (fPar 11) (fBody 11) (fScope 11) (nat_lit 3) [] @PySem.Value.none @PySem.Value.none @PySem.Value.none (@PySem.Value.str (@PySem.Str.ofString "gmp.limbs") (nat_lit 187)) (@Option.none @Nat) (@PySem.Value.ref (nat_lit 106)) @PySem.Value.none (nat_lit 0))) (Array.mk []))
noncomputable def ho_108 (P : Params) : Obj := (@PySem.Obj.mk (@PySem.Value.type "tuple") (@Option.none @Nat) (@PySem.Data.seq (Array.mk []) (nat_lit 0)) (Array.mk []))
noncomputable def ho_109 (P : Params) : Obj := (@PySem.Obj.mk @PySem.Value.none (@Option.none @Nat) (@PySem.Data.fields (Array.mk [])) (Array.mk []))
noncomputable def ho_110 (P : Params) : Obj := (@PySem.Obj.mk (@PySem.Value.type "tuple") (@Option.none @Nat) (@PySem.Data.seq (Array.mk [(@PySem.Value.str (@PySem.Str.ofString "a") (nat_lit 340)), (@PySem.Value.str (@PySem.Str.ofString "w") (nat_lit 341))]) (nat_lit 0)) (Array.mk []))
noncomputable def ho_111 (P : Params) : Obj := (@PySem.Obj.mk (@PySem.Value.type "tuple") (@Option.none @Nat) (@PySem.Data.seq (Array.mk []) (nat_lit 0)) (Array.mk []))
noncomputable def ho_112 (P : Params) : Obj := (@PySem.Obj.mk @PySem.Value.none (@Option.none @Nat) (@PySem.Data.func (@PySem.FuncData.mk (@PySem.Str.ofString "bits") (@PySem.Str.ofString "bits") (fPar 12) (fBody 12) (fScope 12) (nat_lit 0) [] @PySem.Value.none @PySem.Value.none @PySem.Value.none @PySem.Value.none (@Option.none @Nat) @PySem.Value.none @PySem.Value.none (nat_lit 0))) (Array.mk []))
noncomputable def ho_113 (P : Params) : Obj := (@PySem.Obj.mk (@PySem.Value.type "code") (@Option.none @Nat) (@PySem.Data.fields (Array.mk [(@PySem.Value.str (@PySem.Str.ofString "bits") (nat_lit 337)), (@PySem.Value.str (@PySem.Str.ofString "bits") (nat_lit 338)), (@PySem.Value.str (@PySem.Str.ofString "/claim/cut.py") (nat_lit 339)), (@PySem.Value.int (Int.ofNat (nat_lit 80)) (nat_lit 0)), (@PySem.Value.int (Int.ofNat (nat_lit 2)) (nat_lit 0)), (@PySem.Value.int (Int.ofNat (nat_lit 0)) (nat_lit 0)), (@PySem.Value.int (Int.ofNat (nat_lit 0)) (nat_lit 0)), (@PySem.Value.int (Int.ofNat (nat_lit 3)) (nat_lit 0)), (@PySem.Value.ref (nat_lit 108)), (@PySem.Value.bool @Bool.true), (@PySem.Value.int (Int.ofNat (nat_lit 181)) (nat_lit 0)), (@PySem.Value.ref (nat_lit 109)), @PySem.Value.none, (@PySem.Value.ref (nat_lit 110)), (@PySem.Value.ref (nat_lit 111)), (@PySem.Value.ref (nat_lit 112)), (@PySem.Value.int (Int.ofNat (nat_lit 342)) (nat_lit 0)), (@PySem.Value.int (Int.ofNat (nat_lit 80)) (nat_lit 0)), (@PySem.Value.str (@PySem.Str.ofString "/claim/cut.py") (nat_lit 343))])) (Array.mk []))
noncomputable def ho_114 (P : Params) : Obj := (@PySem.Obj.mk (@PySem.Value.type "function") (@Option.none @Nat) (@PySem.Data.func (@PySem.FuncData.mk (@PySem.Str.ofString "bits") (@PySem.Str.ofString "bits") (fPar 12) (fBody 12) (fScope 12) (nat_lit 3) [] @PySem.Value.none @PySem.Value.none @PySem.Value.none (@PySem.Value.str (@PySem.Str.ofString "gmp.limbs") (nat_lit 187)) (@Option.none @Nat) (@PySem.Value.ref (nat_lit 113)) @PySem.Value.none (nat_lit 0))) (Array.mk []))
noncomputable def ho_115 (P : Params) : Obj := (@PySem.Obj.mk (@PySem.Value.type "tuple") (@Option.none @Nat) (@PySem.Data.seq (Array.mk []) (nat_lit 0)) (Array.mk []))
noncomputable def ho_116 (P : Params) : Obj := (@PySem.Obj.mk @PySem.Value.none (@Option.none @Nat) (@PySem.Data.fields (Array.mk [])) (Array.mk []))
noncomputable def ho_117 (P : Params) : Obj := (@PySem.Obj.mk (@PySem.Value.type "tuple") (@Option.none @Nat) (@PySem.Data.seq (Array.mk [(@PySem.Value.str (@PySem.Str.ofString "is_below") (nat_lit 350)), (@PySem.Value.str (@PySem.Str.ofString "nat") (nat_lit 351))]) (nat_lit 0)) (Array.mk []))
noncomputable def ho_118 (P : Params) : Obj := (@PySem.Obj.mk (@PySem.Value.type "tuple") (@Option.none @Nat) (@PySem.Data.seq (Array.mk []) (nat_lit 0)) (Array.mk []))
noncomputable def ho_119 (P : Params) : Obj := (@PySem.Obj.mk @PySem.Value.none (@Option.none @Nat) (@PySem.Data.func (@PySem.FuncData.mk (@PySem.Str.ofString "signed") (@PySem.Str.ofString "signed") (fPar 14) (fBody 14) (fScope 14) (nat_lit 0) [] @PySem.Value.none @PySem.Value.none @PySem.Value.none @PySem.Value.none (@Option.none @Nat) @PySem.Value.none @PySem.Value.none (nat_lit 0))) (Array.mk []))
noncomputable def ho_120 (P : Params) : Obj := (@PySem.Obj.mk (@PySem.Value.type "code") (@Option.none @Nat) (@PySem.Data.fields (Array.mk [(@PySem.Value.str (@PySem.Str.ofString "signed") (nat_lit 347)), (@PySem.Value.str (@PySem.Str.ofString "signed") (nat_lit 348)), (@PySem.Value.str (@PySem.Str.ofString "/claim/cut.py") (nat_lit 349)), (@PySem.Value.int (Int.ofNat (nat_lit 83)) (nat_lit 0)), (@PySem.Value.int (Int.ofNat (nat_lit 2)) (nat_lit 0)), (@PySem.Value.int (Int.ofNat (nat_lit 0)) (nat_lit 0)), (@PySem.Value.int (Int.ofNat (nat_lit 0)) (nat_lit 0)), (@PySem.Value.int (Int.ofNat (nat_lit 3)) (nat_lit 0)), (@PySem.Value.ref (nat_lit 115)), (@PySem.Value.bool @Bool.true), (@PySem.Value.int (Int.ofNat (nat_lit 181)) (nat_lit 0)), (@PySem.Value.ref (nat_lit 116)), @PySem.Value.none, (@PySem.Value.ref (nat_lit 117)), (@PySem.Value.ref (nat_lit 118)), (@PySem.Value.ref (nat_lit 119)), (@PySem.Value.int (Int.ofNat (nat_lit 352)) (nat_lit 0)), (@PySem.Value.int (Int.ofNat (nat_lit 83)) (nat_lit 0)), (@PySem.Value.str (@PySem.Str.ofString "/claim/cut.py") (nat_lit 353))])) (Array.mk []))
noncomputable def ho_121 (P : Params) : Obj := (@PySem.Obj.mk (@PySem.Value.type "function") (@Option.none @Nat) (@PySem.Data.func (@PySem.FuncData.mk (@PySem.Str.ofString "signed") (@PySem.Str.ofString "signed") (fPar 14) (fBody 14) (fScope 14) (nat_lit 3) [] @PySem.Value.none @PySem.Value.none @PySem.Value.none (@PySem.Value.str (@PySem.Str.ofString "gmp.signed") (nat_lit 345)) (@Option.none @Nat) (@PySem.Value.ref (nat_lit 120)) @PySem.Value.none (nat_lit 0))) (Array.mk []))
noncomputable def ho_122 (P : Params) : Obj := (@PySem.Obj.mk (@PySem.Value.type "tuple") (@Option.none @Nat) (@PySem.Data.seq (Array.mk []) (nat_lit 0)) (Array.mk []))
noncomputable def ho_123 (P : Params) : Obj := (@PySem.Obj.mk @PySem.Value.none (@Option.none @Nat) (@PySem.Data.fields (Array.mk [])) (Array.mk []))
noncomputable def ho_124 (P : Params) : Obj := (@PySem.Obj.mk (@PySem.Value.type "tuple") (@Option.none @Nat) (@PySem.Data.seq (Array.mk [(@PySem.Value.str (@PySem.Str.ofString "number") (nat_lit 358)), (@PySem.Value.str (@PySem.Str.ofString "w") (nat_lit 359))]) (nat_lit 0)) (Array.mk []))
noncomputable def ho_125 (P : Params) : Obj := (@PySem.Obj.mk (@PySem.Value.type "tuple") (@Option.none @Nat) (@PySem.Data.seq (Array.mk []) (nat_lit 0)) (Array.mk []))
noncomputable def ho_126 (P : Params) : Obj := (@PySem.Obj.mk @PySem.Value.none (@Option.none @Nat) (@PySem.Data.func (@PySem.FuncData.mk (@PySem.Str.ofString "s_of") (@PySem.Str.ofString "s_of") (fPar 15) (fBody 15) (fScope 15) (nat_lit 0) [] @PySem.Value.none @PySem.Value.none @PySem.Value.none @PySem.Value.none (@Option.none @Nat) @PySem.Value.none @PySem.Value.none (nat_lit 0))) (Array.mk []))
noncomputable def ho_127 (P : Params) : Obj := (@PySem.Obj.mk (@PySem.Value.type "code") (@Option.none @Nat) (@PySem.Data.fields (Array.mk [(@PySem.Value.str (@PySem.Str.ofString "s_of") (nat_lit 355)), (@PySem.Value.str (@PySem.Str.ofString "s_of") (nat_lit 356)), (@PySem.Value.str (@PySem.Str.ofString "/claim/cut.py") (nat_lit 357)), (@PySem.Value.int (Int.ofNat (nat_lit 85)) (nat_lit 0)), (@PySem.Value.int (Int.ofNat (nat_lit 2)) (nat_lit 0)), (@PySem.Value.int (Int.ofNat (nat_lit 0)) (nat_lit 0)), (@PySem.Value.int (Int.ofNat (nat_lit 0)) (nat_lit 0)), (@PySem.Value.int (Int.ofNat (nat_lit 3)) (nat_lit 0)), (@PySem.Value.ref (nat_lit 122)), (@PySem.Value.bool @Bool.true), (@PySem.Value.int (Int.ofNat (nat_lit 181)) (nat_lit 0)), (@PySem.Value.ref (nat_lit 123)), @PySem.Value.none, (@PySem.Value.ref (nat_lit 124)), (@PySem.Value.ref (nat_lit 125)), (@PySem.Value.ref (nat_lit 126)), (@PySem.Value.int (Int.ofNat (nat_lit 360)) (nat_lit 0)), (@PySem.Value.int (Int.ofNat (nat_lit 85)) (nat_lit 0)), (@PySem.Value.str (@PySem.Str.ofString "/claim/cut.py") (nat_lit 361))])) (Array.mk []))
noncomputable def ho_128 (P : Params) : Obj := (@PySem.Obj.mk (@PySem.Value.type "function") (@Option.none @Nat) (@PySem.Data.func (@PySem.FuncData.mk (@PySem.Str.ofString "s_of") (@PySem.Str.ofString "s_of") (fPar 15) (fBody 15) (fScope 15) (nat_lit 3) [] @PySem.Value.none @PySem.Value.none @PySem.Value.none (@PySem.Value.str (@PySem.Str.ofString "gmp.signed") (nat_lit 345)) (@Option.none @Nat) (@PySem.Value.ref (nat_lit 127)) @PySem.Value.none (nat_lit 0))) (Array.mk []))
noncomputable def ho_129 (P : Params) : Obj := (@PySem.Obj.mk (@PySem.Value.type "tuple") (@Option.none @Nat) (@PySem.Data.seq (Array.mk []) (nat_lit 0)) (Array.mk []))
noncomputable def ho_130 (P : Params) : Obj := (@PySem.Obj.mk @PySem.Value.none (@Option.none @Nat) (@PySem.Data.fields (Array.mk [])) (Array.mk []))
noncomputable def ho_131 (P : Params) : Obj := (@PySem.Obj.mk (@PySem.Value.type "tuple") (@Option.none @Nat) (@PySem.Data.seq (Array.mk [(@PySem.Value.str (@PySem.Str.ofString "x") (nat_lit 366))]) (nat_lit 0)) (Array.mk []))
noncomputable def ho_132 (P : Params) : Obj := (@PySem.Obj.mk (@PySem.Value.type "tuple") (@Option.none @Nat) (@PySem.Data.seq (Array.mk []) (nat_lit 0)) (Array.mk []))
noncomputable def ho_133 (P : Params) : Obj := (@PySem.Obj.mk @PySem.Value.none (@Option.none @Nat) (@PySem.Data.func (@PySem.FuncData.mk (@PySem.Str.ofString "s_neg") (@PySem.Str.ofString "s_neg") (fPar 16) (fBody 16) (fScope 16) (nat_lit 0) [] @PySem.Value.none @PySem.Value.none @PySem.Value.none @PySem.Value.none (@Option.none @Nat) @PySem.Value.none @PySem.Value.none (nat_lit 0))) (Array.mk []))
noncomputable def ho_134 (P : Params) : Obj := (@PySem.Obj.mk (@PySem.Value.type "code") (@Option.none @Nat) (@PySem.Data.fields (Array.mk [(@PySem.Value.str (@PySem.Str.ofString "s_neg") (nat_lit 363)), (@PySem.Value.str (@PySem.Str.ofString "s_neg") (nat_lit 364)), (@PySem.Value.str (@PySem.Str.ofString "/claim/cut.py") (nat_lit 365)), (@PySem.Value.int (Int.ofNat (nat_lit 87)) (nat_lit 0)), (@PySem.Value.int (Int.ofNat (nat_lit 1)) (nat_lit 0)), (@PySem.Value.int (Int.ofNat (nat_lit 0)) (nat_lit 0)), (@PySem.Value.int (Int.ofNat (nat_lit 0)) (nat_lit 0)), (@PySem.Value.int (Int.ofNat (nat_lit 3)) (nat_lit 0)), (@PySem.Value.ref (nat_lit 129)), (@PySem.Value.bool @Bool.true), (@PySem.Value.int (Int.ofNat (nat_lit 181)) (nat_lit 0)), (@PySem.Value.ref (nat_lit 130)), @PySem.Value.none, (@PySem.Value.ref (nat_lit 131)), (@PySem.Value.ref (nat_lit 132)), (@PySem.Value.ref (nat_lit 133)), (@PySem.Value.int (Int.ofNat (nat_lit 367)) (nat_lit 0)), (@PySem.Value.int (Int.ofNat (nat_lit 87)) (nat_lit 0)), (@PySem.Value.str (@PySem.Str.ofString "/claim/cut.py") (nat_lit 368))])) (Array.mk []))
noncomputable def ho_135 (P : Params) : Obj := (@PySem.Obj.mk (@PySem.Value.type "function") (@Option.none @Nat) (@PySem.Data.func (@PySem.FuncData.mk (@PySem.Str.ofString "s_neg") (@PySem.Str.ofString "s_neg") (fPar 16) (fBody 16) (fScope 16) (nat_lit 3) [] @PySem.Value.none @PySem.Value.none @PySem.Value.none (@PySem.Value.str (@PySem.Str.ofString "gmp.signed") (nat_lit 345)) (@Option.none @Nat) (@PySem.Value.ref (nat_lit 134)) @PySem.Value.none (nat_lit 0))) (Array.mk []))
noncomputable def ho_136 (P : Params) : Obj := (@PySem.Obj.mk (@PySem.Value.type "tuple") (@Option.none @Nat) (@PySem.Data.seq (Array.mk []) (nat_lit 0)) (Array.mk []))
noncomputable def ho_137 (P : Params) : Obj := (@PySem.Obj.mk @PySem.Value.none (@Option.none @Nat) (@PySem.Data.fields (Array.mk [])) (Array.mk []))
noncomputable def ho_138 (P : Params) : Obj := (@PySem.Obj.mk (@PySem.Value.type "tuple") (@Option.none @Nat) (@PySem.Data.seq (Array.mk [(@PySem.Value.str (@PySem.Str.ofString "x") (nat_lit 373))]) (nat_lit 0)) (Array.mk []))
noncomputable def ho_139 (P : Params) : Obj := (@PySem.Obj.mk (@PySem.Value.type "tuple") (@Option.none @Nat) (@PySem.Data.seq (Array.mk []) (nat_lit 0)) (Array.mk []))
noncomputable def ho_140 (P : Params) : Obj := (@PySem.Obj.mk @PySem.Value.none (@Option.none @Nat) (@PySem.Data.func (@PySem.FuncData.mk (@PySem.Str.ofString "s_sign") (@PySem.Str.ofString "s_sign") (fPar 17) (fBody 17) (fScope 17) (nat_lit 0) [] @PySem.Value.none @PySem.Value.none @PySem.Value.none @PySem.Value.none (@Option.none @Nat) @PySem.Value.none @PySem.Value.none (nat_lit 0))) (Array.mk []))
noncomputable def ho_141 (P : Params) : Obj := (@PySem.Obj.mk (@PySem.Value.type "code") (@Option.none @Nat) (@PySem.Data.fields (Array.mk [(@PySem.Value.str (@PySem.Str.ofString "s_sign") (nat_lit 370)), (@PySem.Value.str (@PySem.Str.ofString "s_sign") (nat_lit 371)), (@PySem.Value.str (@PySem.Str.ofString "/claim/cut.py") (nat_lit 372)), (@PySem.Value.int (Int.ofNat (nat_lit 89)) (nat_lit 0)), (@PySem.Value.int (Int.ofNat (nat_lit 1)) (nat_lit 0)), (@PySem.Value.int (Int.ofNat (nat_lit 0)) (nat_lit 0)), (@PySem.Value.int (Int.ofNat (nat_lit 0)) (nat_lit 0)), (@PySem.Value.int (Int.ofNat (nat_lit 3)) (nat_lit 0)), (@PySem.Value.ref (nat_lit 136)), (@PySem.Value.bool @Bool.true), (@PySem.Value.int (Int.ofNat (nat_lit 181)) (nat_lit 0)), (@PySem.Value.ref (nat_lit 137)), @PySem.Value.none, (@PySem.Value.ref (nat_lit 138)), (@PySem.Value.ref (nat_lit 139)), (@PySem.Value.ref (nat_lit 140)), (@PySem.Value.int (Int.ofNat (nat_lit 374)) (nat_lit 0)), (@PySem.Value.int (Int.ofNat (nat_lit 89)) (nat_lit 0)), (@PySem.Value.str (@PySem.Str.ofString "/claim/cut.py") (nat_lit 375))])) (Array.mk []))
noncomputable def ho_142 (P : Params) : Obj := (@PySem.Obj.mk (@PySem.Value.type "function") (@Option.none @Nat) (@PySem.Data.func (@PySem.FuncData.mk (@PySem.Str.ofString "s_sign") (@PySem.Str.ofString "s_sign") (fPar 17) (fBody 17) (fScope 17) (nat_lit 3) [] @PySem.Value.none @PySem.Value.none @PySem.Value.none (@PySem.Value.str (@PySem.Str.ofString "gmp.signed") (nat_lit 345)) (@Option.none @Nat) (@PySem.Value.ref (nat_lit 141)) @PySem.Value.none (nat_lit 0))) (Array.mk []))
noncomputable def tr_4 (P : Params) : BT := (.node (boot_o_0 P) (.node (boot_o_1 P) (.node (ho_3_4 P) (.node (boot_o_7 P) (.node (ho_15 P) (.node (ho_31 P) (.node (ho_63 P) (.node (ho_127 P) .nil .nil) .nil) (.node (ho_95 P) .nil .nil)) (.node (ho_47 P) (.node (ho_79 P) .nil .nil) (.node (ho_111 P) .nil .nil))) (.node (ho_23 P) (.node (ho_39 P) (.node (ho_71 P) (.node (ho_135 P) .nil .nil) .nil) (.node (ho_103 P) .nil .nil)) (.node (ho_55 P) (.node (ho_87 P) .nil .nil) (.node (ho_119 P) .nil .nil)))) (.node (ho_11 P) (.node (ho_19 P) (.node (ho_35 P) (.node (ho_67 P) (.node (ho_131 P) .nil .nil) .nil) (.node (ho_99 P) .nil .nil)) (.node (ho_51 P) (.node (ho_83 P) .nil .nil) (.node (ho_115 P) .nil .nil))) (.node (ho_27 P) (.node (ho_43 P) (.node (ho_75 P) (.node (ho_139 P) .nil .nil) .nil) (.node (ho_107 P) .nil .nil)) (.node (ho_59 P) (.node (ho_91 P) .nil .nil) (.node (ho_123 P) .nil .nil))))) (.node (boot_o_5 P) (.node (boot_o_9 P) (.node (ho_17 P) (.node (ho_33 P) (.node (ho_65 P) (.node (ho_129 P) .nil .nil) .nil) (.node (ho_97 P) .nil .nil)) (.node (ho_49 P) (.node (ho_81 P) .nil .nil) (.node (ho_113 P) .nil .nil))) (.node (ho_25 P) (.node (ho_41 P) (.node (ho_73 P) (.node (ho_137 P) .nil .nil) .nil) (.node (ho_105 P) .nil .nil)) (.node (ho_57 P) (.node (ho_89 P) .nil .nil) (.node (ho_121 P) .nil .nil)))) (.node (ho_13 P) (.node (ho_21 P) (.node (ho_37 P) (.node (ho_69 P) (.node (ho_133 P) .nil .nil) .nil) (.node (ho_101 P) .nil .nil)) (.node (ho_53 P) (.node (ho_85 P) .nil .nil) (.node (ho_117 P) .nil .nil))) (.node (ho_29 P) (.node (ho_45 P) (.node (ho_77 P) (.node (ho_141 P) .nil .nil) .nil) (.node (ho_109 P) .nil .nil)) (.node (ho_61 P) (.node (ho_93 P) .nil .nil) (.node (ho_125 P) .nil .nil)))))) (.node (ho_2_1 P) (.node (boot_o_4 P) (.node (boot_o_8 P) (.node (ho_16 P) (.node (ho_32 P) (.node (ho_64 P) (.node (ho_128 P) .nil .nil) .nil) (.node (ho_96 P) .nil .nil)) (.node (ho_48 P) (.node (ho_80 P) .nil .nil) (.node (ho_112 P) .nil .nil))) (.node (ho_24_2 P) (.node (ho_40 P) (.node (ho_72 P) (.node (ho_136 P) .nil .nil) .nil) (.node (ho_104 P) .nil .nil)) (.node (ho_56 P) (.node (ho_88 P) .nil .nil) (.node (ho_120 P) .nil .nil)))) (.node (ho_12_4 P) (.node (ho_20 P) (.node (ho_36 P) (.node (ho_68 P) (.node (ho_132 P) .nil .nil) .nil) (.node (ho_100 P) .nil .nil)) (.node (ho_52 P) (.node (ho_84 P) .nil .nil) (.node (ho_116 P) .nil .nil))) (.node (ho_28 P) (.node (ho_44 P) (.node (ho_76 P) (.node (ho_140 P) .nil .nil) .nil) (.node (ho_108 P) .nil .nil)) (.node (ho_60 P) (.node (ho_92 P) .nil .nil) (.node (ho_124 P) .nil .nil))))) (.node (boot_o_6 P) (.node (boot_o_10 P) (.node (ho_18 P) (.node (ho_34 P) (.node (ho_66 P) (.node (ho_130 P) .nil .nil) .nil) (.node (ho_98 P) .nil .nil)) (.node (ho_50 P) (.node (ho_82 P) .nil .nil) (.node (ho_114 P) .nil .nil))) (.node (ho_26 P) (.node (ho_42 P) (.node (ho_74 P) (.node (ho_138 P) .nil .nil) .nil) (.node (ho_106 P) .nil .nil)) (.node (ho_58 P) (.node (ho_90 P) .nil .nil) (.node (ho_122 P) .nil .nil)))) (.node (ho_14 P) (.node (ho_22 P) (.node (ho_38 P) (.node (ho_70 P) (.node (ho_134 P) .nil .nil) .nil) (.node (ho_102 P) .nil .nil)) (.node (ho_54 P) (.node (ho_86 P) .nil .nil) (.node (ho_118 P) .nil .nil))) (.node (ho_30 P) (.node (ho_46 P) (.node (ho_78 P) (.node (ho_142 P) .nil .nil) .nil) (.node (ho_110 P) .nil .nil)) (.node (ho_62 P) (.node (ho_94 P) .nil .nil) (.node (ho_126 P) .nil .nil)))))))
noncomputable def sT_4 (w : World) (os : OsState) : SharedT := ⟨tr_4 w.params, 143, (@PySem.Life.mk [] [] [] (nat_lit 0) [] [] @Bool.false (Array.mk []) [] (nat_lit 0) @Bool.false @Bool.false @Bool.false (Int.ofNat (nat_lit 0)) [(Int.ofNat (nat_lit 2000)), (Int.ofNat (nat_lit 10)), (Int.ofNat (nat_lit 10))] @Bool.false (nat_lit 0) @Bool.true [] [] (nat_lit 0) @Bool.false), ⟨[]⟩, (@PySem.Drawn.mk (nat_lit 0) (nat_lit 0) (nat_lit 0) (nat_lit 0)), 377, os⟩
noncomputable def hp_4 : Pos := (@PySem.Pos.mk (nat_lit 89) (nat_lit 0) (nat_lit 92) (nat_lit 28))
noncomputable def st_4 : List Stmt := ((behindTheImports pw).drop 4).take 14
theorem seg_4 : ∀ w : World, (fun os => segRunT treeTable pw w 11 hAnn 1 430 (sT_3 w os) (piecesOf st_4 hEnv hCode hp_3 [topFrame hp_q])) = fun os => some (Flow.next, sT_4 w os, hCode, hp_4) := by
  rewrite [PySem.W.Fast.te10110043849684766642, PySem.W.Fast.te14364793385576792824]
  intro w
  kernel_rfl
noncomputable def ho_3_5 (P : Params) : Obj := (@PySem.Obj.mk (@PySem.Value.type "dict") (@Option.none @Nat) (@PySem.Data.dict (Array.mk [(@PySem.DictEntry.mk (@PySem.PyData.keyHash P (@PySem.Str.ofString "__name__")) (@PySem.Value.str (@PySem.Str.ofString "__name__") (nat_lit 165)) (@PySem.Value.str (@PySem.Str.ofString "gmp.school") (nat_lit 489))), (@PySem.DictEntry.mk (@PySem.PyData.keyHash P (@PySem.Str.ofString "__doc__")) (@PySem.Value.str (@PySem.Str.ofString "__doc__") (nat_lit 166)) @PySem.Value.none), (@PySem.DictEntry.mk (@PySem.PyData.keyHash P (@PySem.Str.ofString "__package__")) (@PySem.Value.str (@PySem.Str.ofString "__package__") (nat_lit 167)) @PySem.Value.none), (@PySem.DictEntry.mk (@PySem.PyData.keyHash P (@PySem.Str.ofString "__loader__")) (@PySem.Value.str (@PySem.Str.ofString "__loader__") (nat_lit 168)) (@PySem.Value.builtin "__main__.__loader__#opaque")), (@PySem.DictEntry.mk (@PySem.PyData.keyHash P (@PySem.Str.ofString "__spec__")) (@PySem.Value.str (@PySem.Str.ofString "__spec__") (nat_lit 169)) @PySem.Value.none), (@PySem.DictEntry.mk (@PySem.PyData.keyHash P (@PySem.Str.ofString "__annotations__")) (@PySem.Value.str (@PySem.Str.ofString "__annotations__") (nat_lit 170)) (@PySem.Value.ref (nat_lit 6))), (@PySem.DictEntry.mk (@PySem.PyData.keyHash P (@PySem.Str.ofString "__builtins__")) (@PySem.Value.str (@PySem.Str.ofString "__builtins__") (nat_lit 171)) (@PySem.Value.ref (nat_lit 4))), (@PySem.DictEntry.mk (@PySem.PyData.keyHash P (@PySem.Str.ofString "__file__")) (@PySem.Value.str (@PySem.Str.ofString "__file__") (nat_lit 173)) (@PySem.Value.str (@PySem.Str.ofString "/claim/cut.py") (nat_lit 172))), (@PySem.DictEntry.mk (@PySem.PyData.keyHash P (@PySem.Str.ofString "__cached__")) (@PySem.Value.str (@PySem.Str.ofString "__cached__") (nat_lit 174)) @PySem.Value.none), (@PySem.DictEntry.mk (@PySem.PyData.keyHash P (@PySem.Str.ofString "GmpError")) (@PySem.Value.str (@PySem.Str.ofString "GmpError") (nat_lit 208)) (@PySem.Value.ref (nat_lit 24))), (@PySem.DictEntry.mk (@PySem.PyData.keyHash P (@PySem.Str.ofString "DivisionByZero")) (@PySem.Value.str (@PySem.Str.ofString "DivisionByZero") (nat_lit 224)) (@PySem.Value.ref (nat_lit 37))), (@PySem.DictEntry.mk (@PySem.PyData.keyHash P (@PySem.Str.ofString "OutOfRange")) (@PySem.Value.str (@PySem.Str.ofString "OutOfRange") (nat_lit 240)) (@PySem.Value.ref (nat_lit 49))), (@PySem.DictEntry.mk (@PySem.PyData.keyHash P (@PySem.Str.ofString "normal")) (@PySem.Value.str (@PySem.Str.ofString "normal") (nat_lit 248)) (@PySem.Value.ref (nat_lit 58))), (@PySem.DictEntry.mk (@PySem.PyData.keyHash P (@PySem.Str.ofString "nat_of")) (@PySem.Value.str (@PySem.Str.ofString "nat_of") (nat_lit 258)) (@PySem.Value.ref (nat_lit 65))), (@PySem.DictEntry.mk (@PySem.PyData.keyHash P (@PySem.Str.ofString "compare")) (@PySem.Value.str (@PySem.Str.ofString "compare") (nat_lit 267)) (@PySem.Value.ref (nat_lit 72))), (@PySem.DictEntry.mk (@PySem.PyData.keyHash P (@PySem.Str.ofString "add")) (@PySem.Value.str (@PySem.Str.ofString "add") (nat_lit 280)) (@PySem.Value.ref (nat_lit 79))), (@PySem.DictEntry.mk (@PySem.PyData.keyHash P (@PySem.Str.ofString "sub")) (@PySem.Value.str (@PySem.Str.ofString "sub") (nat_lit 294)) (@PySem.Value.ref (nat_lit 86))), (@PySem.DictEntry.mk (@PySem.PyData.keyHash P (@PySem.Str.ofString "divrem_limb")) (@PySem.Value.str (@PySem.Str.ofString "divrem_limb") (nat_lit 306)) (@PySem.Value.ref (nat_lit 93))), (@PySem.DictEntry.mk (@PySem.PyData.keyHash P (@PySem.Str.ofString "shift_left")) (@PySem.Value.str (@PySem.Str.ofString "shift_left") (nat_lit 321)) (@PySem.Value.ref (nat_lit 100))), (@PySem.DictEntry.mk (@PySem.PyData.keyHash P (@PySem.Str.ofString "shift_right")) (@PySem.Value.str (@PySem.Str.ofString "shift_right") (nat_lit 336)) (@PySem.Value.ref (nat_lit 107))), (@PySem.DictEntry.mk (@PySem.PyData.keyHash P (@PySem.Str.ofString "bits")) (@PySem.Value.str (@PySem.Str.ofString "bits") (nat_lit 344)) (@PySem.Value.ref (nat_lit 114))), (@PySem.DictEntry.mk (@PySem.PyData.keyHash P (@PySem.Str.ofString "signed")) (@PySem.Value.str (@PySem.Str.ofString "signed") (nat_lit 354)) (@PySem.Value.ref (nat_lit 121))), (@PySem.DictEntry.mk (@PySem.PyData.keyHash P (@PySem.Str.ofString "s_of")) (@PySem.Value.str (@PySem.Str.ofString "s_of") (nat_lit 362)) (@PySem.Value.ref (nat_lit 128))), (@PySem.DictEntry.mk (@PySem.PyData.keyHash P (@PySem.Str.ofString "s_neg")) (@PySem.Value.str (@PySem.Str.ofString "s_neg") (nat_lit 369)) (@PySem.Value.ref (nat_lit 135))), (@PySem.DictEntry.mk (@PySem.PyData.keyHash P (@PySem.Str.ofString "s_sign")) (@PySem.Value.str (@PySem.Str.ofString "s_sign") (nat_lit 376)) (@PySem.Value.ref (nat_lit 142))), (@PySem.DictEntry.mk (@PySem.PyData.keyHash P (@PySem.Str.ofString "s_add")) (@PySem.Value.str (@PySem.Str.ofString "s_add") (nat_lit 385)) (@PySem.Value.ref (nat_lit 149))), (@PySem.DictEntry.mk (@PySem.PyData.keyHash P (@PySem.Str.ofString "s_sub")) (@PySem.Value.str (@PySem.Str.ofString "s_sub") (nat_lit 394)) (@PySem.Value.ref (nat_lit 156))), (@PySem.DictEntry.mk (@PySem.PyData.keyHash P (@PySem.Str.ofString "s_mul")) (@PySem.Value.str (@PySem.Str.ofString "s_mul") (nat_lit 404)) (@PySem.Value.ref (nat_lit 163))), (@PySem.DictEntry.mk (@PySem.PyData.keyHash P (@PySem.Str.ofString "tdiv")) (@PySem.Value.str (@PySem.Str.ofString "tdiv") (nat_lit 416)) (@PySem.Value.ref (nat_lit 170))), (@PySem.DictEntry.mk (@PySem.PyData.keyHash P (@PySem.Str.ofString "NOUGHT")) (@PySem.Value.str (@PySem.Str.ofString "NOUGHT") (nat_lit 419)) (@PySem.Value.ref (nat_lit 172))), (@PySem.DictEntry.mk (@PySem.PyData.keyHash P (@PySem.Str.ofString "UNIT")) (@PySem.Value.str (@PySem.Str.ofString "UNIT") (nat_lit 421)) (@PySem.Value.ref (nat_lit 174))), (@PySem.DictEntry.mk (@PySem.PyData.keyHash P (@PySem.Str.ofString "m_of")) (@PySem.Value.str (@PySem.Str.ofString "m_of") (nat_lit 427)) (@PySem.Value.ref (nat_lit 179))), (@PySem.DictEntry.mk (@PySem.PyData.keyHash P (@PySem.Str.ofString "exact")) (@PySem.Value.str (@PySem.Str.ofString "exact") (nat_lit 439)) (@PySem.Value.ref (nat_lit 186))), (@PySem.DictEntry.mk (@PySem.PyData.keyHash P (@PySem.Str.ofString "pivot_row")) (@PySem.Value.str (@PySem.Str.ofString "pivot_row") (nat_lit 449)) (@PySem.Value.ref (nat_lit 193))), (@PySem.DictEntry.mk (@PySem.PyData.keyHash P (@PySem.Str.ofString "cleared")) (@PySem.Value.str (@PySem.Str.ofString "cleared") (nat_lit 468)) (@PySem.Value.ref (nat_lit 200))), (@PySem.DictEntry.mk (@PySem.PyData.keyHash P (@PySem.Str.ofString "steps_down")) (@PySem.Value.str (@PySem.Str.ofString "steps_down") (nat_lit 474)) (@PySem.Value.ref (nat_lit 205))), (@PySem.DictEntry.mk (@PySem.PyData.keyHash P (@PySem.Str.ofString "det_bareiss")) (@PySem.Value.str (@PySem.Str.ofString "det_bareiss") (nat_lit 488)) (@PySem.Value.ref (nat_lit 212)))]) (nat_lit 37)) (Array.mk []))
noncomputable def ho_12_5 (P : Params) : Obj := (@PySem.Obj.mk @PySem.Value.none (@Option.none @Nat) (@PySem.Data.fields (Array.mk [(@PySem.Value.int (Int.ofNat (nat_lit 2)) (nat_lit 0)), (@PySem.Value.int (Int.ofNat (nat_lit 0)) (nat_lit 0)), (@PySem.Value.ref (nat_lit 20)), (@PySem.Value.int (Int.ofNat (nat_lit 4)) (nat_lit 0)), (@PySem.Value.int (Int.ofNat (nat_lit 0)) (nat_lit 0)), (@PySem.Value.ref (nat_lit 33)), (@PySem.Value.int (Int.ofNat (nat_lit 6)) (nat_lit 0)), (@PySem.Value.int (Int.ofNat (nat_lit 0)) (nat_lit 0)), (@PySem.Value.ref (nat_lit 45)), (@PySem.Value.int (Int.ofNat (nat_lit 8)) (nat_lit 0)), (@PySem.Value.int (Int.ofNat (nat_lit 0)) (nat_lit 0)), (@PySem.Value.ref (nat_lit 57)), (@PySem.Value.int (Int.ofNat (nat_lit 13)) (nat_lit 0)), (@PySem.Value.int (Int.ofNat (nat_lit 0)) (nat_lit 0)), (@PySem.Value.ref (nat_lit 64)), (@PySem.Value.int (Int.ofNat (nat_lit 21)) (nat_lit 0)), (@PySem.Value.int (Int.ofNat (nat_lit 0)) (nat_lit 0)), (@PySem.Value.ref (nat_lit 71)), (@PySem.Value.int (Int.ofNat (nat_lit 28)) (nat_lit 0)), (@PySem.Value.int (Int.ofNat (nat_lit 0)) (nat_lit 0)), (@PySem.Value.ref (nat_lit 78)), (@PySem.Value.int (Int.ofNat (nat_lit 43)) (nat_lit 0)), (@PySem.Value.int (Int.ofNat (nat_lit 0)) (nat_lit 0)), (@PySem.Value.ref (nat_lit 85)), (@PySem.Value.int (Int.ofNat (nat_lit 52)) (nat_lit 0)), (@PySem.Value.int (Int.ofNat (nat_lit 0)) (nat_lit 0)), (@PySem.Value.ref (nat_lit 92)), (@PySem.Value.int (Int.ofNat (nat_lit 61)) (nat_lit 0)), (@PySem.Value.int (Int.ofNat (nat_lit 0)) (nat_lit 0)), (@PySem.Value.ref (nat_lit 99)), (@PySem.Value.int (Int.ofNat (nat_lit 73)) (nat_lit 0)), (@PySem.Value.int (Int.ofNat (nat_lit 0)) (nat_lit 0)), (@PySem.Value.ref (nat_lit 106)), (@PySem.Value.int (Int.ofNat (nat_lit 80)) (nat_lit 0)), (@PySem.Value.int (Int.ofNat (nat_lit 0)) (nat_lit 0)), (@PySem.Value.ref (nat_lit 113)), (@PySem.Value.int (Int.ofNat (nat_lit 83)) (nat_lit 0)), (@PySem.Value.int (Int.ofNat (nat_lit 0)) (nat_lit 0)), (@PySem.Value.ref (nat_lit 120)), (@PySem.Value.int (Int.ofNat (nat_lit 85)) (nat_lit 0)), (@PySem.Value.int (Int.ofNat (nat_lit 0)) (nat_lit 0)), (@PySem.Value.ref (nat_lit 127)), (@PySem.Value.int (Int.ofNat (nat_lit 87)) (nat_lit 0)), (@PySem.Value.int (Int.ofNat (nat_lit 0)) (nat_lit 0)), (@PySem.Value.ref (nat_lit 134)), (@PySem.Value.int (Int.ofNat (nat_lit 89)) (nat_lit 0)), (@PySem.Value.int (Int.ofNat (nat_lit 0)) (nat_lit 0)), (@PySem.Value.ref (nat_lit 141)), (@PySem.Value.int (Int.ofNat (nat_lit 93)) (nat_lit 0)), (@PySem.Value.int (Int.ofNat (nat_lit 0)) (nat_lit 0)), (@PySem.Value.ref (nat_lit 148)), (@PySem.Value.int (Int.ofNat (nat_lit 99)) (nat_lit 0)), (@PySem.Value.int (Int.ofNat (nat_lit 0)) (nat_lit 0)), (@PySem.Value.ref (nat_lit 155)), (@PySem.Value.int (Int.ofNat (nat_lit 101)) (nat_lit 0)), (@PySem.Value.int (Int.ofNat (nat_lit 0)) (nat_lit 0)), (@PySem.Value.ref (nat_lit 162)), (@PySem.Value.int (Int.ofNat (nat_lit 103)) (nat_lit 0)), (@PySem.Value.int (Int.ofNat (nat_lit 0)) (nat_lit 0)), (@PySem.Value.ref (nat_lit 169)), (@PySem.Value.int (Int.ofNat (nat_lit 111)) (nat_lit 0)), (@PySem.Value.int (Int.ofNat (nat_lit 0)) (nat_lit 0)), (@PySem.Value.ref (nat_lit 178)), (@PySem.Value.int (Int.ofNat (nat_lit 113)) (nat_lit 0)), (@PySem.Value.int (Int.ofNat (nat_lit 0)) (nat_lit 0)), (@PySem.Value.ref (nat_lit 185)), (@PySem.Value.int (Int.ofNat (nat_lit 116)) (nat_lit 0)), (@PySem.Value.int (Int.ofNat (nat_lit 0)) (nat_lit 0)), (@PySem.Value.ref (nat_lit 192)), (@PySem.Value.int (Int.ofNat (nat_lit 121)) (nat_lit 0)), (@PySem.Value.int (Int.ofNat (nat_lit 0)) (nat_lit 0)), (@PySem.Value.ref (nat_lit 199)), (@PySem.Value.int (Int.ofNat (nat_lit 128)) (nat_lit 0)), (@PySem.Value.int (Int.ofNat (nat_lit 0)) (nat_lit 0)), (@PySem.Value.ref (nat_lit 204)), (@PySem.Value.int (Int.ofNat (nat_lit 142)) (nat_lit 0)), (@PySem.Value.int (Int.ofNat (nat_lit 0)) (nat_lit 0)), (@PySem.Value.ref (nat_lit 211))])) (Array.mk []))
noncomputable def ho_143 (P : Params) : Obj := (@PySem.Obj.mk (@PySem.Value.type "tuple") (@Option.none @Nat) (@PySem.Data.seq (Array.mk []) (nat_lit 0)) (Array.mk []))
noncomputable def ho_144 (P : Params) : Obj := (@PySem.Obj.mk @PySem.Value.none (@Option.none @Nat) (@PySem.Data.fields (Array.mk [])) (Array.mk []))
noncomputable def ho_145 (P : Params) : Obj := (@PySem.Obj.mk (@PySem.Value.type "tuple") (@Option.none @Nat) (@PySem.Data.seq (Array.mk [(@PySem.Value.str (@PySem.Str.ofString "x") (nat_lit 380)), (@PySem.Value.str (@PySem.Str.ofString "y") (nat_lit 381)), (@PySem.Value.str (@PySem.Str.ofString "w") (nat_lit 382))]) (nat_lit 0)) (Array.mk []))
noncomputable def ho_146 (P : Params) : Obj := (@PySem.Obj.mk (@PySem.Value.type "tuple") (@Option.none @Nat) (@PySem.Data.seq (Array.mk []) (nat_lit 0)) (Array.mk []))
noncomputable def ho_147 (P : Params) : Obj := (@PySem.Obj.mk @PySem.Value.none (@Option.none @Nat) (@PySem.Data.func (@PySem.FuncData.mk (@PySem.Str.ofString "s_add") (@PySem.Str.ofString "s_add") (fPar 18) (fBody 18) (fScope 18) (nat_lit 0) [] @PySem.Value.none @PySem.Value.none @PySem.Value.none @PySem.Value.none (@Option.none @Nat) @PySem.Value.none @PySem.Value.none (nat_lit 0))) (Array.mk []))
noncomputable def ho_148 (P : Params) : Obj := (@PySem.Obj.mk (@PySem.Value.type "code") (@Option.none @Nat) (@PySem.Data.fields (Array.mk [(@PySem.Value.str (@PySem.Str.ofString "s_add") (nat_lit 377)), (@PySem.Value.str (@PySem.Str.ofString "s_add") (nat_lit 378)), (@PySem.Value.str (@PySem.Str.ofString "/claim/cut.py") (nat_lit 379)), (@PySem.Value.int (Int.ofNat (nat_lit 93)) (nat_lit 0)), (@PySem.Value.int (Int.ofNat (nat_lit 3)) (nat_lit 0)), (@PySem.Value.int (Int.ofNat (nat_lit 0)) (nat_lit 0)), (@PySem.Value.int (Int.ofNat (nat_lit 0)) (nat_lit 0)), (@PySem.Value.int (Int.ofNat (nat_lit 3)) (nat_lit 0)), (@PySem.Value.ref (nat_lit 143)), (@PySem.Value.bool @Bool.true), (@PySem.Value.int (Int.ofNat (nat_lit 181)) (nat_lit 0)), (@PySem.Value.ref (nat_lit 144)), @PySem.Value.none, (@PySem.Value.ref (nat_lit 145)), (@PySem.Value.ref (nat_lit 146)), (@PySem.Value.ref (nat_lit 147)), (@PySem.Value.int (Int.ofNat (nat_lit 383)) (nat_lit 0)), (@PySem.Value.int (Int.ofNat (nat_lit 93)) (nat_lit 0)), (@PySem.Value.str (@PySem.Str.ofString "/claim/cut.py") (nat_lit 384))])) (Array.mk []))
noncomputable def ho_149 (P : Params) : Obj := (@PySem.Obj.mk (@PySem.Value.type "function") (@Option.none @Nat) (@PySem.Data.func (@PySem.FuncData.mk (@PySem.Str.ofString "s_add") (@PySem.Str.ofString "s_add") (fPar 18) (fBody 18) (fScope 18) (nat_lit 3) [] @PySem.Value.none @PySem.Value.none @PySem.Value.none (@PySem.Value.str (@PySem.Str.ofString "gmp.signed") (nat_lit 345)) (@Option.none @Nat) (@PySem.Value.ref (nat_lit 148)) @PySem.Value.none (nat_lit 0))) (Array.mk []))
noncomputable def ho_150 (P : Params) : Obj := (@PySem.Obj.mk (@PySem.Value.type "tuple") (@Option.none @Nat) (@PySem.Data.seq (Array.mk []) (nat_lit 0)) (Array.mk []))
noncomputable def ho_151 (P : Params) : Obj := (@PySem.Obj.mk @PySem.Value.none (@Option.none @Nat) (@PySem.Data.fields (Array.mk [])) (Array.mk []))
noncomputable def ho_152 (P : Params) : Obj := (@PySem.Obj.mk (@PySem.Value.type "tuple") (@Option.none @Nat) (@PySem.Data.seq (Array.mk [(@PySem.Value.str (@PySem.Str.ofString "x") (nat_lit 389)), (@PySem.Value.str (@PySem.Str.ofString "y") (nat_lit 390)), (@PySem.Value.str (@PySem.Str.ofString "w") (nat_lit 391))]) (nat_lit 0)) (Array.mk []))
noncomputable def ho_153 (P : Params) : Obj := (@PySem.Obj.mk (@PySem.Value.type "tuple") (@Option.none @Nat) (@PySem.Data.seq (Array.mk []) (nat_lit 0)) (Array.mk []))
noncomputable def ho_154 (P : Params) : Obj := (@PySem.Obj.mk @PySem.Value.none (@Option.none @Nat) (@PySem.Data.func (@PySem.FuncData.mk (@PySem.Str.ofString "s_sub") (@PySem.Str.ofString "s_sub") (fPar 19) (fBody 19) (fScope 19) (nat_lit 0) [] @PySem.Value.none @PySem.Value.none @PySem.Value.none @PySem.Value.none (@Option.none @Nat) @PySem.Value.none @PySem.Value.none (nat_lit 0))) (Array.mk []))
noncomputable def ho_155 (P : Params) : Obj := (@PySem.Obj.mk (@PySem.Value.type "code") (@Option.none @Nat) (@PySem.Data.fields (Array.mk [(@PySem.Value.str (@PySem.Str.ofString "s_sub") (nat_lit 386)), (@PySem.Value.str (@PySem.Str.ofString "s_sub") (nat_lit 387)), (@PySem.Value.str (@PySem.Str.ofString "/claim/cut.py") (nat_lit 388)), (@PySem.Value.int (Int.ofNat (nat_lit 99)) (nat_lit 0)), (@PySem.Value.int (Int.ofNat (nat_lit 3)) (nat_lit 0)), (@PySem.Value.int (Int.ofNat (nat_lit 0)) (nat_lit 0)), (@PySem.Value.int (Int.ofNat (nat_lit 0)) (nat_lit 0)), (@PySem.Value.int (Int.ofNat (nat_lit 3)) (nat_lit 0)), (@PySem.Value.ref (nat_lit 150)), (@PySem.Value.bool @Bool.true), (@PySem.Value.int (Int.ofNat (nat_lit 181)) (nat_lit 0)), (@PySem.Value.ref (nat_lit 151)), @PySem.Value.none, (@PySem.Value.ref (nat_lit 152)), (@PySem.Value.ref (nat_lit 153)), (@PySem.Value.ref (nat_lit 154)), (@PySem.Value.int (Int.ofNat (nat_lit 392)) (nat_lit 0)), (@PySem.Value.int (Int.ofNat (nat_lit 99)) (nat_lit 0)), (@PySem.Value.str (@PySem.Str.ofString "/claim/cut.py") (nat_lit 393))])) (Array.mk []))
noncomputable def ho_156 (P : Params) : Obj := (@PySem.Obj.mk (@PySem.Value.type "function") (@Option.none @Nat) (@PySem.Data.func (@PySem.FuncData.mk (@PySem.Str.ofString "s_sub") (@PySem.Str.ofString "s_sub") (fPar 19) (fBody 19) (fScope 19) (nat_lit 3) [] @PySem.Value.none @PySem.Value.none @PySem.Value.none (@PySem.Value.str (@PySem.Str.ofString "gmp.signed") (nat_lit 345)) (@Option.none @Nat) (@PySem.Value.ref (nat_lit 155)) @PySem.Value.none (nat_lit 0))) (Array.mk []))
noncomputable def ho_157 (P : Params) : Obj := (@PySem.Obj.mk (@PySem.Value.type "tuple") (@Option.none @Nat) (@PySem.Data.seq (Array.mk []) (nat_lit 0)) (Array.mk []))
noncomputable def ho_158 (P : Params) : Obj := (@PySem.Obj.mk @PySem.Value.none (@Option.none @Nat) (@PySem.Data.fields (Array.mk [])) (Array.mk []))
noncomputable def ho_159 (P : Params) : Obj := (@PySem.Obj.mk (@PySem.Value.type "tuple") (@Option.none @Nat) (@PySem.Data.seq (Array.mk [(@PySem.Value.str (@PySem.Str.ofString "x") (nat_lit 398)), (@PySem.Value.str (@PySem.Str.ofString "y") (nat_lit 399)), (@PySem.Value.str (@PySem.Str.ofString "w") (nat_lit 400)), (@PySem.Value.str (@PySem.Str.ofString "mul") (nat_lit 401))]) (nat_lit 0)) (Array.mk []))
noncomputable def ho_160 (P : Params) : Obj := (@PySem.Obj.mk (@PySem.Value.type "tuple") (@Option.none @Nat) (@PySem.Data.seq (Array.mk []) (nat_lit 0)) (Array.mk []))
noncomputable def ho_161 (P : Params) : Obj := (@PySem.Obj.mk @PySem.Value.none (@Option.none @Nat) (@PySem.Data.func (@PySem.FuncData.mk (@PySem.Str.ofString "s_mul") (@PySem.Str.ofString "s_mul") (fPar 20) (fBody 20) (fScope 20) (nat_lit 0) [] @PySem.Value.none @PySem.Value.none @PySem.Value.none @PySem.Value.none (@Option.none @Nat) @PySem.Value.none @PySem.Value.none (nat_lit 0))) (Array.mk []))
noncomputable def ho_162 (P : Params) : Obj := (@PySem.Obj.mk (@PySem.Value.type "code") (@Option.none @Nat) (@PySem.Data.fields (Array.mk [(@PySem.Value.str (@PySem.Str.ofString "s_mul") (nat_lit 395)), (@PySem.Value.str (@PySem.Str.ofString "s_mul") (nat_lit 396)), (@PySem.Value.str (@PySem.Str.ofString "/claim/cut.py") (nat_lit 397)), (@PySem.Value.int (Int.ofNat (nat_lit 101)) (nat_lit 0)), (@PySem.Value.int (Int.ofNat (nat_lit 4)) (nat_lit 0)), (@PySem.Value.int (Int.ofNat (nat_lit 0)) (nat_lit 0)), (@PySem.Value.int (Int.ofNat (nat_lit 0)) (nat_lit 0)), (@PySem.Value.int (Int.ofNat (nat_lit 3)) (nat_lit 0)), (@PySem.Value.ref (nat_lit 157)), (@PySem.Value.bool @Bool.true), (@PySem.Value.int (Int.ofNat (nat_lit 181)) (nat_lit 0)), (@PySem.Value.ref (nat_lit 158)), @PySem.Value.none, (@PySem.Value.ref (nat_lit 159)), (@PySem.Value.ref (nat_lit 160)), (@PySem.Value.ref (nat_lit 161)), (@PySem.Value.int (Int.ofNat (nat_lit 402)) (nat_lit 0)), (@PySem.Value.int (Int.ofNat (nat_lit 101)) (nat_lit 0)), (@PySem.Value.str (@PySem.Str.ofString "/claim/cut.py") (nat_lit 403))])) (Array.mk []))
noncomputable def ho_163 (P : Params) : Obj := (@PySem.Obj.mk (@PySem.Value.type "function") (@Option.none @Nat) (@PySem.Data.func (@PySem.FuncData.mk (@PySem.Str.ofString "s_mul") (@PySem.Str.ofString "s_mul") (fPar 20) (fBody 20) (fScope 20) (nat_lit 3) [] @PySem.Value.none @PySem.Value.none @PySem.Value.none (@PySem.Value.str (@PySem.Str.ofString "gmp.signed") (nat_lit 345)) (@Option.none @Nat) (@PySem.Value.ref (nat_lit 162)) @PySem.Value.none (nat_lit 0))) (Array.mk []))
noncomputable def ho_164 (P : Params) : Obj := (@PySem.Obj.mk (@PySem.Value.type "tuple") (@Option.none @Nat) (@PySem.Data.seq (Array.mk []) (nat_lit 0)) (Array.mk []))
noncomputable def ho_165 (P : Params) : Obj := (@PySem.Obj.mk @PySem.Value.none (@Option.none @Nat) (@PySem.Data.fields (Array.mk [])) (Array.mk []))
noncomputable def ho_166 (P : Params) : Obj := (@PySem.Obj.mk (@PySem.Value.type "tuple") (@Option.none @Nat) (@PySem.Data.seq (Array.mk [(@PySem.Value.str (@PySem.Str.ofString "x") (nat_lit 408)), (@PySem.Value.str (@PySem.Str.ofString "y") (nat_lit 409)), (@PySem.Value.str (@PySem.Str.ofString "w") (nat_lit 410)), (@PySem.Value.str (@PySem.Str.ofString "divrem") (nat_lit 411)), (@PySem.Value.str (@PySem.Str.ofString "quotient") (nat_lit 412)), (@PySem.Value.str (@PySem.Str.ofString "rest") (nat_lit 413))]) (nat_lit 0)) (Array.mk []))
noncomputable def ho_167 (P : Params) : Obj := (@PySem.Obj.mk (@PySem.Value.type "tuple") (@Option.none @Nat) (@PySem.Data.seq (Array.mk []) (nat_lit 0)) (Array.mk []))
noncomputable def ho_168 (P : Params) : Obj := (@PySem.Obj.mk @PySem.Value.none (@Option.none @Nat) (@PySem.Data.func (@PySem.FuncData.mk (@PySem.Str.ofString "tdiv") (@PySem.Str.ofString "tdiv") (fPar 21) (fBody 21) (fScope 21) (nat_lit 0) [] @PySem.Value.none @PySem.Value.none @PySem.Value.none @PySem.Value.none (@Option.none @Nat) @PySem.Value.none @PySem.Value.none (nat_lit 0))) (Array.mk []))
noncomputable def ho_169 (P : Params) : Obj := (@PySem.Obj.mk (@PySem.Value.type "code") (@Option.none @Nat) (@PySem.Data.fields (Array.mk [(@PySem.Value.str (@PySem.Str.ofString "tdiv") (nat_lit 405)), (@PySem.Value.str (@PySem.Str.ofString "tdiv") (nat_lit 406)), (@PySem.Value.str (@PySem.Str.ofString "/claim/cut.py") (nat_lit 407)), (@PySem.Value.int (Int.ofNat (nat_lit 103)) (nat_lit 0)), (@PySem.Value.int (Int.ofNat (nat_lit 4)) (nat_lit 0)), (@PySem.Value.int (Int.ofNat (nat_lit 0)) (nat_lit 0)), (@PySem.Value.int (Int.ofNat (nat_lit 0)) (nat_lit 0)), (@PySem.Value.int (Int.ofNat (nat_lit 3)) (nat_lit 0)), (@PySem.Value.ref (nat_lit 164)), (@PySem.Value.bool @Bool.true), (@PySem.Value.int (Int.ofNat (nat_lit 181)) (nat_lit 0)), (@PySem.Value.ref (nat_lit 165)), @PySem.Value.none, (@PySem.Value.ref (nat_lit 166)), (@PySem.Value.ref (nat_lit 167)), (@PySem.Value.ref (nat_lit 168)), (@PySem.Value.int (Int.ofNat (nat_lit 414)) (nat_lit 0)), (@PySem.Value.int (Int.ofNat (nat_lit 103)) (nat_lit 0)), (@PySem.Value.str (@PySem.Str.ofString "/claim/cut.py") (nat_lit 415))])) (Array.mk []))
noncomputable def ho_170 (P : Params) : Obj := (@PySem.Obj.mk (@PySem.Value.type "function") (@Option.none @Nat) (@PySem.Data.func (@PySem.FuncData.mk (@PySem.Str.ofString "tdiv") (@PySem.Str.ofString "tdiv") (fPar 21) (fBody 21) (fScope 21) (nat_lit 3) [] @PySem.Value.none @PySem.Value.none @PySem.Value.none (@PySem.Value.str (@PySem.Str.ofString "gmp.signed") (nat_lit 345)) (@Option.none @Nat) (@PySem.Value.ref (nat_lit 169)) @PySem.Value.none (nat_lit 0))) (Array.mk []))
noncomputable def ho_171 (P : Params) : Obj := (@PySem.Obj.mk (@PySem.Value.type "list") (@Option.none @Nat) (@PySem.Data.seq (Array.mk []) (nat_lit 0)) (Array.mk []))
noncomputable def ho_172 (P : Params) : Obj := (@PySem.Obj.mk (@PySem.Value.type "tuple") (@Option.none @Nat) (@PySem.Data.seq (Array.mk [(@PySem.Value.bool @Bool.false), (@PySem.Value.ref (nat_lit 171))]) (nat_lit 0)) (Array.mk []))
noncomputable def ho_173 (P : Params) : Obj := (@PySem.Obj.mk (@PySem.Value.type "list") (@Option.none @Nat) (@PySem.Data.seq (Array.mk [(@PySem.Value.int (Int.ofNat (nat_lit 1)) (nat_lit 420))]) (nat_lit 0)) (Array.mk []))
noncomputable def ho_174 (P : Params) : Obj := (@PySem.Obj.mk (@PySem.Value.type "tuple") (@Option.none @Nat) (@PySem.Data.seq (Array.mk [(@PySem.Value.bool @Bool.false), (@PySem.Value.ref (nat_lit 173))]) (nat_lit 0)) (Array.mk []))
noncomputable def ho_175 (P : Params) : Obj := (@PySem.Obj.mk (@PySem.Value.type "tuple") (@Option.none @Nat) (@PySem.Data.seq (Array.mk []) (nat_lit 0)) (Array.mk []))
noncomputable def ho_176 (P : Params) : Obj := (@PySem.Obj.mk @PySem.Value.none (@Option.none @Nat) (@PySem.Data.fields (Array.mk [])) (Array.mk []))
noncomputable def ho_177 (P : Params) : Obj := (@PySem.Obj.mk @PySem.Value.none (@Option.none @Nat) (@PySem.Data.func (@PySem.FuncData.mk (@PySem.Str.ofString "m_of") (@PySem.Str.ofString "m_of") (fPar 25) (fBody 25) (fScope 25) (nat_lit 0) [] @PySem.Value.none @PySem.Value.none @PySem.Value.none @PySem.Value.none (@Option.none @Nat) @PySem.Value.none @PySem.Value.none (nat_lit 0))) (Array.mk []))
noncomputable def ho_178 (P : Params) : Obj := (@PySem.Obj.mk (@PySem.Value.type "code") (@Option.none @Nat) (@PySem.Data.fields (Array.mk [(@PySem.Value.str (@PySem.Str.ofString "m_of") (nat_lit 422)), (@PySem.Value.str (@PySem.Str.ofString "m_of") (nat_lit 423)), (@PySem.Value.str (@PySem.Str.ofString "/claim/cut.py") (nat_lit 424)), (@PySem.Value.int (Int.ofNat (nat_lit 111)) (nat_lit 0)), (@PySem.Value.int (Int.ofNat (nat_lit 2)) (nat_lit 0)), (@PySem.Value.int (Int.ofNat (nat_lit 0)) (nat_lit 0)), (@PySem.Value.int (Int.ofNat (nat_lit 0)) (nat_lit 0)), (@PySem.Value.int (Int.ofNat (nat_lit 3)) (nat_lit 0)), (@PySem.Value.ref (nat_lit 175)), (@PySem.Value.bool @Bool.true), (@PySem.Value.int (Int.ofNat (nat_lit 181)) (nat_lit 0)), (@PySem.Value.ref (nat_lit 176)), @PySem.Value.none, @PySem.Value.none, @PySem.Value.none, (@PySem.Value.ref (nat_lit 177)), (@PySem.Value.int (Int.ofNat (nat_lit 425)) (nat_lit 0)), (@PySem.Value.int (Int.ofNat (nat_lit 111)) (nat_lit 0)), (@PySem.Value.str (@PySem.Str.ofString "/claim/cut.py") (nat_lit 426))])) (Array.mk []))
noncomputable def ho_179 (P : Params) : Obj := (@PySem.Obj.mk (@PySem.Value.type "function") (@Option.none @Nat) (@PySem.Data.func (@PySem.FuncData.mk (@PySem.Str.ofString "m_of") (@PySem.Str.ofString "m_of") (fPar 25) (fBody 25) (fScope 25) (nat_lit 3) [] @PySem.Value.none @PySem.Value.none @PySem.Value.none (@PySem.Value.str (@PySem.Str.ofString "gmp.matrices") (nat_lit 417)) (@Option.none @Nat) (@PySem.Value.ref (nat_lit 178)) @PySem.Value.none (nat_lit 0))) (Array.mk []))
noncomputable def ho_180 (P : Params) : Obj := (@PySem.Obj.mk (@PySem.Value.type "tuple") (@Option.none @Nat) (@PySem.Data.seq (Array.mk []) (nat_lit 0)) (Array.mk []))
noncomputable def ho_181 (P : Params) : Obj := (@PySem.Obj.mk @PySem.Value.none (@Option.none @Nat) (@PySem.Data.fields (Array.mk [])) (Array.mk []))
noncomputable def ho_182 (P : Params) : Obj := (@PySem.Obj.mk (@PySem.Value.type "tuple") (@Option.none @Nat) (@PySem.Data.seq (Array.mk [(@PySem.Value.str (@PySem.Str.ofString "x") (nat_lit 431)), (@PySem.Value.str (@PySem.Str.ofString "y") (nat_lit 432)), (@PySem.Value.str (@PySem.Str.ofString "w") (nat_lit 433)), (@PySem.Value.str (@PySem.Str.ofString "divrem") (nat_lit 434)), (@PySem.Value.str (@PySem.Str.ofString "found") (nat_lit 435)), (@PySem.Value.str (@PySem.Str.ofString "rest") (nat_lit 436))]) (nat_lit 0)) (Array.mk []))
noncomputable def ho_183 (P : Params) : Obj := (@PySem.Obj.mk (@PySem.Value.type "tuple") (@Option.none @Nat) (@PySem.Data.seq (Array.mk []) (nat_lit 0)) (Array.mk []))
noncomputable def ho_184 (P : Params) : Obj := (@PySem.Obj.mk @PySem.Value.none (@Option.none @Nat) (@PySem.Data.func (@PySem.FuncData.mk (@PySem.Str.ofString "exact") (@PySem.Str.ofString "exact") (fPar 26) (fBody 26) (fScope 26) (nat_lit 0) [] @PySem.Value.none @PySem.Value.none @PySem.Value.none @PySem.Value.none (@Option.none @Nat) @PySem.Value.none @PySem.Value.none (nat_lit 0))) (Array.mk []))
noncomputable def ho_185 (P : Params) : Obj := (@PySem.Obj.mk (@PySem.Value.type "code") (@Option.none @Nat) (@PySem.Data.fields (Array.mk [(@PySem.Value.str (@PySem.Str.ofString "exact") (nat_lit 428)), (@PySem.Value.str (@PySem.Str.ofString "exact") (nat_lit 429)), (@PySem.Value.str (@PySem.Str.ofString "/claim/cut.py") (nat_lit 430)), (@PySem.Value.int (Int.ofNat (nat_lit 113)) (nat_lit 0)), (@PySem.Value.int (Int.ofNat (nat_lit 4)) (nat_lit 0)), (@PySem.Value.int (Int.ofNat (nat_lit 0)) (nat_lit 0)), (@PySem.Value.int (Int.ofNat (nat_lit 0)) (nat_lit 0)), (@PySem.Value.int (Int.ofNat (nat_lit 3)) (nat_lit 0)), (@PySem.Value.ref (nat_lit 180)), (@PySem.Value.bool @Bool.true), (@PySem.Value.int (Int.ofNat (nat_lit 181)) (nat_lit 0)), (@PySem.Value.ref (nat_lit 181)), @PySem.Value.none, (@PySem.Value.ref (nat_lit 182)), (@PySem.Value.ref (nat_lit 183)), (@PySem.Value.ref (nat_lit 184)), (@PySem.Value.int (Int.ofNat (nat_lit 437)) (nat_lit 0)), (@PySem.Value.int (Int.ofNat (nat_lit 113)) (nat_lit 0)), (@PySem.Value.str (@PySem.Str.ofString "/claim/cut.py") (nat_lit 438))])) (Array.mk []))
noncomputable def ho_186 (P : Params) : Obj := (@PySem.Obj.mk (@PySem.Value.type "function") (@Option.none @Nat) (@PySem.Data.func (@PySem.FuncData.mk (@PySem.Str.ofString "exact") (@PySem.Str.ofString "exact") (fPar 26) (fBody 26) (fScope 26) (nat_lit 3) [] @PySem.Value.none @PySem.Value.none @PySem.Value.none (@PySem.Value.str (@PySem.Str.ofString "gmp.matrices") (nat_lit 417)) (@Option.none @Nat) (@PySem.Value.ref (nat_lit 185)) @PySem.Value.none (nat_lit 0))) (Array.mk []))
noncomputable def ho_187 (P : Params) : Obj := (@PySem.Obj.mk (@PySem.Value.type "tuple") (@Option.none @Nat) (@PySem.Data.seq (Array.mk []) (nat_lit 0)) (Array.mk []))
noncomputable def ho_188 (P : Params) : Obj := (@PySem.Obj.mk @PySem.Value.none (@Option.none @Nat) (@PySem.Data.fields (Array.mk [])) (Array.mk []))
noncomputable def ho_189 (P : Params) : Obj := (@PySem.Obj.mk (@PySem.Value.type "tuple") (@Option.none @Nat) (@PySem.Data.seq (Array.mk [(@PySem.Value.str (@PySem.Str.ofString "rows") (nat_lit 443)), (@PySem.Value.str (@PySem.Str.ofString "top") (nat_lit 444)), (@PySem.Value.str (@PySem.Str.ofString "column") (nat_lit 445)), (@PySem.Value.str (@PySem.Str.ofString "at") (nat_lit 446))]) (nat_lit 0)) (Array.mk []))
noncomputable def ho_190 (P : Params) : Obj := (@PySem.Obj.mk (@PySem.Value.type "tuple") (@Option.none @Nat) (@PySem.Data.seq (Array.mk []) (nat_lit 0)) (Array.mk []))
noncomputable def ho_191 (P : Params) : Obj := (@PySem.Obj.mk @PySem.Value.none (@Option.none @Nat) (@PySem.Data.func (@PySem.FuncData.mk (@PySem.Str.ofString "pivot_row") (@PySem.Str.ofString "pivot_row") (fPar 27) (fBody 27) (fScope 27) (nat_lit 0) [] @PySem.Value.none @PySem.Value.none @PySem.Value.none @PySem.Value.none (@Option.none @Nat) @PySem.Value.none @PySem.Value.none (nat_lit 0))) (Array.mk []))
noncomputable def ho_192 (P : Params) : Obj := (@PySem.Obj.mk (@PySem.Value.type "code") (@Option.none @Nat) (@PySem.Data.fields (Array.mk [(@PySem.Value.str (@PySem.Str.ofString "pivot_row") (nat_lit 440)), (@PySem.Value.str (@PySem.Str.ofString "pivot_row") (nat_lit 441)), (@PySem.Value.str (@PySem.Str.ofString "/claim/cut.py") (nat_lit 442)), (@PySem.Value.int (Int.ofNat (nat_lit 116)) (nat_lit 0)), (@PySem.Value.int (Int.ofNat (nat_lit 3)) (nat_lit 0)), (@PySem.Value.int (Int.ofNat (nat_lit 0)) (nat_lit 0)), (@PySem.Value.int (Int.ofNat (nat_lit 0)) (nat_lit 0)), (@PySem.Value.int (Int.ofNat (nat_lit 3)) (nat_lit 0)), (@PySem.Value.ref (nat_lit 187)), (@PySem.Value.bool @Bool.true), (@PySem.Value.int (Int.ofNat (nat_lit 181)) (nat_lit 0)), (@PySem.Value.ref (nat_lit 188)), @PySem.Value.none, (@PySem.Value.ref (nat_lit 189)), (@PySem.Value.ref (nat_lit 190)), (@PySem.Value.ref (nat_lit 191)), (@PySem.Value.int (Int.ofNat (nat_lit 447)) (nat_lit 0)), (@PySem.Value.int (Int.ofNat (nat_lit 116)) (nat_lit 0)), (@PySem.Value.str (@PySem.Str.ofString "/claim/cut.py") (nat_lit 448))])) (Array.mk []))
noncomputable def ho_193 (P : Params) : Obj := (@PySem.Obj.mk (@PySem.Value.type "function") (@Option.none @Nat) (@PySem.Data.func (@PySem.FuncData.mk (@PySem.Str.ofString "pivot_row") (@PySem.Str.ofString "pivot_row") (fPar 27) (fBody 27) (fScope 27) (nat_lit 3) [] @PySem.Value.none @PySem.Value.none @PySem.Value.none (@PySem.Value.str (@PySem.Str.ofString "gmp.matrices") (nat_lit 417)) (@Option.none @Nat) (@PySem.Value.ref (nat_lit 192)) @PySem.Value.none (nat_lit 0))) (Array.mk []))
noncomputable def ho_194 (P : Params) : Obj := (@PySem.Obj.mk (@PySem.Value.type "tuple") (@Option.none @Nat) (@PySem.Data.seq (Array.mk []) (nat_lit 0)) (Array.mk []))
noncomputable def ho_195 (P : Params) : Obj := (@PySem.Obj.mk @PySem.Value.none (@Option.none @Nat) (@PySem.Data.fields (Array.mk [])) (Array.mk []))
noncomputable def ho_196 (P : Params) : Obj := (@PySem.Obj.mk (@PySem.Value.type "tuple") (@Option.none @Nat) (@PySem.Data.seq (Array.mk [(@PySem.Value.str (@PySem.Str.ofString "row") (nat_lit 453)), (@PySem.Value.str (@PySem.Str.ofString "head") (nat_lit 454)), (@PySem.Value.str (@PySem.Str.ofString "column") (nat_lit 455)), (@PySem.Value.str (@PySem.Str.ofString "before") (nat_lit 456)), (@PySem.Value.str (@PySem.Str.ofString "w") (nat_lit 457)), (@PySem.Value.str (@PySem.Str.ofString "mul") (nat_lit 458)), (@PySem.Value.str (@PySem.Str.ofString "divrem") (nat_lit 459)), (@PySem.Value.str (@PySem.Str.ofString "pivot") (nat_lit 460)), (@PySem.Value.str (@PySem.Str.ofString "own") (nat_lit 461)), (@PySem.Value.str (@PySem.Str.ofString "found") (nat_lit 462)), (@PySem.Value.str (@PySem.Str.ofString "at") (nat_lit 463)), (@PySem.Value.str (@PySem.Str.ofString "value") (nat_lit 464)), (@PySem.Value.str (@PySem.Str.ofString "here") (nat_lit 465))]) (nat_lit 0)) (Array.mk []))
noncomputable def ho_197 (P : Params) : Obj := (@PySem.Obj.mk (@PySem.Value.type "tuple") (@Option.none @Nat) (@PySem.Data.seq (Array.mk []) (nat_lit 0)) (Array.mk []))
noncomputable def ho_198 (P : Params) : Obj := (@PySem.Obj.mk @PySem.Value.none (@Option.none @Nat) (@PySem.Data.func (@PySem.FuncData.mk (@PySem.Str.ofString "cleared") (@PySem.Str.ofString "cleared") (fPar 28) (fBody 28) (fScope 28) (nat_lit 0) [] @PySem.Value.none @PySem.Value.none @PySem.Value.none @PySem.Value.none (@Option.none @Nat) @PySem.Value.none @PySem.Value.none (nat_lit 0))) (Array.mk []))
noncomputable def ho_199 (P : Params) : Obj := (@PySem.Obj.mk (@PySem.Value.type "code") (@Option.none @Nat) (@PySem.Data.fields (Array.mk [(@PySem.Value.str (@PySem.Str.ofString "cleared") (nat_lit 450)), (@PySem.Value.str (@PySem.Str.ofString "cleared") (nat_lit 451)), (@PySem.Value.str (@PySem.Str.ofString "/claim/cut.py") (nat_lit 452)), (@PySem.Value.int (Int.ofNat (nat_lit 121)) (nat_lit 0)), (@PySem.Value.int (Int.ofNat (nat_lit 7)) (nat_lit 0)), (@PySem.Value.int (Int.ofNat (nat_lit 0)) (nat_lit 0)), (@PySem.Value.int (Int.ofNat (nat_lit 0)) (nat_lit 0)), (@PySem.Value.int (Int.ofNat (nat_lit 3)) (nat_lit 0)), (@PySem.Value.ref (nat_lit 194)), (@PySem.Value.bool @Bool.true), (@PySem.Value.int (Int.ofNat (nat_lit 181)) (nat_lit 0)), (@PySem.Value.ref (nat_lit 195)), @PySem.Value.none, (@PySem.Value.ref (nat_lit 196)), (@PySem.Value.ref (nat_lit 197)), (@PySem.Value.ref (nat_lit 198)), (@PySem.Value.int (Int.ofNat (nat_lit 466)) (nat_lit 0)), (@PySem.Value.int (Int.ofNat (nat_lit 121)) (nat_lit 0)), (@PySem.Value.str (@PySem.Str.ofString "/claim/cut.py") (nat_lit 467))])) (Array.mk []))
noncomputable def ho_200 (P : Params) : Obj := (@PySem.Obj.mk (@PySem.Value.type "function") (@Option.none @Nat) (@PySem.Data.func (@PySem.FuncData.mk (@PySem.Str.ofString "cleared") (@PySem.Str.ofString "cleared") (fPar 28) (fBody 28) (fScope 28) (nat_lit 3) [] @PySem.Value.none @PySem.Value.none @PySem.Value.none (@PySem.Value.str (@PySem.Str.ofString "gmp.matrices") (nat_lit 417)) (@Option.none @Nat) (@PySem.Value.ref (nat_lit 199)) @PySem.Value.none (nat_lit 0))) (Array.mk []))
noncomputable def ho_201 (P : Params) : Obj := (@PySem.Obj.mk (@PySem.Value.type "tuple") (@Option.none @Nat) (@PySem.Data.seq (Array.mk []) (nat_lit 0)) (Array.mk []))
noncomputable def ho_202 (P : Params) : Obj := (@PySem.Obj.mk @PySem.Value.none (@Option.none @Nat) (@PySem.Data.fields (Array.mk [])) (Array.mk []))
noncomputable def ho_203 (P : Params) : Obj := (@PySem.Obj.mk @PySem.Value.none (@Option.none @Nat) (@PySem.Data.func (@PySem.FuncData.mk (@PySem.Str.ofString "steps_down") (@PySem.Str.ofString "steps_down") (fPar 29) (fBody 29) (fScope 29) (nat_lit 0) [] @PySem.Value.none @PySem.Value.none @PySem.Value.none @PySem.Value.none (@Option.none @Nat) @PySem.Value.none @PySem.Value.none (nat_lit 0))) (Array.mk []))
noncomputable def ho_204 (P : Params) : Obj := (@PySem.Obj.mk (@PySem.Value.type "code") (@Option.none @Nat) (@PySem.Data.fields (Array.mk [(@PySem.Value.str (@PySem.Str.ofString "steps_down") (nat_lit 469)), (@PySem.Value.str (@PySem.Str.ofString "steps_down") (nat_lit 470)), (@PySem.Value.str (@PySem.Str.ofString "/claim/cut.py") (nat_lit 471)), (@PySem.Value.int (Int.ofNat (nat_lit 128)) (nat_lit 0)), (@PySem.Value.int (Int.ofNat (nat_lit 5)) (nat_lit 0)), (@PySem.Value.int (Int.ofNat (nat_lit 0)) (nat_lit 0)), (@PySem.Value.int (Int.ofNat (nat_lit 0)) (nat_lit 0)), (@PySem.Value.int (Int.ofNat (nat_lit 3)) (nat_lit 0)), (@PySem.Value.ref (nat_lit 201)), (@PySem.Value.bool @Bool.true), (@PySem.Value.int (Int.ofNat (nat_lit 181)) (nat_lit 0)), (@PySem.Value.ref (nat_lit 202)), @PySem.Value.none, @PySem.Value.none, @PySem.Value.none, (@PySem.Value.ref (nat_lit 203)), (@PySem.Value.int (Int.ofNat (nat_lit 472)) (nat_lit 0)), (@PySem.Value.int (Int.ofNat (nat_lit 128)) (nat_lit 0)), (@PySem.Value.str (@PySem.Str.ofString "/claim/cut.py") (nat_lit 473))])) (Array.mk []))
noncomputable def ho_205 (P : Params) : Obj := (@PySem.Obj.mk (@PySem.Value.type "function") (@Option.none @Nat) (@PySem.Data.func (@PySem.FuncData.mk (@PySem.Str.ofString "steps_down") (@PySem.Str.ofString "steps_down") (fPar 29) (fBody 29) (fScope 29) (nat_lit 3) [] @PySem.Value.none @PySem.Value.none @PySem.Value.none (@PySem.Value.str (@PySem.Str.ofString "gmp.matrices") (nat_lit 417)) (@Option.none @Nat) (@PySem.Value.ref (nat_lit 204)) @PySem.Value.none (nat_lit 0))) (Array.mk []))
noncomputable def ho_206 (P : Params) : Obj := (@PySem.Obj.mk (@PySem.Value.type "tuple") (@Option.none @Nat) (@PySem.Data.seq (Array.mk []) (nat_lit 0)) (Array.mk []))
noncomputable def ho_207 (P : Params) : Obj := (@PySem.Obj.mk @PySem.Value.none (@Option.none @Nat) (@PySem.Data.fields (Array.mk [])) (Array.mk []))
noncomputable def ho_208 (P : Params) : Obj := (@PySem.Obj.mk (@PySem.Value.type "tuple") (@Option.none @Nat) (@PySem.Data.seq (Array.mk [(@PySem.Value.str (@PySem.Str.ofString "a") (nat_lit 478)), (@PySem.Value.str (@PySem.Str.ofString "w") (nat_lit 479)), (@PySem.Value.str (@PySem.Str.ofString "mul") (nat_lit 480)), (@PySem.Value.str (@PySem.Str.ofString "divrem") (nat_lit 481)), (@PySem.Value.str (@PySem.Str.ofString "rows") (nat_lit 482)), (@PySem.Value.str (@PySem.Str.ofString "places") (nat_lit 483)), (@PySem.Value.str (@PySem.Str.ofString "is_odd") (nat_lit 484)), (@PySem.Value.str (@PySem.Str.ofString "last") (nat_lit 485))]) (nat_lit 0)) (Array.mk []))
noncomputable def ho_209 (P : Params) : Obj := (@PySem.Obj.mk (@PySem.Value.type "tuple") (@Option.none @Nat) (@PySem.Data.seq (Array.mk []) (nat_lit 0)) (Array.mk []))
noncomputable def ho_210 (P : Params) : Obj := (@PySem.Obj.mk @PySem.Value.none (@Option.none @Nat) (@PySem.Data.func (@PySem.FuncData.mk (@PySem.Str.ofString "det_bareiss") (@PySem.Str.ofString "det_bareiss") (fPar 30) (fBody 30) (fScope 30) (nat_lit 0) [] @PySem.Value.none @PySem.Value.none @PySem.Value.none @PySem.Value.none (@Option.none @Nat) @PySem.Value.none @PySem.Value.none (nat_lit 0))) (Array.mk []))
noncomputable def ho_211 (P : Params) : Obj := (@PySem.Obj.mk (@PySem.Value.type "code") (@Option.none @Nat) (@PySem.Data.fields (Array.mk [(@PySem.Value.str (@PySem.Str.ofString "det_bareiss") (nat_lit 475)), (@PySem.Value.str (@PySem.Str.ofString "det_bareiss") (nat_lit 476)), (@PySem.Value.str (@PySem.Str.ofString "/claim/cut.py") (nat_lit 477)), (@PySem.Value.int (Int.ofNat (nat_lit 142)) (nat_lit 0)), (@PySem.Value.int (Int.ofNat (nat_lit 4)) (nat_lit 0)), (@PySem.Value.int (Int.ofNat (nat_lit 0)) (nat_lit 0)), (@PySem.Value.int (Int.ofNat (nat_lit 0)) (nat_lit 0)), (@PySem.Value.int (Int.ofNat (nat_lit 3)) (nat_lit 0)), (@PySem.Value.ref (nat_lit 206)), (@PySem.Value.bool @Bool.true), (@PySem.Value.int (Int.ofNat (nat_lit 181)) (nat_lit 0)), (@PySem.Value.ref (nat_lit 207)), @PySem.Value.none, (@PySem.Value.ref (nat_lit 208)), (@PySem.Value.ref (nat_lit 209)), (@PySem.Value.ref (nat_lit 210)), (@PySem.Value.int (Int.ofNat (nat_lit 486)) (nat_lit 0)), (@PySem.Value.int (Int.ofNat (nat_lit 142)) (nat_lit 0)), (@PySem.Value.str (@PySem.Str.ofString "/claim/cut.py") (nat_lit 487))])) (Array.mk []))
noncomputable def ho_212 (P : Params) : Obj := (@PySem.Obj.mk (@PySem.Value.type "function") (@Option.none @Nat) (@PySem.Data.func (@PySem.FuncData.mk (@PySem.Str.ofString "det_bareiss") (@PySem.Str.ofString "det_bareiss") (fPar 30) (fBody 30) (fScope 30) (nat_lit 3) [] @PySem.Value.none @PySem.Value.none @PySem.Value.none (@PySem.Value.str (@PySem.Str.ofString "gmp.matrices") (nat_lit 417)) (@Option.none @Nat) (@PySem.Value.ref (nat_lit 211)) @PySem.Value.none (nat_lit 0))) (Array.mk []))
noncomputable def tr_5 (P : Params) : BT := (.node (boot_o_0 P) (.node (boot_o_1 P) (.node (ho_3_5 P) (.node (boot_o_7 P) (.node (ho_15 P) (.node (ho_31 P) (.node (ho_63 P) (.node (ho_127 P) .nil .nil) (.node (ho_191 P) .nil .nil)) (.node (ho_95 P) (.node (ho_159 P) .nil .nil) .nil)) (.node (ho_47 P) (.node (ho_79 P) (.node (ho_143 P) .nil .nil) (.node (ho_207 P) .nil .nil)) (.node (ho_111 P) (.node (ho_175 P) .nil .nil) .nil))) (.node (ho_23 P) (.node (ho_39 P) (.node (ho_71 P) (.node (ho_135 P) .nil .nil) (.node (ho_199 P) .nil .nil)) (.node (ho_103 P) (.node (ho_167 P) .nil .nil) .nil)) (.node (ho_55 P) (.node (ho_87 P) (.node (ho_151 P) .nil .nil) .nil) (.node (ho_119 P) (.node (ho_183 P) .nil .nil) .nil)))) (.node (ho_11 P) (.node (ho_19 P) (.node (ho_35 P) (.node (ho_67 P) (.node (ho_131 P) .nil .nil) (.node (ho_195 P) .nil .nil)) (.node (ho_99 P) (.node (ho_163 P) .nil .nil) .nil)) (.node (ho_51 P) (.node (ho_83 P) (.node (ho_147 P) .nil .nil) (.node (ho_211 P) .nil .nil)) (.node (ho_115 P) (.node (ho_179 P) .nil .nil) .nil))) (.node (ho_27 P) (.node (ho_43 P) (.node (ho_75 P) (.node (ho_139 P) .nil .nil) (.node (ho_203 P) .nil .nil)) (.node (ho_107 P) (.node (ho_171 P) .nil .nil) .nil)) (.node (ho_59 P) (.node (ho_91 P) (.node (ho_155 P) .nil .nil) .nil) (.node (ho_123 P) (.node (ho_187 P) .nil .nil) .nil))))) (.node (boot_o_5 P) (.node (boot_o_9 P) (.node (ho_17 P) (.node (ho_33 P) (.node (ho_65 P) (.node (ho_129 P) .nil .nil) (.node (ho_193 P) .nil .nil)) (.node (ho_97 P) (.node (ho_161 P) .nil .nil) .nil)) (.node (ho_49 P) (.node (ho_81 P) (.node (ho_145 P) .nil .nil) (.node (ho_209 P) .nil .nil)) (.node (ho_113 P) (.node (ho_177 P) .nil .nil) .nil))) (.node (ho_25 P) (.node (ho_41 P) (.node (ho_73 P) (.node (ho_137 P) .nil .nil) (.node (ho_201 P) .nil .nil)) (.node (ho_105 P) (.node (ho_169 P) .nil .nil) .nil)) (.node (ho_57 P) (.node (ho_89 P) (.node (ho_153 P) .nil .nil) .nil) (.node (ho_121 P) (.node (ho_185 P) .nil .nil) .nil)))) (.node (ho_13 P) (.node (ho_21 P) (.node (ho_37 P) (.node (ho_69 P) (.node (ho_133 P) .nil .nil) (.node (ho_197 P) .nil .nil)) (.node (ho_101 P) (.node (ho_165 P) .nil .nil) .nil)) (.node (ho_53 P) (.node (ho_85 P) (.node (ho_149 P) .nil .nil) .nil) (.node (ho_117 P) (.node (ho_181 P) .nil .nil) .nil))) (.node (ho_29 P) (.node (ho_45 P) (.node (ho_77 P) (.node (ho_141 P) .nil .nil) (.node (ho_205 P) .nil .nil)) (.node (ho_109 P) (.node (ho_173 P) .nil .nil) .nil)) (.node (ho_61 P) (.node (ho_93 P) (.node (ho_157 P) .nil .nil) .nil) (.node (ho_125 P) (.node (ho_189 P) .nil .nil) .nil)))))) (.node (ho_2_1 P) (.node (boot_o_4 P) (.node (boot_o_8 P) (.node (ho_16 P) (.node (ho_32 P) (.node (ho_64 P) (.node (ho_128 P) .nil .nil) (.node (ho_192 P) .nil .nil)) (.node (ho_96 P) (.node (ho_160 P) .nil .nil) .nil)) (.node (ho_48 P) (.node (ho_80 P) (.node (ho_144 P) .nil .nil) (.node (ho_208 P) .nil .nil)) (.node (ho_112 P) (.node (ho_176 P) .nil .nil) .nil))) (.node (ho_24_2 P) (.node (ho_40 P) (.node (ho_72 P) (.node (ho_136 P) .nil .nil) (.node (ho_200 P) .nil .nil)) (.node (ho_104 P) (.node (ho_168 P) .nil .nil) .nil)) (.node (ho_56 P) (.node (ho_88 P) (.node (ho_152 P) .nil .nil) .nil) (.node (ho_120 P) (.node (ho_184 P) .nil .nil) .nil)))) (.node (ho_12_5 P) (.node (ho_20 P) (.node (ho_36 P) (.node (ho_68 P) (.node (ho_132 P) .nil .nil) (.node (ho_196 P) .nil .nil)) (.node (ho_100 P) (.node (ho_164 P) .nil .nil) .nil)) (.node (ho_52 P) (.node (ho_84 P) (.node (ho_148 P) .nil .nil) (.node (ho_212 P) .nil .nil)) (.node (ho_116 P) (.node (ho_180 P) .nil .nil) .nil))) (.node (ho_28 P) (.node (ho_44 P) (.node (ho_76 P) (.node (ho_140 P) .nil .nil) (.node (ho_204 P) .nil .nil)) (.node (ho_108 P) (.node (ho_172 P) .nil .nil) .nil)) (.node (ho_60 P) (.node (ho_92 P) (.node (ho_156 P) .nil .nil) .nil) (.node (ho_124 P) (.node (ho_188 P) .nil .nil) .nil))))) (.node (boot_o_6 P) (.node (boot_o_10 P) (.node (ho_18 P) (.node (ho_34 P) (.node (ho_66 P) (.node (ho_130 P) .nil .nil) (.node (ho_194 P) .nil .nil)) (.node (ho_98 P) (.node (ho_162 P) .nil .nil) .nil)) (.node (ho_50 P) (.node (ho_82 P) (.node (ho_146 P) .nil .nil) (.node (ho_210 P) .nil .nil)) (.node (ho_114 P) (.node (ho_178 P) .nil .nil) .nil))) (.node (ho_26 P) (.node (ho_42 P) (.node (ho_74 P) (.node (ho_138 P) .nil .nil) (.node (ho_202 P) .nil .nil)) (.node (ho_106 P) (.node (ho_170 P) .nil .nil) .nil)) (.node (ho_58 P) (.node (ho_90 P) (.node (ho_154 P) .nil .nil) .nil) (.node (ho_122 P) (.node (ho_186 P) .nil .nil) .nil)))) (.node (ho_14 P) (.node (ho_22 P) (.node (ho_38 P) (.node (ho_70 P) (.node (ho_134 P) .nil .nil) (.node (ho_198 P) .nil .nil)) (.node (ho_102 P) (.node (ho_166 P) .nil .nil) .nil)) (.node (ho_54 P) (.node (ho_86 P) (.node (ho_150 P) .nil .nil) .nil) (.node (ho_118 P) (.node (ho_182 P) .nil .nil) .nil))) (.node (ho_30 P) (.node (ho_46 P) (.node (ho_78 P) (.node (ho_142 P) .nil .nil) (.node (ho_206 P) .nil .nil)) (.node (ho_110 P) (.node (ho_174 P) .nil .nil) .nil)) (.node (ho_62 P) (.node (ho_94 P) (.node (ho_158 P) .nil .nil) .nil) (.node (ho_126 P) (.node (ho_190 P) .nil .nil) .nil)))))))
noncomputable def sT_5 (w : World) (os : OsState) : SharedT := ⟨tr_5 w.params, 213, (@PySem.Life.mk [] [] [] (nat_lit 0) [] [] @Bool.false (Array.mk []) [] (nat_lit 0) @Bool.false @Bool.false @Bool.false (Int.ofNat (nat_lit 0)) [(Int.ofNat (nat_lit 2000)), (Int.ofNat (nat_lit 10)), (Int.ofNat (nat_lit 10))] @Bool.false (nat_lit 0) @Bool.true [] [] (nat_lit 0) @Bool.false), ⟨[]⟩, (@PySem.Drawn.mk (nat_lit 0) (nat_lit 0) (nat_lit 0) (nat_lit 0)), 491, os⟩
noncomputable def hp_5 : Pos := (@PySem.Pos.mk (nat_lit 150) (nat_lit 0) (nat_lit 150) (nat_lit 8))
noncomputable def st_5 : List Stmt := ((behindTheImports pw).drop 18).take 14
theorem seg_5 : ∀ w : World, (fun os => segRunT treeTable pw w 11 hAnn 1 367 (sT_4 w os) (piecesOf st_5 hEnv hCode hp_4 [topFrame hp_q])) = fun os => some (Flow.next, sT_5 w os, hCode, hp_5) := by
  rewrite [PySem.W.Fast.te10110043849684766642, PySem.W.Fast.te14364793385576792824]
  intro w
  kernel_rfl
noncomputable def ho_3_6 (P : Params) : Obj := (@PySem.Obj.mk (@PySem.Value.type "dict") (@Option.none @Nat) (@PySem.Data.dict (Array.mk [(@PySem.DictEntry.mk (@PySem.PyData.keyHash P (@PySem.Str.ofString "__name__")) (@PySem.Value.str (@PySem.Str.ofString "__name__") (nat_lit 165)) (@PySem.Value.str (@PySem.Str.ofString "law_tk0050_01") (nat_lit 588))), (@PySem.DictEntry.mk (@PySem.PyData.keyHash P (@PySem.Str.ofString "__doc__")) (@PySem.Value.str (@PySem.Str.ofString "__doc__") (nat_lit 166)) @PySem.Value.none), (@PySem.DictEntry.mk (@PySem.PyData.keyHash P (@PySem.Str.ofString "__package__")) (@PySem.Value.str (@PySem.Str.ofString "__package__") (nat_lit 167)) @PySem.Value.none), (@PySem.DictEntry.mk (@PySem.PyData.keyHash P (@PySem.Str.ofString "__loader__")) (@PySem.Value.str (@PySem.Str.ofString "__loader__") (nat_lit 168)) (@PySem.Value.builtin "__main__.__loader__#opaque")), (@PySem.DictEntry.mk (@PySem.PyData.keyHash P (@PySem.Str.ofString "__spec__")) (@PySem.Value.str (@PySem.Str.ofString "__spec__") (nat_lit 169)) @PySem.Value.none), (@PySem.DictEntry.mk (@PySem.PyData.keyHash P (@PySem.Str.ofString "__annotations__")) (@PySem.Value.str (@PySem.Str.ofString "__annotations__") (nat_lit 170)) (@PySem.Value.ref (nat_lit 6))), (@PySem.DictEntry.mk (@PySem.PyData.keyHash P (@PySem.Str.ofString "__builtins__")) (@PySem.Value.str (@PySem.Str.ofString "__builtins__") (nat_lit 171)) (@PySem.Value.ref (nat_lit 4))), (@PySem.DictEntry.mk (@PySem.PyData.keyHash P (@PySem.Str.ofString "__file__")) (@PySem.Value.str (@PySem.Str.ofString "__file__") (nat_lit 173)) (@PySem.Value.str (@PySem.Str.ofString "/claim/cut.py") (nat_lit 172))), (@PySem.DictEntry.mk (@PySem.PyData.keyHash P (@PySem.Str.ofString "__cached__")) (@PySem.Value.str (@PySem.Str.ofString "__cached__") (nat_lit 174)) @PySem.Value.none), (@PySem.DictEntry.mk (@PySem.PyData.keyHash P (@PySem.Str.ofString "GmpError")) (@PySem.Value.str (@PySem.Str.ofString "GmpError") (nat_lit 208)) (@PySem.Value.ref (nat_lit 24))), (@PySem.DictEntry.mk (@PySem.PyData.keyHash P (@PySem.Str.ofString "DivisionByZero")) (@PySem.Value.str (@PySem.Str.ofString "DivisionByZero") (nat_lit 224)) (@PySem.Value.ref (nat_lit 37))), (@PySem.DictEntry.mk (@PySem.PyData.keyHash P (@PySem.Str.ofString "OutOfRange")) (@PySem.Value.str (@PySem.Str.ofString "OutOfRange") (nat_lit 240)) (@PySem.Value.ref (nat_lit 49))), (@PySem.DictEntry.mk (@PySem.PyData.keyHash P (@PySem.Str.ofString "normal")) (@PySem.Value.str (@PySem.Str.ofString "normal") (nat_lit 248)) (@PySem.Value.ref (nat_lit 58))), (@PySem.DictEntry.mk (@PySem.PyData.keyHash P (@PySem.Str.ofString "nat_of")) (@PySem.Value.str (@PySem.Str.ofString "nat_of") (nat_lit 258)) (@PySem.Value.ref (nat_lit 65))), (@PySem.DictEntry.mk (@PySem.PyData.keyHash P (@PySem.Str.ofString "compare")) (@PySem.Value.str (@PySem.Str.ofString "compare") (nat_lit 267)) (@PySem.Value.ref (nat_lit 72))), (@PySem.DictEntry.mk (@PySem.PyData.keyHash P (@PySem.Str.ofString "add")) (@PySem.Value.str (@PySem.Str.ofString "add") (nat_lit 280)) (@PySem.Value.ref (nat_lit 79))), (@PySem.DictEntry.mk (@PySem.PyData.keyHash P (@PySem.Str.ofString "sub")) (@PySem.Value.str (@PySem.Str.ofString "sub") (nat_lit 294)) (@PySem.Value.ref (nat_lit 86))), (@PySem.DictEntry.mk (@PySem.PyData.keyHash P (@PySem.Str.ofString "divrem_limb")) (@PySem.Value.str (@PySem.Str.ofString "divrem_limb") (nat_lit 306)) (@PySem.Value.ref (nat_lit 93))), (@PySem.DictEntry.mk (@PySem.PyData.keyHash P (@PySem.Str.ofString "shift_left")) (@PySem.Value.str (@PySem.Str.ofString "shift_left") (nat_lit 321)) (@PySem.Value.ref (nat_lit 100))), (@PySem.DictEntry.mk (@PySem.PyData.keyHash P (@PySem.Str.ofString "shift_right")) (@PySem.Value.str (@PySem.Str.ofString "shift_right") (nat_lit 336)) (@PySem.Value.ref (nat_lit 107))), (@PySem.DictEntry.mk (@PySem.PyData.keyHash P (@PySem.Str.ofString "bits")) (@PySem.Value.str (@PySem.Str.ofString "bits") (nat_lit 344)) (@PySem.Value.ref (nat_lit 114))), (@PySem.DictEntry.mk (@PySem.PyData.keyHash P (@PySem.Str.ofString "signed")) (@PySem.Value.str (@PySem.Str.ofString "signed") (nat_lit 354)) (@PySem.Value.ref (nat_lit 121))), (@PySem.DictEntry.mk (@PySem.PyData.keyHash P (@PySem.Str.ofString "s_of")) (@PySem.Value.str (@PySem.Str.ofString "s_of") (nat_lit 362)) (@PySem.Value.ref (nat_lit 128))), (@PySem.DictEntry.mk (@PySem.PyData.keyHash P (@PySem.Str.ofString "s_neg")) (@PySem.Value.str (@PySem.Str.ofString "s_neg") (nat_lit 369)) (@PySem.Value.ref (nat_lit 135))), (@PySem.DictEntry.mk (@PySem.PyData.keyHash P (@PySem.Str.ofString "s_sign")) (@PySem.Value.str (@PySem.Str.ofString "s_sign") (nat_lit 376)) (@PySem.Value.ref (nat_lit 142))), (@PySem.DictEntry.mk (@PySem.PyData.keyHash P (@PySem.Str.ofString "s_add")) (@PySem.Value.str (@PySem.Str.ofString "s_add") (nat_lit 385)) (@PySem.Value.ref (nat_lit 149))), (@PySem.DictEntry.mk (@PySem.PyData.keyHash P (@PySem.Str.ofString "s_sub")) (@PySem.Value.str (@PySem.Str.ofString "s_sub") (nat_lit 394)) (@PySem.Value.ref (nat_lit 156))), (@PySem.DictEntry.mk (@PySem.PyData.keyHash P (@PySem.Str.ofString "s_mul")) (@PySem.Value.str (@PySem.Str.ofString "s_mul") (nat_lit 404)) (@PySem.Value.ref (nat_lit 163))), (@PySem.DictEntry.mk (@PySem.PyData.keyHash P (@PySem.Str.ofString "tdiv")) (@PySem.Value.str (@PySem.Str.ofString "tdiv") (nat_lit 416)) (@PySem.Value.ref (nat_lit 170))), (@PySem.DictEntry.mk (@PySem.PyData.keyHash P (@PySem.Str.ofString "NOUGHT")) (@PySem.Value.str (@PySem.Str.ofString "NOUGHT") (nat_lit 419)) (@PySem.Value.ref (nat_lit 172))), (@PySem.DictEntry.mk (@PySem.PyData.keyHash P (@PySem.Str.ofString "UNIT")) (@PySem.Value.str (@PySem.Str.ofString "UNIT") (nat_lit 421)) (@PySem.Value.ref (nat_lit 174))), (@PySem.DictEntry.mk (@PySem.PyData.keyHash P (@PySem.Str.ofString "m_of")) (@PySem.Value.str (@PySem.Str.ofString "m_of") (nat_lit 427)) (@PySem.Value.ref (nat_lit 179))), (@PySem.DictEntry.mk (@PySem.PyData.keyHash P (@PySem.Str.ofString "exact")) (@PySem.Value.str (@PySem.Str.ofString "exact") (nat_lit 439)) (@PySem.Value.ref (nat_lit 186))), (@PySem.DictEntry.mk (@PySem.PyData.keyHash P (@PySem.Str.ofString "pivot_row")) (@PySem.Value.str (@PySem.Str.ofString "pivot_row") (nat_lit 449)) (@PySem.Value.ref (nat_lit 193))), (@PySem.DictEntry.mk (@PySem.PyData.keyHash P (@PySem.Str.ofString "cleared")) (@PySem.Value.str (@PySem.Str.ofString "cleared") (nat_lit 468)) (@PySem.Value.ref (nat_lit 200))), (@PySem.DictEntry.mk (@PySem.PyData.keyHash P (@PySem.Str.ofString "steps_down")) (@PySem.Value.str (@PySem.Str.ofString "steps_down") (nat_lit 474)) (@PySem.Value.ref (nat_lit 205))), (@PySem.DictEntry.mk (@PySem.PyData.keyHash P (@PySem.Str.ofString "det_bareiss")) (@PySem.Value.str (@PySem.Str.ofString "det_bareiss") (nat_lit 488)) (@PySem.Value.ref (nat_lit 212))), (@PySem.DictEntry.mk (@PySem.PyData.keyHash P (@PySem.Str.ofString "mul_school")) (@PySem.Value.str (@PySem.Str.ofString "mul_school") (nat_lit 506)) (@PySem.Value.ref (nat_lit 219))), (@PySem.DictEntry.mk (@PySem.PyData.keyHash P (@PySem.Str.ofString "divrem_small")) (@PySem.Value.str (@PySem.Str.ofString "divrem_small") (nat_lit 517)) (@PySem.Value.ref (nat_lit 226))), (@PySem.DictEntry.mk (@PySem.PyData.keyHash P (@PySem.Str.ofString "guessed_limb")) (@PySem.Value.str (@PySem.Str.ofString "guessed_limb") (nat_lit 531)) (@PySem.Value.ref (nat_lit 233))), (@PySem.DictEntry.mk (@PySem.PyData.keyHash P (@PySem.Str.ofString "take_away")) (@PySem.Value.str (@PySem.Str.ofString "take_away") (nat_lit 547)) (@PySem.Value.ref (nat_lit 240))), (@PySem.DictEntry.mk (@PySem.PyData.keyHash P (@PySem.Str.ofString "put_back")) (@PySem.Value.str (@PySem.Str.ofString "put_back") (nat_lit 561)) (@PySem.Value.ref (nat_lit 247))), (@PySem.DictEntry.mk (@PySem.PyData.keyHash P (@PySem.Str.ofString "divide_rows")) (@PySem.Value.str (@PySem.Str.ofString "divide_rows") (nat_lit 574)) (@PySem.Value.ref (nat_lit 254))), (@PySem.DictEntry.mk (@PySem.PyData.keyHash P (@PySem.Str.ofString "divrem_school")) (@PySem.Value.str (@PySem.Str.ofString "divrem_school") (nat_lit 587)) (@PySem.Value.ref (nat_lit 261))), (@PySem.DictEntry.mk (@PySem.PyData.keyHash P (@PySem.Str.ofString "_law_sifted")) (@PySem.Value.str (@PySem.Str.ofString "_law_sifted") (nat_lit 597)) (@PySem.Value.ref (nat_lit 268))), (@PySem.DictEntry.mk (@PySem.PyData.keyHash P (@PySem.Str.ofString "_law_plain")) (@PySem.Value.str (@PySem.Str.ofString "_law_plain") (nat_lit 607)) (@PySem.Value.ref (nat_lit 275))), (@PySem.DictEntry.mk (@PySem.PyData.keyHash P (@PySem.Str.ofString "_law_told")) (@PySem.Value.str (@PySem.Str.ofString "_law_told") (nat_lit 613)) (@PySem.Value.ref (nat_lit 280))), (@PySem.DictEntry.mk (@PySem.PyData.keyHash P (@PySem.Str.ofString "_law_joins")) (@PySem.Value.str (@PySem.Str.ofString "_law_joins") (nat_lit 619)) (@PySem.Value.ref (nat_lit 285))), (@PySem.DictEntry.mk (@PySem.PyData.keyHash P (@PySem.Str.ofString "_law_trees")) (@PySem.Value.str (@PySem.Str.ofString "_law_trees") (nat_lit 625)) (@PySem.Value.ref (nat_lit 290))), (@PySem.DictEntry.mk (@PySem.PyData.keyHash P (@PySem.Str.ofString "_law_merged")) (@PySem.Value.str (@PySem.Str.ofString "_law_merged") (nat_lit 631)) (@PySem.Value.ref (nat_lit 295))), (@PySem.DictEntry.mk (@PySem.PyData.keyHash P (@PySem.Str.ofString "law")) (@PySem.Value.str (@PySem.Str.ofString "law") (nat_lit 637)) (@PySem.Value.ref (nat_lit 300)))]) (nat_lit 51)) (Array.mk []))
noncomputable def ho_12_6 (P : Params) : Obj := (@PySem.Obj.mk @PySem.Value.none (@Option.none @Nat) (@PySem.Data.fields (Array.mk [(@PySem.Value.int (Int.ofNat (nat_lit 2)) (nat_lit 0)), (@PySem.Value.int (Int.ofNat (nat_lit 0)) (nat_lit 0)), (@PySem.Value.ref (nat_lit 20)), (@PySem.Value.int (Int.ofNat (nat_lit 4)) (nat_lit 0)), (@PySem.Value.int (Int.ofNat (nat_lit 0)) (nat_lit 0)), (@PySem.Value.ref (nat_lit 33)), (@PySem.Value.int (Int.ofNat (nat_lit 6)) (nat_lit 0)), (@PySem.Value.int (Int.ofNat (nat_lit 0)) (nat_lit 0)), (@PySem.Value.ref (nat_lit 45)), (@PySem.Value.int (Int.ofNat (nat_lit 8)) (nat_lit 0)), (@PySem.Value.int (Int.ofNat (nat_lit 0)) (nat_lit 0)), (@PySem.Value.ref (nat_lit 57)), (@PySem.Value.int (Int.ofNat (nat_lit 13)) (nat_lit 0)), (@PySem.Value.int (Int.ofNat (nat_lit 0)) (nat_lit 0)), (@PySem.Value.ref (nat_lit 64)), (@PySem.Value.int (Int.ofNat (nat_lit 21)) (nat_lit 0)), (@PySem.Value.int (Int.ofNat (nat_lit 0)) (nat_lit 0)), (@PySem.Value.ref (nat_lit 71)), (@PySem.Value.int (Int.ofNat (nat_lit 28)) (nat_lit 0)), (@PySem.Value.int (Int.ofNat (nat_lit 0)) (nat_lit 0)), (@PySem.Value.ref (nat_lit 78)), (@PySem.Value.int (Int.ofNat (nat_lit 43)) (nat_lit 0)), (@PySem.Value.int (Int.ofNat (nat_lit 0)) (nat_lit 0)), (@PySem.Value.ref (nat_lit 85)), (@PySem.Value.int (Int.ofNat (nat_lit 52)) (nat_lit 0)), (@PySem.Value.int (Int.ofNat (nat_lit 0)) (nat_lit 0)), (@PySem.Value.ref (nat_lit 92)), (@PySem.Value.int (Int.ofNat (nat_lit 61)) (nat_lit 0)), (@PySem.Value.int (Int.ofNat (nat_lit 0)) (nat_lit 0)), (@PySem.Value.ref (nat_lit 99)), (@PySem.Value.int (Int.ofNat (nat_lit 73)) (nat_lit 0)), (@PySem.Value.int (Int.ofNat (nat_lit 0)) (nat_lit 0)), (@PySem.Value.ref (nat_lit 106)), (@PySem.Value.int (Int.ofNat (nat_lit 80)) (nat_lit 0)), (@PySem.Value.int (Int.ofNat (nat_lit 0)) (nat_lit 0)), (@PySem.Value.ref (nat_lit 113)), (@PySem.Value.int (Int.ofNat (nat_lit 83)) (nat_lit 0)), (@PySem.Value.int (Int.ofNat (nat_lit 0)) (nat_lit 0)), (@PySem.Value.ref (nat_lit 120)), (@PySem.Value.int (Int.ofNat (nat_lit 85)) (nat_lit 0)), (@PySem.Value.int (Int.ofNat (nat_lit 0)) (nat_lit 0)), (@PySem.Value.ref (nat_lit 127)), (@PySem.Value.int (Int.ofNat (nat_lit 87)) (nat_lit 0)), (@PySem.Value.int (Int.ofNat (nat_lit 0)) (nat_lit 0)), (@PySem.Value.ref (nat_lit 134)), (@PySem.Value.int (Int.ofNat (nat_lit 89)) (nat_lit 0)), (@PySem.Value.int (Int.ofNat (nat_lit 0)) (nat_lit 0)), (@PySem.Value.ref (nat_lit 141)), (@PySem.Value.int (Int.ofNat (nat_lit 93)) (nat_lit 0)), (@PySem.Value.int (Int.ofNat (nat_lit 0)) (nat_lit 0)), (@PySem.Value.ref (nat_lit 148)), (@PySem.Value.int (Int.ofNat (nat_lit 99)) (nat_lit 0)), (@PySem.Value.int (Int.ofNat (nat_lit 0)) (nat_lit 0)), (@PySem.Value.ref (nat_lit 155)), (@PySem.Value.int (Int.ofNat (nat_lit 101)) (nat_lit 0)), (@PySem.Value.int (Int.ofNat (nat_lit 0)) (nat_lit 0)), (@PySem.Value.ref (nat_lit 162)), (@PySem.Value.int (Int.ofNat (nat_lit 103)) (nat_lit 0)), (@PySem.Value.int (Int.ofNat (nat_lit 0)) (nat_lit 0)), (@PySem.Value.ref (nat_lit 169)), (@PySem.Value.int (Int.ofNat (nat_lit 111)) (nat_lit 0)), (@PySem.Value.int (Int.ofNat (nat_lit 0)) (nat_lit 0)), (@PySem.Value.ref (nat_lit 178)), (@PySem.Value.int (Int.ofNat (nat_lit 113)) (nat_lit 0)), (@PySem.Value.int (Int.ofNat (nat_lit 0)) (nat_lit 0)), (@PySem.Value.ref (nat_lit 185)), (@PySem.Value.int (Int.ofNat (nat_lit 116)) (nat_lit 0)), (@PySem.Value.int (Int.ofNat (nat_lit 0)) (nat_lit 0)), (@PySem.Value.ref (nat_lit 192)), (@PySem.Value.int (Int.ofNat (nat_lit 121)) (nat_lit 0)), (@PySem.Value.int (Int.ofNat (nat_lit 0)) (nat_lit 0)), (@PySem.Value.ref (nat_lit 199)), (@PySem.Value.int (Int.ofNat (nat_lit 128)) (nat_lit 0)), (@PySem.Value.int (Int.ofNat (nat_lit 0)) (nat_lit 0)), (@PySem.Value.ref (nat_lit 204)), (@PySem.Value.int (Int.ofNat (nat_lit 142)) (nat_lit 0)), (@PySem.Value.int (Int.ofNat (nat_lit 0)) (nat_lit 0)), (@PySem.Value.ref (nat_lit 211)), (@PySem.Value.int (Int.ofNat (nat_lit 151)) (nat_lit 0)), (@PySem.Value.int (Int.ofNat (nat_lit 0)) (nat_lit 0)), (@PySem.Value.ref (nat_lit 218)), (@PySem.Value.int (Int.ofNat (nat_lit 161)) (nat_lit 0)), (@PySem.Value.int (Int.ofNat (nat_lit 0)) (nat_lit 0)), (@PySem.Value.ref (nat_lit 225)), (@PySem.Value.int (Int.ofNat (nat_lit 164)) (nat_lit 0)), (@PySem.Value.int (Int.ofNat (nat_lit 0)) (nat_lit 0)), (@PySem.Value.ref (nat_lit 232)), (@PySem.Value.int (Int.ofNat (nat_lit 172)) (nat_lit 0)), (@PySem.Value.int (Int.ofNat (nat_lit 0)) (nat_lit 0)), (@PySem.Value.ref (nat_lit 239)), (@PySem.Value.int (Int.ofNat (nat_lit 181)) (nat_lit 0)), (@PySem.Value.int (Int.ofNat (nat_lit 0)) (nat_lit 0)), (@PySem.Value.ref (nat_lit 246)), (@PySem.Value.int (Int.ofNat (nat_lit 188)) (nat_lit 0)), (@PySem.Value.int (Int.ofNat (nat_lit 0)) (nat_lit 0)), (@PySem.Value.ref (nat_lit 253)), (@PySem.Value.int (Int.ofNat (nat_lit 198)) (nat_lit 0)), (@PySem.Value.int (Int.ofNat (nat_lit 0)) (nat_lit 0)), (@PySem.Value.ref (nat_lit 260)), (@PySem.Value.int (Int.ofNat (nat_lit 212)) (nat_lit 0)), (@PySem.Value.int (Int.ofNat (nat_lit 0)) (nat_lit 0)), (@PySem.Value.ref (nat_lit 267)), (@PySem.Value.int (Int.ofNat (nat_lit 217)) (nat_lit 0)), (@PySem.Value.int (Int.ofNat (nat_lit 0)) (nat_lit 0)), (@PySem.Value.ref (nat_lit 274)), (@PySem.Value.int (Int.ofNat (nat_lit 222)) (nat_lit 0)), (@PySem.Value.int (Int.ofNat (nat_lit 0)) (nat_lit 0)), (@PySem.Value.ref (nat_lit 279)), (@PySem.Value.int (Int.ofNat (nat_lit 232)) (nat_lit 0)), (@PySem.Value.int (Int.ofNat (nat_lit 0)) (nat_lit 0)), (@PySem.Value.ref (nat_lit 284)), (@PySem.Value.int (Int.ofNat (nat_lit 238)) (nat_lit 0)), (@PySem.Value.int (Int.ofNat (nat_lit 0)) (nat_lit 0)), (@PySem.Value.ref (nat_lit 289)), (@PySem.Value.int (Int.ofNat (nat_lit 243)) (nat_lit 0)), (@PySem.Value.int (Int.ofNat (nat_lit 0)) (nat_lit 0)), (@PySem.Value.ref (nat_lit 294)), (@PySem.Value.int (Int.ofNat (nat_lit 249)) (nat_lit 0)), (@PySem.Value.int (Int.ofNat (nat_lit 0)) (nat_lit 0)), (@PySem.Value.ref (nat_lit 299))])) (Array.mk []))
noncomputable def ho_213 (P : Params) : Obj := (@PySem.Obj.mk (@PySem.Value.type "tuple") (@Option.none @Nat) (@PySem.Data.seq (Array.mk []) (nat_lit 0)) (Array.mk []))
noncomputable def ho_214 (P : Params) : Obj := (@PySem.Obj.mk @PySem.Value.none (@Option.none @Nat) (@PySem.Data.fields (Array.mk [])) (Array.mk []))
noncomputable def ho_215 (P : Params) : Obj := (@PySem.Obj.mk (@PySem.Value.type "tuple") (@Option.none @Nat) (@PySem.Data.seq (Array.mk [(@PySem.Value.str (@PySem.Str.ofString "a") (nat_lit 494)), (@PySem.Value.str (@PySem.Str.ofString "b") (nat_lit 495)), (@PySem.Value.str (@PySem.Str.ofString "w") (nat_lit 496)), (@PySem.Value.str (@PySem.Str.ofString "found") (nat_lit 497)), (@PySem.Value.str (@PySem.Str.ofString "mask") (nat_lit 498)), (@PySem.Value.str (@PySem.Str.ofString "at") (nat_lit 499)), (@PySem.Value.str (@PySem.Str.ofString "limb") (nat_lit 500)), (@PySem.Value.str (@PySem.Str.ofString "carry") (nat_lit 501)), (@PySem.Value.str (@PySem.Str.ofString "spot") (nat_lit 502)), (@PySem.Value.str (@PySem.Str.ofString "other") (nat_lit 503))]) (nat_lit 0)) (Array.mk []))
noncomputable def ho_216 (P : Params) : Obj := (@PySem.Obj.mk (@PySem.Value.type "tuple") (@Option.none @Nat) (@PySem.Data.seq (Array.mk []) (nat_lit 0)) (Array.mk []))
noncomputable def ho_217 (P : Params) : Obj := (@PySem.Obj.mk @PySem.Value.none (@Option.none @Nat) (@PySem.Data.func (@PySem.FuncData.mk (@PySem.Str.ofString "mul_school") (@PySem.Str.ofString "mul_school") (fPar 32) (fBody 32) (fScope 32) (nat_lit 0) [] @PySem.Value.none @PySem.Value.none @PySem.Value.none @PySem.Value.none (@Option.none @Nat) @PySem.Value.none @PySem.Value.none (nat_lit 0))) (Array.mk []))
noncomputable def ho_218 (P : Params) : Obj := (@PySem.Obj.mk (@PySem.Value.type "code") (@Option.none @Nat) (@PySem.Data.fields (Array.mk [(@PySem.Value.str (@PySem.Str.ofString "mul_school") (nat_lit 491)), (@PySem.Value.str (@PySem.Str.ofString "mul_school") (nat_lit 492)), (@PySem.Value.str (@PySem.Str.ofString "/claim/cut.py") (nat_lit 493)), (@PySem.Value.int (Int.ofNat (nat_lit 151)) (nat_lit 0)), (@PySem.Value.int (Int.ofNat (nat_lit 3)) (nat_lit 0)), (@PySem.Value.int (Int.ofNat (nat_lit 0)) (nat_lit 0)), (@PySem.Value.int (Int.ofNat (nat_lit 0)) (nat_lit 0)), (@PySem.Value.int (Int.ofNat (nat_lit 3)) (nat_lit 0)), (@PySem.Value.ref (nat_lit 213)), (@PySem.Value.bool @Bool.true), (@PySem.Value.int (Int.ofNat (nat_lit 181)) (nat_lit 0)), (@PySem.Value.ref (nat_lit 214)), @PySem.Value.none, (@PySem.Value.ref (nat_lit 215)), (@PySem.Value.ref (nat_lit 216)), (@PySem.Value.ref (nat_lit 217)), (@PySem.Value.int (Int.ofNat (nat_lit 504)) (nat_lit 0)), (@PySem.Value.int (Int.ofNat (nat_lit 151)) (nat_lit 0)), (@PySem.Value.str (@PySem.Str.ofString "/claim/cut.py") (nat_lit 505))])) (Array.mk []))
noncomputable def ho_219 (P : Params) : Obj := (@PySem.Obj.mk (@PySem.Value.type "function") (@Option.none @Nat) (@PySem.Data.func (@PySem.FuncData.mk (@PySem.Str.ofString "mul_school") (@PySem.Str.ofString "mul_school") (fPar 32) (fBody 32) (fScope 32) (nat_lit 3) [] @PySem.Value.none @PySem.Value.none @PySem.Value.none (@PySem.Value.str (@PySem.Str.ofString "gmp.school") (nat_lit 489)) (@Option.none @Nat) (@PySem.Value.ref (nat_lit 218)) @PySem.Value.none (nat_lit 0))) (Array.mk []))
noncomputable def ho_220 (P : Params) : Obj := (@PySem.Obj.mk (@PySem.Value.type "tuple") (@Option.none @Nat) (@PySem.Data.seq (Array.mk []) (nat_lit 0)) (Array.mk []))
noncomputable def ho_221 (P : Params) : Obj := (@PySem.Obj.mk @PySem.Value.none (@Option.none @Nat) (@PySem.Data.fields (Array.mk [])) (Array.mk []))
noncomputable def ho_222 (P : Params) : Obj := (@PySem.Obj.mk (@PySem.Value.type "tuple") (@Option.none @Nat) (@PySem.Data.seq (Array.mk [(@PySem.Value.str (@PySem.Str.ofString "a") (nat_lit 510)), (@PySem.Value.str (@PySem.Str.ofString "b") (nat_lit 511)), (@PySem.Value.str (@PySem.Str.ofString "w") (nat_lit 512)), (@PySem.Value.str (@PySem.Str.ofString "quotient") (nat_lit 513)), (@PySem.Value.str (@PySem.Str.ofString "rest") (nat_lit 514))]) (nat_lit 0)) (Array.mk []))
noncomputable def ho_223 (P : Params) : Obj := (@PySem.Obj.mk (@PySem.Value.type "tuple") (@Option.none @Nat) (@PySem.Data.seq (Array.mk []) (nat_lit 0)) (Array.mk []))
noncomputable def ho_224 (P : Params) : Obj := (@PySem.Obj.mk @PySem.Value.none (@Option.none @Nat) (@PySem.Data.func (@PySem.FuncData.mk (@PySem.Str.ofString "divrem_small") (@PySem.Str.ofString "divrem_small") (fPar 33) (fBody 33) (fScope 33) (nat_lit 0) [] @PySem.Value.none @PySem.Value.none @PySem.Value.none @PySem.Value.none (@Option.none @Nat) @PySem.Value.none @PySem.Value.none (nat_lit 0))) (Array.mk []))
noncomputable def ho_225 (P : Params) : Obj := (@PySem.Obj.mk (@PySem.Value.type "code") (@Option.none @Nat) (@PySem.Data.fields (Array.mk [(@PySem.Value.str (@PySem.Str.ofString "divrem_small") (nat_lit 507)), (@PySem.Value.str (@PySem.Str.ofString "divrem_small") (nat_lit 508)), (@PySem.Value.str (@PySem.Str.ofString "/claim/cut.py") (nat_lit 509)), (@PySem.Value.int (Int.ofNat (nat_lit 161)) (nat_lit 0)), (@PySem.Value.int (Int.ofNat (nat_lit 3)) (nat_lit 0)), (@PySem.Value.int (Int.ofNat (nat_lit 0)) (nat_lit 0)), (@PySem.Value.int (Int.ofNat (nat_lit 0)) (nat_lit 0)), (@PySem.Value.int (Int.ofNat (nat_lit 3)) (nat_lit 0)), (@PySem.Value.ref (nat_lit 220)), (@PySem.Value.bool @Bool.true), (@PySem.Value.int (Int.ofNat (nat_lit 181)) (nat_lit 0)), (@PySem.Value.ref (nat_lit 221)), @PySem.Value.none, (@PySem.Value.ref (nat_lit 222)), (@PySem.Value.ref (nat_lit 223)), (@PySem.Value.ref (nat_lit 224)), (@PySem.Value.int (Int.ofNat (nat_lit 515)) (nat_lit 0)), (@PySem.Value.int (Int.ofNat (nat_lit 161)) (nat_lit 0)), (@PySem.Value.str (@PySem.Str.ofString "/claim/cut.py") (nat_lit 516))])) (Array.mk []))
noncomputable def ho_226 (P : Params) : Obj := (@PySem.Obj.mk (@PySem.Value.type "function") (@Option.none @Nat) (@PySem.Data.func (@PySem.FuncData.mk (@PySem.Str.ofString "divrem_small") (@PySem.Str.ofString "divrem_small") (fPar 33) (fBody 33) (fScope 33) (nat_lit 3) [] @PySem.Value.none @PySem.Value.none @PySem.Value.none (@PySem.Value.str (@PySem.Str.ofString "gmp.school") (nat_lit 489)) (@Option.none @Nat) (@PySem.Value.ref (nat_lit 225)) @PySem.Value.none (nat_lit 0))) (Array.mk []))
noncomputable def ho_227 (P : Params) : Obj := (@PySem.Obj.mk (@PySem.Value.type "tuple") (@Option.none @Nat) (@PySem.Data.seq (Array.mk []) (nat_lit 0)) (Array.mk []))
noncomputable def ho_228 (P : Params) : Obj := (@PySem.Obj.mk @PySem.Value.none (@Option.none @Nat) (@PySem.Data.fields (Array.mk [])) (Array.mk []))
noncomputable def ho_229 (P : Params) : Obj := (@PySem.Obj.mk (@PySem.Value.type "tuple") (@Option.none @Nat) (@PySem.Data.seq (Array.mk [(@PySem.Value.str (@PySem.Str.ofString "top") (nat_lit 521)), (@PySem.Value.str (@PySem.Str.ofString "first") (nat_lit 522)), (@PySem.Value.str (@PySem.Str.ofString "second") (nat_lit 523)), (@PySem.Value.str (@PySem.Str.ofString "w") (nat_lit 524)), (@PySem.Value.str (@PySem.Str.ofString "high") (nat_lit 525)), (@PySem.Value.str (@PySem.Str.ofString "base") (nat_lit 526)), (@PySem.Value.str (@PySem.Str.ofString "limb") (nat_lit 527)), (@PySem.Value.str (@PySem.Str.ofString "rest") (nat_lit 528))]) (nat_lit 0)) (Array.mk []))
noncomputable def ho_230 (P : Params) : Obj := (@PySem.Obj.mk (@PySem.Value.type "tuple") (@Option.none @Nat) (@PySem.Data.seq (Array.mk []) (nat_lit 0)) (Array.mk []))
noncomputable def ho_231 (P : Params) : Obj := (@PySem.Obj.mk @PySem.Value.none (@Option.none @Nat) (@PySem.Data.func (@PySem.FuncData.mk (@PySem.Str.ofString "guessed_limb") (@PySem.Str.ofString "guessed_limb") (fPar 34) (fBody 34) (fScope 34) (nat_lit 0) [] @PySem.Value.none @PySem.Value.none @PySem.Value.none @PySem.Value.none (@Option.none @Nat) @PySem.Value.none @PySem.Value.none (nat_lit 0))) (Array.mk []))
noncomputable def ho_232 (P : Params) : Obj := (@PySem.Obj.mk (@PySem.Value.type "code") (@Option.none @Nat) (@PySem.Data.fields (Array.mk [(@PySem.Value.str (@PySem.Str.ofString "guessed_limb") (nat_lit 518)), (@PySem.Value.str (@PySem.Str.ofString "guessed_limb") (nat_lit 519)), (@PySem.Value.str (@PySem.Str.ofString "/claim/cut.py") (nat_lit 520)), (@PySem.Value.int (Int.ofNat (nat_lit 164)) (nat_lit 0)), (@PySem.Value.int (Int.ofNat (nat_lit 4)) (nat_lit 0)), (@PySem.Value.int (Int.ofNat (nat_lit 0)) (nat_lit 0)), (@PySem.Value.int (Int.ofNat (nat_lit 0)) (nat_lit 0)), (@PySem.Value.int (Int.ofNat (nat_lit 3)) (nat_lit 0)), (@PySem.Value.ref (nat_lit 227)), (@PySem.Value.bool @Bool.true), (@PySem.Value.int (Int.ofNat (nat_lit 181)) (nat_lit 0)), (@PySem.Value.ref (nat_lit 228)), @PySem.Value.none, (@PySem.Value.ref (nat_lit 229)), (@PySem.Value.ref (nat_lit 230)), (@PySem.Value.ref (nat_lit 231)), (@PySem.Value.int (Int.ofNat (nat_lit 529)) (nat_lit 0)), (@PySem.Value.int (Int.ofNat (nat_lit 164)) (nat_lit 0)), (@PySem.Value.str (@PySem.Str.ofString "/claim/cut.py") (nat_lit 530))])) (Array.mk []))
noncomputable def ho_233 (P : Params) : Obj := (@PySem.Obj.mk (@PySem.Value.type "function") (@Option.none @Nat) (@PySem.Data.func (@PySem.FuncData.mk (@PySem.Str.ofString "guessed_limb") (@PySem.Str.ofString "guessed_limb") (fPar 34) (fBody 34) (fScope 34) (nat_lit 3) [] @PySem.Value.none @PySem.Value.none @PySem.Value.none (@PySem.Value.str (@PySem.Str.ofString "gmp.school") (nat_lit 489)) (@Option.none @Nat) (@PySem.Value.ref (nat_lit 232)) @PySem.Value.none (nat_lit 0))) (Array.mk []))
noncomputable def ho_234 (P : Params) : Obj := (@PySem.Obj.mk (@PySem.Value.type "tuple") (@Option.none @Nat) (@PySem.Data.seq (Array.mk []) (nat_lit 0)) (Array.mk []))
noncomputable def ho_235 (P : Params) : Obj := (@PySem.Obj.mk @PySem.Value.none (@Option.none @Nat) (@PySem.Data.fields (Array.mk [])) (Array.mk []))
noncomputable def ho_236 (P : Params) : Obj := (@PySem.Obj.mk (@PySem.Value.type "tuple") (@Option.none @Nat) (@PySem.Data.seq (Array.mk [(@PySem.Value.str (@PySem.Str.ofString "rest") (nat_lit 535)), (@PySem.Value.str (@PySem.Str.ofString "b") (nat_lit 536)), (@PySem.Value.str (@PySem.Str.ofString "limb") (nat_lit 537)), (@PySem.Value.str (@PySem.Str.ofString "at") (nat_lit 538)), (@PySem.Value.str (@PySem.Str.ofString "w") (nat_lit 539)), (@PySem.Value.str (@PySem.Str.ofString "carry") (nat_lit 540)), (@PySem.Value.str (@PySem.Str.ofString "base") (nat_lit 541)), (@PySem.Value.str (@PySem.Str.ofString "spot") (nat_lit 542)), (@PySem.Value.str (@PySem.Str.ofString "other") (nat_lit 543)), (@PySem.Value.str (@PySem.Str.ofString "here") (nat_lit 544))]) (nat_lit 0)) (Array.mk []))
noncomputable def ho_237 (P : Params) : Obj := (@PySem.Obj.mk (@PySem.Value.type "tuple") (@Option.none @Nat) (@PySem.Data.seq (Array.mk []) (nat_lit 0)) (Array.mk []))
noncomputable def ho_238 (P : Params) : Obj := (@PySem.Obj.mk @PySem.Value.none (@Option.none @Nat) (@PySem.Data.func (@PySem.FuncData.mk (@PySem.Str.ofString "take_away") (@PySem.Str.ofString "take_away") (fPar 35) (fBody 35) (fScope 35) (nat_lit 0) [] @PySem.Value.none @PySem.Value.none @PySem.Value.none @PySem.Value.none (@Option.none @Nat) @PySem.Value.none @PySem.Value.none (nat_lit 0))) (Array.mk []))
noncomputable def ho_239 (P : Params) : Obj := (@PySem.Obj.mk (@PySem.Value.type "code") (@Option.none @Nat) (@PySem.Data.fields (Array.mk [(@PySem.Value.str (@PySem.Str.ofString "take_away") (nat_lit 532)), (@PySem.Value.str (@PySem.Str.ofString "take_away") (nat_lit 533)), (@PySem.Value.str (@PySem.Str.ofString "/claim/cut.py") (nat_lit 534)), (@PySem.Value.int (Int.ofNat (nat_lit 172)) (nat_lit 0)), (@PySem.Value.int (Int.ofNat (nat_lit 5)) (nat_lit 0)), (@PySem.Value.int (Int.ofNat (nat_lit 0)) (nat_lit 0)), (@PySem.Value.int (Int.ofNat (nat_lit 0)) (nat_lit 0)), (@PySem.Value.int (Int.ofNat (nat_lit 3)) (nat_lit 0)), (@PySem.Value.ref (nat_lit 234)), (@PySem.Value.bool @Bool.true), (@PySem.Value.int (Int.ofNat (nat_lit 181)) (nat_lit 0)), (@PySem.Value.ref (nat_lit 235)), @PySem.Value.none, (@PySem.Value.ref (nat_lit 236)), (@PySem.Value.ref (nat_lit 237)), (@PySem.Value.ref (nat_lit 238)), (@PySem.Value.int (Int.ofNat (nat_lit 545)) (nat_lit 0)), (@PySem.Value.int (Int.ofNat (nat_lit 172)) (nat_lit 0)), (@PySem.Value.str (@PySem.Str.ofString "/claim/cut.py") (nat_lit 546))])) (Array.mk []))
noncomputable def ho_240 (P : Params) : Obj := (@PySem.Obj.mk (@PySem.Value.type "function") (@Option.none @Nat) (@PySem.Data.func (@PySem.FuncData.mk (@PySem.Str.ofString "take_away") (@PySem.Str.ofString "take_away") (fPar 35) (fBody 35) (fScope 35) (nat_lit 3) [] @PySem.Value.none @PySem.Value.none @PySem.Value.none (@PySem.Value.str (@PySem.Str.ofString "gmp.school") (nat_lit 489)) (@Option.none @Nat) (@PySem.Value.ref (nat_lit 239)) @PySem.Value.none (nat_lit 0))) (Array.mk []))
noncomputable def ho_241 (P : Params) : Obj := (@PySem.Obj.mk (@PySem.Value.type "tuple") (@Option.none @Nat) (@PySem.Data.seq (Array.mk []) (nat_lit 0)) (Array.mk []))
noncomputable def ho_242 (P : Params) : Obj := (@PySem.Obj.mk @PySem.Value.none (@Option.none @Nat) (@PySem.Data.fields (Array.mk [])) (Array.mk []))
noncomputable def ho_243 (P : Params) : Obj := (@PySem.Obj.mk (@PySem.Value.type "tuple") (@Option.none @Nat) (@PySem.Data.seq (Array.mk [(@PySem.Value.str (@PySem.Str.ofString "rest") (nat_lit 551)), (@PySem.Value.str (@PySem.Str.ofString "b") (nat_lit 552)), (@PySem.Value.str (@PySem.Str.ofString "at") (nat_lit 553)), (@PySem.Value.str (@PySem.Str.ofString "w") (nat_lit 554)), (@PySem.Value.str (@PySem.Str.ofString "carry") (nat_lit 555)), (@PySem.Value.str (@PySem.Str.ofString "mask") (nat_lit 556)), (@PySem.Value.str (@PySem.Str.ofString "spot") (nat_lit 557)), (@PySem.Value.str (@PySem.Str.ofString "other") (nat_lit 558))]) (nat_lit 0)) (Array.mk []))
noncomputable def ho_244 (P : Params) : Obj := (@PySem.Obj.mk (@PySem.Value.type "tuple") (@Option.none @Nat) (@PySem.Data.seq (Array.mk []) (nat_lit 0)) (Array.mk []))
noncomputable def ho_245 (P : Params) : Obj := (@PySem.Obj.mk @PySem.Value.none (@Option.none @Nat) (@PySem.Data.func (@PySem.FuncData.mk (@PySem.Str.ofString "put_back") (@PySem.Str.ofString "put_back") (fPar 36) (fBody 36) (fScope 36) (nat_lit 0) [] @PySem.Value.none @PySem.Value.none @PySem.Value.none @PySem.Value.none (@Option.none @Nat) @PySem.Value.none @PySem.Value.none (nat_lit 0))) (Array.mk []))
noncomputable def ho_246 (P : Params) : Obj := (@PySem.Obj.mk (@PySem.Value.type "code") (@Option.none @Nat) (@PySem.Data.fields (Array.mk [(@PySem.Value.str (@PySem.Str.ofString "put_back") (nat_lit 548)), (@PySem.Value.str (@PySem.Str.ofString "put_back") (nat_lit 549)), (@PySem.Value.str (@PySem.Str.ofString "/claim/cut.py") (nat_lit 550)), (@PySem.Value.int (Int.ofNat (nat_lit 181)) (nat_lit 0)), (@PySem.Value.int (Int.ofNat (nat_lit 4)) (nat_lit 0)), (@PySem.Value.int (Int.ofNat (nat_lit 0)) (nat_lit 0)), (@PySem.Value.int (Int.ofNat (nat_lit 0)) (nat_lit 0)), (@PySem.Value.int (Int.ofNat (nat_lit 3)) (nat_lit 0)), (@PySem.Value.ref (nat_lit 241)), (@PySem.Value.bool @Bool.true), (@PySem.Value.int (Int.ofNat (nat_lit 181)) (nat_lit 0)), (@PySem.Value.ref (nat_lit 242)), @PySem.Value.none, (@PySem.Value.ref (nat_lit 243)), (@PySem.Value.ref (nat_lit 244)), (@PySem.Value.ref (nat_lit 245)), (@PySem.Value.int (Int.ofNat (nat_lit 559)) (nat_lit 0)), (@PySem.Value.int (Int.ofNat (nat_lit 181)) (nat_lit 0)), (@PySem.Value.str (@PySem.Str.ofString "/claim/cut.py") (nat_lit 560))])) (Array.mk []))
noncomputable def ho_247 (P : Params) : Obj := (@PySem.Obj.mk (@PySem.Value.type "function") (@Option.none @Nat) (@PySem.Data.func (@PySem.FuncData.mk (@PySem.Str.ofString "put_back") (@PySem.Str.ofString "put_back") (fPar 36) (fBody 36) (fScope 36) (nat_lit 3) [] @PySem.Value.none @PySem.Value.none @PySem.Value.none (@PySem.Value.str (@PySem.Str.ofString "gmp.school") (nat_lit 489)) (@Option.none @Nat) (@PySem.Value.ref (nat_lit 246)) @PySem.Value.none (nat_lit 0))) (Array.mk []))
noncomputable def ho_248 (P : Params) : Obj := (@PySem.Obj.mk (@PySem.Value.type "tuple") (@Option.none @Nat) (@PySem.Data.seq (Array.mk []) (nat_lit 0)) (Array.mk []))
noncomputable def ho_249 (P : Params) : Obj := (@PySem.Obj.mk @PySem.Value.none (@Option.none @Nat) (@PySem.Data.fields (Array.mk [])) (Array.mk []))
noncomputable def ho_250 (P : Params) : Obj := (@PySem.Obj.mk (@PySem.Value.type "tuple") (@Option.none @Nat) (@PySem.Data.seq (Array.mk [(@PySem.Value.str (@PySem.Str.ofString "rest") (nat_lit 565)), (@PySem.Value.str (@PySem.Str.ofString "b") (nat_lit 566)), (@PySem.Value.str (@PySem.Str.ofString "w") (nat_lit 567)), (@PySem.Value.str (@PySem.Str.ofString "size") (nat_lit 568)), (@PySem.Value.str (@PySem.Str.ofString "quotient") (nat_lit 569)), (@PySem.Value.str (@PySem.Str.ofString "at") (nat_lit 570)), (@PySem.Value.str (@PySem.Str.ofString "limb") (nat_lit 571))]) (nat_lit 0)) (Array.mk []))
noncomputable def ho_251 (P : Params) : Obj := (@PySem.Obj.mk (@PySem.Value.type "tuple") (@Option.none @Nat) (@PySem.Data.seq (Array.mk []) (nat_lit 0)) (Array.mk []))
noncomputable def ho_252 (P : Params) : Obj := (@PySem.Obj.mk @PySem.Value.none (@Option.none @Nat) (@PySem.Data.func (@PySem.FuncData.mk (@PySem.Str.ofString "divide_rows") (@PySem.Str.ofString "divide_rows") (fPar 37) (fBody 37) (fScope 37) (nat_lit 0) [] @PySem.Value.none @PySem.Value.none @PySem.Value.none @PySem.Value.none (@Option.none @Nat) @PySem.Value.none @PySem.Value.none (nat_lit 0))) (Array.mk []))
noncomputable def ho_253 (P : Params) : Obj := (@PySem.Obj.mk (@PySem.Value.type "code") (@Option.none @Nat) (@PySem.Data.fields (Array.mk [(@PySem.Value.str (@PySem.Str.ofString "divide_rows") (nat_lit 562)), (@PySem.Value.str (@PySem.Str.ofString "divide_rows") (nat_lit 563)), (@PySem.Value.str (@PySem.Str.ofString "/claim/cut.py") (nat_lit 564)), (@PySem.Value.int (Int.ofNat (nat_lit 188)) (nat_lit 0)), (@PySem.Value.int (Int.ofNat (nat_lit 3)) (nat_lit 0)), (@PySem.Value.int (Int.ofNat (nat_lit 0)) (nat_lit 0)), (@PySem.Value.int (Int.ofNat (nat_lit 0)) (nat_lit 0)), (@PySem.Value.int (Int.ofNat (nat_lit 3)) (nat_lit 0)), (@PySem.Value.ref (nat_lit 248)), (@PySem.Value.bool @Bool.true), (@PySem.Value.int (Int.ofNat (nat_lit 181)) (nat_lit 0)), (@PySem.Value.ref (nat_lit 249)), @PySem.Value.none, (@PySem.Value.ref (nat_lit 250)), (@PySem.Value.ref (nat_lit 251)), (@PySem.Value.ref (nat_lit 252)), (@PySem.Value.int (Int.ofNat (nat_lit 572)) (nat_lit 0)), (@PySem.Value.int (Int.ofNat (nat_lit 188)) (nat_lit 0)), (@PySem.Value.str (@PySem.Str.ofString "/claim/cut.py") (nat_lit 573))])) (Array.mk []))
noncomputable def ho_254 (P : Params) : Obj := (@PySem.Obj.mk (@PySem.Value.type "function") (@Option.none @Nat) (@PySem.Data.func (@PySem.FuncData.mk (@PySem.Str.ofString "divide_rows") (@PySem.Str.ofString "divide_rows") (fPar 37) (fBody 37) (fScope 37) (nat_lit 3) [] @PySem.Value.none @PySem.Value.none @PySem.Value.none (@PySem.Value.str (@PySem.Str.ofString "gmp.school") (nat_lit 489)) (@Option.none @Nat) (@PySem.Value.ref (nat_lit 253)) @PySem.Value.none (nat_lit 0))) (Array.mk []))
noncomputable def ho_255 (P : Params) : Obj := (@PySem.Obj.mk (@PySem.Value.type "tuple") (@Option.none @Nat) (@PySem.Data.seq (Array.mk []) (nat_lit 0)) (Array.mk []))
noncomputable def ho_256 (P : Params) : Obj := (@PySem.Obj.mk @PySem.Value.none (@Option.none @Nat) (@PySem.Data.fields (Array.mk [])) (Array.mk []))
noncomputable def ho_257 (P : Params) : Obj := (@PySem.Obj.mk (@PySem.Value.type "tuple") (@Option.none @Nat) (@PySem.Data.seq (Array.mk [(@PySem.Value.str (@PySem.Str.ofString "a") (nat_lit 578)), (@PySem.Value.str (@PySem.Str.ofString "b") (nat_lit 579)), (@PySem.Value.str (@PySem.Str.ofString "w") (nat_lit 580)), (@PySem.Value.str (@PySem.Str.ofString "shift") (nat_lit 581)), (@PySem.Value.str (@PySem.Str.ofString "divisor") (nat_lit 582)), (@PySem.Value.str (@PySem.Str.ofString "rest") (nat_lit 583)), (@PySem.Value.str (@PySem.Str.ofString "quotient") (nat_lit 584))]) (nat_lit 0)) (Array.mk []))
noncomputable def ho_258 (P : Params) : Obj := (@PySem.Obj.mk (@PySem.Value.type "tuple") (@Option.none @Nat) (@PySem.Data.seq (Array.mk []) (nat_lit 0)) (Array.mk []))
noncomputable def ho_259 (P : Params) : Obj := (@PySem.Obj.mk @PySem.Value.none (@Option.none @Nat) (@PySem.Data.func (@PySem.FuncData.mk (@PySem.Str.ofString "divrem_school") (@PySem.Str.ofString "divrem_school") (fPar 38) (fBody 38) (fScope 38) (nat_lit 0) [] @PySem.Value.none @PySem.Value.none @PySem.Value.none @PySem.Value.none (@Option.none @Nat) @PySem.Value.none @PySem.Value.none (nat_lit 0))) (Array.mk []))
noncomputable def ho_260 (P : Params) : Obj := (@PySem.Obj.mk (@PySem.Value.type "code") (@Option.none @Nat) (@PySem.Data.fields (Array.mk [(@PySem.Value.str (@PySem.Str.ofString "divrem_school") (nat_lit 575)), (@PySem.Value.str (@PySem.Str.ofString "divrem_school") (nat_lit 576)), (@PySem.Value.str (@PySem.Str.ofString "/claim/cut.py") (nat_lit 577)), (@PySem.Value.int (Int.ofNat (nat_lit 198)) (nat_lit 0)), (@PySem.Value.int (Int.ofNat (nat_lit 3)) (nat_lit 0)), (@PySem.Value.int (Int.ofNat (nat_lit 0)) (nat_lit 0)), (@PySem.Value.int (Int.ofNat (nat_lit 0)) (nat_lit 0)), (@PySem.Value.int (Int.ofNat (nat_lit 3)) (nat_lit 0)), (@PySem.Value.ref (nat_lit 255)), (@PySem.Value.bool @Bool.true), (@PySem.Value.int (Int.ofNat (nat_lit 181)) (nat_lit 0)), (@PySem.Value.ref (nat_lit 256)), @PySem.Value.none, (@PySem.Value.ref (nat_lit 257)), (@PySem.Value.ref (nat_lit 258)), (@PySem.Value.ref (nat_lit 259)), (@PySem.Value.int (Int.ofNat (nat_lit 585)) (nat_lit 0)), (@PySem.Value.int (Int.ofNat (nat_lit 198)) (nat_lit 0)), (@PySem.Value.str (@PySem.Str.ofString "/claim/cut.py") (nat_lit 586))])) (Array.mk []))
noncomputable def ho_261 (P : Params) : Obj := (@PySem.Obj.mk (@PySem.Value.type "function") (@Option.none @Nat) (@PySem.Data.func (@PySem.FuncData.mk (@PySem.Str.ofString "divrem_school") (@PySem.Str.ofString "divrem_school") (fPar 38) (fBody 38) (fScope 38) (nat_lit 3) [] @PySem.Value.none @PySem.Value.none @PySem.Value.none (@PySem.Value.str (@PySem.Str.ofString "gmp.school") (nat_lit 489)) (@Option.none @Nat) (@PySem.Value.ref (nat_lit 260)) @PySem.Value.none (nat_lit 0))) (Array.mk []))
noncomputable def ho_262 (P : Params) : Obj := (@PySem.Obj.mk (@PySem.Value.type "tuple") (@Option.none @Nat) (@PySem.Data.seq (Array.mk []) (nat_lit 0)) (Array.mk []))
noncomputable def ho_263 (P : Params) : Obj := (@PySem.Obj.mk @PySem.Value.none (@Option.none @Nat) (@PySem.Data.fields (Array.mk [])) (Array.mk []))
noncomputable def ho_264 (P : Params) : Obj := (@PySem.Obj.mk (@PySem.Value.type "tuple") (@Option.none @Nat) (@PySem.Data.seq (Array.mk [(@PySem.Value.str (@PySem.Str.ofString "tub") (nat_lit 593)), (@PySem.Value.str (@PySem.Str.ofString "many") (nat_lit 594))]) (nat_lit 0)) (Array.mk []))
noncomputable def ho_265 (P : Params) : Obj := (@PySem.Obj.mk (@PySem.Value.type "tuple") (@Option.none @Nat) (@PySem.Data.seq (Array.mk []) (nat_lit 0)) (Array.mk []))
noncomputable def ho_266 (P : Params) : Obj := (@PySem.Obj.mk @PySem.Value.none (@Option.none @Nat) (@PySem.Data.func (@PySem.FuncData.mk (@PySem.Str.ofString "_law_sifted") (@PySem.Str.ofString "_law_sifted") (fPar 40) (fBody 40) (fScope 40) (nat_lit 0) [] @PySem.Value.none @PySem.Value.none @PySem.Value.none @PySem.Value.none (@Option.none @Nat) @PySem.Value.none @PySem.Value.none (nat_lit 0))) (Array.mk []))
noncomputable def ho_267 (P : Params) : Obj := (@PySem.Obj.mk (@PySem.Value.type "code") (@Option.none @Nat) (@PySem.Data.fields (Array.mk [(@PySem.Value.str (@PySem.Str.ofString "_law_sifted") (nat_lit 590)), (@PySem.Value.str (@PySem.Str.ofString "_law_sifted") (nat_lit 591)), (@PySem.Value.str (@PySem.Str.ofString "/claim/cut.py") (nat_lit 592)), (@PySem.Value.int (Int.ofNat (nat_lit 212)) (nat_lit 0)), (@PySem.Value.int (Int.ofNat (nat_lit 2)) (nat_lit 0)), (@PySem.Value.int (Int.ofNat (nat_lit 0)) (nat_lit 0)), (@PySem.Value.int (Int.ofNat (nat_lit 0)) (nat_lit 0)), (@PySem.Value.int (Int.ofNat (nat_lit 3)) (nat_lit 0)), (@PySem.Value.ref (nat_lit 262)), (@PySem.Value.bool @Bool.true), (@PySem.Value.int (Int.ofNat (nat_lit 181)) (nat_lit 0)), (@PySem.Value.ref (nat_lit 263)), @PySem.Value.none, (@PySem.Value.ref (nat_lit 264)), (@PySem.Value.ref (nat_lit 265)), (@PySem.Value.ref (nat_lit 266)), (@PySem.Value.int (Int.ofNat (nat_lit 595)) (nat_lit 0)), (@PySem.Value.int (Int.ofNat (nat_lit 212)) (nat_lit 0)), (@PySem.Value.str (@PySem.Str.ofString "/claim/cut.py") (nat_lit 596))])) (Array.mk []))
noncomputable def ho_268 (P : Params) : Obj := (@PySem.Obj.mk (@PySem.Value.type "function") (@Option.none @Nat) (@PySem.Data.func (@PySem.FuncData.mk (@PySem.Str.ofString "_law_sifted") (@PySem.Str.ofString "_law_sifted") (fPar 40) (fBody 40) (fScope 40) (nat_lit 3) [] @PySem.Value.none @PySem.Value.none @PySem.Value.none (@PySem.Value.str (@PySem.Str.ofString "law_tk0050_01") (nat_lit 588)) (@Option.none @Nat) (@PySem.Value.ref (nat_lit 267)) @PySem.Value.none (nat_lit 0))) (Array.mk []))
noncomputable def ho_269 (P : Params) : Obj := (@PySem.Obj.mk (@PySem.Value.type "tuple") (@Option.none @Nat) (@PySem.Data.seq (Array.mk []) (nat_lit 0)) (Array.mk []))
noncomputable def ho_270 (P : Params) : Obj := (@PySem.Obj.mk @PySem.Value.none (@Option.none @Nat) (@PySem.Data.fields (Array.mk [])) (Array.mk []))
noncomputable def ho_271 (P : Params) : Obj := (@PySem.Obj.mk (@PySem.Value.type "tuple") (@Option.none @Nat) (@PySem.Data.seq (Array.mk [(@PySem.Value.str (@PySem.Str.ofString "row") (nat_lit 601)), (@PySem.Value.str (@PySem.Str.ofString "w") (nat_lit 602)), (@PySem.Value.str (@PySem.Str.ofString "found") (nat_lit 603)), (@PySem.Value.str (@PySem.Str.ofString "limb") (nat_lit 604))]) (nat_lit 0)) (Array.mk []))
noncomputable def ho_272 (P : Params) : Obj := (@PySem.Obj.mk (@PySem.Value.type "tuple") (@Option.none @Nat) (@PySem.Data.seq (Array.mk []) (nat_lit 0)) (Array.mk []))
noncomputable def ho_273 (P : Params) : Obj := (@PySem.Obj.mk @PySem.Value.none (@Option.none @Nat) (@PySem.Data.func (@PySem.FuncData.mk (@PySem.Str.ofString "_law_plain") (@PySem.Str.ofString "_law_plain") (fPar 41) (fBody 41) (fScope 41) (nat_lit 0) [] @PySem.Value.none @PySem.Value.none @PySem.Value.none @PySem.Value.none (@Option.none @Nat) @PySem.Value.none @PySem.Value.none (nat_lit 0))) (Array.mk []))
noncomputable def ho_274 (P : Params) : Obj := (@PySem.Obj.mk (@PySem.Value.type "code") (@Option.none @Nat) (@PySem.Data.fields (Array.mk [(@PySem.Value.str (@PySem.Str.ofString "_law_plain") (nat_lit 598)), (@PySem.Value.str (@PySem.Str.ofString "_law_plain") (nat_lit 599)), (@PySem.Value.str (@PySem.Str.ofString "/claim/cut.py") (nat_lit 600)), (@PySem.Value.int (Int.ofNat (nat_lit 217)) (nat_lit 0)), (@PySem.Value.int (Int.ofNat (nat_lit 2)) (nat_lit 0)), (@PySem.Value.int (Int.ofNat (nat_lit 0)) (nat_lit 0)), (@PySem.Value.int (Int.ofNat (nat_lit 0)) (nat_lit 0)), (@PySem.Value.int (Int.ofNat (nat_lit 3)) (nat_lit 0)), (@PySem.Value.ref (nat_lit 269)), (@PySem.Value.bool @Bool.true), (@PySem.Value.int (Int.ofNat (nat_lit 181)) (nat_lit 0)), (@PySem.Value.ref (nat_lit 270)), @PySem.Value.none, (@PySem.Value.ref (nat_lit 271)), (@PySem.Value.ref (nat_lit 272)), (@PySem.Value.ref (nat_lit 273)), (@PySem.Value.int (Int.ofNat (nat_lit 605)) (nat_lit 0)), (@PySem.Value.int (Int.ofNat (nat_lit 217)) (nat_lit 0)), (@PySem.Value.str (@PySem.Str.ofString "/claim/cut.py") (nat_lit 606))])) (Array.mk []))
noncomputable def ho_275 (P : Params) : Obj := (@PySem.Obj.mk (@PySem.Value.type "function") (@Option.none @Nat) (@PySem.Data.func (@PySem.FuncData.mk (@PySem.Str.ofString "_law_plain") (@PySem.Str.ofString "_law_plain") (fPar 41) (fBody 41) (fScope 41) (nat_lit 3) [] @PySem.Value.none @PySem.Value.none @PySem.Value.none (@PySem.Value.str (@PySem.Str.ofString "law_tk0050_01") (nat_lit 588)) (@Option.none @Nat) (@PySem.Value.ref (nat_lit 274)) @PySem.Value.none (nat_lit 0))) (Array.mk []))
noncomputable def ho_276 (P : Params) : Obj := (@PySem.Obj.mk (@PySem.Value.type "tuple") (@Option.none @Nat) (@PySem.Data.seq (Array.mk []) (nat_lit 0)) (Array.mk []))
noncomputable def ho_277 (P : Params) : Obj := (@PySem.Obj.mk @PySem.Value.none (@Option.none @Nat) (@PySem.Data.fields (Array.mk [])) (Array.mk []))
noncomputable def ho_278 (P : Params) : Obj := (@PySem.Obj.mk @PySem.Value.none (@Option.none @Nat) (@PySem.Data.func (@PySem.FuncData.mk (@PySem.Str.ofString "_law_told") (@PySem.Str.ofString "_law_told") (fPar 42) (fBody 42) (fScope 42) (nat_lit 0) [] @PySem.Value.none @PySem.Value.none @PySem.Value.none @PySem.Value.none (@Option.none @Nat) @PySem.Value.none @PySem.Value.none (nat_lit 0))) (Array.mk []))
noncomputable def ho_279 (P : Params) : Obj := (@PySem.Obj.mk (@PySem.Value.type "code") (@Option.none @Nat) (@PySem.Data.fields (Array.mk [(@PySem.Value.str (@PySem.Str.ofString "_law_told") (nat_lit 608)), (@PySem.Value.str (@PySem.Str.ofString "_law_told") (nat_lit 609)), (@PySem.Value.str (@PySem.Str.ofString "/claim/cut.py") (nat_lit 610)), (@PySem.Value.int (Int.ofNat (nat_lit 222)) (nat_lit 0)), (@PySem.Value.int (Int.ofNat (nat_lit 3)) (nat_lit 0)), (@PySem.Value.int (Int.ofNat (nat_lit 0)) (nat_lit 0)), (@PySem.Value.int (Int.ofNat (nat_lit 0)) (nat_lit 0)), (@PySem.Value.int (Int.ofNat (nat_lit 3)) (nat_lit 0)), (@PySem.Value.ref (nat_lit 276)), (@PySem.Value.bool @Bool.true), (@PySem.Value.int (Int.ofNat (nat_lit 181)) (nat_lit 0)), (@PySem.Value.ref (nat_lit 277)), @PySem.Value.none, @PySem.Value.none, @PySem.Value.none, (@PySem.Value.ref (nat_lit 278)), (@PySem.Value.int (Int.ofNat (nat_lit 611)) (nat_lit 0)), (@PySem.Value.int (Int.ofNat (nat_lit 222)) (nat_lit 0)), (@PySem.Value.str (@PySem.Str.ofString "/claim/cut.py") (nat_lit 612))])) (Array.mk []))
noncomputable def ho_280 (P : Params) : Obj := (@PySem.Obj.mk (@PySem.Value.type "function") (@Option.none @Nat) (@PySem.Data.func (@PySem.FuncData.mk (@PySem.Str.ofString "_law_told") (@PySem.Str.ofString "_law_told") (fPar 42) (fBody 42) (fScope 42) (nat_lit 3) [] @PySem.Value.none @PySem.Value.none @PySem.Value.none (@PySem.Value.str (@PySem.Str.ofString "law_tk0050_01") (nat_lit 588)) (@Option.none @Nat) (@PySem.Value.ref (nat_lit 279)) @PySem.Value.none (nat_lit 0))) (Array.mk []))
noncomputable def ho_281 (P : Params) : Obj := (@PySem.Obj.mk (@PySem.Value.type "tuple") (@Option.none @Nat) (@PySem.Data.seq (Array.mk []) (nat_lit 0)) (Array.mk []))
noncomputable def ho_282 (P : Params) : Obj := (@PySem.Obj.mk @PySem.Value.none (@Option.none @Nat) (@PySem.Data.fields (Array.mk [])) (Array.mk []))
noncomputable def ho_283 (P : Params) : Obj := (@PySem.Obj.mk @PySem.Value.none (@Option.none @Nat) (@PySem.Data.func (@PySem.FuncData.mk (@PySem.Str.ofString "_law_joins") (@PySem.Str.ofString "_law_joins") (fPar 43) (fBody 43) (fScope 43) (nat_lit 0) [] @PySem.Value.none @PySem.Value.none @PySem.Value.none @PySem.Value.none (@Option.none @Nat) @PySem.Value.none @PySem.Value.none (nat_lit 0))) (Array.mk []))
noncomputable def ho_284 (P : Params) : Obj := (@PySem.Obj.mk (@PySem.Value.type "code") (@Option.none @Nat) (@PySem.Data.fields (Array.mk [(@PySem.Value.str (@PySem.Str.ofString "_law_joins") (nat_lit 614)), (@PySem.Value.str (@PySem.Str.ofString "_law_joins") (nat_lit 615)), (@PySem.Value.str (@PySem.Str.ofString "/claim/cut.py") (nat_lit 616)), (@PySem.Value.int (Int.ofNat (nat_lit 232)) (nat_lit 0)), (@PySem.Value.int (Int.ofNat (nat_lit 2)) (nat_lit 0)), (@PySem.Value.int (Int.ofNat (nat_lit 0)) (nat_lit 0)), (@PySem.Value.int (Int.ofNat (nat_lit 0)) (nat_lit 0)), (@PySem.Value.int (Int.ofNat (nat_lit 3)) (nat_lit 0)), (@PySem.Value.ref (nat_lit 281)), (@PySem.Value.bool @Bool.true), (@PySem.Value.int (Int.ofNat (nat_lit 181)) (nat_lit 0)), (@PySem.Value.ref (nat_lit 282)), @PySem.Value.none, @PySem.Value.none, @PySem.Value.none, (@PySem.Value.ref (nat_lit 283)), (@PySem.Value.int (Int.ofNat (nat_lit 617)) (nat_lit 0)), (@PySem.Value.int (Int.ofNat (nat_lit 232)) (nat_lit 0)), (@PySem.Value.str (@PySem.Str.ofString "/claim/cut.py") (nat_lit 618))])) (Array.mk []))
noncomputable def ho_285 (P : Params) : Obj := (@PySem.Obj.mk (@PySem.Value.type "function") (@Option.none @Nat) (@PySem.Data.func (@PySem.FuncData.mk (@PySem.Str.ofString "_law_joins") (@PySem.Str.ofString "_law_joins") (fPar 43) (fBody 43) (fScope 43) (nat_lit 3) [] @PySem.Value.none @PySem.Value.none @PySem.Value.none (@PySem.Value.str (@PySem.Str.ofString "law_tk0050_01") (nat_lit 588)) (@Option.none @Nat) (@PySem.Value.ref (nat_lit 284)) @PySem.Value.none (nat_lit 0))) (Array.mk []))
noncomputable def ho_286 (P : Params) : Obj := (@PySem.Obj.mk (@PySem.Value.type "tuple") (@Option.none @Nat) (@PySem.Data.seq (Array.mk []) (nat_lit 0)) (Array.mk []))
noncomputable def ho_287 (P : Params) : Obj := (@PySem.Obj.mk @PySem.Value.none (@Option.none @Nat) (@PySem.Data.fields (Array.mk [])) (Array.mk []))
noncomputable def ho_288 (P : Params) : Obj := (@PySem.Obj.mk @PySem.Value.none (@Option.none @Nat) (@PySem.Data.func (@PySem.FuncData.mk (@PySem.Str.ofString "_law_trees") (@PySem.Str.ofString "_law_trees") (fPar 44) (fBody 44) (fScope 44) (nat_lit 0) [] @PySem.Value.none @PySem.Value.none @PySem.Value.none @PySem.Value.none (@Option.none @Nat) @PySem.Value.none @PySem.Value.none (nat_lit 0))) (Array.mk []))
noncomputable def ho_289 (P : Params) : Obj := (@PySem.Obj.mk (@PySem.Value.type "code") (@Option.none @Nat) (@PySem.Data.fields (Array.mk [(@PySem.Value.str (@PySem.Str.ofString "_law_trees") (nat_lit 620)), (@PySem.Value.str (@PySem.Str.ofString "_law_trees") (nat_lit 621)), (@PySem.Value.str (@PySem.Str.ofString "/claim/cut.py") (nat_lit 622)), (@PySem.Value.int (Int.ofNat (nat_lit 238)) (nat_lit 0)), (@PySem.Value.int (Int.ofNat (nat_lit 2)) (nat_lit 0)), (@PySem.Value.int (Int.ofNat (nat_lit 0)) (nat_lit 0)), (@PySem.Value.int (Int.ofNat (nat_lit 0)) (nat_lit 0)), (@PySem.Value.int (Int.ofNat (nat_lit 3)) (nat_lit 0)), (@PySem.Value.ref (nat_lit 286)), (@PySem.Value.bool @Bool.true), (@PySem.Value.int (Int.ofNat (nat_lit 181)) (nat_lit 0)), (@PySem.Value.ref (nat_lit 287)), @PySem.Value.none, @PySem.Value.none, @PySem.Value.none, (@PySem.Value.ref (nat_lit 288)), (@PySem.Value.int (Int.ofNat (nat_lit 623)) (nat_lit 0)), (@PySem.Value.int (Int.ofNat (nat_lit 238)) (nat_lit 0)), (@PySem.Value.str (@PySem.Str.ofString "/claim/cut.py") (nat_lit 624))])) (Array.mk []))
noncomputable def ho_290 (P : Params) : Obj := (@PySem.Obj.mk (@PySem.Value.type "function") (@Option.none @Nat) (@PySem.Data.func (@PySem.FuncData.mk (@PySem.Str.ofString "_law_trees") (@PySem.Str.ofString "_law_trees") (fPar 44) (fBody 44) (fScope 44) (nat_lit 3) [] @PySem.Value.none @PySem.Value.none @PySem.Value.none (@PySem.Value.str (@PySem.Str.ofString "law_tk0050_01") (nat_lit 588)) (@Option.none @Nat) (@PySem.Value.ref (nat_lit 289)) @PySem.Value.none (nat_lit 0))) (Array.mk []))
noncomputable def ho_291 (P : Params) : Obj := (@PySem.Obj.mk (@PySem.Value.type "tuple") (@Option.none @Nat) (@PySem.Data.seq (Array.mk []) (nat_lit 0)) (Array.mk []))
noncomputable def ho_292 (P : Params) : Obj := (@PySem.Obj.mk @PySem.Value.none (@Option.none @Nat) (@PySem.Data.fields (Array.mk [])) (Array.mk []))
noncomputable def ho_293 (P : Params) : Obj := (@PySem.Obj.mk @PySem.Value.none (@Option.none @Nat) (@PySem.Data.func (@PySem.FuncData.mk (@PySem.Str.ofString "_law_merged") (@PySem.Str.ofString "_law_merged") (fPar 45) (fBody 45) (fScope 45) (nat_lit 0) [] @PySem.Value.none @PySem.Value.none @PySem.Value.none @PySem.Value.none (@Option.none @Nat) @PySem.Value.none @PySem.Value.none (nat_lit 0))) (Array.mk []))
noncomputable def ho_294 (P : Params) : Obj := (@PySem.Obj.mk (@PySem.Value.type "code") (@Option.none @Nat) (@PySem.Data.fields (Array.mk [(@PySem.Value.str (@PySem.Str.ofString "_law_merged") (nat_lit 626)), (@PySem.Value.str (@PySem.Str.ofString "_law_merged") (nat_lit 627)), (@PySem.Value.str (@PySem.Str.ofString "/claim/cut.py") (nat_lit 628)), (@PySem.Value.int (Int.ofNat (nat_lit 243)) (nat_lit 0)), (@PySem.Value.int (Int.ofNat (nat_lit 3)) (nat_lit 0)), (@PySem.Value.int (Int.ofNat (nat_lit 0)) (nat_lit 0)), (@PySem.Value.int (Int.ofNat (nat_lit 0)) (nat_lit 0)), (@PySem.Value.int (Int.ofNat (nat_lit 3)) (nat_lit 0)), (@PySem.Value.ref (nat_lit 291)), (@PySem.Value.bool @Bool.true), (@PySem.Value.int (Int.ofNat (nat_lit 181)) (nat_lit 0)), (@PySem.Value.ref (nat_lit 292)), @PySem.Value.none, @PySem.Value.none, @PySem.Value.none, (@PySem.Value.ref (nat_lit 293)), (@PySem.Value.int (Int.ofNat (nat_lit 629)) (nat_lit 0)), (@PySem.Value.int (Int.ofNat (nat_lit 243)) (nat_lit 0)), (@PySem.Value.str (@PySem.Str.ofString "/claim/cut.py") (nat_lit 630))])) (Array.mk []))
noncomputable def ho_295 (P : Params) : Obj := (@PySem.Obj.mk (@PySem.Value.type "function") (@Option.none @Nat) (@PySem.Data.func (@PySem.FuncData.mk (@PySem.Str.ofString "_law_merged") (@PySem.Str.ofString "_law_merged") (fPar 45) (fBody 45) (fScope 45) (nat_lit 3) [] @PySem.Value.none @PySem.Value.none @PySem.Value.none (@PySem.Value.str (@PySem.Str.ofString "law_tk0050_01") (nat_lit 588)) (@Option.none @Nat) (@PySem.Value.ref (nat_lit 294)) @PySem.Value.none (nat_lit 0))) (Array.mk []))
noncomputable def ho_296 (P : Params) : Obj := (@PySem.Obj.mk (@PySem.Value.type "tuple") (@Option.none @Nat) (@PySem.Data.seq (Array.mk []) (nat_lit 0)) (Array.mk []))
noncomputable def ho_297 (P : Params) : Obj := (@PySem.Obj.mk @PySem.Value.none (@Option.none @Nat) (@PySem.Data.fields (Array.mk [])) (Array.mk []))
noncomputable def ho_298 (P : Params) : Obj := (@PySem.Obj.mk @PySem.Value.none (@Option.none @Nat) (@PySem.Data.func (@PySem.FuncData.mk (@PySem.Str.ofString "law") (@PySem.Str.ofString "law") (fPar 46) (fBody 46) (fScope 46) (nat_lit 0) [] @PySem.Value.none @PySem.Value.none @PySem.Value.none @PySem.Value.none (@Option.none @Nat) @PySem.Value.none @PySem.Value.none (nat_lit 0))) (Array.mk []))
noncomputable def ho_299 (P : Params) : Obj := (@PySem.Obj.mk (@PySem.Value.type "code") (@Option.none @Nat) (@PySem.Data.fields (Array.mk [(@PySem.Value.str (@PySem.Str.ofString "law") (nat_lit 632)), (@PySem.Value.str (@PySem.Str.ofString "law") (nat_lit 633)), (@PySem.Value.str (@PySem.Str.ofString "/claim/cut.py") (nat_lit 634)), (@PySem.Value.int (Int.ofNat (nat_lit 249)) (nat_lit 0)), (@PySem.Value.int (Int.ofNat (nat_lit 1)) (nat_lit 0)), (@PySem.Value.int (Int.ofNat (nat_lit 0)) (nat_lit 0)), (@PySem.Value.int (Int.ofNat (nat_lit 0)) (nat_lit 0)), (@PySem.Value.int (Int.ofNat (nat_lit 3)) (nat_lit 0)), (@PySem.Value.ref (nat_lit 296)), (@PySem.Value.bool @Bool.true), (@PySem.Value.int (Int.ofNat (nat_lit 181)) (nat_lit 0)), (@PySem.Value.ref (nat_lit 297)), @PySem.Value.none, @PySem.Value.none, @PySem.Value.none, (@PySem.Value.ref (nat_lit 298)), (@PySem.Value.int (Int.ofNat (nat_lit 635)) (nat_lit 0)), (@PySem.Value.int (Int.ofNat (nat_lit 249)) (nat_lit 0)), (@PySem.Value.str (@PySem.Str.ofString "/claim/cut.py") (nat_lit 636))])) (Array.mk []))
noncomputable def ho_300 (P : Params) : Obj := (@PySem.Obj.mk (@PySem.Value.type "function") (@Option.none @Nat) (@PySem.Data.func (@PySem.FuncData.mk (@PySem.Str.ofString "law") (@PySem.Str.ofString "law") (fPar 46) (fBody 46) (fScope 46) (nat_lit 3) [] @PySem.Value.none @PySem.Value.none @PySem.Value.none (@PySem.Value.str (@PySem.Str.ofString "law_tk0050_01") (nat_lit 588)) (@Option.none @Nat) (@PySem.Value.ref (nat_lit 299)) @PySem.Value.none (nat_lit 0))) (Array.mk []))
noncomputable def tr_6 (P : Params) : BT := (.node (boot_o_0 P) (.node (boot_o_1 P) (.node (ho_3_6 P) (.node (boot_o_7 P) (.node (ho_15 P) (.node (ho_31 P) (.node (ho_63 P) (.node (ho_127 P) (.node (ho_255 P) .nil .nil) .nil) (.node (ho_191 P) .nil .nil)) (.node (ho_95 P) (.node (ho_159 P) (.node (ho_287 P) .nil .nil) .nil) (.node (ho_223 P) .nil .nil))) (.node (ho_47 P) (.node (ho_79 P) (.node (ho_143 P) (.node (ho_271 P) .nil .nil) .nil) (.node (ho_207 P) .nil .nil)) (.node (ho_111 P) (.node (ho_175 P) .nil .nil) (.node (ho_239 P) .nil .nil)))) (.node (ho_23 P) (.node (ho_39 P) (.node (ho_71 P) (.node (ho_135 P) (.node (ho_263 P) .nil .nil) .nil) (.node (ho_199 P) .nil .nil)) (.node (ho_103 P) (.node (ho_167 P) (.node (ho_295 P) .nil .nil) .nil) (.node (ho_231 P) .nil .nil))) (.node (ho_55 P) (.node (ho_87 P) (.node (ho_151 P) (.node (ho_279 P) .nil .nil) .nil) (.node (ho_215 P) .nil .nil)) (.node (ho_119 P) (.node (ho_183 P) .nil .nil) (.node (ho_247 P) .nil .nil))))) (.node (ho_11 P) (.node (ho_19 P) (.node (ho_35 P) (.node (ho_67 P) (.node (ho_131 P) (.node (ho_259 P) .nil .nil) .nil) (.node (ho_195 P) .nil .nil)) (.node (ho_99 P) (.node (ho_163 P) (.node (ho_291 P) .nil .nil) .nil) (.node (ho_227 P) .nil .nil))) (.node (ho_51 P) (.node (ho_83 P) (.node (ho_147 P) (.node (ho_275 P) .nil .nil) .nil) (.node (ho_211 P) .nil .nil)) (.node (ho_115 P) (.node (ho_179 P) .nil .nil) (.node (ho_243 P) .nil .nil)))) (.node (ho_27 P) (.node (ho_43 P) (.node (ho_75 P) (.node (ho_139 P) (.node (ho_267 P) .nil .nil) .nil) (.node (ho_203 P) .nil .nil)) (.node (ho_107 P) (.node (ho_171 P) (.node (ho_299 P) .nil .nil) .nil) (.node (ho_235 P) .nil .nil))) (.node (ho_59 P) (.node (ho_91 P) (.node (ho_155 P) (.node (ho_283 P) .nil .nil) .nil) (.node (ho_219 P) .nil .nil)) (.node (ho_123 P) (.node (ho_187 P) .nil .nil) (.node (ho_251 P) .nil .nil)))))) (.node (boot_o_5 P) (.node (boot_o_9 P) (.node (ho_17 P) (.node (ho_33 P) (.node (ho_65 P) (.node (ho_129 P) (.node (ho_257 P) .nil .nil) .nil) (.node (ho_193 P) .nil .nil)) (.node (ho_97 P) (.node (ho_161 P) (.node (ho_289 P) .nil .nil) .nil) (.node (ho_225 P) .nil .nil))) (.node (ho_49 P) (.node (ho_81 P) (.node (ho_145 P) (.node (ho_273 P) .nil .nil) .nil) (.node (ho_209 P) .nil .nil)) (.node (ho_113 P) (.node (ho_177 P) .nil .nil) (.node (ho_241 P) .nil .nil)))) (.node (ho_25 P) (.node (ho_41 P) (.node (ho_73 P) (.node (ho_137 P) (.node (ho_265 P) .nil .nil) .nil) (.node (ho_201 P) .nil .nil)) (.node (ho_105 P) (.node (ho_169 P) (.node (ho_297 P) .nil .nil) .nil) (.node (ho_233 P) .nil .nil))) (.node (ho_57 P) (.node (ho_89 P) (.node (ho_153 P) (.node (ho_281 P) .nil .nil) .nil) (.node (ho_217 P) .nil .nil)) (.node (ho_121 P) (.node (ho_185 P) .nil .nil) (.node (ho_249 P) .nil .nil))))) (.node (ho_13 P) (.node (ho_21 P) (.node (ho_37 P) (.node (ho_69 P) (.node (ho_133 P) (.node (ho_261 P) .nil .nil) .nil) (.node (ho_197 P) .nil .nil)) (.node (ho_101 P) (.node (ho_165 P) (.node (ho_293 P) .nil .nil) .nil) (.node (ho_229 P) .nil .nil))) (.node (ho_53 P) (.node (ho_85 P) (.node (ho_149 P) (.node (ho_277 P) .nil .nil) .nil) (.node (ho_213 P) .nil .nil)) (.node (ho_117 P) (.node (ho_181 P) .nil .nil) (.node (ho_245 P) .nil .nil)))) (.node (ho_29 P) (.node (ho_45 P) (.node (ho_77 P) (.node (ho_141 P) (.node (ho_269 P) .nil .nil) .nil) (.node (ho_205 P) .nil .nil)) (.node (ho_109 P) (.node (ho_173 P) .nil .nil) (.node (ho_237 P) .nil .nil))) (.node (ho_61 P) (.node (ho_93 P) (.node (ho_157 P) (.node (ho_285 P) .nil .nil) .nil) (.node (ho_221 P) .nil .nil)) (.node (ho_125 P) (.node (ho_189 P) .nil .nil) (.node (ho_253 P) .nil .nil))))))) (.node (ho_2_1 P) (.node (boot_o_4 P) (.node (boot_o_8 P) (.node (ho_16 P) (.node (ho_32 P) (.node (ho_64 P) (.node (ho_128 P) (.node (ho_256 P) .nil .nil) .nil) (.node (ho_192 P) .nil .nil)) (.node (ho_96 P) (.node (ho_160 P) (.node (ho_288 P) .nil .nil) .nil) (.node (ho_224 P) .nil .nil))) (.node (ho_48 P) (.node (ho_80 P) (.node (ho_144 P) (.node (ho_272 P) .nil .nil) .nil) (.node (ho_208 P) .nil .nil)) (.node (ho_112 P) (.node (ho_176 P) .nil .nil) (.node (ho_240 P) .nil .nil)))) (.node (ho_24_2 P) (.node (ho_40 P) (.node (ho_72 P) (.node (ho_136 P) (.node (ho_264 P) .nil .nil) .nil) (.node (ho_200 P) .nil .nil)) (.node (ho_104 P) (.node (ho_168 P) (.node (ho_296 P) .nil .nil) .nil) (.node (ho_232 P) .nil .nil))) (.node (ho_56 P) (.node (ho_88 P) (.node (ho_152 P) (.node (ho_280 P) .nil .nil) .nil) (.node (ho_216 P) .nil .nil)) (.node (ho_120 P) (.node (ho_184 P) .nil .nil) (.node (ho_248 P) .nil .nil))))) (.node (ho_12_6 P) (.node (ho_20 P) (.node (ho_36 P) (.node (ho_68 P) (.node (ho_132 P) (.node (ho_260 P) .nil .nil) .nil) (.node (ho_196 P) .nil .nil)) (.node (ho_100 P) (.node (ho_164 P) (.node (ho_292 P) .nil .nil) .nil) (.node (ho_228 P) .nil .nil))) (.node (ho_52 P) (.node (ho_84 P) (.node (ho_148 P) (.node (ho_276 P) .nil .nil) .nil) (.node (ho_212 P) .nil .nil)) (.node (ho_116 P) (.node (ho_180 P) .nil .nil) (.node (ho_244 P) .nil .nil)))) (.node (ho_28 P) (.node (ho_44 P) (.node (ho_76 P) (.node (ho_140 P) (.node (ho_268 P) .nil .nil) .nil) (.node (ho_204 P) .nil .nil)) (.node (ho_108 P) (.node (ho_172 P) (.node (ho_300 P) .nil .nil) .nil) (.node (ho_236 P) .nil .nil))) (.node (ho_60 P) (.node (ho_92 P) (.node (ho_156 P) (.node (ho_284 P) .nil .nil) .nil) (.node (ho_220 P) .nil .nil)) (.node (ho_124 P) (.node (ho_188 P) .nil .nil) (.node (ho_252 P) .nil .nil)))))) (.node (boot_o_6 P) (.node (boot_o_10 P) (.node (ho_18 P) (.node (ho_34 P) (.node (ho_66 P) (.node (ho_130 P) (.node (ho_258 P) .nil .nil) .nil) (.node (ho_194 P) .nil .nil)) (.node (ho_98 P) (.node (ho_162 P) (.node (ho_290 P) .nil .nil) .nil) (.node (ho_226 P) .nil .nil))) (.node (ho_50 P) (.node (ho_82 P) (.node (ho_146 P) (.node (ho_274 P) .nil .nil) .nil) (.node (ho_210 P) .nil .nil)) (.node (ho_114 P) (.node (ho_178 P) .nil .nil) (.node (ho_242 P) .nil .nil)))) (.node (ho_26 P) (.node (ho_42 P) (.node (ho_74 P) (.node (ho_138 P) (.node (ho_266 P) .nil .nil) .nil) (.node (ho_202 P) .nil .nil)) (.node (ho_106 P) (.node (ho_170 P) (.node (ho_298 P) .nil .nil) .nil) (.node (ho_234 P) .nil .nil))) (.node (ho_58 P) (.node (ho_90 P) (.node (ho_154 P) (.node (ho_282 P) .nil .nil) .nil) (.node (ho_218 P) .nil .nil)) (.node (ho_122 P) (.node (ho_186 P) .nil .nil) (.node (ho_250 P) .nil .nil))))) (.node (ho_14 P) (.node (ho_22 P) (.node (ho_38 P) (.node (ho_70 P) (.node (ho_134 P) (.node (ho_262 P) .nil .nil) .nil) (.node (ho_198 P) .nil .nil)) (.node (ho_102 P) (.node (ho_166 P) (.node (ho_294 P) .nil .nil) .nil) (.node (ho_230 P) .nil .nil))) (.node (ho_54 P) (.node (ho_86 P) (.node (ho_150 P) (.node (ho_278 P) .nil .nil) .nil) (.node (ho_214 P) .nil .nil)) (.node (ho_118 P) (.node (ho_182 P) .nil .nil) (.node (ho_246 P) .nil .nil)))) (.node (ho_30 P) (.node (ho_46 P) (.node (ho_78 P) (.node (ho_142 P) (.node (ho_270 P) .nil .nil) .nil) (.node (ho_206 P) .nil .nil)) (.node (ho_110 P) (.node (ho_174 P) .nil .nil) (.node (ho_238 P) .nil .nil))) (.node (ho_62 P) (.node (ho_94 P) (.node (ho_158 P) (.node (ho_286 P) .nil .nil) .nil) (.node (ho_222 P) .nil .nil)) (.node (ho_126 P) (.node (ho_190 P) .nil .nil) (.node (ho_254 P) .nil .nil))))))))
noncomputable def sT_6 (w : World) (os : OsState) : SharedT := ⟨tr_6 w.params, 301, (@PySem.Life.mk [] [] [] (nat_lit 0) [] [] @Bool.false (Array.mk []) [] (nat_lit 0) @Bool.false @Bool.false @Bool.false (Int.ofNat (nat_lit 0)) [(Int.ofNat (nat_lit 2000)), (Int.ofNat (nat_lit 10)), (Int.ofNat (nat_lit 10))] @Bool.false (nat_lit 0) @Bool.true [] [] (nat_lit 0) @Bool.false), ⟨[]⟩, (@PySem.Drawn.mk (nat_lit 0) (nat_lit 0) (nat_lit 0) (nat_lit 0)), 638, os⟩
noncomputable def hp_6 : Pos := (@PySem.Pos.mk (nat_lit 249) (nat_lit 0) (nat_lit 264) (nat_lit 15))
noncomputable def st_6 : List Stmt := ((behindTheImports pw).drop 32).take 15
theorem seg_6 : ∀ w : World, (fun os => segRunT treeTable pw w 11 hAnn 1 453 (sT_5 w os) (piecesOf st_6 hEnv hCode hp_5 [topFrame hp_q])) = fun os => some (Flow.next, sT_6 w os, hCode, hp_6) := by
  rewrite [PySem.W.Fast.te10110043849684766642, PySem.W.Fast.te14364793385576792824]
  intro w
  kernel_rfl
noncomputable def hpF (P : Params) : Heap := ⟨⟨[boot_o_0 P, boot_o_1 P, ho_2_1 P, ho_3_6 P, boot_o_4 P, boot_o_5 P, boot_o_6 P, boot_o_7 P, boot_o_8 P, boot_o_9 P, boot_o_10 P, ho_11 P, ho_12_6 P, ho_13 P, ho_14 P, ho_15 P, ho_16 P, ho_17 P, ho_18 P, ho_19 P, ho_20 P, ho_21 P, ho_22 P, ho_23 P, ho_24_2 P, ho_25 P, ho_26 P, ho_27 P, ho_28 P, ho_29 P, ho_30 P, ho_31 P, ho_32 P, ho_33 P, ho_34 P, ho_35 P, ho_36 P, ho_37 P, ho_38 P, ho_39 P, ho_40 P, ho_41 P, ho_42 P, ho_43 P, ho_44 P, ho_45 P, ho_46 P, ho_47 P, ho_48 P, ho_49 P, ho_50 P, ho_51 P, ho_52 P, ho_53 P, ho_54 P, ho_55 P, ho_56 P, ho_57 P, ho_58 P, ho_59 P, ho_60 P, ho_61 P, ho_62 P, ho_63 P, ho_64 P, ho_65 P, ho_66 P, ho_67 P, ho_68 P, ho_69 P, ho_70 P, ho_71 P, ho_72 P, ho_73 P, ho_74 P, ho_75 P, ho_76 P, ho_77 P, ho_78 P, ho_79 P, ho_80 P, ho_81 P, ho_82 P, ho_83 P, ho_84 P, ho_85 P, ho_86 P, ho_87 P, ho_88 P, ho_89 P, ho_90 P, ho_91 P, ho_92 P, ho_93 P, ho_94 P, ho_95 P, ho_96 P, ho_97 P, ho_98 P, ho_99 P, ho_100 P, ho_101 P, ho_102 P, ho_103 P, ho_104 P, ho_105 P, ho_106 P, ho_107 P, ho_108 P, ho_109 P, ho_110 P, ho_111 P, ho_112 P, ho_113 P, ho_114 P, ho_115 P, ho_116 P, ho_117 P, ho_118 P, ho_119 P, ho_120 P, ho_121 P, ho_122 P, ho_123 P, ho_124 P, ho_125 P, ho_126 P, ho_127 P, ho_128 P, ho_129 P, ho_130 P, ho_131 P, ho_132 P, ho_133 P, ho_134 P, ho_135 P, ho_136 P, ho_137 P, ho_138 P, ho_139 P, ho_140 P, ho_141 P, ho_142 P, ho_143 P, ho_144 P, ho_145 P, ho_146 P, ho_147 P, ho_148 P, ho_149 P, ho_150 P, ho_151 P, ho_152 P, ho_153 P, ho_154 P, ho_155 P, ho_156 P, ho_157 P, ho_158 P, ho_159 P, ho_160 P, ho_161 P, ho_162 P, ho_163 P, ho_164 P, ho_165 P, ho_166 P, ho_167 P, ho_168 P, ho_169 P, ho_170 P, ho_171 P, ho_172 P, ho_173 P, ho_174 P, ho_175 P, ho_176 P, ho_177 P, ho_178 P, ho_179 P, ho_180 P, ho_181 P, ho_182 P, ho_183 P, ho_184 P, ho_185 P, ho_186 P, ho_187 P, ho_188 P, ho_189 P, ho_190 P, ho_191 P, ho_192 P, ho_193 P, ho_194 P, ho_195 P, ho_196 P, ho_197 P, ho_198 P, ho_199 P, ho_200 P, ho_201 P, ho_202 P, ho_203 P, ho_204 P, ho_205 P, ho_206 P, ho_207 P, ho_208 P, ho_209 P, ho_210 P, ho_211 P, ho_212 P, ho_213 P, ho_214 P, ho_215 P, ho_216 P, ho_217 P, ho_218 P, ho_219 P, ho_220 P, ho_221 P, ho_222 P, ho_223 P, ho_224 P, ho_225 P, ho_226 P, ho_227 P, ho_228 P, ho_229 P, ho_230 P, ho_231 P, ho_232 P, ho_233 P, ho_234 P, ho_235 P, ho_236 P, ho_237 P, ho_238 P, ho_239 P, ho_240 P, ho_241 P, ho_242 P, ho_243 P, ho_244 P, ho_245 P, ho_246 P, ho_247 P, ho_248 P, ho_249 P, ho_250 P, ho_251 P, ho_252 P, ho_253 P, ho_254 P, ho_255 P, ho_256 P, ho_257 P, ho_258 P, ho_259 P, ho_260 P, ho_261 P, ho_262 P, ho_263 P, ho_264 P, ho_265 P, ho_266 P, ho_267 P, ho_268 P, ho_269 P, ho_270 P, ho_271 P, ho_272 P, ho_273 P, ho_274 P, ho_275 P, ho_276 P, ho_277 P, ho_278 P, ho_279 P, ho_280 P, ho_281 P, ho_282 P, ho_283 P, ho_284 P, ho_285 P, ho_286 P, ho_287 P, ho_288 P, ho_289 P, ho_290 P, ho_291 P, ho_292 P, ho_293 P, ho_294 P, ho_295 P, ho_296 P, ho_297 P, ho_298 P, ho_299 P, ho_300 P]⟩, (@PySem.Life.mk [] [] [] (nat_lit 0) [] [] @Bool.false (Array.mk []) [] (nat_lit 0) @Bool.false @Bool.false @Bool.false (Int.ofNat (nat_lit 0)) [(Int.ofNat (nat_lit 2000)), (Int.ofNat (nat_lit 10)), (Int.ofNat (nat_lit 10))] @Bool.false (nat_lit 0) @Bool.true [] [] (nat_lit 0) @Bool.false)⟩
noncomputable def sF (w : World) (os : OsState) : Shared := ⟨hpF w.params, ⟨[]⟩, (@PySem.Drawn.mk (nat_lit 0) (nat_lit 0) (nat_lit 0) (nat_lit 0)), 638, os⟩
theorem hSplit : behindTheImports pw = st_1 ++ (st_2 ++ (st_3 ++ (st_4 ++ (st_5 ++ (st_6 ++ []))))) := by kernel_rfl
noncomputable def s0H (w : World) (os : OsState) : Shared := ⟨boot_heap w.params, Array.mk [], boot_drawn, boot_toks, os⟩
theorem seg_pre : ∀ w : World, (fun os => topGo treeTable pw w 11 hAnn 12 (s0H w os) (topStub pw)) = fun os => some (sA w os, ⟨denote treeTable hCode, hCode, hp_0, [topFrame hp_q]⟩) := by
  intro w
  kernel_rfl
theorem seg_block : ∀ w : World, (fun os => segRun treeTable pw w 11 hAnn 1 1 (sA w os) (blockOf (behindTheImports pw) hEnv hCode hp_0 [topFrame hp_q])) = fun os => some (Flow.next, (sT_0 w os).abs, hCode, hp_0) := by
  intro w
  kernel_rfl
theorem seg_fin : ∀ w : World, (fun os => topRun treeTable pw w 11 hAnn 2 (sT_6 w os).abs ⟨doneF .next, hCode, hp_6, [topFrame hp_q]⟩) = fun os => some (sF w os) := by
  intro w
  kernel_rfl
theorem hRun (w : World) (os : OsState) : topRun treeTable pw w 11 hAnn (12 + (1 + (206 + (214 + (214 + (430 + (367 + (453 + 2)))))))) (s0H w os) (topStub pw) = some (sF w os) := by
  have k6 := piece_nil (env := hEnv) (congrFun (seg_fin w) os)
  have k5 := piece_app (segRun_of (congrFun (seg_6 w) os)) k6
  have k4 := piece_app (segRun_of (congrFun (seg_5 w) os)) k5
  have k3 := piece_app (segRun_of (congrFun (seg_4 w) os)) k4
  have k2 := piece_app (segRun_of (congrFun (seg_3 w) os)) k3
  have k1 := piece_app (segRun_of (congrFun (seg_2 w) os)) k2
  have k0 := piece_app (segRun_of (congrFun (seg_1 w) os)) k1
  rw [← hSplit] at k0
  exact go_top (congrFun (seg_pre w) os) (piece_block (congrFun (seg_block w) os) k0)
theorem hOpen : ∀ w : World, (fencedOpening treeTable pw w 3882).map (fun s => (s.heap, s.gens, s.drawn, s.toks)) = some (boot_heap w.params, Array.mk [], boot_drawn, boot_toks) := boot_open (by kernel_rfl) (by rfl) (fun _ => by rfl)
theorem hSize : ∀ w : World, ((boot_heap w.params).isNs mainGlobals && (Array.mk ([] : List GenState)).size == 0, (boot_heap w.params).objs.size, (boot_heap w.params).nsMap mainGlobals (Str.ofString "__annotations__")) = (true, 11, hAnn) := by
  intro w
  kernel_rfl
noncomputable def hMods : List Str := importedModules (Module.body (Program.main pw))
noncomputable def hXt : Shared → Bool := fun s => xlAt qv [] s && recOk (RowW.records (OpenRow.toRowW (OpenLaw.row PySem.Challenge.rw_tk0050_01))) s
theorem look_0 : ∀ w : World, (fun os => staticsOk hMods (boot_heap w.params) (hpF w.params) && namesBound pw (hpF w.params) && gensDone (sF w os) && laidKept (boot_heap w.params) (hpF w.params)) = fun _ => true := by
  intro w
  kernel_rfl
theorem look_1 : ∀ w : World, (fun os => seen ((recsOf qv).map fun x => x.name) (ownsOf qv) [] { heap := (sF w os).heap, drawn := (sF w os).drawn, toks := (sF w os).toks, os := (sF w os).os }) = fun _ => (openGood qv ql).1 := by
  rewrite [PySem.W.Fast.te5160383126252970620]
  intro w
  kernel_rfl
theorem look_2 : ∀ w : World, (fun os => (sF w os).heap.bltView) = fun _ => (openGood qv ql).2.1 := by
  intro w
  kernel_rfl
theorem look_3 : ∀ w : World, (fun os => (sF w os).heap.keysOk (looseW qv ql) ((recsOf qv).map fun x => x.name) ((litsOf qv).map fun x => x.1) ((clssOf qv (looseW qv ql)).map fun x => x.name) && (sF w os).heap.accountedOkI hMods && (sF w os).heap.isNs mainGlobals && (sF w os).heap.isNs builtinsNs && tablesOk qv (sF w os).heap && hXt (sF w os) && if true = true then (sF w os).gens.size == 0 else !leftWithCleanup (sF w os).gens) = fun _ => (openGood qv ql).2.2.1 := by
  rewrite [PySem.W.Fast.te10880121769531294198, PySem.W.Fast.te14722251495701143533, PySem.W.Fast.te10994771534591457954]
  intro w
  kernel_rfl
theorem look_4 : ∀ w : World, (fun os => tabsOk qv (sF w os)) = fun _ => (openGood qv ql).2.2.2.1 := by
  rewrite [PySem.W.Fast.te479339242167458305]
  intro w
  kernel_rfl
theorem look_5 : ∀ w : World, (fun os => pinSeenD qv (drecsOf qv) (sF w os)) = fun _ => (openGood qv ql).2.2.2.2.1 := by
  rewrite [PySem.W.Fast.te16090120013241838585]
  intro w
  kernel_rfl
theorem look_6 : ∀ w : World, (fun os => plainSeenE qv (looseW qv ql) (sF w os)) = fun _ => (openGood qv ql).2.2.2.2.2.1 := by
  rewrite [PySem.W.Fast.te2386780881361962483]
  intro w
  kernel_rfl
theorem look_7 : ∀ w : World, (fun os => plainSeenD qv ql (sF w os)) = fun _ => (openGood qv ql).2.2.2.2.2.2.1 := by
  rewrite [PySem.W.Fast.te11698064438423848299]
  intro w
  kernel_rfl
theorem look_8 : ∀ w : World, (fun os => wideSeen qv (sF w os)) = fun _ => (openGood qv ql).2.2.2.2.2.2.2.1 := by
  rewrite [PySem.W.Fast.te7317090234206586261]
  intro w
  kernel_rfl
theorem look_9 : ∀ w : World, (fun os => clsSeenW qv ql (sF w os)) = fun _ => (openGood qv ql).2.2.2.2.2.2.2.2 := by
  rewrite [PySem.W.Fast.te7369524293546568484]
  intro w
  kernel_rfl
theorem look_s (w : World) (os : OsState) : openSeen qv ql hMods hXt true (sF w os) = openGood qv ql := by
  have h := looks_pair (congrFun (look_1 w) os) (looks_pair (congrFun (look_2 w) os) (looks_pair (congrFun (look_3 w) os) (looks_pair (congrFun (look_4 w) os) (looks_pair (congrFun (look_5 w) os) (looks_pair (congrFun (look_6 w) os) (looks_pair (congrFun (look_7 w) os) (looks_pair (congrFun (look_8 w) os) (congrFun (look_9 w) os))))))))
  refine Eq.mp ?_ h
  kernel_rfl
theorem look_y : ∀ w : World, (fun os => hook.obs (sF w os)) = fun _ => hook.val w := by
  intro w
  kernel_rfl
theorem head_left2 : LeftO pw qv ql hXt hook.obs hook.val 3882 :=
  LeftO.of_pieces (H₀ := boot_heap) (H₁ := hpF) (gs₀ := Array.mk []) (gs₁ := Array.mk []) hOpen hSize hRun (by decide +kernel) fun w => funext fun os =>
    looks_pair (congrFun (look_0 w) os) (looks_pair (look_s w os) (congrFun (look_y w) os))
theorem head_left : LeftO pw qv ql (fun s => xlAt qv [] s && recOk (RowW.records (OpenRow.toRowW (OpenLaw.row PySem.Challenge.rw_tk0050_01))) s) hook.obs hook.val 3882 := head_left2
end Mine

end PartC15
section PartC16
open PySem PySem.Calls PyProof.Rows PySem.W
set_option Elab.async false
set_option maxRecDepth 100000
set_option maxHeartbeats 8000000
set_option autoImplicit false
set_option linter.unusedVariables false
set_option linter.unusedSimpArgs false
namespace Mine
theorem finish2 (pl : Plain) {p : Program} {loose : List Str} {mean : ExcName → Option Value} {w : World} {s₁ : Shared} {mg mb : Str → Option Value} (hr : recsOf p = recsOf pw) (T : Top p loose mean mg mb s₁.heap) (HX : hookSays s₁.heap)
    {fa a : Addr} {zs : List Int} (hmg : mg (str "law") = some (.ref fa)) (hw : Well w.params s₁.heap (.ref a) (ofPy (.list (zs.map .int)))) (hl : zs.length ≤ 63) {Q E : Value → Shared → Prop}
    (hQ : ∀ h' tk, (∀ a o, s₁.heap.get? a = some o → h'.get? a = some o) → Q (.bool true) { s₁ with heap := h', toks := tk }) : wpAny (model pw w) callerA (PySem.call (.ref fa) [.ref a]) Q E s₁ := by
  have b := fun i n v h1 h2 => hook_mg (mg := mg) HX T.g i n v h1 h2
  let G : Cx := { prog := pw, w := w, p := p, loose := loose, mean := mean, mg := mg, mb := mb, cst := cstOf, h0 := s₁.heap, top0 := T }
  have o : OkG G := ⟨fun r h => (by show r ∈ recsOf p; rw [hr]; exact h), b 2 _ none rfl rfl, b 3 _ none rfl rfl, b 4 _ none rfl rfl, b 5 _ none rfl rfl, b 6 _ none rfl rfl, b 7 _ none rfl rfl, b 8 _ none rfl rfl, b 9 _ none rfl rfl,
    cst_n, cst_u⟩
  have g : Gd G s₁.heap (fun a => s₁.heap.get? a) := by
    refine ⟨fun _ _ e => e, fun _ _ e => e, fun x d e => ?_⟩
    have e' : cstOf x = some d := e
    unfold cstOf at e'
    by_cases h1 : x = str "NOUGHT"
    · subst h1
      rw [if_pos rfl] at e'; cases e'
      exact ⟨_, b 0 _ (some (.ref 172)) rfl rfl, .tup (vs := [.bool false, .ref 171]) (HX.1 172 _ rfl) (.cons (.bool _) (.cons (.lst (vs := []) (HX.1 171 _ rfl) .nil) .nil))⟩
    · rw [if_neg h1] at e'
      by_cases h2 : x = str "UNIT"
      · subst h2
        rw [if_pos rfl] at e'; cases e'
        exact ⟨_, b 1 _ (some (.ref 174)) rfl rfl, .tup (vs := [.bool false, .ref 173]) (HX.1 174 _ rfl) (.cons (.bool _) (.cons (.lst (vs := [.int 1 420]) (HX.1 173 _ rfl) (.cons (.int _ _) .nil)) .nil))⟩
      · rw [if_neg h2] at e'; cases e'
  have hd : ∃ vs : List Value, s₁.heap.get? a = some { cls := .type "list", data := .seq vs.toArray } ∧ WellAll w.params s₁.heap vs (ofPys (zs.map PyData.int)) := by
    rw [show ofPy (.list (zs.map .int)) = .list (ofPys (zs.map PyData.int)) from rfl] at hw
    cases hw with | list e ws => exact ⟨_, e, ws⟩
  obtain ⟨vs, e, ws⟩ := hd
  refine lift ((fn_law (G := G) pl o hl).fn callerA s₁ (fun a => s₁.heap.get? a) fa [.ref a] _ ⟨rfl, by decide, by decide⟩ g hmg (.cons (.lst (vs := vs) e (ints_den ws)) .nil) fun v h' K' tk x d => ?_)
  cases d with | bool b => exact hQ h' tk x.keep

end Mine

end PartC16
section PartD2
set_option autoImplicit false
set_option linter.unusedVariables false
set_option maxRecDepth 100000
namespace Mine

/-- is e between i and j? -/
noncomputable def dd (i j : Nat) (e : Nat × Nat) : Int := if (e.1 = i ∧ e.2 = j) ∨ (e.1 = j ∧ e.2 = i) then 1 else 0
/-- how many edges are between i and j -/
noncomputable def cc (i j : Nat) : List (Nat × Nat) → Int
  | [] => 0
  | e :: es => dd i j e + cc i j es
theorem cc_append (i j : Nat) (es : List (Nat × Nat)) (e : Nat × Nat) : cc i j (es ++ [e]) = cc i j es + dd i j e := by
  induction es with
  | nil => simp [cc]
  | cons x es ih => simp only [List.cons_append, cc, ih]; omega
theorem dd_nonneg (i j : Nat) (e : Nat × Nat) : 0 ≤ dd i j e := by unfold dd; split <;> omega
theorem cc_nonneg (i j : Nat) (es : List (Nat × Nat)) : 0 ≤ cc i j es := by
  induction es with
  | nil => exact Int.le_refl 0
  | cons e es ih => have := dd_nonneg i j e; simp only [cc]; omega
theorem lt4 {x : Nat} (h : x < 4) : x = 0 ∨ x = 1 ∨ x = 2 ∨ x = 3 := by omega
theorem lt3 {x : Nat} (h : x < 3) : x = 0 ∨ x = 1 ∨ x = 2 := by omega
theorem lt2 {x : Nat} (h : x < 2) : x = 0 ∨ x = 1 := by omega

noncomputable def L4 (p q r s t u : Int) : List (List Int) := [[p + q + r, -p, -q, -r], [-p, p + s + t, -s, -t], [-q, -s, q + s + u, -u], [-r, -t, -u, r + t + u]]
noncomputable def L3 (p q s : Int) : List (List Int) := [[p + q, -p, -q], [-p, p + s, -s], [-q, -s, q + s]]
noncomputable def L2 (p : Int) : List (List Int) := [[p, -p], [-p, p]]

theorem lstep4 (p q r s t u : Int) (x y : Nat) (hx : x < 4) (hy : y < 4) : lstep (L4 p q r s t u) (x, y) = L4 (p + dd 0 1 (x, y)) (q + dd 0 2 (x, y)) (r + dd 0 3 (x, y)) (s + dd 1 2 (x, y)) (t + dd 1 3 (x, y)) (u + dd 2 3 (x, y)) := by
  rcases lt4 hx with rfl | rfl | rfl | rfl <;> rcases lt4 hy with rfl | rfl | rfl | rfl <;> simp [lstep, inc, ent, L4, dd] <;> omega
theorem lstep3 (p q s : Int) (x y : Nat) (hx : x < 3) (hy : y < 3) : lstep (L3 p q s) (x, y) = L3 (p + dd 0 1 (x, y)) (q + dd 0 2 (x, y)) (s + dd 1 2 (x, y)) := by
  rcases lt3 hx with rfl | rfl | rfl <;> rcases lt3 hy with rfl | rfl | rfl <;> simp [lstep, inc, ent, L3, dd] <;> omega
theorem lstep2 (p : Int) (x y : Nat) (hx : x < 2) (hy : y < 2) : lstep (L2 p) (x, y) = L2 (p + dd 0 1 (x, y)) := by
  rcases lt2 hx with rfl | rfl <;> rcases lt2 hy with rfl | rfl <;> simp [lstep, inc, ent, L2, dd] <;> omega

theorem lfold4 : ∀ (es : List (Nat × Nat)), Pl 4 es → ∀ p q r s t u, es.foldl lstep (L4 p q r s t u) = L4 (p + cc 0 1 es) (q + cc 0 2 es) (r + cc 0 3 es) (s + cc 1 2 es) (t + cc 1 3 es) (u + cc 2 3 es)
  | [], _, p, q, r, s, t, u => by simp [cc]
  | (x, y) :: es, h, p, q, r, s, t, u => by
    have h0 := h (x, y) (.head _)
    rw [List.foldl_cons, lstep4 p q r s t u x y h0.1 h0.2, lfold4 es (fun e he => h e (.tail _ he))]
    simp only [cc, Int.add_assoc]
theorem lfold3 : ∀ (es : List (Nat × Nat)), Pl 3 es → ∀ p q s, es.foldl lstep (L3 p q s) = L3 (p + cc 0 1 es) (q + cc 0 2 es) (s + cc 1 2 es)
  | [], _, p, q, s => by simp [cc]
  | (x, y) :: es, h, p, q, s => by
    have h0 := h (x, y) (.head _)
    rw [List.foldl_cons, lstep3 p q s x y h0.1 h0.2, lfold3 es (fun e he => h e (.tail _ he))]
    simp only [cc, Int.add_assoc]
theorem lfold2 : ∀ (es : List (Nat × Nat)), Pl 2 es → ∀ p, es.foldl lstep (L2 p) = L2 (p + cc 0 1 es)
  | [], _, p => by simp [cc]
  | (x, y) :: es, h, p => by
    have h0 := h (x, y) (.head _)
    rw [List.foldl_cons, lstep2 p x y h0.1 h0.2, lfold2 es (fun e he => h e (.tail _ he))]
    simp only [cc, Int.add_assoc]

noncomputable def M3 (p q r s t u : Int) : List (List Int) := [[p + q + r, -p, -q], [-p, p + s + t, -s], [-q, -s, q + s + u]]
noncomputable def M2 (p q s : Int) : List (List Int) := [[p + q, -p], [-p, p + s]]
theorem minor4 {es : List (Nat × Nat)} (h : Pl 4 es) : minor 4 (lap 4 es) = M3 (cc 0 1 es) (cc 0 2 es) (cc 0 3 es) (cc 1 2 es) (cc 1 3 es) (cc 2 3 es) := by
  have e : lap 4 es = L4 _ _ _ _ _ _ := lfold4 es h 0 0 0 0 0 0
  rw [e]; simp only [Int.zero_add]; rfl
theorem minor3 {es : List (Nat × Nat)} (h : Pl 3 es) : minor 3 (lap 3 es) = M2 (cc 0 1 es) (cc 0 2 es) (cc 1 2 es) := by
  have e : lap 3 es = L3 _ _ _ := lfold3 es h 0 0 0
  rw [e]; simp only [Int.zero_add]; rfl
theorem minor2 {es : List (Nat × Nat)} (h : Pl 2 es) : minor 2 (lap 2 es) = [[cc 0 1 es]] := by
  have e : lap 2 es = L2 _ := lfold2 es h 0
  rw [e]; simp only [Int.zero_add]; rfl
theorem minor1 (es : List (Nat × Nat)) : minor 1 (lap 1 es) = [] := by unfold minor; simp
end Mine

end PartD2
section PartD3
set_option autoImplicit false
set_option linter.unusedVariables false
set_option linter.unusedSimpArgs false
set_option maxRecDepth 100000
namespace Mine

theorem stp_pl (s : Bs) (c : Nat) : (stp s c).pl.length ≤ s.pl.length + 1 := by
  unfold stp; split <;> simp

theorem detB_nil : detB [] = 1 := rfl
theorem detB_one (p : Int) : detB [[p]] = p := by
  by_cases h : p = 0
  · subst h; rfl
  · simp [detB, run, stp, pv, ent, swp, clrUp, h, List.range_succ]

theorem detB_two {a b d : Int} (h0 : a = 0 → b = 0) : detB [[a, b], [b, d]] = a * d - b * b := by
  by_cases h : a = 0
  · have hb := h0 h
    subst h; subst hb
    have h1 : (run [[0, 0], [0, d]] 1).pl = [] := by simp [run, stp, pv, ent]
    have h2 := stp_pl (run [[0, 0], [0, d]] 1) 1
    have h3 : (run [[0, 0], [0, d]] 2).pl.length < 2 := by
      show (stp (run [[0, 0], [0, d]] 1) 1).pl.length < 2
      rw [h1] at h2; simp at h2; omega
    unfold detB
    have hl0 : ([[0, 0], [0, d]] : List (List Int)).length = 2 := rfl
    rw [hl0, if_neg (by decide), if_pos h3]; simp
  · have e1 : run [[a, b], [b, d]] 1 = ⟨[[a, b], [0, d * a - b * b]], [0], false, a⟩ := by
      simp [run, stp, pv, ent, swp, clrUp, clr, h, List.range_succ]
    have e2 : run [[a, b], [b, d]] 2 = stp ⟨[[a, b], [0, d * a - b * b]], [0], false, a⟩ 1 := by
      show stp (run [[a, b], [b, d]] 1) 1 = _; rw [e1]
    have hl : ([[a, b], [b, d]] : List (List Int)).length = 2 := rfl
    unfold detB
    rw [hl, e2]
    by_cases hP : d * a - b * b = 0
    · simp [stp, pv, ent, hP]; rw [Int.mul_comm a d]; omega
    · simp [stp, pv, ent, swp, clrUp, clr, hP, List.range_succ]; rw [Int.mul_comm a d]

/-- the determinant of a symmetric matrix of three -/
noncomputable def det3 (a b c d e f : Int) : Int := a * (d * f - e * e) - b * (b * f - e * c) + c * (b * e - d * c)
theorem detB_three {a b c d e f : Int} (h0 : a = 0 → b = 0 ∧ c = 0) (h1 : a ≠ 0 → d * a - b * b = 0 → e * a - b * c = 0) : detB [[a, b, c], [b, d, e], [c, e, f]] = det3 a b c d e f := by
  have hl : ([[a, b, c], [b, d, e], [c, e, f]] : List (List Int)).length = 3 := rfl
  by_cases h : a = 0
  · obtain ⟨hb, hc⟩ := h0 h
    subst h; subst hb; subst hc
    have p1 : (run [[0, 0, 0], [0, d, e], [0, e, f]] 1).pl = [] := by simp [run, stp, pv, ent]
    have p2 := stp_pl (run [[0, 0, 0], [0, d, e], [0, e, f]] 1) 1
    have p3 := stp_pl (run [[0, 0, 0], [0, d, e], [0, e, f]] 2) 2
    have p4 : (run [[0, 0, 0], [0, d, e], [0, e, f]] 3).pl.length < 3 := by
      show (stp (run [[0, 0, 0], [0, d, e], [0, e, f]] 2) 2).pl.length < 3
      have p2' : (run [[0, 0, 0], [0, d, e], [0, e, f]] 2).pl.length ≤ 1 := by
        show (stp (run [[0, 0, 0], [0, d, e], [0, e, f]] 1) 1).pl.length ≤ 1
        rw [p1] at p2; simpa using p2
      omega
    unfold detB
    rw [hl, if_neg (by decide), if_pos p4]; simp [det3]
  · have e1 : run [[a, b, c], [b, d, e], [c, e, f]] 1 = ⟨[[a, b, c], [0, d * a - b * b, e * a - b * c], [0, e * a - c * b, f * a - c * c]], [0], false, a⟩ := by
      have q1 : b * a - b * a = 0 := by omega
      have q2 : c * a - c * a = 0 := by omega
      simp [run, stp, pv, ent, swp, clrUp, clr, h, List.range_succ]
    have e2 : run [[a, b, c], [b, d, e], [c, e, f]] 2 = stp (run [[a, b, c], [b, d, e], [c, e, f]] 1) 1 := rfl
    have e3 : run [[a, b, c], [b, d, e], [c, e, f]] 3 = stp (run [[a, b, c], [b, d, e], [c, e, f]] 2) 2 := rfl
    have hR : e * a - c * b = e * a - b * c := by rw [Int.mul_comm c b]
    rw [hR] at e1
    have hdet : (f * a - c * c) * (d * a - b * b) - (e * a - b * c) * (e * a - b * c) = a * det3 a b c d e f := by unfold det3; grind
    generalize hT : f * a - c * c = T at e1 hdet
    generalize hPP : d * a - b * b = P at e1 hdet h1
    generalize hRR : e * a - b * c = R at e1 hdet h1
    generalize det3 a b c d e f = D at hdet ⊢
    by_cases hP : P = 0
    · have hR0 := h1 h hP
      subst hP; subst hR0
      have hD : D = 0 := by
        have : a * D = 0 := by rw [← hdet]; simp
        rcases Int.mul_eq_zero.mp this with q | q
        · exact absurd q h
        · exact q
      have e2' : run [[a, b, c], [b, d, e], [c, e, f]] 2 = ⟨[[a, b, c], [0, 0, 0], [0, 0, T]], [0], false, a⟩ := by
        rw [e2, e1]; simp [stp, pv, ent]
      have p3 := stp_pl ⟨[[a, b, c], [0, 0, 0], [0, 0, T]], [0], false, a⟩ 2
      unfold detB
      rw [hl, if_neg (by decide), e3, e2', if_pos (by simp at p3; omega), hD]
    · have hx : (T * P - R * R).tdiv a = D := by rw [hdet]; exact Int.mul_tdiv_cancel_left _ h
      have e2' : run [[a, b, c], [b, d, e], [c, e, f]] 2 = ⟨[[a, b, c], [0, P, R], [0, 0, D]], [0, 1], false, P⟩ := by
        rw [e2, e1]
        simp [stp, pv, ent, swp, clrUp, clr, hP, List.range_succ, hx]
      unfold detB
      rw [hl, if_neg (by decide), e3, e2']
      by_cases hD : D = 0
      · subst hD; simp [stp, pv, ent]
      · simp [stp, pv, ent, swp, clrUp, clr, hD, List.range_succ]

noncomputable def T2 (p : Int) : Int := p
noncomputable def T3 (p q s : Int) : Int := (p + q) * (p + s) - p * p
noncomputable def T4 (p q r s t u : Int) : Int := det3 (p + q + r) (-p) (-q) (p + s + t) (-s) (q + s + u)

theorem mul_nn {x y : Int} (hx : 0 ≤ x) (hy : 0 ≤ y) : 0 ≤ x * y := Int.mul_nonneg hx hy
theorem detM2 {p q s : Int} (hp : 0 ≤ p) (hq : 0 ≤ q) (hs : 0 ≤ s) : detB (M2 p q s) = T3 p q s := by
  unfold M2 T3
  rw [detB_two (by omega), Int.neg_mul_neg]
theorem detM3 {p q r s t u : Int} (hp : 0 ≤ p) (hq : 0 ≤ q) (hr : 0 ≤ r) (hs : 0 ≤ s) (ht : 0 ≤ t) (hu : 0 ≤ u) : detB (M3 p q r s t u) = T4 p q r s t u := by
  unfold M3 T4
  refine detB_three (by omega) (fun ha hP => ?_)
  have e : (p + s + t) * (p + q + r) - -p * -p = p * (s + t) + (q + r) * (p + s + t) := by grind
  rw [e] at hP
  have n1 := mul_nn hp (show 0 ≤ s + t by omega)
  have n2 := mul_nn (show 0 ≤ q + r by omega) (show 0 ≤ p + s + t by omega)
  have z1 : p * (s + t) = 0 := by omega
  have z2 : (q + r) * (p + s + t) = 0 := by omega
  by_cases hp0 : p = 0
  · have hqr : q + r ≠ 0 := by omega
    rcases Int.mul_eq_zero.mp z2 with q' | q'
    · exact absurd q' hqr
    · have : s = 0 := by omega
      rw [hp0, this]; simp
  · rcases Int.mul_eq_zero.mp z1 with q' | q'
    · exact absurd q' hp0
    · rcases Int.mul_eq_zero.mp z2 with q'' | q''
      · have hs0 : s = 0 := by omega
        have hq0 : q = 0 := by omega
        rw [hs0, hq0]; simp
      · omega

theorem told1 (es : List (Nat × Nat)) : told 1 es = 1 := by unfold told; rw [minor1]; rfl
theorem told2 {es : List (Nat × Nat)} (h : Pl 2 es) : told 2 es = T2 (cc 0 1 es) := by unfold told; rw [minor2 h, detB_one]; rfl
theorem told3 {es : List (Nat × Nat)} (h : Pl 3 es) : told 3 es = T3 (cc 0 1 es) (cc 0 2 es) (cc 1 2 es) := by
  unfold told; rw [minor3 h, detM2 (cc_nonneg ..) (cc_nonneg ..) (cc_nonneg ..)]
theorem told4 {es : List (Nat × Nat)} (h : Pl 4 es) : told 4 es = T4 (cc 0 1 es) (cc 0 2 es) (cc 0 3 es) (cc 1 2 es) (cc 1 3 es) (cc 2 3 es) := by
  unfold told; rw [minor4 h, detM3 (cc_nonneg ..) (cc_nonneg ..) (cc_nonneg ..) (cc_nonneg ..) (cc_nonneg ..) (cc_nonneg ..)]
end Mine

end PartD3
section PartD4
set_option autoImplicit false
set_option linter.unusedVariables false
set_option linter.unusedSimpArgs false
set_option maxRecDepth 100000
namespace Mine

noncomputable def Bd (M : List (List Int)) (B : Nat) : Prop := ∀ r ∈ M, ∀ x ∈ r, x.natAbs ≤ B
theorem Bd.mono {M : List (List Int)} {B C : Nat} (h : Bd M B) (hc : B ≤ C) : Bd M C := fun r hr x hx => Nat.le_trans (h r hr x hx) hc

structure OkS (n : Nat) (s : Bs) : Prop where
  len : s.rows.length = n
  wid : ∀ r ∈ s.rows, r.length = n
  pls : s.pl.length ≤ n
  z : s.pl.length = 0 → s.bef = 1 ∧ Bd s.rows 6
  o : s.pl.length = 1 → s.bef ≠ 0 ∧ s.bef.natAbs ≤ 6 ∧ Bd s.rows 72
  t : Bd s.rows 10368

theorem ent_bd {M : List (List Int)} {B i j : Nat} (h : Bd M B) : (ent M i j).natAbs ≤ B := by
  unfold ent
  by_cases hi : i < M.length
  · have hm := getD_mem (d := ([] : List Int)) hi
    by_cases hj : j < (M.getD i []).length
    · exact h _ hm _ (getD_mem hj)
    · have : (M.getD i []).getD j 0 = 0 := by rw [List.getD, List.getElem?_eq_none (by omega)]; rfl
      rw [this]; simp
  · have : M.getD i [] = [] := by rw [List.getD, List.getElem?_eq_none (by omega)]; rfl
    rw [this]; simp
theorem row_bd {r : List Int} {B j : Nat} (h : ∀ x ∈ r, x.natAbs ≤ B) : (r.getD j 0).natAbs ≤ B := by
  by_cases hj : j < r.length
  · exact h _ (getD_mem hj)
  · have : r.getD j 0 = 0 := by rw [List.getD, List.getElem?_eq_none (by omega)]; rfl
    rw [this]; simp

theorem clr_bd {row head : List Int} {c B : Nat} {b : Int} (h1 : ∀ x ∈ row, x.natAbs ≤ B) (h2 : ∀ x ∈ head, x.natAbs ≤ B) : ∀ x ∈ clr row head c b, x.natAbs ≤ 2 * (B * B) := by
  intro x hx
  obtain ⟨j, _, rfl⟩ := List.mem_map.mp hx
  rw [Int.natAbs_tdiv]
  refine Nat.le_trans (Nat.div_le_self _ _) ?_
  have a1 : (row.getD j 0 * head.getD c 0).natAbs ≤ B * B := by rw [Int.natAbs_mul]; exact Nat.mul_le_mul (row_bd h1) (row_bd h2)
  have a2 : (row.getD c 0 * head.getD j 0).natAbs ≤ B * B := by rw [Int.natAbs_mul]; exact Nat.mul_le_mul (row_bd h1) (row_bd h2)
  omega
theorem clrUp_bd {M : List (List Int)} {top c k B : Nat} {b : Int} (h : Bd M B) (hB : B ≤ 2 * (B * B)) : Bd (clrUp M top c b k) (2 * (B * B)) := by
  intro r hr
  obtain ⟨i, hi, rfl⟩ := List.mem_map.mp hr
  have hi' : i < M.length := by simpa using hi
  have hm := h _ (getD_mem (d := ([] : List Int)) hi')
  split
  · rename_i hc
    refine clr_bd hm (h _ (getD_mem (by omega)))
  · intro x hx; exact Nat.le_trans (hm x hx) hB
theorem clrUp_wid {M : List (List Int)} {top c k n : Nat} {b : Int} (h : ∀ r ∈ M, r.length = n) : ∀ r ∈ clrUp M top c b k, r.length = n := by
  intro r hr
  obtain ⟨i, hi, rfl⟩ := List.mem_map.mp hr
  have hi' : i < M.length := by simpa using hi
  have hm := h _ (getD_mem (d := ([] : List Int)) hi')
  split
  · rw [clr_len]; exact hm
  · exact hm
theorem clrUp_id {M : List (List Int)} {top c k : Nat} {b : Int} (h : M.length ≤ top + 1) : clrUp M top c b k = M := by
  unfold clrUp
  conv => rhs; rw [← List.map_id M, ← map_range id ([] : List Int) M]
  refine List.map_congr_left fun i hi => ?_
  have hi' : i < M.length := by simpa using hi
  rw [if_neg (by omega)]; rfl

theorem OkS.stp {n : Nat} {s : Bs} (h : OkS n s) (hn : n ≤ 3) (c : Nat) : OkS n (Mine.stp s c) := by
  unfold Mine.stp
  split
  · exact h
  · rename_i p hp
    obtain ⟨p1, p2, p3⟩ := pv_range hp
    have hl := h.len
    have hpl := h.pls
    have hT : s.pl.length < s.rows.length := by omega
    have hP : p < s.rows.length := by omega
    have hml : (swp s.rows s.pl.length p).length = n := by rw [swp_len, hl]
    have hmem : ∀ r, r ∈ swp s.rows s.pl.length p → r ∈ s.rows := fun r => swp_mem hT hP
    have hne : ent (swp s.rows s.pl.length p) s.pl.length c ≠ 0 := by
      have : ent (swp s.rows s.pl.length p) s.pl.length c = ent s.rows p c := by
        unfold ent swp
        by_cases q : p = s.pl.length
        · rw [if_neg (by omega), q]
        · rw [if_pos q]
          have : ((s.rows.set s.pl.length (s.rows.getD p [])).set p (s.rows.getD s.pl.length [])).getD s.pl.length [] = s.rows.getD p [] := by
            rw [List.getD, List.getElem?_set_ne q, List.getElem?_set_self hT]; rfl
          rw [this]
      rw [this]; exact p3
    have bd : ∀ B, Bd s.rows B → Bd (swp s.rows s.pl.length p) B := fun B hB r hr => hB r (hmem r hr)
    refine ⟨?_, ?_, ?_, ?_, ?_, ?_⟩
    · show (clrUp _ _ _ _ _).length = n; rw [clrUp_len, hml]
    · exact clrUp_wid fun r hr => h.wid r (hmem r hr)
    · show (s.pl ++ [c]).length ≤ n; simp; omega
    · intro q
      have q' : (s.pl ++ [c]).length = 0 := q
      simp at q'
    · intro q
      have q' : (s.pl ++ [c]).length = 1 := q
      have q0 : s.pl.length = 0 := by simpa using q'
      have hb := bd 6 (h.z q0).2
      exact ⟨hne, ent_bd hb, clrUp_bd (B := 6) hb (by decide)⟩
    · show Bd (clrUp _ _ _ _ _) 10368
      by_cases q : 2 ≤ s.pl.length
      · rw [clrUp_id (by omega)]; exact bd _ h.t
      · by_cases q0 : s.pl.length = 0
        · exact (clrUp_bd (B := 6) (bd 6 (h.z q0).2) (by decide)).mono (by decide)
        · exact (clrUp_bd (B := 72) (bd 72 (h.o (by omega)).2.2) (by decide)).mono (by decide)

theorem OkS.run {n : Nat} {M : List (List Int)} (hn : n ≤ 3) (hl : M.length = n) (hw : ∀ r ∈ M, r.length = n) (hb : Bd M 6) : ∀ i, OkS n (Mine.run M i)
  | 0 => ⟨hl, hw, Nat.zero_le _, fun _ => ⟨rfl, hb⟩, fun q => (nomatch q), hb.mono (by decide)⟩
  | i + 1 => (OkS.run hn hl hw hb i).stp hn i
theorem OkS.fit {n : Nat} {s : Bs} (h : OkS n s) (hn : n ≤ 3) : Fit n s :=
  ⟨h.len, h.wid, h.pls, fun r hr x hx => by have := h.t r hr x hx; omega, fun q => by
    by_cases q0 : s.pl.length = 0
    · obtain ⟨a, b⟩ := h.z q0
      exact ⟨by rw [a]; decide, by rw [a]; decide, fun r hr x hx => by have := b r hr x hx; omega⟩
    · obtain ⟨a, b, c⟩ := h.o (by omega)
      exact ⟨a, by omega, fun r hr x hx => by have := c r hr x hx; omega⟩⟩
theorem detB_sm {n : Nat} {M : List (List Int)} (hn : n ≤ 3) (hl : M.length = n) (hw : ∀ r ∈ M, r.length = n) (hb : Bd M 6) : (detB M).natAbs < 2 ^ 40 := by
  have h := (OkS.run hn hl hw hb M.length).t
  have := ent_bd (i := M.length - 1) (j := M.length - 1) h
  unfold detB
  split
  · decide
  · split
    · decide
    · split
      · rw [Int.natAbs_neg]; omega
      · omega

theorem cc_sum (es : List (Nat × Nat)) : cc 0 1 es + cc 0 2 es + cc 0 3 es + cc 1 2 es + cc 1 3 es + cc 2 3 es ≤ es.length := by
  induction es with
  | nil => exact Int.le_refl 0
  | cons e es ih =>
    have : dd 0 1 e + dd 0 2 e + dd 0 3 e + dd 1 2 e + dd 1 3 e + dd 2 3 e ≤ 1 := by
      unfold dd
      repeat' split
      all_goals omega
    simp only [cc, List.length_cons]
    omega

theorem okt {many : Nat} {es : List (Nat × Nat)} (h0 : 0 < many) (h4 : many ≤ 4) (hp : Pl many es) (hl : es.length ≤ 6) : Okt many es := by
  have key : (minor many (lap many es)).length = many - 1 ∧ (∀ r ∈ minor many (lap many es), r.length = many - 1) ∧ Bd (minor many (lap many es)) 6 := by
    have s := cc_sum es
    have n1 := cc_nonneg 0 1 es
    have n2 := cc_nonneg 0 2 es
    have n3 := cc_nonneg 0 3 es
    have n4 := cc_nonneg 1 2 es
    have n5 := cc_nonneg 1 3 es
    have n6 := cc_nonneg 2 3 es
    have hm : many = 1 ∨ many = 2 ∨ many = 3 ∨ many = 4 := by omega
    rcases hm with rfl | rfl | rfl | rfl
    · rw [minor1]; exact ⟨rfl, fun r hr => (nomatch hr), fun r hr => (nomatch hr)⟩
    · rw [minor2 hp]
      refine ⟨rfl, fun r hr => ?_, fun r hr x hx => ?_⟩
      · simp at hr; subst hr; rfl
      · simp at hr; subst hr; simp at hx; subst hx; omega
    · rw [minor3 hp]
      unfold M2
      refine ⟨rfl, fun r hr => ?_, fun r hr x hx => ?_⟩
      · simp at hr; rcases hr with rfl | rfl <;> rfl
      · simp at hr; rcases hr with rfl | rfl <;> (simp at hx; rcases hx with rfl | rfl <;> omega)
    · rw [minor4 hp]
      unfold M3
      refine ⟨rfl, fun r hr => ?_, fun r hr x hx => ?_⟩
      · simp at hr; rcases hr with rfl | rfl | rfl <;> rfl
      · simp at hr; rcases hr with rfl | rfl | rfl <;> (simp at hx; rcases hx with rfl | rfl | rfl <;> omega)
  obtain ⟨k1, k2, k3⟩ := key
  exact ⟨fun i _ => (OkS.run (by omega) k1 k2 k3 i).fit (by omega), detB_sm (by omega) k1 k2 k3⟩
end Mine

end PartD4
section PartD5
set_option autoImplicit false
set_option linter.unusedVariables false
set_option linter.unusedSimpArgs false
set_option maxRecDepth 100000
namespace Mine

theorem lots_append (many : Nat) (es : List (Nat × Nat)) (e : Nat × Nat) : lots many (es ++ [e]) = tstep many (lots many es) e := by
  unfold lots; rw [List.foldl_append]; rfl

/-- cut to fewer edges -/
theorem lots_cut (k : Nat) (hk : 0 < k) (es : List (Nat × Nat)) : (lots (k + 1) es).filter (fun l => decide (l.length ≤ k - 1)) = lots k es := by
  have main : ∀ (es : List (Nat × Nat)) (ls ms : List (List (Nat × Nat))), ls.filter (fun l => decide (l.length ≤ k - 1)) = ms → (es.foldl (tstep (k + 1)) ls).filter (fun l => decide (l.length ≤ k - 1)) = es.foldl (tstep k) ms := by
    intro es
    induction es with
    | nil => intro ls ms h; exact h
    | cons e es ih =>
      intro ls ms h
      rw [List.foldl_cons, List.foldl_cons]
      refine ih _ _ ?_
      unfold tstep
      rw [List.filter_append, h, List.filter_map, ← h, List.filter_filter, List.filter_filter]
      congr 2
      refine List.filter_congr fun l _ => ?_
      rw [Bool.eq_iff_iff]
      simp
      omega
  refine main es [[]] [[]] ?_
  rfl

theorem lots_map (k : Nat) (f : Nat × Nat → Nat × Nat) (es : List (Nat × Nat)) : lots k (es.map f) = (lots k es).map (List.map f) := by
  have main : ∀ (es : List (Nat × Nat)) (ls : List (List (Nat × Nat))), (es.map f).foldl (tstep k) (ls.map (List.map f)) = (es.foldl (tstep k) ls).map (List.map f) := by
    intro es
    induction es with
    | nil => intro ls; rfl
    | cons e es ih =>
      intro ls
      rw [List.map_cons, List.foldl_cons, List.foldl_cons, ← ih]
      congr 1
      unfold tstep
      rw [List.map_append, List.filter_map, List.map_map, List.map_map]
      congr 1
      have : ((fun l : List (Nat × Nat) => decide (l.length < k - 1)) ∘ List.map f) = fun l => decide (l.length < k - 1) := by
        funext l; simp
      rw [this]
      refine List.map_congr_left fun l _ => ?_
      simp
  exact main es [[]]

theorem lots_pl {m : Nat} (k : Nat) {es : List (Nat × Nat)} (hp : Pl m es) : ∀ l ∈ lots k es, Pl m l := fun l hl =>
  (tfold_all k m es hp [[]] (fun l hl => by obtain rfl := List.mem_singleton.mp hl; exact ⟨fun x hx => (nomatch hx), Nat.zero_le _⟩) l hl).1

/-- joined with one edge more -/
theorem joins_step {k : Nat} {l : List (Nat × Nat)} {e : Nat × Nat} (hk : 0 < k)
    (hj : ∀ l : List (Nat × Nat), l.length = k - 1 → Pl (k + 1) l → ∀ x y, x < k + 1 → y < k + 1 → joins (k + 1) (l ++ [(x, y)]) = (decide (x ≠ y) && joins k (l.map (mrg x y)))) {es : List (Nat × Nat)} (hp : Pl (k + 1) es) {x y : Nat} (hx : x < k + 1) (hy : y < k + 1) :
    treesN (k + 1) (es ++ [(x, y)]) = treesN (k + 1) es + (if x ≠ y then treesN k (es.map (mrg x y)) else 0) := by
  unfold treesN
  rw [lots_append]
  unfold tstep
  rw [List.filter_append, List.length_append]
  congr 1
  rw [List.filter_map, List.length_map, List.filter_filter]
  have e1 : (lots (k + 1) es).filter (fun l => ((fun l => decide (l.length = k + 1 - 1) && joins (k + 1) l) ∘ fun x_1 => x_1 ++ [(x, y)]) l && decide (l.length < k + 1 - 1)) = (lots k es).filter (fun l => decide (l.length = k - 1) && (decide (x ≠ y) && joins k (l.map (mrg x y)))) := by
    rw [← lots_cut k hk es, List.filter_filter]
    refine List.filter_congr fun l hl => ?_
    have hpl := lots_pl (k + 1) hp l hl
    by_cases hlen : l.length = k - 1
    · have := hj l hlen hpl x y hx hy
      have hk1 : k - 1 < k := by omega
      have hk2 : k - 1 + 1 = k := by omega
      simp only [Function.comp, this]
      simp [hlen, hk1, hk2]
    · have h1 : ¬ l.length + 1 = k := by omega
      simp [hlen, h1]
  rw [e1]
  by_cases hxy : x = y
  · rw [if_neg (by simpa using hxy)]
    simp [hxy]
  · rw [if_pos hxy, lots_map, List.filter_map, List.length_map]
    congr 2
    funext l
    simp [hxy]

theorem joins_pair1 : ∀ x y : Fin 2, joins 2 [(x.val, y.val)] = (decide (x.val ≠ y.val) && joins 1 []) := by decide +kernel
theorem joins_pair2 : ∀ a b x y : Fin 3, joins 3 [(a.val, b.val), (x.val, y.val)] = (decide (x.val ≠ y.val) && joins 2 [mrg x.val y.val (a.val, b.val)]) := by decide +kernel
theorem joins_pair3_0 : ∀ a b c d y : Fin 4, joins 4 [(a.val, b.val), (c.val, d.val), (0, y.val)] = (decide (0 ≠ y.val) && joins 3 [mrg 0 y.val (a.val, b.val), mrg 0 y.val (c.val, d.val)]) := by decide +kernel
theorem joins_pair3_1 : ∀ a b c d y : Fin 4, joins 4 [(a.val, b.val), (c.val, d.val), (1, y.val)] = (decide (1 ≠ y.val) && joins 3 [mrg 1 y.val (a.val, b.val), mrg 1 y.val (c.val, d.val)]) := by decide +kernel
theorem joins_pair3_2 : ∀ a b c d y : Fin 4, joins 4 [(a.val, b.val), (c.val, d.val), (2, y.val)] = (decide (2 ≠ y.val) && joins 3 [mrg 2 y.val (a.val, b.val), mrg 2 y.val (c.val, d.val)]) := by decide +kernel
theorem joins_pair3_3 : ∀ a b c d y : Fin 4, joins 4 [(a.val, b.val), (c.val, d.val), (3, y.val)] = (decide (3 ≠ y.val) && joins 3 [mrg 3 y.val (a.val, b.val), mrg 3 y.val (c.val, d.val)]) := by decide +kernel
theorem joins_pair3 (a b c d x y : Fin 4) : joins 4 [(a.val, b.val), (c.val, d.val), (x.val, y.val)] = (decide (x.val ≠ y.val) && joins 3 [mrg x.val y.val (a.val, b.val), mrg x.val y.val (c.val, d.val)]) := by
  match x with
  | ⟨0, _⟩ => exact joins_pair3_0 a b c d y
  | ⟨1, _⟩ => exact joins_pair3_1 a b c d y
  | ⟨2, _⟩ => exact joins_pair3_2 a b c d y
  | ⟨3, _⟩ => exact joins_pair3_3 a b c d y
end Mine

end PartD5
section PartD6
set_option autoImplicit false
set_option linter.unusedVariables false
set_option linter.unusedSimpArgs false
set_option maxRecDepth 100000
namespace Mine

noncomputable def K3 (x y : Nat) (p q s : Int) : Int := if min x y = 0 then (if max x y = 1 then q + s else p + s) else p + q
noncomputable def A4 (x y : Nat) (p q r s t u : Int) : Int := if min x y = 0 then (if max x y = 1 then q + s else if max x y = 2 then p + s else p + t) else if min x y = 1 then (if max x y = 2 then p + q else p + r) else p
noncomputable def B4 (x y : Nat) (p q r s t u : Int) : Int := if min x y = 0 then (if max x y = 1 then r + t else if max x y = 2 then r + u else q + u) else if min x y = 1 then (if max x y = 2 then r else q) else q + r
noncomputable def C4 (x y : Nat) (p q r s t u : Int) : Int := if min x y = 0 then (if max x y = 1 then u else if max x y = 2 then t else s) else if min x y = 1 then (if max x y = 2 then t + u else s + u) else s + t

theorem dd_m3 : ∀ x y a b : Fin 3, x.val ≠ y.val → dd 0 1 (mrg x.val y.val (a.val, b.val)) = K3 x.val y.val (dd 0 1 (a.val, b.val)) (dd 0 2 (a.val, b.val)) (dd 1 2 (a.val, b.val)) := by decide +kernel
theorem dd_m4 : ∀ x y a b : Fin 4, x.val ≠ y.val →
    dd 0 1 (mrg x.val y.val (a.val, b.val)) = A4 x.val y.val (dd 0 1 (a.val, b.val)) (dd 0 2 (a.val, b.val)) (dd 0 3 (a.val, b.val)) (dd 1 2 (a.val, b.val)) (dd 1 3 (a.val, b.val)) (dd 2 3 (a.val, b.val)) ∧
    dd 0 2 (mrg x.val y.val (a.val, b.val)) = B4 x.val y.val (dd 0 1 (a.val, b.val)) (dd 0 2 (a.val, b.val)) (dd 0 3 (a.val, b.val)) (dd 1 2 (a.val, b.val)) (dd 1 3 (a.val, b.val)) (dd 2 3 (a.val, b.val)) ∧
    dd 1 2 (mrg x.val y.val (a.val, b.val)) = C4 x.val y.val (dd 0 1 (a.val, b.val)) (dd 0 2 (a.val, b.val)) (dd 0 3 (a.val, b.val)) (dd 1 2 (a.val, b.val)) (dd 1 3 (a.val, b.val)) (dd 2 3 (a.val, b.val)) := by decide +kernel

theorem K3_add (x y : Nat) (p q s p' q' s' : Int) : K3 x y (p + p') (q + q') (s + s') = K3 x y p q s + K3 x y p' q' s' := by
  unfold K3; repeat' split
  all_goals omega
theorem A4_add (x y : Nat) (p q r s t u p' q' r' s' t' u' : Int) : A4 x y (p + p') (q + q') (r + r') (s + s') (t + t') (u + u') = A4 x y p q r s t u + A4 x y p' q' r' s' t' u' := by
  unfold A4; repeat' split
  all_goals omega
theorem B4_add (x y : Nat) (p q r s t u p' q' r' s' t' u' : Int) : B4 x y (p + p') (q + q') (r + r') (s + s') (t + t') (u + u') = B4 x y p q r s t u + B4 x y p' q' r' s' t' u' := by
  unfold B4; repeat' split
  all_goals omega
theorem C4_add (x y : Nat) (p q r s t u p' q' r' s' t' u' : Int) : C4 x y (p + p') (q + q') (r + r') (s + s') (t + t') (u + u') = C4 x y p q r s t u + C4 x y p' q' r' s' t' u' := by
  unfold C4; repeat' split
  all_goals omega

theorem cc_m3 {x y : Nat} (hx : x < 3) (hy : y < 3) (hxy : x ≠ y) : ∀ {es : List (Nat × Nat)}, Pl 3 es → cc 0 1 (es.map (mrg x y)) = K3 x y (cc 0 1 es) (cc 0 2 es) (cc 1 2 es)
  | [], _ => by simp [cc, K3]
  | (a, b) :: es, h => by
    have h0 := h (a, b) (.head _)
    have ih := cc_m3 hx hy hxy (es := es) fun e he => h e (.tail _ he)
    have := dd_m3 ⟨x, hx⟩ ⟨y, hy⟩ ⟨a, h0.1⟩ ⟨b, h0.2⟩ hxy
    simp only [List.map_cons, cc, K3_add, ih]
    rw [← this]
theorem cc_m4 {x y : Nat} (hx : x < 4) (hy : y < 4) (hxy : x ≠ y) : ∀ {es : List (Nat × Nat)}, Pl 4 es →
    cc 0 1 (es.map (mrg x y)) = A4 x y (cc 0 1 es) (cc 0 2 es) (cc 0 3 es) (cc 1 2 es) (cc 1 3 es) (cc 2 3 es) ∧ cc 0 2 (es.map (mrg x y)) = B4 x y (cc 0 1 es) (cc 0 2 es) (cc 0 3 es) (cc 1 2 es) (cc 1 3 es) (cc 2 3 es) ∧ cc 1 2 (es.map (mrg x y)) = C4 x y (cc 0 1 es) (cc 0 2 es) (cc 0 3 es) (cc 1 2 es) (cc 1 3 es) (cc 2 3 es)
  | [], _ => by simp [cc, A4, B4, C4]
  | (a, b) :: es, h => by
    have h0 := h (a, b) (.head _)
    obtain ⟨i1, i2, i3⟩ := cc_m4 hx hy hxy (es := es) fun e he => h e (.tail _ he)
    obtain ⟨d1, d2, d3⟩ := dd_m4 ⟨x, hx⟩ ⟨y, hy⟩ ⟨a, h0.1⟩ ⟨b, h0.2⟩ hxy
    simp only [List.map_cons, cc, A4_add, B4_add, C4_add, i1, i2, i3]
    rw [← d1, ← d2, ← d3]
    exact ⟨rfl, rfl, rfl⟩

theorem mrg_pl {many : Nat} {es : List (Nat × Nat)} {a b : Nat} (hm : 2 ≤ many) (hp : Pl many es) (ha : a < many) (hb : b < many) (hab : a ≠ b) : Pl (many - 1) (es.map (mrg a b)) := by
  intro e he
  obtain ⟨e', he', rfl⟩ := List.mem_map.mp he
  have h := hp e' he'
  have key : ∀ x, x < many → (mrg1 (min a b) (max a b) x).toNat < many - 1 := fun x hx => by
    unfold mrg1
    repeat' split
    all_goals omega
  exact ⟨key _ h.1, key _ h.2⟩

theorem Pl.snoc {m : Nat} {es : List (Nat × Nat)} {x y : Nat} (hp : Pl m es) (hx : x < m) (hy : y < m) : Pl m (es ++ [(x, y)]) := fun e he => by
  rcases List.mem_append.mp he with h | h
  · exact hp e h
  · obtain rfl := List.mem_singleton.mp h; exact ⟨hx, hy⟩

theorem T3_step (p q s : Int) (x y : Nat) (hx : x < 3) (hy : y < 3) : T3 (p + dd 0 1 (x, y)) (q + dd 0 2 (x, y)) (s + dd 1 2 (x, y)) = T3 p q s + (if x ≠ y then T2 (K3 x y p q s) else 0) := by
  rcases lt3 hx with rfl | rfl | rfl <;> rcases lt3 hy with rfl | rfl | rfl <;> simp [dd, K3, T2, T3] <;> grind
theorem T4_step (p q r s t u : Int) (x y : Nat) (hx : x < 4) (hy : y < 4) : T4 (p + dd 0 1 (x, y)) (q + dd 0 2 (x, y)) (r + dd 0 3 (x, y)) (s + dd 1 2 (x, y)) (t + dd 1 3 (x, y)) (u + dd 2 3 (x, y)) =
    T4 p q r s t u + (if x ≠ y then T3 (A4 x y p q r s t u) (B4 x y p q r s t u) (C4 x y p q r s t u) else 0) := by
  rcases lt4 hx with rfl | rfl | rfl | rfl <;> rcases lt4 hy with rfl | rfl | rfl | rfl <;> simp [dd, A4, B4, C4, T3, T4, det3] <;> grind

theorem told_dc {many : Nat} {es : List (Nat × Nat)} {a b : Nat} (hm : 2 ≤ many) (h4 : many ≤ 4) (hp : Pl many es) (ha : a < many) (hb : b < many) : told many (es ++ [(a, b)]) = told many es + (if a ≠ b then told (many - 1) (es.map (mrg a b)) else 0) := by
  have hs := hp.snoc ha hb
  have hc : many = 2 ∨ many = 3 ∨ many = 4 := by omega
  rcases hc with rfl | rfl | rfl
  · rw [told2 hs, told2 hp, cc_append]
    show T2 _ = T2 _ + (if a ≠ b then told 1 _ else 0)
    rw [told1]
    rcases lt2 ha with rfl | rfl <;> rcases lt2 hb with rfl | rfl <;> simp [dd, T2]
  · rw [told3 hs, told3 hp, cc_append, cc_append, cc_append, T3_step _ _ _ a b ha hb]
    congr 1
    by_cases h : a = b
    · simp [h]
    · rw [if_pos h, if_pos h]
      have hpl := mrg_pl (by decide) hp ha hb h
      show _ = told 2 _
      rw [told2 hpl, cc_m3 ha hb h hp]
  · rw [told4 hs, told4 hp, cc_append, cc_append, cc_append, cc_append, cc_append, cc_append, T4_step _ _ _ _ _ _ a b ha hb]
    congr 1
    by_cases h : a = b
    · simp [h]
    · rw [if_pos h, if_pos h]
      have hpl := mrg_pl (by decide) hp ha hb h
      obtain ⟨m1, m2, m3⟩ := cc_m4 ha hb h hp
      show _ = told 3 _
      rw [told3 hpl, m1, m2, m3]

theorem trees_dc {k : Nat} {es : List (Nat × Nat)} {x y : Nat} (hk : 0 < k) (hk3 : k ≤ 3) (hp : Pl (k + 1) es) (hx : x < k + 1) (hy : y < k + 1) : treesN (k + 1) (es ++ [(x, y)]) = treesN (k + 1) es + (if x ≠ y then treesN k (es.map (mrg x y)) else 0) := by
  refine joins_step (l := []) (e := (0, 0)) hk (fun l hl hpl x y hx hy => ?_) hp hx hy
  have hc : k = 1 ∨ k = 2 ∨ k = 3 := by omega
  rcases hc with rfl | rfl | rfl
  · match l, hl with
    | [], _ => exact joins_pair1 ⟨x, hx⟩ ⟨y, hy⟩
  · match l, hl with
    | [(a, b)], _ =>
      have h1 := hpl (a, b) (.head _)
      exact joins_pair2 ⟨a, h1.1⟩ ⟨b, h1.2⟩ ⟨x, hx⟩ ⟨y, hy⟩
  · match l, hl with
    | [(a, b), (c, d)], _ =>
      have h1 := hpl (a, b) (.head _)
      have h2 := hpl (c, d) (.tail _ (.head _))
      exact joins_pair3 ⟨a, h1.1⟩ ⟨b, h1.2⟩ ⟨c, h2.1⟩ ⟨d, h2.2⟩ ⟨x, hx⟩ ⟨y, hy⟩

theorem trees1 (es : List (Nat × Nat)) : treesN 1 es = 1 := by
  have : lots 1 es = [[]] := by
    unfold lots
    induction es with
    | nil => rfl
    | cons e es ih => rw [List.foldl_cons]; exact ih
  unfold treesN
  rw [this]; rfl

theorem told_trees : ∀ (k : Nat), k ≤ 3 → ∀ (n : Nat) (es : List (Nat × Nat)), es.length = n → Pl (k + 1) es → told (k + 1) es = treesN (k + 1) es
  | 0, _, _, es, _, _ => by rw [told1, trees1]; rfl
  | k + 1, hk, 0, es, hl, hp => by
    obtain rfl := List.length_eq_zero_iff.mp hl
    have hc : k = 0 ∨ k = 1 ∨ k = 2 := by omega
    rcases hc with rfl | rfl | rfl <;> rfl
  | k + 1, hk, n + 1, es, hl, hp => by
    rcases List.eq_nil_or_concat es with rfl | ⟨es', e, rfl⟩
    · cases hl
    · obtain ⟨x, y⟩ := e
      rw [List.concat_eq_append] at hl hp ⊢
      have hp' : Pl (k + 1 + 1) es' := fun e he => hp e (List.mem_append_left _ he)
      have hxy := hp (x, y) (List.mem_append_right _ (.head _))
      have hx : x < k + 1 + 1 := hxy.1
      have hy : y < k + 1 + 1 := hxy.2
      have ih := told_trees (k + 1) hk n es' (by simpa using hl) hp'
      rw [told_dc (by omega) (by omega) hp' hx hy, trees_dc (by omega) hk hp' hx hy, ih]
      by_cases h : x = y
      · simp [h]
      · rw [if_pos h, if_pos h]
        have hpl := mrg_pl (by omega) hp' hx hy h
        have := told_trees k (by omega) _ (es'.map (mrg x y)) rfl hpl
        rw [show k + 1 + 1 - 1 = k + 1 by omega, this]
        omega
  termination_by k _ n => (k, n)

theorem plain : Plain where
  ok := okt
  trees := fun {many es} h0 h4 hp => by
    have := told_trees (many - 1) (by omega) _ es rfl (by rw [show many - 1 + 1 = many by omega]; exact hp)
    rwa [show many - 1 + 1 = many by omega] at this
  dc := told_dc
  mrg := mrg_pl
end Mine

end PartD6
open PySem PySem.Calls PySem.W PyProof.Rows
set_option maxRecDepth 100000 in
set_option maxHeartbeats 8000000 in
theorem PySem.Challenge.cw_tk0050_01_holds : PySem.Challenge.rw_tk0050_01.Holds := by
  w_on
  o_law
  refine holds_open (q := Mine.qv) (loose := Mine.ql) (Xt := fun s => xlAt Mine.qv [] s && recOk (RowW.records (OpenRow.toRowW (OpenLaw.row PySem.Challenge.rw_tk0050_01))) s) (XP := XL Mine.qv []) (Yf := Mine.hook.obs) (Ya := Mine.hook.val) (YP := Mine.hook.says) (N := 3882) Mine.head_left Mine.hook.of Mine.hook.keeps
    (fun s e => xl_of s (Bool.and_eq_true_iff.mp e).1) XL.keeps (by rfl) (by rfl) (by rfl) (fun s e => recFacts_of (Bool.and_eq_true_iff.mp e).2) (by rfl) (by first | assumption | decide +kernel) (by decide +kernel) ⟨rfl, rfl, rfl, rfl, rfl, by decide +kernel⟩ ?hw ?hc
  case hw => w_witness2
  intro w s₀ s₁ mg mb G Y fa o pm cd doc dV kV ho hd' hcd hD hmg hg args vals as hpre hlay hrd hwl hlo
  refine Ground.open G ?_
  intro T B D TE TW
  clear ho hd' hcd hD B D TE TW
  wrow_args hpre hlay hrd hwl hlo
  rename_i zs _ _ _ _ _ _ _ _ _ _ _ _ w1 _ _ _ hc _
  refine Mine.finish2 Mine.plain (by rfl) T Y hmg w1 (by omega) fun h' tk hk => ?_
  refine ⟨.inl ⟨.bool true, .bool true, [], rfl, fun _ => rfl, .bool true, ?_, fun _ => ⟨List.nodup_nil, fun _ ha => nomatch ha⟩⟩, .of_keep hk, rfl, .of_eq hg⟩
  wrow_post
