import PyProof.Rows.All
import Wide.All
import OpenK.AllK
import Wide.FinOn
import PySem.Challenge.RW_xm0578_01
open PySem PySem.W PyProof.Rows
set_option Elab.async false
set_option maxRecDepth 100000
set_option linter.unusedVariables false
set_option maxHeartbeats 4000000

namespace Mine
section
/-- data -/
inductive D where
  | none
  | bool (b : Bool)
  | int (i : Int)
  | str (x : Str)
  | tuple (ds : List D)
  | list (ds : List D)
  | obj (a : Addr)
  | rng (a b : Int)

mutual
/-- the value stands for the datum in the heap, its lists and tuples off X -/
inductive Rep (X : Addr → Prop) (h : Heap) : Value → D → Prop
  | none : Rep X h Value.none D.none
  | bool (b : Bool) : Rep X h (Value.bool b) (D.bool b)
  | int (i : Int) (t : Tok) : Rep X h (Value.int i t) (D.int i)
  | str (x : Str) (t : Tok) : Rep X h (Value.str x t) (D.str x)
  | obj (a : Addr) : Rep X h (Value.ref a) (D.obj a)
  | rng {r : Addr} {a b : Int} {t u v : Tok} : ¬ X r → IsRange h r a b 1 t u v → Rep X h (Value.ref r) (D.rng a b)
  | tuple {a : Addr} {vs : List Value} {ds : List D} : ¬ X a → IsTup h a vs.toArray → Reps X h vs ds → Rep X h (Value.ref a) (D.tuple ds)
  | list {a : Addr} {vs : List Value} {ds : List D} : ¬ X a → h.IsList a vs.toArray → Reps X h vs ds → Rep X h (Value.ref a) (D.list ds)
inductive Reps (X : Addr → Prop) (h : Heap) : List Value → List D → Prop
  | nil : Reps X h [] []
  | cons {v : Value} {vs : List Value} {d : D} {ds : List D} : Rep X h v d → Reps X h vs ds → Reps X h (v :: vs) (d :: ds)
end

def KeepsOff (O : Addr → Prop) (h h' : Heap) : Prop := ∀ b o, ¬ O b → h.get? b = some o → h'.get? b = some o

theorem KeepsOff.refl {O : Addr → Prop} {h : Heap} : KeepsOff O h h := fun _ _ _ e => e
theorem KeepsOff.trans {O : Addr → Prop} {h h' h'' : Heap} (x : KeepsOff O h h') (y : KeepsOff O h' h'') : KeepsOff O h h'' :=
  fun b o n e => y b o n (x b o n e)
theorem KeepsOff.mono {O O' : Addr → Prop} {h h' : Heap} (x : KeepsOff O h h') (hs : ∀ b, O b → O' b) : KeepsOff O' h h' :=
  fun b o n e => x b o (fun z => n (hs b z)) e
theorem KeepsOff.of_all {O : Addr → Prop} {h h' : Heap} (k : ∀ b o, h.get? b = some o → h'.get? b = some o) : KeepsOff O h h' :=
  fun b o _ e => k b o e

/-- a datum goes over, where the objects off X that are no dicts do -/
theorem Rep.map {X X' : Addr → Prop} {h h' : Heap} (H : ∀ b o, ¬ X b → h.get? b = some o → (∀ es ep, o.data ≠ .dict es ep) → ¬ X' b ∧ h'.get? b = some o) {v : Value} {d : D} (r : Rep X h v d) : Rep X' h' v d :=
  Rep.rec (motive_1 := fun v d _ => Rep X' h' v d) (motive_2 := fun vs ds _ => Reps X' h' vs ds) .none .bool .int .str .obj
    (fun n e => .rng (H _ _ n e fun _ _ q => nomatch q).1 (H _ _ n e fun _ _ q => nomatch q).2)
    (fun n ⟨o, e, c, m, q⟩ _ ih => have z := H _ o n e fun _ _ p => nomatch q.symm.trans p; .tuple z.1 ⟨o, z.2, c, m, q⟩ ih)
    (fun n ⟨o, e, c, m, q⟩ _ ih => have z := H _ o n e fun _ _ p => nomatch q.symm.trans p; .list z.1 ⟨o, z.2, c, m, q⟩ ih)
    .nil (fun _ _ a b => .cons a b) r
theorem Reps.map {X X' : Addr → Prop} {h h' : Heap} (H : ∀ b o, ¬ X b → h.get? b = some o → (∀ es ep, o.data ≠ .dict es ep) → ¬ X' b ∧ h'.get? b = some o) {vs : List Value} {ds : List D} (r : Reps X h vs ds) : Reps X' h' vs ds := by
  induction vs generalizing ds with
  | nil => cases r; exact .nil
  | cons v vs ih => cases r with | cons a r => exact .cons (a.map H) (ih r)
section
variable {X : Addr → Prop} {h : Heap} {v : Value} {d e : D} {vs : List Value} {ds : List D}
theorem Reps.cons_inv (r : Reps X h vs (d :: ds)) : ∃ v ws, vs = v :: ws ∧ Rep X h v d ∧ Reps X h ws ds := by cases r with | cons a r => exact ⟨_, _, rfl, a, r⟩
theorem Reps.cons2 (r : Reps X h (v :: vs) (d :: ds)) : Rep X h v d ∧ Reps X h vs ds := by cases r with | cons a r => exact ⟨a, r⟩
theorem Reps.nil_inv (r : Reps X h vs []) : vs = [] := by cases r; rfl
theorem Rep.list_inv (r : Rep X h v (.list ds)) : ∃ a vs, v = .ref a ∧ ¬ X a ∧ h.IsList a vs.toArray ∧ Reps X h vs ds := by cases r with | list n l r => exact ⟨_, _, rfl, n, l, r⟩
theorem Rep.tuple_inv (r : Rep X h v (.tuple ds)) : ∃ a vs, v = .ref a ∧ ¬ X a ∧ IsTup h a vs.toArray ∧ Reps X h vs ds := by cases r with | tuple n l r => exact ⟨_, _, rfl, n, l, r⟩
theorem Rep.list_ref {a : Addr} (r : Rep X h (.ref a) (.list ds)) : ∃ vs, ¬ X a ∧ h.IsList a vs.toArray ∧ Reps X h vs ds := by cases r with | list n l r => exact ⟨_, n, l, r⟩
theorem Rep.tuple_ref {a : Addr} (r : Rep X h (.ref a) (.tuple ds)) : ∃ vs, ¬ X a ∧ IsTup h a vs.toArray ∧ Reps X h vs ds := by cases r with | tuple n l r => exact ⟨_, n, l, r⟩
theorem Rep.int_inv {i : Int} (r : Rep X h v (.int i)) : ∃ t, v = .int i t := by cases r with | int _ t => exact ⟨t, rfl⟩
theorem Rep.obj_inv {a : Addr} (r : Rep X h v (.obj a)) : v = .ref a := by cases r; rfl
end
/-- a datum stays: X may grow by addresses that are new, objects off O ⊆ X are kept -/
theorem go_ok {X X' O : Addr → Prop} {h h' : Heap} (hx : ∀ b, X' b → X b ∨ h.get? b = none) (ho : ∀ b, O b → X b) (k : KeepsOff O h h') (b : Addr) (o : Obj) (n : ¬ X b) (e : h.get? b = some o) (_ : ∀ es ep, o.data ≠ .dict es ep) : ¬ X' b ∧ h'.get? b = some o :=
  ⟨fun z => (hx b z).elim n fun l => (nomatch l.symm.trans e), k b o (fun z => n (ho b z)) e⟩
theorem Rep.go {X X' O : Addr → Prop} {h h' : Heap} (hx : ∀ b, X' b → X b ∨ h.get? b = Option.none) (ho : ∀ b, O b → X b) (k : KeepsOff O h h') {v : Value} {d : D} (r : Rep X h v d) : Rep X' h' v d := r.map (go_ok hx ho k)
theorem Reps.go {X X' O : Addr → Prop} {h h' : Heap} (hx : ∀ b, X' b → X b ∨ h.get? b = Option.none) (ho : ∀ b, O b → X b) (k : KeepsOff O h h') {vs : List Value} {ds : List D} (r : Reps X h vs ds) : Reps X' h' vs ds := r.map (go_ok hx ho k)

section
variable {X : Addr → Prop} {h : Heap} {v : Value} {d : D} {vs ws : List Value} {ds es : List D}
theorem Reps.length (r : Reps X h vs ds) : vs.length = ds.length := by
  induction vs generalizing ds with
  | nil => cases r; rfl
  | cons v vs ih => cases r with | cons _ r => rw [List.length_cons, List.length_cons, ih r]
theorem Reps.append (r : Reps X h vs ds) (q : Reps X h ws es) : Reps X h (vs ++ ws) (ds ++ es) := by
  induction vs generalizing ds with
  | nil => cases r; exact q
  | cons v vs ih => cases r with | cons a r => exact .cons a (ih r)
theorem Reps.one (r : Rep X h v d) : Reps X h [v] [d] := .cons r .nil
theorem Reps.get (r : Reps X h vs ds) {k : Nat} {d : D} (hk : ds[k]? = some d) : ∃ v, vs[k]? = some v ∧ Rep X h v d := by
  induction vs generalizing ds k with
  | nil => cases r; simp at hk
  | cons v vs ih =>
    cases r with
    | cons a r =>
      cases k with
      | zero => simp at hk; subst hk; exact ⟨v, rfl, a⟩
      | succ k => exact ih r (by simpa using hk)
theorem Reps.get' (r : Reps X h vs ds) {k : Nat} {v : Value} (hk : vs[k]? = some v) : ∃ d, ds[k]? = some d ∧ Rep X h v d := by
  induction vs generalizing ds k with
  | nil => simp at hk
  | cons w vs ih =>
    cases r with
    | cons a r =>
      cases k with
      | zero => simp at hk; subst hk; exact ⟨_, rfl, a⟩
      | succ k => exact ih r (by simpa using hk)
theorem Reps.take (r : Reps X h vs ds) (k : Nat) : Reps X h (vs.take k) (ds.take k) := by
  induction vs generalizing ds k with
  | nil => cases r; simp; exact .nil
  | cons v vs ih =>
    cases r with
    | cons a r =>
      cases k with
      | zero => exact .nil
      | succ k => exact .cons a (ih r k)
theorem Reps.drop (r : Reps X h vs ds) (k : Nat) : Reps X h (vs.drop k) (ds.drop k) := by
  induction vs generalizing ds k with
  | nil => cases r; simp; exact .nil
  | cons v vs ih =>
    cases r with
    | cons a r =>
      cases k with
      | zero => exact .cons a r
      | succ k => exact ih r k
theorem Reps.reverse (r : Reps X h vs ds) : Reps X h vs.reverse ds.reverse := by
  induction vs generalizing ds with
  | nil => cases r; exact .nil
  | cons v vs ih => cases r with | cons a r => rw [List.reverse_cons, List.reverse_cons]; exact (ih r).append (.one a)
theorem Reps.replicate (r : Rep X h v d) (n : Nat) : Reps X h (List.replicate n v) (List.replicate n d) := by
  induction n with
  | zero => exact .nil
  | succ n ih => exact .cons r ih
theorem Reps.snoc_inv (r : Reps X h vs (ds ++ [d])) : ∃ ws v, vs = ws ++ [v] ∧ Reps X h ws ds ∧ Rep X h v d := by
  induction ds generalizing vs with
  | nil => cases r with | cons a r => cases r; exact ⟨[], _, rfl, .nil, a⟩
  | cons e ds ih =>
    cases r with
    | cons a r =>
      obtain ⟨ws, v, rfl, h1, h2⟩ := ih r
      exact ⟨_ :: ws, v, rfl, .cons a h1, h2⟩
theorem Reps.ints {ns : List Int} (r : Reps X h vs (ns.map D.int)) : IntsAre vs ns := by
  induction ns generalizing vs with
  | nil => cases r; exact .nil
  | cons n ns ih => cases r with | cons a r => cases a; exact .cons _ _ (ih r)
theorem Rep.weaken {X' : Addr → Prop} (r : Rep X h v d) (hs : ∀ b, X' b → X b) : Rep X' h v d := r.go (fun b z => .inl (hs b z)) (O := X) (fun _ z => z) .refl
theorem Reps.weaken {X' : Addr → Prop} (r : Reps X h vs ds) (hs : ∀ b, X' b → X b) : Reps X' h vs ds := r.go (fun b z => .inl (hs b z)) (O := X) (fun _ z => z) .refl
end

/-- what stays the same through the whole law -/
structure GC where
  prog : Program
  w : World
  h₀ : Heap
  W : Addr → Prop
  J : Heap → Prop
  gens : Array GenState
  os : OsState
  mg : Str → Option Value
  mb : Str → Option Value

def fnTable : List (Str × Arguments × List Stmt × Scope) :=
  PySem.Challenge.pw_xm0578_01.main.body.filterMap fun
    | .FunctionDef name args body _ _ _ scope _ _ _ => some (name, args, body, scope)
    | _ => none

structure FnIs (G : GC) (a : Addr) (f : Str) (params : Arguments) (body : List Stmt) (scope : Scope) : Prop where
  mg : G.mg f = some (.ref a)
  fn : ∃ o pm code doc, G.h₀.get? a = some o ∧ o.data = .func (Calls.docDef f params body scope pm code doc) ∧ G.h₀.CodeRec code f

structure GOk (G : GC) : Prop where
  g : G.h₀.Ns mainGlobals G.mg
  b : G.h₀.Ns builtinsNs G.mb
  nolimit : G.h₀.NoLimit
  fn : ∀ e ∈ fnTable, ∃ a, FnIs G a e.1 e.2.1 e.2.2.1 e.2.2.2
  miss : ∀ x ∈ ([Str.ofString "len", Str.ofString "max", Str.ofString "range", Str.ofString "sorted", Str.ofString "list", Str.ofString "tuple", Str.ofString "zip"] : List Str), G.mg x = none
  builtins : ∀ x ∈ ([Str.ofString "len", Str.ofString "max", Str.ofString "range", Str.ofString "sorted", Str.ofString "list", Str.ofString "tuple", Str.ofString "zip"] : List Str), G.mb x = bootBuiltins x
  jk : ∀ h h', G.J h → (∀ b o, G.W b → h.get? b = some o → h'.get? b = some o) → G.J h'
  w0 : ∀ b, G.W b → G.h₀.get? b = none

structure Wd (G : GC) (s : Shared) : Prop where
  base : ∀ b o, G.h₀.get? b = some o → s.heap.get? b = some o
  gens : s.gens = G.gens
  os : s.os = G.os
  j : G.J s.heap

inductive MObj where
  | list (ds : List D)
  | keys (ks : List Int)

def slotOf (env : Env) (x : Str) : Option (Option Addr) :=
  match env.kindOf x with
  | some .local => some none
  | some .cell => (env.cells.lookup x).map some
  | _ => none

def Holds (env : Env) (h : Heap) (x : Str) (v : Value) : Prop :=
  match slotOf env x with
  | some none => ∃ m, h.Ns env.locals m ∧ m x = some v
  | some (some c) => h.IsCell c (some v)
  | none => False

structure Cx where
  G : GC
  env : Env
  A : Around
  X : Addr → Prop
  O : Addr → Prop
  k : Nat

structure AS where
  loc : List (Str × D)
  mu : List (Addr × MObj)

def AS.key (σ : AS) (b : Addr) : Prop := b ∈ σ.mu.map Prod.fst
structure EnvIs (C : Cx) (scope : Scope) : Prop where
  sc : C.env.scope = scope
  cells : ∀ x, scope.names.lookup x = some .cell → ∃ c, C.env.cells.lookup x = some c
def off (C : Cx) (σ : AS) (b : Addr) : Prop := C.X b ∨ σ.key b
def own (C : Cx) (σ : AS) (b : Addr) : Prop := C.O b ∨ σ.key b

structure CxOk (C : Cx) : Prop where
  G : GOk C.G
  kind : C.env.scope.kind = .function
  glob : C.env.globals = mainGlobals
  blt : C.env.builtins = builtinsNs
  LO : C.O C.env.locals
  OX : ∀ b, C.O b → C.X b
  WO : ∀ b, C.G.W b → C.O b
  O0 : ∀ b, C.O b → C.G.h₀.get? b = none
  apart1 : ∀ n c, C.env.cells.lookup n = some c → c ≠ C.env.locals
  apart2 : ∀ n n' c, C.env.cells.lookup n = some c → C.env.cells.lookup n' = some c → n = n'
  notW : ∀ b, C.G.W b → b ≠ C.env.locals ∧ ∀ n, C.env.cells.lookup n ≠ some b
  handled : C.A.handled = none
  room : C.A.depth + C.k < recursionLimit
  units : C.A.units + 200 + 8 * C.k < cLine
  cellsX : ∀ n c, C.env.cells.lookup n = some c → C.X c

def MRep (G : GC) (X : Addr → Prop) (h : Heap) (p : Addr) : MObj → Prop
  | .list ds => ∃ vs, h.PlainList p vs.toArray ∧ Reps X h vs ds
  | .keys ks => ∃ kvs, h.DictOf (intKind G.prog G.w) p kvs ∧ kvs.map (·.1) = ks ∧ p ≠ sysModules

theorem MRep.go {G : GC} {X X' O : Addr → Prop} {h h' : Heap} {p : Addr} {o : MObj} (hx : ∀ b, X' b → X b ∨ h.get? b = none) (ho : ∀ b, O b → X b) (k : KeepsOff O h h')
    (n : ∀ o, h.get? p = some o → h'.get? p = some o) (m : MRep G X h p o) : MRep G X' h' p o := by
  cases o with
  | list ds => obtain ⟨vs, ⟨m, hq⟩, r⟩ := m; exact ⟨vs, ⟨m, n _ hq⟩, r.go hx ho k⟩
  | keys ks => obtain ⟨kvs, ⟨o, es, ep, e, r⟩, q⟩ := m; exact ⟨kvs, ⟨o, es, ep, n _ e, r⟩, q⟩
theorem MRep.some {G : GC} {X : Addr → Prop} {h : Heap} {p : Addr} {o : MObj} (m : MRep G X h p o) : ∃ o, h.get? p = some o := by
  cases o with
  | list ds => obtain ⟨vs, ⟨m, hq⟩, r⟩ := m; exact ⟨_, hq⟩
  | keys ks => obtain ⟨kvs, ⟨o, es, ep, e, r⟩, q⟩ := m; exact ⟨_, e⟩

structure St (C : Cx) (σ : AS) (s : Shared) : Prop where
  wd : Wd C.G s
  xb : ∀ b, C.X b → ∃ o, s.heap.get? b = some o
  ns : ∃ m, s.heap.Ns C.env.locals m
  cells : ∀ n c, C.env.cells.lookup n = some c → ∃ v, s.heap.IsCell c v
  loc : ∀ x d, σ.loc.lookup x = some d → ∃ v, Holds C.env s.heap x v ∧ Rep (off C σ) s.heap v d
  mu : ∀ p o, (p, o) ∈ σ.mu → MRep C.G (off C σ) s.heap p o ∧ ¬ C.X p
  nd : (σ.mu.map Prod.fst).Nodup
  m0 : ∀ p o, (p, o) ∈ σ.mu → C.G.h₀.get? p = none

structure Tr (C : Cx) (σ : AS) (s : Shared) (σ' : AS) (s' : Shared) : Prop where
  keep : KeepsOff (own C σ) s.heap s'.heap
  ex : ∀ b o, s.heap.get? b = some o → ∃ o', s'.heap.get? b = some o'
  new : ∀ p, σ'.key p → σ.key p ∨ s.heap.get? p = none

section
variable {C : Cx} {σ σ' σ'' : AS} {s s' s'' : Shared} {v : Value} {d : D} {vs : List Value} {ds : List D}
theorem Tr.refl : Tr C σ s σ s := ⟨.refl, fun _ o e => ⟨o, e⟩, fun _ h => .inl h⟩
theorem Tr.back (x : ∀ b o, s.heap.get? b = some o → ∃ o', s'.heap.get? b = some o') {p : Addr} (l : s'.heap.get? p = none) : s.heap.get? p = none := by
  cases e : s.heap.get? p with
  | none => rfl
  | some o => obtain ⟨o', e'⟩ := x p o e; rw [l] at e'; cases e'
theorem Tr.trans (x : Tr C σ s σ' s') (y : Tr C σ' s' σ'' s'') : Tr C σ s σ'' s'' where
  keep b o n e := y.keep b o (fun z => z.elim (fun z => n (.inl z)) fun z => (x.new b z).elim (fun z => n (.inr z)) fun l => by rw [l] at e; cases e) (x.keep b o n e)
  ex b o e := let ⟨o', e'⟩ := x.ex b o e; y.ex b o' e'
  new p h := (y.new p h).elim (fun h => x.new p h) fun l => .inr (Tr.back x.ex l)
theorem own_off (K : CxOk C) : ∀ b, own C σ b → off C σ b := fun b h => h.imp (K.OX b) id
theorem Tr.rep (K : CxOk C) (t : Tr C σ s σ' s') (r : Rep (off C σ) s.heap v d) : Rep (off C σ') s'.heap v d :=
  r.go (fun b z => z.elim (fun z => .inl (.inl z)) fun z => (t.new b z).imp .inr id) (own_off K) t.keep
theorem Tr.reps (K : CxOk C) (t : Tr C σ s σ' s') (r : Reps (off C σ) s.heap vs ds) : Reps (off C σ') s'.heap vs ds :=
  r.go (fun b z => z.elim (fun z => .inl (.inl z)) fun z => (t.new b z).imp .inr id) (own_off K) t.keep
end
end

section
abbrev Mo (C : Cx) : Model := model C.G.prog C.G.w

def TvD (C : Cx) (t : Sem Value) (σ : AS) (Φ : D → AS → Prop) : Prop :=
  ∀ s (Q : Value → Shared → Prop) E, St C σ s →
    (∀ v d σ' s', Φ d σ' → St C σ' s' → Rep (off C σ') s'.heap v d → Tr C σ s σ' s' → Q v s') → wpAny (Mo C) C.A t Q E s
def TsD (C : Cx) (t : Sem (List Value)) (σ : AS) (Φ : List D → AS → Prop) : Prop :=
  ∀ s (Q : List Value → Shared → Prop) E, St C σ s →
    (∀ v d σ' s', Φ d σ' → St C σ' s' → Reps (off C σ') s'.heap v d → Tr C σ s σ' s' → Q v s') → wpAny (Mo C) C.A t Q E s
def TbD (C : Cx) (t : Sem Bool) (σ : AS) (Φ : Bool → AS → Prop) : Prop :=
  ∀ s (Q : Bool → Shared → Prop) E, St C σ s →
    (∀ b σ' s', Φ b σ' → St C σ' s' → Tr C σ s σ' s' → Q b s') → wpAny (Mo C) C.A t Q E s
def TuD (C : Cx) (t : Sem Unit) (σ : AS) (Φ : AS → Prop) : Prop :=
  ∀ s (Q : Unit → Shared → Prop) E, St C σ s →
    (∀ σ' s', Φ σ' → St C σ' s' → Tr C σ s σ' s' → Q () s') → wpAny (Mo C) C.A t Q E s
inductive FlowD where
  | next | brk | cont
  | ret (d : D)
inductive FRep (X : Addr → Prop) (h : Heap) : Flow → FlowD → Prop
  | next : FRep X h .next .next
  | brk : FRep X h .brk .brk
  | cont : FRep X h .cont .cont
  | ret {v d} : Rep X h v d → FRep X h (.ret v) (.ret d)
def TfD (C : Cx) (t : Sem Flow) (σ : AS) (Φ : FlowD → AS → Prop) : Prop :=
  ∀ s (Q : Flow → Shared → Prop) E, St C σ s →
    (∀ f d σ' s', Φ d σ' → St C σ' s' → FRep (off C σ') s'.heap f d → Tr C σ s σ' s' → Q f s') → wpAny (Mo C) C.A t Q E s

abbrev EvD (C : Cx) (e : Expr) (σ : AS) (Φ : D → AS → Prop) : Prop := TvD C (eval e C.env) σ Φ
abbrev TsE (C : Cx) (es : List Expr) (pos : Pos) (σ : AS) (Φ : List D → AS → Prop) : Prop := TsD C (spliced (backTo pos (starEach es C.env))) σ Φ
abbrev BvD (C : Cx) (e : Expr) (σ : AS) (Φ : Bool → AS → Prop) : Prop := TbD C (isTrue e C.env (eval e C.env)) σ Φ
abbrev XsD (C : Cx) (b : List Stmt) (σ : AS) (Φ : FlowD → AS → Prop) : Prop := TfD C (execs b C.env) σ Φ
abbrev XD (C : Cx) (b : Stmt) (σ : AS) (Φ : FlowD → AS → Prop) : Prop := TfD C (exec b C.env) σ Φ

section
variable {C : Cx} {σ σ' : AS} {s s' : Shared} {v w : Value} {d e : D} {Φ Ψ : D → AS → Prop} {h h' : Heap} {x : Str}

theorem TvD.mono {t : Sem Value} (H : TvD C t σ Ψ) (hm : ∀ d σ', Ψ d σ' → Φ d σ') : TvD C t σ Φ :=
  fun s Q E S k => H s Q E S fun v d σ' s' p => k v d σ' s' (hm _ _ p)
theorem TbD.mono {t : Sem Bool} {Φ Ψ : Bool → AS → Prop} (H : TbD C t σ Ψ) (hm : ∀ d σ', Ψ d σ' → Φ d σ') : TbD C t σ Φ :=
  fun s Q E S k => H s Q E S fun d σ' s' p => k d σ' s' (hm _ _ p)
theorem TfD.mono {t : Sem Flow} {Φ Ψ : FlowD → AS → Prop} (H : TfD C t σ Ψ) (hm : ∀ d σ', Ψ d σ' → Φ d σ') : TfD C t σ Φ :=
  fun s Q E S k => H s Q E S fun v d σ' s' p => k v d σ' s' (hm _ _ p)

theorem Holds.keep {env : Env} {O : Addr → Prop} (k : KeepsOff O h h') (hs : ∀ y, slotOf env x = some y → ¬ O (y.getD env.locals)) (H : Holds env h x v) : Holds env h' x v := by
  unfold Holds at H ⊢
  cases e : slotOf env x with
  | none => rw [e] at H; exact H
  | some y =>
    rw [e] at H
    have n := hs y e
    cases y with
    | none => obtain ⟨m, ⟨o, es, ep, q, r⟩, hm⟩ := H; exact ⟨m, ⟨o, es, ep, k _ _ n q, r⟩, hm⟩
    | some c => obtain ⟨o, q, r⟩ := H; exact ⟨o, k _ _ n q, r⟩
theorem Holds.all {env : Env} (k : ∀ b o, h.get? b = some o → h'.get? b = some o) (H : Holds env h x v) : Holds env h' x v :=
  H.keep (O := fun _ => False) (fun b o _ e => k b o e) fun _ _ z => z

theorem PlainList.keep {O : Addr → Prop} {p : Addr} {l : Array Value} (k : KeepsOff O h h') (n : ¬ O p) (H : h.PlainList p l) : h'.PlainList p l := by
  obtain ⟨m, q⟩ := H; exact ⟨m, k _ _ n q⟩

/-- everything in the heap is kept -/
theorem St.grow (S : St C σ s) (K : CxOk C) (k : ∀ b o, s.heap.get? b = some o → h'.get? b = some o) (tk : Nat) : St C σ { s with heap := h', toks := tk } where
  wd := ⟨fun b o e => k _ _ (S.wd.base b o e), S.wd.gens, S.wd.os, K.G.jk _ _ S.wd.j fun b o _ e => k b o e⟩
  xb b z := let ⟨o, e⟩ := S.xb b z; ⟨o, k _ _ e⟩
  ns := let ⟨m, n⟩ := S.ns; ⟨m, n.keeps k⟩
  cells n c z := let ⟨u, q⟩ := S.cells n c z; ⟨u, q.keeps k⟩
  loc y d z := let ⟨u, q, r⟩ := S.loc y d z; ⟨u, q.all k, r.go (O := fun _ => False) (fun _ z => .inl z) (fun _ z => z.elim) (.of_all k)⟩
  mu p o z := by
    obtain ⟨q, n⟩ := S.mu p o z
    exact ⟨q.go (O := fun _ => False) (fun _ z => .inl z) (fun _ z => z.elim) (.of_all k) (fun o e => k _ o e), n⟩
  nd := S.nd
  m0 := S.m0
theorem Tr.grow {h' : Heap} (k : ∀ b o, s.heap.get? b = some o → h'.get? b = some o) (tk : Nat) : Tr C σ s σ { s with heap := h', toks := tk } :=
  ⟨.of_all k, fun b o e => ⟨o, k b o e⟩, fun _ z => .inl z⟩
theorem St.tok (S : St C σ s) (K : CxOk C) (tk : Nat) : St C σ { s with toks := tk } := S.grow (h' := s.heap) K (fun _ _ e => e) tk
theorem Tr.tok (tk : Nat) : Tr C σ s σ { s with toks := tk } := Tr.grow (h' := s.heap) (fun _ _ e => e) tk
theorem Rep.tok {X : Addr → Prop} (r : Rep X h v d) (k : ∀ b o, h.get? b = some o → h'.get? b = some o) : Rep X h' v d :=
  r.go (O := fun _ => False) (fun _ z => .inl z) (fun _ z => z.elim) (.of_all k)
theorem Reps.tok {X : Addr → Prop} {vs : List Value} {ds : List D} (r : Reps X h vs ds) (k : ∀ b o, h.get? b = some o → h'.get? b = some o) : Reps X h' vs ds :=
  r.go (O := fun _ => False) (fun _ z => .inl z) (fun _ z => z.elim) (.of_all k)

theorem St.off_some (S : St C σ s) {b : Addr} (z : off C σ b) : ∃ o, s.heap.get? b = some o := by
  rcases z with z | z
  · exact S.xb b z
  · obtain ⟨⟨p, o⟩, hm, rfl⟩ := List.mem_map.mp z
    exact (S.mu p o hm).1.some
theorem fresh_get (h : Heap) : h.get? h.objs.size = none := by
  cases e : h.get? h.objs.size with
  | none => rfl
  | some o => exact absurd (Heap.lt_size e) (Nat.lt_irrefl _)
theorem St.fresh_off (S : St C σ s) : ¬ off C σ s.heap.objs.size := fun z => by
  obtain ⟨o, e⟩ := S.off_some z
  rw [fresh_get] at e; cases e

theorem push_k (h : Heap) (o' : Obj) : ∀ b o, h.get? b = some o → (h.push o').get? b = some o := fun _ _ e => Heap.get?_push_of_some _ e

/-- a weaker state -/
def SubL : List (Str × D) → List (Str × D) → Prop
  | [], _ => True
  | (x, d) :: r, l => l.lookup x = some d ∧ SubL r l
theorem SubL.of : ∀ {l l' : List (Str × D)}, (l.map fun p => l'.lookup p.1) = (l.map fun p => some p.2) → SubL l l'
  | [], _, _ => trivial
  | (x, d) :: r, l', h => ⟨(List.cons.inj h).1, SubL.of (List.cons.inj h).2⟩
theorem toNat_le {l : Nat} {n : Int} {k : Nat} (e : l = (n - 0).toNat) (h : n < k) : l ≤ k := by omega
theorem br_t {b : Bool} {A B : Prop} (e : b = true) (h : A) : (b = true → A) ∧ (b = false → B) := ⟨fun _ => h, fun n => Bool.noConfusion (e.symm.trans n)⟩
theorem br_f {b : Bool} {A B : Prop} (e : b = false) (h : B) : (b = true → A) ∧ (b = false → B) := ⟨fun n => Bool.noConfusion (e.symm.trans n), fun _ => h⟩
theorem len_ok {α : Type} {l : List α} {A : Prop} (h : Nat.ble l.length 1000 = true) (H : A) : l.length ≤ sizeLine ∧ A := ⟨Nat.le_trans (Nat.le_of_ble_eq_true h) (by decide), H⟩
theorem SubL.get {l l' : List (Str × D)} {x : Str} {d : D} (H : SubL l l') (h : l.lookup x = some d) : l'.lookup x = some d := by
  induction l with
  | nil => cases h
  | cons p r ih =>
    rw [List.lookup_cons] at h
    cases q : x == p.1 with
    | true => rw [q] at h; cases h; rw [eq_of_beq q]; exact H.1
    | false => rw [q] at h; exact ih H.2 h
theorem St.sub {l : List (Str × D)} (S : St C σ s) (hl : SubL l σ.loc) : St C ⟨l, σ.mu⟩ s :=
  ⟨S.wd, S.xb, S.ns, S.cells, fun x d z => S.loc x d (SubL.get hl z), S.mu, S.nd, S.m0⟩
end
end

section
section
variable {C : Cx} {σ σ' : AS} {s s' : Shared} {v w : Value} {d e : D} {Φ Ψ : D → AS → Prop} {h h' : Heap} {x : Str} {pos p : Pos} {k : Nat}

theorem ev_int {i : Int} (K : CxOk C) (H : Φ (.int i) σ) : EvD C (.Constant (.int i) k pos) σ Φ :=
  fun _ _ _ S q => wpAny_Constant_int (q _ _ _ _ H (S.tok K _) (.int _ _) (.tok _))
theorem ev_str {x : Str} (K : CxOk C) (H : Φ (.str x) σ) : EvD C (.Constant (.str x) k pos) σ Φ :=
  fun _ _ _ S q => wpAny_Constant_str (q _ _ _ _ H (S.tok K _) (.str _ _) (.tok _))
theorem ev_none (H : Φ .none σ) : EvD C (.Constant .none k pos) σ Φ :=
  fun _ _ _ S q => wpAny_Constant_none (q _ _ _ _ H S .none .refl)
theorem ev_bool {b : Bool} (H : Φ (.bool b) σ) : EvD C (.Constant (.bool b) k pos) σ Φ :=
  fun _ _ _ S q => wpAny_Constant_bool (q _ _ _ _ H S (.bool _) .refl)

theorem load_slot {Q : Value → Shared → Prop} {E} {sl : Option Addr} (K : CxOk C) (hs : slotOf C.env x = some sl) (H : Holds C.env s.heap x v) (q : Q v s) : wpAny (Mo C) C.A (loadName C.env x) Q E s := by
  unfold Holds at H
  rw [hs] at H
  unfold slotOf at hs
  cases sl with
  | none =>
    obtain ⟨m, n, hm⟩ := H
    split at hs
    · rename_i hk
      exact wpAny_loadName_local K.kind hk n hm q
    · simp at hs
    · cases hs
  | some c =>
    split at hs
    · cases hs
    · rename_i hk
      obtain ⟨c', hc, e⟩ := Option.map_eq_some_iff.mp hs
      cases e
      exact wpAny_loadName_cell K.kind hk hc H q
    · cases hs

theorem ev_name (K : CxOk C) (hl : σ.loc.lookup x = some d) (H : Φ d σ) (hd : (x == ("__debug__" : Str)) = false := by decide) : EvD C (.Name x pos) σ Φ := by
  intro s Q E S q
  obtain ⟨v, hv, r⟩ := S.loc x d hl
  refine wpAny_Name ?_ hd
  cases hs : slotOf C.env x with
  | none => unfold Holds at hv; rw [hs] at hv; exact hv.elim
  | some sl => exact load_slot K hs hv (q _ _ _ _ H S r .refl)

/-- an operation on two data -/
def BinD (op : Operator) (d e r : D) : Prop :=
  ∀ (C : Cx) (σ : AS) (s : Shared) (Q : Value → Shared → Prop) E (v w : Value), CxOk C → St C σ s → Rep (off C σ) s.heap v d → Rep (off C σ) s.heap w e →
    (∀ u s', St C σ s' → Rep (off C σ) s'.heap u r → Tr C σ s σ s' → Q u s') → wpAny (Mo C) C.A (binaryOp op v w) Q E s
def CmpD (op : CmpOp) (d e : D) (r : Bool) : Prop :=
  ∀ (C : Cx) (σ : AS) (s : Shared) (Q : Value → Shared → Prop) E (v w : Value), CxOk C → St C σ s → Rep (off C σ) s.heap v d → Rep (off C σ) s.heap w e →
    (∀ s', St C σ s' → Tr C σ s σ s' → Q (.bool r) s') → wpAny (Mo C) C.A (compareOp op v w) Q E s

inductive binK2 (op : Operator) (d : D) (Φ : D → AS → Prop) (e : D) (σ : AS) : Prop
  | mk (f : D) (h : BinD op d e f) (H : Φ f σ)
abbrev binK (C : Cx) (op : Operator) (r : Expr) (Φ : D → AS → Prop) : D → AS → Prop := fun d σ₁ => EvD C r σ₁ (binK2 op d Φ)
abbrev cmpV (Φ : D → AS → Prop) : Bool → AS → Prop := fun b σ => Φ (.bool b) σ
inductive cmpK2 (op : CmpOp) (d : D) (Φ : Bool → AS → Prop) (e : D) (σ : AS) : Prop
  | mk (b : Bool) (h : CmpD op d e b) (H : Φ b σ)
abbrev notK (Φ : Bool → AS → Prop) : Bool → AS → Prop := fun b σ₁ => Φ (!b) σ₁
abbrev ifeK (C : Cx) (a b : Expr) (Φ : D → AS → Prop) : Bool → AS → Prop := fun c σ₁ => (c = true → EvD C a σ₁ Φ) ∧ (c = false → EvD C b σ₁ Φ)
abbrev andK (C : Cx) (r : List Expr) (Φ : Bool → AS → Prop) : Bool → AS → Prop := fun b σ₁ => (b = true → TbD C (allTrue .And r C.env) σ₁ Φ) ∧ (b = false → Φ false σ₁)
abbrev orK (C : Cx) (r : List Expr) (Φ : Bool → AS → Prop) : Bool → AS → Prop := fun b σ₁ => (b = true → Φ true σ₁) ∧ (b = false → TbD C (allTrue .Or r C.env) σ₁ Φ)
abbrev cmpK (C : Cx) (op : CmpOp) (r : Expr) (Φ : Bool → AS → Prop) : D → AS → Prop := fun d σ₁ => EvD C r σ₁ (cmpK2 op d Φ)
theorem ev_bin {op : Operator} {l r : Expr} (K : CxOk C) (H : EvD C l σ (binK C op r Φ)) : EvD C (.BinOp l op r pos) σ Φ := by
  intro s Q E S q
  refine wpAny_BinOp (H s _ _ S fun v d σ₁ s₁ h₁ S₁ r₁ t₁ => h₁ s₁ _ _ S₁ fun w e σ₂ s₂ h₂ S₂ r₂ t₂ => ?_)
  obtain ⟨f, B, hf⟩ := h₂
  exact B C σ₂ s₂ Q E v w K S₂ (t₂.rep K r₁) r₂ fun u s₃ S₃ r₃ t₃ => q _ _ _ _ hf S₃ r₃ ((t₁.trans t₂).trans t₃)

theorem ev_cmp {op : CmpOp} {l r : Expr} (K : CxOk C) (H : EvD C l σ (cmpK C op r (cmpV Φ)))
    (hm : behindInMarks op r = false := by with_unfolding_all rfl) : EvD C (.Compare l [op] [r] pos) σ Φ := by
  intro s Q E S q
  refine wpAny_Compare1 (H s _ _ S fun v d σ₁ s₁ h₁ S₁ r₁ t₁ => h₁ s₁ _ _ S₁ fun w e σ₂ s₂ h₂ S₂ r₂ t₂ => ?_) hm
  obtain ⟨b, B, hf⟩ := h₂
  exact B C σ₂ s₂ Q E v w K S₂ (t₂.rep K r₁) r₂ fun s₃ S₃ t₃ => q _ _ _ _ hf S₃ (.bool _) ((t₁.trans t₂).trans t₃)

theorem bv_cmp {op : CmpOp} {l r : Expr} {Φ : Bool → AS → Prop} (K : CxOk C) (H : EvD C l σ (cmpK C op r Φ))
    (hm : behindInMarks op r = false := by with_unfolding_all rfl) : BvD C (.Compare l [op] [r] pos) σ Φ := by
  intro s Q E S q
  refine wpAny_isTrue_Compare1 (H s _ _ S fun v d σ₁ s₁ h₁ S₁ r₁ t₁ => h₁ s₁ _ _ S₁ fun w e σ₂ s₂ h₂ S₂ r₂ t₂ => ?_) hm
  obtain ⟨b, B, hf⟩ := h₂
  exact B C σ₂ s₂ _ E v w K S₂ (t₂.rep K r₁) r₂ fun s₃ S₃ t₃ => wpAny_truthy_bool (q _ _ _ hf S₃ ((t₁.trans t₂).trans t₃))

theorem bv_not {y : Expr} {Φ : Bool → AS → Prop} (H : BvD C y σ (notK Φ)) : BvD C (.UnaryOp .Not y pos) σ Φ := by
  intro s Q E S q
  exact wpAny_isTrue_Not (H s _ _ S fun b σ₁ s₁ h₁ S₁ t₁ => q _ _ _ h₁ S₁ t₁)

theorem ev_neg {i : Int} {y : Expr} (K : CxOk C) (H : EvD C y σ fun d σ₁ => ∃ i, d = .int i ∧ Φ (.int (-i)) σ₁) : EvD C (.UnaryOp .USub y pos) σ Φ := by
  intro s Q E S q
  refine wpAny_UnaryOp (H s _ _ S fun v d σ₁ s₁ h₁ S₁ r₁ t₁ => ?_)
  obtain ⟨i, rfl, hf⟩ := h₁
  cases r₁
  exact PySem.P.neg_int (q _ _ _ _ hf (S₁.tok K _) (.int _ _) (t₁.trans (.tok _)))

theorem ev_if {t a b : Expr} (H : BvD C t σ (ifeK C a b Φ)) : EvD C (.IfExp t a b pos) σ Φ := by
  intro s Q E S q
  refine wpAny_IfExp (H s _ _ S fun c σ₁ s₁ h₁ S₁ t₁ => ?_)
  cases c with
  | true => rw [if_pos rfl]; exact h₁.1 rfl s₁ Q E S₁ fun v d σ₂ s₂ p S₂ r₂ t₂ => q v d σ₂ s₂ p S₂ r₂ (t₁.trans t₂)
  | false => rw [if_neg (by decide)]; exact h₁.2 rfl s₁ Q E S₁ fun v d σ₂ s₂ p S₂ r₂ t₂ => q v d σ₂ s₂ p S₂ r₂ (t₁.trans t₂)

/-- a bool's truth as a test's -/
theorem bv_value {y : Expr} {Φ : Bool → AS → Prop} (H : EvD C y σ fun d σ₁ => ∃ b, d = .bool b ∧ Φ b σ₁)
    (he : isTrue y C.env (eval y C.env) = (do let v ← eval y C.env; standAt y.pos; holding [v] (truthy v)) := by with_unfolding_all rfl) : BvD C y σ Φ := by
  intro s Q E S q
  refine wpAny_isTrue_value (H s _ _ S fun v d σ₁ s₁ h₁ S₁ r₁ t₁ => ?_) he
  obtain ⟨b, rfl, hf⟩ := h₁
  cases r₁
  exact wpAny_truthy_bool (q _ _ _ hf S₁ t₁)

theorem ev_and {a b : Expr} (H : EvD C a σ fun d σ₁ => ∃ c, d = .bool c ∧ (c = true → EvD C b σ₁ Φ) ∧ (c = false → Φ (.bool false) σ₁)) : EvD C (.BoolOp .And [a, b] pos) σ Φ := by
  intro s Q E S q
  refine wpAny_And2 (H s _ _ S fun v d σ₁ s₁ h₁ S₁ r₁ t₁ => ?_)
  obtain ⟨c, rfl, h1, h2⟩ := h₁
  cases r₁
  refine wpAny_truthy_bool ?_
  cases c with
  | true => rw [if_pos rfl]; exact h1 rfl s₁ Q E S₁ fun v d σ₂ s₂ p S₂ r₂ t₂ => q v d σ₂ s₂ p S₂ r₂ (t₁.trans t₂)
  | false => rw [if_neg (by decide)]; exact q _ _ _ _ (h2 rfl) S₁ (.bool _) t₁
theorem ev_or {a b : Expr} (H : EvD C a σ fun d σ₁ => ∃ c, d = .bool c ∧ (c = true → Φ (.bool true) σ₁) ∧ (c = false → EvD C b σ₁ Φ)) : EvD C (.BoolOp .Or [a, b] pos) σ Φ := by
  intro s Q E S q
  refine wpAny_Or2 (H s _ _ S fun v d σ₁ s₁ h₁ S₁ r₁ t₁ => ?_)
  obtain ⟨c, rfl, h1, h2⟩ := h₁
  cases r₁
  refine wpAny_truthy_bool ?_
  cases c with
  | true => rw [if_pos rfl]; exact q _ _ _ _ (h1 rfl) S₁ (.bool _) t₁
  | false => rw [if_neg (by decide)]; exact h2 rfl s₁ Q E S₁ fun v d σ₂ s₂ p S₂ r₂ t₂ => q v d σ₂ s₂ p S₂ r₂ (t₁.trans t₂)
theorem wpAny_And3 {M : Model} {A : Around} {E : Value → Shared → Prop} {s : Shared} {env : Env} {x y z : Expr} {pos : Pos} {Q : Value → Shared → Prop}
    (h : wpAny M A (eval x env) (fun v s₁ => wpAny M A (truthy v) (fun t s₂ => if t then wpAny M A (eval (.BoolOp .And [y, z] pos) env) Q E s₂ else Q v s₂) E s₁) E s) :
    wpAny M A (eval (.BoolOp .And [x, y, z] pos) env) Q E s := by
  show wpAny M A (do let v ← eval x env; standAt pos; let t ← holding [v] (truthy v); match BoolOp.And, t with | .And, false | .Or, true => pure v | _, _ => boolOp pos .And [eval y env, eval z env]) Q E s
  refine wpAny_bind (wpAny_mono h (fun v s₁ h₁ => wpAny_bind (wpAny_standAt (wpAny_bind (wpAny_holding (wpAny_mono h₁ (fun t s₂ h₂ => ?_) fun _ _ x => x))))) fun _ _ x => x)
  cases t with
  | true => exact h₂
  | false => exact wpAny_pure h₂
theorem ev_and3 {a b c : Expr} (H : EvD C a σ fun d σ₁ => ∃ u, d = .bool u ∧ (u = true → EvD C (.BoolOp .And [b, c] pos) σ₁ Φ) ∧ (u = false → Φ (.bool false) σ₁)) : EvD C (.BoolOp .And [a, b, c] pos) σ Φ := by
  intro s Q E S q
  refine wpAny_And3 (H s _ _ S fun v d σ₁ s₁ h₁ S₁ r₁ t₁ => ?_)
  obtain ⟨c, rfl, h1, h2⟩ := h₁
  cases r₁
  refine wpAny_truthy_bool ?_
  cases c with
  | true => rw [if_pos rfl]; exact h1 rfl s₁ Q E S₁ fun v d σ₂ s₂ p S₂ r₂ t₂ => q v d σ₂ s₂ p S₂ r₂ (t₁.trans t₂)
  | false => rw [if_neg (by decide)]; exact q _ _ _ _ (h2 rfl) S₁ (.bool _) t₁

theorem all_nil {Φ : Bool → AS → Prop} {op : BoolOp} (H : Φ (op == .And) σ) : TbD C (allTrue op [] C.env) σ Φ :=
  fun _ _ _ S q => wpAny_pure (q _ _ _ H S .refl)
theorem and_cons {Φ : Bool → AS → Prop} {a : Expr} {r : List Expr} (H : BvD C a σ (andK C r Φ)) : TbD C (allTrue .And (a :: r) C.env) σ Φ := by
  intro s Q E S q
  refine wpAny_allTrue_And_cons (H s _ _ S fun b σ₁ s₁ h₁ S₁ t₁ => ?_)
  cases b with
  | true => rw [if_pos rfl]; exact h₁.1 rfl s₁ Q E S₁ fun d σ₂ s₂ p S₂ t₂ => q d σ₂ s₂ p S₂ (t₁.trans t₂)
  | false => rw [if_neg (by decide)]; exact q _ _ _ (h₁.2 rfl) S₁ t₁
theorem or_cons {Φ : Bool → AS → Prop} {a : Expr} {r : List Expr} (H : BvD C a σ (orK C r Φ)) : TbD C (allTrue .Or (a :: r) C.env) σ Φ := by
  intro s Q E S q
  refine wpAny_allTrue_Or_cons (H s _ _ S fun b σ₁ s₁ h₁ S₁ t₁ => ?_)
  cases b with
  | true => rw [if_pos rfl]; exact q _ _ _ (h₁.1 rfl) S₁ t₁
  | false => rw [if_neg (by decide)]; exact h₁.2 rfl s₁ Q E S₁ fun d σ₂ s₂ p S₂ t₂ => q d σ₂ s₂ p S₂ (t₁.trans t₂)
theorem bv_bool {Φ : Bool → AS → Prop} {op : BoolOp} {es : List Expr} (H : TbD C (allTrue op es C.env) σ Φ) : BvD C (.BoolOp op es pos) σ Φ :=
  fun s Q E S q => wpAny_isTrue_BoolOp (H s Q E S q)

theorem es_nil {Φ : List D → AS → Prop} (H : Φ [] σ) : TsE C [] pos σ Φ := fun _ _ _ S q => wpAny_items_nil (q _ _ _ _ H S .nil .refl)
abbrev esK2 (d : D) (Φ : List D → AS → Prop) : List D → AS → Prop := fun ds σ₂ => Φ (d :: ds) σ₂
abbrev esK (C : Cx) (r : List Expr) (pos : Pos) (Φ : List D → AS → Prop) : D → AS → Prop := fun d σ₁ => TsE C r pos σ₁ (esK2 d Φ)
theorem es_cons {Φ : List D → AS → Prop} {e : Expr} {r : List Expr} (K : CxOk C) (H : EvD C e σ (esK C r pos Φ))
    (he : starEach (e :: r) C.env = (false, eval e C.env) :: starEach r C.env := by with_unfolding_all rfl) : TsE C (e :: r) pos σ Φ := by
  intro s Q E S q
  refine wpAny_items_cons (H s _ _ S fun v d σ₁ s₁ h₁ S₁ r₁ t₁ => h₁ s₁ _ _ S₁ fun vs ds σ₂ s₂ h₂ S₂ r₂ t₂ => ?_) he
  exact q _ _ _ _ h₂ S₂ (.cons (t₂.rep K r₁) r₂) (t₁.trans t₂)

theorem St.new (S : St C σ s) (K : CxOk C) (o : Obj) (tk : Nat) : St C σ { s with heap := s.heap.push o, toks := tk } := S.grow K (push_k _ _) tk

theorem new_tuple (S : St C σ s) {vs : List Value} {ds : List D} (r : Reps (off C σ) s.heap vs ds) : Rep (off C σ) (s.heap.push { cls := .type "tuple", data := .seq vs.toArray }) (.ref s.heap.objs.size) (.tuple ds) :=
  .tuple S.fresh_off ⟨_, Heap.get?_push_size _ rfl, rfl, _, rfl⟩ (r.tok (push_k _ _))
theorem new_list (S : St C σ s) {vs : List Value} {ds : List D} (r : Reps (off C σ) s.heap vs ds) : Rep (off C σ) (s.heap.push { cls := .type "list", data := .seq vs.toArray }) (.ref s.heap.objs.size) (.list ds) :=
  .list S.fresh_off ⟨_, Heap.get?_push_size _ rfl, rfl, _, rfl⟩ (r.tok (push_k _ _))

abbrev tupleK (Φ : D → AS → Prop) : List D → AS → Prop := fun ds σ₁ => ds.length ≤ sizeLine ∧ Φ (.tuple ds) σ₁
abbrev listK (Φ : D → AS → Prop) : List D → AS → Prop := fun ds σ₁ => ds.length ≤ sizeLine ∧ Φ (.list ds) σ₁
theorem ev_tuple {es : List Expr} (K : CxOk C) (H : TsE C es pos σ (tupleK Φ)) : EvD C (.Tuple es k pos) σ Φ := by
  intro s Q E S q
  refine wpAny_Tuple (H s _ _ S fun vs ds σ₁ s₁ h₁ S₁ r₁ t₁ => ⟨r₁.length ▸ h₁.1, ?_⟩)
  exact q _ _ _ _ h₁.2 (S₁.new K _ _) (new_tuple S₁ r₁) (t₁.trans (.grow (push_k _ _) _))
theorem ev_list {es : List Expr} (K : CxOk C) (H : TsE C es pos σ (listK Φ)) : EvD C (.List es pos) σ Φ := by
  intro s Q E S q
  refine wpAny_List (H s _ _ S fun vs ds σ₁ s₁ h₁ S₁ r₁ t₁ => ⟨r₁.length ▸ h₁.1, ?_⟩)
  exact q _ _ _ _ h₁.2 (S₁.new K _ _) (new_list S₁ r₁) (t₁.trans (.grow (push_k _ _) _))
/-- a new empty list that is to be filled: the address is any -/
theorem ev_list_new (K : CxOk C) (H : ∀ p, Φ (.obj p) ⟨σ.loc, (p, .list []) :: σ.mu⟩) : EvD C (.List [] pos) σ Φ := by
  intro s Q E S q
  refine wpAny_List (wpAny_items_nil ⟨Nat.zero_le _, ?_⟩)
  have S' := S.new K { cls := .type "list", data := .seq ([] : List Value).toArray } s.toks
  have nk : ¬ off C σ s.heap.objs.size := S.fresh_off
  have hoff : ∀ b, off C ⟨σ.loc, (s.heap.objs.size, .list []) :: σ.mu⟩ b → off C σ b ∨ s.heap.get? b = none := by
    intro b z
    rcases z with z | z
    · exact .inl (.inl z)
    · simp only [AS.key, List.map_cons, List.mem_cons] at z
      rcases z with rfl | z
      · exact .inr (fresh_get _)
      · exact .inl (.inr z)
  refine q _ _ _ _ (H s.heap.objs.size) ⟨S'.wd, S'.xb, S'.ns, S'.cells, fun x d z => ?_, fun p o z => ?_, ?_, fun p o z => ?_⟩ (.obj _) ⟨.of_all (push_k _ _), fun b o e => ⟨o, push_k _ _ _ _ e⟩, fun p z => ?_⟩
  · obtain ⟨v, hv, r⟩ := S.loc x d z
    exact ⟨v, hv.all (push_k _ _), r.go hoff (O := fun _ => False) (fun _ z => z.elim) (.of_all (push_k _ _))⟩
  · rcases List.mem_cons.mp z with z | z
    · cases z
      exact ⟨⟨[], ⟨_, Heap.get?_push_size _ rfl⟩, .nil⟩, fun z => nk (.inl z)⟩
    · obtain ⟨m, n⟩ := S.mu p o z
      exact ⟨m.go hoff (O := fun _ => False) (fun _ z => z.elim) (.of_all (push_k _ _)) (fun o e => push_k _ _ _ _ e), n⟩
  · simp only [List.map_cons, List.nodup_cons]
    exact ⟨fun z => nk (.inr z), S.nd⟩
  · rcases List.mem_cons.mp z with z | z
    · cases z
      cases e : C.G.h₀.get? s.heap.objs.size with
      | none => rfl
      | some o =>
        have := S.wd.base _ _ e
        rw [fresh_get] at this; cases this
    · exact S.m0 p o z
  · simp only [AS.key, List.map_cons, List.mem_cons] at z
    rcases z with rfl | z
    · exact .inr (fresh_get _)
    · exact .inl z
end
end

section
def allN (h : Heap) (L : Addr) : List (Addr × Obj) := (List.range h.objs.size).filterMap fun a => if a = L then none else (h.get? a).map fun o => (a, o)

theorem allN_mem {h : Heap} {L : Addr} {p : Addr × Obj} : p ∈ allN h L ↔ p.1 ≠ L ∧ h.get? p.1 = some p.2 := by
  unfold allN
  rw [List.mem_filterMap]
  constructor
  · rintro ⟨a, _, e⟩
    by_cases q : a = L
    · rw [if_pos q] at e; cases e
    · rw [if_neg q] at e
      obtain ⟨o, ho, rfl⟩ := Option.map_eq_some_iff.mp e
      exact ⟨q, ho⟩
  · rintro ⟨q, e⟩
    refine ⟨p.1, List.mem_range.mpr (Heap.lt_size e), ?_⟩
    rw [if_neg q, e]; rfl

theorem empty_get (b : Addr) : ({} : Heap).get? b = none := by
  unfold Heap.get?; simp

theorem fr_empty {h : Heap} {L : Addr} {m : Str → Option Value} (n : h.Ns L m) : Fr {} L h m := ⟨n, fun b o e => (by rw [empty_get] at e; cases e), Nat.zero_le _⟩
theorem news_all (h : Heap) (L : Addr) : News {} L h (allN h L) := fun p hp => ⟨(allN_mem.mp hp).2, (allN_mem.mp hp).1, empty_get _⟩

section
variable {C : Cx} {σ σ' : AS} {s s' : Shared} {v w : Value} {d e : D} {Φ Ψ : D → AS → Prop} {h h' : Heap} {x : Str} {pos p : Pos} {k : Nat}

theorem ns_unique {h : Heap} {L : Addr} {m m' : Str → Option Value} (n : h.Ns L m) (n' : h.Ns L m') : m = m' := by
  obtain ⟨o, es, ep, e, d, _, f⟩ := n
  obtain ⟨o', es', ep', e', d', _, f'⟩ := n'
  rw [e] at e'; cases e'
  rw [d] at d'; cases d'
  funext y; rw [← f, ← f']

theorem St.offL (K : CxOk C) : off C σ C.env.locals := .inl (K.OX _ K.LO)

/-- all is kept but the frame's own object, which says the same names -/
theorem St.growL (S : St C σ s) (K : CxOk C) (k : ∀ b o, b ≠ C.env.locals → s.heap.get? b = some o → h'.get? b = some o) (hn : ∀ m, s.heap.Ns C.env.locals m → h'.Ns C.env.locals m) (tk : Nat) :
    St C σ { s with heap := h', toks := tk } where
  wd := ⟨fun b o e => k _ _ (fun q => by have := K.O0 _ K.LO; rw [← q, e] at this; cases this) (S.wd.base b o e), S.wd.gens, S.wd.os, K.G.jk _ _ S.wd.j fun b o w e => k b o (K.notW b w).1 e⟩
  xb b z := by
    by_cases q : b = C.env.locals
    · obtain ⟨m, n⟩ := S.ns
      obtain ⟨o, es, ep, e, _⟩ := hn m n
      exact ⟨o, q ▸ e⟩
    · obtain ⟨o, e⟩ := S.xb b z; exact ⟨o, k _ _ q e⟩
  ns := let ⟨m, n⟩ := S.ns; ⟨m, hn m n⟩
  cells n c z := let ⟨u, ⟨o, e, q⟩⟩ := S.cells n c z; ⟨u, ⟨o, k _ _ (K.apart1 n c z) e, q⟩⟩
  loc y d z := by
    obtain ⟨u, q, r⟩ := S.loc y d z
    refine ⟨u, ?_, r.go (O := (· = C.env.locals)) (fun _ z => .inl z) (fun b e => e ▸ St.offL K) (fun b o n e => k b o n e)⟩
    unfold Holds at q ⊢
    cases hs : slotOf C.env y with
    | none => rw [hs] at q; exact q
    | some sl =>
      rw [hs] at q
      cases sl with
      | none => obtain ⟨m, n, hm⟩ := q; exact ⟨m, hn m n, hm⟩
      | some c =>
        obtain ⟨o, e, q⟩ := q
        refine ⟨o, k _ _ ?_ e, q⟩
        unfold slotOf at hs
        split at hs
        · cases hs
        · obtain ⟨c', hc, e'⟩ := Option.map_eq_some_iff.mp hs
          cases e'
          exact K.apart1 _ _ hc
        · cases hs
  mu p o z := by
    obtain ⟨q, n⟩ := S.mu p o z
    exact ⟨q.go (O := (· = C.env.locals)) (fun _ z => .inl z) (fun b e => e ▸ St.offL K) (fun b o n e => k b o n e) (fun o e => k p o (fun z => n (z ▸ K.OX _ K.LO)) e), n⟩
  nd := S.nd
  m0 := S.m0
theorem Tr.growL (S : St C σ s) (K : CxOk C) (k : ∀ b o, b ≠ C.env.locals → s.heap.get? b = some o → h'.get? b = some o) (hn : ∀ m, s.heap.Ns C.env.locals m → h'.Ns C.env.locals m) (tk : Nat) :
    Tr C σ s σ { s with heap := h', toks := tk } where
  keep b o n e := k b o (fun q => n (q ▸ .inl K.LO)) e
  ex b o e := by
    by_cases q : b = C.env.locals
    · obtain ⟨m, n⟩ := S.ns
      obtain ⟨o, es, ep, e, _⟩ := hn m n
      exact ⟨o, q ▸ e⟩
    · exact ⟨o, k _ _ q e⟩
  new _ z := .inl z

/-- the library's frame and ledger in, and back -/
theorem St.fr (S : St C σ s) : ∃ m, Fr {} C.env.locals s.heap m := let ⟨m, n⟩ := S.ns; ⟨m, fr_empty n⟩
theorem news_keep {m : Str → Option Value} {L : Addr} {extra : List (Addr × Obj)} (N : News {} L h' (extra ++ allN h L)) : ∀ b o, b ≠ L → h.get? b = some o → h'.get? b = some o :=
  fun b o n e => (N (b, o) (List.mem_append_right _ (allN_mem.mpr ⟨n, e⟩))).1
theorem ns_same {m : Str → Option Value} {L : Addr} (F : Fr {} L h m) (F' : Fr {} L h' m) : ∀ m, h.Ns L m → h'.Ns L m := fun m' n => by
  rw [← ns_unique F.ns n]; exact F'.ns
theorem St.back {m : Str → Option Value} (S : St C σ s) (K : CxOk C) (F : Fr {} C.env.locals s.heap m) (F' : Fr {} C.env.locals h' m) (N : News {} C.env.locals h' (allN s.heap C.env.locals)) (tk : Nat) :
    St C σ { s with heap := h', toks := tk } ∧ Tr C σ s σ { s with heap := h', toks := tk } :=
  ⟨S.growL K (news_keep (m := m) (extra := []) N) (ns_same F F') tk, Tr.growL S K (news_keep (m := m) (extra := []) N) (ns_same F F') tk⟩
theorem news_tail {L : Addr} {h₀ : Heap} {e : Addr × Obj} {l : List (Addr × Obj)} (N : News h₀ L h' (e :: l)) : News h₀ L h' l := fun p hp => N p (.tail _ hp)
/-- an object that is new is off nothing -/
theorem St.newoff (S : St C σ s) {a : Addr} (e : s.heap.get? a = none) : ¬ off C σ a := fun z => by
  obtain ⟨o, e'⟩ := S.off_some z
  rw [e] at e'; cases e'
end
end

section
mutual
def toPy : D → PyData
  | .none => .none
  | .bool b => .bool b
  | .int i => .int i
  | .str x => .str x
  | .tuple ds => .tuple (toPys ds)
  | .list ds => .list (toPys ds)
  | .obj _ => .none
  | .rng _ _ => .none
def toPys : List D → List PyData
  | [] => []
  | d :: ds => toPy d :: toPys ds
end
/-- plain data, n deep at the most -/
def fit : Nat → D → Bool
  | _, .none => true
  | _, .bool _ => true
  | _, .int _ => true
  | _, .str x => PyData.strOk x
  | n + 1, .tuple ds => ds.all (fit n)
  | n + 1, .list ds => ds.all (fit n)
  | _, _ => false

theorem toPys_map (ds : List D) : toPys ds = ds.map toPy := by
  induction ds with
  | nil => rfl
  | cons d ds ih => simp [toPys, ih]

theorem rep_reads {X : Addr → Prop} {h : Heap} {v : Value} {d : D} (n : Nat) (r : Rep X h v d) : fit n d = true → ∃ as, Reads h v (toPy d) as :=
  Rep.rec (motive_1 := fun v d _ => ∀ n, fit n d = true → ∃ as, Reads h v (toPy d) as) (motive_2 := fun vs ds _ => ∀ n, (∀ d ∈ ds, fit n d = true) → ∃ as, ReadsAll h vs (toPys ds) as)
    (fun _ _ => ⟨_, Reads.none⟩) (fun b _ _ => ⟨_, Reads.bool b⟩) (fun i t _ _ => ⟨_, Reads.int i t⟩) (fun x t _ _ => ⟨_, Reads.str x t⟩)
    (fun a n q => by cases n <;> cases q) (fun _ _ n q => by cases n <;> cases q)
    (fun _ ⟨o, e, c, m, dd⟩ _ ih n q => by
      cases n with
      | zero => cases q
      | succ n =>
        obtain ⟨as, z⟩ := ih n (List.all_eq_true.mp q)
        exact ⟨as, reads_tuple_at e c dd (by simpa using z)⟩)
    (fun _ ⟨o, e, c, m, dd⟩ _ ih n q => by
      cases n with
      | zero => cases q
      | succ n =>
        obtain ⟨as, z⟩ := ih n (List.all_eq_true.mp q)
        exact ⟨_, reads_list_at e c dd (by simpa using z)⟩)
    (fun _ _ => ⟨_, ReadsAll.nil⟩)
    (fun _ _ h1 h2 n q => by
      obtain ⟨as, z⟩ := h1 n (q _ (.head _))
      obtain ⟨bs, y⟩ := h2 n fun d hd => q d (.tail _ hd)
      exact ⟨_, ReadsAll.cons z y⟩) r n
theorem reps_reads {X : Addr → Prop} {h : Heap} {vs : List Value} {ds : List D} (n : Nat) (r : Reps X h vs ds) (q : ∀ d ∈ ds, fit n d = true) : ∃ as, ReadsAll h vs (toPys ds) as := by
  induction vs generalizing ds with
  | nil => cases r; exact ⟨_, ReadsAll.nil⟩
  | cons v vs ih =>
    cases r with
    | cons a r =>
      obtain ⟨as, z⟩ := rep_reads n a (q _ (.head _))
      obtain ⟨bs, y⟩ := ih r fun d hd => q d (.tail _ hd)
      exact ⟨_, ReadsAll.cons z y⟩
theorem fit_lays : ∀ (n : Nat) (ds : List D), (∀ d, fit n d = true → (toPy d).canLay0 = true ∧ (toPy d).depth ≤ n) → (∀ d ∈ ds, fit n d = true) → PyData.canLayAll0 (toPys ds) = true ∧ PyData.depthAll (toPys ds) ≤ n
  | n, [], _, _ => by simp [toPys, PyData.canLayAll0, PyData.depthAll]
  | n, d :: ds, ih, q => by
    have h1 := ih d (q d (.head _))
    have h2 := fit_lays n ds ih fun e he => q e (.tail _ he)
    simp only [toPys, PyData.canLayAll0, PyData.depthAll, h1.1, h2.1, Bool.and_self, true_and]
    have a1 := h1.2
    have a2 := h2.2
    omega
theorem fit_lay : ∀ (n : Nat) (d : D), fit n d = true → (toPy d).canLay0 = true ∧ (toPy d).depth ≤ n := by
  intro n
  induction n with
  | zero => intro d q; cases d <;> simp_all [fit, toPy, PyData.canLay0, PyData.depth]
  | succ n ih =>
    intro d q
    cases d with
    | tuple ds =>
      have z := fit_lays n ds ih (by simpa [fit] using q)
      have z2 := z.2
      simp only [toPy, PyData.canLay0, PyData.depth, z.1, true_and]
      omega
    | list ds =>
      have z := fit_lays n ds ih (by simpa [fit] using q)
      have z2 := z.2
      simp only [toPy, PyData.canLay0, PyData.depth, z.1, true_and]
      omega
    | _ => simp_all [fit, toPy, PyData.canLay0, PyData.depth]
/-- Python's == of two data -/
def eqD (d e : D) : Bool := PyData.eqv (toPy d) (toPy e)
theorem eqD_refl {d : D} {n : Nat} (q : fit n d = true) : eqD d d = true := SeqAt.eqv_refl _ (fit_lay n d q).1
theorem fit_shaped {n : Nat} {d : D} (q : fit n d = true) (hn : n ≤ 60) : SeqAt.shaped (toPy d) = true := by
  have z := fit_lay n d q
  unfold SeqAt.shaped; rw [z.1, Bool.true_and]
  exact decide_eq_true (Nat.le_trans z.2 (by omega))

section
variable {C : Cx} {σ σ' : AS} {s s' : Shared} {v w : Value} {d e : D} {Φ Ψ : D → AS → Prop} {h h' : Heap} {x : Str} {pos p : Pos} {k : Nat}

theorem cmp_eq {n m : Nat} (hd : fit n d = true) (he : fit m e = true) (hn : n ≤ 60 := by decide) (hm : m ≤ 60 := by decide) : CmpD .Eq d e (eqD d e) := by
  intro C σ s Q E v w K S r q f
  obtain ⟨as, ra⟩ := rep_reads n r hd
  obtain ⟨bs, rb⟩ := rep_reads m q he
  exact eq_dataH ra rb (fit_shaped hd hn) (fit_shaped he hm) (by have := K.units; omega) (f s S .refl)
theorem cmp_ne {n m : Nat} (hd : fit n d = true) (he : fit m e = true) (hn : n ≤ 60 := by decide) (hm : m ≤ 60 := by decide) : CmpD .NotEq d e (!eqD d e) := by
  intro C σ s Q E v w K S r q f
  obtain ⟨as, ra⟩ := rep_reads n r hd
  obtain ⟨bs, rb⟩ := rep_reads m q he
  exact ne_dataH ra rb (fit_shaped hd hn) (fit_shaped he hm) (by have := K.units; omega) (f s S .refl)
theorem cmp_eq_int {a b : Int} : CmpD .Eq (.int a) (.int b) (a == b) := by
  intro C σ s Q E v w K S r q f; cases r; cases q; exact PySem.P.eq_int (f s S .refl)
theorem cmp_lt {a b : Int} : CmpD .Lt (.int a) (.int b) (decide (a < b)) := by
  intro C σ s Q E v w K S r q f; cases r; cases q; exact PySem.P.lt_int (f s S .refl)
theorem cmp_le {a b : Int} : CmpD .LtE (.int a) (.int b) (decide (a ≤ b)) := by
  intro C σ s Q E v w K S r q f; cases r; cases q; exact PySem.P.le_int (f s S .refl)
theorem cmp_gt {a b : Int} : CmpD .Gt (.int a) (.int b) (decide (a > b)) := by
  intro C σ s Q E v w K S r q f; cases r; cases q; exact PySem.P.gt_int (f s S .refl)
theorem cmp_ge {a b : Int} : CmpD .GtE (.int a) (.int b) (decide (a ≥ b)) := by
  intro C σ s Q E v w K S r q f; cases r; cases q; exact PySem.P.ge_int (f s S .refl)
def isNoneD : D → Bool
  | .none => true
  | _ => false
theorem cmp_is : CmpD .Is d .none (isNoneD d) := by
  intro C σ s Q E v w K S r q f
  cases q
  cases r <;> exact wpAny_is_plain rfl (f s S .refl)
theorem cmp_isnot : CmpD .IsNot d .none (!isNoneD d) := by
  intro C σ s Q E v w K S r q f
  cases q
  cases r <;> exact wpAny_isNot_plain rfl (f s S .refl)
theorem cmp_in_list {n m : Nat} {ds : List D} (hd : fit n d = true) (he : ∀ e ∈ ds, fit m e = true) (hn : n ≤ 60 := by decide) (hm : m ≤ 60 := by decide) : CmpD .In d (.list ds) (ds.any fun e => eqD e d) := by
  intro C σ s Q E v w K S r q f
  obtain ⟨as, ra⟩ := rep_reads n r hd
  obtain ⟨bs, rb⟩ := rep_reads (m + 1) q (by simpa [fit] using he)
  have z := fit_lays m ds (fit_lay m) he
  rw [toPy] at rb
  refine SeqAt.in_list_reads rb ra z.1 (fit_lay n d hd).1 ?_ ?_
  · have := K.units
    have := Nat.min_le_left (PyData.depthAll (toPys ds)) (toPy d).depth
    omega
  · rw [toPys_map, List.any_map]; exact f s S .refl
theorem cmp_notin_list {n m : Nat} {ds : List D} (hd : fit n d = true) (he : ∀ e ∈ ds, fit m e = true) (hn : n ≤ 60 := by decide) (hm : m ≤ 60 := by decide) : CmpD .NotIn d (.list ds) (!ds.any fun e => eqD e d) := by
  intro C σ s Q E v w K S r q f
  obtain ⟨as, ra⟩ := rep_reads n r hd
  obtain ⟨bs, rb⟩ := rep_reads (m + 1) q (by simpa [fit] using he)
  have z := fit_lays m ds (fit_lay m) he
  rw [toPy] at rb
  refine SeqAt.notIn_list_reads rb ra z.1 (fit_lay n d hd).1 ?_ ?_
  · have := K.units
    have := Nat.min_le_left (PyData.depthAll (toPys ds)) (toPy d).depth
    omega
  · rw [toPys_map, List.any_map]; exact f s S .refl
theorem cmp_in_tuple {n m : Nat} {ds : List D} (hd : fit n d = true) (he : ∀ e ∈ ds, fit m e = true) (hn : n ≤ 60 := by decide) (hm : m ≤ 60 := by decide) : CmpD .In d (.tuple ds) (ds.any fun e => eqD e d) := by
  intro C σ s Q E v w K S r q f
  obtain ⟨as, ra⟩ := rep_reads n r hd
  obtain ⟨bs, rb⟩ := rep_reads (m + 1) q (by simpa [fit] using he)
  have z := fit_lays m ds (fit_lay m) he
  rw [toPy] at rb
  refine SeqAt.in_tuple_reads rb ra z.1 (fit_lay n d hd).1 ?_ ?_
  · have := K.units
    have := Nat.min_le_left (PyData.depthAll (toPys ds)) (toPy d).depth
    omega
  · rw [toPys_map, List.any_map]; exact f s S .refl

theorem bin_add {a b : Int} : BinD .Add (.int a) (.int b) (.int (a + b)) := by
  intro C σ s Q E v w K S r q f; cases r; cases q; exact PySem.P.add_int (f _ _ (S.tok K _) (.int _ _) (.tok _))
theorem bin_sub {a b : Int} : BinD .Sub (.int a) (.int b) (.int (a - b)) := by
  intro C σ s Q E v w K S r q f; cases r; cases q; exact PySem.P.sub_int (f _ _ (S.tok K _) (.int _ _) (.tok _))
theorem bin_mul {a b : Int} (h1 : -(2 ^ 64) < a) (h2 : a < 2 ^ 64) : BinD .Mult (.int a) (.int b) (.int (a * b)) := by
  intro C σ s Q E v w K S r q f; cases r; cases q; exact PySem.P.mul_int (f _ _ (S.tok K _) (.int _ _) (.tok _)) (.of_left (intBits_le_64 h1 h2))
theorem bin_mod {a b : Int} (hb : b ≠ 0) : BinD .Mod (.int a) (.int b) (.int (a.fmod b)) := by
  intro C σ s Q E v w K S r q f; cases r; cases q; exact mod_int' hb (f _ _ (S.tok K _) (.int _ _) (.tok _))
theorem bin_fdiv {a b : Int} (hb : b ≠ 0) (hs : b.natAbs < 1073741824) : BinD .FloorDiv (.int a) (.int b) (.int (a.fdiv b)) := by
  intro C σ s Q E v w K S r q f; cases r; cases q; exact floordiv_int hb (f _ _ (S.tok K _) (.int _ _) (.tok _)) (.inl (PyProof.noPylong_small hs))
theorem bin_pow1018 : BinD .Pow (.int 10) (.int 18) (.int (10 ^ 18)) := by
  intro C σ s Q E v w K S r q f; cases r; cases q
  exact AutoIntOps.pow_4 (by decide) (by decide) (by decide) (by decide) (by decide) (f _ _ (S.tok K _) (.int _ _) (.tok _))

theorem bin_add_list {ds es : List D} (hsz : ds.length + es.length ≤ sizeLine) : BinD .Add (.list ds) (.list es) (.list (ds ++ es)) := by
  intro C σ s Q E v w K S r q f
  obtain ⟨_, _, rfl, n1, l1, r1⟩ := r.list_inv
  obtain ⟨_, _, rfl, n2, l2, r2⟩ := q.list_inv
  obtain ⟨m, F⟩ := S.fr
  refine add_lists F (news_all _ _) l1 l2 (fun h' F' N' => ?_) (by rw [r1.length, r2.length]; exact hsz)
  obtain ⟨S', t⟩ := S.back K F F' (news_tail N') s.toks
  have nn := N' _ (.head _)
  exact f _ _ S' (.list S.fresh_off ⟨_, nn.1, rfl, _, rfl⟩ (t.reps K (r1.append r2))) t
theorem bin_add_tuple {ds es : List D} (hsz : ds.length + es.length ≤ sizeLine) : BinD .Add (.tuple ds) (.tuple es) (.tuple (ds ++ es)) := by
  intro C σ s Q E v w K S r q f
  obtain ⟨_, _, rfl, n1, l1, r1⟩ := r.tuple_inv
  obtain ⟨_, _, rfl, n2, l2, r2⟩ := q.tuple_inv
  obtain ⟨m, F⟩ := S.fr
  refine add_tuples F (news_all _ _) l1 l2 (fun e => ?_) (fun _ e => ?_) (fun _ _ h' F' N' => ?_) (by rw [r1.length, r2.length]; exact hsz)
  · subst e; cases r1; exact f _ _ S (.tuple n2 l2 r2) .refl
  · subst e; cases r2; exact f _ _ S (by rw [List.append_nil]; exact .tuple n1 l1 r1) .refl
  · obtain ⟨S', t⟩ := S.back K F F' (news_tail N') s.toks
    have nn := N' _ (.head _)
    exact f _ _ S' (.tuple S.fresh_off ⟨_, nn.1, rfl, _, rfl⟩ (t.reps K (r1.append r2))) t
end
end

section
theorem tuple_mulN (l : Addr) (items : Array Value) (n : Nat) (dd : Option Addr) (sl : Array (Option Value)) (x : Int) (u : Tok) 
    (hlo : -9223372036854775808 ≤ x) (hhi : x < 9223372036854775808) (hc1 : ¬ items = #[]) (hx1 : ¬ x = 1) (hc2 : 0 < x) (hc3 : (items.size : Int) * x ≤ 1152921504606846975) (hc4 : Builtin.Tuple.tupleTooMany ((items.size : Int) * x) = false) (hsz : (List.foldl (fun x1 x2 => x1 ++ x2) #[] (List.replicate x.toNat items)).size ≤ sizeLine) :
    Meets (Builtin.«tuple.__mul__» ⟨[.ref l, .int x u], []⟩) (fun _ R s => s.heap.get? l = some { cls := .type "tuple", dict := dd, data := .seq items n, slots := sl } ∧ R (.ok (.ret (Value.ref s.heap.objs.size))) { s with heap := s.heap.push { cls := Value.type "tuple", data := Data.seq (List.foldl (fun x1 x2 => x1 ++ x2) #[] (List.replicate x.toNat items)) }, toks := s.toks }) :=
  .of_wp fun prog w A R s h => by
    obtain ⟨hp, g, d, tk, os⟩ := s; obtain ⟨hl, h⟩ := h
    have f1 := AutoSeq1.idx_int; have f2 := AutoSeq1.sub_tuple_tuple; have f3 := AutoSeq1.sub_list_list; have f4 := AutoSeq1.sub_tuple_list; have f5 := AutoSeq1.sub_list_tuple
    wp_walk using wpAny_loadPart' hl
    exact ⟨_, rfl, h⟩
theorem tuple_mul0 (l : Addr) (items : Array Value) (n : Nat) (dd : Option Addr) (sl : Array (Option Value)) (x : Int) (u : Tok) 
    (hlo : -9223372036854775808 ≤ x) (hhi : x < 9223372036854775808) (hc1 : ¬ items = #[]) (hx1 : ¬ x = 1) (hc2 : x ≤ 0) :
    Meets (Builtin.«tuple.__mul__» ⟨[.ref l, .int x u], []⟩) (fun _ R s => s.heap.get? l = some { cls := .type "tuple", dict := dd, data := .seq items n, slots := sl } ∧ R (.ok (.ret (Value.ref s.heap.objs.size))) { s with heap := s.heap.push { cls := Value.type "tuple", data := Data.seq #[] }, toks := s.toks }) :=
  .of_wp fun prog w A R s h => by
    obtain ⟨hp, g, d, tk, os⟩ := s; obtain ⟨hl, h⟩ := h
    have f1 := AutoSeq1.idx_int; have f2 := AutoSeq1.sub_tuple_tuple; have f3 := AutoSeq1.sub_list_list; have f4 := AutoSeq1.sub_tuple_list; have f5 := AutoSeq1.sub_list_tuple
    wp_walk using wpAny_loadPart' hl
    exact ⟨_, rfl, h⟩
theorem tuple_mul1 (l : Addr) (items : Array Value) (n : Nat) (dd : Option Addr) (sl : Array (Option Value)) (x : Int) (u : Tok) 
    (hlo : -9223372036854775808 ≤ x) (hhi : x < 9223372036854775808) (hx1 : x = 1)  :
    Meets (Builtin.«tuple.__mul__» ⟨[.ref l, .int x u], []⟩) (fun _ R s => s.heap.get? l = some { cls := .type "tuple", dict := dd, data := .seq items n, slots := sl } ∧ R (.ok (.ret (Value.ref l))) { s with heap := s.heap, toks := s.toks }) :=
  .of_wp fun prog w A R s h => by
    obtain ⟨hp, g, d, tk, os⟩ := s; obtain ⟨hl, h⟩ := h
    have f1 := AutoSeq1.idx_int; have f2 := AutoSeq1.sub_tuple_tuple; have f3 := AutoSeq1.sub_list_list; have f4 := AutoSeq1.sub_tuple_list; have f5 := AutoSeq1.sub_list_tuple
    wp_walk using wpAny_loadPart' hl
    exact ⟨_, rfl, h⟩
theorem int_rmul_tuple_any (a : Int) (t : Tok) (l : Addr) (items : Array Value) (n : Nat) (d : Option Addr) (sl : Array (Option Value)) :
    Meets (Builtin.«int.__rmul__» ⟨[.int a t, .ref l], []⟩) (fun _ R s => s.heap.get? l = some { cls := .type "tuple", dict := d, data := .seq items n, slots := sl } ∧ R (.ok (.ret Value.notImplemented)) s) :=
  .of_wp fun prog w A R s h => by obtain ⟨hp, g, d, tk, os⟩ := s; obtain ⟨hl, h⟩ := h; wp_walk; exact ⟨_, rfl, h⟩
theorem noFill_tuple_mul : fillsNumberSlot (.type "tuple") "mul" = pure false :=
  PySem.fillsNumberSlot_seq (id := "tuple.__mul__") (r := some (.builtin "tuple.__rmul__")) F.slot_tuple_mul.lookup (by decide +kernel) F.slot_tuple_rmul.lookup (by decide +kernel)
theorem repeat_tuple : seqRepeat? (.type "tuple") = pure (some (.builtin "tuple.__mul__")) := by
  unfold seqRepeat?
  rw [PySem.seqSlot_of (T := "tuple") (name := "__mul__") (id := "tuple.__mul__") F.slot_tuple_mul.lookup (by decide +kernel), PySem.seqSlot_of (T := "tuple") (name := "__rmul__") (id := "tuple.__rmul__") F.slot_tuple_rmul.lookup (by decide +kernel)]
  rfl
theorem foldl_rep (items : Array Value) (k : Nat) : (List.foldl (fun x1 x2 => x1 ++ x2) #[] (List.replicate k items)) = (List.replicate k items.toList).flatten.toArray := by
  have h : ∀ (l : List (Array Value)) (a : Array Value), List.foldl (fun x1 x2 => x1 ++ x2) a l = a ++ (l.map Array.toList).flatten.toArray := by
    intro l
    induction l with
    | nil => intro a; simp
    | cons b l ih => intro a; rw [List.foldl_cons, ih]; apply Array.ext'; simp
  rw [h]; apply Array.ext'; simp

/-- (x,) * n -/
theorem bin_mul_tuple1 {d : D} {n : Nat} (hn : n ≤ 60) : BinD .Mult (.tuple [d]) (.int n) (.tuple (List.replicate n d)) := by
  intro C σ s Q E v w K S r q f
  obtain ⟨u, rfl⟩ := q.int_inv
  obtain ⟨a, _, rfl, n1, l1, r1⟩ := r.tuple_inv
  have z9 := r1.cons_inv; clear r1; obtain ⟨v, _, rfl, r1, r2⟩ := z9
  obtain rfl := r2.nil_inv
  obtain ⟨⟨cls, dd, data, sl⟩, ho, hcl, k, hd⟩ := id l1
  simp only at hcl hd
  subst hcl hd
  refine wpAny_binaryOp_repeat_ref (T := "tuple") (U := "int") (by decide) ⟨_, ho, rfl⟩ (fun s' => typeIs_int s' _ _) noFill_tuple_mul F.fills_int_mul F.slot_int_rmul repeat_tuple F.slot_int_index.lookup
    (call_meets F.slot_int_rmul (typeIs_int s _ _) F.entry_int_rmul (F.args_int_rmul_2 _ _) (int_rmul_tuple_any _ u a [v].toArray k dd sl) ⟨ho, rfl, ⟨_, ho, rfl⟩, ?_⟩)
  by_cases h1 : n = 1
  · subst h1
    exact call_meets F.slot_tuple_mul ⟨_, ho, rfl⟩ F.entry_tuple_mul (F.args_tuple_mul_2 _ _) (tuple_mul1 a [v].toArray k dd sl _ u (by decide) (by decide) rfl) ⟨ho, f _ _ S (.tuple n1 l1 (.cons r1 .nil)) .refl⟩
  · by_cases h0 : n = 0
    · subst h0
      exact call_meets F.slot_tuple_mul ⟨_, ho, rfl⟩ F.entry_tuple_mul (F.args_tuple_mul_2 _ _) (tuple_mul0 a [v].toArray k dd sl _ u (by decide) (by decide) (by simp) (by decide) (by decide)) ⟨ho, f _ _ (S.new K _ _) (new_tuple S .nil) (.grow (push_k _ _) _)⟩
    · refine call_meets F.slot_tuple_mul ⟨_, ho, rfl⟩ F.entry_tuple_mul (F.args_tuple_mul_2 _ _) (tuple_mulN a [v].toArray k dd sl _ u (by omega) (by omega) (by simp) (by omega) (by omega) (by simp; omega) ?_ ?_) ⟨ho, ?_⟩
      · simp [Builtin.Tuple.tupleTooMany, sizeLine]; omega
      · rw [foldl_rep]; simp [sizeLine]; omega
      · rw [foldl_rep]
        have e : (List.replicate (n : Int).toNat [v].toArray.toList).flatten = List.replicate n v := by
          simp
        rw [e]
        exact f _ _ (S.new K _ _) (new_tuple S (Reps.replicate r1 n)) (.grow (push_k _ _) _)
/-- [x] * n -/
theorem bin_mul_list1 {d : D} {x : Int} (h0 : 0 ≤ x) (hn : x ≤ 60) : BinD .Mult (.list [d]) (.int x) (.list (List.replicate x.toNat d)) := by
  intro C σ s Q E v w K S r q f
  obtain ⟨u, rfl⟩ := q.int_inv
  obtain ⟨a, _, rfl, n1, l1, r1⟩ := r.list_inv
  have z9 := r1.cons_inv; clear r1; obtain ⟨v, _, rfl, r1, r2⟩ := z9
  obtain rfl := r2.nil_inv
  obtain ⟨⟨cls, dd, data, sl⟩, ho, hcl, k, hd⟩ := id l1
  simp only at hcl hd
  subst hcl hd
  refine wpAny_binaryOp_repeat_ref (T := "list") (U := "int") (by decide) ⟨_, ho, rfl⟩ (fun s' => typeIs_int s' _ _) noFill_list_mul F.fills_int_mul F.slot_int_rmul repeat_list F.slot_int_index.lookup
    (call_meets F.slot_int_rmul (typeIs_int s _ _) F.entry_int_rmul (F.args_int_rmul_2 _ _) (lm_int_rmul_list_any _ u a [v].toArray k dd sl) ⟨ho, rfl, ⟨_, ho, rfl⟩, ?_⟩)
  refine call_meets F.slot_list_mul ⟨_, ho, rfl⟩ F.entry_list_mul (F.args_list_mul_2 _ _)
        (lm_list_mul_any a [v].toArray k dd sl x u (by simp [Builtin.List.listFitsIndex]; omega) (by simp; omega) (by simp [Builtin.List.listTooLong, sizeLine]; omega)) ⟨ho, ?_⟩
  have e : List.foldl (fun x1 x2 => x1 ++ x2) #[] (List.replicate (if [v].toArray.isEmpty = true then 0 else x.toNat) [v].toArray) = (List.replicate x.toNat v).toArray := by
    rw [foldl_rep]; simp
  rw [e]
  exact f _ _ (S.new K _ _) (new_list S (Reps.replicate r1 _)) (.grow (push_k _ _) _)
end

section
section
variable {prog : Program} {w : World} {A : Around} {E : Value → Shared → Prop} {s : Shared}

theorem adjust_rev (n : Nat) : Builtin.Slice.sliceAdjust none none (-1) (n : Int) = ((n : Int) - 1, (-1 : Int)) := by
  unfold Builtin.Slice.sliceAdjust
  simp
theorem places_rev (n : Nat) : Builtin.Slice.slicePlaces ((n : Int) - 1) (-1) (-1) = n := by
  unfold Builtin.Slice.slicePlaces
  have h1 : ¬ ((-1 : Int) > 0) := by omega
  have h2 : ((n : Int) - 1 - -1 - 1) / - -1 = (n : Int) - 1 := by
    have : (- -1 : Int) = 1 := by decide
    rw [this, Int.ediv_one]; omega
  simp only [h1, if_false, h2]
  split <;> omega
theorem sliceApplied_rev {sl : Addr} {n : Nat} {u : Tok} {Q : Int × Int × Nat → Shared → Prop} (hs : s.heap.IsSliceOf sl .none .none (.int (-1) u)) (h : Q ((n : Int) - 1, -1, n) s) :
    wpAny (model prog w) A (Builtin.Slice.sliceApplied (.ref sl) (pure (n : Int))) Q E s := by
  obtain ⟨os, hos, hcs, hds⟩ := id hs
  unfold Builtin.Slice.sliceApplied Builtin.Slice.sliceFields
  refine wpAny_bind (wpAny_bind (wpAny_field hos hds (x := .none) rfl (wpAny_bind (wpAny_field hos hds (x := .none) rfl (wpAny_bind (wpAny_field hos hds (x := .int (-1) u) rfl (wpAny_pure ?_)))))))
  refine wpAny_bind (slicePart_int ?_)
  show wpAny _ _ (if ((-1 : Int) == 0) = true then _ else _) _ _ s
  rw [if_neg (by decide)]
  refine wpAny_bind (slicePart_none (wpAny_bind (slicePart_none (wpAny_bind (wpAny_pure ?_)))))
  show wpAny _ _ (match Builtin.Slice.sliceAdjust none none (-1) (n : Int) with | (lo, hi) => pure (lo, (-1 : Int), Builtin.Slice.slicePlaces lo hi (-1))) _ _ s
  rw [adjust_rev n]
  show wpAny _ _ (pure ((n : Int) - 1, (-1 : Int), Builtin.Slice.slicePlaces ((n : Int) - 1) (-1) (-1))) _ _ s
  rw [places_rev n]
  exact wpAny_pure h
theorem pick_rev (xs : Array Value) : ((List.range xs.size).filterMap fun (k : Nat) => xs[(((xs.size : Int) - 1) + (k : Int) * (-1)).toNat]?).toArray = xs.toList.reverse.toArray := by
  have e : ∀ n : Nat, (fun (k : Nat) => xs[(((n : Int) - 1) + (k : Int) * (-1)).toNat]?) = fun k => xs[n - 1 - k]? := by
    intro n; funext k
    have : (((n : Int) - 1) + (k : Int) * (-1)).toNat = n - 1 - k := by omega
    rw [this]
  rw [e]
  have := congrArg (List.filterMap (xs[·]?)) (krv_range xs.size)
  rw [List.filterMap_map] at this
  have e2 : ((fun x => xs[x]?) ∘ fun k => xs.size - 1 - k) = fun k => xs[xs.size - 1 - k]? := rfl
  rw [e2] at this
  rw [this, List.filterMap_reverse, krv_all]
theorem getItem_tuple_rev {t sl : Addr} {items : Array Value} {u : Tok} {Q : Value → Shared → Prop} (ht : IsTup s.heap t items) (hs : s.heap.IsSliceOf sl .none .none (.int (-1) u))
    (h : Q (.ref s.heap.objs.size) { s with heap := s.heap.push { cls := .type "tuple", data := .seq items.toList.reverse.toArray } })
    (hsz : items.size ≤ sizeLine := by size_fits) : wpAny (model prog w) A (getItem (.ref t) (.ref sl)) Q E s := by
  have hdrop : sizeOk (.seq items.toList.reverse.toArray) := by
    show items.toList.reverse.toArray.size ≤ sizeLine
    rw [List.size_toArray, List.length_reverse, Array.length_toList]
    omega
  obtain ⟨os, hos, hcs, hds⟩ := id hs
  have hTs : s.TypeIs (.ref sl) "slice" := ⟨os, hos, hcs⟩
  unfold getItem
  try with_reducible refine wpAny_holding ?_
  first | refine wpAny_bind (wpAny_pure ?_) | skip
  refine wpAny_bind (wpAny_sequenceKey ht.typeIs (by decide) ?_)
  refine wpAny_bind (wpAny_callSpecial?_slot (name := Str.ofString "__getitem__") ht.typeIs slot_tuple_getitem
    (wpAny_call_entry slot_tuple_getitem ht.typeIs entry_tuple_getitem ?_ (args_tuple_getitem _ _)))
  show wpAny _ _ (Builtin.Tuple.tupleItemsOf (.ref t) >>= _) _ _ s
  refine wpAny_bind (tupleItemsOf_ ht ?_)
  refine wpAny_bind (wpAny_typeOf hTs ?_)
  rw [if_pos (by decide)]
  refine wpAny_bind (sliceApplied_rev hs ?_)
  have hno : ¬ ((((items.size : Int) - 1) == 0 && (-1 : Int) == 1 && items.size == items.size) = true) := by simp
  show wpAny _ _ (if (((items.size : Int) - 1) == 0 && (-1 : Int) == 1 && items.size == items.size) = true then _ else _) _ _ s
  rw [if_neg hno, pick_rev items]
  first
    | exact wpAny_bind (m := Builtin.Tuple.tupleExact _) (wpAny_newObj_type (wpAny_pure ⟨_, rfl, wpAny_pure h⟩) hdrop)
    | exact wpAny_bind (m := Builtin.Tuple.tupleExact _) (wpAny_newObj_type (wpAny_bind (wpAny_pure (wpAny_pure ⟨_, rfl, wpAny_pure h⟩))) hdrop)
    | exact wpAny_bind (wpAny_bind (m := Builtin.Tuple.tupleExact _) (wpAny_newObj_type (wpAny_pure (wpAny_pure ⟨_, rfl, wpAny_pure h⟩)) hdrop))
    | exact wpAny_bind (wpAny_bind (m := Builtin.Tuple.tupleExact _) (wpAny_newObj_type (wpAny_pure ⟨_, rfl, wpAny_pure h⟩) hdrop))
end

section
variable {C : Cx} {σ σ' : AS} {s s' : Shared} {v w : Value} {d e : D} {Φ Ψ : D → AS → Prop} {h h' : Heap} {x : Str} {pos p p1 p2 p3 : Pos} {k k1 : Nat}

def itemsD : D → List D
  | .tuple ds => ds
  | .list ds => ds
  | _ => []
theorem seqIndex_nat {i n : Nat} (h : i < n) : seqIndex? (i : Int) n = some i := by
  unfold seqIndex?
  have h1 : ¬ ((i : Int) < 0) := by omega
  simp only [h1, if_false]
  rw [if_pos (by simp; omega)]
  simp

inductive ItemP (d : D) (Φ : D → AS → Prop) (e : D) (σ : AS) : Prop
  | mk (i : Nat) (he : e = .int i) (hi : i < 2 ^ 63) (x : D) (hx : (itemsD d)[i]? = some x) (H : Φ x σ)
abbrev itemK (C : Cx) (slice : Expr) (Φ : D → AS → Prop) : D → AS → Prop := fun d σ₁ => EvD C slice σ₁ (ItemP d Φ)
/-- an item of a list or a tuple at a place that is not negative -/
theorem ev_item {value slice : Expr} (K : CxOk C) (H : EvD C value σ (itemK C slice Φ))
    (hs : ∀ o i, subscripted slice false o i = operate [o, i] (getItem o i) := by intro _ _; with_unfolding_all rfl) : EvD C (.Subscript value slice pos) σ Φ := by
  intro s Q E S q
  refine Subscript_ (H s _ _ S fun v d σ₁ s₁ h₁ S₁ r₁ t₁ => h₁ s₁ _ _ S₁ fun w e σ₂ s₂ h₂ S₂ r₂ t₂ => ?_)
  obtain ⟨i, rfl, hi, x, hx, hf⟩ := h₂
  have r := t₂.rep K r₁
  obtain ⟨u, rfl⟩ := r₂.int_inv
  cases r with
  | tuple n l rs =>
    obtain ⟨y, hy, ry⟩ := rs.get (by simpa [itemsD] using hx)
    have hlt : i < _ := (List.getElem?_eq_some_iff.mp hy).1
    exact item_tupleT l (by omega) (by omega) (seqIndex_nat hlt) hy (q _ _ _ _ hf S₂ ry (t₁.trans t₂)) (hs _ _)
  | list n l rs =>
    obtain ⟨y, hy, ry⟩ := rs.get (by simpa [itemsD] using hx)
    exact tail_any l.typeIs slot_list_getitem.lookup (wpAny_getItem_list l (by omega) (by omega) (by simpa using hy) (q _ _ _ _ hf S₂ ry (t₁.trans t₂))) (hs _ _)
  | _ => simp [itemsD] at hx

/-- x[1:] -/
inductive FromL (Φ : D → AS → Prop) (d : D) (σ₁ : AS) : Prop
  | mk (ds : List D) (e : d = .list ds) (h : ds.length ≤ sizeLine) (H : Φ (.list (ds.drop 1)) σ₁)
inductive FromT (Φ : D → AS → Prop) (d : D) (σ₁ : AS) : Prop
  | mk (a : D) (ds : List D) (e : d = .tuple (a :: ds)) (h : ds.length < sizeLine) (H : Φ (.tuple ds) σ₁)
inductive RevL (Φ : D → AS → Prop) (d : D) (σ₁ : AS) : Prop
  | mk (ds : List D) (e : d = .list ds) (h : ds.length ≤ sizeLine) (H : Φ (.list ds.reverse) σ₁)
inductive RevT (Φ : D → AS → Prop) (d : D) (σ₁ : AS) : Prop
  | mk (ds : List D) (e : d = .tuple ds) (h : ds.length ≤ sizeLine) (H : Φ (.tuple ds.reverse) σ₁)
abbrev fromK (Φ : D → AS → Prop) : D → AS → Prop := fun d σ₁ => FromL Φ d σ₁ ∨ FromT Φ d σ₁
abbrev revK (Φ : D → AS → Prop) : D → AS → Prop := fun d σ₁ => RevL Φ d σ₁ ∨ RevT Φ d σ₁
theorem ev_from1 {value : Expr} (K : CxOk C) (H : EvD C value σ (fromK Φ)) :
    EvD C (.Subscript value (.Slice (some (.Constant (.int 1) k p1)) none none p) pos) σ Φ := by
  intro s Q E S q
  refine Subscript_ (H s _ _ S fun v d σ₁ s₁ h₁ S₁ r₁ t₁ => ?_)
  refine wpAny_Slice (wpAny_evalPart_some (wpAny_Constant_int (wpAny_evalPart_none (wpAny_evalPart_none ?_))))
  have S₂ := S₁.new K { cls := .type "slice", data := .fields #[Value.int 1 s₁.toks, .none, .none] } (s₁.toks + 1)
  have t₂ : Tr C σ₁ s₁ σ₁ { s₁ with heap := s₁.heap.push { cls := .type "slice", data := .fields #[Value.int 1 s₁.toks, .none, .none] }, toks := s₁.toks + 1 } := .grow (push_k _ _) _
  rcases h₁ with ⟨ds, rfl, hz, hf⟩ | ⟨a, ds, rfl, hz, hf⟩
  · obtain ⟨_, _, rfl, n, l, rs⟩ := r₁.list_inv
    have l' := l.push { cls := .type "slice", data := .fields #[Value.int 1 s₁.toks, .none, .none] }
    refine tail_any (s := { s₁ with heap := s₁.heap.push { cls := .type "slice", data := .fields #[Value.int 1 s₁.toks, .none, .none] }, toks := s₁.toks + 1 }) l'.typeIs slot_list_getitem.lookup
      (wpAny_getItem_list_slice l' (Heap.IsSliceOf.new ..) (.int 1 _) .none .none (by decide) ?_ (by rw [List.size_toArray, rs.length]; exact hz)) rfl
    have rr := (rs.drop 1).tok (push_k s₁.heap { cls := .type "slice", data := .fields #[Value.int 1 s₁.toks, .none, .none] })
    have e : ∀ vs : List Value, slicePick vs.toArray (some 1) none none = (vs.drop 1).toArray := by
      intro vs
      rw [kms_pick_eq]
      unfold kms_pick kms_lo kms_hi
      congr 1
      simp only [List.toList_toArray]
      cases vs with
      | nil => simp
      | cons a vs => simp
    rw [e]
    exact q _ _ _ _ hf (S₂.new K _ _) (new_list S₂ rr) ((t₁.trans t₂).trans (.grow (push_k _ _) _))
  · obtain ⟨_, _, rfl, n, l, rs⟩ := r₁.tuple_inv
    have l' : IsTup (s₁.heap.push { cls := .type "slice", data := .fields #[Value.int 1 s₁.toks, .none, .none] }) _ _ := l.keeps (push_k _ _)
    have hlen := rs.length
    simp only [List.length_cons] at hlen
    refine tail_any (s := { s₁ with heap := s₁.heap.push { cls := .type "slice", data := .fields #[Value.int 1 s₁.toks, .none, .none] }, toks := s₁.toks + 1 }) l'.typeIs slot_tuple_getitem.lookup
      (getItem_tuple_from (a := 1) l' (Heap.IsSliceOf.new ..) (by omega) (by simp; omega) ?_ (by rw [List.size_toArray]; omega)) rfl
    have rr := (rs.drop 1).tok (push_k s₁.heap { cls := .type "slice", data := .fields #[Value.int 1 s₁.toks, .none, .none] })
    exact q _ _ _ _ hf (S₂.new K _ _) (new_tuple S₂ rr) ((t₁.trans t₂).trans (.grow (push_k _ _) _))

/-- x[::-1] -/
theorem ev_rev {value : Expr} (K : CxOk C) (H : EvD C value σ (revK Φ)) :
    EvD C (.Subscript value (.Slice none none (some (.UnaryOp .USub (.Constant (.int 1) k p1) p2)) p) pos) σ Φ := by
  intro s Q E S q
  refine Subscript_ (H s _ _ S fun v d σ₁ s₁ h₁ S₁ r₁ t₁ => ?_)
  refine wpAny_Slice (wpAny_evalPart_none (wpAny_evalPart_none (wpAny_evalPart_some (wpAny_UnaryOp (wpAny_Constant_int (PySem.P.neg_int ?_))))))
  have S₂ := S₁.new K { cls := .type "slice", data := .fields #[.none, .none, Value.int (-1) (s₁.toks + 1)] } (s₁.toks + 1 + 1)
  have t₂ : Tr C σ₁ s₁ σ₁ { s₁ with heap := s₁.heap.push { cls := .type "slice", data := .fields #[.none, .none, Value.int (-1) (s₁.toks + 1)] }, toks := s₁.toks + 1 + 1 } := .grow (push_k _ _) _
  rcases h₁ with ⟨ds, rfl, hz, hf⟩ | ⟨ds, rfl, hz, hf⟩
  · obtain ⟨_, _, rfl, n, l, rs⟩ := r₁.list_inv
    have l' := l.push { cls := .type "slice", data := .fields #[.none, .none, Value.int (-1) (s₁.toks + 1)] }
    refine tail_any (s := { s₁ with heap := s₁.heap.push { cls := .type "slice", data := .fields #[.none, .none, Value.int (-1) (s₁.toks + 1)] }, toks := s₁.toks + 1 + 1 }) l'.typeIs slot_list_getitem.lookup
      (wpAny_getItem_list_slice l' (Heap.IsSliceOf.new ..) .none .none (.int (-1) _) (by decide) ?_ (by rw [List.size_toArray, rs.length]; exact hz)) rfl
    have rr := rs.reverse.tok (push_k s₁.heap { cls := .type "slice", data := .fields #[.none, .none, Value.int (-1) (s₁.toks + 1)] })
    rw [krv_pick]
    exact q _ _ _ _ hf (S₂.new K _ _) (new_list S₂ rr) ((t₁.trans t₂).trans (.grow (push_k _ _) _))
  · obtain ⟨_, _, rfl, n, l, rs⟩ := r₁.tuple_inv
    have l' : IsTup (s₁.heap.push { cls := .type "slice", data := .fields #[.none, .none, Value.int (-1) (s₁.toks + 1)] }) _ _ := l.keeps (push_k _ _)
    refine tail_any (s := { s₁ with heap := s₁.heap.push { cls := .type "slice", data := .fields #[.none, .none, Value.int (-1) (s₁.toks + 1)] }, toks := s₁.toks + 1 + 1 }) l'.typeIs slot_tuple_getitem.lookup
      (getItem_tuple_rev l' (Heap.IsSliceOf.new ..) ?_ (by rw [List.size_toArray, rs.length]; exact hz)) rfl
    have rr := rs.reverse.tok (push_k s₁.heap { cls := .type "slice", data := .fields #[.none, .none, Value.int (-1) (s₁.toks + 1)] })
    exact q _ _ _ _ hf (S₂.new K _ _) (new_tuple S₂ rr) ((t₁.trans t₂).trans (.grow (push_k _ _) _))
end
end

section
/-- a name that the body may store -/
def Stores (C : Cx) (x : Str) : Prop := slotOf C.env x = some none ∨ ∃ c, slotOf C.env x = some (some c) ∧ C.O c
structure FnEnv (C : Cx) (scope : Scope) : Prop extends EnvIs C scope where
  cellsO : ∀ n c, C.env.cells.lookup n = some c → C.O c
def isVar (scope : Scope) (x : Str) : Bool := scope.names.lookup x == some .local || scope.names.lookup x == some .cell

section
variable {C : Cx} {σ σ' : AS} {s s' : Shared} {v w : Value} {d e : D} {Φ Ψ : D → AS → Prop} {h h' : Heap} {x y : Str} {pos p p' : Pos} {k : Nat} {scope : Scope}

theorem EnvIs.kindOf (E : EnvIs C scope) (x : Str) : C.env.kindOf x = scope.names.lookup x := by
  unfold Env.kindOf; rw [E.sc]
theorem EnvIs.loc (E : EnvIs C scope) (hx : scope.names.lookup x = some .local) : Stores C x := by
  left; unfold slotOf; rw [E.kindOf, hx]
theorem FnEnv.st (E : FnEnv C scope) (hx : isVar scope x = true) : Stores C x := by
  unfold isVar at hx
  rcases Bool.or_eq_true_iff.mp hx with q | q
  · exact E.toEnvIs.loc (by simpa using q)
  · right
    have q' : scope.names.lookup x = some .cell := by simpa using q
    obtain ⟨c, hc⟩ := E.cells x q'
    exact ⟨c, by unfold slotOf; rw [E.kindOf, q']; simp [hc], E.cellsO _ _ hc⟩

theorem slot_cell {c : Addr} (hs : slotOf C.env x = some (some c)) : C.env.kindOf x = some .cell ∧ C.env.cells.lookup x = some c := by
  unfold slotOf at hs
  split at hs
  · cases hs
  · rename_i hk
    obtain ⟨c', hc, e'⟩ := Option.map_eq_some_iff.mp hs
    cases e'
    exact ⟨hk, hc⟩
  · cases hs
theorem slot_loc (hs : slotOf C.env x = some none) : C.env.kindOf x = some .local := by
  unfold slotOf at hs
  split at hs
  · assumption
  · obtain ⟨c', hc, e'⟩ := Option.map_eq_some_iff.mp hs
    cases e'
  · cases hs

theorem St.modO (S : St C σ s) (K : CxOk C) {a : Addr} (ha : C.O a) (hw : ¬ C.G.W a) {h' : Heap} (k : ∀ b o, b ≠ a → s.heap.get? b = some o → h'.get? b = some o)
    (hex : ∃ o, h'.get? a = some o) (hns : ∃ m, h'.Ns C.env.locals m) (hcell : ∀ n c, C.env.cells.lookup n = some c → ∃ v, h'.IsCell c v) {l : List (Str × D)}
    (hl : ∀ y d, l.lookup y = some d → ∃ v, Holds C.env h' y v ∧ Rep (off C σ) h' v d) (tk : Nat) : St C ⟨l, σ.mu⟩ { s with heap := h', toks := tk } where
  wd := ⟨fun b o e => k _ _ (fun q => by have := K.O0 _ ha; rw [← q, e] at this; cases this) (S.wd.base b o e), S.wd.gens, S.wd.os, K.G.jk _ _ S.wd.j fun b o w e => k b o (fun q => hw (q ▸ w)) e⟩
  xb b z := by
    by_cases q : b = a
    · exact q ▸ hex
    · obtain ⟨o, e⟩ := S.xb b z; exact ⟨o, k _ _ q e⟩
  ns := hns
  cells := hcell
  loc := hl
  mu p o z := by
    obtain ⟨q, n⟩ := S.mu p o z
    exact ⟨q.go (O := (· = a)) (fun _ z => .inl z) (fun b e => e ▸ .inl (K.OX _ ha)) (fun b o n e => k b o n e) (fun o e => k p o (fun z => n (z ▸ K.OX _ ha)) e), n⟩
  nd := S.nd
  m0 := S.m0
theorem Tr.modO {a : Addr} (ha : C.O a) {h' : Heap} (k : ∀ b o, b ≠ a → s.heap.get? b = some o → h'.get? b = some o) (hex : ∃ o, h'.get? a = some o) {l : List (Str × D)} (tk : Nat) :
    Tr C σ s ⟨l, σ.mu⟩ { s with heap := h', toks := tk } where
  keep b o n e := k b o (fun q => n (q ▸ .inl ha)) e
  ex b o e := by
    by_cases q : b = a
    · exact q ▸ hex
    · exact ⟨o, k _ _ q e⟩
  new _ z := .inl z
theorem Rep.modO (K : CxOk C) {a : Addr} (ha : C.O a) {h' : Heap} (k : ∀ b o, b ≠ a → h.get? b = some o → h'.get? b = some o) (r : Rep (off C σ) h v d) : Rep (off C σ) h' v d :=
  r.go (O := (· = a)) (fun _ z => .inl z) (fun b e => e ▸ .inl (K.OX _ ha)) (fun b o n e => k b o n e)

theorem lookup_put {l : List (Str × D)} {d e : D} (z : ((x, d) :: l).lookup y = some e) : (y = x ∧ e = d) ∨ (y ≠ x ∧ l.lookup y = some e) := by
  rw [List.lookup_cons] at z
  cases q : y == x with
  | true => rw [q] at z; cases z; exact .inl ⟨eq_of_beq q, rfl⟩
  | false => rw [q] at z; exact .inr ⟨fun e => by rw [e] at q; simp at q, z⟩

/-- a name is bound -/
theorem store_ok {Q : Unit → Shared → Prop} {E} (K : CxOk C) (hx : Stores C x) (S : St C σ s) (r : Rep (off C σ) s.heap v d)
    (q : ∀ s', St C ⟨(x, d) :: σ.loc, σ.mu⟩ s' → Tr C σ s ⟨(x, d) :: σ.loc, σ.mu⟩ s' → Q () s') : wpAny (Mo C) C.A (storeName C.env x v) Q E s := by
  rcases hx with hs | ⟨c, hs, hO⟩
  · obtain ⟨m, hn⟩ := S.ns
    have hk := slot_loc hs
    refine wpAny_storeName_local hk hn (fun h' hn' hb => ?_) (by rw [K.kind]; rfl)
    have k := hb.extBut
    have hw : ¬ C.G.W C.env.locals := fun w => (K.notW _ w).1 rfl
    have hex : ∃ o, h'.get? C.env.locals = some o := by obtain ⟨o, _, _, e, _⟩ := hn'; exact ⟨o, e⟩
    refine q _ (S.modO K K.LO hw k hex ⟨_, hn'⟩ (fun n c z => ?_) (fun y e z => ?_) _) (.modO K.LO k hex _)
    · obtain ⟨u, o, e, i⟩ := S.cells n c z; exact ⟨u, o, k _ _ (K.apart1 n c z) e, i⟩
    · rcases lookup_put z with ⟨rfl, rfl⟩ | ⟨ne, z⟩
      · exact ⟨v, by unfold Holds; rw [hs]; exact ⟨_, hn', by simp⟩, r.modO K K.LO k⟩
      · obtain ⟨u, hu, ru⟩ := S.loc y e z
        refine ⟨u, ?_, ru.modO K K.LO k⟩
        unfold Holds at hu ⊢
        cases hy : slotOf C.env y with
        | none => rw [hy] at hu; exact hu
        | some sl =>
          rw [hy] at hu
          cases sl with
          | none => obtain ⟨m', n', e'⟩ := hu; exact ⟨_, hn', by rw [if_neg ne, ns_unique hn n']; exact e'⟩
          | some c => obtain ⟨o, e1, i⟩ := hu; exact ⟨o, k _ _ (K.apart1 _ _ (slot_cell hy).2) e1, i⟩
  · obtain ⟨hk, hc⟩ := slot_cell hs
    obtain ⟨u0, hu0⟩ := S.cells x c hc
    refine wpAny_storeName_cell K.kind hk hc hu0 (fun h' hc' hb => ?_)
    have k := hb.extBut
    have hw : ¬ C.G.W c := fun w => (K.notW _ w).2 x hc
    have hex : ∃ o, h'.get? c = some o := by obtain ⟨o, e, _⟩ := hc'; exact ⟨o, e⟩
    have hL : c ≠ C.env.locals := K.apart1 _ _ hc
    have key := S.modO (l := (x, d) :: σ.loc) K hO hw k hex (by obtain ⟨m, o, es, ep, e, z⟩ := S.ns; exact ⟨m, o, es, ep, k _ _ (Ne.symm hL) e, z⟩) (fun n c' z => ?_) (fun y e z => ?_) s.toks
    · exact q _ key (.modO hO k hex _)
    · by_cases q : c' = c
      · exact q ▸ ⟨_, hc'⟩
      · obtain ⟨u, o, e, i⟩ := S.cells n c' z; exact ⟨u, o, k _ _ q e, i⟩
    · rcases lookup_put z with ⟨rfl, rfl⟩ | ⟨ne, z⟩
      · exact ⟨v, by unfold Holds; rw [hs]; exact hc', r.modO K hO k⟩
      · obtain ⟨u, hu, ru⟩ := S.loc y e z
        refine ⟨u, ?_, ru.modO K hO k⟩
        unfold Holds at hu ⊢
        cases hy : slotOf C.env y with
        | none => rw [hy] at hu; exact hu
        | some sl =>
          rw [hy] at hu
          cases sl with
          | none => obtain ⟨m', ⟨o, es, ep, e1, z1⟩, e'⟩ := hu; exact ⟨m', ⟨o, es, ep, k _ _ (Ne.symm hL) e1, z1⟩, e'⟩
          | some c' => obtain ⟨o, e1, i⟩ := hu; exact ⟨o, k _ _ (fun e2 => ne (K.apart2 _ _ _ (slot_cell hy).2 (e2 ▸ hc))) e1, i⟩

def AS.put (σ : AS) (x : Str) (d : D) : AS := ⟨(x, d) :: σ.loc, σ.mu⟩

theorem bind_ok {Q : Unit → Shared → Prop} {E} (K : CxOk C) (hx : Stores C x) (S : St C σ s) (r : Rep (off C σ) s.heap v d)
    (q : ∀ s', St C (σ.put x d) s' → Tr C σ s (σ.put x d) s' → Q () s') : wpAny (Mo C) C.A (bindName C.env x v) Q E s := wpAny_bindName (store_ok K hx S r q)

section
variable {Φ : FlowD → AS → Prop}
theorem xs_nil (H : Φ .next σ) : XsD C [] σ Φ := fun _ _ _ S q => wpAny_execs_nil (q _ _ _ _ H S .next .refl)
abbrev seqK (C : Cx) (r : List Stmt) (Φ : FlowD → AS → Prop) : FlowD → AS → Prop := fun f σ₁ => match f with | .next => XsD C r σ₁ Φ | f => Φ f σ₁
abbrev retK (Φ : FlowD → AS → Prop) : D → AS → Prop := fun d σ₁ => Φ (.ret d) σ₁
abbrev ifK (C : Cx) (a b : List Stmt) (Φ : FlowD → AS → Prop) : Bool → AS → Prop := fun c σ₁ => (c = true → XsD C a σ₁ Φ) ∧ (c = false → XsD C b σ₁ Φ)
abbrev asgK (x : Str) (Φ : FlowD → AS → Prop) : D → AS → Prop := fun d σ₁ => Φ .next (σ₁.put x d)
theorem xs_cons {a : Stmt} {r : List Stmt} (K : CxOk C) (H : XD C a σ (seqK C r Φ)) : XsD C (a :: r) σ Φ := by
  intro s Q E S q
  refine wpAny_execs_cons (H s _ _ S fun f d σ₁ s₁ h₁ S₁ r₁ t₁ => ?_)
  cases r₁ with
  | next => exact h₁ s₁ Q E S₁ fun f d σ₂ s₂ p S₂ r₂ t₂ => q f d σ₂ s₂ p S₂ r₂ (t₁.trans t₂)
  | brk => exact q _ _ _ _ h₁ S₁ .brk t₁
  | cont => exact q _ _ _ _ h₁ S₁ .cont t₁
  | ret r => exact q _ _ _ _ h₁ S₁ (.ret r) t₁
/-- the state may be told weaker ahead of a statement -/
theorem xs_sub {r : List Stmt} {l : List (Str × D)} (hl : SubL l σ.loc) (H : XsD C r ⟨l, σ.mu⟩ Φ) : XsD C r σ Φ :=
  fun s Q E S q => H s Q E (S.sub hl) fun f d σ₂ s₂ p S₂ r₂ t₂ => q f d σ₂ s₂ p S₂ r₂ ⟨t₂.keep, t₂.ex, t₂.new⟩
theorem x_ret {e : Expr} (H : EvD C e σ (retK Φ)) : XD C (.Return (some e) pos) σ Φ := by
  intro s Q E S q
  exact wpAny_Return_some (H s _ _ S fun v d σ₁ s₁ h₁ S₁ r₁ t₁ => q _ _ _ _ h₁ S₁ (.ret r₁) t₁)
theorem x_if {t : Expr} {a b : List Stmt} (H : BvD C t σ (ifK C a b Φ)) : XD C (.If t a b pos) σ Φ := by
  intro s Q E S q
  refine wpAny_If (H s _ _ S fun c σ₁ s₁ h₁ S₁ t₁ => ?_)
  cases c with
  | true => rw [if_pos rfl]; exact h₁.1 rfl s₁ Q E S₁ fun f d σ₂ s₂ p S₂ r₂ t₂ => q f d σ₂ s₂ p S₂ r₂ (t₁.trans t₂)
  | false => rw [if_neg (by decide)]; exact h₁.2 rfl s₁ Q E S₁ fun f d σ₂ s₂ p S₂ r₂ t₂ => q f d σ₂ s₂ p S₂ r₂ (t₁.trans t₂)
theorem x_assign {e : Expr} (K : CxOk C) (hx : Stores C x) (H : EvD C e σ (asgK x Φ))
    (hs : swapsWith e (some (.Name x p')) pos.line C.env = pure false := by with_unfolding_all rfl) : XD C (.Assign [.Name x p'] e pos) σ Φ := by
  intro s Q E S q
  refine wpAny_Assign_Name (H s _ _ S fun v d σ₁ s₁ h₁ S₁ r₁ t₁ => store_ok K hx S₁ r₁ fun s₂ S₂ t₂ => ?_) hs
  exact q _ _ _ _ h₁ S₂ .next (t₁.trans t₂)
end

/-- names bound in turn -/
def putAll : AS → List Str → List D → AS
  | σ, x :: xs, d :: ds => putAll (σ.put x d) xs ds
  | σ, _, _ => σ
theorem putAll_mu : ∀ (xs : List Str) (ds : List D) (σ : AS), (putAll σ xs ds).mu = σ.mu
  | [], _, _ => rfl
  | _ :: _, [], _ => rfl
  | x :: xs, d :: ds, σ => by rw [putAll, putAll_mu xs ds]; rfl
theorem assign_order {Q : Unit → Shared → Prop} {E} (K : CxOk C) (S₀ : Shared) : ∀ (xs : List Str) (fs : List (Value → Sem Unit)) (vs : List Value) (ds : List D) (σ : AS) (s : Shared), fs.length = xs.length → ds.length = xs.length →
    (∀ (i : Nat) (f : Value → Sem Unit), fs[i]? = some f → ∃ x, xs[i]? = some x ∧ Stores C x ∧ ∀ v (Q : Unit → Shared → Prop) E s, wpAny (Mo C) C.A (bindName C.env x v) Q E s → wpAny (Mo C) C.A (f v) Q E s) →
    St C σ s → Reps (off C σ) s.heap vs ds → (∀ s', St C (putAll σ xs ds) s' → Tr C σ s (putAll σ xs ds) s' → Q () s') → wpAny (Mo C) C.A (assignInOrder fs vs) Q E s := by
  intro xs
  induction xs with
  | nil =>
    intro fs vs ds σ s h1 h2 hf S r q
    cases fs with
    | cons _ _ => simp at h1
    | nil =>
      cases ds with
      | cons _ _ => simp at h2
      | nil => cases r; exact wpAny_assignInOrder_none (q s S .refl)
  | cons x xs ih =>
    intro fs vs ds σ s h1 h2 hf S r q
    cases fs with
    | nil => simp at h1
    | cons f fs =>
      cases ds with
      | nil => simp at h2
      | cons d ds =>
        have z9 := r.cons_inv; clear r; obtain ⟨_, _, rfl, a, r⟩ := z9
        obtain ⟨x', hx', hst, hb⟩ := hf 0 f rfl
        simp at hx'; subst hx'
        refine wpAny_assignInOrder_more (hb _ _ _ _ (bind_ok K hst S a fun s' S' t' => ?_))
        have r' : Reps (off C (σ.put x d)) s'.heap _ ds := t'.reps K r
        refine ih fs _ ds (σ.put x d) s' (by simpa using h1) (by simpa using h2) (fun i f hi => ?_) S' r' fun s'' S'' t'' => q s'' S'' (t'.trans t'')
        obtain ⟨y, hy, z⟩ := hf (i + 1) f (by simpa using hi)
        exact ⟨y, by simpa using hy, z⟩

def namesOfT : List Expr → Option (List Str)
  | [] => some []
  | .Name x _ :: r => (namesOfT r).map (x :: ·)
  | _ => none
theorem names_each {env : Env} {ts : List Expr} {xs : List Str} (h : namesOfT ts = some xs) : (assignEach ts env).length = xs.length ∧ (assignEach ts env).findIdx? (·.1) = none ∧
    ∀ (i : Nat) (f : Bool × (Value → Sem Unit)), (assignEach ts env)[i]? = some f → ∃ x p, xs[i]? = some x ∧ f = (false, assign (.Name x p) env) := by
  induction ts generalizing xs with
  | nil =>
    cases h
    exact ⟨rfl, rfl, fun i f e => by cases e⟩
  | cons t ts ih =>
    unfold namesOfT at h
    split at h
    · rename_i heq; cases heq
    · rename_i x p r heq
      cases heq
      obtain ⟨ys, hy, rfl⟩ := Option.map_eq_some_iff.mp h
      obtain ⟨h1, h2, h3⟩ := ih hy
      have e : assignEach (.Name x p :: ts) env = (false, assign (.Name x p) env) :: assignEach ts env := rfl
      rw [e]
      refine ⟨by simp [h1], by simp [List.findIdx?_cons, h2], fun i f hi => ?_⟩
      cases i with
      | zero => simp at hi; exact ⟨x, p, rfl, hi.symm⟩
      | succ i => obtain ⟨y, p', e1, e2⟩ := h3 i f (by simpa using hi); exact ⟨y, p', by simpa using e1, e2⟩
    · cases h

/-- a tuple taken apart into names -/
theorem unpack_ok {Q : Unit → Shared → Prop} {E} {ts : List Expr} {xs : List Str} {ds : List D} (K : CxOk C) (hn : namesOfT ts = some xs) (hx : ∀ x ∈ xs, Stores C x) (hl : ds.length = xs.length)
    (S : St C σ s) (r : Rep (off C σ) s.heap v (.tuple ds)) (q : ∀ s', St C (putAll σ xs ds) s' → Tr C σ s (putAll σ xs ds) s' → Q () s') : wpAny (Mo C) C.A (assign (.Tuple ts k pos) C.env v) Q E s := by
  obtain ⟨_, _, rfl, n, l, rs⟩ := r.tuple_inv
  obtain ⟨h1, h2, h3⟩ := names_each (env := C.env) hn
  refine wpAny_assign_Tuple K.handled l (by rw [h1, List.size_toArray, rs.length, hl]) h2 fun h' hb => ?_
  have k : ∀ b o, s.heap.get? b = some o → h'.get? b = some o := fun b o e => hb b o (Nat.ne_of_lt (Heap.lt_size e)) e
  have t := Tr.grow (C := C) (σ := σ) k s.toks
  refine assign_order K s xs _ _ ds σ _ (by rw [List.length_map, h1]) hl (fun i f hi => ?_) (S.grow K k s.toks) (t.reps K rs) fun s' S' t' => q s' S' (t.trans t')
  rw [List.getElem?_map] at hi
  obtain ⟨g, hg, rfl⟩ := Option.map_eq_some_iff.mp hi
  obtain ⟨x, p, e1, rfl⟩ := h3 i g hg
  exact ⟨x, e1, hx x (List.mem_of_getElem? e1), fun v Q E s w => wpAny_bind (m := standAt p) (f := fun _ => bindName C.env x v) (wpAny_standAt w)⟩

inductive PutP (xs : List Str) (Φ : FlowD → AS → Prop) (d : D) (σ₁ : AS) : Prop
  | mk (ds : List D) (e : d = .tuple ds) (hl : ds.length = xs.length) (H : Φ .next (putAll σ₁ xs ds))
theorem x_unpack {Φ : FlowD → AS → Prop} {e : Expr} {ts : List Expr} {xs : List Str} (K : CxOk C) (hn : namesOfT ts = some xs) (hx : ∀ x ∈ xs, Stores C x) 
    (H : EvD C e σ (PutP xs Φ))
    (hs : swapsWithSole [.Tuple ts k p] e pos.line C.env = pure false := by with_unfolding_all rfl) (hw : swappedStores [.Tuple ts k p] e C.env = pure none := by with_unfolding_all rfl) : XD C (.Assign [.Tuple ts k p] e pos) σ Φ := by
  intro s Q E S q
  refine wpAny_Assign_stores (H s _ _ S fun v d σ₁ s₁ h₁ S₁ r₁ t₁ => ?_) hs hw
  obtain ⟨ds, rfl, hl, hf⟩ := h₁
  exact unpack_ok (k := k) (pos := p) K hn hx hl S₁ r₁ fun s₂ S₂ t₂ => q _ _ _ _ hf S₂ .next (t₁.trans t₂)
end
end

section
structure Iter (prog : Program) (w : World) (A : Around) (tgt : Expr) (I : Addr) (ds : List D) (srcs : List Value) (dsrc : List D) (Wr : Addr → Prop) (It : Nat → Heap → Prop) (Mid : Nat → Value → Heap → Prop) : Prop where
  frame : ∀ i h h', It i h → (∀ b, Wr b → ∀ o, h.get? b = some o → h'.get? b = some o) → It i h'
  ex : ∀ i h, It i h → ∀ b, Wr b → ∃ o, h.get? b = some o
  item : ∀ i d (X : Addr → Prop) (s : Shared) (Q : Option Value → Shared → Prop) E, ds[i]? = some d → (∀ b, Wr b → X b) → (∀ b, X b → ∃ o, s.heap.get? b = some o) → Reps X s.heap srcs dsrc → It i s.heap →
    (∀ v h' tk, Mid i v h' → Rep X h' v d → KeepsOff Wr s.heap h' → (∀ b, Wr b → ∃ o, h'.get? b = some o) → Q (some v) { s with heap := h', toks := tk }) → wpAny (model prog w) A (pyNext (.ref I)) Q E s
  mid : ∀ i v (s : Shared) (Q : Unit → Shared → Prop) E, Mid i v s.heap → (∀ h', It (i + 1) h' → KeepsOff Wr s.heap h' → Q () { s with heap := h' }) → wpAny (model prog w) A (letOwnedTupleGo tgt (.ref I) v) Q E s
  done : ∀ (X : Addr → Prop) (s : Shared) (Q : Option Value → Shared → Prop) E, (∀ b, Wr b → X b) → Reps X s.heap srcs dsrc → It ds.length s.heap →
    (∀ h' tk, KeepsOff Wr s.heap h' → Q none { s with heap := h', toks := tk }) → wpAny (model prog w) A (pyNext (.ref I)) Q E s
  self : ∀ i (s : Shared) (Q : Value → Shared → Prop) E, It i s.heap → Q (.ref I) s → wpAny (model prog w) A (pyIter (.ref I)) Q E s

section
variable {prog : Program} {w : World} {A : Around}
theorem sameBut_keeps {a : Addr} {h h' : Heap} (x : Heap.SameBut a h h') : KeepsOff (· = a) h h' := fun b o n e => x.extBut b o n e
theorem extBut_keeps {a : Addr} {h h' : Heap} (x : Heap.ExtBut a h h') : KeepsOff (· = a) h h' := fun b o n e => x b o n e

def okTgt : Expr → Bool
  | .Name .. => true
  | .Tuple .. => true
  | _ => false

theorem iter_list {tgt : Expr} (ht : okTgt tgt = true) {I l : Addr} {ds : List D} (hh : A.handled = none) (hI : l ≠ I) :
    Iter prog w A tgt I ds [.ref l] [.list ds] (· = I) (fun i h => h.IsListIter I l i) (fun i v h => h.IsListIter I l (i + 1)) where
  frame i h h' x k := let ⟨o, e, r⟩ := x; ⟨o, k I rfl o e, r⟩
  ex i h x b hb := let ⟨o, e, _⟩ := x; ⟨o, hb ▸ e⟩
  item i d X s Q E hd hX _ r x q := by
    obtain ⟨_, n, l', rs⟩ := r.cons2.1.list_ref
    obtain ⟨v, hv, rv⟩ := rs.get hd
    refine wpAny_pyNext_list_item x l' (by simpa using hv) fun h' x' hs => q v h' s.toks x' (rv.go (fun _ z => .inl z) hX (sameBut_keeps hs)) (sameBut_keeps hs) fun b hb => let ⟨o, e, _⟩ := x'; ⟨o, hb ▸ e⟩
  mid i v s Q E x q := by
    cases tgt <;> simp [okTgt] at ht
    · exact wpAny_pure (q _ x .refl)
    · cases v with
      | ref a => exact wpAny_letOwnedTupleGo_listiter x (q _ x .refl)
      | _ => exact wpAny_pure (q _ x .refl)
  done X s Q E hX r x q := by
    obtain ⟨_, n, l', rs⟩ := r.cons2.1.list_ref
    refine wpAny_pyNext_list_end hh x l' (by simp [rs.length]) fun h' hs => q h' s.toks (extBut_keeps hs)
  self i s Q E x q := wpAny_pyIter_listiter x q

theorem iter_tuple {x : Str} {p : Pos} {I l : Addr} {ds : List D} (hh : A.handled = none) :
    Iter prog w A (.Name x p) I ds [.ref l] [.tuple ds] (· = I) (fun i h => h.IsTupleIter I l i) (fun i v h => h.IsTupleIter I l (i + 1)) where
  frame i h h' x k := let ⟨o, e, r⟩ := x; ⟨o, k I rfl o e, r⟩
  ex i h x b hb := let ⟨o, e, _⟩ := x; ⟨o, hb ▸ e⟩
  item i d X s Q E hd hX _ r x q := by
    obtain ⟨_, n, l', rs⟩ := r.cons2.1.tuple_ref
    obtain ⟨v, hv, rv⟩ := rs.get hd
    refine PySem.wpAny_pyNext_tuple_item x l' (by simpa using hv) fun h' x' hs => q v h' s.toks x' (rv.go (fun _ z => .inl z) hX (sameBut_keeps hs)) (sameBut_keeps hs) fun b hb => let ⟨o, e, _⟩ := x'; ⟨o, hb ▸ e⟩
  mid i v s Q E x q := wpAny_pure (q _ x .refl)
  done X s Q E hX r x q := by
    obtain ⟨_, n, l', rs⟩ := r.cons2.1.tuple_ref
    refine PySem.wpAny_pyNext_tuple_end hh x l' (by simp [rs.length]) fun h' hs => q h' s.toks (extBut_keeps hs)
  self i s Q E x q := wpAny_pyIter_tupleiter x q

/-- the ints of range(a, b) -/
def rangeD (a b : Int) : List D := (List.range (b - a).toNat).map fun (i : Nat) => D.int (a + i)
theorem rangeD_get {a b : Int} {i : Nat} {d : D} (h : (rangeD a b)[i]? = some d) : (i : Int) < b - a ∧ d = .int (a + i) := by
  unfold rangeD at h
  rw [List.getElem?_map] at h
  obtain ⟨j, hj, rfl⟩ := Option.map_eq_some_iff.mp h
  obtain ⟨hl, e⟩ := List.getElem?_eq_some_iff.mp hj
  simp at hl e
  subst e
  exact ⟨by omega, rfl⟩
theorem rangeD_len {a b : Int} : (rangeD a b).length = (b - a).toNat := by simp [rangeD]

theorem iter_range {x : Str} {p : Pos} {I : Addr} {a b : Int} (hh : A.handled = none) :
    Iter prog w A (.Name x p) I (rangeD a b) [] [] (· = I) (fun i h => IsRangeIter h I (a + i) (max (b - a) 0 - i) 1) (fun i v h => IsRangeIter h I (a + (i + 1 : Nat)) (max (b - a) 0 - (i + 1 : Nat)) 1) where
  frame i h h' x k := k I rfl _ x
  ex i h x b hb := ⟨_, hb ▸ x⟩
  item i d X s Q E hd hX _ r x q := by
    obtain ⟨h1, rfl⟩ := rangeD_get hd
    refine wpAny_pyNext_range_item x (by omega) fun h' x' hs => ?_
    have x'' : IsRangeIter h' I (a + (i + 1 : Nat)) (max (b - a) 0 - (i + 1 : Nat)) 1 := by
      have e1 : a + (i : Int) + 1 = a + (i + 1 : Nat) := by omega
      have e2 : max (b - a) 0 - (i : Int) - 1 = max (b - a) 0 - (i + 1 : Nat) := by omega
      rw [← e1, ← e2]; exact x'
    exact q _ h' _ x'' (.int _ _) (sameBut_keeps hs) fun b hb => ⟨_, hb ▸ x''⟩
  mid i v s Q E x q := wpAny_pure (q _ x .refl)
  done X s Q E hX r x q := by
    refine wpAny_pyNext_range_end hh x (by rw [rangeD_len]; omega) fun h' hs => q h' s.toks (extBut_keeps hs)
  self i s Q E x q := wpAny_pyIter_rangeiter x q
end

/-- another context of the same frame: more is off limits -/
structure Like (C C' : Cx) : Prop where
  G : C'.G = C.G
  env : C'.env = C.env
  A : C'.A = C.A
  O : C'.O = C.O
  k : C'.k = C.k
  X : ∀ b, C.X b → C'.X b

def withX (C : Cx) (X : Addr → Prop) : Cx := { C with X := X }
theorem CxOk.withX {C : Cx} (K : CxOk C) {X : Addr → Prop} (hX : ∀ b, C.X b → X b) : CxOk (withX C X) :=
  ⟨K.G, K.kind, K.glob, K.blt, K.LO, fun b z => hX b (K.OX b z), K.WO, K.O0, K.apart1, K.apart2, K.notW, K.handled, K.room, K.units, fun n c z => hX _ (K.cellsX n c z)⟩
theorem like_withX {C : Cx} {X : Addr → Prop} (hX : ∀ b, C.X b → X b) : Like C (withX C X) := ⟨rfl, rfl, rfl, rfl, rfl, hX⟩

section
variable {C : Cx} {σ σ' : AS} {s s' : Shared} {v w : Value} {d e : D} {h h' : Heap} {x y : Str} {pos p p' : Pos} {k : Nat} {scope : Scope}

theorem EnvIs.like {C C' : Cx} (E : EnvIs C scope) (l : Like C C') : EnvIs C' scope := ⟨by rw [l.env]; exact E.sc, fun x z => by rw [l.env]; exact E.cells x z⟩
theorem FnEnv.like {C C' : Cx} (E : FnEnv C scope) (l : Like C C') : FnEnv C' scope := ⟨E.toEnvIs.like l, fun n c z => by rw [l.O]; exact E.cellsO n c (by rw [← l.env]; exact z)⟩

theorem no_get {h : Heap} {b : Addr} {o : Obj} (n : h.get? b = none) (e : h.get? b = some o) : False := by rw [n] at e; cases e
def Apart (C : Cx) (Wr : Addr → Prop) : Prop := ∀ b, Wr b → ¬ C.X b ∧ C.G.h₀.get? b = none
theorem apart_of (S : St C σ s) {Wr : Addr → Prop} (hf : ∀ b, Wr b → s.heap.get? b = none) : Apart C Wr := by
  intro b z
  refine ⟨fun x => ?_, ?_⟩
  · obtain ⟨o, e⟩ := S.xb b x
    rw [hf b z] at e; cases e
  · cases e : C.G.h₀.get? b with
    | none => rfl
    | some o =>
      have := S.wd.base b o e
      rw [hf b z] at this; cases this

/-- in the wider context: what the iterator owns turns -/
theorem St.modW {X : Addr → Prop} {Wr : Addr → Prop} (K : CxOk C) (hX : ∀ b, C.X b → X b) (hW : ∀ b, Wr b → X b) (ap : Apart C Wr) (S : St (withX C X) σ s) (k : KeepsOff Wr s.heap h') (ex : ∀ b, Wr b → ∃ o, h'.get? b = some o) (tk : Nat) :
    St (withX C X) σ { s with heap := h', toks := tk } where
  wd := ⟨fun b o e => k _ _ (fun z => no_get (ap b z).2 e) (S.wd.base b o e), S.wd.gens, S.wd.os, K.G.jk _ _ S.wd.j fun b o z e => k b o (fun y => (ap b y).1 (K.OX _ (K.WO _ z))) e⟩
  xb b z := by
    by_cases q : Wr b
    · exact ex b q
    · obtain ⟨o, e⟩ := S.xb b z; exact ⟨o, k _ _ q e⟩
  ns := let ⟨m, o, es, ep, e, r⟩ := S.ns; ⟨m, o, es, ep, k _ _ (fun y => (ap _ y).1 (K.OX _ K.LO)) e, r⟩
  cells n c z := let ⟨u, o, e, r⟩ := S.cells n c z; ⟨u, o, k _ _ (fun y => (ap _ y).1 (K.cellsX n c z)) e, r⟩
  loc y d z := by
    obtain ⟨u, q, r⟩ := S.loc y d z
    refine ⟨u, q.keep k fun sl hs => fun hw => ?_, r.go (fun _ z => .inl z) (fun b z => .inl (hW b z)) k⟩
    have hs' : slotOf C.env y = some sl := hs
    have hw' : Wr (sl.getD C.env.locals) := hw
    cases sl with
    | none => exact (ap _ hw').1 (K.OX _ K.LO)
    | some c => exact (ap _ hw').1 (K.cellsX _ _ (slot_cell hs').2)
  mu p o z := by
    obtain ⟨q, n⟩ := S.mu p o z
    exact ⟨q.go (fun _ z => .inl z) (fun b z => .inl (hW b z)) k (fun o e => k p o (fun y => n (hW p y)) e), n⟩
  nd := S.nd
  m0 := S.m0
/-- back to the narrower one -/
theorem St.leaveW {X : Addr → Prop} {Wr : Addr → Prop} (K : CxOk C) (hX : ∀ b, C.X b → X b) (hW : ∀ b, Wr b → X b) (ap : Apart C Wr) (S : St (withX C X) σ s) (k : KeepsOff Wr s.heap h') (tk : Nat) :
    St C σ { s with heap := h', toks := tk } where
  wd := ⟨fun b o e => k _ _ (fun z => no_get (ap b z).2 e) (S.wd.base b o e), S.wd.gens, S.wd.os, K.G.jk _ _ S.wd.j fun b o z e => k b o (fun y => (ap b y).1 (K.OX _ (K.WO _ z))) e⟩
  xb b z := by
    obtain ⟨o, e⟩ := S.xb b (hX b z); exact ⟨o, k _ _ (fun y => (ap b y).1 z) e⟩
  ns := let ⟨m, o, es, ep, e, r⟩ := S.ns; ⟨m, o, es, ep, k _ _ (fun y => (ap _ y).1 (K.OX _ K.LO)) e, r⟩
  cells n c z := let ⟨u, o, e, r⟩ := S.cells n c z; ⟨u, o, k _ _ (fun y => (ap _ y).1 (K.cellsX n c z)) e, r⟩
  loc y d z := by
    obtain ⟨u, q, r⟩ := S.loc y d z
    refine ⟨u, q.keep k fun sl hs => fun hw => ?_, r.go (fun b z => .inl (z.imp (hX b) id)) (fun b z => .inl (hW b z)) k⟩
    have hs' : slotOf C.env y = some sl := hs
    have hw' : Wr (sl.getD C.env.locals) := hw
    cases sl with
    | none => exact (ap _ hw').1 (K.OX _ K.LO)
    | some c => exact (ap _ hw').1 (K.cellsX _ _ (slot_cell hs').2)
  mu p o z := by
    obtain ⟨q, n⟩ := S.mu p o z
    exact ⟨q.go (fun b z => .inl (z.imp (hX b) id)) (fun b z => .inl (hW b z)) k (fun o e => k p o (fun y => n (hW p y)) e), fun z => n (hX p z)⟩
  nd := S.nd
  m0 := S.m0
/-- into the wider one -/
theorem St.enterW {X : Addr → Prop} {Wr : Addr → Prop} (K : CxOk C) (hX : ∀ b, X b → C.X b ∨ Wr b) (hWf : ∀ b, Wr b → ¬ off C σ b) (S : St C σ s) {s₀ : Shared} (S₀ : St C σ s₀) (k : ∀ b o, s₀.heap.get? b = some o → s.heap.get? b = some o) (hf : ∀ b, Wr b → s₀.heap.get? b = none) 
    (hl : ∀ b, Wr b → ∃ o, s.heap.get? b = some o) (hloc : ∀ x d, σ.loc.lookup x = some d → ∃ v, Holds C.env s₀.heap x v ∧ Rep (off C σ) s₀.heap v d) : St (withX C X) σ s where
  wd := S.wd
  xb b z := (hX b z).elim (S.xb b) (hl b)
  ns := S.ns
  cells := S.cells
  loc y d z := by
    obtain ⟨u, q, r⟩ := S₀.loc y d z
    exact ⟨u, q.all k, r.go (fun b z => z.elim (fun z => (hX b z).elim (fun z => .inl (.inl z)) fun z => .inr (hf b z)) fun z => .inl (.inr z)) (O := fun _ => False) (fun _ z => z.elim) (.of_all k)⟩
  mu p o z := by
    obtain ⟨q, n⟩ := S₀.mu p o z
    refine ⟨q.go (fun b z => z.elim (fun z => (hX b z).elim (fun z => .inl (.inl z)) fun z => .inr (hf b z)) fun z => .inl (.inr z)) (O := fun _ => False) (fun _ z => z.elim) (.of_all k) (fun o e => k _ _ e), fun z' => ?_⟩
    rcases hX p z' with h1 | h1
    · exact n h1
    · exact hWf p h1 (.inr (List.mem_map.mpr ⟨_, z, rfl⟩))
  nd := S.nd
  m0 := S.m0
end
end

section
section
variable {prog : Program} {w : World} {A : Around} {s : Shared}
theorem forLoop_go {R : Result → Shared → Prop} {target : Expr} {it : Value} {body orelse : List Stmt} {env : Env} (I : Nat → Shared → Prop)
    (turn : ∀ n s, I n s → wpAny (model prog w) A (pyNext it) (fun r s₁ => match r with
      | none => wpAny (model prog w) A (execs orelse env) (fun f s₃ => R (.ok f) s₃) (notedBy (model prog w) A env fun e s' => R (.error e) s') s₁
      | some v => wpAny (model prog w) A (letOwnedTupleGo target it v) (fun _ s₁ => wpAny (model prog w) A (assign target env v) (fun _ s₂ => wpAny (model prog w) A (execs body env) (fun f s₃ => match f with
          | .next | .cont => ∃ m, m < n ∧ I m s₃
          | .brk => R (.ok .next) s₃
          | .ret v => R (.ok (.ret v)) s₃) (notedBy (model prog w) A env fun e s' => R (.error e) s') s₂) (notedBy (model prog w) A env fun e s' => R (.error e) s') s₁)
            (notedBy (model prog w) A env fun e s' => R (.error e) s') s₁) (notedBy (model prog w) A env fun e s' => R (.error e) s') s)
    (n : Nat) (h : I n s) : codeAny (model prog w) A (.forLoop target it body orelse env) R s := by
  refine codeAny_loop' rfl I (fun n s hI => ?_) n h
  show wpAny _ _ ((forTurn target it body orelse env).onRaise (fun x => do noteFrame x env; theTreesLotGoes x)) _ _ s
  refine wpAny_noted ?_
  simp only [forTurn]
  refine wpAny_bind (wpAny_standAt (wpAny_bind (wpAny_onRaise (wpAny_mono (turn n s hI) (fun r s₁ h₁ => ?_) fun _ _ h' => wpAny_standAt h'))))
  cases r with
  | none => exact wpAny_pure (.inr ⟨rfl, codeAny_block h₁⟩)
  | some v =>
    refine wpAny_bind (wpAny_mono h₁ (fun _ s₁ h₁ => wpAny_bind (wpAny_mono h₁ (fun _ s₂ h₂ => wpAny_bind (wpAny_mono h₂ (fun f s₃ h₃ => ?_) fun _ _ h' => h')) fun _ _ h' => h')) fun _ _ h' => h')
    cases f with
    | next => exact wpAny_pure (.inl ⟨rfl, h₃⟩)
    | cont => exact wpAny_pure (.inl ⟨rfl, h₃⟩)
    | brk => exact wpAny_pure h₃
    | ret v => exact wpAny_pure h₃
end

section
variable {C : Cx} {σ σ' : AS} {s s' : Shared} {v w : Value} {d e : D} {h h' : Heap} {x y : Str} {pos p p' : Pos} {k : Nat} {scope : Scope}

def ItD (C : Cx) (iter tgt : Expr) (σ : AS) (Φ : List D → AS → Prop) : Prop :=
  ∀ s (Q : Value → Shared → Prop) E, St C σ s →
    (∀ I ds srcs dsrc Wr It Mid σ₁ s₁ h₂, Φ ds σ₁ → St C σ₁ s₁ → Reps (off C σ₁) s₁.heap srcs dsrc → Tr C σ s σ₁ s₁ → (∀ b o, s₁.heap.get? b = some o → h₂.get? b = some o) →
      Iter C.G.prog C.G.w C.A tgt I ds srcs dsrc Wr It Mid → It 0 h₂ → (∀ b, Wr b → s₁.heap.get? b = none) → Q (.ref I) { s₁ with heap := h₂ }) →
    wpAny (Mo C) C.A (eval iter C.env) (fun x s₁ => wpAny (Mo C) C.A (pyIter x) Q E s₁) E s

inductive ListP (Φ : List D → AS → Prop) (d : D) (σ : AS) : Prop
  | mk (ds : List D) (e : d = .list ds) (H : Φ ds σ)
inductive TupP (tgt : Expr) (Φ : List D → AS → Prop) (d : D) (σ : AS) : Prop
  | mk (n : ∃ x p, tgt = .Name x p) (ds : List D) (e : d = .tuple ds) (H : Φ ds σ)
inductive RngP (tgt : Expr) (Φ : List D → AS → Prop) (d : D) (σ : AS) : Prop
  | mk (n : ∃ x p, tgt = .Name x p) (a b : Int) (e : d = .rng a b) (h1 : -(2 ^ 62) ≤ a) (h2 : a < 2 ^ 62) (h3 : -(2 ^ 62) ≤ b) (h4 : b < 2 ^ 62) (H : Φ (rangeD a b) σ)
abbrev seqP (tgt : Expr) (Φ : List D → AS → Prop) : D → AS → Prop := fun d σ => ListP Φ d σ ∨ TupP tgt Φ d σ ∨ RngP tgt Φ d σ
theorem it_seq {iter tgt : Expr} {Φ : List D → AS → Prop} (K : CxOk C) (ht : okTgt tgt = true)
    (H : EvD C iter σ (seqP tgt Φ)) : ItD C iter tgt σ Φ := by
  intro s Q E S q
  refine H s _ _ S fun v d σ₁ s₁ h₁ S₁ r₁ t₁ => ?_
  rcases h₁ with ⟨ds, rfl, hf⟩ | ⟨⟨x, p, rfl⟩, ds, rfl, hf⟩ | ⟨⟨x, p, rfl⟩, a, b, rfl, b1, b2, b3, b4, hf⟩
  · obtain ⟨_, _, rfl, n, l, rs⟩ := r₁.list_inv
    obtain ⟨o₁, e₁, _⟩ := id l
    have hlt := Heap.lt_size e₁
    refine wpAny_pyIter_list l (q _ _ _ _ _ _ _ σ₁ s₁ _ hf S₁ (.one r₁) t₁ (push_k _ _) (iter_list ht K.handled (Nat.ne_of_lt hlt)) ⟨_, Heap.get?_push_size _ rfl, rfl, rfl⟩ fun b hb => ?_)
    rw [hb]; exact fresh_get _
  · obtain ⟨_, _, rfl, n, l, rs⟩ := r₁.tuple_inv
    refine PySem.wpAny_pyIter_tuple l (q _ _ _ _ _ _ _ σ₁ s₁ _ hf S₁ (.one r₁) t₁ (push_k _ _) (iter_tuple K.handled) ⟨_, Heap.get?_push_size _ rfl, rfl, rfl⟩ fun b hb => ?_)
    rw [hb]; exact fresh_get _
  · cases r₁ with | rng n l =>
    refine wpAny_pyIter_range l (small_one b1 b2 b3 b4) (q _ _ _ _ _ _ _ σ₁ s₁ _ hf S₁ .nil t₁ (push_k _ _) (iter_range K.handled) ?_ fun b hb => ?_)
    · have e1 : a + ((0 : Nat) : Int) = a := by simp
      have e2 : max (b - a) 0 - ((0 : Nat) : Int) = Builtin.Range.rangeSize a b 1 := by
        unfold Builtin.Range.rangeSize
        rw [if_pos (by decide)]
        simp only [Int.ediv_one]
        split <;> omega
      show IsRangeIter _ _ (a + ((0 : Nat) : Int)) (max (b - a) 0 - ((0 : Nat) : Int)) 1
      rw [e1, e2]
      exact Heap.get?_push_size _ rfl
    · rw [hb]; exact fresh_get _

def TgtOk (C : Cx) (tgt : Expr) (d : D) (σ σ' : AS) : Prop :=
  ∀ s v (Q : Unit → Shared → Prop) E, St C σ s → Rep (off C σ) s.heap v d → (∀ s', St C σ' s' → Tr C σ s σ' s' → Q () s') → wpAny (Mo C) C.A (assign tgt C.env v) Q E s
theorem tgt_name (K : CxOk C) (hx : Stores C x) : TgtOk C (.Name x p) d σ (σ.put x d) :=
  fun s v Q E S r q => wpAny_assign_Name (store_ok K hx S r q)
theorem tgt_tuple {ts : List Expr} {xs : List Str} {ds : List D} (K : CxOk C) (hn : namesOfT ts = some xs) (hx : ∀ x ∈ xs, Stores C x) (hl : ds.length = xs.length) : TgtOk C (.Tuple ts k p) (.tuple ds) σ (putAll σ xs ds) :=
  fun s v Q E S r q => unpack_ok K hn hx hl S r q

theorem Tr.fresh {Wr : Addr → Prop} {σ₀ : AS} {s₀ : Shared} (t : Tr C σ₀ s₀ σ s) (hf : ∀ b, Wr b → s₀.heap.get? b = none) (k : KeepsOff Wr s.heap h') (ex : ∀ b, Wr b → ∃ o, h'.get? b = some o) (tk : Nat) : Tr C σ₀ s₀ σ { s with heap := h', toks := tk } where
  keep b o n e := k b o (fun z => no_get (hf b z) e) (t.keep b o n e)
  ex b o e := by
    by_cases z : Wr b
    · exact ex b z
    · obtain ⟨o', e'⟩ := t.ex b o e; exact ⟨o', k b o' z e'⟩
  new := t.new
theorem Tr.freshEnd {Wr : Addr → Prop} {σ₀ : AS} {s₀ : Shared} (t : Tr C σ₀ s₀ σ s) (hf : ∀ b, Wr b → s₀.heap.get? b = none) (k : KeepsOff Wr s.heap h') (tk : Nat) : Tr C σ₀ s₀ σ { s with heap := h', toks := tk } where
  keep b o n e := k b o (fun z => no_get (hf b z) e) (t.keep b o n e)
  ex b o e := let ⟨o', e'⟩ := t.ex b o e; ⟨o', k b o' (fun z => no_get (hf b z) e) e'⟩
  new := t.new

theorem St.notown {X : Addr → Prop} {Wr : Addr → Prop} (K : CxOk C) (hW : ∀ b, Wr b → X b) (ap : Apart C Wr) (S : St (withX C X) σ s) : ∀ b, Wr b → ¬ own C σ b := by
  intro b z y
  rcases y with y | y
  · exact (ap b z).1 (K.OX b y)
  · obtain ⟨⟨p, o⟩, hm, rfl⟩ := List.mem_map.mp y
    exact (S.mu p o hm).2 (hW p z)

abbrev turnK (J : Nat → AS → Prop) (i : Nat) (Φ : FlowD → AS → Prop) : FlowD → AS → Prop := fun f σ' => match f with
  | .next | .cont => ∃ l, SubL l σ'.loc ∧ J (i + 1) ⟨l, σ'.mu⟩
  | .brk => Φ .next σ'
  | .ret d => Φ (.ret d) σ'
inductive ForP (C : Cx) (tgt : Expr) (body : List Stmt) (Φ : FlowD → AS → Prop) (ds : List D) (σ₁ : AS) : Prop
  | mk (bt : D → AS → AS) (J : Nat → AS → Prop) (j0 : J 0 σ₁)
    (turn : ∀ C', Like C C' → CxOk C' → ∀ i d σ, ds[i]? = some d → J i σ → TgtOk C' tgt d σ (bt d σ) ∧ XsD C' body (bt d σ) (turnK J i Φ))
    (fin : ∀ σ, J ds.length σ → Φ .next σ)
inductive ForI (C : Cx) (Wr : Addr → Prop) (ds : List D) (J : Nat → AS → Prop) (It : Nat → Heap → Prop) (srcs : List Value) (dsrc : List D) (σ₁ : AS) (s₁ : Shared) (n : Nat) (s : Shared) : Prop
  | mk (i : Nat) (σ : AS) (h1 : i ≤ ds.length) (h2 : n = ds.length + 1 - i) (h3 : J i σ) (h4 : St (withX C fun b => C.X b ∨ Wr b) σ s) (h5 : It i s.heap)
    (h6 : Reps (off (withX C fun b => C.X b ∨ Wr b) σ) s.heap srcs dsrc) (h7 : Tr C σ₁ s₁ σ s)
/-- a for over a list, a tuple or a range -/
theorem x_for {tgt iter : Expr} {body : List Stmt} {Φ : FlowD → AS → Prop} (K : CxOk C)
    (H : ItD C iter tgt σ (ForP C tgt body Φ))
    (hs : ∀ x, foldedSetIterable iter C.env x = pure x := by intro _; with_unfolding_all rfl) : XD C (.For tgt iter body [] pos) σ Φ := by
  intro s Q E S q
  refine wpAny_For ?_ hs
  refine H s _ _ S fun I ds srcs dsrc Wr It Mid σ₁ s₁ h₂ h₁ S₁ r₁ t₁ hk Z it0 hf => ?_
  obtain ⟨bt, J, j0, turn, fin⟩ := h₁
  have ap := apart_of S₁ hf
  have hX : ∀ b, C.X b → (fun b => C.X b ∨ Wr b) b := fun b z => .inl z
  have hW : ∀ b, Wr b → (fun b => C.X b ∨ Wr b) b := fun b z => .inr z
  have hWo : ∀ b, Wr b → ¬ off C σ₁ b := fun b z y => by obtain ⟨o, e⟩ := S₁.off_some y; exact no_get (hf b z) e
  have S₂ : St (withX C fun b => C.X b ∨ Wr b) σ₁ { s₁ with heap := h₂ } :=
    St.enterW K (fun b z => z) hWo (S₁.grow K hk s₁.toks) S₁ hk hf (Z.ex 0 h₂ it0) S₁.loc
  have r₂ : Reps (off (withX C fun b => C.X b ∨ Wr b) σ₁) h₂ srcs dsrc :=
    r₁.go (fun b z => z.elim (fun z => z.elim (fun z => .inl (.inl z)) fun z => .inr (hf b z)) fun z => .inl (.inr z)) (O := fun _ => False) (fun _ z => z.elim) (.of_all hk)
  have K' := K.withX (X := fun b => C.X b ∨ Wr b) hX
  refine forLoop_go (ForI C Wr ds J It srcs dsrc σ₁ s₁)
    ?_ (ds.length + 1) ⟨0, σ₁, Nat.zero_le _, rfl, j0, S₂, it0, r₂, .grow hk s₁.toks⟩
  rintro n s₃ ⟨i, σ₃, hi, rfl, ji, S₃, it₃, r₃, t₃⟩
  have hXs : ∀ b, off (withX C fun b => C.X b ∨ Wr b) σ₃ b → ∃ o, s₃.heap.get? b = some o := fun b z => S₃.off_some z
  cases hd : ds[i]? with
  | none =>
    have hle : i = ds.length := by
      have := List.getElem?_eq_none_iff.mp hd
      omega
    subst hle
    refine Z.done (off (withX C fun b => C.X b ∨ Wr b) σ₃) s₃ _ _ (fun b z => .inl (.inr z)) r₃ it₃ fun h' tk k => ?_
    refine wpAny_execs_nil ?_
    exact q _ _ _ _ (fin σ₃ ji) (S₃.leaveW K hX hW ap k tk) .next (t₁.trans (t₃.freshEnd hf k tk))
  | some d =>
    have hlt : i < ds.length := (List.getElem?_eq_some_iff.mp hd).1
    obtain ⟨T, B⟩ := turn _ (like_withX hX) K' i d σ₃ hd ji
    refine Z.item i d (off (withX C fun b => C.X b ∨ Wr b) σ₃) s₃ _ _ hd (fun b z => .inl (.inr z)) hXs r₃ it₃ fun v h' tk m rv k ex => ?_
    have S₄ := S₃.modW K hX hW ap k ex tk
    have t₄ := t₃.fresh hf k ex tk
    refine Z.mid i v _ _ _ m fun h'' it₅ k' => ?_
    have ex' := Z.ex _ _ it₅
    have S₅ := S₄.modW K hX hW ap k' ex' tk
    have t₅ := t₄.fresh hf k' ex' tk
    have rv₅ : Rep (off (withX C fun b => C.X b ∨ Wr b) σ₃) h'' v d := rv.go (fun _ z => .inl z) (fun b z => .inl (.inr z)) k'
    have r₅ : Reps (off (withX C fun b => C.X b ∨ Wr b) σ₃) h'' srcs dsrc := (r₃.go (fun _ z => .inl z) (fun b z => .inl (.inr z)) k).go (fun _ z => .inl z) (fun b z => .inl (.inr z)) k'
    refine T _ v _ _ S₅ rv₅ fun s₆ S₆ t₆ => ?_
    have it₆ : It (i + 1) s₆.heap := Z.frame _ _ _ it₅ fun b z o e => t₆.keep b o (S₅.notown K hW ap b z) e
    refine B s₆ _ _ S₆ fun f fd σ₇ s₇ h₇ S₇ fr t₇ => ?_
    have it₇ : It (i + 1) s₇.heap := Z.frame _ _ _ it₆ fun b z o e => t₇.keep b o (S₆.notown K hW ap b z) e
    have t8 : Tr C σ₁ s₁ σ₇ s₇ := (t₅.trans (show Tr C σ₃ _ _ _ from ⟨t₆.keep, t₆.ex, t₆.new⟩)).trans (show Tr C _ _ _ _ from ⟨t₇.keep, t₇.ex, t₇.new⟩)
    have r8 := (t₆.trans t₇).reps K' r₅
    have again : ∀ l, SubL l σ₇.loc → J (i + 1) ⟨l, σ₇.mu⟩ → ∃ m, m < ds.length + 1 - i ∧ ForI C Wr ds J It srcs dsrc σ₁ s₁ m s₇ :=
      fun l hl j => ⟨ds.length + 1 - (i + 1), by omega, i + 1, ⟨l, σ₇.mu⟩, hlt, rfl, j, S₇.sub hl, it₇, r8, ⟨t8.keep, t8.ex, t8.new⟩⟩
    have back : St C σ₇ s₇ := S₇.leaveW (Wr := fun _ => False) K hX (fun _ z => z.elim) (fun _ z => z.elim) .refl s₇.toks
    cases fr with
    | next => obtain ⟨l, hl, j⟩ := h₇; exact again l hl j
    | cont => obtain ⟨l, hl, j⟩ := h₇; exact again l hl j
    | brk => exact q _ _ _ _ h₇ back .next (t₁.trans t8)
    | ret r => exact q _ _ _ _ h₇ back (.ret (r.weaken fun b z => z.imp (hX b) id)) (t₁.trans t8)
end
end

section
section
variable {prog : Program} {w : World} {A : Around} {s : Shared} {R : Result → Shared → Prop}
theorem compLoop_go {elt target iter : Expr} {ifs : List Expr} {scope : Scope} {pos : Pos} {it acc : Value} {env : Env} (I : Nat → Shared → Prop)
    (turn : ∀ n s, I n s → wpAny (model prog w) A (pyNext it) (fun r s₁ => match r with
      | none => R (.ok .next) s₁
      | some v => wpAny (model prog w) A (letOwnedTupleGo target it v) (fun _ s₁ => wpAny (model prog w) A (assign target env v) (fun _ s₂ =>
          wpAny (model prog w) A (forIn ifs true fun c r => if r = true then do let ok ← isTrue c env (eval c env); pure (ForInStep.yield ok) else pure (ForInStep.yield r)) (fun ok s₃ =>
            if ok = true then wpAny (model prog w) A (eval elt env) (fun x s₄ =>
              wpAny (model prog w) A (call (.builtin "list.append") [acc, x]) (fun _ s₅ => ∃ m, m < n ∧ I m s₅) (notedBy (model prog w) A env fun e s' => R (.error e) s') s₄) (notedBy (model prog w) A env fun e s' => R (.error e) s') s₃
            else ∃ m, m < n ∧ I m s₃) (notedBy (model prog w) A env fun e s' => R (.error e) s') s₂) (notedBy (model prog w) A env fun e s' => R (.error e) s') s₁)
              (notedBy (model prog w) A env fun e s' => R (.error e) s') s₁) (notedBy (model prog w) A env fun e s' => R (.error e) s') s)
    (n : Nat) (h : I n s) : codeAny (model prog w) A (.compLoop (.ListComp elt [⟨target, iter, ifs, 0⟩] scope pos) 0 it acc env) R s := by
  refine codeAny_loop rfl I (fun n s hI => ?_) n h
  show wpAny _ A ((compTurn (.ListComp elt [⟨target, iter, ifs, 0⟩] scope pos) 0 it acc env).onRaise (fun x => do noteFrame x env; theTreesLotGoes x)) _ _ s
  refine wpAny_noted ?_
  rw [compTurn_list]
  refine wpAny_bind (wpAny_standAt (wpAny_bind (wpAny_mono (turn n s hI) (fun r s₁ h₁ => ?_) fun _ _ h' => h')))
  cases r with
  | none => exact wpAny_pure h₁
  | some v =>
    refine wpAny_bind (wpAny_mono h₁ (fun _ s₁ h₁ => wpAny_bind (wpAny_mono h₁ (fun _ s₂ h₂ => wpAny_bind (wpAny_mono h₂ (fun ok s₃ h₃ => ?_) fun _ _ h' => h')) fun _ _ h' => h')) fun _ _ h' => h')
    cases ok with
    | false => exact wpAny_pure ⟨rfl, h₃⟩
    | true =>
      exact wpAny_bind (wpAny_bind (wpAny_mono h₃ (fun x s₄ h₄ => wpAny_bind (wpAny_mono h₄ (fun _ s₅ h₅ => wpAny_pure (wpAny_pure ⟨rfl, h₅⟩)) fun _ _ h' => h')) fun _ _ h' => h'))
end

section
variable {C : Cx} {σ σ' : AS} {s s' : Shared} {v w : Value} {d e : D} {h h' : Heap} {x y : Str} {pos p p' : Pos} {k : Nat} {scope cs : Scope}

/-- all that stood is kept but what every callee may write -/
theorem St.frame (S : St C σ s) (K : CxOk C) (k : KeepsOff C.G.W s.heap s'.heap) (ex : ∀ b o, s.heap.get? b = some o → ∃ o', s'.heap.get? b = some o') (wd : Wd C.G s') : St C σ s' where
  wd := wd
  xb b z := let ⟨o, e⟩ := S.xb b z; ex b o e
  ns := let ⟨m, o, es, ep, e, r⟩ := S.ns; ⟨m, o, es, ep, k _ _ (fun y => (K.notW _ y).1 rfl) e, r⟩
  cells n c z := let ⟨u, o, e, r⟩ := S.cells n c z; ⟨u, o, k _ _ (fun y => (K.notW _ y).2 n z) e, r⟩
  loc y d z := by
    obtain ⟨u, q, r⟩ := S.loc y d z
    refine ⟨u, q.keep k fun sl hs => fun hw => ?_, r.go (fun _ z => .inl z) (fun b z => .inl (K.OX _ (K.WO _ z))) k⟩
    cases sl with
    | none => exact (K.notW _ hw).1 rfl
    | some c => exact (K.notW _ hw).2 _ (slot_cell hs).2
  mu p o z := by
    obtain ⟨q, n⟩ := S.mu p o z
    exact ⟨q.go (fun _ z => .inl z) (fun b z => .inl (K.OX _ (K.WO _ z))) k (fun o e => k p o (fun y => n (K.OX _ (K.WO _ y))) e), n⟩
  nd := S.nd
  m0 := S.m0
theorem Tr.frame (K : CxOk C) (k : KeepsOff C.G.W s.heap s'.heap) (ex : ∀ b o, s.heap.get? b = some o → ∃ o', s'.heap.get? b = some o') : Tr C σ s σ s' :=
  ⟨k.mono fun b z => .inl (K.WO b z), ex, fun _ z => .inl z⟩

/-- the names of a comprehension's block, where it stands -/
def relabelS (cs scope : Scope) : Scope :=
  { cs with names := cs.names.map fun (n, k) => if (k == .free && scope.kind == .function && scope.names.lookup n == some .cell) then (n, .cell) else (n, k) }
theorem relabel_eq (E : EnvIs C scope) : relabel cs C.env = relabelS cs scope := by
  unfold relabel relabelS Env.kindOf
  rw [E.sc]
def capt (cs : Scope) (l : List (Str × D)) : List (Str × D) := l.filter fun p => cs.names.lookup p.1 == some .cell
theorem capt_get {l : List (Str × D)} (z : (capt cs l).lookup x = some d) : l.lookup x = some d ∧ cs.names.lookup x = some .cell := by
  unfold capt at z
  induction l with
  | nil => simp at z
  | cons p l ih =>
    obtain ⟨y, e⟩ := p
    rw [List.filter_cons] at z
    by_cases hc : (cs.names.lookup y == some .cell) = true
    · rw [if_pos hc, List.lookup_cons] at z
      rw [List.lookup_cons]
      cases q : x == y with
      | true =>
        rw [q] at z
        have : x = y := eq_of_beq q
        subst this
        exact ⟨z, by simpa using hc⟩
      | false => rw [q] at z; exact ih z
    · rw [if_neg hc] at z
      obtain ⟨h1, h2⟩ := ih z
      rw [List.lookup_cons]
      cases q : x == y with
      | true =>
        have : x = y := eq_of_beq q
        subst this
        exact absurd (by simpa using h2) hc
      | false => exact ⟨h1, h2⟩

/-- the cells that a block takes along -/
theorem closure_some {env : Env} (names : List (Str × NameKind)) (acc : List (Str × Addr)) (h : ∀ z ∈ names, z.2 = .free → ∃ c, env.cells.lookup z.1 = some c) (ha : ∀ n c, acc.lookup n = some c → env.cells.lookup n = some c) :
    ∃ cl, (forIn names acc fun (z : Str × NameKind) (cs : List (Str × Addr)) => if (z.2 == .free) = true then (do let a ← cellOf env z.1; pure (ForInStep.yield ((z.1, a) :: cs)) : Sem _) else pure (ForInStep.yield cs)) = pure cl ∧
      (∀ n c, cl.lookup n = some c → env.cells.lookup n = some c) ∧ (∀ z ∈ names, z.2 = .free → ∃ c, cl.lookup z.1 = some c) ∧ (∀ n c, acc.lookup n = some c → ∃ c', cl.lookup n = some c') := by
  induction names generalizing acc with
  | nil => exact ⟨acc, by rw [List.forIn_nil], ha, fun z hz => (by cases hz), fun n c e => ⟨c, e⟩⟩
  | cons p r ih =>
    obtain ⟨n, k⟩ := p
    by_cases hk : k = .free
    · subst hk
      obtain ⟨c, hc⟩ := h (n, .free) (.head _) rfl
      have ha' : ∀ m c', List.lookup m ((n, c) :: acc) = some c' → env.cells.lookup m = some c' := by
        intro m c' e
        rw [List.lookup_cons] at e
        cases q : m == n with
        | true => rw [q] at e; cases e; rw [eq_of_beq q]; exact hc
        | false => rw [q] at e; exact ha m c' e
      obtain ⟨cl, e1, e2, e3, e4⟩ := ih ((n, c) :: acc) (fun z hz => h z (.tail _ hz)) ha'
      refine ⟨cl, ?_, e2, ?_, ?_⟩
      · rw [List.forIn_cons]
        have : cellOf env n = pure c := by unfold cellOf; rw [hc]
        simp only [beq_self_eq_true, if_true, this]
        exact e1
      · intro z hz hf
        rcases List.mem_cons.mp hz with rfl | hz
        · exact e4 n c (by rw [List.lookup_cons]; simp)
        · exact e3 z hz hf
      · intro m c' e
        cases q : m == n with
        | true => exact e4 m c (by rw [List.lookup_cons, q])
        | false => exact e4 m c' (by rw [List.lookup_cons, q]; exact e)
    · obtain ⟨cl, e1, e2, e3, e4⟩ := ih acc (fun z hz => h z (.tail _ hz)) ha
      refine ⟨cl, ?_, e2, ?_, e4⟩
      · rw [List.forIn_cons]
        have : (k == NameKind.free) = false := by simpa using hk
        simp only [this, Bool.false_eq_true, if_false]
        exact e1
      · intro z hz hf
        rcases List.mem_cons.mp hz with rfl | hz
        · exact absurd hf hk
        · exact e3 z hz hf

def TtD (C : Cx) (ifs : List Expr) (σ : AS) (Φ : Bool → AS → Prop) : Prop :=
  TbD C (forIn ifs true fun c r => if r = true then do let ok ← isTrue c C.env (eval c C.env); pure (ForInStep.yield ok) else pure (ForInStep.yield r)) σ Φ
theorem tt_nil {Φ : Bool → AS → Prop} (H : Φ true σ) : TtD C [] σ Φ := fun _ _ _ S q => wpAny_tests_nil (q _ _ _ H S .refl)
theorem tt_one {Φ : Bool → AS → Prop} {c : Expr} (H : BvD C c σ Φ) : TtD C [c] σ Φ := fun s Q E S q => wpAny_tests_one (H s Q E S q)

/-- what a comprehension's block is: its names, where it stands -/
structure CompOk (cs scope : Scope) : Prop where
  kind : cs.kind = .function
  nocell : ∀ x ∈ cs.names, x.2 ≠ .cell
  names : ∀ x ∈ cs.names, x.2 = .local → cs.names.lookup x.1 = some .local
  free : ∀ x ∈ cs.names, x.2 = .free → scope.names.lookup x.1 = some .cell
theorem lookup_map_cell {f : Str × NameKind → Str × NameKind} (hf : ∀ p, (f p).1 = p.1) {l : List (Str × NameKind)} {x : Str} {k : NameKind} (h : (l.map f).lookup x = some k) : ∃ k0, (x, k0) ∈ l ∧ (f (x, k0)).2 = k := by
  induction l with
  | nil => cases h
  | cons p r ih =>
    rw [List.map_cons, List.lookup_cons, hf p] at h
    cases q : x == p.1 with
    | true =>
      rw [q] at h; cases h
      have : x = p.1 := eq_of_beq q
      subst this
      exact ⟨p.2, .head _, rfl⟩
    | false =>
      rw [q] at h
      obtain ⟨k1, h1, h2⟩ := ih h
      exact ⟨k1, .tail _ h1, h2⟩

abbrev tstK (b0 : Bool) (σ0 : AS) : Bool → AS → Prop := fun b σ' => b = b0 ∧ σ' = σ0
abbrev eltK (P : D → D → Prop) (d : D) (σ0 : AS) : D → AS → Prop := fun e σ' => P d e ∧ σ' = σ0
inductive CompB (C' : Cx) (elt tgt : Expr) (ifs : List Expr) (p : D → Bool) (P : D → D → Prop) (d : D) (σ0 σ2 : AS) : Prop
  | mk (T : TgtOk C' tgt d σ0 σ2) (S : SubL σ0.loc σ2.loc) (m : σ2.mu = []) (t : TtD C' ifs σ2 (tstK (p d) σ2)) (e : p d = true → EvD C' elt σ2 (eltK P d σ2))
inductive CompP (C : Cx) (cs scope : Scope) (elt tgt : Expr) (ifs : List Expr) (Φ : List D → AS → Prop) (ds : List D) (σ₁ : AS) : Prop
  | mk (hsz : ds.length ≤ sizeLine) (bt : D → AS → AS) (p : D → Bool) (P : D → D → Prop)
    (body : ∀ C', CxOk C' → C'.G = C.G → C'.k = C.k → EnvIs C' (relabelS cs scope) → ∀ d ∈ ds, CompB C' elt tgt ifs p P d ⟨capt (relabelS cs scope) σ₁.loc, []⟩ (bt d ⟨capt (relabelS cs scope) σ₁.loc, []⟩))
    (close : ∀ es, Paired P (ds.filter p) es → Φ es σ₁)
inductive CompI (Cw : Cx) (σ0 : AS) (It : Nat → Heap → Prop) (srcs : List Value) (dsrc : List D) (D0 : Addr) (P : D → D → Prop) (p : D → Bool) (ds : List D) (W : Addr → Prop) (h₁ : Heap) (n : Nat) (s : Shared) : Prop
  | mk (i : Nat) (es : List D) (vs : List Value) (hi : i ≤ ds.length) (hn : n = ds.length + 1 - i) (S : St Cw σ0 s) (it : It i s.heap) (r : Reps (off Cw σ0) s.heap srcs dsrc) (l : s.heap.IsList D0 vs.toArray)
    (re : Reps (off Cw σ0) s.heap vs es) (pp : Paired P ((ds.take i).filter p) es) (hel : es.length ≤ i) (kk : KeepsOff W h₁ s.heap) (ex : ∀ b o, h₁.get? b = some o → ∃ o', s.heap.get? b = some o')
theorem comp_ok {elt tgt iter : Expr} {ifs : List Expr} {Φ : List D → AS → Prop} (K : CxOk C) (E : EnvIs C scope) (hc : CompOk cs scope) (use : Option (Value → Sem Unit)) (Q : Value → Shared → Prop) (EE : Value → Shared → Prop) (S : St C σ s)
    (H : ItD C iter tgt σ (CompP C cs scope elt tgt ifs Φ))
    (fin : ∀ es v σ₁ s', Φ es σ₁ → St C σ₁ s' → Rep (off C σ₁) s'.heap v (.list es) → Tr C σ s σ₁ s' →
      ∀ L', s.heap.get? L' = none → ¬ off C σ₁ L' → (∃ m, s'.heap.Ns L' m) → 
      (match use with
        | none => ∀ h', Heap.SameBut L' s'.heap h' → Q v { s' with heap := h' }
        | some u => wpAny (Mo C) C.A (u v) (fun _ s'' => ∃ m, s''.heap.Ns L' m ∧ ∀ h', Heap.SameBut L' s''.heap h' → Q .none { s'' with heap := h' }) EE s'))
    (hs : ∀ x, foldedSetIterable iter C.env x = pure x) :
    wpAny (Mo C) C.A (comprehension (.ListComp elt [⟨tgt, iter, ifs, 0⟩] cs pos) cs C.env p' (newList []) false (eval iter C.env) use) Q EE s := by
  obtain ⟨cl, hcl, c2, c3, _⟩ := closure_some (env := C.env) cs.names [] (fun z hz hf => E.cells z.1 (hc.free z hz hf)) (fun n c e => by simp at e)
  have e0 : closureFor cs C.env = (forIn cs.names ([] : List (Str × Addr)) (fun (z : Str × NameKind) (cs : List (Str × Addr)) => if (z.2 == .free) = true then (do let a ← cellOf C.env z.1; pure (ForInStep.yield ((z.1, a) :: cs)) : Sem _) else pure (ForInStep.yield cs)) >>= fun r => pure r) := rfl
  have hclos : closureFor cs C.env = pure cl := by rw [e0, hcl]; rfl
  refine wpAny_comprehension_free (use := use) rfl hs hclos hc.kind hc.names ?_
  refine H s _ _ S fun I ds srcs dsrc Wr It Mid σ₁ s₁ h₂ h₁ S₁ r₁ t₁ hk Z it0 hf => ?_
  obtain ⟨hsz, bt, p, P, body, close⟩ := h₁
  -- the new list, the block's own names
  refine wpAny_newObj_type (wpAny_newFunctionEnv hc.nocell (by intro y hy; simp at hy) (fun h₃ hns₃ hsb₃ => ?_) hc.kind)
  dsimp only at hns₃ hsb₃ ⊢
  generalize hH : h₂.push { cls := .type "list", dict := none, data := .seq ([] : List Value).toArray } = H2 at hns₃ hsb₃ ⊢
  have hC : H2.objs.size = h₂.objs.size + 1 := by rw [← hH, Heap.size_push]
  have hDC : h₂.objs.size ≠ H2.objs.size := by rw [hC]; exact Nat.ne_of_lt (Nat.lt_succ_self _)
  have k12 : ∀ b o, h₂.get? b = some o → h₃.get? b = some o := fun b o e =>
    hsb₃.extBut b o (by rw [hC]; exact Nat.ne_of_lt (Nat.lt_succ_of_lt (Heap.lt_size e))) (push_k _ _ b o (hH ▸ push_k _ _ b o e))
  have k13 : ∀ b o, s₁.heap.get? b = some o → h₃.get? b = some o := fun b o e => k12 b o (hk b o e)
  have fD : s₁.heap.get? h₂.objs.size = none := by
    cases e : s₁.heap.get? h₂.objs.size with
    | none => rfl
    | some o => exact absurd (Heap.lt_size (hk _ _ e)) (Nat.lt_irrefl _)
  have fL : s₁.heap.get? H2.objs.size = none := by
    cases e : s₁.heap.get? H2.objs.size with
    | none => rfl
    | some o => have := Heap.lt_size (hk _ _ e); rw [hC] at this; exact absurd (Nat.lt_of_succ_lt this) (Nat.lt_irrefl _)
  have hD0 : h₃.IsList h₂.objs.size #[] := ⟨_, hsb₃.extBut _ _ hDC (push_k _ _ _ _ (hH ▸ Heap.get?_push_size _ rfl)), rfl, _, rfl⟩
  generalize hDe : h₂.objs.size = D0 at *
  generalize hLe : H2.objs.size = L' at *
  -- the block's context
  let Ci : Cx := { G := C.G, env := compEnvC cs cl L' C.env, A := C.A, X := fun b => off C σ₁ b ∨ b = L', O := fun b => C.G.W b ∨ b = L', k := C.k }
  have offs : ∀ b, off C σ₁ b → ∃ o, s₁.heap.get? b = some o := fun b z => S₁.off_some z
  have Woff : ∀ b, C.G.W b → off C σ₁ b := fun b z => .inl (K.OX _ (K.WO _ z))
  have clo : ∀ n c, cl.lookup n = some c → off C σ₁ c := fun n c z => .inl (K.cellsX n c (c2 n c z))
  have nL : ¬ off C σ₁ L' := fun z => by obtain ⟨o, e⟩ := offs _ z; exact no_get fL e
  have Ki : CxOk Ci := {
    G := K.G, kind := hc.kind, glob := K.glob, blt := K.blt, LO := .inr rfl
    OX := fun b z => z.imp (Woff b) id
    WO := fun b z => .inl z
    O0 := fun b z => z.elim (fun z => K.O0 b (K.WO b z)) fun z => by
      cases e : C.G.h₀.get? b with
      | none => rfl
      | some o => exact (no_get (z ▸ fL) (S₁.wd.base b o e)).elim
    apart1 := fun n c z e => nL ((show c = L' from e) ▸ clo n c z)
    apart2 := fun n n' c z z' => K.apart2 n n' c (c2 n c z) (c2 n' c z')
    notW := fun b z => ⟨fun e => nL ((show b = L' from e) ▸ Woff b z), fun n e => (K.notW b z).2 n (c2 n b e)⟩
    handled := K.handled, room := K.room, units := K.units
    cellsX := fun n c z => .inl (clo n c z) }
  have Ei : EnvIs Ci (relabelS cs scope) := by
    refine ⟨relabel_eq E, fun x z => ?_⟩
    obtain ⟨k0, hm, hk0⟩ := lookup_map_cell (f := fun (n, k) => if (k == .free && scope.kind == .function && scope.names.lookup n == some .cell) then (n, .cell) else (n, k)) (fun p => by dsimp only; split <;> rfl) z
    by_cases hfr : k0 = .free
    · exact c3 (x, k0) hm hfr
    · exfalso
      have : (k0 == NameKind.free) = false := by simpa using hfr
      simp only [this, Bool.false_and, Bool.false_eq_true, if_false] at hk0
      exact hc.nocell _ hm hk0
  have nWL : ∀ b, Wr b → b ≠ L' := fun b z e => by
    obtain ⟨o, q⟩ := Z.ex 0 h₂ it0 b z
    have := Heap.lt_size q
    rw [e, hC, hDe] at this
    exact absurd (Nat.lt_of_succ_lt this) (Nat.lt_irrefl _)
  have nWD : ∀ b, Wr b → b ≠ D0 := fun b z e => by
    obtain ⟨o, q⟩ := Z.ex 0 h₂ it0 b z
    have := Heap.lt_size q
    rw [e, hDe] at this
    exact absurd this (Nat.lt_irrefl _)
  have nD : ¬ off C σ₁ D0 := fun z => by obtain ⟨o, e⟩ := offs _ z; exact no_get fD e
  have base0 : ∀ b, s₁.heap.get? b = none → C.G.h₀.get? b = none := fun b n => by
    cases e : C.G.h₀.get? b with
    | none => rfl
    | some o => exact (no_get n (S₁.wd.base b o e)).elim
  have nX : ∀ b, Ci.X b → Ci.X b ∨ (Wr b ∨ b = D0) := fun b z => .inl z
  have K' := Ki.withX nX
  have E' : EnvIs (withX Ci fun b => Ci.X b ∨ (Wr b ∨ b = D0)) (relabelS cs scope) := Ei.like (like_withX nX)
  have ap : Apart Ci fun b => Wr b ∨ b = D0 := by
    intro b z
    rcases z with z | z
    · refine ⟨fun y => ?_, base0 b (hf b z)⟩
      rcases y with y | y
      · obtain ⟨o, e⟩ := offs _ y; exact no_get (hf b z) e
      · exact nWL b z y
    · subst z
      refine ⟨fun y => ?_, base0 _ fD⟩
      rcases y with y | y
      · exact nD y
      · exact hDC y
  have toX : ∀ b, off (withX Ci fun b => Ci.X b ∨ (Wr b ∨ b = D0)) ⟨capt (relabelS cs scope) σ₁.loc, []⟩ b → off C σ₁ b ∨ s₁.heap.get? b = none := by
    intro b z
    rcases z with (((z | z) | z | z)) | z
    · exact .inl z
    · exact .inr (z ▸ fL)
    · exact .inr (hf b z)
    · exact .inr (z ▸ fD)
    · simp [AS.key] at z
  have S₃ : St (withX Ci fun b => Ci.X b ∨ (Wr b ∨ b = D0)) ⟨capt (relabelS cs scope) σ₁.loc, []⟩ { s₁ with heap := h₃, toks := s₁.toks + ([] : List (Str × Value)).length } := {
    wd := ⟨fun b o e => k13 _ _ (S₁.wd.base b o e), S₁.wd.gens, S₁.wd.os, K.G.jk _ _ S₁.wd.j fun b o _ e => k13 b o e⟩
    xb := fun b z => by
      rcases z with (z | z) | z | z
      · obtain ⟨o, e⟩ := offs b z; exact ⟨o, k13 _ _ e⟩
      · obtain ⟨o, _, _, e, _⟩ := hns₃; exact ⟨o, z ▸ e⟩
      · obtain ⟨o, e⟩ := Z.ex 0 h₂ it0 b z; exact ⟨o, k12 _ _ e⟩
      · obtain ⟨o, e, _⟩ := hD0; exact ⟨o, z ▸ e⟩
    ns := ⟨_, hns₃⟩
    cells := fun n c z => by obtain ⟨u, o, e, r⟩ := S₁.cells n c (c2 n c z); exact ⟨u, o, k13 _ _ e, r⟩
    loc := fun x d z => by
      obtain ⟨z1, z2⟩ := capt_get z
      obtain ⟨u, hu, ru⟩ := S₁.loc x d z1
      refine ⟨u, ?_, ru.go toX (O := fun _ => False) (fun _ z => z.elim) (.of_all k13)⟩
      obtain ⟨c, hc'⟩ := E'.cells x z2
      have hck : C.env.kindOf x = some .cell := by
        obtain ⟨k0, hm, hk0⟩ := lookup_map_cell (f := fun (n, k) => if (k == .free && scope.kind == .function && scope.names.lookup n == some .cell) then (n, .cell) else (n, k)) (fun p => by dsimp only; split <;> rfl) z2
        by_cases hfr : k0 = .free
        · rw [E.kindOf]; exact hc.free (x, k0) hm hfr
        · exfalso
          have : (k0 == NameKind.free) = false := by simpa using hfr
          simp only [this, Bool.false_and, Bool.false_eq_true, if_false] at hk0
          exact hc.nocell _ hm hk0
      have hs1 : slotOf C.env x = some (some c) := by unfold slotOf; rw [hck]; simp [c2 x c hc']
      have hs2 : slotOf Ci.env x = some (some c) := by
        have : Ci.env.kindOf x = some .cell := by
          have := Ei.kindOf x
          rw [this]; exact z2
        unfold slotOf; rw [this]
        show Option.map some (cl.lookup x) = _
        rw [show cl.lookup x = some c from hc']; rfl
      show Holds Ci.env h₃ x u
      unfold Holds at hu ⊢
      rw [hs1] at hu; rw [hs2]
      obtain ⟨o, e, r⟩ := hu; exact ⟨o, k13 _ _ e, r⟩
    mu := fun p o z => by simp at z
    nd := by simp
    m0 := fun p o z => by simp at z }
  have Wnew : ∀ b o, s₁.heap.get? b = some o → ¬ C.G.W b → ¬ Ci.O b := fun b o e n y => y.elim n fun z => no_get (z ▸ fL) e
  have ownD : ¬ Ci.O D0 := fun y => y.elim (fun z => nD (Woff _ z)) hDC
  have nokey : ∀ (σ : AS), σ.mu = [] → ∀ b, ¬ σ.key b := fun σ h b z => by unfold AS.key at z; rw [h] at z; simp at z
  have r₃ : Reps (off (withX Ci fun b => Ci.X b ∨ (Wr b ∨ b = D0)) ⟨capt (relabelS cs scope) σ₁.loc, []⟩) h₃ srcs dsrc := r₁.go toX (O := fun _ => False) (fun _ z => z.elim) (.of_all k13)
  have it₃ : It 0 h₃ := Z.frame _ _ _ it0 fun b z o e => k12 b o e
  -- the turns
  have loop : ∀ s₃ : Shared, s₃ = { s₁ with heap := h₃, toks := s₁.toks + ([] : List (Str × Value)).length } →
      codeAny (Mo C) C.A (.compLoop (.ListComp elt [⟨tgt, iter, ifs, 0⟩] cs pos) 0 (.ref I) (.ref D0) Ci.env) (compPost (Mo C) C.A EE use Q (.ref D0) L') s₃ := by
    rintro s₃ rfl
    refine compLoop_go (CompI (withX Ci fun b => Ci.X b ∨ (Wr b ∨ b = D0)) ⟨capt (relabelS cs scope) σ₁.loc, []⟩ It srcs dsrc D0 P p ds C.G.W s₁.heap)
      ?_ (ds.length + 1) ⟨0, [], [], Nat.zero_le _, rfl, S₃, it₃, r₃, hD0, .nil, by simpa using Paired.nil, Nat.le_refl _, .of_all k13, fun b o e => ⟨o, k13 b o e⟩⟩
    rintro n s₄ ⟨i, es, vs, hi, rfl, S₄, it₄, r₄, l₄, re₄, pp, hel, kk, exx⟩
    cases hd : ds[i]? with
    | none =>
      have hle : i = ds.length := by
        have := List.getElem?_eq_none_iff.mp hd
        omega
      subst hle
      refine Z.done _ s₄ _ _ (fun b z => .inl (.inr (.inl z))) r₄ it₄ fun h' tk k => ?_
      rw [List.take_length] at pp
      have k5 : KeepsOff C.G.W s₁.heap h' := fun b o n e => k b o (fun z => no_get (hf b z) e) (kk b o n e)
      have ex5 : ∀ b o, s₁.heap.get? b = some o → ∃ o', h'.get? b = some o' := fun b o e => by
        obtain ⟨o', e'⟩ := exx b o e
        exact ⟨o', k b o' (fun z => no_get (hf b z) e) e'⟩
      have wd5 : Wd C.G { s₄ with heap := h', toks := tk } := ⟨fun b o e => k _ _ (fun z => no_get (base0 b (hf b z)) e) (S₄.wd.base b o e), S₄.wd.gens, S₄.wd.os, K.G.jk _ _ S₄.wd.j fun b o z e => k b o (fun y => by obtain ⟨o', e'⟩ := offs b (Woff b z); exact no_get (hf b y) e') e⟩
      have S5 : St C σ₁ { s₄ with heap := h', toks := tk } := S₁.frame (s' := { s₄ with heap := h', toks := tk }) K k5 ex5 wd5
      have t5 : Tr C σ s σ₁ { s₄ with heap := h', toks := tk } := t₁.trans (.frame K k5 ex5)
      have rep : Rep (off C σ₁) h' (.ref D0) (.list es) := by
        refine .list nD ?_ (re₄.go (fun b z => .inl (.inl (.inl (.inl z)))) (fun b z => .inl (.inr (.inl z))) k)
        obtain ⟨o, e, r⟩ := l₄
        exact ⟨o, k _ _ (fun z => nWD _ z rfl) e, r⟩
      have ns5 : ∃ m, h'.Ns L' m := by
        obtain ⟨m, o, es', ep, e, r⟩ := S₄.ns
        exact ⟨m, o, es', ep, k _ _ (fun z => nWL _ z rfl) e, r⟩
      have fin5 := fin es (.ref D0) σ₁ { s₄ with heap := h', toks := tk } (close es pp) S5 rep t5 L' (Tr.back t₁.ex fL) nL ns5
      cases use with
      | none => obtain ⟨m, hm⟩ := ns5; exact ⟨m, hm, fin5⟩
      | some u => exact fin5
    | some d =>
      have hlt : i < ds.length := (List.getElem?_eq_some_iff.mp hd).1
      have hmem : d ∈ ds := List.mem_of_getElem? hd
      obtain ⟨T, sub, hmu, tests, el⟩ := body _ K' rfl rfl E' d hmem
      refine Z.item i d _ s₄ _ _ hd (fun b z => .inl (.inr (.inl z))) (fun b z => S₄.off_some z) r₄ it₄ fun v h' tk m rv k ex => ?_
      have kX : KeepsOff (fun b => Wr b ∨ b = D0) s₄.heap h' := k.mono fun b z => .inl z
      have S5 := S₄.modW Ki nX (fun b z => .inr z) ap kX (fun b z => z.elim (ex b) fun z => by obtain ⟨o, e, _⟩ := l₄; exact ⟨o, z ▸ k _ _ (fun z => nWD _ z rfl) e⟩) tk
      refine Z.mid i v _ _ _ m fun h'' it₅ k' => ?_
      have kX' : KeepsOff (fun b => Wr b ∨ b = D0) h' h'' := k'.mono fun b z => .inl z
      have l6 : h''.IsList D0 vs.toArray := by obtain ⟨o, e, r⟩ := l₄; exact ⟨o, k' _ _ (fun z => nWD _ z rfl) (k _ _ (fun z => nWD _ z rfl) e), r⟩
      have S6 := S5.modW Ki nX (fun b z => .inr z) ap kX' (fun b z => z.elim (Z.ex _ _ it₅ b) fun z => by obtain ⟨o, e, _⟩ := l6; exact ⟨o, z ▸ e⟩) tk
      have WX : ∀ b, Wr b → off (withX Ci fun b => Ci.X b ∨ (Wr b ∨ b = D0)) ⟨capt (relabelS cs scope) σ₁.loc, []⟩ b := fun b z => .inl (.inr (.inl z))
      have rv6 := rv.go (fun _ z => .inl z) WX k'
      have r6 := (r₄.go (fun _ z => .inl z) WX k).go (fun _ z => .inl z) WX k'
      have re6 := (re₄.go (fun _ z => .inl z) WX k).go (fun _ z => .inl z) WX k'
      have kk6 : KeepsOff C.G.W s₁.heap h'' := fun b o n e => k' b o (fun z => no_get (hf b z) e) (k b o (fun z => no_get (hf b z) e) (kk b o n e))
      have ex6 : ∀ b o, s₁.heap.get? b = some o → ∃ o', h''.get? b = some o' := fun b o e => by
        obtain ⟨o', e'⟩ := exx b o e
        exact ⟨o', k' b o' (fun z => no_get (hf b z) e) (k b o' (fun z => no_get (hf b z) e) e')⟩
      refine T _ v _ _ S6 rv6 fun s7 S7 t7 => ?_
      refine tests s7 _ _ S7 fun b σ8 s8 hb S8 t8 => ?_
      obtain ⟨rfl, rfl⟩ := hb
      have t78 := t7.trans t8
      have own1 : ∀ b, Ci.O b → own (withX Ci fun b => Ci.X b ∨ (Wr b ∨ b = D0)) ⟨capt (relabelS cs scope) σ₁.loc, []⟩ b := fun b z => .inl z
      have notown : ∀ (σ : AS), σ.mu = [] → ∀ b, ¬ Ci.O b → ¬ own (withX Ci fun b => Ci.X b ∨ (Wr b ∨ b = D0)) σ b := fun σ h b n z => z.elim n (nokey σ h b)
      have nWO : ∀ b, Wr b → ¬ Ci.O b := fun b z y => y.elim (fun w => by obtain ⟨o', e'⟩ := offs b (Woff b w); exact no_get (hf b z) e') (nWL b z)
      have it8 : It (i + 1) s8.heap := Z.frame _ _ _ it₅ fun b z o e => t78.keep b o (notown _ rfl b (nWO b z)) e
      have r8 := t78.reps K' r6
      have re8 := t78.reps K' re6
      have l8 : s8.heap.IsList D0 vs.toArray := by obtain ⟨o, e, r⟩ := l6; exact ⟨o, t78.keep _ _ (notown _ rfl _ ownD) e, r⟩
      have kk8 : KeepsOff C.G.W s₁.heap s8.heap := fun b o n e => t78.keep b o (notown _ rfl b (Wnew b o e n)) (kk6 b o n e)
      have ex8 : ∀ b o, s₁.heap.get? b = some o → ∃ o', s8.heap.get? b = some o' := fun b o e => by
        obtain ⟨o', e'⟩ := ex6 b o e
        exact t78.ex b o' e'
      have same : ∀ b, off (withX Ci fun b => Ci.X b ∨ (Wr b ∨ b = D0)) ⟨capt (relabelS cs scope) σ₁.loc, []⟩ b → off (withX Ci fun b => Ci.X b ∨ (Wr b ∨ b = D0)) (bt d ⟨capt (relabelS cs scope) σ₁.loc, []⟩) b := fun b z => z.elim .inl fun z => (nokey _ rfl b z).elim
      have tk1 : (ds.take (i + 1)).filter p = (ds.take i).filter p ++ (if p d then [d] else []) := by
        rw [List.take_add_one, hd, Option.toList_some, List.filter_append]
        cases hp : p d <;> simp [hp]
      cases hp : p d with
      | false =>
        rw [if_neg (by decide)]
        refine ⟨ds.length + 1 - (i + 1), by omega, i + 1, es, vs, hlt, rfl, ?_, it8, r8.weaken same, l8, re8.weaken same, ?_, Nat.le_succ_of_le hel, kk8, ex8⟩
        · have := S8.sub sub
          rw [hmu] at this; exact this
        · rw [tk1, hp]; simpa using pp
      | true =>
        rw [if_pos rfl]
        refine el hp s8 _ _ S8 fun u e σ9 s9 he S9 r9 t9 => ?_
        obtain ⟨pe, rfl⟩ := he
        have it9 : It (i + 1) s9.heap := Z.frame _ _ _ it8 fun b z o e => t9.keep b o (notown _ hmu b (nWO b z)) e
        have l9 : s9.heap.IsList D0 vs.toArray := by obtain ⟨o, e, r⟩ := l8; exact ⟨o, t9.keep _ _ (notown _ hmu _ ownD) e, r⟩
        refine wpAny_list_append l9 (fun h10 l10 hs10 => ?_) (by rw [List.size_toArray, re₄.length]; omega)
        have k10 : KeepsOff (fun b => Wr b ∨ b = D0) s9.heap h10 := fun b o n e => hs10.extBut b o (fun z => n (.inr z)) e
        have S9' : St (withX Ci fun b => Ci.X b ∨ (Wr b ∨ b = D0)) ⟨capt (relabelS cs scope) σ₁.loc, []⟩ s9 := by
          have := S9.sub sub
          rw [hmu] at this; exact this
        have it10 : It (i + 1) h10 := Z.frame _ _ _ it9 fun b z o e => hs10.extBut b o (nWD b z) e
        have S10 := S9'.modW Ki nX (fun b z => .inr z) ap k10 (fun b z => z.elim (Z.ex _ _ it10 b) fun z => by obtain ⟨o, e, _⟩ := l10; exact ⟨o, z ▸ e⟩) s9.toks
        have DX : ∀ b, b = D0 → off (withX Ci fun b => Ci.X b ∨ (Wr b ∨ b = D0)) ⟨capt (relabelS cs scope) σ₁.loc, []⟩ b := fun b z => .inl (.inr (.inr z))
        have kD : KeepsOff (· = D0) s9.heap h10 := sameBut_keeps hs10
        have r10 := ((t9.reps K' r8).weaken same).go (fun _ z => .inl z) DX kD
        have re10 := ((t9.reps K' re8).weaken same).go (fun _ z => .inl z) DX kD
        have ru10 := (r9.weaken same).go (fun _ z => .inl z) DX kD
        refine ⟨ds.length + 1 - (i + 1), by omega, i + 1, es ++ [e], vs ++ [u], hlt, rfl, S10, it10, r10, by simpa using l10, re10.append (.one ru10), ?_, by simp; omega, ?_, ?_⟩
        · rw [tk1, hp]; exact Paired.snoc pp pe
        · exact fun b o n e => hs10.extBut b o (fun z => no_get (z ▸ fD) e) (t9.keep b o (notown _ hmu b (Wnew b o e n)) (kk8 b o n e))
        · intro b o e
          obtain ⟨o', e'⟩ := ex8 b o e
          obtain ⟨o'', e''⟩ := t9.ex b o' e'
          exact ⟨o'', hs10.extBut b o'' (fun z => no_get (z ▸ fD) e) e''⟩
  exact codeAny_compStart_list (loop _ rfl) (Z.self 0 _ _ _ it₃ (loop _ rfl))
end
end

section
section
variable {C : Cx} {σ σ' : AS} {s s' : Shared} {v w : Value} {d e : D} {h h' : Heap} {x y : Str} {pos p p' : Pos} {k : Nat} {scope cs : Scope}

theorem ns_not {L : Addr} {m : Str → Option Value} {o : Obj} (n : h.Ns L m) (e : h.get? L = some o) : ∃ es ep, o.data = .dict es ep := by
  obtain ⟨o', es, ep, e', q, _⟩ := n
  rw [e] at e'; cases e'; exact ⟨es, ep, q⟩
theorem ns_ok {X : Addr → Prop} {L : Addr} {m : Str → Option Value} (n : h.Ns L m) (k : ∀ b o, b ≠ L → h.get? b = some o → h'.get? b = some o) (b : Addr) (o : Obj) (nx : ¬ X b) (e : h.get? b = some o) (nd : ∀ es ep, o.data ≠ .dict es ep) : ¬ X b ∧ h'.get? b = some o :=
  ⟨nx, k b o (fun q => by obtain ⟨es, ep, z⟩ := ns_not n (q ▸ e); exact nd _ _ z) e⟩
theorem Rep.modNs {X : Addr → Prop} {L : Addr} {m : Str → Option Value} (n : h.Ns L m) (k : ∀ b o, b ≠ L → h.get? b = some o → h'.get? b = some o) {v : Value} {d : D} (r : Rep X h v d) : Rep X h' v d := r.map (ns_ok n k)
theorem Reps.modNs {X : Addr → Prop} {L : Addr} {m : Str → Option Value} (n : h.Ns L m) (k : ∀ b o, b ≠ L → h.get? b = some o → h'.get? b = some o) {vs : List Value} {ds : List D} (r : Reps X h vs ds) : Reps X h' vs ds := r.map (ns_ok n k)
theorem St.modL {L : Addr} {m : Str → Option Value} (S : St C σ s) (K : CxOk C) (n : s.heap.Ns L m) (nL : ¬ off C σ L) (h0 : C.G.h₀.get? L = none) (k : ∀ b o, b ≠ L → s.heap.get? b = some o → h'.get? b = some o) (tk : Nat) :
    St C σ { s with heap := h', toks := tk } where
  wd := ⟨fun b o e => k _ _ (fun q => no_get (q ▸ h0) e) (S.wd.base b o e), S.wd.gens, S.wd.os, K.G.jk _ _ S.wd.j fun b o z e => k b o (fun q => nL (.inl (q ▸ K.OX _ (K.WO _ z)))) e⟩
  xb b z := let ⟨o, e⟩ := S.xb b z; ⟨o, k _ _ (fun q => nL (.inl (q ▸ z))) e⟩
  ns := let ⟨m, o, es, ep, e, r⟩ := S.ns; ⟨m, o, es, ep, k _ _ (fun q => nL (.inl (q ▸ K.OX _ K.LO))) e, r⟩
  cells n c z := let ⟨u, o, e, r⟩ := S.cells n c z; ⟨u, o, k _ _ (fun q => nL (.inl (q ▸ K.cellsX _ _ z))) e, r⟩
  loc y d z := by
    obtain ⟨u, q, r⟩ := S.loc y d z
    refine ⟨u, q.keep (O := (· = L)) (fun b o n e => k b o n e) fun sl hs => fun hw => ?_, r.modNs n k⟩
    cases sl with
    | none => exact nL (.inl ((show C.env.locals = L from hw) ▸ K.OX _ K.LO))
    | some c => exact nL (.inl ((show c = L from hw) ▸ K.cellsX _ _ (slot_cell hs).2))
  mu p o z := by
    obtain ⟨q, n'⟩ := S.mu p o z
    refine ⟨?_, n'⟩
    have np : p ≠ L := fun e => nL (.inr (e ▸ List.mem_map.mpr ⟨_, z, rfl⟩))
    cases o with
    | list ds => obtain ⟨vs, ⟨j, hq⟩, r⟩ := q; exact ⟨vs, ⟨j, k _ _ np hq⟩, r.modNs n k⟩
    | keys ks => obtain ⟨kvs, ⟨o, es, ep, e, r⟩, q⟩ := q; exact ⟨kvs, ⟨o, es, ep, k _ _ np e, r⟩, q⟩
  nd := S.nd
  m0 := S.m0
theorem Tr.modL {L : Addr} {σ₀ : AS} {s₀ : Shared} (t : Tr C σ₀ s₀ σ s) (f : s₀.heap.get? L = none) (k : ∀ b o, b ≠ L → s.heap.get? b = some o → h'.get? b = some o) (tk : Nat) : Tr C σ₀ s₀ σ { s with heap := h', toks := tk } :=
  t.freshEnd (Wr := (· = L)) (fun b z => z ▸ f) (fun b o n e => k b o n e) tk
theorem St.base0 (S : St C σ s) {b : Addr} (n : s.heap.get? b = none) : C.G.h₀.get? b = none := by
  cases e : C.G.h₀.get? b with
  | none => rfl
  | some o => exact (no_get n (S.wd.base b o e)).elim

def CompH (C : Cx) (σ : AS) (scope cs : Scope) (elt tgt iter : Expr) (ifs : List Expr) (Φ : List D → AS → Prop) : Prop :=
  ItD C iter tgt σ (CompP C cs scope elt tgt ifs Φ)

abbrev lstK (Φ : D → AS → Prop) : List D → AS → Prop := fun es σ₁ => Φ (.list es) σ₁
abbrev lsgK (y : Str) (Φ : FlowD → AS → Prop) : List D → AS → Prop := fun es σ₁ => Φ .next (σ₁.put y (.list es))
theorem ev_comp {elt tgt iter : Expr} {ifs : List Expr} {Φ : D → AS → Prop} (K : CxOk C) (E : EnvIs C scope) (hc : CompOk cs scope) (H : CompH C σ scope cs elt tgt iter ifs (lstK Φ))
    (hs : ∀ x, foldedSetIterable iter C.env x = pure x := by intro _; with_unfolding_all rfl) : EvD C (.ListComp elt [⟨tgt, iter, ifs, 0⟩] cs pos) σ Φ := by
  intro s Q EE S q
  refine comp_ok (p' := firstIterPos [⟨tgt, iter, ifs, 0⟩] pos) K E hc none Q EE S H (fun es v σ₁ s' hf S' r' t' L' hL nL ⟨m, hm⟩ h' hb => ?_) hs
  have k := hb.extBut
  exact q _ _ _ _ hf (S'.modL K hm nL (S.base0 hL) k s'.toks) (r'.modNs hm k) (t'.modL hL k s'.toks)

def env0 (scope : Scope) : Env := { scope := scope, locals := 0, globals := 0, cells := [] }
theorem swaps_env {vv : Expr} {t : Option Expr} {line : Nat} (E : EnvIs C scope) : swapsWith vv t line C.env = swapsWith vv t line (env0 scope) := by
  unfold swapsWith Env.blockKind Env.kindOf
  rw [E.sc]; rfl
theorem swapped_env {ts : List Expr} {vv : Expr} (E : EnvIs C scope) : swappedStores ts vv C.env = swappedStores ts vv (env0 scope) := by
  unfold swappedStores Env.blockKind Env.kindOf
  rw [E.sc]; rfl

theorem x_assign_comp {elt tgt iter : Expr} {ifs : List Expr} {Φ : FlowD → AS → Prop} {cpos : Pos} (K : CxOk C) (E : EnvIs C scope) (hc : CompOk cs scope) (hy : Stores C y)
    (H : CompH C σ scope cs elt tgt iter ifs (lsgK y Φ))
    (hsw : swapsWith (.ListComp elt [⟨tgt, iter, ifs, 0⟩] cs cpos) (some (.Name y p)) pos.line (env0 scope) = pure true := by with_unfolding_all rfl)
    (hs : ∀ x, foldedSetIterable iter C.env x = pure x := by intro _; with_unfolding_all rfl) : XD C (.Assign [.Name y p] (.ListComp elt [⟨tgt, iter, ifs, 0⟩] cs cpos) pos) σ Φ := by
  intro s Q EE S q
  rw [exec_Assign_Name_used _ _ _ _ ((swaps_env E).trans hsw)]
  refine wpAny_bind (wpAny_standAt (wpAny_bind ?_))
  show wpAny _ C.A (do let _ ← comprehension (.ListComp elt [⟨tgt, iter, ifs, 0⟩] cs cpos) cs C.env (firstIterPos [⟨tgt, iter, ifs, 0⟩] cpos) (newList []) false (eval iter C.env) (some (assign (.Name y p) C.env))) _ _ s
  refine wpAny_bind (comp_ok (p' := firstIterPos [⟨tgt, iter, ifs, 0⟩] cpos) K E hc (some (assign (.Name y p) C.env)) _ EE S H (fun es v σ₁ s' hf S' r' t' L' hL nL ⟨m, hm⟩ => ?_) hs)
  refine wpAny_assign_Name (store_ok K hy S' r' fun s'' S'' t'' => ?_)
  have nL' : ¬ own C σ₁ L' := fun z => nL (own_off K _ z)
  have hm' : s''.heap.Ns L' m := by obtain ⟨o, es', ep, e, r⟩ := hm; exact ⟨o, es', ep, t''.keep _ _ nL' e, r⟩
  refine ⟨m, hm', fun h' hb => wpAny_pure (wpAny_pure ?_)⟩
  have k := hb.extBut
  exact q _ _ _ _ hf (S''.modL K hm' nL (S.base0 hL) k s''.toks) .next ((t'.trans t'').modL hL k s''.toks)

/-- names stored from behind, as the interpreter swaps them -/
inductive SwapP (xs : List Str) (Φ : FlowD → AS → Prop) (d : D) (σ₁ : AS) : Prop
  | mk (ds : List D) (e : d = .tuple ds) (hl : ds.length = xs.length) (H : Φ .next (putAll σ₁ xs.reverse ds.reverse))
theorem x_swap {Φ : FlowD → AS → Prop} {e : Expr} {ts : List Expr} {xs : List Str} (K : CxOk C) (E : EnvIs C scope) (hx : ∀ x ∈ xs, Stores C x)
    (H : EvD C e σ (SwapP xs Φ))
    (hw : swappedStores [.Tuple ts k p] e (env0 scope) = pure (some xs) := by with_unfolding_all rfl) (hs : swapsWithSole [.Tuple ts k p] e pos.line C.env = pure false := by with_unfolding_all rfl) : XD C (.Assign [.Tuple ts k p] e pos) σ Φ := by
  intro s Q EE S q
  rw [exec_Assign_arm]
  refine wpAny_bind (wpAny_standAt ?_)
  rw [hs]
  refine wpAny_bind (wpAny_pure ?_)
  rw [if_neg (by decide)]
  refine wpAny_bind (H s _ _ S fun v d σ₁ s₁ h₁ S₁ r₁ t₁ => ?_)
  obtain ⟨ds, rfl, hl, hf⟩ := h₁
  rw [swapped_env E, hw]
  refine wpAny_bind (wpAny_pure ?_)
  show wpAny _ _ (do rule "assign.swapped-stores"; let items ← unpackItems v xs.length none; assignInOrder (xs.reverse.map fun n => bindName C.env n) items.reverse; pure Flow.next) _ _ s₁
  refine wpAny_bind (wpAny_rule ?_)
  obtain ⟨_, _, rfl, n, l, rs⟩ := r₁.tuple_inv
  rename_i a vs
  have hn : xs.length = vs.toArray.size := by rw [List.size_toArray, rs.length, hl]
  rw [hn]
  refine wpAny_bind (wpAny_unpackItems_tuple K.handled l fun h' hb => ?_)
  have k : ∀ b o, s₁.heap.get? b = some o → h'.get? b = some o := fun b o e => hb b o (Nat.ne_of_lt (Heap.lt_size e)) e
  have t := Tr.grow (C := C) (σ := σ₁) k s₁.toks
  refine wpAny_bind ?_
  refine assign_order K s₁ xs.reverse _ _ ds.reverse σ₁ _ (by simp) (by simp [hl]) (fun i f hi => ?_) (S₁.grow K k s₁.toks) (by simpa using (t.reps K rs).reverse) fun s' S' t' => wpAny_pure ?_
  · rw [List.getElem?_map] at hi
    obtain ⟨z, hz, rfl⟩ := Option.map_eq_some_iff.mp hi
    exact ⟨z, hz, hx z (by simpa using List.mem_of_getElem? hz), fun _ _ _ _ w => w⟩
  · exact q _ _ _ _ hf S' .next (t₁.trans (t.trans t'))

/-- names, cells among them, out of a written tuple -/
theorem x_unpackE {Φ : FlowD → AS → Prop} {e : Expr} {ts : List Expr} {xs : List Str} (K : CxOk C) (E : EnvIs C scope) (hn : namesOfT ts = some xs) (hx : ∀ x ∈ xs, Stores C x) 
    (H : EvD C e σ (PutP xs Φ))
    (hw : swappedStores [.Tuple ts k p] e (env0 scope) = pure none := by with_unfolding_all rfl) (hs : swapsWithSole [.Tuple ts k p] e pos.line C.env = pure false := by with_unfolding_all rfl) : XD C (.Assign [.Tuple ts k p] e pos) σ Φ :=
  x_unpack K hn hx H hs ((swapped_env E).trans hw)

/-- a while by a measure -/
theorem x_while {t : Expr} {body : List Stmt} {Φ : FlowD → AS → Prop} (K : CxOk C) (J : Nat → AS → Prop) (n : Nat) (j : J n σ)
    (turn : ∀ n σ, J n σ → BvD C t σ fun b σ₁ => (b = true → XsD C body σ₁ fun f σ' => match f with
        | .next | .cont => ∃ l m, m < n ∧ SubL l σ'.loc ∧ J m ⟨l, σ'.mu⟩
        | .brk => Φ .next σ'
        | .ret d => Φ (.ret d) σ') ∧ (b = false → Φ .next σ₁)) : XD C (.While t body [] pos) σ Φ := by
  intro s Q EE S q
  refine wpAny_While ?_
  refine codeAny_whileLoop (fun n s' => ∃ σ', J n σ' ∧ St C σ' s' ∧ Tr C σ s σ' s') ?_ n ⟨σ, j, S, .refl⟩
  rintro n s₁ ⟨σ₁, j₁, S₁, t₁⟩
  refine turn n σ₁ j₁ s₁ _ _ S₁ fun b σ₂ s₂ h₂ S₂ t₂ => ?_
  cases b with
  | false => rw [if_neg (by decide)]; exact wpAny_execs_nil (q _ _ _ _ (h₂.2 rfl) S₂ .next (t₁.trans t₂))
  | true =>
    rw [if_pos rfl]
    refine h₂.1 rfl s₂ _ _ S₂ fun f fd σ₃ s₃ h₃ S₃ fr t₃ => ?_
    have t13 := (t₁.trans t₂).trans t₃
    cases fr with
    | next => obtain ⟨l, m, hm, hl, j3⟩ := h₃; exact ⟨m, hm, _, j3, S₃.sub hl, ⟨t13.keep, t13.ex, t13.new⟩⟩
    | cont => obtain ⟨l, m, hm, hl, j3⟩ := h₃; exact ⟨m, hm, _, j3, S₃.sub hl, ⟨t13.keep, t13.ex, t13.new⟩⟩
    | brk => exact q _ _ _ _ h₃ S₃ .next t13
    | ret r => exact q _ _ _ _ h₃ S₃ (.ret r) t13
end
end

section
/-- the contract of a def of the text -/
def Fn (G : GC) (f : Str) (k : Nat) (ds : List D) (Ψ : D → Prop) : Prop :=
  ∀ (A : Around) (X : Addr → Prop) (s : Shared) (vs : List Value) (a : Addr) (Q E : Value → Shared → Prop), G.mg f = some (.ref a) → A.handled = none → A.depth + k < recursionLimit → A.units + 200 + 8 * k < cLine →
    Wd G s → (∀ b, X b → ∃ o, s.heap.get? b = some o) → (∀ b, G.W b → X b) → Reps X s.heap vs ds →
    (∀ v d s', Ψ d → Wd G s' → KeepsOff G.W s.heap s'.heap → (∀ b o, s.heap.get? b = some o → ∃ o', s'.heap.get? b = some o') → Rep X s'.heap v d → Q v s') →
    wpAny (model G.prog G.w) A (call (.ref a) vs) Q E s

section
variable {C : Cx} {σ σ' : AS} {s s' : Shared} {v w : Value} {d e : D} {h h' : Heap} {x y f : Str} {pos p p' : Pos} {k : Nat} {scope cs : Scope}

theorem Fn.mono {G : GC} {ds : List D} {Ψ Ψ' : D → Prop} (F : Fn G f k ds Ψ) (hm : ∀ d, Ψ d → Ψ' d) : Fn G f k ds Ψ' :=
  fun A X s vs a Q E h1 h2 h3 h4 h5 h6 h7 h8 q => F A X s vs a Q E h1 h2 h3 h4 h5 h6 h7 h8 fun v d s' p => q v d s' (hm d p)

theorem ev_global {Q : Value → Shared → Prop} {EE} {a : Value} (K : CxOk C) (E : EnvIs C scope) (hx : scope.names.lookup f = some .globalImplicit) (S : St C σ s) (hm : C.G.mg f = some a) (q : Q a s)
    (hd : (f == ("__debug__" : Str)) = false := by decide) : wpAny (Mo C) C.A (eval (.Name f p) C.env) Q EE s :=
  Calls.Name_function_global K.kind (by rw [E.kindOf, hx]) (Calls.loadGlobal_global (by rw [K.glob]; exact K.G.g.keeps S.wd.base) hm q) hd
theorem ev_builtin {Q : Value → Shared → Prop} {EE} {a : Value} (K : CxOk C) (E : EnvIs C scope) (hx : scope.names.lookup f = some .globalImplicit) (S : St C σ s)
    (hm : f ∈ ([Str.ofString "len", Str.ofString "max", Str.ofString "range", Str.ofString "sorted", Str.ofString "list", Str.ofString "tuple", Str.ofString "zip"] : List Str)) (hv : bootBuiltins f = some a) (q : Q a s)
    (hd : (f == ("__debug__" : Str)) = false := by decide) : wpAny (Mo C) C.A (eval (.Name f p) C.env) Q EE s :=
  Calls.Name_function_global K.kind (by rw [E.kindOf, hx]) (Calls.loadGlobal_builtin (by rw [K.glob]; exact K.G.g.keeps S.wd.base) (K.G.miss f hm) (by rw [K.blt]; exact K.G.b.keeps S.wd.base) (by rw [K.G.builtins f hm]; exact hv) q) hd

inductive CallP (C : Cx) (f : Str) (Φ : D → AS → Prop) (ds : List D) (σ₁ : AS) : Prop
  | mk (kk : Nat) (Ψ : D → Prop) (F : Fn C.G f kk ds Ψ) (hk : kk ≤ C.k) (H : ∀ d, Ψ d → Φ d σ₁)
theorem ev_call {params : Arguments} {body : List Stmt} {fsc : Scope} {a : Expr} {r : List Expr} {Φ : D → AS → Prop} (K : CxOk C) (E : EnvIs C scope) (hx : scope.names.lookup f = some .globalImplicit)
    (he : (f, params, body, fsc) ∈ fnTable)
    (H : TsE C (a :: r) pos σ (CallP C f Φ))
    (hst : starEach (a :: r) C.env = (false, eval a C.env) :: starEach r C.env := by with_unfolding_all rfl) (hd : (f == ("__debug__" : Str)) = false := by decide) : EvD C (.Call (.Name f p) (a :: r) [] pos) σ Φ := by
  intro s Q EE S q
  obtain ⟨fa, FI⟩ := K.G.fn _ he
  obtain ⟨o, pm, code, doc, ho, hdat, hcd⟩ := FI.fn
  refine wpAny_Call_NameR (ev_global K E hx S FI.mg ?_ hd)
  refine callWith_def hdat (H s _ _ S fun vs ds σ₁ s₁ h₁ S₁ r₁ t₁ => ⟨S₁.wd.base _ _ ho, ?_⟩) hst
  obtain ⟨kk, Ψ, F, hk, hf⟩ := h₁
  have hroom := K.room
  have hunits := K.units
  refine F C.A (off C σ₁) s₁ vs fa Q EE FI.mg K.handled (by omega) (by omega) S₁.wd (fun b z => S₁.off_some z) (fun b z => .inl (K.OX _ (K.WO _ z))) r₁ fun v d s' hp wd kp ex rv => ?_
  exact q _ _ _ _ (hf d hp) (S₁.frame K kp ex wd) rv (t₁.trans (.frame K kp ex))

theorem bindL_miss {kindOf : Str → Option NameKind} : ∀ {binds : List (Str × Value)} {m : Str → Option Value} {x : Str}, x ∉ binds.map (·.1) → bindL kindOf binds m x = m x
  | [], _, _, _ => rfl
  | (n, v) :: r, m, x, h => by
    simp only [List.map_cons, List.mem_cons, not_or] at h
    unfold bindL
    rw [bindL_miss h.2]
    split
    · exact if_neg h.1
    · rfl
theorem bindC_miss {kindOf : Str → Option NameKind} : ∀ {binds : List (Str × Value)} {m : Str → Option Value} {x : Str}, x ∉ binds.map (·.1) → bindC kindOf binds m x = m x
  | [], _, _, _ => rfl
  | (n, v) :: r, m, x, h => by
    simp only [List.map_cons, List.mem_cons, not_or] at h
    unfold bindC
    rw [bindC_miss h.2]
    split
    · rfl
    · exact if_neg h.1
theorem bindL_get {kindOf : Str → Option NameKind} {binds : List (Str × Value)} {m : Str → Option Value} {x : Str} {v : Value} (hn : (binds.map (·.1)).Nodup) (hm : (x, v) ∈ binds) (hk : kindOf x = some .local) : bindL kindOf binds m x = some v := by
  induction binds generalizing m with
  | nil => cases hm
  | cons p r ih =>
    obtain ⟨n, u⟩ := p
    have hn := List.nodup_cons.mp hn
    unfold bindL
    rcases List.mem_cons.mp hm with e | hm
    · cases e
      rw [bindL_miss hn.1, if_pos hk, if_pos rfl]
    · exact ih hn.2 hm
theorem bindC_get {kindOf : Str → Option NameKind} {binds : List (Str × Value)} {m : Str → Option Value} {x : Str} {v : Value} (hn : (binds.map (·.1)).Nodup) (hm : (x, v) ∈ binds) (hk : kindOf x ≠ some .local) : bindC kindOf binds m x = some v := by
  induction binds generalizing m with
  | nil => cases hm
  | cons p r ih =>
    obtain ⟨n, u⟩ := p
    have hn := List.nodup_cons.mp hn
    unfold bindC
    rcases List.mem_cons.mp hm with e | hm
    · cases e
      rw [bindC_miss hn.1, if_neg hk, if_pos rfl]
    · exact ih hn.2 hm
theorem zip_look {X : Addr → Prop} {h : Heap} {xs : List Str} {vs : List Value} {ds : List D} {x : Str} {d : D} (r : Reps X h vs ds) (z : (xs.zip ds).lookup x = some d) : ∃ v, (x, v) ∈ xs.zip vs ∧ Rep X h v d := by
  induction xs generalizing vs ds with
  | nil => cases z
  | cons y xs ih =>
    cases r with
    | nil => cases z
    | cons a r =>
      rw [List.zip_cons_cons, List.lookup_cons] at z
      cases q : x == y with
      | true => rw [q] at z; cases z; rw [eq_of_beq q]; exact ⟨_, .head _, a⟩
      | false =>
        rw [q] at z
        obtain ⟨u, hu, ru⟩ := ih r z
        exact ⟨u, .tail _ hu, ru⟩

theorem fn_body {G : GC} (hG : GOk G) {params : Arguments} {body : List Stmt} {xs : List Str} {ds : List D} {Ψ : D → Prop} (he : (f, params, body, scope) ∈ fnTable)
    (hbind : ∀ pm code doc (vs : List Value), vs.length = xs.length → bindArgs (Calls.docDef f params body scope pm code doc) ⟨vs, []⟩ = pure (xs.zip vs)) (hlen : ds.length = xs.length) (hnd : xs.Nodup)
    (hv : ∀ x ∈ xs, isVar scope x = true) (hcn : ∀ n, ((cellsFrom n scope.names []).map (·.1)).Nodup)
    (hco : scope.isCoroutine = false) (hgen : scope.isGenerator = false) (hk : scope.kind = .function)
    (H : ∀ C, C.G = G → C.k = k → CxOk C → FnEnv C scope → XsD C body ⟨xs.zip ds, []⟩ fun fl _ => ∃ d, fl = .ret d ∧ Ψ d) : Fn G f (k + 1) ds Ψ := by
  intro A X s vs a Q EE hmg hh hroom hunits wd xb wx r q
  obtain ⟨fa, FI⟩ := hG.fn _ he
  obtain ⟨o, pm, code, doc, ho, hdat, hcd⟩ := FI.fn
  have ea : fa = a := by have := FI.mg; rw [hmg] at this; cases this; rfl
  subst ea
  have hvl : vs.length = xs.length := by rw [r.length, hlen]
  have cellvar : ∀ n x, scope.names.lookup x = some .cell → ((cellsFrom n scope.names []).lookup x).isSome = true := fun n x z => cellsFrom_some _ _ _ (.inl z)
  refine wpAny_call (codeAny_call_cells (fd := Calls.docDef f params body scope pm code doc) (by omega) (wd.base _ _ ho) hdat (hG.nolimit.keeps wd.base) (hcd.keeps wd.base) rfl (hbind pm code doc vs hvl) rfl (fun z hz => ?_) (fun s₁ I => ?_) hco hgen hk)
  · have : z.1 ∈ xs := (List.of_mem_zip hz).1
    rcases Bool.or_eq_true_iff.mp (hv _ this) with q | q
    · have q' : scope.names.lookup z.1 = some .local := by simpa using q
      exact .inl q'
    · have q' : scope.names.lookup z.1 = some .cell := by simpa using q
      exact .inr ⟨q', cellvar _ _ q'⟩
  · generalize hEnv : callEnvC (Calls.docDef f params body scope pm code doc) s.heap.objs.size fa = env at I ⊢
    have eL : env.locals = s.heap.objs.size := by rw [← hEnv]; rfl
    have eS : env.scope = scope := by rw [← hEnv]; rfl
    have eC : env.cells = cellsFrom (s.heap.objs.size + 1) scope.names [] := by rw [← hEnv]; rfl
    obtain ⟨h1, tk1, es1⟩ := I.toInCall.same
    have keep := I.toInCall.keep
    have cellAbove : ∀ n c, env.cells.lookup n = some c → env.locals < c := fun n c z => I.above n c (mem_of_lookup z)
    have freshL : ∀ b, env.locals ≤ b → s.heap.get? b = none := fun b z => by
      cases e : s.heap.get? b with
      | none => rfl
      | some o' => exact absurd (Heap.lt_size e) (Nat.not_lt.mpr (by rw [← eL]; exact z))
    have base0 : ∀ b, s.heap.get? b = none → G.h₀.get? b = none := fun b n => by
      cases e : G.h₀.get? b with
      | none => rfl
      | some o => exact (no_get n (wd.base b o e)).elim
    have fL := freshL _ (Nat.le_refl _)
    have fC : ∀ n c, env.cells.lookup n = some c → s.heap.get? c = none := fun n c z => freshL _ (Nat.le_of_lt (cellAbove n c z))
    have wex : ∀ b, G.W b → ∃ o, s.heap.get? b = some o := fun b z => xb b (wx b z)
    let C : Cx := { G := G, env := env, A := A.deeper env, X := fun b => X b ∨ b = env.locals ∨ ∃ n, env.cells.lookup n = some b, O := fun b => G.W b ∨ b = env.locals ∨ ∃ n, env.cells.lookup n = some b, k := k }
    have K : CxOk C := {
      G := hG, kind := by show env.scope.kind = _; rw [eS]; exact hk
      glob := by show env.globals = _; rw [← hEnv]; rfl
      blt := by show env.builtins = _; rw [← hEnv]; rfl
      LO := .inr (.inl rfl)
      OX := fun b z => z.imp (wx b) id
      WO := fun b z => .inl z
      O0 := fun b z => by
        rcases z with z | z | ⟨n, z⟩
        · exact hG.w0 b z
        · exact base0 b (z ▸ fL)
        · exact base0 b (fC n b z)
      apart1 := fun n c z e => absurd (cellAbove n c z) (by rw [show c = env.locals from e]; exact Nat.lt_irrefl _)
      apart2 := fun n n' c z z' => name_of_addr I.apart (mem_of_lookup z) (mem_of_lookup z')
      notW := fun b z => ⟨fun e => by obtain ⟨o, q⟩ := wex b z; exact no_get ((show b = env.locals from e) ▸ fL) q, fun n e => by obtain ⟨o, q⟩ := wex b z; exact no_get (fC n b e) q⟩
      handled := hh
      room := by show A.depth + 1 + k < _; omega
      units := by show A.units + 3 + 200 + 8 * k < _; omega
      cellsX := fun n c z => .inr (.inr ⟨n, z⟩) }
    have E : FnEnv C scope := { sc := eS, cells := fun x z => by
                                  have := cellvar (s.heap.objs.size + 1) x z
                                  rw [← eC] at this
                                  exact Option.isSome_iff_exists.mp this
                                cellsO := fun n c z => .inr (.inr ⟨n, z⟩) }
    have toX : ∀ b, off C ⟨xs.zip ds, []⟩ b → X b ∨ s.heap.get? b = none := by
      intro b z
      rcases z with (z | z | ⟨n, z⟩) | z
      · exact .inl z
      · exact .inr (z ▸ fL)
      · exact .inr (fC n b z)
      · simp [AS.key] at z
    have S₁ : St C ⟨xs.zip ds, []⟩ s₁ := {
      wd := ⟨fun b o e => keep b o (wd.base b o e), by rw [es1]; exact wd.gens, by rw [es1]; exact wd.os, hG.jk _ _ wd.j fun b o _ e => keep b o e⟩
      xb := fun b z => by
        rcases z with z | z | ⟨n, z⟩
        · obtain ⟨o, e⟩ := xb b z; exact ⟨o, keep _ _ e⟩
        · obtain ⟨o, _, _, e, _⟩ := I.toInCall.ns; exact ⟨o, z ▸ e⟩
        · obtain ⟨o, e, _⟩ := I.cell n b z; exact ⟨o, e⟩
      ns := ⟨_, I.toInCall.ns⟩
      cells := fun n c z => ⟨_, I.cell n c z⟩
      loc := fun x d z => by
        obtain ⟨u, hu, ru⟩ := zip_look r z
        refine ⟨u, ?_, ru.go toX (O := fun _ => False) (fun _ z => z.elim) (.of_all keep)⟩
        have hx : x ∈ xs := (List.of_mem_zip hu).1
        have hnd' : ((xs.zip vs).map (·.1)).Nodup := by
          have : (xs.zip vs).map (·.1) = xs := List.map_fst_zip (by omega)
          rw [this]; exact hnd
        show Holds env s₁.heap x u
        unfold Holds slotOf
        have hkx : env.kindOf x = scope.names.lookup x := by unfold Env.kindOf; rw [eS]
        rcases Bool.or_eq_true_iff.mp (hv x hx) with q | q
        · have q' : scope.names.lookup x = some .local := by simpa using q
          rw [hkx, q']
          exact ⟨_, I.toInCall.ns, bindL_get hnd' hu (hkx.trans q')⟩
        · have q' : scope.names.lookup x = some .cell := by simpa using q
          rw [hkx, q']
          obtain ⟨c, hc⟩ := E.cells x q'
          simp only [show env.cells.lookup x = some c from hc, Option.map_some]
          have := I.cell x c hc
          rw [bindC_get hnd' hu (by rw [hkx, q']; decide)] at this
          exact this
      mu := fun p o z => by simp at z
      nd := by simp
      m0 := fun p o z => by simp at z }
    refine H C rfl rfl K E s₁ _ _ S₁ fun fl fd σ' s' hf S' fr t => ?_
    obtain ⟨d, rfl, hd⟩ := hf
    cases fr with | ret rv =>
    refine q _ d s' hd S'.wd (fun b o n e => t.keep b o (fun z => ?_) (keep b o e)) (fun b o e => t.ex b o (keep b o e)) (rv.weaken fun b z => .inl (.inl z))
    rcases z with (z | z | ⟨m, z⟩) | z
    · exact n z
    · exact no_get (z ▸ fL) e
    · exact no_get (fC m b z) e
    · simp [AS.key] at z
end
end

section
def CalD (fv : Value) (C : Cx) (σ : AS) (ds : List D) (Φ : D → AS → Prop) : Prop :=
  ∀ s (Q : Value → Shared → Prop) E vs, St C σ s → Reps (off C σ) s.heap vs ds → (∀ v d σ' s', Φ d σ' → St C σ' s' → Rep (off C σ') s'.heap v d → Tr C σ s σ' s' → Q v s') → wpAny (Mo C) C.A (call fv vs) Q E s

section
variable {C : Cx} {σ σ' : AS} {s s' : Shared} {v w : Value} {d e : D} {h h' : Heap} {x y f : Str} {pos p p' : Pos} {k : Nat} {scope cs : Scope} {Φ : D → AS → Prop}

theorem ev_bcall {id : String} {a : Expr} {r : List Expr} (K : CxOk C) (E : EnvIs C scope) (hx : scope.names.lookup f = some .globalImplicit)
    (hm : f ∈ ([Str.ofString "len", Str.ofString "max", Str.ofString "range", Str.ofString "sorted", Str.ofString "list", Str.ofString "tuple", Str.ofString "zip"] : List Str)) (hv : bootBuiltins f = some (.builtin id))
    (H : TsE C (a :: r) pos σ fun ds σ₁ => CalD (.builtin id) C σ₁ ds Φ)
    (hst : starEach (a :: r) C.env = (false, eval a C.env) :: starEach r C.env := by with_unfolding_all rfl) (hplain : (backTo pos (starEach r C.env)).any (·.1) = false := by with_unfolding_all rfl) (hd : (f == ("__debug__" : Str)) = false := by decide) :
    EvD C (.Call (.Name f p) (a :: r) [] pos) σ Φ := by
  intro s Q EE S q
  refine wpAny_Call_NameR (ev_builtin K E hx S hm hv ?_ hd)
  refine callWith_builtin1 (H s _ _ S fun vs ds σ₁ s₁ h₁ S₁ r₁ t₁ => h₁ s₁ Q EE vs S₁ r₁ fun v d σ' s' p S' r' t' => q v d σ' s' p S' r' (t₁.trans t')) hst hplain
theorem ev_tcall {T : String} {a : Expr} {r : List Expr} (K : CxOk C) (E : EnvIs C scope) (hx : scope.names.lookup f = some .globalImplicit)
    (hm : f ∈ ([Str.ofString "len", Str.ofString "max", Str.ofString "range", Str.ofString "sorted", Str.ofString "list", Str.ofString "tuple", Str.ofString "zip"] : List Str)) (hv : bootBuiltins f = some (.type T))
    (H : TsE C (a :: r) pos σ fun ds σ₁ => CalD (.type T) C σ₁ ds Φ)
    (hst : starEach (a :: r) C.env = (false, eval a C.env) :: starEach r C.env := by with_unfolding_all rfl) (hplain : (backTo pos (starEach r C.env)).any (·.1) = false := by with_unfolding_all rfl) (hd : (f == ("__debug__" : Str)) = false := by decide) :
    EvD C (.Call (.Name f p) (a :: r) [] pos) σ Φ := by
  intro s Q EE S q
  refine wpAny_Call_NameR (ev_builtin K E hx S hm hv ?_ hd)
  refine PyProof.Rows.callWith_type1 (H s _ _ S fun vs ds σ₁ s₁ h₁ S₁ r₁ t₁ => h₁ s₁ Q EE vs S₁ r₁ fun v d σ' s' p S' r' t' => q v d σ' s' p S' r' (t₁.trans t')) hst hplain

theorem cal_len {ds : List D} (K : CxOk C) (hl : ds.length < 2 ^ 62) (H : Φ (.int ds.length) σ) (hd : d = .list ds ∨ d = .tuple ds) : CalD (.builtin "len") C σ [d] Φ := by
  intro s Q E vs S r q
  have z9 := r.cons_inv; clear r; obtain ⟨_, _, rfl, r, r'⟩ := z9
  obtain rfl := r'.nil_inv
  rcases hd with rfl | rfl
  · obtain ⟨_, _, rfl, n, l, rs⟩ := r.list_inv
    refine PyProof.Rows.len_list l (by rw [List.size_toArray, rs.length]; omega) ?_
    rw [List.size_toArray, rs.length]
    exact q _ _ _ _ H (S.tok K _) (.int _ _) (.tok _)
  · obtain ⟨_, _, rfl, n, l, rs⟩ := r.tuple_inv
    refine PyProof.Rows.len_tuple l (by rw [List.size_toArray, rs.length]; omega) ?_
    rw [List.size_toArray, rs.length]
    exact q _ _ _ _ H (S.tok K _) (.int _ _) (.tok _)
theorem cal_max {a b : Int} (K : CxOk C) (H : Φ (.int (max a b)) σ) : CalD (.builtin "max") C σ [.int a, .int b] Φ := by
  intro s Q E vs S r q
  have z9 := r.cons_inv; clear r; obtain ⟨_, _, rfl, r, r'⟩ := z9
  have z9 := r'.cons_inv; clear r'; obtain ⟨_, _, rfl, r2, r'⟩ := z9
  obtain rfl := r'.nil_inv
  cases r; cases r2
  obtain ⟨m, F⟩ := S.fr
  refine max_two_N K.handled F (news_all _ _) fun h' tk F' N' => ?_
  obtain ⟨S', t⟩ := S.back K F F' N' tk
  have : (if b > a then b else a) = max a b := by omega
  rw [this]
  exact q _ _ _ _ H S' (.int _ _) t
theorem cal_range1 {b : Int} (K : CxOk C) (H : Φ (.rng 0 b) σ) : CalD (.type "range") C σ [.int b] Φ := by
  intro s Q E vs S r q
  have z9 := r.cons_inv; clear r; obtain ⟨_, _, rfl, r, r'⟩ := z9
  obtain rfl := r'.nil_inv
  cases r
  obtain ⟨m, F⟩ := S.fr
  refine range1_rows F (news_all _ _) fun h' tk t₁ u₁ v₁ R F' N' _ => ?_
  obtain ⟨S', t⟩ := S.back K F F' N' tk
  exact q _ _ _ _ H S' (.rng S.fresh_off R) t
theorem cal_range2 {a b : Int} (K : CxOk C) (H : Φ (.rng a b) σ) : CalD (.type "range") C σ [.int a, .int b] Φ := by
  intro s Q E vs S r q
  have z9 := r.cons_inv; clear r; obtain ⟨_, _, rfl, r, r'⟩ := z9
  have z9 := r'.cons_inv; clear r'; obtain ⟨_, _, rfl, r2, r'⟩ := z9
  obtain rfl := r'.nil_inv
  cases r; cases r2
  obtain ⟨m, F⟩ := S.fr
  refine range2_rows F (news_all _ _) fun h' tk t₁ u₁ v₁ R F' N' _ => ?_
  obtain ⟨S', t⟩ := S.back K F F' N' tk
  exact q _ _ _ _ H S' (.rng S.fresh_off R) t
theorem cal_list {ds : List D} (K : CxOk C) (hl : ds.length ≤ sizeLine) (H : Φ (.list ds) σ) : CalD (.type "list") C σ [.list ds] Φ := by
  intro s Q E vs S r q
  have z9 := r.cons_inv; clear r; obtain ⟨_, _, rfl, r, r'⟩ := z9
  obtain rfl := r'.nil_inv
  obtain ⟨_, _, rfl, n, l, rs⟩ := r.list_inv
  obtain ⟨m, F⟩ := S.fr
  refine list_copyK F (news_all _ _) l (fun B c h' F' N' lt => ?_) (by rw [List.size_toArray, rs.length]; exact hl)
  obtain ⟨S', t⟩ := S.back K F F' (news_tail N') s.toks
  have nn := N' _ (.head _)
  have hB : ¬ off C σ B := fun z => by
    obtain ⟨o, e⟩ := S.off_some z
    by_cases hL : B = C.env.locals
    · exact nn.2.1 hL
    · exact absurd (lt (B, o) (allN_mem.mpr ⟨hL, e⟩)) (Nat.lt_irrefl _)
  exact q _ _ _ _ H S' (.list hB ⟨_, nn.1, rfl, _, rfl⟩ (t.reps K rs)) t
theorem carried_reps {X : Addr → Prop} {h : Heap} {ys : List Value} {ns : List Int} (z : CarriedAll ys (ns.map PyData.int)) : Reps X h ys (ns.map D.int) := by
  induction ns generalizing ys with
  | nil => cases z; exact .nil
  | cons n ns ih => cases z with | cons a r => cases a; exact .cons (.int _ _) (ih r)
theorem cal_listrange {a b : Int} (K : CxOk C) (h1 : -(2 ^ 40) ≤ a) (h2 : a < 2 ^ 40) (h3 : -(2 ^ 40) ≤ b) (h4 : b < 2 ^ 40) (hz : b - a ≤ 2 ^ 20) (H : Φ (.list (rangeD a b)) σ) : CalD (.type "list") C σ [.rng a b] Φ := by
  intro s Q E vs S r q
  have z9 := r.cons_inv; clear r; obtain ⟨_, _, rfl, r, r'⟩ := z9
  obtain rfl := r'.nil_inv
  cases r with | rng n R =>
  obtain ⟨m, F⟩ := S.fr
  have hs : Builtin.Range.rangeSize a b 1 = (((b - a).toNat : Nat) : Int) := by
    unfold Builtin.Range.rangeSize
    rw [if_pos (by decide)]
    simp only [Int.ediv_one]
    split <;> omega
  refine list_rangeD K.handled F (news_all _ _) R (small_one (by omega) (by omega) (by omega) (by omega)) hs (by omega) fun h' tk ys F' N' kk _ l np cc => ?_
  obtain ⟨S', t⟩ := S.back K F F' N' tk
  have e : rangeD a b = (rangeInts a 1 (b - a).toNat).map D.int := by
    unfold rangeD rangeInts
    rw [List.map_map]
    apply List.map_congr_left
    intro i _
    simp
  rw [e] at H
  exact q _ _ _ _ H S' (.list S.fresh_off l (carried_reps cc)) t
theorem St.above (S : St C σ s) {B : Addr} (hn : B ≠ C.env.locals) (lt : ∀ q ∈ allN s.heap C.env.locals, q.1 < B) : ¬ off C σ B := fun z => by
  obtain ⟨o, e⟩ := S.off_some z
  exact absurd (lt (B, o) (allN_mem.mpr ⟨hn, e⟩)) (Nat.lt_irrefl _)
theorem cal_tuple {ds : List D} (K : CxOk C) (hl : ds.length ≤ 16384) (H : Φ (.tuple ds) σ) (hd : d = .list ds ∨ d = .tuple ds) : CalD (.type "tuple") C σ [d] Φ := by
  intro s Q E vs S r q
  have z9 := r.cons_inv; clear r; obtain ⟨_, _, rfl, r, r'⟩ := z9
  obtain rfl := r'.nil_inv
  rcases hd with rfl | rfl
  · obtain ⟨_, _, rfl, n, l, rs⟩ := r.list_inv
    obtain ⟨m, F⟩ := S.fr
    refine kde_tupleOf F (news_all _ _) l (by rw [List.size_toArray, rs.length]; exact hl) rfl (fun B h' F' N' lt => ?_)
    obtain ⟨S', t⟩ := S.back K F F' (news_tail N') s.toks
    have nn := N' _ (.head _)
    exact q _ _ _ _ H S' (.tuple (S.above nn.2.1 lt) ⟨_, nn.1, rfl, _, rfl⟩ (t.reps K rs)) t
  · obtain ⟨_, _, rfl, n, l, rs⟩ := r.tuple_inv
    exact call_tuple_tup l (q _ _ _ _ H S (.tuple n l rs) .refl)

theorem ints_reps {X : Addr → Prop} {h : Heap} {vs : List Value} {ns : List Int} (r : IntsAre vs ns) : Reps X h vs (ns.map D.int) := by
  induction r with
  | nil => exact .nil
  | cons n t _ ih => exact .cons (.int _ _) ih

/-- sorted(d) of a dict of ints that the body fills -/
theorem cal_sorted_keys {q₀ : Addr} {ks : List Int} {mu : List (Addr × MObj)} (K : CxOk C) (hmu : σ.mu = (q₀, .keys ks) :: mu) (hl : ks.length < 64) (H : ∀ ns : List Int, ns.Perm ks → ns.Pairwise (· ≤ ·) → Φ (.list (ns.map D.int)) σ) :
    CalD (.builtin "sorted") C σ [.obj q₀] Φ := by
  intro s Q E vs S r q
  have z9 := r.cons_inv; clear r; obtain ⟨_, _, rfl, r, r'⟩ := z9
  obtain rfl := r'.nil_inv
  cases r
  obtain ⟨⟨kvs, hD, hks, hsm⟩, nX⟩ := S.mu q₀ (.keys ks) (by rw [hmu]; exact .head _)
  obtain ⟨ep, hat⟩ := hD.dictAt
  obtain ⟨m, F⟩ := S.fr
  have hlen : kvs.length = ks.length := by rw [← hks, List.length_map]
  have lo : (q₀ == sysModules) = false := by rw [beq_eq_false_iff_ne]; exact hsm
  refine kdu_sorted (kdl_dict (knd := intKind C.G.prog C.G.w) (kvs := kvs) (ep := ep) lo) K.handled F (news_all _ _) hat (by rw [hlen]; simp [sizeLine]; omega) fun B h' tk vs F' N' lt hvl hv => ?_
  obtain ⟨S', t⟩ := S.back K F F' (news_tail N') tk
  have nn := N' _ (.head _)
  have hints : IntsAre vs ks := by
    refine kdy_ints (by rw [hvl, hlen]) fun j v hj => ?_
    obtain ⟨k, x, hx, hk⟩ := hv j v hj
    refine ⟨k, ?_, ?_⟩
    · rw [← hks, List.getElem?_map, hx]; rfl
    · exact Value.isInt_shape hk
  refine wpAny_call_entry PyProof.Rows.slot_list_sort ⟨_, nn.1, rfl⟩ PyProof.Rows.entry_list_sort (list_sort_tree nn.1 hints (by rw [hvl, hlen]; exact hl) fun out ns' a1 a2 a3 => ⟨_, rfl, ?_⟩) (PyProof.Rows.args_list_sort _)
  have hBn : s.heap.get? B = none := by
    cases e : s.heap.get? B with
    | none => rfl
    | some o => exact absurd (lt (B, o) (allN_mem.mpr ⟨nn.2.1, e⟩)) (Nat.lt_irrefl _)
  have old : ∀ b o, b ≠ B → h'.get? b = some o → (sortedHeap h' B vs out).get? b = some o := fun b o n e => (sortedHeap_old n (Heap.lt_size e)).trans e
  have kk : ∀ b o, b ≠ C.env.locals → s.heap.get? b = some o → (sortedHeap h' B vs out).get? b = some o := fun b o n e =>
    old b o (fun z => no_get (z ▸ hBn) e) (news_keep (m := m) (extra := []) (news_tail N') b o n e)
  have hn : ∀ m, s.heap.Ns C.env.locals m → (sortedHeap h' B vs out).Ns C.env.locals m := fun m' n => by
    obtain ⟨o, es, ep, e, r⟩ := ns_same F F' m' n
    exact ⟨o, es, ep, old _ _ (Ne.symm nn.2.1) e, r⟩
  obtain ⟨ee, he⟩ := sortedHeap_at (out := out) (vs := vs) nn.1
  have hp := H ns' a2 a3
  refine q _ _ _ _ hp (S.growL K kk hn tk) (.list (S.newoff hBn) ⟨_, he, rfl, _, rfl⟩ ?_) (.growL S K kk hn tk)
  exact ints_reps a1
end
end

section
theorem list_extend_any (l : Addr) (items : Array Value) (n : Nat) (b : Addr) (items2 : Array Value) (n2 : Nat) (dd : Option Addr) (sl : Array (Option Value)) (hc0 : ¬(!items.isEmpty && Builtin.List.listTooLong (items.size + items2.size)) = true) (hc1 : items.size ≤ sizeLine) (hs2 : items.size + items2.size ≤ sizeLine + 1) :
    Meets (Builtin.«list.extend» ⟨[.ref l, .ref b], []⟩) (fun _ R s => s.heap.get? l = some { cls := .type "list", dict := none, data := .seq items n, slots := #[] } ∧ s.heap.get? b = some { cls := .type "list", dict := dd, data := .seq items2 n2, slots := sl } ∧ R (.ok (.ret Value.none)) { s with heap := s.heap.update l (Obj.mapSeq fun x => x ++ items2), toks := s.toks }) :=
  .of_wp fun prog w A R s h => by
    obtain ⟨hp, g, d, tk, os⟩ := s; obtain ⟨hl, hb, h⟩ := h
    have f1 := AutoSeq1.idx_int; have f2 := AutoSeq1.sub_tuple_tuple; have f3 := AutoSeq1.sub_list_list; have f4 := AutoSeq1.sub_tuple_list; have f5 := AutoSeq1.sub_list_tuple
    have hz' : (items ++ items2).size ≤ sizeLine + 1 := by rw [Array.size_append]; exact hs2
    wp_walk using (wpAny_updateSeq hl rfl (hz := hc1) (_hz' := hz')), wpAny_loadPart' hl, wpAny_loadPart' hb; exact ⟨_, rfl, h⟩

section
variable {C : Cx} {σ σ' : AS} {s s' : Shared} {v w : Value} {d e : D} {h h' : Heap} {x y f : Str} {pos p p' : Pos} {k : Nat} {scope cs : Scope}

theorem key_same {l1 l2 : List (Addr × MObj)} {q : Addr} {o o' : MObj} : (l1 ++ (q, o) :: l2).map Prod.fst = (l1 ++ (q, o') :: l2).map Prod.fst := by simp
theorem St.modKey (S : St C σ s) (K : CxOk C) {l1 l2 : List (Addr × MObj)} {q : Addr} {o o' : MObj} (hmu : σ.mu = l1 ++ (q, o) :: l2) (kk : ∀ b o, b ≠ q → s.heap.get? b = some o → h'.get? b = some o) (m : MRep C.G (off C σ) h' q o') (tk : Nat) :
    St C ⟨σ.loc, l1 ++ (q, o') :: l2⟩ { s with heap := h', toks := tk } := by
  have hq : (q, o) ∈ σ.mu := by rw [hmu]; simp
  obtain ⟨_, nX⟩ := S.mu q o hq
  have ek : ∀ b, AS.key ⟨σ.loc, l1 ++ (q, o') :: l2⟩ b ↔ σ.key b := fun b => by unfold AS.key; rw [hmu, key_same (o := o) (o' := o')]
  have eo : ∀ b, off C ⟨σ.loc, l1 ++ (q, o') :: l2⟩ b ↔ off C σ b := fun b => or_congr Iff.rfl (ek b)
  have kq : σ.key q := List.mem_map.mpr ⟨_, hq, rfl⟩
  have nL : C.env.locals ≠ q := fun e => nX (e ▸ K.OX _ K.LO)
  refine ⟨⟨fun b o e => ?_, S.wd.gens, S.wd.os, K.G.jk _ _ S.wd.j fun b o z e => kk b o (fun y => nX (y ▸ K.OX _ (K.WO _ z))) e⟩, fun b z => ?_, ?_, fun n c z => ?_, fun y d z => ?_, fun p o₂ z => ?_, ?_, fun p o₂ z => ?_⟩
  · by_cases y : b = q
    · exact (no_get (y ▸ S.m0 q _ hq) e).elim
    · exact kk b o y (S.wd.base b o e)
  · obtain ⟨o, e⟩ := S.xb b z
    exact ⟨o, kk _ _ (fun y => nX (y ▸ z)) e⟩
  · obtain ⟨m, o, es, ep, e, r⟩ := S.ns
    exact ⟨m, o, es, ep, kk _ _ nL e, r⟩
  · obtain ⟨u, o, e, r⟩ := S.cells n c z
    exact ⟨u, o, kk _ _ (fun y => nX (y ▸ K.cellsX _ _ z)) e, r⟩
  · obtain ⟨u, hu, r⟩ := S.loc y d z
    refine ⟨u, hu.keep (O := (· = q)) (fun b o n e => kk b o n e) fun sl hs => fun hw => ?_, r.go (fun b z => .inl ((eo b).mp z)) (O := (· = q)) (fun b e => e ▸ .inr kq) (fun b o n e => kk b o n e)⟩
    cases sl with
    | none => exact nL hw
    | some c => exact nX ((show c = q from hw) ▸ K.cellsX _ _ (slot_cell hs).2)
  · by_cases y : p = q
    · subst y
      have hnd := S.nd
      rw [hmu] at hnd
      have : o₂ = o' := by
        rcases List.mem_append.mp z with z | z
        · exfalso
          simp only [List.map_append, List.map_cons, List.nodup_append, List.nodup_cons] at hnd
          exact (hnd.2.2 p (List.mem_map.mpr ⟨_, z, rfl⟩) p (List.mem_cons_self)) rfl
        · rcases List.mem_cons.mp z with z | z
          · cases z; rfl
          · exfalso
            simp only [List.map_append, List.map_cons, List.nodup_append, List.nodup_cons] at hnd
            exact hnd.2.1.1 (List.mem_map.mpr ⟨_, z, rfl⟩)
      subst this
      exact ⟨m.go (fun b z => .inl ((eo b).mp z)) (O := fun _ => False) (fun _ z => z.elim) .refl fun _ e => e, nX⟩
    · have z' : (p, o₂) ∈ σ.mu := by
        rw [hmu]
        rcases List.mem_append.mp z with z | z
        · exact List.mem_append_left _ z
        · rcases List.mem_cons.mp z with z | z
          · cases z; exact absurd rfl y
          · exact List.mem_append_right _ (.tail _ z)
      obtain ⟨m2, n2⟩ := S.mu p o₂ z'
      exact ⟨m2.go (fun b z => .inl ((eo b).mp z)) (O := (· = q)) (fun b e => e ▸ .inr kq) (fun b o n e => kk b o n e) (fun o e => kk _ _ y e), n2⟩
  · have := S.nd
    rw [hmu, key_same (o' := o')] at this
    exact this
  · rcases List.mem_append.mp z with z | z
    · exact S.m0 p o₂ (by rw [hmu]; exact List.mem_append_left _ z)
    · rcases List.mem_cons.mp z with z | z
      · cases z; exact S.m0 q o hq
      · exact S.m0 p o₂ (by rw [hmu]; exact List.mem_append_right _ (.tail _ z))

theorem Tr.modKey {l1 l2 : List (Addr × MObj)} {q : Addr} {o_ o' : MObj} (hmu : σ.mu = l1 ++ (q, o_) :: l2) (kk : ∀ b o, b ≠ q → s.heap.get? b = some o → h'.get? b = some o) (ex : ∃ o, h'.get? q = some o) (tk : Nat) : Tr C σ s ⟨σ.loc, l1 ++ (q, o') :: l2⟩ { s with heap := h', toks := tk } where
  keep b o n e := kk b o (fun z => n (.inr (z ▸ List.mem_map.mpr ⟨(q, o_), by rw [hmu]; simp, rfl⟩))) e
  ex b o e := by
    by_cases z : b = q
    · exact z ▸ ex
    · exact ⟨o, kk _ _ z e⟩
  new b z := .inl (by unfold AS.key at z ⊢; rw [hmu, key_same (o' := o')]; exact z)

theorem interactive_no (K : CxOk C) : interactive C.env = false := by unfold interactive; rw [K.kind]; rfl

theorem IsL.same (q : Addr) (f : Obj → Obj) : ∀ b o, b ≠ q → h.get? b = some o → (h.update q f).get? b = some o := fun b o n e => (Heap.get?_update_other h f (Ne.symm n)).trans e

inductive AppP (q₀ : Addr) (Φ : FlowD → AS → Prop) (d : D) (σ₁ : AS) : Prop
  | mk (l1 l2 : List (Addr × MObj)) (ds : List D) (hm : σ₁.mu = l1 ++ (q₀, .list ds) :: l2) (hz : ds.length ≤ sizeLine) (H : Φ .next ⟨σ₁.loc, l1 ++ (q₀, .list (ds ++ [d])) :: l2⟩)
inductive ExtP (q₀ : Addr) (Φ : FlowD → AS → Prop) (d : D) (σ₁ : AS) : Prop
  | mk (l1 l2 : List (Addr × MObj)) (ds es : List D) (e : d = .list es) (hm : σ₁.mu = l1 ++ (q₀, .list ds) :: l2) (hz : ds.length + es.length ≤ sizeLine) (H : Φ .next ⟨σ₁.loc, l1 ++ (q₀, .list (ds ++ es)) :: l2⟩)
/-- x.append(e) of a list that the body fills -/
theorem x_append {Φ : FlowD → AS → Prop} {e : Expr} {np apos cpos : Pos} {q₀ : Addr} (K : CxOk C) (hx : σ.loc.lookup x = some (.obj q₀)) (hm : ∃ ds, (q₀, .list ds) ∈ σ.mu)
    (H : EvD C e σ (AppP q₀ Φ))
    (hline : (apos.endLine == cpos.line) = true := by with_unfolding_all rfl) (htrees : backTo cpos (starEach [e] C.env) = [(false, eval e C.env)] := by with_unfolding_all rfl)
    (hfew : ((backTo cpos (starEach [e] C.env)).all (fun x => !x.1) && (backToKw cpos (keywordEach [] C.env)).all (fun x => x.1.isSome)
      && decide (([e] : List Expr).length + ([] : List Keyword).length + (if ([] : List Keyword).isEmpty then 0 else 1) < 30)) = true := by with_unfolding_all rfl)
    (hs : swapsWith (.Call (.Attribute (.Name x np) "append" apos) [e] [] cpos) none pos.line C.env = pure false := by with_unfolding_all rfl) (hd : (x == ("__debug__" : Str)) = false := by decide) :
    XD C (.Expr (.Call (.Attribute (.Name x np) "append" apos) [e] [] cpos) pos) σ Φ := by
  intro s Q EE S q
  refine wpAny_Expr_any ?_ (interactive_no K) hs
  refine wpAny_Call_method (T := "list") (id := "list.append") rfl hfew hline F.plainAttrs_list F.slot_list_append F.type_list_append ?_
  refine ev_name (Φ := fun d σ₁ => d = .obj q₀ ∧ σ₁ = σ) K hx ⟨rfl, rfl⟩ hd s _ _ S fun v d σ₁ s₁ hh S₁ r₁ t₁ => ?_
  obtain ⟨rfl, rfl⟩ := hh
  obtain rfl := r₁.obj_inv
  obtain ⟨ds0, hm⟩ := hm
  obtain ⟨⟨vs0, ⟨n0, hL0⟩, _⟩, _⟩ := S₁.mu _ _ hm
  refine ⟨⟨_, hL0, rfl⟩, fun a ha => by cases ha; exact ⟨_, hL0, rfl⟩, ?_⟩
  rw [htrees]
  refine P.append_list (H s₁ _ _ S₁ fun v d σ₂ s₂ h₂ S₂ r₂ t₂ => ?_)
  obtain ⟨l1, l2, ds, hmu, hsz, hf⟩ := h₂
  obtain ⟨⟨vs, ⟨n, hL⟩, rs⟩, _⟩ := S₂.mu q₀ (.list ds) (by rw [hmu]; simp)
  refine ⟨vs.toArray, n, by rw [List.size_toArray, rs.length]; exact hsz, hL, ?_⟩
  have kk := IsL.same (h := s₂.heap) q₀ (Obj.mapSeq fun xs => xs.push v)
  have hL' := IsL.update (h := s₂.heap) hL (fun xs => xs.push v)
  have kq : σ₂.key q₀ := List.mem_map.mpr ⟨(q₀, .list ds), by rw [hmu]; simp, rfl⟩
  have m' : MRep C.G (off C σ₂) (s₂.heap.update q₀ (Obj.mapSeq fun xs => xs.push v)) q₀ (.list (ds ++ [d])) :=
    ⟨vs ++ [v], ⟨_, by simpa using hL'⟩, (rs.append (.one r₂)).go (fun _ z => .inl z) (O := (· = q₀)) (fun b e => e ▸ .inr kq) (fun b o n e => kk b o n e)⟩
  exact q _ _ _ _ hf (S₂.modKey K hmu kk m' s₂.toks) .next ((t₁.trans t₂).trans (.modKey hmu kk ⟨_, hL'⟩ s₂.toks))

/-- x.pop() of a list that the body fills -/
theorem ev_pop {Φ : D → AS → Prop} {np apos : Pos} {q₀ : Addr} {l1 l2 : List (Addr × MObj)} {ds : List D} {dl : D} (K : CxOk C) (hx : σ.loc.lookup x = some (.obj q₀)) (hmu : σ.mu = l1 ++ (q₀, .list (ds ++ [dl])) :: l2) (hsz : ds.length < sizeLine)
    (H : Φ dl ⟨σ.loc, l1 ++ (q₀, .list ds) :: l2⟩)
    (hline : (apos.endLine == pos.line) = true := by with_unfolding_all rfl) (htrees : backTo pos (starEach [] C.env) = [] := by with_unfolding_all rfl)
    (hfew : ((backTo pos (starEach [] C.env)).all (fun x => !x.1) && (backToKw pos (keywordEach [] C.env)).all (fun x => x.1.isSome)
      && decide (([] : List Expr).length + ([] : List Keyword).length + (if ([] : List Keyword).isEmpty then 0 else 1) < 30)) = true := by with_unfolding_all rfl)
    (hd : (x == ("__debug__" : Str)) = false := by decide) : EvD C (.Call (.Attribute (.Name x np) "pop" apos) [] [] pos) σ Φ := by
  intro s Q EE S q
  refine wpAny_Call_method (T := "list") (id := "list.pop") rfl hfew hline F.plainAttrs_list F.slot_list_pop F.type_list_pop ?_
  refine ev_name (Φ := fun d σ₁ => d = .obj q₀ ∧ σ₁ = σ) K hx ⟨rfl, rfl⟩ hd s _ _ S fun v d σ₁ s₁ hh S₁ r₁ t₁ => ?_
  obtain ⟨rfl, rfl⟩ := hh
  obtain rfl := r₁.obj_inv
  obtain ⟨⟨vs, ⟨n, hL⟩, rs⟩, _⟩ := S₁.mu q₀ (.list (ds ++ [dl])) (by rw [hmu]; simp)
  refine ⟨⟨_, hL, rfl⟩, fun a ha => by cases ha; exact ⟨_, hL, rfl⟩, ?_⟩
  rw [htrees]
  obtain ⟨ws, v, rfl, rw', rv⟩ := rs.snoc_inv
  have hlen := rw'.length
  refine P.pop_list hL (y := v) (by simp) ?_ (by simp; omega)
  have kk := IsL.same (h := s₁.heap) q₀ (Obj.mapSeq fun xs => xs.eraseIdxIfInBounds ((ws ++ [v]).toArray.size - 1))
  have hL' := IsL.update (h := s₁.heap) hL (fun xs => xs.eraseIdxIfInBounds ((ws ++ [v]).toArray.size - 1))
  have e : (ws ++ [v]).toArray.eraseIdxIfInBounds ((ws ++ [v]).toArray.size - 1) = ws.toArray := by
    rw [List.eraseIdxIfInBounds_toArray]
    congr 1
    rw [List.size_toArray, List.length_append, List.length_singleton, Nat.add_sub_cancel]
    rw [List.eraseIdx_append_of_length_le (Nat.le_refl _)]
    simp
  have kq : σ₁.key q₀ := List.mem_map.mpr ⟨(q₀, .list (ds ++ [dl])), by rw [hmu]; simp, rfl⟩
  have kO : KeepsOff (· = q₀) s₁.heap (s₁.heap.update q₀ (Obj.mapSeq fun xs => xs.eraseIdxIfInBounds ((ws ++ [v]).toArray.size - 1))) := fun b o n e => kk b o n e
  have m' : MRep C.G (off C σ₁) (s₁.heap.update q₀ (Obj.mapSeq fun xs => xs.eraseIdxIfInBounds ((ws ++ [v]).toArray.size - 1))) q₀ (.list ds) :=
    ⟨ws, ⟨_, by rw [← e]; exact hL'⟩, rw'.go (fun _ z => .inl z) (fun b e => e ▸ .inr kq) kO⟩
  have rv' := rv.go (X' := off C σ₁) (fun _ z => .inl z) (fun b (e : b = q₀) => e ▸ .inr kq) kO
  refine q _ _ _ _ H (S₁.modKey K hmu kk m' s₁.toks) (rv'.weaken fun b z => z.imp id fun z => ?_) (t₁.trans (.modKey hmu kk ⟨_, hL'⟩ s₁.toks))
  unfold AS.key at z ⊢
  rw [hmu, key_same (o' := .list ds)]; exact z

/-- x.extend(e) of a list that the body fills -/
theorem x_extend {Φ : FlowD → AS → Prop} {e : Expr} {np apos cpos : Pos} {q₀ : Addr} (K : CxOk C) (hx : σ.loc.lookup x = some (.obj q₀)) (hm : ∃ ds, (q₀, .list ds) ∈ σ.mu)
    (H : EvD C e σ (ExtP q₀ Φ))
    (hline : (apos.endLine == cpos.line) = true := by with_unfolding_all rfl) (htrees : backTo cpos (starEach [e] C.env) = [(false, eval e C.env)] := by with_unfolding_all rfl)
    (hfew : ((backTo cpos (starEach [e] C.env)).all (fun x => !x.1) && (backToKw cpos (keywordEach [] C.env)).all (fun x => x.1.isSome)
      && decide (([e] : List Expr).length + ([] : List Keyword).length + (if ([] : List Keyword).isEmpty then 0 else 1) < 30)) = true := by with_unfolding_all rfl)
    (hs : swapsWith (.Call (.Attribute (.Name x np) "extend" apos) [e] [] cpos) none pos.line C.env = pure false := by with_unfolding_all rfl) (hd : (x == ("__debug__" : Str)) = false := by decide) :
    XD C (.Expr (.Call (.Attribute (.Name x np) "extend" apos) [e] [] cpos) pos) σ Φ := by
  intro s Q EE S q
  refine wpAny_Expr_any ?_ (interactive_no K) hs
  refine wpAny_Call_method (T := "list") (id := "list.extend") rfl hfew hline F.plainAttrs_list F.slot_list_extend F.type_list_extend ?_
  refine ev_name (Φ := fun d σ₁ => d = .obj q₀ ∧ σ₁ = σ) K hx ⟨rfl, rfl⟩ hd s _ _ S fun v d σ₁ s₁ hh S₁ r₁ t₁ => ?_
  obtain ⟨rfl, rfl⟩ := hh
  obtain rfl := r₁.obj_inv
  obtain ⟨ds0, hm⟩ := hm
  obtain ⟨⟨vs0, ⟨n0, hL0⟩, _⟩, _⟩ := S₁.mu _ _ hm
  refine ⟨⟨_, hL0, rfl⟩, fun a ha => by cases ha; exact ⟨_, hL0, rfl⟩, ?_⟩
  rw [htrees]
  refine seqMethod1_meets F.slot_list_extend F.entry_list_extend (H s₁ _ _ S₁ fun v d σ₂ s₂ h₂ S₂ r₂ t₂ => ?_)
  obtain ⟨l1, l2, ds, es, rfl, hmu, hsz, hf⟩ := h₂
  obtain ⟨⟨vs, ⟨n, hL⟩, rs⟩, _⟩ := S₂.mu q₀ (.list ds) (by rw [hmu]; simp)
  obtain ⟨_, _, rfl, nx, lx, rx⟩ := r₂.list_inv
  rename_i b ws
  obtain ⟨⟨cls, dd, data, sl⟩, ho, hcl, j, hdd⟩ := id lx
  simp only at hcl hdd
  subst hcl hdd
  have hl1 := rs.length
  have hl2 := rx.length
  refine ⟨⟨_, hL, rfl⟩, F.args_list_extend_2 _ _, _, list_extend_any q₀ vs.toArray n b ws.toArray j dd sl (by simp [Builtin.List.listTooLong]; omega) (by simp; omega) (by simp; omega), hL, ho, ?_⟩
  have kk := IsL.same (h := s₂.heap) q₀ (Obj.mapSeq fun xs => xs ++ ws.toArray)
  have hL' := IsL.update (h := s₂.heap) hL (fun xs => xs ++ ws.toArray)
  have kq : σ₂.key q₀ := List.mem_map.mpr ⟨(q₀, .list ds), by rw [hmu]; simp, rfl⟩
  have m' : MRep C.G (off C σ₂) (s₂.heap.update q₀ (Obj.mapSeq fun xs => xs ++ ws.toArray)) q₀ (.list (ds ++ es)) :=
    ⟨vs ++ ws, ⟨_, by simpa using hL'⟩, (rs.append rx).go (fun _ z => .inl z) (O := (· = q₀)) (fun b e => e ▸ .inr kq) (fun b o n e => kk b o n e)⟩
  exact q _ _ _ _ hf (S₂.modKey K hmu kk m' s₂.toks) .next ((t₁.trans t₂).trans (.modKey hmu kk ⟨_, hL'⟩ s₂.toks))

/-- a list that is filled no more is a datum -/
theorem St.freeze (S : St C σ s) {l1 l2 : List (Addr × MObj)} {q₀ : Addr} {ds : List D} (hmu : σ.mu = l1 ++ (q₀, .list ds) :: l2) (hx : σ.loc.lookup x = some (.obj q₀)) : St C ⟨(x, .list ds) :: σ.loc, l1 ++ l2⟩ s := by
  have hq : (q₀, MObj.list ds) ∈ σ.mu := by rw [hmu]; simp
  obtain ⟨⟨vs, ⟨n, hL⟩, rs⟩, nX⟩ := S.mu _ _ hq
  have hnd := S.nd
  rw [hmu] at hnd
  simp only [List.map_append, List.map_cons, List.nodup_append, List.nodup_cons] at hnd
  have eo : ∀ b, off C ⟨(x, .list ds) :: σ.loc, l1 ++ l2⟩ b → off C σ b := fun b z => z.imp id fun z => by
    unfold AS.key at z ⊢
    rw [hmu]
    simp only [List.map_append, List.mem_append, List.map_cons, List.mem_cons] at z ⊢
    exact z.imp id .inr
  have sub : ∀ p o, (p, o) ∈ l1 ++ l2 → (p, o) ∈ σ.mu := fun p o z => by
    rw [hmu]
    rcases List.mem_append.mp z with z | z
    · exact List.mem_append_left _ z
    · exact List.mem_append_right _ (.tail _ z)
  have nk : ¬ off C ⟨(x, .list ds) :: σ.loc, l1 ++ l2⟩ q₀ := fun z => z.elim nX fun z => by
    unfold AS.key at z
    simp only [List.map_append, List.mem_append] at z
    rcases z with z | z
    · exact hnd.2.2 q₀ z q₀ (List.mem_cons_self) rfl
    · exact hnd.2.1.1 z
  refine ⟨S.wd, S.xb, S.ns, S.cells, fun y d z => ?_, fun p o z => ?_, ?_, fun p o z => S.m0 p o (sub p o z)⟩
  · rcases lookup_put z with ⟨rfl, rfl⟩ | ⟨ne, z⟩
    · obtain ⟨u, hu, ru⟩ := S.loc y _ hx
      cases ru
      exact ⟨_, hu, .list nk ⟨_, hL, rfl, _, rfl⟩ (rs.weaken eo)⟩
    · obtain ⟨u, hu, ru⟩ := S.loc y d z
      exact ⟨u, hu, ru.weaken eo⟩
  · obtain ⟨m, n⟩ := S.mu p o (sub p o z)
    exact ⟨m.go (fun b z => .inl (eo b z)) (O := fun _ => False) (fun _ z => z.elim) .refl fun _ e => e, n⟩
  · simp only [List.map_append, List.nodup_append]
    exact ⟨hnd.1, hnd.2.1.2, fun a ha b hb => hnd.2.2 a ha b (.tail _ hb)⟩
theorem xs_freeze {Φ : FlowD → AS → Prop} {b : List Stmt} {l1 l2 : List (Addr × MObj)} {q₀ : Addr} {ds : List D} (x : Str) (hmu : σ.mu = l1 ++ (q₀, .list ds) :: l2) (hx : σ.loc.lookup x = some (.obj q₀))
    (H : XsD C b ⟨(x, .list ds) :: σ.loc, l1 ++ l2⟩ Φ) : XsD C b σ Φ := by
  intro s Q EE S q
  have own1 : ∀ b, own C ⟨(x, .list ds) :: σ.loc, l1 ++ l2⟩ b → own C σ b := fun b z => z.imp id fun z => by
    unfold AS.key at z ⊢
    rw [hmu]
    simp only [List.map_append, List.mem_append, List.map_cons, List.mem_cons] at z ⊢
    exact z.imp id .inr
  refine H s Q EE (S.freeze hmu hx) fun f d σ₂ s₂ p S₂ r₂ t₂ => q f d σ₂ s₂ p S₂ r₂ ⟨t₂.keep.mono own1, t₂.ex, fun b z => (t₂.new b z).imp (fun z => ?_) id⟩
  unfold AS.key at z ⊢
  rw [hmu]
  simp only [List.map_append, List.mem_append, List.map_cons, List.mem_cons] at z ⊢
  exact z.imp id .inr
end
end

section
section
variable {C : Cx} {σ σ' : AS} {s s' : Shared} {v w : Value} {d e : D} {h h' : Heap} {x y f : Str} {pos p p' : Pos} {k : Nat} {scope cs : Scope}

theorem five {P : Addr → Prop} {b z a c d e : Addr} (hb : b = z ∨ b = a ∨ b = c ∨ b = d ∨ b = e) (h1 : P z) (h2 : P a) (h3 : P c) (h4 : P d) (h5 : P e) : P b := by
  rcases hb with rfl | rfl | rfl | rfl | rfl <;> assumption
theorem iter_zip {prog : Program} {w : World} {A : Around} {ts : List Expr} {z TI TO i1 i2 l1 l2 : Addr} {ds1 ds2 : List D} (hh : A.handled = none) (D0 : ZipApart z TI TO i1 i2 l1 l2) :
    Iter prog w A (.Tuple ts k p) z (List.zipWith (fun x y => D.tuple [x, y]) ds1 ds2) [.ref l1, .ref l2] [.list ds1, .list ds2] (fun b => b = z ∨ b = TI ∨ b = TO ∨ b = i1 ∨ b = i2)
      (fun i h => IsZip h z TI TO .none ∧ IsPair h TI (.ref i1) (.ref i2) ∧ (∃ a b, IsPair h TO a b) ∧ h.IsListIter i1 l1 i ∧ h.IsListIter i2 l2 i)
      (fun i v h => ∃ T, v = .ref T ∧ IsZip h z TI TO (rawInt T) ∧ IsPair h TI (.ref i1) (.ref i2) ∧ (∃ a b, IsPair h TO a b) ∧ h.IsListIter i1 l1 (i + 1) ∧ h.IsListIter i2 l2 (i + 1)) where
  frame i h h' x k := by
    obtain ⟨a, b, ⟨u, v, c⟩, ⟨o1, e1, r1⟩, ⟨o2, e2, r2⟩⟩ := x
    exact ⟨k _ (by simp) _ a, k _ (by simp) _ b, ⟨u, v, k _ (by simp) _ c⟩, ⟨o1, k _ (by simp) _ e1, r1⟩, ⟨o2, k _ (by simp) _ e2, r2⟩⟩
  ex i h x b hb := by
    obtain ⟨a, b', ⟨u, v, c⟩, ⟨o1, e1, r1⟩, ⟨o2, e2, r2⟩⟩ := x
    exact five (P := fun b => ∃ o, h.get? b = some o) hb ⟨_, a⟩ ⟨_, b'⟩ ⟨_, c⟩ ⟨_, e1⟩ ⟨_, e2⟩
  item i d X s Q E hd hX hXe r x q := by
    obtain ⟨hz, hTI, ⟨ta, tb, hTO⟩, hi1, hi2⟩ := x
    obtain ⟨_, na, la, rsa⟩ := r.cons2.1.list_ref
    obtain ⟨_, nb, lb, rsb⟩ := r.cons2.2.cons2.1.list_ref
    rw [List.getElem?_zipWith] at hd
    cases h1 : ds1[i]? with
    | none => rw [h1] at hd; simp at hd
    | some d1 =>
      cases h2 : ds2[i]? with
      | none => rw [h1, h2] at hd; simp at hd
      | some d2 =>
        rw [h1, h2] at hd
        simp at hd
        subst hd
        obtain ⟨v1, hv1, r1⟩ := rsa.get h1
        obtain ⟨v2, hv2, r2⟩ := rsb.get h2
        refine wpAny_pyNext_zip_item D0 hz hTI hTO hi1 hi2 la lb (by simpa using hv1) (by simpa using hv2) fun h' z' p' j1 j2 pn _ kk => ?_
        have kW : KeepsOff (fun b => b = z ∨ b = TI ∨ b = TO ∨ b = i1 ∨ b = i2) s.heap h' := fun b o n e => kk b o (fun z => n (.inl z)) (fun z => n (.inr (.inr (.inl z)))) (fun z => n (.inr (.inr (.inr (.inl z))))) (fun z => n (.inr (.inr (.inr (.inr z))))) e
        have hTI' := kk TI _ D0.TIz D0.TITO D0.TIi1 D0.TIi2 hTI
        have nX : ¬ X s.heap.objs.size := fun z => by obtain ⟨o, e⟩ := hXe _ z; rw [fresh_get] at e; cases e
        refine q (.ref s.heap.objs.size) h' s.toks ⟨_, rfl, z', hTI', ⟨_, _, p'⟩, j1, j2⟩
          (.tuple nX (vs := [v1, v2]) ⟨_, pn, rfl, _, rfl⟩ ((Reps.cons r1 (.cons r2 .nil)).go (fun _ z => .inl z) hX kW)) kW fun b hb => ?_
        obtain ⟨o1, e1, _⟩ := j1
        obtain ⟨o2, e2, _⟩ := j2
        exact five (P := fun b => ∃ o, h'.get? b = some o) hb ⟨_, z'⟩ ⟨_, hTI'⟩ ⟨_, p'⟩ ⟨_, e1⟩ ⟨_, e2⟩
  mid i v s Q E x q := by
    obtain ⟨T, rfl, hz, hTI, ⟨ta, tb, hTO⟩, hi1, hi2⟩ := x
    refine wpAny_letOwnedTupleGo_zip hz fun h' hz' hs => ?_
    have kk := hs.extBut
    obtain ⟨o1, e1, r1⟩ := hi1
    obtain ⟨o2, e2, r2⟩ := hi2
    exact q h' ⟨hz', kk _ _ D0.TIz hTI, ⟨_, _, kk _ _ D0.TOz hTO⟩, ⟨o1, kk _ _ D0.i1z e1, r1⟩, ⟨o2, kk _ _ D0.i2z e2, r2⟩⟩ fun b o n e => kk b o (fun z => n (.inl z)) e
  done X s Q E hX r x q := by
    obtain ⟨hz, hTI, ⟨ta, tb, hTO⟩, hi1, hi2⟩ := x
    obtain ⟨_, na, la, rsa⟩ := r.cons2.1.list_ref
    obtain ⟨_, nb, lb, rsb⟩ := r.cons2.2.cons2.1.list_ref
    refine wpAny_pyNext_zip_end hh D0 hz hTI hTO hi1 hi2 la lb ?_ fun h' kk => q h' s.toks fun b o n e => kk b o (fun z => n (.inl z)) (fun z => n (.inr (.inr (.inl z)))) (fun z => n (.inr (.inr (.inr (.inl z))))) (fun z => n (.inr (.inr (.inr (.inr z))))) e
    have ha := rsa.length
    have hb := rsb.length
    simp only [List.length_zipWith, List.getElem?_toArray, List.getElem?_eq_none_iff]
    omega
  self i s Q E x q := wpAny_pyIter_zip x.1 q

inductive ZipP (Φ : List D → AS → Prop) (ds : List D) (σ₁ : AS) : Prop
  | mk (ds1 ds2 : List D) (e : ds = [.list ds1, .list ds2]) (H : Φ (List.zipWith (fun x y => D.tuple [x, y]) ds1 ds2) σ₁)
theorem it_zip {a b : Expr} {ts : List Expr} {pp : Pos} {Φ : List D → AS → Prop} (K : CxOk C) (E : EnvIs C scope) (hx : scope.names.lookup (Str.ofString "zip") = some .globalImplicit)
    (H : TsE C [a, b] pos σ (ZipP Φ))
    (hst : starEach [a, b] C.env = (false, eval a C.env) :: starEach [b] C.env := by with_unfolding_all rfl) (hplain : (backTo pos (starEach [b] C.env)).any (·.1) = false := by with_unfolding_all rfl) :
    ItD C (.Call (.Name (Str.ofString "zip") p) [a, b] [] pos) (.Tuple ts k pp) σ Φ := by
  intro s Q EE S q
  refine wpAny_Call_NameR (ev_builtin (a := .type "zip") K E hx S (by simp) (by decide +kernel) ?_ (by decide))
  refine PyProof.Rows.callWith_type1 (H s _ _ S fun vs ds σ₁ s₁ h₁ S₁ r₁ t₁ => ?_) hst hplain
  obtain ⟨ds1, ds2, rfl, hf⟩ := h₁
  have r0 := r₁
  obtain ⟨_, _, rfl, ra, r⟩ := r₁.cons_inv
  obtain ⟨_, _, rfl, rb, rn⟩ := r.cons_inv
  obtain rfl := rn.nil_inv
  obtain ⟨_, _, rfl, na, la, rsa⟩ := ra.list_inv
  obtain ⟨_, _, rfl, nb, lb, rsb⟩ := rb.list_inv
  have a1 := (show _ < s₁.heap.objs.size from by obtain ⟨_, e, _⟩ := la; exact Heap.lt_size e)
  have a2 := (show _ < s₁.heap.objs.size from by obtain ⟨_, e, _⟩ := lb; exact Heap.lt_size e)
  refine call_zip_2 la lb fun h' hz hTI hTO hi1 hi2 _ hk => ?_
  refine wpAny_pyIter_zip hz (q _ _ _ _ _ _ _ σ₁ s₁ h' hf S₁ r0 t₁ hk (iter_zip K.handled (zipApart_new a1 a2)) ⟨hz, hTI, ⟨_, _, hTO⟩, hi1, hi2⟩ fun b hb => ?_)
  cases e : s₁.heap.get? b with
  | none => rfl
  | some o =>
    exfalso
    have hlt := Heap.lt_size e
    have : s₁.heap.objs.size ≤ b := five (P := fun b => s₁.heap.objs.size ≤ b) hb (Nat.le_add_right _ 4) (Nat.le_add_right _ 2) (Nat.le_add_right _ 3) (Nat.le_refl _) (Nat.le_add_right _ 1)
    exact absurd hlt (Nat.not_lt.mpr this)

inductive ChainP (C : Cx) (op₁ op₂ : CmpOp) (r₂ : Expr) (Φ : Bool → AS → Prop) (d e : D) (σ₂ : AS) : Prop
  | mk (b : Bool) (h : CmpD op₁ d e b) (H : (b = false → Φ false σ₂) ∧ (b = true → EvD C r₂ σ₂ (cmpK2 op₂ e Φ)))
abbrev chainK (C : Cx) (op₁ op₂ : CmpOp) (r₁ r₂ : Expr) (Φ : Bool → AS → Prop) : D → AS → Prop := fun d σ₁ => EvD C r₁ σ₁ (ChainP C op₁ op₂ r₂ Φ d)
/-- a chain of two comparisons as a test -/
theorem bv_chain2 {op₁ op₂ : CmpOp} {l r₁ r₂ : Expr} {Φ : Bool → AS → Prop} (K : CxOk C)
    (H : EvD C l σ (chainK C op₁ op₂ r₁ r₂ Φ))
    (hm : lastMarks [op₁, op₂] [r₁, r₂] = false := by with_unfolding_all rfl) : BvD C (.Compare l [op₁, op₂] [r₁, r₂] pos) σ Φ := by
  intro s Q EE S q
  refine isTrue_chain (H s _ _ S fun v d σ₁ s₁ h₁ S₁ ra t₁ => ?_) hm
  refine test_link (h₁ s₁ _ _ S₁ fun w e σ₂ s₂ h₂ S₂ rb t₂ => ?_)
  obtain ⟨b, B, hf, ht⟩ := h₂
  refine B C σ₂ s₂ _ _ v w K S₂ (t₂.rep K ra) rb fun s₃ S₃ t₃ => wpAny_truthy_bool ?_
  have t13 := (t₁.trans t₂).trans t₃
  cases b with
  | false => rw [if_neg (by decide)]; exact q _ _ _ (hf rfl) S₃ t13
  | true =>
    rw [if_pos rfl]
    have rb' := t₃.rep K rb
    refine test_last (ht rfl s₃ _ _ S₃ fun u g σ₄ s₄ h₄ S₄ rg t₄ => ?_)
    obtain ⟨c, B', hc⟩ := h₄
    exact B' C σ₄ s₄ _ _ w u K S₄ (t₄.rep K rb') rg fun s₅ S₅ t₅ => wpAny_truthy_bool (q _ _ _ hc S₅ ((t13.trans t₄).trans t₅))

/-- x != [] of a list that the body fills -/
theorem bv_ne_nil {np lp : Pos} {q₀ : Addr} {ds : List D} {n : Nat} {Φ : Bool → AS → Prop} (K : CxOk C) (hx : σ.loc.lookup x = some (.obj q₀)) (hm : (q₀, .list ds) ∈ σ.mu) (hfit : ∀ d ∈ ds, fit n d = true) (hn : n ≤ 58)
    (H : Φ (!ds.isEmpty) σ) (hd : (x == ("__debug__" : Str)) = false := by decide) : BvD C (.Compare (.Name x np) [.NotEq] [.List [] lp] pos) σ Φ := by
  intro s Q EE S q
  refine wpAny_isTrue_Compare1 ?_ (by with_unfolding_all rfl)
  refine ev_name (Φ := fun d σ₁ => d = .obj q₀ ∧ σ₁ = σ) K hx ⟨rfl, rfl⟩ hd s _ _ S fun v d σ₁ s₁ hh S₁ r₁ t₁ => ?_
  obtain ⟨rfl, rfl⟩ := hh
  obtain rfl := r₁.obj_inv
  refine ev_list (Φ := fun d σ₂ => d = .list [] ∧ σ₂ = σ₁) K (es_nil ⟨Nat.zero_le _, rfl, rfl⟩) s₁ _ _ S₁ fun w d σ₂ s₂ hh S₂ r₂ t₂ => ?_
  obtain ⟨rfl, rfl⟩ := hh
  obtain ⟨⟨vs, ⟨j, hL⟩, rs⟩, _⟩ := S₂.mu _ _ hm
  obtain ⟨as, ra⟩ := reps_reads n rs hfit
  obtain ⟨bs, rb⟩ := rep_reads 1 r₂ (by simp [fit])
  have z := fit_lays n ds (fit_lay n) hfit
  have rd : Reads s₂.heap (.ref q₀) (.list (toPys ds)) (q₀ :: as) := reads_list_at hL rfl rfl (by simpa using ra)
  refine ne_dataH rd rb ?_ (fit_shaped (n := 1) (d := .list []) (by simp [fit]) (by decide)) (by have := K.units; omega) (wpAny_truthy_bool ?_)
  · unfold SeqAt.shaped
    simp only [PyData.canLay0, PyData.depth, z.1, Bool.true_and]
    exact decide_eq_true (by have := z.2; omega)
  · have e : PyData.eqv (.list (toPys ds)) (toPy (.list [])) = ds.isEmpty := by
      cases ds <;> simp [toPy, toPys, PyData.eqv, PyData.eqvAll]
    rw [e]
    exact q _ _ _ H S₂ (t₁.trans t₂)

/-- keys in the order in which they came -/
def addKey (ks : List Int) (i : Int) : List Int := if i ∈ ks then ks else ks ++ [i]
theorem stored_keys (kvs : List (Int × Value)) (i : Int) (v : Value) : (stored kvs i v).map (·.1) = addKey (kvs.map (·.1)) i := by
  unfold stored addKey
  by_cases h : kvs.any (fun kv => decide (kv.1 = i)) = true
  · rw [if_pos h, if_pos (by simpa using h), List.map_map]
    apply List.map_congr_left
    intro kv _
    simp only [Function.comp]
    split <;> rfl
  · rw [if_neg h, if_neg (by simpa using h)]
    simp

inductive SetP (q₀ : Addr) (Φ : FlowD → AS → Prop) (d : D) (σ₁ : AS) : Prop
  | mk (l1 l2 : List (Addr × MObj)) (ks : List Int) (i : Int) (e : d = .int i) (hm : σ₁.mu = l1 ++ (q₀, .keys ks) :: l2) (hz : ks.length ≤ sizeLine) (H : Φ .next ⟨σ₁.loc, l1 ++ (q₀, .keys (addKey ks i)) :: l2⟩)
/-- x[e] = True of a dict of ints that the body fills -/
theorem x_setkey {Φ : FlowD → AS → Prop} {ke : Expr} {np sp vp : Pos} {q₀ : Addr} (K : CxOk C) (hx : σ.loc.lookup x = some (.obj q₀))
    (H : EvD C ke σ (SetP q₀ Φ))
    (hd : (x == ("__debug__" : Str)) = false := by decide) :
    XD C (.Assign [.Subscript (.Name x np) ke sp] (.Constant (.bool true) k vp) pos) σ Φ := by
  intro s Q EE S q
  refine wpAny_Assign_Subscript (wpAny_Constant_bool ?_) (by rfl)
  refine ev_name (Φ := fun d σ₁ => d = .obj q₀ ∧ σ₁ = σ) K hx ⟨rfl, rfl⟩ hd s _ _ S fun v d σ₁ s₁ hh S₁ r₁ t₁ => ?_
  obtain ⟨rfl, rfl⟩ := hh
  obtain rfl := r₁.obj_inv
  refine H s₁ _ _ S₁ fun w d σ₂ s₂ h₂ S₂ r₂ t₂ => ?_
  obtain ⟨l1, l2, ks, i, rfl, hmu, hz, hf⟩ := h₂
  cases r₂
  obtain ⟨⟨kvs, hD, hks, hsm⟩, _⟩ := S₂.mu q₀ (.keys ks) (by rw [hmu]; simp)
  have hlen : kvs.length = ks.length := by rw [← hks, List.length_map]
  refine wpAny_setItem_pairs (knd := intKind C.G.prog C.G.w) (k := i) (by simp [intKind, Value.isInt]) hD (fun h' hD' hs => ?_) (by rw [hlen]; exact hz)
  have kk := hs.extBut
  have ex : ∃ o, h'.get? q₀ = some o := by obtain ⟨o, _, _, e, _⟩ := hD'; exact ⟨o, e⟩
  have m' : MRep C.G (off C σ₂) h' q₀ (.keys (addKey ks i)) := ⟨_, hD', by rw [stored_keys, hks], hsm⟩
  exact q _ _ _ _ hf (S₂.modKey K hmu kk m' _) .next ((t₁.trans t₂).trans (.modKey hmu kk ex _))

theorem dict_ok {X X' : Addr → Prop} {q : Addr} {o : Obj} {es : Array DictEntry} {ep : Nat} (hX : ∀ b, X' b → X b ∨ b = q) (e : h.get? q = some o) (hd : o.data = .dict es ep) (b : Addr) (u : Obj) (n : ¬ X b) (e' : h.get? b = some u) (nd : ∀ es ep, u.data ≠ .dict es ep) : ¬ X' b ∧ h.get? b = some u :=
  ⟨fun z => (hX b z).elim n fun q' => by rw [q', e] at e'; cases e'; exact nd _ _ hd, e'⟩
theorem Rep.addDict {X X' : Addr → Prop} {q : Addr} {o : Obj} {es : Array DictEntry} {ep : Nat} (hX : ∀ b, X' b → X b ∨ b = q) (e : h.get? q = some o) (hd : o.data = .dict es ep) {v : Value} {d : D} (r : Rep X h v d) : Rep X' h v d := r.map (dict_ok hX e hd)
theorem Reps.addDict {X X' : Addr → Prop} {q : Addr} {o : Obj} {es : Array DictEntry} {ep : Nat} (hX : ∀ b, X' b → X b ∨ b = q) (e : h.get? q = some o) (hd : o.data = .dict es ep) {vs : List Value} {ds : List D} (r : Reps X h vs ds) : Reps X' h vs ds := r.map (dict_ok hX e hd)

/-- {x: True}, to be filled -/
theorem ev_dict1 {Φ : D → AS → Prop} {np vp : Pos} {i : Int} (K : CxOk C) (hx : σ.loc.lookup x = some (.int i)) (H : ∀ q, Φ (.obj q) ⟨σ.loc, (q, .keys [i]) :: σ.mu⟩) (hd : (x == ("__debug__" : Str)) = false := by decide) :
    EvD C (.Dict [some (.Name x np)] [.Constant (.bool true) k vp] pos) σ Φ := by
  intro s Q EE S q
  refine wpAny_Dict_walk (knd := intKind C.G.prog C.G.w) rfl rfl (by simp) (by simp) ?_
  have S1 := S.new K { cls := .type "dict", data := .dict #[] } s.toks
  show wpAny _ _ (do let kv ← eval (.Name x np) C.env; let vv ← holding [kv] (do let x ← eval (.Constant (.bool true) k vp) C.env; standAt pos; pure x); return (kv, vv) :: (← holding [kv, vv] (evalPairs []))) _ _ _
  refine wpAny_bind (ev_name (Φ := fun d σ₁ => d = .int i ∧ σ₁ = σ) K hx ⟨rfl, rfl⟩ hd _ _ _ S1 fun v d σ₁ s₁ hh S₁ r₁ t₁ => ?_)
  obtain ⟨rfl, rfl⟩ := hh
  obtain ⟨tk, rfl⟩ := r₁.int_inv
  refine wpAny_bind (wpAny_holding (wpAny_bind (wpAny_Constant_bool (wpAny_bind (wpAny_standAt (wpAny_pure ?_))))))
  refine wpAny_bind (wpAny_holding (wpAny_pure (wpAny_pure ?_)))
  have fr := S.fresh_off
  have nown : ¬ own C σ₁ s.heap.objs.size := fun z => fr (own_off K _ z)
  have hD0 : s₁.heap.DictOf (intKind C.G.prog C.G.w) s.heap.objs.size [] :=
    ⟨_, #[], 0, t₁.keep _ _ nown (Heap.get?_push_size _ rfl), ⟨rfl, rfl, rfl⟩, rfl, fun e he => by simp at he, .nil, .nil⟩
  have t1 : Tr C σ₁ s σ₁ s₁ := (Tr.grow (push_k _ _) s.toks).trans t₁
  refine ⟨[(i, .bool true)], ⟨by simp [intKind, Value.isInt], rfl, trivial⟩, hD0, fun h' hD' hs => ?_⟩
  have kk := hs.extBut
  have fn : s.heap.get? s.heap.objs.size = none := fresh_get _
  have e : merged [] [(i, Value.bool true)] = [(i, Value.bool true)] := by simp [merged, stored]
  rw [e] at hD'
  have gsz : sysModules < s.heap.objs.size := by
    have := (K.G.g.keeps S.wd.base).lt
    exact Nat.lt_trans (by decide) this
  have h0 := S.base0 fn
  have hns : s₁.heap.Ns s.heap.objs.size fun _ => none := ⟨_, #[], 0, t₁.keep _ _ nown (Heap.get?_push_size _ rfl), rfl, fun e he => by simp at he, fun _ => rfl⟩
  have S2 := S₁.modL K hns fr h0 kk (s₁.toks + 1)
  have t2 : Tr C σ₁ s σ₁ { s₁ with heap := h', toks := s₁.toks + 1 } := t1.modL fn kk _
  obtain ⟨o, es, ep, eo, _, ed, _⟩ := id hD'
  have hoff : ∀ b, off C ⟨σ₁.loc, (s.heap.objs.size, .keys [i]) :: σ₁.mu⟩ b → off C σ₁ b ∨ b = s.heap.objs.size := by
    intro b z
    rcases z with z | z
    · exact .inl (.inl z)
    · simp only [AS.key, List.map_cons, List.mem_cons] at z
      rcases z with z | z
      · exact .inr z
      · exact .inl (.inr z)
  refine q _ _ _ _ (H s.heap.objs.size) ⟨S2.wd, S2.xb, S2.ns, S2.cells, fun y d z => ?_, fun p o z => ?_, ?_, fun p o z => ?_⟩ (.obj _) ⟨fun b o n e => t2.keep b o (fun z => n (z.imp id id)) e, t2.ex, fun b z => ?_⟩
  · obtain ⟨u, hu, ru⟩ := S2.loc y d z
    exact ⟨u, hu, ru.addDict hoff eo ed⟩
  · rcases List.mem_cons.mp z with z | z
    · cases z
      exact ⟨⟨_, hD', rfl, Nat.ne_of_gt gsz⟩, fun z => fr (.inl z)⟩
    · obtain ⟨m, n⟩ := S2.mu p o z
      refine ⟨?_, n⟩
      cases o with
      | list ds => obtain ⟨vs, hq, r⟩ := m; exact ⟨vs, hq, r.addDict hoff eo ed⟩
      | keys ks => exact m
  · simp only [List.map_cons, List.nodup_cons]
    exact ⟨fun z => fr (.inr z), S.nd⟩
  · rcases List.mem_cons.mp z with z | z
    · cases z; exact h0
    · exact S.m0 p o z
  · simp only [AS.key, List.map_cons, List.mem_cons] at z
    rcases z with z | z
    · exact .inr (z ▸ fn)
    · exact .inl z
end

section
variable {C : Cx} {σ σ' : AS} {Φ : D → AS → Prop} {pos p1 : Pos} {k : Nat}
inductive ItemC (i : Int) (Φ : D → AS → Prop) (d : D) (σ₁ : AS) : Prop
  | mk (x : D) (hx : (itemsD d)[i.toNat]? = some x) (H : Φ x σ₁)
/-- an item at a written place -/
theorem ev_itemC {value : Expr} {i : Int} (K : CxOk C) (H : EvD C value σ (ItemC i Φ)) (h0 : (decide (0 ≤ i) && decide (i < 2 ^ 63)) = true := by with_unfolding_all rfl) :
    EvD C (.Subscript value (.Constant (.int i) k p1) pos) σ Φ := by
  obtain ⟨h1, h2⟩ := Bool.and_eq_true_iff.mp h0
  have h1 := of_decide_eq_true h1
  have h2 := of_decide_eq_true h2
  refine ev_item K (H.mono fun d σ₁ ⟨x, hx, hf⟩ => ev_int K ⟨i.toNat, by rw [Int.toNat_of_nonneg h1], by omega, x, hx, hf⟩) (by intro _ _; with_unfolding_all rfl)
end
abbrev S (x : String) : D := .str (Str.ofString x)
end

section
theorem vlen1 {vs : List Value} (h : vs.length = 1) : ∃ v, vs = [v] := List.length_eq_one_iff.mp h
theorem vlen2 {vs : List Value} (h : vs.length = 2) : ∃ v w, vs = [v, w] := by
  cases vs with
  | nil => cases h
  | cons v vs =>
    obtain ⟨w, rfl⟩ := vlen1 (Nat.succ.inj h)
    exact ⟨v, w, rfl⟩
theorem vlen3 {vs : List Value} (h : vs.length = 3) : ∃ v w x, vs = [v, w, x] := by
  cases vs with
  | nil => cases h
  | cons v vs =>
    obtain ⟨w, x, rfl⟩ := vlen2 (Nat.succ.inj h)
    exact ⟨v, w, x, rfl⟩
section
variable {C : Cx} {σ σ' : AS} {d e : D} {x y : Str} {pos p p' : Pos} {scope : Scope} {Φ : D → AS → Prop}
theorem table_mem {f : Str} (h : fnTable.any (fun e => e.1 == f) = true) : ∃ params body fsc, (f, params, body, fsc) ∈ fnTable := by
  obtain ⟨⟨g, params, body, fsc⟩, h1, h2⟩ := List.any_eq_true.mp h
  have : g = f := eq_of_beq h2
  subst this
  exact ⟨_, _, _, h1⟩
theorem ev_callX {f : Str} {a : Expr} {r : List Expr} (K : CxOk C) (E : EnvIs C scope) (hx : scope.names.lookup f = some .globalImplicit)
    (H : TsE C (a :: r) pos σ (CallP C f Φ))
    (he : fnTable.any (fun e => e.1 == f) = true := by decide +kernel)
    (hst : starEach (a :: r) C.env = (false, eval a C.env) :: starEach r C.env := by with_unfolding_all rfl) (hd : (f == ("__debug__" : Str)) = false := by decide) : EvD C (.Call (.Name f p) (a :: r) [] pos) σ Φ := by
  obtain ⟨params, body, fsc, hm⟩ := table_mem he
  exact ev_call K E hx hm H hst hd
inductive LenP (Φ : D → AS → Prop) (d : D) (σ₁ : AS) : Prop
  | mk (h1 : d = .list (itemsD d) ∨ d = .tuple (itemsD d)) (h2 : (itemsD d).length < 2 ^ 62) (H : Φ (.int (itemsD d).length) σ₁)
inductive ToTup (Φ : D → AS → Prop) (d : D) (σ₁ : AS) : Prop
  | mk (h1 : d = .list (itemsD d) ∨ d = .tuple (itemsD d)) (h2 : (itemsD d).length ≤ 16384) (H : Φ (.tuple (itemsD d)) σ₁)
theorem ev_len {a : Expr} (K : CxOk C) (E : EnvIs C scope) (hx : scope.names.lookup (Str.ofString "len") = some .globalImplicit)
    (H : EvD C a σ (LenP Φ))
    (hs : starEach [a] C.env = (false, eval a C.env) :: starEach [] C.env := by with_unfolding_all rfl) : EvD C (.Call (.Name (Str.ofString "len") p) [a] [] pos) σ Φ := by
  refine ev_bcall (id := "len") K E hx (by simp) (by decide +kernel) (es_cons K ?_ hs) hs rfl
  intro s Q EE S q
  refine H s Q EE S fun d v σ₁ s₁ h => q d v σ₁ s₁ (es_nil ?_)
  obtain ⟨h1, h2, h3⟩ := h
  exact cal_len K h2 h3 h1
theorem ev_tupleC {a : Expr} (K : CxOk C) (E : EnvIs C scope) (hx : scope.names.lookup (Str.ofString "tuple") = some .globalImplicit)
    (H : EvD C a σ (ToTup Φ))
    (hs : starEach [a] C.env = (false, eval a C.env) :: starEach [] C.env := by with_unfolding_all rfl) : EvD C (.Call (.Name (Str.ofString "tuple") p) [a] [] pos) σ Φ := by
  refine ev_tcall (T := "tuple") K E hx (by simp) (by decide +kernel) (es_cons K ?_ hs) hs rfl
  intro s Q EE S q
  refine H s Q EE S fun d v σ₁ s₁ h => q d v σ₁ s₁ (es_nil ?_)
  obtain ⟨h1, h2, h3⟩ := h
  exact cal_tuple K h2 h3 h1
def listsTo (d : D) (es : List D) : Prop := (d = .list es ∧ es.length ≤ sizeLine) ∨ (∃ a b : Int, d = .rng a b ∧ es = rangeD a b ∧ -(2 ^ 40) ≤ a ∧ a < 2 ^ 40 ∧ -(2 ^ 40) ≤ b ∧ b < 2 ^ 40 ∧ b - a ≤ 2 ^ 20)
inductive ToLst (Φ : D → AS → Prop) (d : D) (σ₁ : AS) : Prop
  | mk (es : List D) (h : listsTo d es) (H : Φ (.list es) σ₁)
inductive MaxP (Φ : D → AS → Prop) (d e : D) (σ₂ : AS) : Prop
  | mk (i j : Int) (h1 : d = .int i) (h2 : e = .int j) (H : Φ (.int (max i j)) σ₂)
abbrev maxK (C : Cx) (b : Expr) (Φ : D → AS → Prop) : D → AS → Prop := fun d σ₁ => EvD C b σ₁ (MaxP Φ d)
inductive RanP (Φ : D → AS → Prop) (d : D) (σ₁ : AS) : Prop
  | mk (i : Int) (h1 : d = .int i) (H : Φ (.rng 0 i) σ₁)
inductive Ran2P (Φ : D → AS → Prop) (d e : D) (σ₂ : AS) : Prop
  | mk (i j : Int) (h1 : d = .int i) (h2 : e = .int j) (H : Φ (.rng i j) σ₂)
abbrev ranK (C : Cx) (b : Expr) (Φ : D → AS → Prop) : D → AS → Prop := fun d σ₁ => EvD C b σ₁ (Ran2P Φ d)
theorem ev_listC {a : Expr} (K : CxOk C) (E : EnvIs C scope) (hx : scope.names.lookup (Str.ofString "list") = some .globalImplicit)
    (H : EvD C a σ (ToLst Φ))
    (hs : starEach [a] C.env = (false, eval a C.env) :: starEach [] C.env := by with_unfolding_all rfl) : EvD C (.Call (.Name (Str.ofString "list") p) [a] [] pos) σ Φ := by
  refine ev_tcall (T := "list") K E hx (by simp) (by decide +kernel) (es_cons K ?_ hs) hs rfl
  intro s Q EE S q
  refine H s Q EE S fun d v σ₁ s₁ h => q d v σ₁ s₁ (es_nil ?_)
  obtain ⟨es, ⟨rfl, hl⟩ | ⟨a, b, rfl, rfl, h1, h2, h3, h4, h5⟩, h⟩ := h
  · exact cal_list K hl h
  · exact cal_listrange K h1 h2 h3 h4 h5 h
theorem ev_max {a b : Expr} (K : CxOk C) (E : EnvIs C scope) (hx : scope.names.lookup (Str.ofString "max") = some .globalImplicit)
    (H : EvD C a σ (maxK C b Φ))
    (hs : starEach [a, b] C.env = (false, eval a C.env) :: starEach [b] C.env := by with_unfolding_all rfl) (hs' : starEach [b] C.env = (false, eval b C.env) :: starEach [] C.env := by with_unfolding_all rfl)
    (hplain : (backTo pos (starEach [b] C.env)).any (·.1) = false := by with_unfolding_all rfl) : EvD C (.Call (.Name (Str.ofString "max") p) [a, b] [] pos) σ Φ := by
  refine ev_bcall (id := "max") K E hx (by simp) (by decide +kernel) (es_cons K ?_ hs) hs hplain
  intro s Q EE S q
  refine H s Q EE S fun d v σ₁ s₁ h => q d v σ₁ s₁ (es_cons K ?_ hs')
  intro s Q EE S q
  refine h s Q EE S fun d v σ₁ s₁ h => q d v σ₁ s₁ (es_nil ?_)
  obtain ⟨i, j, rfl, rfl, h5⟩ := h
  exact cal_max K h5
theorem ev_range1 {a : Expr} (K : CxOk C) (E : EnvIs C scope) (hx : scope.names.lookup (Str.ofString "range") = some .globalImplicit)
    (H : EvD C a σ (RanP Φ))
    (hs : starEach [a] C.env = (false, eval a C.env) :: starEach [] C.env := by with_unfolding_all rfl) : EvD C (.Call (.Name (Str.ofString "range") p) [a] [] pos) σ Φ := by
  refine ev_tcall (T := "range") K E hx (by simp) (by decide +kernel) (es_cons K ?_ hs) hs rfl
  intro s Q EE S q
  refine H s Q EE S fun d v σ₁ s₁ h => q d v σ₁ s₁ (es_nil ?_)
  obtain ⟨i, rfl, h⟩ := h
  exact cal_range1 K h
theorem ev_range2 {a b : Expr} (K : CxOk C) (E : EnvIs C scope) (hx : scope.names.lookup (Str.ofString "range") = some .globalImplicit)
    (H : EvD C a σ (ranK C b Φ))
    (hs : starEach [a, b] C.env = (false, eval a C.env) :: starEach [b] C.env := by with_unfolding_all rfl) (hs' : starEach [b] C.env = (false, eval b C.env) :: starEach [] C.env := by with_unfolding_all rfl)
    (hplain : (backTo pos (starEach [b] C.env)).any (·.1) = false := by with_unfolding_all rfl) : EvD C (.Call (.Name (Str.ofString "range") p) [a, b] [] pos) σ Φ := by
  refine ev_tcall (T := "range") K E hx (by simp) (by decide +kernel) (es_cons K ?_ hs) hs hplain
  intro s Q EE S q
  refine H s Q EE S fun d v σ₁ s₁ h => q d v σ₁ s₁ (es_cons K ?_ hs')
  intro s Q EE S q
  refine h s Q EE S fun d v σ₁ s₁ h => q d v σ₁ s₁ (es_nil ?_)
  obtain ⟨i, j, rfl, rfl, h5⟩ := h
  exact cal_range2 K h5
theorem ev_sorted {a : Expr} (K : CxOk C) (E : EnvIs C scope) (hx : scope.names.lookup (Str.ofString "sorted") = some .globalImplicit)
    (H : EvD C a σ fun d σ₁ => ∃ q₀ ks mu, d = .obj q₀ ∧ σ₁.mu = (q₀, .keys ks) :: mu ∧ ks.length < 64 ∧ ∀ ns : List Int, ns.Perm ks → ns.Pairwise (· ≤ ·) → Φ (.list (ns.map D.int)) σ₁)
    (hs : starEach [a] C.env = (false, eval a C.env) :: starEach [] C.env := by with_unfolding_all rfl) : EvD C (.Call (.Name (Str.ofString "sorted") p) [a] [] pos) σ Φ := by
  refine ev_bcall (id := "sorted") K E hx (by simp) (by decide +kernel) (es_cons K ?_ hs) hs rfl
  intro s Q EE S q
  refine H s Q EE S fun d v σ₁ s₁ h => q d v σ₁ s₁ (es_nil ?_)
  obtain ⟨q₀, ks, mu, rfl, h1, h2, h⟩ := h
  exact cal_sorted_keys K h1 h2 h
theorem x_unpackF {e : Expr} {ts : List Expr} {xs : List Str} {Φ : FlowD → AS → Prop} {k : Nat} (K : CxOk C) (E : FnEnv C scope) (hn : namesOfT ts = some xs) (hv : xs.all (isVar scope) = true)
    (H : EvD C e σ (PutP xs Φ))
    (hw : swappedStores [.Tuple ts k p] e (env0 scope) = pure none := by with_unfolding_all rfl) (hs : swapsWithSole [.Tuple ts k p] e pos.line C.env = pure false := by with_unfolding_all rfl) : XD C (.Assign [.Tuple ts k p] e pos) σ Φ :=
  x_unpackE K E.toEnvIs hn (fun x hx => E.st (List.all_eq_true.mp hv x hx)) H hw hs
theorem x_swapF {e : Expr} {ts : List Expr} {xs : List Str} {Φ : FlowD → AS → Prop} {k : Nat} (K : CxOk C) (E : FnEnv C scope) (hn : namesOfT ts = some xs) (hv : xs.all (isVar scope) = true)
    (H : EvD C e σ (SwapP xs Φ))
    (hw : swappedStores [.Tuple ts k p] e (env0 scope) = pure (some xs) := by with_unfolding_all rfl) (hs : swapsWithSole [.Tuple ts k p] e pos.line C.env = pure false := by with_unfolding_all rfl) : XD C (.Assign [.Tuple ts k p] e pos) σ Φ :=
  x_swap K E.toEnvIs (fun x hx => E.st (List.all_eq_true.mp hv x hx)) H hw hs
end
end

local macro_rules | `(tactic| walk_at "z") => `(tactic| first | exact Nat.le_trans (by assumption) (by decide) | exact Nat.lt_of_le_of_lt (by assumption) (by decide) | exact toNat_le (by assumption) (by assumption) | omega)
local macro_rules | `(tactic| walk_at "e") => `(tactic| first | assumption | exact FnEnv.toEnvIs (by assumption))
local macro_rules | `(tactic| walk_at "d") => `(tactic| ((with_reducible first
  | refine xs_cons (by assumption) ?_
  | refine xs_nil ?_
  | refine x_ret ?_
  | refine x_if ?_
  | refine bv_cmp (by assumption) ?_
  | refine bv_not ?_
  | refine bv_bool ?_
  | refine and_cons ?_
  | refine or_cons ?_
  | refine all_nil ?_
  | refine ev_int (by assumption) ?_
  | refine ev_str (by assumption) ?_
  | refine ev_none ?_
  | refine ev_bool ?_
  | refine ev_name (by assumption) (by with_unfolding_all rfl) ?_
  | refine ev_bin (by assumption) ?_
  | refine ev_cmp (by assumption) ?_
  | refine ev_neg (i := 0) (by assumption) ?_
  | refine ev_if ?_
  | refine es_cons (by assumption) ?_
  | refine es_nil ?_
  | refine ev_tuple (by assumption) ?_
  | refine ev_list (by assumption) ?_
  | refine ev_from1 (by assumption) ?_
  | refine ev_rev (by assumption) ?_
  | refine ev_itemC (by assumption) ?_
  | refine ev_item (by assumption) ?_
  | refine ItemC.mk _ (by with_unfolding_all rfl) ?_
  | refine ⟨_, cmp_is, ?_⟩
  | refine ⟨_, cmp_isnot, ?_⟩
  | refine ⟨_, cmp_lt, ?_⟩
  | refine ⟨_, cmp_le, ?_⟩
  | refine ⟨_, cmp_gt, ?_⟩
  | refine ⟨_, cmp_ge, ?_⟩
  | refine ⟨_, cmp_eq_int, ?_⟩
  | refine ⟨_, bin_add, ?_⟩
  | refine ⟨_, bin_sub, ?_⟩
  | refine ev_len (by assumption) (by walk_at "e") (by with_unfolding_all rfl) ?_
  | refine ev_tupleC (by assumption) (by walk_at "e") (by with_unfolding_all rfl) ?_
  | refine ev_listC (by assumption) (by walk_at "e") (by with_unfolding_all rfl) ?_
  | refine ev_max (by assumption) (by walk_at "e") (by with_unfolding_all rfl) ?_
  | refine ev_range1 (by assumption) (by walk_at "e") (by with_unfolding_all rfl) ?_
  | refine ev_range2 (by assumption) (by walk_at "e") (by with_unfolding_all rfl) ?_
  | refine ev_sorted (by assumption) (by walk_at "e") (by with_unfolding_all rfl) ?_
  | refine ev_callX (by assumption) (by walk_at "e") (by with_unfolding_all rfl) ?_
  | refine x_unpackF (by assumption) (by assumption) (by with_unfolding_all rfl) (by with_unfolding_all rfl) ?_
  | refine x_swapF (by assumption) (by assumption) (by with_unfolding_all rfl) (by with_unfolding_all rfl) ?_
  | refine x_assign (by assumption) (FnEnv.st (by assumption) (by with_unfolding_all rfl)) ?_)))
local macro_rules | `(tactic| walk_at "s") => `(tactic| (refine ⟨_, cmp_eq (n := 0) (m := 0) (by decide +kernel) (by decide +kernel), ?_⟩; first | refine br_t (by decide +kernel) ?_ | refine br_f (by decide +kernel) ?_))
local macro_rules | `(tactic| walk_at "b") => `(tactic| first | refine br_t (by decide) ?_ | refine br_f (by decide) ?_ | refine br_t rfl ?_ | refine br_f rfl ?_)
local macro_rules | `(tactic| walk_at "l") => `(tactic| refine len_ok (by with_unfolding_all rfl) ?_)
local macro_rules | `(tactic| walk_at "r") => `(tactic| repeat (first | walk_at "d" | walk_at "s" | walk_at "l" | walk_at "b"))

section
theorem fit_mono : ∀ {n m : Nat} {d : D}, fit n d = true → n ≤ m → fit m d = true
  | n, m, .none, _, _ => by cases m <;> rfl
  | n, m, .bool _, _, _ => by cases m <;> rfl
  | n, m, .int _, _, _ => by cases m <;> rfl
  | n, m, .str x, h, _ => by cases n <;> cases m <;> exact h
  | 0, m, .tuple _, h, _ => by simp [fit] at h
  | 0, m, .list _, h, _ => by simp [fit] at h
  | n, m, .obj _, h, _ => by cases n <;> simp [fit] at h
  | n, m, .rng _ _, h, _ => by cases n <;> simp [fit] at h
  | n + 1, m + 1, .tuple ds, h, hm => by
    simp only [fit, List.all_eq_true] at h ⊢
    exact fun d hd => fit_mono (h d hd) (Nat.le_of_succ_le_succ hm)
  | n + 1, m + 1, .list ds, h, hm => by
    simp only [fit, List.all_eq_true] at h ⊢
    exact fun d hd => fit_mono (h d hd) (Nat.le_of_succ_le_succ hm)
  | n + 1, 0, .tuple _, _, hm => absurd hm (Nat.not_succ_le_zero _)
  | n + 1, 0, .list _, _, hm => absurd hm (Nat.not_succ_le_zero _)
theorem fit_tuple {n : Nat} {ds : List D} (h : ∀ d ∈ ds, fit n d = true) : fit (n + 1) (.tuple ds) = true := by
  simp only [fit, List.all_eq_true]; exact h
theorem fit_list {n : Nat} {ds : List D} (h : ∀ d ∈ ds, fit n d = true) : fit (n + 1) (.list ds) = true := by
  simp only [fit, List.all_eq_true]; exact h
theorem fit_int {n : Nat} {i : Int} : fit n (.int i) = true := by cases n <;> rfl
theorem fit_bool {n : Nat} {i : Bool} : fit n (.bool i) = true := by cases n <;> rfl
theorem fit_none {n : Nat} : fit n .none = true := by cases n <;> rfl
theorem fit_str {n : Nat} {x : Str} (h : PyData.strOk x = true) : fit n (.str x) = true := by cases n <;> exact h
theorem eqD_bool {a b : Bool} : eqD (.bool a) (.bool b) = (a == b) := by cases a <;> cases b <;> rfl
theorem eqD_int {a b : Int} : eqD (.int a) (.int b) = (a == b) := by
  simp [eqD, toPy, PyData.eqv]
theorem len2 {a b : D} : [a, b].length ≤ sizeLine := by simp [sizeLine]

theorem fn_bounds {G : GC} (hG : GOk G) {k : String} {t a b : D} {r : List D} (hk : fit 0 (S k) = true) (he : eqD (S k) (S "const") = false) : Fn G (Str.ofString "bounds_of") 1 [.tuple (S k :: t :: a :: b :: r)] (· = .tuple [a, b]) := by
  have hf : (fnTable[2]? : Option _) = some (Str.ofString "bounds_of", _, _, _) := rfl
  refine fn_body (xs := [Str.ofString "pattern"]) hG (List.mem_of_getElem? hf) (fun pm code doc vs h => ?_) rfl (by decide) (by decide) (fun n => ?_) rfl rfl rfl (fun C hCG hCk K E => ?_)
  · obtain ⟨v, rfl⟩ := vlen1 h; rfl
  · exact List.nodup_nil
  · clear hf
    walk_at "r"
    refine ⟨_, cmp_eq (n := 0) (m := 0) hk (by decide +kernel), ?_⟩
    refine ⟨fun h => absurd h (by rw [he]; decide), fun _ => ?_⟩
    walk_at "r"
    exact ⟨_, rfl, rfl⟩
theorem fn_bounds_const {G : GC} (hG : GOk G) {t a : D} {r : List D} : Fn G (Str.ofString "bounds_of") 1 [.tuple (S "const" :: t :: a :: r)] (· = .tuple [a, a]) := by
  have hf : (fnTable[2]? : Option _) = some (Str.ofString "bounds_of", _, _, _) := rfl
  refine fn_body (xs := [Str.ofString "pattern"]) hG (List.mem_of_getElem? hf) (fun pm code doc vs h => ?_) rfl (by decide) (by decide) (fun n => ?_) rfl rfl rfl (fun C hCG hCk K E => ?_)
  · obtain ⟨v, rfl⟩ := vlen1 h; rfl
  · exact List.nodup_nil
  · clear hf
    walk_at "r"
    exact ⟨_, rfl, rfl⟩
end

section
section
variable {G : GC} (hG : GOk G)
include hG
theorem taken_wild {t con : D} {many : Nat} (hm : many ≤ 60) : Fn G (Str.ofString "taken") 2 [.tuple [S "wild", t], con, .int many] (· = .tuple (List.replicate many (.tuple [S "wild", t]))) := by
  have hf : (fnTable[4]? : Option _) = some (Str.ofString "taken", _, _, _) := rfl
  refine fn_body (xs := [Str.ofString "pattern", Str.ofString "constructor", Str.ofString "many"]) hG (List.mem_of_getElem? hf) (fun pm code doc vs h => ?_) rfl (by decide) (by decide) (fun n => ?_) rfl rfl rfl (fun C hCG hCk K E => ?_)
  · obtain ⟨v, w, x, rfl⟩ := vlen3 h; rfl
  · exact List.nodup_nil
  · clear hf
    walk_at "r"
    refine ⟨_, bin_mul_list1 (Int.natCast_nonneg _) (by walk_at "z"), ?_⟩
    rw [Int.toNat_natCast]
    exact ⟨.inl rfl, by simp [itemsD]; walk_at "z", _, rfl, rfl⟩
theorem taken_range {t con : D} {k : String} {lo hi x y : Int} {many : D} {r : List D} (hk : fit 0 (S k) = true) (he : eqD (S k) (S "wild") = false)
    (hb : Fn G (Str.ofString "bounds_of") 1 [.tuple (S k :: t :: r)] (· = .tuple [.int x, .int y])) : Fn G (Str.ofString "taken") 2 [.tuple (S k :: t :: r), .tuple [S "range", .int lo, .int hi], many] (· = if x ≤ lo ∧ hi ≤ y then .tuple [] else .none) := by
  have hf : (fnTable[4]? : Option _) = some (Str.ofString "taken", _, _, _) := rfl
  refine fn_body (xs := [Str.ofString "pattern", Str.ofString "constructor", Str.ofString "many"]) hG (List.mem_of_getElem? hf) (fun pm code doc vs h => ?_) rfl (by decide) (by decide) (fun n => ?_) rfl rfl rfl (fun C hCG hCk K E => ?_)
  · obtain ⟨v, w, x, rfl⟩ := vlen3 h; rfl
  · exact List.nodup_nil
  · clear hf
    walk_at "r"
    refine ⟨_, cmp_eq (n := 0) (m := 0) hk (by decide +kernel), ?_⟩
    refine ⟨fun h => absurd h (by rw [he]; decide), fun _ => ?_⟩
    walk_at "r"
    refine ⟨1, _, by rw [hCG]; exact hb, by rw [hCk]; decide, fun d hd => ⟨[.int x, .int y], hd, rfl, ?_⟩⟩
    walk_at "r"
    refine ⟨fun h => ?_, fun h => ?_⟩
    · walk_at "r"
      refine ⟨fun h' => ?_, fun h' => ?_⟩
      · walk_at "r"
        exact ⟨_, rfl, by rw [if_pos ⟨of_decide_eq_true h, of_decide_eq_true h'⟩]⟩
      · walk_at "r"
        exact ⟨_, rfl, by rw [if_neg fun z => of_decide_eq_false h' z.2]⟩
    · walk_at "r"
      exact ⟨_, rfl, by rw [if_neg fun z => of_decide_eq_false h z.1]⟩
theorem taken_bool {t : D} {b c : Bool} {many : D} : Fn G (Str.ofString "taken") 2 [.tuple [S "const", t, .bool b], .tuple [S "bool", .bool c], many] (· = if b = c then .tuple [] else .none) := by
  have hf : (fnTable[4]? : Option _) = some (Str.ofString "taken", _, _, _) := rfl
  refine fn_body (xs := [Str.ofString "pattern", Str.ofString "constructor", Str.ofString "many"]) hG (List.mem_of_getElem? hf) (fun pm code doc vs h => ?_) rfl (by decide) (by decide) (fun n => ?_) rfl rfl rfl (fun C hCG hCk K E => ?_)
  · obtain ⟨v, w, x, rfl⟩ := vlen3 h; rfl
  · exact List.nodup_nil
  · clear hf
    walk_at "r"
    refine ⟨_, cmp_eq (n := 0) (m := 0) rfl rfl, ?_⟩
    rw [eqD_bool]
    refine ⟨fun h => ?_, fun h => ?_⟩
    all_goals walk_at "r"
    · exact ⟨_, rfl, by rw [if_pos (eq_of_beq h)]⟩
    · exact ⟨_, rfl, by rw [if_neg (ne_of_beq_false h)]⟩
theorem taken_variant {t : D} {n m : Int} {many : D} {parts : List D} (hp : parts.length ≤ 16384) : Fn G (Str.ofString "taken") 2 [.tuple [S "variant", t, .int n, .tuple parts], .tuple [S "variant", .int m], many] (· = if n = m then .tuple parts else .none) := by
  have hf : (fnTable[4]? : Option _) = some (Str.ofString "taken", _, _, _) := rfl
  refine fn_body (xs := [Str.ofString "pattern", Str.ofString "constructor", Str.ofString "many"]) hG (List.mem_of_getElem? hf) (fun pm code doc vs h => ?_) rfl (by decide) (by decide) (fun n => ?_) rfl rfl rfl (fun C hCG hCk K E => ?_)
  · obtain ⟨v, w, x, rfl⟩ := vlen3 h; rfl
  · exact List.nodup_nil
  · clear hf
    walk_at "r"
    refine ⟨fun h => ?_, fun h => ?_⟩
    all_goals walk_at "r"
    · exact ⟨.inr rfl, hp, _, rfl, by rw [if_pos (eq_of_beq h)]; rfl⟩
    · exact ⟨_, rfl, by rw [if_neg (ne_of_beq_false h)]⟩
theorem taken_fields {t : D} {many : D} {parts : List D} (hp : parts.length ≤ 16384) : Fn G (Str.ofString "taken") 2 [.tuple [S "fields", t, .tuple parts], .tuple [S "fields"], many] (· = .tuple parts) := by
  have hf : (fnTable[4]? : Option _) = some (Str.ofString "taken", _, _, _) := rfl
  refine fn_body (xs := [Str.ofString "pattern", Str.ofString "constructor", Str.ofString "many"]) hG (List.mem_of_getElem? hf) (fun pm code doc vs h => ?_) rfl (by decide) (by decide) (fun n => ?_) rfl rfl rfl (fun C hCG hCk K E => ?_)
  · obtain ⟨v, w, x, rfl⟩ := vlen3 h; rfl
  · exact List.nodup_nil
  · clear hf
    walk_at "r"
    exact ⟨.inr rfl, hp, _, rfl, rfl⟩
theorem taken_deref {t p : D} {many : D} : Fn G (Str.ofString "taken") 2 [.tuple [S "deref", t, p], .tuple [S "deref"], many] (· = .tuple [p]) := by
  have hf : (fnTable[4]? : Option _) = some (Str.ofString "taken", _, _, _) := rfl
  refine fn_body (xs := [Str.ofString "pattern", Str.ofString "constructor", Str.ofString "many"]) hG (List.mem_of_getElem? hf) (fun pm code doc vs h => ?_) rfl (by decide) (by decide) (fun n => ?_) rfl rfl rfl (fun C hCG hCk K E => ?_)
  · obtain ⟨v, w, x, rfl⟩ := vlen3 h; rfl
  · exact List.nodup_nil
  · clear hf
    walk_at "r"
    exact ⟨_, rfl, rfl⟩
end
end

section
theorem paired_map {A : Type} {P : D → D → Prop} {f g : A → D} {xs : List A} {es : List D} (h : Paired P (xs.map f) es) (hp : ∀ x ∈ xs, ∀ e, P (f x) e → e = g x) : es = xs.map g := by
  induction xs generalizing es with
  | nil => cases h; rfl
  | cons x xs ih => cases h with | cons a r => rw [List.map_cons, hp x (.head _) _ a, ← ih r fun y hy => hp y (.tail _ hy)]
def rowD (r : D × List D × D) : D := .tuple (r.1 :: r.2.1)
def dueD (r : D × List D × D) : Option D := match r.2.2 with
  | .tuple ds => some (.tuple (ds ++ r.2.1))
  | _ => none
section
variable {G : GC} (hG : GOk G)
include hG
theorem fn_narrowed {con many : D} {rs : List (D × List D × D)} (hl : rs.length ≤ 60)
    (ht : ∀ r ∈ rs, Fn G (Str.ofString "taken") 2 [r.1, con, many] (· = r.2.2)) (hn : ∀ r ∈ rs, r.2.1.length ≤ 60 ∧ (r.2.2 = .none ∨ ∃ ds, r.2.2 = .tuple ds ∧ ds.length ≤ 60)) :
    Fn G (Str.ofString "narrowed") 3 [.list (rs.map rowD), con, many] (· = .list (rs.filterMap dueD)) := by
  have hf : (fnTable[5]? : Option _) = some (Str.ofString "narrowed", _, _, _) := rfl
  refine fn_body (xs := [Str.ofString "rows", Str.ofString "constructor", Str.ofString "many"]) hG (List.mem_of_getElem? hf) (fun pm code doc vs h => ?_) rfl (by decide) (by decide) (fun n => ?_) rfl rfl rfl (fun C hCG hCk K E => ?_)
  · obtain ⟨v, w, x, rfl⟩ := vlen3 h; rfl
  · exact List.nodup_nil
  · clear hf
    refine xs_cons K ?_
    refine x_assign K (by exact E.st (by decide)) ?_
    refine ev_list_new K fun q => ?_
    dsimp only
    refine xs_cons K ?_
    refine x_for K (it_seq K rfl ?_)
    walk_at "r"
    refine .inl ⟨_, rfl, fun d σ => σ.put (Str.ofString "row") d, fun i σ => σ = ⟨[(Str.ofString "found", .obj q), (Str.ofString "rows", .list (rs.map rowD)), (Str.ofString "constructor", con), (Str.ofString "many", many)], [(q, .list ((rs.take i).filterMap dueD))]⟩, rfl, ?_, ?_⟩
    · rintro C' L K' i d σ hd rfl
      rw [List.getElem?_map, Option.map_eq_some_iff] at hd
      obtain ⟨r, hr, rfl⟩ := hd
      have hm : r ∈ rs := List.mem_of_getElem? hr
      have E' := E.like L
      refine ⟨tgt_name K' (by exact E'.st (by decide)), ?_⟩
      dsimp only [AS.put]
      have en : (rs.take (i + 1)).filterMap dueD = (rs.take i).filterMap dueD ++ (dueD r).toList := by
        rw [List.take_add_one, hr, List.filterMap_append]; simp [List.filterMap]
        cases dueD r <;> rfl
      have hlen : ((rs.take i).filterMap dueD).length ≤ 60 := Nat.le_trans (List.length_filterMap_le _ _) (Nat.le_trans (by rw [List.length_take]; exact Nat.min_le_right _ _) hl)
      obtain ⟨pat, behind, told⟩ := r
      have hf := ht _ hm
      have hb := hn _ hm
      unfold rowD
      dsimp only at hf hb ⊢
      walk_at "r"
      refine ⟨2, _, by rw [L.G, hCG]; exact hf, by rw [L.k, hCk]; decide, ?_⟩
      rintro d rfl
      walk_at "r"
      obtain ⟨hb, rfl | ⟨ds, rfl, hd⟩⟩ := hb
      · refine ⟨fun h => (by cases h), fun _ => ?_⟩
        walk_at "r"
        refine ⟨_, ?_, by show _ = _; rw [en, show dueD (pat, behind, D.none) = none from rfl, Option.toList, List.append_nil] <;> rfl⟩
        exact SubL.of rfl
      · refine ⟨fun _ => ?_, fun h => (by cases h)⟩
        refine xs_cons K' ?_
        refine x_append K' rfl ⟨_, .head _⟩ ?_
        walk_at "r"
        refine .inr ⟨_, _, rfl, by simp [sizeLine]; walk_at "z", .inr rfl, by simp [itemsD]; walk_at "z", _, bin_add_tuple (by simp [itemsD, sizeLine]; walk_at "z"), [], [], _, rfl, by simp [sizeLine]; walk_at "z", ?_⟩
        walk_at "r"
        refine ⟨_, ?_, by show _ = _; rw [en]; rfl⟩
        exact SubL.of rfl
    · rintro σ rfl
      refine xs_freeze (Str.ofString "found") (l1 := []) (l2 := []) rfl rfl ?_
      walk_at "r"
      exact ⟨_, rfl, by rw [List.length_map, List.take_length]⟩
end
end

section
theorem ItD.mono {C : Cx} {iter tgt : Expr} {σ : AS} {Φ Φ' : List D → AS → Prop} (H : ItD C iter tgt σ Φ) (hm : ∀ ds σ, Φ ds σ → Φ' ds σ) : ItD C iter tgt σ Φ' :=
  fun s Q E S q => H s Q E S fun I ds srcs dsrc Wr It Mid σ₁ s₁ h₂ h => q I ds srcs dsrc Wr It Mid σ₁ s₁ h₂ (hm _ _ h)
theorem relabel_loc {cs scope : Scope} {C' : Cx} {x : Str} (E : EnvIs C' (relabelS cs scope)) (hx : (relabelS cs scope).names.lookup x = some .local) : Stores C' x := E.loc hx
inductive NameP (C : Cx) (cs scope : Scope) (elt : Expr) (x : Str) (ifs : List Expr) (Φ : List D → AS → Prop) (ds : List D) (σ₁ : AS) : Prop
  | mk (hl : ds.length ≤ sizeLine) (cap : List (Str × D)) (hc : capt (relabelS cs scope) σ₁.loc = cap) (hS : ∀ d, SubL cap ((x, d) :: cap)) (p : D → Bool) (P : D → D → Prop)
    (h : ∀ C', CxOk C' → C'.G = C.G → C'.k = C.k → EnvIs C' (relabelS cs scope) → ∀ d ∈ ds, TtD C' ifs ⟨(x, d) :: cap, []⟩ (tstK (p d) ⟨(x, d) :: cap, []⟩) ∧ (p d = true → EvD C' elt ⟨(x, d) :: cap, []⟩ (eltK P d ⟨(x, d) :: cap, []⟩)))
    (hf : ∀ es, Paired P (ds.filter p) es → Φ es σ₁)
theorem comp_name {C : Cx} {σ : AS} {scope cs : Scope} {elt iter : Expr} {x : Str} {xp : Pos} {ifs : List Expr} {Φ : List D → AS → Prop} (hx : (relabelS cs scope).names.lookup x = some .local)
    (H : ItD C iter (.Name x xp) σ (NameP C cs scope elt x ifs Φ)) : CompH C σ scope cs elt (.Name x xp) iter ifs Φ := by
  refine H.mono fun ds σ₁ => ?_
  rintro ⟨hl, cap, rfl, hS, p, P, h, hf⟩
  exact ⟨hl, fun d σ => ⟨(x, d) :: σ.loc, σ.mu⟩, p, P, fun C' K' hG hk E' d hd => ⟨tgt_name K' (relabel_loc E' hx), hS d, rfl, (h C' K' hG hk E' d hd).1, (h C' K' hG hk E' d hd).2⟩, hf⟩
inductive TwoP (C : Cx) (cs scope : Scope) (elt : Expr) (x y : Str) (ifs : List Expr) (Φ : List D → AS → Prop) (ds : List D) (σ₁ : AS) : Prop
  | mk (hl : ds.length ≤ sizeLine) (cap : List (Str × D)) (hc : capt (relabelS cs scope) σ₁.loc = cap) (hS : ∀ d e, SubL cap ((y, e) :: (x, d) :: cap)) (p : D → Bool) (P : D → D → Prop)
    (h : ∀ C', CxOk C' → C'.G = C.G → C'.k = C.k → EnvIs C' (relabelS cs scope) → ∀ d ∈ ds, ∃ a b, d = .tuple [a, b] ∧ TtD C' ifs ⟨(y, b) :: (x, a) :: cap, []⟩ (tstK (p d) ⟨(y, b) :: (x, a) :: cap, []⟩) ∧ (p d = true → EvD C' elt ⟨(y, b) :: (x, a) :: cap, []⟩ (eltK P d ⟨(y, b) :: (x, a) :: cap, []⟩)))
    (hf : ∀ es, Paired P (ds.filter p) es → Φ es σ₁)
theorem comp_two {C : Cx} {σ : AS} {scope cs : Scope} {elt iter : Expr} {x y : Str} {xp yp tp : Pos} {k : Nat} {ifs : List Expr} {Φ : List D → AS → Prop} (hx : (relabelS cs scope).names.lookup x = some .local) (hy : (relabelS cs scope).names.lookup y = some .local)
    (H : ItD C iter (.Tuple [.Name x xp, .Name y yp] k tp) σ (TwoP C cs scope elt x y ifs Φ)) : CompH C σ scope cs elt (.Tuple [.Name x xp, .Name y yp] k tp) iter ifs Φ := by
  refine H.mono fun ds σ₁ => ?_
  rintro ⟨hl, cap, rfl, hS, p, P, h, hf⟩
  refine ⟨hl, fun d σ => putAll σ [x, y] (itemsD d), p, P, fun C' K' hG hk E' d hd => ?_, hf⟩
  obtain ⟨a, b, rfl, h1, h2⟩ := h C' K' hG hk E' d hd
  refine ⟨tgt_tuple K' rfl ?_ rfl, hS a b, rfl, h1, h2⟩
  intro z hz
  simp only [List.mem_cons, List.not_mem_nil, or_false] at hz
  rcases hz with rfl | rfl
  · exact relabel_loc E' hx
  · exact relabel_loc E' hy
theorem paired_ex {P : D → D → Prop} {B : Type} {g : B → D} {xs : List D} {es : List D} (h : Paired P xs es) (hp : ∀ x ∈ xs, ∀ e, P x e → ∃ b, e = g b) : ∃ bs : List B, es = bs.map g ∧ bs.length = xs.length := by
  induction xs generalizing es with
  | nil => cases h; exact ⟨[], rfl, rfl⟩
  | cons x xs ih =>
    cases h with
    | cons a r =>
      obtain ⟨b, rfl⟩ := hp x (.head _) _ a
      obtain ⟨bs, rfl, hl⟩ := ih r fun y hy => hp y (.tail _ hy)
      exact ⟨b :: bs, rfl, congrArg Nat.succ hl⟩
theorem filter_true {xs : List D} : xs.filter (fun _ => true) = xs := List.filter_eq_self.mpr fun _ _ => rfl
section
variable {G : GC} (hG : GOk G)
include hG
theorem fn_rest {rs : List (D × List D × D)} (hl : rs.length ≤ 60) (W : D → Bool) (ht : ∀ r ∈ rs, ∃ k t, r.1 = .tuple (S k :: t) ∧ fit 0 (S k) = true ∧ eqD (S k) (S "wild") = W r.1) (hn : ∀ r ∈ rs, r.2.1.length ≤ 60) :
    Fn G (Str.ofString "rest_of") 1 [.list (rs.map rowD)] (· = .list ((rs.filter fun r => W r.1).map fun r => .tuple r.2.1)) := by
  have hf : (fnTable[6]? : Option _) = some (Str.ofString "rest_of", _, _, _) := rfl
  refine fn_body (xs := [Str.ofString "rows"]) hG (List.mem_of_getElem? hf) (fun pm code doc vs h => ?_) rfl (by decide) (by decide) (fun n => ?_) rfl rfl rfl (fun C hCG hCk K E => ?_)
  · obtain ⟨v, rfl⟩ := vlen1 h; rfl
  · exact List.nodup_nil
  · clear hf
    refine xs_cons K (x_ret ?_)
    refine ev_comp K E.toEnvIs ⟨rfl, by decide, by decide, by decide⟩ ?_
    refine comp_name (by with_unfolding_all rfl) ?_
    refine it_seq K rfl ?_
    walk_at "r"
    refine .inl ⟨_, rfl, by simp [sizeLine]; walk_at "z", [], rfl, fun _ => trivial, fun d => W ((itemsD d)[0]?.getD .none), fun d e => e = .tuple ((itemsD d).drop 1), ?_, ?_⟩
    · intro C' K' hG' hk' E' d hd
      obtain ⟨r, hr, rfl⟩ := List.mem_map.mp hd
      obtain ⟨k, t, h1, h2, h3⟩ := ht r hr
      have h4 := hn r hr
      obtain ⟨pat, behind, told⟩ := r
      dsimp only at h1 h2 h3 h4
      subst h1
      refine ⟨tt_one ?_, fun _ => ?_⟩
      · unfold rowD
        walk_at "r"
        exact ⟨_, cmp_eq (n := 0) (m := 0) h2 (by decide +kernel), h3, rfl⟩
      · unfold rowD
        walk_at "r"
        refine .inr ⟨_, _, rfl, by simp [sizeLine]; walk_at "z", .inr rfl, by simp [itemsD]; walk_at "z", rfl, rfl⟩
    · intro es hp
      rw [List.filter_map] at hp
      have := paired_map hp (g := fun r => .tuple r.2.1) (fun r _ e he => he)
      exact ⟨_, rfl, by rw [this]; rfl⟩
theorem fn_wild {rs : List (D × List D × D)} (hl : rs.length ≤ 60) (W : D → Bool) (ht : ∀ r ∈ rs, ∃ k t, r.1 = .tuple (S k :: t) ∧ fit 0 (S k) = true ∧ eqD (S k) (S "wild") = W r.1) (hn : ∀ r ∈ rs, fit 20 (rowD r) = true) :
    Fn G (Str.ofString "are_wild") 1 [.list (rs.map rowD)] (· = .bool (rs.filter (fun r => !W r.1)).isEmpty) := by
  have hf : (fnTable[7]? : Option _) = some (Str.ofString "are_wild", _, _, _) := rfl
  refine fn_body (xs := [Str.ofString "rows"]) hG (List.mem_of_getElem? hf) (fun pm code doc vs h => ?_) rfl (by decide) (by decide) (fun n => ?_) rfl rfl rfl (fun C hCG hCk K E => ?_)
  · obtain ⟨v, rfl⟩ := vlen1 h; rfl
  · exact List.nodup_nil
  · clear hf
    refine xs_cons K (x_ret ?_)
    refine ev_cmp K ?_
    refine ev_comp K E.toEnvIs ⟨rfl, by decide, by decide, by decide⟩ ?_
    refine comp_name (by with_unfolding_all rfl) ?_
    refine it_seq K rfl ?_
    walk_at "r"
    refine .inl ⟨_, rfl, by simp [sizeLine]; walk_at "z", [], rfl, fun _ => trivial, fun d => !W ((itemsD d)[0]?.getD .none), fun d e => e = d, ?_, ?_⟩
    · intro C' K' hG' hk' E' d hd
      obtain ⟨r, hr, rfl⟩ := List.mem_map.mp hd
      obtain ⟨k, t, h1, h2, h3⟩ := ht r hr
      obtain ⟨pat, behind, told⟩ := r
      dsimp only at h1 h2 h3
      subst h1
      refine ⟨tt_one ?_, fun _ => ?_⟩
      · unfold rowD
        walk_at "r"
        exact ⟨_, cmp_ne (n := 0) (m := 0) h2 (by decide +kernel), congrArg _ h3, rfl⟩
      · walk_at "r"
        exact ⟨rfl, rfl⟩
    · intro es hp
      rw [List.filter_map] at hp
      have := paired_map hp (g := rowD) (fun r _ e he => he)
      subst this
      walk_at "r"
      refine ⟨_, cmp_eq (n := 21) (m := 1) ?_ rfl, _, rfl, ?_⟩
      · refine fit_list fun d hd => ?_
        obtain ⟨r, hr, rfl⟩ := List.mem_map.mp hd
        exact hn r (List.mem_filter.mp hr).1
      · have : ((fun d => !W ((itemsD d)[0]?.getD D.none)) ∘ rowD) = fun r => !W r.1 := rfl
        rw [this]
        cases List.filter (fun r => !W r.1) rs with
        | nil => rfl
        | cons a l => rfl
end
end

section
theorem cells_fst : ∀ (names : List (Str × NameKind)) (n m : Nat) (acc acc' : List (Str × Addr)), acc.map (·.1) = acc'.map (·.1) → (cellsFrom n names acc).map (·.1) = (cellsFrom m names acc').map (·.1)
  | [], _, _, _, _, h => h
  | (x, k) :: r, n, m, acc, acc', h => by
    unfold cellsFrom
    split
    · exact cells_fst r _ _ _ _ (by simp [h])
    · exact cells_fst r _ _ _ _ h
theorem cells_nodup {names : List (Str × NameKind)} (h : ((cellsFrom 0 names []).map (·.1)).Nodup) (n : Nat) : ((cellsFrom n names []).map (·.1)).Nodup := by
  rw [cells_fst names n 0 [] [] rfl]; exact h
def HeadOk (G : GC) (d : D) (o : Option (Int × Int)) : Prop :=
  ∃ k t, d = .tuple (S k :: t) ∧ fit 0 (S k) = true ∧ ([S "const", S "range"].any fun e => eqD e (S k)) = o.isSome ∧ ∀ xy, o = some xy → Fn G (Str.ofString "bounds_of") 1 [d] (· = .tuple [.int xy.1, .int xy.2])
def keysStep (low : Int) (ks : List Int) (o : Option (Int × Int)) : List Int :=
  match o with
  | none => ks
  | some (x, y) => addKey (addKey ks (max x low)) (y + 1)
def keysOf (low : Int) (os : List (Option (Int × Int))) : List Int := os.foldl (keysStep low) [low]
theorem addKey_len {ks : List Int} {i : Int} : (addKey ks i).length ≤ ks.length + 1 := by unfold addKey; split <;> simp
theorem keysStep_len {low : Int} {ks : List Int} {o : Option (Int × Int)} : (keysStep low ks o).length ≤ ks.length + 2 := by
  cases o with
  | none => exact Nat.le_add_right _ _
  | some xy => exact Nat.le_trans addKey_len (Nat.add_le_add_right addKey_len 1)
theorem foldl_len {low : Int} : ∀ (os : List (Option (Int × Int))) (ks : List Int), (os.foldl (keysStep low) ks).length ≤ ks.length + 2 * os.length
  | [], ks => by simp
  | o :: os, ks => by
    have h1 := foldl_len (low := low) os (keysStep low ks o)
    have h2 := keysStep_len (low := low) (ks := ks) (o := o)
    simp only [List.foldl_cons, List.length_cons]
    walk_at "z"
theorem keysOf_len {low : Int} {os : List (Option (Int × Int))} : (keysOf low os).length ≤ 1 + 2 * os.length := foldl_len os [low]
def rangesD (cs : List Int) : List D := (List.range (cs.length - 1)).map fun i => .tuple [S "range", .int (cs[i]?.getD 0), .int (cs[i + 1]?.getD 0 - 1)]
def cutsOf (low high : Int) (ns : List Int) : List Int := ns.filter (fun n => decide (low ≤ n) && decide (n ≤ high)) ++ [high + 1]
section
variable {G : GC} (hG : GOk G)
include hG
theorem fn_ranges {low high : Int} {hs : List (D × Option (Int × Int))} (hl : hs.length ≤ 20) (hh : ∀ r ∈ hs, HeadOk G r.1 r.2) :
    Fn G (Str.ofString "ranges_of") 2 [.int low, .int high, .list (hs.map Prod.fst)] (fun d => ∃ ns : List Int, ns.Perm (keysOf low (hs.map Prod.snd)) ∧ ns.Pairwise (· ≤ ·) ∧ d = .list (rangesD (cutsOf low high ns))) := by
  have hf : (fnTable[3]? : Option _) = some (Str.ofString "ranges_of", _, _, _) := rfl
  refine fn_body (xs := [Str.ofString "low", Str.ofString "high", Str.ofString "heads"]) hG (List.mem_of_getElem? hf) (fun pm code doc vs h => ?_) rfl (by decide) (by decide) (fun n => ?_) rfl rfl rfl (fun C hCG hCk K E => ?_)
  · obtain ⟨v, w, x, rfl⟩ := vlen3 h; rfl
  · exact cells_nodup (by decide) n
  · clear hf
    refine xs_cons K ?_
    refine x_assign K (by exact E.st (by decide)) ?_
    refine ev_dict1 K rfl fun q => ?_
    dsimp only
    refine xs_cons K ?_
    refine x_for K (it_seq K rfl ?_)
    walk_at "r"
    refine .inl ⟨_, rfl, fun d σ => σ.put (Str.ofString "head") d, fun i σ => σ = ⟨[(Str.ofString "begins", .obj q), (Str.ofString "low", .int low), (Str.ofString "high", .int high), (Str.ofString "heads", .list (hs.map Prod.fst))], [(q, .keys (((hs.map Prod.snd).take i).foldl (keysStep low) [low]))]⟩, rfl, ?_, ?_⟩
    · rintro C' L K' i d σ hd rfl
      rw [List.getElem?_map, Option.map_eq_some_iff] at hd
      obtain ⟨r, hr, rfl⟩ := hd
      have hm : r ∈ hs := List.mem_of_getElem? hr
      have hi : i < hs.length := (List.getElem?_eq_some_iff.mp hr).1
      have E' := E.like L
      refine ⟨tgt_name K' (by exact E'.st (by decide)), ?_⟩
      dsimp only [AS.put]
      have en : ((hs.map Prod.snd).take (i + 1)).foldl (keysStep low) [low] = keysStep low (((hs.map Prod.snd).take i).foldl (keysStep low) [low]) r.2 := by
        rw [List.take_add_one, List.getElem?_map, hr, List.foldl_append]; rfl
      have hlen := foldl_len (low := low) ((hs.map Prod.snd).take i) [low]
      rw [List.length_take, List.length_map, Nat.min_eq_left (Nat.le_of_lt hi)] at hlen
      generalize ((hs.map Prod.snd).take i).foldl (keysStep low) [low] = ks at en hlen ⊢
      have hl' : ks.length ≤ 41 := by have : [low].length = 1 := rfl; walk_at "z"
      obtain ⟨k, t, h1, h2, h3, h4⟩ := hh r hm
      obtain ⟨d, o⟩ := r
      dsimp only at h1 h2 h3 h4 en ⊢
      subst h1
      walk_at "r"
      refine ⟨_, cmp_in_tuple (n := 0) (m := 0) h2 (by decide +kernel), ?_⟩
      rw [show ([S "const", S "range"].any fun e => eqD e (S k)) = o.isSome from h3]
      cases o with
      | none =>
        walk_at "r"
        refine ⟨_, ?_, by show _ = _; rw [en]; rfl⟩
        exact SubL.of rfl
      | some xy =>
        obtain ⟨x, y⟩ := xy
        walk_at "r"
        refine ⟨1, _, by rw [L.G, hCG]; exact h4 _ rfl, by rw [L.k, hCk]; decide, ?_⟩
        rintro d rfl
        refine ⟨_, rfl, rfl, ?_⟩
        dsimp only [putAll, AS.put]
        refine xs_cons K' ?_
        refine x_setkey K' rfl ?_
        walk_at "r"
        refine ⟨_, _, rfl, rfl, [], [], _, _, rfl, rfl, by simp [sizeLine]; walk_at "z", ?_⟩
        refine xs_cons K' ?_
        refine x_setkey K' rfl ?_
        walk_at "r"
        refine ⟨[], [], _, _, rfl, rfl, Nat.le_trans addKey_len (by simp [sizeLine]; walk_at "z"), ?_⟩
        walk_at "r"
        refine ⟨_, ?_, by show _ = _; rw [en]; rfl⟩
        exact SubL.of rfl
    · rintro σ rfl
      have hlen := foldl_len (low := low) (hs.map Prod.snd) [low]
      rw [List.length_map] at hlen
      rw [List.length_map, show (hs.map Prod.snd).take hs.length = hs.map Prod.snd by rw [← List.length_map (f := Prod.snd), List.take_length]]
      change _ at hlen
      generalize hks : (hs.map Prod.snd).foldl (keysStep low) [low] = ks at hlen ⊢
      have hl' : ks.length ≤ 41 := by have : [low].length = 1 := rfl; walk_at "z"
      refine xs_cons K ?_
      refine x_assign K (by exact E.st (by decide)) ?_
      refine ev_bin K ?_
      refine ev_comp K E.toEnvIs ⟨rfl, by decide, by decide, by decide⟩ ?_
      refine comp_name (by with_unfolding_all rfl) ?_
      refine it_seq K rfl ?_
      walk_at "r"
      refine ⟨q, ks, [], rfl, rfl, by walk_at "z", fun ns hp hw => .inl ⟨_, rfl, by have := hp.length_eq; simp [sizeLine]; walk_at "z", [(Str.ofString "low", .int low), (Str.ofString "high", .int high)], rfl, fun _ => (SubL.of rfl), 
        fun d => (match d with | .int n => decide (low ≤ n) && decide (n ≤ high) | _ => false), fun d e => e = d, ?_, ?_⟩⟩
      · intro C' K' hG' hk' E' d hd
        obtain ⟨n, hn, rfl⟩ := List.mem_map.mp hd
        refine ⟨tt_one ?_, fun _ => ?_⟩
        · refine bv_chain2 K' ?_
          walk_at "r"
          refine ⟨fun h => ⟨by show false = (decide (low ≤ n) && _); rw [h]; rfl, rfl⟩, fun h => ?_⟩
          walk_at "r"
          exact ⟨by show _ = (decide (low ≤ n) && _); rw [h]; rfl, rfl⟩
        · walk_at "r"
          exact ⟨rfl, rfl⟩
      · intro es hp'
        rw [List.filter_map] at hp'
        have := paired_map hp' (g := D.int) (fun r _ e he => he)
        subst this
        have e1 : ((fun d => (match d with | .int n => decide (low ≤ n) && decide (n ≤ high) | _ => false)) ∘ D.int) = fun n => decide (low ≤ n) && decide (n ≤ high) := rfl
        rw [e1]
        generalize hfs : ns.filter (fun n => decide (low ≤ n) && decide (n ≤ high)) = fs
        have hfl : fs.length ≤ 41 := by
          rw [← hfs]
          exact Nat.le_trans (List.length_filter_le _ _) (by rw [hp.length_eq]; exact hl')
        walk_at "r"
        refine ⟨_, bin_add_list (by simp [sizeLine]; walk_at "z"), ?_⟩
        rw [show fs.map D.int ++ [D.int (high + 1)] = (cutsOf low high ns).map D.int by rw [cutsOf, hfs]; simp]
        have hcl : (cutsOf low high ns).length = fs.length + 1 := by rw [cutsOf, hfs]; simp
        have hres : ∀ d : D, d = D.list (rangesD (cutsOf low high ns)) → ∃ ns : List Int, ns.Perm (keysOf low (hs.map Prod.snd)) ∧ ns.Pairwise (· ≤ ·) ∧ d = D.list (rangesD (cutsOf low high ns)) := fun d h => ⟨ns, by rw [keysOf, hks]; exact hp, hw, h⟩
        generalize cutsOf low high ns = cs at hcl hres ⊢
        refine xs_cons K (x_ret ?_)
        refine ev_comp K E.toEnvIs ⟨rfl, by decide, by decide, by decide⟩ ?_
        refine comp_name (by with_unfolding_all rfl) ?_
        refine it_seq K rfl ?_
        walk_at "r"
        refine ⟨.inl rfl, by simp [itemsD]; walk_at "z", ?_⟩
        walk_at "r"
        refine ⟨_, rfl, .inr (.inr ⟨⟨_, _, rfl⟩, _, _, rfl, by decide, by decide, by simp [itemsD]; walk_at "z", by simp [itemsD]; walk_at "z", ?_⟩)⟩
        refine ⟨by rw [rangeD_len]; simp [itemsD, sizeLine]; walk_at "z", [(Str.ofString "cuts", .list (cs.map D.int))], rfl, fun _ => (SubL.of rfl), fun _ => true, 
          fun d e => ∃ i : Nat, d = .int i ∧ e = .tuple [S "range", .int (cs[i]?.getD 0), .int (cs[i + 1]?.getD 0 - 1)], ?_, ?_⟩
        · intro C' K' hG' hk' E' d hd
          obtain ⟨i, hi⟩ := List.getElem?_of_mem hd
          obtain ⟨hi, rfl⟩ := rangeD_get hi
          rw [Int.zero_add]
          have hil : (itemsD (D.list (cs.map D.int))).length = cs.length := List.length_map _
          rw [hil] at hi
          have hi1 : i < cs.length := by walk_at "z"
          have hi2 : i + 1 < cs.length := by walk_at "z"
          refine ⟨tt_nil ⟨rfl, rfl⟩, fun _ => ?_⟩
          walk_at "r"
          refine ⟨i, rfl, by walk_at "z", .int cs[i], by simp [itemsD, hi1], ?_⟩
          walk_at "r"
          refine ⟨i + 1, by simp, by walk_at "z", .int cs[i + 1], by simp [itemsD, hi2], ?_⟩
          walk_at "r"
          refine ⟨⟨i, rfl, ?_⟩, rfl⟩
          simp [hi1, hi2]
        · intro es hp'
          rw [filter_true, rangeD, itemsD] at hp'
          have := paired_map hp' (g := fun i => .tuple [S "range", .int (cs[i]?.getD 0), .int (cs[i + 1]?.getD 0 - 1)]) (fun r _ e he => by
            obtain ⟨i, h1, rfl⟩ := he
            have : r = i := by injection h1 with h; walk_at "z"
            subst this; rfl)
          refine ⟨_, rfl, hres _ ?_⟩
          rw [this, rangesD]
          simp
end
end

section
abbrev t8 : D := .tuple [S "int", S "u8"]
mutual
inductive Bnd : Nat → D → List D → Nat → Prop
  | last (j : Nat) (n : Int) : Bnd j (.tuple [S "bind", t8, .int n, S "copy", .none]) [.tuple [S "wild", t8]] 1
  | const (j : Nat) (n : Int) : Bnd j (.tuple [S "const", t8, .int n]) [.tuple [S "const", t8, .int n]] 1
  | bind {j : Nat} {p : D} {fs : List D} {k : Nat} (n : Int) : Bnd j p fs k → Bnd (j + 1) (.tuple [S "bind", t8, .int n, S "move", p]) fs (k + 1)
  | or {j : Nat} {ps fs : List D} {k : Nat} : Bnds j ps fs k → Bnd (j + 1) (.tuple [S "or", t8, .tuple ps]) fs (k + 1)
inductive Bnds : Nat → List D → List D → Nat → Prop
  | nil (j : Nat) : Bnds j [] [] 0
  | cons {j : Nat} {p : D} {ps f fs : List D} {a b : Nat} : Bnd j p f a → Bnds j ps fs b → Bnds j (p :: ps) (f ++ fs) (a + b)
end
theorem Bnd.notNone {j : Nat} {p : D} {fs : List D} {k : Nat} (b : Bnd j p fs k) : isNoneD p = false := by cases b <;> rfl
theorem Bnd.pos {j : Nat} {p : D} {fs : List D} {k : Nat} (b : Bnd j p fs k) : 1 ≤ k := by cases b <;> walk_at "z"
def Bare (fs : List D) (k : Nat) (d : D) : Prop :=
  (∃ kk t, d = .tuple (S kk :: t) ∧ fs = [d] ∧ fit 0 (S kk) = true ∧ eqD (S kk) (S "or") = false ∧ fit 2 d = true ∧ 1 ≤ k) ∨ ∃ j ps k', d = .tuple [S "or", t8, .tuple ps] ∧ j ≤ 3 ∧ Bnds j ps fs k' ∧ k' < k
theorem fit_bind {n : Nat} {i : Int} {a : String} {p : D} (h : fit n p = true) (hn : 1 ≤ n) (ha : PyData.strOk (Str.ofString a) = true) : fit (n + 1) (.tuple [S "bind", t8, .int i, S a, p]) = true := by
  refine fit_tuple fun d hd => ?_
  simp only [List.mem_cons, List.not_mem_nil, or_false] at hd
  rcases hd with rfl | rfl | rfl | rfl | rfl
  · exact fit_str (by decide +kernel)
  · exact fit_mono (n := 1) (by decide +kernel) hn
  · exact fit_int
  · exact fit_str ha
  · exact h
theorem Bnds.facts {j : Nat} {ps fs : List D} {k : Nat} (b : Bnds j ps fs k) : (∀ p ∈ ps, fit (2 * j + 2) p = true) ∧ ps.length ≤ k ∧ fs.length ≤ k ∧ ∀ f ∈ fs, fit 2 f = true :=
  Bnds.rec (motive_1 := fun j p fs k _ => fit (2 * j + 2) p = true ∧ 1 ≤ k ∧ fs.length ≤ k ∧ ∀ f ∈ fs, fit 2 f = true) (motive_2 := fun j ps fs k _ => (∀ p ∈ ps, fit (2 * j + 2) p = true) ∧ ps.length ≤ k ∧ fs.length ≤ k ∧ ∀ f ∈ fs, fit 2 f = true)
    (fun j n => ⟨fit_mono (n := 2) (fit_bind (n := 1) fit_none (by decide) (by decide +kernel)) (Nat.le_add_left _ _), Nat.le_refl _, Nat.le_refl _, fun f hf => by cases List.mem_singleton.mp hf; decide +kernel⟩)
    (fun j n => have e : fit 2 (.tuple [S "const", t8, .int n]) = true := by simp [fit]; decide +kernel
      ⟨fit_mono (n := 2) e (Nat.le_add_left _ _), Nat.le_refl _, Nat.le_refl _, fun f hf => by cases List.mem_singleton.mp hf; exact e⟩)
    (fun n _ b => ⟨fit_mono (fit_bind b.1 (Nat.le_add_left 1 _) (by decide +kernel)) (Nat.le_succ _), Nat.le_add_left _ _, Nat.le_succ_of_le b.2.2.1, b.2.2.2⟩)
    (fun {j ps fs k} _ b => ⟨fit_tuple (n := 2 * j + 3) fun d hd => by
      simp only [List.mem_cons, List.not_mem_nil, or_false] at hd
      rcases hd with rfl | rfl | rfl
      · exact fit_str (by decide +kernel)
      · exact fit_mono (n := 1) (by decide +kernel) (Nat.le_add_left 1 _)
      · exact fit_tuple b.1, Nat.le_add_left _ _, Nat.le_succ_of_le b.2.2.1, b.2.2.2⟩)
    (fun j => ⟨fun _ h => (nomatch h), Nat.le_refl _, Nat.le_refl _, fun _ h => (nomatch h)⟩)
    (fun {j p ps f fs a b} _ _ x y => ⟨fun p hp => (List.mem_cons.mp hp).elim (fun e => e ▸ x.1) (y.1 p), by rw [Nat.add_comm a b]; exact Nat.add_le_add y.2.1 x.2.1, by rw [List.length_append]; exact Nat.add_le_add x.2.2.1 y.2.2.1,
      fun f hf => (List.mem_append.mp hf).elim (x.2.2.2 f) (y.2.2.2 f)⟩) b
theorem Bnd.fits {j : Nat} {p : D} {fs : List D} {k : Nat} (b : Bnd j p fs k) : fit (2 * j + 2) p = true := (Bnds.facts (.cons b (.nil j))).1 p (.head _)
theorem Bnds.fits {j : Nat} {ps fs : List D} {k : Nat} (b : Bnds j ps fs k) : ∀ p ∈ ps, fit (2 * j + 2) p = true := b.facts.1
theorem Bnds.len {j : Nat} {ps fs : List D} {k : Nat} (b : Bnds j ps fs k) : ps.length ≤ k := b.facts.2.1
/-- rows to be opened, what is due for them, how large they are -/
inductive RowsB : List D → List D → Nat → Prop
  | nil : RowsB [] [] 0
  | cons {j : Nat} {p : D} {fs behind : List D} {k m : Nat} {rows due : List D} : Bnd j p fs k → j ≤ 3 → behind.length ≤ 20 → (∀ d ∈ behind, fit 8 d = true) → RowsB rows due m → RowsB (.tuple (p :: behind) :: rows) (fs.map (fun f => .tuple (f :: behind)) ++ due) (k + m)
theorem RowsB.app {j : Nat} {behind : List D} (hj : j ≤ 3) (hb : behind.length ≤ 20) (hf : ∀ d ∈ behind, fit 8 d = true) {ps fs : List D} {k : Nat} {rows due : List D} {m : Nat} (b : Bnds j ps fs k) (r : RowsB rows due m) :
    RowsB (ps.map (fun p => .tuple (p :: behind)) ++ rows) (fs.map (fun f => .tuple (f :: behind)) ++ due) (k + m) := by
  induction ps generalizing fs k with
  | nil => cases b; rw [Nat.zero_add]; exact r
  | cons p ps ih =>
    cases b with
    | cons b c =>
      rw [List.map_append, List.append_assoc, Nat.add_assoc]
      exact .cons b hj hb hf (ih c)
theorem RowsB.fits {rows due : List D} {m : Nat} (r : RowsB rows due m) : ∀ d ∈ rows, fit 9 d = true := by
  induction r with
  | nil => intro d hd; cases hd
  | cons b hj hb hf r ih =>
    intro d hd
    rcases List.mem_cons.mp hd with rfl | hd
    · refine fit_tuple fun e he => ?_
      rcases List.mem_cons.mp he with rfl | he
      · exact fit_mono b.fits (by walk_at "z")
      · exact hf e he
    · exact ih d hd
theorem RowsB.len {rows due : List D} {m : Nat} (r : RowsB rows due m) : rows.length ≤ m := by
  induction r with
  | nil => exact Nat.le_refl _
  | cons b hj hb hf r ih => have := b.pos; simp only [List.length_cons]; walk_at "z"
theorem Bare.mono {fs : List D} {k k' : Nat} {d : D} (b : Bare fs k d) (h : k ≤ k') : Bare fs k' d := by
  rcases b with ⟨kk, t, h1, h2, h3, h4, h5, h6⟩ | ⟨j, ps, k2, h1, hj, h2, h3⟩
  · exact .inl ⟨kk, t, h1, h2, h3, h4, h5, Nat.le_trans h6 h⟩
  · exact .inr ⟨j, ps, k2, h1, hj, h2, Nat.lt_of_lt_of_le h3 h⟩
section
variable {C : Cx} {σ : AS} {s : Shared}
theorem new_mu_list (S : St C σ s) (K : CxOk C) {vs : List Value} {ds : List D} (r : Reps (off C σ) s.heap vs ds) (tk : Nat) :
    St C ⟨σ.loc, (s.heap.objs.size, .list ds) :: σ.mu⟩ { s with heap := s.heap.push { cls := .type "list", data := .seq vs.toArray }, toks := tk } ∧
    Tr C σ s ⟨σ.loc, (s.heap.objs.size, .list ds) :: σ.mu⟩ { s with heap := s.heap.push { cls := .type "list", data := .seq vs.toArray }, toks := tk } := by
  have S' := S.new K { cls := .type "list", data := .seq vs.toArray } tk
  have nk : ¬ off C σ s.heap.objs.size := S.fresh_off
  have hoff : ∀ b, off C ⟨σ.loc, (s.heap.objs.size, .list ds) :: σ.mu⟩ b → off C σ b ∨ s.heap.get? b = none := by
    intro b z
    rcases z with z | z
    · exact .inl (.inl z)
    · simp only [AS.key, List.map_cons, List.mem_cons] at z
      rcases z with rfl | z
      · exact .inr (fresh_get _)
      · exact .inl (.inr z)
  refine ⟨⟨S'.wd, S'.xb, S'.ns, S'.cells, fun x d z => ?_, fun p o z => ?_, ?_, fun p o z => ?_⟩, ⟨.of_all (push_k _ _), fun b o e => ⟨o, push_k _ _ _ _ e⟩, fun p z => ?_⟩⟩
  · obtain ⟨v, hv, r⟩ := S.loc x d z
    exact ⟨v, hv.all (push_k _ _), r.go hoff (O := fun _ => False) (fun _ z => z.elim) (.of_all (push_k _ _))⟩
  · rcases List.mem_cons.mp z with z | z
    · cases z
      exact ⟨⟨vs, ⟨_, Heap.get?_push_size _ rfl⟩, r.go hoff (O := fun _ => False) (fun _ z => z.elim) (.of_all (push_k _ _))⟩, fun z => nk (.inl z)⟩
    · obtain ⟨m, n⟩ := S.mu p o z
      exact ⟨m.go hoff (O := fun _ => False) (fun _ z => z.elim) (.of_all (push_k _ _)) (fun o e => push_k _ _ _ _ e), n⟩
  · simp only [List.map_cons, List.nodup_cons]
    exact ⟨fun z => nk (.inr z), S.nd⟩
  · rcases List.mem_cons.mp z with z | z
    · cases z
      exact S.base0 (fresh_get _)
    · exact S.m0 p o z
  · simp only [AS.key, List.map_cons, List.mem_cons] at z
    rcases z with rfl | z
    · exact .inr (fresh_get _)
    · exact .inl z
/-- x[::-1] of a list, to be filled -/
theorem ev_rev_new {value : Expr} {k : Nat} {p1 p2 p pos : Pos} {Φ : D → AS → Prop} (K : CxOk C) (H : EvD C value σ fun d σ₁ => ∃ ds, d = .list ds ∧ ds.length ≤ sizeLine ∧ ∀ q, Φ (.obj q) ⟨σ₁.loc, (q, .list ds.reverse) :: σ₁.mu⟩) :
    EvD C (.Subscript value (.Slice none none (some (.UnaryOp .USub (.Constant (.int 1) k p1) p2)) p) pos) σ Φ := by
  intro s Q E S q
  refine Subscript_ (H s _ _ S fun v d σ₁ s₁ h₁ S₁ r₁ t₁ => ?_)
  refine wpAny_Slice (wpAny_evalPart_none (wpAny_evalPart_none (wpAny_evalPart_some (wpAny_UnaryOp (wpAny_Constant_int (PySem.P.neg_int ?_))))))
  have S₂ := S₁.new K { cls := .type "slice", data := .fields #[.none, .none, Value.int (-1) (s₁.toks + 1)] } (s₁.toks + 1 + 1)
  have t₂ : Tr C σ₁ s₁ σ₁ { s₁ with heap := s₁.heap.push { cls := .type "slice", data := .fields #[.none, .none, Value.int (-1) (s₁.toks + 1)] }, toks := s₁.toks + 1 + 1 } := .grow (push_k _ _) _
  obtain ⟨ds, rfl, hz, hf⟩ := h₁
  obtain ⟨_, _, rfl, n, l, rs⟩ := r₁.list_inv
  have l' := l.push { cls := .type "slice", data := .fields #[.none, .none, Value.int (-1) (s₁.toks + 1)] }
  refine tail_any (s := { s₁ with heap := s₁.heap.push { cls := .type "slice", data := .fields #[.none, .none, Value.int (-1) (s₁.toks + 1)] }, toks := s₁.toks + 1 + 1 }) l'.typeIs slot_list_getitem.lookup
    (wpAny_getItem_list_slice l' (Heap.IsSliceOf.new ..) .none .none (.int (-1) _) (by decide) ?_ (by rw [List.size_toArray, rs.length]; exact hz)) rfl
  have rr := rs.reverse.tok (push_k s₁.heap { cls := .type "slice", data := .fields #[.none, .none, Value.int (-1) (s₁.toks + 1)] })
  rw [krv_pick]
  obtain ⟨S₃, t₃⟩ := new_mu_list S₂ K rr (s₁.toks + 1 + 1)
  exact q _ _ _ _ (hf _) S₃ (.obj _) ((t₁.trans t₂).trans t₃)
end
section
variable {G : GC} (hG : GOk G)
include hG
theorem fn_bare {j : Nat} {p : D} {fs : List D} {k : Nat} (b : Bnd j p fs k) (hj : j ≤ 3) : Fn G (Str.ofString "bare") 1 [p] (Bare fs k) := by
  have hf : (fnTable[0]? : Option _) = some (Str.ofString "bare", _, _, _) := rfl
  refine fn_body (xs := [Str.ofString "pattern"]) hG (List.mem_of_getElem? hf) (fun pm code doc vs h => ?_) rfl (by decide) (by decide) (fun n => ?_) rfl rfl rfl (fun C hCG hCk K E => ?_)
  · obtain ⟨v, rfl⟩ := vlen1 h; rfl
  · exact List.nodup_nil
  · clear hf
    refine xs_cons K ?_
    refine x_while K (fun m σ => ∃ j p, σ = ⟨[(Str.ofString "pattern", p)], []⟩ ∧ Bnd j p fs m ∧ m ≤ k ∧ j ≤ 3) k ⟨j, p, rfl, b, Nat.le_refl _, hj⟩ ?_
    rintro m σ ⟨j, p, rfl, b, hm, hj⟩
    cases b with
    | last j n =>
      walk_at "r"
      exact ⟨_, rfl, .inl ⟨"wild", _, rfl, rfl, by decide +kernel, by decide +kernel, by decide +kernel, by walk_at "z"⟩⟩
    | const j n =>
      walk_at "r"
      exact ⟨_, rfl, .inl ⟨"const", _, rfl, rfl, by decide +kernel, by decide +kernel, by simp [fit]; decide +kernel, by walk_at "z"⟩⟩
    | bind n b =>
      walk_at "r"
      rw [b.notNone]
      walk_at "r"
      refine ⟨_, _, Nat.lt_succ_self _, ?_, _, _, rfl, b, by walk_at "z", by walk_at "z"⟩
      exact SubL.of rfl
    | or b =>
      walk_at "r"
      exact ⟨_, rfl, .inr ⟨_, _, _, rfl, by walk_at "z", b, by walk_at "z"⟩⟩
theorem fn_opened {rows due : List D} {k : Nat} (hk : k ≤ 40) (hr : RowsB rows due k) : Fn G (Str.ofString "opened") 2 [.list rows] (· = .list due) := by
  have hf : (fnTable[1]? : Option _) = some (Str.ofString "opened", _, _, _) := rfl
  refine fn_body (xs := [Str.ofString "rows"]) hG (List.mem_of_getElem? hf) (fun pm code doc vs h => ?_) rfl (by decide) (by decide) (fun n => ?_) rfl rfl rfl (fun C hCG hCk K E => ?_)
  · obtain ⟨v, rfl⟩ := vlen1 h; rfl
  · exact cells_nodup (by decide) n
  · clear hf
    refine xs_cons K ?_
    first | refine x_swapF K E (by with_unfolding_all rfl) (by with_unfolding_all rfl) ?_ | refine x_unpackF K E (by with_unfolding_all rfl) (by with_unfolding_all rfl) ?_
    refine ev_tuple K ?_
    refine es_cons K ?_
    refine ev_list_new K fun q => ?_
    refine es_cons K ?_
    refine ev_rev_new K ?_
    walk_at "r"
    have hlr := hr.len
    refine ⟨rows, .inl ⟨rfl, by simp [sizeLine]; walk_at "z"⟩, _, rfl, by simp [sizeLine]; walk_at "z", fun q1 => ?_⟩
    walk_at "r"
    refine ⟨_, rfl, rfl, ?_⟩
    refine xs_sub (l := [(Str.ofString "found", .obj q), (Str.ofString "left", .obj q1)]) (SubL.of rfl) ?_
    refine xs_cons K ?_
    refine x_while K (fun m σ => ∃ found left due', σ = ⟨[(Str.ofString "found", .obj q), (Str.ofString "left", .obj q1)], [(q1, .list left), (q, .list found)]⟩ ∧ RowsB left.reverse due' m ∧ found ++ due' = due ∧ found.length + m ≤ k) k ?_ ?_
    · exact ⟨[], _, due, rfl, by rw [List.reverse_reverse]; exact hr, rfl, by simp⟩
    · rintro m σ ⟨found, left, due', rfl, hb, hd, hm⟩
      have hfits : ∀ d ∈ left, fit 9 d = true := fun d hd => hb.fits d (List.mem_reverse.mpr hd)
      have hll : left.length ≤ m := by have := hb.len; rwa [List.length_reverse] at this
      refine bv_ne_nil K rfl (.head _) hfits (by decide) ?_
      rcases List.eq_nil_or_concat left with rfl | ⟨ds, dl, rfl⟩
      · refine ⟨fun h => (by cases h), fun _ => ?_⟩
        cases hb
        try dsimp only
        refine xs_freeze (Str.ofString "found") (l1 := [(q1, .list [])]) (l2 := []) rfl rfl ?_
        walk_at "r"
        exact ⟨_, rfl, by rw [← hd, List.append_nil]⟩
      · refine ⟨fun _ => ?_, fun h => ?_⟩
        · rw [List.concat_eq_append] at hll hb ⊢
          rw [List.reverse_append, List.reverse_cons, List.reverse_nil, List.nil_append, List.singleton_append] at hb
          generalize hrr : dl :: ds.reverse = rr at hb
          cases hb with
          | nil => cases hrr
          | @cons j p fs behind k1 m1 rws due2 b hj hbl hbf r =>
          injection hrr with e1 e2
          subst e1
          subst e2
          refine xs_cons K ?_
          refine x_assign K (by exact E.st (by decide)) ?_
          refine ev_pop K (l1 := []) rfl rfl (by simp at hll; simp [sizeLine]; walk_at "z") ?_
          walk_at "r"
          refine ⟨1, _, by rw [hCG]; exact fn_bare hG b hj, by rw [hCk]; decide, fun d hbare => ?_⟩
          rcases hbare with ⟨kk, t, rfl, rfl, h1, h2, h3, h4⟩ | ⟨j', ps, k', rfl, hj', hbs, hk'⟩
          · walk_at "r"
            refine ⟨_, cmp_eq (n := 0) (m := 0) h1 (by decide +kernel), ?_⟩
            refine ⟨fun h => absurd h (by rw [h2]; decide), fun _ => ?_⟩
            simp only [List.length_append, List.length_cons, List.length_nil] at hll
            refine xs_cons K ?_
            refine x_append K rfl ⟨_, .tail _ (.head _)⟩ ?_
            walk_at "r"
            refine .inr ⟨_, _, rfl, by simp [sizeLine]; walk_at "z", .inr rfl, by simp [itemsD]; walk_at "z", _, bin_add_tuple (by simp [itemsD, sizeLine]; walk_at "z"), [(q1, .list ds)], [], _, rfl, by simp [sizeLine]; walk_at "z", ?_⟩
            walk_at "r"
            refine ⟨_, m1, by walk_at "z", ?_, _, _, due2, rfl, r, by rw [← hd]; simp [itemsD], by simp; walk_at "z"⟩
            exact SubL.of rfl
          · walk_at "r"
            simp only [List.length_append, List.length_cons, List.length_nil] at hll
            have hpl := hbs.len
            refine x_extend K rfl ⟨_, .head _⟩ ?_
            refine ev_comp K E.toEnvIs ⟨rfl, by decide, by decide, by decide⟩ ?_
            refine comp_name (by with_unfolding_all rfl) ?_
            refine it_seq K rfl ?_
            walk_at "r"
            refine .inr ⟨ps, rfl, by simp [sizeLine]; walk_at "z", .inr (.inl ⟨⟨_, _, rfl⟩, _, rfl, by simp [sizeLine]; walk_at "z", [(Str.ofString "row", .tuple (p :: behind))], rfl, fun _ => (SubL.of rfl), fun _ => true, fun d e => e = .tuple (d :: behind), ?_, ?_⟩)⟩
            · intro C' K' hG' hk' E' d hd
              refine ⟨tt_nil ⟨rfl, rfl⟩, fun _ => ?_⟩
              walk_at "r"
              refine .inr ⟨_, _, rfl, by simp [sizeLine]; walk_at "z", .inr rfl, by simp [itemsD]; walk_at "z", _, bin_add_tuple (by simp [itemsD, sizeLine]; walk_at "z"), rfl, rfl⟩
            · intro es hp'
              rw [filter_true, ← List.map_id ps.reverse] at hp'
              have := paired_map hp' (g := fun d => .tuple (d :: behind)) (fun r _ e he => he)
              subst this
              refine ⟨[], [(q, .list found)], _, _, rfl, rfl, by simp [sizeLine]; walk_at "z", ?_⟩
              walk_at "r"
              refine ⟨_, k' + m1, by walk_at "z", ?_, _, _, _, rfl, ?_, hd, by walk_at "z"⟩
              · exact SubL.of rfl
              · rw [List.reverse_append, ← List.map_reverse, List.reverse_reverse]
                exact RowsB.app hj' hbl hbf hbs r
        · simp at h
end
end

section
def JarOk (j : Addr) (h : Heap) : Prop := ∃ a t b u, h.IsList j #[.int a t, .int b u] ∧ 0 ≤ b ∧ b < 2147483647
structure JG (G : GC) (j : Addr) : Prop where
  W : G.W j
  J : G.J = JarOk j
section
variable {C : Cx} {σ : AS} {x : Str} {j : Addr} {np p1 pos : Pos} {k : Nat}
theorem ev_jar0 {Φ : D → AS → Prop} (K : CxOk C) (g : JG C.G j) (hx : σ.loc.lookup x = some (.obj j)) (H : ∀ a, Φ (.int a) σ) (hd : (x == ("__debug__" : Str)) = false := by decide) : EvD C (.Subscript (.Name x np) (.Constant (.int 0) k p1) pos) σ Φ := by
  intro s Q E S q
  refine Subscript_ (ev_name (Φ := fun d σ₁ => d = .obj j ∧ σ₁ = σ) K hx ⟨rfl, rfl⟩ hd s _ _ S fun v d σ₁ s₁ hh S₁ r₁ t₁ => ?_)
  obtain ⟨rfl, rfl⟩ := hh
  obtain rfl := r₁.obj_inv
  refine wpAny_Constant_int ?_
  have h := S₁.wd.j
  rw [g.J] at h
  obtain ⟨a, t, b, u, l, h1, h2⟩ := h
  have S₂ := S₁.tok K (s₁.toks + 1)
  exact tail_any (s := { s₁ with toks := s₁.toks + 1 }) l.typeIs slot_list_getitem.lookup (wpAny_getItem_list l (by decide) (by decide) (x := .int a t) rfl (q _ _ _ _ (H a) S₂ (.int _ _) (t₁.trans (.tok _)))) rfl
theorem ev_jar1 {Φ : D → AS → Prop} (K : CxOk C) (g : JG C.G j) (hx : σ.loc.lookup x = some (.obj j)) (H : ∀ b : Int, 0 ≤ b → b < 2147483647 → Φ (.int b) σ) (hd : (x == ("__debug__" : Str)) = false := by decide) : EvD C (.Subscript (.Name x np) (.Constant (.int 1) k p1) pos) σ Φ := by
  intro s Q E S q
  refine Subscript_ (ev_name (Φ := fun d σ₁ => d = .obj j ∧ σ₁ = σ) K hx ⟨rfl, rfl⟩ hd s _ _ S fun v d σ₁ s₁ hh S₁ r₁ t₁ => ?_)
  obtain ⟨rfl, rfl⟩ := hh
  obtain rfl := r₁.obj_inv
  refine wpAny_Constant_int ?_
  have h := S₁.wd.j
  rw [g.J] at h
  obtain ⟨a, t, b, u, l, h1, h2⟩ := h
  have S₂ := S₁.tok K (s₁.toks + 1)
  exact tail_any (s := { s₁ with toks := s₁.toks + 1 }) l.typeIs slot_list_getitem.lookup (wpAny_getItem_list l (by decide) (by decide) (x := .int b u) rfl (q _ _ _ _ (H b h1 h2) S₂ (.int _ _) (t₁.trans (.tok _)))) rfl
theorem jar_set {s : Shared} {h' : Heap} (K : CxOk C) (g : JG C.G j) (S : St C σ s) (hs : Heap.SameBut j s.heap h') (hj : JarOk j h') (tk : Nat) : St C σ { s with heap := h', toks := tk } ∧ Tr C σ s σ { s with heap := h', toks := tk } := by
  have kk := hs.extBut
  have keep : KeepsOff C.G.W s.heap h' := fun b o n e => kk b o (fun y => n (y ▸ g.W)) e
  have ex : ∀ b o, s.heap.get? b = some o → ∃ o', h'.get? b = some o' := fun b o e => by
    by_cases y : b = j
    · obtain ⟨a, t, b', u, ⟨o', e', _⟩, _⟩ := hj
      exact ⟨o', y ▸ e'⟩
    · exact ⟨o, kk b o y e⟩
  have wd : Wd C.G { s with heap := h', toks := tk } := ⟨fun b o e => kk b o (fun y => by have := K.G.w0 _ g.W; rw [← y, e] at this; cases this) (S.wd.base b o e), S.wd.gens, S.wd.os, by rw [g.J]; exact hj⟩
  exact ⟨S.frame K (s' := { s with heap := h', toks := tk }) keep ex wd, Tr.frame K (s' := { s with heap := h', toks := tk }) keep ex⟩
theorem x_jar0 {Φ : FlowD → AS → Prop} {e : Expr} {sp : Pos} (K : CxOk C) (g : JG C.G j)
    (H : EvD C e σ fun d σ₁ => ∃ i, d = .int i ∧ σ₁.loc.lookup x = some (.obj j) ∧ Φ .next σ₁) (hd : (x == ("__debug__" : Str)) = false := by decide)
    (hsw : swapsWith e (some (.Subscript (.Name x np) (.Constant (.int 0) k p1) sp)) pos.line C.env = pure false := by with_unfolding_all rfl) :
    XD C (.Assign [.Subscript (.Name x np) (.Constant (.int 0) k p1) sp] e pos) σ Φ := by
  intro s Q EE S q
  refine wpAny_Assign_Subscript (H s _ _ S fun v d σ₁ s₁ hh S₁ r₁ t₁ => ?_) hsw
  obtain ⟨i, rfl, hx, hf⟩ := hh
  obtain ⟨w, rfl⟩ := r₁.int_inv
  refine ev_name (Φ := fun d σ₂ => d = .obj j ∧ σ₂ = σ₁) K hx ⟨rfl, rfl⟩ hd s₁ _ _ S₁ fun v d σ₂ s₂ hh S₂ r₂ t₂ => ?_
  obtain ⟨rfl, rfl⟩ := hh
  cases r₂
  refine wpAny_Constant_int ?_
  have h := S₂.wd.j
  rw [g.J] at h
  obtain ⟨a, t, b, u, l, h1, h2⟩ := h
  refine wpAny_setItem_list (s := { s₂ with toks := s₂.toks + 1 }) l (by decide) (by decide) (by simp) fun h' l' hs => ?_
  obtain ⟨S₃, t₃⟩ := jar_set K g S₂ hs ⟨i, w, b, u, l', h1, h2⟩ (s₂.toks + 1)
  exact q _ _ _ _ hf S₃ .next ((t₁.trans t₂).trans t₃)
theorem x_jar1 {Φ : FlowD → AS → Prop} {e : Expr} {sp : Pos} (K : CxOk C) (g : JG C.G j)
    (H : EvD C e σ fun d σ₁ => ∃ i : Int, d = .int i ∧ 0 ≤ i ∧ i < 2147483647 ∧ σ₁.loc.lookup x = some (.obj j) ∧ Φ .next σ₁) (hd : (x == ("__debug__" : Str)) = false := by decide)
    (hsw : swapsWith e (some (.Subscript (.Name x np) (.Constant (.int 1) k p1) sp)) pos.line C.env = pure false := by with_unfolding_all rfl) :
    XD C (.Assign [.Subscript (.Name x np) (.Constant (.int 1) k p1) sp] e pos) σ Φ := by
  intro s Q EE S q
  refine wpAny_Assign_Subscript (H s _ _ S fun v d σ₁ s₁ hh S₁ r₁ t₁ => ?_) hsw
  obtain ⟨i, rfl, g1, g2, hx, hf⟩ := hh
  obtain ⟨w, rfl⟩ := r₁.int_inv
  refine ev_name (Φ := fun d σ₂ => d = .obj j ∧ σ₂ = σ₁) K hx ⟨rfl, rfl⟩ hd s₁ _ _ S₁ fun v d σ₂ s₂ hh S₂ r₂ t₂ => ?_
  obtain ⟨rfl, rfl⟩ := hh
  cases r₂
  refine wpAny_Constant_int ?_
  have h := S₂.wd.j
  rw [g.J] at h
  obtain ⟨a, t, b, u, l, h1, h2⟩ := h
  refine wpAny_setItem_list (s := { s₂ with toks := s₂.toks + 1 }) l (by decide) (by decide) (by simp) fun h' l' hs => ?_
  obtain ⟨S₃, t₃⟩ := jar_set K g S₂ hs ⟨a, t, i, w, l', g1, g2⟩ (s₂.toks + 1)
  exact q _ _ _ _ hf S₃ .next ((t₁.trans t₂).trans t₃)
end
section
variable {G : GC} (hG : GOk G) {j : Addr} (g : JG G j)
include hG g
theorem fn_dip {top : Int} (h1 : 1 ≤ top) (h2 : top < 1000) : Fn G (Str.ofString "_law_dip") 1 [.obj j, .int top] (fun d => ∃ n : Int, d = .int n ∧ 0 ≤ n ∧ n < top) := by
  have hf : (fnTable[9]? : Option _) = some (Str.ofString "_law_dip", _, _, _) := rfl
  refine fn_body (xs := [Str.ofString "jar", Str.ofString "top"]) hG (List.mem_of_getElem? hf) (fun pm code doc vs h => ?_) rfl (by decide) (by decide) (fun n => ?_) rfl rfl rfl (fun C hCG hCk K E => ?_)
  · obtain ⟨v, w, rfl⟩ := vlen2 h; rfl
  · exact List.nodup_nil
  · clear hf
    have g' : JG C.G j := by rw [hCG]; exact g
    refine xs_cons K (x_if ?_)
    refine bv_cmp K ?_
    refine ev_jar0 K g' rfl fun a => ?_
    walk_at "r"
    refine ⟨fun _ => ?_, fun _ => ?_⟩
    · refine xs_cons K ?_
      refine x_assign K (by exact E.st (by decide)) ?_
      refine ev_bin K ?_
      refine ev_jar0 K g' rfl fun a => ?_
      walk_at "r"
      refine ⟨_, bin_mod (by walk_at "z"), ?_⟩
      refine xs_cons K ?_
      refine x_jar0 K g' ?_
      refine ev_bin K ?_
      refine ev_jar0 K g' rfl fun a => ?_
      walk_at "r"
      refine ⟨_, bin_fdiv (by walk_at "z") (by walk_at "z"), _, rfl, rfl, ?_⟩
      walk_at "r"
      exact ⟨_, rfl, _, rfl, Int.fmod_nonneg_of_pos _ (by walk_at "z"), Int.fmod_lt_of_pos _ (by walk_at "z")⟩
    · walk_at "r"
      refine x_jar1 K g' ?_
      refine ev_bin K ?_
      refine ev_bin K ?_
      refine ev_bin K ?_
      refine ev_jar1 K g' rfl fun b hb1 hb2 => ?_
      walk_at "r"
      refine ⟨_, bin_mul (by walk_at "z") (by walk_at "z"), ?_⟩
      walk_at "r"
      refine ⟨_, bin_mod (by walk_at "z"), _, rfl, Int.fmod_nonneg_of_pos _ (by walk_at "z"), Int.fmod_lt_of_pos _ (by walk_at "z"), rfl, ?_⟩
      refine xs_cons K (x_ret ?_)
      refine ev_bin K ?_
      refine ev_bin K ?_
      refine ev_bin K ?_
      refine ev_bin K ?_
      refine ev_jar1 K g' rfl fun b hb1 hb2 => ?_
      refine ev_jar1 K g' rfl fun c hc1 hc2 => ?_
      refine ⟨_, bin_mul (by walk_at "z") (by walk_at "z"), ?_⟩
      walk_at "r"
      refine ⟨_, bin_mod (by walk_at "z"), ?_⟩
      walk_at "r"
      refine ⟨_, bin_fdiv (by walk_at "z") (by walk_at "z"), ?_⟩
      walk_at "r"
      exact ⟨_, bin_mod (by walk_at "z"), _, rfl, _, rfl, Int.fmod_nonneg_of_pos _ (by walk_at "z"), Int.fmod_lt_of_pos _ (by walk_at "z")⟩
end
end

section
abbrev ti : D := .tuple [S "int", S "i32"]
abbrev tb : D := .tuple [S "bool"]
def Leaf (d : D) : Prop := d ∈ [D.tuple [S "wild", tb], .tuple [S "const", tb, .bool true], .tuple [S "const", t8, .int 7]]
theorem Leaf.fits {d : D} (h : Leaf d) : fit 2 d = true := by
  unfold Leaf at h
  simp only [List.mem_cons, List.not_mem_nil, or_false] at h
  rcases h with rfl | rfl | rfl <;> decide +kernel
inductive NumOk : D → D → Option (Int × Int) → Prop
  | wild : NumOk (.tuple [S "wild", ti]) .none none
  | const (b : Int) : -100 ≤ b → b ≤ 100 → NumOk (.tuple [S "const", ti, .int b]) (.list [.int b]) (some (b, b))
  | range (x y : Int) : x ≤ y → -100 ≤ x → y ≤ 100 → NumOk (.tuple [S "range", ti, .int x, .int y]) (.list (rangeD x (y + 1))) (some (x, y))
section
variable {G : GC} (hG : GOk G)
include hG
theorem NumOk.head {d n : D} {o : Option (Int × Int)} (h : NumOk d n o) : HeadOk G d o := by
  cases h with
  | wild => exact ⟨"wild", _, rfl, by decide +kernel, by decide +kernel, fun _ h => by cases h⟩
  | const b h1 h2 => exact ⟨"const", _, rfl, by decide +kernel, (by decide +kernel : _ = true), fun _ h => by cases h; exact fn_bounds_const hG⟩
  | range x y h h1 h2 => exact ⟨"range", _, rfl, by decide +kernel, (by decide +kernel : _ = true), fun _ h => by cases h; exact fn_bounds hG (by decide +kernel) (by decide +kernel)⟩
variable {j : Addr} (g : JG G j)
include g
theorem fn_one {ds : List D} (h1 : 1 ≤ ds.length) (h2 : ds.length < 1000) : Fn G (Str.ofString "_law_one") 2 [.obj j, .list ds] (· ∈ ds) := by
  have hf : (fnTable[10]? : Option _) = some (Str.ofString "_law_one", _, _, _) := rfl
  refine fn_body (xs := [Str.ofString "jar", Str.ofString "things"]) hG (List.mem_of_getElem? hf) (fun pm code doc vs h => ?_) rfl (by decide) (by decide) (fun n => ?_) rfl rfl rfl (fun C hCG hCk K E => ?_)
  · obtain ⟨v, w, rfl⟩ := vlen2 h; rfl
  · exact List.nodup_nil
  · clear hf
    walk_at "r"
    refine ⟨.inl rfl, by simp [itemsD]; walk_at "z", ?_⟩
    walk_at "r"
    refine ⟨1, _, by rw [hCG]; exact fn_dip hG g (by simp [itemsD]; walk_at "z") (by simp [itemsD]; walk_at "z"), by rw [hCk]; decide, ?_⟩
    rintro d ⟨n, rfl, hn1, hn2⟩
    simp only [itemsD] at hn2
    have hn : n.toNat < ds.length := by walk_at "z"
    refine ⟨n.toNat, by rw [Int.toNat_of_nonneg hn1], by walk_at "z", ds[n.toNat], by simp [itemsD, hn], _, rfl, List.getElem_mem hn⟩
theorem fn_leaf : Fn G (Str.ofString "_law_leaf") 3 [.obj j] Leaf := by
  have hf : (fnTable[13]? : Option _) = some (Str.ofString "_law_leaf", _, _, _) := rfl
  refine fn_body (xs := [Str.ofString "jar"]) hG (List.mem_of_getElem? hf) (fun pm code doc vs h => ?_) rfl (by decide) (by decide) (fun n => ?_) rfl rfl rfl (fun C hCG hCk K E => ?_)
  · obtain ⟨v, rfl⟩ := vlen1 h; rfl
  · exact List.nodup_nil
  · clear hf
    walk_at "r"
    refine ⟨2, _, by rw [hCG]; exact fn_one hG g (by decide) (by decide), by rw [hCk]; decide, ?_⟩
    exact fun d hd => ⟨_, rfl, hd⟩
theorem fn_number {low many : Int} (h1 : -20 ≤ low) (h2 : low ≤ 20) (h3 : 1 ≤ many) (h4 : many ≤ 30) : Fn G (Str.ofString "_law_number") 2 [.obj j, .int low, .int many] (fun d => ∃ p n o, d = .tuple [p, n] ∧ NumOk p n o) := by
  have hf : (fnTable[11]? : Option _) = some (Str.ofString "_law_number", _, _, _) := rfl
  refine fn_body (xs := [Str.ofString "jar", Str.ofString "low", Str.ofString "many"]) hG (List.mem_of_getElem? hf) (fun pm code doc vs h => ?_) rfl (by decide) (by decide) (fun n => ?_) rfl rfl rfl (fun C hCG hCk K E => ?_)
  · obtain ⟨v, w, x, rfl⟩ := vlen3 h; rfl
  · exact List.nodup_nil
  · clear hf
    walk_at "r"
    refine ⟨1, _, by rw [hCG]; exact fn_dip hG g (by decide) (by decide), by rw [hCk]; decide, ?_⟩
    rintro d ⟨n, rfl, hn1, hn2⟩
    walk_at "r"
    refine ⟨1, _, by rw [hCG]; exact fn_dip hG g (by walk_at "z") (by walk_at "z"), by rw [hCk]; decide, ?_⟩
    rintro d ⟨m, rfl, hm1, hm2⟩
    walk_at "r"
    refine ⟨_, rfl, rfl, ?_⟩
    walk_at "r"
    refine ⟨fun _ => ?_, fun _ => ?_⟩
    · walk_at "r"
      exact ⟨_, rfl, _, _, _, rfl, .wild⟩
    walk_at "r"
    refine ⟨fun _ => ?_, fun _ => ?_⟩
    · walk_at "r"
      exact ⟨_, rfl, _, _, _, rfl, .const _ (by walk_at "z") (by walk_at "z")⟩
    walk_at "r"
    refine ⟨1, _, by rw [hCG]; exact fn_dip hG g (by walk_at "z") (by walk_at "z"), by rw [hCk]; decide, ?_⟩
    rintro d ⟨e, rfl, he1, he2⟩
    walk_at "r"
    refine ⟨_, _, rfl, rfl, _, .inr ⟨_, _, rfl, rfl, by walk_at "z", by walk_at "z", by walk_at "z", by walk_at "z", by walk_at "z"⟩, ?_⟩
    walk_at "r"
    exact ⟨_, rfl, _, _, _, rfl, .range _ _ (by walk_at "z") (by walk_at "z") (by walk_at "z")⟩
end
end

section
theorem paired_all {Q : D → Prop} {xs es : List D} (h : Paired (fun _ e => Q e) xs es) : es.length = xs.length ∧ ∀ e ∈ es, Q e := by
  induction xs generalizing es with
  | nil => cases h; exact ⟨rfl, fun _ h => by cases h⟩
  | cons x xs ih =>
    cases h with
    | cons a r =>
      obtain ⟨h1, h2⟩ := ih r
      exact ⟨congrArg Nat.succ h1, fun e he => (List.mem_cons.mp he).elim (fun q => q ▸ a) (h2 e)⟩
theorem comp_leafs {C : Cx} {σ : AS} {scope cs : Scope} {iter : Expr} {x : Str} {xp p p' pos : Pos} {Φ : List D → AS → Prop} {j : Addr} (hG : GOk C.G) (g : JG C.G j) (hk : 3 ≤ C.k)
    (hx : (relabelS cs scope).names.lookup x = some .local) (hf : (relabelS cs scope).names.lookup (Str.ofString "_law_leaf") = some .globalImplicit) (hxj : (Str.ofString "jar" == x) = false)
    (H : ItD C iter (.Name x xp) σ fun ds σ₁ => ds.length ≤ 20 ∧ capt (relabelS cs scope) σ₁.loc = [(Str.ofString "jar", .obj j)] ∧ ∀ es : List D, es.length = ds.length → (∀ e ∈ es, Leaf e) → Φ es σ₁) :
    CompH C σ scope cs (.Call (.Name (Str.ofString "_law_leaf") p) [.Name (Str.ofString "jar") p'] [] pos) (.Name x xp) iter [] Φ := by
  refine comp_name hx (H.mono fun ds σ₁ => ?_)
  rintro ⟨h1, h2, h3⟩
  have hl : ∀ d : D, ((x, d) :: [(Str.ofString "jar", D.obj j)]).lookup (Str.ofString "jar") = some (.obj j) := fun d => by
    rw [List.lookup_cons, hxj]; rfl
  refine ⟨by simp [sizeLine]; walk_at "z", _, h2, fun d => ⟨hl d, trivial⟩, fun _ => true, fun _ e => Leaf e, ?_, ?_⟩
  · intro C' K' hG' hk' E' d hd
    refine ⟨tt_nil ⟨rfl, rfl⟩, fun _ => ?_⟩
    refine ev_callX K' E' hf ?_
    refine es_cons K' ?_
    refine ev_name K' (hl d) ?_
    refine es_nil ?_
    exact ⟨3, _, by rw [hG']; exact fn_leaf hG g, by rw [hk']; exact hk, fun d hd => ⟨hd, rfl⟩⟩
  · intro es hp
    rw [filter_true] at hp
    obtain ⟨e1, e2⟩ := paired_all hp
    exact h3 es e1 e2
def fitD : Option (List D) → D
  | none => .none
  | some l => .list l
inductive FirstOk : Int → D → Option (List D) → List D → Prop
  | wild (way : Int) (t : D) : fit 5 t = true → FirstOk way (.tuple [S "wild", t]) none []
  | const (b : Int) : -100 ≤ b → b ≤ 100 → FirstOk 0 (.tuple [S "const", ti, .int b]) (some (rangeD b (b + 1))) []
  | range (x y : Int) : x ≤ y → -100 ≤ x → y ≤ 100 → FirstOk 0 (.tuple [S "range", ti, .int x, .int y]) (some (rangeD x (y + 1))) []
  | bool (b : Bool) : FirstOk 1 (.tuple [S "const", tb, .bool b]) (some [.bool b]) []
  | variant (t : D) (n : Int) (parts : List D) : fit 5 t = true → 0 ≤ n → n < 3 → parts.length = n.toNat → (∀ e ∈ parts, Leaf e) → FirstOk 2 (.tuple [S "variant", t, .int n, .tuple parts]) (some [.int n]) parts
  | fields (t : D) (parts : List D) : fit 5 t = true → parts.length = 2 → (∀ e ∈ parts, Leaf e) → FirstOk 3 (.tuple [S "fields", t, .tuple parts]) (some [.int 0]) parts
  | deref (t p : D) : fit 5 t = true → Leaf p → FirstOk 4 (.tuple [S "deref", t, p]) (some [.int 0]) [p]
theorem rangeD_one (b : Int) : rangeD b (b + 1) = [.int b] := by
  have : (b + 1 - b).toNat = 1 := by walk_at "z"
  rw [rangeD, this]; simp
theorem get_fit {d e : D} {k : Nat} {Φ : D → AS → Prop} {σ : AS} (he : e = .int k) (h6 : k < 2 ^ 63) (hk : k < (itemsD d).length) (h : ∀ e ∈ itemsD d, fit 5 e = true) (H : ∀ x, fit 5 x = true → Φ x σ) : ItemP d Φ e σ :=
  ⟨k, he, h6, (itemsD d)[k], List.getElem?_eq_getElem hk, H _ (h _ (List.getElem_mem hk))⟩
section
variable {G : GC} (hG : GOk G) {j : Addr} (g : JG G j)
include hG g
theorem fn_first {way : Int} (h1 : 0 ≤ way) (h2 : way < 5) : Fn G (Str.ofString "_law_first") 4 [.obj j, .int way] (fun d => ∃ p o l, d = .tuple [p, fitD o, .tuple l] ∧ FirstOk way p o l) := by
  have hf : (fnTable[14]? : Option _) = some (Str.ofString "_law_first", _, _, _) := rfl
  refine fn_body (xs := [Str.ofString "jar", Str.ofString "way"]) hG (List.mem_of_getElem? hf) (fun pm code doc vs h => ?_) rfl (by decide) (by decide) (fun n => ?_) rfl rfl rfl (fun C hCG hCk K E => ?_)
  · obtain ⟨v, w, rfl⟩ := vlen2 h; rfl
  · exact cells_nodup (by decide) n
  · clear hf
    have hG' : GOk C.G := by rw [hCG]; exact hG
    have g' : JG C.G j := by rw [hCG]; exact g
    walk_at "r"
    refine ⟨1, _, by rw [hCG]; exact fn_dip hG g (by decide) (by decide), by rw [hCk]; decide, ?_⟩
    rintro d ⟨n, rfl, hn1, hn2⟩
    walk_at "r"
    refine ⟨fun _ => ?_, fun _ => ?_⟩
    · walk_at "r"
      refine get_fit (k := way.toNat) (by rw [Int.toNat_of_nonneg h1]) (by walk_at "z") (by simp [itemsD]; walk_at "z") (by decide +kernel) fun x hx => ?_
      walk_at "r"
      exact ⟨_, rfl, _, none, [], rfl, .wild _ _ hx⟩
    walk_at "r"
    refine ⟨fun hw => ?_, fun hw0 => ?_⟩
    · obtain rfl : way = 0 := eq_of_beq hw
      walk_at "r"
      refine ⟨2, _, by rw [hCG]; exact fn_number hG g (by decide) (by decide) (by decide) (by decide), by rw [hCk]; decide, ?_⟩
      rintro d ⟨p, n, o, rfl, hno⟩
      refine ⟨_, rfl, rfl, ?_⟩
      walk_at "r"
      refine ⟨_, rfl, ?_⟩
      cases hno with
      | wild => exact ⟨_, none, [], rfl, .wild _ _ (by decide +kernel)⟩
      | const b b1 b2 => exact ⟨_, some (rangeD b (b + 1)), [], by rw [rangeD_one]; rfl, .const _ b1 b2⟩
      | range x y b b1 b2 => exact ⟨_, some _, [], rfl, .range _ _ b b1 b2⟩
    walk_at "r"
    refine ⟨fun hw => ?_, fun hw1 => ?_⟩
    · obtain rfl : way = 1 := eq_of_beq hw
      walk_at "r"
      refine ⟨1, _, by rw [hCG]; exact fn_dip hG g (by decide) (by decide), by rw [hCk]; decide, ?_⟩
      rintro d ⟨n, rfl, hn1, hn2⟩
      walk_at "r"
      exact ⟨_, rfl, _, some _, [], rfl, .bool _⟩
    walk_at "r"
    refine ⟨fun hw => ?_, fun hw2 => ?_⟩
    · obtain rfl : way = 2 := eq_of_beq hw
      walk_at "r"
      refine ⟨1, _, by rw [hCG]; exact fn_dip hG g (by decide) (by decide), by rw [hCk]; decide, ?_⟩
      rintro d ⟨n, rfl, hn1, hn2⟩
      walk_at "r"
      refine ev_comp K E.toEnvIs ⟨rfl, by decide, by decide, by decide⟩ ?_
      refine comp_leafs hG' g' (by rw [hCk]; decide) (by with_unfolding_all rfl) (by with_unfolding_all rfl) (by decide) ?_
      refine it_seq K rfl ?_
      walk_at "r"
      refine ⟨_, rfl, .inr (.inr ⟨⟨_, _, rfl⟩, _, _, rfl, by decide, by decide, by walk_at "z", by walk_at "z", by rw [rangeD_len]; walk_at "z", rfl, fun es e1 e2 => ?_⟩)⟩
      rw [rangeD_len, Int.sub_zero] at e1
      walk_at "r"
      refine ⟨.inl rfl, by simp only [itemsD]; walk_at "z", ?_⟩
      walk_at "r"
      exact ⟨_, rfl, _, some _, _, rfl, .variant _ _ _ (by decide +kernel) hn1 hn2 e1 e2⟩
    walk_at "r"
    have hw : way = 3 ∨ way = 4 := by
      have := ne_of_beq_false hw0
      have := ne_of_beq_false hw1
      have := ne_of_beq_false hw2
      walk_at "z"
    rcases hw with rfl | rfl
    · refine ev_comp K E.toEnvIs ⟨rfl, by decide, by decide, by decide⟩ ?_
      refine comp_leafs hG' g' (by rw [hCk]; decide) (by with_unfolding_all rfl) (by with_unfolding_all rfl) (by decide) ?_
      refine it_seq K rfl ?_
      walk_at "r"
      refine ⟨_, rfl, .inr (.inr ⟨⟨_, _, rfl⟩, _, _, rfl, by decide, by decide, by decide, by decide, by decide, rfl, fun es e1 e2 => ?_⟩)⟩
      rw [rangeD_len, Int.sub_zero] at e1
      have e1 : es.length = 2 := e1
      refine ⟨.inl rfl, by simp only [itemsD]; walk_at "z", ?_⟩
      walk_at "r"
      exact ⟨_, rfl, _, some _, _, rfl, .fields _ _ (by decide +kernel) e1 e2⟩
    · refine ev_comp K E.toEnvIs ⟨rfl, by decide, by decide, by decide⟩ ?_
      refine comp_leafs hG' g' (by rw [hCk]; decide) (by with_unfolding_all rfl) (by with_unfolding_all rfl) (by decide) ?_
      refine it_seq K rfl ?_
      walk_at "r"
      refine ⟨_, rfl, .inr (.inr ⟨⟨_, _, rfl⟩, _, _, rfl, by decide, by decide, by decide, by decide, by decide, rfl, fun es e1 e2 => ?_⟩)⟩
      rw [rangeD_len, Int.sub_zero] at e1
      have e1 : es.length = 1 := e1
      match es, e1, e2 with
      | [p], _, e2 =>
        refine ⟨.inl rfl, by simp [itemsD], ?_⟩
        walk_at "r"
        exact ⟨_, rfl, _, some _, _, rfl, .deref _ _ (by decide +kernel) (e2 _ (.head _))⟩
end
end

section
inductive ConOk : Int → D → List D → Nat → Prop
  | range (x y : Int) : x ≤ y → 0 ≤ x → y ≤ 10 → ConOk 0 (.tuple [S "range", .int x, .int y]) (rangeD x (y + 1)) 0
  | bool (b : Bool) : ConOk 1 (.tuple [S "bool", .bool b]) [.bool b] 0
  | variant (n : Int) : 0 ≤ n → n < 3 → ConOk 2 (.tuple [S "variant", .int n]) [.int n] n.toNat
  | fields : ConOk 3 (.tuple [S "fields"]) [.int 0] 2
  | deref : ConOk 4 (.tuple [S "deref"]) [.int 0] 1
section
variable {G : GC} (hG : GOk G) {j : Addr} (g : JG G j)
include hG g
theorem fn_con {way : Int} (h1 : 0 ≤ way) (h2 : way < 5) : Fn G (Str.ofString "_law_constructor") 3 [.obj j, .int way] (fun d => ∃ con vs many, d = .tuple [con, .list vs, .int (many : Nat)] ∧ ConOk way con vs many) := by
  have hf : (fnTable[15]? : Option _) = some (Str.ofString "_law_constructor", _, _, _) := rfl
  refine fn_body (xs := [Str.ofString "jar", Str.ofString "way"]) hG (List.mem_of_getElem? hf) (fun pm code doc vs h => ?_) rfl (by decide) (by decide) (fun n => ?_) rfl rfl rfl (fun C hCG hCk K E => ?_)
  · obtain ⟨v, w, rfl⟩ := vlen2 h; rfl
  · exact List.nodup_nil
  · clear hf
    walk_at "r"
    refine ⟨fun hw => ?_, fun hw0 => ?_⟩
    · obtain rfl : way = 0 := eq_of_beq hw
      walk_at "r"
      refine ⟨1, _, by rw [hCG]; exact fn_dip hG g (by decide) (by decide), by rw [hCk]; decide, ?_⟩
      rintro d ⟨n, rfl, hn1, hn2⟩
      walk_at "r"
      refine ⟨2, _, by rw [hCG]; exact fn_one hG g (by decide) (by decide), by rw [hCk]; decide, fun d hd => ?_⟩
      have hd : ∃ m : Int, d = .int m ∧ 0 ≤ m ∧ m ≤ 2 := by
        simp only [List.mem_cons, List.not_mem_nil, or_false] at hd
        rcases hd with rfl | rfl | rfl | rfl
        · exact ⟨0, rfl, by decide, by decide⟩
        · exact ⟨0, rfl, by decide, by decide⟩
        · exact ⟨1, rfl, by decide, by decide⟩
        · exact ⟨2, rfl, by decide, by decide⟩
      obtain ⟨m, rfl, hm1, hm2⟩ := hd
      walk_at "r"
      refine ⟨_, rfl, rfl, ?_⟩
      walk_at "r"
      refine ⟨_, _, rfl, rfl, _, .inr ⟨_, _, rfl, rfl, by walk_at "z", by walk_at "z", by walk_at "z", by walk_at "z", by walk_at "z"⟩, ?_⟩
      walk_at "r"
      exact ⟨_, rfl, _, _, 0, rfl, .range _ _ (by walk_at "z") hn1 (by walk_at "z")⟩
    walk_at "r"
    refine ⟨fun hw => ?_, fun hw1 => ?_⟩
    · obtain rfl : way = 1 := eq_of_beq hw
      walk_at "r"
      refine ⟨1, _, by rw [hCG]; exact fn_dip hG g (by decide) (by decide), by rw [hCk]; decide, ?_⟩
      rintro d ⟨n, rfl, hn1, hn2⟩
      walk_at "r"
      exact ⟨_, rfl, _, _, 0, rfl, .bool _⟩
    walk_at "r"
    refine ⟨fun hw => ?_, fun hw2 => ?_⟩
    · obtain rfl : way = 2 := eq_of_beq hw
      walk_at "r"
      refine ⟨1, _, by rw [hCG]; exact fn_dip hG g (by decide) (by decide), by rw [hCk]; decide, ?_⟩
      rintro d ⟨n, rfl, hn1, hn2⟩
      walk_at "r"
      exact ⟨_, rfl, _, _, n.toNat, by rw [Int.toNat_of_nonneg hn1], .variant _ hn1 hn2⟩
    have hw : way = 3 ∨ way = 4 := by
      have := ne_of_beq_false hw0
      have := ne_of_beq_false hw1
      have := ne_of_beq_false hw2
      walk_at "z"
    rcases hw with rfl | rfl
    · walk_at "r"
      exact ⟨_, rfl, _, _, 2, rfl, .fields⟩
    · walk_at "r"
      exact ⟨_, rfl, _, _, 1, rfl, .deref⟩
end
end

section
abbrev Fst := D × Option (List D) × List D
def toldOf (vs : List D) (many : Nat) (f : Fst) : D :=
  match f.2.1 with
  | none => .tuple (List.replicate many f.1)
  | some fs => if (vs.filter fun v => !(fs.any fun e => eqD e v)).isEmpty then .tuple f.2.2 else .none
theorem rangeD_any {a b n : Int} : ((rangeD a (b + 1)).any fun e => eqD e (.int n)) = decide (a ≤ n ∧ n ≤ b) := by
  apply Bool.eq_iff_iff.mpr
  rw [List.any_eq_true, decide_eq_true_iff]
  constructor
  · rintro ⟨e, he, h⟩
    obtain ⟨i, hi⟩ := List.getElem?_of_mem he
    obtain ⟨hi, rfl⟩ := rangeD_get hi
    rw [eqD_int] at h
    have := eq_of_beq h
    walk_at "z"
  · rintro ⟨h1, h2⟩
    refine ⟨.int n, ?_, by rw [eqD_int]; exact beq_self_eq_true n⟩
    rw [rangeD]
    exact List.mem_map.mpr ⟨(n - a).toNat, List.mem_range.mpr (by walk_at "z"), by congr 1; walk_at "z"⟩
theorem range_sub {a b x y : Int} (h : x ≤ y) : ((rangeD x (y + 1)).filter fun v => !((rangeD a (b + 1)).any fun e => eqD e v)).isEmpty = decide (a ≤ x ∧ y ≤ b) := by
  apply Bool.eq_iff_iff.mpr
  rw [List.isEmpty_iff, List.filter_eq_nil_iff, decide_eq_true_iff]
  constructor
  · intro q
    have hm : ∀ n : Int, x ≤ n → n ≤ y → D.int n ∈ rangeD x (y + 1) := fun n h1 h2 => by
      rw [rangeD]
      exact List.mem_map.mpr ⟨(n - x).toNat, List.mem_range.mpr (by walk_at "z"), by congr 1; walk_at "z"⟩
    have h1 := q _ (hm x (by walk_at "z") h)
    have h2 := q _ (hm y h (by walk_at "z"))
    rw [rangeD_any] at h1 h2
    simp at h1 h2
    walk_at "z"
  · rintro ⟨h1, h2⟩ v hv
    obtain ⟨i, hi⟩ := List.getElem?_of_mem hv
    obtain ⟨hi, rfl⟩ := rangeD_get hi
    rw [rangeD_any]
    simp
    walk_at "z"
theorem ConOk.inv {way : Int} {con : D} {vs : List D} {many : Nat} (h : ConOk way con vs many) :
    (way = 0 → many = 0 ∧ ∃ x y : Int, x ≤ y ∧ 0 ≤ x ∧ y ≤ 10 ∧ con = .tuple [S "range", .int x, .int y] ∧ vs = rangeD x (y + 1)) ∧
    (way = 1 → many = 0 ∧ ∃ b, con = .tuple [S "bool", .bool b] ∧ vs = [.bool b]) ∧
    (way = 2 → ∃ n : Int, 0 ≤ n ∧ n < 3 ∧ many = n.toNat ∧ con = .tuple [S "variant", .int n] ∧ vs = [.int n]) ∧
    (way = 3 → many = 2 ∧ con = .tuple [S "fields"] ∧ vs = [.int 0]) ∧ (way = 4 → many = 1 ∧ con = .tuple [S "deref"] ∧ vs = [.int 0]) := by
  cases h with
  | range x y h1 h2 h3 => exact ⟨fun _ => ⟨rfl, x, y, h1, h2, h3, rfl, rfl⟩, fun e => absurd e (by decide), fun e => absurd e (by decide), fun e => absurd e (by decide), fun e => absurd e (by decide)⟩
  | bool b => exact ⟨fun e => absurd e (by decide), fun _ => ⟨rfl, b, rfl, rfl⟩, fun e => absurd e (by decide), fun e => absurd e (by decide), fun e => absurd e (by decide)⟩
  | variant n h1 h2 => exact ⟨fun e => absurd e (by decide), fun e => absurd e (by decide), fun _ => ⟨n, h1, h2, rfl, rfl, rfl⟩, fun e => absurd e (by decide), fun e => absurd e (by decide)⟩
  | fields => exact ⟨fun e => absurd e (by decide), fun e => absurd e (by decide), fun e => absurd e (by decide), fun _ => ⟨rfl, rfl, rfl⟩, fun e => absurd e (by decide)⟩
  | deref => exact ⟨fun e => absurd e (by decide), fun e => absurd e (by decide), fun e => absurd e (by decide), fun e => absurd e (by decide), fun _ => ⟨rfl, rfl, rfl⟩⟩
theorem ConOk.many_le {way : Int} {con : D} {vs : List D} {many : Nat} (h : ConOk way con vs many) : many ≤ 3 := by
  cases h <;> walk_at "z"
theorem ConOk.vs_fit {way : Int} {con : D} {vs : List D} {many : Nat} (h : ConOk way con vs many) : (∀ v ∈ vs, fit 0 v = true) ∧ vs.length ≤ 20 := by
  cases h with
  | range x y h1 h2 h3 =>
    refine ⟨fun v hv => ?_, by rw [rangeD_len]; walk_at "z"⟩
    obtain ⟨i, hi⟩ := List.getElem?_of_mem hv
    obtain ⟨_, rfl⟩ := rangeD_get hi
    rfl
  | bool b => exact ⟨fun v hv => by simp at hv; subst hv; rfl, by simp⟩
  | variant n h1 h2 => exact ⟨fun v hv => by simp at hv; subst hv; rfl, by simp⟩
  | fields => exact ⟨fun v hv => by simp at hv; subst hv; rfl, by simp⟩
  | deref => exact ⟨fun v hv => by simp at hv; subst hv; rfl, by simp⟩
theorem fit_three {n : Nat} {a : String} {t x : D} (ha : PyData.strOk (Str.ofString a) = true) (ht : fit n t = true) (hx : fit n x = true) : fit (n + 1) (.tuple [S a, t, x]) = true := by
  refine fit_tuple fun d hd => ?_
  simp only [List.mem_cons, List.not_mem_nil, or_false] at hd
  rcases hd with rfl | rfl | rfl
  · exact fit_str ha
  · exact ht
  · exact hx
theorem fit_four {n : Nat} {a : String} {t x y : D} (ha : PyData.strOk (Str.ofString a) = true) (ht : fit n t = true) (hx : fit n x = true) (hy : fit n y = true) : fit (n + 1) (.tuple [S a, t, x, y]) = true := by
  refine fit_tuple fun d hd => ?_
  simp only [List.mem_cons, List.not_mem_nil, or_false] at hd
  rcases hd with rfl | rfl | rfl | rfl
  · exact fit_str ha
  · exact ht
  · exact hx
  · exact hy
theorem fit_parts {parts : List D} (h : ∀ e ∈ parts, Leaf e) : fit 5 (.tuple parts) = true := fit_mono (fit_tuple fun d hd => (h d hd).fits) (by decide)
theorem FirstOk.fits {way : Int} {p : D} {o : Option (List D)} {l : List D} (h : FirstOk way p o l) : fit 6 p = true ∧ (∀ fs, o = some fs → ∀ e ∈ fs, fit 0 e = true) ∧ (∀ e ∈ l, Leaf e) ∧ l.length ≤ 3 := by
  have hr : ∀ x y : Int, ∀ fs, some (rangeD x (y + 1)) = some fs → ∀ e ∈ fs, fit 0 e = true := fun x y fs h e he => by
    cases h
    obtain ⟨i, hi⟩ := List.getElem?_of_mem he
    obtain ⟨_, rfl⟩ := rangeD_get hi
    rfl
  have h1 : ∀ d : D, fit 0 d = true → ∀ fs, some [d] = some fs → ∀ e ∈ fs, fit 0 e = true := fun d hd fs h e he => by
    cases h
    simp at he; subst he; exact hd
  have hn : ∀ e ∈ ([] : List D), Leaf e := fun _ h => by cases h
  cases h with
  | wild way t ht => 
    refine ⟨fit_tuple fun d hd => ?_, fun _ h => (by cases h), hn, by simp⟩
    simp only [List.mem_cons, List.not_mem_nil, or_false] at hd
    rcases hd with rfl | rfl
    · exact fit_str (by decide +kernel)
    · exact ht
  | const b b1 b2 => exact ⟨fit_three (by decide +kernel) (by decide +kernel) fit_int, hr _ _, hn, by simp⟩
  | range x y b b1 b2 => exact ⟨fit_four (by decide +kernel) (by decide +kernel) fit_int fit_int, hr _ _, hn, by simp⟩
  | bool b => exact ⟨fit_three (by decide +kernel) (by decide +kernel) fit_bool, h1 _ rfl, hn, by simp⟩
  | variant t n parts ht n1 n2 hl hp => exact ⟨fit_four (by decide +kernel) ht fit_int (fit_parts hp), h1 _ rfl, hp, by walk_at "z"⟩
  | fields t parts ht hl hp => exact ⟨fit_three (by decide +kernel) ht (fit_parts hp), h1 _ rfl, hp, by walk_at "z"⟩
  | deref t p ht hp => exact ⟨fit_three (by decide +kernel) ht (fit_mono hp.fits (by decide)), h1 _ rfl, fun e he => by simp at he; subst he; exact hp, by simp⟩
/-- the tag tells whether the pattern is wild -/
def isWild (o : Option (List D)) : Bool := o.isNone
theorem FirstOk.tag {way : Int} {p : D} {o : Option (List D)} {l : List D} (h : FirstOk way p o l) : ∃ k t, p = .tuple (S k :: t) ∧ fit 0 (S k) = true ∧ eqD (S k) (S "wild") = o.isNone := by
  cases h with
  | wild way t ht => exact ⟨"wild", _, rfl, by decide +kernel, (by decide +kernel : _ = true)⟩
  | const b b1 b2 => exact ⟨"const", _, rfl, by decide +kernel, (by decide +kernel : _ = false)⟩
  | range x y b b1 b2 => exact ⟨"range", _, rfl, by decide +kernel, (by decide +kernel : _ = false)⟩
  | bool b => exact ⟨"const", _, rfl, by decide +kernel, (by decide +kernel : _ = false)⟩
  | variant t n parts ht n1 n2 hl hp => exact ⟨"variant", _, rfl, by decide +kernel, (by decide +kernel : _ = false)⟩
  | fields t parts ht hl hp => exact ⟨"fields", _, rfl, by decide +kernel, (by decide +kernel : _ = false)⟩
  | deref t p ht hp => exact ⟨"deref", _, rfl, by decide +kernel, (by decide +kernel : _ = false)⟩
theorem told_cases {way : Int} {p : D} {o : Option (List D)} {l : List D} (h : FirstOk way p o l) {con : D} {vs : List D} {many : Nat} (hc : ConOk way con vs many) :
    toldOf vs many (p, o, l) = .none ∨ ∃ ds, toldOf vs many (p, o, l) = .tuple ds ∧ ds.length ≤ 3 ∧ ∀ e ∈ ds, fit 6 e = true := by
  obtain ⟨h1, h2, h3, h4⟩ := h.fits
  have := hc.many_le
  cases o with
  | none => exact .inr ⟨_, rfl, by simp; exact this, fun e he => by rw [List.eq_of_mem_replicate he]; exact h1⟩
  | some fs =>
    simp only [toldOf]
    split
    · exact .inr ⟨_, rfl, h4, fun e he => fit_mono (h3 e he).fits (by decide)⟩
    · exact .inl rfl
section
variable {G : GC} (hG : GOk G)
include hG
theorem fn_taken {way : Int} {p : D} {o : Option (List D)} {l : List D} (h : FirstOk way p o l) {con : D} {vs : List D} {many : Nat} (hc : ConOk way con vs many) :
    Fn G (Str.ofString "taken") 2 [p, con, .int many] (· = toldOf vs many (p, o, l)) := by
  have hm := hc.many_le
  have hi := hc.inv
  cases h with
  | wild way t ht => exact taken_wild hG (by walk_at "z")
  | const b b1 b2 =>
    obtain ⟨rfl, x, y, h1, h2, h3, rfl, rfl⟩ := hi.1 rfl
    clear hi
    refine (taken_range hG (con := .none) (k := "const") (by decide +kernel) (by decide +kernel) (fn_bounds_const hG)).mono fun d hd => ?_
    rw [hd]
    simp only [toldOf, range_sub h1]
    by_cases z : b ≤ x ∧ y ≤ b
    · rw [if_pos z, if_pos (decide_eq_true z)]
    · rw [if_neg z, if_neg (by simpa using z)]
  | range a b hab b1 b2 =>
    obtain ⟨rfl, x, y, h1, h2, h3, rfl, rfl⟩ := hi.1 rfl
    clear hi
    refine (taken_range hG (con := .none) (k := "range") (by decide +kernel) (by decide +kernel) (fn_bounds hG (by decide +kernel) (by decide +kernel))).mono fun d hd => ?_
    rw [hd]
    simp only [toldOf, range_sub h1]
    by_cases z : a ≤ x ∧ y ≤ b
    · rw [if_pos z, if_pos (decide_eq_true z)]
    · rw [if_neg z, if_neg (by simpa using z)]
  | bool b =>
    obtain ⟨rfl, c, rfl, rfl⟩ := hi.2.1 rfl
    clear hi
    refine (taken_bool hG).mono fun d hd => ?_
    rw [hd]
    cases b <;> cases c <;> rfl
  | variant t n parts ht n1 n2 hl hp =>
    obtain ⟨m, m1, m2, rfl, rfl, rfl⟩ := hi.2.2.1 rfl
    clear hi
    refine (taken_variant hG (by walk_at "z")).mono fun d hd => ?_
    rw [hd]
    simp only [toldOf, List.filter_cons, List.any_cons, List.any_nil, List.filter_nil, eqD_int]
    by_cases z : n = m
    · subst z; simp
    · have : (n == m) = false := beq_false_of_ne z
      simp [this, z]
  | fields t parts ht hl hp =>
    obtain ⟨rfl, rfl, rfl⟩ := hi.2.2.2.1 rfl
    clear hi
    refine (taken_fields hG (by walk_at "z")).mono fun d hd => ?_
    rw [hd]
    simp [toldOf, eqD_int]
  | deref t p ht hp =>
    obtain ⟨rfl, rfl, rfl⟩ := hi.2.2.2.2 rfl
    clear hi
    refine (taken_deref hG).mono fun d hd => ?_
    rw [hd]
    simp [toldOf, eqD_int]
end
end

section
theorem x_assignE {C : Cx} {σ : AS} {scope : Scope} {x : Str} {p' pos : Pos} {Φ : FlowD → AS → Prop} {e : Expr} (K : CxOk C) (E : EnvIs C scope) (hx : Stores C x) (H : EvD C e σ fun d σ₁ => Φ .next (σ₁.put x d))
    (hs : swapsWith e (some (.Name x p')) pos.line (env0 scope) = pure false := by with_unfolding_all rfl) : XD C (.Assign [.Name x p'] e pos) σ Φ := x_assign K hx H (by rw [swaps_env E]; exact hs)
theorem xs_cut {C : Cx} {σ : AS} {a : Stmt} {r : List Stmt} {Φ : FlowD → AS → Prop} (σ' : AS) (K : CxOk C) (H : XD C a σ fun f σ₁ => f = .next ∧ SubL σ'.loc σ₁.loc ∧ σ₁.mu = σ'.mu) (H2 : XsD C r σ' Φ) : XsD C (a :: r) σ Φ := by
  refine xs_cons K (TfD.mono H ?_)
  rintro f ⟨l, mu⟩ ⟨rfl, h1, h2⟩
  dsimp only at h1 h2 ⊢
  refine xs_sub h1 ?_
  rw [h2]
  exact H2
abbrev It := Fst × List D
def firstD (f : Fst) : D := .tuple [f.1, fitD f.2.1, .tuple f.2.2]
def rowI (vs : List D) (many : Nat) (i : It) : D × List D × D := (i.1.1, i.2, toldOf vs many i.1)
theorem fitD_none {o : Option (List D)} : isNoneD (fitD o) = o.isNone := by cases o <;> rfl
theorem eqD_nil {es : List D} : eqD (.list es) (.list []) = es.isEmpty := by cases es <;> rfl
def tagWild : D → Bool
  | .tuple (.str x :: _) => eqD (.str x) (S "wild")
  | _ => false
theorem FirstOk.tagW {way : Int} {p : D} {o : Option (List D)} {l : List D} (h : FirstOk way p o l) : tagWild p = o.isNone := by
  obtain ⟨k, t, rfl, _, h3⟩ := h.tag
  exact h3
theorem wild_eq {l : List It} : (l.filter fun i => !i.1.2.1.isNone).isEmpty = (((l.filter (·.1.2.1.isNone)).length : Int) == (l.length : Int)) := by
  have hle : ∀ l : List It, (l.filter (·.1.2.1.isNone)).length ≤ l.length := fun l => List.length_filter_le _ _
  induction l with
  | nil => rfl
  | cons a l ih =>
    cases h : a.1.2.1.isNone with
    | true =>
      rw [List.filter_cons_of_neg (by simp [h]), List.filter_cons_of_pos (by simp [h]), ih]
      apply Bool.eq_iff_iff.mpr
      simp only [beq_iff_eq, List.length_cons]
      walk_at "z"
    | false =>
      rw [List.filter_cons_of_pos (by simp [h]), List.filter_cons_of_neg (by simp [h])]
      have := hle l
      symm
      simp only [List.isEmpty_cons, beq_eq_false_iff_ne, ne_eq, List.length_cons]
      walk_at "z"
theorem choose_map {B : Type} {g : B → D} {Q : B → Prop} : ∀ {es : List D}, (∀ e ∈ es, ∃ b, e = g b ∧ Q b) → ∃ bs : List B, es = bs.map g ∧ ∀ b ∈ bs, Q b
  | [], _ => ⟨[], rfl, fun _ h => by cases h⟩
  | e :: es, h => by
    obtain ⟨b, rfl, q⟩ := h _ (.head _)
    obtain ⟨bs, rfl, h2⟩ := choose_map fun e he => h e (.tail _ he)
    exact ⟨b :: bs, rfl, fun c hc => (List.mem_cons.mp hc).elim (fun z => z ▸ q) (h2 c)⟩
section
variable {G : GC} (hG : GOk G) {j : Addr} (g : JG G j)
include hG g
theorem fn_rows : Fn G (Str.ofString "_law_rows_right") 5 [.obj j] (· = .bool true) := by
  have hf : (fnTable[16]? : Option _) = some (Str.ofString "_law_rows_right", _, _, _) := rfl
  refine fn_body (xs := [Str.ofString "jar"]) hG (List.mem_of_getElem? hf) (fun pm code doc vs h => ?_) rfl (by decide) (by decide) (fun n => ?_) rfl rfl rfl (fun C hCG hCk K E => ?_)
  · obtain ⟨v, rfl⟩ := vlen1 h; rfl
  · exact cells_nodup (by decide) n
  · clear hf
    have hG' : GOk C.G := by rw [hCG]; exact hG
    have g' : JG C.G j := by rw [hCG]; exact g
    walk_at "r"
    refine ⟨1, _, by rw [hCG]; exact fn_dip hG g (by decide) (by decide), by rw [hCk]; decide, ?_⟩
    rintro d ⟨way, rfl, hw1, hw2⟩
    walk_at "r"
    refine ⟨3, _, by rw [hCG]; exact fn_con hG g hw1 hw2, by rw [hCk]; decide, ?_⟩
    rintro d ⟨con, vs, many, rfl, hc⟩
    refine ⟨_, rfl, rfl, ?_⟩
    refine xs_sub (l := [(Str.ofString "constructor", con), (Str.ofString "values", .list vs), (Str.ofString "many", .int many), (Str.ofString "way", .int way), (Str.ofString "jar", .obj j)]) (SubL.of rfl) ?_
    refine xs_cons K ?_
    refine x_assignE K E.toEnvIs (by exact E.st (by decide)) ?_
    refine ev_comp K E.toEnvIs ⟨rfl, by decide, by decide, by decide⟩ ?_
    refine comp_name (by with_unfolding_all rfl) ?_
    refine it_seq K rfl ?_
    walk_at "r"
    refine ⟨1, _, by rw [hCG]; exact fn_dip hG g (by decide) (by decide), by rw [hCk]; decide, ?_⟩
    rintro d ⟨n, rfl, hn1, hn2⟩
    refine ⟨_, rfl, .inr (.inr ⟨⟨_, _, rfl⟩, _, _, rfl, by decide, by decide, by walk_at "z", by walk_at "z", by rw [rangeD_len]; simp [sizeLine]; walk_at "z", [(Str.ofString "way", .int way), (Str.ofString "jar", .obj j)], rfl, fun _ => (SubL.of rfl), fun _ => true, fun _ e => ∃ f : Fst, e = firstD f ∧ FirstOk way f.1 f.2.1 f.2.2, ?_, ?_⟩)⟩
    · intro C' K' hG1 hk1 E' d hd
      refine ⟨tt_nil ⟨rfl, rfl⟩, fun _ => ?_⟩
      walk_at "r"
      refine ⟨4, _, by rw [hG1, hCG]; exact fn_first hG g hw1 hw2, by rw [hk1, hCk]; decide, ?_⟩
      rintro d ⟨p, o, l, rfl, h⟩
      exact ⟨⟨(p, o, l), rfl, h⟩, rfl⟩
    intro es hp
    rw [filter_true] at hp
    obtain ⟨el, ee⟩ := paired_all hp
    obtain ⟨fs, rfl, hfs⟩ := choose_map ee
    rw [rangeD_len, List.length_map] at el
    have hfl : fs.length ≤ 6 := by walk_at "z"
    refine xs_sub (l := [(Str.ofString "firsts", .list (fs.map firstD)), (Str.ofString "constructor", con), (Str.ofString "values", .list vs), (Str.ofString "many", .int many), (Str.ofString "jar", .obj j)]) (SubL.of rfl) ?_
    refine xs_cons K ?_
    refine x_assignE K E.toEnvIs (by exact E.st (by decide)) ?_
    refine ev_comp K E.toEnvIs ⟨rfl, by decide, by decide, by decide⟩ ?_
    refine comp_name (by with_unfolding_all rfl) ?_
    refine it_seq K rfl ?_
    walk_at "r"
    refine .inl ⟨_, rfl, by simp [sizeLine]; walk_at "z", [(Str.ofString "jar", .obj j)], rfl, fun _ => (SubL.of rfl), fun _ => true, fun _ e => ∃ l : List D, e = .tuple l ∧ l.length ≤ 3 ∧ ∀ e ∈ l, Leaf e, ?_, ?_⟩
    · intro C' K' hG1 hk1 E' d hd
      refine ⟨tt_nil ⟨rfl, rfl⟩, fun _ => ?_⟩
      walk_at "r"
      refine ev_comp K' E' ⟨rfl, by decide, by decide, by decide⟩ ?_
      refine comp_leafs (by rw [hG1]; exact hG') (by rw [hG1]; exact g') (by rw [hk1, hCk]; decide) (by with_unfolding_all rfl) (by with_unfolding_all rfl) (by decide) ?_
      refine it_seq K' rfl ?_
      walk_at "r"
      refine ⟨1, _, by rw [hG1, hCG]; exact fn_dip hG g (by decide) (by decide), by rw [hk1, hCk]; decide, ?_⟩
      rintro d ⟨n, rfl, hn1, hn2⟩
      refine ⟨_, rfl, .inr (.inr ⟨⟨_, _, rfl⟩, _, _, rfl, by decide, by decide, by walk_at "z", by walk_at "z", by rw [rangeD_len]; walk_at "z", rfl, fun es e1 e2 => ?_⟩)⟩
      rw [rangeD_len] at e1
      exact ⟨.inl rfl, by simp only [itemsD]; walk_at "z", ⟨_, rfl, by simp only [itemsD]; walk_at "z", e2⟩, rfl⟩
    intro es hp
    rw [filter_true] at hp
    obtain ⟨el, ee⟩ := paired_all hp
    obtain ⟨bs, rfl, hbs⟩ := choose_map ee
    rw [List.length_map, List.length_map] at el
    obtain ⟨its, rfl, rfl⟩ : ∃ its : List It, fs = its.map Prod.fst ∧ bs = its.map Prod.snd := ⟨fs.zip bs, by rw [List.map_fst_zip (by walk_at "z")], by rw [List.map_snd_zip (by walk_at "z")]⟩
    rw [List.length_map] at hfl
    have hit : ∀ i ∈ its, FirstOk way i.1.1 i.1.2.1 i.1.2.2 ∧ i.2.length ≤ 3 ∧ ∀ e ∈ i.2, Leaf e := fun i hi => ⟨hfs _ (List.mem_map.mpr ⟨i, hi, rfl⟩), hbs _ (List.mem_map.mpr ⟨i, hi, rfl⟩)⟩
    clear hfs hbs ee el hp
    refine xs_sub (l := [(Str.ofString "behind", .list ((its.map Prod.snd).map .tuple)), (Str.ofString "firsts", .list ((its.map Prod.fst).map firstD)), (Str.ofString "constructor", con), (Str.ofString "values", .list vs), (Str.ofString "many", .int many)]) (SubL.of rfl) ?_
    refine xs_cons K ?_
    refine x_assign_comp K E.toEnvIs ⟨rfl, by decide, by decide, by decide⟩ (by exact E.st (by decide)) ?_
    refine comp_name (by with_unfolding_all rfl) ?_
    refine it_seq K rfl ?_
    walk_at "r"
    refine ⟨.inl rfl, by simp [itemsD]; walk_at "z", _, rfl, .inr (.inr ⟨⟨_, _, rfl⟩, _, _, rfl, by decide, by decide, by walk_at "z", by simp [itemsD]; walk_at "z", by rw [rangeD_len]; simp [itemsD, sizeLine]; walk_at "z", [(Str.ofString "behind", .list ((its.map Prod.snd).map .tuple)), (Str.ofString "firsts", .list ((its.map Prod.fst).map firstD))], rfl, fun _ => (SubL.of rfl), fun _ => true, fun d e => ∃ (i : Nat) (f : It), d = .int i ∧ its[i]? = some f ∧ e = .tuple (f.1.1 :: f.2), ?_, ?_⟩)⟩
    · intro C' K' hG1 hk1 E' d hd
      refine ⟨tt_nil ⟨rfl, rfl⟩, fun _ => ?_⟩
      obtain ⟨i, hi⟩ := List.getElem?_of_mem hd
      obtain ⟨hi, rfl⟩ := rangeD_get hi
      rw [Int.zero_add]
      have hil : (itemsD (D.list ((its.map Prod.fst).map firstD))).length = its.length := by simp [itemsD]
      rw [hil] at hi
      have hi1 : i < its.length := by walk_at "z"
      obtain ⟨f, hf⟩ : ∃ f, its[i]? = some f := ⟨_, List.getElem?_eq_getElem hi1⟩
      have hm := (hit f (List.mem_of_getElem? hf)).2.1
      walk_at "r"
      refine ⟨i, rfl, by walk_at "z", firstD f.1, by simp [itemsD, hf], ?_⟩
      walk_at "r"
      refine ⟨i, rfl, by walk_at "z", .tuple f.2, by simp [itemsD, hf], _, bin_add_tuple (by simp [sizeLine]; walk_at "z"), ⟨i, f, rfl, hf, rfl⟩, rfl⟩
    intro es hp
    rw [filter_true, rangeD] at hp
    have hil : (itemsD (D.list ((its.map Prod.fst).map firstD))).length = its.length := by simp [itemsD]
    rw [hil, Int.sub_zero, Int.toNat_natCast] at hp
    have hes : es = its.map fun f => .tuple (f.1.1 :: f.2) := by
      have := paired_map hp (g := fun i => ((its[i]?).map fun f => D.tuple (f.1.1 :: f.2)).getD .none) (fun i _ e ⟨i', f, h1, h2, h3⟩ => by
        have : i = i' := by injection h1 with h; walk_at "z"
        subst this; rw [h2, h3]; rfl)
      rw [this]
      refine List.ext_getElem (by simp) fun i h1 h2 => ?_
      simp at h1
      simp [h1]
    subst hes
    refine xs_sub (l := [(Str.ofString "rows", .list (its.map fun f => .tuple (f.1.1 :: f.2))), (Str.ofString "behind", .list ((its.map Prod.snd).map .tuple)), (Str.ofString "firsts", .list ((its.map Prod.fst).map firstD)), (Str.ofString "constructor", con), (Str.ofString "values", .list vs), (Str.ofString "many", .int many)]) (SubL.of rfl) ?_
    refine xs_cons K ?_
    refine x_swapF K E (by with_unfolding_all rfl) (by with_unfolding_all rfl) ?_
    refine ev_tuple K ?_
    walk_at "r"
    refine ⟨_, .inl ⟨rfl, by simp [sizeLine]; walk_at "z"⟩, ?_⟩
    refine es_cons K ?_
    refine ev_list K (es_nil ?_)
    refine ⟨by simp [sizeLine], ?_⟩
    refine es_cons K ?_
    refine ev_list_new K fun q => ?_
    refine es_nil ?_
    refine ⟨by simp [sizeLine], _, rfl, rfl, ?_⟩
    dsimp only [putAll, AS.put, List.reverse_cons, List.reverse_nil, List.nil_append, List.cons_append]
    have hrows : (its.map fun f => D.tuple (f.1.1 :: f.2)) = (its.map (rowI vs many)).map rowD := by rw [List.map_map]; rfl
    have hdl : ∀ i, (((its.take i).map (rowI vs many)).filterMap dueD).length ≤ 6 := fun i => Nat.le_trans (List.length_filterMap_le _ _) (by rw [List.length_map, List.length_take]; walk_at "z")
    have hrl : ∀ i, (((its.take i).filter (·.1.2.1.isNone)).map fun i => D.tuple i.2).length ≤ 6 := fun i => by
      rw [List.length_map]
      exact Nat.le_trans (List.length_filter_le _ _) (by rw [List.length_take]; walk_at "z")
    refine xs_sub (l := [(Str.ofString "due", .list []), (Str.ofString "rest", .obj q), (Str.ofString "handed", .list (its.map fun f => .tuple (f.1.1 :: f.2))), (Str.ofString "rows", .list (its.map fun f => .tuple (f.1.1 :: f.2))), (Str.ofString "behind", .list ((its.map Prod.snd).map .tuple)), (Str.ofString "firsts", .list ((its.map Prod.fst).map firstD)), (Str.ofString "constructor", con), (Str.ofString "values", .list vs), (Str.ofString "many", .int many)]) (SubL.of rfl) ?_
    refine xs_cons K ?_
    refine x_for K (it_seq K rfl ?_)
    walk_at "r"
    refine ⟨.inl rfl, by simp [itemsD]; walk_at "z", _, rfl, .inr (.inr ⟨⟨_, _, rfl⟩, _, _, rfl, by decide, by decide, by walk_at "z", by simp [itemsD]; walk_at "z", ?_⟩)⟩
    refine ⟨fun d σ => σ.put (Str.ofString "at") d, fun i σ => σ = ⟨[(Str.ofString "due", .list (((its.take i).map (rowI vs many)).filterMap dueD)), (Str.ofString "rest", .obj q), (Str.ofString "handed", .list (its.map fun f => .tuple (f.1.1 :: f.2))), (Str.ofString "rows", .list (its.map fun f => .tuple (f.1.1 :: f.2))), (Str.ofString "behind", .list ((its.map Prod.snd).map .tuple)), (Str.ofString "firsts", .list ((its.map Prod.fst).map firstD)), (Str.ofString "constructor", con), (Str.ofString "values", .list vs), (Str.ofString "many", .int many)],
      [(q, .list (((its.take i).filter (·.1.2.1.isNone)).map fun i => .tuple i.2))]⟩, rfl, ?_, ?_⟩
    · rintro C' L K' i d σ hd rfl
      obtain ⟨hi, rfl⟩ := rangeD_get hd
      rw [Int.zero_add, hil, Int.sub_zero] at *
      have hi1 : i < its.length := by walk_at "z"
      obtain ⟨f, hf⟩ : ∃ f, its[i]? = some f := ⟨_, List.getElem?_eq_getElem hi1⟩
      obtain ⟨hfo, hbl, hbe⟩ := hit f (List.mem_of_getElem? hf)
      have E' := E.like L
      have hG1 : C'.G = G := by rw [L.G, hCG]
      have hk1 : C'.k = 4 := by rw [L.k, hCk]
      refine ⟨tgt_name K' (by exact E'.st (by decide)), ?_⟩
      dsimp only [AS.put]
      have ed : ((its.take (i + 1)).map (rowI vs many)).filterMap dueD = ((its.take i).map (rowI vs many)).filterMap dueD ++ (dueD (rowI vs many f)).toList := by
        rw [List.take_add_one, hf, List.map_append, List.filterMap_append]; simp [List.filterMap]
        cases dueD (rowI vs many f) <;> rfl
      have er : ((its.take (i + 1)).filter (·.1.2.1.isNone)).map (fun i => D.tuple i.2) = ((its.take i).filter (·.1.2.1.isNone)).map (fun i => D.tuple i.2) ++ (if f.1.2.1.isNone then [D.tuple f.2] else []) := by
        rw [List.take_add_one, hf, List.filter_append, List.map_append]
        cases hh : f.1.2.1.isNone <;> simp [hh]
      have hd1 := hdl i
      have hr1 := hrl i
      generalize ((its.take i).map (rowI vs many)).filterMap dueD = due at ed hd1 ⊢
      generalize ((its.take i).filter (·.1.2.1.isNone)).map (fun i => D.tuple i.2) = rest at er hr1 ⊢
      have hb1 : ((its.map Prod.snd).map D.tuple)[i]? = some (.tuple f.2) := by simp [hf]
      have hf1 : ((its.map Prod.fst).map firstD)[i]? = some (firstD f.1) := by simp [hf]
      obtain ⟨⟨p, o, l⟩, bh⟩ := f
      dsimp only at hfo hbl hbe ed er hb1 hf1
      refine xs_cons K' ?_
      refine x_unpackF K' E' (by with_unfolding_all rfl) (by with_unfolding_all rfl) ?_
      walk_at "r"
      refine ⟨i, rfl, by walk_at "z", _, hf1, ?_⟩
      refine ⟨_, rfl, rfl, ?_⟩
      refine xs_cons K' ?_
      refine x_assign K' (by exact E'.st (by decide)) (ev_none ?_)
      dsimp only [AS.put, putAll]
      obtain ⟨f1, f2, f3, f4⟩ := hfo.fits
      obtain ⟨v1, v2⟩ := hc.vs_fit
      have hml := hc.many_le
      refine xs_cut ⟨[(Str.ofString "told", toldOf vs many (p, o, l)), (Str.ofString "pattern", p), (Str.ofString "at", .int i), (Str.ofString "due", .list due), (Str.ofString "rest", .obj q), (Str.ofString "handed", .list (its.map fun f => .tuple (f.1.1 :: f.2))), (Str.ofString "rows", .list (its.map fun f => .tuple (f.1.1 :: f.2))), (Str.ofString "behind", .list ((its.map Prod.snd).map .tuple)), (Str.ofString "firsts", .list ((its.map Prod.fst).map firstD)), (Str.ofString "constructor", con), (Str.ofString "values", .list vs), (Str.ofString "many", .int many)], [(q, .list (rest ++ if o.isNone then [.tuple bh] else []))]⟩ K' (x_if ?_) ?_
      · cases o with
        | none =>
          walk_at "r"
          refine x_append K' rfl ⟨_, .head _⟩ ?_
          walk_at "r"
          refine ⟨i, rfl, by walk_at "z", _, hb1, [], [], rest, rfl, by simp [sizeLine]; walk_at "z", ?_⟩
          walk_at "r"
          refine ⟨_, bin_mul_tuple1 (by walk_at "z"), ?_⟩
          walk_at "r"
          exact ⟨rfl, (SubL.of rfl), rfl⟩
        | some fs =>
          walk_at "r"
          refine ev_comp K' E'.toEnvIs ⟨rfl, by decide, by decide, by decide⟩ ?_
          refine comp_name (by with_unfolding_all rfl) ?_
          refine it_seq K' rfl ?_
          walk_at "r"
          refine .inl ⟨vs, rfl, by simp [sizeLine]; walk_at "z", [(Str.ofString "fitting", .list fs)], rfl, fun _ => (SubL.of rfl), fun v => !(fs.any fun e => eqD e v), fun d e => e = d, ?_, ?_⟩
          · intro C2 K2 hG2 hk2 E2 d hd
            refine ⟨tt_one ?_, fun _ => ?_⟩
            · walk_at "r"
              exact ⟨_, cmp_notin_list (n := 0) (m := 0) (v1 d hd) (f2 _ rfl), rfl, rfl⟩
            · walk_at "r"
              exact ⟨rfl, rfl⟩
          intro es hp
          rw [← List.map_id (List.filter _ vs)] at hp
          have := paired_map hp (g := id) (fun r _ e he => he)
          rw [List.map_id] at this
          have hef : ∀ d ∈ es, fit 0 d = true := fun d hd => v1 d (by rw [this] at hd; exact (List.mem_filter.mp hd).1)
          walk_at "r"
          refine ⟨_, cmp_eq (n := 1) (m := 1) (fit_list hef) rfl, ?_⟩
          rw [eqD_nil, this]
          refine ⟨fun h => ?_, fun h => ?_⟩
          · have ht : toldOf vs many (p, some fs, l) = .tuple l := by simp only [toldOf]; rw [if_pos h]
            rw [ht]
            walk_at "r"
            exact ⟨rfl, (SubL.of rfl), congrArg (fun l => [(q, MObj.list l)]) (List.append_nil rest).symm⟩
          · have ht : toldOf vs many (p, some fs, l) = .none := by simp only [toldOf]; rw [if_neg (by rw [h]; decide)]
            rw [ht]
            walk_at "r"
            exact ⟨rfl, (SubL.of rfl), congrArg (fun l => [(q, MObj.list l)]) (List.append_nil rest).symm⟩
      · have htc := told_cases hfo hc
        have htf : fit 7 (toldOf vs many (p, o, l)) = true := by
          rcases htc with h | ⟨ds, h, _, h2⟩
          · rw [h]; rfl
          · rw [h]; exact fit_tuple h2
        have hkt := fn_taken hG hfo hc
        have edr : dueD (rowI vs many ((p, o, l), bh)) = match toldOf vs many (p, o, l) with | .tuple ds => some (.tuple (ds ++ bh)) | _ => none := rfl
        rw [edr] at ed
        clear edr
        generalize toldOf vs many (p, o, l) = told at htc htf hkt ed ⊢
        walk_at "r"
        refine ⟨2, _, by rw [hG1]; exact hkt, by rw [hk1]; decide, ?_⟩
        rintro d rfl
        walk_at "r"
        refine ⟨_, cmp_ne (n := 7) (m := 7) htf htf, ?_⟩
        rw [eqD_refl htf]
        walk_at "r"
        rcases htc with rfl | ⟨ds, rfl, d1, d2⟩
        · change _ = due ++ ([] : List D) at ed
          rw [List.append_nil] at ed
          walk_at "r"
          refine ⟨_, ?_, by show _ = _; rw [ed, er] <;> rfl⟩
          exact SubL.of rfl
        · change _ = due ++ [D.tuple (ds ++ bh)] at ed
          walk_at "r"
          refine ⟨i, rfl, by walk_at "z", _, hb1, _, bin_add_tuple (by simp [sizeLine]; walk_at "z"), ?_⟩
          walk_at "r"
          refine ⟨_, bin_add_list (by simp [sizeLine]; walk_at "z"), ?_⟩
          walk_at "r"
          refine ⟨_, ?_, by show _ = _; rw [ed, er] <;> rfl⟩
          exact SubL.of rfl
    · rintro σ rfl
      rw [rangeD_len, hil, Int.sub_zero, Int.toNat_natCast, List.take_length]
      refine xs_freeze (Str.ofString "rest") (l1 := []) (l2 := []) rfl rfl ?_
      have hrs : ∀ r ∈ its.map (rowI vs many), ∃ f ∈ its, r = rowI vs many f := fun r hr => by
        obtain ⟨f, hf, rfl⟩ := List.mem_map.mp hr
        exact ⟨f, hf, rfl⟩
      have hlr : (its.map (rowI vs many)).length ≤ 60 := by rw [List.length_map]; walk_at "z"
      have k1 := fn_narrowed hG (con := con) (many := .int many) hlr (fun r hr => by
        obtain ⟨f, hf, rfl⟩ := hrs r hr
        exact fn_taken hG (hit f hf).1 hc) (fun r hr => by
        obtain ⟨f, hf, rfl⟩ := hrs r hr
        refine ⟨Nat.le_trans (hit f hf).2.1 (by decide), ?_⟩
        rcases told_cases (hit f hf).1 hc with h | ⟨ds, h, h1, _⟩
        · exact .inl h
        · exact .inr ⟨ds, h, Nat.le_trans h1 (by decide)⟩)
      have htag : ∀ r ∈ its.map (rowI vs many), ∃ k t, r.1 = .tuple (S k :: t) ∧ fit 0 (S k) = true ∧ eqD (S k) (S "wild") = tagWild r.1 := fun r hr => by
        obtain ⟨f, hf, rfl⟩ := hrs r hr
        obtain ⟨k, t, h1, h2, h3⟩ := (hit f hf).1.tag
        exact ⟨k, t, h1, h2, by rw [h3]; exact (hit f hf).1.tagW.symm⟩
      have hrf : ∀ r ∈ its.map (rowI vs many), fit 7 (rowD r) = true := fun r hr => by
        obtain ⟨f, hf, rfl⟩ := hrs r hr
        refine fit_tuple fun d hd => ?_
        rcases List.mem_cons.mp hd with rfl | hd
        · exact (hit f hf).1.fits.1
        · exact fit_mono ((hit f hf).2.2 d hd).fits (by decide)
      have k2 := fn_rest hG hlr tagWild htag (fun r hr => by
        obtain ⟨f, hf, rfl⟩ := hrs r hr
        exact Nat.le_trans (hit f hf).2.1 (by decide))
      have k3 := fn_wild hG hlr tagWild htag (fun r hr => fit_mono (hrf r hr) (by decide))
      have hfil : ∀ (b : Bool), (its.map (rowI vs many)).filter (fun r => tagWild r.1 == b) = (its.filter (fun i => i.1.2.1.isNone == b)).map (rowI vs many) := fun b => by
        rw [List.filter_map]
        congr 1
        exact List.filter_congr fun f hf => by
          show (tagWild f.1.1 == b) = _
          rw [(hit f hf).1.tagW]
      have hrest : ((its.map (rowI vs many)).filter fun r => tagWild r.1).map (fun r => D.tuple r.2.1) = (its.filter (·.1.2.1.isNone)).map (fun i => D.tuple i.2) := by
        have := hfil true
        simp only [beq_true] at this
        rw [this, List.map_map]
        rfl
      have hwild : ((its.map (rowI vs many)).filter fun r => !tagWild r.1).isEmpty = (((its.filter (·.1.2.1.isNone)).length : Int) == (its.length : Int)) := by
        have := hfil false
        simp only [beq_false] at this
        rw [this, ← wild_eq]
        cases its.filter (fun i => !i.1.2.1.isNone) <;> rfl
      rw [hrest] at k2
      rw [hwild] at k3
      have hdf : fit 9 (.list ((its.map (rowI vs many)).filterMap dueD)) = true := fit_list fun d hd => by
        obtain ⟨r, hr, he⟩ := List.mem_filterMap.mp hd
        obtain ⟨f, hf, rfl⟩ := hrs r hr
        rcases told_cases (hit f hf).1 hc with h | ⟨ds, h, h1, h2⟩
        · have : dueD (rowI vs many f) = none := by unfold dueD; rw [show (rowI vs many f).2.2 = .none from h]
          rw [this] at he; cases he
        · have : dueD (rowI vs many f) = some (.tuple (ds ++ f.2)) := by unfold dueD; rw [show (rowI vs many f).2.2 = .tuple ds from h]; rfl
          rw [this] at he; cases he
          refine fit_tuple fun d hd => ?_
          rcases List.mem_append.mp hd with hd | hd
          · exact fit_mono (h2 d hd) (by decide)
          · exact fit_mono ((hit f hf).2.2 d hd).fits (by decide)
      have hef : fit 9 (.list ((its.filter (·.1.2.1.isNone)).map fun i => D.tuple i.2)) = true := fit_list fun d hd => by
        obtain ⟨f, hf, rfl⟩ := List.mem_map.mp hd
        exact fit_tuple fun d hd => fit_mono ((hit f (List.mem_filter.mp hf).1).2.2 d hd).fits (by decide)
      have hrf' : fit 9 (.list ((its.map (rowI vs many)).map rowD)) = true := fit_list fun d hd => by
        obtain ⟨r, hr, rfl⟩ := List.mem_map.mp hd
        exact fit_mono (hrf r hr) (by decide)
      have hrestl : ((its.filter (·.1.2.1.isNone)).map fun i => D.tuple i.2).length = (its.filter (·.1.2.1.isNone)).length := List.length_map _
      have hrowl : ((its.map (rowI vs many)).map rowD).length = its.length := by simp
      have hle : (its.filter (·.1.2.1.isNone)).length ≤ its.length := List.length_filter_le _ _
      rw [hrows]
      generalize (its.map (rowI vs many)).map rowD = rows at *
      generalize (its.map (rowI vs many)).filterMap dueD = due at *
      generalize ((its.filter (·.1.2.1.isNone)).map fun i => D.tuple i.2) = rest at *
      walk_at "r"
      refine ⟨3, _, by rw [hCG]; exact k1, by rw [hCk]; decide, ?_⟩
      rintro d rfl
      walk_at "r"
      refine ⟨_, cmp_ne (n := 9) (m := 9) hdf hdf, ?_⟩
      rw [eqD_refl hdf]
      walk_at "r"
      refine ⟨1, _, by rw [hCG]; exact k2, by rw [hCk]; decide, ?_⟩
      rintro d rfl
      walk_at "r"
      refine ⟨_, cmp_ne (n := 9) (m := 9) hef hef, ?_⟩
      rw [eqD_refl hef]
      walk_at "r"
      refine ⟨_, cmp_ne (n := 9) (m := 9) hrf' hrf', ?_⟩
      rw [eqD_refl hrf']
      walk_at "r"
      refine ⟨1, _, by rw [hCG]; exact k3, by rw [hCk]; decide, ?_⟩
      rintro d rfl
      walk_at "r"
      refine ⟨.inl rfl, by simp only [itemsD]; walk_at "z", ?_⟩
      walk_at "r"
      refine ⟨.inl rfl, by simp only [itemsD]; walk_at "z", ?_⟩
      walk_at "r"
      refine ⟨_, cmp_eq (n := 0) (m := 0) rfl rfl, _, rfl, ?_⟩
      rw [eqD_bool]
      simp only [itemsD, hrestl, hrowl, beq_self_eq_true]
end
end

section
theorem Bnd.flen {j : Nat} {p : D} {fs : List D} {k : Nat} (b : Bnd j p fs k) : fs.length ≤ k ∧ ∀ f ∈ fs, fit 2 f = true := by
  have h := (Bnds.facts (.cons b (.nil j))).2.2
  rwa [List.append_nil] at h
theorem Bnds.flen {j : Nat} {ps fs : List D} {k : Nat} (b : Bnds j ps fs k) : fs.length ≤ k ∧ ∀ f ∈ fs, fit 2 f = true := b.facts.2.2
abbrev Bp := D × List D × Nat
theorem Bnds.of {n B : Nat} : ∀ (ps : List Bp), (∀ x ∈ ps, Bnd n x.1 x.2.1 x.2.2 ∧ x.2.2 ≤ B) → ∃ k, Bnds n (ps.map (·.1)) (ps.flatMap (·.2.1)) k ∧ k ≤ ps.length * B
  | [], _ => ⟨0, .nil n, Nat.zero_le _⟩
  | x :: ps, h => by
    obtain ⟨k, h1, h2⟩ := Bnds.of ps fun y hy => h y (.tail _ hy)
    obtain ⟨h3, h4⟩ := h x (.head _)
    exact ⟨x.2.2 + k, .cons h3 h1, by rw [List.length_cons, Nat.succ_mul]; walk_at "z"⟩
def bd : Nat → Nat
  | 0 => 1
  | n + 1 => 1 + 3 * bd n
theorem bd_pos (n : Nat) : 1 ≤ bd n := by cases n <;> simp [bd]
theorem RowsB.snoc {j : Nat} {p : D} {fs behind : List D} {k : Nat} (b : Bnd j p fs k) (hj : j ≤ 3) (hb : behind.length ≤ 20) (hf : ∀ d ∈ behind, fit 8 d = true) {rows due : List D} {m : Nat} (r : RowsB rows due m) :
    RowsB (rows ++ [.tuple (p :: behind)]) (due ++ fs.map fun f => .tuple (f :: behind)) (m + k) := by
  induction r with
  | nil => simpa using RowsB.cons b hj hb hf .nil
  | cons b' hj' hb' hf' r ih => simpa [Nat.add_assoc] using RowsB.cons b' hj' hb' hf' ih
theorem RowsB.dfits {rows due : List D} {m : Nat} (r : RowsB rows due m) : due.length ≤ m ∧ ∀ d ∈ due, fit 9 d = true := by
  induction r with
  | nil => exact ⟨Nat.le_refl _, fun _ h => by cases h⟩
  | cons b hj hb hf r ih =>
    have h1 := b.flen
    refine ⟨by rw [List.length_append, List.length_map]; walk_at "z", fun d hd => ?_⟩
    rcases List.mem_append.mp hd with hd | hd
    · obtain ⟨f, hff, rfl⟩ := List.mem_map.mp hd
      refine fit_tuple fun e he => ?_
      rcases List.mem_cons.mp he with rfl | he
      · exact fit_mono (h1.2 _ hff) (by decide)
      · exact hf e he
    · exact ih.2 d hd
def bpD (x : Bp) : D := .tuple [x.1, .list x.2.1]
section
variable {G : GC} (hG : GOk G) {j : Addr} (g : JG G j)
include hG g
def FnB (G : GC) (j : Addr) (deep : Nat) : Prop := Fn G (Str.ofString "_law_bound") (deep + 2) [.obj j, .int deep] (fun d => ∃ p fs k, d = .tuple [p, .list fs] ∧ Bnd deep p fs k ∧ k ≤ bd deep)
theorem fn_bound_step {deep : Nat} (hd : deep ≤ 2) (ih : ∀ n, deep = n + 1 → FnB G j n) : FnB G j deep := by
  have hf : (fnTable[17]? : Option _) = some (Str.ofString "_law_bound", _, _, _) := rfl
  refine fn_body (xs := [Str.ofString "jar", Str.ofString "deep"]) hG (List.mem_of_getElem? hf) (fun pm code doc vs h => ?_) rfl (by decide) (by decide) (fun n => ?_) rfl rfl rfl (fun C hCG hCk K E => ?_)
  · obtain ⟨v, w, rfl⟩ := vlen2 h; rfl
  · exact cells_nodup (by decide) n
  · clear hf
    have hG' : GOk C.G := by rw [hCG]; exact hG
    have g' : JG C.G j := by rw [hCG]; exact g
    have hbp := bd_pos deep
    walk_at "r"
    refine ⟨1, _, by rw [hCG]; exact fn_dip hG g (by decide) (by decide), by rw [hCk]; walk_at "z", ?_⟩
    rintro d ⟨way, rfl, hw1, hw2⟩
    walk_at "r"
    refine ⟨_, rfl, rfl, ?_⟩
    walk_at "r"
    refine ⟨fun _ => ?_, fun hw0 => ?_⟩
    · walk_at "r"
      refine ⟨1, _, by rw [hCG]; exact fn_dip hG g (by decide) (by decide), by rw [hCk]; walk_at "z", ?_⟩
      rintro d ⟨n, rfl, hn1, hn2⟩
      walk_at "r"
      exact ⟨_, rfl, _, _, 1, rfl, .last _ _, hbp⟩
    walk_at "r"
    have hconst : ∀ d, (∃ n : Int, d = D.tuple [.tuple [S "const", t8, .int n], .list [.tuple [S "const", t8, .int n]]]) → ∃ p fs k, d = .tuple [p, .list fs] ∧ Bnd deep p fs k ∧ k ≤ bd deep := by
      rintro d ⟨n, rfl⟩
      exact ⟨_, _, 1, rfl, .const _ _, hbp⟩
    refine ⟨fun hd0 => ?_, fun hd0 => ?_⟩
    · walk_at "r"
      refine ⟨1, _, by rw [hCG]; exact fn_dip hG g (by decide) (by decide), by rw [hCk]; walk_at "z", ?_⟩
      rintro d ⟨n, rfl, hn1, hn2⟩
      walk_at "r"
      exact ⟨_, rfl, hconst _ ⟨n, rfl⟩⟩
    walk_at "r"
    refine ⟨fun hw0 => ?_, fun hw1' => ?_⟩
    · walk_at "r"
      refine ⟨1, _, by rw [hCG]; exact fn_dip hG g (by decide) (by decide), by rw [hCk]; walk_at "z", ?_⟩
      rintro d ⟨n, rfl, hn1, hn2⟩
      walk_at "r"
      exact ⟨_, rfl, hconst _ ⟨n, rfl⟩⟩
    clear hconst
    obtain ⟨n, rfl⟩ : ∃ n, deep = n + 1 := ⟨deep - 1, by have := ne_of_beq_false hd0; walk_at "z"⟩
    have ih := ih n rfl
    have hint : ((n + 1 : Nat) : Int) - 1 = n := by walk_at "z"
    walk_at "r"
    refine ⟨fun hw2' => ?_, fun hw2' => ?_⟩
    · walk_at "r"
      rw [hint]
      refine ⟨n + 2, _, by rw [hCG]; exact ih, by rw [hCk]; walk_at "z", ?_⟩
      rintro d ⟨p, fs, k, rfl, hb, hk⟩
      refine ⟨_, rfl, rfl, ?_⟩
      walk_at "r"
      refine ⟨1, _, by rw [hCG]; exact fn_dip hG g (by decide) (by decide), by rw [hCk]; walk_at "z", ?_⟩
      rintro d ⟨i, rfl, hn1, hn2⟩
      walk_at "r"
      exact ⟨_, rfl, _, _, k + 1, rfl, .bind _ hb, by simp only [bd]; walk_at "z"⟩
    walk_at "r"
    refine ev_comp K E.toEnvIs ⟨rfl, by decide, by decide, by decide⟩ ?_
    refine comp_name (by with_unfolding_all rfl) ?_
    refine it_seq K rfl ?_
    walk_at "r"
    refine ⟨1, _, by rw [hCG]; exact fn_dip hG g (by decide) (by decide), by rw [hCk]; walk_at "z", ?_⟩
    rintro d ⟨i, rfl, hn1, hn2⟩
    walk_at "r"
    refine ⟨_, rfl, .inr (.inr ⟨⟨_, _, rfl⟩, _, _, rfl, by decide, by decide, by walk_at "z", by walk_at "z", by rw [rangeD_len]; simp [sizeLine]; walk_at "z", [(Str.ofString "jar", .obj j), (Str.ofString "deep", .int (n + 1 : Nat))], rfl, fun _ => (SubL.of rfl), fun _ => true, fun _ e => ∃ x : Bp, e = bpD x ∧ Bnd n x.1 x.2.1 x.2.2 ∧ x.2.2 ≤ bd n, ?_, ?_⟩)⟩
    · intro C' K' hG1 hk1 E' d hd
      refine ⟨tt_nil ⟨rfl, rfl⟩, fun _ => ?_⟩
      walk_at "r"
      rw [hint]
      refine ⟨n + 2, _, by rw [hG1, hCG]; exact ih, by rw [hk1, hCk]; walk_at "z", ?_⟩
      rintro d ⟨p, fs, k, rfl, hb, hk⟩
      exact ⟨⟨(p, fs, k), rfl, hb, hk⟩, rfl⟩
    intro es hp
    rw [filter_true] at hp
    obtain ⟨el, ee⟩ := paired_all hp
    obtain ⟨ps, rfl, hps⟩ := choose_map ee
    rw [rangeD_len, List.length_map] at el
    have hpl : ps.length ≤ 3 := by walk_at "z"
    have hbd : bd n ≤ 4 := by
      have : n = 0 ∨ n = 1 := by walk_at "z"
      rcases this with rfl | rfl <;> decide
    have hsum : ∀ i, ((ps.take i).flatMap (·.2.1)).length ≤ 12 := fun i => by
      obtain ⟨k, h1, h2⟩ := Bnds.of (ps.take i) (fun x hx => hps x (List.mem_of_mem_take hx))
      have h3 := h1.flen.1
      have h4 : (ps.take i).length ≤ 3 := by rw [List.length_take]; walk_at "z"
      have h5 : (ps.take i).length * bd n ≤ 3 * 4 := Nat.mul_le_mul h4 hbd
      walk_at "z"
    refine es_cons K ?_
    refine ev_list K (es_nil ?_)
    refine ⟨by simp [sizeLine], ?_⟩
    refine es_nil ?_
    refine ⟨by simp [sizeLine], _, rfl, rfl, ?_⟩
    refine xs_sub (l := [(Str.ofString "found", .list []), (Str.ofString "parts", .list (ps.map bpD)), (Str.ofString "t", t8)]) (SubL.of rfl) ?_
    refine xs_cons K ?_
    refine x_for K (it_seq K rfl ?_)
    walk_at "r"
    refine .inl ⟨_, rfl, fun d σ => putAll σ [Str.ofString "pattern", Str.ofString "some"] (itemsD d), fun i σ => σ = ⟨[(Str.ofString "found", .list ((ps.take i).flatMap (·.2.1))), (Str.ofString "parts", .list (ps.map bpD)), (Str.ofString "t", t8)], []⟩, rfl, ?_, ?_⟩
    · rintro C' L K' i d σ hd rfl
      rw [List.getElem?_map, Option.map_eq_some_iff] at hd
      obtain ⟨x, hx, rfl⟩ := hd
      have E' := E.like L
      refine ⟨tgt_tuple K' rfl (fun y hy => E'.st (List.all_eq_true.mp (by decide : [Str.ofString "pattern", Str.ofString "some"].all (isVar _) = true) y hy)) rfl, ?_⟩
      have e1 : (ps.take (i + 1)).flatMap (·.2.1) = (ps.take i).flatMap (·.2.1) ++ x.2.1 := by
        rw [List.take_add_one, hx, List.flatMap_append]; simp
      have h1 := hsum (i + 1)
      rw [e1, List.length_append] at h1
      generalize (ps.take i).flatMap (·.2.1) = fs at e1 h1 ⊢
      obtain ⟨p, some, k⟩ := x
      dsimp only at h1 e1
      dsimp only [bpD, itemsD, putAll, AS.put]
      walk_at "r"
      refine ⟨_, bin_add_list (by simp [sizeLine]; walk_at "z"), ?_⟩
      walk_at "r"
      refine ⟨_, ?_, by show _ = _; rw [e1] <;> rfl⟩
      exact SubL.of rfl
    · rintro σ rfl
      rw [List.length_map, List.take_length]
      walk_at "r"
      refine ev_comp K E.toEnvIs ⟨rfl, by decide, by decide, by decide⟩ ?_
      refine comp_two (by with_unfolding_all rfl) (by with_unfolding_all rfl) ?_
      refine it_seq K rfl ?_
      walk_at "r"
      refine .inl ⟨_, rfl, by simp [sizeLine]; walk_at "z", [], rfl, fun _ _ => trivial, fun _ => true, fun d e => e = (itemsD d)[0]?.getD .none, ?_, ?_⟩
      · intro C' K' hG1 hk1 E' d hd
        obtain ⟨x, hx, rfl⟩ := List.mem_map.mp hd
        refine ⟨_, _, rfl, tt_nil ⟨rfl, rfl⟩, fun _ => ?_⟩
        walk_at "r"
        exact ⟨rfl, rfl⟩
      intro es hp
      rw [filter_true] at hp
      have := paired_map hp (g := (·.1)) (fun r _ e he => he)
      subst this
      walk_at "r"
      refine ⟨.inl rfl, by simp [itemsD]; walk_at "z", ?_⟩
      walk_at "r"
      refine ⟨_, rfl, ?_⟩
      obtain ⟨k, h1, h2⟩ := Bnds.of ps hps
      have h5 : ps.length * bd n ≤ 3 * bd n := Nat.mul_le_mul_right _ hpl
      exact ⟨_, _, k + 1, rfl, .or h1, by simp only [bd]; walk_at "z"⟩
theorem fn_bound : ∀ deep : Nat, deep ≤ 2 → FnB G j deep
  | 0, h => fn_bound_step hG g h fun n e => by cases e
  | n + 1, h => fn_bound_step hG g h fun m e => by cases e; exact fn_bound n (by walk_at "z")
end
end

section
section
variable {G : GC} (hG : GOk G) {j : Addr} (g : JG G j)
include hG g
theorem fn_opened_right : Fn G (Str.ofString "_law_opened_right") 5 [.obj j] (· = .bool true) := by
  have hf : (fnTable[18]? : Option _) = some (Str.ofString "_law_opened_right", _, _, _) := rfl
  refine fn_body (xs := [Str.ofString "jar"]) hG (List.mem_of_getElem? hf) (fun pm code doc vs h => ?_) rfl (by decide) (by decide) (fun n => ?_) rfl rfl rfl (fun C hCG hCk K E => ?_)
  · obtain ⟨v, rfl⟩ := vlen1 h; rfl
  · exact cells_nodup (by decide) n
  · clear hf
    have hG' : GOk C.G := by rw [hCG]; exact hG
    have g' : JG C.G j := by rw [hCG]; exact g
    refine xs_cons K ?_
    refine x_swapF K E (by with_unfolding_all rfl) (by with_unfolding_all rfl) ?_
    refine ev_tuple K ?_
    refine es_cons K ?_
    refine ev_list_new K fun q => ?_
    refine es_cons K ?_
    refine ev_list K (es_nil ?_)
    refine ⟨by simp [sizeLine], ?_⟩
    refine es_nil ?_
    refine ⟨by simp [sizeLine], _, rfl, rfl, ?_⟩
    refine xs_sub (l := [(Str.ofString "due", .list []), (Str.ofString "rows", .obj q), (Str.ofString "jar", .obj j)]) (SubL.of rfl) ?_
    refine xs_cons K ?_
    refine x_for K (it_seq K rfl ?_)
    walk_at "r"
    refine ⟨1, _, by rw [hCG]; exact fn_dip hG g (by decide) (by decide), by rw [hCk]; walk_at "z", ?_⟩
    rintro d ⟨n, rfl, hn1, hn2⟩
    walk_at "r"
    refine ⟨_, rfl, .inr (.inr ⟨⟨_, _, rfl⟩, _, _, rfl, by decide, by decide, by walk_at "z", by walk_at "z", ?_⟩)⟩
    refine ⟨fun d σ => σ.put (Str.ofString "turn") d, fun i σ => ∃ rs due m, σ = ⟨[(Str.ofString "due", .list due), (Str.ofString "rows", .obj q), (Str.ofString "jar", .obj j)], [(q, .list rs)]⟩ ∧ RowsB rs due m ∧ m ≤ 13 * i, ⟨[], [], 0, rfl, .nil, Nat.le_refl _⟩, ?_, ?_⟩
    · rintro C' L K' i d σ hd ⟨rs, due, m, rfl, hr, hm⟩
      obtain ⟨hi, rfl⟩ := rangeD_get hd
      have E' := E.like L
      have hG1 : C'.G = G := by rw [L.G, hCG]
      have hk1 : C'.k = 4 := by rw [L.k, hCk]
      refine ⟨tgt_name K' (by exact E'.st (by decide)), ?_⟩
      dsimp only [AS.put]
      have hrl := hr.len
      have hdl := hr.dfits.1
      walk_at "r"
      refine ⟨4, _, by rw [hG1]; exact fn_bound hG g 2 (by decide), by rw [hk1]; decide, ?_⟩
      rintro d ⟨p, fs, k, rfl, hb, hk⟩
      refine ⟨_, rfl, rfl, ?_⟩
      have hk : k ≤ 13 := hk
      have hfl := hb.flen.1
      refine xs_sub (l := [(Str.ofString "found", .list fs), (Str.ofString "pattern", p), (Str.ofString "due", .list due), (Str.ofString "rows", .obj q), (Str.ofString "jar", .obj j)]) (SubL.of rfl) ?_
      refine xs_cons K' ?_
      refine x_assignE K' E'.toEnvIs (by exact E'.st (by decide)) ?_
      refine ev_tupleC K' E'.toEnvIs (by with_unfolding_all rfl) ?_
      refine ev_comp K' E'.toEnvIs ⟨rfl, by decide, by decide, by decide⟩ ?_
      refine comp_leafs (by rw [hG1]; exact hG) (by rw [hG1]; exact g) (by rw [hk1]; decide) (by with_unfolding_all rfl) (by with_unfolding_all rfl) (by decide) ?_
      refine it_seq K' rfl ?_
      walk_at "r"
      refine ⟨1, _, by rw [hG1]; exact fn_dip hG g (by decide) (by decide), by rw [hk1]; decide, ?_⟩
      rintro d ⟨n, rfl, hn1, hn2⟩
      refine ⟨_, rfl, .inr (.inr ⟨⟨_, _, rfl⟩, _, _, rfl, by decide, by decide, by walk_at "z", by walk_at "z", by rw [rangeD_len]; walk_at "z", rfl, fun es e1 e2 => ?_⟩)⟩
      rw [rangeD_len] at e1
      have e3 : es.length ≤ 3 := by walk_at "z"
      refine ⟨.inl rfl, by simp only [itemsD]; walk_at "z", ?_⟩
      refine xs_cons K' ?_
      refine x_append K' rfl ⟨_, .head _⟩ ?_
      walk_at "r"
      refine ⟨_, bin_add_tuple (by simp [itemsD, sizeLine]; walk_at "z"), [], [], _, rfl, by simp [sizeLine]; walk_at "z", ?_⟩
      refine xs_cons K' ?_
      refine x_assignE K' E'.toEnvIs (by exact E'.st (by decide)) ?_
      refine ev_bin K' ?_
      walk_at "d"
      refine ev_comp K' E'.toEnvIs ⟨rfl, by decide, by decide, by decide⟩ ?_
      refine comp_name (by with_unfolding_all rfl) ?_
      refine it_seq K' rfl ?_
      walk_at "r"
      refine .inl ⟨_, rfl, by simp [sizeLine]; walk_at "z", [(Str.ofString "behind", .tuple es)], rfl, fun _ => (SubL.of rfl), fun _ => true, fun d e => e = .tuple (d :: es), ?_, ?_⟩
      · intro C2 K2 hG2 hk2 E2 d hd
        refine ⟨tt_nil ⟨rfl, rfl⟩, fun _ => ?_⟩
        walk_at "r"
        exact ⟨_, bin_add_tuple (by simp [sizeLine]; walk_at "z"), rfl, rfl⟩
      intro es' hp
      rw [filter_true, ← List.map_id fs] at hp
      have := paired_map hp (g := fun d => .tuple (d :: es)) (fun r _ e he => he)
      subst this
      refine ⟨_, bin_add_list (by simp [sizeLine]; walk_at "z"), ?_⟩
      walk_at "r"
      refine ⟨_, ?_, _, _, _, rfl, hr.snoc hb (by decide) (by walk_at "z") (fun d hd => fit_mono (e2 d hd).fits (by decide)), by walk_at "z"⟩
      exact SubL.of rfl
    · rintro σ ⟨rs, due, m, rfl, hr, hm⟩
      rw [rangeD_len] at hm
      have hm : m ≤ 40 := by walk_at "z"
      have hrl := hr.len
      have hdf := hr.dfits
      refine xs_freeze (Str.ofString "rows") (l1 := []) (l2 := []) rfl rfl ?_
      walk_at "r"
      refine ⟨_, .inl ⟨rfl, by simp [sizeLine]; walk_at "z"⟩, ?_⟩
      walk_at "r"
      refine ev_and ?_
      walk_at "r"
      refine ⟨2, _, by rw [hCG]; exact fn_opened hG hm hr, by rw [hCk]; decide, ?_⟩
      rintro d rfl
      walk_at "r"
      have f1 := fit_list hdf.2
      have f2 := fit_list hr.fits
      refine ⟨_, cmp_eq (n := 10) (m := 10) f1 f1, _, rfl, ?_⟩
      rw [eqD_refl f1]
      refine ⟨fun _ => ?_, fun h => absurd h (by decide)⟩
      walk_at "r"
      exact ⟨_, cmp_eq (n := 10) (m := 10) f2 f2, _, rfl, by rw [eqD_refl f2]⟩
end
end

section
def mk (x : Int) : Option (Int × Int) → Bool
  | none => true
  | some (a, b) => decide (a ≤ x ∧ x ≤ b)
def marksB (os : List (Option (Int × Int))) (x : Int) : List Bool := os.map (mk x)
def chg (os : List (Option (Int × Int))) (low : Int) (k : Nat) : Bool := k == 0 || !(marksB os (low + k) == marksB os (low + k - 1))
def begs (os : List (Option (Int × Int))) (low : Int) (n : Nat) : List Int := ((List.range n).filter (chg os low)).map fun (k : Nat) => low + k
def endsI (bs : List Int) (h : Int) : List Int := (bs.drop 1).map (fun b => b - 1) ++ [h]
theorem sorted_ext : ∀ {l1 l2 : List Int}, l1.Pairwise (· < ·) → l2.Pairwise (· < ·) → (∀ x, x ∈ l1 ↔ x ∈ l2) → l1 = l2
  | [], [], _, _, _ => rfl
  | [], b :: t2, _, _, h => by have := (h b).mpr (.head _); cases this
  | a :: t1, [], _, _, h => by have := (h a).mp (.head _); cases this
  | a :: t1, b :: t2, p1, p2, h => by
    rw [List.pairwise_cons] at p1 p2
    have hab : a = b := by
      rcases List.mem_cons.mp ((h a).mp (.head _)) with e | e
      · exact e
      · rcases List.mem_cons.mp ((h b).mpr (.head _)) with e' | e'
        · exact e'.symm
        · have := p1.1 _ e'; have := p2.1 _ e; walk_at "z"
    subst hab
    rw [sorted_ext p1.2 p2.2 fun x => ?_]
    constructor
    · intro hx
      rcases List.mem_cons.mp ((h x).mp (.tail _ hx)) with e | e
      · have := p1.1 _ hx; walk_at "z"
      · exact e
    · intro hx
      rcases List.mem_cons.mp ((h x).mpr (.tail _ hx)) with e | e
      · have := p2.1 _ hx; walk_at "z"
      · exact e
theorem addKey_mem {ks : List Int} {i x : Int} : x ∈ addKey ks i ↔ x ∈ ks ∨ x = i := by
  unfold addKey
  split
  · rename_i h
    constructor
    · exact .inl
    · rintro (h' | rfl)
      · exact h'
      · exact h
  · simp
theorem addKey_nodup {ks : List Int} {i : Int} (h : ks.Nodup) : (addKey ks i).Nodup := by
  unfold addKey
  split
  · exact h
  · rename_i hi
    rw [List.nodup_append]
    refine ⟨h, by simp, fun a ha b hb => ?_⟩
    simp at hb
    subst hb
    exact fun e => hi (e ▸ ha)
theorem step_nodup {low : Int} {ks : List Int} {o : Option (Int × Int)} (h : ks.Nodup) : (keysStep low ks o).Nodup := by
  cases o with
  | none => exact h
  | some xy => exact addKey_nodup (addKey_nodup h)
theorem fold_nodup {low : Int} : ∀ {os : List (Option (Int × Int))} {ks : List Int}, ks.Nodup → (os.foldl (keysStep low) ks).Nodup
  | [], _, h => h
  | o :: os, _, h => fold_nodup (os := os) (step_nodup h)
theorem fold_mem {low x : Int} : ∀ {os : List (Option (Int × Int))} {ks : List Int}, x ∈ os.foldl (keysStep low) ks ↔ x ∈ ks ∨ ∃ a b, some (a, b) ∈ os ∧ (x = max a low ∨ x = b + 1)
  | [], ks => by simp
  | o :: os, ks => by
    rw [List.foldl_cons, fold_mem (os := os)]
    cases o with
    | none => simp [keysStep]
    | some ab =>
      obtain ⟨a, b⟩ := ab
      simp only [keysStep, addKey_mem, List.mem_cons]
      constructor
      · rintro (((h | h) | h) | ⟨c, d, h1, h2⟩)
        · exact .inl h
        · exact .inr ⟨a, b, .inl rfl, .inl h⟩
        · exact .inr ⟨a, b, .inl rfl, .inr h⟩
        · exact .inr ⟨c, d, .inr h1, h2⟩
      · rintro (h | ⟨c, d, h1 | h1, h2⟩)
        · exact .inl (.inl (.inl h))
        · cases h1
          rcases h2 with h2 | h2
          · exact .inl (.inl (.inr h2))
          · exact .inl (.inr h2)
        · exact .inr ⟨c, d, h1, h2⟩
theorem begs_mem {os : List (Option (Int × Int))} {low x : Int} {n : Nat} : x ∈ begs os low n ↔ ∃ k, k < n ∧ chg os low k = true ∧ x = low + k := by
  unfold begs
  simp only [List.mem_map, List.mem_filter, List.mem_range]
  constructor
  · rintro ⟨k, ⟨h1, h2⟩, rfl⟩; exact ⟨k, h1, h2, rfl⟩
  · rintro ⟨k, h1, h2, rfl⟩; exact ⟨k, ⟨h1, h2⟩, rfl⟩
theorem begs_sorted {os : List (Option (Int × Int))} {low : Int} {n : Nat} : (begs os low n).Pairwise (· < ·) := by
  unfold begs
  rw [List.pairwise_map]
  refine List.Pairwise.filter _ (List.Pairwise.imp ?_ List.pairwise_lt_range)
  intro a b h
  walk_at "z"
theorem plain_cuts {os : List (Option (Int × Int))} {low : Int} {n : Nat} (hn : 1 ≤ n) (hos : ∀ a b, some (a, b) ∈ os → a ≤ b) {ns : List Int} (hp : ns.Perm (keysOf low os)) (hs : ns.Pairwise (· ≤ ·)) :
    cutsOf low (low + n - 1) ns = begs os low n ++ [low + n] := by
  unfold cutsOf
  have e : low + (n : Int) - 1 + 1 = low + n := by walk_at "z"
  rw [e]
  congr 1
  have hnd : ns.Nodup := hp.nodup_iff.mpr (fold_nodup (by simp))
  refine sorted_ext ?_ begs_sorted ?_
  · refine List.Pairwise.filter _ ?_
    have := List.Pairwise.and hs hnd
    exact this.imp fun h => by have := h.1; have := h.2; walk_at "z"
  · intro x
    rw [List.mem_filter, hp.mem_iff, keysOf, fold_mem, begs_mem]
    simp only [List.mem_singleton, Bool.and_eq_true, decide_eq_true_eq]
    constructor
    · rintro ⟨h, h1, h2⟩
      refine ⟨(x - low).toNat, by walk_at "z", ?_, by walk_at "z"⟩
      have hk : low + ((x - low).toNat : Int) = x := by walk_at "z"
      unfold chg
      rw [hk]
      by_cases hx : x = low
      · subst hx; simp
      · rw [Bool.or_eq_true]
        right
        rcases h with h | ⟨a, b, hm, h⟩
        · exact absurd h hx
        · have hab := hos a b hm
          simp only [Bool.not_eq_true', beq_eq_false_iff_ne, ne_eq]
          intro he
          have := List.map_inj_left.mp he _ hm
          simp only [mk, decide_eq_decide] at this
          walk_at "z"
    · rintro ⟨k, hk, hc, rfl⟩
      refine ⟨?_, by walk_at "z", by walk_at "z"⟩
      unfold chg at hc
      rcases Bool.or_eq_true_iff.mp hc with h | h
      · have := eq_of_beq h; subst this; left; simp
      · by_cases hk0 : k = 0
        · subst hk0; left; simp
        right
        simp only [Bool.not_eq_true', beq_eq_false_iff_ne, ne_eq] at h
        have : ∃ o ∈ os, mk (low + k) o ≠ mk (low + k - 1) o := by
          refine Classical.byContradiction fun z => h (List.map_inj_left.mpr fun o ho => Classical.byContradiction fun y => z ⟨o, ho, y⟩)
        obtain ⟨o, ho, hne⟩ := this
        cases o with
        | none => exact absurd rfl hne
        | some ab =>
          obtain ⟨a, b⟩ := ab
          have hab := hos a b ho
          refine ⟨a, b, ho, ?_⟩
          simp only [mk, ne_eq, decide_eq_decide] at hne
          walk_at "z"
theorem plain_ranges {bs : List Int} (hb : 1 ≤ bs.length) (h : Int) : rangesD (bs ++ [h + 1]) = List.zipWith (fun b e => D.tuple [S "range", .int b, .int e]) bs (endsI bs h) := by
  have hl : (endsI bs h).length = bs.length := by simp [endsI]; walk_at "z"
  refine List.ext_getElem (by simp [rangesD, hl]) fun i h1 h2 => ?_
  have hi : i < bs.length := by simpa [rangesD] using h1
  have he : (endsI bs h)[i]'(by walk_at "z") = ((bs ++ [h + 1])[i + 1]?.getD 0 - 1) := by
    by_cases hlast : i + 1 < bs.length
    · simp only [endsI]
      rw [List.getElem_append_left (by simp; walk_at "z"), List.getElem?_append_left hlast]
      simp [hlast]
    · have : i + 1 = bs.length := by walk_at "z"
      simp only [endsI]
      rw [List.getElem_append_right (by simp; walk_at "z"), List.getElem?_append_right (by walk_at "z")]
      simp [this]
  simp only [rangesD, List.getElem_map, List.getElem_range, List.getElem_zipWith]
  rw [he, List.getElem?_append_left hi]
  simp [hi]
end

section
abbrev Rw := D × D × Option (Int × Int)
def rowR (r : Rw) : D := .tuple [r.1, r.2.1]
theorem NumOk.facts {p n : D} {o : Option (Int × Int)} (h : NumOk p n o) : (∀ a b, o = some (a, b) → a ≤ b) ∧ ((n = .none ∧ o = none) ∨ ∃ fs, n = .list fs ∧ (∀ e ∈ fs, fit 0 e = true) ∧ ∀ x, (fs.any fun e => eqD e (.int x)) = mk x o) := by
  have hr : ∀ x y : Int, ∀ e ∈ rangeD x (y + 1), fit 0 e = true := fun x y e he => by
    obtain ⟨i, hi⟩ := List.getElem?_of_mem he
    obtain ⟨_, rfl⟩ := rangeD_get hi
    rfl
  cases h with
  | wild => exact ⟨fun _ _ h => (by cases h), .inl ⟨rfl, rfl⟩⟩
  | const b h1 h2 =>
    refine ⟨fun _ _ h => (by cases h; walk_at "z"), .inr ⟨_, rfl, ?_, ?_⟩⟩
    · rw [← rangeD_one]; exact hr _ _
    · intro x; rw [← rangeD_one, rangeD_any]; rfl
  | range x y h h1 h2 => exact ⟨fun _ _ h => (by cases h; walk_at "z"), .inr ⟨_, rfl, hr _ _, fun x => rangeD_any⟩⟩
def mkn (x : Int) : D → Bool
  | .tuple [_, .list fs] => fs.any fun e => eqD e (.int x)
  | _ => true
theorem NumOk.mkn {r : Rw} (h : NumOk r.1 r.2.1 r.2.2) (x : Int) : mkn x (rowR r) = mk x r.2.2 := by
  obtain ⟨p, n, o⟩ := r
  rcases h.facts.2 with ⟨h1, h2⟩ | ⟨fs, h1, _, h2⟩
  · dsimp only at h1 h2; subst h1; subst h2; rfl
  · dsimp only at h1 h2; subst h1; exact h2 x
theorem eqD_bools : ∀ {as bs : List Bool}, eqD (.list (as.map D.bool)) (.list (bs.map D.bool)) = (as == bs)
  | [], [] => rfl
  | [], _ :: _ => rfl
  | _ :: _, [] => rfl
  | a :: as, b :: bs => by
    have h := eqD_bools (as := as) (bs := bs)
    simp only [eqD, toPy, List.map_cons, toPys, PyData.eqv] at h ⊢
    cases a <;> cases b <;> simp [PyData.eqv, PyData.eqvAll, h]
def fm (os : List (Option (Int × Int))) (low : Int) : Nat → D
  | 0 => .none
  | i + 1 => .list ((marksB os (low + i)).map D.bool)
theorem begs_succ {os : List (Option (Int × Int))} {low : Int} {i : Nat} : begs os low (i + 1) = begs os low i ++ (if chg os low i then [low + i] else []) := by
  unfold begs
  rw [List.range_succ, List.filter_append, List.map_append]
  cases h : chg os low i <;> simp [h]
section
variable {G : GC} (hG : GOk G) {j : Addr} (g : JG G j)
include hG g
theorem fn_ranges_right : Fn G (Str.ofString "_law_ranges_right") 4 [.obj j] (· = .bool true) := by
  have hf : (fnTable[12]? : Option _) = some (Str.ofString "_law_ranges_right", _, _, _) := rfl
  refine fn_body (xs := [Str.ofString "jar"]) hG (List.mem_of_getElem? hf) (fun pm code doc vs h => ?_) rfl (by decide) (by decide) (fun n => ?_) rfl rfl rfl (fun C hCG hCk K E => ?_)
  · obtain ⟨v, rfl⟩ := vlen1 h; rfl
  · exact cells_nodup (by decide) n
  · clear hf
    have hG' : GOk C.G := by rw [hCG]; exact hG
    have g' : JG C.G j := by rw [hCG]; exact g
    walk_at "r"
    refine ⟨1, _, by rw [hCG]; exact fn_dip hG g (by decide) (by decide), by rw [hCk]; walk_at "z", ?_⟩
    rintro d ⟨l0, rfl, hl1, hl2⟩
    walk_at "r"
    refine ⟨1, _, by rw [hCG]; exact fn_dip hG g (by decide) (by decide), by rw [hCk]; walk_at "z", ?_⟩
    rintro d ⟨m0, rfl, hm1, hm2⟩
    walk_at "r"
    refine ⟨_, rfl, rfl, ?_⟩
    obtain ⟨low, hlow⟩ : ∃ low : Int, l0 - 10 = low := ⟨_, rfl⟩
    obtain ⟨many, hmany⟩ : ∃ many : Nat, 1 + m0 = (many : Int) := ⟨(1 + m0).toNat, by walk_at "z"⟩
    rw [hlow, hmany]
    have hmn : 1 ≤ many ∧ many ≤ 30 := by walk_at "z"
    refine xs_sub (l := [(Str.ofString "low", .int low), (Str.ofString "many", .int many), (Str.ofString "jar", .obj j)]) (SubL.of rfl) ?_
    refine xs_cons K ?_
    first | refine x_assign_comp K E.toEnvIs ⟨rfl, by decide, by decide, by decide⟩ (by exact E.st (by decide)) ?_ | (refine x_assignE K E.toEnvIs (by exact E.st (by decide)) ?_; refine ev_comp K E.toEnvIs ⟨rfl, by decide, by decide, by decide⟩ ?_)
    refine comp_name (by with_unfolding_all rfl) ?_
    refine it_seq K rfl ?_
    walk_at "r"
    refine ⟨1, _, by rw [hCG]; exact fn_dip hG g (by decide) (by decide), by rw [hCk]; walk_at "z", ?_⟩
    rintro d ⟨n, rfl, hn1, hn2⟩
    refine ⟨_, rfl, .inr (.inr ⟨⟨_, _, rfl⟩, _, _, rfl, by decide, by decide, by walk_at "z", by walk_at "z", by rw [rangeD_len]; simp [sizeLine]; walk_at "z", [(Str.ofString "low", .int low), (Str.ofString "many", .int many), (Str.ofString "jar", .obj j)], rfl, fun _ => (SubL.of rfl), fun _ => true, fun _ e => ∃ r : Rw, e = rowR r ∧ NumOk r.1 r.2.1 r.2.2, ?_, ?_⟩)⟩
    · intro C' K' hG1 hk1 E' d hd
      refine ⟨tt_nil ⟨rfl, rfl⟩, fun _ => ?_⟩
      walk_at "r"
      refine ⟨2, _, by rw [hG1, hCG]; exact fn_number hG g (by walk_at "z") (by walk_at "z") (by walk_at "z") (by walk_at "z"), by rw [hk1, hCk]; walk_at "z", ?_⟩
      rintro d ⟨p, n, o, rfl, h⟩
      exact ⟨⟨(p, n, o), rfl, h⟩, rfl⟩
    intro es hp
    rw [filter_true] at hp
    obtain ⟨el, ee⟩ := paired_all hp
    obtain ⟨rs, rfl, hrs⟩ := choose_map ee
    rw [rangeD_len, List.length_map] at el
    have hrl : rs.length ≤ 6 := by walk_at "z"
    clear ee hp
    refine xs_sub (l := [(Str.ofString "rows", .list (rs.map rowR)), (Str.ofString "low", .int low), (Str.ofString "many", .int many)]) (SubL.of rfl) ?_
    refine xs_cons K ?_
    refine x_swapF K E (by with_unfolding_all rfl) (by with_unfolding_all rfl) ?_
    refine ev_tuple K ?_
    refine es_cons K ?_
    refine ev_list_new K fun q => ?_
    walk_at "r"
    refine ⟨_, rfl, rfl, ?_⟩
    generalize hos : rs.map (fun r => r.2.2) = os
    refine xs_sub (l := [(Str.ofString "former", .none), (Str.ofString "begins", .obj q), (Str.ofString "rows", .list (rs.map rowR)), (Str.ofString "low", .int low), (Str.ofString "many", .int many)]) (SubL.of rfl) ?_
    refine xs_cons K ?_
    refine x_for K (it_seq K rfl ?_)
    walk_at "r"
    have hbl : ∀ i, (begs os low i).length ≤ i := fun i => by
      unfold begs
      rw [List.length_map]
      exact Nat.le_trans (List.length_filter_le _ _) (by simp)
    refine ⟨_, _, rfl, rfl, .inr (.inr ⟨⟨_, _, rfl⟩, _, _, rfl, by walk_at "z", by walk_at "z", by walk_at "z", by walk_at "z", ?_⟩)⟩
    refine ⟨fun d σ => σ.put (Str.ofString "number") d, fun i σ => σ = ⟨[(Str.ofString "former", fm os low i), (Str.ofString "begins", .obj q), (Str.ofString "rows", .list (rs.map rowR)), (Str.ofString "low", .int low), (Str.ofString "many", .int many)], [(q, .list ((begs os low i).map D.int))]⟩, rfl, ?_, ?_⟩
    · rintro C' L K' i d σ hd rfl
      obtain ⟨hi, rfl⟩ := rangeD_get hd
      have hi : i < many := by walk_at "z"
      have E' := E.like L
      have hG1 : C'.G = G := by rw [L.G, hCG]
      have hk1 : C'.k = 3 := by rw [L.k, hCk]
      refine ⟨tgt_name K' (by exact E'.st (by decide)), ?_⟩
      dsimp only [AS.put]
      have hb1 := hbl i
      refine xs_cons K' ?_
      first | refine x_assign_comp K' E'.toEnvIs ⟨rfl, by decide, by decide, by decide⟩ (by exact E'.st (by decide)) ?_ | (refine x_assignE K' E'.toEnvIs (by exact E'.st (by decide)) ?_; refine ev_comp K' E'.toEnvIs ⟨rfl, by decide, by decide, by decide⟩ ?_)
      refine comp_two (by with_unfolding_all rfl) (by with_unfolding_all rfl) ?_
      refine it_seq K' rfl ?_
      walk_at "r"
      refine .inl ⟨_, rfl, by simp [sizeLine]; walk_at "z", [(Str.ofString "number", .int (low + i))], rfl, fun _ _ => (SubL.of rfl), fun _ => true, fun d e => e = .bool (mkn (low + i) d), ?_, ?_⟩
      · intro C2 K2 hG2 hk2 E2 d hd
        obtain ⟨r, hr, rfl⟩ := List.mem_map.mp hd
        refine ⟨_, _, rfl, tt_nil ⟨rfl, rfl⟩, fun _ => ?_⟩
        refine ev_or ?_
        have h := hrs r hr
        have hmk := h.mkn (low + i)
        obtain ⟨p, n, o⟩ := r
        dsimp only at h
        walk_at "r"
        rcases h.facts.2 with ⟨rfl, rfl⟩ | ⟨fs, rfl, hff, hx⟩
        · exact ⟨true, rfl, fun _ => ⟨rfl, rfl⟩, fun h => by cases h⟩
        · refine ⟨false, rfl, fun h => (by cases h), fun _ => ?_⟩
          walk_at "r"
          exact ⟨_, cmp_in_list (n := 0) (m := 0) rfl hff, rfl, rfl⟩
      intro es hp
      rw [filter_true] at hp
      have := paired_map hp (g := fun r => .bool (mk (low + i) r.2.2)) (fun r hr e he => by rw [he, (hrs r hr).mkn])
      have hes : es = (marksB os (low + i)).map D.bool := by rw [this, marksB, ← hos, List.map_map, List.map_map]; rfl
      subst hes
      clear this hp
      have hbf : ∀ x, fit 1 (.list ((marksB os x).map D.bool)) = true := fun x => fit_list fun d hd => by
        obtain ⟨b, _, rfl⟩ := List.mem_map.mp hd
        rfl
      refine xs_cut ⟨[(Str.ofString "marks", .list ((marksB os (low + i)).map D.bool)), (Str.ofString "begins", .obj q), (Str.ofString "rows", .list (rs.map rowR)), (Str.ofString "low", .int low), (Str.ofString "many", .int many)], [(q, .list ((begs os low (i + 1)).map D.int))]⟩ K' (x_if (bv_bool (or_cons ?_))) ?_
      · cases i with
        | zero =>
          have hc : chg os low 0 = true := rfl
          rw [begs_succ, if_pos hc, List.map_append]
          walk_at "r"
          refine x_append K' rfl ⟨_, .head _⟩ ?_
          walk_at "r"
          refine ⟨[], [], _, rfl, by simp [sizeLine]; walk_at "z", ?_⟩
          walk_at "r"
          exact ⟨rfl, (SubL.of rfl), rfl⟩
        | succ i =>
          have hc : chg os low (i + 1) = !(marksB os (low + (i + 1 : Nat)) == marksB os (low + i)) := by
            unfold chg
            rw [show low + ((i + 1 : Nat) : Int) - 1 = low + i by walk_at "z"]
            rfl
          walk_at "r"
          refine ⟨_, cmp_ne (n := 1) (m := 1) (hbf _) (hbf _), ?_⟩
          rw [show fm os low (i + 1) = .list ((marksB os (low + i)).map D.bool) from rfl, eqD_bools, ← hc]
          refine ⟨fun h => ?_, fun h => ?_⟩
          · rw [begs_succ (i := i + 1), if_pos h, List.map_append]
            walk_at "r"
            refine x_append K' rfl ⟨_, .head _⟩ ?_
            walk_at "r"
            refine ⟨[], [], _, rfl, by simp [sizeLine]; walk_at "z", ?_⟩
            walk_at "r"
            exact ⟨rfl, (SubL.of rfl), rfl⟩
          · rw [begs_succ (i := i + 1), if_neg (by rw [h]; decide), List.append_nil]
            walk_at "r"
            exact ⟨rfl, (SubL.of rfl), rfl⟩
      · walk_at "r"
        refine ⟨_, ?_, rfl⟩
        exact SubL.of rfl
    · rintro σ rfl
      rw [rangeD_len, show (low + (many : Int) - low).toNat = many by walk_at "z"]
      have hbs := hbl many
      have hb0 : 1 ≤ (begs os low many).length := by
        refine List.length_pos_of_mem (a := low) (begs_mem.mpr ⟨0, by walk_at "z", rfl, by walk_at "z"⟩)
      have hpl : ∀ ns : List Int, ns.Perm (keysOf low os) → ns.Pairwise (· ≤ ·) → rangesD (cutsOf low (low + many - 1) ns) = List.zipWith (fun b e => D.tuple [S "range", .int b, .int e]) (begs os low many) (endsI (begs os low many) (low + many - 1)) := by
        intro ns hp hs
        rw [plain_cuts hmn.1 (fun a b h => by
          rw [← hos] at h
          obtain ⟨r, hr, he⟩ := List.mem_map.mp h
          exact (hrs r hr).facts.1 a b he) hp hs]
        have := plain_ranges hb0 (low + many - 1)
        rw [show low + (many : Int) - 1 + 1 = low + many by walk_at "z"] at this
        exact this
      generalize begs os low many = bs at *
      refine xs_freeze (Str.ofString "begins") (l1 := []) (l2 := []) rfl rfl ?_
      refine xs_sub (l := [(Str.ofString "begins", .list (bs.map D.int)), (Str.ofString "rows", .list (rs.map rowR)), (Str.ofString "low", .int low), (Str.ofString "many", .int many)]) (SubL.of rfl) ?_
      refine xs_cons K ?_
      refine x_assignE K E.toEnvIs (by exact E.st (by decide)) ?_
      refine ev_bin K ?_
      refine ev_comp K E.toEnvIs ⟨rfl, by decide, by decide, by decide⟩ ?_
      refine comp_name (by with_unfolding_all rfl) ?_
      refine it_seq K rfl ?_
      walk_at "r"
      refine .inl ⟨_, rfl, by simp [sizeLine]; walk_at "z", .inl ⟨_, rfl, by simp [sizeLine]; walk_at "z", [], rfl, fun _ => trivial, fun _ => true, fun d e => ∃ i : Int, d = .int i ∧ e = .int (i - 1), ?_, ?_⟩⟩
      · intro C2 K2 hG2 hk2 E2 d hd
        obtain ⟨b, hb, rfl⟩ := List.mem_map.mp (List.mem_of_mem_drop hd)
        refine ⟨tt_nil ⟨rfl, rfl⟩, fun _ => ?_⟩
        walk_at "r"
        exact ⟨⟨_, rfl, rfl⟩, rfl⟩
      intro es hp
      rw [filter_true, ← List.map_drop] at hp
      have := paired_map hp (g := fun b => .int (b - 1)) (fun r _ e he => by obtain ⟨i, h1, h2⟩ := he; cases h1; exact h2)
      subst this
      walk_at "r"
      refine ⟨_, bin_add_list (by simp [sizeLine]; walk_at "z"), ?_⟩
      have he : (bs.drop 1).map (fun b => D.int (b - 1)) ++ [D.int (low + many - 1)] = (endsI bs (low + many - 1)).map D.int := by simp [endsI]; rfl
      rw [he]
      have hel : (endsI bs (low + many - 1)).length = bs.length := by simp [endsI]; walk_at "z"
      generalize endsI bs (low + many - 1) = ends at *
      refine xs_cons K ?_
      first | refine x_assign_comp K E.toEnvIs ⟨rfl, by decide, by decide, by decide⟩ (by exact E.st (by decide)) ?_ | (refine x_assignE K E.toEnvIs (by exact E.st (by decide)) ?_; refine ev_comp K E.toEnvIs ⟨rfl, by decide, by decide, by decide⟩ ?_)
      refine comp_two (by with_unfolding_all rfl) (by with_unfolding_all rfl) ?_
      refine it_zip K E.toEnvIs (by with_unfolding_all rfl) ?_
      walk_at "r"
      refine ⟨_, _, rfl, by simp [sizeLine]; walk_at "z", [], rfl, fun _ _ => trivial, fun _ => true, fun d e => ∃ x y : D, d = .tuple [x, y] ∧ e = .tuple [S "range", x, y], ?_, ?_⟩
      · intro C2 K2 hG2 hk2 E2 d hd
        obtain ⟨i, hi, he⟩ := List.getElem_of_mem hd
        rw [List.getElem_zipWith] at he
        refine ⟨_, _, he.symm, tt_nil ⟨rfl, rfl⟩, fun _ => ?_⟩
        walk_at "r"
        exact ⟨⟨_, _, he.symm, rfl⟩, rfl⟩
      intro es hp
      rw [filter_true] at hp
      have hdue : es = List.zipWith (fun b e => D.tuple [S "range", .int b, .int e]) bs ends := by
        rw [← List.map_id (List.zipWith _ _ _)] at hp
        have := paired_map hp (g := fun d => .tuple (S "range" :: itemsD d)) (fun r _ e he => by obtain ⟨x, y, h1, h2⟩ := he; change r = _ at h1; subst h1; exact h2)
        rw [this, List.map_zipWith, List.zipWith_map]
        rfl
      clear hp
      subst hdue
      refine xs_cons K (x_ret ?_)
      refine ev_cmp K ?_
      walk_at "r"
      refine ev_comp K E.toEnvIs ⟨rfl, by decide, by decide, by decide⟩ ?_
      refine comp_two (by with_unfolding_all rfl) (by with_unfolding_all rfl) ?_
      refine it_seq K rfl ?_
      walk_at "r"
      refine .inl ⟨_, rfl, by simp [sizeLine]; walk_at "z", [], rfl, fun _ _ => trivial, fun _ => true, fun d e => e = (itemsD d)[0]?.getD .none, ?_, ?_⟩
      · intro C' K' hG1 hk1 E' d hd
        obtain ⟨x, hx, rfl⟩ := List.mem_map.mp hd
        refine ⟨_, _, rfl, tt_nil ⟨rfl, rfl⟩, fun _ => ?_⟩
        walk_at "r"
        exact ⟨rfl, rfl⟩
      intro es hp
      rw [filter_true] at hp
      have := paired_map hp (g := (·.1)) (fun r _ e he => he)
      subst this
      clear hp
      have hk := fn_ranges hG (low := low) (high := low + many - 1) (hs := rs.map fun r => (r.1, r.2.2)) (by rw [List.length_map]; walk_at "z") (fun r hr => by
        obtain ⟨r', h1, rfl⟩ := List.mem_map.mp hr
        exact (hrs r' h1).head hG)
      rw [List.map_map, List.map_map] at hk
      walk_at "r"
      refine ⟨2, _, by rw [hCG]; exact hk, by rw [hCk]; decide, ?_⟩
      rintro d ⟨ns, p1, p2, rfl⟩
      rw [hpl ns (by rw [← hos]; exact p1) p2]
      walk_at "r"
      have hfit : fit 2 (.list (List.zipWith (fun b e => D.tuple [S "range", .int b, .int e]) bs ends)) = true := fit_list fun d hd => by
        obtain ⟨i, hi, he⟩ := List.getElem_of_mem hd
        rw [List.getElem_zipWith] at he
        rw [← he]
        exact fit_three (by decide +kernel) fit_int fit_int
      exact ⟨_, cmp_eq (n := 2) (m := 2) hfit hfit, _, rfl, by rw [eqD_refl hfit]⟩
end
end

section
def SG (G : GC) (sc : Addr) (ns : List Int) : Prop := ∃ vs : List Value, G.h₀.IsList sc vs.toArray ∧ IntsAre vs ns ∧ ns.length ≤ 63
section
variable {C : Cx} {σ : AS} {x : Str} {sc : Addr} {ns : List Int} {np p1 pos p : Pos} {k : Nat} {scope : Scope}
theorem IntsAre_len : ∀ {vs : List Value} {ns : List Int}, IntsAre vs ns → vs.length = ns.length
  | _, _, .nil => rfl
  | _, _, .cons _ _ r => by rw [List.length_cons, List.length_cons, IntsAre_len r]
theorem ev_lenO {a : Expr} {Φ : D → AS → Prop} (K : CxOk C) (g : SG C.G sc ns) (E : EnvIs C scope) (hx : scope.names.lookup (Str.ofString "len") = some .globalImplicit)
    (H : EvD C a σ fun d σ₁ => d = .obj sc ∧ Φ (.int ns.length) σ₁)
    (hs : starEach [a] C.env = (false, eval a C.env) :: starEach [] C.env := by with_unfolding_all rfl) : EvD C (.Call (.Name (Str.ofString "len") p) [a] [] pos) σ Φ := by
  refine ev_bcall (id := "len") K E hx (by simp) (by decide +kernel) (es_cons K ?_ hs) hs rfl
  intro s Q EE S q
  refine H s Q EE S fun d v σ₁ s₁ h => q d v σ₁ s₁ (es_nil ?_)
  obtain ⟨rfl, h⟩ := h
  intro s Q E vs S r q
  have z9 := r.cons_inv; clear r; obtain ⟨_, _, rfl, r, r'⟩ := z9
  cases r'
  cases r
  obtain ⟨vs, ⟨o, e, c, m⟩, hi, hl⟩ := g
  have hlen := IntsAre_len hi
  have l : s.heap.IsList sc vs.toArray := ⟨o, S.wd.base _ _ e, c, m⟩
  refine PyProof.Rows.len_list l (by rw [List.size_toArray]; walk_at "z") ?_
  rw [List.size_toArray, hlen]
  exact q _ _ _ _ h (S.tok K _) (.int _ _) (.tok _)
theorem ev_sc0 {Φ : D → AS → Prop} (K : CxOk C) (g : SG C.G sc ns) (hn : 0 < ns.length) (hx : σ.loc.lookup x = some (.obj sc)) (H : ∀ a, Φ (.int a) σ) (hd : (x == ("__debug__" : Str)) = false := by decide) : EvD C (.Subscript (.Name x np) (.Constant (.int 0) k p1) pos) σ Φ := by
  intro s Q E S q
  refine Subscript_ (ev_name (Φ := fun d σ₁ => d = .obj sc ∧ σ₁ = σ) K hx ⟨rfl, rfl⟩ hd s _ _ S fun v d σ₁ s₁ hh S₁ r₁ t₁ => ?_)
  obtain ⟨rfl, rfl⟩ := hh
  obtain rfl := r₁.obj_inv
  refine wpAny_Constant_int ?_
  obtain ⟨vs, ⟨o, e, c, m⟩, hi, hl⟩ := g
  cases hi with
  | nil => simp at hn
  | cons a t r =>
    have l : s₁.heap.IsList sc (Value.int a t :: _).toArray := ⟨o, S₁.wd.base _ _ e, c, m⟩
    have S₂ := S₁.tok K (s₁.toks + 1)
    exact tail_any (s := { s₁ with toks := s₁.toks + 1 }) l.typeIs slot_list_getitem.lookup (wpAny_getItem_list l (by decide) (by decide) (x := .int a t) rfl (q _ _ _ _ (H a) S₂ (.int _ _) (t₁.trans (.tok _)))) rfl
end
theorem fn_jar {G : GC} (hG : GOk G) {sc : Addr} {ns : List Int} (g : SG G sc ns) : Fn G (Str.ofString "_law_jar") 1 [.obj sc] (fun d => ∃ a b : Int, d = .list [.int a, .int b] ∧ 0 ≤ b ∧ b < 2147483647) := by
  have hf : (fnTable[8]? : Option _) = some (Str.ofString "_law_jar", _, _, _) := rfl
  refine fn_body (xs := [Str.ofString "script"]) hG (List.mem_of_getElem? hf) (fun pm code doc vs h => ?_) rfl (by decide) (by decide) (fun n => ?_) rfl rfl rfl (fun C hCG hCk K E => ?_)
  · obtain ⟨v, rfl⟩ := vlen1 h; rfl
  · exact List.nodup_nil
  · clear hf
    have g' : SG C.G sc ns := by rw [hCG]; exact g
    refine xs_cons K (TfD.mono (Ψ := fun f σ₁ => f = .next ∧ ∃ told : Int, σ₁ = ⟨[(Str.ofString "told", .int told), (Str.ofString "script", .obj sc)], []⟩) ?_ ?_)
    · refine x_assign K (by exact E.st (by decide)) ?_
      refine ev_if ?_
      refine bv_cmp K ?_
      refine ev_lenO K g' E.toEnvIs (by with_unfolding_all rfl) ?_
      walk_at "r"
      refine ⟨rfl, ?_⟩
      walk_at "r"
      refine ⟨fun h => ?_, fun h => ?_⟩
      · refine ev_sc0 K g' (by have := of_decide_eq_true h; walk_at "z") rfl fun told => ?_
        exact ⟨rfl, told, rfl⟩
      · refine ev_int K ?_
        exact ⟨rfl, 0, rfl⟩
    · rintro f σ ⟨rfl, told, rfl⟩
      try dsimp only
      walk_at "r"
      refine ⟨_, rfl, ?_⟩
      walk_at "r"
      refine ⟨_, _, rfl, rfl, ?_⟩
      walk_at "r"
      refine ⟨_, bin_pow1018, ?_⟩
      have hfin : ∀ w : Int, ∃ d, FlowD.ret (.list [.int w, .int (((max told (-1 - told)).fmod 2147483629 + 17) * 48271 |>.fmod 2147483647)]) = FlowD.ret d ∧ ∃ a b : Int, d = .list [.int a, .int b] ∧ 0 ≤ b ∧ b < 2147483647 := fun w =>
        ⟨_, rfl, _, _, rfl, Int.fmod_nonneg_of_pos _ (by walk_at "z"), Int.fmod_lt_of_pos _ (by walk_at "z")⟩
      have m1 := Int.fmod_nonneg_of_pos (max told (-1 - told)) (b := 2147483629) (by walk_at "z")
      have m2 := Int.fmod_lt_of_pos (max told (-1 - told)) (b := 2147483629) (by walk_at "z")
      walk_at "r"
      refine ⟨fun h => ?_, fun h => ?_⟩
      all_goals
        walk_at "r"
        refine ⟨_, bin_mod (by walk_at "z"), ?_⟩
        walk_at "r"
        refine ⟨_, bin_mul (by walk_at "z") (by walk_at "z"), ?_⟩
        walk_at "r"
        refine ⟨_, bin_mod (by walk_at "z"), ?_⟩
        walk_at "r"
        exact hfin _
/-- the body of the law, to its end -/
def EndD (C : Cx) (r : List Stmt) (σ : AS) : Prop :=
  ∀ s (Q : Flow → Shared → Prop) E, St C σ s → (∀ s', (∀ b o, C.G.h₀.get? b = some o → s'.heap.get? b = some o) → s'.gens = C.G.gens → s'.os = C.G.os → Q (.ret (.bool true)) s') → wpAny (Mo C) C.A (execs r C.env) Q E s
theorem end_cons {C : Cx} {a : Stmt} {r : List Stmt} {σ : AS} (H : XD C a σ fun f σ₁ => f = .next ∧ EndD C r σ₁) : EndD C (a :: r) σ := by
  intro s Q E S q
  refine wpAny_execs_cons (H s _ _ S fun f d σ₁ s₁ h S₁ fr t => ?_)
  obtain ⟨rfl, h⟩ := h
  cases fr
  exact h s₁ Q E S₁ q
theorem end_ret {C : Cx} {r : List Stmt} {σ : AS} (H : XsD C r σ fun f _ => f = .ret (.bool true)) : EndD C r σ := by
  intro s Q E S q
  refine H s Q E S fun f d σ₁ s₁ h S₁ fr t => ?_
  subst h
  cases fr with | ret rv =>
  cases rv
  exact q s₁ S₁.wd.base S₁.wd.gens S₁.wd.os
def withJ (G : GC) (j : Addr) : GC := { G with W := (· = j), J := JarOk j }
def cxJ (C : Cx) (j : Addr) : Cx := { C with G := withJ C.G j, X := fun b => C.X b ∨ b = j, O := fun b => C.O b ∨ b = j }
theorem withJ_ok {G : GC} (hG : GOk G) {j : Addr} (hj : G.h₀.get? j = none) : GOk (withJ G j) where
  g := hG.g
  b := hG.b
  nolimit := hG.nolimit
  fn e he := by
    obtain ⟨a, FI⟩ := hG.fn e he
    exact ⟨a, FI.mg, FI.fn⟩
  miss := hG.miss
  builtins := hG.builtins
  jk h h' J k := by
    obtain ⟨a, t, b, u, ⟨o, e, r⟩, h1, h2⟩ := J
    exact ⟨a, t, b, u, ⟨o, k j o rfl e, r⟩, h1, h2⟩
  w0 b e := by rw [show b = j from e]; exact hj
theorem end_switch {C : Cx} {r : List Stmt} {σ : AS} {a b : Int} (K : CxOk C) (hnc : C.env.cells = []) (hX : ∀ b o, C.G.h₀.get? b = some o → C.X b) (hW : ∀ b, ¬ C.G.W b) (hx : σ.loc.lookup (Str.ofString "jar") = some (.list [.int a, .int b])) (h1 : 0 ≤ b) (h2 : b < 2147483647)
    (H : ∀ j, CxOk (cxJ C j) → EndD (cxJ C j) r ⟨[(Str.ofString "jar", .obj j)], []⟩) : EndD C r σ := by
  intro s Q E S q
  obtain ⟨v, hv, rv⟩ := S.loc _ _ hx
  cases rv with | @list j vs _ nX l rs =>
  have l' : ∃ t u, s.heap.IsList j #[.int a t, .int b u] := by
    have z9 := rs.cons_inv; clear rs; obtain ⟨_, _, rfl, r1, rs⟩ := z9
    have z9 := rs.cons_inv; clear rs; obtain ⟨_, _, rfl, r2, rs⟩ := z9
    cases rs
    obtain ⟨t, rfl⟩ := r1.int_inv
    obtain ⟨u, rfl⟩ := r2.int_inv
    exact ⟨t, u, l⟩
  obtain ⟨t, u, l'⟩ := l'
  have nXj : ¬ C.X j := fun z => nX (.inl z)
  have hj0 : C.G.h₀.get? j = none := by
    cases e : C.G.h₀.get? j with
    | none => rfl
    | some o => exact (nXj (hX _ _ e)).elim
  have K' : CxOk (cxJ C j) := {
    G := withJ_ok K.G hj0
    kind := K.kind
    glob := K.glob
    blt := K.blt
    LO := .inl K.LO
    OX := fun b z => z.imp (K.OX b) id
    WO := fun b z => .inr z
    O0 := fun b z => z.elim (K.O0 b) fun e => by rw [show b = j from e]; exact hj0
    apart1 := K.apart1
    apart2 := K.apart2
    notW := fun b z => ⟨fun e => nXj (by rw [← show b = j from z, e]; exact K.OX _ K.LO), fun n e => by rw [show (cxJ C j).env.cells = [] from hnc] at e; cases e⟩
    handled := K.handled
    room := K.room
    units := K.units
    cellsX := fun n c z => .inl (K.cellsX n c z) }
  refine H j K' s Q E ?_ q
  exact {
    wd := ⟨S.wd.base, S.wd.gens, S.wd.os, ⟨a, t, b, u, l', h1, h2⟩⟩
    xb := fun b z => z.elim (S.xb b) fun e => by obtain ⟨o, e', _⟩ := l'; exact ⟨o, by rw [show b = j from e]; exact e'⟩
    ns := S.ns
    cells := S.cells
    loc := fun y d z => by
      rw [List.lookup_cons] at z
      cases hy : y == Str.ofString "jar" with
      | true => rw [hy] at z; cases z; rw [eq_of_beq hy]; exact ⟨_, hv, .obj j⟩
      | false => rw [hy] at z; simp at z
    mu := fun p o z => by simp at z
    nd := by simp
    m0 := fun p o z => by simp at z }
end

section
theorem law_end {C : Cx} (K : CxOk C) {sc : Addr} {ns : List Int} (g : SG C.G sc ns) {params : Arguments} {body : List Stmt} {scope : Scope} (hf : fnTable[19]? = some (Str.ofString "law", params, body, scope)) (E : FnEnv C scope) (hk : C.k = 10) (hnc : C.env.cells = [])
    (hX : ∀ b o, C.G.h₀.get? b = some o → C.X b) (hW : ∀ b, ¬ C.G.W b) : EndD C body ⟨[(Str.ofString "script", .obj sc)], []⟩ := by
  have hf' : fnTable[19]? = some (Str.ofString "law", _, _, _) := rfl
  rw [hf'] at hf
  cases hf
  clear hf'
  refine end_cons (x_if (bv_cmp K ?_))
  walk_at "r"
  have hp := fn_ranges K.G (low := 0) (high := 9) (hs := [(.tuple [S "range", t8, .int 2, .int 4], some (2, 4))]) (by decide) (fun r hr => by
    simp only [List.mem_singleton] at hr
    subst hr
    exact ⟨"range", _, rfl, by decide +kernel, (by decide +kernel : _ = true), fun _ h => by cases h; exact fn_bounds K.G (by decide +kernel) (by decide +kernel)⟩)
  refine ⟨2, _, hp, by rw [hk]; decide, ?_⟩
  rintro d ⟨ns', p1, p2, rfl⟩
  have hc := plain_cuts (os := [some (2, 4)]) (low := 0) (n := 10) (by decide) (fun a b h => by simp at h; walk_at "z") p1 p2
  rw [show ((0 : Int) + ((10 : Nat) : Int) - 1) = 9 from rfl, show begs [some (2, 4)] 0 10 = [0, 2, 5] by decide +kernel] at hc
  rw [hc]
  walk_at "r"
  have hfit : fit 2 (.list (rangesD ([0, 2, 5] ++ [0 + ((10 : Nat) : Int)]))) = true := by decide +kernel
  refine ⟨_, cmp_ne (n := 2) (m := 2) hfit (by decide +kernel), ?_⟩
  refine ⟨fun h => absurd h ?_, fun _ => ?_⟩
  · rw [Bool.not_eq_true, Bool.not_eq_false']
    exact eqD_refl (n := 2) hfit
  refine xs_nil ?_
  refine ⟨rfl, end_cons ?_⟩
  refine x_assign K (by exact E.st (by decide)) ?_
  walk_at "r"
  refine ⟨1, _, fn_jar K.G g, by rw [hk]; decide, ?_⟩
  rintro d ⟨a, b, rfl, h1, h2⟩
  refine ⟨rfl, end_switch K hnc hX hW rfl h1 h2 fun j K' => end_ret ?_⟩
  have E' : EnvIs (cxJ C j) _ := ⟨E.sc, E.cells⟩
  have gj : JG (cxJ C j).G j := ⟨rfl, rfl⟩
  have hk' : (cxJ C j).k = 10 := hk
  refine xs_cons K' (x_ret ?_)
  refine ev_and3 ?_
  walk_at "r"
  refine ⟨4, _, fn_ranges_right K'.G gj, by rw [hk']; decide, ?_⟩
  rintro d rfl
  refine ⟨true, rfl, fun _ => ?_, fun h => by cases h⟩
  refine ev_and ?_
  walk_at "r"
  refine ⟨5, _, fn_rows K'.G gj, by rw [hk']; decide, ?_⟩
  rintro d rfl
  refine ⟨true, rfl, fun _ => ?_, fun h => by cases h⟩
  walk_at "r"
  refine ⟨5, _, fn_opened_right K'.G gj, by rw [hk']; decide, ?_⟩
  rintro d rfl
  rfl
end

section
abbrev bnames : List Str := [Str.ofString "len", Str.ofString "max", Str.ofString "range", Str.ofString "sorted", Str.ofString "list", Str.ofString "tuple", Str.ofString "zip"]
def gc0 (prog : Program) (w : World) (s₁ : Shared) (mg mb : Str → Option Value) : GC :=
  { prog := prog, w := w, h₀ := s₁.heap, W := fun _ => False, J := fun _ => True, gens := s₁.gens, os := s₁.os, mg := mg, mb := mb }
theorem gok_of_top {prog p : Program} {w : World} {s₁ : Shared} {mg mb : Str → Option Value} {loose : List Str} {mean : ExcName → Option Value} (T : Top p loose mean mg mb s₁.heap)
    (hrec : fnTable = (recsOf p).map fun d => (d.name, d.params, d.body, d.scope)) 
    (hmiss : ∀ x ∈ bnames, x ∉ startupNames ∧ x ∉ loose ∧ x ∉ (recsOf p).map (·.name) ∧ x ∉ (litsOf p).map (·.1) ∧ x ∉ (clssOf p loose).map (·.name)) : GOk (gc0 prog w s₁ mg mb) where
  g := T.g
  b := T.b
  nolimit := T.nolimit
  fn e he := by
    rw [hrec] at he
    obtain ⟨d, hd, rfl⟩ := List.mem_map.mp he
    obtain ⟨a, o, pm, code, doc, h1, h2, h3, h4⟩ := T.fn d hd
    exact ⟨a, h1, o, pm, code, doc, h2, h3, h4⟩
  miss x hx := by
    obtain ⟨h1, h2, h3, h4, h5⟩ := hmiss x hx
    exact T.free x h1 h2 h3 h4 h5
  builtins x hx := T.builtins x (by
    simp only [List.mem_cons, List.not_mem_nil, or_false] at hx
    rcases hx with rfl | rfl | rfl | rfl | rfl | rfl | rfl <;> decide +kernel)
  jk _ _ _ _ := trivial
  w0 _ h := h.elim
theorem law_run {prog : Program} {w : World} {s₁ : Shared} {h₁ : Heap} {mg mb m : Str → Option Value} {fa : Addr} {kv : Value} {sc : Addr} {vs : List Value} {ns : List Int} {name : Str} {params : Arguments} {body : List Stmt} {scope : Scope}
    (hG : GOk (gc0 prog w s₁ mg mb)) (hf : fnTable[19]? = some (Str.ofString "law", params, body, scope)) (F : Fr s₁.heap s₁.heap.objs.size h₁ m) (hm : m (Str.ofString "script") = some (.ref sc)) (hL : s₁.heap.IsList sc vs.toArray) (hI : IntsAre vs ns) (hlen : ns.length ≤ 63)
    {Q : Flow → Shared → Prop} {EE : Value → Shared → Prop} {tk : Nat} 
    (q : ∀ s', (∀ b o, s₁.heap.get? b = some o → s'.heap.get? b = some o) → s'.gens = s₁.gens → s'.os = s₁.os → Q (.ret (.bool true)) s') :
    wpAny (model prog w) (callerA.deeper (envOf name scope s₁.heap.objs.size fa kv)) (execs body (envOf name scope s₁.heap.objs.size fa kv)) Q EE { s₁ with heap := h₁, toks := tk } := by
  have hscope : scope.kind = .function ∧ (∀ z ∈ scope.names, z.2 ≠ .cell) ∧ scope.names.lookup (Str.ofString "script") = some .local := by
    have hf' : fnTable[19]? = some (Str.ofString "law", _, _, _) := rfl
    rw [hf'] at hf
    cases hf
    exact ⟨rfl, by decide, by decide⟩
  obtain ⟨hs1, hs2, hs3⟩ := hscope
  let C : Cx := { G := gc0 prog w s₁ mg mb, env := envOf name scope s₁.heap.objs.size fa kv, A := callerA.deeper (envOf name scope s₁.heap.objs.size fa kv), X := fun b => b = s₁.heap.objs.size ∨ ∃ o, s₁.heap.get? b = some o, O := fun b => b = s₁.heap.objs.size, k := 10 }
  have hL0 : s₁.heap.get? s₁.heap.objs.size = none := Heap.get?_none_of_le (Nat.le_refl _)
  have K : CxOk C := {
    G := hG
    kind := hs1
    glob := rfl
    blt := rfl
    LO := rfl
    OX := fun b z => .inl z
    WO := fun b z => z.elim
    O0 := fun b z => by rw [show b = _ from z]; exact hL0
    apart1 := fun n c z => by cases z
    apart2 := fun n n' c z => by cases z
    notW := fun b z => z.elim
    handled := rfl
    room := by show (callerA.depth + 1) + 10 < recursionLimit; decide
    units := by show (callerA.units + 3) + 200 + 8 * 10 < cLine; decide
    cellsX := fun n c z => by cases z }
  have E : FnEnv C scope := { sc := rfl, cells := fun x z => (hs2 _ (mem_of_lookup z) rfl).elim, cellsO := fun n c z => by cases z }
  refine law_end K (sc := sc) (ns := ns) ⟨vs, hL, hI, hlen⟩ hf E rfl rfl (fun b o e => .inr ⟨o, e⟩) (fun b z => z) _ Q EE ?_ q
  exact {
    wd := ⟨F.keep, rfl, rfl, trivial⟩
    xb := fun b z => by
      rcases z with z | ⟨o, e⟩
      · obtain ⟨o, _, _, e, _⟩ := F.ns; exact ⟨o, by rw [z]; exact e⟩
      · exact ⟨o, F.keep b o e⟩
    ns := ⟨_, F.ns⟩
    cells := fun n c z => by cases z
    loc := fun y d z => by
      rw [List.lookup_cons] at z
      cases hy : y == Str.ofString "script" with
      | true =>
        rw [hy] at z; cases z; rw [eq_of_beq hy]
        refine ⟨_, ?_, .obj sc⟩
        unfold Holds slotOf
        rw [show C.env.kindOf (Str.ofString "script") = some .local from hs3]
        exact ⟨m, F.ns, hm⟩
      | false => rw [hy] at z; simp at z
    mu := fun p o z => by simp at z
    nd := by simp
    m0 := fun p o z => by simp at z }
end

end Mine

set_option maxHeartbeats 8000000 in
theorem PySem.Challenge.cw_xm0578_01_holds : PySem.Challenge.rw_xm0578_01.Holds := by
  w_on; o_law; k_head
  (case hw => w_witness2)
  w_strict (
    k_go0
    (all_goals try k_fold)
    refine Mine.law_run (Mine.gok_of_top ‹Top _ _ _ _ _ _› ?_ ?_) rfl ‹Fr _ _ _ _› rfl ‹Heap.IsList _ _ _› ‹IntsAre _ _› ?_ ?_
    · rfl
    · decide +kernel
    · omega
    · intro s' hk hg' ho
      refine ⟨.inl ⟨.bool true, .bool true, [], rfl, fun cls => rfl, .bool true, ?_, fun _ => ⟨List.nodup_nil, fun _ h => by cases h⟩⟩, hk, ho, hg'.trans ‹_ = #[]›⟩
      with_unfolding_all rfl)
