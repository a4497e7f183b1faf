import PyProof.Rows.All
import Wide.All
import OpenK.AllK
import Wide.FinOn
import PySem.Challenge.RW_sq0030_02
open PySem PySem.W PyProof.Rows PySem.Calls PySem.SeqAt
set_option Elab.async false
set_option maxRecDepth 100000
set_option maxHeartbeats 8000000
set_option linter.all false
namespace Mine
/-! values seen from afar: frozen lists and tuples are trees, changing objects are numbers -/
inductive V where
  | none
  | bool (b : Bool)
  | int (i : Int)
  | str (s : Str)
  | raw (v : Value)
  | tup (xs : List V)
  | lst (xs : List V)
  | obj (n : Nat)
  | sub (n i : Nat)
  | rng (lo hi : Int)

structure Tab where
  links : Int → Option Int
  nl : Nat
  numbers : Int → Option (List Int)
  nn : Nat
  states : Int
  excs : Int → Option (List Int)
  ne : Nat

inductive SO where
  | list (xs : List V)
  | tab (T : Tab)

abbrev Objs := Nat → Option SO
def upd (o : Objs) (n : Nat) (x : SO) : Objs := fun m => if m = n then some x else o m

structure Gh where
  ρ : Nat → List Addr
  Z : Addr → Option Obj
  next : Nat

def SeqO (T : String) (x : Obj) (vs : List Value) : Prop := x.cls = .type T ∧ ∃ n, x.data = .seq vs.toArray n
/-- a tuple as it is made -/
abbrev tobj (vs : List Value) : Obj := { cls := .type "tuple", data := .seq vs.toArray }

mutual
def VR (g : Gh) : V → Value → Prop
  | .none, v => v = .none
  | .bool b, v => v = .bool b
  | .int i, v => ∃ t, v = .int i t
  | .str s, v => ∃ t, v = .str s t
  | .raw r, v => v = r
  | .tup xs, v => ∃ a vs x, v = .ref a ∧ g.Z a = some x ∧ x = tobj vs ∧ VRs g xs vs
  | .lst xs, v => ∃ a vs x, v = .ref a ∧ g.Z a = some x ∧ SeqO "list" x vs ∧ VRs g xs vs
  | .obj n, v => n < g.next ∧ ∃ a, v = .ref a ∧ (g.ρ n)[0]? = some a
  | .sub n i, v => n < g.next ∧ ∃ a, v = .ref a ∧ (g.ρ n)[i]? = some a
  | .rng lo hi, v => ∃ a t u x, v = .ref a ∧ g.Z a = some { cls := .type "range", data := .fields #[.int lo t, .int hi u, .int 1 x] }
def VRs (g : Gh) : List V → List Value → Prop
  | [], vs => vs = []
  | x :: xs, vs => ∃ v r, vs = v :: r ∧ VR g x v ∧ VRs g xs r
end

structure Bs where
  prog : Program
  w : World
  h : Heap
  os : OsState
  C : Addr
  K : Frag
  mg : Str → Option Value
  mb : Str → Option Value
  KIn : K.In h
  gns : h.Ns mainGlobals mg
  bns : h.Ns builtinsNs mb
  nolim : h.NoLimit
  boot : ∀ x : Str, x ≠ "__name__" → mb x = bootBuiltins x

def optR (g : Gh) : Option V → Option Value → Prop
  | none, r => r = none
  | some v, r => ∃ v', r = some v' ∧ VR g v v'

def DictIn (B : Bs) (g : Gh) (h : Heap) (d : Addr) (f : Int → Option V) (n : Nat) : Prop :=
  (d == sysModules) = false ∧ ∃ kvs, h.DictOf (intKind B.prog B.w) d kvs ∧ kvs.length ≤ n ∧ ∀ k, optR g (f k) (valueAt kvs k)

abbrev ent (B : Bs) (name : Str) (t : Tok) (v : Value) : DictEntry := ⟨PyData.keyHash B.w.params name, .str name t, v⟩
abbrev nsO (B : Bs) (l n e : Addr) (s : Int) (t1 t2 t3 t4 t5 : Tok) (ep : Nat) : Obj :=
  dictOf [ent B "links" t1 (.ref l), ent B "numbers" t2 (.ref n), ent B "states" t3 (.int s t4), ent B "exceptions" t5 (.ref e)] ep

def tupI (xs : List Int) : V := .tup (xs.map .int)

/-- a list as the program makes it -/
abbrev lobj (vs : List Value) (n : Nat) : Obj := { cls := .type "list", data := .seq vs.toArray n }

inductive TabIn (B : Bs) (g : Gh) (h : Heap) (T : Tab) (fp : List Addr) : Prop
  | mk (x dx l n e : Addr) (t1 t2 t3 t4 t5 : Tok) (ep : Nat) (h1 : fp = [x, dx, l, n, e]) (h2 : fp.Nodup) (h3 : h.get? x = some (instObj B.C dx)) (h4 : h.get? dx = some (nsO B l n e T.states t1 t2 t3 t4 t5 ep))
    (h5 : DictIn B g h l (fun k => (T.links k).map .int) T.nl) (h6 : DictIn B g h n (fun k => (T.numbers k).map tupI) T.nn) (h7 : DictIn B g h e (fun k => (T.excs k).map tupI) T.ne)
def OR (B : Bs) (g : Gh) (h : Heap) : SO → List Addr → Prop
  | .list xs, fp => ∃ a vs n, fp = [a] ∧ h.get? a = some (lobj vs n) ∧ VRs g xs vs
  | .tab T, fp => TabIn B g h T fp

structure HR (B : Bs) (g : Gh) (o : Objs) (s : Shared) : Prop where
  zin : ∀ a x, g.Z a = some x → s.heap.get? a = some x
  base : ∀ a x, B.h.get? a = some x → g.Z a = some x
  live : ∀ n x, o n = some x → n < g.next ∧ OR B g s.heap x (g.ρ n)
  sep : ∀ n m x y, o n = some x → o m = some y → n ≠ m → ∀ a ∈ g.ρ n, a ∉ g.ρ m
  apart : ∀ n x, o n = some x → ∀ a ∈ g.ρ n, g.Z a = none
  gens : s.gens = #[]
  os : s.os = B.os

/-- an address that a live object owns -/
def Owned (g : Gh) (o : Objs) (a : Addr) : Prop := ∃ n x, o n = some x ∧ a ∈ g.ρ n

structure Ext (g : Gh) (o : Objs) (h : Heap) (g' : Gh) (o' : Objs) (h' : Heap) : Prop where
  next : g.next ≤ g'.next
  rho : ∀ n, n < g.next → g'.ρ n = g.ρ n
  Z : ∀ a x, g.Z a = some x → g'.Z a = some x
  newZ : ∀ a x, g'.Z a = some x → g.Z a = some x ∨ Owned g o a ∨ h.get? a = none
  keep : ∀ a x, ¬ Owned g o a → h.get? a = some x → h'.get? a = some x
  own : ∀ a, Owned g' o' a → Owned g o a ∨ h.get? a = none

theorem Ext.refl (g : Gh) (o : Objs) (h : Heap) : Ext g o h g o h where
  next := Nat.le_refl _
  rho := fun _ _ => rfl
  Z := fun _ _ e => e
  newZ := fun _ _ e => .inl e
  keep := fun _ _ _ e => e
  own := fun _ e => .inl e

theorem Ext.old {g g1 : Gh} {o o1 : Objs} {h h1 : Heap} (a : Ext g o h g1 o1 h1) {x : Addr} (q : h1.get? x = none) : Owned g o x ∨ h.get? x = none := by
  by_cases hx : Owned g o x
  · exact .inl hx
  · cases e : h.get? x with
    | none => exact .inr rfl
    | some y => rw [a.keep _ _ hx e] at q; cases q

theorem Ext.trans {g g1 g2 : Gh} {o o1 o2 : Objs} {h h1 h2 : Heap} (a : Ext g o h g1 o1 h1) (b : Ext g1 o1 h1 g2 o2 h2) : Ext g o h g2 o2 h2 where
  next := Nat.le_trans a.next b.next
  rho := fun n hn => (b.rho n (Nat.lt_of_lt_of_le hn a.next)).trans (a.rho n hn)
  Z := fun x y e => b.Z _ _ (a.Z _ _ e)
  newZ := fun x y e => by
    rcases b.newZ _ _ e with e | e | e
    · exact a.newZ _ _ e
    · exact .inr (a.own _ e)
    · exact .inr (a.old e)
  keep := fun x y hx e => b.keep _ _ (fun q => by
    rcases a.own _ q with q | q
    · exact hx q
    · rw [e] at q; cases q) (a.keep _ _ hx e)
  own := fun x q => by
    rcases b.own _ q with q | q
    · exact a.own _ q
    · exact a.old q

/-- what of the ghost a value's reading asks -/
structure Gle (g g' : Gh) : Prop where
  next : g.next ≤ g'.next
  rho : ∀ n, n < g.next → g'.ρ n = g.ρ n
  Z : ∀ a x, g.Z a = some x → g'.Z a = some x
theorem Ext.gle {g g' : Gh} {o o' : Objs} {h h' : Heap} (e : Ext g o h g' o' h') : Gle g g' := ⟨e.next, e.rho, e.Z⟩

mutual
theorem VR.mono {g g' : Gh} (G : Gle g g') : ∀ (x : V) (v : Value), VR g x v → VR g' x v
  | .none, v, h => by simp only [VR] at h ⊢; exact h
  | .bool b, v, h => by simp only [VR] at h ⊢; exact h
  | .int i, v, h => by simp only [VR] at h ⊢; exact h
  | .str i, v, h => by simp only [VR] at h ⊢; exact h
  | .raw i, v, h => by simp only [VR] at h ⊢; exact h
  | .tup xs, v, h => by
    simp only [VR] at h ⊢
    obtain ⟨a, vs, x, e, hz, hx, hv⟩ := h
    exact ⟨a, vs, x, e, G.Z _ _ hz, hx, VRs.mono G xs vs hv⟩
  | .lst xs, v, h => by
    simp only [VR] at h ⊢
    obtain ⟨a, vs, x, e, hz, hx, hv⟩ := h
    exact ⟨a, vs, x, e, G.Z _ _ hz, hx, VRs.mono G xs vs hv⟩
  | .obj n, v, h => by
    simp only [VR] at h ⊢
    obtain ⟨hn, a, e, hr⟩ := h
    exact ⟨Nat.lt_of_lt_of_le hn G.next, a, e, by rw [G.rho n hn]; exact hr⟩
  | .sub n i, v, h => by
    simp only [VR] at h ⊢
    obtain ⟨hn, a, e, hr⟩ := h
    exact ⟨Nat.lt_of_lt_of_le hn G.next, a, e, by rw [G.rho n hn]; exact hr⟩
  | .rng lo hi, v, h => by
    simp only [VR] at h ⊢
    obtain ⟨a, t, u, x, e, hz⟩ := h
    exact ⟨a, t, u, x, e, G.Z _ _ hz⟩
theorem VRs.mono {g g' : Gh} (G : Gle g g') : ∀ (xs : List V) (vs : List Value), VRs g xs vs → VRs g' xs vs
  | [], vs, h => by simp only [VRs] at h ⊢; exact h
  | x :: xs, vs, h => by
    simp only [VRs] at h ⊢
    obtain ⟨v, r, e, h1, h2⟩ := h
    exact ⟨v, r, e, VR.mono G x v h1, VRs.mono G xs r h2⟩
end

theorem VRs.length {g : Gh} : ∀ {xs : List V} {vs : List Value}, VRs g xs vs → vs.length = xs.length
  | [], vs, h => by simp only [VRs] at h; subst h; rfl
  | x :: xs, vs, h => by
    simp only [VRs] at h
    obtain ⟨v, r, rfl, _, h2⟩ := h
    simp [VRs.length h2]

theorem VRs.get {g : Gh} : ∀ {xs : List V} {vs : List Value}, VRs g xs vs → ∀ (i : Nat) (x : V), xs[i]? = some x → ∃ v, vs[i]? = some v ∧ VR g x v
  | [], vs, h, i, x, e => by simp at e
  | y :: xs, vs, h, i, x, e => by
    simp only [VRs] at h
    obtain ⟨v, r, rfl, h1, h2⟩ := h
    cases i with
    | zero => simp at e; subst e; exact ⟨v, by simp, h1⟩
    | succ i => simp at e; obtain ⟨v', e', h'⟩ := VRs.get h2 i x e; exact ⟨v', by simpa using e', h'⟩

theorem VRs.append {g : Gh} : ∀ {xs ys : List V} {vs us : List Value}, VRs g xs vs → VRs g ys us → VRs g (xs ++ ys) (vs ++ us)
  | [], ys, vs, us, h, k => by simp only [VRs] at h; subst h; simpa using k
  | x :: xs, ys, vs, us, h, k => by
    simp only [VRs] at h
    obtain ⟨v, r, rfl, h1, h2⟩ := h
    simp only [List.cons_append, VRs]
    exact ⟨v, r ++ us, rfl, h1, VRs.append h2 k⟩

theorem VRs.nil {g : Gh} : VRs g [] [] := by simp [VRs]
theorem VRs.cons {g : Gh} {x : V} {xs : List V} {v : Value} {vs : List Value} (h : VR g x v) (k : VRs g xs vs) : VRs g (x :: xs) (v :: vs) := by
  simp only [VRs]; exact ⟨v, vs, rfl, h, k⟩
theorem VRs.one {g : Gh} {x : V} {v : Value} (h : VR g x v) : VRs g [x] [v] := .cons h .nil
theorem VRs.set {g : Gh} : ∀ {xs : List V} {vs : List Value} {x : V} {v : Value} (n : Nat), VRs g xs vs → VR g x v → VRs g (xs.set n x) (vs.set n v)
  | [], vs, _, _, n, h, _ => by simp only [VRs] at h; subst h; simp [VRs]
  | y :: xs, vs, x, v, 0, h, k => by
    simp only [VRs] at h
    obtain ⟨v, r, rfl, h1, h2⟩ := h
    simpa using VRs.cons k h2
  | y :: xs, vs, x, v, n + 1, h, k => by
    simp only [VRs] at h
    obtain ⟨v, r, rfl, h1, h2⟩ := h
    simpa using VRs.cons h1 (VRs.set n h2 k)
theorem VRs.reverse {g : Gh} : ∀ {xs : List V} {vs : List Value}, VRs g xs vs → VRs g xs.reverse vs.reverse
  | [], vs, h => by simp only [VRs] at h; subst h; simp [VRs]
  | x :: xs, vs, h => by
    simp only [VRs] at h
    obtain ⟨v, r, rfl, h1, h2⟩ := h
    simpa using VRs.append (VRs.reverse h2) (VRs.one h1)

/-! the frame -/
abbrev Loc := List (Str × Option V)

/-- one name of the frame -/
def VarAt (g : Gh) (env : Env) (h : Heap) (m : Str → Option Value) (x : Str) (ov : Option V) : Prop :=
  (x == ("__debug__" : Str)) = false ∧ (x == ("__classdict__" : Str)) = false ∧
  ((env.kindOf x = some .local ∧ ∀ v, ov = some v → ∃ v', m x = some v' ∧ VR g v v') ∨
   ((env.kindOf x = some .cell ∨ env.kindOf x = some .free) ∧ ∃ c w, env.cells.lookup x = some c ∧ h.IsCell c w ∧ ∀ v, ov = some v → ∃ v', w = some v' ∧ VR g v v'))

structure FR (g : Gh) (o : Objs) (env : Env) (loc : Loc) (h : Heap) : Prop where
  free : ¬ Owned g o env.locals
  noZ : g.Z env.locals = none
  ns : ∃ m, h.Ns env.locals m ∧ ∀ p ∈ loc, VarAt g env h m p.1 p.2
  cfree : ∀ p ∈ env.cells, ¬ Owned g o p.2 ∧ g.Z p.2 = none ∧ p.2 ≠ env.locals ∧ ∃ x, h.get? p.2 = some x

/-- what a global name hands on -/
def GlobOk (B : Bs) (x : Str) (v : V) : Prop :=
  (x == ("__debug__" : Str)) = false ∧ ∃ r, (∀ g, VR g v r) ∧ (nsIn B.K mainGlobals x = some (some r) ∨ (nsIn B.K mainGlobals x = some none ∧ bootBuiltins x = some r ∧ x ≠ "__name__"))

structure Glb where
  names : List (Str × V)
  sc : Scope
structure EnvOk (B : Bs) (G : Glb) (env : Env) : Prop where
  scope : env.scope = G.sc
  kind : env.scope.kind = .function
  globals : env.globals = mainGlobals
  builtins : env.builtins = builtinsNs
  globs : ∀ p ∈ G.names, env.kindOf p.1 = some .globalImplicit ∧ GlobOk B p.1 p.2

def AOk (d : Nat) (A : Around) : Prop := A.handled = none ∧ A.depth + 4 * d + 10 ≤ 1000 ∧ A.units + 20 * d + 100 ≤ 9900

theorem mem_of_look {x : Str} {c : Addr} : ∀ {l : List (Str × Addr)}, l.lookup x = some c → (x, c) ∈ l
  | [], h => by simp at h
  | (a, b) :: r, h => by
    rw [List.lookup_cons] at h
    split at h
    · rename_i hh; rw [beq_iff_eq.mp hh]; cases h; exact List.mem_cons_self
    · exact List.mem_cons_of_mem _ (mem_of_look h)

theorem FR.ext {g g' : Gh} {o o' : Objs} {env : Env} {loc : Loc} {h h' : Heap} (F : FR g o env loc h) (e : Ext g o h g' o' h') : FR g' o' env loc h' := by
  obtain ⟨m, hn, hv⟩ := F.ns
  have stay : ∀ a x, ¬ Owned g o a → g.Z a = none → h.get? a = some x → ¬ Owned g' o' a ∧ g'.Z a = none := by
    intro a x h1 h2 h3
    refine ⟨fun q => ?_, ?_⟩
    · rcases e.own _ q with q | q
      · exact h1 q
      · rw [h3] at q; cases q
    · cases hz : g'.Z a with
      | none => rfl
      | some y =>
        rcases e.newZ _ _ hz with q | q | q
        · rw [h2] at q; cases q
        · exact absurd q h1
        · rw [h3] at q; cases q
  obtain ⟨ob, es, ep, ho, r⟩ := id hn
  have S := stay _ _ F.free F.noZ ho
  refine ⟨S.1, S.2, ⟨m, ⟨ob, es, ep, e.keep _ _ F.free ho, r⟩, fun p hp => ?_⟩, fun p hp => ?_⟩
  · obtain ⟨d1, d2, k⟩ := hv p hp
    refine ⟨d1, d2, ?_⟩
    rcases k with ⟨k1, k2⟩ | ⟨k1, c, w, k2, k3, k4⟩
    · exact .inl ⟨k1, fun v hv => let ⟨v', a, b⟩ := k2 v hv; ⟨v', a, VR.mono e.gle _ _ b⟩⟩
    · refine .inr ⟨k1, c, w, k2, ?_, fun v hv => let ⟨v', a, b⟩ := k4 v hv; ⟨v', a, VR.mono e.gle _ _ b⟩⟩
      obtain ⟨ob, ho, hd⟩ := k3
      exact ⟨ob, e.keep _ _ (F.cfree _ (mem_of_look k2)).1 ho, hd⟩
  · obtain ⟨c1, c2, c3, x, c4⟩ := F.cfree p hp
    have S := stay _ _ c1 c2 c4
    exact ⟨S.1, S.2, c3, x, e.keep _ _ c1 c4⟩

/-! the end of a step -/
def Post (B : Bs) {α β : Type} (R : Gh → β → α → Prop) (Q : β → Objs → Prop) (g : Gh) (o : Objs) (h : Heap) (a : α) (s' : Shared) : Prop :=
  ∃ b g' o', HR B g' o' s' ∧ Ext g o h g' o' s'.heap ∧ R g' b a ∧ Q b o'

def RBool (_ : Gh) (b : Bool) (a : Bool) : Prop := a = b
def RUnit (_ : Gh) (_ : Unit) (_ : Unit) : Prop := True

abbrev noE : Value → Shared → Prop := fun _ _ => False

/-- a tree, from a state that is told -/
def wpT (B : Bs) {α β : Type} (R : Gh → β → α → Prop) (A : Around) (t : Sem α) (Q : β → Objs → Prop) (g : Gh) (o : Objs) (s : Shared) : Prop :=
  wpAny (model B.prog B.w) A t (Post B R Q g o s.heap) noE s

theorem wpT.up {B : Bs} {α β : Type} {R : Gh → β → α → Prop} {A : Around} {t : Sem α} {Q : β → Objs → Prop} {g g1 : Gh} {o o1 : Objs} {h : Heap} {s1 : Shared}
    (e : Ext g o h g1 o1 s1.heap) (k : wpT B R A t Q g1 o1 s1) : wpAny (model B.prog B.w) A t (Post B R Q g o h) noE s1 :=
  wpAny_mono k (fun _ _ p => let ⟨b, g2, o2, h2, e2, r2, q2⟩ := p; ⟨b, g2, o2, h2, e.trans e2, r2, q2⟩) fun _ _ e => e
/-- the next step told in any form -/
theorem wpT.cps {B : Bs} {α β : Type} {R : Gh → β → α → Prop} {A : Around} {t : Sem α} {Q : β → Objs → Prop} {P : α → Shared → Prop} {g : Gh} {o : Objs} {s : Shared}
    (h : wpT B R A t Q g o s) (hk : ∀ b a g1 o1 s1, HR B g1 o1 s1 → Ext g o s.heap g1 o1 s1.heap → R g1 b a → Q b o1 → P a s1) :
    wpAny (model B.prog B.w) A t P noE s :=
  wpAny_mono h (fun _ _ p => let ⟨_, _, _, h1, e1, r1, q1⟩ := p; hk _ _ _ _ _ h1 e1 r1 q1) fun _ _ e => e

theorem wpT.mono {B : Bs} {α β : Type} {R : Gh → β → α → Prop} {A : Around} {t : Sem α} {Q Q' : β → Objs → Prop} {g : Gh} {o : Objs} {s : Shared}
    (h : wpT B R A t Q g o s) (hq : ∀ b o, Q b o → Q' b o) : wpT B R A t Q' g o s :=
  wpAny_mono h (fun _ _ p => let ⟨b, g1, o1, h1, e1, r1, q1⟩ := p; ⟨b, g1, o1, h1, e1, r1, hq _ _ q1⟩) fun _ _ e => e

theorem wpT.done {B : Bs} {α β : Type} {R : Gh → β → α → Prop} {Q : β → Objs → Prop} {g : Gh} {o : Objs} {s : Shared} {b : β} {a : α}
    (H : HR B g o s) (r : R g b a) (q : Q b o) : Post B R Q g o s.heap a s := ⟨b, g, o, H, Ext.refl _ _ _, r, q⟩

/-- tokens are nobody's -/
theorem HR.toks {B : Bs} {g : Gh} {o : Objs} {s : Shared} (H : HR B g o s) (n : Nat) : HR B g o { s with toks := n } := ⟨H.zin, H.base, H.live, H.sep, H.apart, H.gens, H.os⟩

theorem wpT.doneT {B : Bs} {α β : Type} {R : Gh → β → α → Prop} {Q : β → Objs → Prop} {g : Gh} {o : Objs} {s : Shared} {b : β} {a : α} {n : Nat}
    (H : HR B g o s) (r : R g b a) (q : Q b o) : Post B R Q g o s.heap a { s with toks := n } := ⟨b, g, o, H.toks n, Ext.refl _ _ _, r, q⟩

/-! the judgements: an expression, its truth, a list of them -/
def wpE (B : Bs) (G : Glb) (d : Nat) (loc : Loc) (e : Expr) (Q : V → Objs → Prop) (o : Objs) : Prop :=
  ∀ A env g s, AOk d A → EnvOk B G env → HR B g o s → FR g o env loc s.heap → wpT B VR A (eval e env) Q g o s
def wpC (B : Bs) (G : Glb) (d : Nat) (loc : Loc) (e : Expr) (Q : Bool → Objs → Prop) (o : Objs) : Prop :=
  ∀ A env g s, AOk d A → EnvOk B G env → HR B g o s → FR g o env loc s.heap → wpT B RBool A (isTrue e env (eval e env)) Q g o s
def wpEs (B : Bs) (G : Glb) (d : Nat) (loc : Loc) (es : List Expr) (Q : List V → Objs → Prop) (o : Objs) : Prop :=
  ∀ A env g s pos, AOk d A → EnvOk B G env → HR B g o s → FR g o env loc s.heap → wpT B VRs A (spliced (backTo pos (starEach es env))) Q g o s

/-- an operation on values -/
def wpO1 (B : Bs) (d : Nat) (f : Value → Sem Value) (x : V) (Q : V → Objs → Prop) (o : Objs) : Prop :=
  ∀ A g s v, AOk d A → HR B g o s → VR g x v → wpT B VR A (f v) Q g o s
def wpO2 (B : Bs) (d : Nat) (f : Value → Value → Sem Value) (x y : V) (Q : V → Objs → Prop) (o : Objs) : Prop :=
  ∀ A g s v u, AOk d A → HR B g o s → VR g x v → VR g y u → wpT B VR A (f v u) Q g o s
/-- a call with these values -/
def wpF (B : Bs) (d : Nat) (f : V) (xs : List V) (Q : V → Objs → Prop) (o : Objs) : Prop :=
  ∀ A g s f' vs, AOk d A → HR B g o s → VR g f f' → VRs g xs vs → wpT B VR A (call f' vs) Q g o s

section
variable {B : Bs} {G : Glb} {d : Nat} {loc : Loc} {o : Objs} {Q : V → Objs → Prop}

theorem wpE.int {i : Int} {k : Nat} {p : Pos} (h : Q (.int i) o) : wpE B G d loc (.Constant (.int i) k p) Q o := by
  intro A env g s _ _ H _
  exact wpAny_Constant_int (wpT.doneT H (by simp [VR]) h)
theorem wpE.none {k : Nat} {p : Pos} (h : Q .none o) : wpE B G d loc (.Constant .none k p) Q o := by
  intro A env g s _ _ H _
  exact wpAny_Constant_none (wpT.done H (by simp [VR]) h)
theorem wpE.bool {b : Bool} {k : Nat} {p : Pos} (h : Q (.bool b) o) : wpE B G d loc (.Constant (.bool b) k p) Q o := by
  intro A env g s _ _ H _
  exact wpAny_Constant_bool (wpT.done H (by simp [VR]) h)
theorem wpE.str {x : Str} {k : Nat} {p : Pos} (h : Q (.str x) o) : wpE B G d loc (.Constant (.str x) k p) Q o := by
  intro A env g s _ _ H _
  exact wpAny_Constant_str (wpT.doneT H (by simp [VR]) h)

/-- a name of the frame -/
theorem wpE.var {x : Str} {p : Pos} {v : V} (hx : (x, some v) ∈ loc) (h : Q v o) : wpE B G d loc (.Name x p) Q o := by
  intro A env g s _ E H F
  obtain ⟨m, hn, hv⟩ := F.ns
  obtain ⟨d1, d2, k⟩ := hv _ hx
  refine wpAny_Name ?_ d1
  rcases k with ⟨k1, k2⟩ | ⟨k1, c, w, k2, k3, k4⟩
  · obtain ⟨v', a, b⟩ := k2 v rfl
    exact wpAny_loadName_local E.kind k1 hn a (wpT.done H b h)
  · obtain ⟨v', a, b⟩ := k4 v rfl
    subst a
    rcases k1 with k1 | k1
    · exact wpAny_loadName_cell E.kind k1 k2 k3 (wpT.done H b h)
    · exact wpAny_loadName_free E.kind k1 k2 k3 (wpT.done H b h) d2

/-- a global name -/
theorem wpE.glob {x : Str} {p : Pos} {v : V} (hx : (x, v) ∈ G.names) (h : Q v o) : wpE B G d loc (.Name x p) Q o := by
  intro A env g s _ E H F
  obtain ⟨k, hd, r, hr, e⟩ := E.globs _ hx
  have hb : ∀ b x, B.h.get? b = some x → s.heap.get? b = some x := fun b x e => H.zin _ _ (H.base _ _ e)
  refine Name_function_global E.kind k ?_ hd
  rcases e with e | ⟨e1, e2, e3⟩
  · exact loadGlobal_global (by rw [E.globals]; exact B.gns.keeps hb) (mg_of B.KIn B.gns e) (wpT.done H (hr g) h)
  · exact loadGlobal_builtin (by rw [E.globals]; exact B.gns.keeps hb) (mg_none_of B.KIn B.gns e1) (by rw [E.builtins]; exact B.bns.keeps hb) ((B.boot x e3).trans e2) (wpT.done H (hr g) h)

theorem wpE.binop {l r : Expr} {op : Operator} {p : Pos} (h : wpE B G d loc l (fun a => wpE B G d loc r (fun b => wpO2 B d (binaryOp op) a b Q)) o) :
    wpE B G d loc (.BinOp l op r p) Q o := by
  intro A env g s hA E H F
  exact wpAny_BinOp (wpT.cps (h A env g s hA E H F) fun a a' g1 o1 s1 h1 e1 r1 q1 =>
    wpT.cps (q1 A env g1 s1 hA E h1 (F.ext e1)) fun b b' g2 o2 s2 h2 e2 r2 q2 => wpT.up (e1.trans e2) (q2 A g2 s2 _ _ hA h2 (VR.mono e2.gle _ _ r1) r2))

theorem wpE.unop {x : Expr} {op : UnaryOp} {p : Pos} (h : wpE B G d loc x (fun a => wpO1 B d (unaryOp op) a Q) o) : wpE B G d loc (.UnaryOp op x p) Q o := by
  intro A env g s hA E H F
  exact wpAny_UnaryOp (wpT.cps (h A env g s hA E H F) fun a a' g1 o1 s1 h1 e1 r1 q1 => wpT.up e1 (q1 A g1 s1 _ hA h1 r1))

theorem wpE.cmp {l r : Expr} {op : CmpOp} {p : Pos} (h : wpE B G d loc l (fun a => wpE B G d loc r (fun b => wpO2 B d (compareOp op) a b Q)) o)
    (hm : behindInMarks op r = false := by with_unfolding_all rfl) : wpE B G d loc (.Compare l [op] [r] p) Q o := by
  intro A env g s hA E H F
  exact wpAny_Compare1 (wpT.cps (h A env g s hA E H F) fun a a' g1 o1 s1 h1 e1 r1 q1 =>
    wpT.cps (q1 A env g1 s1 hA E h1 (F.ext e1)) fun b b' g2 o2 s2 h2 e2 r2 q2 => wpT.up (e1.trans e2) (q2 A g2 s2 _ _ hA h2 (VR.mono e2.gle _ _ r1) r2)) hm

theorem wpE.ifexp {t b e : Expr} {p : Pos} (h : wpC B G d loc t (fun c o1 => if c then wpE B G d loc b Q o1 else wpE B G d loc e Q o1) o) : wpE B G d loc (.IfExp t b e p) Q o := by
  intro A env g s hA E H F
  refine wpAny_IfExp (wpT.cps (h A env g s hA E H F) fun c c' g1 o1 s1 h1 e1 r1 q1 => ?_)
  simp only [RBool] at r1; subst r1
  cases c' <;> exact wpT.up e1 (q1 A env g1 s1 hA E h1 (F.ext e1))

theorem wpEs.nil {Q : List V → Objs → Prop} (h : Q [] o) : wpEs B G d loc [] Q o := by
  intro A env g s pos hA E H F
  exact args_nil (wpT.done H .nil h)
theorem wpEs.cons {e : Expr} {es : List Expr} {Q : List V → Objs → Prop} (h : wpE B G d loc e (fun v => wpEs B G d loc es (fun vs => Q (v :: vs))) o)
    (he : ∀ env, starEach (e :: es) env = (false, eval e env) :: starEach es env := by intro _; with_unfolding_all rfl) : wpEs B G d loc (e :: es) Q o := by
  intro A env g s pos hA E H F
  refine args_cons (wpT.cps (h A env g s hA E H F) fun v v' g1 o1 s1 h1 e1 r1 q1 => ?_) (he env)
  refine wpAny_mono (q1 A env g1 s1 pos hA E h1 (F.ext e1)) (fun vs s2 p => ?_) fun _ _ e => e
  obtain ⟨us, g2, o2, h2, e2, r2, q2⟩ := p
  exact ⟨_, g2, o2, h2, e1.trans e2, .cons (VR.mono e2.gle _ _ r1) r2, q2⟩

/-! truths -/
theorem wpC.not {x : Expr} {p : Pos} {Q : Bool → Objs → Prop} (h : wpC B G d loc x (fun b => Q (!b)) o) : wpC B G d loc (.UnaryOp .Not x p) Q o := by
  intro A env g s hA E H F
  refine wpAny_isTrue_Not (wpT.cps (h A env g s hA E H F) fun b b' g1 o1 s1 h1 e1 r1 q1 => ?_)
  simp only [RBool] at r1; subst r1
  exact ⟨_, g1, o1, h1, e1, rfl, q1⟩

def wpO1B (B : Bs) (d : Nat) (f : Value → Sem Bool) (x : V) (Q : Bool → Objs → Prop) (o : Objs) : Prop :=
  ∀ A g s v, AOk d A → HR B g o s → VR g x v → wpT B RBool A (f v) Q g o s

theorem wpC.cmp {l r : Expr} {op : CmpOp} {p : Pos} {Q : Bool → Objs → Prop} (h : wpE B G d loc l (fun a => wpE B G d loc r (fun b => wpO2 B d (compareOp op) a b (fun c => wpO1B B d truthy c Q))) o)
    (hm : behindInMarks op r = false := by with_unfolding_all rfl) : wpC B G d loc (.Compare l [op] [r] p) Q o := by
  intro A env g s hA E H F
  exact wpAny_isTrue_Compare1 (wpT.cps (h A env g s hA E H F) fun a a' g1 o1 s1 h1 e1 r1 q1 =>
    wpT.cps (q1 A env g1 s1 hA E h1 (F.ext e1)) fun b b' g2 o2 s2 h2 e2 r2 q2 =>
    wpT.cps (q2 A g2 s2 _ _ hA h2 (VR.mono e2.gle _ _ r1) r2) fun c c' g3 o3 s3 h3 e3 r3 q3 => wpT.up ((e1.trans e2).trans e3) (q3 A g3 s3 _ hA h3 r3)) hm

/-- a plain expression's truth: its value's -/
theorem wpC.val {e : Expr} {Q : Bool → Objs → Prop} (h : wpE B G d loc e (fun v => wpO1B B d truthy v Q) o)
    (he : ∀ env whole, isTrue e env whole = (do let v ← whole; standAt e.pos; holding [v] (truthy v)) := by intro _ _; with_unfolding_all rfl) : wpC B G d loc e Q o := by
  intro A env g s hA E H F
  exact wpAny_isTrue_value (wpT.cps (h A env g s hA E H F) fun a a' g1 o1 s1 h1 e1 r1 q1 => wpT.up e1 (q1 A g1 s1 _ hA h1 r1)) (he env _)

def wpAnd (B : Bs) (G : Glb) (d : Nat) (loc : Loc) (es : List Expr) (Q : Bool → Objs → Prop) (o : Objs) : Prop :=
  ∀ A env g s, AOk d A → EnvOk B G env → HR B g o s → FR g o env loc s.heap → wpT B RBool A (allTrue .And es env) Q g o s
def wpOr (B : Bs) (G : Glb) (d : Nat) (loc : Loc) (es : List Expr) (Q : Bool → Objs → Prop) (o : Objs) : Prop :=
  ∀ A env g s, AOk d A → EnvOk B G env → HR B g o s → FR g o env loc s.heap → wpT B RBool A (allTrue .Or es env) Q g o s
theorem wpC.and {es : List Expr} {p : Pos} {Q : Bool → Objs → Prop} (h : wpAnd B G d loc es Q o) : wpC B G d loc (.BoolOp .And es p) Q o := by
  intro A env g s hA E H F; exact wpAny_isTrue_BoolOp (h A env g s hA E H F)
theorem wpC.or {es : List Expr} {p : Pos} {Q : Bool → Objs → Prop} (h : wpOr B G d loc es Q o) : wpC B G d loc (.BoolOp .Or es p) Q o := by
  intro A env g s hA E H F; exact wpAny_isTrue_BoolOp (h A env g s hA E H F)
theorem wpAnd.nil {Q : Bool → Objs → Prop} (h : Q true o) : wpAnd B G d loc [] Q o := by
  intro A env g s hA E H F; exact wpAny_allTrue_And_nil (wpT.done H rfl h)
theorem wpOr.nil {Q : Bool → Objs → Prop} (h : Q false o) : wpOr B G d loc [] Q o := by
  intro A env g s hA E H F; exact wpAny_allTrue_Or_nil (wpT.done H rfl h)
theorem wpAnd.cons {x : Expr} {es : List Expr} {Q : Bool → Objs → Prop} (h : wpC B G d loc x (fun b o1 => if b then wpAnd B G d loc es Q o1 else Q false o1) o) : wpAnd B G d loc (x :: es) Q o := by
  intro A env g s hA E H F
  refine wpAny_allTrue_And_cons (wpT.cps (h A env g s hA E H F) fun c c' g1 o1 s1 h1 e1 r1 q1 => ?_)
  simp only [RBool] at r1; subst r1
  cases c'
  · exact ⟨_, g1, o1, h1, e1, rfl, q1⟩
  · exact wpT.up e1 (q1 A env g1 s1 hA E h1 (F.ext e1))
theorem wpOr.cons {x : Expr} {es : List Expr} {Q : Bool → Objs → Prop} (h : wpC B G d loc x (fun b o1 => if b then Q true o1 else wpOr B G d loc es Q o1) o) : wpOr B G d loc (x :: es) Q o := by
  intro A env g s hA E H F
  refine wpAny_allTrue_Or_cons (wpT.cps (h A env g s hA E H F) fun c c' g1 o1 s1 h1 e1 r1 q1 => ?_)
  simp only [RBool] at r1; subst r1
  cases c'
  · exact wpT.up e1 (q1 A env g1 s1 hA E h1 (F.ext e1))
  · exact ⟨_, g1, o1, h1, e1, rfl, q1⟩

/-! ints -/
theorem wpO2.add {a b : Int} (h : Q (.int (a + b)) o) : wpO2 B d (binaryOp .Add) (.int a) (.int b) Q o := by
  intro A g s v u hA H h1 h2
  simp only [VR] at h1 h2
  obtain ⟨t, rfl⟩ := h1; obtain ⟨t', rfl⟩ := h2
  exact add_int (wpT.doneT H (by simp [VR]) h)
theorem wpO2.sub {a b : Int} (h : Q (.int (a - b)) o) : wpO2 B d (binaryOp .Sub) (.int a) (.int b) Q o := by
  intro A g s v u hA H h1 h2
  simp only [VR] at h1 h2
  obtain ⟨t, rfl⟩ := h1; obtain ⟨t', rfl⟩ := h2
  exact sub_int (wpT.doneT H (by simp [VR]) h)
theorem wpO2.mul {a b : Int} (hm : IntMulOk a b) (h : Q (.int (a * b)) o) : wpO2 B d (binaryOp .Mult) (.int a) (.int b) Q o := by
  intro A g s v u hA H h1 h2
  simp only [VR] at h1 h2
  obtain ⟨t, rfl⟩ := h1; obtain ⟨t', rfl⟩ := h2
  exact mul_int (wpT.doneT H (by simp [VR]) h) hm
theorem smallDiv {a b : Int} (hb : b.natAbs < 2 ^ 64) : PySem.Builtin.divisionGoesByPylong a b = false := by
  unfold PySem.Builtin.divisionGoesByPylong
  dsimp only
  have h1 : (if (b == 0) = true then 0 else b.natAbs.log2 / 30 + 1) ≤ 300 := by
    split
    · omega
    · rename_i h0
      have hne : b.natAbs ≠ 0 := by simpa using h0
      have : b.natAbs.log2 < 64 := (Nat.log2_lt hne).mpr hb
      omega
  have h2 : decide ((if (b == 0) = true then 0 else b.natAbs.log2 / 30 + 1) > 300) = false := decide_eq_false (Nat.not_lt.mpr h1)
  rw [h2, Bool.false_and]
theorem wpO2.fdiv {a b : Int} (hb : b ≠ 0) (hs : b.natAbs < 2 ^ 64) (h : Q (.int (a.fdiv b)) o) : wpO2 B d (binaryOp .FloorDiv) (.int a) (.int b) Q o := by
  intro A g s v u hA H h1 h2
  simp only [VR] at h1 h2
  obtain ⟨t, rfl⟩ := h1; obtain ⟨t', rfl⟩ := h2
  exact floordiv_int hb (wpT.doneT H (by simp [VR]) h) (hp := .inl (smallDiv hs))
theorem wpO2.fmod {a b : Int} (hb : b ≠ 0) (h : Q (.int (a.fmod b)) o) : wpO2 B d (binaryOp .Mod) (.int a) (.int b) Q o := by
  intro A g s v u hA H h1 h2
  simp only [VR] at h1 h2
  obtain ⟨t, rfl⟩ := h1; obtain ⟨t', rfl⟩ := h2
  exact mod_int hb (wpT.doneT H (by simp [VR]) h)
theorem wpO2.powS {a n : Int} (hn : 0 ≤ n) (hn2 : n ≤ 1000000) (ha : a.natAbs < 2 ^ 64) (h : Q (.int (a ^ n.toNat)) o) : wpO2 B d (binaryOp .Pow) (.int a) (.int n) Q o := by
  intro A g s v u hA H h1 h2
  simp only [VR] at h1 h2
  obtain ⟨t, rfl⟩ := h1; obtain ⟨t', rfl⟩ := h2
  exact pow_int_small hn hn2 ha (wpT.doneT H (by simp [VR]) h)
theorem wpO1.neg {a : Int} (h : Q (.int (-a)) o) : wpO1 B d (unaryOp .USub) (.int a) Q o := by
  intro A g s v hA H h1
  simp only [VR] at h1
  obtain ⟨t, rfl⟩ := h1
  exact neg_int (wpT.doneT H (by simp [VR]) h)

theorem wpO2.ieq {a b : Int} (h : Q (.bool (a == b)) o) : wpO2 B d (compareOp .Eq) (.int a) (.int b) Q o := by
  intro A g s v u hA H h1 h2
  simp only [VR] at h1 h2
  obtain ⟨t, rfl⟩ := h1; obtain ⟨t', rfl⟩ := h2
  exact eq_int (wpT.done H (by simp [VR]) h)
theorem wpO2.ine {a b : Int} (h : Q (.bool (a != b)) o) : wpO2 B d (compareOp .NotEq) (.int a) (.int b) Q o := by
  intro A g s v u hA H h1 h2
  simp only [VR] at h1 h2
  obtain ⟨t, rfl⟩ := h1; obtain ⟨t', rfl⟩ := h2
  exact ne_int (wpT.done H (by simp [VR]) h)
theorem wpO2.ilt {a b : Int} (h : Q (.bool (decide (a < b))) o) : wpO2 B d (compareOp .Lt) (.int a) (.int b) Q o := by
  intro A g s v u hA H h1 h2
  simp only [VR] at h1 h2
  obtain ⟨t, rfl⟩ := h1; obtain ⟨t', rfl⟩ := h2
  exact lt_int (wpT.done H (by simp [VR]) h)
theorem wpO2.ile {a b : Int} (h : Q (.bool (decide (a ≤ b))) o) : wpO2 B d (compareOp .LtE) (.int a) (.int b) Q o := by
  intro A g s v u hA H h1 h2
  simp only [VR] at h1 h2
  obtain ⟨t, rfl⟩ := h1; obtain ⟨t', rfl⟩ := h2
  exact le_int (wpT.done H (by simp [VR]) h)
theorem wpO2.igt {a b : Int} (h : Q (.bool (decide (b < a))) o) : wpO2 B d (compareOp .Gt) (.int a) (.int b) Q o := by
  intro A g s v u hA H h1 h2
  simp only [VR] at h1 h2
  obtain ⟨t, rfl⟩ := h1; obtain ⟨t', rfl⟩ := h2
  exact gt_int (wpT.done H (by simp [VR]) h)
theorem wpO2.ige {a b : Int} (h : Q (.bool (decide (b ≤ a))) o) : wpO2 B d (compareOp .GtE) (.int a) (.int b) Q o := by
  intro A g s v u hA H h1 h2
  simp only [VR] at h1 h2
  obtain ⟨t, rfl⟩ := h1; obtain ⟨t', rfl⟩ := h2
  exact ge_int (wpT.done H (by simp [VR]) h)
theorem wpO2.seq {a b : Str} (h : Q (.bool (a == b)) o) : wpO2 B d (compareOp .Eq) (.str a) (.str b) Q o := by
  intro A g s v u hA H h1 h2
  simp only [VR] at h1 h2
  obtain ⟨t, rfl⟩ := h1; obtain ⟨t', rfl⟩ := h2
  exact eq_str (wpT.done H (by simp [VR]) h)
theorem wpO1B.bool {b : Bool} {Q : Bool → Objs → Prop} (h : Q b o) : wpO1B B d truthy (.bool b) Q o := by
  intro A g s v hA H h1
  simp only [VR] at h1; subst h1
  exact wpAny_truthy_bool (wpT.done H rfl h)
theorem wpO1B.int {i : Int} {Q : Bool → Objs → Prop} (h : Q (i != 0) o) : wpO1B B d truthy (.int i) Q o := by
  intro A g s v hA H h1
  simp only [VR] at h1; obtain ⟨t, rfl⟩ := h1
  exact truthy_int (wpT.done H rfl h)

/-- 'is None', 'is not None' -/
def V.isNone : V → Bool
  | .none => true
  | .raw v => v == .none
  | _ => false
theorem VR.isNone {g : Gh} : ∀ {x : V} {v : Value}, VR g x v → (v == .none) = x.isNone
  | .none, v, h => by simp only [VR] at h; subst h; rfl
  | .bool b, v, h => by simp only [VR] at h; subst h; rfl
  | .int i, v, h => by simp only [VR] at h; obtain ⟨t, rfl⟩ := h; rfl
  | .str i, v, h => by simp only [VR] at h; obtain ⟨t, rfl⟩ := h; rfl
  | .raw i, v, h => by simp only [VR] at h; subst h; rfl
  | .tup xs, v, h => by simp only [VR] at h; obtain ⟨a, vs, ep, rfl, _⟩ := h; rfl
  | .lst xs, v, h => by simp only [VR] at h; obtain ⟨a, vs, ep, rfl, _⟩ := h; rfl
  | .obj n, v, h => by simp only [VR] at h; obtain ⟨_, a, rfl, _⟩ := h; rfl
  | .sub n i, v, h => by simp only [VR] at h; obtain ⟨_, a, rfl, _⟩ := h; rfl
  | .rng lo hi, v, h => by simp only [VR] at h; obtain ⟨a, t, u, x, rfl, _⟩ := h; rfl
theorem wpO2.isn {x : V} (h : Q (.bool x.isNone) o) : wpO2 B d (compareOp .Is) x .none Q o := by
  intro A g s v u hA H h1 h2
  simp only [VR] at h2; subst h2
  refine is_none (wpT.done (b := .bool x.isNone) H ?_ h)
  rw [h1.isNone]; simp [VR]
theorem wpO2.isnotn {x : V} (h : Q (.bool (!x.isNone)) o) : wpO2 B d (compareOp .IsNot) x .none Q o := by
  intro A g s v u hA H h1 h2
  simp only [VR] at h2; subst h2
  refine isNot_none (wpT.done (b := .bool (!x.isNone)) H ?_ h)
  rw [h1.isNone]; simp [VR]

end

theorem optR.mono {g g' : Gh} (G : Gle g g') : ∀ {x : Option V} {v : Option Value}, optR g x v → optR g' x v
  | none, _, h => h
  | some _, _, ⟨v', e, r⟩ => ⟨v', e, VR.mono G _ _ r⟩
theorem DictIn.mono {B : Bs} {g g' : Gh} {h : Heap} {d : Addr} {f : Int → Option V} {n : Nat} (G : Gle g g') (x : DictIn B g h d f n) : DictIn B g' h d f n :=
  let ⟨a, kvs, b, c, e⟩ := x; ⟨a, kvs, b, c, fun k => (e k).mono G⟩
theorem DictIn.keep {B : Bs} {g : Gh} {h h' : Heap} {d : Addr} {f : Int → Option V} {n : Nat} (x : DictIn B g h d f n) (k : ∀ o, h.get? d = some o → h'.get? d = some o) : DictIn B g h' d f n :=
  let ⟨a, kvs, b, c, e⟩ := x; ⟨a, kvs, b.at k, c, e⟩

theorem OR.mono {B : Bs} {g g' : Gh} {h : Heap} (G : Gle g g') : ∀ {x : SO} {fp : List Addr}, OR B g h x fp → OR B g' h x fp
  | .list xs, fp, ⟨a, vs, n, e, h1, h3⟩ => ⟨a, vs, n, e, h1, VRs.mono G _ _ h3⟩
  | .tab T, fp, ⟨x, dx, l, n, e, t1, t2, t3, t4, t5, ep, h1, h2, h3, h4, h5, h6, h7⟩ => ⟨x, dx, l, n, e, t1, t2, t3, t4, t5, ep, h1, h2, h3, h4, h5.mono G, h6.mono G, h7.mono G⟩
theorem OR.keep {B : Bs} {g : Gh} {h h' : Heap} : ∀ {x : SO} {fp : List Addr}, OR B g h x fp → (∀ a ∈ fp, ∀ y, h.get? a = some y → h'.get? a = some y) → OR B g h' x fp
  | .list xs, fp, ⟨a, vs, n, e, h1, h3⟩, k => ⟨a, vs, n, e, k _ (by simp [e]) _ h1, h3⟩
  | .tab T, fp, ⟨x, dx, l, n, e, t1, t2, t3, t4, t5, ep, h1, h2, h3, h4, h5, h6, h7⟩, k =>
    ⟨x, dx, l, n, e, t1, t2, t3, t4, t5, ep, h1, h2, k _ (by simp [h1]) _ h3, k _ (by simp [h1]) _ h4, h5.keep (k _ (by simp [h1])), h6.keep (k _ (by simp [h1])), h7.keep (k _ (by simp [h1]))⟩
theorem DictIn.got {B : Bs} {g : Gh} {h : Heap} {d : Addr} {f : Int → Option V} {n : Nat} (x : DictIn B g h d f n) : ∃ y, h.get? d = some y :=
  let ⟨_, _, ⟨o, _, _, ho, _⟩, _⟩ := x; ⟨o, ho⟩
theorem OR.got {B : Bs} {g : Gh} {h : Heap} : ∀ {x : SO} {fp : List Addr}, OR B g h x fp → ∀ a ∈ fp, ∃ y, h.get? a = some y
  | .list xs, fp, ⟨a, vs, n, e, h1, h3⟩, b, hb => by subst e; simp at hb; subst hb; exact ⟨_, h1⟩
  | .tab T, fp, ⟨x, dx, l, n, e, t1, t2, t3, t4, t5, ep, h1, h2, h3, h4, h5, h6, h7⟩, b, hb => by
    subst h1
    simp at hb
    rcases hb with rfl | rfl | rfl | rfl | rfl
    · exact ⟨_, h3⟩
    · exact ⟨_, h4⟩
    · exact h5.got
    · exact h6.got
    · exact h7.got

section
variable {B : Bs} {g : Gh} {o : Objs} {s : Shared}

theorem HR.owned {a : Addr} (H : HR B g o s) (q : Owned g o a) : (∃ y, s.heap.get? a = some y) ∧ g.Z a = none := by
  obtain ⟨n, x, hn, ha⟩ := q
  exact ⟨(H.live n x hn).2.got a ha, H.apart n x hn a ha⟩
/-- the heap has grown; nothing else -/
theorem HR.grow (H : HR B g o s) {h' : Heap} {n : Nat} (k : ∀ a x, s.heap.get? a = some x → h'.get? a = some x) : HR B g o { s with heap := h', toks := n } ∧ Ext g o s.heap g o h' :=
  ⟨⟨fun a x e => k _ _ (H.zin _ _ e), H.base, fun n x e => ⟨(H.live n x e).1, (H.live n x e).2.keep fun a _ y => k a y⟩, H.sep, H.apart, H.gens, H.os⟩,
   ⟨Nat.le_refl _, fun _ _ => rfl, fun _ _ e => e, fun _ _ e => .inl e, fun _ _ _ e => k _ _ e, fun _ e => .inl e⟩⟩

def Gh.frz (g : Gh) (a : Addr) (x : Obj) : Gh := { g with Z := fun b => if b = a then some x else g.Z b }
theorem Gh.frz_le {g : Gh} {a : Addr} {x : Obj} (hz : g.Z a = none ∨ g.Z a = some x) : Gle g (g.frz a x) where
  next := Nat.le_refl _
  rho := fun _ _ => rfl
  Z := fun b y e => by
    show (if b = a then some x else g.Z b) = some y
    split
    · rename_i h; subst h
      rcases hz with hz | hz <;> rw [hz] at e <;> cases e
      rfl
    · exact e
theorem Gh.frz_at (g : Gh) (a : Addr) (x : Obj) : (g.frz a x).Z a = some x := by show (if a = a then _ else _) = _; rw [if_pos rfl]

/-- something of the heap that nobody owns is frozen -/
theorem HR.frz (H : HR B g o s) {a : Addr} {x : Obj} (hz : g.Z a = none ∨ g.Z a = some x) (ho : ¬ Owned g o a) (hx : s.heap.get? a = some x) : HR B (g.frz a x) o s where
  zin := fun b y e => by
    have e' : (if b = a then some x else g.Z b) = some y := e
    split at e'
    · rename_i h; subst h; cases e'; exact hx
    · exact H.zin _ _ e'
  base := fun b y e => (Gh.frz_le hz).Z _ _ (H.base _ _ e)
  live := fun n y e => ⟨(H.live n y e).1, (H.live n y e).2.mono (Gh.frz_le hz)⟩
  sep := H.sep
  apart := fun n y e b hb => by
    show (if b = a then some x else g.Z b) = none
    split
    · rename_i h; subst h; exact absurd ⟨n, y, e, hb⟩ ho
    · exact H.apart n y e b hb
  gens := H.gens
  os := H.os

/-- the end of a step that made a frozen object -/
theorem Post.frz {Q : V → Objs → Prop} {h' : Heap} {a : Addr} {x : Obj} {n : Nat} {v : V} (H : HR B g o s) (k : ∀ b y, s.heap.get? b = some y → h'.get? b = some y) (ha : s.heap.get? a = none) (hx : h'.get? a = some x)
    (r : VR (g.frz a x) v (.ref a)) (q : Q v o) : Post B VR Q g o s.heap (.ref a) { s with heap := h', toks := n } := by
  obtain ⟨H1, E1⟩ := H.grow (n := n) k
  have hz : g.Z a = none := by
    cases e : g.Z a with
    | none => rfl
    | some y => rw [H.zin _ _ e] at ha; cases ha
  have ho : ¬ Owned g o a := fun q => by obtain ⟨⟨y, e⟩, _⟩ := H.owned q; rw [ha] at e; cases e
  refine ⟨v, g.frz a x, o, H1.frz (.inl hz) ho hx, ⟨Nat.le_refl _, fun _ _ => rfl, (Gh.frz_le (.inl hz)).Z, fun b y e => ?_, fun b y _ e => k _ _ e, fun _ q => .inl q⟩, r, q⟩
  have e' : (if b = a then some x else g.Z b) = some y := e
  split at e'
  · rename_i h; subst h; exact .inr (.inr ha)
  · exact .inl e'

def Gh.add (g : Gh) (fp : List Addr) : Gh := { g with ρ := fun n => if n = g.next then fp else g.ρ n, next := g.next + 1 }
theorem Gh.add_le (g : Gh) (fp : List Addr) : Gle g (g.add fp) where
  next := Nat.le_succ _
  rho := fun n hn => by show (if n = g.next then _ else _) = _; rw [if_neg (Nat.ne_of_lt hn)]
  Z := fun _ _ e => e
theorem Gh.add_at (g : Gh) (fp : List Addr) : (g.add fp).ρ g.next = fp := by show (if g.next = g.next then _ else _) = _; rw [if_pos rfl]

theorem HR.fresh (H : HR B g o s) : o g.next = none := by
  cases e : o g.next with
  | none => rfl
  | some x => exact absurd (H.live _ _ e).1 (Nat.lt_irrefl _)

theorem upd_same (o : Objs) (n : Nat) (x : SO) : upd o n x n = some x := by simp [upd]
theorem upd_ne {o : Objs} {n m : Nat} {x : SO} (h : m ≠ n) : upd o n x m = o m := by simp [upd, h]

/-- the end of a step that made an object that is to change -/
theorem Post.new {Q : V → Objs → Prop} {h' : Heap} {fp : List Addr} {a : Addr} {x : SO} {n : Nat} (H : HR B g o s) (k : ∀ b y, s.heap.get? b = some y → h'.get? b = some y) (hf : ∀ b ∈ fp, s.heap.get? b = none) (h0 : fp[0]? = some a)
    (r : OR B (g.add fp) h' x fp) (q : ∀ n, o n = none → Q (.obj n) (upd o n x)) : Post B VR Q g o s.heap (.ref a) { s with heap := h', toks := n } := by
  have hn := H.fresh
  have G := g.add_le fp
  have old : ∀ m y, upd o g.next x m = some y → m ≠ g.next → o m = some y ∧ (g.add fp).ρ m = g.ρ m := fun m y e hm => by
    rw [upd_ne hm] at e
    exact ⟨e, G.rho m (H.live _ _ e).1⟩
  have hfo : ∀ b ∈ fp, ∀ m y, o m = some y → b ∉ g.ρ m := fun b hb m y e hm => by
    obtain ⟨z, hz⟩ := (H.live m y e).2.got b hm
    rw [hf b hb] at hz; cases hz
  refine ⟨.obj g.next, g.add fp, upd o g.next x, ⟨fun b y e => k _ _ (H.zin _ _ e), H.base, fun m y e => ?_, fun m m' y y' e e' hne b hb => ?_, fun m y e b hb => ?_, H.gens, H.os⟩,
    ⟨G.next, G.rho, G.Z, fun _ _ e => .inl e, fun b y _ e => k _ _ e, fun b q => ?_⟩, ?_, q _ hn⟩
  · by_cases hm : m = g.next
    · subst hm
      rw [upd_same] at e; cases e
      exact ⟨Nat.lt_succ_self _, by rw [Gh.add_at]; exact r⟩
    · obtain ⟨e1, e2⟩ := old m y e hm
      exact ⟨Nat.lt_succ_of_lt (H.live _ _ e1).1, by rw [e2]; exact ((H.live _ _ e1).2.mono G).keep fun b _ z => k b z⟩
  · by_cases hm : m = g.next
    · subst hm
      rw [Gh.add_at] at hb
      obtain ⟨e1, e2⟩ := old m' y' e' (Ne.symm hne)
      rw [e2]; exact hfo b hb _ _ e1
    · obtain ⟨e1, e2⟩ := old m y e hm
      rw [e2] at hb
      by_cases hm' : m' = g.next
      · subst hm'
        rw [Gh.add_at]; exact fun hb' => hfo b hb' _ _ e1 hb
      · obtain ⟨e3, e4⟩ := old m' y' e' hm'
        rw [e4]; exact H.sep _ _ _ _ e1 e3 hne b hb
  · by_cases hm : m = g.next
    · subst hm
      rw [Gh.add_at] at hb
      show g.Z b = none
      cases hz : g.Z b with
      | none => rfl
      | some z => have := H.zin _ _ hz; rw [hf b hb] at this; cases this
    · obtain ⟨e1, e2⟩ := old m y e hm
      rw [e2] at hb
      exact H.apart _ _ e1 b hb
  · obtain ⟨m, y, e, hb⟩ := q
    by_cases hm : m = g.next
    · subst hm
      rw [Gh.add_at] at hb
      exact .inr (hf b hb)
    · obtain ⟨e1, e2⟩ := old m y e hm
      rw [e2] at hb
      exact .inl ⟨m, y, e1, hb⟩
  · simp only [VR]
    exact ⟨Nat.lt_succ_self _, a, rfl, by rw [Gh.add_at]; exact h0⟩

/-- an object of ours has changed -/
theorem HR.change (H : HR B g o s) {h' : Heap} {n m : Nat} {x y : SO} (hn : o n = some x) (k : ∀ b z, b ∉ g.ρ n → s.heap.get? b = some z → h'.get? b = some z) (r : OR B g h' y (g.ρ n)) :
    HR B g (upd o n y) { s with heap := h', toks := m } ∧ Ext g o s.heap g (upd o n y) h' := by
  have ow : ∀ b, Owned g (upd o n y) b → Owned g o b := fun b ⟨m, z, e, hb⟩ => by
    by_cases hm : m = n
    · subst hm; exact ⟨m, x, hn, hb⟩
    · rw [upd_ne hm] at e; exact ⟨m, z, e, hb⟩
  have nw : ∀ {m z}, upd o n y m = some z → ∃ z', o m = some z' := fun {m z} e => by
    by_cases hm : m = n
    · subst hm; exact ⟨x, hn⟩
    · rw [upd_ne hm] at e; exact ⟨z, e⟩
  refine ⟨⟨fun b z e => k _ _ (fun hb => by rw [H.apart _ _ hn _ hb] at e; cases e) (H.zin _ _ e), H.base, fun m z e => ?_, fun m m' z z' e e' hne => ?_, fun m z e b hb => ?_, H.gens, H.os⟩,
    ⟨Nat.le_refl _, fun _ _ => rfl, fun _ _ e => e, fun _ _ e => .inl e, fun b z hb e => k _ _ (fun q => hb ⟨n, x, hn, q⟩) e, fun b q => .inl (ow b q)⟩⟩
  · by_cases hm : m = n
    · subst hm
      rw [upd_same] at e; cases e
      exact ⟨(H.live _ _ hn).1, r⟩
    · rw [upd_ne hm] at e
      exact ⟨(H.live _ _ e).1, (H.live _ _ e).2.keep fun b hb z => k b z (H.sep _ _ _ _ e hn hm b hb)⟩
  · obtain ⟨w, hw⟩ := nw e
    obtain ⟨w', hw'⟩ := nw e'
    exact H.sep _ _ _ _ hw hw' hne
  · obtain ⟨w, hw⟩ := nw e
    exact H.apart _ _ hw b hb

theorem Post.change {α β : Type} {R : Gh → β → α → Prop} {Q : β → Objs → Prop} {h' : Heap} {n m : Nat} {x y : SO} {b : β} {a : α} (H : HR B g o s) (hn : o n = some x) (k : ∀ b z, b ∉ g.ρ n → s.heap.get? b = some z → h'.get? b = some z)
    (r : OR B g h' y (g.ρ n)) (hr : R g b a) (q : Q b (upd o n y)) : Post B R Q g o s.heap a { s with heap := h', toks := m } :=
  let ⟨H1, E1⟩ := H.change (m := m) hn k r; ⟨b, g, _, H1, E1, hr, q⟩

/-- an object is forgotten -/
theorem HR.forget (H : HR B g o s) {o' : Objs} (k : ∀ n x, o' n = some x → o n = some x) : HR B g o' s :=
  ⟨H.zin, H.base, fun n x e => H.live n x (k _ _ e), fun n m x y e e' => H.sep n m x y (k _ _ e) (k _ _ e'), fun n x e => H.apart n x (k _ _ e), H.gens, H.os⟩
theorem Ext.forget {g' : Gh} {h h' : Heap} {o1 o' : Objs} (E : Ext g o h g' o1 h') (k : ∀ n x, o' n = some x → o1 n = some x) : Ext g o h g' o' h' :=
  ⟨E.next, E.rho, E.Z, E.newZ, E.keep, fun a ⟨n, x, e, ha⟩ => E.own a ⟨n, x, k _ _ e, ha⟩⟩

def del (o : Objs) (n : Nat) : Objs := fun m => if m = n then none else o m
theorem del_sub (o : Objs) (n : Nat) : ∀ m x, del o n m = some x → o m = some x := fun m x e => by
  unfold del at e; split at e
  · cases e
  · exact e

/-- a list of ours is frozen -/
theorem HR.freeze (H : HR B g o s) {n : Nat} {xs : List V} (hn : o n = some (.list xs)) : ∃ g', HR B g' (del o n) s ∧ Ext g o s.heap g' (del o n) s.heap ∧ ∀ v, VR g (.obj n) v → VR g' (.lst xs) v := by
  obtain ⟨hlt, a, vs, k, hr, hx, hv⟩ := H.live _ _ hn
  have hs : SeqO "list" (lobj vs k) vs := ⟨rfl, k, rfl⟩
  generalize lobj vs k = x at hx hs
  have H1 := H.forget (del_sub o n)
  have hz : g.Z a = none := H.apart _ _ hn a (by simp [hr])
  have ho : ¬ Owned g (del o n) a := fun ⟨m, y, e, ha⟩ => by
    have hm : m ≠ n := fun q => by subst q; simp [del] at e
    exact H.sep m n y _ (del_sub o n _ _ e) hn hm a ha (by simp [hr])
  refine ⟨g.frz a x, H1.frz (.inl hz) ho hx, ⟨Nat.le_refl _, fun _ _ => rfl, (Gh.frz_le (.inl hz)).Z, fun b y e => ?_, fun _ _ _ e => e, fun b ⟨m, y, e, hb⟩ => .inl ⟨m, y, del_sub o n _ _ e, hb⟩⟩, fun v h => ?_⟩
  · have e' : (if b = a then some x else g.Z b) = some y := e
    split at e'
    · rename_i h; subst h; exact .inr (.inl ⟨n, _, hn, by simp [hr]⟩)
    · exact .inl e'
  · simp only [VR] at h ⊢
    obtain ⟨_, b, rfl, hb⟩ := h
    rw [hr] at hb
    cases hb
    exact ⟨a, vs, x, rfl, Gh.frz_at .., hs, VRs.mono (Gh.frz_le (.inl hz)) _ _ hv⟩
end

def asL (o : Objs) : V → Option (List V)
  | .lst xs => some xs
  | .obj n => match o n with
    | some (.list xs) => some xs
    | _ => none
  | _ => none
def NewL (Q : V → Objs → Prop) (xs : List V) (o : Objs) : Prop := Q (.lst xs) o ∨ ∀ n, o n = none → Q (.obj n) (upd o n (.list xs))

section
variable {B : Bs} {G : Glb} {d : Nat} {loc : Loc} {g : Gh} {o : Objs} {s : Shared} {Q : V → Objs → Prop}

theorem asL_at (H : HR B g o s) {x : V} {v : Value} {xs : List V} (h : asL o x = some xs) (r : VR g x v) : ∃ a vs, v = .ref a ∧ s.heap.IsList a vs.toArray ∧ VRs g xs vs := by
  cases x with
  | lst ys =>
    simp only [asL, Option.some.injEq] at h; subst h
    simp only [VR] at r
    obtain ⟨a, vs, y, rfl, hz, ⟨h1, n, h2⟩, h3⟩ := r
    exact ⟨a, vs, rfl, ⟨y, H.zin _ _ hz, h1, n, h2⟩, h3⟩
  | obj n =>
    simp only [asL] at h
    split at h
    · rename_i ys e
      cases h
      simp only [VR] at r
      obtain ⟨_, a, rfl, ha⟩ := r
      obtain ⟨_, b, vs, k, hr, hx, h3⟩ := H.live _ _ e
      rw [hr] at ha; cases ha
      exact ⟨a, vs, rfl, ⟨_, hx, rfl, k, rfl⟩, h3⟩
    · cases h
  | _ => simp [asL] at h

theorem asT_at (H : HR B g o s) {v : Value} {xs : List V} (r : VR g (.tup xs) v) : ∃ a vs, v = .ref a ∧ s.heap.IsTuple a vs.toArray ∧ VRs g xs vs := by
  simp only [VR] at r
  obtain ⟨a, vs, y, rfl, hz, rfl, h3⟩ := r
  exact ⟨a, vs, rfl, ⟨_, H.zin _ _ hz, rfl, 0, rfl⟩, h3⟩
theorem asT_ex (H : HR B g o s) {v : Value} {xs : List V} (r : VR g (.tup xs) v) : ∃ a vs, v = .ref a ∧ s.heap.get? a = some (tobj vs) ∧ VRs g xs vs := by
  simp only [VR] at r
  obtain ⟨a, vs, y, rfl, hz, rfl, h3⟩ := r
  exact ⟨a, vs, rfl, H.zin _ _ hz, h3⟩

theorem Post.lst {h' : Heap} {a : Addr} {m : Nat} {vs : List Value} {xs : List V} {n : Nat} (H : HR B g o s) (k : ∀ b y, s.heap.get? b = some y → h'.get? b = some y) (ha : s.heap.get? a = none) (hx : h'.get? a = some (lobj vs m))
    (hv : VRs g xs vs) (q : NewL Q xs o) : Post B VR Q g o s.heap (.ref a) { s with heap := h', toks := n } := by
  rcases q with q | q
  · refine Post.frz H k ha hx ?_ q
    simp only [VR]
    exact ⟨a, vs, _, rfl, Gh.frz_at .., ⟨rfl, m, rfl⟩, VRs.mono (Gh.frz_le (.inl (by
      cases e : g.Z a with
      | none => rfl
      | some y => rw [H.zin _ _ e] at ha; cases ha))) _ _ hv⟩
  · exact Post.new (fp := [a]) (x := .list xs) H k (fun b hb => by simp at hb; subst hb; exact ha) rfl ⟨a, vs, m, rfl, hx, VRs.mono (Gh.add_le g [a]) _ _ hv⟩ q

theorem Post.tup {h' : Heap} {a : Addr} {x : Obj} {vs : List Value} {xs : List V} {n : Nat} (H : HR B g o s) (k : ∀ b y, s.heap.get? b = some y → h'.get? b = some y) (ha : s.heap.get? a = none) (hx : h'.get? a = some x)
    (hs : x = tobj vs) (hv : VRs g xs vs) (q : Q (.tup xs) o) : Post B VR Q g o s.heap (.ref a) { s with heap := h', toks := n } := by
  refine Post.frz H k ha hx ?_ q
  simp only [VR]
  exact ⟨a, vs, x, rfl, Gh.frz_at .., hs, VRs.mono (Gh.frz_le (.inl (by
    cases e : g.Z a with
    | none => rfl
    | some y => rw [H.zin _ _ e] at ha; cases ha))) _ _ hv⟩

theorem get_size (h : Heap) : h.get? h.objs.size = none := fresh_above h 0
theorem get_size1 (h : Heap) (x : Obj) : h.get? (h.push x).objs.size = none := by rw [Heap.size_push]; exact fresh_above _ 1

/-- a pushed list -/
theorem Post.lstP {vs : List Value} {xs : List V} {n : Nat} (H : HR B g o s) (hv : VRs g xs vs) (q : NewL Q xs o) :
    Post B VR Q g o s.heap (.ref s.heap.objs.size) { s with heap := s.heap.push { cls := .type "list", data := .seq vs.toArray }, toks := n } :=
  Post.lst (m := 0) H (fun _ _ e => Heap.get?_push_of_some _ e) (get_size _) (Heap.get?_push_size _ rfl) hv q
theorem Post.tupP {vs : List Value} {xs : List V} {n : Nat} (H : HR B g o s) (hv : VRs g xs vs) (q : Q (.tup xs) o) :
    Post B VR Q g o s.heap (.ref s.heap.objs.size) { s with heap := s.heap.push { cls := .type "tuple", data := .seq vs.toArray }, toks := n } :=
  Post.tup H (fun _ _ e => Heap.get?_push_of_some _ e) (get_size _) (Heap.get?_push_size _ rfl) rfl hv q

theorem Post.up {α β : Type} {R : Gh → β → α → Prop} {Q : β → Objs → Prop} {g1 : Gh} {o1 : Objs} {h h1 : Heap} {a : α} {s' : Shared} (E : Ext g o h g1 o1 h1) (p : Post B R Q g1 o1 h1 a s') : Post B R Q g o h a s' :=
  let ⟨b, g2, o2, a1, a2, a3, a4⟩ := p; ⟨b, g2, o2, a1, E.trans a2, a3, a4⟩

/-! displays -/
theorem wpE.list {es : List Expr} {p : Pos} (h : wpEs B G d loc es (fun vs o1 => vs.length ≤ sizeLine ∧ NewL Q vs o1) o) : wpE B G d loc (.List es p) Q o := by
  intro A env g s hA E H F
  refine wpAny_List (wpT.cps (h A env g s p hA E H F) fun vs vs' g1 o1 s1 h1 e1 r1 q1 => ?_)
  exact ⟨by rw [r1.length]; exact q1.1, Post.up e1 (Post.lstP h1 r1 q1.2)⟩
theorem wpE.tuple {es : List Expr} {k : Nat} {p : Pos} (h : wpEs B G d loc es (fun vs o1 => vs.length ≤ sizeLine ∧ Q (.tup vs) o1) o) : wpE B G d loc (.Tuple es k p) Q o := by
  intro A env g s hA E H F
  refine wpAny_Tuple (wpT.cps (h A env g s p hA E H F) fun vs vs' g1 o1 s1 h1 e1 r1 q1 => ?_)
  exact ⟨by rw [r1.length]; exact q1.1, Post.up e1 (Post.tupP h1 r1 q1.2)⟩

/-! + and * of lists -/
theorem wpO2.ladd {x y : V} {xs ys : List V} (hx : asL o x = some xs) (hy : asL o y = some ys) (hsz : xs.length + ys.length ≤ sizeLine) (q : NewL Q (xs ++ ys) o) : wpO2 B d (binaryOp .Add) x y Q o := by
  intro A g s v u hA H h1 h2
  obtain ⟨l, vs, rfl, hl, hv⟩ := asL_at H hx h1
  obtain ⟨b, us, rfl, hb, hu⟩ := asL_at H hy h2
  obtain ⟨⟨cls, dd, data, sl⟩, ho, hc, n, hd⟩ := id hl
  obtain ⟨⟨cls2, dd2, data2, sl2⟩, ho2, hc2, n2, hd2⟩ := id hb
  simp only at hc hd hc2 hd2
  subst hc hd hc2 hd2
  refine concat_meets ⟨_, ho, rfl⟩ ⟨_, ho2, rfl⟩ noFill_list_add seq_list_add PySem.F.slot_list_add PySem.F.entry_list_add (PySem.F.args_list_add_2 _ _)
    (list_addW l b vs.toArray us.toArray n n2 dd dd2 sl sl2 (by simpa [hv.length, hu.length] using hsz)) ⟨ho, ho2, ?_⟩
  have e : vs.toArray ++ us.toArray = (vs ++ us).toArray := by simp
  rw [e]
  exact Post.lstP H (hv.append hu) q

theorem VRs.rep {g : Gh} {xs : List V} {vs : List Value} (h : VRs g xs vs) : ∀ k : Nat, VRs g (List.replicate k xs).flatten (List.replicate k vs).flatten
  | 0 => by simp [VRs]
  | k + 1 => by
    simp only [List.replicate_succ, List.flatten_cons]
    exact h.append (VRs.rep h k)

theorem wpO2.lmul {x : V} {k : Int} {xs : List V} (hx : asL o x = some xs) (hlo : -(2 ^ 63 : Int) ≤ k) (hhi : k < 2 ^ 63) (hsz : xs.length * k.toNat ≤ 2 ^ 24) (q : NewL Q (List.replicate k.toNat xs).flatten o) :
    wpO2 B d (binaryOp .Mult) x (.int k) Q o := by
  intro A g s v u hA H h1 h2
  obtain ⟨l, vs, rfl, hl, hv⟩ := asL_at H hx h1
  simp only [VR] at h2
  obtain ⟨t, rfl⟩ := h2
  obtain ⟨⟨cls, dd, data, sl⟩, ho, hc, n, hd⟩ := id hl
  simp only at hc hd
  subst hc hd
  have hsz' : vs.toArray.size * k.toNat ≤ 2 ^ 24 := by simpa [hv.length] using hsz
  refine wpAny_binaryOp_repeat_ref (T := "list") (U := "int") (by decide) ⟨_, ho, rfl⟩ (fun s' => typeIs_int s' k t) noFill_list_mul PySem.F.fills_int_mul PySem.F.slot_int_rmul repeat_list PySem.F.slot_int_index.lookup
    (call_meets PySem.F.slot_int_rmul (typeIs_int s k t) PySem.F.entry_int_rmul (PySem.F.args_int_rmul_2 _ _) (lm_int_rmul_list_any k t l vs.toArray n dd sl)
      ⟨ho, rfl, ⟨_, ho, rfl⟩, call_meets PySem.F.slot_list_mul ⟨_, ho, rfl⟩ PySem.F.entry_list_mul (PySem.F.args_list_mul_2 _ _)
        (lm_list_mul_any l vs.toArray n dd sl k t (by simp [PySem.Builtin.List.listFitsIndex]; omega) (by omega) (by simp [PySem.Builtin.List.listTooLong, sizeLine]; omega))
        ⟨ho, ?_⟩⟩)
  rw [listMul_foldl_if]
  exact Post.lstP H (hv.rep _) q

/-! an item -/
/-- the tail of a subscript -/
def wpSub (B : Bs) (d : Nat) (v i : Expr) (x y : V) (Q : V → Objs → Prop) (o : Objs) : Prop :=
  ∀ A g s v' i', AOk d A → HR B g o s → VR g x v' → VR g y i' → wpT B VR A (subscriptTail v i v' i') Q g o s
theorem wpE.item {v i : Expr} {p : Pos} (h : wpE B G d loc v (fun x => wpE B G d loc i (fun y => wpSub B d v i x y Q)) o) : wpE B G d loc (.Subscript v i p) Q o := by
  intro A env g s hA E H F
  exact Subscript_ (wpT.cps (h A env g s hA E H F) fun a a' g1 o1 s1 h1 e1 r1 q1 =>
    wpT.cps (q1 A env g1 s1 hA E h1 (F.ext e1)) fun b b' g2 o2 s2 h2 e2 r2 q2 => wpT.up (e1.trans e2) (q2 A g2 s2 _ _ hA h2 (VR.mono e2.gle _ _ r1) r2))

/-- what stands at a place, from the end too -/
def atI {α : Type} (xs : List α) (k : Int) : Option α := (seqIndex? k xs.length).bind (xs[·]?)

theorem seqIndex_lt {k : Int} {n j : Nat} (h : seqIndex? k n = some j) : j < n ∧ ((0 ≤ k ∧ j = k.toNat) ∨ (k < 0 ∧ -(n : Int) ≤ k ∧ j = (k + n).toNat)) := by
  unfold seqIndex? at h
  by_cases h1 : k < 0
  · simp only [if_pos h1] at h
    split at h
    · rename_i h0
      simp only [Bool.and_eq_true, decide_eq_true_eq] at h0
      cases h; omega
    · cases h
  · simp only [if_neg h1] at h
    split at h
    · rename_i h0
      simp only [Bool.and_eq_true, decide_eq_true_eq] at h0
      cases h; omega
    · cases h

theorem wpSub.list {v i : Expr} {x : V} {k : Int} {xs : List V} {y : V} (hx : asL o x = some xs) (hk : atI xs k = some y) (hsz : xs.length ≤ sizeLine) (q : Q y o)
    (hs : ∀ a b, subscripted i false a b = operate [a, b] (getItem a b) := by intro _ _; with_unfolding_all rfl) : wpSub B d v i x (.int k) Q o := by
  intro A g s v' i' hA H h1 h2
  obtain ⟨l, vs, rfl, hl, hv⟩ := asL_at H hx h1
  simp only [VR] at h2
  obtain ⟨t, rfl⟩ := h2
  obtain ⟨j, hj, hy⟩ := Option.bind_eq_some_iff.mp hk
  obtain ⟨w, hw, hr⟩ := hv.get j y hy
  have hlen := hv.length
  have hw' : vs.toArray[j]? = some w := by simpa using hw
  obtain ⟨hlt, hc⟩ := seqIndex_lt hj
  rw [sizeLine_eq] at hsz
  refine tail_any hl.typeIs list_getitem_lookup ?_ (hs _ _)
  rcases hc with ⟨h0, rfl⟩ | ⟨h0, h3, rfl⟩
  · exact wpAny_getItem_list hl h0 (by omega) hw' (wpT.done H hr q)
  · exact wpAny_getItem_list_neg hl h0 (by simp; omega) (by omega) (by simpa [hlen] using hw) (wpT.done H hr q)

theorem wpSub.tup {v i : Expr} {k : Int} {xs : List V} {y : V} (hk : atI xs k = some y) (hlo : -(2 ^ 63) ≤ k) (hhi : k < 2 ^ 63) (q : Q y o)
    (hs : ∀ a b, subscripted i false a b = operate [a, b] (getItem a b) := by intro _ _; with_unfolding_all rfl) : wpSub B d v i (.tup xs) (.int k) Q o := by
  intro A g s v' i' hA H h1 h2
  obtain ⟨l, vs, rfl, hl, hv⟩ := asT_at H h1
  simp only [VR] at h2
  obtain ⟨t, rfl⟩ := h2
  obtain ⟨j, hj, hy⟩ := Option.bind_eq_some_iff.mp hk
  obtain ⟨w, hw, hr⟩ := hv.get j y hy
  exact item_tupleT (l := vs) hl hlo hhi (by rw [hv.length]; exact hj) hw (wpT.done H hr q) (hs _ _)

/-! slices -/
def pick {α : Type} (xs : List α) (lo hi st : Option Int) : List α :=
  (sliceRange (sliceBounds lo hi st xs.length).1 (sliceBounds lo hi st xs.length).2.1 (sliceBounds lo hi st xs.length).2.2).filterMap (xs[·]?)
theorem VRs.picks {g : Gh} {xs : List V} {vs : List Value} (h : VRs g xs vs) : ∀ ks : List Nat, VRs g (ks.filterMap (xs[·]?)) (ks.filterMap (vs[·]?))
  | [] => by simp [VRs]
  | k :: ks => by
    simp only [List.filterMap_cons]
    cases e : xs[k]? with
    | none =>
      have : vs[k]? = none := by rw [List.getElem?_eq_none_iff] at e ⊢; rw [h.length]; exact e
      rw [this]; exact h.picks ks
    | some x =>
      obtain ⟨v, hv, hr⟩ := h.get k x e
      rw [hv]; exact .cons hr (h.picks ks)
theorem VRs.pick {g : Gh} {xs : List V} {vs : List Value} (h : VRs g xs vs) (lo hi st : Option Int) : VRs g (Mine.pick xs lo hi st) (slicePick vs.toArray lo hi st).toList := by
  unfold slicePick Mine.pick
  have e : vs.toArray.size = xs.length := by simpa using h.length
  rw [e]
  have e2 : (fun i => vs.toArray[i]?) = fun i : Nat => vs[i]? := by funext i; simp
  simp only [e2]
  exact h.picks _

/-- a bound of a slice -/
def wpB (B : Bs) (G : Glb) (d : Nat) (loc : Loc) (e : Option Expr) (Q : Option Int → Objs → Prop) (o : Objs) : Prop :=
  ∀ A env g s, AOk d A → EnvOk B G env → HR B g o s → FR g o env loc s.heap → wpT B (fun _ k v => IsPart v k) A (evalPart e env) Q g o s
theorem wpB.none {Q : Option Int → Objs → Prop} (h : Q none o) : wpB B G d loc none Q o := by
  intro A env g s hA E H F
  exact wpAny_pure (wpT.done H .none h)
theorem wpB.some {e : Expr} {Q : Option Int → Objs → Prop} (h : wpE B G d loc e (fun v o1 => ∃ i, v = .int i ∧ Q (some i) o1) o) : wpB B G d loc (some e) Q o := by
  intro A env g s hA E H F
  refine wpT.cps (h A env g s hA E H F) fun a a' g1 o1 s1 h1 e1 r1 q1 => ?_
  obtain ⟨i, rfl, q⟩ := q1
  simp only [VR] at r1
  obtain ⟨t, rfl⟩ := r1
  exact ⟨_, g1, o1, h1, e1, .int i t, q⟩

theorem subscripted_slice (lo hi st : Option Expr) (p : Pos) (a b : Value) : ∃ ops, subscripted (.Slice lo hi st p) false a b = operate ops (getItem a b) := by
  cases st
  · exact ⟨[b, a], rfl⟩
  · exact ⟨[a, b], rfl⟩

theorem wpE.slice {v : Expr} {lo hi st : Option Expr} {p p1 : Pos} (h : wpE B G d loc v (fun x => wpB B G d loc lo (fun i => wpB B G d loc hi (fun j => wpB B G d loc st (fun k o1 =>
      ∃ xs, asL o1 x = some xs ∧ xs.length ≤ sizeLine ∧ k ≠ some 0 ∧ NewL Q (pick xs i j k) o1)))) o) : wpE B G d loc (.Subscript v (.Slice lo hi st p1) p) Q o := by
  intro A env g s hA E H F
  refine Subscript_ (wpT.cps (h A env g s hA E H F) fun a a' g1 o1 s1 h1 e1 r1 q1 => ?_)
  refine wpAny_Slice (wpT.cps (q1 A env g1 s1 hA E h1 (F.ext e1)) fun i i' g2 o2 s2 h2 e2 r2 q2 =>
    wpT.cps (q2 A env g2 s2 hA E h2 (F.ext (e1.trans e2))) fun j j' g3 o3 s3 h3 e3 r3 q3 =>
    wpT.cps (q3 A env g3 s3 hA E h3 (F.ext ((e1.trans e2).trans e3))) fun k k' g4 o4 s4 h4 e4 r4 q4 => ?_)
  obtain ⟨xs, hx, hsz, hk, q⟩ := q4
  have r1' := VR.mono ((e2.trans e3).trans e4).gle _ _ r1
  obtain ⟨l, vs, rfl, hl, hv⟩ := asL_at h4 hx r1'
  obtain ⟨ops, hops⟩ := subscripted_slice lo hi st p1 (.ref l) (.ref s4.heap.objs.size)
  refine tail_any (Heap.IsList.typeIs (s := { s4 with heap := s4.heap.push { cls := .type "slice", data := .fields #[i', j', k'] } }) (hl.push _)) list_getitem_lookup ?_ hops
  refine wpAny_getItem_list_slice (hl.push _) (Heap.IsSliceOf.new ..) r2 r3 r4 hk ?_ (by simpa [hv.length] using hsz)
  have e5 : (slicePick vs.toArray i j k) = (slicePick vs.toArray i j k).toList.toArray := by simp
  refine Post.up (((e1.trans e2).trans e3).trans e4) ?_
  refine Post.lst (m := 0) h4 (fun b y e => Heap.get?_push_of_some _ (Heap.get?_push_of_some _ e)) (get_size1 _ _) ?_ (hv.pick i j k) q
  show _ = some ({ cls := .type "list", data := .seq _ _ } : Obj)
  rw [← e5]
  exact Heap.get?_push_size _ rfl

end

/-! storing a name -/
inductive Put (x : Str) (v : V) : Loc → Loc → Prop
  | head {ov r} : Put x v ((x, ov) :: r) ((x, some v) :: r)
  | tail {p r r'} : Put x v r r' → Put x v (p :: r) (p :: r')
theorem Put.keys {x : Str} {v : V} {l l' : Loc} (h : Put x v l l') : l'.map (·.1) = l.map (·.1) := by
  induction h with
  | head => rfl
  | tail _ ih => simp [ih]
theorem Put.has {x : Str} {v : V} {l l' : Loc} (h : Put x v l l') : ∃ ov, (x, ov) ∈ l := by
  induction h with
  | head => exact ⟨_, List.mem_cons_self⟩
  | tail _ ih => obtain ⟨ov, h⟩ := ih; exact ⟨ov, List.mem_cons_of_mem _ h⟩
theorem Put.mem {x : Str} {v : V} {l l' : Loc} (h : Put x v l l') (nd : (l.map (·.1)).Nodup) : ∀ p ∈ l', p = (x, some v) ∨ (p ∈ l ∧ p.1 ≠ x) := by
  induction h with
  | @head ov r =>
    intro p hp
    rcases List.mem_cons.mp hp with rfl | hp
    · exact .inl rfl
    · refine .inr ⟨List.mem_cons_of_mem _ hp, fun e => ?_⟩
      simp only [List.map_cons, List.nodup_cons] at nd
      exact nd.1 (e ▸ List.mem_map_of_mem hp)
  | @tail q r r' h ih =>
    intro p hp
    simp only [List.map_cons, List.nodup_cons] at nd
    rcases List.mem_cons.mp hp with rfl | hp
    · refine .inr ⟨List.mem_cons_self, fun e => ?_⟩
      obtain ⟨ov, h'⟩ := h.has
      exact nd.1 (e ▸ List.mem_map_of_mem (f := (·.1)) h')
    · rcases ih nd.2 p hp with e | ⟨e, e'⟩
      · exact .inl e
      · exact .inr ⟨List.mem_cons_of_mem _ e, e'⟩
inductive Puts : List Str → List V → Loc → Loc → Prop
  | nil {l} : Puts [] [] l l
  | cons {x v xs vs l l1 l2} : Put x v l l1 → Puts xs vs l1 l2 → Puts (x :: xs) (v :: vs) l l2

/-- the frame may write where its names stand -/
def WF (env : Env) (a : Addr) : Prop := a = env.locals ∨ ∃ p ∈ env.cells, p.2 = a

structure ExtW (W : Addr → Prop) (g : Gh) (o : Objs) (h : Heap) (g' : Gh) (o' : Objs) (h' : Heap) : Prop where
  gle : Gle g g'
  newZ : ∀ a x, g'.Z a = some x → g.Z a = some x ∨ Owned g o a ∨ W a ∨ h.get? a = none
  keep : ∀ a x, ¬ Owned g o a → ¬ W a → h.get? a = some x → h'.get? a = some x
  own : ∀ a, Owned g' o' a → Owned g o a ∨ W a ∨ h.get? a = none
theorem Gle.trans {g g1 g2 : Gh} (a : Gle g g1) (b : Gle g1 g2) : Gle g g2 :=
  ⟨Nat.le_trans a.next b.next, fun n hn => (b.rho n (Nat.lt_of_lt_of_le hn a.next)).trans (a.rho n hn), fun x y e => b.Z _ _ (a.Z _ _ e)⟩
theorem Gle.refl (g : Gh) : Gle g g := ⟨Nat.le_refl _, fun _ _ => rfl, fun _ _ e => e⟩
theorem Ext.w {W : Addr → Prop} {g : Gh} {o : Objs} {h : Heap} {g' : Gh} {o' : Objs} {h' : Heap} (e : Ext g o h g' o' h') : ExtW W g o h g' o' h' :=
  ⟨e.gle, fun a x z => (e.newZ a x z).imp id (Or.imp id .inr), fun a x n _ z => e.keep a x n z, fun a q => (e.own a q).imp id .inr⟩
theorem ExtW.old {W : Addr → Prop} {g g1 : Gh} {o o1 : Objs} {h h1 : Heap} (a : ExtW W g o h g1 o1 h1) {x : Addr} (q : h1.get? x = none) : Owned g o x ∨ W x ∨ h.get? x = none := by
  by_cases hx : Owned g o x
  · exact .inl hx
  · by_cases hw : W x
    · exact .inr (.inl hw)
    · cases e : h.get? x with
      | none => exact .inr (.inr rfl)
      | some y => rw [a.keep _ _ hx hw e] at q; cases q
theorem ExtW.trans {W : Addr → Prop} {g g1 g2 : Gh} {o o1 o2 : Objs} {h h1 h2 : Heap} (a : ExtW W g o h g1 o1 h1) (b : ExtW W g1 o1 h1 g2 o2 h2) : ExtW W g o h g2 o2 h2 where
  gle := a.gle.trans b.gle
  newZ := fun x y e => by
    rcases b.newZ _ _ e with e | e | e | e
    · exact a.newZ _ _ e
    · exact .inr (a.own _ e)
    · exact .inr (.inr (.inl e))
    · exact .inr (a.old e)
  keep := fun x y hx hw e => b.keep _ _ (fun q => by
    rcases a.own _ q with q | q | q
    · exact hx q
    · exact hw q
    · rw [e] at q; cases q) hw (a.keep _ _ hx hw e)
  own := fun x q => by
    rcases b.own _ q with q | q | q
    · exact a.own _ q
    · exact .inr (.inl q)
    · exact a.old q

/-- what stands fast of a def's frame -/
structure EnvS (sc : Scope) (loc : Loc) (env : Env) : Prop where
  scope : env.scope = sc
  nd : (loc.map (·.1)).Nodup
  cells : (env.cells.map (·.2)).Nodup

theorem nodup_snd_inj {l : List (Str × Addr)} (nd : (l.map (·.2)).Nodup) : ∀ {p q : Str × Addr}, p ∈ l → q ∈ l → p.2 = q.2 → p = q := by
  induction l with
  | nil => intro p q h; cases h
  | cons x r ih =>
    intro p q hp hq e
    simp only [List.map_cons, List.nodup_cons] at nd
    rcases List.mem_cons.mp hp with e1 | hp1 <;> rcases List.mem_cons.mp hq with e2 | hq1
    · rw [e1, e2]
    · exact absurd (List.mem_map.mpr ⟨q, hq1, by rw [← e1]; exact e.symm⟩) nd.1
    · exact absurd (List.mem_map.mpr ⟨p, hp1, by rw [← e2]; exact e⟩) nd.1
    · exact ih nd.2 hp1 hq1 e

inductive Fl where
  | next | brk | ret (v : V)
def RFl (g : Gh) : Fl → Flow → Prop
  | .next, f => f = .next
  | .brk, f => f = .brk
  | .ret v, f => ∃ v', f = .ret v' ∧ VR g v v'

def PostS (B : Bs) (env : Env) {α β : Type} (R : Gh → β → α → Prop) (Q : β → Loc → Objs → Prop) (g : Gh) (o : Objs) (loc : Loc) (h : Heap) (a : α) (s' : Shared) : Prop :=
  ∃ b loc' g' o', HR B g' o' s' ∧ ExtW (WF env) g o h g' o' s'.heap ∧ FR g' o' env loc' s'.heap ∧ loc'.map (·.1) = loc.map (·.1) ∧ R g' b a ∧ Q b loc' o'

theorem PostS.up {B : Bs} {env : Env} {α β : Type} {R : Gh → β → α → Prop} {Q : β → Loc → Objs → Prop} {g g1 : Gh} {o o1 : Objs} {loc loc1 : Loc} {h h1 : Heap} {a : α} {s' : Shared}
    (E : ExtW (WF env) g o h g1 o1 h1) (el : loc1.map (·.1) = loc.map (·.1)) (p : PostS B env R Q g1 o1 loc1 h1 a s') : PostS B env R Q g o loc h a s' :=
  let ⟨b, l2, g2, o2, a1, a2, a3, a4, a5, a6⟩ := p; ⟨b, l2, g2, o2, a1, E.trans a2, a3, a4.trans el, a5, a6⟩

/-- statements -/
def wpS (B : Bs) (G : Glb) (d : Nat) (sc : Scope) (loc : Loc) (b : List Stmt) (Q : Fl → Loc → Objs → Prop) (o : Objs) : Prop :=
  ∀ A env g s, AOk d A → EnvOk B G env → EnvS sc loc env → HR B g o s → FR g o env loc s.heap → wpAny (model B.prog B.w) A (execs b env) (PostS B env RFl Q g o loc s.heap) noE s
/-- one statement -/
def wpX (B : Bs) (G : Glb) (d : Nat) (sc : Scope) (loc : Loc) (b : Stmt) (Q : Fl → Loc → Objs → Prop) (o : Objs) : Prop :=
  ∀ A env g s, AOk d A → EnvOk B G env → EnvS sc loc env → HR B g o s → FR g o env loc s.heap → wpAny (model B.prog B.w) A (exec b env) (PostS B env RFl Q g o loc s.heap) noE s
/-- a store into a target -/
def wpA (B : Bs) (G : Glb) (d : Nat) (sc : Scope) (loc : Loc) (t : Expr) (x : V) (Q : Loc → Objs → Prop) (o : Objs) : Prop :=
  ∀ A env g s v, AOk d A → EnvOk B G env → EnvS sc loc env → HR B g o s → FR g o env loc s.heap → VR g x v → wpAny (model B.prog B.w) A (assign t env v) (PostS B env RUnit (fun _ => Q) g o loc s.heap) noE s

section
variable {B : Bs} {G : Glb} {d : Nat} {sc : Scope} {loc : Loc} {g : Gh} {o : Objs} {s : Shared}

theorem EnvS.same {loc' : Loc} {env : Env} (E : EnvS sc loc env) (h : loc'.map (·.1) = loc.map (·.1)) : EnvS sc loc' env := ⟨E.scope, by rw [h]; exact E.nd, E.cells⟩

/-- the store of a name of the frame -/
theorem store_name {A : Around} {env : Env} {x : Str} {v : V} {v' : Value} {loc' : Loc} {P : Unit → Shared → Prop} (E : EnvOk B G env) (ES : EnvS sc loc env) (H : HR B g o s) (F : FR g o env loc s.heap) (r : VR g v v') (hp : Put x v loc loc')
    (k : ∀ h' n, HR B g o { s with heap := h', toks := n } → ExtW (WF env) g o s.heap g o h' → FR g o env loc' h' → P () { s with heap := h', toks := n }) :
    wpAny (model B.prog B.w) A (storeName env x v') P noE s := by
  obtain ⟨m, hn, hv⟩ := F.ns
  obtain ⟨ov, hx⟩ := hp.has
  obtain ⟨d1, d2, kk⟩ := hv _ hx
  have hm := hp.mem ES.nd
  -- the end, whichever place was written
  have fin : ∀ h' n c, WF env c → Heap.SameBut c s.heap h' → (∃ y, s.heap.get? c = some y) → ¬ Owned g o c → g.Z c = none → FR g o env loc' h' → P () { s with heap := h', toks := n } := by
    intro h' n c hw hs hc ho hz F'
    have kp : ∀ a y, a ≠ c → s.heap.get? a = some y → h'.get? a = some y := fun a y ha e => (hs.2 a ha).trans e
    refine k h' n ⟨fun a y e => kp _ _ (fun q => by subst q; rw [hz] at e; cases e) (H.zin _ _ e), H.base,
      fun n y e => ⟨(H.live n y e).1, (H.live n y e).2.keep fun a ha z => kp a z fun q => ho ⟨n, y, e, q ▸ ha⟩⟩, H.sep, H.apart, H.gens, H.os⟩
      ⟨Gle.refl _, fun _ _ e => .inl e, fun a y _ hnw e => kp _ _ (fun q => hnw (q ▸ hw)) e, fun _ e => .inl e⟩ F'
  rcases kk with ⟨k1, k2⟩ | ⟨k1, c, w, k2, k3, k4⟩
  · refine wpAny_storeName_local k1 hn (fun h' hn' hs' => ?_) (by rw [E.kind]; rfl)
    obtain ⟨oL, _, _, hoL, _⟩ := id hn
    refine fin h' _ env.locals (.inl rfl) hs' ⟨_, hoL⟩ F.free F.noZ ⟨F.free, F.noZ, ⟨_, hn', fun p hp' => ?_⟩, fun p hp' => ?_⟩
    · rcases hm p hp' with rfl | ⟨h1, h2⟩
      · exact ⟨d1, d2, .inl ⟨k1, fun u hu => by cases hu; exact ⟨v', by simp, r⟩⟩⟩
      · obtain ⟨e1, e2, e3⟩ := hv p h1
        refine ⟨e1, e2, ?_⟩
        rcases e3 with ⟨e3, e4⟩ | ⟨e3, c, w, e4, e5, e6⟩
        · exact .inl ⟨e3, fun u hu => let ⟨u', a, b⟩ := e4 u hu; ⟨u', by simpa [h2] using a, b⟩⟩
        · obtain ⟨y, hy, hd⟩ := e5
          exact .inr ⟨e3, c, w, e4, ⟨y, (hs'.2 c (F.cfree _ (mem_of_look e4)).2.2.1).trans hy, hd⟩, e6⟩
    · obtain ⟨c1, c2, c3, y, c4⟩ := F.cfree p hp'
      exact ⟨c1, c2, c3, y, (hs'.2 _ c3).trans c4⟩
  · have hc := mem_of_look k2
    obtain ⟨f1, f2, f3, y, f4⟩ := F.cfree _ hc
    have go : ∀ h', h'.IsCell c (some v') → Heap.SameBut c s.heap h' → P () { s with heap := h' } := fun h' hcell hs' => by
      refine fin h' s.toks c (.inr ⟨_, hc, rfl⟩) hs' ⟨y, f4⟩ f1 f2 ⟨F.free, F.noZ, ⟨m, ?_, fun p hp' => ?_⟩, fun p hp' => ?_⟩
      · exact hn.sameBut hs' (Ne.symm f3)
      · rcases hm p hp' with rfl | ⟨h1, h2⟩
        · exact ⟨d1, d2, .inr ⟨k1, c, _, k2, hcell, fun u hu => by cases hu; exact ⟨v', rfl, r⟩⟩⟩
        · obtain ⟨e1, e2, e3⟩ := hv p h1
          refine ⟨e1, e2, ?_⟩
          rcases e3 with e3 | ⟨e3, c', w', e4, e5, e6⟩
          · exact .inl e3
          · obtain ⟨z, hz, hd⟩ := e5
            have hne : c' ≠ c := fun q => by
              have := nodup_snd_inj ES.cells (mem_of_look e4) hc q
              exact h2 (congrArg Prod.fst this)
            exact .inr ⟨e3, c', w', e4, ⟨z, (hs'.2 c' hne).trans hz, hd⟩, e6⟩
      · obtain ⟨c1, c2, c3, z, c4⟩ := F.cfree p hp'
        by_cases q : p.2 = c
        · obtain ⟨z', hz', _⟩ := id hcell
          exact ⟨c1, c2, c3, z', by rw [q]; exact hz'⟩
        · exact ⟨c1, c2, c3, z, (hs'.2 _ q).trans c4⟩
    rcases k1 with k1 | k1
    · exact wpAny_storeName_cell E.kind k1 k2 k3 go
    · exact storeName_free E.kind k1 k2 k3 go

theorem wpA.name {x : Str} {p : Pos} {v : V} {loc' : Loc} {Q : Loc → Objs → Prop} (hp : Put x v loc loc') (q : Q loc' o) : wpA B G d sc loc (.Name x p) v Q o := by
  intro A env g s v' hA E ES H F r
  exact assign_Name (store_name E ES H F r hp fun h' n H' E' F' => ⟨(), loc', g, o, H', E', F', hp.keys, trivial, q⟩)
end

section
variable {B : Bs} {G : Glb} {d : Nat} {sc : Scope} {loc : Loc} {g : Gh} {o : Objs} {s : Shared} {Q : Fl → Loc → Objs → Prop}

theorem PostS.done {env : Env} {α β : Type} {R : Gh → β → α → Prop} {Q : β → Loc → Objs → Prop} {b : β} {a : α} (H : HR B g o s) (F : FR g o env loc s.heap) (r : R g b a) (q : Q b loc o) : PostS B env R Q g o loc s.heap a s :=
  ⟨b, loc, g, o, H, (Ext.refl _ _ _).w, F, rfl, r, q⟩

theorem wpS.nil (h : Q .next loc o) : wpS B G d sc loc [] Q o := by
  intro A env g s hA E ES H F
  exact wpAny_execs_nil (PostS.done (b := Fl.next) H F (by simp [RFl]) h)
theorem wpS.cons {st : Stmt} {r : List Stmt} (h : wpX B G d sc loc st (fun f l1 o1 => match f with | .next => wpS B G d sc l1 r Q o1 | f => Q f l1 o1) o) : wpS B G d sc loc (st :: r) Q o := by
  intro A env g s hA E ES H F
  refine wpAny_execs_cons (wpAny_mono (h A env g s hA E ES H F) (fun f s1 p => ?_) fun _ _ e => e)
  obtain ⟨fl, l1, g1, o1, H1, E1, F1, k1, r1, q1⟩ := p
  cases fl with
  | next =>
    simp only [RFl] at r1; subst r1
    exact wpAny_mono (q1 A env g1 s1 hA E (ES.same k1) H1 F1) (fun f s2 p => PostS.up E1 k1 p) fun _ _ e => e
  | brk =>
    simp only [RFl] at r1; subst r1
    exact ⟨.brk, l1, g1, o1, H1, E1, F1, k1, rfl, q1⟩
  | ret v =>
    simp only [RFl] at r1; obtain ⟨v', rfl, hv⟩ := r1
    exact ⟨.ret v, l1, g1, o1, H1, E1, F1, k1, ⟨v', rfl, hv⟩, q1⟩

theorem wpX.assign {x : Str} {p pos : Pos} {e : Expr} (h : wpE B G d loc e (fun v o1 => ∃ l', Put x v loc l' ∧ Q .next l' o1) o)
    (hs : ∀ env, swapsWith e (some (.Name x p)) pos.line env = pure false := by intro _; with_unfolding_all rfl) : wpX B G d sc loc (.Assign [.Name x p] e pos) Q o := by
  intro A env g s hA E ES H F
  refine wpAny_Assign_Name (wpT.cps (h A env g s hA E H F) fun v v' g1 o1 s1 h1 e1 r1 q1 => ?_) (hs env)
  obtain ⟨l', hp, q⟩ := q1
  exact store_name E ES h1 (F.ext e1) r1 hp fun h' n H' E' F' => ⟨.next, l', g1, o1, H', e1.w.trans E', F', hp.keys, rfl, q⟩

theorem wpX.ifs {t : Expr} {b e : List Stmt} {p : Pos} (h : wpC B G d loc t (fun c o1 => if c then wpS B G d sc loc b Q o1 else wpS B G d sc loc e Q o1) o) : wpX B G d sc loc (.If t b e p) Q o := by
  intro A env g s hA E ES H F
  refine wpAny_If (wpT.cps (h A env g s hA E H F) fun c c' g1 o1 s1 h1 e1 r1 q1 => ?_)
  simp only [RBool] at r1; subst r1
  cases c' <;> exact wpAny_mono (q1 A env g1 s1 hA E ES h1 (F.ext e1)) (fun _ _ p => PostS.up e1.w rfl p) fun _ _ e => e

theorem wpX.ret {e : Expr} {p : Pos} (h : wpE B G d loc e (fun v o1 => Q (.ret v) loc o1) o) : wpX B G d sc loc (.Return (some e) p) Q o := by
  intro A env g s hA E ES H F
  refine wpAny_Return_some (wpT.cps (h A env g s hA E H F) fun v v' g1 o1 s1 h1 e1 r1 q1 => ?_)
  exact ⟨.ret v, loc, g1, o1, h1, e1.w, F.ext e1, rfl, ⟨v', rfl, r1⟩, q1⟩
theorem wpX.brk {p : Pos} (h : Q .brk loc o) : wpX B G d sc loc (.Break p) Q o := by
  intro A env g s hA E ES H F
  exact wpAny_Break (PostS.done (b := Fl.brk) H F (by simp [RFl]) h)

theorem interactive_of {env : Env} (h : env.scope.kind = .function) : interactive env = false := by
  unfold interactive; rw [h]; rfl
theorem wpX.expr {e : Expr} {p : Pos} (h : wpE B G d loc e (fun v o1 => v = .none ∧ Q .next loc o1) o)
    (hs : ∀ env, swapsWith e none p.line env = pure false := by intro _; with_unfolding_all rfl) : wpX B G d sc loc (.Expr e p) Q o := by
  intro A env g s hA E ES H F
  refine wpAny_Expr (wpT.cps (h A env g s hA E H F) fun v v' g1 o1 s1 h1 e1 r1 q1 => ?_) (interactive_of E.kind) (hs env)
  obtain ⟨rfl, q⟩ := q1
  simp only [VR] at r1; subst r1
  exact ⟨.next, loc, g1, o1, h1, e1.w, F.ext e1, rfl, rfl, q⟩

/-- an operation without a value -/
def wpO3U (B : Bs) (d : Nat) (f : Value → Value → Value → Sem Unit) (x y z : V) (Q : Objs → Prop) (o : Objs) : Prop :=
  ∀ A g s v u w, AOk d A → HR B g o s → VR g x v → VR g y u → VR g z w → wpT B RUnit A (f v u w) (fun _ => Q) g o s

theorem wpX.setitem {t i e : Expr} {p pos : Pos} (h : wpE B G d loc e (fun v => wpE B G d loc t (fun x => wpE B G d loc i (fun y => wpO3U B d setItem x y v (Q .next loc)))) o)
    (hs : ∀ env, swapsWith e (some (.Subscript t i p)) pos.line env = pure false := by intro _; with_unfolding_all rfl) : wpX B G d sc loc (.Assign [.Subscript t i p] e pos) Q o := by
  intro A env g s hA E ES H F
  refine wpAny_Assign_Subscript (wpT.cps (h A env g s hA E H F) fun v v' g1 o1 s1 h1 e1 r1 q1 => wpT.cps (q1 A env g1 s1 hA E h1 (F.ext e1)) fun x x' g2 o2 s2 h2 e2 r2 q2 =>
    wpT.cps (q2 A env g2 s2 hA E h2 (F.ext (e1.trans e2))) fun y y' g3 o3 s3 h3 e3 r3 q3 =>
    wpT.cps (q3 A g3 s3 _ _ _ hA h3 (VR.mono e3.gle _ _ r2) r3 (VR.mono (e2.trans e3).gle _ _ r1)) fun _ _ g4 o4 s4 h4 e4 _ q4 => ?_) (hs env)
  have ee := ((e1.trans e2).trans e3).trans e4
  exact ⟨.next, loc, g4, o4, h4, ee.w, F.ext ee, rfl, rfl, q4⟩

theorem wpX.augname {x : Str} {p pos : Pos} {op : Operator} {e : Expr} {v : V} (hx : (x, some v) ∈ loc) (h : wpE B G d loc e (fun u => wpO2 B d (inplaceOp op) v u (fun r o1 => ∃ l', Put x r loc l' ∧ Q .next l' o1)) o) :
    wpX B G d sc loc (.AugAssign (.Name x p) op e pos) Q o := by
  intro A env g s hA E ES H F
  have ld : wpT B VR A (loadName env x) (fun r o1 => r = v ∧ o1 = o) g o s := by
    obtain ⟨m, hn, hv⟩ := F.ns
    obtain ⟨d1, d2, k⟩ := hv _ hx
    rcases k with ⟨k1, k2⟩ | ⟨k1, c, w, k2, k3, k4⟩
    · obtain ⟨v', a, b⟩ := k2 v rfl
      exact wpAny_loadName_local E.kind k1 hn a (wpT.done H b ⟨rfl, rfl⟩)
    · obtain ⟨v', a, b⟩ := k4 v rfl
      subst a
      rcases k1 with k1 | k1
      · exact wpAny_loadName_cell E.kind k1 k2 k3 (wpT.done H b ⟨rfl, rfl⟩)
      · exact wpAny_loadName_free E.kind k1 k2 k3 (wpT.done H b ⟨rfl, rfl⟩) d2
  refine wpAny_AugAssign_Name (wpT.cps ld fun r r' g1 o1 s1 h1 e1 r1 q1 => ?_)
  obtain ⟨rfl, rfl⟩ := q1
  refine wpT.cps (h A env g1 s1 hA E h1 (F.ext e1)) fun u u' g2 o2 s2 h2 e2 r2 q2 => wpT.cps (q2 A g2 s2 _ _ hA h2 (VR.mono e2.gle _ _ r1) r2) fun y y' g3 o3 s3 h3 e3 r3 q3 => ?_
  obtain ⟨l', hp, q⟩ := q3
  have ee := (e1.trans e2).trans e3
  exact store_name E ES h3 (F.ext ee) r3 hp fun h' n H' E' F' => ⟨.next, l', g3, o3, H', ee.w.trans E', F', hp.keys, rfl, q⟩

/-- += on ints -/
theorem wpO2.iadd {a b : Int} {Q : V → Objs → Prop} (h : Q (.int (a + b)) o) : wpO2 B d (inplaceOp .Add) (.int a) (.int b) Q o := by
  intro A g s v u hA H h1 h2
  simp only [VR] at h1 h2
  obtain ⟨t, rfl⟩ := h1; obtain ⟨t', rfl⟩ := h2
  exact iadd_int (wpT.doneT H (by simp [VR]) h)
theorem wpO2.isub {a b : Int} {Q : V → Objs → Prop} (h : Q (.int (a - b)) o) : wpO2 B d (inplaceOp .Sub) (.int a) (.int b) Q o := by
  intro A g s v u hA H h1 h2
  simp only [VR] at h1 h2
  obtain ⟨t, rfl⟩ := h1; obtain ⟨t', rfl⟩ := h2
  exact P.isub_int (wpT.doneT H (by simp [VR]) h)

/-! tuples taken apart -/
def namesOf : List Expr → Option (List Str)
  | [] => some []
  | .Name x _ :: r => (namesOf r).map (x :: ·)
  | _ => none

theorem names_in_order {A : Around} {env : Env} : ∀ {elts : List Expr} {names : List Str} {xs : List V} {vs : List Value} {g : Gh} {o : Objs} {s : Shared} {loc l' : Loc} {P : Unit → Shared → Prop}, namesOf elts = some names → EnvOk B G env → EnvS sc loc env → HR B g o s → FR g o env loc s.heap →
    VRs g xs vs → Puts names xs loc l' → (∀ h' n, HR B g o { s with heap := h', toks := n } → ExtW (WF env) g o s.heap g o h' → FR g o env l' h' → l'.map (·.1) = loc.map (·.1) → P () { s with heap := h', toks := n }) →
    wpAny (model B.prog B.w) A (assignInOrder ((assignEach elts env).map (·.2)) vs) P noE s
  | [], names, xs, vs, g, o, s, loc, l', P, hn, E, ES, H, F, r, hp, k => by
    simp [namesOf] at hn; subst hn
    cases hp
    exact assignInOrder_nil (by simpa using k s.heap s.toks H (Ext.refl _ _ _).w F rfl)
  | e :: elts, names, xs, vs, g, o, s, loc, l', P, hn, E, ES, H, F, r, hp, k => by
    cases e with
    | Name x p =>
      simp only [namesOf, Option.map_eq_some_iff] at hn
      obtain ⟨ns, hns, rfl⟩ := hn
      cases hp with
      | cons hp hps =>
        simp only [VRs] at r
        obtain ⟨v', r', rfl, h1, h2⟩ := r
        refine assignInOrder_cons (assign_Name (store_name E ES H F h1 hp fun h' n H' E' F' => ?_))
        exact names_in_order hns E (ES.same hp.keys) H' F' h2 hps fun h2 n2 H2 E2 F2 k2 => k h2 n2 H2 (E'.trans E2) F2 (k2.trans hp.keys)
    | _ => simp [namesOf] at hn
theorem namesOf_each {env : Env} : ∀ {elts : List Expr} {names : List Str}, namesOf elts = some names → (assignEach elts env).length = names.length ∧ (assignEach elts env).findIdx? (·.1) = none
  | [], names, h => by simp [namesOf] at h; subst h; exact ⟨rfl, rfl⟩
  | e :: elts, names, h => by
    cases e with
    | Name x p =>
      simp only [namesOf, Option.map_eq_some_iff] at h
      obtain ⟨ns, hns, rfl⟩ := h
      obtain ⟨a, b⟩ := namesOf_each (env := env) hns
      have e : assignEach (.Name x p :: elts) env = (false, assign (.Name x p) env) :: assignEach elts env := rfl
      rw [e]
      exact ⟨by simp [a], by simp [List.findIdx?_cons, b]⟩
    | _ => simp [namesOf] at h
theorem Puts.len {names : List Str} {xs : List V} {l l' : Loc} (h : Puts names xs l l') : names.length = xs.length := by
  induction h with
  | nil => rfl
  | cons _ _ ih => simp [ih]

theorem wpA.tup {elts : List Expr} {k : Nat} {p : Pos} {names : List Str} {xs : List V} {l' : Loc} {Q : Loc → Objs → Prop} (hn : namesOf elts = some names) (hp : Puts names xs loc l') (q : Q l' o) : wpA B G d sc loc (.Tuple elts k p) (.tup xs) Q o := by
  intro A env g s v' hA E ES H F r
  obtain ⟨a, vs, rfl, ht, hv⟩ := asT_at H r
  obtain ⟨e1, e2⟩ := namesOf_each (env := env) hn
  refine wpAny_assign_Tuple hA.1 ht (by rw [e1, hp.len]; simp [hv.length]) e2 fun h' he => ?_
  have kp : ∀ b y, s.heap.get? b = some y → h'.get? b = some y := fun b y e => he b y (Nat.ne_of_lt (Heap.lt_size e)) e
  obtain ⟨H1, E1⟩ := H.grow (n := s.toks) kp
  refine names_in_order hn E ES H1 (F.ext E1) hv hp fun h2 n2 H2 E2 F2 k2 => ?_
  exact ⟨(), l', g, o, H2, E1.w.trans E2, F2, k2, trivial, q⟩

theorem swapped_env (ts : List Expr) (v : Expr) (env : Env) : swappedStores ts v env = swappedStores ts v { (default : Env) with scope := env.scope } := rfl
theorem swapsWith_env (v : Expr) (t : Option Expr) (n : Nat) (env : Env) : swapsWith v t n env = swapsWith v t n { (default : Env) with scope := env.scope } := rfl

theorem wpX.tup {elts : List Expr} {k : Nat} {p pos : Pos} {e : Expr} {names : List Str} (h : wpE B G d loc e (fun v o1 => ∃ xs l', v = .tup xs ∧ Puts names xs loc l' ∧ Q .next l' o1) o) (hn : namesOf elts = some names)
    (hw : swappedStores [.Tuple elts k p] e { (default : Env) with scope := sc } = pure none) (hs : ∀ env, swapsWithSole [.Tuple elts k p] e pos.line env = pure false := by intro _; with_unfolding_all rfl) : wpX B G d sc loc (.Assign [.Tuple elts k p] e pos) Q o := by
  intro A env g s hA E ES H F
  refine Assign_Tuple (wpT.cps (h A env g s hA E H F) fun v v' g1 o1 s1 h1 e1 r1 q1 => ?_) (hs env) (by rw [swapped_env, ES.scope]; exact hw)
  obtain ⟨xs, l', rfl, hp, q⟩ := q1
  refine wpAny_mono (wpA.tup (k := k) (p := p) hn hp (Q := Q .next) q A env g1 s1 v' hA E ES h1 (F.ext e1) r1) (fun _ s2 p2 => ?_) fun _ _ e => e
  obtain ⟨_, l2, g2, o2, a1, a2, a3, a4, _, a6⟩ := p2
  exact ⟨.next, l2, g2, o2, a1, e1.w.trans a2, a3, a4, rfl, a6⟩

theorem bind_in_order {A : Around} {env : Env} : ∀ {names : List Str} {xs : List V} {vs : List Value} {g : Gh} {o : Objs} {s : Shared} {loc l' : Loc} {P : Unit → Shared → Prop}, EnvOk B G env → EnvS sc loc env → HR B g o s → FR g o env loc s.heap →
    VRs g xs vs → Puts names xs loc l' → (∀ h' n, HR B g o { s with heap := h', toks := n } → ExtW (WF env) g o s.heap g o h' → FR g o env l' h' → l'.map (·.1) = loc.map (·.1) → P () { s with heap := h', toks := n }) →
    wpAny (model B.prog B.w) A (assignInOrder (names.map fun n => bindName env n) vs) P noE s
  | [], xs, vs, g, o, s, loc, l', P, E, ES, H, F, r, hp, k => by
    cases hp
    exact assignInOrder_nil (by simpa using k s.heap s.toks H (Ext.refl _ _ _).w F rfl)
  | x :: names, xs, vs, g, o, s, loc, l', P, E, ES, H, F, r, hp, k => by
    cases hp with
    | cons hp hps =>
      simp only [VRs] at r
      obtain ⟨v', r', rfl, h1, h2⟩ := r
      refine assignInOrder_cons (bindName_ (store_name E ES H F h1 hp fun h' n H' E' F' => ?_))
      exact bind_in_order E (ES.same hp.keys) H' F' h2 hps fun h2 n2 H2 E2 F2 k2 => k h2 n2 H2 (E'.trans E2) F2 (k2.trans hp.keys)

/-- names that are stored from the last to the first -/
theorem wpX.tupS {elts : List Expr} {k : Nat} {p pos : Pos} {e : Expr} {names : List Str} (h : wpE B G d loc e (fun v o1 => ∃ xs l', v = .tup xs ∧ Puts names.reverse xs.reverse loc l' ∧ Q .next l' o1) o)
    (hw : swappedStores [.Tuple elts k p] e { (default : Env) with scope := sc } = pure (some names)) (hs : ∀ env, swapsWithSole [.Tuple elts k p] e pos.line env = pure false := by intro _; with_unfolding_all rfl) : wpX B G d sc loc (.Assign [.Tuple elts k p] e pos) Q o := by
  intro A env g s hA E ES H F
  refine Assign_Tuple_swapped (names := names) (wpT.cps (h A env g s hA E H F) fun v v' g1 o1 s1 h1 e1 r1 q1 => ?_) (hs env) (by rw [swapped_env, ES.scope]; exact hw)
  obtain ⟨xs, l', rfl, hp, q⟩ := q1
  obtain ⟨a, vs, rfl, ht, hv⟩ := asT_at h1 r1
  have hl := hp.len
  simp only [List.length_reverse] at hl
  have e3 : names.length = vs.toArray.size := by rw [hl]; simp [hv.length]
  rw [e3]
  refine unpackItems_tuple hA.1 ht fun h' he => ?_
  have kp : ∀ b y, s1.heap.get? b = some y → h'.get? b = some y := fun b y e => he b y (Nat.ne_of_lt (Heap.lt_size e)) e
  obtain ⟨H1, E1⟩ := h1.grow (n := s1.toks) kp
  refine bind_in_order E ES H1 (F.ext (e1.trans E1)) hv.reverse hp fun h2 n2 H2 E2 F2 k2 => ?_
  exact ⟨.next, l', g1, o1, H2, (e1.trans E1).w.trans E2, F2, k2, rfl, q⟩
end

def itV : V → Option (List V)
  | .lst xs => some xs
  | .tup xs => some xs
  | .rng lo hi => some ((List.range (hi - lo).toNat).map fun i => .int (lo + (i : Nat)))
  | .str s => some (s.cps.toList.map fun c => .str ⟨#[c]⟩)
  | _ => none
/-- a range's ends are small -/
def rngOk : V → Prop
  | .rng lo hi => -(2 ^ 40) ≤ lo ∧ lo ≤ 2 ^ 40 ∧ -(2 ^ 40) ≤ hi ∧ hi ≤ 2 ^ 40
  | _ => True

structure Iter (B : Bs) (g : Gh) (s : Shared) (xs : List V) (tgt : Expr) (I : Addr) (fp wr : List Addr) (P : Nat → Value → Prop) (St : Nat → Heap → Prop) (h' : Heap) : Prop where
  walks : ∀ A, A.handled = none → Walks B.prog B.w A I fp wr xs.length P St
  item : ∀ i u, i < xs.length → P i u → ∃ y, xs[i]? = some y ∧ VR g y u
  start : St 0 h'
  fresh : ∀ b ∈ wr, s.heap.get? b = none
  here : ∀ i h, St i h → ∀ b ∈ wr, ∃ z, h.get? b = some z
  held : ∀ b ∈ fp, b ∈ wr ∨ ∃ z, g.Z b = some z
  grow : ∀ b y, s.heap.get? b = some y → h'.get? b = some y
  go : ∀ A i s' v (Q : Unit → Shared → Prop), St i s'.heap → Q () s' → wpAny (model B.prog B.w) A (letOwnedTupleGo tgt (.ref I) v) Q noE s'

/-- the target asks nothing of the iterator -/
def plainT : Expr → Bool
  | .Tuple .. => false
  | .List .. => false
  | _ => true
theorem letGo_plain {t : Expr} (h : plainT t = true) (it v : Value) : letOwnedTupleGo t it v = pure () := by
  cases t <;> first | rfl | cases h

section
variable {B : Bs} {G : Glb} {d : Nat} {sc : Scope} {loc : Loc} {g : Gh} {o : Objs} {s : Shared}

theorem rangeSize_one (a b : Int) : PySem.Builtin.Range.rangeSize a b 1 = ((b - a).toNat : Int) := by
  unfold PySem.Builtin.Range.rangeSize
  split <;> (try split) <;> first | omega | (simp; omega) | skip

theorem iter_of {A : Around} {x : V} {v : Value} {xs : List V} {t : Expr} {P : Value → Shared → Prop} (hA : A.handled = none) (H : HR B g o s) (hi : itV x = some xs) (hr : rngOk x) (ht : plainT t = true ∨ ∃ ys, x = .lst ys) (r : VR g x v)
    (k : ∀ I fp wr Pt St h', Iter B g s xs t I fp wr Pt St h' → P (.ref I) { s with heap := h' }) : wpAny (model B.prog B.w) A (pyIter v) P noE s := by
  have pl : plainT t = true → ∀ A (s' : Shared) I v (Q : Unit → Shared → Prop), Q () s' → wpAny (model B.prog B.w) A (letOwnedTupleGo t (.ref I) v) Q noE s' := fun h A s' I v Q q => by
    rw [letGo_plain h]; exact wpAny_pure q
  cases x with
  | lst ys =>
    simp only [itV, Option.some.injEq] at hi; subst hi
    simp only [VR] at r
    obtain ⟨a, vs, y, rfl, hz, ⟨h1, n, h2⟩, h3⟩ := r
    have hl : s.heap.IsList a vs.toArray := ⟨y, H.zin _ _ hz, h1, n, h2⟩
    have hlt := Heap.lt_size (H.zin _ _ hz)
    have hne : a ≠ s.heap.objs.size := Nat.ne_of_lt hlt
    refine wpAny_pyIter_list hl (k _ [s.heap.objs.size, a] [s.heap.objs.size] (fun i v => vs.toArray[i]? = some v) (fun i h => h.IsListIter s.heap.objs.size a i ∧ h.IsList a vs.toArray) _ ⟨fun A hA => ?_, fun i u hn hu => ?_, ?_, ?_, ?_, ?_, ?_, ?_⟩)
    · have := Walks.list (prog := B.prog) (w := B.w) hA s.heap.objs.size a hne vs.toArray
      have e : vs.toArray.size = ys.length := by simpa using h3.length
      rwa [e] at this
    · have hu' : vs[i]? = some u := by simpa using hu
      have hlen := h3.length
      have hlt : i < ys.length := by rw [← hlen]; exact (List.getElem?_eq_some_iff.mp hu').1
      obtain ⟨w, hw, hr⟩ := h3.get i ys[i] (by simp [hlt])
      rw [hu'] at hw; cases hw
      exact ⟨_, by simp [hlt], hr⟩
    · exact ⟨⟨_, Heap.get?_push_size _ rfl, rfl, rfl⟩, hl.push _⟩
    · intro b hb; simp at hb; subst hb; exact get_size _
    · intro i h st b hb; simp at hb; subst hb; obtain ⟨⟨z, hz, _⟩, _⟩ := st; exact ⟨z, hz⟩
    · intro b hb; simp at hb; rcases hb with rfl | rfl
      · exact .inl (by simp)
      · exact .inr ⟨_, hz⟩
    · intro b y e; exact Heap.get?_push_of_some _ e
    · intro A i s' v Q st q
      by_cases hp : plainT t = true
      · exact pl hp A s' _ v Q q
      · cases t with
        | Tuple elts k p =>
          cases v with
          | ref b => exact wpAny_letOwnedTupleGo_listiter st.1 q
          | _ => exact wpAny_pure q
        | List elts p =>
          obtain ⟨oo, ho, hc, hd⟩ := st.1
          show wpAny _ _ (match (Value.ref s.heap.objs.size, v) with | (.ref r, .ref a) => _ | _ => _) _ _ _
          cases v with
          | ref b =>
            refine wpAny_bind (wpAny_load ho ?_)
            rw [hc, hd]
            exact wpAny_pure q
          | _ => exact wpAny_pure q
        | _ => exact absurd rfl hp
  | tup ys =>
    have hp : plainT t = true := by rcases ht with ht | ⟨_, e⟩; exact ht; cases e
    simp only [itV, Option.some.injEq] at hi; subst hi
    simp only [VR] at r
    obtain ⟨a, vs, y, rfl, hz, rfl, h3⟩ := r
    have hl : s.heap.IsTuple a vs.toArray := ⟨_, H.zin _ _ hz, rfl, 0, rfl⟩
    have hlt := Heap.lt_size (H.zin _ _ hz)
    have hne : a ≠ s.heap.objs.size := Nat.ne_of_lt hlt
    refine wpAny_pyIter_tuple hl (k _ [s.heap.objs.size, a] [s.heap.objs.size] (fun i v => vs.toArray[i]? = some v) (fun i h => h.IsTupleIter s.heap.objs.size a i ∧ h.IsTuple a vs.toArray) _ ⟨fun A hA => ?_, fun i u hn hu => ?_, ?_, ?_, ?_, ?_, ?_, ?_⟩)
    · have := Walks.tuple (prog := B.prog) (w := B.w) hA s.heap.objs.size a hne vs.toArray
      have e : vs.toArray.size = ys.length := by simpa using h3.length
      rwa [e] at this
    · have hu' : vs[i]? = some u := by simpa using hu
      have hlen := h3.length
      have hlt : i < ys.length := by rw [← hlen]; exact (List.getElem?_eq_some_iff.mp hu').1
      obtain ⟨w, hw, hr⟩ := h3.get i ys[i] (by simp [hlt])
      rw [hu'] at hw; cases hw
      exact ⟨_, by simp [hlt], hr⟩
    · exact ⟨⟨_, Heap.get?_push_size _ rfl, rfl, rfl⟩, let ⟨o, ho, r⟩ := hl; ⟨o, Heap.get?_push_of_some _ ho, r⟩⟩
    · intro b hb; simp at hb; subst hb; exact get_size _
    · intro i h st b hb; simp at hb; subst hb; obtain ⟨⟨z, hz, _⟩, _⟩ := st; exact ⟨z, hz⟩
    · intro b hb; simp at hb; rcases hb with rfl | rfl
      · exact .inl (by simp)
      · exact .inr ⟨_, hz⟩
    · intro b y e; exact Heap.get?_push_of_some _ e
    · intro A i s' v Q st q; exact pl hp A s' _ v Q q
  | rng lo hi' =>
    have hp : plainT t = true := by rcases ht with ht | ⟨_, e⟩; exact ht; cases e
    simp only [itV, Option.some.injEq] at hi; subst hi
    simp only [VR] at r
    obtain ⟨a, t1, t2, t3, rfl, hz⟩ := r
    simp only [rngOk] at hr
    have hR : IsRange s.heap a lo hi' 1 t1 t2 t3 := H.zin _ _ hz
    have hsz := rangeSize_one lo hi'
    have small : PySem.Builtin.Range.small lo hi' 1 = true := by
      unfold PySem.Builtin.Range.small
      rw [hsz]
      rw [if_pos (show (1 : Int) > 0 by decide)]
      simp only [PySem.Builtin.Range.rangeFitsLong, Bool.and_eq_true, decide_eq_true_eq, Bool.or_eq_true, beq_iff_eq]
      omega
    refine wpAny_pyIter_range hR small (k _ [s.heap.objs.size] [s.heap.objs.size] (fun i v => ∃ t, v = .int (lo + i * 1) t) (fun i h => IsRangeIter h s.heap.objs.size (lo + (i : Nat) * 1) ((((List.range (hi' - lo).toNat).map fun i => V.int (lo + (i : Nat))).length : Int) - (i : Nat)) 1) _ ⟨fun A hA => ?_, fun i u hn hu => ?_, ?_, ?_, ?_, ?_, ?_, ?_⟩)
    · exact Walks.range (prog := B.prog) (w := B.w) hA s.heap.objs.size lo 1 _
    · obtain ⟨t, rfl⟩ := hu
      refine ⟨.int (lo + (i : Nat)), ?_, by simp [VR]⟩
      simp only [List.length_map, List.length_range] at hn
      simp [hn]
    · rw [hsz]
      simp only [List.length_map, List.length_range]
      have : lo + ((0 : Nat) : Int) * 1 = lo := by omega
      rw [this]
      have : (((hi' - lo).toNat : Nat) : Int) - ((0 : Nat) : Int) = ((hi' - lo).toNat : Int) := by omega
      rw [this]
      exact Heap.get?_push_size _ rfl
    · intro b hb; simp at hb; subst hb; exact get_size _
    · intro i h st b hb; simp at hb; subst hb; exact ⟨_, st⟩
    · intro b hb; exact .inl hb
    · intro b y e; exact Heap.get?_push_of_some _ e
    · intro A i s' v Q st q; exact pl hp A s' _ v Q q
  | str x =>
    have hp : plainT t = true := by rcases ht with ht | ⟨_, e⟩; exact ht; cases e
    simp only [itV, Option.some.injEq] at hi; subst hi
    simp only [VR] at r
    obtain ⟨t1, rfl⟩ := r
    have en : x.cps.size = (x.cps.toList.map fun c => V.str ⟨#[c]⟩).length := by simp
    have it : ∀ i u, i < (x.cps.toList.map fun c => V.str ⟨#[c]⟩).length → SignAt x i u → ∃ y, (x.cps.toList.map fun c => V.str ⟨#[c]⟩)[i]? = some y ∧ VR g y u := by
      rintro i u hn ⟨c, t, hc, rfl⟩
      exact ⟨.str ⟨#[c]⟩, by simp [hc], by simp [VR]⟩
    cases ha : x.cps.all (· < 128) with
    | false =>
      refine wpAny_pyIter_wide ha (k _ [s.heap.objs.size] [s.heap.objs.size] (SignAt x) (fun i h => h.IsStrIter s.heap.objs.size "str_iterator" x t1 i) _ ⟨fun A hA => ?_, it, ?_, ?_, ?_, ?_, ?_, ?_⟩)
      · rw [← en]; exact Walks.strWide hA _ x t1
      · exact ⟨_, Heap.get?_push_size _ rfl, rfl, rfl⟩
      · intro b hb; simp at hb; subst hb; exact get_size _
      · intro i h st b hb; simp at hb; subst hb; obtain ⟨z, hz, _⟩ := st; exact ⟨z, hz⟩
      · intro b hb; exact .inl hb
      · intro b y e; exact Heap.get?_push_of_some _ e
      · intro A i s' v Q st q; exact pl hp A s' _ v Q q
    | true =>
      refine wpAny_pyIter_ascii ha (k _ [s.heap.objs.size] [s.heap.objs.size] (SignAt x) (fun i h => h.IsStrIter s.heap.objs.size "str_ascii_iterator" x t1 i) _ ⟨fun A hA => ?_, it, ?_, ?_, ?_, ?_, ?_, ?_⟩)
      · rw [← en]; exact Walks.strAscii hA _ x t1
      · exact ⟨_, Heap.get?_push_size _ rfl, rfl, rfl⟩
      · intro b hb; simp at hb; subst hb; exact get_size _
      · intro i h st b hb; simp at hb; subst hb; obtain ⟨z, hz, _⟩ := st; exact ⟨z, hz⟩
      · intro b hb; exact .inl hb
      · intro b y e; exact Heap.get?_push_of_some _ e
      · intro A i s' v Q st q; exact pl hp A s' _ v Q q
  | _ => simp [itV] at hi
end

section
variable {prog : Program} {w : World} {A : Around} {R : Result → Shared → Prop} {s : Shared}
theorem noE_any {M : Model} {α : Type} {t : Sem α} {Q : α → Shared → Prop} {E : Value → Shared → Prop} {s : Shared} (h : wpAny M A t Q noE s) : wpAny M A t Q E s := wpAny_mono h (fun _ _ q => q) fun _ _ e => e.elim

theorem forLoopG {target : Expr} {it : Value} {body : List Stmt} {env : Env} (I : Nat → Shared → Prop)
    (turn : ∀ n s, I n s → wpAny (model prog w) A (pyNext it) (fun r s₁ => match r with
      | none => R (.ok .next) s₁
      | some v => wpAny (model prog w) A (letOwnedTupleGo target it v) (fun _ s₂ => wpAny (model prog w) A (assign target env v) (fun _ s₃ => wpAny (model prog w) A (execs body env) (fun f s₄ => match f with
          | .next | .cont => ∃ m, m < n ∧ I m s₄
          | .brk => R (.ok .next) s₄
          | .ret v => R (.ok (.ret v)) s₄) noE s₃) noE s₂) noE s₁) noE s)
    (n : Nat) (h : I n s) : codeAny (model prog w) A (.forLoop target it body [] env) R s := by
  refine codeAny_loop' rfl I (fun n s hI => ?_) n h
  show wpAny _ A ((forTurn target it body [] env).onRaise (fun x => do noteFrame x env; theTreesLotGoes x)) _ _ s
  refine wpAny_noted ?_
  simp only [forTurn]
  refine wpAny_bind (wpAny_standAt (wpAny_bind (wpAny_onRaise (wpAny_mono (turn n s hI) (fun r s₁ h₁ => ?_) fun _ _ h' => h'.elim))))
  cases r with
  | none => exact wpAny_pure (.inr ⟨rfl, codeAny_block (wpAny_execs_nil h₁)⟩)
  | some v =>
    refine wpAny_bind (wpAny_mono h₁ (fun _ s₂ h₂ => ?_) fun _ _ h' => h'.elim)
    refine wpAny_bind (wpAny_mono h₂ (fun _ s₃ h₃ => wpAny_bind (wpAny_mono h₃ (fun f s₄ h₄ => ?_) fun _ _ h' => h'.elim)) fun _ _ h' => h'.elim)
    cases f with
    | next => exact wpAny_pure (.inl ⟨rfl, h₄⟩)
    | cont => exact wpAny_pure (.inl ⟨rfl, h₄⟩)
    | brk => exact wpAny_pure h₄
    | ret v => exact wpAny_pure h₄

abbrev testsT (ifs : List Expr) (env : Env) : Sem Bool := forIn ifs true fun c r => if r = true then do let ok ← isTrue c env (eval c env); pure (ForInStep.yield ok) else pure (ForInStep.yield r)

theorem compLoopG {elt target iter : Expr} {ifs : List Expr} {scope : Scope} {pos : Pos} {it acc : Value} {env : Env} (I : Nat → Shared → Prop)
    (turn : ∀ n s, I n s → wpAny (model prog w) A (pyNext it) (fun r s₁ => match r with
      | none => R (.ok .next) s₁
      | some v => wpAny (model prog w) A (letOwnedTupleGo target it v) (fun _ s₂ => wpAny (model prog w) A (assign target env v) (fun _ s₃ =>
          wpAny (model prog w) A (testsT ifs env) (fun ok s₄ =>
            if ok = true then wpAny (model prog w) A (eval elt env) (fun x s₅ =>
              wpAny (model prog w) A (call (.builtin "list.append") [acc, x]) (fun _ s₆ => ∃ m, m < n ∧ I m s₆) noE s₅) noE s₄
            else ∃ m, m < n ∧ I m s₄) noE s₃) noE s₂) noE s₁) noE s)
    (n : Nat) (h : I n s) : codeAny (model prog w) A (.compLoop (.ListComp elt [⟨target, iter, ifs, 0⟩] scope pos) 0 it acc env) R s := by
  refine codeAny_loop rfl I (fun n s hI => ?_) n h
  show wpAny _ A ((compTurn (.ListComp elt [⟨target, iter, ifs, 0⟩] scope pos) 0 it acc env).onRaise (fun x => do noteFrame x env; theTreesLotGoes x)) _ _ s
  refine wpAny_noted ?_
  rw [compTurn_list]
  refine wpAny_bind (wpAny_standAt (wpAny_bind (wpAny_mono (turn n s hI) (fun r s₁ h₁ => ?_) fun _ _ h' => h'.elim)))
  cases r with
  | none => exact wpAny_pure h₁
  | some v =>
    refine wpAny_bind (wpAny_mono h₁ (fun _ s₂ h₂ => ?_) fun _ _ h' => h'.elim)
    refine wpAny_bind (wpAny_mono h₂ (fun _ s₃ h₃ => wpAny_bind (wpAny_mono h₃ (fun ok s₄ h₄ => ?_) fun _ _ h' => h'.elim)) fun _ _ h' => h'.elim)
    cases ok with
    | false => exact wpAny_pure ⟨rfl, h₄⟩
    | true =>
      simp only [if_true] at h₄ ⊢
      exact wpAny_bind (wpAny_bind (wpAny_mono h₄ (fun x s₅ h₅ => wpAny_bind (wpAny_mono h₅ (fun _ s₆ h₆ => wpAny_pure (wpAny_pure ⟨rfl, h₆⟩)) fun _ _ h' => h'.elim)) fun _ _ h' => h'.elim))
end

section
variable {B : Bs} {G : Glb} {d : Nat} {sc : Scope} {loc : Loc} {g : Gh} {o : Objs} {s : Shared}

/-- hidden places have changed, nothing else -/
theorem HR.off (H : HR B g o s) {wr : List Addr} {h' : Heap} {n : Nat} (aw : ∀ b ∈ wr, ¬ Owned g o b ∧ g.Z b = none) (k : ∀ a x, a ∉ wr → s.heap.get? a = some x → h'.get? a = some x) : HR B g o { s with heap := h', toks := n } :=
  ⟨fun a x e => k _ _ (fun q => by rw [(aw a q).2] at e; cases e) (H.zin _ _ e), H.base,
   fun n x e => ⟨(H.live n x e).1, (H.live n x e).2.keep fun a ha y => k a y fun q => (aw a q).1 ⟨n, x, e, ha⟩⟩, H.sep, H.apart, H.gens, H.os⟩
theorem FR.off {env : Env} {h h' : Heap} (F : FR g o env loc h) {wr : List Addr} (aw : ∀ b ∈ wr, ¬ WF env b) (k : ∀ a x, a ∉ wr → h.get? a = some x → h'.get? a = some x) : FR g o env loc h' := by
  obtain ⟨m, hn, hv⟩ := F.ns
  have hL : env.locals ∉ wr := fun q => aw _ q (.inl rfl)
  have hC : ∀ p ∈ env.cells, p.2 ∉ wr := fun p hp q => aw _ q (.inr ⟨p, hp, rfl⟩)
  obtain ⟨ob, es, ep, ho, r⟩ := id hn
  refine ⟨F.free, F.noZ, ⟨m, ⟨ob, es, ep, k _ _ hL ho, r⟩, fun p hp => ?_⟩, fun p hp => let ⟨c1, c2, c3, x, c4⟩ := F.cfree p hp; ⟨c1, c2, c3, x, k _ _ (hC p hp) c4⟩⟩
  obtain ⟨d1, d2, kk⟩ := hv p hp
  refine ⟨d1, d2, kk.imp id fun ⟨k1, c, w, k2, k3, k4⟩ => ⟨k1, c, w, k2, ?_, k4⟩⟩
  obtain ⟨y, hy, hd⟩ := k3
  exact ⟨y, k _ _ (hC _ (mem_of_look k2)) hy, hd⟩

/-- hidden places stay hidden over a step -/
theorem ExtW.away {W : Addr → Prop} {g' : Gh} {o' : Objs} {h h' : Heap} (E : ExtW W g o h g' o' h') {b : Addr} (h1 : ¬ Owned g o b) (h2 : g.Z b = none) (h3 : ¬ W b) (h4 : ∃ z, h.get? b = some z) : ¬ Owned g' o' b ∧ g'.Z b = none := by
  obtain ⟨z, hz⟩ := h4
  refine ⟨fun q => ?_, ?_⟩
  · rcases E.own _ q with q | q | q
    · exact h1 q
    · exact h3 q
    · rw [hz] at q; cases q
  · cases e : g'.Z b with
    | none => rfl
    | some y =>
      rcases E.newZ _ _ e with q | q | q | q
      · rw [h2] at q; cases q
      · exact absurd q h1
      · exact absurd q h3
      · rw [hz] at q; cases q

def ForP (B : Bs) (G : Glb) (d : Nat) (sc : Scope) (tgt : Expr) (body : List Stmt) (Q : Fl → Loc → Objs → Prop) : List V → Loc → Objs → Prop
  | [], l, o => Q .next l o
  | x :: xs, l, o => wpA B G d sc l tgt x (fun l1 o1 => wpS B G d sc l1 body (fun f l2 o2 => match f with | .next => ForP B G d sc tgt body Q xs l2 o2 | .brk => Q .next l2 o2 | .ret v => Q (.ret v) l2 o2) o1) o

theorem wpX.fors {tgt iter : Expr} {body : List Stmt} {p : Pos} {Q : Fl → Loc → Objs → Prop}
    (h : wpE B G d loc iter (fun v o1 => ∃ xs, itV v = some xs ∧ rngOk v ∧ (plainT tgt = true ∨ ∃ ys, v = .lst ys) ∧ ForP B G d sc tgt body Q xs loc o1) o)
    (hs : ∀ env x, foldedSetIterable iter env x = pure x := by intro _ _; with_unfolding_all rfl) : wpX B G d sc loc (.For tgt iter body [] p) Q o := by
  intro A env g s hA E ES H F
  refine wpAny_For (wpT.cps (h A env g s hA E H F) fun v v' g1 o1 s1 h1 e1 r1 q1 => ?_) (hs env)
  obtain ⟨xs, hi, hr, ht, q⟩ := q1
  have F1 := F.ext e1
  refine iter_of hA.1 h1 hi hr ht r1 fun I fp wr P St h' it => ?_
  obtain ⟨H2, E2⟩ := h1.grow (n := s1.toks) it.grow
  have F2 := F1.ext E2
  have hA1 := hA.1
  have W := it.walks A hA.1
  have aw0 : ∀ b ∈ wr, ¬ Owned g1 o1 b ∧ g1.Z b = none ∧ ¬ WF env b := fun b hb => by
    have hn := it.fresh b hb
    refine ⟨fun q => ?_, ?_, fun q => ?_⟩
    · obtain ⟨⟨y, hy⟩, _⟩ := h1.owned q; rw [hn] at hy; cases hy
    · cases hz : g1.Z b with
      | none => rfl
      | some y => have := h1.zin _ _ hz; rw [hn] at this; cases this
    · rcases q with rfl | ⟨p, hp, rfl⟩
      · obtain ⟨m, ⟨ob, _, _, ho, _⟩, _⟩ := F1.ns; rw [hn] at ho; cases ho
      · obtain ⟨_, _, _, y, hy⟩ := F1.cfree p hp; rw [hn] at hy; cases hy
  refine forLoopG (fun k s' => ∃ i l2 g2 o2, ForP B G d sc tgt body Q (xs.drop i) l2 o2 ∧ HR B g2 o2 s' ∧ ExtW (WF env) g1 o1 s1.heap g2 o2 s'.heap ∧ FR g2 o2 env l2 s'.heap ∧ l2.map (·.1) = loc.map (·.1) ∧
      St i s'.heap ∧ (∀ b ∈ wr, ¬ Owned g2 o2 b ∧ g2.Z b = none) ∧ i ≤ xs.length ∧ k = xs.length + 1 - i) ?_ (xs.length + 1)
    ⟨0, loc, g1, o1, by simpa using q, H2, E2.w, F2, rfl, it.start, fun b hb => ⟨(aw0 b hb).1, (aw0 b hb).2.1⟩, Nat.zero_le _, rfl⟩
  rintro k s' ⟨i, l2, g2, o2, q2, H2, E2, F2, k2, st, aw, hi', rfl⟩
  have nW : ∀ b ∈ wr, ¬ WF env b := fun b hb => (aw0 b hb).2.2
  by_cases hlt : i < xs.length
  · refine W.item i _ _ _ hlt st fun u h3 tk3 hu st3 k3 => ?_
    obtain ⟨x, hx, hr⟩ := it.item i u hlt hu
    have H3 := H2.off (n := tk3) (wr := wr) aw fun a x ha e => k3 a x ha e
    have F3 := F2.off (wr := wr) nW fun a x ha e => k3 a x ha e
    have E3 : ExtW (WF env) g1 o1 s1.heap g2 o2 h3 := ⟨E2.gle, E2.newZ, fun a y h1 h2 e => k3 a y (fun q => by rw [it.fresh a q] at e; cases e) (E2.keep a y h1 h2 e), E2.own⟩
    have hd : xs.drop i = x :: xs.drop (i + 1) := by
      rw [List.drop_eq_getElem_cons hlt]
      congr 1
      have := List.getElem?_eq_getElem hlt
      rw [hx] at this; exact (Option.some.inj this).symm
    rw [hd] at q2
    simp only [ForP] at q2
    have stay : ∀ {g4 o4 h4}, ExtW (WF env) g2 o2 h3 g4 o4 h4 → (∀ a x, g4.Z a = some x → h4.get? a = some x) → St (i + 1) h4 ∧ (∀ b ∈ wr, ¬ Owned g4 o4 b ∧ g4.Z b = none) := fun {g4 o4 h4} E4 z4 =>
      ⟨W.frame _ _ _ st3 fun b hb y e => by
        rcases it.held b hb with hw | ⟨z, hz⟩
        · exact E4.keep b y (aw b hw).1 (nW b hw) e
        · have z2 := E2.gle.Z _ _ hz
          have : y = z := by have := H3.zin _ _ z2; rw [show h3.get? b = some y from e] at this; exact Option.some.inj this
          subst this
          exact z4 _ _ (E4.gle.Z _ _ z2),
       fun b hb => E4.away (aw b hb).1 (aw b hb).2 (nW b hb) (it.here _ _ st3 b hb)⟩
    refine it.go A (i + 1) _ u _ st3 ?_
    refine wpAny_mono (q2 A env g2 _ u hA E (ES.same k2) H3 F3 (VR.mono E2.gle _ _ hr)) (fun _ s4 p4 => ?_) fun _ _ e => e
    obtain ⟨_, l4, g4, o4, H4, E4, F4, k4, _, q4⟩ := p4
    refine wpAny_mono (q4 A env g4 s4 hA E (ES.same (k4.trans k2)) H4 F4) (fun f s5 p5 => ?_) fun _ _ e => e
    obtain ⟨fl, l5, g5, o5, H5, E5, F5, k5, r5, q5⟩ := p5
    have E45 := E4.trans E5
    have E15 := E3.trans E45
    cases fl with
    | next =>
      simp only [RFl] at r5; subst r5
      obtain ⟨s5', a5⟩ := stay E45 H5.zin
      exact ⟨xs.length + 1 - (i + 1), by omega, i + 1, l5, g5, o5, q5, H5, E15, F5, k5.trans (k4.trans k2), s5', a5, hlt, rfl⟩
    | brk =>
      simp only [RFl] at r5; subst r5
      exact ⟨.next, l5, g5, o5, H5, e1.w.trans E15, F5, k5.trans (k4.trans k2), rfl, q5⟩
    | ret v =>
      simp only [RFl] at r5; obtain ⟨v', rfl, hv⟩ := r5
      exact ⟨.ret v, l5, g5, o5, H5, e1.w.trans E15, F5, k5.trans (k4.trans k2), ⟨v', rfl, hv⟩, q5⟩
  · have hin : i = xs.length := by omega
    subst hin
    rw [List.drop_length] at q2
    refine W.done _ _ _ st fun h3 tk3 k3 => ?_
    have H3 := H2.off (n := tk3) (wr := wr) aw fun a x ha e => k3 a x ha e
    have F3 := F2.off (wr := wr) nW fun a x ha e => k3 a x ha e
    have E3 : ExtW (WF env) g1 o1 s1.heap g2 o2 h3 := ⟨E2.gle, E2.newZ, fun a y h1 h2 e => k3 a y (fun q => by rw [it.fresh a q] at e; cases e) (E2.keep a y h1 h2 e), E2.own⟩
    exact ⟨.next, l2, g2, o2, H3, e1.w.trans E3, F3, k2, rfl, q2⟩
end

def relabelS (scope sc : Scope) : Scope := relabel scope { (default : Env) with scope := sc }
theorem relabel_S (scope : Scope) (env : Env) : relabel scope env = relabelS scope env.scope := rfl

theorem lookup_relabel {scope : Scope} {env : Env} (x : Str) : (relabel scope env).names.lookup x = (scope.names.lookup x).map fun k => if (k == .free && env.scope.kind == .function && env.kindOf x == some .cell) = true then .cell else k := by
  unfold relabel
  dsimp only
  induction scope.names with
  | nil => rfl
  | cons p r ih =>
    obtain ⟨n, k⟩ := p
    simp only [List.map_cons]
    by_cases hx : (x == n) = true
    · have e := beq_iff_eq.mp hx
      subst e
      by_cases hc : (k == NameKind.free && env.scope.kind == ScopeKind.function && env.kindOf x == some NameKind.cell) = true
      · rw [if_pos hc]; simp only [List.lookup_cons, hx, Option.map_some]; rw [if_pos hc]
      · rw [if_neg hc]; simp only [List.lookup_cons, hx, Option.map_some]; rw [if_neg hc]
    · have hx' : (x == n) = false := by simpa using hx
      split <;> simp only [List.lookup_cons, hx', ih]

def compOk (scope osc : Scope) (tg cap gl : List Str) : Bool :=
  decide (scope.kind = .function) && scope.names.all (fun p => decide (p.2 ≠ .cell)) && scope.names.all (fun p => decide (p.2 = .local → scope.names.lookup p.1 = some .local)) &&
  tg.all (fun t => decide (scope.names.lookup t = some .local) && !(t == ("__debug__" : Str)) && !(t == ("__classdict__" : Str))) &&
  cap.all (fun c => decide (scope.names.lookup c = some .free) && decide (osc.names.lookup c = some .cell)) &&
  scope.names.all (fun p => decide (p.2 = .free → p.1 ∈ cap)) && decide (tg.Nodup) && gl.all (fun n => decide (scope.names.lookup n = some .globalImplicit))

theorem closure_go {env : Env} : ∀ (names : List (Str × NameKind)) (acc : List (Str × Addr)), (∀ p ∈ names, p.2 = .free → ∃ c, env.cells.lookup p.1 = some c) → (∀ p ∈ acc, env.cells.lookup p.1 = some p.2) →
    ∃ cl, (forIn names acc fun x (r : List (Str × Addr)) => (match x with | (name, kind) => if (kind == NameKind.free) = true then do let a ← cellOf env name; pure (ForInStep.yield ((name, a) :: r)) else pure (ForInStep.yield r)) : Sem _) = pure cl ∧
      (∀ p ∈ cl, env.cells.lookup p.1 = some p.2) ∧ (∀ p ∈ acc, p ∈ cl) ∧ ∀ p ∈ names, p.2 = .free → ∃ c, (p.1, c) ∈ cl
  | [], acc, _, ha => ⟨acc, rfl, ha, fun _ h => h, fun _ h => nomatch h⟩
  | (n, k) :: r, acc, hf, ha => by
    have hr : ∀ p ∈ r, p.2 = .free → ∃ c, env.cells.lookup p.1 = some c := fun p hp => hf p (List.mem_cons_of_mem _ hp)
    rw [List.forIn_cons]
    by_cases hk : k = .free
    · subst hk
      obtain ⟨c, hc⟩ := hf _ List.mem_cons_self rfl
      have hcell : cellOf env n = pure c := by unfold cellOf; rw [hc]
      obtain ⟨cl, e, h1, h2, h3⟩ := closure_go r ((n, c) :: acc) hr (fun p hp => by
        rcases List.mem_cons.mp hp with rfl | hp
        · exact hc
        · exact ha p hp)
      refine ⟨cl, ?_, h1, fun p hp => h2 p (List.mem_cons_of_mem _ hp), fun p hp hk => ?_⟩
      · simp only [beq_self_eq_true, if_true, hcell, pure_bind]
        exact e
      · rcases List.mem_cons.mp hp with rfl | hp
        · exact ⟨c, h2 _ List.mem_cons_self⟩
        · exact h3 p hp hk
    · obtain ⟨cl, e, h1, h2, h3⟩ := closure_go r acc hr ha
      refine ⟨cl, ?_, h1, h2, fun p hp hk' => ?_⟩
      · have hb : (k == NameKind.free) = false := by simpa using hk
        simp only [hb, Bool.false_eq_true, if_false, pure_bind]
        exact e
      · rcases List.mem_cons.mp hp with rfl | hp
        · exact absurd hk' hk
        · exact h3 p hp hk'
theorem closure_of {env : Env} {scope : Scope} (hf : ∀ p ∈ scope.names, p.2 = .free → ∃ c, env.cells.lookup p.1 = some c) :
    ∃ cl, closureFor scope env = pure cl ∧ (∀ p ∈ cl, env.cells.lookup p.1 = some p.2) ∧ ∀ p ∈ scope.names, p.2 = .free → cl.lookup p.1 = env.cells.lookup p.1 := by
  obtain ⟨cl, e, h1, _, h3⟩ := closure_go (env := env) scope.names [] hf (fun _ h => nomatch h)
  refine ⟨cl, ?_, h1, fun p hp hk => ?_⟩
  · unfold closureFor
    dsimp only
    rw [e]; rfl
  · obtain ⟨c, hc⟩ := h3 p hp hk
    have : ∀ {l : List (Str × Addr)}, (p.1, c) ∈ l → ∃ c', l.lookup p.1 = some c' := by
      intro l
      induction l with
      | nil => intro h; cases h
      | cons q r ih =>
        intro h
        obtain ⟨a, b⟩ := q
        rw [List.lookup_cons]
        split
        · exact ⟨_, rfl⟩
        · rename_i hh
          rcases List.mem_cons.mp h with e | h
          · cases e; simp at hh
          · exact ih h
    obtain ⟨c', hc'⟩ := this hc
    rw [hc', h1 _ (mem_of_look hc')]

/-- the names of a comprehension's turn -/
def bindTg : List Str → List V → Loc → Loc
  | x :: xs, v :: vs, c => bindTg xs vs ((x, some v) :: c)
  | _, _, c => c
def tgtOf : Expr → Option (List Str)
  | .Name x _ => some [x]
  | .Tuple es _ _ => namesOf es
  | _ => none
def tgtVals : Expr → V → Option (List V)
  | .Name .., x => some [x]
  | .Tuple .., .tup xs => some xs
  | _, _ => none

def wpIfs (B : Bs) (G : Glb) (d : Nat) (loc : Loc) (K : Bool → Objs → Prop) : List Expr → Objs → Prop
  | [], o => K true o
  | c :: cs, o => wpC B G d loc c (fun b o1 => if b then wpIfs B G d loc K cs o1 else K false o1) o

def CompP (B : Bs) (G : Glb) (d : Nat) (cap : Loc) (elt tgt : Expr) (tg : List Str) (ifs : List Expr) (K : List V → Objs → Prop) : List V → List V → Objs → Prop
  | [], acc, o => K acc o
  | x :: xs, acc, o => ∃ ys, tgtVals tgt x = some ys ∧ ys.length = tg.length ∧
      wpIfs B G d (bindTg tg ys cap) (fun b o1 => if b then wpE B G d (bindTg tg ys cap) elt (fun v o2 => CompP B G d cap elt tgt tg ifs K xs (acc ++ [v]) o2) o1 else CompP B G d cap elt tgt tg ifs K xs acc o1) ifs o

section
variable {B : Bs} {G : Glb} {d : Nat} {loc : Loc} {g : Gh} {o : Objs} {s : Shared}

theorem FR.sub {env : Env} {h : Heap} {l : Loc} (F : FR g o env loc h) (k : ∀ p ∈ l, p ∈ loc) : FR g o env l h :=
  let ⟨m, hn, hv⟩ := F.ns; ⟨F.free, F.noZ, ⟨m, hn, fun p hp => hv p (k p hp)⟩, F.cfree⟩

/-- a new local name, by a store that touches the frame alone -/
theorem store_local {A : Around} {env : Env} {x : Str} {v : V} {v' : Value} {P : Unit → Shared → Prop} (E : EnvOk B G env) (H : HR B g o s) (F : FR g o env loc s.heap) (r : VR g v v') (hk : env.kindOf x = some .local)
    (hd : (x == ("__debug__" : Str)) = false) (hd2 : (x == ("__classdict__" : Str)) = false) (hx : ∀ p ∈ loc, p.1 ≠ x)
    (k : ∀ h' n, HR B g o { s with heap := h', toks := n } → (∀ a y, a ≠ env.locals → s.heap.get? a = some y → h'.get? a = some y) → FR g o env ((x, some v) :: loc) h' → P () { s with heap := h', toks := n }) :
    wpAny (model B.prog B.w) A (storeName env x v') P noE s := by
  obtain ⟨m, hn, hv⟩ := F.ns
  refine wpAny_storeName_local hk hn (fun h' hn' hs' => ?_) (by rw [E.kind]; rfl)
  have kp : ∀ a y, a ≠ env.locals → s.heap.get? a = some y → h'.get? a = some y := fun a y ha e => (hs'.2 a ha).trans e
  refine k h' _ (H.off (wr := [env.locals]) (fun b hb => by simp at hb; subst hb; exact ⟨F.free, F.noZ⟩) fun a y ha e => kp a y (by simpa using ha) e) kp ⟨F.free, F.noZ, ⟨_, hn', fun p hp => ?_⟩, fun p hp => ?_⟩
  · rcases List.mem_cons.mp hp with rfl | hp
    · exact ⟨hd, hd2, .inl ⟨hk, fun u hu => by cases hu; exact ⟨v', by simp, r⟩⟩⟩
    · obtain ⟨e1, e2, e3⟩ := hv p hp
      refine ⟨e1, e2, ?_⟩
      rcases e3 with ⟨e3, e4⟩ | ⟨e3, c, w, e4, e5, e6⟩
      · exact .inl ⟨e3, fun u hu => let ⟨u', a, b⟩ := e4 u hu; ⟨u', by simpa [hx p hp] using a, b⟩⟩
      · obtain ⟨y, hy, hd⟩ := e5
        exact .inr ⟨e3, c, w, e4, ⟨y, kp c _ (F.cfree _ (mem_of_look e4)).2.2.1 hy, hd⟩, e6⟩
  · obtain ⟨c1, c2, c3, y, c4⟩ := F.cfree p hp
    exact ⟨c1, c2, c3, y, kp _ _ c3 c4⟩

structure TgOk (env : Env) (x : Str) : Prop where
  kind : env.kindOf x = some .local
  d1 : (x == ("__debug__" : Str)) = false
  d2 : (x == ("__classdict__" : Str)) = false

theorem order_local {A : Around} {env : Env} : ∀ {elts : List Expr} {tg : List Str} {xs : List V} {vs : List Value} {s : Shared} {l : Loc} {P : Unit → Shared → Prop}, namesOf elts = some tg → EnvOk B G env → HR B g o s → FR g o env l s.heap →
    VRs g xs vs → xs.length = tg.length → (∀ x ∈ tg, TgOk env x) → tg.Nodup → (∀ p ∈ l, p.1 ∉ tg) →
    (∀ h' n, HR B g o { s with heap := h', toks := n } → (∀ a y, a ≠ env.locals → s.heap.get? a = some y → h'.get? a = some y) → FR g o env (bindTg tg xs l) h' → P () { s with heap := h', toks := n }) →
    wpAny (model B.prog B.w) A (assignInOrder ((assignEach elts env).map (·.2)) vs) P noE s
  | [], tg, xs, vs, s, l, P, hn, E, H, F, r, hl, ht, nd, hd, k => by
    simp [namesOf] at hn; subst hn
    cases xs with
    | nil => exact assignInOrder_nil (by simpa using k s.heap s.toks H (fun _ _ _ e => e) F)
    | cons => simp at hl
  | e :: elts, tg, xs, vs, s, l, P, hn, E, H, F, r, hl, ht, nd, hd, k => by
    cases e with
    | Name x p =>
      simp only [namesOf, Option.map_eq_some_iff] at hn
      obtain ⟨ns, hns, rfl⟩ := hn
      cases xs with
      | nil => simp at hl
      | cons v xs =>
        simp only [VRs] at r
        obtain ⟨v', r', rfl, h1, h2⟩ := r
        have T := ht x List.mem_cons_self
        simp only [List.nodup_cons] at nd
        refine assignInOrder_cons (assign_Name (store_local E H F h1 T.kind T.d1 T.d2 (fun p hp q => hd p hp (q ▸ List.mem_cons_self)) fun h' n H' k' F' => ?_))
        refine order_local hns E H' F' h2 (by simpa using hl) (fun y hy => ht y (List.mem_cons_of_mem _ hy)) nd.2 (fun p hp q => ?_) fun h3 n3 H3 k3 F3 => k h3 n3 H3 (fun a y ha e => k3 a y ha (k' a y ha e)) F3
        rcases List.mem_cons.mp hp with rfl | hp
        · exact nd.1 q
        · exact hd p hp (List.mem_cons_of_mem _ q)
    | _ => simp [namesOf] at hn

theorem assign_tgt {A : Around} {env : Env} {tgt : Expr} {tg : List Str} {x : V} {xs : List V} {v : Value} {l : Loc} {P : Unit → Shared → Prop} (hA : A.handled = none) (hn : tgtOf tgt = some tg) (hv : tgtVals tgt x = some xs) (E : EnvOk B G env) (H : HR B g o s) (F : FR g o env l s.heap)
    (r : VR g x v) (hl : xs.length = tg.length) (ht : ∀ x ∈ tg, TgOk env x) (nd : tg.Nodup) (hd : ∀ p ∈ l, p.1 ∉ tg)
    (k : ∀ h' n, HR B g o { s with heap := h', toks := n } → (∀ a y, a ≠ env.locals → s.heap.get? a = some y → h'.get? a = some y) → FR g o env (bindTg tg xs l) h' → P () { s with heap := h', toks := n }) :
    wpAny (model B.prog B.w) A (assign tgt env v) P noE s := by
  cases tgt with
  | Name y p =>
    simp only [tgtOf, Option.some.injEq] at hn; subst hn
    simp only [tgtVals, Option.some.injEq] at hv; subst hv
    have T := ht y (by simp)
    exact assign_Name (store_local E H F r T.kind T.d1 T.d2 (fun p hp q => hd p hp (by simp [q])) fun h' n H' k' F' => k h' n H' k' F')
  | Tuple es k1 p =>
    simp only [tgtOf] at hn
    cases x with
    | tup ys =>
      simp only [tgtVals, Option.some.injEq] at hv; subst hv
      obtain ⟨a, vs, rfl, ht', hv⟩ := asT_at H r
      obtain ⟨e1, e2⟩ := namesOf_each (env := env) hn
      refine wpAny_assign_Tuple hA ht' (by rw [e1, ← hl]; simp [hv.length]) e2 fun h' he => ?_
      have kp : ∀ b y, s.heap.get? b = some y → h'.get? b = some y := fun b y e => he b y (Nat.ne_of_lt (Heap.lt_size e)) e
      obtain ⟨H1, E1⟩ := H.grow (n := s.toks) kp
      exact order_local hn E H1 (F.ext E1) hv hl ht nd hd fun h2 n2 H2 k2 F2 => k h2 n2 H2 (fun a y ha e => k2 a y ha (kp a y e)) F2
    | _ => simp [tgtVals] at hv
  | _ => simp [tgtOf] at hn

theorem tests_of {A : Around} {env : Env} {K : Bool → Objs → Prop} : ∀ {ifs : List Expr} {g : Gh} {o : Objs} {s : Shared}, AOk d A → EnvOk B G env → HR B g o s → FR g o env loc s.heap → wpIfs B G d loc K ifs o →
    wpT B RBool A (testsT ifs env) K g o s
  | [], g, o, s, hA, E, H, F, h => wpAny_pure (wpT.done H rfl h)
  | c :: cs, g, o, s, hA, E, H, F, h => by
    simp only [wpIfs] at h
    unfold testsT
    rw [List.forIn_cons]
    simp only [if_true]
    refine wpAny_bind (wpAny_bind (wpT.cps (h A env g s hA E H F) fun b b' g1 o1 s1 h1 e1 r1 q1 => wpAny_pure ?_))
    simp only [RBool] at r1; subst r1
    cases b' with
    | true =>
      simp only [if_true] at q1
      exact wpT.up e1 (tests_of hA E h1 (F.ext e1) q1)
    | false =>
      simp only [Bool.false_eq_true, if_false] at q1
      have : ∀ l : List Expr, (forIn l false fun c r => if r = true then do let ok ← isTrue c env (eval c env); pure (ForInStep.yield ok) else pure (ForInStep.yield r) : Sem Bool) = pure false := by
        intro l
        induction l with
        | nil => rfl
        | cons c l ih => rw [List.forIn_cons]; simp only [Bool.false_eq_true, if_false, pure_bind]; exact ih
      dsimp only
      rw [this]
      exact wpAny_pure ⟨false, g1, o1, h1, e1, rfl, q1⟩
end

theorem mem_of_lookK {x : Str} {c : NameKind} : ∀ {l : List (Str × NameKind)}, l.lookup x = some c → (x, c) ∈ l
  | [], h => by simp at h
  | (a, b) :: r, h => by
    rw [List.lookup_cons] at h
    split at h
    · rename_i hh; rw [beq_iff_eq.mp hh]; cases h; exact List.mem_cons_self
    · exact List.mem_cons_of_mem _ (mem_of_lookK h)
theorem mem_bindTg : ∀ (tg : List Str) (ys : List V) (c : Loc), ∀ p ∈ c, p ∈ bindTg tg ys c
  | [], _, c, p, h => h
  | _ :: _, [], c, p, h => h
  | x :: xs, v :: vs, c, p, h => mem_bindTg xs vs _ p (List.mem_cons_of_mem _ h)

structure CompOk (scope osc : Scope) (tg cap gl : List Str) : Prop where
  kind : scope.kind = .function
  noCell : ∀ p ∈ scope.names, p.2 ≠ .cell
  locals : ∀ p ∈ scope.names, p.2 = .local → scope.names.lookup p.1 = some .local
  tgs : ∀ t ∈ tg, scope.names.lookup t = some .local ∧ (t == ("__debug__" : Str)) = false ∧ (t == ("__classdict__" : Str)) = false
  caps : ∀ c ∈ cap, scope.names.lookup c = some .free ∧ osc.names.lookup c = some .cell
  free : ∀ p ∈ scope.names, p.2 = .free → p.1 ∈ cap
  nd : tg.Nodup
  gls : ∀ n ∈ gl, scope.names.lookup n = some .globalImplicit
theorem CompOk.of {scope osc : Scope} {tg cap gl : List Str} (h : compOk scope osc tg cap gl = true) : CompOk scope osc tg cap gl := by
  simp only [compOk, Bool.and_eq_true, List.all_eq_true, decide_eq_true_eq, Bool.not_eq_true'] at h
  obtain ⟨⟨⟨⟨⟨⟨⟨h1, h2⟩, h3⟩, h4⟩, h5⟩, h6⟩, h7⟩, h8⟩ := h
  exact ⟨h1, h2, h3, fun t ht => ⟨(h4 t ht).1.1, (h4 t ht).1.2, (h4 t ht).2⟩, h5, h6, h7, h8⟩

section
variable {B : Bs} {G : Glb} {d : Nat} {loc : Loc} {g : Gh} {o : Objs} {s : Shared}

theorem Ext.hid {g1 : Gh} {o1 : Objs} {h1 h h' : Heap} {hd : List Addr} (E : Ext g1 o1 h1 g o h) (k : ∀ a x, a ∉ hd → h.get? a = some x → h'.get? a = some x) (f : ∀ b ∈ hd, h1.get? b = none) : Ext g1 o1 h1 g o h' :=
  ⟨E.next, E.rho, E.Z, E.newZ, fun a x n e => k a x (fun q => by rw [f a q] at e; cases e) (E.keep a x n e), E.own⟩

/-- the end of a comprehension's loop: the list D, the frame C -/
structure CompEnd (B : Bs) (g1 : Gh) (o1 : Objs) (h1 : Heap) (K : List V → Objs → Prop) (D C : Addr) (s' : Shared) (g' : Gh) (o' : Objs) (acc : List V) (vs : List Value) (m' : Str → Option Value) : Prop where
  H : HR B g' o' s'
  E : Ext g1 o1 h1 g' o' s'.heap
  L : s'.heap.PlainList D vs.toArray
  rd : VRs g' acc vs
  fD : h1.get? D = none
  fC : h1.get? C = none
  ne : D ≠ C
  oD : ¬ Owned g' o' D ∧ g'.Z D = none
  oC : ¬ Owned g' o' C ∧ g'.Z C = none
  ns : s'.heap.Ns C m'
  K : K acc o'

theorem wpE.mono {e : Expr} {Q Q' : V → Objs → Prop} (h : wpE B G d loc e Q o) (k : ∀ v o1, Q v o1 → Q' v o1) : wpE B G d loc e Q' o :=
  fun A env g s hA E H F => (h A env g s hA E H F).mono k
theorem wpC.mono {e : Expr} {Q Q' : Bool → Objs → Prop} (h : wpC B G d loc e Q o) (k : ∀ v o1, Q v o1 → Q' v o1) : wpC B G d loc e Q' o :=
  fun A env g s hA E H F => (h A env g s hA E H F).mono k
theorem wpIfs.mono {l : Loc} {K K' : Bool → Objs → Prop} (k : ∀ b o1, K b o1 → K' b o1) : ∀ (ifs : List Expr) (o : Objs), wpIfs B G d l K ifs o → wpIfs B G d l K' ifs o
  | [], o, h => by simp only [wpIfs] at h ⊢; exact k _ _ h
  | c :: cs, o, h => by
    simp only [wpIfs] at h ⊢
    refine h.mono fun b o1 q => ?_
    cases b with
    | true => simp only [if_true] at q ⊢; exact wpIfs.mono k cs o1 q
    | false => simp only [Bool.false_eq_true, if_false] at q ⊢; exact k _ _ q

/-- a comprehension's turns, with what holds of the objects at each of them -/
def CompG (B : Bs) (G : Glb) (d : Nat) (cap : Loc) (elt tgt : Expr) (tg : List Str) (ifs : List Expr) (Ok : Objs → Prop) (K : List V → Objs → Prop) : List V → List V → Objs → Prop
  | [], acc, o => Ok o ∧ K acc o
  | x :: xs, acc, o => Ok o ∧ ∃ ys, tgtVals tgt x = some ys ∧ ys.length = tg.length ∧
      wpIfs B G d (bindTg tg ys cap) (fun b o1 => if b then wpE B G d (bindTg tg ys cap) elt (fun v o2 => CompG B G d cap elt tgt tg ifs Ok K xs (acc ++ [v]) o2) o1 else CompG B G d cap elt tgt tg ifs Ok K xs acc o1) ifs o
theorem CompG.ok {cap : Loc} {elt tgt : Expr} {tg : List Str} {ifs : List Expr} {Ok : Objs → Prop} {K : List V → Objs → Prop} {xs acc : List V} (h : CompG B G d cap elt tgt tg ifs Ok K xs acc o) : Ok o := by
  cases xs with
  | nil => exact h.1
  | cons x xs => exact h.1
structure IterG (B : Bs) (g : Gh) (s : Shared) (xs : List V) (tgt : Expr) (Ok : Objs → Prop) (I : Addr) (fp wr : List Addr) (St : Nat → Heap → Prop) (h' : Heap) : Prop where
  step : ∀ A g2 o2 s' i (Q : Option Value → Shared → Prop), A.handled = none → Gle g g2 → HR B g2 o2 s' → Ok o2 → St i s'.heap → i < xs.length →
    (∀ u x h3 tk, xs[i]? = some x → VR g2 x u → St (i + 1) h3 → (∀ b y, b ∉ wr → s'.heap.get? b = some y → h3.get? b = some y) → Q (some u) { s' with heap := h3, toks := tk }) → wpAny (model B.prog B.w) A (pyNext (.ref I)) Q noE s'
  done : ∀ A g2 o2 s' (Q : Option Value → Shared → Prop), A.handled = none → Gle g g2 → HR B g2 o2 s' → Ok o2 → St xs.length s'.heap →
    (∀ h3 tk, (∀ b y, b ∉ wr → s'.heap.get? b = some y → h3.get? b = some y) → Q none { s' with heap := h3, toks := tk }) → wpAny (model B.prog B.w) A (pyNext (.ref I)) Q noE s'
  self : ∀ A i s' (Q : Value → Shared → Prop), A.handled = none → St i s'.heap → Q (.ref I) s' → wpAny (model B.prog B.w) A (pyIter (.ref I)) Q noE s'
  frame : ∀ i h h', St i h → (∀ b ∈ fp, ∀ y, h.get? b = some y → h'.get? b = some y) → St i h'
  start : St 0 h'
  fresh : ∀ b ∈ wr, s.heap.get? b = none
  here : ∀ i h, St i h → ∀ b ∈ wr, ∃ z, h.get? b = some z
  held : ∀ b ∈ fp, b ∈ wr ∨ ∃ z, g.Z b = some z
  grow : ∀ b y, s.heap.get? b = some y → h'.get? b = some y
  go : ∀ A i s' v (Q : Unit → Shared → Prop), St i s'.heap → Q () s' → wpAny (model B.prog B.w) A (letOwnedTupleGo tgt (.ref I) v) Q noE s'

theorem comp_core {A : Around} {env : Env} {v : Value} {xs : List V} {cap : Loc} {elt tgt iter : Expr} {ifs : List Expr} {scope : Scope} {pos : Pos} {cl : List (Str × Addr)} {tg : List Str} {gn : List (Str × V)} {K : List V → Objs → Prop} {RR : Value → Addr → Result → Shared → Prop}
    (hA : AOk d A) (E : EnvOk B G env) (H : HR B g o s) (F : FR g o env loc s.heap) {Ok : Objs → Prop} (hIt : ∀ P : Value → Shared → Prop, (∀ I fp wr St h', IterG B g s xs tgt Ok I fp wr St h' → P (.ref I) { s with heap := h' }) → wpAny (model B.prog B.w) A (pyIter v) P noE s) (hsz : xs.length ≤ sizeLine)
    (hcap : ∀ p ∈ cap, p ∈ loc) (hgn : ∀ p ∈ gn, GlobOk B p.1 p.2) (htg : tgtOf tgt = some tg) (hc : CompOk scope G.sc tg (cap.map (·.1)) (gn.map (·.1)))
    (hcl : ∀ p ∈ cl, env.cells.lookup p.1 = some p.2) (hcl2 : ∀ p ∈ scope.names, p.2 = .free → cl.lookup p.1 = env.cells.lookup p.1)
    (q : CompG B ⟨gn, relabelS scope G.sc⟩ d cap elt tgt tg ifs Ok K xs [] o)
    (hRR : ∀ D C s' g' o' acc vs m', CompEnd B g o s.heap K D C s' g' o' acc vs m' → RR (.ref D) C (.ok .next) s') :
    wpAny (model B.prog B.w) A (pyIter v) (fun it s₂ => wpAny (model B.prog B.w) A (newList []) (fun acc s₃ => wpAny (model B.prog B.w) A (newFunctionEnv scope env.globals cl [] env.qual none .none (some env)) (fun cenv s₄ =>
      codeAny (model B.prog B.w) A (.compStart (.ListComp elt [⟨tgt, iter, ifs, 0⟩] scope pos) 0 it acc { cenv with scope := relabel scope env }) (RR acc cenv.locals) s₄) noE s₃) noE s₂) noE s := by
  refine hIt _ fun I fp wr St h2 it => ?_
  refine wpAny_newObj_type (wpAny_newFunctionEnv hc.noCell (by intro y hy; simp at hy) (fun h4 hns4 hsb4 => ?_) hc.kind)
  dsimp only at hns4 hsb4 ⊢
  generalize hH3 : h2.push { cls := .type "list", dict := none, data := .seq ([] : List Value).toArray } = H3 at hns4 hsb4 ⊢
  generalize hD : h2.objs.size = D
  have hC0 : H3.objs.size = D + 1 := by rw [← hH3, Heap.size_push, hD]
  generalize hC : H3.objs.size = C at hns4 hsb4 ⊢
  have hCD : C = D + 1 := hC.symm.trans hC0
  have hDC : D ≠ C := by rw [hCD]; exact Nat.ne_of_lt (Nat.lt_succ_self _)
  have lt2 : ∀ b y, h2.get? b = some y → b ≠ D ∧ b ≠ C := fun b y e => by
    have hb : b < D := hD ▸ Heap.lt_size e
    exact ⟨Nat.ne_of_lt hb, by rw [hCD]; exact Nat.ne_of_lt (Nat.lt_succ_of_lt hb)⟩
  -- what was there is there
  have g2 : ∀ b y, s.heap.get? b = some y → b ≠ D ∧ b ≠ C := fun b y e => lt2 b y (it.grow b y e)
  have g24 : ∀ b y, h2.get? b = some y → h4.get? b = some y := fun b y e => by
    exact hsb4.extBut b y (lt2 b y e).2 (Heap.get?_push_of_some _ (hH3 ▸ Heap.get?_push_of_some _ e))
  have g4 : ∀ b y, s.heap.get? b = some y → h4.get? b = some y := fun b y e => g24 _ _ (it.grow b y e)
  have fr : ∀ a, (a = D ∨ a = C) → s.heap.get? a = none := fun a ha => by
    cases e : s.heap.get? a with
    | none => rfl
    | some y => have := g2 a y e; rcases ha with h | h <;> simp_all
  have hDl : h4.PlainList D ([] : List Value).toArray := by
    refine ⟨0, hsb4.extBut D _ hDC (Heap.get?_push_of_some _ ?_)⟩
    rw [← hH3, ← hD]; exact Heap.get?_push_size _ rfl
  obtain ⟨H4, E4⟩ := H.grow (n := s.toks) g4
  have stray : ∀ b, s.heap.get? b = none → ¬ Owned g o b ∧ g.Z b = none := fun b hn => by
    refine ⟨fun q => ?_, ?_⟩
    · obtain ⟨⟨y, hy⟩, _⟩ := H.owned q; rw [hn] at hy; cases hy
    · cases hz : g.Z b with
      | none => rfl
      | some y => have := H.zin _ _ hz; rw [hn] at this; cases this
  let cenv : Env := compEnvC scope cl C env
  have hkind : ∀ y, cenv.kindOf y = (scope.names.lookup y).map fun k => if (k == .free && env.scope.kind == .function && env.kindOf y == some .cell) = true then .cell else k := fun y => lookup_relabel y
  have EC : EnvOk B ⟨gn, relabelS scope G.sc⟩ cenv := by
    refine ⟨?_, hc.kind, E.globals, E.builtins, fun p hp => ⟨?_, hgn p hp⟩⟩
    · show relabel scope env = _
      rw [relabel_S, E.scope]
    · rw [hkind, hc.gls p.1 (List.mem_map_of_mem hp)]; rfl
  have TG : ∀ x ∈ tg, TgOk cenv x := fun x hx => ⟨by rw [hkind, (hc.tgs x hx).1]; rfl, (hc.tgs x hx).2.1, (hc.tgs x hx).2.2⟩
  have hdis : ∀ p ∈ cap, p.1 ∉ tg := fun p hp q => by
    have h1 := (hc.caps p.1 (List.mem_map_of_mem hp)).1
    rw [(hc.tgs _ q).1] at h1; cases h1
  have FC : FR g o cenv cap h4 := by
    have hC' := stray C (fr C (.inr rfl))
    obtain ⟨m, hn, hv⟩ := F.ns
    refine ⟨hC'.1, hC'.2, ⟨_, hns4, fun p hp => ?_⟩, fun p hp => ?_⟩
    · obtain ⟨d1, d2, k⟩ := hv p (hcap p hp)
      obtain ⟨k1, k2⟩ := hc.caps p.1 (List.mem_map_of_mem hp)
      refine ⟨d1, d2, .inr ?_⟩
      have hek : env.kindOf p.1 = some .cell := by show env.scope.names.lookup p.1 = _; rw [E.scope]; exact k2
      rcases k with ⟨k3, _⟩ | ⟨_, c, w, k4, k5, k6⟩
      · rw [hek] at k3; cases k3
      · refine ⟨?_, c, w, ?_, let ⟨y, hy, hd⟩ := k5; ⟨y, g4 _ _ hy, hd⟩, k6⟩
        · rw [hkind, k1]
          simp only [Option.map_some]
          split
          · exact .inl rfl
          · exact .inr rfl
        · show cl.lookup p.1 = _
          rw [hcl2 _ (mem_of_lookK k1) rfl]; exact k4
    · have hm := mem_of_look (hcl p hp)
      obtain ⟨c1, c2, c3, y, c4⟩ := F.cfree _ hm
      exact ⟨c1, c2, (g2 _ _ c4).2, y, g4 _ _ c4⟩
  let hid : List Addr := D :: C :: wr
  have fh : ∀ b ∈ hid, s.heap.get? b = none := fun b hb => by
    rcases List.mem_cons.mp hb with rfl | hb
    · exact fr _ (.inl rfl)
    · rcases List.mem_cons.mp hb with rfl | hb
      · exact fr _ (.inr rfl)
      · exact it.fresh b hb
  have st4 : St 0 h4 := it.frame _ _ _ it.start fun b _ y e => g24 b y e
  have hwr : ∀ b ∈ wr, b ≠ D ∧ b ≠ C := fun b hb => by
    obtain ⟨z, hz⟩ := it.here 0 h2 it.start b hb
    exact lt2 b z hz
  have loop : ∀ s₃ : Shared, s₃ = { s with heap := h4, toks := s.toks + ([] : List (Str × Value)).length } →
      codeAny (model B.prog B.w) A (.compLoop (.ListComp elt [⟨tgt, iter, ifs, 0⟩] scope pos) 0 (.ref I) (.ref D) cenv) (RR (.ref D) C) s₃ := by
    rintro s₃ rfl
    refine compLoopG (fun k s' => ∃ i g2 o2 acc vs m2, CompG B ⟨gn, relabelS scope G.sc⟩ d cap elt tgt tg ifs Ok K (xs.drop i) acc o2 ∧ HR B g2 o2 s' ∧ Ext g o s.heap g2 o2 s'.heap ∧ FR g2 o2 cenv cap s'.heap ∧ s'.heap.Ns C m2 ∧
      St i s'.heap ∧ s'.heap.PlainList D vs.toArray ∧ VRs g2 acc vs ∧ acc.length ≤ i ∧ (∀ b ∈ hid, ¬ Owned g2 o2 b ∧ g2.Z b = none) ∧ i ≤ xs.length ∧ k = xs.length + 1 - i) ?_ (xs.length + 1)
      ⟨0, g, o, [], [], _, by simpa using q, H4.toks _, E4, FC, hns4, st4, hDl, .nil, Nat.zero_le _, fun b hb => stray b (fh b hb), Nat.zero_le _, rfl⟩
    rintro k s' ⟨i, g2, o2, acc, vs, m2, q2, H2, E2, F2, ns2, st, hl, hv, hac, aw, hi', rfl⟩
    have ok2 := q2.ok
    by_cases hlt : i < xs.length
    · refine it.step A g2 o2 _ i _ hA.1 E2.gle H2 ok2 st hlt fun u x h3 tk3 hx hr st3 k3 => ?_
      have k3' : ∀ a x, a ∉ wr → s'.heap.get? a = some x → h3.get? a = some x := fun a x ha e => k3 a x ha e
      have aww : ∀ b ∈ wr, ¬ Owned g2 o2 b ∧ g2.Z b = none := fun b hb => aw b (List.mem_cons_of_mem _ (List.mem_cons_of_mem _ hb))
      have nW : ∀ b ∈ wr, ¬ WF cenv b := fun b hb q => by
        rcases q with q | ⟨p, hp, q⟩
        · exact (hwr b hb).2 q
        · have hm := mem_of_look (hcl p hp)
          obtain ⟨_, _, _, y, c4⟩ := F.cfree _ hm
          have := it.fresh b hb
          rw [← q, c4] at this; cases this
      have H3 := H2.off (n := tk3) (wr := wr) aww k3'
      have F3 := F2.off (wr := wr) nW k3'
      have E3 : Ext g o s.heap g2 o2 h3 := E2.hid (hd := wr) k3' it.fresh
      have hl3 : h3.PlainList D vs.toArray := let ⟨y, hy⟩ := hl; ⟨y, k3' D _ (fun q => (hwr D q).1 rfl) hy⟩
      have hd : xs.drop i = x :: xs.drop (i + 1) := by
        rw [List.drop_eq_getElem_cons hlt]
        congr 1
        have := List.getElem?_eq_getElem hlt
        rw [hx] at this; exact (Option.some.inj this).symm
      rw [hd] at q2
      simp only [CompG] at q2
      obtain ⟨-, ys, hys, hlen, q2⟩ := q2
      refine it.go A (i + 1) _ u _ st3 ?_
      refine assign_tgt (s := { s' with heap := h3, toks := tk3 }) hA.1 htg hys EC H3 F3 hr hlen TG hc.nd hdis fun h5 n5 H5 k5 F5 => ?_
      have E5 : Ext g o s.heap g2 o2 h5 := E3.hid (hd := [C]) (fun a y ha e => k5 a y (fun q => ha (by simp [show a = C from q])) e) (fun b hb => by simp at hb; subst hb; exact fr _ (.inr rfl))
      have st5 : St (i + 1) h5 := it.frame _ _ _ st3 fun b hb y e => k5 b y (fun q => by
        rcases it.held b hb with hw | ⟨z, hz⟩
        · exact (hwr b hw).2 q
        · have := H.zin _ _ hz; rw [fr b (.inr q)] at this; cases this) e
      have hl5 : h5.PlainList D vs.toArray := let ⟨y, hy⟩ := hl3; ⟨y, k5 D _ hDC hy⟩
      -- a step of the turn keeps what is hidden
      have stay : ∀ {g6 : Gh} {o6 : Objs} {s6 : Shared}, HR B g6 o6 s6 → Ext g2 o2 h5 g6 o6 s6.heap → St (i + 1) s6.heap ∧ s6.heap.PlainList D vs.toArray ∧ (∀ b ∈ hid, ¬ Owned g6 o6 b ∧ g6.Z b = none) := by
        intro g6 o6 s6 H6 E6
        refine ⟨it.frame _ _ _ st5 fun b hb y e => ?_, let ⟨y, hy⟩ := hl5; ⟨y, E6.keep D _ (aw D List.mem_cons_self).1 hy⟩, fun b hb => ?_⟩
        · rcases it.held b hb with hw | ⟨z, hz⟩
          · exact E6.keep b y (aww b hw).1 e
          · have z2 := E2.gle.Z _ _ hz
            have : y = z := by have := H5.zin _ _ z2; rw [show h5.get? b = some y from e] at this; exact Option.some.inj this
            subst this
            exact H6.zin _ _ (E6.gle.Z _ _ z2)
        · have hex : ∃ z, h5.get? b = some z := by
            rcases List.mem_cons.mp hb with rfl | hb
            · obtain ⟨y, hy⟩ := hl5; exact ⟨_, hy⟩
            · rcases List.mem_cons.mp hb with rfl | hb
              · obtain ⟨m, ⟨ob, _, _, ho, _⟩, _⟩ := F5.ns; exact ⟨ob, ho⟩
              · exact it.here _ _ st5 b hb
          have aw' := aw b hb
          exact (Ext.w (W := fun _ => False) E6).away aw'.1 aw'.2 (fun h => h) hex
      have F5c := fun p hp => mem_bindTg tg ys cap p hp
      refine wpT.cps (tests_of hA EC H5 F5 q2) fun b b' g6 o6 s6 H6 E6 r6 q6 => ?_
      simp only [RBool] at r6; subst r6
      obtain ⟨st6, hl6, aw6⟩ := stay H6 E6
      have F6 := F5.ext E6
      cases b' with
      | false =>
        simp only [Bool.false_eq_true, if_false] at q6 ⊢
        obtain ⟨m6, ns6, _⟩ := F6.ns
        exact ⟨xs.length + 1 - (i + 1), by omega, i + 1, g6, o6, acc, vs, m6, q6, H6, E5.trans E6, F6.sub F5c, ns6, st6, hl6, VRs.mono E6.gle _ _ hv, by omega, aw6, hlt, rfl⟩
      | true =>
        simp only [if_true] at q6 ⊢
        refine wpT.cps (q6 A cenv g6 s6 hA EC H6 F6) fun y y' g7 o7 s7 H7 E7 r7 q7 => ?_
        have E67 := E6.trans E7
        obtain ⟨st7, hl7, aw7⟩ := stay H7 E67
        have F7 := F6.ext E7
        have hv7 := VRs.mono E67.gle _ _ hv
        refine wpAny_list_append_plain hl7 (fun h8 hl8 hs8 => ?_) (by simp [hv.length]; omega)
        have k8 : ∀ a z, a ∉ [D] → s7.heap.get? a = some z → h8.get? a = some z := fun a z ha e => hs8.extBut a z (by simpa using ha) e
        have H8 := H7.off (n := s7.toks) (wr := [D]) (fun b hb => by simp at hb; subst hb; exact aw7 _ List.mem_cons_self) k8
        have F8 := F7.off (wr := [D]) (fun b hb q => by
          simp at hb; subst hb
          rcases q with q | ⟨p, hp, q⟩
          · exact hDC q
          · have hm := mem_of_look (hcl p hp)
            obtain ⟨_, _, _, y, c4⟩ := F.cfree _ hm
            rw [q] at c4; rw [fr _ (.inl rfl)] at c4; cases c4) k8
        obtain ⟨m8, ns8, _⟩ := F8.ns
        have E8 : Ext g o s.heap g7 o7 h8 := (E5.trans E67).hid (hd := [D]) k8 (fun b hb => by simp at hb; subst hb; exact fr _ (.inl rfl))
        refine ⟨xs.length + 1 - (i + 1), by omega, i + 1, g7, o7, acc ++ [y], vs ++ [y'], m8, q7, H8, E8, F8.sub F5c, ns8, ?_, ?_, hv7.append (.one r7), by simp; omega, aw7, hlt, rfl⟩
        · exact it.frame _ _ _ st7 fun b hb z e => hs8.extBut b z (fun q => by
            rcases it.held b hb with hw | ⟨z', hz⟩
            · exact (hwr b hw).1 q
            · have := H.zin _ _ hz; rw [fr b (.inl q)] at this; cases this) e
        · have e : (vs ++ [y']).toArray = vs.toArray.push y' := by simp
          rw [e]; exact hl8
    · have hin : i = xs.length := by omega
      subst hin
      rw [List.drop_length] at q2
      refine it.done A g2 o2 _ _ hA.1 E2.gle H2 ok2 st fun h3 tk3 k3 => ?_
      have k3' : ∀ a x, a ∉ wr → s'.heap.get? a = some x → h3.get? a = some x := fun a x ha e => k3 a x ha e
      have aww : ∀ b ∈ wr, ¬ Owned g2 o2 b ∧ g2.Z b = none := fun b hb => aw b (List.mem_cons_of_mem _ (List.mem_cons_of_mem _ hb))
      refine hRR D C _ g2 o2 acc vs m2 ⟨H2.off (n := tk3) (wr := wr) aww k3', E2.hid (hd := wr) k3' it.fresh, ?_, hv, fr _ (.inl rfl), fr _ (.inr rfl), hDC, aw _ List.mem_cons_self, aw _ (List.mem_cons_of_mem _ List.mem_cons_self), ?_, q2.2⟩
      · obtain ⟨y, hy⟩ := hl; exact ⟨y, k3' D _ (fun q => (hwr D q).1 rfl) hy⟩
      · obtain ⟨y, es, ep, hy, r⟩ := ns2; exact ⟨y, es, ep, k3' C y (fun q => (hwr C q).2 rfl) hy, r⟩
  exact codeAny_compStart_list (loop _ rfl) (noE_any (it.self A 0 _ _ hA.1 st4 (loop _ rfl)))
end

section
variable {B : Bs} {G : Glb} {d : Nat} {sc : Scope} {loc : Loc} {g : Gh} {o : Objs} {s : Shared}

theorem HR.addObj (H : HR B g o s) {fp : List Addr} {x : SO} (hf : ∀ b ∈ fp, ¬ Owned g o b ∧ g.Z b = none) (r : OR B (g.add fp) s.heap x fp) :
    HR B (g.add fp) (upd o g.next x) s ∧ ∀ a, Owned (g.add fp) (upd o g.next x) a → Owned g o a ∨ a ∈ fp := by
  have hn := H.fresh
  have G := g.add_le fp
  have old : ∀ m y, upd o g.next x m = some y → m ≠ g.next → o m = some y ∧ (g.add fp).ρ m = g.ρ m := fun m y e hm => by
    rw [upd_ne hm] at e
    exact ⟨e, G.rho m (H.live _ _ e).1⟩
  have hfo : ∀ b ∈ fp, ∀ m y, o m = some y → b ∉ g.ρ m := fun b hb m y e hm => (hf b hb).1 ⟨m, y, e, hm⟩
  refine ⟨⟨H.zin, H.base, fun m y e => ?_, fun m m' y y' e e' hne b hb => ?_, fun m y e b hb => ?_, H.gens, H.os⟩, fun b q => ?_⟩
  · by_cases hm : m = g.next
    · subst hm
      rw [upd_same] at e; cases e
      exact ⟨Nat.lt_succ_self _, by rw [Gh.add_at]; exact r⟩
    · obtain ⟨e1, e2⟩ := old m y e hm
      exact ⟨Nat.lt_succ_of_lt (H.live _ _ e1).1, by rw [e2]; exact (H.live _ _ e1).2.mono G⟩
  · by_cases hm : m = g.next
    · subst hm
      rw [Gh.add_at] at hb
      obtain ⟨e1, e2⟩ := old m' y' e' (Ne.symm hne)
      rw [e2]; exact hfo b hb _ _ e1
    · obtain ⟨e1, e2⟩ := old m y e hm
      rw [e2] at hb
      by_cases hm' : m' = g.next
      · subst hm'
        rw [Gh.add_at]; exact fun hb' => hfo b hb' _ _ e1 hb
      · obtain ⟨e3, e4⟩ := old m' y' e' hm'
        rw [e4]; exact H.sep _ _ _ _ e1 e3 hne b hb
  · by_cases hm : m = g.next
    · subst hm
      rw [Gh.add_at] at hb
      exact (hf b hb).2
    · obtain ⟨e1, e2⟩ := old m y e hm
      rw [e2] at hb
      exact H.apart _ _ e1 b hb
  · obtain ⟨m, y, e, hb⟩ := q
    by_cases hm : m = g.next
    · subst hm
      rw [Gh.add_at] at hb
      exact .inr hb
    · obtain ⟨e1, e2⟩ := old m y e hm
      rw [e2] at hb
      exact .inl ⟨m, y, e1, hb⟩

theorem CompEnd.fin {Q : V → Objs → Prop} {D C : Addr} {s' : Shared} {g' : Gh} {o' : Objs} {acc : List V} {vs : List Value} {m' : Str → Option Value} {h1 : Heap} (c : CompEnd B g o h1 (NewL Q) D C s' g' o' acc vs m') :
    ∃ v g2 o2, HR B g2 o2 s' ∧ Ext g o h1 g2 o2 s'.heap ∧ VR g2 v (.ref D) ∧ Q v o2 ∧ ¬ Owned g2 o2 C ∧ g2.Z C = none := by
  obtain ⟨n, hx⟩ := c.L
  rcases c.K with q | q
  · have hs : SeqO "list" (lobj vs n) vs := ⟨rfl, n, rfl⟩
    have hx' : s'.heap.get? D = some (lobj vs n) := hx
    generalize lobj vs n = x at hs hx'
    have L := Gh.frz_le (g := g') (a := D) (x := x) (.inl c.oD.2)
    refine ⟨.lst acc, g'.frz D x, o', c.H.frz (.inl c.oD.2) c.oD.1 hx', ⟨Nat.le_trans c.E.next L.next, c.E.rho, fun a y e => L.Z _ _ (c.E.Z _ _ e), fun a y e => ?_, c.E.keep, c.E.own⟩, ?_, q, c.oC.1, ?_⟩
    · have e' : (if a = D then some x else g'.Z a) = some y := e
      split at e'
      · rename_i h; subst h; exact .inr (.inr c.fD)
      · exact c.E.newZ _ _ e'
    · simp only [VR]
      exact ⟨D, vs, x, rfl, Gh.frz_at .., hs, VRs.mono L _ _ c.rd⟩
    · show (if C = D then some x else g'.Z C) = none
      rw [if_neg (Ne.symm c.ne)]; exact c.oC.2
  · have L := g'.add_le [D]
    obtain ⟨H2, ow⟩ := c.H.addObj (fp := [D]) (x := .list acc) (fun b hb => by simp at hb; subst hb; exact c.oD) ⟨D, vs, n, rfl, hx, VRs.mono L _ _ c.rd⟩
    refine ⟨.obj g'.next, _, _, H2, ⟨Nat.le_trans c.E.next L.next, fun n hn => (L.rho n (Nat.lt_of_lt_of_le hn c.E.next)).trans (c.E.rho n hn), c.E.Z, c.E.newZ, c.E.keep, fun a q => ?_⟩, ?_, q _ c.H.fresh, fun q => ?_, c.oC.2⟩
    · rcases ow a q with q | q
      · exact c.E.own a q
      · simp at q; subst q; exact .inr c.fD
    · simp only [VR]
      exact ⟨Nat.lt_succ_self _, D, rfl, by rw [Gh.add_at]; rfl⟩
    · rcases ow C q with q | q
      · exact c.oC.1 q
      · simp at q; exact c.ne q.symm

theorem comp_closure {env : Env} {cap : Loc} {scope : Scope} {tg gl : List Str} (E : EnvOk B G env) (F : FR g o env loc s.heap) (hcap : ∀ p ∈ cap, p ∈ loc) (hc : CompOk scope G.sc tg (cap.map (·.1)) gl) :
    ∃ cl, closureFor scope env = pure cl ∧ (∀ p ∈ cl, env.cells.lookup p.1 = some p.2) ∧ ∀ p ∈ scope.names, p.2 = .free → cl.lookup p.1 = env.cells.lookup p.1 := by
  refine closure_of fun p hp hk => ?_
  obtain ⟨q, hq, e⟩ := List.mem_map.mp (hc.free p hp hk)
  obtain ⟨m, hn, hv⟩ := F.ns
  obtain ⟨_, _, k⟩ := hv q (hcap q hq)
  have hek : env.kindOf q.1 = some .cell := by show env.scope.names.lookup q.1 = _; rw [E.scope]; exact (hc.caps q.1 (List.mem_map_of_mem hq)).2
  rcases k with ⟨k3, _⟩ | ⟨_, c, w, k4, _⟩
  · rw [hek] at k3; cases k3
  · exact ⟨c, by rw [← e]; exact k4⟩

theorem CompP.toG {cap : Loc} {elt tgt : Expr} {tg : List Str} {ifs : List Expr} {K : List V → Objs → Prop} : ∀ {xs acc : List V} {o : Objs}, CompP B G d cap elt tgt tg ifs K xs acc o → CompG B G d cap elt tgt tg ifs (fun _ => True) K xs acc o
  | [], acc, o, h => ⟨trivial, h⟩
  | x :: xs, acc, o, h => by
    simp only [CompP] at h
    obtain ⟨ys, h1, h2, h3⟩ := h
    refine ⟨trivial, ys, h1, h2, wpIfs.mono (fun b o1 q => ?_) ifs o h3⟩
    cases b with
    | true => exact wpE.mono q fun v o2 q => CompP.toG q
    | false => exact CompP.toG q
theorem iter_G {A : Around} {x : V} {v : Value} {xs : List V} {t : Expr} (hA : A.handled = none) (H : HR B g o s) (hi : itV x = some xs) (hr : rngOk x) (ht : plainT t = true ∨ ∃ ys, x = .lst ys) (r : VR g x v)
    (P : Value → Shared → Prop) (k : ∀ I fp wr St h', IterG B g s xs t (fun _ => True) I fp wr St h' → P (.ref I) { s with heap := h' }) : wpAny (model B.prog B.w) A (pyIter v) P noE s := by
  refine iter_of hA H hi hr ht r fun I fp wr Pt St h' it => k I fp wr St h' ⟨fun A2 g2 o2 s' i Q hA2 G2 H2 _ st hlt q => ?_, fun A2 g2 o2 s' Q hA2 G2 H2 _ st q => ?_, fun A2 i s' Q hA2 st q => (it.walks A2 hA2).self i s' Q noE st q, (it.walks A hA).frame, it.start, it.fresh, it.here, it.held, it.grow, it.go⟩
  · refine (it.walks A2 hA2).item i s' Q noE hlt st fun u h3 tk hu st3 k3 => ?_
    obtain ⟨x, hx, hr⟩ := it.item i u hlt hu
    exact q u x h3 tk hx (VR.mono G2 _ _ hr) st3 fun b y hb e => k3 b y hb e
  · exact (it.walks A2 hA2).done s' Q noE st fun h3 tk k3 => q h3 tk fun b y hb e => k3 b y hb e

theorem wpE.comp {elt tgt iter : Expr} {ifs : List Expr} {scope : Scope} {pos : Pos} {Q : V → Objs → Prop} (cap : Loc) (gn : List (Str × V)) (tg : List Str) (hcap : ∀ p ∈ cap, p ∈ loc) (hgn : ∀ p ∈ gn, GlobOk B p.1 p.2) (htg : tgtOf tgt = some tg)
    (hc : compOk scope G.sc tg (cap.map (·.1)) (gn.map (·.1)) = true)
    (h : wpE B G d loc iter (fun v o1 => ∃ xs, itV v = some xs ∧ rngOk v ∧ (plainT tgt = true ∨ ∃ ys, v = .lst ys) ∧ xs.length ≤ sizeLine ∧ CompP B ⟨gn, relabelS scope G.sc⟩ d cap elt tgt tg ifs (NewL Q) xs [] o1) o)
    (hs : ∀ env x, foldedSetIterable iter env x = pure x := by intro _ _; with_unfolding_all rfl) : wpE B G d loc (.ListComp elt [⟨tgt, iter, ifs, 0⟩] scope pos) Q o := by
  intro A env g s hA E H F
  have hc := CompOk.of hc
  obtain ⟨cl, c1, c2, c3⟩ := comp_closure E F hcap hc
  unfold wpT
  rw [eval_ListComp]
  refine wpAny_comprehension_free (e := .ListComp elt [⟨tgt, iter, ifs, 0⟩] scope pos) (g := ⟨tgt, iter, ifs, 0⟩) (gs := []) (use := Option.none) rfl (hs env) c1 hc.kind hc.locals (wpT.cps (h A env g s hA E H F) fun v v' g1 o1 s1 h1 e1 r1 q1 => ?_)
  obtain ⟨xs, hi, hr, ht, hsz, q⟩ := q1
  refine comp_core (RR := fun acc C => compPost (model B.prog B.w) A noE Option.none (Post B VR Q g o s.heap) acc C) hA E h1 (F.ext e1) (iter_G hA.1 h1 hi hr ht r1) hsz hcap hgn htg hc c2 c3 q.toG ?_
  intro D C s' g' o' acc vs m' ce
  refine ⟨m', ce.ns, fun h' hs' => ?_⟩
  obtain ⟨v2, g2, o2, H2, E2, r2, q2, f1, f2⟩ := ce.fin
  have k : ∀ a x, a ∉ [C] → s'.heap.get? a = some x → h'.get? a = some x := fun a x ha e => hs'.extBut a x (by simpa using ha) e
  exact ⟨v2, g2, o2, H2.off (n := s'.toks) (wr := [C]) (fun b hb => by simp at hb; subst hb; exact ⟨f1, f2⟩) k, e1.trans (E2.hid (hd := [C]) k (fun b hb => by simp at hb; subst hb; exact ce.fC)), r2, q2⟩

/-- x = [.. for ..], the store within the comprehension -/
theorem wpX.assignC {x : Str} {p : Pos} {elt tgt iter : Expr} {ifs : List Expr} {scope : Scope} {pos spos : Pos} {Q : Fl → Loc → Objs → Prop} (cap : Loc) (gn : List (Str × V)) (tg : List Str) (hcap : ∀ p ∈ cap, p ∈ loc) (hgn : ∀ p ∈ gn, GlobOk B p.1 p.2) (htg : tgtOf tgt = some tg)
    (hc : compOk scope G.sc tg (cap.map (·.1)) (gn.map (·.1)) = true)
    (hsw : swapsWith (.ListComp elt [⟨tgt, iter, ifs, 0⟩] scope pos) (some (Expr.Name x p)) spos.line { (default : Env) with scope := sc } = pure true)
    (h : wpE B G d loc iter (fun v o1 => ∃ xs, itV v = some xs ∧ rngOk v ∧ (plainT tgt = true ∨ ∃ ys, v = .lst ys) ∧ xs.length ≤ sizeLine ∧
      CompP B ⟨gn, relabelS scope G.sc⟩ d cap elt tgt tg ifs (NewL fun v o2 => ∃ l', Put x v loc l' ∧ Q .next l' o2) xs [] o1) o)
    (hs : ∀ env x, foldedSetIterable iter env x = pure x := by intro _ _; with_unfolding_all rfl) : wpX B G d sc loc (.Assign [Expr.Name x p] (.ListComp elt [⟨tgt, iter, ifs, 0⟩] scope pos) spos) Q o := by
  intro A env g s hA E ES H F
  have hc := CompOk.of hc
  obtain ⟨cl, c1, c2, c3⟩ := comp_closure E F hcap hc
  rw [exec_Assign_Name_used _ _ _ _ (by rw [swapsWith_env, ES.scope]; exact hsw)]
  refine wpAny_bind (wpAny_standAt (wpAny_bind ?_))
  show wpAny _ A (do let _ ← comprehension (.ListComp elt [⟨tgt, iter, ifs, 0⟩] scope pos) scope env _ (newList []) false (eval iter env) (some (PySem.assign (Expr.Name x p) env))) _ _ s
  refine wpAny_bind (wpAny_mono (wpAny_comprehension_free (e := .ListComp elt [⟨tgt, iter, ifs, 0⟩] scope pos) (g := ⟨tgt, iter, ifs, 0⟩) (gs := []) (E := noE) (use := some (PySem.assign (Expr.Name x p) env)) (Q := fun _ s' => PostS B env RFl Q g o loc s.heap .next s') rfl (hs env) c1 hc.kind hc.locals
    (wpT.cps (h A env g s hA E H F) fun v v' g1 o1 s1 h1 e1 r1 q1 => ?_)) (fun _ s' hq => wpAny_pure (wpAny_pure hq)) fun _ _ e => e)
  obtain ⟨xs, hi, hr, ht, hsz, q⟩ := q1
  refine comp_core (RR := fun acc C => compPost (model B.prog B.w) A noE (some (PySem.assign (Expr.Name x p) env)) (fun _ s' => PostS B env RFl Q g o loc s.heap .next s') acc C) hA E h1 (F.ext e1) (iter_G hA.1 h1 hi hr ht r1) hsz hcap hgn htg hc c2 c3 q.toG ?_
  intro D C s' g' o' acc vs m' ce
  obtain ⟨v2, g2, o2, H2, E2, r2, ⟨l', hp, q2⟩, f1, f2⟩ := ce.fin
  have hCx : ∃ y, s'.heap.get? C = some y := by obtain ⟨y, _, _, hy, _⟩ := ce.ns; exact ⟨y, hy⟩
  have F1 := F.ext e1
  have nW : ¬ WF env C := fun q => by
    rcases q with q | ⟨p, hp, q⟩
    · obtain ⟨m, ⟨ob, _, _, ho, _⟩, _⟩ := F1.ns
      rw [← q, ce.fC] at ho; cases ho
    · obtain ⟨_, _, _, y, hy⟩ := F1.cfree p hp
      rw [q, ce.fC] at hy; cases hy
  show wpAny _ A (PySem.assign (Expr.Name x p) env (.ref D)) _ _ _
  refine assign_Name (store_name E ES H2 (F1.ext E2) r2 hp fun h3 n3 H3 E3 F3 => ?_)
  have hns3 : h3.Ns C m' := by
    obtain ⟨y, es, ep, hy, r⟩ := ce.ns
    exact ⟨y, es, ep, E3.keep C y f1 nW hy, r⟩
  refine ⟨m', hns3, fun h4 hs4 => ?_⟩
  have k : ∀ a x, a ∉ [C] → h3.get? a = some x → h4.get? a = some x := fun a x ha e => hs4.extBut a x (by simpa using ha) e
  have oC := E3.away f1 f2 nW hCx
  have H4 := H3.off (n := n3) (wr := [C]) (fun b hb => by simp at hb; subst hb; exact oC) k
  have F4 := F3.off (wr := [C]) (fun b hb => by simp at hb; subst hb; exact nW) k
  have E13 := (E2.w (W := WF env)).trans E3
  have E4 : ExtW (WF env) g1 o1 s1.heap g2 o2 h4 := ⟨E13.gle, E13.newZ, fun a y h1 h2 e => k a y (fun q => by simp at q; subst q; rw [ce.fC] at e; cases e) (E13.keep a y h1 h2 e), E13.own⟩
  exact ⟨.next, l', g2, o2, H4, e1.w.trans E4, F4, hp.keys, rfl, q2⟩
end

section
variable {prog : Program} {w : World} {A : Around} {E : Value → Shared → Prop} {s : Shared}
theorem setItem_exact {l : Addr} {items : Array Value} {n : Nat} {k : Int} {t : Tok} {v : Value} {j : Nat} {Q : Unit → Shared → Prop} (hl : IsL s.heap l items n)
    (hfit : PySem.Builtin.List.listFitsIndex k = true) (hj : seqIndex? k items.size = some j)
    (h : Q () { s with heap := s.heap.update l (Obj.mapSeq (·.setIfInBounds j v)) }) : wpAny (model prog w) A (setItem (.ref l) (.int k t) v) Q E s := by
  have hL : s.heap.IsList l items := ⟨_, hl, rfl, n, rfl⟩
  obtain ⟨hlt, hc⟩ := seqIndex_lt hj
  unfold setItem
  try with_reducible refine wpAny_holding ?_
  refine wpAny_bind (wpAny_sequenceKey hL.typeIs (by decide) ?_)
  refine wpAny_bind (wpAny_callSpecial?_slot (name := Str.ofString "__setitem__") hL.typeIs slot_list_setitem (wpAny_call_entry slot_list_setitem hL.typeIs entry_list_setitem ?_ (args_list_setitem _ _ _)))
  show wpAny _ _ (PySem.Builtin.List.listSubscript? (.int k t) >>= _) _ _ s
  refine wpAny_bind (wpAny_listSubscript_int hfit ?_)
  clear hfit
  have hx' : items[j]? = some items[j] := Array.getElem?_eq_getElem hlt
  obtain ⟨m, rfl⟩ | ⟨m, rfl⟩ : (∃ m : Nat, k = m) ∨ ∃ m : Nat, k = Int.negSucc m := by
    cases k with
    | ofNat m => exact .inl ⟨m, rfl⟩
    | negSucc m => exact .inr ⟨m, rfl⟩
  · have : j = m := by omega
    subst this
    show wpAny _ _ ((seqItemAt l j >>= fun r => pure (r.map (j, ·))) >>= _) _ _ s
    refine wpAny_bind (wpAny_bind (wpAny_seqItemAt hl rfl (wpAny_pure ?_)))
    rw [hx']
    show wpAny _ _ (setSeqItemAt l j v >>= _) _ _ s
    refine wpAny_bind (wpAny_setSeqItemAt hl rfl ?_)
    exact wpAny_bind (wpAny_pure (wpAny_pure ⟨.none, rfl, wpAny_pure h⟩))
  · show wpAny _ _ ((Builtin.List.listItems (.ref l) >>= fun xs => pure ((seqIndex? (Int.negSucc m) xs.size).bind fun i => xs[i]?.map (i, ·))) >>= _) _ _ s
    refine wpAny_bind (wpAny_bind ?_)
    show wpAny _ _ (seqItems? (.ref l) >>= _) _ _ s
    refine wpAny_bind (wpAny_seqItems hl rfl (wpAny_pure (wpAny_pure ?_)))
    rw [hj]
    simp only [Option.bind_some, hx', Option.map_some]
    show wpAny _ _ (setSeqItemAt l j v >>= _) _ _ s
    refine wpAny_bind (wpAny_setSeqItemAt hl rfl ?_)
    exact wpAny_bind (wpAny_pure (wpAny_pure ⟨.none, rfl, wpAny_pure h⟩))
end

section
variable {B : Bs} {G : Glb} {d : Nat} {sc : Scope} {loc : Loc} {g : Gh} {o : Objs} {s : Shared}

theorem HR.listAt (H : HR B g o s) {n : Nat} {xs : List V} {v : Value} (hn : o n = some (.list xs)) (r : VR g (.obj n) v) : ∃ a vs k, v = .ref a ∧ g.ρ n = [a] ∧ IsL s.heap a vs.toArray k ∧ VRs g xs vs := by
  obtain ⟨_, a, vs, k, hr, hx, h3⟩ := H.live _ _ hn
  simp only [VR] at r
  obtain ⟨_, b, rfl, hb⟩ := r
  rw [hr] at hb; cases hb
  exact ⟨a, vs, k, rfl, hr, hx, h3⟩

theorem Post.listUp {α β : Type} {R : Gh → β → α → Prop} {Q : β → Objs → Prop} {n k m : Nat} {a : Addr} {xs ys : List V} {vs us : List Value} {f : Array Value → Array Value} {b : β} {r : α} (H : HR B g o s) (hn : o n = some (.list xs)) (hr : g.ρ n = [a]) (hx : IsL s.heap a vs.toArray k)
    (hf : f vs.toArray = us.toArray) (hu : VRs g ys us) (rr : R g b r) (q : Q b (upd o n (.list ys))) : Post B R Q g o s.heap r { s with heap := s.heap.update a (Obj.mapSeq f), toks := m } := by
  refine Post.change (m := m) (y := .list ys) H hn (fun b z hb e => ?_) ?_ rr q
  · exact (Heap.SameBut.update ..).extBut b z (fun q => hb (by rw [hr, q]; exact List.mem_cons_self)) e
  · have := hx.update f
    rw [hf] at this
    exact ⟨a, us, _, hr, this, hu⟩

theorem wpO3U.list {n : Nat} {xs : List V} {k : Int} {v : V} {j : Nat} {Q : Objs → Prop} (hn : o n = some (.list xs)) (hj : seqIndex? k xs.length = some j) (hsz : xs.length ≤ sizeLine) (q : Q (upd o n (.list (xs.set j v)))) :
    wpO3U B d setItem (.obj n) (.int k) v Q o := by
  intro A g s x u w hA H h1 h2 h3
  obtain ⟨a, vs, m, rfl, hr, hx, hv⟩ := H.listAt hn h1
  simp only [VR] at h2
  obtain ⟨t, rfl⟩ := h2
  have hlen := hv.length
  obtain ⟨hlt, hc⟩ := seqIndex_lt hj
  rw [sizeLine_eq] at hsz
  refine setItem_exact hx (by simp [PySem.Builtin.List.listFitsIndex]; omega) (j := j) (by simpa [hlen] using hj) ?_
  exact Post.listUp (R := RUnit) (Q := fun _ => Q) (b := ()) (ys := xs.set j v) (us := vs.set j w) (m := s.toks) H hn hr hx (by simp) (hv.set j h3) trivial q

/-! calls -/
def KeepOk (B : Bs) (f : Value) : Prop := (∃ id, f = .builtin id) ∨ (∃ T, f = .type T) ∨ keepIn B.K f = true

theorem HR.kin (H : HR B g o s) : B.K.In s.heap := fun a x e => H.zin _ _ (H.base _ _ (B.KIn a x e))
theorem HR.bot (H : HR B g o s) : ∀ b x, B.h.get? b = some x → s.heap.get? b = some x := fun b x e => H.zin _ _ (H.base _ _ e)

theorem evalArgs_any {M : Model} {A : Around} {E : Value → Shared → Prop} {f : Value} {ts : List (Bool × Sem Value)} {Q : Args → Shared → Prop} (hp : ts.any (·.1) = false) (h : wpAny M A (spliced ts) (fun vs s' => Q ⟨vs, []⟩ s') E s) : wpAny M A (evalArgs f true ts []) Q E s := by
  cases ts with
  | nil =>
    unfold evalArgs
    show wpAny M A (spliced [] >>= _) Q E s
    refine wpAny_bind (wpAny_mono h (fun vs s' h' => ?_) fun _ _ x => x)
    exact wpAny_bind (wpAny_pure (wpAny_holding (wpAny_bind (wpAny_pure (wpAny_bind (wpAny_pure (wpAny_pure h')))))))
  | cons t r =>
    obtain ⟨b, x⟩ := t
    simp only [List.any_cons, Bool.or_eq_false_iff] at hp
    obtain ⟨rfl, _⟩ := hp
    exact evalArgs_plain h

theorem callG {A : Around} {pos : Pos} {f : Value} {first : List Value} {ts : List (Bool × Sem Value)} {Q : Value → Shared → Prop} (hk : KeepOk B f) (hp : ts.any (·.1) = false)
    (h : wpAny (model B.prog B.w) A (spliced ts) (fun vs s₁ => B.K.In s₁.heap ∧ wpAny (model B.prog B.w) A (call f (first ++ vs)) Q noE s₁) noE s) : wpAny (model B.prog B.w) A (callWith pos f first ts []) Q noE s := by
  rcases hk with ⟨id, rfl⟩ | ⟨T, rfl⟩ | hk
  · exact callWith_builtin hp (evalArgs_any hp (wpAny_mono h (fun _ _ q => q.2) fun _ _ e => e))
  · exact PySem.callWith_type hp (evalArgs_any hp (wpAny_mono h (fun _ _ q => q.2) fun _ _ e => e))
  · exact callWith_of (P := fun h => B.K.In h) (by rw [hp]; rfl) (keeps_K hk) (evalArgs_any hp h)

theorem wpE.call {x : Str} {p pos : Pos} {args : List Expr} {r : Value} {Q : V → Objs → Prop} (hx : (x, .raw r) ∈ G.names) (hk : KeepOk B r) (h : wpEs B G d loc args (fun vs => wpF B d (.raw r) vs Q) o)
    (hpl : ∀ env, (backTo pos (starEach args env)).any (·.1) = false := by intro _; with_unfolding_all rfl) : wpE B G d loc (.Call (.Name x p) args [] pos) Q o := by
  intro A env g s hA E H F
  refine wpAny_Call_NameR (wpT.cps (wpE.glob (p := p) (d := d) (loc := loc) (Q := fun v o1 => v = .raw r ∧ o1 = o) hx ⟨rfl, rfl⟩ A env g s hA E H F) fun f f' g1 o1 s1 h1 e1 r1 q1 => ?_)
  obtain ⟨rfl, rfl⟩ := q1
  simp only [VR] at r1; subst r1
  refine callG hk (hpl env) (wpT.cps (h A env g1 s1 pos hA E h1 (F.ext e1)) fun vs vs' g2 o2 s2 h2 e2 r2 q2 => ⟨h2.kin, ?_⟩)
  exact wpT.up (e1.trans e2) (q2 A g2 s2 _ _ hA h2 (by simp [VR]) r2)

/-- a method is found -/
def MethIs (B : Bs) (o : Objs) (x : V) (name : Str) (r : Value) : Prop :=
  ∀ g s v A (pl : Sem Bool) (Q : Value × List Value → Shared → Prop), HR B g o s → VR g x v → Q (r, [v]) s → wpAny (model B.prog B.w) A (getMethod v name pl) Q noE s

theorem wpE.meth {e : Expr} {name : Str} {apos pos : Pos} {args : List Expr} {Q : V → Objs → Prop} (h : wpE B G d loc e (fun x o1 => ∃ r, MethIs B o1 x name r ∧ KeepOk B r ∧ wpEs B G d loc args (fun vs => wpF B d (.raw r) (x :: vs) Q) o1) o)
    (hpl : ∀ env, (backTo pos (starEach args env)).any (·.1) = false := by intro _; with_unfolding_all rfl)
    (he : ∀ env, ∃ pl, eval (.Call (.Attribute e name apos) args [] pos) env = (do
      let ov ← eval e env
      standAt apos.atName
      let (f, first) ← holding [ov] (getMethod ov name pl)
      callWith pos f first (backTo pos (starEach args env)) (backToKw pos (keywordEach [] env))) := by intro env; exact ⟨_, rfl⟩) : wpE B G d loc (.Call (.Attribute e name apos) args [] pos) Q o := by
  intro A env g s hA E H F
  obtain ⟨pl, he⟩ := he env
  refine methodCall_KW (pl := pl) (wpT.cps (h A env g s hA E H F) fun x x' g1 o1 s1 h1 e1 r1 q1 => ?_) he
  obtain ⟨r, hm, hk, q⟩ := q1
  refine hm g1 s1 x' A pl _ h1 r1 ?_
  refine callG hk (hpl env) (wpT.cps (q A env g1 s1 pos hA E h1 (F.ext e1)) fun vs vs' g2 o2 s2 h2 e2 r2 q2 => ⟨h2.kin, ?_⟩)
  exact wpT.up (e1.trans e2) (q2 A g2 s2 _ _ hA h2 (by simp [VR]) (.cons (VR.mono e2.gle _ _ r1) r2))

/-! list.append, list.pop -/
theorem MethIs.list {n : Nat} {xs : List V} {name : Str} {id : String} (hn : o n = some (.list xs)) (slot : Slot "list" name id) (hty : typeOf (.builtin id) = pure (.type "method_descriptor")) : MethIs B o (.obj n) name (.builtin id) := by
  intro g s v A pl Q H r q
  obtain ⟨a, vs, k, rfl, hr, hx, hv⟩ := H.listAt hn r
  exact getMethod_builtin ⟨_, hx, rfl⟩ PySem.F.plainAttrs_list slot hty (fun b e => by cases e; exact ⟨_, hx, rfl⟩) q

theorem wpF.append {n : Nat} {xs : List V} {v : V} {Q : V → Objs → Prop} (hn : o n = some (.list xs)) (hsz : xs.length ≤ sizeLine) (q : Q .none (upd o n (.list (xs ++ [v])))) : wpF B d (.raw (.builtin "list.append")) [.obj n, v] Q o := by
  intro A g s f' us hA H h1 h2
  simp only [VR] at h1; subst h1
  simp only [VRs] at h2
  obtain ⟨u, _, rfl, h2, w, _, rfl, h3, rfl⟩ := h2
  obtain ⟨a, vs, k, rfl, hr, hx, hv⟩ := H.listAt hn h2
  refine call_meets PySem.F.slot_list_append ⟨_, hx, rfl⟩ PySem.F.entry_list_append (PySem.F.args_list_append_2 _ _) (list_append a vs.toArray k w (by simpa [hv.length] using hsz)) ⟨hx, ?_⟩
  exact Post.listUp (b := .none) (ys := xs ++ [v]) (us := vs ++ [w]) (m := s.toks) H hn hr hx (by simp) (hv.append (.one h3)) (by simp [VR]) q

theorem VRs.erase {g : Gh} : ∀ {xs : List V} {vs : List Value} (n : Nat), VRs g xs vs → VRs g (xs.eraseIdx n) (vs.eraseIdx n)
  | [], vs, n, h => by simp only [VRs] at h; subst h; simp [VRs]
  | y :: xs, vs, 0, h => by
    simp only [VRs] at h
    obtain ⟨v, r, rfl, h1, h2⟩ := h
    simpa using h2
  | y :: xs, vs, n + 1, h => by
    simp only [VRs] at h
    obtain ⟨v, r, rfl, h1, h2⟩ := h
    simpa using VRs.cons h1 (VRs.erase n h2)

theorem wpF.popAt {n : Nat} {xs : List V} {v : V} {i : Int} {j : Nat} {Q : V → Objs → Prop} (hn : o n = some (.list xs)) (hj : seqIndex? i xs.length = some j) (hv : xs[j]? = some v) (hsz : xs.length ≤ sizeLine) (q : Q v (upd o n (.list (xs.eraseIdx j)))) : wpF B d (.raw (.builtin "list.pop")) [.obj n, .int i] Q o := by
  intro A g s f' us hA H h1 h2
  simp only [VR] at h1; subst h1
  simp only [VRs] at h2
  obtain ⟨u, _, rfl, h2, w, _, rfl, h3, rfl⟩ := h2
  obtain ⟨a, vs, k, rfl, hr, hx, hvs⟩ := H.listAt hn h2
  simp only [VR] at h3
  obtain ⟨t, rfl⟩ := h3
  obtain ⟨w, hw, hr2⟩ := hvs.get j v hv
  have hlen := hvs.length
  obtain ⟨hlt, hc⟩ := seqIndex_lt hj
  have hsz' := hsz
  rw [sizeLine_eq] at hsz'
  refine call_meets PySem.F.slot_list_pop ⟨_, hx, rfl⟩ PySem.F.entry_list_pop (PySem.F.args_list_pop_2 _ _) (PySem.MeetsSeq.list_pop_at a vs.toArray k i t j w (by simp [PySem.Builtin.List.listFitsIndex]; omega) (by simpa [hlen] using hj) (by simpa using hw) (by simpa [hlen] using hsz)) ⟨hx, ?_⟩
  refine Post.listUp (b := v) (ys := xs.eraseIdx j) (us := vs.eraseIdx j) (m := s.toks) H hn hr hx ?_ (hvs.erase j) hr2 q
  simp [Array.eraseIdxIfInBounds, hlen, hlt]
end

structure FnAt (B : Bs) (f : Addr) (ps : List Str) (body : List Stmt) (sc : Scope) : Prop where
  at_ : ∃ oc od fd osl, B.K.lookup f = some ⟨oc, od, .func fd, osl⟩ ∧ fd.scope = sc ∧ fd.body = .stmts body ∧ fd.globals = mainGlobals ∧ fd.builtins = builtinsNs ∧ fd.closure = [] ∧ codeIn B.K fd.code fd.qualname = true ∧
    ∀ s vals, B.K.In s.heap → vals.length = ps.length → BindsTo s fd ⟨vals, []⟩ (ps.zip vals)

def fnOk (sc : Scope) (ps ls : List Str) : Bool :=
  decide (sc.kind = .function) && !sc.isCoroutine && !sc.isGenerator && decide ((ps ++ ls).Nodup) && decide (((cellsFrom 0 sc.names []).map (·.1)).Nodup) &&
  (ps ++ ls).all (fun x => !(x == ("__debug__" : Str)) && !(x == ("__classdict__" : Str)) && (decide (sc.names.lookup x = some .local) || (decide (sc.names.lookup x = some .cell) && ((cellsFrom 0 sc.names []).lookup x).isSome)))

theorem lookup_isSome_names {x : Str} : ∀ {cs cs' : List (Str × Addr)}, cs.map (·.1) = cs'.map (·.1) → (cs.lookup x).isSome = (cs'.lookup x).isSome
  | [], [], _ => rfl
  | [], _ :: _, h => by simp at h
  | _ :: _, [], h => by simp at h
  | (a, b) :: r, (a', b') :: r', h => by
    simp only [List.map_cons, List.cons.injEq] at h
    obtain ⟨rfl, h⟩ := h
    simp only [List.lookup_cons]
    split
    · rfl
    · exact lookup_isSome_names h

section
variable {k : Str → Option NameKind}
theorem bindL_out {n : Str} : ∀ {b : List (Str × Value)} {m : Str → Option Value}, n ∉ b.map (·.1) → bindL k b m n = m n
  | [], m, _ => rfl
  | (x, v) :: r, m, h => by
    simp only [List.map_cons, List.mem_cons, not_or] at h
    unfold bindL
    rw [bindL_out h.2]
    split
    · simp [h.1]
    · rfl
theorem bindC_out {n : Str} : ∀ {b : List (Str × Value)} {m : Str → Option Value}, n ∉ b.map (·.1) → bindC k b m n = m n
  | [], m, _ => rfl
  | (x, v) :: r, m, h => by
    simp only [List.map_cons, List.mem_cons, not_or] at h
    unfold bindC
    rw [bindC_out h.2]
    split
    · rfl
    · simp [h.1]
theorem bindL_in {n : Str} {v : Value} (hk : k n = some .local) : ∀ {b : List (Str × Value)} {m : Str → Option Value}, (b.map (·.1)).Nodup → (n, v) ∈ b → bindL k b m n = some v
  | (x, u) :: r, m, nd, h => by
    simp only [List.map_cons, List.nodup_cons] at nd
    unfold bindL
    rcases List.mem_cons.mp h with e | h
    · cases e
      rw [bindL_out nd.1, if_pos hk]
      simp
    · exact bindL_in hk nd.2 h
theorem bindC_in {n : Str} {v : Value} (hk : k n ≠ some .local) : ∀ {b : List (Str × Value)} {m : Str → Option Value}, (b.map (·.1)).Nodup → (n, v) ∈ b → bindC k b m n = some v
  | (x, u) :: r, m, nd, h => by
    simp only [List.map_cons, List.nodup_cons] at nd
    unfold bindC
    rcases List.mem_cons.mp h with e | h
    · cases e
      rw [bindC_out nd.1, if_neg hk]
      simp
    · exact bindC_in hk nd.2 h
end

theorem zip_keys {α : Type} : ∀ {ps : List Str} {vs : List α}, vs.length = ps.length → (ps.zip vs).map (·.1) = ps
  | [], [], _ => rfl
  | [], _ :: _, h => by simp at h
  | _ :: _, [], h => by simp at h
  | p :: ps, v :: vs, h => by simp only [List.zip_cons_cons, List.map_cons, zip_keys (by simpa using h)]
theorem zip_vals {g : Gh} {p : Str} {ov : Option V} : ∀ {ps : List Str} {xs : List V} {vs : List Value}, VRs g xs vs → (p, ov) ∈ ps.zip (xs.map some) → ∃ x v', ov = some x ∧ (p, v') ∈ ps.zip vs ∧ VR g x v'
  | [], xs, vs, h, e => by simp at e
  | q :: ps, [], vs, h, e => by simp at e
  | q :: ps, x :: xs, vs, h, e => by
    simp only [VRs] at h
    obtain ⟨v, r, rfl, h1, h2⟩ := h
    simp only [List.map_cons, List.zip_cons_cons, List.mem_cons] at e
    rcases e with e | e
    · cases e
      exact ⟨x, v, rfl, by simp, h1⟩
    · obtain ⟨x', v', a, b, c⟩ := zip_vals h2 e
      exact ⟨x', v', a, by simp [b], c⟩

/-- what is left of the objects may be forgotten -/
def FinO (Q : V → Objs → Prop) (v : V) (o1 : Objs) : Prop := ∃ o2 : Objs, (∀ n x, o2 n = some x → o1 n = some x) ∧ Q v o2
def RetQ (Q : V → Objs → Prop) : Fl → Loc → Objs → Prop
  | .ret v, _, o1 => FinO Q v o1
  | .next, _, o1 => FinO Q .none o1
  | .brk, _, _ => False

section
variable {B : Bs} {G : Glb} {d : Nat} {sc : Scope} {loc : Loc} {g : Gh} {o : Objs} {s : Shared}

theorem pairwise_nodup : ∀ {cs : List (Str × Addr)}, (cs.Pairwise fun x y => x.2 ≠ y.2) → (cs.map (·.2)).Nodup
  | [], _ => List.nodup_nil
  | x :: r, h => by
    obtain ⟨h1, h2⟩ := List.pairwise_cons.mp h
    simp only [List.map_cons, List.nodup_cons]
    refine ⟨fun q => ?_, pairwise_nodup h2⟩
    obtain ⟨y, hy, e⟩ := List.mem_map.mp q
    exact h1 y hy e.symm

theorem enter_fn {A : Around} {f : Addr} {ps ls : List Str} {body : List Stmt} {names : List (Str × V)} {xs : List V} {vs : List Value} {R : Result → Shared → Prop} (hf : FnAt B f ps body sc) (ho : fnOk sc ps ls = true)
    (hn : ∀ p ∈ names, sc.names.lookup p.1 = some .globalImplicit ∧ GlobOk B p.1 p.2) (hl : xs.length = ps.length) (hA : AOk (d + 1) A) (H : HR B g o s) (hv : VRs g xs vs)
    (k : ∀ env h1 tk, EnvOk B ⟨names, sc⟩ env → EnvS sc (ps.zip (xs.map some) ++ ls.map fun l => (l, Option.none)) env → AOk d (A.deeper env) → HR B g o { s with heap := h1, toks := tk } →
      FR g o env (ps.zip (xs.map some) ++ ls.map fun l => (l, Option.none)) h1 → (∀ a x, s.heap.get? a = some x → h1.get? a = some x) → (∀ a, WF env a → s.heap.get? a = none) →
      wpAny (model B.prog B.w) (A.deeper env) (execs body env) (fun f s' => R (.ok (.ret (match f with | .ret v => v | _ => .none))) s') noE { s with heap := h1, toks := tk }) : codeAny (model B.prog B.w) A (.call (.ref f) ⟨vs, []⟩) R s := by
  obtain ⟨oc, od, fd, osl, hK, rfl, hb, hgl, hbu, hcl, hcd, hbind⟩ := hf.at_
  have X := H.kin
  have hlv : vs.length = ps.length := by rw [hv.length, hl]
  simp only [fnOk, Bool.and_eq_true, decide_eq_true_eq, Bool.not_eq_true', List.all_eq_true, Bool.or_eq_true] at ho
  obtain ⟨⟨⟨⟨⟨hk, hco⟩, hgen⟩, nd⟩, ndc⟩, hal⟩ := ho
  have kinds : ∀ n, ∀ x ∈ ps ++ ls, fd.scope.names.lookup x = some .local ∨ (fd.scope.names.lookup x = some .cell ∧ ((cellsFrom n fd.scope.names []).lookup x).isSome = true) := fun n x hx => by
    rcases (hal x hx).2 with e | ⟨e1, e2⟩
    · exact .inl e
    · exact .inr ⟨e1, by rw [lookup_isSome_names (cellsFrom_names fd.scope.names n 0 [] [] rfl)]; exact e2⟩
  have hroom : A.depth < recursionLimit := by
    have := hA.2.1
    show A.depth < 1000
    omega
  refine codeAny_call_function hroom (X _ _ hK) rfl hco hgen hb (codeRec_of X hcd) (hbind s vs X hlv _ _ _ _ ?_)
  rw [hgl, hbu, hcl]
  have keys := zip_keys (ps := ps) hlv
  have ndp : ((ps.zip vs).map (·.1)).Nodup := by rw [keys]; exact (List.nodup_append.mp nd).1
  refine wpAny_newFunctionEnv_cells hk (fun x hx => kinds _ x.1 (List.mem_append_left _ (by rw [← keys]; exact List.mem_map_of_mem hx))) fun env henv s' ic => ?_
  have hkind : ∀ x, env.kindOf x = fd.scope.names.lookup x := fun x => by rw [henv]; rfl
  have hloc : env.locals = s.heap.objs.size := by rw [henv]; rfl
  have hcells : env.cells = cellsFrom (s.heap.objs.size + 1) fd.scope.names [] := by rw [henv]; rfl
  obtain ⟨h1, tk, rfl, hkeep⟩ := ic.done
  refine ⟨(B.nolim.keeps H.bot).keeps hkeep, codeAny_func ?_⟩
  obtain ⟨H1, E1⟩ := H.grow (n := tk) hkeep
  have fresh : ∀ a, s.heap.objs.size ≤ a → s.heap.get? a = none := fun a ha => by
    cases e : s.heap.get? a with
    | none => rfl
    | some y => exact absurd (Heap.lt_size e) (Nat.not_lt.mpr ha)
  have stray : ∀ a, s.heap.get? a = none → ¬ Owned g o a ∧ g.Z a = none := fun a ha => by
    refine ⟨fun q => ?_, ?_⟩
    · obtain ⟨⟨y, hy⟩, _⟩ := H.owned q; rw [ha] at hy; cases hy
    · cases e : g.Z a with
      | none => rfl
      | some y => have := H.zin _ _ e; rw [ha] at this; cases this
  have fL : s.heap.get? env.locals = none := fresh _ (by rw [hloc]; exact Nat.le_refl _)
  have fC : ∀ p ∈ env.cells, s.heap.get? p.2 = none := fun p hp => fresh _ (Nat.le_of_lt (by rw [← hloc]; exact ic.above p.1 p.2 hp))
  have nodup := pairwise_nodup ic.apart
  have clook : ∀ p ∈ env.cells, env.cells.lookup p.1 = some p.2 := fun p hp => by
    rw [hcells] at hp ⊢
    exact lookup_of_mem_nodup (cellsFrom_names fd.scope.names 0 (s.heap.objs.size + 1) [] [] rfl ▸ ndc) hp
  have F1 : FR g o env (ps.zip (xs.map some) ++ ls.map fun l => (l, Option.none)) h1 := by
    refine ⟨(stray _ fL).1, (stray _ fL).2, ⟨_, ic.toInCall.ns, fun p hp => ?_⟩, fun p hp => ⟨(stray _ (fC p hp)).1, (stray _ (fC p hp)).2, ?_, ?_⟩⟩
    · have hmem : p.1 ∈ ps ++ ls := by
        rcases List.mem_append.mp hp with hp | hp
        · obtain ⟨x, v', e1, e2, e3⟩ := zip_vals (p := p.1) (ov := p.2) hv hp
          exact List.mem_append_left _ (by rw [← keys]; exact List.mem_map_of_mem (f := (·.1)) e2)
        · obtain ⟨l, hl', rfl⟩ := List.mem_map.mp hp
          exact List.mem_append_right _ hl'
      have val : ∀ v, p.2 = some v → ∃ v', (p.1, v') ∈ ps.zip vs ∧ VR g v v' := fun v e => by
        rcases List.mem_append.mp hp with hp | hp
        · obtain ⟨x, v', e1, e2, e3⟩ := zip_vals (p := p.1) (ov := p.2) hv hp
          rw [e] at e1; cases e1
          exact ⟨v', e2, e3⟩
        · obtain ⟨l, hl', rfl⟩ := List.mem_map.mp hp
          cases e
      refine ⟨(hal _ hmem).1.1, (hal _ hmem).1.2, ?_⟩
      rcases kinds (s.heap.objs.size + 1) _ hmem with k | ⟨k, kc⟩
      · refine .inl ⟨by rw [hkind]; exact k, fun v e => ?_⟩
        obtain ⟨v', e2, e3⟩ := val v e
        exact ⟨v', bindL_in (by rw [hkind]; exact k) ndp e2, e3⟩
      · obtain ⟨c, hc⟩ := Option.isSome_iff_exists.mp kc
        rw [← hcells] at hc
        refine .inr ⟨.inl (by rw [hkind]; exact k), c, _, hc, ic.cell _ _ hc, fun v e => ?_⟩
        obtain ⟨v', e2, e3⟩ := val v e
        exact ⟨v', bindC_in (by rw [hkind, k]; decide) ndp e2, e3⟩
    · exact fun q => Nat.lt_irrefl _ (q ▸ ic.above p.1 p.2 hp)
    · obtain ⟨y, hy, _⟩ := ic.cell _ _ (clook p hp)
      exact ⟨y, hy⟩
  have E : EnvOk B ⟨names, fd.scope⟩ env := ⟨by rw [henv]; rfl, by rw [henv]; exact hk, by rw [henv]; rfl, by rw [henv]; rfl, fun p hp => ⟨by rw [hkind]; exact (hn p hp).1, (hn p hp).2⟩⟩
  have ES : EnvS fd.scope (ps.zip (xs.map some) ++ ls.map fun l => (l, Option.none)) env := by
    refine ⟨by rw [henv]; rfl, ?_, nodup⟩
    rw [List.map_append, zip_keys (by simpa using hl), List.map_map]
    have : (fun l : Str => (l, (Option.none : Option V)).1) = id := rfl
    have e2 : List.map ((fun x : Str × Option V => x.1) ∘ fun l => (l, Option.none)) ls = ls := by
      rw [show ((fun x : Str × Option V => x.1) ∘ fun l => (l, Option.none)) = id from rfl, List.map_id]
    rw [e2]; exact nd
  have hA' : AOk d (A.deeper env) := ⟨hA.1, by have := hA.2.1; show A.depth + 1 + _ + _ ≤ _; omega, by have := hA.2.2; show A.units + 3 + _ + _ ≤ _; omega⟩
  have nW : ∀ a, WF env a → s.heap.get? a = none := fun a q => by
    rcases q with rfl | ⟨p, hp, rfl⟩
    · exact fL
    · exact fC p hp
  exact wpAny_mono (k env h1 tk E ES hA' H1 F1 hkeep nW) (fun _ _ q => q) fun _ _ e => e.elim

theorem code_fn {A : Around} {f : Addr} {ps ls : List Str} {body : List Stmt} {names : List (Str × V)} {xs : List V} {vs : List Value} {Q : V → Objs → Prop} {R : Result → Shared → Prop} (hf : FnAt B f ps body sc) (ho : fnOk sc ps ls = true)
    (hn : ∀ p ∈ names, sc.names.lookup p.1 = some .globalImplicit ∧ GlobOk B p.1 p.2) (hl : xs.length = ps.length) (hA : AOk (d + 1) A) (H : HR B g o s) (hv : VRs g xs vs)
    (h : wpS B ⟨names, sc⟩ d sc (ps.zip (xs.map some) ++ ls.map fun l => (l, Option.none)) body (RetQ Q) o)
    (hR : ∀ v s', Post B VR Q g o s.heap v s' → R (.ok (.ret v)) s') : codeAny (model B.prog B.w) A (.call (.ref f) ⟨vs, []⟩) R s := by
  refine enter_fn hf ho hn hl hA H hv fun env h1 tk E ES hA' H1 F1 hkeep nW => ?_
  refine wpAny_mono (h (A.deeper env) env g _ hA' E ES H1 F1) (fun f s2 p2 => ?_) fun _ _ e => e
  obtain ⟨fl, l2, g2, o2, H2, E2, F2, k2, r2, q2⟩ := p2
  have gone : ∀ a, h1.get? a = Option.none → s.heap.get? a = Option.none := fun a q => by
    cases e' : s.heap.get? a with
    | none => rfl
    | some z => rw [hkeep _ _ e'] at q; cases q
  have Ex : Ext g o s.heap g2 o2 s2.heap := by
    refine ⟨E2.gle.next, E2.gle.rho, E2.gle.Z, fun a y e => ?_, fun a y hn e => E2.keep a y hn (fun q => by rw [nW a q] at e; cases e) (hkeep _ _ e), fun a q => ?_⟩
    · rcases E2.newZ a y e with q | q | q | q
      · exact .inl q
      · exact .inr (.inl q)
      · exact .inr (.inr (nW a q))
      · exact .inr (.inr (gone a q))
    · rcases E2.own a q with q | q | q
      · exact .inl q
      · exact .inr (nW a q)
      · exact .inr (gone a q)
  cases fl with
  | next =>
    simp only [RFl] at r2; subst r2
    obtain ⟨o3, k3, q3⟩ := q2
    exact hR _ _ ⟨.none, g2, o3, H2.forget k3, Ex.forget k3, by simp [VR], q3⟩
  | brk => exact q2.elim
  | ret v =>
    simp only [RFl] at r2; obtain ⟨v', rfl, hv'⟩ := r2
    obtain ⟨o3, k3, q3⟩ := q2
    exact hR _ _ ⟨v, g2, o3, H2.forget k3, Ex.forget k3, hv', q3⟩

theorem wpF.fn {f : Addr} {ps ls : List Str} {body : List Stmt} {names : List (Str × V)} {xs : List V} {Q : V → Objs → Prop} (hf : FnAt B f ps body sc) (ho : fnOk sc ps ls = true)
    (hn : ∀ p ∈ names, sc.names.lookup p.1 = some .globalImplicit ∧ GlobOk B p.1 p.2) (hl : xs.length = ps.length)
    (h : wpS B ⟨names, sc⟩ d sc (ps.zip (xs.map some) ++ ls.map fun l => (l, Option.none)) body (RetQ Q) o) : wpF B (d + 1) (.raw (.ref f)) xs Q o := by
  intro A g s f' vs hA H h1 h2
  simp only [VR] at h1; subst h1
  exact wpAny_call (code_fn hf ho hn hl hA H h2 h fun v s' p => p)
end

abbrev vints (ns : List Int) : List V := ns.map .int
theorem VRs.vints {g : Gh} : ∀ {ns : List Int} {vs : List Value}, VRs g (vints ns) vs → IntsAre vs ns
  | [], vs, h => by simp only [Mine.vints, List.map_nil, VRs] at h; subst h; exact .nil
  | n :: ns, vs, h => by
    simp only [Mine.vints, List.map_cons, VRs, VR] at h
    obtain ⟨v, r, rfl, ⟨t, rfl⟩, h2⟩ := h
    exact .cons n t (VRs.vints h2)
abbrev vstrs (ns : List Str) : List V := ns.map .str
section
variable {B : Bs} {G : Glb} {d : Nat} {sc : Scope} {loc : Loc} {g : Gh} {o : Objs} {s : Shared} {Q : V → Objs → Prop}

theorem wpF.one {f : Value} {x : V} (h : ∀ A g s v, AOk d A → HR B g o s → VR g x v → wpT B VR A (call f [v]) Q g o s) : wpF B d (.raw f) [x] Q o := by
  intro A g s f' us hA H h1 h2
  simp only [VR] at h1; subst h1
  simp only [VRs] at h2
  obtain ⟨u, _, rfl, h2, rfl⟩ := h2
  exact h A g s u hA H h2
theorem wpF.two {f : Value} {x y : V} (h : ∀ A g s v u, AOk d A → HR B g o s → VR g x v → VR g y u → wpT B VR A (call f [v, u]) Q g o s) : wpF B d (.raw f) [x, y] Q o := by
  intro A g s f' us hA H h1 h2
  simp only [VR] at h1; subst h1
  simp only [VRs] at h2
  obtain ⟨u, _, rfl, h2, w, _, rfl, h3, rfl⟩ := h2
  exact h A g s u w hA H h2 h3

theorem wpF.lenL {x : V} {xs : List V} (hx : asL o x = some xs) (hsz : xs.length ≤ sizeLine) (q : Q (.int xs.length) o) : wpF B d (.raw (.builtin "len")) [x] Q o := by
  refine wpF.one fun A g s v hA H h1 => ?_
  obtain ⟨l, vs, rfl, hl, hv⟩ := asL_at H hx h1
  rw [sizeLine_eq] at hsz
  exact call_len_list hl (by simp [hv.length]; omega) (wpT.doneT H (by simp [VR, hv.length]) q)

theorem isi_tup {x : V} {v : Value} {Tx : String} {tp : V} {tv : Value} {A : Around} {cs : List Value} {vs : List Bool} (H : HR B g o s) (hx : s.TypeIs v Tx) (hc : VR g (.tup (cs.map .raw)) tv) (ha : AnswersAll (fun s => s.TypeIs v Tx) v cs vs) (q : Q (.bool (vs.any id)) o) :
    wpT B VR A (call (.builtin "isinstance") [v, tv]) Q g o s := by
  obtain ⟨a, us, rfl, ht, hv⟩ := asT_ex H hc
  have e : us = cs := by
    have : ∀ (cs us : List Value), VRs g (cs.map .raw) us → us = cs := by
      intro cs
      induction cs with
      | nil => intro us h; simpa [VRs] using h
      | cons c r ih =>
        intro us h
        simp only [List.map_cons, VRs, VR] at h
        obtain ⟨v, r', rfl, rfl, h2⟩ := h
        rw [ih _ h2]
    exact this _ _ hv
  subst e
  exact call_isinstance (isinstance_tuple ha) ⟨hx, ht, fun tk => wpT.doneT H (by simp [VR]) q⟩

theorem wpF.isiL {x : V} {xs : List V} (hx : asL o x = some xs) (q : Q (.bool true) o) : wpF B d (.raw (.builtin "isinstance")) [x, .tup [.raw (.type "tuple"), .raw (.type "list")]] Q o := by
  refine wpF.two fun A g s v u hA H h1 h2 => ?_
  obtain ⟨l, vs, rfl, hl, hv⟩ := asL_at H hx h1
  exact isi_tup (x := x) (tp := .none) (cs := [.type "tuple", .type "list"]) (vs := [false, true]) H hl.typeIs h2 (by pv_isi_answers) q
theorem wpF.isiT {xs : List V} (q : Q (.bool true) o) : wpF B d (.raw (.builtin "isinstance")) [.tup xs, .tup [.raw (.type "tuple"), .raw (.type "list")]] Q o := by
  refine wpF.two fun A g s v u hA H h1 h2 => ?_
  obtain ⟨l, vs, rfl, hl, hv⟩ := asT_at H h1
  exact isi_tup (x := .tup xs) (tp := .none) (cs := [.type "tuple", .type "list"]) (vs := [true, false]) H hl.typeIs h2 (by pv_isi_answers) q
theorem wpF.isiInt {i : Int} (q : Q (.bool true) o) : wpF B d (.raw (.builtin "isinstance")) [.int i, .raw (.type "int")] Q o := by
  refine wpF.two fun A g s v u hA H h1 h2 => ?_
  simp only [VR] at h1 h2
  obtain ⟨t, rfl⟩ := h1; subst h2
  exact IsiPair.int_int (wpT.done H (by simp [VR]) q)
theorem wpF.isiBool {i : Int} (q : Q (.bool false) o) : wpF B d (.raw (.builtin "isinstance")) [.int i, .raw (.type "bool")] Q o := by
  refine wpF.two fun A g s v u hA H h1 h2 => ?_
  simp only [VR] at h1 h2
  obtain ⟨t, rfl⟩ := h1; subst h2
  exact IsiPair.int_bool (wpT.doneT H (by simp [VR]) q)
theorem Post.grown {α β : Type} {R : Gh → β → α → Prop} {Q : β → Objs → Prop} {b : β} {a : α} {h' : Heap} {n : Nat} (H : HR B g o s) (k : ∀ a x, s.heap.get? a = some x → h'.get? a = some x) (r : R g b a) (q : Q b o) : Post B R Q g o s.heap a { s with heap := h', toks := n } :=
  let ⟨H1, E1⟩ := H.grow (n := n) k; ⟨b, g, o, H1, E1, r, q⟩

theorem wpF.max2 {a b : Int} (q : Q (.int (max a b)) o) : wpF B d (.raw (.builtin "max")) [.int a, .int b] Q o := by
  refine wpF.two fun A g s v u hA H h1 h2 => ?_
  simp only [VR] at h1 h2
  obtain ⟨t, rfl⟩ := h1; obtain ⟨t', rfl⟩ := h2
  refine max_two_ints hA.1 fun h' tk hk => ?_
  by_cases c : b > a
  · rw [if_pos c]; exact Post.grown H hk (by simp [VR]; omega) q
  · rw [if_neg c]; exact Post.grown H hk (by simp [VR]; omega) q
theorem wpF.min2 {a b : Int} (q : Q (.int (min a b)) o) : wpF B d (.raw (.builtin "min")) [.int a, .int b] Q o := by
  refine wpF.two fun A g s v u hA H h1 h2 => ?_
  simp only [VR] at h1 h2
  obtain ⟨t, rfl⟩ := h1; obtain ⟨t', rfl⟩ := h2
  refine min_two_ints hA.1 fun h' tk hk => ?_
  by_cases c : b < a
  · rw [if_pos c]; exact Post.grown H hk (by simp [VR]; omega) q
  · rw [if_neg c]; exact Post.grown H hk (by simp [VR]; omega) q
theorem wpF.abs {a : Int} (q : Q (.int (a.natAbs : Nat)) o) : wpF B d (.raw (.builtin "abs")) [.int a] Q o := by
  refine wpF.one fun A g s v hA H h1 => ?_
  simp only [VR] at h1
  obtain ⟨t, rfl⟩ := h1
  exact call_abs_int fun u tk => wpT.doneT H (by simp [VR]; split <;> omega) q
theorem wpF.intB {b : Bool} (q : Q (.int (if b then 1 else 0)) o) : wpF B d (.raw (.type "int")) [.bool b] Q o := by
  refine wpF.one fun A g s v hA H h1 => ?_
  simp only [VR] at h1; subst h1
  exact call_int_bool (wpT.doneT H (by simp [VR]) q)
theorem wpF.range1 {n : Int} (q : Q (.rng 0 n) o) : wpF B d (.raw (.type "range")) [.int n] Q o := by
  refine wpF.one fun A g s v hA H h1 => ?_
  simp only [VR] at h1
  obtain ⟨t, rfl⟩ := h1
  refine call_range_1 (Post.frz H (fun _ _ e => Heap.get?_push_of_some _ e) (get_size _) (Heap.get?_push_size _ rfl) ?_ q)
  simp only [VR]
  exact ⟨_, _, _, _, rfl, Gh.frz_at ..⟩
theorem wpF.range2 {m n : Int} (q : Q (.rng m n) o) : wpF B d (.raw (.type "range")) [.int m, .int n] Q o := by
  refine wpF.two fun A g s v u hA H h1 h2 => ?_
  simp only [VR] at h1 h2
  obtain ⟨t, rfl⟩ := h1; obtain ⟨t', rfl⟩ := h2
  refine call_range_2 (Post.frz H (fun _ _ e => Heap.get?_push_of_some _ e) (get_size _) (Heap.get?_push_size _ rfl) ?_ q)
  simp only [VR]
  exact ⟨_, _, _, _, rfl, Gh.frz_at ..⟩
theorem wpF.sum {x : V} {ns : List Int} (hx : asL o x = some (vints ns)) (q : Q (.int ns.sum) o) : wpF B d (.raw (.builtin "sum")) [x] Q o := by
  refine wpF.one fun A g s v hA H h1 => ?_
  obtain ⟨l, vs, rfl, hl, hv⟩ := asL_at H hx h1
  obtain ⟨xs, e⟩ := hv.vints.allInts.items
  rw [e] at hl
  refine sum_intListG hA.1 hl fun h' tk t' hk => Post.grown H hk ?_ q
  have e2 : numsOf vs = xs.toList.map (·.1) := by rw [← nums_intItems, ← e]
  rw [preSum_eq, List.take_of_length_le (by simp), ← e2, hv.vints.numsOf]
  simp [VR]
/-- a list, a tuple -/
def asS (o : Objs) : V → Option (List V)
  | .tup xs => some xs
  | x => asL o x
theorem asS_at (H : HR B g o s) {x : V} {v : Value} {xs : List V} (h : asS o x = some xs) (r : VR g x v) : ∃ a vs x n, v = .ref a ∧ s.heap.get? a = some x ∧ (x.cls = .type "list" ∨ x.cls = .type "tuple") ∧ x.data = .seq vs.toArray n ∧ VRs g xs vs := by
  have go : asL o x = some xs → ∃ a vs x n, v = .ref a ∧ s.heap.get? a = some x ∧ (x.cls = .type "list" ∨ x.cls = .type "tuple") ∧ x.data = .seq vs.toArray n ∧ VRs g xs vs := fun h => by
    obtain ⟨a, vs, rfl, ⟨y, h1, h2, n, h3⟩, h4⟩ := asL_at H h r
    exact ⟨a, vs, y, n, rfl, h1, .inl h2, h3, h4⟩
  cases x with
  | tup ys =>
    simp only [asS, Option.some.injEq] at h; subst h
    obtain ⟨a, vs, rfl, h1, h4⟩ := asT_ex H r
    exact ⟨a, vs, _, 0, rfl, h1, .inr rfl, rfl, h4⟩
  | _ => exact go h
theorem wpF.list1 {x : V} {xs : List V} (hx : asS o x = some xs) (hsz : xs.length ≤ sizeLine) (q : NewL Q xs o) : wpF B d (.raw (.type "list")) [x] Q o := by
  refine wpF.one fun A g s v hA H h1 => ?_
  obtain ⟨a, vs, y, n, rfl, h2, h3, h4, h5⟩ := asS_at H hx h1
  refine call_list_seq a (T := if y.cls = .type "list" then "list" else "tuple") (by split <;> simp) h2 (by split <;> simp_all) h4 (fun h' c' k hn => ?_) (by simpa [h5.length] using hsz)
  exact Post.lst (m := c') (n := s.toks) H k (get_size _) hn h5 q
theorem wpF.tuple1 {x : V} {xs : List V} (hx : asL o x = some xs) (hsz : xs.length ≤ sizeLine) (q : Q (.tup xs) o) : wpF B d (.raw (.type "tuple")) [x] Q o := by
  refine wpF.one fun A g s v hA H h1 => ?_
  obtain ⟨l, vs, rfl, hl, hv⟩ := asL_at H hx h1
  refine call_tuple_list hl (fun h' k => ?_) (by simpa [hv.length] using hsz)
  obtain ⟨H1, E1⟩ := H.grow (n := s.toks) k
  exact Post.up E1 (Post.tupP (s := { s with heap := h' }) (n := s.toks) H1 hv q)
theorem wpF.lenT {xs : List V} (hsz : xs.length ≤ sizeLine) (q : Q (.int xs.length) o) : wpF B d (.raw (.builtin "len")) [.tup xs] Q o := by
  refine wpF.one fun A g s v hA H h1 => ?_
  obtain ⟨a, vs, rfl, ht, hv⟩ := asT_ex H h1
  rw [sizeLine_eq] at hsz
  exact len_tuple (items := vs.toArray) ⟨_, ht, rfl, 0, rfl⟩ (by simp [hv.length]; omega) (wpT.doneT H (by simp [VR, hv.length]) q)

/-! comparisons of lists of vints -/
theorem wpO2.leq {x y : V} {ns ms : List Int} (hx : asL o x = some (vints ns)) (hy : asL o y = some (vints ms)) (q : Q (.bool (decide (ns = ms))) o) : wpO2 B d (compareOp .Eq) x y Q o := by
  intro A g s v u hA H h1 h2
  obtain ⟨l, vs, rfl, hl, hv⟩ := asL_at H hx h1
  obtain ⟨b, us, rfl, hb, hu⟩ := asL_at H hy h2
  exact eq_intsK hl hv.vints hb hu.vints (by have := hA.2.2; show A.units + 64 < 9900; omega) (wpT.done H (by simp [VR]) q)
theorem wpO2.lne {x y : V} {ns ms : List Int} (hx : asL o x = some (vints ns)) (hy : asL o y = some (vints ms)) (q : Q (.bool (!decide (ns = ms))) o) : wpO2 B d (compareOp .NotEq) x y Q o := by
  intro A g s v u hA H h1 h2
  obtain ⟨l, vs, rfl, hl, hv⟩ := asL_at H hx h1
  obtain ⟨b, us, rfl, hb, hu⟩ := asL_at H hy h2
  exact ne_intsK hl hv.vints hb hu.vints (by have := hA.2.2; show A.units + 64 < 9900; omega) (wpT.done H (by simp [VR]) q)

/-! in, not in -/
theorem eqAt_vints {A : Around} {l b : Addr} {vs us : List Value} {ns ms : List Int} (hu : A.units + 64 < cLine) (hl : s.heap.IsList l vs.toArray) (hi : IntsAre vs ns) (hb : s.heap.IsList b us.toArray) (hi' : IntsAre us ms) : EqAt A s (.ref l) (.ref b) (decide (ns = ms)) := by
  by_cases e : l = b
  · subst e
    obtain ⟨x, hx, _, n, hd⟩ := hl
    obtain ⟨y, hy, _, n', hd'⟩ := hb
    rw [hx] at hy; cases hy
    rw [hd] at hd'
    cases hd'
    have : ns = ms := by rw [← hi.numsOf, ← hi'.numsOf]
    rw [decide_eq_true this]
    exact EqAt.same _
  · exact EqAt.of_refs e fun prog w E Q h => eq_intsK hl hi hb hi' hu h


theorem IntsAre.anyK {k : Int} : ∀ {vs : List Value} {ns : List Int}, IntsAre vs ns → (vs.any fun v => match v with | .int a _ => a == k | _ => false) = decide (k ∈ ns)
  | _, _, .nil => by simp
  | _, _, .cons a t r => by
    simp only [List.any_cons, IntsAre.anyK r, List.mem_cons]
    by_cases h : a = k
    · simp [h]
    · have : ¬ k = a := fun e => h e.symm
      simp [h, this]
theorem IntsAre.mem {vs : List Value} {ns : List Int} (h : IntsAre vs ns) : ∀ v ∈ vs, ∃ a t, v = .int a t := by
  induction h with
  | nil => intro v h; cases h
  | cons a t r ih =>
    intro v h
    rcases List.mem_cons.mp h with rfl | h
    · exact ⟨a, t, rfl⟩
    · exact ih v h
theorem eqAt_k {A : Around} {vs : List Value} {ns : List Int} {k : Int} {t : Tok} (h : IntsAre vs ns) : ∀ y, y ∈ vs.toArray → EqAt A s y (.int k t) (match (motive := Value → Bool) y with | .int a _ => a == k | _ => false) := fun y hy => by
  obtain ⟨a, u, rfl⟩ := IntsAre.mem h y (by simpa using hy)
  exact EqAt.int_int a u k t

theorem wpO2.inI {x : V} {k : Int} {ns : List Int} (hx : asL o x = some (vints ns)) (q : Q (.bool (decide (k ∈ ns))) o) : wpO2 B d (compareOp .In) (.int k) x Q o := by
  intro A g s v u hA H h1 h2
  simp only [VR] at h1
  obtain ⟨t, rfl⟩ := h1
  obtain ⟨b, us, rfl, hb, hu⟩ := asL_at H hx h2
  refine in_listAt _ hb (eqAt_k hu.vints) (wpT.done H ?_ q)
  simp only [VR]
  rw [← IntsAre.anyK hu.vints]
  simp
theorem wpO2.inT {k : Int} {ns : List Int} (q : Q (.bool (decide (k ∈ ns))) o) : wpO2 B d (compareOp .In) (.int k) (.tup (vints ns)) Q o := by
  intro A g s v u hA H h1 h2
  simp only [VR] at h1
  obtain ⟨t, rfl⟩ := h1
  obtain ⟨b, us, rfl, hb, hu⟩ := asT_at H h2
  refine in_tupleAt _ hb (eqAt_k hu.vints) (wpT.done H ?_ q)
  simp only [VR]
  rw [← IntsAre.anyK hu.vints]
  simp

/-- the ints of a list at an address -/
def intsAt (h : Heap) (v : Value) : List Int :=
  match v with
  | .ref l => (match h.get? l with
    | some o => (match o.data with | .seq items _ => numsOf items.toList | _ => [])
    | none => [])
  | _ => []
theorem intsAt_of {h : Heap} {l : Addr} {vs : List Value} {ns : List Int} (hl : h.IsList l vs.toArray) (hi : IntsAre vs ns) : intsAt h (.ref l) = ns := by
  obtain ⟨o, ho, _, n, hd⟩ := hl
  unfold intsAt
  simp only [ho, hd]
  exact hi.numsOf

theorem lists_any {ms : List Int} (H : HR B g o s) : ∀ {nss : List (List Int)} {vs : List Value}, VRs g (nss.map fun ns => V.lst (vints ns)) vs → (∀ v ∈ vs, ∃ l us ns, v = .ref l ∧ s.heap.IsList l us.toArray ∧ IntsAre us ns) ∧ (vs.any fun v => decide (intsAt s.heap v = ms)) = decide (ms ∈ nss)
  | [], vs, h => by simp only [List.map_nil, VRs] at h; subst h; exact ⟨fun _ h => (nomatch h), by simp⟩
  | ns :: r, vs, h => by
    simp only [List.map_cons, VRs] at h
    obtain ⟨v, r', rfl, h1, h2⟩ := h
    obtain ⟨a, us, rfl, hl, hu⟩ := asL_at (o := o) (xs := vints ns) H rfl h1
    obtain ⟨i1, i2⟩ := lists_any (ms := ms) H h2
    refine ⟨fun v h => ?_, ?_⟩
    · rcases List.mem_cons.mp h with rfl | h
      · exact ⟨a, us, ns, rfl, hl, hu.vints⟩
      · exact i1 v h
    · simp only [List.any_cons, i2, intsAt_of hl hu.vints, List.mem_cons]
      by_cases e : ns = ms
      · simp [e]
      · have : ¬ ms = ns := fun q => e q.symm
        simp [e, this]
theorem wpO2.notInL {x y : V} {ms : List Int} {nss : List (List Int)} (hx : asL o x = some (vints ms)) (hy : asL o y = some (nss.map fun ns => V.lst (vints ns))) (q : Q (.bool (!decide (ms ∈ nss))) o) : wpO2 B d (compareOp .NotIn) x y Q o := by
  intro A g s v u hA H h1 h2
  obtain ⟨l, vs, rfl, hl, hv⟩ := asL_at H hx h1
  obtain ⟨b, us, rfl, hb, hu⟩ := asL_at H hy h2
  obtain ⟨i1, i2⟩ := lists_any (ms := ms) H hu
  refine notIn_listAt (fun v => decide (intsAt s.heap v = ms)) hb (fun z hz => ?_) (wpT.done H ?_ q)
  · obtain ⟨l', ws, ns, rfl, hw, hi⟩ := i1 z (by simpa using hz)
    rw [intsAt_of hw hi]
    exact eqAt_vints (by have := hA.2.2; show A.units + 1 + 64 < 9900; omega) hw hi hl hv.vints
  · simp only [VR]; rw [← i2]; simp
end

structure TabOk (K : Frag) (C : Addr) : Prop where
  pg : plainGet K C "links" = true
  hd : hasDictIn K C = true
  sa : findIn K (.ref C) "__setattr__" = some (some (.builtin "object.__setattr__"))
  po : plainOver K C = true
  l : findIn K (.ref C) "links" = some none
  n : findIn K (.ref C) "numbers" = some none
  s : findIn K (.ref C) "states" = some none
  e : findIn K (.ref C) "exceptions" = some none

def setF {α : Type} (f : Int → Option α) (k : Int) (v : α) : Int → Option α := fun x => if x = k then some v else f x
def fieldOf (T : Tab) : Nat → Option ((Int → Option V) × Nat)
  | 2 => some (fun k => (T.links k).map .int, T.nl)
  | 3 => some (fun k => (T.numbers k).map tupI, T.nn)
  | 4 => some (fun k => (T.excs k).map tupI, T.ne)
  | _ => none

theorem valueAt_stored {kvs : List (Int × Value)} (k : Int) (v : Value) (x : Int) : valueAt (stored kvs k v) x = if x = k then some v else valueAt kvs x := by
  unfold stored valueAt
  by_cases h : kvs.any (fun kv => kv.1 = k) = true
  · rw [if_pos h]
    induction kvs with
    | nil => simp at h
    | cons p r ih =>
      simp only [List.map_cons, List.find?_cons]
      by_cases hp : p.1 = k
      · by_cases hx : x = k
        · subst hx; simp [hp]
        · have hx' : ¬ k = x := fun e => hx e.symm
          have : decide (p.1 = x) = false := by simp [hp, hx']
          simp only [hp, if_true, hx', decide_false, this, hx, if_false]
          clear ih h this
          induction r with
          | nil => rfl
          | cons q r ih =>
            simp only [List.map_cons, List.find?_cons]
            by_cases hq : q.1 = k
            · simp only [hq, if_true, hx', decide_false]; exact ih
            · simp only [hq, if_false]
              by_cases hqx : q.1 = x
              · simp [hqx]
              · simp only [hqx, decide_false]; exact ih
      · have h2 : r.any (fun kv => kv.1 = k) = true := by simpa [hp] using h
        simp only [hp, if_false]
        by_cases hpx : p.1 = x
        · have : ¬ x = k := fun e => hp (hpx.trans e)
          simp [hpx, this]
        · simp only [hpx, decide_false]; exact ih h2
  · rw [if_neg h]
    have hno : ∀ p ∈ kvs, p.1 ≠ k := fun p hp e => h (List.any_eq_true.mpr ⟨p, hp, by simp [e]⟩)
    rw [List.find?_append]
    by_cases hx : x = k
    · subst hx
      have : kvs.find? (fun kv => decide (kv.1 = x)) = none := List.find?_eq_none.mpr fun p hp => by simpa using hno p hp
      rw [this]; simp
    · have hx' : ¬ k = x := fun e => hx e.symm
      simp [hx, hx']

section
variable {B : Bs} {G : Glb} {d : Nat} {sc : Scope} {loc : Loc} {g : Gh} {o : Objs} {s : Shared} {Q : V → Objs → Prop}

/-- the parts of a table -/
theorem HR.tabAt (H : HR B g o s) {t : Nat} {T : Tab} (ht : o t = some (.tab T)) : ∃ x dx l n e t1 t2 t3 t4 t5 ep, g.ρ t = [x, dx, l, n, e] ∧ (g.ρ t).Nodup ∧ s.heap.get? x = some (instObj B.C dx) ∧
      s.heap.get? dx = some (nsO B l n e T.states t1 t2 t3 t4 t5 ep) ∧
      DictIn B g s.heap l (fun k => (T.links k).map .int) T.nl ∧ DictIn B g s.heap n (fun k => (T.numbers k).map tupI) T.nn ∧ DictIn B g s.heap e (fun k => (T.excs k).map tupI) T.ne := by
  obtain ⟨_, x, dx, l, n, e, t1, t2, t3, t4, t5, ep, h1, h2, h3, h4, h5, h6, h7⟩ := H.live _ _ ht
  exact ⟨x, dx, l, n, e, t1, t2, t3, t4, t5, ep, h1, h2, h3, h4, h5, h6, h7⟩

theorem HR.dictAt (H : HR B g o s) {t i : Nat} {T : Tab} {v : Value} {f : Int → Option V} {n : Nat} (ht : o t = some (.tab T)) (r : VR g (.sub t i) v) (hf : fieldOf T i = some (f, n)) : ∃ d, v = .ref d ∧ (g.ρ t)[i]? = some d ∧ DictIn B g s.heap d f n := by
  obtain ⟨x, dx, l, nn, e, t1, t2, t3, t4, t5, ep, h1, h2, h3, h4, h5, h6, h7⟩ := H.tabAt ht
  simp only [VR] at r
  obtain ⟨_, d, rfl, hd⟩ := r
  refine ⟨d, rfl, hd, ?_⟩
  rw [h1] at hd
  unfold fieldOf at hf
  split at hf <;> cases hf
  · cases hd; exact h5
  · cases hd; exact h6
  · cases hd; exact h7

/-! a dict is read -/
theorem MethIs.get {t i : Nat} {T : Tab} {f : Int → Option V} {n : Nat} (ht : o t = some (.tab T)) (hf : fieldOf T i = some (f, n)) : MethIs B o (.sub t i) "get" (.builtin "dict.get") := by
  intro g s v A pl Q H r q
  obtain ⟨d, rfl, hd, _, kvs, ⟨ob, es, ep, ho, ⟨hc, hdn, hs⟩, _⟩, _⟩ := H.dictAt ht r hf
  exact getMethod_builtin ⟨_, ho, hc⟩ PySem.F.plainAttrs_dict PySem.F.slot_dict_get rfl (fun b e => by cases e; exact ⟨_, ho, hdn⟩) q

theorem wpF.get {t i : Nat} {T : Tab} {f : Int → Option V} {n : Nat} {k : Int} {y : V} (ht : o t = some (.tab T)) (hf : fieldOf T i = some (f, n)) (q : Q ((f k).getD y) o) : wpF B d (.raw (.builtin "dict.get")) [.sub t i, .int k, y] Q o := by
  intro A g s f' us hA H h1 h2
  simp only [VR] at h1; subst h1
  simp only [VRs] at h2
  obtain ⟨u, _, rfl, h2, w, _, rfl, h3, z, _, rfl, h4, rfl⟩ := h2
  obtain ⟨d, rfl, hd, hsys, kvs, hk, hl, hv⟩ := H.dictAt ht h2 hf
  simp only [VR] at h3
  obtain ⟨tk, rfl⟩ := h3
  refine call_meetsIn PySem.F.slot_dict_get hk.mapOf.typeIs PySem.F.entry_dict_get (PySem.F.args_dict_get_3 _ _ _) (meets_dict_get_default (intKind B.prog B.w) d (intKind_is _ _ k tk) hsys z) ⟨_, hk.mapOf, ?_⟩
  have hvk := hv k
  cases e : f k with
  | none =>
    rw [e] at hvk
    rw [show valueAt kvs k = none from hvk]
    rw [e] at q
    exact wpT.doneT H h4 q
  | some y' =>
    rw [e] at hvk
    obtain ⟨v', e', r'⟩ := hvk
    rw [e']
    rw [e] at q
    exact wpT.doneT H r' q

theorem isSome_of {f : Int → Option V} {kvs : List (Int × Value)} {k : Int} (h : optR g (f k) (valueAt kvs k)) : (valueAt kvs k).isSome = (f k).isSome := by
  cases e : f k with
  | none => rw [e] at h; rw [show valueAt kvs k = none from h]; rfl
  | some y => rw [e] at h; obtain ⟨v', e', _⟩ := h; rw [e']; rfl

theorem wpO2.inD {t i : Nat} {T : Tab} {f : Int → Option V} {n : Nat} {k : Int} (ht : o t = some (.tab T)) (hf : fieldOf T i = some (f, n)) (q : Q (.bool (f k).isSome) o) : wpO2 B d (compareOp .In) (.int k) (.sub t i) Q o := by
  intro A g s v u hA H h1 h2
  simp only [VR] at h1
  obtain ⟨tk, rfl⟩ := h1
  obtain ⟨d, rfl, hd, hsys, kvs, hk, hl, hv⟩ := H.dictAt ht h2 hf
  exact wpAny_in_of (knd := intKind B.prog B.w) (intKind_is _ _ k tk) hsys hk.mapOf (wpT.doneT H (by simp only [VR]; rw [isSome_of (hv k)]) q)
theorem wpO2.notInD {t i : Nat} {T : Tab} {f : Int → Option V} {n : Nat} {k : Int} (ht : o t = some (.tab T)) (hf : fieldOf T i = some (f, n)) (q : Q (.bool (!(f k).isSome)) o) : wpO2 B d (compareOp .NotIn) (.int k) (.sub t i) Q o := by
  intro A g s v u hA H h1 h2
  simp only [VR] at h1
  obtain ⟨tk, rfl⟩ := h1
  obtain ⟨d, rfl, hd, hsys, kvs, hk, hl, hv⟩ := H.dictAt ht h2 hf
  exact wpAny_notIn_of (knd := intKind B.prog B.w) (intKind_is _ _ k tk) hsys hk.mapOf (wpT.doneT H (by simp only [VR]; rw [isSome_of (hv k)]) q)

theorem wpSub.dict {v i : Expr} {t j : Nat} {T : Tab} {f : Int → Option V} {n : Nat} {k : Int} {y : V} (ht : o t = some (.tab T)) (hf : fieldOf T j = some (f, n)) (hy : f k = some y) (q : Q y o)
    (hs : ∀ a b, subscripted i false a b = operate [a, b] (getItem a b) := by intro _ _; with_unfolding_all rfl) : wpSub B d v i (.sub t j) (.int k) Q o := by
  intro A g s v' i' hA H h1 h2
  obtain ⟨d, rfl, hd, hsys, kvs, hk, hl, hv⟩ := H.dictAt ht h1 hf
  simp only [VR] at h2
  obtain ⟨tk, rfl⟩ := h2
  have := hv k
  rw [hy] at this
  obtain ⟨v', e', r'⟩ := this
  exact tail_any hk.mapOf.typeIs slot_dict_getitem.lookup (wpAny_getItem_of (knd := intKind B.prog B.w) (intKind_is _ _ k tk) hk.mapOf e' (wpT.doneT H r' q)) (hs _ _)

/-! a dict is written -/
theorem DictIn.put {h h' : Heap} {a : Addr} {f : Int → Option V} {n : Nat} {kvs : List (Int × Value)} {k : Int} {v : Value} {y : V} (hsys : (a == sysModules) = false) (hl : kvs.length ≤ n) (hv : ∀ k, optR g (f k) (valueAt kvs k)) (hd : h'.DictOf (intKind B.prog B.w) a (stored kvs k v)) (r : VR g y v) :
    DictIn B g h' a (setF f k y) (n + 1) := by
  refine ⟨hsys, _, hd, Nat.le_trans (stored_length_le kvs k v) (Nat.succ_le_succ hl), fun x => ?_⟩
  rw [valueAt_stored]
  unfold setF
  by_cases hx : x = k
  · rw [if_pos hx, if_pos hx]; exact ⟨v, rfl, r⟩
  · rw [if_neg hx, if_neg hx]; exact hv x

theorem setF_map {α β : Type} (f : Int → Option α) (k : Int) (v : α) (F : α → β) : setF (fun x => (f x).map F) k (F v) = fun x => (setF f k v x).map F := by
  funext x; unfold setF; split <;> rfl

def Tab.setL (T : Tab) (k j : Int) : Tab := { T with links := setF T.links k j, nl := T.nl + 1 }
def Tab.setN (T : Tab) (k : Int) (xs : List Int) : Tab := { T with numbers := setF T.numbers k xs, nn := T.nn + 1 }
def Tab.setE (T : Tab) (k : Int) (xs : List Int) : Tab := { T with excs := setF T.excs k xs, ne := T.ne + 1 }

theorem wpO3U.dict {t j : Nat} {T T' : Tab} {f : Int → Option V} {n : Nat} {k : Int} {y : V} {Q : Objs → Prop} (ht : o t = some (.tab T)) (hf : fieldOf T j = some (f, n)) (hs : T'.states = T.states)
    (hf' : ∀ i, fieldOf T' i = if i = j then some (setF f k y, n + 1) else fieldOf T i) (hsz : n ≤ sizeLine) (q : Q (upd o t (.tab T'))) : wpO3U B d setItem (.sub t j) (.int k) y Q o := by
  intro A g s a u w hA H h1 h2 h3
  obtain ⟨x, dx, l, nn, e, t1, t2, t3, t4, t5, ep, p1, p2, p3, p4, p5, p6, p7⟩ := H.tabAt ht
  obtain ⟨d, rfl, hd, hsys, kvs, hk, hl, hv⟩ := H.dictAt ht h1 hf
  simp only [VR] at h2
  obtain ⟨tk, rfl⟩ := h2
  refine wpAny_setItem_pairs (knd := intKind B.prog B.w) (intKind_is _ _ k tk) hk (fun h' hd' hs' => ?_) (Nat.le_trans hl hsz)
  have hdm : d ∈ g.ρ t := List.mem_of_getElem? hd
  refine Post.change (R := RUnit) (Q := fun _ => Q) (b := ()) (m := s.toks + 1) (y := .tab T') H ht (fun b z hb e => hs'.extBut b z (fun q => hb (q ▸ hdm)) e) ?_ trivial q
  have hnew := DictIn.put (h := s.heap) hsys hl hv hd' h3
  have keep : ∀ b, b ∈ g.ρ t → b ≠ d → ∀ z, s.heap.get? b = some z → h'.get? b = some z := fun b _ hb z e => hs'.extBut b z hb e
  rw [p1] at hd hdm keep p2
  have nd : x ≠ dx ∧ x ≠ l ∧ x ≠ nn ∧ x ≠ e ∧ dx ≠ l ∧ dx ≠ nn ∧ dx ≠ e ∧ l ≠ nn ∧ l ≠ e ∧ nn ≠ e := by
    simp only [List.nodup_cons, List.mem_cons, not_or, List.not_mem_nil, not_false_eq_true, and_true] at p2
    obtain ⟨⟨a1, a2, a3, a4⟩, ⟨b1, b2, b3⟩, ⟨c1, c2⟩, d1, _⟩ := p2
    exact ⟨a1, a2, a3, a4, b1, b2, b3, c1, c2, d1⟩
  obtain ⟨n1, n2, n3, n4, n5, n6, n7, n8, n9, n10⟩ := nd
  have f2 := hf' 2
  have f3 := hf' 3
  have f4 := hf' 4
  unfold fieldOf at hf
  rw [p1]
  split at hf <;> cases hf
  · cases hd
    simp only [if_true] at f2
    rw [if_neg (by decide)] at f3 f4
    simp only [fieldOf, Option.some.injEq, Prod.mk.injEq] at f2 f3 f4
    refine ⟨x, dx, l, nn, e, t1, t2, t3, t4, t5, ep, rfl, p2, keep x (by simp) n2 _ p3, by rw [hs]; exact keep dx (by simp) n5 _ p4, ?_, ?_, ?_⟩
    · rw [f2.1, f2.2]; exact hnew
    · rw [f3.1, f3.2]; exact p6.keep (keep nn (by simp) n8.symm)
    · rw [f4.1, f4.2]; exact p7.keep (keep e (by simp) n9.symm)
  · cases hd
    simp only [if_true] at f3
    rw [if_neg (by decide)] at f2 f4
    simp only [fieldOf, Option.some.injEq, Prod.mk.injEq] at f2 f3 f4
    refine ⟨x, dx, l, nn, e, t1, t2, t3, t4, t5, ep, rfl, p2, keep x (by simp) n3 _ p3, by rw [hs]; exact keep dx (by simp) n6 _ p4, ?_, ?_, ?_⟩
    · rw [f2.1, f2.2]; exact p5.keep (keep l (by simp) n8)
    · rw [f3.1, f3.2]; exact hnew
    · rw [f4.1, f4.2]; exact p7.keep (keep e (by simp) n10.symm)
  · cases hd
    simp only [if_true] at f4
    rw [if_neg (by decide)] at f2 f3
    simp only [fieldOf, Option.some.injEq, Prod.mk.injEq] at f2 f3 f4
    refine ⟨x, dx, l, nn, e, t1, t2, t3, t4, t5, ep, rfl, p2, keep x (by simp) n4 _ p3, by rw [hs]; exact keep dx (by simp) n7 _ p4, ?_, ?_, ?_⟩
    · rw [f2.1, f2.2]; exact p5.keep (keep l (by simp) n9)
    · rw [f3.1, f3.2]; exact p6.keep (keep nn (by simp) n10)
    · rw [f4.1, f4.2]; exact hnew

theorem wpO3U.setL {t : Nat} {T : Tab} {k j : Int} {Q : Objs → Prop} (ht : o t = some (.tab T)) (hsz : T.nl ≤ sizeLine) (q : Q (upd o t (.tab (T.setL k j)))) : wpO3U B d setItem (.sub t 2) (.int k) (.int j) Q o :=
  wpO3U.dict (T' := T.setL k j) ht rfl rfl (fun i => by
    unfold fieldOf Tab.setL
    split <;> (try simp [← setF_map]) <;> (try assumption)) hsz q
theorem wpO3U.setN {t : Nat} {T : Tab} {k : Int} {xs : List Int} {Q : Objs → Prop} (ht : o t = some (.tab T)) (hsz : T.nn ≤ sizeLine) (q : Q (upd o t (.tab (T.setN k xs)))) : wpO3U B d setItem (.sub t 3) (.int k) (tupI xs) Q o :=
  wpO3U.dict (T' := T.setN k xs) ht rfl rfl (fun i => by
    unfold fieldOf Tab.setN
    split <;> (try simp [← setF_map]) <;> (try assumption)) hsz q
theorem wpO3U.setE {t : Nat} {T : Tab} {k : Int} {xs : List Int} {Q : Objs → Prop} (ht : o t = some (.tab T)) (hsz : T.ne ≤ sizeLine) (q : Q (upd o t (.tab (T.setE k xs)))) : wpO3U B d setItem (.sub t 4) (.int k) (tupI xs) Q o :=
  wpO3U.dict (T' := T.setE k xs) ht rfl rfl (fun i => by
    unfold fieldOf Tab.setE
    split <;> (try simp [← setF_map]) <;> (try assumption)) hsz q
end

section
variable {prog : Program} {w : World} {A : Around} {E : Value → Shared → Prop} {s : Shared} {K : Frag} {x C dx : Addr} {es : List DictEntry} {n : Nat} {name : Str} {v : Value}
/-- an attribute of an object's own dict is set, whatever else the heap holds -/
theorem set_raw {Q : Unit → Shared → Prop} {sl : Array (Option Value)} {data : Data} (X : K.In s.heap) (I : InstAt s.heap x ⟨.ref C, some dx, data, sl⟩ C (some (dictOf es n)))
    (hs : findIn K (.ref C) "__setattr__" = some (some (.builtin "object.__setattr__"))) (hp : plainOver K C = true) (ht : takerIn K C name = some none) (hh : hasDictIn K C = true) (hl : (getL name es).isSome = true)
    (hz : (putL name (PyData.keyHash w.params name) (.str name (s.toks + 1)) v es).length ≤ 1000)
    (h : ∀ h' tk, h'.get? dx = some (dictOf (putL name (PyData.keyHash w.params name) (.str name (s.toks + 1)) v es) (putN name es n)) → Heap.SameBut dx s.heap h' → Q () { s with heap := h', toks := tk }) :
    wpAny (model prog w) A (setAttr (.ref x) name v) Q E s := by
  refine set_plain X I hs (osa_open (s := { s with toks := s.toks + 1 }) X I hp ht fun b => ?_)
  obtain ⟨cd, hc, hd'⟩ := any_some hh
  have D : s.heap.get? dx = some (dictOf es n) := I.dict
  have hx := I.at_
  have D' : (s.heap.update dx (Obj.putName name (PyData.keyHash w.params name) (.str name (s.toks + 1)) v)).get? dx = some (dictOf (putL name (PyData.keyHash w.params name) (.str name (s.toks + 1)) v es) (putN name es n)) := by
    have := Heap.get?_update_self (Obj.putName name (PyData.keyHash w.params name) (.str name (s.toks + 1)) v) D (by rw [putName_dict]; rfl)
    rwa [putName_dict] at this
  refine wpAny_bind (wpAny_pure (wpAny_bind (wpAny_bind (wpAny_loadPart hx (wpAny_bind (Looks.here (s := { s with toks := s.toks + 1 }) (looks_clsIn X hc) ?_))))))
  rw [hd']
  refine wpAny_pure (a := some dx) (wpAny_bind (wpAny_pure (wpAny_bind ?_)))
  unfold nsSet
  refine wpAny_bind (wpAny_bind (wpAny_askSetting (wpAny_pure (wpAny_bind (wpAny_mkText (wpAny_bind (wpAny_loadPart D ?_)))))))
  dsimp only
  have c : (!es.toArray.any (·.key.isStr name) && es.toArray.any (·.refKey)) = false := by
    unfold getL at hl
    rw [← Array.any_toList, ← Array.any_toList]
    split at hl
    · rename_i en he
      rw [List.any_eq_true.mpr ⟨en, List.mem_of_find?_eq_some he, List.find?_some he⟩]; rfl
    · split at hl
      · cases hl
      · rename_i z; rw [Bool.not_eq_true] at z; rw [z, Bool.and_false]
  rw [aRefKeyMayBeTheName_at, c]
  refine wpAny_updatePart D ?_
  refine wpAny_bind (wpAny_lookBehind D' (pastItsLine_dict (by rw [List.size_toArray, sizeLine_eq]; omega)) ?_)
  exact wpAny_pure (h _ _ D' (Heap.SameBut.update ..))
end

section
variable {B : Bs} {G : Glb} {d : Nat} {sc : Scope} {loc : Loc} {g : Gh} {o : Objs} {s : Shared} {Q : V → Objs → Prop}

theorem takerNo {K : Frag} {C : Addr} {name : Str} (h : findIn K (.ref C) name = some none) : takerIn K C name = some none := by
  unfold takerIn; rw [h]; rfl

theorem instAt {h : Heap} {x C dx : Addr} {o : Obj} (h1 : h.get? x = some (instObj C dx)) (h2 : h.get? dx = some o) : InstAt h x (instObj C dx) C (some o) := ⟨h1, rfl, rfl, h2⟩

theorem getL_links {B : Bs} {l n e : Addr} {s : Int} {t1 t2 t3 t4 t5 : Tok} : getL "links" [ent B "links" t1 (.ref l), ent B "numbers" t2 (.ref n), ent B "states" t3 (.int s t4), ent B "exceptions" t5 (.ref e)] = some (some (.ref l)) := by with_unfolding_all rfl
theorem getL_numbers {B : Bs} {l n e : Addr} {s : Int} {t1 t2 t3 t4 t5 : Tok} : getL "numbers" [ent B "links" t1 (.ref l), ent B "numbers" t2 (.ref n), ent B "states" t3 (.int s t4), ent B "exceptions" t5 (.ref e)] = some (some (.ref n)) := by with_unfolding_all rfl
theorem getL_states {B : Bs} {l n e : Addr} {s : Int} {t1 t2 t3 t4 t5 : Tok} : getL "states" [ent B "links" t1 (.ref l), ent B "numbers" t2 (.ref n), ent B "states" t3 (.int s t4), ent B "exceptions" t5 (.ref e)] = some (some (.int s t4)) := by with_unfolding_all rfl
theorem getL_exceptions {B : Bs} {l n e : Addr} {s : Int} {t1 t2 t3 t4 t5 : Tok} : getL "exceptions" [ent B "links" t1 (.ref l), ent B "numbers" t2 (.ref n), ent B "states" t3 (.int s t4), ent B "exceptions" t5 (.ref e)] = some (some (.ref e)) := by with_unfolding_all rfl

/-- an attribute is read -/
def wpAt (B : Bs) (d : Nat) (x : V) (name : Str) (Q : V → Objs → Prop) (o : Objs) : Prop :=
  ∀ A g s v, AOk d A → HR B g o s → VR g x v → wpT B VR A (getAttr v name true) Q g o s
theorem wpE.attr {x attr : Str} {xp pos : Pos} {v : V} (hx : (x, some v) ∈ loc) (h : wpAt B d v attr Q o) (he : ∀ env, eval (.Attribute (.Name x xp) attr pos) env = (do
      let o ← eval (.Name x xp) env
      standAt pos.atName
      let r ← holding [o] (getAttr o attr true)
      letTemporaryGo (.Name x xp) o r
      pure r) := by intro _; with_unfolding_all rfl) : wpE B G d loc (.Attribute (.Name x xp) attr pos) Q o := by
  intro A env g s hA E H F
  refine Attribute_Name_ (wpT.cps (wpE.var (p := xp) (G := G) (d := d) (Q := fun u o1 => u = v ∧ o1 = o) hx ⟨rfl, rfl⟩ A env g s hA E H F) fun u u' g1 o1 s1 h1 e1 r1 q1 => ?_) (he env)
  obtain ⟨rfl, rfl⟩ := q1
  exact wpT.up e1 (h A g1 s1 u' hA h1 r1)

theorem HR.tabOf (H : HR B g o s) {t : Nat} {T : Tab} {v : Value} (ht : o t = some (.tab T)) (r : VR g (.obj t) v) : ∃ x dx l n e t1 t2 t3 t4 t5 ep, v = .ref x ∧ t < g.next ∧ g.ρ t = [x, dx, l, n, e] ∧ (g.ρ t).Nodup ∧ InstAt s.heap x (instObj B.C dx) B.C (some (nsO B l n e T.states t1 t2 t3 t4 t5 ep)) ∧
      DictIn B g s.heap l (fun k => (T.links k).map .int) T.nl ∧ DictIn B g s.heap n (fun k => (T.numbers k).map tupI) T.nn ∧ DictIn B g s.heap e (fun k => (T.excs k).map tupI) T.ne := by
  obtain ⟨x, dx, l, n, e, t1, t2, t3, t4, t5, ep, h1, h2, h3, h4, h5⟩ := H.tabAt ht
  simp only [VR] at r
  obtain ⟨hn, b, rfl, hb⟩ := r
  rw [h1] at hb; cases hb
  exact ⟨x, dx, l, n, e, t1, t2, t3, t4, t5, ep, rfl, hn, h1, h2, instAt h3 h4, h5⟩

variable {t : Nat} {T : Tab}
theorem wpAt.links (K : TabOk B.K B.C) (ht : o t = some (.tab T)) (q : Q (.sub t 2) o) : wpAt B d (.obj t) "links" Q o := by
  intro A g s v hA H r
  obtain ⟨x, dx, l, n, e, t1, t2, t3, t4, t5, ep, rfl, hn, h1, h2, I, _⟩ := H.tabOf ht r
  exact get_value H.kin I (plainGet_of K.pg).1 (findObj_own K.hd K.l rfl (by rw [lookIn_dict]; exact getL_links)) rfl (wpT.doneT H (by simp only [VR]; exact ⟨hn, _, rfl, by rw [h1]; rfl⟩) q)
theorem wpAt.numbers (K : TabOk B.K B.C) (ht : o t = some (.tab T)) (q : Q (.sub t 3) o) : wpAt B d (.obj t) "numbers" Q o := by
  intro A g s v hA H r
  obtain ⟨x, dx, l, n, e, t1, t2, t3, t4, t5, ep, rfl, hn, h1, h2, I, _⟩ := H.tabOf ht r
  exact get_value H.kin I (plainGet_of K.pg).1 (findObj_own K.hd K.n rfl (by rw [lookIn_dict]; exact getL_numbers)) rfl (wpT.doneT H (by simp only [VR]; exact ⟨hn, _, rfl, by rw [h1]; rfl⟩) q)
theorem wpAt.exceptions (K : TabOk B.K B.C) (ht : o t = some (.tab T)) (q : Q (.sub t 4) o) : wpAt B d (.obj t) "exceptions" Q o := by
  intro A g s v hA H r
  obtain ⟨x, dx, l, n, e, t1, t2, t3, t4, t5, ep, rfl, hn, h1, h2, I, _⟩ := H.tabOf ht r
  exact get_value H.kin I (plainGet_of K.pg).1 (findObj_own K.hd K.e rfl (by rw [lookIn_dict]; exact getL_exceptions)) rfl (wpT.doneT H (by simp only [VR]; exact ⟨hn, _, rfl, by rw [h1]; rfl⟩) q)
theorem wpAt.states (K : TabOk B.K B.C) (ht : o t = some (.tab T)) (q : Q (.int T.states) o) : wpAt B d (.obj t) "states" Q o := by
  intro A g s v hA H r
  obtain ⟨x, dx, l, n, e, t1, t2, t3, t4, t5, ep, rfl, hn, h1, h2, I, _⟩ := H.tabOf ht r
  exact get_value H.kin I (plainGet_of K.pg).1 (findObj_own K.hd K.s rfl (by rw [lookIn_dict]; exact getL_states)) rfl (wpT.doneT H (by simp [VR]) q)

/-- a method of the table's class -/
theorem MethIs.tab {name : Str} {f : Addr} (K : TabOk B.K B.C) (ht : o t = some (.tab T)) (hf : findIn B.K (.ref B.C) name = some (some (.ref f))) (hF : isFn B.K (.ref f) = true)
    (hl : ∀ l n e s t1 t2 t3 t4 t5, getL name [ent B "links" t1 (.ref l), ent B "numbers" t2 (.ref n), ent B "states" t3 (.int s t4), ent B "exceptions" t5 (.ref e)] = some none := by intros; with_unfolding_all rfl) :
    MethIs B o (.obj t) name (.ref f) := by
  intro g s v A pl Q H r q
  obtain ⟨x, dx, l, n, e, t1, t2, t3, t4, t5, ep, rfl, hn, h1, h2, I, _⟩ := H.tabOf ht r
  refine method_fn H.kin I (plainGet_of K.pg).1 (plainGet_of K.pg).2 hf (beq_iff_eq.mp hF) ?_ q
  show (lookIn name (dictOf _ _)).map _ = _
  rw [lookIn_dict, hl]; rfl

/-- self.states += 1 -/
def Tab.setS (T : Tab) (k : Int) : Tab := { T with states := k }
theorem putL_states {B : Bs} {l n e : Addr} {s : Int} {t1 t2 t3 t4 t5 : Tok} {tk : Tok} {v : Value} : putL "states" (PyData.keyHash B.w.params "states") (.str "states" tk) v [ent B "links" t1 (.ref l), ent B "numbers" t2 (.ref n), ent B "states" t3 (.int s t4), ent B "exceptions" t5 (.ref e)] =
  [ent B "links" t1 (.ref l), ent B "numbers" t2 (.ref n), ent B "states" t3 v, ent B "exceptions" t5 (.ref e)] := by with_unfolding_all rfl

theorem wpX.states {x : Str} {xp tp pos : Pos} {op : Operator} {e : Expr} {Q : Fl → Loc → Objs → Prop} (K : TabOk B.K B.C) (hx : (x, some (.obj t)) ∈ loc) (ht : o t = some (.tab T)) {y : Int} (hc : wpE B G d loc e (fun v o1 => o1 = o ∧ wpO2 B d (inplaceOp op) (.int T.states) v (fun r o2 => r = .int y ∧ o2 = o) o1) o) (q : Q .next loc (upd o t (.tab (T.setS y)))) :
    wpX B G d sc loc (.AugAssign (.Attribute (.Name x xp) "states" tp) op e pos) Q o := by
  intro A env g s hA E ES H F
  refine wpAny_AugAssign_AttributeAny (wpT.cps (wpE.var (p := xp) (G := G) (d := d) (Q := fun u o1 => u = .obj t ∧ o1 = o) hx ⟨rfl, rfl⟩ A env g s hA E H F) fun u u' g1 o1 s1 h1 e1 r1 q1 => ?_)
  obtain ⟨rfl, rfl⟩ := q1
  refine wpT.cps (wpAt.states (d := d) (Q := fun u o2 => u = .int T.states ∧ o2 = o1) K ht ⟨rfl, rfl⟩ A g1 s1 u' hA h1 r1) fun u2 u2' g2 o2 s2 h2 e2 r2 q2 => ?_
  obtain ⟨rfl, rfl⟩ := q2
  have e12 := e1.trans e2
  refine wpT.cps (hc A env g2 s2 hA E h2 (F.ext e12)) fun u3 u3' g3 o3 s3 h3 e3 r3 q3 => ?_
  obtain ⟨rfl, q3⟩ := q3
  refine wpT.cps (q3 A g3 s3 _ _ hA h3 (VR.mono e3.gle _ _ r2) r3) fun u4 u4' g4 o4 s4 h4 e4 r4 q4 => ?_
  obtain ⟨rfl, rfl⟩ := q4
  simp only [VR] at r4
  obtain ⟨tk, rfl⟩ := r4
  have ee := (e12.trans e3).trans e4
  have r1' := VR.mono ((e2.trans e3).trans e4).gle _ _ r1
  obtain ⟨x, dx, l, n, ex, t1, t2, t3, t4, t5, ep, rfl, hn, p1, p2, I, d1, d2, d3⟩ := h4.tabOf ht r1'
  refine set_raw h4.kin I K.sa K.po (takerNo K.s) K.hd (by rw [getL_states]; rfl) (by rw [putL_states]; show 4 ≤ 1000; decide) fun h' tk' hd' hs' => ?_
  rw [putL_states] at hd'
  have p2' := p2
  rw [p1] at p2'
  simp only [List.nodup_cons, List.mem_cons, not_or, List.not_mem_nil, not_false_eq_true, and_true] at p2'
  obtain ⟨⟨a1, a2, a3, a4⟩, ⟨b1, b2, b3⟩, ⟨c1, c2⟩, c3, _⟩ := p2'
  have kp : ∀ b, b ≠ dx → ∀ z, s4.heap.get? b = some z → h'.get? b = some z := fun b hb z e => hs'.extBut b z hb e
  obtain ⟨H5, E5⟩ := h4.change (h' := h') (m := tk') (y := .tab (T.setS y)) ht (fun b z hb e => kp b (fun q => hb (by rw [p1, q]; simp)) z e)
    ⟨x, dx, l, n, ex, t1, t2, t3, tk, t5, _, p1, p1 ▸ p2, kp x a1 _ I.at_, hd', d1.keep (kp l (Ne.symm b1)), d2.keep (kp n (Ne.symm b2)), d3.keep (kp ex (Ne.symm b3))⟩
  have E6 := ee.trans E5
  exact ⟨.next, loc, g4, _, H5, E6.w, F.ext E6, rfl, rfl, q⟩
end

def Tab.empty : Tab := ⟨fun _ => none, 0, fun _ => none, 0, 1, fun _ => none, 0⟩
abbrev asg (attr : Str) (e : Expr) (p1 p2 p3 : Pos) : Stmt := .Assign [.Attribute (.Name "self" p1) attr p2] e p3

section
variable {B : Bs} {G : Glb} {d : Nat} {sc : Scope} {loc : Loc} {g : Gh} {o : Objs} {s : Shared} {Q : V → Objs → Prop}

theorem DictIn.new {h : Heap} {a : Addr} {F : Int → Option V} (hF : ∀ k, F k = none) (hs : (a == sysModules) = false) (he : h.get? a = some emptyDict) : DictIn B g h a F 0 :=
  ⟨hs, [], ⟨_, #[], 0, he, ⟨rfl, rfl, rfl⟩, rfl, fun _ he => by simp at he, Pairs.nil, List.nodup_nil⟩, Nat.le_refl _, fun k => by rw [hF]; rfl⟩

theorem FR.name {A : Around} {env : Env} {x : Str} {p : Pos} {v : V} {P : Value → Shared → Prop} (E : EnvOk B G env) (F : FR g o env loc s.heap) (hx : (x, some v) ∈ loc) (k : ∀ v', VR g v v' → P v' s) : wpAny (model B.prog B.w) A (eval (.Name x p) env) P noE s := by
  obtain ⟨m, hn, hv⟩ := F.ns
  obtain ⟨d1, d2, kk⟩ := hv _ hx
  refine wpAny_Name ?_ d1
  rcases kk with ⟨k1, k2⟩ | ⟨k1, c, w, k2, k3, k4⟩
  · obtain ⟨v', a, b⟩ := k2 v rfl
    exact wpAny_loadName_local E.kind k1 hn a (k v' b)
  · obtain ⟨v', a, b⟩ := k4 v rfl
    subst a
    rcases k1 with k1 | k1
    · exact wpAny_loadName_cell E.kind k1 k2 k3 (k v' b)
    · exact wpAny_loadName_free E.kind k1 k2 k3 (k v' b) d2

abbrev selfL (x : Addr) : Loc := [("self", some (.raw (.ref x)))]
/-- what stands while the object is set up: it and its dict belong to nobody -/
structure Mk (B : Bs) (g : Gh) (o : Objs) (env : Env) (x dx : Addr) (es : List DictEntry) (s0 s : Shared) : Prop where
  H : HR B g o s
  F : FR g o env (selfL x) s.heap
  ax : s.heap.get? x = some (instObj B.C dx)
  ad : ∃ ep, s.heap.get? dx = some (dictOf es ep)
  keep : ∀ a y, s0.heap.get? a = some y → s.heap.get? a = some y
  nx : s0.heap.get? x = none
  nd : s0.heap.get? dx = none
  sx : ¬ Owned g o x ∧ g.Z x = none
  sd : ¬ Owned g o dx ∧ g.Z dx = none

/-- one attribute of the new object is set -/
theorem init_step {A : Around} {env : Env} {x dx : Addr} {es : List DictEntry} {attr : Str} {e : Expr} {p1 p2 p3 : Pos} {s0 : Shared} {P : Flow → Shared → Prop} (K : TabOk B.K B.C) (no : findIn B.K (.ref B.C) attr = some none)
    (E : EnvOk B G env) (M : Mk B g o env x dx es s0 s) (hW : ¬ WF env dx) (hxd : x ≠ dx) (hl : (getL attr es).isSome = true)
    (hz : ∀ h k v, (putL attr h k v es).length ≤ 1000)
    (hs : swapsWith e (some (.Attribute (.Name "self" p1) attr p2)) p3.line env = pure false)
    (k : wpAny (model B.prog B.w) A (eval e env) (fun v s1 => Mk B g o env x dx es s0 s1 ∧ ∀ s2 t, Mk B g o env x dx (putL attr (PyData.keyHash B.w.params attr) (.str attr t) v es) s0 s2 → (∀ a y, a ≠ dx → s1.heap.get? a = some y → s2.heap.get? a = some y) → P .next s2) noE s) :
    wpAny (model B.prog B.w) A (exec (asg attr e p1 p2 p3) env) P noE s := by
  refine plainObj_wpAny_Assign_Attribute (wpAny_mono k (fun v s1 q => ?_) fun _ _ e => e) hs
  obtain ⟨M1, q⟩ := q
  refine FR.name E M1.F List.mem_cons_self fun u r => ?_
  simp only [VR] at r; subst r
  obtain ⟨ep, had⟩ := M1.ad
  refine set_raw M1.H.kin (instAt M1.ax had) K.sa K.po (takerNo no) K.hd hl (hz _ _ _) fun h' tk hd' hs' => ?_
  have kp : ∀ a y, a ∉ [dx] → s1.heap.get? a = some y → h'.get? a = some y := fun a y ha e => hs'.extBut a y (by simpa using ha) e
  have aw : ∀ b ∈ [dx], ¬ Owned g o b ∧ g.Z b = none := fun b hb => by
    simp at hb; subst hb; exact M1.sd
  refine q _ _ ⟨M1.H.off (n := tk) (wr := [dx]) aw kp, M1.F.off (wr := [dx]) (fun b hb => by simp at hb; subst hb; exact hW) kp, kp x _ (by simpa using hxd) M1.ax, ⟨_, hd'⟩, fun a y e => kp a y (fun q => by simp at q; subst q; rw [M1.nd] at e; cases e) (M1.keep a y e), M1.nx, M1.nd, M1.sx, M1.sd⟩ fun a y ha e => kp a y (by simpa using ha) e

theorem Mk.push {env : Env} {x dx : Addr} {es : List DictEntry} {s0 : Shared} (M : Mk B g o env x dx es s0 s) (y : Obj) : Mk B g o env x dx es s0 { s with heap := s.heap.push y } := by
  have k : ∀ a z, s.heap.get? a = some z → (s.heap.push y).get? a = some z := fun a z e => Heap.get?_push_of_some _ e
  obtain ⟨H1, E1⟩ := M.H.grow (n := s.toks) k
  exact ⟨H1, M.F.ext E1, k _ _ M.ax, let ⟨ep, h⟩ := M.ad; ⟨ep, k _ _ h⟩, fun a z e => k _ _ (M.keep a z e), M.nx, M.nd, M.sx, M.sd⟩

theorem init_dict {A : Around} {env : Env} {x dx : Addr} {es : List DictEntry} {attr : Str} {p0 p1 p2 p3 : Pos} {s0 : Shared} {P : Flow → Shared → Prop} (K : TabOk B.K B.C) (no : findIn B.K (.ref B.C) attr = some none)
    (E : EnvOk B G env) (M : Mk B g o env x dx es s0 s) (hW : ¬ WF env dx) (hxd : x ≠ dx) (hl : (getL attr es).isSome = true)
    (hz : ∀ h k v, (putL attr h k v es).length ≤ 1000)
    (k : ∀ l s2 t, dx < l → s.heap.get? l = none → s2.heap.get? l = some emptyDict → Mk B g o env x dx (putL attr (PyData.keyHash B.w.params attr) (.str attr t) (.ref l) es) s0 s2 → (∀ a y, a ≠ dx → s.heap.get? a = some y → s2.heap.get? a = some y) → P .next s2) :
    wpAny (model B.prog B.w) A (exec (asg attr (.Dict [] [] p0) p1 p2 p3) env) P noE s := by
  refine init_step K no E M hW hxd hl hz rfl (wpAny_Dict_empty ⟨M.push _, fun s2 t M2 kp => k _ s2 t (let ⟨_, h⟩ := M.ad; Heap.lt_size h) (get_size _) (kp _ _ (fun q => ?_) (Heap.get?_push_size _ rfl)) M2 fun a y ha e => kp a y ha (Heap.get?_push_of_some _ e)⟩)
  obtain ⟨ep, h⟩ := M.ad
  rw [← q, get_size] at h; cases h

theorem wpF.make {fI : Addr} {sc : Scope} {p0 p1 p2 p3 q0 q1 q2 q3 r1 r2 r3 u0 u1 u2 u3 pk : Pos} {ck : Nat} {Q : V → Objs → Prop} (K : TabOk B.K B.C) (mk : makesIn B.K B.C = true) (hi : findIn B.K (.ref B.C) "__init__" = some (some (.ref fI))) (ht : typeIn B.K (.ref fI) = some (.type "function"))
    (hf : FnAt B fI ["self"] [asg "links" (.Dict [] [] p0) p1 p2 p3, asg "numbers" (.Dict [] [] q0) q1 q2 q3, asg "states" (.Constant (.int 1) ck pk) r1 r2 r3, asg "exceptions" (.Dict [] [] u0) u1 u2 u3] sc) (ho : fnOk sc ["self"] [] = true)
    (q : ∀ n, o n = none → Q (.obj n) (upd o n (.tab Tab.empty))) : wpF B (d + 2) (.raw (.ref B.C)) [] Q o := by
  intro A g s f' vs hA H h1 h2
  simp only [VR] at h1; subst h1
  simp only [VRs] at h2; subst h2
  have X := H.kin
  have hlow := modules_low (B.nolim.keeps H.bot)
  obtain ⟨h, gens, drawn, toks, os⟩ := s
  have hsz : (h.push emptyDict).objs.size = h.objs.size + 1 := Heap.size_push ..
  refine wpAny_call (make_core (makes_of X mk) (looks_findIn X hi) (fun self => bind_fn X self ht) (.inl rfl) ?_)
  have kp : ∀ a y, h.get? a = some y → ((h.push emptyDict).push (instObj B.C h.objs.size)).get? a = some y := fun a y e => Heap.get?_push_of_some _ (Heap.get?_push_of_some _ e)
  obtain ⟨H0, E0⟩ := H.grow (n := toks) kp
  have ax : ((h.push emptyDict).push (instObj B.C h.objs.size)).get? (h.objs.size + 1) = some (instObj B.C h.objs.size) := by rw [← hsz]; exact Heap.get?_push_size _ rfl
  have ad : ((h.push emptyDict).push (instObj B.C h.objs.size)).get? h.objs.size = some emptyDict := Heap.get?_push_of_some _ (Heap.get?_push_size _ rfl)
  have nd0 : h.get? h.objs.size = none := fresh_above h 0
  have nx0 : h.get? (h.objs.size + 1) = none := fresh_above h 1
  have stray : ∀ a, h.get? a = none → ¬ Owned g o a ∧ g.Z a = none := fun a ha => by
    refine ⟨fun q => ?_, ?_⟩
    · obtain ⟨⟨y, hy⟩, _⟩ := H.owned q; rw [show h.get? a = some y from hy] at ha; cases ha
    · cases e : g.Z a with
      | none => rfl
      | some y => have := H.zin _ _ e; rw [show h.get? a = some y from this] at ha; cases ha
  have hA' : AOk (d + 1) (A.under (.builtin "type.__call__" ⟨[.ref B.C], []⟩)) := by
    refine ⟨hA.1, ?_, ?_⟩
    · have := hA.2.1
      show A.depth + 1 + _ + _ ≤ _
      omega
    · have := hA.2.2
      show A.units + 1 + _ + _ ≤ _
      omega
  refine enter_fn (ls := []) (names := []) (xs := [.raw (.ref (h.objs.size + 1))]) hf ho (fun p hp => nomatch hp) rfl hA' H0 (.one (by simp [VR])) fun env h1 tk E ES hA1 H1 F1 hkeep nW => ?_
  have hxd : h.objs.size + 1 ≠ h.objs.size := Nat.succ_ne_self _
  have hW : ¬ WF env h.objs.size := fun q => by have := nW _ q; rw [show _ = some emptyDict from ad] at this; cases this
  have M0 : Mk B g o env (h.objs.size + 1) h.objs.size [] ⟨h, gens, drawn, toks, os⟩ { heap := h1, gens := gens, drawn := drawn, toks := tk, os := os } :=
    ⟨H1, F1, hkeep _ _ ax, ⟨0, hkeep _ _ ad⟩, fun a y e => hkeep _ _ (kp a y e), nx0, nd0, stray _ nx0, stray _ nd0⟩
  refine wpAny_execs_cons (init_dict K K.l E M0 hW hxd rfl (fun _ _ _ => by show 1 ≤ 1000; decide) fun l s2 t1 ll nl al M1 k1 => ?_)
  refine wpAny_execs_cons (init_dict K K.n E M1 hW hxd (by with_unfolding_all rfl) (fun _ _ _ => by show 2 ≤ 1000; decide) fun n s3 t2 ln nn an M2 k2 => ?_)
  refine wpAny_execs_cons (init_step K K.s E M2 hW hxd (by with_unfolding_all rfl) (fun _ _ _ => by show 3 ≤ 1000; decide) rfl (wpAny_Constant_int ⟨?_, fun s4 t3 M3 k3 => ?_⟩))
  · exact ⟨M2.H.toks _, M2.F, M2.ax, M2.ad, M2.keep, M2.nx, M2.nd, M2.sx, M2.sd⟩
  refine wpAny_execs_cons (init_dict K K.e E M3 hW hxd (by with_unfolding_all rfl) (fun _ _ _ => by show 4 ≤ 1000; decide) fun e s5 t5 le ne ae M4 k4 => ?_)
  refine wpAny_execs_nil ⟨rfl, ?_⟩
  obtain ⟨ep, hd⟩ := M4.ad
  have neq : ∀ {a b : Addr} {hh : Heap} {y : Obj}, hh.get? a = some y → hh.get? b = none → a ≠ b := fun e1 e2 q => by rw [q, e2] at e1; cases e1
  have a1 : h.objs.size + 1 ≠ l := neq M0.ax nl
  have a2 : h.objs.size + 1 ≠ n := neq M1.ax nn
  have a3 : h.objs.size + 1 ≠ e := neq M3.ax ne
  have b1 : l ≠ n := neq al nn
  have al2 := k2 l _ (Nat.ne_of_gt ll) al
  have al3 := k3 l _ (Nat.ne_of_gt ll) al2
  have b2 : l ≠ e := neq al3 ne
  have al4 := k4 l _ (Nat.ne_of_gt ll) al3
  have an3 := k3 n _ (Nat.ne_of_gt ln) an
  have b3 : n ≠ e := neq an3 ne
  have an4 := k4 n _ (Nat.ne_of_gt ln) an3
  have gone : ∀ {a : Addr} {hh : Heap}, (∀ a y, h.get? a = some y → hh.get? a = some y) → hh.get? a = none → h.get? a = none := fun {a hh} kk e => by
    cases e' : h.get? a with
    | none => rfl
    | some y => rw [kk _ _ e'] at e; cases e
  have fl := gone M0.keep nl
  have fn := gone M1.keep nn
  have fe := gone M3.keep ne
  have notSys : ∀ a : Addr, h.objs.size < a → (a == sysModules) = false := fun a ha => beq_eq_false_iff_ne.mpr (Nat.ne_of_gt (Nat.lt_trans hlow ha))
  have fpn : ∀ b ∈ [h.objs.size + 1, h.objs.size, l, n, e], h.get? b = none := fun b hb => by
    simp at hb
    rcases hb with rfl | rfl | rfl | rfl | rfl
    · exact nx0
    · exact nd0
    · exact fl
    · exact fn
    · exact fe
  have L := g.add_le [h.objs.size + 1, h.objs.size, l, n, e]
  obtain ⟨H5, ow⟩ := M4.H.addObj (fp := [h.objs.size + 1, h.objs.size, l, n, e]) (x := .tab Tab.empty) (fun b hb => stray b (fpn b hb))
    ⟨h.objs.size + 1, h.objs.size, l, n, e, _, _, _, _, _, ep, rfl, by
      simp only [List.nodup_cons, List.mem_cons, not_or, List.not_mem_nil, not_false_eq_true, and_true, List.nodup_nil]
      exact ⟨⟨hxd, a1, a2, a3⟩, ⟨Nat.ne_of_lt ll, Nat.ne_of_lt ln, Nat.ne_of_lt le⟩, ⟨b1, b2⟩, b3⟩, M4.ax, hd, DictIn.new (fun _ => rfl) (notSys l ll) al4, DictIn.new (fun _ => rfl) (notSys n ln) an4, DictIn.new (fun _ => rfl) (notSys e le) ae⟩
  refine ⟨.obj g.next, _, _, H5, ⟨L.next, L.rho, L.Z, fun a y e => .inl e, fun a y _ e => M4.keep a y e, fun a q => ?_⟩, ?_, q _ H.fresh⟩
  · rcases ow a q with q | q
    · exact .inl q
    · exact .inr (fpn a q)
  · simp only [VR]
    exact ⟨Nat.lt_succ_self _, _, rfl, by rw [Gh.add_at]; rfl⟩
end

section
variable {B : Bs} {G : Glb} {d : Nat} {sc : Scope} {loc : Loc} {g : Gh} {o : Objs} {s : Shared}

theorem PostS.mono {env : Env} {α β : Type} {R : Gh → β → α → Prop} {Q Q' : β → Loc → Objs → Prop} {h : Heap} {a : α} {s' : Shared} (p : PostS B env R Q g o loc h a s') (k : ∀ b l o1, Q b l o1 → Q' b l o1) : PostS B env R Q' g o loc h a s' :=
  let ⟨b, l, g', o', a1, a2, a3, a4, a5, a6⟩ := p; ⟨b, l, g', o', a1, a2, a3, a4, a5, k _ _ _ a6⟩
theorem wpS.mono {b : List Stmt} {Q Q' : Fl → Loc → Objs → Prop} (h : wpS B G d sc loc b Q o) (k : ∀ f l o1, Q f l o1 → Q' f l o1) : wpS B G d sc loc b Q' o :=
  fun A env g s hA E ES H F => wpAny_mono (h A env g s hA E ES H F) (fun _ _ p => p.mono k) fun _ _ e => e
theorem wpX.mono {b : Stmt} {Q Q' : Fl → Loc → Objs → Prop} (h : wpX B G d sc loc b Q o) (k : ∀ f l o1, Q f l o1 → Q' f l o1) : wpX B G d sc loc b Q' o :=
  fun A env g s hA E ES H F => wpAny_mono (h A env g s hA E ES H F) (fun _ _ p => p.mono k) fun _ _ e => e
theorem wpA.mono {t : Expr} {x : V} {Q Q' : Loc → Objs → Prop} (h : wpA B G d sc loc t x Q o) (k : ∀ l o1, Q l o1 → Q' l o1) : wpA B G d sc loc t x Q' o :=
  fun A env g s v hA E ES H F r => wpAny_mono (h A env g s v hA E ES H F r) (fun _ _ p => p.mono fun _ l o1 q => k l o1 q) fun _ _ e => e
/-! loops by what stands -/
theorem ForP.of {tgt : Expr} {body : List Stmt} {Q : Fl → Loc → Objs → Prop} (I : List V → Loc → Objs → Prop) (hnil : ∀ l o, I [] l o → Q .next l o)
    (hcons : ∀ x xs l o, I (x :: xs) l o → wpA B G d sc l tgt x (fun l1 o1 => wpS B G d sc l1 body (fun f l2 o2 => match f with | .next => I xs l2 o2 | .brk => Q .next l2 o2 | .ret v => Q (.ret v) l2 o2) o1) o) :
    ∀ xs l o, I xs l o → ForP B G d sc tgt body Q xs l o
  | [], l, o, h => hnil l o h
  | x :: xs, l, o, h => by
    simp only [ForP]
    refine (hcons x xs l o h).mono fun l1 o1 q => q.mono fun f l2 o2 q2 => ?_
    cases f with
    | next => exact ForP.of I hnil hcons xs l2 o2 q2
    | brk => exact q2
    | ret v => exact q2

theorem CompP.of {cap : Loc} {elt tgt : Expr} {tg : List Str} {ifs : List Expr} {K : List V → Objs → Prop} (I : List V → List V → Objs → Prop) (hnil : ∀ acc o, I [] acc o → K acc o)
    (hcons : ∀ x xs acc o, I (x :: xs) acc o → ∃ ys, tgtVals tgt x = some ys ∧ ys.length = tg.length ∧
      wpIfs B G d (bindTg tg ys cap) (fun b o1 => if b then wpE B G d (bindTg tg ys cap) elt (fun v o2 => I xs (acc ++ [v]) o2) o1 else I xs acc o1) ifs o) :
    ∀ xs acc o, I xs acc o → CompP B G d cap elt tgt tg ifs K xs acc o
  | [], acc, o, h => hnil acc o h
  | x :: xs, acc, o, h => by
    obtain ⟨ys, h1, h2, h3⟩ := hcons x xs acc o h
    simp only [CompP]
    refine ⟨ys, h1, h2, ?_⟩
    refine wpIfs.mono (fun b o1 q => ?_) ifs o h3
    cases b with
    | true => simp only [if_true] at q ⊢; exact q.mono fun v o2 q => CompP.of I hnil hcons xs _ o2 q
    | false => simp only [Bool.false_eq_true, if_false] at q ⊢; exact CompP.of I hnil hcons xs acc o1 q

/-! a list is frozen -/
inductive FrzL (n : Nat) (xs : List V) : Loc → Loc → Prop
  | nil : FrzL n xs [] []
  | froz {x l l'} : FrzL n xs l l' → FrzL n xs ((x, some (.obj n)) :: l) ((x, some (.lst xs)) :: l')
  | same {p l l'} : FrzL n xs l l' → FrzL n xs (p :: l) (p :: l')
theorem FrzL.keys {n : Nat} {xs : List V} {l l' : Loc} (h : FrzL n xs l l') : l'.map (·.1) = l.map (·.1) := by
  induction h with
  | nil => rfl
  | froz _ ih => simp [ih]
  | same _ ih => simp [ih]
theorem FrzL.mem {n : Nat} {xs : List V} {l l' : Loc} (h : FrzL n xs l l') : ∀ p ∈ l', p ∈ l ∨ (p.2 = some (.lst xs) ∧ (p.1, some (.obj n)) ∈ l) := by
  induction h with
  | nil => intro p hp; cases hp
  | froz _ ih =>
    intro p hp
    rcases List.mem_cons.mp hp with rfl | hp
    · exact .inr ⟨rfl, List.mem_cons_self⟩
    · rcases ih p hp with q | ⟨q1, q2⟩
      · exact .inl (List.mem_cons_of_mem _ q)
      · exact .inr ⟨q1, List.mem_cons_of_mem _ q2⟩
  | same _ ih =>
    intro p hp
    rcases List.mem_cons.mp hp with rfl | hp
    · exact .inl List.mem_cons_self
    · rcases ih p hp with q | ⟨q1, q2⟩
      · exact .inl (List.mem_cons_of_mem _ q)
      · exact .inr ⟨q1, List.mem_cons_of_mem _ q2⟩

theorem wpS.freeze {b : List Stmt} {Q : Fl → Loc → Objs → Prop} {n : Nat} {xs : List V} {loc' : Loc} (hn : o n = some (.list xs)) (hl : FrzL n xs loc loc') (h : wpS B G d sc loc' b Q (del o n)) : wpS B G d sc loc b Q o := by
  intro A env g s hA E ES H F
  obtain ⟨g', H', E', r'⟩ := H.freeze hn
  have F' : FR g' (del o n) env loc' s.heap := by
    have F0 := F.ext E'
    obtain ⟨m, hm, hv⟩ := F.ns
    refine ⟨F0.free, F0.noZ, ⟨m, hm, fun p hp => ?_⟩, F0.cfree⟩
    rcases hl.mem p hp with q | ⟨q1, q2⟩
    · obtain ⟨e1, e2, e3⟩ := hv p q
      refine ⟨e1, e2, ?_⟩
      rcases e3 with ⟨e3, e4⟩ | ⟨e3, c, w, e4, e5, e6⟩
      · exact .inl ⟨e3, fun v hv => let ⟨v', a, b⟩ := e4 v hv; ⟨v', a, VR.mono E'.gle _ _ b⟩⟩
      · exact .inr ⟨e3, c, w, e4, e5, fun v hv => let ⟨v', a, b⟩ := e6 v hv; ⟨v', a, VR.mono E'.gle _ _ b⟩⟩
    · obtain ⟨e1, e2, e3⟩ := hv _ q2
      refine ⟨e1, e2, ?_⟩
      rw [q1]
      rcases e3 with ⟨e3, e4⟩ | ⟨e3, c, w, e4, e5, e6⟩
      · exact .inl ⟨e3, fun v hv => by cases hv; exact let ⟨v', a, b⟩ := e4 _ rfl; ⟨v', a, r' _ b⟩⟩
      · exact .inr ⟨e3, c, w, e4, e5, fun v hv => by cases hv; exact let ⟨v', a, b⟩ := e6 _ rfl; ⟨v', a, r' _ b⟩⟩
  exact wpAny_mono (h A env g' s hA E (ES.same hl.keys) H' F') (fun _ _ p => PostS.up E'.w hl.keys p) fun _ _ e => e

/-! what is there once, is there -/
theorem upd_upd (o : Objs) (n : Nat) (x y : SO) : upd (upd o n x) n y = upd o n y := by
  funext m; unfold upd; split <;> rfl
theorem upd_id {o : Objs} {n : Nat} {x : SO} (h : o n = some x) : upd o n x = o := by
  funext m; unfold upd; split
  · rename_i e; rw [e, h]
  · rfl
theorem upd_comm {o : Objs} {n m : Nat} {x y : SO} (h : n ≠ m) : upd (upd o n x) m y = upd (upd o m y) n x := by
  funext k; unfold upd; split
  · rename_i e; subst e; rw [if_neg (fun q => h q.symm)]
  · rfl
end

/-! functions out of the fragment -/
def fnData (K : Frag) (f : Addr) : Option FuncData := match K.lookup f with
  | some ⟨_, _, .func fd, _⟩ => some fd
  | _ => none
def bodyOf (K : Frag) (f : Addr) : List Stmt := match fnData K f with
  | some fd => (match fd.body with | .stmts b => b | _ => [])
  | none => []
def scopeOf (K : Frag) (f : Addr) : Scope := match fnData K f with
  | some fd => fd.scope
  | none => default
def fnChk (K : Frag) (f : Addr) : Bool := match fnData K f with
  | some fd => (match fd.body with | .stmts _ => true | _ => false) && fd.globals == mainGlobals && fd.builtins == builtinsNs && fd.closure.isEmpty && codeIn K fd.code fd.qualname
  | none => false
def bindsAt (K : Frag) (f : Addr) (vals : List Value) : Sem (List (Str × Value)) := match fnData K f with
  | some fd => bindArgs fd ⟨vals, []⟩
  | none => pure []
theorem fnAt_of {B : Bs} {f : Addr} {ps : List Str} (h : fnChk B.K f = true) (hb' : ∀ vals, vals.length = ps.length → bindsAt B.K f vals = pure (ps.zip vals)) : FnAt B f ps (bodyOf B.K f) (scopeOf B.K f) := by
  have hb : ∀ fd, fnData B.K f = some fd → ∀ s vals, B.K.In s.heap → vals.length = ps.length → BindsTo s fd ⟨vals, []⟩ (ps.zip vals) := fun fd e s vals _ hl => by
    have := hb' vals hl
    unfold bindsAt at this
    rw [e] at this
    exact BindsTo.of_eq this
  unfold fnChk at h
  split at h
  · rename_i fd e
    simp only [Bool.and_eq_true, beq_iff_eq, List.isEmpty_iff] at h
    obtain ⟨⟨⟨⟨h1, h2⟩, h3⟩, h4⟩, h5⟩ := h
    have e' := e
    unfold fnData at e
    split at e
    · rename_i oc od fd' osl q
      cases e
      refine ⟨⟨oc, od, fd, osl, q, ?_, ?_, h2, h3, h4, h5, fun s vals => hb fd e' s vals⟩⟩
      · unfold scopeOf; rw [e']
      · unfold bodyOf; rw [e']
        dsimp only
        split at h1
        · rename_i b q2; rw [q2]
        · cases h1
    · cases e
  · cases h

section
variable {B : Bs} {G : Glb} {d : Nat} {sc : Scope} {loc : Loc} {g : Gh} {o : Objs} {s : Shared} {Q : V → Objs → Prop}

theorem wpE.and1 {e : Expr} {p : Pos} (h : wpE B G d loc e Q o) : wpE B G d loc (.BoolOp .And [e] p) Q o := by
  intro A env g s hA E H F
  exact BoolOp_one (h A env g s hA E H F)
theorem wpE.and2 {e e2 : Expr} {r : List Expr} {p : Pos} (h : wpE B G d loc e (fun v => wpO1B B d truthy v (fun c o2 => if c then wpE B G d loc (.BoolOp .And (e2 :: r) p) Q o2 else Q v o2)) o) : wpE B G d loc (.BoolOp .And (e :: e2 :: r) p) Q o := by
  intro A env g s hA E H F
  refine BoolOp_and (wpT.cps (h A env g s hA E H F) fun v v' g1 o1 s1 h1 e1 r1 q1 => wpT.cps (q1 A g1 s1 v' hA h1 r1) fun c c' g2 o2 s2 h2 e2 r2 q2 => ?_)
  simp only [RBool] at r2; subst r2
  cases c' with
  | true =>
    simp only [if_true] at q2 ⊢
    exact wpT.up (e1.trans e2) (q2 A env g2 s2 hA E h2 (F.ext (e1.trans e2)))
  | false =>
    simp only [Bool.false_eq_true, if_false] at q2 ⊢
    exact ⟨v, g2, o2, h2, e1.trans e2, VR.mono e2.gle _ _ r1, q2⟩
theorem wpO1.not {b : Bool} (h : Q (.bool (!b)) o) : wpO1 B d (unaryOp .Not) (.bool b) Q o := by
  intro A g s v hA H h1
  simp only [VR] at h1; subst h1
  exact not_of (wpAny_truthy_bool (wpT.done H (by simp [VR]) h))

theorem wpE.chain2 {l r1 r2 : Expr} {op1 op2 : CmpOp} {p : Pos} (h : wpE B G d loc l (fun a => wpE B G d loc r1 (fun b => wpO2 B d (compareOp op1) a b (fun c => wpO1B B d truthy c (fun t o4 => if t then wpE B G d loc r2 (fun e => wpO2 B d (compareOp op2) b e Q) o4 else Q c o4)))) o)
    (hm : lastMarks [op1, op2] [r1, r2] = false := by with_unfolding_all rfl) : wpE B G d loc (.Compare l [op1, op2] [r1, r2] p) Q o := by
  intro A env g s hA E H F
  refine Compare_chain (wpT.cps (h A env g s hA E H F) fun a a' g1 o1 s1 h1 e1 ra q1 => ?_) hm
  refine chain_link (wpT.cps (q1 A env g1 s1 hA E h1 (F.ext e1)) fun b b' g2 o2 s2 h2 e2 rb q2 => ?_)
  refine wpT.cps (q2 A g2 s2 _ _ hA h2 (VR.mono e2.gle _ _ ra) rb) fun c c' g3 o3 s3 h3 e3 rc q3 => ?_
  refine wpT.cps (q3 A g3 s3 _ hA h3 rc) fun t t' g4 o4 s4 h4 e4 rt q4 => ?_
  simp only [RBool] at rt; subst rt
  have ee := ((e1.trans e2).trans e3).trans e4
  cases t' with
  | true =>
    simp only [if_true] at q4 ⊢
    refine chain_last (wpT.cps (q4 A env g4 s4 hA E h4 (F.ext ee)) fun e e' g5 o5 s5 h5 e5 re q5 => ?_)
    exact wpT.up (ee.trans e5) (q5 A g5 s5 _ _ hA h5 (VR.mono ((e3.trans e4).trans e5).gle _ _ rb) re)
  | false =>
    simp only [Bool.false_eq_true, if_false] at q4 ⊢
    exact ⟨c, g4, o4, h4, ee, VR.mono e4.gle _ _ rc, q4⟩

theorem wpC.chain2 {l r1 r2 : Expr} {op1 op2 : CmpOp} {p : Pos} {Q : Bool → Objs → Prop} (h : wpE B G d loc l (fun a => wpE B G d loc r1 (fun b => wpO2 B d (compareOp op1) a b (fun c => wpO1B B d truthy c (fun t o4 => if t then wpE B G d loc r2 (fun e => wpO2 B d (compareOp op2) b e (fun c => wpO1B B d truthy c Q)) o4 else Q false o4)))) o)
    (hm : lastMarks [op1, op2] [r1, r2] = false := by with_unfolding_all rfl) : wpC B G d loc (.Compare l [op1, op2] [r1, r2] p) Q o := by
  intro A env g s hA E H F
  refine isTrue_chain (wpT.cps (h A env g s hA E H F) fun a a' g1 o1 s1 h1 e1 ra q1 => ?_) hm
  refine test_link (wpT.cps (q1 A env g1 s1 hA E h1 (F.ext e1)) fun b b' g2 o2 s2 h2 e2 rb q2 => ?_)
  refine wpT.cps (q2 A g2 s2 _ _ hA h2 (VR.mono e2.gle _ _ ra) rb) fun c c' g3 o3 s3 h3 e3 rc q3 => ?_
  refine wpT.cps (q3 A g3 s3 _ hA h3 rc) fun t t' g4 o4 s4 h4 e4 rt q4 => ?_
  simp only [RBool] at rt; subst rt
  have ee := ((e1.trans e2).trans e3).trans e4
  cases t' with
  | true =>
    simp only [if_true] at q4 ⊢
    refine test_last (wpT.cps (q4 A env g4 s4 hA E h4 (F.ext ee)) fun e e' g5 o5 s5 h5 e5 re q5 => ?_)
    refine wpT.cps (q5 A g5 s5 _ _ hA h5 (VR.mono ((e3.trans e4).trans e5).gle _ _ rb) re) fun k k' g6 o6 s6 h6 e6 rk q6 => ?_
    exact wpT.up ((ee.trans e5).trans e6) (q6 A g6 s6 _ hA h6 rk)
  | false =>
    simp only [Bool.false_eq_true, if_false] at q4 ⊢
    exact ⟨false, g4, o4, h4, ee, rfl, q4⟩
end

theorem iteB {c : Bool} {P P' : Prop} (h1 : c = true → P) (h2 : c = false → P') : if c = true then P else P' := by
  cases c
  · exact h2 rfl
  · exact h1 rfl
theorem iteT {P P' : Prop} (h : P) : if true = true then P else P' := h
theorem iteF {P P' : Prop} (h : P') : if false = true then P else P' := h
theorem retQ {Q : V → Objs → Prop} {v : V} {l : Loc} {o : Objs} (h : Q v o) : RetQ Q (.ret v) l o := ⟨o, fun _ _ e => e, h⟩
theorem retN {Q : V → Objs → Prop} {l : Loc} {o : Objs} (h : Q .none o) : RetQ Q .next l o := ⟨o, fun _ _ e => e, h⟩
section
variable {B : Bs} {G : Glb} {d : Nat} {sc : Scope} {loc : Loc} {g : Gh} {o : Objs} {s : Shared} {Q : V → Objs → Prop}
theorem glob_b {x : Str} {r : Value} (h1 : (x == ("__debug__" : Str)) = false) (h2 : nsIn B.K mainGlobals x = some none) (h3 : bootBuiltins x = some r) (h4 : x ≠ "__name__") : GlobOk B x (.raw r) :=
  ⟨h1, r, fun g => by simp [VR], .inr ⟨h2, h3, h4⟩⟩
theorem glob_f {x : Str} {r : Value} (h1 : (x == ("__debug__" : Str)) = false) (h2 : nsIn B.K mainGlobals x = some (some r)) : GlobOk B x (.raw r) :=
  ⟨h1, r, fun g => by simp [VR], .inl h2⟩
def intG (K : Frag) (x : Str) (i : Int) : Bool := match nsIn K mainGlobals x with
  | some (some (.int j _)) => j == i
  | _ => false
theorem glob_i {x : Str} {i : Int} (h1 : (x == ("__debug__" : Str)) = false) (h2 : intG B.K x i = true) : GlobOk B x (.int i) := by
  unfold intG at h2
  split at h2
  · rename_i j t e
    rw [beq_iff_eq] at h2; subst h2
    exact ⟨h1, _, fun g => by simp [VR], .inl e⟩
  · cases h2
theorem gNil {sc : Scope} : ∀ p ∈ ([] : List (Str × V)), sc.names.lookup p.1 = some .globalImplicit ∧ GlobOk B p.1 p.2 := fun p hp => nomatch hp
theorem gCons {sc : Scope} {x : Str} {v : V} {r : List (Str × V)} (h1 : sc.names.lookup x = some .globalImplicit) (h2 : GlobOk B x v) (h3 : ∀ p ∈ r, sc.names.lookup p.1 = some .globalImplicit ∧ GlobOk B p.1 p.2) : ∀ p ∈ (x, v) :: r, sc.names.lookup p.1 = some .globalImplicit ∧ GlobOk B p.1 p.2 := fun p hp => by
  rcases List.mem_cons.mp hp with rfl | hp
  · exact ⟨h1, h2⟩
  · exact h3 p hp


theorem fnAt_d {f : Addr} {ps : List Str} (h : fnChk B.K f = true) (hb : ∀ s vals, B.K.In s.heap → vals.length = ps.length → match fnData B.K f with | some fd => BindsTo s fd ⟨vals, []⟩ (ps.zip vals) | Option.none => True) : FnAt B f ps (bodyOf B.K f) (scopeOf B.K f) := by
  have hb : ∀ fd, fnData B.K f = some fd → ∀ s vals, B.K.In s.heap → vals.length = ps.length → BindsTo s fd ⟨vals, []⟩ (ps.zip vals) := fun fd e s vals X hl => by
    have := hb s vals X hl
    rw [e] at this
    exact this
  unfold fnChk at h
  split at h
  · rename_i fd e
    simp only [Bool.and_eq_true, beq_iff_eq, List.isEmpty_iff] at h
    obtain ⟨⟨⟨⟨h1, h2⟩, h3⟩, h4⟩, h5⟩ := h
    have e' := e
    unfold fnData at e
    split at e
    · rename_i oc od fd' osl q
      cases e
      refine ⟨⟨oc, od, fd, osl, q, ?_, ?_, h2, h3, h4, h5, fun s vals => hb fd e' s vals⟩⟩
      · unfold scopeOf; rw [e']
      · unfold bodyOf; rw [e']
        dsimp only
        split at h1
        · rename_i b q2; rw [q2]
        · cases h1
    · cases e
  · cases h
/-- a def with defaults: the rest of the binding, once they are read -/
def restOf (K : Frag) (fd : FuncData) : Option (Array Value) := match fd.defaults with
  | .ref T => (match K.lookup T with | some ⟨_, _, .seq items _, _⟩ => some items | _ => Option.none)
  | _ => Option.none
end
theorem len_succ {α : Type} {l : List α} {n : Nat} (h : l.length = n + 1) : ∃ a r, l = a :: r ∧ r.length = n := by
  cases l with
  | nil => cases h
  | cons a r => exact ⟨a, r, rfl, Nat.succ.inj h⟩
theorem fnAt1 {B : Bs} {f : Addr} {ps : List Str} (h : fnChk B.K f = true) (hl : ps.length = 1) (hb : ∀ a, bindsAt B.K f [a] = pure (ps.zip [a])) : FnAt B f ps (bodyOf B.K f) (scopeOf B.K f) := fnAt_of h fun vals e => by
  rw [hl] at e
  obtain ⟨a, r0, rfl, e0⟩ := len_succ e
  obtain rfl := List.eq_nil_of_length_eq_zero e0
  exact hb a
theorem fnAt2 {B : Bs} {f : Addr} {ps : List Str} (h : fnChk B.K f = true) (hl : ps.length = 2) (hb : ∀ a b, bindsAt B.K f [a, b] = pure (ps.zip [a, b])) : FnAt B f ps (bodyOf B.K f) (scopeOf B.K f) := fnAt_of h fun vals e => by
  rw [hl] at e
  obtain ⟨a, r0, rfl, e0⟩ := len_succ e
  obtain ⟨b, r1, rfl, e1⟩ := len_succ e0
  obtain rfl := List.eq_nil_of_length_eq_zero e1
  exact hb a b
theorem fnAt3 {B : Bs} {f : Addr} {ps : List Str} (h : fnChk B.K f = true) (hl : ps.length = 3) (hb : ∀ a b c, bindsAt B.K f [a, b, c] = pure (ps.zip [a, b, c])) : FnAt B f ps (bodyOf B.K f) (scopeOf B.K f) := fnAt_of h fun vals e => by
  rw [hl] at e
  obtain ⟨a, r0, rfl, e0⟩ := len_succ e
  obtain ⟨b, r1, rfl, e1⟩ := len_succ e0
  obtain ⟨c, r2, rfl, e2⟩ := len_succ e1
  obtain rfl := List.eq_nil_of_length_eq_zero e2
  exact hb a b c
section
variable {B : Bs} {G : Glb} {d : Nat} {sc : Scope} {loc : Loc} {g : Gh} {o : Objs} {s : Shared} {Q : V → Objs → Prop}

theorem wpO2.mulL {a b : Int} (ha : a.natAbs < 2 ^ 64) (h : Q (.int (a * b)) o) : wpO2 B d (binaryOp .Mult) (.int a) (.int b) Q o :=
  wpO2.mul (IntMulOk.of_left (intBits_le_64 (by omega) (by omega))) h
theorem wpO2.mulR {a b : Int} (hb : b.natAbs < 2 ^ 64) (h : Q (.int (a * b)) o) : wpO2 B d (binaryOp .Mult) (.int a) (.int b) Q o :=
  wpO2.mul (IntMulOk.of_right (intBits_le_64 (by omega) (by omega))) h

/-- a frozen row -/
def Seq (x : V) (xs : List V) : Prop := x = .lst xs ∨ x = .tup xs
theorem Seq.itV {x : V} {xs : List V} (h : Seq x xs) : itV x = some xs := by rcases h with rfl | rfl <;> rfl
theorem Seq.rngOk {x : V} {xs : List V} (h : Seq x xs) : rngOk x := by rcases h with rfl | rfl <;> trivial
theorem Seq.asS {x : V} {xs : List V} (h : Seq x xs) : asS o x = some xs := by rcases h with rfl | rfl <;> rfl
theorem wpF.isiS {x : V} {xs : List V} (h : Seq x xs) (q : Q (.bool true) o) : wpF B d (.raw (.builtin "isinstance")) [x, .tup [.raw (.type "tuple"), .raw (.type "list")]] Q o := by
  rcases h with rfl | rfl
  · exact wpF.isiL rfl q
  · exact wpF.isiT q
theorem wpF.lenS {x : V} {xs : List V} (h : Seq x xs) (hsz : xs.length ≤ sizeLine) (q : Q (.int xs.length) o) : wpF B d (.raw (.builtin "len")) [x] Q o := by
  rcases h with rfl | rfl
  · exact wpF.lenL rfl hsz q
  · exact wpF.lenT hsz q
theorem small {n : Nat} (h : n ≤ 10000) : n ≤ sizeLine := by rw [sizeLine_eq]; omega
theorem iteNT {P P' : Prop} (h : P) : if (!false) = true then P else P' := h
theorem iteNF {P P' : Prop} (h : P') : if (!true) = true then P else P' := h
theorem exInt {i : Int} {P : Int → Prop} (h : P i) : ∃ j, V.int i = V.int j ∧ P j := ⟨i, rfl, h⟩
theorem exPut {x : Str} {v : V} {l l' : Loc} {P : Loc → Prop} (hp : Put x v l l') (h : P l') : ∃ l', Put x v l l' ∧ P l' := ⟨l', hp, h⟩
theorem lenOk0 {P : Prop} (k : P) : ([] : List V).length ≤ sizeLine ∧ P := ⟨small (Nat.zero_le _), k⟩
theorem lenOk1 {a : V} {P : Prop} (k : P) : [a].length ≤ sizeLine ∧ P := ⟨small (by simp), k⟩
theorem lenOk2 {a b : V} {P : Prop} (k : P) : [a, b].length ≤ sizeLine ∧ P := ⟨small (by simp), k⟩
theorem lenOkN {a b c : V} {r : List V} {P : Prop} (h : Nat.ble r.length 100 = true) (k : P) : (a :: b :: c :: r).length ≤ sizeLine ∧ P := ⟨small (by have := Nat.le_of_ble_eq_true h; simp; omega), k⟩
theorem smallV {ns : List Int} (h : ns.length ≤ 10000) : (ns.map V.int).length ≤ sizeLine := small (by rw [List.length_map]; exact h)
theorem wpF.lenV {x : V} {ns : List Int} (hx : asL o x = some (vints ns)) (hsz : ns.length ≤ 10000) (q : Q (.int ns.length) o) : wpF B d (.raw (.builtin "len")) [x] Q o :=
  wpF.lenL hx (small (by rw [List.length_map]; exact hsz)) (by rw [List.length_map]; exact q)
theorem seqIndex_nat {k : Int} {n : Nat} (h0 : 0 ≤ k) (h : k < n) : seqIndex? k n = some k.toNat := by
  unfold seqIndex?
  have : ¬ k < 0 := by omega
  simp only [if_neg this]
  rw [if_pos (by simp only [Bool.and_eq_true, decide_eq_true_eq]; omega)]
theorem seqIndex_last {n : Nat} : seqIndex? (-1) (n + 1) = some n := by
  rw [PySem.MeetsSeq.seqIndex_neg (by omega) (by omega)]
  congr 1; omega
theorem atI_nat {α : Type} {xs : List α} {k : Int} {x : α} (h0 : 0 ≤ k) (h : xs[k.toNat]? = some x) : atI xs k = some x := by
  obtain ⟨hl, _⟩ := List.getElem?_eq_some_iff.mp h
  unfold atI
  rw [seqIndex_nat h0 (by omega)]
  exact h
theorem pick_plain {α : Type} (xs : List α) (lo hi : Option Int) : pick xs lo hi none = (xs.drop (lo.elim 0 (clipAt xs.length))).take (hi.elim xs.length (clipAt xs.length) - lo.elim 0 (clipAt xs.length)) := by
  unfold pick
  rw [sliceBounds_plain]
  simp only [sliceRange_one]
  have := pick_run xs.toArray (lo.elim 0 (clipAt xs.length)) (hi.elim xs.length (clipAt xs.length) - lo.elim 0 (clipAt xs.length))
  simpa using this
theorem pick_mid {α : Type} (xs : List α) {i j : Int} (h0 : 0 ≤ i) (h1 : 0 ≤ j) : pick xs (some i) (some j) none = (xs.take j.toNat).drop i.toNat := by
  rw [pick_plain]
  obtain ⟨a, rfl⟩ := Int.eq_ofNat_of_zero_le h0
  obtain ⟨b, rfl⟩ := Int.eq_ofNat_of_zero_le h1
  simp only [Option.elim, clipAt_nat, Int.toNat_natCast]
  apply List.ext_getElem?
  intro k
  simp only [List.getElem?_take, List.getElem?_drop]
  by_cases h : a + k < xs.length
  · by_cases h2 : a + k < b
    · rw [if_pos (by omega), if_pos h2]; congr 1; omega
    · rw [if_neg (by omega), if_neg h2]
  · have e1 : xs[a + k]? = none := List.getElem?_eq_none_iff.mpr (by omega)
    have e2 : xs[min a xs.length + k]? = none := List.getElem?_eq_none_iff.mpr (by omega)
    rw [e1, e2]; simp
theorem pick_from {α : Type} (xs : List α) {i : Int} (h0 : 0 ≤ i) : pick xs (some i) none none = xs.drop i.toNat := by
  rw [pick_plain]
  obtain ⟨a, rfl⟩ := Int.eq_ofNat_of_zero_le h0
  simp only [Option.elim, clipAt_nat, Int.toNat_natCast]
  apply List.ext_getElem?
  intro k
  simp only [List.getElem?_take, List.getElem?_drop]
  by_cases h : a + k < xs.length
  · rw [if_pos (by omega)]; congr 1; omega
  · have e1 : xs[a + k]? = none := List.getElem?_eq_none_iff.mpr (by omega)
    have e2 : xs[min a xs.length + k]? = none := List.getElem?_eq_none_iff.mpr (by omega)
    rw [e1, e2]; simp
theorem pick_upto {α : Type} (xs : List α) {j : Int} (h1 : 0 ≤ j) : pick xs none (some j) none = xs.take j.toNat := by
  have := pick_mid xs (i := 0) (Int.le_refl 0) h1
  rw [pick_plain] at this ⊢
  have e : clipAt xs.length 0 = 0 := by rw [show (0 : Int) = ((0 : Nat) : Int) from rfl, clipAt_nat]; omega
  simp only [Option.elim, e, Int.toNat_zero, List.drop_zero] at this ⊢
  exact this
theorem pick_init {α : Type} (xs : List α) : pick xs none (some (-1)) none = xs.take (xs.length - 1) := by
  rw [pick_plain]
  have : clipAt xs.length (-1) = xs.length - 1 := clipAt_neg xs.length 1 (Nat.le_refl _)
  simp [Option.elim, this]
theorem wpS.cut {st : Stmt} {r : List Stmt} {Q : Fl → Loc → Objs → Prop} (M : Loc → Objs → Prop) (h : wpX B G d sc loc st (fun f l o1 => f = .next ∧ M l o1) o) (k : ∀ l o1, M l o1 → wpS B G d sc l r Q o1) : wpS B G d sc loc (st :: r) Q o :=
  wpS.cons (h.mono fun f l o1 q => by obtain ⟨rfl, q⟩ := q; exact k l o1 q)
theorem wpF.getL {t : Nat} {T : Tab} {k j : Int} (ht : o t = some (.tab T)) (q : Q (.int ((T.links k).getD j)) o) : wpF B d (.raw (.builtin "dict.get")) [.sub t 2, .int k, .int j] Q o := by
  refine wpF.get ht rfl ?_
  show Q (((T.links k).map V.int).getD (.int j)) o
  cases e : T.links k with
  | none => rw [e] at q; exact q
  | some x => rw [e] at q; exact q
theorem wpF.getN {t : Nat} {T : Tab} {k : Int} (ht : o t = some (.tab T)) (q : Q (tupI ((T.numbers k).getD [])) o) : wpF B d (.raw (.builtin "dict.get")) [.sub t 3, .int k, .tup []] Q o := by
  refine wpF.get ht rfl ?_
  show Q (((T.numbers k).map tupI).getD (.tup [])) o
  cases e : T.numbers k with
  | none => rw [e] at q; exact q
  | some x => rw [e] at q; exact q
theorem wpF.getE {t : Nat} {T : Tab} {k : Int} (ht : o t = some (.tab T)) (q : Q (((T.excs k).map tupI).getD .none) o) : wpF B d (.raw (.builtin "dict.get")) [.sub t 4, .int k, .none] Q o :=
  wpF.get ht rfl q
theorem sub1 {o : Objs} {n t : Nat} {R X : SO} (hn : o n = none) : ∀ m x, upd o t X m = some x → upd (upd o n R) t X m = some x := fun m x e => by
  unfold upd at e ⊢
  by_cases h : m = t
  · rw [if_pos h] at e ⊢; exact e
  · rw [if_neg h] at e ⊢
    by_cases h2 : m = n
    · subst h2; rw [hn] at e; cases e
    · rw [if_neg h2]; exact e
theorem sub0 {o : Objs} {n : Nat} {R : SO} (hn : o n = none) : ∀ m x, o m = some x → upd o n R m = some x := fun m x e => by
  rw [upd_ne (fun q => by subst q; rw [hn] at e; cases e)]; exact e
theorem ne_of {o : Objs} {n t : Nat} {x : SO} (hn : o n = none) (ht : o t = some x) : t ≠ n := fun q => by subst q; rw [hn] at ht; cases ht
theorem seqIndex_neg1 {n : Nat} (h : 0 < n) : seqIndex? (-1) n = some (n - 1) := by
  obtain ⟨m, rfl⟩ : ∃ m, n = m + 1 := ⟨n - 1, by omega⟩
  rw [seqIndex_last]; rfl
theorem atI_neg1 {α : Type} {xs : List α} {x : α} (h : xs[xs.length - 1]? = some x) : atI xs (-1) = some x := by
  obtain ⟨hl, _⟩ := List.getElem?_eq_some_iff.mp h
  unfold atI
  rw [seqIndex_neg1 (by omega)]
  exact h
end

section
variable {B : Bs} {G : Glb} {d : Nat} {sc : Scope} {loc : Loc} {g : Gh} {o : Objs} {s : Shared} {Q : V → Objs → Prop}

/-- a comprehension that changes nothing -/
theorem CompP.pure {α : Type} {cap : Loc} {elt tgt : Expr} {tg : List Str} {ifs : List Expr} {K : List V → Objs → Prop} (emb : α → V) (p : α → Bool) (f : α → V) : ∀ (src : List α) (acc : List V),
    (∀ a ∈ src, ∃ ys, tgtVals tgt (emb a) = some ys ∧ ys.length = tg.length ∧ wpIfs B G d (bindTg tg ys cap) (fun b o1 => b = p a ∧ o = o1 ∧ (b = true → wpE B G d (bindTg tg ys cap) elt (fun v o2 => v = f a ∧ o = o2) o1)) ifs o) →
    K (acc ++ (src.filter p).map f) o → CompP B G d cap elt tgt tg ifs K (src.map emb) acc o
  | [], acc, h, k => by simpa [CompP] using k
  | a :: r, acc, h, k => by
    obtain ⟨ys, h1, h2, h3⟩ := h a List.mem_cons_self
    simp only [List.map_cons, CompP]
    refine ⟨ys, h1, h2, wpIfs.mono (fun b o1 q => ?_) ifs o h3⟩
    obtain ⟨hb, rfl, he⟩ := q
    have rest : ∀ acc', K (acc' ++ (r.filter p).map f) o → CompP B G d cap elt tgt tg ifs K (r.map emb) acc' o := fun acc' k' => CompP.pure emb p f r acc' (fun a ha => h a (List.mem_cons_of_mem _ ha)) k'
    cases b with
    | true =>
      simp only [if_true]
      refine (he rfl).mono fun v o2 q => ?_
      obtain ⟨rfl, rfl⟩ := q
      refine rest _ ?_
      rw [List.filter_cons, if_pos hb.symm] at k
      simpa using k
    | false =>
      simp only [Bool.false_eq_true, if_false]
      refine rest _ ?_
      rw [List.filter_cons, if_neg (by rw [← hb]; decide)] at k
      exact k

theorem CompP.filt {α : Type} {cap : Loc} {elt tgt c : Expr} {tg : List Str} {K : List V → Objs → Prop} (emb : α → V) (p : α → Bool) (f : α → V) (src : List α)
    (h : ∀ a ∈ src, ∃ ys, tgtVals tgt (emb a) = some ys ∧ ys.length = tg.length ∧ wpC B G d (bindTg tg ys cap) c (fun b o1 => b = p a ∧ o = o1) o ∧ (p a = true → wpE B G d (bindTg tg ys cap) elt (fun v o2 => v = f a ∧ o = o2) o))
    (k : K ((src.filter p).map f) o) : CompP B G d cap elt tgt tg [c] K (src.map emb) [] o := by
  refine CompP.pure emb p f src [] (fun a ha => ?_) (by simpa using k)
  obtain ⟨ys, h1, h2, h3, h4⟩ := h a ha
  refine ⟨ys, h1, h2, ?_⟩
  simp only [wpIfs]
  refine h3.mono fun b o1 q => ?_
  obtain ⟨rfl, rfl⟩ := q
  cases e : p a with
  | true => exact ⟨rfl, rfl, fun _ => h4 e⟩
  | false => exact ⟨rfl, rfl, fun q => nomatch q⟩
theorem CompP.map {α : Type} {cap : Loc} {elt tgt : Expr} {tg : List Str} {K : List V → Objs → Prop} (emb : α → V) (f : α → V) (src : List α)
    (h : ∀ a ∈ src, ∃ ys, tgtVals tgt (emb a) = some ys ∧ ys.length = tg.length ∧ wpE B G d (bindTg tg ys cap) elt (fun v o2 => v = f a ∧ o = o2) o)
    (k : K (src.map f) o) : CompP B G d cap elt tgt tg [] K (src.map emb) [] o := by
  refine CompP.pure emb (fun _ => true) f src [] (fun a ha => ?_) (by rw [List.filter_eq_self.mpr (fun _ _ => rfl)]; simpa using k)
  obtain ⟨ys, h1, h2, h3⟩ := h a ha
  exact ⟨ys, h1, h2, by simp only [wpIfs]; exact ⟨trivial, trivial, fun _ => h3⟩⟩

theorem itV_rng {n : Nat} : itV (.rng 0 (n : Int)) = some ((List.range n).map fun i : Nat => V.int i) := by
  simp only [itV]
  congr 1
  have : ((n : Int) - 0).toNat = n := by omega
  rw [this]
  apply List.map_congr_left
  intro i _
  congr 1; omega
theorem itV_rng2 {lo hi : Int} : itV (.rng lo hi) = some ((List.range (hi - lo).toNat).map fun i : Nat => V.int (lo + i)) := rfl
theorem rngOk_n {n : Nat} (h : n ≤ 100000) : rngOk (.rng 0 (n : Int)) := by
  simp only [Mine.rngOk]; omega
end

/-- a comprehension over a list that may change later, but not here -/
def CompO (B : Bs) (G : Glb) (d : Nat) (cap : Loc) (elt tgt : Expr) (tg : List Str) (ifs : List Expr) (n : Nat) (full : List V) (K : List V → Objs → Prop) : List V → List V → Objs → Prop :=
  CompG B G d cap elt tgt tg ifs (fun o => o n = some (.list full)) K
section
variable {B : Bs} {G : Glb} {d : Nat} {loc : Loc} {g : Gh} {o : Objs} {s : Shared}

theorem iter_O {A : Around} {n : Nat} {v : Value} {xs : List V} {t : Expr} (hA : A.handled = none) (H : HR B g o s) (hon : o n = some (.list xs)) (ht : plainT t = true) (r : VR g (.obj n) v)
    (P : Value → Shared → Prop) (k : ∀ I fp wr St h', IterG B g s xs t (fun o => o n = some (.list xs)) I fp wr St h' → P (.ref I) { s with heap := h' }) : wpAny (model B.prog B.w) A (pyIter v) P noE s := by
  obtain ⟨a, vs0, k0, rfl, hρ, hl0, hv0⟩ := H.listAt hon r
  have hnx : n < g.next := (H.live _ _ hon).1
  have hne : a ≠ s.heap.objs.size := by obtain ⟨y, hy, _⟩ := hl0.isList; exact Nat.ne_of_lt (Heap.lt_size hy)
  have again : ∀ {g2 : Gh} {o2 : Objs} {s' : Shared}, Gle g g2 → HR B g2 o2 s' → o2 n = some (.list xs) → ∃ vs, s'.heap.IsList a vs.toArray ∧ VRs g2 xs vs := fun {g2 o2 s'} G2 H2 ok => by
    have hρ2 : g2.ρ n = [a] := by rw [G2.rho n hnx, hρ]
    obtain ⟨a', vs, k, _, hρ', hl, hv⟩ := H2.listAt (v := .ref a) ok (by simp only [VR]; exact ⟨Nat.lt_of_lt_of_le hnx G2.next, a, rfl, by rw [hρ2]; rfl⟩)
    obtain rfl : a = a' := by rw [hρ2] at hρ'; simpa using hρ'
    exact ⟨vs, hl.isList, hv⟩
  refine wpAny_pyIter_list hl0.isList (k _ [s.heap.objs.size] [s.heap.objs.size] (fun i h => h.IsListIter s.heap.objs.size a i) _ ⟨fun A2 g2 o2 s' i Q hA2 G2 H2 ok st hlt q => ?_, fun A2 g2 o2 s' Q hA2 G2 H2 ok st q => ?_, fun A2 i s' Q hA2 st q => wpAny_pyIter_listiter st q, fun i h h' st kk => ?_, ?_, ?_, ?_, fun b hb => .inl hb, ?_, fun A2 i s' v Q st q => ?_⟩)
  · obtain ⟨vs, hl, hv⟩ := again G2 H2 ok
    refine (Walks.list (prog := B.prog) (w := B.w) hA2 s.heap.objs.size a hne vs.toArray).item i s' Q noE (by simpa [hv.length] using hlt) ⟨st, hl⟩ fun u h3 tk hu st3 k3 => ?_
    obtain ⟨w, hw, hr⟩ := hv.get i xs[i] (by simp [hlt])
    have hu' : vs[i]? = some u := by simpa using hu
    rw [hu'] at hw; cases hw
    exact q u _ h3 tk (by simp [hlt]) hr st3.1 fun b y hb e => k3 b y hb e
  · obtain ⟨vs, hl, hv⟩ := again G2 H2 ok
    exact (Walks.list (prog := B.prog) (w := B.w) hA2 s.heap.objs.size a hne vs.toArray).done s' Q noE ⟨by rw [show vs.toArray.size = xs.length by simpa using hv.length]; exact st, hl⟩ fun h3 tk k3 => q h3 tk fun b y hb e => k3 b y hb e
  · obtain ⟨y, hy, r⟩ := st
    exact ⟨y, kk _ (by simp) y hy, r⟩
  · exact ⟨_, Heap.get?_push_size _ rfl, rfl, rfl⟩
  · intro b hb; simp at hb; subst hb; exact get_size _
  · intro i h st b hb; simp at hb; subst hb; obtain ⟨y, hy, _⟩ := st; exact ⟨y, hy⟩
  · intro b y e; exact Heap.get?_push_of_some _ e
  · rw [letGo_plain ht]; exact wpAny_pure q

theorem wpE.compO {elt tgt iter : Expr} {ifs : List Expr} {scope : Scope} {pos : Pos} {Q : V → Objs → Prop} (cap : Loc) (gn : List (Str × V)) (tg : List Str) (hcap : ∀ p ∈ cap, p ∈ loc) (hgn : ∀ p ∈ gn, GlobOk B p.1 p.2) (htg : tgtOf tgt = some tg)
    (hc : compOk scope G.sc tg (cap.map (·.1)) (gn.map (·.1)) = true)
    (h : wpE B G d loc iter (fun v o1 => ∃ n xs, v = .obj n ∧ o1 n = some (.list xs) ∧ plainT tgt = true ∧ xs.length ≤ sizeLine ∧ CompO B ⟨gn, relabelS scope G.sc⟩ d cap elt tgt tg ifs n xs (NewL Q) xs [] o1) o)
    (hs : ∀ env x, foldedSetIterable iter env x = pure x := by intro _ _; with_unfolding_all rfl) : wpE B G d loc (.ListComp elt [⟨tgt, iter, ifs, 0⟩] scope pos) Q o := by
  intro A env g s hA E H F
  have hc := CompOk.of hc
  obtain ⟨cl, c1, c2, c3⟩ := comp_closure E F hcap hc
  unfold wpT
  rw [eval_ListComp]
  refine wpAny_comprehension_free (e := .ListComp elt [⟨tgt, iter, ifs, 0⟩] scope pos) (g := ⟨tgt, iter, ifs, 0⟩) (gs := []) (use := Option.none) rfl (hs env) c1 hc.kind hc.locals (wpT.cps (h A env g s hA E H F) fun v v' g1 o1 s1 h1 e1 r1 q1 => ?_)
  obtain ⟨n, xs, rfl, hon, ht, hsz, q⟩ := q1
  refine comp_core (RR := fun acc C => compPost (model B.prog B.w) A noE Option.none (Post B VR Q g o s.heap) acc C) hA E h1 (F.ext e1) (iter_O hA.1 h1 hon ht r1) hsz hcap hgn htg hc c2 c3 q ?_
  intro D C s' g' o' acc vs m' ce
  refine ⟨m', ce.ns, fun h' hs' => ?_⟩
  obtain ⟨v2, g2, o2, H2, E2, r2, q2, f1, f2⟩ := ce.fin
  have k : ∀ a x, a ∉ [C] → s'.heap.get? a = some x → h'.get? a = some x := fun a x ha e => hs'.extBut a x (by simpa using ha) e
  exact ⟨v2, g2, o2, H2.off (n := s'.toks) (wr := [C]) (fun b hb => by simp at hb; subst hb; exact ⟨f1, f2⟩) k, e1.trans (E2.hid (hd := [C]) k (fun b hb => by simp at hb; subst hb; exact ce.fC)), r2, q2⟩

/-- a comprehension that changes nothing -/
theorem CompO.pure {α : Type} {cap : Loc} {elt tgt : Expr} {tg : List Str} {ifs : List Expr} {K : List V → Objs → Prop} {n : Nat} {full : List V} (hn : o n = some (.list full)) (emb : α → V) (p : α → Bool) (f : α → V) : ∀ (src : List α) (acc : List V),
    (∀ a ∈ src, ∃ ys, tgtVals tgt (emb a) = some ys ∧ ys.length = tg.length ∧ wpIfs B G d (bindTg tg ys cap) (fun b o1 => b = p a ∧ o = o1 ∧ (b = true → wpE B G d (bindTg tg ys cap) elt (fun v o2 => v = f a ∧ o = o2) o1)) ifs o) →
    K (acc ++ (src.filter p).map f) o → CompO B G d cap elt tgt tg ifs n full K (src.map emb) acc o
  | [], acc, h, k => by simpa [CompO, CompG, hn] using k
  | a :: r, acc, h, k => by
    obtain ⟨ys, h1, h2, h3⟩ := h a List.mem_cons_self
    simp only [List.map_cons, CompP]
    refine ⟨hn, ys, h1, h2, wpIfs.mono (fun b o1 q => ?_) ifs o h3⟩
    obtain ⟨hb, rfl, he⟩ := q
    have rest : ∀ acc', K (acc' ++ (r.filter p).map f) o → CompO B G d cap elt tgt tg ifs n full K (r.map emb) acc' o := fun acc' k' => CompO.pure hn emb p f r acc' (fun a ha => h a (List.mem_cons_of_mem _ ha)) k'
    cases b with
    | true =>
      simp only [if_true]
      refine (he rfl).mono fun v o2 q => ?_
      obtain ⟨rfl, rfl⟩ := q
      refine rest _ ?_
      rw [List.filter_cons, if_pos hb.symm] at k
      simpa using k
    | false =>
      simp only [Bool.false_eq_true, if_false]
      refine rest _ ?_
      rw [List.filter_cons, if_neg (by rw [← hb]; decide)] at k
      exact k

theorem CompO.filt {α : Type} {cap : Loc} {elt tgt c : Expr} {tg : List Str} {K : List V → Objs → Prop} {n : Nat} {full : List V} (hn : o n = some (.list full)) (emb : α → V) (p : α → Bool) (f : α → V) (src : List α)
    (h : ∀ a ∈ src, ∃ ys, tgtVals tgt (emb a) = some ys ∧ ys.length = tg.length ∧ wpC B G d (bindTg tg ys cap) c (fun b o1 => b = p a ∧ o = o1) o ∧ (p a = true → wpE B G d (bindTg tg ys cap) elt (fun v o2 => v = f a ∧ o = o2) o))
    (k : K ((src.filter p).map f) o) : CompO B G d cap elt tgt tg [c] n full K (src.map emb) [] o := by
  refine CompO.pure hn emb p f src [] (fun a ha => ?_) (by simpa using k)
  obtain ⟨ys, h1, h2, h3, h4⟩ := h a ha
  refine ⟨ys, h1, h2, ?_⟩
  simp only [wpIfs]
  refine h3.mono fun b o1 q => ?_
  obtain ⟨rfl, rfl⟩ := q
  cases e : p a with
  | true => exact ⟨rfl, rfl, fun _ => h4 e⟩
  | false => exact ⟨rfl, rfl, fun q => nomatch q⟩
theorem CompO.map {α : Type} {cap : Loc} {elt tgt : Expr} {tg : List Str} {K : List V → Objs → Prop} {n : Nat} {full : List V} (hn : o n = some (.list full)) (emb : α → V) (f : α → V) (src : List α)
    (h : ∀ a ∈ src, ∃ ys, tgtVals tgt (emb a) = some ys ∧ ys.length = tg.length ∧ wpE B G d (bindTg tg ys cap) elt (fun v o2 => v = f a ∧ o = o2) o)
    (k : K (src.map f) o) : CompO B G d cap elt tgt tg [] n full K (src.map emb) [] o := by
  refine CompO.pure hn emb (fun _ => true) f src [] (fun a ha => ?_) (by rw [List.filter_eq_self.mpr (fun _ _ => rfl)]; simpa using k)
  obtain ⟨ys, h1, h2, h3⟩ := h a ha
  exact ⟨ys, h1, h2, by simp only [wpIfs]; exact ⟨trivial, trivial, fun _ => h3⟩⟩

theorem pickI {ns : List Int} {r : Int} (h0 : 0 ≤ r) (h1 : r < ns.length) : atI (ns.map V.int) r = some (.int (ns.getD r.toNat 0)) := by
  refine atI_nat h0 ?_
  rw [List.getElem?_map, List.getD_eq_getElem?_getD, List.getElem?_eq_getElem (by omega)]
  rfl

variable {sc : Scope} in
end

theorem vrs_ints {g : Gh} {vs : List Value} {ns : List Int} (h : IntsAre vs ns) : VRs g (vints ns) vs := by
  induction h with
  | nil => exact VRs.nil
  | cons n t h ih => exact VRs.cons (by simp [VR]) ih
def topOk (sc : Scope) (xs : List Str) : Bool := decide (sc.kind = .function) && decide xs.Nodup && xs.all fun x => decide (sc.names.lookup x = some .local) && !(x == ("__debug__" : Str)) && !(x == ("__classdict__" : Str))
/-- the law's body runs from where the head leaves it -/
theorem top_run {prog : Program} {w : World} {K : Frag} {C : Addr} {mg mb m : Str → Option Value} {names : List (Str × V)} {sc sc' : Scope} {body body' : List Stmt} {s₁ : Shared} {h₁ : Heap} {tk : Nat} {A : Around} {name x : Str} {fa a : Addr} {cd : Value} {vs : List Value} {ns : List Int} {ls : List Str} {d : Nat}
    {P : Flow → Shared → Prop} {Ee : Value → Shared → Prop} (KX : K.In s₁.heap) (hgn : s₁.heap.Ns mainGlobals mg) (hbn : s₁.heap.Ns builtinsNs mb) (hnl : s₁.heap.NoLimit) (hb : ∀ x : Str, x ≠ "__name__" → mb x = bootBuiltins x) (hg : s₁.gens = #[])
    (F : Fr s₁.heap s₁.heap.objs.size h₁ m) (hm : m x = some (.ref a)) (hl : s₁.heap.IsList a vs.toArray) (hI : IntsAre vs ns) (hA : AOk d A) (ht : topOk sc (x :: ls) = true) (es : sc = sc') (eb : body = body')
    (W : ∀ B : Bs, B.prog = prog → B.w = w → B.K = K → B.C = C → (∀ p ∈ names, sc.names.lookup p.1 = some .globalImplicit ∧ GlobOk B p.1 p.2) ∧ wpS B ⟨names, sc⟩ d sc ((x, some (.lst (vints ns))) :: ls.map fun l => (l, Option.none)) body (RetQ fun v _ => v = .bool true) (fun _ => Option.none))
    (k : ∀ s' m', Fr s₁.heap s₁.heap.objs.size s'.heap m' → s'.gens = #[] → s'.os = s₁.os → P (.ret (.bool true)) s') :
    wpAny (model prog w) A (execs body' (envOf name sc' s₁.heap.objs.size fa cd)) P Ee { heap := h₁, gens := s₁.gens, drawn := s₁.drawn, toks := tk, os := s₁.os } := by
  subst es; subst eb
  simp only [topOk, Bool.and_eq_true, decide_eq_true_eq, List.all_eq_true, Bool.not_eq_true'] at ht
  obtain ⟨⟨hk, nd⟩, hx⟩ := ht
  let B : Bs := ⟨prog, w, s₁.heap, s₁.os, C, K, mg, mb, KX, hgn, hbn, hnl, hb⟩
  obtain ⟨hn, hW⟩ := W B rfl rfl rfl rfl
  let g : Gh := ⟨fun _ => [], fun a => s₁.heap.get? a, 0⟩
  have noO : ∀ a, ¬ Owned g (fun _ => Option.none) a := fun a q => by obtain ⟨n, y, e, _⟩ := q; cases e
  have H : HR B g (fun _ => Option.none) { heap := h₁, gens := s₁.gens, drawn := s₁.drawn, toks := tk, os := s₁.os } :=
    ⟨fun a y e => F.keep a y e, fun a y e => e, fun n y e => (by cases e), fun n m y z e => (by cases e), fun n y e => (by cases e), hg, rfl⟩
  have hsz : s₁.heap.get? s₁.heap.objs.size = Option.none := get_size _
  have hv : VR g (.lst (vints ns)) (.ref a) := by
    obtain ⟨y, hy, hc, n, hd⟩ := hl
    simp only [VR]
    exact ⟨a, vs, y, rfl, hy, ⟨hc, n, hd⟩, vrs_ints hI⟩
  have FF : FR g (fun _ => Option.none) (envOf name sc s₁.heap.objs.size fa cd) ((x, some (.lst (vints ns))) :: ls.map fun l => (l, Option.none)) h₁ := by
    refine ⟨noO _, hsz, ⟨m, F.ns, fun p hp => ?_⟩, fun p hp => nomatch hp⟩
    rcases List.mem_cons.mp hp with rfl | hp
    · obtain ⟨⟨h1, h2⟩, h3⟩ := hx x List.mem_cons_self
      exact ⟨h2, h3, .inl ⟨h1, fun v e => by cases e; exact ⟨_, hm, hv⟩⟩⟩
    · obtain ⟨y, hy, rfl⟩ := List.mem_map.mp hp
      obtain ⟨⟨h1, h2⟩, h3⟩ := hx y (List.mem_cons_of_mem _ hy)
      exact ⟨h2, h3, .inl ⟨h1, fun v e => by cases e⟩⟩
  have E : EnvOk B ⟨names, sc⟩ (envOf name sc s₁.heap.objs.size fa cd) := ⟨rfl, hk, rfl, rfl, fun p hp => hn p hp⟩
  have ES : EnvS sc ((x, some (.lst (vints ns))) :: ls.map fun l => (l, Option.none)) (envOf name sc s₁.heap.objs.size fa cd) := ⟨rfl, by simpa [Function.comp_def] using nd, by simp [envOf]⟩
  refine wpAny_mono (hW A _ g _ hA E ES H FF) (fun f s' p => ?_) fun _ _ e => e.elim
  obtain ⟨b, l', g', o', H', E', F', _, r, q⟩ := p
  have hlast : ∃ m', Fr s₁.heap s₁.heap.objs.size s'.heap m' := by
    obtain ⟨m', hm', _⟩ := F'.ns
    exact ⟨m', hm', fun b y e => H'.zin _ _ (E'.gle.Z _ _ e), Nat.le_refl _⟩
  obtain ⟨m', hF⟩ := hlast
  cases b with
  | next => obtain ⟨_, _, e⟩ := q; cases e
  | brk => exact q.elim
  | ret v =>
    obtain ⟨_, _, rfl⟩ := q
    simp only [RFl] at r
    obtain ⟨v', rfl, hv'⟩ := r
    simp only [VR] at hv'
    subst hv'
    exact k s' m' hF H'.gens H'.os

section
variable {B : Bs} {G : Glb} {d : Nat} {sc : Scope} {loc : Loc} {g : Gh} {o : Objs} {s : Shared}
theorem wpX.whiles {test : Expr} {body : List Stmt} {p : Pos} {Q : Fl → Loc → Objs → Prop} (I : Nat → Loc → Objs → Prop)
    (turn : ∀ n l o, I n l o → wpC B G d l test (fun b o1 => if b then wpS B G d sc l body (fun f l2 o2 => match f with | .next => ∃ m, m < n ∧ I m l2 o2 | .brk => Q .next l2 o2 | .ret v => Q (.ret v) l2 o2) o1 else Q .next l o1) o)
    (n : Nat) (h : I n loc o) : wpX B G d sc loc (.While test body [] p) Q o := by
  intro A env g s hA E ES H F
  refine wpAny_While (codeAny_whileLoop (fun k s' => ∃ l2 g2 o2, I k l2 o2 ∧ HR B g2 o2 s' ∧ ExtW (WF env) g o s.heap g2 o2 s'.heap ∧ FR g2 o2 env l2 s'.heap ∧ l2.map (·.1) = loc.map (·.1)) ?_ n ⟨loc, g, o, h, H, (Ext.refl g o s.heap).w, F, rfl⟩)
  rintro k s' ⟨l2, g2, o2, hI, H2, E2, F2, k2⟩
  refine wpAny_mono (turn k l2 o2 hI A env g2 s' hA E H2 F2) (fun b s3 p3 => ?_) fun _ _ e => e.elim
  obtain ⟨b', g3, o3, H3, E3, r3, q3⟩ := p3
  simp only [RBool] at r3
  subst r3
  have F3 := F2.ext E3
  have E23 := E2.trans E3.w
  cases b with
  | false =>
    simp only [Bool.false_eq_true, if_false] at q3 ⊢
    exact wpAny_execs_nil ⟨.next, l2, g3, o3, H3, E23, F3, k2, rfl, q3⟩
  | true =>
    simp only [if_true] at q3 ⊢
    refine wpAny_mono (q3 A env g3 s3 hA E (ES.same k2) H3 F3) (fun f s4 p4 => ?_) fun _ _ e => e.elim
    obtain ⟨fl, l5, g5, o5, H5, E5, F5, k5, r5, q5⟩ := p4
    have E25 := E23.trans E5
    cases fl with
    | next =>
      simp only [RFl] at r5; subst r5
      obtain ⟨m, hm, q5⟩ := q5
      exact ⟨m, hm, l5, g5, o5, q5, H5, E25, F5, k5.trans k2⟩
    | brk =>
      simp only [RFl] at r5; subst r5
      exact ⟨.next, l5, g5, o5, H5, E25, F5, k5.trans k2, rfl, q5⟩
    | ret v =>
      simp only [RFl] at r5; obtain ⟨v', rfl, hv⟩ := r5
      exact ⟨.ret v, l5, g5, o5, H5, E25, F5, k5.trans k2, ⟨v', rfl, hv⟩, q5⟩
end

section
variable {prog : Program} {w : World} {A : Around} {E : Value → Shared → Prop} {s : Shared}
theorem sliceApplied_all {sl : Addr} {b : Int} {n : Nat} {u : Tok} {Q : Int × Int × Nat → Shared → Prop} (hs : s.heap.IsSliceOf sl .none (.int b u) .none) (hb : (n : Int) ≤ b) (h : Q (0, 1, n) s) :
    wpAny (model prog w) A (Builtin.Slice.sliceApplied (.ref sl) (pure (n : Int))) Q E s := by
  obtain ⟨os, hos, hcs, hds⟩ := id hs
  unfold Builtin.Slice.sliceApplied Builtin.Slice.sliceFields
  refine wpAny_bind (wpAny_bind (wpAny_field hos hds (x := .none) rfl (wpAny_bind (wpAny_field hos hds (x := .int b u) rfl (wpAny_bind (wpAny_field hos hds (x := .none) rfl (wpAny_pure ?_)))))))
  refine wpAny_bind (slicePart_none ?_)
  show wpAny _ _ (if ((1 : Int) == 0) = true then _ else _) _ _ s
  rw [if_neg (by decide)]
  refine wpAny_bind (slicePart_none (wpAny_bind (slicePart_int (wpAny_bind (wpAny_pure ?_)))))
  show wpAny _ _ (match Builtin.Slice.sliceAdjust none (some b) 1 (n : Int) with | (lo, hi) => pure (lo, (1 : Int), Builtin.Slice.slicePlaces lo hi 1)) _ _ s
  have e : Builtin.Slice.sliceAdjust none (some b) 1 (n : Int) = (0, (n : Int)) := by
    unfold Builtin.Slice.sliceAdjust
    have h1 : ¬ ((1 : Int) < 0) := by omega
    have h2 : ¬ (b < 0) := by omega
    simp only [h1, h2, if_false]
    congr 1
    omega
  rw [e]
  show wpAny _ _ (pure ((0 : Int), (1 : Int), Builtin.Slice.slicePlaces 0 (n : Int) 1)) _ _ s
  have e2 : Builtin.Slice.slicePlaces 0 (n : Int) 1 = n := by
    unfold Builtin.Slice.slicePlaces
    have h1 : (1 : Int) > 0 := by omega
    simp only [h1, if_true, Int.ediv_one]
    split <;> omega
  rw [e2]
  exact wpAny_pure h
theorem getItem_tuple_all {t sl : Addr} {items : Array Value} {b : Int} {u : Tok} {Q : Value → Shared → Prop} (ht : IsTup s.heap t items) (hs : s.heap.IsSliceOf sl .none (.int b u) .none) (hb : (items.size : Int) ≤ b) (h : Q (.ref t) s) :
    wpAny (model prog w) A (getItem (.ref t) (.ref sl)) Q E s := by
  obtain ⟨os, hos, hcs, hds⟩ := id hs
  have hTs : s.TypeIs (.ref sl) "slice" := ⟨os, hos, hcs⟩
  unfold getItem
  try with_reducible refine wpAny_holding ?_
  first | refine wpAny_bind (wpAny_pure ?_) | skip
  refine wpAny_bind (wpAny_sequenceKey ht.typeIs (by decide) ?_)
  refine wpAny_bind (wpAny_callSpecial?_slot (name := Str.ofString "__getitem__") ht.typeIs PyProof.Rows.slot_tuple_getitem
    (wpAny_call_entry PyProof.Rows.slot_tuple_getitem ht.typeIs PyProof.Rows.entry_tuple_getitem ?_ (PyProof.Rows.args_tuple_getitem _ _)))
  show wpAny _ _ (Builtin.Tuple.tupleItemsOf (.ref t) >>= _) _ _ s
  refine wpAny_bind (tupleItemsOf_ ht ?_)
  refine wpAny_bind (wpAny_typeOf hTs ?_)
  rw [if_pos (by decide)]
  refine wpAny_bind (sliceApplied_all hs hb ?_)
  show wpAny _ _ (if ((0 : Int) == 0 && (1 : Int) == 1 && items.size == items.size) = true then _ else _) _ _ s
  rw [if_pos (by simp)]
  refine wpAny_bind (m := Builtin.Tuple.tupleIsExact _) ?_
  unfold Builtin.Tuple.tupleIsExact
  refine wpAny_bind (wpAny_typeOf ht.typeIs (wpAny_pure ?_))
  rw [if_pos (by decide)]
  refine wpAny_bind (wpAny_rule ?_)
  first | exact wpAny_pure ⟨_, rfl, wpAny_pure h⟩ | exact wpAny_bind (wpAny_pure (wpAny_pure ⟨_, rfl, wpAny_pure h⟩))
end
section
variable {B : Bs} {G : Glb} {d : Nat} {sc : Scope} {loc : Loc} {g : Gh} {o : Objs} {s : Shared} {Q : V → Objs → Prop}
/-- a tuple up to its end -/
theorem wpE.sliceT {v hi : Expr} {p p1 : Pos} (h : wpE B G d loc v (fun x => wpE B G d loc hi (fun y o1 => ∃ xs k, x = .tup xs ∧ y = .int k ∧ (xs.length : Int) ≤ k ∧ Q (.tup xs) o1)) o) : wpE B G d loc (.Subscript v (.Slice Option.none (some hi) Option.none p1) p) Q o := by
  intro A env g s hA E H F
  refine Subscript_ (wpT.cps (h A env g s hA E H F) fun a a' g1 o1 s1 h1 e1 r1 q1 => ?_)
  refine wpAny_Slice (wpAny_pure (wpT.cps (q1 A env g1 s1 hA E h1 (F.ext e1)) fun y y' g2 o2 s2 h2 e2 r2 q2 => ?_))
  obtain ⟨xs, k, rfl, rfl, hk, q⟩ := q2
  simp only [VR] at r2
  obtain ⟨u, rfl⟩ := r2
  refine wpAny_pure ?_
  have r1' := VR.mono e2.gle _ _ r1
  obtain ⟨l, vs, rfl, hl, hv⟩ := asT_at h2 r1'
  obtain ⟨ops, hops⟩ := subscripted_slice Option.none (some hi) Option.none p1 (.ref l) (.ref s2.heap.objs.size)
  have hl' : IsTup (s2.heap.push { cls := .type "slice", data := .fields #[.none, .int k u, .none] }) l vs.toArray := let ⟨x, hx, r⟩ := hl; ⟨x, Heap.get?_push_of_some _ hx, r⟩
  refine tail_any (s := { s2 with heap := s2.heap.push { cls := .type "slice", data := .fields #[.none, .int k u, .none] } }) hl'.typeIs PyProof.Rows.slot_tuple_getitem.lookup ?_ hops
  refine getItem_tuple_all hl' (Heap.IsSliceOf.new ..) (by simpa [hv.length] using hk) ?_
  obtain ⟨H3, E3⟩ := h2.grow (n := s2.toks) (h' := s2.heap.push { cls := .type "slice", data := .fields #[.none, .int k u, .none] }) fun _ _ e => Heap.get?_push_of_some _ e
  exact ⟨_, g2, o2, H3, (e1.trans e2).trans E3, r1', q⟩
end

/-! the head: what stands in the heap when the law is called -/
def keepBy : List Bool → List Stmt → List Stmt
  | true :: m, s :: r => s :: keepBy m r
  | false :: m, _ :: r => keepBy m r
  | [], r => r
  | _, [] => []
noncomputable def view : Program := { PySem.Challenge.pw_sq0030_02 with main := { PySem.Challenge.pw_sq0030_02.main with body := keepBy [true, false, true, true, true, false, true, true, false, true, true, true, true, true, true, true, true, false] PySem.Challenge.pw_sq0030_02.main.body } }
noncomputable def topSt (i : Nat) : Option Stmt := PySem.Challenge.pw_sq0030_02.main.body[i]?
noncomputable def inCls (i j : Nat) : Option Stmt := match topSt i with
  | some (.ClassDef _ _ _ b _ _ _ _ _ _ _) => b[j]?
  | _ => Option.none
def fob (s : Option Stmt) (nm qual : Str) (dflt pm : Value) (code : Addr) : Obj := match s with
  | some (.FunctionDef _ ps b _ _ _ sc _ _ _) => { cls := .type "function", data := .func { name := nm, qualname := qual, params := ps, body := .stmts b, scope := sc, globals := 3, closure := [], defaults := dflt, kwdefaults := .none, pyModule := pm, code := .ref code } }
  | _ => { cls := .none, data := .dict #[] }
noncomputable def heapK (P : Params) : Frag :=
  [(2, { cls := Value.none, data := Data.dict #[] }),
    (3, { cls := Value.type "dict", data := Data.dict #[{ hash := PyData.keyHash P (Str.ofString "__name__"), key := Value.str (Str.ofString "__name__") 165, val := Value.str (Str.ofString "law_sq0030_02") 422 }, { hash := PyData.keyHash P (Str.ofString "__doc__"), key := Value.str (Str.ofString "__doc__") 166, val := Value.none }, { hash := PyData.keyHash P (Str.ofString "__package__"), key := Value.str (Str.ofString "__package__") 167, val := Value.none }, { hash := PyData.keyHash P (Str.ofString "__loader__"), key := Value.str (Str.ofString "__loader__") 168, val := Value.builtin "__main__.__loader__#opaque" }, { hash := PyData.keyHash P (Str.ofString "__spec__"), key := Value.str (Str.ofString "__spec__") 169, val := Value.none }, { hash := PyData.keyHash P (Str.ofString "__annotations__"), key := Value.str (Str.ofString "__annotations__") 170, val := Value.ref 6 }, { hash := PyData.keyHash P (Str.ofString "__builtins__"), key := Value.str (Str.ofString "__builtins__") 171, val := Value.ref 4 }, { hash := PyData.keyHash P (Str.ofString "__file__"), key := Value.str (Str.ofString "__file__") 173, val := Value.str (Str.ofString "/claim/cut.py") 172 }, { hash := PyData.keyHash P (Str.ofString "__cached__"), key := Value.str (Str.ofString "__cached__") 174, val := Value.none }, { hash := PyData.keyHash P (Str.ofString "_wall"), key := Value.str (Str.ofString "_wall") 193, val := Value.ref 21 }, { hash := PyData.keyHash P (Str.ofString "PageError"), key := Value.str (Str.ofString "PageError") 223, val := Value.ref 39 }, { hash := PyData.keyHash P (Str.ofString "BadArgument"), key := Value.str (Str.ofString "BadArgument") 239, val := Value.ref 52 }, { hash := PyData.keyHash P (Str.ofString "BadPattern"), key := Value.str (Str.ofString "BadPattern") 255, val := Value.ref 64 }, { hash := PyData.keyHash P (Str.ofString "is_whole"), key := Value.str (Str.ofString "is_whole") 266, val := Value.ref 73 }, { hash := PyData.keyHash P (Str.ofString "check_whole"), key := Value.str (Str.ofString "check_whole") 273, val := Value.ref 80 }, { hash := PyData.keyHash P (Str.ofString "LONGEST"), key := Value.str (Str.ofString "LONGEST") 277, val := Value.int 63 276 }, { hash := PyData.keyHash P (Str.ofString "EDGE"), key := Value.str (Str.ofString "EDGE") 279, val := Value.int 0 278 }, { hash := PyData.keyHash P (Str.ofString "is_word"), key := Value.str (Str.ofString "is_word") 287, val := Value.ref 87 }, { hash := PyData.keyHash P (Str.ofString "inner_letters"), key := Value.str (Str.ofString "inner_letters") 296, val := Value.ref 94 }, { hash := PyData.keyHash P (Str.ofString "check_pattern"), key := Value.str (Str.ofString "check_pattern") 306, val := Value.ref 101 }, { hash := PyData.keyHash P (Str.ofString "word_key"), key := Value.str (Str.ofString "word_key") 315, val := Value.ref 108 }, { hash := PyData.keyHash P (Str.ofString "least_part"), key := Value.str (Str.ofString "least_part") 322, val := Value.ref 115 }, { hash := PyData.keyHash P (Str.ofString "Patterns"), key := Value.str (Str.ofString "Patterns") 421, val := Value.ref 178 }, { hash := PyData.keyHash P (Str.ofString "_law_box"), key := Value.str (Str.ofString "_law_box") 431, val := Value.ref 189 }, { hash := PyData.keyHash P (Str.ofString "_law_take"), key := Value.str (Str.ofString "_law_take") 440, val := Value.ref 196 }, { hash := PyData.keyHash P (Str.ofString "_law_forms"), key := Value.str (Str.ofString "_law_forms") 446, val := Value.ref 201 }, { hash := PyData.keyHash P (Str.ofString "_law_table"), key := Value.str (Str.ofString "_law_table") 458, val := Value.ref 208 }, { hash := PyData.keyHash P (Str.ofString "_law_mixed"), key := Value.str (Str.ofString "_law_mixed") 468, val := Value.ref 215 }, { hash := PyData.keyHash P (Str.ofString "_law_other"), key := Value.str (Str.ofString "_law_other") 474, val := Value.ref 220 }, { hash := PyData.keyHash P (Str.ofString "_law_word"), key := Value.str (Str.ofString "_law_word") 480, val := Value.ref 225 }, { hash := PyData.keyHash P (Str.ofString "_law_round"), key := Value.str (Str.ofString "_law_round") 486, val := Value.ref 230 }, { hash := PyData.keyHash P (Str.ofString "law"), key := Value.str (Str.ofString "law") 495, val := Value.ref 237 }] 32 }),
    (15, { cls := Value.type "tuple", data := Data.seq #[] }),
    (17, { cls := Value.type "tuple", data := Data.seq #[Value.str (Str.ofString "k") 190] }),
    (18, { cls := Value.type "tuple", data := Data.seq #[] }),
    (20, { cls := Value.type "code", data := Data.fields #[Value.str (Str.ofString "_wall") 187, Value.str (Str.ofString "_wall") 188, Value.str (Str.ofString "/claim/cut.py") 189, Value.int 1 0, Value.int 1 0, Value.int 0 0, Value.int 0 0, Value.int 3 0, Value.ref 15, Value.bool true, Value.int 181 0, Value.ref 16, Value.none, Value.ref 17, Value.ref 18, Value.ref 19, Value.int 191 0, Value.int 1 0, Value.str (Str.ofString "/claim/cut.py") 192] }),
    (21, fob (topSt 0) (Str.ofString "_wall") (Str.ofString "_wall") (Value.none) (Value.str (Str.ofString "__main__") 164) 20),
    (22, { cls := Value.type "tuple", data := Data.seq #[Value.type "ValueError"] }),
    (29, { cls := Value.type "tuple", data := Data.seq #[Value.str (Str.ofString "") 208] }),
    (30, { cls := Value.type "tuple", data := Data.seq #[] }),
    (32, { cls := Value.type "tuple", data := Data.seq #[Value.str (Str.ofString "self") 212, Value.str (Str.ofString "reason") 213] }),
    (33, { cls := Value.type "tuple", data := Data.seq #[] }),
    (35, { cls := Value.type "code", data := Data.fields #[Value.str (Str.ofString "__init__") 209, Value.str (Str.ofString "PageError.__init__") 210, Value.str (Str.ofString "/claim/cut.py") 211, Value.int 7 0, Value.int 2 0, Value.int 0 0, Value.int 0 0, Value.int 3 0, Value.ref 30, Value.bool true, Value.int 181 0, Value.ref 31, Value.none, Value.ref 32, Value.ref 33, Value.ref 34, Value.int 214 0, Value.int 7 0, Value.str (Str.ofString "/claim/cut.py") 215] }),
    (36, fob (inCls 2 0) (Str.ofString "__init__") (Str.ofString "PageError.__init__") (Value.ref 29) (Value.str (Str.ofString "gluepage.errors") 194) 35),
    (37, { cls := Value.type "tuple", data := Data.seq #[Value.str (Str.ofString "reason") 217] }),
    (38, { cls := Value.type "dict", data := Data.dict #[{ hash := PyData.keyHash P (Str.ofString "__module__"), key := Value.str (Str.ofString "__module__") 203, val := Value.str (Str.ofString "gluepage.errors") 194 }, { hash := PyData.keyHash P (Str.ofString "__firstlineno__"), key := Value.str (Str.ofString "__firstlineno__") 207, val := Value.int 5 206 }, { hash := PyData.keyHash P (Str.ofString "__init__"), key := Value.str (Str.ofString "__init__") 216, val := Value.ref 36 }, { hash := PyData.keyHash P (Str.ofString "__static_attributes__"), key := Value.str (Str.ofString "__static_attributes__") 218, val := Value.ref 37 }, { hash := PyData.keyHash P (Str.ofString "__weakref__"), key := Value.str (Str.ofString "__weakref__") 220, val := Value.ref 40 }, { hash := PyData.keyHash P (Str.ofString "__doc__"), key := Value.str (Str.ofString "__doc__") 221, val := Value.none }] 3 }),
    (39, { cls := Value.type "type", data := Data.cls { name := Str.ofString "PageError", bases := [Value.type "ValueError"], mro := [Value.ref 39, Value.type "ValueError", Value.type "Exception", Value.type "BaseException", Value.type "object"], ns := 38, qualname := Str.ofString "PageError", subclasses := [Value.ref 52, Value.ref 64] }, slots := #[some (Value.ref 22), none, some (Value.str (Str.ofString "PageError") 196), some (Value.str (Str.ofString "PageError") 204), some (Value.builtin "ValueError.__new__"), some (Value.bool true)] }),
    (40, { cls := Value.type "getset_descriptor", data := Data.fields #[Value.str (Str.ofString "__weakref__") 219, Value.ref 39, Value.builtin "ExceptionGroup.__weakref__", Value.none] }),
    (43, { cls := Value.type "tuple", data := Data.seq #[Value.ref 39] }),
    (50, { cls := Value.type "tuple", data := Data.seq #[] }),
    (51, { cls := Value.type "dict", data := Data.dict #[{ hash := PyData.keyHash P (Str.ofString "__module__"), key := Value.str (Str.ofString "__module__") 231, val := Value.str (Str.ofString "gluepage.errors") 194 }, { hash := PyData.keyHash P (Str.ofString "__firstlineno__"), key := Value.str (Str.ofString "__firstlineno__") 235, val := Value.int 9 234 }, { hash := PyData.keyHash P (Str.ofString "__static_attributes__"), key := Value.str (Str.ofString "__static_attributes__") 236, val := Value.ref 50 }, { hash := PyData.keyHash P (Str.ofString "__doc__"), key := Value.str (Str.ofString "__doc__") 237, val := Value.none }] 2 }),
    (52, { cls := Value.type "type", data := Data.cls { name := Str.ofString "BadArgument", bases := [Value.ref 39], mro := [Value.ref 52, Value.ref 39, Value.type "ValueError", Value.type "Exception", Value.type "BaseException", Value.type "object"], ns := 51, qualname := Str.ofString "BadArgument" }, slots := #[some (Value.ref 43), none, some (Value.str (Str.ofString "BadArgument") 224), some (Value.str (Str.ofString "BadArgument") 232), some (Value.builtin "ValueError.__new__"), some (Value.bool true)] }),
    (55, { cls := Value.type "tuple", data := Data.seq #[Value.ref 39] }),
    (62, { cls := Value.type "tuple", data := Data.seq #[] }),
    (63, { cls := Value.type "dict", data := Data.dict #[{ hash := PyData.keyHash P (Str.ofString "__module__"), key := Value.str (Str.ofString "__module__") 247, val := Value.str (Str.ofString "gluepage.errors") 194 }, { hash := PyData.keyHash P (Str.ofString "__firstlineno__"), key := Value.str (Str.ofString "__firstlineno__") 251, val := Value.int 11 250 }, { hash := PyData.keyHash P (Str.ofString "__static_attributes__"), key := Value.str (Str.ofString "__static_attributes__") 252, val := Value.ref 62 }, { hash := PyData.keyHash P (Str.ofString "__doc__"), key := Value.str (Str.ofString "__doc__") 253, val := Value.none }] 2 }),
    (64, { cls := Value.type "type", data := Data.cls { name := Str.ofString "BadPattern", bases := [Value.ref 39], mro := [Value.ref 64, Value.ref 39, Value.type "ValueError", Value.type "Exception", Value.type "BaseException", Value.type "object"], ns := 63, qualname := Str.ofString "BadPattern" }, slots := #[some (Value.ref 55), none, some (Value.str (Str.ofString "BadPattern") 240), some (Value.str (Str.ofString "BadPattern") 248), some (Value.builtin "ValueError.__new__"), some (Value.bool true)] }),
    (67, { cls := Value.type "tuple", data := Data.seq #[] }),
    (69, { cls := Value.type "tuple", data := Data.seq #[Value.str (Str.ofString "value") 261, Value.str (Str.ofString "low") 262, Value.str (Str.ofString "high") 263] }),
    (70, { cls := Value.type "tuple", data := Data.seq #[] }),
    (72, { cls := Value.type "code", data := Data.fields #[Value.str (Str.ofString "is_whole") 258, Value.str (Str.ofString "is_whole") 259, Value.str (Str.ofString "/claim/cut.py") 260, Value.int 14 0, Value.int 3 0, Value.int 0 0, Value.int 0 0, Value.int 3 0, Value.ref 67, Value.bool true, Value.int 181 0, Value.ref 68, Value.none, Value.ref 69, Value.ref 70, Value.ref 71, Value.int 264 0, Value.int 14 0, Value.str (Str.ofString "/claim/cut.py") 265] }),
    (73, fob (topSt 6) (Str.ofString "is_whole") (Str.ofString "is_whole") (Value.none) (Value.str (Str.ofString "gluepage.scaled") 256) 72),
    (74, { cls := Value.type "tuple", data := Data.seq #[] }),
    (76, { cls := Value.type "tuple", data := Data.seq #[Value.str (Str.ofString "value") 270] }),
    (77, { cls := Value.type "tuple", data := Data.seq #[] }),
    (79, { cls := Value.type "code", data := Data.fields #[Value.str (Str.ofString "check_whole") 267, Value.str (Str.ofString "check_whole") 268, Value.str (Str.ofString "/claim/cut.py") 269, Value.int 16 0, Value.int 1 0, Value.int 0 0, Value.int 0 0, Value.int 3 0, Value.ref 74, Value.bool true, Value.int 181 0, Value.ref 75, Value.none, Value.ref 76, Value.ref 77, Value.ref 78, Value.int 271 0, Value.int 16 0, Value.str (Str.ofString "/claim/cut.py") 272] }),
    (80, fob (topSt 7) (Str.ofString "check_whole") (Str.ofString "check_whole") (Value.none) (Value.str (Str.ofString "gluepage.scaled") 256) 79),
    (81, { cls := Value.type "tuple", data := Data.seq #[] }),
    (83, { cls := Value.type "tuple", data := Data.seq #[Value.str (Str.ofString "letters") 283, Value.str (Str.ofString "letter") 284] }),
    (84, { cls := Value.type "tuple", data := Data.seq #[] }),
    (86, { cls := Value.type "code", data := Data.fields #[Value.str (Str.ofString "is_word") 280, Value.str (Str.ofString "is_word") 281, Value.str (Str.ofString "/claim/cut.py") 282, Value.int 23 0, Value.int 1 0, Value.int 0 0, Value.int 0 0, Value.int 3 0, Value.ref 81, Value.bool true, Value.int 181 0, Value.ref 82, Value.none, Value.ref 83, Value.ref 84, Value.ref 85, Value.int 285 0, Value.int 23 0, Value.str (Str.ofString "/claim/cut.py") 286] }),
    (87, fob (topSt 11) (Str.ofString "is_word") (Str.ofString "is_word") (Value.none) (Value.str (Str.ofString "gluepage.hyphen") 274) 86),
    (88, { cls := Value.type "tuple", data := Data.seq #[] }),
    (90, { cls := Value.type "tuple", data := Data.seq #[Value.str (Str.ofString "letters") 291, Value.str (Str.ofString "begin") 292, Value.str (Str.ofString "end") 293] }),
    (91, { cls := Value.type "tuple", data := Data.seq #[] }),
    (93, { cls := Value.type "code", data := Data.fields #[Value.str (Str.ofString "inner_letters") 288, Value.str (Str.ofString "inner_letters") 289, Value.str (Str.ofString "/claim/cut.py") 290, Value.int 30 0, Value.int 1 0, Value.int 0 0, Value.int 0 0, Value.int 3 0, Value.ref 88, Value.bool true, Value.int 181 0, Value.ref 89, Value.none, Value.ref 90, Value.ref 91, Value.ref 92, Value.int 294 0, Value.int 30 0, Value.str (Str.ofString "/claim/cut.py") 295] }),
    (94, fob (topSt 12) (Str.ofString "inner_letters") (Str.ofString "inner_letters") (Value.none) (Value.str (Str.ofString "gluepage.hyphen") 274) 93),
    (95, { cls := Value.type "tuple", data := Data.seq #[] }),
    (97, { cls := Value.type "tuple", data := Data.seq #[Value.str (Str.ofString "letters") 300, Value.str (Str.ofString "digits") 301, Value.str (Str.ofString "letter") 302, Value.str (Str.ofString "digit") 303] }),
    (98, { cls := Value.type "tuple", data := Data.seq #[] }),
    (100, { cls := Value.type "code", data := Data.fields #[Value.str (Str.ofString "check_pattern") 297, Value.str (Str.ofString "check_pattern") 298, Value.str (Str.ofString "/claim/cut.py") 299, Value.int 37 0, Value.int 2 0, Value.int 0 0, Value.int 0 0, Value.int 3 0, Value.ref 95, Value.bool true, Value.int 181 0, Value.ref 96, Value.none, Value.ref 97, Value.ref 98, Value.ref 99, Value.int 304 0, Value.int 37 0, Value.str (Str.ofString "/claim/cut.py") 305] }),
    (101, fob (topSt 13) (Str.ofString "check_pattern") (Str.ofString "check_pattern") (Value.none) (Value.str (Str.ofString "gluepage.hyphen") 274) 100),
    (102, { cls := Value.type "tuple", data := Data.seq #[] }),
    (104, { cls := Value.type "tuple", data := Data.seq #[Value.str (Str.ofString "letters") 310, Value.str (Str.ofString "found") 311, Value.str (Str.ofString "letter") 312] }),
    (105, { cls := Value.type "tuple", data := Data.seq #[] }),
    (107, { cls := Value.type "code", data := Data.fields #[Value.str (Str.ofString "word_key") 307, Value.str (Str.ofString "word_key") 308, Value.str (Str.ofString "/claim/cut.py") 309, Value.int 52 0, Value.int 1 0, Value.int 0 0, Value.int 0 0, Value.int 3 0, Value.ref 102, Value.bool true, Value.int 181 0, Value.ref 103, Value.none, Value.ref 104, Value.ref 105, Value.ref 106, Value.int 313 0, Value.int 52 0, Value.str (Str.ofString "/claim/cut.py") 314] }),
    (108, fob (topSt 14) (Str.ofString "word_key") (Str.ofString "word_key") (Value.none) (Value.str (Str.ofString "gluepage.hyphen") 274) 107),
    (109, { cls := Value.type "tuple", data := Data.seq #[] }),
    (111, { cls := Value.type "tuple", data := Data.seq #[Value.str (Str.ofString "value") 319] }),
    (112, { cls := Value.type "tuple", data := Data.seq #[] }),
    (114, { cls := Value.type "code", data := Data.fields #[Value.str (Str.ofString "least_part") 316, Value.str (Str.ofString "least_part") 317, Value.str (Str.ofString "/claim/cut.py") 318, Value.int 57 0, Value.int 1 0, Value.int 0 0, Value.int 0 0, Value.int 3 0, Value.ref 109, Value.bool true, Value.int 181 0, Value.ref 110, Value.none, Value.ref 111, Value.ref 112, Value.ref 113, Value.int 320 0, Value.int 57 0, Value.str (Str.ofString "/claim/cut.py") 321] }),
    (115, fob (topSt 15) (Str.ofString "least_part") (Str.ofString "least_part") (Value.none) (Value.str (Str.ofString "gluepage.hyphen") 274) 114),
    (123, { cls := Value.type "tuple", data := Data.seq #[] }),
    (125, { cls := Value.type "tuple", data := Data.seq #[Value.str (Str.ofString "self") 338] }),
    (126, { cls := Value.type "tuple", data := Data.seq #[] }),
    (128, { cls := Value.type "code", data := Data.fields #[Value.str (Str.ofString "__init__") 335, Value.str (Str.ofString "Patterns.__init__") 336, Value.str (Str.ofString "/claim/cut.py") 337, Value.int 61 0, Value.int 1 0, Value.int 0 0, Value.int 0 0, Value.int 3 0, Value.ref 123, Value.bool true, Value.int 181 0, Value.ref 124, Value.none, Value.ref 125, Value.ref 126, Value.ref 127, Value.int 339 0, Value.int 61 0, Value.str (Str.ofString "/claim/cut.py") 340] }),
    (129, fob (inCls 16 0) (Str.ofString "__init__") (Str.ofString "Patterns.__init__") (Value.none) (Value.str (Str.ofString "gluepage.hyphen") 274) 128),
    (130, { cls := Value.type "tuple", data := Data.seq #[] }),
    (132, { cls := Value.type "tuple", data := Data.seq #[Value.str (Str.ofString "self") 345, Value.str (Str.ofString "letters") 346, Value.str (Str.ofString "state") 347, Value.str (Str.ofString "letter") 348] }),
    (133, { cls := Value.type "tuple", data := Data.seq #[] }),
    (135, { cls := Value.type "code", data := Data.fields #[Value.str (Str.ofString "state_of") 342, Value.str (Str.ofString "Patterns.state_of") 343, Value.str (Str.ofString "/claim/cut.py") 344, Value.int 67 0, Value.int 2 0, Value.int 0 0, Value.int 0 0, Value.int 3 0, Value.ref 130, Value.bool true, Value.int 181 0, Value.ref 131, Value.none, Value.ref 132, Value.ref 133, Value.ref 134, Value.int 349 0, Value.int 67 0, Value.str (Str.ofString "/claim/cut.py") 350] }),
    (136, fob (inCls 16 1) (Str.ofString "state_of") (Str.ofString "Patterns.state_of") (Value.none) (Value.str (Str.ofString "gluepage.hyphen") 274) 135),
    (137, { cls := Value.type "tuple", data := Data.seq #[] }),
    (139, { cls := Value.type "tuple", data := Data.seq #[Value.str (Str.ofString "self") 355, Value.str (Str.ofString "letters") 356, Value.str (Str.ofString "digits") 357, Value.str (Str.ofString "row") 358, Value.str (Str.ofString "state") 359, Value.str (Str.ofString "letter") 360, Value.str (Str.ofString "spot") 361] }),
    (140, { cls := Value.type "tuple", data := Data.seq #[] }),
    (142, { cls := Value.type "code", data := Data.fields #[Value.str (Str.ofString "add") 352, Value.str (Str.ofString "Patterns.add") 353, Value.str (Str.ofString "/claim/cut.py") 354, Value.int 75 0, Value.int 3 0, Value.int 0 0, Value.int 0 0, Value.int 3 0, Value.ref 137, Value.bool true, Value.int 181 0, Value.ref 138, Value.none, Value.ref 139, Value.ref 140, Value.ref 141, Value.int 362 0, Value.int 75 0, Value.str (Str.ofString "/claim/cut.py") 363] }),
    (143, fob (inCls 16 2) (Str.ofString "add") (Str.ofString "Patterns.add") (Value.none) (Value.str (Str.ofString "gluepage.hyphen") 274) 142),
    (144, { cls := Value.type "tuple", data := Data.seq #[] }),
    (146, { cls := Value.type "tuple", data := Data.seq #[Value.str (Str.ofString "self") 368, Value.str (Str.ofString "text") 369] }),
    (147, { cls := Value.type "tuple", data := Data.seq #[] }),
    (149, { cls := Value.type "code", data := Data.fields #[Value.str (Str.ofString "add_text") 365, Value.str (Str.ofString "Patterns.add_text") 366, Value.str (Str.ofString "/claim/cut.py") 367, Value.int 93 0, Value.int 2 0, Value.int 0 0, Value.int 0 0, Value.int 3 0, Value.ref 144, Value.bool true, Value.int 181 0, Value.ref 145, Value.none, Value.ref 146, Value.ref 147, Value.ref 148, Value.int 370 0, Value.int 93 0, Value.str (Str.ofString "/claim/cut.py") 371] }),
    (150, fob (inCls 16 3) (Str.ofString "add_text") (Str.ofString "Patterns.add_text") (Value.none) (Value.str (Str.ofString "gluepage.hyphen") 274) 149),
    (151, { cls := Value.type "tuple", data := Data.seq #[] }),
    (154, { cls := Value.type "code", data := Data.fields #[Value.str (Str.ofString "add_exception") 373, Value.str (Str.ofString "Patterns.add_exception") 374, Value.str (Str.ofString "/claim/cut.py") 375, Value.int 96 0, Value.int 3 0, Value.int 0 0, Value.int 0 0, Value.int 3 0, Value.ref 151, Value.bool true, Value.int 181 0, Value.ref 152, Value.none, Value.none, Value.none, Value.ref 153, Value.int 376 0, Value.int 96 0, Value.str (Str.ofString "/claim/cut.py") 377] }),
    (155, fob (inCls 16 4) (Str.ofString "add_exception") (Str.ofString "Patterns.add_exception") (Value.none) (Value.str (Str.ofString "gluepage.hyphen") 274) 154),
    (156, { cls := Value.type "tuple", data := Data.seq #[] }),
    (158, { cls := Value.type "tuple", data := Data.seq #[Value.str (Str.ofString "self") 382, Value.str (Str.ofString "text") 383] }),
    (159, { cls := Value.type "tuple", data := Data.seq #[] }),
    (161, { cls := Value.type "code", data := Data.fields #[Value.str (Str.ofString "add_word") 379, Value.str (Str.ofString "Patterns.add_word") 380, Value.str (Str.ofString "/claim/cut.py") 381, Value.int 106 0, Value.int 2 0, Value.int 0 0, Value.int 0 0, Value.int 3 0, Value.ref 156, Value.bool true, Value.int 181 0, Value.ref 157, Value.none, Value.ref 158, Value.ref 159, Value.ref 160, Value.int 384 0, Value.int 106 0, Value.str (Str.ofString "/claim/cut.py") 385] }),
    (162, fob (inCls 16 5) (Str.ofString "add_word") (Str.ofString "Patterns.add_word") (Value.none) (Value.str (Str.ofString "gluepage.hyphen") 274) 161),
    (163, { cls := Value.type "tuple", data := Data.seq #[] }),
    (165, { cls := Value.type "tuple", data := Data.seq #[Value.str (Str.ofString "self") 390, Value.str (Str.ofString "letters") 391, Value.str (Str.ofString "marks") 392, Value.str (Str.ofString "found") 393, Value.str (Str.ofString "begin") 394, Value.str (Str.ofString "state") 395, Value.str (Str.ofString "letter") 396, Value.str (Str.ofString "spot") 397, Value.str (Str.ofString "digit") 398] }),
    (166, { cls := Value.type "tuple", data := Data.seq #[] }),
    (168, { cls := Value.type "code", data := Data.fields #[Value.str (Str.ofString "gap_numbers") 387, Value.str (Str.ofString "Patterns.gap_numbers") 388, Value.str (Str.ofString "/claim/cut.py") 389, Value.int 109 0, Value.int 2 0, Value.int 0 0, Value.int 0 0, Value.int 3 0, Value.ref 163, Value.bool true, Value.int 181 0, Value.ref 164, Value.none, Value.ref 165, Value.ref 166, Value.ref 167, Value.int 399 0, Value.int 109 0, Value.str (Str.ofString "/claim/cut.py") 400] }),
    (169, fob (inCls 16 6) (Str.ofString "gap_numbers") (Str.ofString "Patterns.gap_numbers") (Value.none) (Value.str (Str.ofString "gluepage.hyphen") 274) 168),
    (170, { cls := Value.type "tuple", data := Data.seq #[Value.int 2 402, Value.int 3 403] }),
    (171, { cls := Value.type "tuple", data := Data.seq #[] }),
    (174, { cls := Value.type "code", data := Data.fields #[Value.str (Str.ofString "points") 404, Value.str (Str.ofString "Patterns.points") 405, Value.str (Str.ofString "/claim/cut.py") 406, Value.int 124 0, Value.int 4 0, Value.int 0 0, Value.int 0 0, Value.int 3 0, Value.ref 171, Value.bool true, Value.int 181 0, Value.ref 172, Value.none, Value.none, Value.none, Value.ref 173, Value.int 407 0, Value.int 124 0, Value.str (Str.ofString "/claim/cut.py") 408] }),
    (175, fob (inCls 16 7) (Str.ofString "points") (Str.ofString "Patterns.points") (Value.ref 170) (Value.str (Str.ofString "gluepage.hyphen") 274) 174),
    (176, { cls := Value.type "tuple", data := Data.seq #[Value.str (Str.ofString "exceptions") 410, Value.str (Str.ofString "links") 411, Value.str (Str.ofString "numbers") 412, Value.str (Str.ofString "states") 413] }),
    (177, { cls := Value.type "dict", data := Data.dict #[{ hash := PyData.keyHash P (Str.ofString "__module__"), key := Value.str (Str.ofString "__module__") 330, val := Value.str (Str.ofString "gluepage.hyphen") 274 }, { hash := PyData.keyHash P (Str.ofString "__firstlineno__"), key := Value.str (Str.ofString "__firstlineno__") 334, val := Value.int 59 333 }, { hash := PyData.keyHash P (Str.ofString "__init__"), key := Value.str (Str.ofString "__init__") 341, val := Value.ref 129 }, { hash := PyData.keyHash P (Str.ofString "state_of"), key := Value.str (Str.ofString "state_of") 351, val := Value.ref 136 }, { hash := PyData.keyHash P (Str.ofString "add"), key := Value.str (Str.ofString "add") 364, val := Value.ref 143 }, { hash := PyData.keyHash P (Str.ofString "add_text"), key := Value.str (Str.ofString "add_text") 372, val := Value.ref 150 }, { hash := PyData.keyHash P (Str.ofString "add_exception"), key := Value.str (Str.ofString "add_exception") 378, val := Value.ref 155 }, { hash := PyData.keyHash P (Str.ofString "add_word"), key := Value.str (Str.ofString "add_word") 386, val := Value.ref 162 }, { hash := PyData.keyHash P (Str.ofString "gap_numbers"), key := Value.str (Str.ofString "gap_numbers") 401, val := Value.ref 169 }, { hash := PyData.keyHash P (Str.ofString "points"), key := Value.str (Str.ofString "points") 409, val := Value.ref 175 }, { hash := PyData.keyHash P (Str.ofString "__static_attributes__"), key := Value.str (Str.ofString "__static_attributes__") 414, val := Value.ref 176 }, { hash := PyData.keyHash P (Str.ofString "__dict__"), key := Value.str (Str.ofString "__dict__") 416, val := Value.ref 179 }, { hash := PyData.keyHash P (Str.ofString "__weakref__"), key := Value.str (Str.ofString "__weakref__") 418, val := Value.ref 180 }, { hash := PyData.keyHash P (Str.ofString "__doc__"), key := Value.str (Str.ofString "__doc__") 419, val := Value.none }] 4 }),
    (178, { cls := Value.type "type", data := Data.cls { name := Str.ofString "Patterns", bases := [Value.type "object"], mro := [Value.ref 178, Value.type "object"], ns := 177, qualname := Str.ofString "Patterns" }, slots := #[none, none, some (Value.str (Str.ofString "Patterns") 323), some (Value.str (Str.ofString "Patterns") 331), some (Value.builtin "object.__new__"), some (Value.bool true)] }),
    (179, { cls := Value.type "getset_descriptor", data := Data.fields #[Value.str (Str.ofString "__dict__") 415, Value.ref 178, Value.builtin "function.__dict__", Value.builtin "function.__dict__#set"] }),
    (180, { cls := Value.type "getset_descriptor", data := Data.fields #[Value.str (Str.ofString "__weakref__") 417, Value.ref 178, Value.builtin "ExceptionGroup.__weakref__", Value.none] }),
    (183, { cls := Value.type "tuple", data := Data.seq #[] }),
    (185, { cls := Value.type "tuple", data := Data.seq #[Value.str (Str.ofString "cell") 427, Value.str (Str.ofString "more") 428] }),
    (186, { cls := Value.type "tuple", data := Data.seq #[] }),
    (188, { cls := Value.type "code", data := Data.fields #[Value.str (Str.ofString "_law_box") 424, Value.str (Str.ofString "_law_box") 425, Value.str (Str.ofString "/claim/cut.py") 426, Value.int 135 0, Value.int 2 0, Value.int 0 0, Value.int 0 0, Value.int 3 0, Value.ref 183, Value.bool true, Value.int 181 0, Value.ref 184, Value.none, Value.ref 185, Value.ref 186, Value.ref 187, Value.int 429 0, Value.int 135 0, Value.str (Str.ofString "/claim/cut.py") 430] }),
    (189, fob (topSt 18) (Str.ofString "_law_box") (Str.ofString "_law_box") (Value.none) (Value.str (Str.ofString "law_sq0030_02") 422) 188),
    (190, { cls := Value.type "tuple", data := Data.seq #[] }),
    (192, { cls := Value.type "tuple", data := Data.seq #[Value.str (Str.ofString "box") 435, Value.str (Str.ofString "many") 436, Value.str (Str.ofString "digit") 437] }),
    (193, { cls := Value.type "tuple", data := Data.seq #[] }),
    (195, { cls := Value.type "code", data := Data.fields #[Value.str (Str.ofString "_law_take") 432, Value.str (Str.ofString "_law_take") 433, Value.str (Str.ofString "/claim/cut.py") 434, Value.int 137 0, Value.int 2 0, Value.int 0 0, Value.int 0 0, Value.int 3 0, Value.ref 190, Value.bool true, Value.int 181 0, Value.ref 191, Value.none, Value.ref 192, Value.ref 193, Value.ref 194, Value.int 438 0, Value.int 137 0, Value.str (Str.ofString "/claim/cut.py") 439] }),
    (196, fob (topSt 19) (Str.ofString "_law_take") (Str.ofString "_law_take") (Value.none) (Value.str (Str.ofString "law_sq0030_02") 422) 195),
    (197, { cls := Value.type "tuple", data := Data.seq #[] }),
    (200, { cls := Value.type "code", data := Data.fields #[Value.str (Str.ofString "_law_forms") 441, Value.str (Str.ofString "_law_forms") 442, Value.str (Str.ofString "/claim/cut.py") 443, Value.int 144 0, Value.int 2 0, Value.int 0 0, Value.int 0 0, Value.int 3 0, Value.ref 197, Value.bool true, Value.int 181 0, Value.ref 198, Value.none, Value.none, Value.none, Value.ref 199, Value.int 444 0, Value.int 144 0, Value.str (Str.ofString "/claim/cut.py") 445] }),
    (201, fob (topSt 20) (Str.ofString "_law_forms") (Str.ofString "_law_forms") (Value.none) (Value.str (Str.ofString "law_sq0030_02") 422) 200),
    (202, { cls := Value.type "tuple", data := Data.seq #[] }),
    (204, { cls := Value.type "tuple", data := Data.seq #[Value.str (Str.ofString "forms") 450, Value.str (Str.ofString "word") 451, Value.str (Str.ofString "stands") 452, Value.str (Str.ofString "table") 453, Value.str (Str.ofString "letters") 454, Value.str (Str.ofString "numbers") 455] }),
    (205, { cls := Value.type "tuple", data := Data.seq #[] }),
    (207, { cls := Value.type "code", data := Data.fields #[Value.str (Str.ofString "_law_table") 447, Value.str (Str.ofString "_law_table") 448, Value.str (Str.ofString "/claim/cut.py") 449, Value.int 154 0, Value.int 3 0, Value.int 0 0, Value.int 0 0, Value.int 3 0, Value.ref 202, Value.bool true, Value.int 181 0, Value.ref 203, Value.none, Value.ref 204, Value.ref 205, Value.ref 206, Value.int 456 0, Value.int 154 0, Value.str (Str.ofString "/claim/cut.py") 457] }),
    (208, fob (topSt 21) (Str.ofString "_law_table") (Str.ofString "_law_table") (Value.none) (Value.str (Str.ofString "law_sq0030_02") 422) 207),
    (209, { cls := Value.type "tuple", data := Data.seq #[] }),
    (211, { cls := Value.type "tuple", data := Data.seq #[Value.str (Str.ofString "box") 462, Value.str (Str.ofString "rows") 463, Value.str (Str.ofString "rest") 464, Value.str (Str.ofString "found") 465] }),
    (212, { cls := Value.type "tuple", data := Data.seq #[] }),
    (214, { cls := Value.type "code", data := Data.fields #[Value.str (Str.ofString "_law_mixed") 459, Value.str (Str.ofString "_law_mixed") 460, Value.str (Str.ofString "/claim/cut.py") 461, Value.int 161 0, Value.int 2 0, Value.int 0 0, Value.int 0 0, Value.int 3 0, Value.ref 209, Value.bool true, Value.int 181 0, Value.ref 210, Value.none, Value.ref 211, Value.ref 212, Value.ref 213, Value.int 466 0, Value.int 161 0, Value.str (Str.ofString "/claim/cut.py") 467] }),
    (215, fob (topSt 22) (Str.ofString "_law_mixed") (Str.ofString "_law_mixed") (Value.none) (Value.str (Str.ofString "law_sq0030_02") 422) 214),
    (216, { cls := Value.type "tuple", data := Data.seq #[] }),
    (219, { cls := Value.type "code", data := Data.fields #[Value.str (Str.ofString "_law_other") 469, Value.str (Str.ofString "_law_other") 470, Value.str (Str.ofString "/claim/cut.py") 471, Value.int 166 0, Value.int 2 0, Value.int 0 0, Value.int 0 0, Value.int 3 0, Value.ref 216, Value.bool true, Value.int 181 0, Value.ref 217, Value.none, Value.none, Value.none, Value.ref 218, Value.int 472 0, Value.int 166 0, Value.str (Str.ofString "/claim/cut.py") 473] }),
    (220, fob (topSt 23) (Str.ofString "_law_other") (Str.ofString "_law_other") (Value.none) (Value.str (Str.ofString "law_sq0030_02") 422) 219),
    (221, { cls := Value.type "tuple", data := Data.seq #[] }),
    (224, { cls := Value.type "code", data := Data.fields #[Value.str (Str.ofString "_law_word") 475, Value.str (Str.ofString "_law_word") 476, Value.str (Str.ofString "/claim/cut.py") 477, Value.int 168 0, Value.int 2 0, Value.int 0 0, Value.int 0 0, Value.int 3 0, Value.ref 221, Value.bool true, Value.int 181 0, Value.ref 222, Value.none, Value.none, Value.none, Value.ref 223, Value.int 478 0, Value.int 168 0, Value.str (Str.ofString "/claim/cut.py") 479] }),
    (225, fob (topSt 24) (Str.ofString "_law_word") (Str.ofString "_law_word") (Value.none) (Value.str (Str.ofString "law_sq0030_02") 422) 224),
    (226, { cls := Value.type "tuple", data := Data.seq #[] }),
    (229, { cls := Value.type "code", data := Data.fields #[Value.str (Str.ofString "_law_round") 481, Value.str (Str.ofString "_law_round") 482, Value.str (Str.ofString "/claim/cut.py") 483, Value.int 173 0, Value.int 2 0, Value.int 0 0, Value.int 0 0, Value.int 3 0, Value.ref 226, Value.bool true, Value.int 181 0, Value.ref 227, Value.none, Value.none, Value.none, Value.ref 228, Value.int 484 0, Value.int 173 0, Value.str (Str.ofString "/claim/cut.py") 485] }),
    (230, fob (topSt 25) (Str.ofString "_law_round") (Str.ofString "_law_round") (Value.none) (Value.str (Str.ofString "law_sq0030_02") 422) 229),
    (231, { cls := Value.type "tuple", data := Data.seq #[] }),
    (233, { cls := Value.type "tuple", data := Data.seq #[Value.str (Str.ofString "script") 490, Value.str (Str.ofString "cells") 491, Value.str (Str.ofString "k") 492] }),
    (234, { cls := Value.type "tuple", data := Data.seq #[] }),
    (236, { cls := Value.type "code", data := Data.fields #[Value.str (Str.ofString "law") 487, Value.str (Str.ofString "law") 488, Value.str (Str.ofString "/claim/cut.py") 489, Value.int 208 0, Value.int 1 0, Value.int 0 0, Value.int 0 0, Value.int 3 0, Value.ref 231, Value.bool true, Value.int 181 0, Value.ref 232, Value.none, Value.ref 233, Value.ref 234, Value.ref 235, Value.int 493 0, Value.int 208 0, Value.str (Str.ofString "/claim/cut.py") 494] }),
    (237, fob (topSt 26) (Str.ofString "law") (Str.ofString "law") (Value.none) (Value.str (Str.ofString "law_sq0030_02") 422) 236)]
noncomputable def hookK : Hook := kHook heapK [2, 3, 15, 17, 18, 20, 21, 22, 29, 30, 32, 33, 35, 36, 37, 38, 39, 40, 43, 50, 51, 52, 55, 62, 63, 64, 67, 69, 70, 72, 73, 74, 76, 77, 79, 80, 81, 83, 84, 86, 87, 88, 90, 91, 93, 94, 95, 97, 98, 100, 101, 102, 104, 105, 107, 108, 109, 111, 112, 114, 115, 123, 125, 126, 128, 129, 130, 132, 133, 135, 136, 137, 139, 140, 142, 143, 144, 146, 147, 149, 150, 151, 154, 155, 156, 158, 159, 161, 162, 163, 165, 166, 168, 169, 170, 171, 174, 175, 176, 177, 178, 179, 180, 183, 185, 186, 188, 189, 190, 192, 193, 195, 196, 197, 200, 201, 202, 204, 205, 207, 208, 209, 211, 212, 214, 215, 216, 219, 220, 221, 224, 225, 226, 229, 230, 231, 233, 234, 236, 237] (fun _ => by kernel_rfl)

/-- letters between edges -/
def edges (a : Bool) : List Int := if a then [0] else []
structure PatL (ls w : List Int) (a b : Bool) : Prop where
  eq : ls = edges a ++ w ++ edges b
  ne : w ≠ []
  ok : ∀ l ∈ w, 1 ≤ l ∧ l ≤ 255
theorem edges_len (a : Bool) : (edges a).length = if a then 1 else 0 := by cases a <;> rfl
theorem PatL.len {ls w : List Int} {a b : Bool} (h : PatL ls w a b) : ls.length = (if a then 1 else 0) + w.length + (if b then 1 else 0) := by
  rw [h.eq]; simp [edges_len]; omega
theorem PatL.pos {ls w : List Int} {a b : Bool} (h : PatL ls w a b) : 0 < w.length := List.length_pos_iff.mpr h.ne
theorem PatL.first {ls w : List Int} {a b : Bool} (h : PatL ls w a b) : ∃ l, ls[0]? = some l ∧ (l == 0) = a := by
  obtain ⟨e, hne, ok⟩ := h
  cases a with
  | true => exact ⟨0, by rw [e]; rfl, rfl⟩
  | false =>
    cases w with
    | nil => exact absurd rfl hne
    | cons x r => exact ⟨x, by rw [e]; rfl, by have := (ok x List.mem_cons_self).1; simp; omega⟩
theorem PatL.last {ls w : List Int} {a b : Bool} (h : PatL ls w a b) : ∃ l, ls[ls.length - 1]? = some l ∧ (l == 0) = b := by
  obtain ⟨e, hne, ok⟩ := h
  cases b with
  | true => exact ⟨0, by rw [e]; simp [edges], rfl⟩
  | false =>
    obtain ⟨r, x, rfl⟩ : ∃ r x, w = r ++ [x] := ⟨w.dropLast, w.getLast hne, (List.dropLast_concat_getLast hne).symm⟩
    refine ⟨x, by rw [e]; simp [edges, ← List.append_assoc], by have := (ok x (by simp)).1; simp; omega⟩
theorem PatL.inner {ls w : List Int} {a b : Bool} (h : PatL ls w a b) : (ls.take (ls.length - if b then 1 else 0)).drop (if a then 1 else 0) = w := by
  obtain ⟨e, hne, ok⟩ := h
  rw [e]
  cases a <;> cases b <;> simp [edges]

structure PatOk (ls w ds : List Int) (a b : Bool) : Prop where
  l : PatL ls w a b
  sz : ls.length ≤ 63
  n : ds.length = ls.length + 1
  d : ∀ x ∈ ds, 0 ≤ x ∧ x ≤ 9

def keyOf (ls : List Int) : Int := ls.foldl (fun a l => 256 * a + l) 0

/-- the state after these letters -/
def goSt (T : Tab) : Int → List Int → Int
  | st, [] => st
  | st, l :: r => let s := (T.links (256 * st + l)).getD (-1); if s < 0 then -1 else goSt T s r
def stateOf (T : Tab) (ls : List Int) : Int := goSt T 0 ls

/-! a pattern goes in -/
def insT (T : Tab) : Int → List Int → Tab × Int
  | st, [] => (T, st)
  | st, l :: r =>
    let spot := 256 * st + l
    let T1 := if (T.links spot).isSome then T else (T.setL spot T.states).setS (T.states + 1)
    insT T1 ((T1.links spot).getD 0) r
termination_by structural _ r => r
def zeroAt (c : Bool) (k : Nat) (ds : List Int) : List Int := if c then ds.set k 0 else ds
def rowOf (a b : Bool) (ds : List Int) : List Int := zeroAt b (ds.length - 1) (zeroAt a 0 ds)
def addT (T : Tab) (ls ds : List Int) (a b : Bool) : Tab := (insT T 0 ls).1.setN (insT T 0 ls).2 (rowOf a b ds)
theorem zeroAt_len (c : Bool) (k : Nat) (ds : List Int) : (zeroAt c k ds).length = ds.length := by unfold zeroAt; split <;> simp
theorem insT_nl : ∀ (ls : List Int) (T : Tab) (st : Int), (insT T st ls).1.nn = T.nn
  | [], T, st => rfl
  | l :: r, T, st => by
    simp only [insT]
    rw [insT_nl r]
    split <;> rfl

def excOf (n : Nat) (ps : List Int) : List Int := ((List.range (n + 1)).map fun i : Nat => (i : Int)).filter fun p => decide (p ∈ ps)

/-! the gap numbers -/
def putD (found : List Int) (spot : Nat) : List Int → List Int
  | [] => found
  | d :: r => putD (found.set spot (max (found.getD spot 0) d)) (spot + 1) r
def goG (T : Tab) (b : Nat) : Int → List Int → List Int → List Int
  | _, found, [] => found
  | st, found, l :: r =>
    let s := (T.links (256 * st + l)).getD (-1)
    if s < 0 then found else goG T b s (putD found b ((T.numbers s).getD [])) r
def gapFrom (T : Tab) (marks : List Int) : List Nat → List Int → List Int
  | [], found => found
  | b :: r, found => gapFrom T marks r (goG T b 0 found (marks.drop b))
def marksOf (ls : List Int) : List Int := 0 :: ls ++ [0]
def gapNums (T : Tab) (ls : List Int) : List Int := ((gapFrom T (marksOf ls) (List.range (ls.length + 2)) (List.replicate (ls.length + 3) 0)).take (ls.length + 2)).drop 1
theorem putD_len : ∀ (ds found : List Int) (k : Nat), (putD found k ds).length = found.length
  | [], _, _ => rfl
  | d :: r, found, k => by simp [putD, putD_len r]
theorem goG_len (T : Tab) (b : Nat) : ∀ (ls : List Int) (st : Int) (found : List Int), (goG T b st found ls).length = found.length
  | [], _, _ => rfl
  | l :: r, st, found => by
    simp only [goG]
    split
    · rfl
    · rw [goG_len T b r, putD_len]
/-- a row of a state is as long as the way there, and one -/
def TabRows (T : Tab) : Prop := ∀ p : List Int, (∀ l ∈ p, 0 ≤ l ∧ l < 256) → 0 ≤ stateOf T p → ∀ row, T.numbers (stateOf T p) = some row → row.length ≤ p.length + 1
theorem goSt_app (T : Tab) : ∀ (ls : List Int) (st : Int) (r : List Int), 0 ≤ goSt T st ls → goSt T st (ls ++ r) = goSt T (goSt T st ls) r
  | [], st, r, h => rfl
  | k :: ls, st, r, h => by
    by_cases hs : (T.links (256 * st + k)).getD (-1) < 0
    · simp only [goSt] at h
      rw [if_pos hs] at h; omega
    · have e : ∀ q, goSt T st (k :: q) = goSt T ((T.links (256 * st + k)).getD (-1)) q := fun q => by
        simp only [goSt]; rw [if_neg hs]
      rw [List.cons_append, e, e]
      rw [e] at h
      exact goSt_app T ls _ r h

/-- the points -/
def leastP (v : Int) : Int := max 1 (min 63 v)
def between (first last : Int) (k : Int) : Bool := decide (first ≤ k ∧ k ≤ last)
def pointsT (T : Tab) (ls : List Int) (left right : Int) : List Int :=
  match T.excs (keyOf (ls.take 63)) with
  | some ks => ks.filter (between (leastP left) ((ls.take 63).length - leastP right))
  | none => ((List.range ((ls.take 63).length - leastP right + 1 - leastP left).toNat).map fun i : Nat => leastP left + (i : Int)).filter fun p => (gapNums T (ls.take 63)).getD p.toNat 0 % 2 == 1

/-- a pattern's text, read -/
def readP : List Nat → List Int → List Int → Bool → Option (List Int × List Int)
  | [], ls, ds, _ => some (ls, ds)
  | c :: r, ls, ds, b =>
    if 48 ≤ c ∧ c ≤ 57 then (if b then none else readP r ls (ds.set (ds.length - 1) ((c : Int) - 48)) true)
    else if c = 0 then none else readP r (ls ++ [if c = 46 then 0 else (c : Int)]) (ds ++ [0]) false
/-- an exception's text, read -/
def readE : List Nat → List Int → List Int → List Int × List Int
  | [], ls, ps => (ls, ps)
  | c :: r, ls, ps => if c = 45 then readE r ls (ps ++ [(ls.length : Int)]) else readE r (ls ++ [(c : Int)]) ps
theorem del_upd {o : Objs} {n : Nat} {x : SO} (h : o n = none) : del (upd o n x) n = o := by
  funext m; unfold del upd; split
  · rename_i e; rw [e, h]
  · rfl
/-! the trie -/
def Lets (p : List Int) : Prop := ∀ l ∈ p, 0 ≤ l ∧ l < 256
def goO (T : Tab) : Int → List Int → Option Int
  | st, [] => some st
  | st, l :: r => (T.links (256 * st + l)).bind fun s => goO T s r
def numAt (T : Tab) (p : List Int) : Option (List Int) := (goO T 0 p).bind T.numbers
structure Wf (T : Tab) : Prop where
  pos : 1 ≤ T.states
  link : ∀ k s, T.links k = some s → ∃ st l, k = 256 * st + l ∧ 0 ≤ st ∧ 0 ≤ l ∧ l < 256 ∧ st < s ∧ s < T.states
  inj : ∀ k k' s, T.links k = some s → T.links k' = some s → k = k'
  num : ∀ s r, T.numbers s = some r → 0 ≤ s ∧ s < T.states
theorem Wf.empty : Wf Tab.empty := ⟨by decide, fun k s e => (by cases e), fun k k' s e => (by cases e), fun s r e => (by cases e)⟩
theorem goO_app (T : Tab) : ∀ (p : List Int) (st : Int) (q : List Int), goO T st (p ++ q) = (goO T st p).bind fun s => goO T s q
  | [], st, q => rfl
  | l :: p, st, q => by
    simp only [List.cons_append, goO]
    cases T.links (256 * st + l) with
    | none => rfl
    | some s => exact goO_app T p s q
theorem goO_snoc (T : Tab) (p : List Int) (l : Int) : goO T 0 (p ++ [l]) = (goO T 0 p).bind fun s => T.links (256 * s + l) := by
  rw [goO_app]
  congr 1; funext s
  simp only [goO]
  cases T.links (256 * s + l) <;> rfl
theorem goSt_goO {T : Tab} (W : Wf T) : ∀ (p : List Int) (st : Int), 0 ≤ st → goSt T st p = (goO T st p).getD (-1)
  | [], st, h => rfl
  | l :: p, st, h => by
    simp only [goSt, goO]
    cases e : T.links (256 * st + l) with
    | none => rfl
    | some s =>
      obtain ⟨a, b, _, h1, _, _, h2, _⟩ := W.link _ _ e
      simp only [Option.getD_some, Option.bind_some]
      rw [if_neg (by omega)]
      exact goSt_goO W p s (by omega)
theorem goO_nonneg {T : Tab} (W : Wf T) : ∀ (p : List Int) (st s : Int), 0 ≤ st → goO T st p = some s → 0 ≤ s
  | [], st, s, h, e => by simp only [goO, Option.some.injEq] at e; omega
  | l :: p, st, s, h, e => by
    simp only [goO] at e
    cases e1 : T.links (256 * st + l) with
    | none => rw [e1] at e; cases e
    | some s1 =>
      rw [e1] at e
      obtain ⟨a, b, _, h1, _, _, h2, _⟩ := W.link _ _ e1
      exact goO_nonneg W p s1 s (by omega) e
theorem numAt_st {T : Tab} (W : Wf T) (p : List Int) : T.numbers (stateOf T p) = numAt T p := by
  unfold stateOf numAt
  rw [goSt_goO W p 0 (Int.le_refl _)]
  cases e : goO T 0 p with
  | some s => rfl
  | none =>
    simp only [Option.getD_none, Option.bind_none]
    cases e2 : T.numbers (-1) with
    | none => rfl
    | some r => have := W.num _ _ e2; omega
theorem snoc_of {p : List Int} (h : p ≠ []) : ∃ r x, p = r ++ [x] := ⟨p.dropLast, p.getLast h, (List.dropLast_concat_getLast h).symm⟩
theorem Lets.snoc {p : List Int} {l : Int} (h : Lets (p ++ [l])) : Lets p ∧ 0 ≤ l ∧ l < 256 :=
  ⟨fun x hx => h x (List.mem_append_left _ hx), h l (by simp)⟩
theorem goO_last {T : Tab} (W : Wf T) {p : List Int} {l s : Int} (e : goO T 0 (p ++ [l]) = some s) : ∃ a, goO T 0 p = some a ∧ T.links (256 * a + l) = some s ∧ 0 ≤ a ∧ 0 < s := by
  rw [goO_snoc] at e
  cases e1 : goO T 0 p with
  | none => rw [e1] at e; cases e
  | some a =>
    rw [e1] at e
    have := goO_nonneg W p 0 a (Int.le_refl _) e1
    obtain ⟨st, l', _, h1, _, _, h2, _⟩ := W.link _ _ e
    exact ⟨a, rfl, e, this, by omega⟩
theorem goO_inj {T : Tab} (W : Wf T) : ∀ (n : Nat) (p q : List Int) (s : Int), p.length = n → Lets p → Lets q → goO T 0 p = some s → goO T 0 q = some s → p = q
  | 0, p, q, s, hn, hp, hq, e1, e2 => by
    have : p = [] := List.eq_nil_of_length_eq_zero hn
    subst this
    by_cases hq0 : q = []
    · exact hq0.symm
    · obtain ⟨r, x, rfl⟩ := snoc_of hq0
      obtain ⟨a, _, _, _, h⟩ := goO_last W e2
      simp only [goO, Option.some.injEq] at e1
      omega
  | n + 1, p, q, s, hn, hp, hq, e1, e2 => by
    have hp0 : p ≠ [] := fun e => by subst e; simp at hn
    obtain ⟨r, x, rfl⟩ := snoc_of hp0
    obtain ⟨a, ha, hl, h0, hs⟩ := goO_last W e1
    have hq0 : q ≠ [] := fun e => by subst e; simp only [goO, Option.some.injEq] at e2; omega
    obtain ⟨r', x', rfl⟩ := snoc_of hq0
    obtain ⟨a', ha', hl', h0', hs'⟩ := goO_last W e2
    have hk := W.inj _ _ _ hl hl'
    obtain ⟨hr, hx⟩ := hp.snoc
    obtain ⟨hr', hx'⟩ := hq.snoc
    have ex : x = x' := by omega
    have ea : a = a' := by omega
    subst ex; subst ea
    rw [goO_inj W n r r' a (by simpa using hn) hr hr' ha ha']

structure Ins (T : Tab) (st : Int) (r : List Int) (R : Tab × Int) : Prop where
  wf : Wf R.1
  ext : ∀ k s, T.links k = some s → R.1.links k = some s
  new : ∀ k s, R.1.links k = some s → T.links k = some s ∨ T.states ≤ s
  num : R.1.numbers = T.numbers
  exc : R.1.excs = T.excs
  nn : R.1.nn = T.nn
  ne : R.1.ne = T.ne
  nl : R.1.nl ≤ T.nl + r.length
  stl : T.states ≤ R.1.states
  go : goO R.1 st r = some R.2
  lo : 0 ≤ R.2
  hi : R.2 < R.1.states
theorem goO_ext {T R : Tab} (h : ∀ k s, T.links k = some s → R.links k = some s) : ∀ (p : List Int) (st s : Int), goO T st p = some s → goO R st p = some s
  | [], st, s, e => e
  | l :: p, st, s, e => by
    simp only [goO] at e ⊢
    cases e1 : T.links (256 * st + l) with
    | none => rw [e1] at e; cases e
    | some a => rw [e1] at e; rw [h _ _ e1]; exact goO_ext h p a s e
theorem insT_ins : ∀ (r : List Int) (T : Tab) (st : Int), Wf T → 0 ≤ st → st < T.states → Lets r → Ins T st r (insT T st r)
  | [], T, st, W, h0, h1, hr => ⟨W, fun k s e => e, fun k s e => .inl e, rfl, rfl, rfl, rfl, Nat.le_refl _, Int.le_refl _, rfl, h0, h1⟩
  | l :: r, T, st, W, h0, h1, hr => by
    have hl := hr l List.mem_cons_self
    have hr' : Lets r := fun x hx => hr x (List.mem_cons_of_mem _ hx)
    cases e : T.links (256 * st + l) with
    | some s =>
      obtain ⟨a, b, _, g1, _, _, g2, g3⟩ := W.link _ _ e
      have I := insT_ins r T s W (by omega) g3 hr'
      have eI : insT T st (l :: r) = insT T s r := by simp only [insT, e, Option.isSome_some, if_true, Option.getD_some]
      rw [eI]
      exact ⟨I.wf, I.ext, I.new, I.num, I.exc, I.nn, I.ne, by have := I.nl; simp only [List.length_cons]; omega, I.stl, by simp only [goO, I.ext _ _ e, Option.bind_some]; exact I.go, I.lo, I.hi⟩
    | none =>
      let T1 : Tab := (T.setL (256 * st + l) T.states).setS (T.states + 1)
      have eI : insT T st (l :: r) = insT T1 T.states r := by
        simp only [insT, e, Option.isSome_none, Bool.false_eq_true, if_false]
        congr 1
        show (setF T.links (256 * st + l) T.states (256 * st + l)).getD 0 = _
        simp [setF]
      have hL : ∀ k, T1.links k = if k = 256 * st + l then some T.states else T.links k := fun k => rfl
      have hpos := W.pos
      have W1 : Wf T1 := by
        refine ⟨show 1 ≤ T.states + 1 by omega, fun k s e => ?_, fun k k' s e e' => ?_, fun s r e => ?_⟩
        · rw [hL] at e
          split at e
          · rename_i hk; cases e; exact ⟨st, l, hk, h0, hl.1, hl.2, h1, show T.states < T.states + 1 by omega⟩
          · obtain ⟨a, b, q1, q2, q3, q4, q5, q6⟩ := W.link _ _ e
            exact ⟨a, b, q1, q2, q3, q4, q5, show s < T.states + 1 by omega⟩
        · rw [hL] at e e'
          split at e <;> split at e'
          · rename_i a b; rw [a, b]
          · cases e; obtain ⟨_, _, _, _, _, _, _, q⟩ := W.link _ _ e'; omega
          · cases e'; obtain ⟨_, _, _, _, _, _, _, q⟩ := W.link _ _ e; omega
          · exact W.inj _ _ _ e e'
        · have := W.num s r e
          exact ⟨this.1, show s < T.states + 1 by omega⟩
      have I := insT_ins r T1 T.states W1 (by omega) (show T.states < T.states + 1 by omega) hr'
      have x1 : ∀ k s, T.links k = some s → T1.links k = some s := fun k s e' => by
        rw [hL]; split
        · rename_i hk; rw [hk, e] at e'; cases e'
        · exact e'
      rw [eI]
      refine ⟨I.wf, fun k s e' => I.ext _ _ (x1 _ _ e'), fun k s e' => ?_, I.num, I.exc, I.nn, I.ne, ?_, ?_, ?_, I.lo, I.hi⟩
      · rcases I.new _ _ e' with q | q
        · rw [hL] at q
          split at q
          · cases q; exact .inr (Int.le_refl _)
          · exact .inl q
        · exact .inr (by have : T1.states = T.states + 1 := rfl; omega)
      · have := I.nl
        have e2 : T1.nl = T.nl + 1 := rfl
        simp only [List.length_cons]; omega
      · have := I.stl; have : T1.states = T.states + 1 := rfl; omega
      · simp only [goO]
        rw [I.ext (256 * st + l) T.states (by rw [hL, if_pos rfl]), Option.bind_some]
        exact I.go
theorem Ins.goes {T : Tab} {st : Int} {r : List Int} {R : Tab × Int} (W : Wf T) (I : Ins T st r R) : ∀ (n : Nat) (p : List Int) (s : Int), p.length = n → Lets p → goO R.1 0 p = some s → goO T 0 p = some s ∨ T.states ≤ s
  | 0, p, s, hn, hp, e => by
    have : p = [] := List.eq_nil_of_length_eq_zero hn
    subst this; exact .inl e
  | n + 1, p, s, hn, hp, e => by
    have hp0 : p ≠ [] := fun e => by subst e; simp at hn
    obtain ⟨q, x, rfl⟩ := snoc_of hp0
    obtain ⟨hq, hx⟩ := hp.snoc
    obtain ⟨a, ha, hl, h0, hs⟩ := goO_last I.wf e
    rcases I.new _ _ hl with k | k
    · obtain ⟨st, l, q1, q2, q3, q4, q5, q6⟩ := W.link _ _ k
      have ea : a = st := by omega
      rcases I.goes W n q a (by simpa using hn) hq ha with k2 | k2
      · left; rw [goO_snoc, k2]; exact k
      · omega
    · exact .inr k
theorem addT_wf {T : Tab} (W : Wf T) {ls ds : List Int} {a b : Bool} (hl : Lets ls) : Wf (addT T ls ds a b) := by
  have I := insT_ins ls T 0 W (Int.le_refl _) (by have := W.pos; omega) hl
  refine ⟨I.wf.pos, I.wf.link, I.wf.inj, fun s r e => ?_⟩
  have e' : (if s = (insT T 0 ls).2 then some (rowOf a b ds) else (insT T 0 ls).1.numbers s) = some r := e
  split at e'
  · rename_i hs; rw [hs]; exact ⟨I.lo, I.hi⟩
  · exact I.wf.num s r e'
theorem addT_at {T : Tab} (W : Wf T) {ls ds : List Int} {a b : Bool} (hl : Lets ls) {p : List Int} (hp : Lets p) : numAt (addT T ls ds a b) p = if p = ls then some (rowOf a b ds) else numAt T p := by
  have I := insT_ins ls T 0 W (Int.le_refl _) (by have := W.pos; omega) hl
  have eg : ∀ q st, goO (addT T ls ds a b) st q = goO (insT T 0 ls).1 st q := by
    intro q; induction q with
    | nil => intro st; rfl
    | cons x q ih => intro st; simp only [goO]; congr 1; funext s; exact ih s
  have en : ∀ s, (addT T ls ds a b).numbers s = if s = (insT T 0 ls).2 then some (rowOf a b ds) else T.numbers s := fun s => by
    show (if s = (insT T 0 ls).2 then some (rowOf a b ds) else (insT T 0 ls).1.numbers s) = _
    rw [I.num]
  unfold numAt
  rw [eg]
  by_cases hpl : p = ls
  · subst hpl
    rw [if_pos rfl, I.go, Option.bind_some, en, if_pos rfl]
  · rw [if_neg hpl]
    cases e : goO (insT T 0 ls).1 0 p with
    | none =>
      cases e2 : goO T 0 p with
      | none => rfl
      | some s => rw [goO_ext I.ext p 0 s e2] at e; cases e
    | some s =>
      rw [Option.bind_some, en, if_neg (fun hs => hpl (goO_inj I.wf _ p ls s rfl hp hl e (by rw [hs]; exact I.go)))]
      cases e2 : goO T 0 p with
      | some s' =>
        have := goO_ext I.ext p 0 s' e2
        rw [e] at this; cases this; rfl
      | none =>
        rcases I.goes W _ p s rfl hp e with k | k
        · rw [e2] at k; cases k
        · rw [Option.bind_none]
          cases e3 : T.numbers s with
          | none => rfl
          | some r => have := W.num _ _ e3; omega
theorem addT_bounds {T : Tab} (W : Wf T) {ls ds : List Int} {a b : Bool} (hl : Lets ls) : (addT T ls ds a b).nl ≤ T.nl + ls.length ∧ (addT T ls ds a b).nn = T.nn + 1 ∧ (addT T ls ds a b).ne = T.ne ∧ (addT T ls ds a b).excs = T.excs := by
  have I := insT_ins ls T 0 W (Int.le_refl _) (by have := W.pos; omega) hl
  refine ⟨I.nl, ?_, I.ne, I.exc⟩
  show (insT T 0 ls).1.nn + 1 = _
  rw [I.nn]

/-! what the gap numbers are -/
abbrev Pats := List Int → Option (List Int)
def goN (P : Pats) (b : Nat) : List Int → List Int → List Int → List Int
  | _, found, [] => found
  | pre, found, l :: r => goN P b (pre ++ [l]) (putD found b ((P (pre ++ [l])).getD [])) r
theorem goN_dead {T : Tab} (b : Nat) : ∀ (r pre found : List Int), goO T 0 pre = none → goN (numAt T) b pre found r = found
  | [], pre, found, h => rfl
  | l :: r, pre, found, h => by
    have e : goO T 0 (pre ++ [l]) = none := by rw [goO_snoc, h]; rfl
    simp only [goN]
    rw [show numAt T (pre ++ [l]) = none by unfold numAt; rw [e]; rfl]
    exact goN_dead b r _ _ e
theorem goG_goN {T : Tab} (W : Wf T) (b : Nat) : ∀ (r pre found : List Int) (st : Int), goO T 0 pre = some st → goG T b st found r = goN (numAt T) b pre found r
  | [], pre, found, st, h => rfl
  | l :: r, pre, found, st, h => by
    simp only [goG, goN]
    cases e : T.links (256 * st + l) with
    | none =>
      have e2 : goO T 0 (pre ++ [l]) = none := by rw [goO_snoc, h]; exact e
      rw [Option.getD_none, if_pos (by decide)]
      rw [show numAt T (pre ++ [l]) = none by unfold numAt; rw [e2]; rfl]
      exact (goN_dead b r _ _ e2).symm
    | some s =>
      obtain ⟨a, c, _, h1, _, _, h2, _⟩ := W.link _ _ e
      have e2 : goO T 0 (pre ++ [l]) = some s := by rw [goO_snoc, h]; exact e
      rw [Option.getD_some, if_neg (by omega)]
      rw [show numAt T (pre ++ [l]) = T.numbers s by unfold numAt; rw [e2]; rfl]
      exact goG_goN W b r _ _ s e2
def gapFromN (P : Pats) (marks : List Int) : List Nat → List Int → List Int
  | [], found => found
  | b :: r, found => gapFromN P marks r (goN P b [] found (marks.drop b))
theorem gapFrom_N {T : Tab} (W : Wf T) (marks : List Int) : ∀ (bs : List Nat) (found : List Int), gapFrom T marks bs found = gapFromN (numAt T) marks bs found
  | [], found => rfl
  | b :: r, found => by
    simp only [gapFrom, gapFromN]
    rw [goG_goN W b _ [] found 0 rfl]
    exact gapFrom_N W marks r _
theorem putD_le {M : Int} {j : Nat} : ∀ (ds found : List Int) (b : Nat), j < found.length → ((putD found b ds).getD j 0 ≤ M ↔ found.getD j 0 ≤ M ∧ ∀ d, b ≤ j → ds[j - b]? = some d → d ≤ M)
  | [], found, b, hj => by simp [putD]
  | x :: r, found, b, hj => by
    simp only [putD]
    rw [putD_le r _ (b + 1) (by simpa using hj)]
    by_cases hb : b = j
    · subst hb
      have e : (found.set b (max (found.getD b 0) x)).getD b 0 = max (found.getD b 0) x := by
        simp [List.getD_eq_getElem?_getD, List.getElem?_set, hj]
      rw [e]
      constructor
      · rintro ⟨h1, _⟩
        refine ⟨by omega, fun d _ hd => ?_⟩
        rw [Nat.sub_self] at hd; simp at hd; omega
      · rintro ⟨h1, h2⟩
        have := h2 x (Nat.le_refl _) (by simp)
        exact ⟨by omega, fun d h => by omega⟩
    · have e : (found.set b (max (found.getD b 0) x)).getD j 0 = found.getD j 0 := by
        simp [List.getD_eq_getElem?_getD, List.getElem?_set, hb]
      rw [e]
      constructor
      · rintro ⟨h1, h2⟩
        refine ⟨h1, fun d hbj hd => h2 d (by omega) ?_⟩
        rw [show j - b = (j - (b + 1)) + 1 by omega] at hd
        simpa using hd
      · rintro ⟨h1, h2⟩
        refine ⟨h1, fun d hbj hd => h2 d (by omega) ?_⟩
        rw [show j - b = (j - (b + 1)) + 1 by omega]
        simpa using hd
theorem goN_len (P : Pats) (b : Nat) : ∀ (r pre found : List Int), (goN P b pre found r).length = found.length
  | [], _, _ => rfl
  | l :: r, pre, found => by simp only [goN]; rw [goN_len P b r, putD_len]
theorem goN_le {P : Pats} {M : Int} {j b : Nat} : ∀ (r pre found : List Int), j < found.length →
    ((goN P b pre found r).getD j 0 ≤ M ↔ found.getD j 0 ≤ M ∧ ∀ v w, r = v ++ w → v ≠ [] → ∀ row, P (pre ++ v) = some row → ∀ d, b ≤ j → row[j - b]? = some d → d ≤ M)
  | [], pre, found, hj => by
    simp only [goN]
    constructor
    · intro h
      refine ⟨h, fun v w e hv => ?_⟩
      have := congrArg List.length e
      simp only [List.length_nil, List.length_append] at this
      exact absurd (List.eq_nil_of_length_eq_zero (by omega)) hv
    · exact fun h => h.1
  | l :: r, pre, found, hj => by
    simp only [goN]
    rw [goN_le r _ _ (by rw [putD_len]; exact hj), putD_le _ _ _ hj]
    constructor
    · rintro ⟨⟨h1, h2⟩, h3⟩
      refine ⟨h1, fun v w e hv row hr d hb hd => ?_⟩
      cases v with
      | nil => exact absurd rfl hv
      | cons x v =>
        simp only [List.cons_append, List.cons.injEq] at e
        obtain ⟨rfl, rfl⟩ := e
        by_cases hv0 : v = []
        · subst hv0
          exact h2 d hb (by rw [hr]; exact hd)
        · exact h3 v w rfl hv0 row (by simpa using hr) d hb hd
    · rintro ⟨h1, h2⟩
      refine ⟨⟨h1, fun d hb hd => ?_⟩, fun v w e hv row hr d hb hd => ?_⟩
      · cases er : P (pre ++ [l]) with
        | none => rw [er] at hd; simp at hd
        | some row => rw [er] at hd; exact h2 [l] r rfl (by simp) row er d hb hd
      · exact h2 (l :: v) w (by rw [e]; rfl) (by simp) row (by simpa using hr) d hb hd
theorem gapFromN_le {P : Pats} {M : Int} {j : Nat} {marks : List Int} : ∀ (bs : List Nat) (found : List Int), j < found.length →
    ((gapFromN P marks bs found).getD j 0 ≤ M ↔ found.getD j 0 ≤ M ∧ ∀ b ∈ bs, ∀ v w, marks.drop b = v ++ w → v ≠ [] → ∀ row, P v = some row → ∀ d, b ≤ j → row[j - b]? = some d → d ≤ M)
  | [], found, hj => by simp [gapFromN]
  | b :: r, found, hj => by
    simp only [gapFromN]
    rw [gapFromN_le r _ (by rw [goN_len]; exact hj), goN_le _ _ _ hj]
    constructor
    · rintro ⟨⟨h1, h2⟩, h3⟩
      refine ⟨h1, fun c hc => ?_⟩
      rcases List.mem_cons.mp hc with rfl | hc
      · intro v w e hv row hr; exact h2 v w e hv row (by simpa using hr)
      · exact h3 c hc
    · rintro ⟨h1, h2⟩
      exact ⟨⟨h1, fun v w e hv row hr => h2 b List.mem_cons_self v w e hv row (by simpa using hr)⟩, fun c hc => h2 c (List.mem_cons_of_mem _ hc)⟩
/-- the patterns that stand somewhere over this word -/
def Over (P : Pats) (ls : List Int) (k : Nat) (d : Int) : Prop := ∃ u v w row, marksOf ls = u ++ v ++ w ∧ v ≠ [] ∧ P v = some row ∧ u.length ≤ k + 1 ∧ row[k + 1 - u.length]? = some d
theorem gapNums_le {T : Tab} (W : Wf T) {ls : List Int} {k : Nat} (hk : k < ls.length + 1) {M : Int} : (gapNums T ls).getD k 0 ≤ M ↔ 0 ≤ M ∧ ∀ d, Over (numAt T) ls k d → d ≤ M := by
  have e : (gapNums T ls).getD k 0 = (gapFromN (numAt T) (marksOf ls) (List.range (ls.length + 2)) (List.replicate (ls.length + 3) 0)).getD (k + 1) 0 := by
    unfold gapNums
    rw [gapFrom_N W, List.getD_eq_getElem?_getD, List.getElem?_drop, List.getElem?_take, if_pos (by omega), List.getD_eq_getElem?_getD, Nat.add_comm 1 k]
  rw [e, gapFromN_le _ _ (by simp; omega)]
  have e0 : (List.replicate (ls.length + 3) (0 : Int)).getD (k + 1) 0 = 0 := by
    rw [List.getD_eq_getElem?_getD, List.getElem?_replicate]; split <;> rfl
  rw [e0]
  constructor
  · rintro ⟨h1, h2⟩
    refine ⟨h1, ?_⟩
    rintro d ⟨u, v, w, row, hm, hv, hr, hu, hd⟩
    have hlen := congrArg List.length hm
    have : 0 < v.length := List.length_pos_iff.mpr hv
    simp only [marksOf, List.length_append, List.length_cons, List.length_nil] at hlen
    refine h2 u.length (List.mem_range.mpr (by omega)) v w ?_ hv row hr d hu hd
    rw [hm, List.append_assoc, List.drop_left]
  · rintro ⟨h1, h2⟩
    refine ⟨h1, fun b hb v w hw hv row hr d hbk hd => ?_⟩
    have hb' := List.mem_range.mp hb
    refine h2 d ⟨(marksOf ls).take b, v, w, row, ?_, hv, hr, ?_, ?_⟩
    · rw [List.append_assoc, ← hw, List.take_append_drop]
    · rw [List.length_take]; simp only [marksOf, List.length_append, List.length_cons, List.length_nil]; omega
    · rw [List.length_take, Nat.min_eq_left (by simp [marksOf]; omega)]; exact hd
theorem int_eq_of_le {a b : Int} (h : ∀ M, a ≤ M ↔ b ≤ M) : a = b := by
  have h1 := (h b).mpr (Int.le_refl _)
  have h2 := (h a).mp (Int.le_refl _)
  omega
theorem gapNums_len' (T : Tab) (ls : List Int) : (gapNums T ls).length = ls.length + 1 := by
  have hgl : ∀ ks f, (gapFrom T (marksOf ls) ks f).length = f.length := by
    intro ks
    induction ks with
    | nil => intro f; rfl
    | cons k ks ih => intro f; simp only [gapFrom]; rw [ih, goG_len]
  unfold gapNums
  rw [List.length_drop, List.length_take, hgl, List.length_replicate]
  omega
theorem list_ext0 {xs ys : List Int} (hl : xs.length = ys.length) (h : ∀ k, k < xs.length → xs.getD k 0 = ys.getD k 0) : xs = ys := by
  refine List.ext_getElem hl fun k h1 h2 => ?_
  have := h k h1
  rw [List.getD_eq_getElem?_getD, List.getD_eq_getElem?_getD, List.getElem?_eq_getElem h1, List.getElem?_eq_getElem h2] at this
  simpa using this
abbrev Form := List Int × List Int
def vform (f : Form) : V := .tup [.lst (vints f.1), .lst (vints f.2)]
structure FormOk (f : Form) (w : List Int) (a b : Bool) : Prop where
  l : PatL f.1 w a b
  n : f.2.length = f.1.length + 1
  d : ∀ x ∈ f.2, 0 ≤ x ∧ x ≤ 7
  sz : w.length ≤ 3
  l3 : ∀ l ∈ w, l = 97 ∨ l = 98 ∨ l = 255
structure FormsOk (fs : List Form) : Prop where
  sz : fs.length ≤ 5
  ok : ∀ f ∈ fs, ∃ w a b, FormOk f w a b
  nd : (fs.map (·.1)).Nodup
theorem updMid {o : Objs} {n b : Nat} {x y z : SO} (h : n ≠ b) : upd (upd (upd o n x) b y) n z = upd (upd o n z) b y := by
  rw [upd_comm h, upd_upd, upd_comm h.symm]
theorem delMid {o : Objs} {n b : Nat} {x y : SO} (hn : o n = none) (h : n ≠ b) : del (upd (upd o n x) b y) n = upd o b y := by
  rw [upd_comm h, del_upd (by rw [upd_ne h]; exact hn)]
theorem zeros_if (c : Bool) : (List.replicate ((if c = true then (1 : Int) else 0).toNat) [V.int 0]).flatten = vints (edges c) := by
  cases c <;> rfl

/-! a table and its patterns -/
def FormG (f : Form) : Prop := ∃ w a b, PatL f.1 w a b ∧ f.2.length = f.1.length + 1 ∧ (∀ x ∈ f.2, 0 ≤ x ∧ x ≤ 9) ∧ f.1.length ≤ 5
def sA (ls : List Int) : Bool := ls.getD 0 1 == 0
def eA (ls : List Int) : Bool := ls.getD (ls.length - 1) 1 == 0
theorem PatL.sA {ls w : List Int} {a b : Bool} (h : PatL ls w a b) : a = sA ls ∧ b = eA ls := by
  obtain ⟨l0, h0, ha⟩ := h.first
  obtain ⟨l1, h1, hb⟩ := h.last
  refine ⟨?_, ?_⟩
  · unfold Mine.sA; rw [List.getD_eq_getElem?_getD, h0]; exact ha.symm
  · unfold eA; rw [List.getD_eq_getElem?_getD, h1]; exact hb.symm
theorem PatL.lets {ls w : List Int} {a b : Bool} (h : PatL ls w a b) : Lets ls := by
  intro l hl
  rw [h.eq] at hl
  have e0 : ∀ c, ∀ l ∈ edges c, l = 0 := by intro c l hl; cases c <;> simp [edges] at hl; exact hl
  rcases List.mem_append.mp hl with hl | hl
  · rcases List.mem_append.mp hl with hl | hl
    · rw [e0 _ _ hl]; omega
    · have := h.ok l hl; omega
  · rw [e0 _ _ hl]; omega
theorem FormG.lets {f : Form} (h : FormG f) : Lets f.1 := let ⟨w, a, b, hp, _⟩ := h; hp.lets
theorem FormG.pat {f : Form} (h : FormG f) : ∃ w, PatOk f.1 w f.2 (sA f.1) (eA f.1) := by
  obtain ⟨w, a, b, hp, hn, hd, hs⟩ := h
  obtain ⟨rfl, rfl⟩ := hp.sA
  exact ⟨w, hp, by omega, hn, hd⟩
def fRow (f : Form) : List Int := rowOf (sA f.1) (eA f.1) f.2
def patsOf (fs : List Form) : Pats := fun p => (fs.find? fun f => f.1 == p).map fRow
theorem patsOf_snoc {fs : List Form} {f : Form} (h : f.1 ∉ fs.map (·.1)) (p : List Int) : patsOf (fs ++ [f]) p = if p = f.1 then some (fRow f) else patsOf fs p := by
  unfold patsOf
  rw [List.find?_append]
  by_cases e : p = f.1
  · rw [if_pos e]
    have : fs.find? (fun g => g.1 == p) = none := by
      rw [List.find?_eq_none]
      intro g hg q
      exact h (by rw [← e, ← beq_iff_eq.mp q]; exact List.mem_map_of_mem hg)
    rw [this, e]
    simp
  · rw [if_neg e]
    have : ([f].find? fun g => g.1 == p) = none := by
      rw [List.find?_eq_none]
      intro g hg q
      simp only [List.mem_singleton] at hg
      subst hg; exact e (beq_iff_eq.mp q).symm
    rw [this, Option.or_none]
theorem patsOf_mem {fs : List Form} {p row : List Int} (h : patsOf fs p = some row) : ∃ f ∈ fs, f.1 = p ∧ row = fRow f := by
  unfold patsOf at h
  cases e : fs.find? (fun g => g.1 == p) with
  | none => rw [e] at h; cases h
  | some f =>
    rw [e] at h
    exact ⟨f, List.mem_of_find?_eq_some e, by simpa using List.find?_some e, (Option.some.inj h).symm⟩
theorem rowOf_len (a b : Bool) (ds : List Int) : (rowOf a b ds).length = ds.length := by unfold rowOf; rw [zeroAt_len, zeroAt_len]
structure Rep (T : Tab) (fs : List Form) : Prop where
  wf : Wf T
  at' : ∀ p, Lets p → numAt T p = patsOf fs p
  nl : T.nl ≤ 5 * fs.length
  nn : T.nn = fs.length
  ne : T.ne = 0
  exc : T.excs = fun _ => none
theorem Rep.empty : Rep Tab.empty [] := by
  refine ⟨Wf.empty, fun p hp => ?_, Nat.le_refl _, rfl, rfl, rfl⟩
  unfold numAt
  cases goO Tab.empty 0 p <;> rfl
theorem Rep.no {T : Tab} {fs : List Form} (R : Rep T fs) {ls : List Int} (hl : Lets ls) (h : ls ∉ fs.map (·.1)) : T.numbers (stateOf T ls) = none := by
  rw [numAt_st R.wf, R.at' ls hl]
  cases e : patsOf fs ls with
  | none => rfl
  | some row =>
    obtain ⟨f, hf, h1, _⟩ := patsOf_mem e
    exact absurd (h1 ▸ List.mem_map_of_mem hf) h
theorem Rep.step {T : Tab} {fs : List Form} (R : Rep T fs) {f : Form} (hf : FormG f) (h : f.1 ∉ fs.map (·.1)) : Rep (addT T f.1 f.2 (sA f.1) (eA f.1)) (fs ++ [f]) := by
  obtain ⟨b1, b2, b3, b4⟩ := addT_bounds (a := sA f.1) (b := eA f.1) (ds := f.2) R.wf hf.lets
  obtain ⟨_, _, _, _, _, _, hs⟩ := id hf
  refine ⟨addT_wf R.wf hf.lets, fun p hp => ?_, ?_, ?_, by rw [b3, R.ne], by rw [b4, R.exc]⟩
  · rw [addT_at R.wf hf.lets hp, patsOf_snoc h, R.at' p hp]; rfl
  · have := R.nl; simp only [List.length_append, List.length_singleton]; omega
  · rw [b2, R.nn]; simp
theorem rows_of {T : Tab} (W : Wf T) (h : ∀ p, Lets p → ∀ row, numAt T p = some row → row.length ≤ p.length + 1) : TabRows T := fun p hp _ row hr => h p hp row (by rw [← numAt_st W]; exact hr)
/-! places -/
def Sub (n : Nat) (st : List Int) : Prop := (((List.range n).map fun i : Nat => (i : Int)).filter fun p => decide (p ∈ st)) = st
theorem Sub.mem {n : Nat} {st : List Int} (h : Sub n st) {p : Int} (hp : p ∈ st) : 0 ≤ p ∧ p < n := by
  rw [← h] at hp
  have := (List.mem_filter.mp hp).1
  obtain ⟨i, hi, rfl⟩ := List.mem_map.mp this
  have := List.mem_range.mp hi
  omega
theorem Sub.nil : Sub 0 [] := rfl
theorem Sub.succ {n : Nat} {st : List Int} (h : Sub n st) : Sub (n + 1) st ∧ Sub (n + 1) (st ++ [(n : Int)]) := by
  have hn : (n : Int) ∉ st := fun k => by have := (h.mem k).2; omega
  have k1 : ∀ x ∈ (List.range n).map (fun i : Nat => (i : Int)), x ≠ n := fun x hx e => by
    obtain ⟨i, hi, rfl⟩ := List.mem_map.mp hx
    have := List.mem_range.mp hi; omega
  unfold Sub at *
  rw [List.range_succ, List.map_append, List.filter_append, List.filter_append]
  constructor
  · rw [h]; simp [hn]
  · rw [show (((List.range n).map fun i : Nat => (i : Int)).filter fun p => decide (p ∈ st ++ [(n : Int)])) = st by
      refine Eq.trans (List.filter_congr fun x hx => ?_) h
      have := k1 x hx
      simp [this]]
    simp
theorem Sub.len {n : Nat} {st : List Int} (h : Sub n st) : st.length ≤ n := by
  rw [← h]
  exact Nat.le_trans (List.length_filter_le _ _) (by simp)
/-! texts -/
def dash (st : List Int) (k : Nat) : List Nat := if (k : Int) ∈ st then [45] else []
def excText (st : List Int) : Nat → List Int → List Nat
  | k, [] => dash st k
  | k, l :: r => dash st k ++ l.toNat :: excText st (k + 1) r
def upF (st : List Int) (k n : Nat) : List Int := ((List.range' k n).map fun i : Nat => (i : Int)).filter fun p => decide (p ∈ st)
def patText : List Int → List Int → List Nat
  | m :: ms, l :: r => (48 + m).toNat :: l.toNat :: patText ms r
  | m :: ms, [] => [(48 + m).toNat, 46]
  | [], _ => []
def marksF (n : Nat) (st : List Int) : List Int := (List.range (n + 1)).map fun k : Nat => if (k : Int) ∈ st then 9 else 8
/-! the first law, plain -/
/-- the table with exceptions for this word -/
structure Told (T T1 : Tab) (w st : List Int) : Prop where
  wf : Wf T1
  at' : ∀ p, numAt T1 p = numAt T p
  exc : ∀ x, T1.excs x = if x = keyOf w then some st else none
def pointsG (nums : List Int) (n : Nat) (left right : Int) : List Int := ((List.range ((n : Int) - leastP right + 1 - leastP left).toNat).map fun i : Nat => leastP left + (i : Int)).filter fun p => nums.getD p.toNat 0 % 2 == 1
theorem points_none {T : Tab} {x : List Int} (hx : x.length ≤ 63) (h : T.excs (keyOf x) = none) (left right : Int) : pointsT T x left right = pointsG (gapNums T x) x.length left right := by
  unfold pointsT pointsG
  rw [List.take_of_length_le hx, h]
theorem points_some {T : Tab} {x st : List Int} (hx : x.length ≤ 63) (h : T.excs (keyOf x) = some st) (left right : Int) : pointsT T x left right = st.filter (between (leastP left) (x.length - leastP right)) := by
  unfold pointsT
  rw [List.take_of_length_le hx, h]
theorem leastP_pos (v : Int) : 1 ≤ leastP v ∧ leastP v ≤ 63 := by unfold leastP; omega
theorem range_between {n : Nat} {a b : Int} (ha : 0 ≤ a) (hb : b ≤ n) : ((List.range (b + 1 - a).toNat).map fun i : Nat => a + (i : Int)) = ((List.range (n + 1)).map fun i : Nat => (i : Int)).filter (between a b) := by
  induction n generalizing b with
  | zero =>
    by_cases h : a = 0 ∧ b = 0
    · obtain ⟨rfl, rfl⟩ := h; rfl
    · have e1 : (b + 1 - a).toNat = 0 := by omega
      rw [e1]
      symm
      rw [List.range_zero, List.map_nil, List.filter_eq_nil_iff]
      intro x hx
      simp only [List.mem_map, List.mem_range] at hx
      obtain ⟨i, hi, rfl⟩ := hx
      unfold between; simp; omega
  | succ n ih =>
    rw [List.range_succ, List.map_append, List.filter_append]
    by_cases hbn : b ≤ n
    · rw [← ih hbn]
      have : ([n + 1].map fun i : Nat => (i : Int)).filter (between a b) = [] := by
        rw [List.filter_eq_nil_iff]
        intro x hx
        simp only [List.map_cons, List.map_nil, List.mem_singleton] at hx
        subst hx; unfold between; simp; omega
      rw [this, List.append_nil]
    · have hb' : b = n + 1 := by omega
      by_cases han : a ≤ n + 1
      · have e1 : (b + 1 - a).toNat = ((n : Int) + 1 - a).toNat + 1 := by omega
        rw [e1, List.range_succ, List.map_append]
        have e2 := ih (b := n) (Int.le_refl _)
        rw [e2]
        have e3 : ((List.range (n + 1)).map fun i : Nat => (i : Int)).filter (between a b) = ((List.range (n + 1)).map fun i : Nat => (i : Int)).filter (between a n) := by
          refine List.filter_congr fun x hx => ?_
          simp only [List.mem_map, List.mem_range] at hx
          obtain ⟨i, hi, rfl⟩ := hx
          unfold between
          rw [decide_eq_decide]; omega
        rw [e3]
        congr 1
        have : between a b ((n + 1 : Nat) : Int) = true := by unfold between; rw [decide_eq_true_eq]; omega
        simp only [List.map_cons, List.map_nil, List.filter_cons, this, if_true, List.filter_nil]
        congr 1; omega
      · have e1 : (b + 1 - a).toNat = 0 := by omega
        rw [e1]
        symm
        rw [List.range_zero, List.map_nil, ← List.filter_append, List.filter_eq_nil_iff]
        intro x hx
        have : x ≤ n + 1 := by
          rcases List.mem_append.mp hx with hx | hx
          · simp only [List.mem_map, List.mem_range] at hx
            obtain ⟨i, hi, rfl⟩ := hx; omega
          · simp at hx; omega
        unfold between; simp; omega
def L9 (w : List Int) : Prop := ∀ l ∈ w, 97 ≤ l ∧ l ≤ 99
structure FormOk2 (f : Form) (w : List Int) (a b : Bool) : Prop where
  l : PatL f.1 w a b
  n : f.2.length = f.1.length + 1
  d : ∀ x ∈ f.2, 0 ≤ x ∧ x ≤ 9
  sz : w.length ≤ 3
  l9 : L9 w
structure FormsOk2 (fs : List Form) : Prop where
  sz : fs.length ≤ 7
  ok : ∀ f ∈ fs, ∃ w a b, FormOk2 f w a b
  nd : (fs.map (·.1)).Nodup
theorem FormOk2.g {f : Form} {w : List Int} {a b : Bool} (h : FormOk2 f w a b) : FormG f := by
  refine ⟨w, a, b, h.l, h.n, h.d, ?_⟩
  have h1 := h.l.len; have h2 := h.sz
  split at h1 <;> split at h1 <;> omega
theorem FormsOk2.g {fs : List Form} (h : FormsOk2 fs) : ∀ f ∈ fs, FormG f := fun f hf => let ⟨_, _, _, k⟩ := h.ok f hf; k.g
theorem L9.ok {w : List Int} (h : L9 w) : ∀ l ∈ w, 1 ≤ l ∧ l ≤ 255 := fun l hl => by have := h l hl; omega
/-- a table with its exception -/
structure Rep2 (T : Tab) (fs : List Form) (w : List Int) (st : Option (List Int)) : Prop where
  wf : Wf T
  at' : ∀ p, Lets p → numAt T p = patsOf fs p
  nl : T.nl ≤ 5 * fs.length
  nn : T.nn = fs.length
  exc : ∀ k, T.excs k = match st with | none => none | some s => if k = keyOf w then some (excOf w.length s) else none
theorem Rep.two {T : Tab} {fs : List Form} (R : Rep T fs) (w : List Int) : Rep2 T fs w none := ⟨R.wf, R.at', R.nl, R.nn, fun k => by rw [R.exc]⟩
theorem goO_setE2 (T : Tab) (k : Int) (xs : List Int) : ∀ (p : List Int) (st : Int), goO (T.setE k xs) st p = goO T st p
  | [], st => rfl
  | l :: p, st => by simp only [goO]; congr 1; funext s; exact goO_setE2 T k xs p s
theorem Rep.twoE {T : Tab} {fs : List Form} (R : Rep T fs) (w s : List Int) : Rep2 (T.setE (keyOf w) (excOf w.length s)) fs w (some s) := by
  refine ⟨⟨R.wf.pos, R.wf.link, R.wf.inj, R.wf.num⟩, fun p hp => ?_, R.nl, R.nn, fun k => ?_⟩
  · rw [← R.at' p hp]; unfold numAt; rw [goO_setE2]; rfl
  · show setF T.excs (keyOf w) _ k = _
    rw [R.exc]; rfl
theorem patsOf_len2 {fs : List Form} (hf : ∀ f ∈ fs, FormG f) {p row : List Int} (h : patsOf fs p = some row) : row.length ≤ p.length + 1 := by
  obtain ⟨f, hm, e1, e2⟩ := patsOf_mem h
  obtain ⟨_, _, _, _, hn, _⟩ := hf f hm
  rw [e2, fRow, rowOf_len, hn, e1]
  exact Nat.le_refl _
theorem Rep2.rows {T : Tab} {fs : List Form} {w : List Int} {st : Option (List Int)} (R : Rep2 T fs w st) (hf : ∀ f ∈ fs, FormG f) : TabRows T := rows_of R.wf fun p hp row hr => by
  rw [R.at' p hp] at hr
  exact patsOf_len2 hf hr
theorem excOf_len (n : Nat) (ps : List Int) : (excOf n ps).length ≤ n + 1 := by
  unfold excOf
  exact Nat.le_trans (List.length_filter_le _ _) (by simp)
theorem Rep2.excs {T : Tab} {fs : List Form} {w : List Int} {st : Option (List Int)} (R : Rep2 T fs w st) (hw : w.length ≤ 5000) : ∀ k ks, T.excs k = some ks → ks.length ≤ 10000 := fun k ks e => by
  rw [R.exc] at e
  cases st with
  | none => cases e
  | some s =>
    dsimp only at e
    split at e
    · cases e; have := excOf_len w.length s; omega
    · cases e
def vst : Option (List Int) → V
  | none => .none
  | some s => .lst (vints s)
def ren (ns : List Int) (l : Int) : Int := if l = 0 then 0 else ns.getD (l - 97).toNat 0
theorem map_erase {α β : Type} (f : α → β) : ∀ (l : List α) (i : Nat), (l.map f).eraseIdx i = (l.eraseIdx i).map f
  | [], i => rfl
  | x :: l, 0 => rfl
  | x :: l, i + 1 => by simp only [List.map_cons, List.eraseIdx_cons_succ, map_erase f l i]
theorem perm_erase {α : Type} : ∀ (l : List α) (i : Nat) (h : i < l.length), ([l[i]] ++ l.eraseIdx i).Perm l
  | [], i, h => by simp at h
  | x :: l, 0, h => List.Perm.refl _
  | x :: l, i + 1, h => by
    have := perm_erase l i (by simpa using h)
    simp only [List.getElem_cons_succ, List.eraseIdx_cons_succ, List.cons_append, List.nil_append] at this ⊢
    exact (List.Perm.swap x _ _).trans (List.Perm.cons x this)
/-! a list against the empty list -/
def dform (f : Form) : PyData := .tuple [.list (f.1.map .int), .list (f.2.map .int)]
section
variable {B : Bs} {d : Nat} {g : Gh} {o : Objs} {s : Shared} {Q : V → Objs → Prop}
theorem reads_lst (H : HR B g o s) {ns : List Int} {v : Value} (h : VR g (.lst (vints ns)) v) : ∃ as, Reads s.heap v (.list (ns.map .int)) as := by
  simp only [VR] at h
  obtain ⟨a, vs, x, rfl, hz, ⟨hc, n, hd⟩, hv⟩ := h
  exact ⟨_, reads_of_ints ⟨x, H.zin _ _ hz, hc, n, hd⟩ hv.vints⟩
theorem reads_form (H : HR B g o s) {f : Form} {v : Value} (h : VR g (vform f) v) : ∃ as, Reads s.heap v (dform f) as := by
  simp only [vform, VR] at h
  obtain ⟨a, vs, x, rfl, hz, rfl, hv⟩ := h
  simp only [VRs] at hv
  obtain ⟨v1, r1, rfl, h1, v2, r2, rfl, h2, rfl⟩ := hv
  obtain ⟨a1, k1⟩ := reads_lst H h1
  obtain ⟨a2, k2⟩ := reads_lst H h2
  exact ⟨_, Reads.tuple (H.zin _ _ hz) rfl rfl (.cons k1 (.cons k2 .nil))⟩
theorem reads_forms (H : HR B g o s) : ∀ {fs : List Form} {vs : List Value}, VRs g (fs.map vform) vs → ∃ as, ReadsAll s.heap vs (fs.map dform) as
  | [], vs, h => by simp only [List.map_nil, VRs] at h; subst h; exact ⟨_, .nil⟩
  | f :: fs, vs, h => by
    simp only [List.map_cons, VRs] at h
    obtain ⟨v, r, rfl, h1, h2⟩ := h
    obtain ⟨a1, k1⟩ := reads_form H h1
    obtain ⟨a2, k2⟩ := reads_forms H h2
    exact ⟨_, .cons k1 k2⟩
theorem canLay_forms : ∀ fs : List Form, PyData.canLayAll0 (fs.map dform) = true
  | [] => by simp [PyData.canLayAll0]
  | f :: r => by simp [PyData.canLayAll0, PyData.canLay0, dform, canLayAll0_ints, canLay_forms r]
theorem depth_forms : ∀ fs : List Form, PyData.depthAll (fs.map dform) ≤ 4
  | [] => by simp [PyData.depthAll]
  | f :: r => by
    have h1 := PySem.W.depthAll_ints f.1
    have h2 := PySem.W.depthAll_ints f.2
    have h3 := depth_forms r
    simp only [List.map_cons, PyData.depthAll, dform, PyData.depth]
    omega
theorem wpO2.lneNil {x y : V} {fs : List Form} (hx : asL o x = some (fs.map vform)) (hy : asL o y = some []) (q : Q (.bool (!decide (fs = []))) o) : wpO2 B d (compareOp .NotEq) x y Q o := by
  intro A g s v u hA H h1 h2
  obtain ⟨l, vs, rfl, ⟨ob, ho, hc, n, hd⟩, hv⟩ := asL_at H hx h1
  obtain ⟨b, us, rfl, hb, hu⟩ := asL_at H hy h2
  obtain ⟨as, k⟩ := reads_forms H hv
  have ra : Reads s.heap (.ref l) (.list (fs.map dform)) (l :: as) := Reads.list ho hc hd (by simpa using k)
  refine ne_dataH_same ra (reads_of_ints (ns := []) hb (VRs.vints (ns := []) hu)) ?_ (shaped_ints []) (by have := hA.2.2; show A.units + 64 < 9900; omega) ?_ ?_
  · unfold shaped
    rw [Bool.and_eq_true, decide_eq_true_eq]
    refine ⟨by simp [PyData.canLay0, canLay_forms], ?_⟩
    have := depth_forms fs
    simp only [PyData.depth]; omega
  · cases fs <;> simp [noMix, noMixAll]
  · have e : PySem.Spec.same (.list (fs.map dform)) (.list (([] : List Int).map .int)) = decide (fs = []) := by
      cases fs <;> simp [PySem.Spec.same, PySem.Spec.sameAll]
    rw [e]
    exact wpT.done H (by simp [VR]) q
end

/-! the second law, plain -/
def OverF (fs : List Form) (w : List Int) (k : Nat) (d : Int) : Prop := ∃ f ∈ fs, ∃ u r, marksOf w = u ++ f.1 ++ r ∧ u.length ≤ k + 1 ∧ (fRow f)[k + 1 - u.length]? = some d
theorem lets_sub {x u v w : List Int} (hx : ∀ l ∈ x, 1 ≤ l ∧ l ≤ 255) (h : marksOf x = u ++ v ++ w) : Lets v := by
  intro l hl
  have : l ∈ marksOf x := by rw [h]; simp [hl]
  simp only [marksOf, List.mem_append, List.mem_cons, List.not_mem_nil, or_false] at this
  rcases this with (rfl | this) | rfl
  · decide
  · have := hx l this; omega
  · decide
theorem patsOf_some {fs : List Form} (hnd : (fs.map (·.1)).Nodup) {f : Form} (hf : f ∈ fs) : patsOf fs f.1 = some (fRow f) := by
  induction fs with
  | nil => cases hf
  | cons g r ih =>
    simp only [List.map_cons, List.nodup_cons] at hnd
    unfold patsOf
    rw [List.find?_cons]
    by_cases e : g.1 = f.1
    · rw [beq_iff_eq.mpr e]
      rcases List.mem_cons.mp hf with rfl | hf
      · rfl
      · exact absurd (e ▸ List.mem_map_of_mem hf) hnd.1
    · rw [beq_eq_false_iff_ne.mpr e]
      rcases List.mem_cons.mp hf with rfl | hf
      · exact absurd rfl e
      · exact ih hnd.2 hf
theorem FormG.ne {f : Form} (h : FormG f) : f.1 ≠ [] := by
  obtain ⟨w, a, b, hp, _⟩ := h
  have := hp.len; have := hp.pos
  exact List.length_pos_iff.mp (by omega)
theorem gap_le2 {T : Tab} {fs : List Form} {w w0 : List Int} {st : Option (List Int)} (R : Rep2 T fs w0 st) (hf : ∀ f ∈ fs, FormG f) (hnd : (fs.map (·.1)).Nodup) (hw : ∀ l ∈ w, 1 ≤ l ∧ l ≤ 255) {k : Nat} (hk : k < w.length + 1) {M : Int} :
    (gapNums T w).getD k 0 ≤ M ↔ 0 ≤ M ∧ ∀ d, OverF fs w k d → d ≤ M := by
  rw [gapNums_le R.wf hk]
  refine and_congr_right fun _ => forall_congr' fun d => imp_congr ?_ Iff.rfl
  constructor
  · rintro ⟨u, v, r, row, hm, hv, hr, hu, hd⟩
    rw [R.at' v (lets_sub hw hm)] at hr
    obtain ⟨f, hfm, rfl, rfl⟩ := patsOf_mem hr
    exact ⟨f, hfm, u, r, hm, hu, hd⟩
  · rintro ⟨f, hfm, u, r, hm, hu, hd⟩
    exact ⟨u, f.1, r, fRow f, hm, (hf f hfm).ne, by rw [R.at' _ (lets_sub hw hm)]; exact patsOf_some hnd hfm, hu, hd⟩
theorem gap_max {T T1 T2 : Tab} {gs fs : List Form} {h : Nat} {w w0 w1 w2 : List Int} {st s1 s2 : Option (List Int)} (R : Rep2 T gs w0 st) (R1 : Rep2 T1 (fs.take h) w1 s1) (R2 : Rep2 T2 (fs.drop h) w2 s2) (hp : gs.Perm fs) (hf : ∀ f ∈ fs, FormG f) (hnd : (fs.map (·.1)).Nodup) (hw : ∀ l ∈ w, 1 ≤ l ∧ l ≤ 255) :
    gapNums T w = (List.range (w.length + 1)).map fun k => max ((gapNums T1 w).getD k 0) ((gapNums T2 w).getD k 0) := by
  refine list_ext0 (by simp [gapNums_len']) fun k hk => ?_
  rw [gapNums_len'] at hk
  have e : ((List.range (w.length + 1)).map fun k => max ((gapNums T1 w).getD k 0) ((gapNums T2 w).getD k 0)).getD k 0 = max ((gapNums T1 w).getD k 0) ((gapNums T2 w).getD k 0) := by
    rw [List.getD_eq_getElem?_getD, List.getElem?_map, List.getElem?_range hk]; rfl
  rw [e]
  refine int_eq_of_le fun M => ?_
  have hfs : ∀ f, f ∈ gs ↔ f ∈ fs.take h ∨ f ∈ fs.drop h := fun f => by
    rw [hp.mem_iff, ← List.mem_append, List.take_append_drop]
  have g1 := gap_le2 R1 (fun f hm => hf f (List.mem_of_mem_take hm)) (hnd.sublist ((List.take_sublist h fs).map _)) hw hk (M := M)
  have g2 := gap_le2 R2 (fun f hm => hf f (List.mem_of_mem_drop hm)) (hnd.sublist ((List.drop_sublist h fs).map _)) hw hk (M := M)
  have g0 := gap_le2 R (fun f hm => hf f (hp.mem_iff.mp hm)) ((hp.map _).nodup_iff.mpr hnd) hw hk (M := M)
  rw [Int.max_le, g0, g1, g2]
  constructor
  · rintro ⟨h0, h1⟩
    exact ⟨⟨h0, fun d ⟨f, hm, r⟩ => h1 d ⟨f, (hfs f).mpr (.inl hm), r⟩⟩, ⟨h0, fun d ⟨f, hm, r⟩ => h1 d ⟨f, (hfs f).mpr (.inr hm), r⟩⟩⟩
  · rintro ⟨⟨h0, h1⟩, ⟨_, h2⟩⟩
    refine ⟨h0, fun d ⟨f, hm, r⟩ => ?_⟩
    rcases (hfs f).mp hm with hm | hm
    · exact h1 d ⟨f, hm, r⟩
    · exact h2 d ⟨f, hm, r⟩
theorem gap_none {T : Tab} {w w0 : List Int} {st : Option (List Int)} (R : Rep2 T [] w0 st) (hw : ∀ l ∈ w, 1 ≤ l ∧ l ≤ 255) : gapNums T w = List.replicate (w.length + 1) 0 := by
  refine list_ext0 (by simp [gapNums_len']) fun k hk => ?_
  rw [gapNums_len'] at hk
  have e : (List.replicate (w.length + 1) (0 : Int)).getD k 0 = 0 := by
    rw [List.getD_eq_getElem?_getD, List.getElem?_replicate]; split <;> rfl
  rw [e]
  refine int_eq_of_le fun M => ?_
  rw [gap_le2 R (fun f hm => nomatch hm) (by simp) hw hk]
  exact ⟨fun h => h.1, fun h => ⟨h, fun d ⟨f, hm, _⟩ => nomatch hm⟩⟩
/-- more patterns: no smaller number -/
theorem gap_mono {T1 T2 : Tab} {fs gs : List Form} {w w1 w2 : List Int} {s1 s2 : Option (List Int)} (R1 : Rep2 T1 fs w1 s1) (R2 : Rep2 T2 gs w2 s2) (hf : ∀ f ∈ fs, FormG f) (hg : ∀ f ∈ gs, FormG f) (hnd : (fs.map (·.1)).Nodup) (hnd2 : (gs.map (·.1)).Nodup) (hs : ∀ f ∈ fs, f ∈ gs) (hw : ∀ l ∈ w, 1 ≤ l ∧ l ≤ 255) {k : Nat} (hk : k < w.length + 1) :
    (gapNums T1 w).getD k 0 ≤ (gapNums T2 w).getD k 0 := by
  have := (gap_le2 R2 hg hnd2 hw hk).mp (Int.le_refl _)
  exact (gap_le2 R1 hf hnd hw hk).mpr ⟨this.1, fun d ⟨f, hm, r⟩ => this.2 d ⟨f, hs f hm, r⟩⟩
/-! turned round -/
def revF (f : Form) : Form := (f.1.reverse, f.2.reverse)
theorem zeroAt_get {c : Bool} {j i : Nat} {ds : List Int} : (zeroAt c j ds)[i]? = if c = true ∧ j = i ∧ i < ds.length then some 0 else ds[i]? := by
  unfold zeroAt
  cases c
  · simp
  · by_cases h : j = i
    · subst h
      by_cases h2 : j < ds.length
      · simp [h2]
      · simp [h2]
    · simp [h, List.getElem?_set]
theorem rowOf_get {a b : Bool} {i : Nat} {ds : List Int} : (rowOf a b ds)[i]? = if i < ds.length then (if (a = true ∧ i = 0) ∨ (b = true ∧ i = ds.length - 1) then some 0 else ds[i]?) else none := by
  unfold rowOf
  rw [zeroAt_get, zeroAt_get, zeroAt_len]
  by_cases hi : i < ds.length
  · by_cases h1 : b = true ∧ ds.length - 1 = i
    · rw [if_pos ⟨h1.1, h1.2, hi⟩, if_pos hi, if_pos (.inr ⟨h1.1, h1.2.symm⟩)]
    · rw [if_neg fun q => h1 ⟨q.1, q.2.1⟩, if_pos hi]
      by_cases h2 : a = true ∧ 0 = i
      · rw [if_pos ⟨h2.1, h2.2, hi⟩, if_pos (.inl ⟨h2.1, h2.2.symm⟩)]
      · rw [if_neg fun q => h2 ⟨q.1, q.2.1⟩, if_neg]
        rintro (q | q)
        · exact h2 ⟨q.1, q.2.symm⟩
        · exact h1 ⟨q.1, q.2.symm⟩
  · have : ds[i]? = none := List.getElem?_eq_none_iff.mpr (by omega)
    rw [if_neg (fun q => hi q.2.2), if_neg (fun q => hi q.2.2), if_neg hi, this]
theorem PatL.rev {ls w : List Int} {a b : Bool} (h : PatL ls w a b) : PatL ls.reverse w.reverse b a := by
  refine ⟨?_, by simp [h.ne], fun l hl => h.ok l (by simpa using hl)⟩
  have e : ∀ c, (edges c).reverse = edges c := fun c => by cases c <;> rfl
  rw [h.eq]; simp [e]
theorem FormG.rev {f : Form} (h : FormG f) : FormG (revF f) := by
  obtain ⟨w, a, b, hp, hn, hd, hs⟩ := h
  exact ⟨w.reverse, b, a, hp.rev, by simp [revF, hn], fun x hx => hd x (by simpa [revF] using hx), by simpa [revF] using hs⟩
theorem fRow_rev {f : Form} (h : FormG f) : fRow (revF f) = (fRow f).reverse := by
  obtain ⟨w, a, b, hp, hn, hd, hs⟩ := h
  obtain ⟨ha, hb⟩ := hp.sA
  obtain ⟨hb', ha'⟩ := hp.rev.sA
  unfold fRow revF
  dsimp only
  rw [← ha', ← hb', ← ha, ← hb]
  refine List.ext_getElem? fun i => ?_
  have hl : (rowOf a b f.2).length = f.2.length := rowOf_len ..
  by_cases hi : i < f.2.length
  · have e1 : (rowOf b a f.2.reverse)[i]? = if (b = true ∧ i = 0) ∨ (a = true ∧ i = f.2.length - 1) then some 0 else f.2[f.2.length - 1 - i]? := by
      rw [rowOf_get, List.length_reverse, if_pos hi, List.getElem?_reverse hi]
    have e2 : (rowOf a b f.2).reverse[i]? = if (a = true ∧ f.2.length - 1 - i = 0) ∨ (b = true ∧ f.2.length - 1 - i = f.2.length - 1) then some 0 else f.2[f.2.length - 1 - i]? := by
      rw [List.getElem?_reverse (by rw [hl]; exact hi), hl, rowOf_get, if_pos (show f.2.length - 1 - i < f.2.length by omega)]
    rw [e1, e2]
    by_cases h1 : (b = true ∧ i = 0) ∨ (a = true ∧ i = f.2.length - 1)
    · rw [if_pos h1, if_pos]
      rcases h1 with ⟨h1, rfl⟩ | ⟨h1, rfl⟩
      · exact .inr ⟨h1, by omega⟩
      · exact .inl ⟨h1, by omega⟩
    · rw [if_neg h1, if_neg]
      rintro (⟨q, e⟩ | ⟨q, e⟩)
      · exact h1 (.inr ⟨q, by omega⟩)
      · exact h1 (.inl ⟨q, by omega⟩)
  · rw [List.getElem?_eq_none_iff.mpr (by rw [rowOf_len, List.length_reverse]; omega), List.getElem?_eq_none_iff.mpr (by rw [List.length_reverse, hl]; omega)]
theorem marks_rev (w : List Int) : marksOf w.reverse = (marksOf w).reverse := by simp [marksOf]
theorem over_rev {fs : List Form} (hf : ∀ f ∈ fs, FormG f) {w : List Int} {k : Nat} (hk : k ≤ w.length) {d : Int} : OverF fs w (w.length - k) d → OverF (fs.map revF) w.reverse k d := by
  rintro ⟨f, hm, u, r, e, hu, hd⟩
  have hl := congrArg List.length e
  simp only [marksOf, List.length_append, List.length_cons, List.length_nil] at hl
  obtain ⟨_, _, _, _, hn, _⟩ := id (hf f hm)
  have hlen : (fRow f).length = f.1.length + 1 := by rw [fRow, rowOf_len, hn]
  have hi := (List.getElem?_eq_some_iff.mp hd).1
  rw [hlen] at hi
  refine ⟨revF f, List.mem_map_of_mem hm, r.reverse, u.reverse, ?_, by simp; omega, ?_⟩
  · rw [marks_rev, e]; simp [revF]
  · rw [fRow_rev (hf f hm), List.length_reverse, List.getElem?_reverse (by rw [hlen]; omega), ← hd, hlen]
    congr 1; omega
theorem revF_revF (f : Form) : revF (revF f) = f := by simp [revF]
theorem over_rev_iff {fs : List Form} (hf : ∀ f ∈ fs, FormG f) {w : List Int} {k : Nat} (hk : k ≤ w.length) {d : Int} : OverF (fs.map revF) w.reverse k d ↔ OverF fs w (w.length - k) d := by
  refine ⟨fun h => ?_, over_rev hf hk⟩
  have hf' : ∀ f ∈ fs.map revF, FormG f := fun f hm => by obtain ⟨g, hg, rfl⟩ := List.mem_map.mp hm; exact (hf g hg).rev
  have := over_rev (fs := fs.map revF) hf' (w := w.reverse) (k := w.length - k) (d := d) (by simp) (by simpa [show w.length - (w.length - k) = k by omega] using h)
  rw [List.map_map, List.reverse_reverse] at this
  rwa [show (fs.map (revF ∘ revF)) = fs by rw [show (revF ∘ revF) = id from funext revF_revF]; simp] at this
theorem gap_rev {T Tm : Tab} {gs fs : List Form} {w w0 w1 : List Int} {st s1 : Option (List Int)} (R : Rep2 T gs w0 st) (Rm : Rep2 Tm (fs.map revF) w1 s1) (hp : gs.Perm fs) (hf : ∀ f ∈ fs, FormG f) (hnd : (fs.map (·.1)).Nodup) (hw : ∀ l ∈ w, 1 ≤ l ∧ l ≤ 255) : gapNums Tm w.reverse = (gapNums T w).reverse := by
  have hnd2 : ((fs.map revF).map (·.1)).Nodup := by
    rw [List.map_map]
    have e : ((fun f : Form => f.1) ∘ revF) = List.reverse ∘ (fun f : Form => f.1) := rfl
    rw [e, ← List.map_map]
    exact List.Pairwise.map List.reverse (fun a b hab e => hab (by have := congrArg List.reverse e; simpa using this)) hnd
  refine list_ext0 (by simp [gapNums_len']) fun k hk => ?_
  rw [gapNums_len', List.length_reverse] at hk
  have e : (gapNums T w).reverse.getD k 0 = (gapNums T w).getD (w.length - k) 0 := by
    rw [List.getD_eq_getElem?_getD, List.getElem?_reverse (by rw [gapNums_len']; exact hk), gapNums_len', List.getD_eq_getElem?_getD]
    congr 2
  rw [e]
  refine int_eq_of_le fun M => ?_
  rw [gap_le2 R (fun f hm => hf f (hp.mem_iff.mp hm)) ((hp.map _).nodup_iff.mpr hnd) hw (by omega), gap_le2 Rm (fun f hm => by obtain ⟨g, hg, rfl⟩ := List.mem_map.mp hm; exact (hf g hg).rev) hnd2 (fun l hl => hw l (by simpa using hl)) (by simpa using hk)]
  refine and_congr_right fun _ => forall_congr' fun d => imp_congr ?_ Iff.rfl
  rw [over_rev_iff hf (by omega)]
  exact ⟨fun ⟨f, hm, r⟩ => ⟨f, hp.mem_iff.mpr hm, r⟩, fun ⟨f, hm, r⟩ => ⟨f, hp.mem_iff.mp hm, r⟩⟩

theorem range_all {α : Type} : ∀ l : List α, (List.range l.length).filterMap (l[·]?) = l
  | [] => rfl
  | x :: l => by
    rw [List.length_cons, List.range_succ_eq_map, List.filterMap_cons]
    simp only [List.getElem?_cons_zero, List.filterMap_map]
    congr 1
    exact range_all l
theorem filterMap_eq {α β : Type} {f g : α → Option β} : ∀ ks : List α, (∀ k ∈ ks, f k = g k) → ks.filterMap f = ks.filterMap g
  | [], _ => rfl
  | k :: ks, h => by
    rw [List.filterMap_cons, List.filterMap_cons, h k List.mem_cons_self, filterMap_eq ks fun x hx => h x (List.mem_cons_of_mem _ hx)]
theorem pick_rev {α : Type} (xs : List α) : pick xs none none (some (-1)) = xs.reverse := by
  unfold pick
  have e1 : sliceBounds none none (some (-1)) xs.length = ((xs.length : Int) - 1, -1, -1) := rfl
  rw [e1]
  have e4 : (if (xs.length : Int) - 1 > -1 then ((xs.length : Int) - 1 - -1 - -1 - 1) / (- -1) else 0).toNat = xs.length := by
    by_cases h : (xs.length : Int) - 1 > -1
    · rw [if_pos h, show (- -1 : Int) = 1 from rfl, Int.ediv_one]; omega
    · rw [if_neg h]; omega
  have e2 : sliceRange ((xs.length : Int) - 1) (-1) (-1) = (List.range xs.length).map fun k : Nat => ((xs.length : Int) - 1 + -1 * (k : Int)).toNat := by
    show (List.range (if (-1 : Int) > 0 then _ else (if (xs.length : Int) - 1 > -1 then ((xs.length : Int) - 1 - -1 - -1 - 1) / (- -1) else 0)).toNat).map _ = _
    rw [if_neg (by decide), e4]
  rw [e2, List.filterMap_map]
  have e3 := range_all xs.reverse
  rw [List.length_reverse] at e3
  refine Eq.trans (filterMap_eq _ fun k hk => ?_) e3
  have hk' := List.mem_range.mp hk
  simp only [Function.comp]
  rw [List.getElem?_reverse hk']
  congr 1; omega
/-! other letters -/
def Dom (l : Int) : Prop := l = 0 ∨ 97 ≤ l ∧ l ≤ 99
structure RenOk (ns : List Int) : Prop where
  n : ns.length = 3
  nd : ns.Nodup
  ok : ∀ l ∈ ns, 1 ≤ l ∧ l ≤ 255
section
variable {ns : List Int} (h : RenOk ns)
include h
theorem ren_at {l : Int} (hl : 97 ≤ l ∧ l ≤ 99) : ∃ j, j < 3 ∧ l = 97 + (j : Nat) ∧ ns[j]? = some (ren ns l) := by
  refine ⟨(l - 97).toNat, by omega, by omega, ?_⟩
  unfold ren
  rw [if_neg (by omega), List.getD_eq_getElem?_getD, List.getElem?_eq_getElem (by rw [h.n]; omega)]; rfl
theorem ren_ok {l : Int} (hl : 97 ≤ l ∧ l ≤ 99) : 1 ≤ ren ns l ∧ ren ns l ≤ 255 := by
  obtain ⟨j, _, _, e⟩ := ren_at h hl
  exact h.ok _ (List.mem_of_getElem? e)
theorem ren_inj {a b : Int} (ha : Dom a) (hb : Dom b) (e : ren ns a = ren ns b) : a = b := by
  have z : ren ns 0 = 0 := by unfold ren; rw [if_pos rfl]
  rcases ha with rfl | ha <;> rcases hb with rfl | hb
  · rfl
  · have := ren_ok h hb; rw [z] at e; omega
  · have := ren_ok h ha; rw [z] at e; omega
  · obtain ⟨i, hi, e1, k1⟩ := ren_at h ha
    obtain ⟨j, hj, e2, k2⟩ := ren_at h hb
    rw [e] at k1
    have : i = j := by
      obtain ⟨i1, i2⟩ := List.getElem?_eq_some_iff.mp k1
      obtain ⟨j1, j2⟩ := List.getElem?_eq_some_iff.mp k2
      have q := List.pairwise_iff_getElem.mp h.nd
      rcases Nat.lt_trichotomy i j with k | k | k
      · exact absurd (i2.trans j2.symm) (q i j i1 j1 k)
      · exact k
      · exact absurd (j2.trans i2.symm) (q j i j1 i1 k)
    omega
theorem ren_map_inj : ∀ {a b : List Int}, (∀ l ∈ a, Dom l) → (∀ l ∈ b, Dom l) → a.map (ren ns) = b.map (ren ns) → a = b
  | [], [], _, _, _ => rfl
  | [], y :: b, _, _, e => by cases e
  | x :: a, [], _, _, e => by cases e
  | x :: a, y :: b, ha, hb, e => by
    simp only [List.map_cons, List.cons.injEq] at e
    rw [ren_inj h (ha x List.mem_cons_self) (hb y List.mem_cons_self) e.1, ren_map_inj (fun l hl => ha l (List.mem_cons_of_mem _ hl)) (fun l hl => hb l (List.mem_cons_of_mem _ hl)) e.2]
end
theorem marks_ren (ns w : List Int) : marksOf (w.map (ren ns)) = (marksOf w).map (ren ns) := by
  have z : ren ns 0 = 0 := by unfold ren; rw [if_pos rfl]
  simp [marksOf, z]
theorem marks_dom {w : List Int} (hw : L9 w) : ∀ l ∈ marksOf w, Dom l := fun l hl => by
  simp only [marksOf, List.mem_append, List.mem_cons, List.not_mem_nil, or_false] at hl
  rcases hl with (rfl | hl) | rfl
  · exact .inl rfl
  · exact .inr (hw l hl)
  · exact .inl rfl
def nmF (ns : List Int) (f : Form) : Form := (f.1.map (ren ns), f.2)
theorem FormOk2.nm {ns : List Int} (h : RenOk ns) {f : Form} {w : List Int} {a b : Bool} (k : FormOk2 f w a b) : PatL (nmF ns f).1 (w.map (ren ns)) a b := by
  have z : ren ns 0 = 0 := by unfold ren; rw [if_pos rfl]
  have e : ∀ c, (edges c).map (ren ns) = edges c := fun c => by cases c <;> simp [edges, z]
  refine ⟨by simp [nmF, k.l.eq, e], by simp [k.l.ne], fun l hl => ?_⟩
  obtain ⟨l', hl', rfl⟩ := List.mem_map.mp hl
  exact ren_ok h (k.l9 l' hl')
theorem FormOk2.nmG {ns : List Int} (h : RenOk ns) {f : Form} {w : List Int} {a b : Bool} (k : FormOk2 f w a b) : FormG (nmF ns f) := by
  obtain ⟨_, _, _, _, _, _, hs⟩ := k.g
  exact ⟨_, a, b, k.nm h, by simp [nmF, k.n], k.d, by simpa [nmF] using hs⟩
theorem FormOk2.nmRow {ns : List Int} (h : RenOk ns) {f : Form} {w : List Int} {a b : Bool} (k : FormOk2 f w a b) : fRow (nmF ns f) = fRow f := by
  obtain ⟨a1, b1⟩ := k.l.sA
  obtain ⟨a2, b2⟩ := (k.nm h).sA
  unfold fRow
  rw [← a1, ← b1, ← a2, ← b2]; rfl
theorem FormOk2.dom {f : Form} {w : List Int} {a b : Bool} (k : FormOk2 f w a b) : ∀ l ∈ f.1, Dom l := fun l hl => by
  rw [k.l.eq] at hl
  have e0 : ∀ c, ∀ l ∈ edges c, l = 0 := by intro c l hl; cases c <;> simp [edges] at hl; exact hl
  rcases List.mem_append.mp hl with hl | hl
  · rcases List.mem_append.mp hl with hl | hl
    · exact .inl (e0 _ _ hl)
    · exact .inr (k.l9 l hl)
  · exact .inl (e0 _ _ hl)
theorem over_ren {ns : List Int} (h : RenOk ns) {fs : List Form} (hf : FormsOk2 fs) {w : List Int} (hw : L9 w) {k : Nat} {d : Int} : OverF (fs.map (nmF ns)) (w.map (ren ns)) k d ↔ OverF fs w k d := by
  constructor
  · rintro ⟨f', hm0, u, r, e, hu, hd⟩
    obtain ⟨f, hm, rfl⟩ := List.mem_map.mp hm0
    obtain ⟨w1, a, b, kf⟩ := hf.ok f hm
    rw [marks_ren] at e
    obtain ⟨l1, r1, e1, e2, rfl⟩ := List.map_eq_append_iff.mp e
    obtain ⟨u1, v1, rfl, rfl, e3⟩ := List.map_eq_append_iff.mp e2
    have hd1 := marks_dom hw
    rw [e1] at hd1
    have ev : v1 = f.1 := ren_map_inj h (fun l hl => hd1 l (by simp [hl])) kf.dom e3
    subst ev
    rw [kf.nmRow h, List.length_map] at hd
    exact ⟨f, hm, u1, r1, e1, by simpa using hu, hd⟩
  · rintro ⟨f, hm, u, r, e, hu, hd⟩
    obtain ⟨w1, a, b, kf⟩ := hf.ok f hm
    refine ⟨nmF ns f, List.mem_map_of_mem hm, u.map (ren ns), r.map (ren ns), ?_, by simpa using hu, ?_⟩
    · rw [marks_ren, e]; simp [nmF]
    · rw [kf.nmRow h, List.length_map]; exact hd
theorem nm_nd {ns : List Int} (h : RenOk ns) {fs : List Form} (hf : FormsOk2 fs) : ((fs.map (nmF ns)).map (·.1)).Nodup := by
  have e : (fs.map (nmF ns)).map (·.1) = (fs.map (·.1)).map (List.map (ren ns)) := by rw [List.map_map, List.map_map]; rfl
  rw [e]
  refine List.pairwise_map.mpr (List.Pairwise.imp_of_mem (fun {a b} ha hb hab q => ?_) hf.nd)
  obtain ⟨f, hm, rfl⟩ := List.mem_map.mp ha
  obtain ⟨g, hg, rfl⟩ := List.mem_map.mp hb
  obtain ⟨_, _, _, kf⟩ := hf.ok f hm
  obtain ⟨_, _, _, kg⟩ := hf.ok g hg
  exact hab (ren_map_inj h kf.dom kg.dom q)
theorem gap_ren {T Tn : Tab} {gs fs : List Form} {ns w w0 w1 : List Int} {st s1 : Option (List Int)} (h : RenOk ns) (R : Rep2 T gs w0 st) (Rn : Rep2 Tn (fs.map (nmF ns)) w1 s1) (hp : gs.Perm fs) (hf : FormsOk2 fs) (hw : L9 w) : gapNums Tn (w.map (ren ns)) = gapNums T w := by
  refine list_ext0 (by simp [gapNums_len']) fun k hk => int_eq_of_le fun M => ?_
  rw [gapNums_len', List.length_map] at hk
  rw [gap_le2 R (fun f hm => hf.g f (hp.mem_iff.mp hm)) ((hp.map _).nodup_iff.mpr hf.nd) hw.ok hk, gap_le2 Rn (fun f hm => by obtain ⟨g, hg, rfl⟩ := List.mem_map.mp hm; obtain ⟨_, _, _, kg⟩ := hf.ok g hg; exact kg.nmG h) (nm_nd h hf) (fun l hl => by obtain ⟨l', hl', rfl⟩ := List.mem_map.mp hl; exact ren_ok h (hw l' hl')) (by simpa using hk)]
  refine and_congr_right fun _ => forall_congr' fun d => imp_congr ?_ Iff.rfl
  rw [over_ren h hf hw]
  exact ⟨fun ⟨f, hm, r⟩ => ⟨f, hp.mem_iff.mpr hm, r⟩, fun ⟨f, hm, r⟩ => ⟨f, hp.mem_iff.mp hm, r⟩⟩
/-! points -/
def rangeI (n : Nat) : List Int := (List.range (n + 1)).map fun i : Nat => (i : Int)
def ptsF (n : Nat) (l r : Int) (sel : Int → Bool) : List Int := (rangeI n).filter fun p => between (leastP l) (n - leastP r) p && sel p
def selOf (T : Tab) (w : List Int) : Option (List Int) → Int → Bool
  | none, p => (gapNums T w).getD p.toNat 0 % 2 == 1
  | some s, p => decide (p ∈ s)
theorem rangeI_mem {n : Nat} {p : Int} : p ∈ rangeI n ↔ 0 ≤ p ∧ p ≤ n := by
  unfold rangeI
  simp only [List.mem_map, List.mem_range]
  constructor
  · rintro ⟨i, hi, rfl⟩; omega
  · intro h; exact ⟨p.toNat, by omega, by omega⟩
theorem pts2 {T : Tab} {fs : List Form} {w : List Int} {st : Option (List Int)} (R : Rep2 T fs w st) (hw : w.length ≤ 63) (l r : Int) : pointsT T w l r = ptsF w.length l r (selOf T w st) := by
  have hL := leastP_pos l
  have hR := leastP_pos r
  cases st with
  | none =>
    rw [points_none hw (by rw [R.exc])]
    unfold pointsG ptsF selOf
    rw [range_between (n := w.length) (by omega) (by omega), List.filter_filter]
    refine List.filter_congr fun x _ => Bool.and_comm ..
  | some s =>
    rw [points_some hw (by rw [R.exc]; exact if_pos rfl)]
    unfold ptsF selOf excOf rangeI
    rw [List.filter_filter]
theorem ptsF_congr {n : Nat} {l r : Int} {s1 s2 : Int → Bool} (h : ∀ p : Int, 0 ≤ p → p ≤ n → s1 p = s2 p) : ptsF n l r s1 = ptsF n l r s2 := by
  unfold ptsF
  refine List.filter_congr fun x hx => ?_
  obtain ⟨h0, h1⟩ := rangeI_mem.mp hx
  rw [h x h0 h1]
theorem rangeI_rev (n : Nat) : ((rangeI n).map fun p => (n : Int) - p).reverse = rangeI n := by
  unfold rangeI
  refine List.ext_getElem? fun i => ?_
  by_cases hi : i < n + 1
  · rw [List.getElem?_reverse (by simpa using hi)]
    simp only [List.length_map, List.length_range, List.getElem?_map]
    rw [List.getElem?_range (by omega), List.getElem?_range hi]
    simp only [Option.map_some, Option.some.injEq]
    omega
  · rw [List.getElem?_eq_none_iff.mpr (by simp; omega), List.getElem?_eq_none_iff.mpr (by simp; omega)]
theorem ptsF_rev (n : Nat) (l r : Int) (sel : Int → Bool) : ((ptsF n r l sel).map fun p => (n : Int) - p).reverse = ptsF n l r fun p => sel (n - p) := by
  have e : ∀ (c : Int → Bool) (xs : List Int), ((xs.filter fun p => c p).map fun p => (n : Int) - p) = (xs.map fun p => (n : Int) - p).filter fun p => c (n - p) := fun c xs => by
    rw [List.filter_map]
    congr 1
    refine List.filter_congr fun x _ => ?_
    simp only [Function.comp]
    rw [show (n : Int) - (n - x) = x by omega]
  unfold ptsF
  rw [e, ← List.filter_reverse, rangeI_rev]
  refine List.filter_congr fun p _ => ?_
  congr 1
  unfold between
  rw [decide_eq_decide]
  omega
theorem pts_rev {T Tm : Tab} {gs fs : List Form} {w : List Int} {st : Option (List Int)} (R : Rep2 T gs w st) (Rm : Rep2 Tm (fs.map revF) w.reverse (st.map fun s => s.map fun k => (w.length : Int) - k)) (hp : gs.Perm fs) (hf : ∀ f ∈ fs, FormG f) (hnd : (fs.map (·.1)).Nodup) (hw : ∀ l ∈ w, 1 ≤ l ∧ l ≤ 255) (hsz : w.length ≤ 63) (l r : Int) :
    ((pointsT Tm w.reverse r l).map fun p => (w.length : Int) - p).reverse = pointsT T w l r := by
  rw [pts2 Rm (by simpa using hsz), pts2 R hsz, List.length_reverse, ptsF_rev]
  refine ptsF_congr fun p h0 h1 => ?_
  cases st with
  | none =>
    simp only [Option.map_none, selOf]
    rw [gap_rev R Rm hp hf hnd hw]
    congr 2
    rw [List.getD_eq_getElem?_getD, List.getElem?_reverse (by rw [gapNums_len']; omega), gapNums_len', List.getD_eq_getElem?_getD]
    congr 2
    omega
  | some s =>
    simp only [Option.map_some, selOf]
    rw [decide_eq_decide, List.mem_map]
    constructor
    · rintro ⟨q, hq, e⟩
      have : q = p := by omega
      exact this ▸ hq
    · intro hp'; exact ⟨p, hp', rfl⟩
theorem pts_ren {T Tn : Tab} {gs fs : List Form} {ns w : List Int} {st : Option (List Int)} (h : RenOk ns) (R : Rep2 T gs w st) (Rn : Rep2 Tn (fs.map (nmF ns)) (w.map (ren ns)) st) (hp : gs.Perm fs) (hf : FormsOk2 fs) (hw : L9 w) (hsz : w.length ≤ 63) (l r : Int) :
    pointsT Tn (w.map (ren ns)) l r = pointsT T w l r := by
  rw [pts2 Rn (by simpa using hsz), pts2 R hsz, List.length_map]
  refine ptsF_congr fun p h0 h1 => ?_
  cases st with
  | none => simp only [selOf]; rw [gap_ren h R Rn hp hf hw]
  | some s => rfl
theorem pts_zero {T : Tab} {w : List Int} (R : Rep2 T [] w none) (hw : ∀ l ∈ w, 1 ≤ l ∧ l ≤ 255) (hsz : w.length ≤ 63) (l r : Int) : pointsT T w l r = [] := by
  rw [pts2 R hsz]
  unfold ptsF
  rw [List.filter_eq_nil_iff]
  intro p hp
  simp only [selOf]
  rw [gap_none R hw, List.getD_eq_getElem?_getD, List.getElem?_replicate]
  split <;> simp
theorem pts_odd {T : Tab} {fs : List Form} {w : List Int} (R : Rep2 T fs w none) (hsz : w.length ≤ 63) (l r : Int) : (pointsT T w l r).filter (fun p => (gapNums T w).getD p.toNat 0 % 2 == 0) = [] := by
  rw [pts2 R hsz, List.filter_eq_nil_iff]
  intro p hp
  have := (List.mem_filter.mp hp).2
  simp only [Bool.and_eq_true, selOf, beq_iff_eq] at this
  simp only [beq_iff_eq]
  omega
theorem pts_mem {T : Tab} {fs : List Form} {w : List Int} {st : Option (List Int)} (R : Rep2 T fs w st) (hsz : w.length ≤ 63) {l r p : Int} (h : p ∈ pointsT T w l r) : 0 ≤ p ∧ p ≤ w.length := by
  rw [pts2 R hsz] at h
  exact rangeI_mem.mp (List.mem_filter.mp h).1
theorem ptsF_len (n : Nat) (l r : Int) (sel : Int → Bool) : (ptsF n l r sel).length ≤ n + 1 := by
  unfold ptsF
  exact Nat.le_trans (List.length_filter_le _ _) (by simp [rangeI])

/-- the objects that a round still reads -/
structure Live (o : Objs) (b : Nat) (L : List (Nat × SO)) : Prop where
  eb : ∃ x y, o b = some (.list [.int x, .int y])
  at' : ∀ p ∈ L, o p.1 = some p.2
  nd : (b :: L.map (·.1)).Nodup
section
variable {o : Objs} {b : Nat} {L A C : List (Nat × SO)} {n : Nat} {X Y : SO}
theorem Live.get (h : Live o b L) (hm : (n, X) ∈ L) : o n = some X := h.at' _ hm
theorem Live.box (h : Live o b L) (x y : Int) : Live (upd o b (.list [.int x, .int y])) b L := by
  refine ⟨⟨x, y, upd_same ..⟩, fun p hp => ?_, h.nd⟩
  have : p.1 ≠ b := fun e => (List.nodup_cons.mp h.nd).1 (e ▸ List.mem_map_of_mem hp)
  rw [upd_ne this, h.at' p hp]
theorem Live.new (h : Live o b L) (hn : o n = none) : Live (upd o n X) b ((n, X) :: L) := by
  obtain ⟨x, y, hb⟩ := h.eb
  have hbn : b ≠ n := ne_of hn hb
  have hL : ∀ p ∈ L, p.1 ≠ n := fun p hp => ne_of hn (h.at' p hp)
  obtain ⟨n1, n2⟩ := List.nodup_cons.mp h.nd
  refine ⟨⟨x, y, by rw [upd_ne hbn, hb]⟩, fun p hp => ?_, ?_⟩
  · rcases List.mem_cons.mp hp with rfl | hp
    · exact upd_same ..
    · rw [upd_ne (hL p hp), h.at' p hp]
  · simp only [List.map_cons, List.nodup_cons, List.mem_cons, not_or]
    refine ⟨⟨hbn, n1⟩, fun q => ?_, n2⟩
    obtain ⟨p, hp, e⟩ := List.mem_map.mp q
    exact hL p hp e
theorem Live.setAt (A : List (Nat × SO)) (h : Live o b (A ++ (n, X) :: C)) : Live (upd o n Y) b (A ++ (n, Y) :: C) := by
  obtain ⟨x, y, hb⟩ := h.eb
  have nd := h.nd
  simp only [List.map_append, List.map_cons, List.nodup_cons, List.mem_append, List.mem_cons, not_or, List.nodup_append] at nd
  obtain ⟨⟨nA, nbn, nC⟩, ndA, ⟨nnC, ndC⟩, dis⟩ := nd
  refine ⟨⟨x, y, by rw [upd_ne nbn, hb]⟩, fun p hp => ?_, by simpa using h.nd⟩
  rcases List.mem_append.mp hp with hp | hp
  · have : p.1 ≠ n := fun e => dis _ (List.mem_map_of_mem hp) n (.inl rfl) e
    rw [upd_ne this, h.at' p (List.mem_append_left _ hp)]
  · rcases List.mem_cons.mp hp with rfl | hp
    · exact upd_same ..
    · have : p.1 ≠ n := fun e => nnC (e ▸ List.mem_map_of_mem hp)
      rw [upd_ne this, h.at' p (List.mem_append_right _ (List.mem_cons_of_mem _ hp))]
end
theorem asL_of {o : Objs} {n : Nat} {xs : List V} (h : o n = some (.list xs)) : asL o (.obj n) = some xs := by simp only [asL, h]
theorem names_pick {r : Int} (h0 : 0 ≤ r) (h1 : r < 3) : ∃ ns, RenOk ns ∧ atI [V.lst (vints [200, 1, 255]), V.lst (vints [98, 97, 99]), V.lst (vints [122, 65, 97])] r = some (.lst (vints ns)) := by
  have : r = 0 ∨ r = 1 ∨ r = 2 := by omega
  rcases this with rfl | rfl | rfl
  · exact ⟨_, ⟨rfl, by decide, by decide⟩, atI_nat (by decide) rfl⟩
  · exact ⟨_, ⟨rfl, by decide, by decide⟩, atI_nat (by decide) rfl⟩
  · exact ⟨_, ⟨rfl, by decide, by decide⟩, atI_nat (by decide) rfl⟩
theorem repl_vints (k : Nat) (w : List Int) : (List.replicate k (vints w)).flatten = vints (List.replicate k w).flatten := by
  induction k with
  | zero => rfl
  | succ k ih => rw [List.replicate_succ, List.flatten_cons, ih, List.replicate_succ, List.flatten_cons]; simp only [vints, List.map_append]
theorem repl_len (k : Nat) (w : List Int) : (List.replicate k w).flatten.length = k * w.length := by
  induction k with
  | zero => simp
  | succ k ih => rw [List.replicate_succ, List.flatten_cons, List.length_append, ih, Nat.succ_mul]; omega
theorem repl_mem {k : Nat} {w : List Int} {l : Int} (h : l ∈ (List.replicate k w).flatten) : l ∈ w := by
  obtain ⟨a, ha, hl⟩ := List.mem_flatten.mp h
  rw [List.eq_of_mem_replicate ha] at hl; exact hl
theorem Rep2.add {T : Tab} {fs : List Form} {w : List Int} (R : Rep2 T fs w none) {f : Form} (hf : FormG f) (hn : f.1 ∉ fs.map (·.1)) : Rep2 (addT T f.1 f.2 (sA f.1) (eA f.1)) (fs ++ [f]) w none := by
  obtain ⟨b1, b2, b3, b4⟩ := addT_bounds (a := sA f.1) (b := eA f.1) (ds := f.2) R.wf hf.lets
  obtain ⟨_, _, _, _, _, _, hs⟩ := id hf
  refine ⟨addT_wf R.wf hf.lets, fun p hp => ?_, ?_, ?_, fun k => by rw [b4, R.exc]⟩
  · rw [addT_at R.wf hf.lets hp, patsOf_snoc hn, R.at' p hp]; rfl
  · have := R.nl; simp only [List.length_append, List.length_singleton]; omega
  · rw [b2, R.nn]; simp
theorem Rep2.no {T : Tab} {fs : List Form} {w : List Int} {st : Option (List Int)} (R : Rep2 T fs w st) {ls : List Int} (hl : Lets ls) (h : ls ∉ fs.map (·.1)) : T.numbers (stateOf T ls) = none := by
  rw [numAt_st R.wf, R.at' ls hl]
  cases e : patsOf fs ls with
  | none => rfl
  | some row =>
    obtain ⟨f, hf, h1, _⟩ := patsOf_mem e
    exact absurd (h1 ▸ List.mem_map_of_mem hf) h
theorem zeros_flat (k : Nat) : (List.replicate k [V.int 0]).flatten = vints (List.replicate k 0) := by
  induction k with
  | zero => rfl
  | succ k ih => rw [List.replicate_succ, List.flatten_cons, ih]; rfl
theorem rev_nd {fs : List Form} (hnd : (fs.map (·.1)).Nodup) : ((fs.map revF).map (·.1)).Nodup := by
  rw [List.map_map]
  have e : ((fun f : Form => f.1) ∘ revF) = List.reverse ∘ (fun f : Form => f.1) := rfl
  rw [e, ← List.map_map]
  exact List.Pairwise.map List.reverse (fun a b hab e => hab (by have := congrArg List.reverse e; simpa using this)) hnd
theorem take_snoc {fs : List Form} {k : Nat} (h : k < fs.length) : fs.take (k + 1) = fs.take k ++ [fs[k]] := by
  rw [List.take_succ, List.getElem?_eq_getElem h]; rfl

structure B1 (B : Bs) : Prop where
  K : B.K = heapK B.w.params
  C : B.C = 178

section
variable {B : Bs} {G : Glb} {d : Nat} {sc : Scope} {loc : Loc} {g : Gh} {o : Objs} {s : Shared} {Q : V → Objs → Prop}

theorem g_isinstance (h : B1 B) : GlobOk B "isinstance" (.raw (.builtin "isinstance")) := glob_b (by decide) (by rw [h.K]; kernel_rfl) (by kernel_rfl) (by decide)
theorem g_int (h : B1 B) : GlobOk B "int" (.raw (.type "int")) := glob_b (by decide) (by rw [h.K]; kernel_rfl) (by kernel_rfl) (by decide)
theorem g_bool (h : B1 B) : GlobOk B "bool" (.raw (.type "bool")) := glob_b (by decide) (by rw [h.K]; kernel_rfl) (by kernel_rfl) (by decide)
theorem g_BadArgument (h : B1 B) : GlobOk B "BadArgument" (.raw (.ref 52)) := glob_f (by decide) (by rw [h.K]; kernel_rfl)
theorem g_tuple (h : B1 B) : GlobOk B "tuple" (.raw (.type "tuple")) := glob_b (by decide) (by rw [h.K]; kernel_rfl) (by kernel_rfl) (by decide)
theorem g_list (h : B1 B) : GlobOk B "list" (.raw (.type "list")) := glob_b (by decide) (by rw [h.K]; kernel_rfl) (by kernel_rfl) (by decide)
theorem g_len (h : B1 B) : GlobOk B "len" (.raw (.builtin "len")) := glob_b (by decide) (by rw [h.K]; kernel_rfl) (by kernel_rfl) (by decide)
theorem g_is_whole (h : B1 B) : GlobOk B "is_whole" (.raw (.ref 73)) := glob_f (by decide) (by rw [h.K]; kernel_rfl)
theorem g_EDGE (h : B1 B) : GlobOk B "EDGE" (.int 0) := glob_i (by decide) (by rw [h.K]; kernel_rfl)
theorem g_BadPattern (h : B1 B) : GlobOk B "BadPattern" (.raw (.ref 64)) := glob_f (by decide) (by rw [h.K]; kernel_rfl)
theorem g_is_word (h : B1 B) : GlobOk B "is_word" (.raw (.ref 87)) := glob_f (by decide) (by rw [h.K]; kernel_rfl)
theorem g_inner_letters (h : B1 B) : GlobOk B "inner_letters" (.raw (.ref 94)) := glob_f (by decide) (by rw [h.K]; kernel_rfl)
theorem g_LONGEST (h : B1 B) : GlobOk B "LONGEST" (.int 63) := glob_i (by decide) (by rw [h.K]; kernel_rfl)
theorem g_max (h : B1 B) : GlobOk B "max" (.raw (.builtin "max")) := glob_b (by decide) (by rw [h.K]; kernel_rfl) (by kernel_rfl) (by decide)
theorem g_min (h : B1 B) : GlobOk B "min" (.raw (.builtin "min")) := glob_b (by decide) (by rw [h.K]; kernel_rfl) (by kernel_rfl) (by decide)
theorem g_check_whole (h : B1 B) : GlobOk B "check_whole" (.raw (.ref 80)) := glob_f (by decide) (by rw [h.K]; kernel_rfl)
theorem g_check_pattern (h : B1 B) : GlobOk B "check_pattern" (.raw (.ref 101)) := glob_f (by decide) (by rw [h.K]; kernel_rfl)
theorem g_wall (h : B1 B) : GlobOk B "_wall" (.raw (.ref 21)) := glob_f (by decide) (by rw [h.K]; kernel_rfl)
theorem g_word_key (h : B1 B) : GlobOk B "word_key" (.raw (.ref 108)) := glob_f (by decide) (by rw [h.K]; kernel_rfl)
theorem g_range (h : B1 B) : GlobOk B "range" (.raw (.type "range")) := glob_b (by decide) (by rw [h.K]; kernel_rfl) (by kernel_rfl) (by decide)
theorem g_least_part (h : B1 B) : GlobOk B "least_part" (.raw (.ref 115)) := glob_f (by decide) (by rw [h.K]; kernel_rfl)
theorem g_abs (h : B1 B) : GlobOk B "abs" (.raw (.builtin "abs")) := glob_b (by decide) (by rw [h.K]; kernel_rfl) (by kernel_rfl) (by decide)
theorem g_law_take (h : B1 B) : GlobOk B "_law_take" (.raw (.ref 196)) := glob_f (by decide) (by rw [h.K]; kernel_rfl)
theorem g_Patterns (h : B1 B) : GlobOk B "Patterns" (.raw (.ref 178)) := glob_f (by decide) (by rw [h.K]; kernel_rfl)
theorem g_law_forms (h : B1 B) : GlobOk B "_law_forms" (.raw (.ref 201)) := glob_f (by decide) (by rw [h.K]; kernel_rfl)
theorem g_law_word (h : B1 B) : GlobOk B "_law_word" (.raw (.ref 225)) := glob_f (by decide) (by rw [h.K]; kernel_rfl)
theorem g_law_table (h : B1 B) : GlobOk B "_law_table" (.raw (.ref 208)) := glob_f (by decide) (by rw [h.K]; kernel_rfl)
theorem g_law_mixed (h : B1 B) : GlobOk B "_law_mixed" (.raw (.ref 215)) := glob_f (by decide) (by rw [h.K]; kernel_rfl)
theorem g_law_other (h : B1 B) : GlobOk B "_law_other" (.raw (.ref 220)) := glob_f (by decide) (by rw [h.K]; kernel_rfl)
theorem g_law_round (h : B1 B) : GlobOk B "_law_round" (.raw (.ref 230)) := glob_f (by decide) (by rw [h.K]; kernel_rfl)
theorem g_law_box (h : B1 B) : GlobOk B "_law_box" (.raw (.ref 189)) := glob_f (by decide) (by rw [h.K]; kernel_rfl)
theorem g_sum (h : B1 B) : GlobOk B "sum" (.raw (.builtin "sum")) := glob_b (by decide) (by rw [h.K]; kernel_rfl) (by kernel_rfl) (by decide)
theorem g_law (h : B1 B) : GlobOk B "law" (.raw (.ref 237)) := glob_f (by decide) (by rw [h.K]; kernel_rfl)
theorem keepIn1 (P : Params) : [21, 73, 80, 87, 94, 101, 108, 115, 129, 136, 143, 150, 155, 162, 169, 175, 189, 196, 201, 208, 215, 220, 225, 230, 237, 178].all (fun a => keepIn (heapK P) (.ref a)) = true := by kernel_rfl
theorem keep1 (h : B1 B) {a : Addr} (ha : a ∈ [21, 73, 80, 87, 94, 101, 108, 115, 129, 136, 143, 150, 155, 162, 169, 175, 189, 196, 201, 208, 215, 220, 225, 230, 237, 178]) : KeepOk B (.ref a) := .inr (.inr (by rw [h.K]; exact List.all_eq_true.mp (keepIn1 _) a ha))
theorem tabOk (h : B1 B) : TabOk B.K B.C := by
  rw [h.C, h.K]
  exact ⟨by kernel_rfl, by kernel_rfl, by kernel_rfl, by kernel_rfl, by kernel_rfl, by kernel_rfl, by kernel_rfl, by kernel_rfl⟩
theorem tabMk (h : B1 B) : makesIn B.K B.C = true := by
  rw [h.C, h.K]; kernel_rfl

theorem f_wall (h : B1 B) : FnAt B 21 ["k"] (bodyOf (heapK B.w.params) 21) (scopeOf (heapK B.w.params) 21) := by
  rw [← h.K]
  exact fnAt1 (by rw [h.K]; kernel_rfl) rfl fun a0 => by rw [h.K]; kernel_rfl
theorem ok_wall (P : Params) : fnOk (scopeOf (heapK P) 21) ["k"] [] = true := by kernel_rfl
theorem gs_wall (h : B1 B) : ∀ p ∈ ([] : List (Str × V)), (scopeOf (heapK B.w.params) 21).names.lookup p.1 = some .globalImplicit ∧ GlobOk B p.1 p.2 := gNil
theorem f_is_whole (h : B1 B) : FnAt B 73 ["value", "low", "high"] (bodyOf (heapK B.w.params) 73) (scopeOf (heapK B.w.params) 73) := by
  rw [← h.K]
  exact fnAt3 (by rw [h.K]; kernel_rfl) rfl fun a0 a1 a2 => by rw [h.K]; kernel_rfl
theorem ok_is_whole (P : Params) : fnOk (scopeOf (heapK P) 73) ["value", "low", "high"] [] = true := by kernel_rfl
theorem gs_is_whole (h : B1 B) : ∀ p ∈ [(("isinstance" : Str), (V.raw (.builtin "isinstance") : V)), (("int" : Str), (V.raw (.type "int") : V)), (("bool" : Str), (V.raw (.type "bool") : V))], (scopeOf (heapK B.w.params) 73).names.lookup p.1 = some .globalImplicit ∧ GlobOk B p.1 p.2 := gCons (by kernel_rfl) (g_isinstance h) (gCons (by kernel_rfl) (g_int h) (gCons (by kernel_rfl) (g_bool h) (gNil)))
theorem f_check_whole (h : B1 B) : FnAt B 80 ["value"] (bodyOf (heapK B.w.params) 80) (scopeOf (heapK B.w.params) 80) := by
  rw [← h.K]
  exact fnAt1 (by rw [h.K]; kernel_rfl) rfl fun a0 => by rw [h.K]; kernel_rfl
theorem ok_check_whole (P : Params) : fnOk (scopeOf (heapK P) 80) ["value"] [] = true := by kernel_rfl
theorem gs_check_whole (h : B1 B) : ∀ p ∈ [(("isinstance" : Str), (V.raw (.builtin "isinstance") : V)), (("int" : Str), (V.raw (.type "int") : V)), (("bool" : Str), (V.raw (.type "bool") : V)), (("BadArgument" : Str), (V.raw (.ref 52) : V))], (scopeOf (heapK B.w.params) 80).names.lookup p.1 = some .globalImplicit ∧ GlobOk B p.1 p.2 := gCons (by kernel_rfl) (g_isinstance h) (gCons (by kernel_rfl) (g_int h) (gCons (by kernel_rfl) (g_bool h) (gCons (by kernel_rfl) (g_BadArgument h) (gNil))))
theorem f_is_word (h : B1 B) : FnAt B 87 ["letters"] (bodyOf (heapK B.w.params) 87) (scopeOf (heapK B.w.params) 87) := by
  rw [← h.K]
  exact fnAt1 (by rw [h.K]; kernel_rfl) rfl fun a0 => by rw [h.K]; kernel_rfl
theorem ok_is_word (P : Params) : fnOk (scopeOf (heapK P) 87) ["letters"] ["letter"] = true := by kernel_rfl
theorem gs_is_word (h : B1 B) : ∀ p ∈ [(("isinstance" : Str), (V.raw (.builtin "isinstance") : V)), (("tuple" : Str), (V.raw (.type "tuple") : V)), (("list" : Str), (V.raw (.type "list") : V)), (("len" : Str), (V.raw (.builtin "len") : V)), (("is_whole" : Str), (V.raw (.ref 73) : V))], (scopeOf (heapK B.w.params) 87).names.lookup p.1 = some .globalImplicit ∧ GlobOk B p.1 p.2 := gCons (by kernel_rfl) (g_isinstance h) (gCons (by kernel_rfl) (g_tuple h) (gCons (by kernel_rfl) (g_list h) (gCons (by kernel_rfl) (g_len h) (gCons (by kernel_rfl) (g_is_whole h) (gNil)))))
theorem f_inner_letters (h : B1 B) : FnAt B 94 ["letters"] (bodyOf (heapK B.w.params) 94) (scopeOf (heapK B.w.params) 94) := by
  rw [← h.K]
  exact fnAt1 (by rw [h.K]; kernel_rfl) rfl fun a0 => by rw [h.K]; kernel_rfl
theorem ok_inner_letters (P : Params) : fnOk (scopeOf (heapK P) 94) ["letters"] ["begin", "end"] = true := by kernel_rfl
theorem gs_inner_letters (h : B1 B) : ∀ p ∈ [(("len" : Str), (V.raw (.builtin "len") : V)), (("EDGE" : Str), (V.int 0 : V)), (("list" : Str), (V.raw (.type "list") : V))], (scopeOf (heapK B.w.params) 94).names.lookup p.1 = some .globalImplicit ∧ GlobOk B p.1 p.2 := gCons (by kernel_rfl) (g_len h) (gCons (by kernel_rfl) (g_EDGE h) (gCons (by kernel_rfl) (g_list h) (gNil)))
theorem f_check_pattern (h : B1 B) : FnAt B 101 ["letters", "digits"] (bodyOf (heapK B.w.params) 101) (scopeOf (heapK B.w.params) 101) := by
  rw [← h.K]
  exact fnAt2 (by rw [h.K]; kernel_rfl) rfl fun a0 a1 => by rw [h.K]; kernel_rfl
theorem ok_check_pattern (P : Params) : fnOk (scopeOf (heapK P) 101) ["letters", "digits"] ["letter", "digit"] = true := by kernel_rfl
theorem gs_check_pattern (h : B1 B) : ∀ p ∈ [(("isinstance" : Str), (V.raw (.builtin "isinstance") : V)), (("tuple" : Str), (V.raw (.type "tuple") : V)), (("list" : Str), (V.raw (.type "list") : V)), (("BadArgument" : Str), (V.raw (.ref 52) : V)), (("is_whole" : Str), (V.raw (.ref 73) : V)), (("BadPattern" : Str), (V.raw (.ref 64) : V)), (("is_word" : Str), (V.raw (.ref 87) : V)), (("inner_letters" : Str), (V.raw (.ref 94) : V)), (("len" : Str), (V.raw (.builtin "len") : V)), (("LONGEST" : Str), (V.int 63 : V))], (scopeOf (heapK B.w.params) 101).names.lookup p.1 = some .globalImplicit ∧ GlobOk B p.1 p.2 := gCons (by kernel_rfl) (g_isinstance h) (gCons (by kernel_rfl) (g_tuple h) (gCons (by kernel_rfl) (g_list h) (gCons (by kernel_rfl) (g_BadArgument h) (gCons (by kernel_rfl) (g_is_whole h) (gCons (by kernel_rfl) (g_BadPattern h) (gCons (by kernel_rfl) (g_is_word h) (gCons (by kernel_rfl) (g_inner_letters h) (gCons (by kernel_rfl) (g_len h) (gCons (by kernel_rfl) (g_LONGEST h) (gNil))))))))))
theorem f_word_key (h : B1 B) : FnAt B 108 ["letters"] (bodyOf (heapK B.w.params) 108) (scopeOf (heapK B.w.params) 108) := by
  rw [← h.K]
  exact fnAt1 (by rw [h.K]; kernel_rfl) rfl fun a0 => by rw [h.K]; kernel_rfl
theorem ok_word_key (P : Params) : fnOk (scopeOf (heapK P) 108) ["letters"] ["found", "letter"] = true := by kernel_rfl
theorem gs_word_key (h : B1 B) : ∀ p ∈ ([] : List (Str × V)), (scopeOf (heapK B.w.params) 108).names.lookup p.1 = some .globalImplicit ∧ GlobOk B p.1 p.2 := gNil
theorem f_least_part (h : B1 B) : FnAt B 115 ["value"] (bodyOf (heapK B.w.params) 115) (scopeOf (heapK B.w.params) 115) := by
  rw [← h.K]
  exact fnAt1 (by rw [h.K]; kernel_rfl) rfl fun a0 => by rw [h.K]; kernel_rfl
theorem ok_least_part (P : Params) : fnOk (scopeOf (heapK P) 115) ["value"] [] = true := by kernel_rfl
theorem gs_least_part (h : B1 B) : ∀ p ∈ [(("max" : Str), (V.raw (.builtin "max") : V)), (("min" : Str), (V.raw (.builtin "min") : V)), (("LONGEST" : Str), (V.int 63 : V)), (("check_whole" : Str), (V.raw (.ref 80) : V))], (scopeOf (heapK B.w.params) 115).names.lookup p.1 = some .globalImplicit ∧ GlobOk B p.1 p.2 := gCons (by kernel_rfl) (g_max h) (gCons (by kernel_rfl) (g_min h) (gCons (by kernel_rfl) (g_LONGEST h) (gCons (by kernel_rfl) (g_check_whole h) (gNil))))
theorem f_init (h : B1 B) : FnAt B 129 ["self"] (bodyOf (heapK B.w.params) 129) (scopeOf (heapK B.w.params) 129) := by
  rw [← h.K]
  exact fnAt1 (by rw [h.K]; kernel_rfl) rfl fun a0 => by rw [h.K]; kernel_rfl
theorem ok_init (P : Params) : fnOk (scopeOf (heapK P) 129) ["self"] [] = true := by kernel_rfl
theorem gs_init (h : B1 B) : ∀ p ∈ ([] : List (Str × V)), (scopeOf (heapK B.w.params) 129).names.lookup p.1 = some .globalImplicit ∧ GlobOk B p.1 p.2 := gNil
theorem f_state_of (h : B1 B) : FnAt B 136 ["self", "letters"] (bodyOf (heapK B.w.params) 136) (scopeOf (heapK B.w.params) 136) := by
  rw [← h.K]
  exact fnAt2 (by rw [h.K]; kernel_rfl) rfl fun a0 a1 => by rw [h.K]; kernel_rfl
theorem ok_state_of (P : Params) : fnOk (scopeOf (heapK P) 136) ["self", "letters"] ["state", "letter"] = true := by kernel_rfl
theorem gs_state_of (h : B1 B) : ∀ p ∈ ([] : List (Str × V)), (scopeOf (heapK B.w.params) 136).names.lookup p.1 = some .globalImplicit ∧ GlobOk B p.1 p.2 := gNil
theorem m_state_of (h : B1 B) {t : Nat} {T : Tab} (ht : o t = some (.tab T)) : MethIs B o (.obj t) "state_of" (.ref 136) := MethIs.tab (tabOk h) ht (by rw [h.C, h.K]; kernel_rfl) (by rw [h.K]; kernel_rfl)
theorem f_add (h : B1 B) : FnAt B 143 ["self", "letters", "digits"] (bodyOf (heapK B.w.params) 143) (scopeOf (heapK B.w.params) 143) := by
  rw [← h.K]
  exact fnAt3 (by rw [h.K]; kernel_rfl) rfl fun a0 a1 a2 => by rw [h.K]; kernel_rfl
theorem ok_add (P : Params) : fnOk (scopeOf (heapK P) 143) ["self", "letters", "digits"] ["row", "state", "letter", "spot"] = true := by kernel_rfl
theorem gs_add (h : B1 B) : ∀ p ∈ [(("check_pattern" : Str), (V.raw (.ref 101) : V)), (("BadPattern" : Str), (V.raw (.ref 64) : V)), (("list" : Str), (V.raw (.type "list") : V)), (("EDGE" : Str), (V.int 0 : V)), (("tuple" : Str), (V.raw (.type "tuple") : V))], (scopeOf (heapK B.w.params) 143).names.lookup p.1 = some .globalImplicit ∧ GlobOk B p.1 p.2 := gCons (by kernel_rfl) (g_check_pattern h) (gCons (by kernel_rfl) (g_BadPattern h) (gCons (by kernel_rfl) (g_list h) (gCons (by kernel_rfl) (g_EDGE h) (gCons (by kernel_rfl) (g_tuple h) (gNil)))))
theorem m_add (h : B1 B) {t : Nat} {T : Tab} (ht : o t = some (.tab T)) : MethIs B o (.obj t) "add" (.ref 143) := MethIs.tab (tabOk h) ht (by rw [h.C, h.K]; kernel_rfl) (by rw [h.K]; kernel_rfl)
theorem f_add_text (h : B1 B) : FnAt B 150 ["self", "text"] (bodyOf (heapK B.w.params) 150) (scopeOf (heapK B.w.params) 150) := by
  rw [← h.K]
  exact fnAt2 (by rw [h.K]; kernel_rfl) rfl fun a0 a1 => by rw [h.K]; kernel_rfl
theorem ok_add_text (P : Params) : fnOk (scopeOf (heapK P) 150) ["self", "text"] [] = true := by kernel_rfl
theorem gs_add_text (h : B1 B) : ∀ p ∈ [(("_wall" : Str), (V.raw (.ref 21) : V))], (scopeOf (heapK B.w.params) 150).names.lookup p.1 = some .globalImplicit ∧ GlobOk B p.1 p.2 := gCons (by kernel_rfl) (g_wall h) (gNil)
theorem m_add_text (h : B1 B) {t : Nat} {T : Tab} (ht : o t = some (.tab T)) : MethIs B o (.obj t) "add_text" (.ref 150) := MethIs.tab (tabOk h) ht (by rw [h.C, h.K]; kernel_rfl) (by rw [h.K]; kernel_rfl)
theorem f_add_exception (h : B1 B) : FnAt B 155 ["self", "letters", "places"] (bodyOf (heapK B.w.params) 155) (scopeOf (heapK B.w.params) 155) := by
  rw [← h.K]
  exact fnAt3 (by rw [h.K]; kernel_rfl) rfl fun a0 a1 a2 => by rw [h.K]; kernel_rfl
theorem ok_add_exception (P : Params) : fnOk (scopeOf (heapK P) 155) ["self", "letters", "places"] ["place"] = true := by kernel_rfl
theorem gs_add_exception (h : B1 B) : ∀ p ∈ [(("isinstance" : Str), (V.raw (.builtin "isinstance") : V)), (("tuple" : Str), (V.raw (.type "tuple") : V)), (("list" : Str), (V.raw (.type "list") : V)), (("BadArgument" : Str), (V.raw (.ref 52) : V)), (("is_word" : Str), (V.raw (.ref 87) : V)), (("len" : Str), (V.raw (.builtin "len") : V)), (("LONGEST" : Str), (V.int 63 : V)), (("BadPattern" : Str), (V.raw (.ref 64) : V)), (("is_whole" : Str), (V.raw (.ref 73) : V)), (("word_key" : Str), (V.raw (.ref 108) : V)), (("range" : Str), (V.raw (.type "range") : V))], (scopeOf (heapK B.w.params) 155).names.lookup p.1 = some .globalImplicit ∧ GlobOk B p.1 p.2 := gCons (by kernel_rfl) (g_isinstance h) (gCons (by kernel_rfl) (g_tuple h) (gCons (by kernel_rfl) (g_list h) (gCons (by kernel_rfl) (g_BadArgument h) (gCons (by kernel_rfl) (g_is_word h) (gCons (by kernel_rfl) (g_len h) (gCons (by kernel_rfl) (g_LONGEST h) (gCons (by kernel_rfl) (g_BadPattern h) (gCons (by kernel_rfl) (g_is_whole h) (gCons (by kernel_rfl) (g_word_key h) (gCons (by kernel_rfl) (g_range h) (gNil)))))))))))
theorem m_add_exception (h : B1 B) {t : Nat} {T : Tab} (ht : o t = some (.tab T)) : MethIs B o (.obj t) "add_exception" (.ref 155) := MethIs.tab (tabOk h) ht (by rw [h.C, h.K]; kernel_rfl) (by rw [h.K]; kernel_rfl)
theorem f_add_word (h : B1 B) : FnAt B 162 ["self", "text"] (bodyOf (heapK B.w.params) 162) (scopeOf (heapK B.w.params) 162) := by
  rw [← h.K]
  exact fnAt2 (by rw [h.K]; kernel_rfl) rfl fun a0 a1 => by rw [h.K]; kernel_rfl
theorem ok_add_word (P : Params) : fnOk (scopeOf (heapK P) 162) ["self", "text"] [] = true := by kernel_rfl
theorem gs_add_word (h : B1 B) : ∀ p ∈ [(("_wall" : Str), (V.raw (.ref 21) : V))], (scopeOf (heapK B.w.params) 162).names.lookup p.1 = some .globalImplicit ∧ GlobOk B p.1 p.2 := gCons (by kernel_rfl) (g_wall h) (gNil)
theorem m_add_word (h : B1 B) {t : Nat} {T : Tab} (ht : o t = some (.tab T)) : MethIs B o (.obj t) "add_word" (.ref 162) := MethIs.tab (tabOk h) ht (by rw [h.C, h.K]; kernel_rfl) (by rw [h.K]; kernel_rfl)
theorem f_gap_numbers (h : B1 B) : FnAt B 169 ["self", "letters"] (bodyOf (heapK B.w.params) 169) (scopeOf (heapK B.w.params) 169) := by
  rw [← h.K]
  exact fnAt2 (by rw [h.K]; kernel_rfl) rfl fun a0 a1 => by rw [h.K]; kernel_rfl
theorem ok_gap_numbers (P : Params) : fnOk (scopeOf (heapK P) 169) ["self", "letters"] ["marks", "found", "begin", "state", "letter", "spot", "digit"] = true := by kernel_rfl
theorem gs_gap_numbers (h : B1 B) : ∀ p ∈ [(("EDGE" : Str), (V.int 0 : V)), (("list" : Str), (V.raw (.type "list") : V)), (("len" : Str), (V.raw (.builtin "len") : V)), (("range" : Str), (V.raw (.type "range") : V)), (("max" : Str), (V.raw (.builtin "max") : V))], (scopeOf (heapK B.w.params) 169).names.lookup p.1 = some .globalImplicit ∧ GlobOk B p.1 p.2 := gCons (by kernel_rfl) (g_EDGE h) (gCons (by kernel_rfl) (g_list h) (gCons (by kernel_rfl) (g_len h) (gCons (by kernel_rfl) (g_range h) (gCons (by kernel_rfl) (g_max h) (gNil)))))
theorem m_gap_numbers (h : B1 B) {t : Nat} {T : Tab} (ht : o t = some (.tab T)) : MethIs B o (.obj t) "gap_numbers" (.ref 169) := MethIs.tab (tabOk h) ht (by rw [h.C, h.K]; kernel_rfl) (by rw [h.K]; kernel_rfl)
theorem f_points (h : B1 B) : FnAt B 175 ["self", "letters", "left", "right"] (bodyOf (heapK B.w.params) 175) (scopeOf (heapK B.w.params) 175) := by
  rw [← h.K]
  have hk : B.K = heapK B.w.params := h.K
  refine fnAt_d (by rw [hk]; kernel_rfl) fun s vals X hl => ?_
  rw [hk] at X ⊢
  match vals, hl with
  | [a0, a1, a2, a3], _ => exact BindsTo.of_defaults rfl (X _ _ rfl) rfl rfl rfl
theorem ok_points (P : Params) : fnOk (scopeOf (heapK P) 175) ["self", "letters", "left", "right"] ["word", "first", "last", "kept", "numbers"] = true := by kernel_rfl
theorem gs_points (h : B1 B) : ∀ p ∈ [(("is_word" : Str), (V.raw (.ref 87) : V)), (("BadArgument" : Str), (V.raw (.ref 52) : V)), (("list" : Str), (V.raw (.type "list") : V)), (("LONGEST" : Str), (V.int 63 : V)), (("least_part" : Str), (V.raw (.ref 115) : V)), (("len" : Str), (V.raw (.builtin "len") : V)), (("word_key" : Str), (V.raw (.ref 108) : V)), (("range" : Str), (V.raw (.type "range") : V))], (scopeOf (heapK B.w.params) 175).names.lookup p.1 = some .globalImplicit ∧ GlobOk B p.1 p.2 := gCons (by kernel_rfl) (g_is_word h) (gCons (by kernel_rfl) (g_BadArgument h) (gCons (by kernel_rfl) (g_list h) (gCons (by kernel_rfl) (g_LONGEST h) (gCons (by kernel_rfl) (g_least_part h) (gCons (by kernel_rfl) (g_len h) (gCons (by kernel_rfl) (g_word_key h) (gCons (by kernel_rfl) (g_range h) (gNil))))))))
theorem m_points (h : B1 B) {t : Nat} {T : Tab} (ht : o t = some (.tab T)) : MethIs B o (.obj t) "points" (.ref 175) := MethIs.tab (tabOk h) ht (by rw [h.C, h.K]; kernel_rfl) (by rw [h.K]; kernel_rfl)
theorem f_law_box (h : B1 B) : FnAt B 189 ["cell", "more"] (bodyOf (heapK B.w.params) 189) (scopeOf (heapK B.w.params) 189) := by
  rw [← h.K]
  exact fnAt2 (by rw [h.K]; kernel_rfl) rfl fun a0 a1 => by rw [h.K]; kernel_rfl
theorem ok_law_box (P : Params) : fnOk (scopeOf (heapK P) 189) ["cell", "more"] [] = true := by kernel_rfl
theorem gs_law_box (h : B1 B) : ∀ p ∈ [(("max" : Str), (V.raw (.builtin "max") : V)), (("abs" : Str), (V.raw (.builtin "abs") : V)), (("int" : Str), (V.raw (.type "int") : V))], (scopeOf (heapK B.w.params) 189).names.lookup p.1 = some .globalImplicit ∧ GlobOk B p.1 p.2 := gCons (by kernel_rfl) (g_max h) (gCons (by kernel_rfl) (g_abs h) (gCons (by kernel_rfl) (g_int h) (gNil)))
theorem f_law_take (h : B1 B) : FnAt B 196 ["box", "many"] (bodyOf (heapK B.w.params) 196) (scopeOf (heapK B.w.params) 196) := by
  rw [← h.K]
  exact fnAt2 (by rw [h.K]; kernel_rfl) rfl fun a0 a1 => by rw [h.K]; kernel_rfl
theorem ok_law_take (P : Params) : fnOk (scopeOf (heapK P) 196) ["box", "many"] ["digit"] = true := by kernel_rfl
theorem gs_law_take (h : B1 B) : ∀ p ∈ ([] : List (Str × V)), (scopeOf (heapK B.w.params) 196).names.lookup p.1 = some .globalImplicit ∧ GlobOk B p.1 p.2 := gNil
theorem f_law_forms (h : B1 B) : FnAt B 201 ["box", "most"] (bodyOf (heapK B.w.params) 201) (scopeOf (heapK B.w.params) 201) := by
  rw [← h.K]
  exact fnAt2 (by rw [h.K]; kernel_rfl) rfl fun a0 a1 => by rw [h.K]; kernel_rfl
theorem ok_law_forms (P : Params) : fnOk (scopeOf (heapK P) 201) ["box", "most"] ["found", "turn", "letters", "way", "numbers"] = true := by kernel_rfl
theorem gs_law_forms (h : B1 B) : ∀ p ∈ [(("range" : Str), (V.raw (.type "range") : V)), (("_law_take" : Str), (V.raw (.ref 196) : V)), (("int" : Str), (V.raw (.type "int") : V)), (("len" : Str), (V.raw (.builtin "len") : V))], (scopeOf (heapK B.w.params) 201).names.lookup p.1 = some .globalImplicit ∧ GlobOk B p.1 p.2 := gCons (by kernel_rfl) (g_range h) (gCons (by kernel_rfl) (g_law_take h) (gCons (by kernel_rfl) (g_int h) (gCons (by kernel_rfl) (g_len h) (gNil))))
theorem f_law_table (h : B1 B) : FnAt B 208 ["forms", "word", "stands"] (bodyOf (heapK B.w.params) 208) (scopeOf (heapK B.w.params) 208) := by
  rw [← h.K]
  exact fnAt3 (by rw [h.K]; kernel_rfl) rfl fun a0 a1 a2 => by rw [h.K]; kernel_rfl
theorem ok_law_table (P : Params) : fnOk (scopeOf (heapK P) 208) ["forms", "word", "stands"] ["table", "letters", "numbers"] = true := by kernel_rfl
theorem gs_law_table (h : B1 B) : ∀ p ∈ [(("Patterns" : Str), (V.raw (.ref 178) : V))], (scopeOf (heapK B.w.params) 208).names.lookup p.1 = some .globalImplicit ∧ GlobOk B p.1 p.2 := gCons (by kernel_rfl) (g_Patterns h) (gNil)
theorem f_law_mixed (h : B1 B) : FnAt B 215 ["box", "rows"] (bodyOf (heapK B.w.params) 215) (scopeOf (heapK B.w.params) 215) := by
  rw [← h.K]
  exact fnAt2 (by rw [h.K]; kernel_rfl) rfl fun a0 a1 => by rw [h.K]; kernel_rfl
theorem ok_law_mixed (P : Params) : fnOk (scopeOf (heapK P) 215) ["box", "rows"] ["rest", "found"] = true := by kernel_rfl
theorem gs_law_mixed (h : B1 B) : ∀ p ∈ [(("list" : Str), (V.raw (.type "list") : V)), (("_law_take" : Str), (V.raw (.ref 196) : V)), (("len" : Str), (V.raw (.builtin "len") : V))], (scopeOf (heapK B.w.params) 215).names.lookup p.1 = some .globalImplicit ∧ GlobOk B p.1 p.2 := gCons (by kernel_rfl) (g_list h) (gCons (by kernel_rfl) (g_law_take h) (gCons (by kernel_rfl) (g_len h) (gNil)))
theorem f_law_other (h : B1 B) : FnAt B 220 ["letters", "names"] (bodyOf (heapK B.w.params) 220) (scopeOf (heapK B.w.params) 220) := by
  rw [← h.K]
  exact fnAt2 (by rw [h.K]; kernel_rfl) rfl fun a0 a1 => by rw [h.K]; kernel_rfl
theorem ok_law_other (P : Params) : fnOk (scopeOf (heapK P) 220) ["letters", "names"] [] = true := by kernel_rfl
theorem gs_law_other (h : B1 B) : ∀ p ∈ ([] : List (Str × V)), (scopeOf (heapK B.w.params) 220).names.lookup p.1 = some .globalImplicit ∧ GlobOk B p.1 p.2 := gNil
theorem f_law_word (h : B1 B) : FnAt B 225 ["box", "forms"] (bodyOf (heapK B.w.params) 225) (scopeOf (heapK B.w.params) 225) := by
  rw [← h.K]
  exact fnAt2 (by rw [h.K]; kernel_rfl) rfl fun a0 a1 => by rw [h.K]; kernel_rfl
theorem ok_law_word (P : Params) : fnOk (scopeOf (heapK P) 225) ["box", "forms"] ["found", "lap"] = true := by kernel_rfl
theorem gs_law_word (h : B1 B) : ∀ p ∈ [(("_law_take" : Str), (V.raw (.ref 196) : V)), (("int" : Str), (V.raw (.type "int") : V)), (("range" : Str), (V.raw (.type "range") : V)), (("len" : Str), (V.raw (.builtin "len") : V))], (scopeOf (heapK B.w.params) 225).names.lookup p.1 = some .globalImplicit ∧ GlobOk B p.1 p.2 := gCons (by kernel_rfl) (g_law_take h) (gCons (by kernel_rfl) (g_int h) (gCons (by kernel_rfl) (g_range h) (gCons (by kernel_rfl) (g_len h) (gNil))))
theorem f_law_round (h : B1 B) : FnAt B 230 ["box", "is_first"] (bodyOf (heapK B.w.params) 230) (scopeOf (heapK B.w.params) 230) := by
  rw [← h.K]
  exact fnAt2 (by rw [h.K]; kernel_rfl) rfl fun a0 a1 => by rw [h.K]; kernel_rfl
theorem ok_law_round (P : Params) : fnOk (scopeOf (heapK P) 230) ["box", "is_first"] ["is_far", "forms", "half", "names", "word", "left", "right", "stands", "size", "whole", "one", "other", "none", "turned_forms", "mirror", "named", "told", "first", "second", "points", "back", "raised"] = true := by kernel_rfl
theorem gs_law_round (h : B1 B) : ∀ p ∈ [(("_law_take" : Str), (V.raw (.ref 196) : V)), (("_law_forms" : Str), (V.raw (.ref 201) : V)), (("len" : Str), (V.raw (.builtin "len") : V)), (("_law_word" : Str), (V.raw (.ref 225) : V)), (("range" : Str), (V.raw (.type "range") : V)), (("_law_table" : Str), (V.raw (.ref 208) : V)), (("_law_mixed" : Str), (V.raw (.ref 215) : V)), (("_law_other" : Str), (V.raw (.ref 220) : V)), (("tuple" : Str), (V.raw (.type "tuple") : V))], (scopeOf (heapK B.w.params) 230).names.lookup p.1 = some .globalImplicit ∧ GlobOk B p.1 p.2 := gCons (by kernel_rfl) (g_law_take h) (gCons (by kernel_rfl) (g_law_forms h) (gCons (by kernel_rfl) (g_len h) (gCons (by kernel_rfl) (g_law_word h) (gCons (by kernel_rfl) (g_range h) (gCons (by kernel_rfl) (g_law_table h) (gCons (by kernel_rfl) (g_law_mixed h) (gCons (by kernel_rfl) (g_law_other h) (gCons (by kernel_rfl) (g_tuple h) (gNil)))))))))
theorem f_law (h : B1 B) : FnAt B 237 ["script"] (bodyOf (heapK B.w.params) 237) (scopeOf (heapK B.w.params) 237) := by
  rw [← h.K]
  exact fnAt1 (by rw [h.K]; kernel_rfl) rfl fun a0 => by rw [h.K]; kernel_rfl
theorem ok_law (P : Params) : fnOk (scopeOf (heapK P) 237) ["script"] ["cells", "k"] = true := by kernel_rfl
theorem gs_law (h : B1 B) : ∀ p ∈ [(("range" : Str), (V.raw (.type "range") : V)), (("len" : Str), (V.raw (.builtin "len") : V)), (("_law_round" : Str), (V.raw (.ref 230) : V)), (("_law_box" : Str), (V.raw (.ref 189) : V)), (("sum" : Str), (V.raw (.builtin "sum") : V))], (scopeOf (heapK B.w.params) 237).names.lookup p.1 = some .globalImplicit ∧ GlobOk B p.1 p.2 := gCons (by kernel_rfl) (g_range h) (gCons (by kernel_rfl) (g_len h) (gCons (by kernel_rfl) (g_law_round h) (gCons (by kernel_rfl) (g_law_box h) (gCons (by kernel_rfl) (g_sum h) (gNil)))))
end

local macro_rules | `(tactic| k_extra "mem") => `(tactic| first | exact List.Mem.head _ | (apply List.Mem.tail; k_extra "mem"))
local macro_rules | `(tactic| k_extra "put") => `(tactic| first | exact Put.head | (apply Put.tail; k_extra "put"))
local macro_rules | `(tactic| k_extra "loc") => `(tactic| simp only [List.zip_cons_cons, List.zip_nil_left, List.zip_nil_right, List.map_cons, List.map_nil, List.cons_append, List.nil_append, List.append_nil])
local macro_rules | `(tactic| k_extra "e") => `(tactic| with_reducible first
  | refine wpE.int ?_ | refine wpE.bool ?_ | refine wpE.str ?_ | refine wpE.none ?_
  | refine wpE.binop ?_ | refine wpE.unop ?_ | refine wpE.cmp ?_ | refine wpE.chain2 ?_ | refine wpE.and1 ?_ | refine wpE.and2 ?_ | refine wpE.ifexp ?_
  | refine wpE.slice ?_ | refine wpE.item ?_ | refine wpE.list ?_ | refine wpE.tuple ?_
  | refine wpEs.nil ?_ | refine wpEs.cons ?_ | refine wpB.none ?_ | refine wpB.some ?_)
local macro_rules | `(tactic| k_extra "v") => `(tactic| first
  | ((with_reducible show wpE _ _ _ _ (Expr.Name _ _) _ _); (first | refine wpE.var (by k_extra "mem") ?_ | refine wpE.glob (by k_extra "mem") ?_))
  | ((with_reducible show wpE _ _ _ _ (Expr.Call (Expr.Name _ _) _ _ _) _ _); refine wpE.call (by k_extra "mem") (by k_extra "keep") ?_)
  | ((with_reducible show wpE _ _ _ _ (Expr.Attribute (Expr.Name _ _) _ _) _ _); refine wpE.attr (by k_extra "mem") ?_)
  | ((with_reducible show wpE _ _ _ _ (Expr.Call (Expr.Attribute _ _ _) _ _ _) _ _); refine wpE.meth ?_)
  | ((with_reducible show wpX _ _ _ _ _ (Stmt.AugAssign (Expr.Name _ _) _ _ _) _ _); refine wpX.augname (by k_extra "mem") ?_)
  | ((with_reducible show wpAt _ _ _ _ _ _); first | refine wpAt.links (tabOk (by assumption)) (by assumption) ?_ | refine wpAt.numbers (tabOk (by assumption)) (by assumption) ?_ | refine wpAt.exceptions (tabOk (by assumption)) (by assumption) ?_ | refine wpAt.states (tabOk (by assumption)) (by assumption) ?_))
local macro_rules | `(tactic| k_extra "o") => `(tactic| with_reducible first
  | refine wpC.cmp ?_ | refine wpC.chain2 ?_ | refine wpC.not ?_ | refine wpC.and ?_ | refine wpC.or ?_ | refine wpC.val ?_
  | refine wpAnd.nil ?_ | refine wpAnd.cons ?_ | refine wpOr.nil ?_ | refine wpOr.cons ?_ | refine wpO1B.bool ?_ | refine wpO1B.int ?_ | refine wpO1.neg ?_ | refine wpO1.not ?_
  | refine wpO2.add ?_ | refine wpO2.sub ?_ | refine wpO2.ieq ?_ | refine wpO2.ine ?_ | refine wpO2.seq ?_ | refine wpO2.ilt ?_ | refine wpO2.ile ?_ | refine wpO2.igt ?_ | refine wpO2.ige ?_ | refine wpO2.isn ?_ | refine wpO2.isnotn ?_)
local macro_rules | `(tactic| k_extra "x") => `(tactic| with_reducible first
  | refine wpX.ret ?_ | refine wpX.ifs ?_ | refine wpX.brk ?_ | refine wpX.assign ?_ | refine wpX.setitem ?_ | refine wpX.expr ?_)
local macro_rules | `(tactic| k_extra "s") => `(tactic| first | with_reducible refine wpS.nil ?_ | ((with_reducible show wpS _ _ _ _ _ _ _ _); (first | refine wpS.cons ?_ | refine wpS.nil ?_)) | k_extra "x")
local macro_rules | `(tactic| k_extra "keep") => `(tactic| first | exact .inl ⟨_, rfl⟩ | exact .inr (.inl ⟨_, rfl⟩) | exact keep1 (by assumption) (by decide))
local macro_rules | `(tactic| k_extra "i") => `(tactic| with_reducible first
  | refine iteT ?_ | refine iteF ?_ | refine iteNF ?_ | refine iteNT ?_
  | refine exInt ?_ | ((refine' exPut ?hp ?_); (case hp => k_extra "put")) | refine lenOk0 ?_ | refine lenOk1 ?_ | refine lenOk2 ?_ | refine lenOkN (by with_unfolding_all rfl) ?_)
local macro_rules | `(tactic| k_extra "tup2") => `(tactic| refine ⟨_, _, rfl, .cons (by k_extra "put") (.cons (by k_extra "put") .nil), ?_⟩)
local macro_rules | `(tactic| k_extra "g1") => `(tactic| first | k_extra "v" | k_extra "e" | k_extra "o" | k_extra "x" | k_extra "i" | dsimp only)
local macro_rules | `(tactic| k_extra "go") => `(tactic| first | k_extra "v" | k_extra "e" | k_extra "o" | k_extra "s" | k_extra "i" | dsimp only)
section
variable {B : Bs} {G : Glb} {d : Nat} {sc : Scope} {loc : Loc} {g : Gh} {o : Objs} {s : Shared} {Q : V → Objs → Prop}
theorem isWhole (h : B1 B) {x lo hi : Int} (q : Q (.bool (decide (lo ≤ x ∧ x ≤ hi))) o) : wpF B (d + 1) (.raw (.ref 73)) [.int x, .int lo, .int hi] Q o := by
  refine wpF.fn (f_is_whole h) (ok_is_whole _) (gs_is_whole h) rfl ?_
  k_extra "loc"
  repeat k_extra "go"
  refine wpF.isiInt ?_
  repeat k_extra "go"
  refine wpF.isiBool ?_
  repeat k_extra "go"
  refine iteB (fun hc => ?_) fun hc => ?_
  · repeat k_extra "go"
    refine retQ ?_
    rw [decide_eq_true_eq] at hc
    simpa [hc] using q
  · repeat k_extra "go"
    refine retQ ?_
    rw [decide_eq_false_iff_not] at hc
    simpa [hc] using q

theorem checkWhole (h : B1 B) {x : Int} (q : Q (.int x) o) : wpF B (d + 1) (.raw (.ref 80)) [.int x] Q o := by
  refine wpF.fn (f_check_whole h) (ok_check_whole _) (gs_check_whole h) rfl ?_
  k_extra "loc"
  repeat k_extra "go"
  refine wpF.isiInt ?_
  repeat k_extra "go"
  refine wpF.isiBool ?_
  repeat k_extra "go"
  exact retQ q

theorem leastPart (h : B1 B) {x : Int} (q : Q (.int (max 1 (min 63 x))) o) : wpF B (d + 2) (.raw (.ref 115)) [.int x] Q o := by
  refine wpF.fn (f_least_part h) (ok_least_part _) (gs_least_part h) rfl ?_
  k_extra "loc"
  repeat k_extra "go"
  refine checkWhole h ?_
  repeat k_extra "go"
  refine wpF.min2 ?_
  repeat k_extra "go"
  refine wpF.max2 ?_
  exact retQ q

theorem isWord (h : B1 B) {x : V} {ls : List Int} (hx : Seq x (vints ls)) (hne : ls ≠ []) (hsz : ls.length ≤ 10000) (hl : ∀ l ∈ ls, 1 ≤ l ∧ l ≤ 255) (q : Q (.bool true) o) : wpF B (d + 2) (.raw (.ref 87)) [x] Q o := by
  refine wpF.fn (f_is_word h) (ok_is_word _) (gs_is_word h) rfl ?_
  k_extra "loc"
  repeat k_extra "go"
  refine wpF.isiS hx ?_
  repeat k_extra "go"
  refine wpF.lenS hx (small (by simpa using hsz)) ?_
  repeat k_extra "go"
  have h0 : ((vints ls).length : Int) ≠ 0 := by
    have : ls.length ≠ 0 := fun e => hne (List.eq_nil_of_length_eq_zero e)
    simp; exact hne
  rw [beq_eq_false_iff_ne.mpr h0]
  repeat k_extra "go"
  refine wpX.fors ?_
  repeat k_extra "go"
  refine ⟨_, hx.itV, hx.rngOk, .inl rfl, ?_⟩
  refine ForP.of (fun rest l o1 => o1 = o ∧ (∃ ls', rest = vints ls' ∧ ∀ l ∈ ls', 1 ≤ l ∧ l ≤ 255) ∧ ∃ w, l = ([("letters", some x), ("letter", w)] : Loc)) ?_ ?_ _ _ _ ⟨rfl, ⟨ls, rfl, hl⟩, _, rfl⟩
  · rintro l o1 ⟨rfl, -, w, rfl⟩
    repeat k_extra "go"
    exact retQ q
  · rintro x0 xs l o1 ⟨rfl, ⟨ls', e, hl'⟩, w, rfl⟩
    cases ls' with
    | nil => cases e
    | cons l0 ls' =>
      simp only [List.map_cons, List.cons.injEq] at e
      obtain ⟨rfl, rfl⟩ := e
      refine wpA.name (by k_extra "put") ?_
      repeat k_extra "go"
      refine isWhole h ?_
      rw [decide_eq_true (hl' l0 List.mem_cons_self)]
      repeat k_extra "go"
      exact ⟨rfl, ⟨ls', rfl, fun l hm => hl' l (List.mem_cons_of_mem _ hm)⟩, _, rfl⟩


end

section
variable {B : Bs} {G : Glb} {d : Nat} {sc : Scope} {loc : Loc} {g : Gh} {o : Objs} {s : Shared} {Q : V → Objs → Prop}
theorem innerLetters (h : B1 B) {ls w : List Int} {a b : Bool} (hp : PatL ls w a b) (hsz : ls.length ≤ 10000) (q : NewL Q (vints w) o) : wpF B (d + 1) (.raw (.ref 94)) [.lst (vints ls)] Q o := by
  refine wpF.fn (f_inner_letters h) (ok_inner_letters _) (gs_inner_letters h) rfl ?_
  k_extra "loc"
  k_extra "s"
  refine wpX.tupS (names := ["begin", "end"]) ?_ (by kernel_rfl)
  repeat k_extra "go"
  refine wpF.lenL rfl (small (by simpa using hsz)) ?_
  repeat k_extra "go"
  k_extra "tup2"
  obtain ⟨l0, hl0, ha⟩ := hp.first
  obtain ⟨l1, hl1, hb⟩ := hp.last
  have hlen := hp.len
  have hpos := hp.pos
  have hv : ∀ {i : Nat} {l : Int}, ls[i]? = some l → (vints ls)[i]? = some (.int l) := fun e => by simp [e]
  refine wpS.cut (fun l o1 => o = o1 ∧ l = ([("letters", some (.lst (vints ls))), ("begin", some (.int (if a then 1 else 0))), ("end", some (.int ls.length))] : Loc)) ?_ ?_
  · repeat k_extra "go"
    rw [decide_eq_true (by simp; omega)]
    repeat k_extra "go"
    refine wpSub.list rfl (atI_nat (by omega) (hv hl0)) (small (by simpa using hsz)) ?_
    repeat k_extra "go"
    rw [ha]
    cases a
    · repeat k_extra "go"
      exact ⟨rfl, rfl, by simp⟩
    · repeat k_extra "go"
      refine wpO2.iadd ?_
      repeat k_extra "go"
      exact ⟨rfl, rfl, by simp⟩
  rintro _ _ ⟨rfl, rfl⟩
  have hgt : (if a = true then (1 : Int) else 0) < ls.length := by cases a <;> simp at hlen ⊢ <;> omega
  refine wpS.cut (fun l o1 => o = o1 ∧ l = ([("letters", some (.lst (vints ls))), ("begin", some (.int (if a then 1 else 0))), ("end", some (.int (ls.length - if b then 1 else 0)))] : Loc)) ?_ ?_
  · repeat k_extra "go"
    rw [decide_eq_true hgt]
    repeat k_extra "go"
    refine wpSub.list (y := .int l1) rfl (atI_nat (by omega) (hv (by rw [show ((ls.length : Int) - 1).toNat = ls.length - 1 by omega]; exact hl1))) (small (by simpa using hsz)) ?_
    repeat k_extra "go"
    rw [hb]
    cases b
    · repeat k_extra "go"
      exact ⟨rfl, rfl, by simp⟩
    · repeat k_extra "go"
      refine wpO2.isub ?_
      repeat k_extra "go"
      exact ⟨rfl, rfl, by simp⟩
  rintro _ _ ⟨rfl, rfl⟩
  repeat k_extra "go"
  refine ⟨_, rfl, small (by simpa using hsz), by simp, ?_⟩
  have e : pick (vints ls) (some (if a = true then (1 : Int) else 0)) (some ((ls.length : Int) - if b = true then 1 else 0)) none = vints w := by
    rw [pick_mid _ (by split <;> omega) (by split <;> omega)]
    rw [← List.map_take, ← List.map_drop]
    have e1 : ((ls.length : Int) - if b = true then 1 else 0).toNat = ls.length - (if b = true then 1 else 0) := by split <;> omega
    have e2 : (if a = true then (1 : Int) else 0).toNat = if a = true then 1 else 0 := by split <;> rfl
    rw [e1, e2, hp.inner]
  rw [e]
  left
  repeat k_extra "go"
  refine wpF.list1 rfl (by first | exact smallV (by omega) | exact small (by simp; omega)) ?_
  exact q.imp retQ fun q n hn => retQ (q n hn)

theorem checkPattern (h : B1 B) {ls w ds : List Int} {a b : Bool} (hp : PatOk ls w ds a b) (q : Q .none o) : wpF B (d + 4) (.raw (.ref 101)) [.lst (vints ls), .lst (vints ds)] Q o := by
  have hl255 : ∀ l ∈ ls, 0 ≤ l ∧ l ≤ 255 := by
    intro l hl
    rw [hp.l.eq] at hl
    have e0 : ∀ c, ∀ l ∈ edges c, l = 0 := by intro c l hl; cases c <;> simp [edges] at hl; exact hl
    rcases List.mem_append.mp hl with hl | hl
    · rcases List.mem_append.mp hl with hl | hl
      · rw [e0 _ _ hl]; omega
      · have := hp.l.ok l hl; omega
    · rw [e0 _ _ hl]; omega
  have hsz := hp.sz
  have hlen := hp.l.len
  refine wpF.fn (f_check_pattern h) (ok_check_pattern _) (gs_check_pattern h) rfl ?_
  k_extra "loc"
  repeat k_extra "go"
  refine wpF.isiS (.inl rfl) ?_
  repeat k_extra "go"
  refine wpF.isiS (.inl rfl) ?_
  repeat k_extra "go"
  refine wpX.fors ?_
  repeat k_extra "go"
  refine ⟨_, rfl, trivial, .inl rfl, ?_⟩
  refine ForP.of (fun rest l o1 => o = o1 ∧ (∃ ls', rest = vints ls' ∧ ∀ l ∈ ls', 0 ≤ l ∧ l ≤ 255) ∧ ∃ w, l = ([("letters", some (.lst (vints ls))), ("digits", some (.lst (vints ds))), ("letter", w), ("digit", none)] : Loc)) ?_ ?_ _ _ _ ⟨rfl, ⟨ls, rfl, hl255⟩, _, rfl⟩
  · rintro l o1 ⟨rfl, -, w', rfl⟩
    repeat k_extra "go"
    refine innerLetters h hp.l (by omega) ?_
    left
    repeat k_extra "go"
    refine isWord h (.inl rfl) hp.l.ne (by omega) hp.l.ok ?_
    repeat k_extra "go"
    refine wpF.lenL rfl (by first | exact smallV (by omega) | exact small (by simp; omega)) ?_
    repeat k_extra "go"
    rw [decide_eq_false (by simp; omega)]
    repeat k_extra "go"
    refine wpF.lenL rfl (small (by have := hp.n; simp; omega)) ?_
    repeat k_extra "go"
    refine wpF.lenL rfl (by first | exact smallV (by omega) | exact small (by simp; omega)) ?_
    repeat k_extra "go"
    rw [show (((vints ds).length : Int) != (vints ls).length + 1) = false from by simp [hp.n]]
    repeat k_extra "go"
    refine wpX.fors ?_
    repeat k_extra "go"
    refine ⟨_, rfl, trivial, .inl rfl, ?_⟩
    refine ForP.of (fun rest l o1 => o = o1 ∧ (∃ ls', rest = vints ls' ∧ ∀ l ∈ ls', 0 ≤ l ∧ l ≤ 9) ∧ ∃ u, l = ([("letters", some (.lst (vints ls))), ("digits", some (.lst (vints ds))), ("letter", w'), ("digit", u)] : Loc)) ?_ ?_ _ _ _ ⟨rfl, ⟨ds, rfl, hp.d⟩, _, rfl⟩
    · rintro l o1 ⟨rfl, -, u, rfl⟩
      repeat k_extra "go"
      exact retN q
    · rintro x0 xs l o1 ⟨rfl, ⟨ls', e, hl'⟩, u, rfl⟩
      cases ls' with
      | nil => cases e
      | cons l0 ls' =>
        simp only [List.map_cons, List.cons.injEq] at e
        obtain ⟨rfl, rfl⟩ := e
        refine wpA.name (by k_extra "put") ?_
        repeat k_extra "go"
        refine isWhole h ?_
        rw [decide_eq_true (hl' l0 List.mem_cons_self)]
        repeat k_extra "go"
        exact ⟨rfl, ⟨ls', rfl, fun l hm => hl' l (List.mem_cons_of_mem _ hm)⟩, _, rfl⟩
  · rintro x0 xs l o1 ⟨rfl, ⟨ls', e, hl'⟩, w, rfl⟩
    cases ls' with
    | nil => cases e
    | cons l0 ls' =>
      simp only [List.map_cons, List.cons.injEq] at e
      obtain ⟨rfl, rfl⟩ := e
      refine wpA.name (by k_extra "put") ?_
      repeat k_extra "go"
      refine isWhole h ?_
      rw [decide_eq_true (hl' l0 List.mem_cons_self)]
      repeat k_extra "go"
      exact ⟨rfl, ⟨ls', rfl, fun l hm => hl' l (List.mem_cons_of_mem _ hm)⟩, _, rfl⟩

end

section
variable {B : Bs} {G : Glb} {d : Nat} {sc : Scope} {loc : Loc} {g : Gh} {o : Objs} {s : Shared} {Q : V → Objs → Prop}
theorem wordKey (h : B1 B) {x : V} {ls : List Int} (hx : Seq x (vints ls)) (q : Q (.int (keyOf ls)) o) : wpF B (d + 1) (.raw (.ref 108)) [x] Q o := by
  refine wpF.fn (f_word_key h) (ok_word_key _) (gs_word_key h) rfl ?_
  k_extra "loc"
  repeat k_extra "go"
  refine wpX.fors ?_
  repeat k_extra "go"
  refine ⟨_, hx.itV, hx.rngOk, .inl rfl, ?_⟩
  refine ForP.of (fun rest l o1 => o = o1 ∧ (∃ ls' k, rest = vints ls' ∧ ls'.foldl (fun a l => 256 * a + l) k = keyOf ls ∧ ∃ w, l = ([("letters", some x), ("found", some (.int k)), ("letter", w)] : Loc))) ?_ ?_ _ _ _ ⟨rfl, ls, 0, rfl, rfl, _, rfl⟩
  · rintro l o1 ⟨rfl, ls', k, e, hk, w, rfl⟩
    have : ls' = [] := by cases ls' with
      | nil => rfl
      | cons => cases e
    subst this
    repeat k_extra "go"
    rw [← hk] at q
    exact retQ q
  · rintro x0 xs l o1 ⟨rfl, ls', k, e, hk, w, rfl⟩
    cases ls' with
    | nil => cases e
    | cons l0 ls' =>
      simp only [List.map_cons, List.cons.injEq] at e
      obtain ⟨rfl, rfl⟩ := e
      refine wpA.name (by k_extra "put") ?_
      repeat k_extra "go"
      refine wpO2.mulL (by decide) ?_
      repeat k_extra "go"
      exact ⟨rfl, ls', _, rfl, hk, _, rfl⟩

theorem wState (h : B1 B) {t : Nat} {T : Tab} (ht : o t = some (.tab T)) {ls : List Int} (q : Q (.int (stateOf T ls)) o) : wpF B (d + 1) (.raw (.ref 136)) [.obj t, .lst (vints ls)] Q o := by
  refine wpF.fn (f_state_of h) (ok_state_of _) (gs_state_of h) rfl ?_
  k_extra "loc"
  repeat k_extra "go"
  refine wpX.fors ?_
  repeat k_extra "go"
  refine ⟨_, rfl, trivial, .inl rfl, ?_⟩
  refine ForP.of (fun rest l o1 => o = o1 ∧ (∃ ls' k, rest = vints ls' ∧ goSt T k ls' = stateOf T ls ∧ ∃ w, l = ([("self", some (.obj t)), ("letters", some (.lst (vints ls))), ("state", some (.int k)), ("letter", w)] : Loc))) ?_ ?_ _ _ _ ⟨rfl, ls, 0, rfl, rfl, _, rfl⟩
  · rintro l o1 ⟨rfl, ls', k, e, hk, w, rfl⟩
    have : ls' = [] := by cases ls' with
      | nil => rfl
      | cons => cases e
    subst this
    repeat k_extra "go"
    rw [← hk] at q
    exact retQ q
  · rintro x0 xs l o1 ⟨rfl, ls', k, e, hk, w, rfl⟩
    cases ls' with
    | nil => cases e
    | cons l0 ls' =>
      simp only [List.map_cons, List.cons.injEq] at e
      obtain ⟨rfl, rfl⟩ := e
      refine wpA.name (by k_extra "put") ?_
      repeat k_extra "go"
      refine ⟨_, MethIs.get ht rfl, .inl ⟨_, rfl⟩, ?_⟩
      repeat k_extra "go"
      refine wpO2.mulL (by decide) ?_
      repeat k_extra "go"
      refine wpF.getL ht ?_
      repeat k_extra "go"
      rw [goSt] at hk
      refine iteB (fun hc => ?_) fun hc => ?_
      · rw [decide_eq_true_eq] at hc
        repeat k_extra "go"
        rw [if_pos hc] at hk
        rw [← hk] at q
        exact retQ q
      · rw [decide_eq_false_iff_not] at hc
        repeat k_extra "go"
        rw [if_neg hc] at hk
        exact ⟨rfl, ls', _, rfl, hk, _, rfl⟩


end

section
variable {B : Bs} {G : Glb} {d : Nat} {sc : Scope} {loc : Loc} {g : Gh} {o : Objs} {s : Shared} {Q : V → Objs → Prop}
theorem wAdd (h : B1 B) {t : Nat} {T : Tab} (ht : o t = some (.tab T)) {ls w ds : List Int} {a b : Bool} (hp : PatOk ls w ds a b) (hno : T.numbers (stateOf T ls) = none) (hnl : T.nl + 63 ≤ 10000) (hnn : T.nn ≤ 10000)
    (q : Q .none (upd o t (.tab (addT T ls ds a b)))) : wpF B (d + 5) (.raw (.ref 143)) [.obj t, .lst (vints ls), .lst (vints ds)] Q o := by
  have hsz := hp.sz
  have hlen := hp.l.len
  have hpos := hp.l.pos
  have hdl := hp.n
  obtain ⟨l0, hl0, ha⟩ := hp.l.first
  obtain ⟨l1, hl1, hb⟩ := hp.l.last
  have hv : ∀ {i : Nat} {l : Int}, ls[i]? = some l → (vints ls)[i]? = some (.int l) := fun e => by simp [e]
  refine wpF.fn (f_add h) (ok_add _) (gs_add h) rfl ?_
  k_extra "loc"
  repeat k_extra "go"
  refine checkPattern h hp ?_
  repeat k_extra "go"
  refine ⟨rfl, ?_⟩
  repeat k_extra "go"
  refine ⟨_, m_state_of h ht, keep1 h (by decide), ?_⟩
  repeat k_extra "go"
  refine wState h ht ?_
  repeat k_extra "go"
  refine wpO2.inD ht rfl ?_
  rw [hno, Option.map_none, Option.isSome_none]
  repeat k_extra "go"
  refine wpF.list1 rfl (by first | exact smallV (by omega) | exact small (by simp; omega)) ?_
  right
  intro n hn
  have htn := ne_of hn ht
  repeat k_extra "g1"
  refine wpS.cut (fun l o1 => upd o n (.list (vints (zeroAt a 0 ds))) = o1 ∧ l = ([("self", some (.obj t)), ("letters", some (.lst (vints ls))), ("digits", some (.lst (vints ds))), ("row", some (.obj n)), ("state", none), ("letter", none), ("spot", none)] : Loc)) ?_ ?_
  · repeat k_extra "go"
    refine wpSub.list rfl (atI_nat (by omega) (hv hl0)) (by first | exact smallV (by omega) | exact small (by simp; omega)) ?_
    repeat k_extra "go"
    rw [ha]
    cases a
    · repeat k_extra "go"
      exact ⟨rfl, rfl, rfl⟩
    · repeat k_extra "go"
      refine wpO3U.list (upd_same ..) (seqIndex_nat (by omega) (by simp; omega)) (by first | exact smallV (by omega) | exact small (by simp; omega)) ?_
      rw [upd_upd]
      repeat k_extra "go"
      exact ⟨rfl, by simp [zeroAt, List.map_set], rfl⟩
  rintro _ _ ⟨rfl, rfl⟩
  refine wpS.cut (fun l o1 => upd o n (.list (vints (rowOf a b ds))) = o1 ∧ l = ([("self", some (.obj t)), ("letters", some (.lst (vints ls))), ("digits", some (.lst (vints ds))), ("row", some (.obj n)), ("state", none), ("letter", none), ("spot", none)] : Loc)) ?_ ?_
  · repeat k_extra "go"
    refine wpSub.list (y := .int l1) rfl (atI_neg1 (by simpa using hl1)) (by first | exact smallV (by omega) | exact small (by simp; omega)) ?_
    repeat k_extra "go"
    rw [hb]
    cases b
    · repeat k_extra "go"
      exact ⟨rfl, rfl, rfl⟩
    · repeat k_extra "go"
      refine wpO3U.list (upd_same ..) (j := ds.length - 1) (by simp only [List.length_map, zeroAt_len]; exact seqIndex_neg1 (by omega)) (small (by simp [zeroAt_len]; omega)) ?_
      rw [upd_upd]
      repeat k_extra "go"
      exact ⟨rfl, by simp [rowOf, zeroAt, List.map_set], rfl⟩
  rintro _ _ ⟨rfl, rfl⟩
  k_extra "s"
  repeat k_extra "g1"
  refine wpS.cut (fun l o1 => upd (upd o n (.list (vints (rowOf a b ds)))) t (.tab (insT T 0 ls).1) = o1 ∧ ∃ w1 w2, l = ([("self", some (.obj t)), ("letters", some (.lst (vints ls))), ("digits", some (.lst (vints ds))), ("row", some (.obj n)), ("state", some (.int (insT T 0 ls).2)), ("letter", w1), ("spot", w2)] : Loc)) ?_ ?_
  · refine wpX.fors ?_
    repeat k_extra "g1"
    refine ⟨_, rfl, trivial, .inl rfl, ?_⟩
    have ht0 : upd o n (.list (vints (rowOf a b ds))) t = some (.tab T) := by rw [upd_ne htn]; exact ht
    refine ForP.of (fun rest l o1 => ∃ T' st' ls', upd (upd o n (.list (vints (rowOf a b ds)))) t (.tab T') = o1 ∧ rest = vints ls' ∧ insT T' st' ls' = insT T 0 ls ∧ T'.nl + ls'.length ≤ 10000 ∧
      ∃ w1 w2, l = ([("self", some (.obj t)), ("letters", some (.lst (vints ls))), ("digits", some (.lst (vints ds))), ("row", some (.obj n)), ("state", some (.int st')), ("letter", w1), ("spot", w2)] : Loc)) ?_ ?_ _ _ _ ⟨T, 0, ls, upd_id ht0, rfl, rfl, by omega, _, _, rfl⟩
    · rintro l o1 ⟨T', st', ls', rfl, e, hi, -, w1, w2, rfl⟩
      have : ls' = [] := by cases ls' with
        | nil => rfl
        | cons => cases e
      subst this
      rw [← hi]
      exact ⟨rfl, rfl, _, _, rfl⟩
    · rintro x0 xs l o1 ⟨T', st', ls', rfl, e, hi, hb', w1, w2, rfl⟩
      cases ls' with
      | nil => cases e
      | cons l0 ls' =>
        simp only [List.map_cons, List.cons.injEq] at e
        obtain ⟨rfl, rfl⟩ := e
        simp only [List.length_cons] at hb'
        refine wpA.name (by k_extra "put") ?_
        have ht' : upd (upd o n (.list (vints (rowOf a b ds)))) t (.tab T') t = some (.tab T') := upd_same ..
        generalize ho' : upd (upd o n (.list (vints (rowOf a b ds)))) t (.tab T') = o' at ht'
        k_extra "s"
        repeat k_extra "g1"
        refine wpO2.mulL (by decide) ?_
        repeat k_extra "g1"
        simp only [insT] at hi
        refine wpS.cut (fun l o1 => upd o' t (.tab (if (T'.links (256 * st' + l0)).isSome then T' else (T'.setL (256 * st' + l0) T'.states).setS (T'.states + 1))) = o1 ∧ l = ([("self", some (.obj t)), ("letters", some (.lst (vints ls))), ("digits", some (.lst (vints ds))), ("row", some (.obj n)), ("state", some (.int st')), ("letter", some (.int l0)), ("spot", some (.int (256 * st' + l0)))] : Loc)) ?_ ?_
        · repeat k_extra "g1"
          refine wpO2.notInD ht' rfl ?_
          repeat k_extra "g1"
          cases hk : T'.links (256 * st' + l0) with
          | some v =>
            rw [Option.map_some, Option.isSome_some]
            repeat k_extra "go"
            exact ⟨rfl, by rw [Option.isSome_some, if_pos rfl]; exact upd_id ht', rfl⟩
          | none =>
            rw [Option.map_none, Option.isSome_none]
            repeat k_extra "go"
            refine wpO3U.setL ht' (small (by omega)) ?_
            repeat k_extra "go"
            refine wpX.states (tabOk h) (by k_extra "mem") (upd_same ..) (y := T'.states + 1) (wpE.int ⟨rfl, wpO2.iadd ⟨rfl, rfl⟩⟩) ?_
            rw [upd_upd]
            repeat k_extra "go"
            exact ⟨rfl, by simp, rfl⟩
        rintro _ _ ⟨rfl, rfl⟩
        generalize hT1 : (if (T'.links (256 * st' + l0)).isSome then T' else (T'.setL (256 * st' + l0) T'.states).setS (T'.states + 1)) = T1 at hi ⊢
        have hlk : T1.links (256 * st' + l0) = some ((T1.links (256 * st' + l0)).getD 0) := by
          rw [← hT1]
          by_cases hk : (T'.links (256 * st' + l0)).isSome = true
          · rw [if_pos hk]; obtain ⟨v, hv⟩ := Option.isSome_iff_exists.mp hk; rw [hv]; rfl
          · rw [if_neg hk]
            simp [Tab.setS, Tab.setL, setF]
        have hnl1 : T1.nl ≤ T'.nl + 1 := by
          rw [← hT1]; split
          · omega
          · exact Nat.le_refl _
        have ht1 : upd o' t (.tab T1) t = some (.tab T1) := upd_same ..
        k_extra "s"
        repeat k_extra "g1"
        refine wpSub.dict (y := .int ((T1.links (256 * st' + l0)).getD 0)) ht1 rfl ?_ ?_
        · rw [hlk]; rfl
        repeat k_extra "go"
        exact ⟨T1, _, ls', by rw [← ho', upd_upd], rfl, hi, by omega, _, _, rfl⟩
  rintro _ _ ⟨rfl, w1, w2, rfl⟩
  have ht2 : upd (upd o n (.list (vints (rowOf a b ds)))) t (.tab (insT T 0 ls).1) t = some (.tab (insT T 0 ls).1) := upd_same ..
  have hn2 : upd (upd o n (.list (vints (rowOf a b ds)))) t (.tab (insT T 0 ls).1) n = some (.list (vints (rowOf a b ds))) := by rw [upd_ne htn.symm, upd_same]
  repeat k_extra "go"
  refine wpF.tuple1 (xs := vints (rowOf a b ds)) (by simp only [asL, hn2]) (small (by simp [rowOf, zeroAt_len]; omega)) ?_
  repeat k_extra "go"
  refine wpO3U.setN ht2 (small (by rw [insT_nl]; exact hnn)) ?_
  rw [upd_upd]
  repeat k_extra "go"
  exact ⟨_, sub1 hn, q⟩

end

section
variable {B : Bs} {G : Glb} {d : Nat} {sc : Scope} {loc : Loc} {g : Gh} {o : Objs} {s : Shared} {Q : V → Objs → Prop}
theorem wAddExc (h : B1 B) {t : Nat} {T : Tab} (ht : o t = some (.tab T)) {x : V} {w ps : List Int} (hx : Seq x (vints w)) (hne : w ≠ []) (hok : ∀ l ∈ w, 1 ≤ l ∧ l ≤ 255) (hsz : w.length ≤ 63) (hps : ∀ p ∈ ps, 0 ≤ p ∧ p ≤ w.length) (hne' : T.ne ≤ 10000)
    (q : Q .none (upd o t (.tab (T.setE (keyOf w) (excOf w.length ps))))) : wpF B (d + 4) (.raw (.ref 155)) [.obj t, x, .lst (vints ps)] Q o := by
  refine wpF.fn (f_add_exception h) (ok_add_exception _) (gs_add_exception h) rfl ?_
  k_extra "loc"
  repeat k_extra "go"
  refine wpF.isiS hx ?_
  repeat k_extra "go"
  refine wpF.isiS (.inl rfl) ?_
  repeat k_extra "go"
  refine isWord h hx hne (by omega) hok ?_
  repeat k_extra "go"
  refine wpF.lenS hx (by first | exact smallV (by omega) | exact small (by simp; omega)) ?_
  repeat k_extra "go"
  rw [decide_eq_false (by simp; omega)]
  repeat k_extra "go"
  refine wpX.fors ?_
  repeat k_extra "go"
  refine ⟨_, rfl, trivial, .inl rfl, ?_⟩
  refine ForP.of (fun rest l o1 => o = o1 ∧ (∃ ls', rest = vints ls' ∧ ∀ p ∈ ls', 0 ≤ p ∧ p ≤ w.length) ∧ ∃ u, l = ([("self", some (.obj t)), ("letters", some x), ("places", some (.lst (vints ps))), ("place", u)] : Loc)) ?_ ?_ _ _ _ ⟨rfl, ⟨ps, rfl, hps⟩, _, rfl⟩
  · rintro l o1 ⟨rfl, -, u, rfl⟩
    repeat k_extra "go"
    refine wpE.comp [("places", some (.lst (vints ps)))] [] ["place"] (by simp) (fun p hp => nomatch hp) rfl (by kernel_rfl) ?_
    repeat k_extra "go"
    refine wpF.lenS hx (by first | exact smallV (by omega) | exact small (by simp; omega)) ?_
    repeat k_extra "go"
    refine wpF.range1 ?_
    have e : (((vints w).length : Int) + 1) = ((w.length + 1 : Nat) : Int) := by simp
    rw [e]
    refine ⟨_, itV_rng, rngOk_n (by omega), .inl rfl, small (by simp; omega), ?_⟩
    refine CompP.filt (fun i : Nat => V.int i) (fun i => decide ((i : Int) ∈ ps)) (fun i => V.int i) _ (fun i hi => ⟨_, rfl, rfl, ?_, fun _ => ?_⟩) ?_
    · simp only [bindTg]
      repeat k_extra "go"
      refine wpO2.inI rfl ?_
      repeat k_extra "go"
      exact ⟨rfl, rfl⟩
    · simp only [bindTg]
      repeat k_extra "go"
      exact ⟨rfl, rfl⟩
    left
    have e2 : ((List.range (w.length + 1)).filter fun i : Nat => decide ((i : Int) ∈ ps)).map (fun i : Nat => V.int i) = vints (excOf w.length ps) := by
      unfold excOf vints
      rw [List.filter_map, List.map_map]
      rfl
    rw [e2]
    repeat k_extra "go"
    refine wpF.tuple1 rfl (small ?_) ?_
    · have : (excOf w.length ps).length ≤ w.length + 1 := by
        unfold excOf
        refine Nat.le_trans (List.length_filter_le _ _) (by simp)
      simp; omega
    repeat k_extra "go"
    refine wordKey h hx ?_
    repeat k_extra "go"
    refine wpO3U.setE ht (small hne') ?_
    repeat k_extra "go"
    exact retN q
  · rintro x0 xs l o1 ⟨rfl, ⟨ls', e, hl'⟩, u, rfl⟩
    cases ls' with
    | nil => cases e
    | cons l0 ls' =>
      simp only [List.map_cons, List.cons.injEq] at e
      obtain ⟨rfl, rfl⟩ := e
      refine wpA.name (by k_extra "put") ?_
      repeat k_extra "go"
      refine wpF.lenS hx (by first | exact smallV (by omega) | exact small (by simp; omega)) ?_
      repeat k_extra "go"
      refine isWhole h ?_
      rw [decide_eq_true (by have := hl' l0 List.mem_cons_self; simpa using this)]
      repeat k_extra "go"
      exact ⟨rfl, ⟨ls', rfl, fun l hm => hl' l (List.mem_cons_of_mem _ hm)⟩, _, rfl⟩


end

section
variable {B : Bs} {G : Glb} {d : Nat} {sc : Scope} {loc : Loc} {g : Gh} {o : Objs} {s : Shared} {Q : V → Objs → Prop}
theorem wGap (h : B1 B) {t : Nat} {T : Tab} (ht : o t = some (.tab T)) (hT : TabRows T) {x : V} {ls : List Int} (hx : Seq x (vints ls)) (hlt : ∀ l ∈ ls, 0 ≤ l ∧ l < 256) (hsz : ls.length ≤ 1000) (q : NewL Q (vints (gapNums T ls)) o) : wpF B (d + 1) (.raw (.ref 169)) [.obj t, x] Q o := by
  refine wpF.fn (f_gap_numbers h) (ok_gap_numbers _) (gs_gap_numbers h) rfl ?_
  k_extra "loc"
  have eM : ([V.int 0] ++ vints ls) ++ [V.int 0] = vints (marksOf ls) := by simp [marksOf]
  have hM : (marksOf ls).length = ls.length + 2 := by simp [marksOf]
  have hmk : ∀ l ∈ marksOf ls, 0 ≤ l ∧ l < 256 := fun l hl => by
    simp only [marksOf, List.mem_append, List.mem_cons, List.not_mem_nil, or_false] at hl
    rcases hl with (rfl | hl) | rfl
    · decide
    · exact hlt l hl
    · decide
  k_extra "s"
  repeat k_extra "g1"
  left
  repeat k_extra "g1"
  refine wpF.list1 hx.asS (by first | exact smallV (by omega) | exact small (by simp; omega)) ?_
  left
  repeat k_extra "g1"
  refine wpO2.ladd rfl rfl (by first | exact smallV (by omega) | exact small (by simp; omega)) ?_
  left
  repeat k_extra "g1"
  left
  repeat k_extra "g1"
  refine wpO2.ladd rfl rfl (by first | exact smallV (by omega) | exact small (by simp; omega)) ?_
  left
  rw [eM]
  repeat k_extra "g1"
  k_extra "s"
  repeat k_extra "g1"
  left
  repeat k_extra "g1"
  refine wpF.lenL rfl (by first | exact smallV (by omega) | exact small (by simp; omega)) ?_
  repeat k_extra "g1"
  refine wpO2.lmul rfl (by simp; omega) (by simp; omega) (by simp; omega) ?_
  right
  intro n hn
  have htn := ne_of hn ht
  have eF : (List.replicate (((vints (marksOf ls)).length : Int) + 1).toNat [V.int 0]).flatten = vints (List.replicate (ls.length + 3) 0) := by
    have : (((vints (marksOf ls)).length : Int) + 1).toNat = ls.length + 3 := by simp [marksOf]; omega
    rw [this]
    generalize ls.length + 3 = k
    induction k with
    | zero => rfl
    | succ k ih => rw [List.replicate_succ, List.flatten_cons, ih]; rfl
  rw [eF]
  repeat k_extra "g1"
  refine wpS.cut (fun l o1 => upd o n (.list (vints (gapFrom T (marksOf ls) (List.range (ls.length + 2)) (List.replicate (ls.length + 3) 0)))) = o1 ∧ ∃ w1 w2 w3 w4 w5, l = ([("self", some (.obj t)), ("letters", some x), ("marks", some (.lst (vints (marksOf ls)))), ("found", some (.obj n)), ("begin", w1), ("state", w2), ("letter", w3), ("spot", w4), ("digit", w5)] : Loc)) ?_ ?_
  · refine wpX.fors ?_
    repeat k_extra "g1"
    refine wpF.lenL rfl (by first | exact smallV (by omega) | exact small (by simp; omega)) ?_
    repeat k_extra "g1"
    refine wpF.range1 ?_
    have eL : (((vints (marksOf ls)).length : Nat) : Int) = ((ls.length + 2 : Nat) : Int) := by simp [marksOf]; omega
    rw [eL]
    refine ⟨_, itV_rng, rngOk_n (by omega), .inl rfl, ?_⟩
    refine ForP.of (fun rest l o1 => ∃ ks f, upd o n (.list (vints f)) = o1 ∧ rest = ks.map (fun i : Nat => V.int i) ∧ gapFrom T (marksOf ls) ks f = gapFrom T (marksOf ls) (List.range (ls.length + 2)) (List.replicate (ls.length + 3) 0) ∧ f.length = ls.length + 3 ∧ (∀ k ∈ ks, k < ls.length + 2) ∧
      ∃ w1 w2 w3 w4 w5, l = ([("self", some (.obj t)), ("letters", some x), ("marks", some (.lst (vints (marksOf ls)))), ("found", some (.obj n)), ("begin", w1), ("state", w2), ("letter", w3), ("spot", w4), ("digit", w5)] : Loc)) ?_ ?_ _ _ _ ⟨_, _, rfl, rfl, rfl, by simp, fun k hk => List.mem_range.mp hk, _, _, _, _, _, rfl⟩
    · rintro l o1 ⟨ks, f, rfl, e, hg, hf, -, w1, w2, w3, w4, w5, rfl⟩
      have : ks = [] := by cases ks with
        | nil => rfl
        | cons => cases e
      subst this
      rw [← hg]
      exact ⟨rfl, rfl, _, _, _, _, _, rfl⟩
    · rintro x0 xs l o1 ⟨ks, f, rfl, e, hg, hf, hks, w1, w2, w3, w4, w5, rfl⟩
      cases ks with
      | nil => cases e
      | cons b ks =>
        simp only [List.map_cons, List.cons.injEq] at e
        obtain ⟨rfl, rfl⟩ := e
        have hb := hks b List.mem_cons_self
        refine wpA.name (by k_extra "put") ?_
        k_extra "s"
        repeat k_extra "g1"
        refine wpS.cut (fun l o1 => upd o n (.list (vints (goG T b 0 f ((marksOf ls).drop b)))) = o1 ∧ ∃ w1 w2 w3 w4 w5, l = ([("self", some (.obj t)), ("letters", some x), ("marks", some (.lst (vints (marksOf ls)))), ("found", some (.obj n)), ("begin", w1), ("state", w2), ("letter", w3), ("spot", w4), ("digit", w5)] : Loc)) ?_ ?_
        · refine wpX.fors ?_
          repeat k_extra "g1"
          refine ⟨_, rfl, small (by simp [marksOf]; omega), by simp, ?_⟩
          rw [pick_from _ (by omega), ← List.map_drop]
          left
          refine ⟨_, rfl, trivial, .inl rfl, ?_⟩
          refine ForP.of (fun rest l o1 => ∃ st f1 p r, upd o n (.list (vints f1)) = o1 ∧ rest = vints r ∧ p ++ r = (marksOf ls).drop b ∧ stateOf T p = st ∧ 0 ≤ st ∧ goG T b st f1 r = goG T b 0 f ((marksOf ls).drop b) ∧ f1.length = ls.length + 3 ∧
            ∃ w3 w4 w5, l = ([("self", some (.obj t)), ("letters", some x), ("marks", some (.lst (vints (marksOf ls)))), ("found", some (.obj n)), ("begin", some (.int b)), ("state", some (.int st)), ("letter", w3), ("spot", w4), ("digit", w5)] : Loc)) ?_ ?_ _ _ _ ⟨0, f, [], _, rfl, by simp, rfl, rfl, Int.le_refl _, rfl, hf, _, _, _, rfl⟩
          · rintro l o1 ⟨st, f1, p, r, rfl, e, hp, hst, h0, hg1, hf1, w3, w4, w5, rfl⟩
            have : r = [] := by cases r with
              | nil => rfl
              | cons => cases e
            subst this
            rw [← hg1]
            exact ⟨rfl, rfl, _, _, _, _, _, rfl⟩
          · rintro x0 xs l o1 ⟨st, f1, p, r, rfl, e, hp, hst, h0, hg1, hf1, w3, w4, w5, rfl⟩
            cases r with
            | nil => cases e
            | cons l0 r =>
              simp only [List.map_cons, List.cons.injEq] at e
              obtain ⟨rfl, rfl⟩ := e
              have ht1 : upd o n (.list (vints f1)) t = some (.tab T) := by rw [upd_ne htn]; exact ht
              refine wpA.name (by k_extra "put") ?_
              k_extra "s"
              repeat k_extra "g1"
              refine ⟨_, MethIs.get ht1 rfl, .inl ⟨_, rfl⟩, ?_⟩
              repeat k_extra "g1"
              refine wpO2.mulL (by decide) ?_
              repeat k_extra "g1"
              refine wpF.getL ht1 ?_
              repeat k_extra "g1"
              simp only [goG] at hg1
              k_extra "s"
              repeat k_extra "g1"
              refine iteB (fun hc => ?_) fun hc => ?_
              · rw [decide_eq_true_eq] at hc
                repeat k_extra "go"
                rw [if_pos hc] at hg1
                rw [← hg1]
                exact ⟨rfl, rfl, _, _, _, _, _, rfl⟩
              · rw [decide_eq_false_iff_not] at hc
                rw [if_neg hc] at hg1
                generalize hs : (T.links (256 * st + l0)).getD (-1) = s at hc hg1 ⊢
                have hps : stateOf T (p ++ [l0]) = s := by
                  unfold stateOf at hst ⊢
                  rw [goSt_app T p 0 [l0] (by omega), hst]
                  simp only [goSt]
                  rw [hs, if_neg hc]
                have hrow : ((T.numbers s).getD []).length ≤ (p ++ [l0]).length + 1 := by
                  cases er : T.numbers s with
                  | none => simp
                  | some row => exact hT (p ++ [l0]) (fun l hm => hmk l (List.mem_of_mem_drop (i := b) (by rw [← hp]; simp only [List.mem_append, List.mem_cons, List.not_mem_nil, or_false] at hm ⊢; rcases hm with hm | hm; exact .inl hm; exact .inr (.inl hm)))) (by omega) row (by rw [hps]; exact er)
                have hpl : p.length + (r.length + 1) + b = ls.length + 2 := by
                  have := congrArg List.length hp
                  simp only [List.length_append, List.length_cons, List.length_drop, hM] at this
                  omega
                simp only [List.length_append, List.length_singleton] at hrow
                k_extra "s"
                repeat k_extra "g1"
                k_extra "s"
                repeat k_extra "g1"
                refine wpS.cut (fun l o1 => upd o n (.list (vints (putD f1 b ((T.numbers s).getD [])))) = o1 ∧ ∃ w4 w5, l = ([("self", some (.obj t)), ("letters", some x), ("marks", some (.lst (vints (marksOf ls)))), ("found", some (.obj n)), ("begin", some (.int b)), ("state", some (.int s)), ("letter", some (.int l0)), ("spot", w4), ("digit", w5)] : Loc)) ?_ ?_
                · refine wpX.fors ?_
                  repeat k_extra "g1"
                  refine ⟨_, MethIs.get ht1 rfl, .inl ⟨_, rfl⟩, ?_⟩
                  repeat k_extra "g1"
                  refine wpF.getN ht1 ?_
                  refine ⟨_, rfl, trivial, .inl rfl, ?_⟩
                  refine ForP.of (fun rest l o1 => ∃ ds k f2, upd o n (.list (vints f2)) = o1 ∧ rest = vints ds ∧ putD f2 k ds = putD f1 b ((T.numbers s).getD []) ∧ k + ds.length ≤ ls.length + 3 ∧ f2.length = ls.length + 3 ∧
                    ∃ w5, l = ([("self", some (.obj t)), ("letters", some x), ("marks", some (.lst (vints (marksOf ls)))), ("found", some (.obj n)), ("begin", some (.int b)), ("state", some (.int s)), ("letter", some (.int l0)), ("spot", some (.int (k : Nat))), ("digit", w5)] : Loc)) ?_ ?_ _ _ _ ⟨_, b, f1, rfl, rfl, rfl, by omega, hf1, _, rfl⟩
                  · rintro l o1 ⟨ds, k, f2, rfl, e, hd2, -, -, w5, rfl⟩
                    have : ds = [] := by cases ds with
                      | nil => rfl
                      | cons => cases e
                    subst this
                    rw [← hd2]
                    exact ⟨rfl, rfl, _, _, rfl⟩
                  · rintro x0 xs l o1 ⟨ds, k, f2, rfl, e, hd2, hk, hf2, w5, rfl⟩
                    cases ds with
                    | nil => cases e
                    | cons d0 ds =>
                      simp only [List.map_cons, List.cons.injEq] at e
                      obtain ⟨rfl, rfl⟩ := e
                      simp only [List.length_cons] at hk
                      have hn2 : upd o n (.list (vints f2)) n = some (.list (vints f2)) := upd_same ..
                      have hfk : f2[k]? = some (f2.getD k 0) := by
                        rw [List.getD_eq_getElem?_getD, List.getElem?_eq_getElem (by omega)]; rfl
                      refine wpA.name (by k_extra "put") ?_
                      k_extra "s"
                      repeat k_extra "g1"
                      refine wpSub.list (xs := vints f2) (y := .int (f2.getD k 0)) (by simp only [asL, hn2]) (atI_nat (by omega) (by rw [Int.toNat_natCast, List.getElem?_map, hfk]; rfl)) (by first | exact smallV (by omega) | exact small (by simp; omega)) ?_
                      repeat k_extra "g1"
                      refine wpF.max2 ?_
                      repeat k_extra "g1"
                      refine wpO3U.list hn2 (seqIndex_nat (by omega) (by simp; omega)) (by first | exact smallV (by omega) | exact small (by simp; omega)) ?_
                      rw [upd_upd]
                      repeat k_extra "g1"
                      k_extra "s"
                      repeat k_extra "g1"
                      refine wpO2.iadd ?_
                      repeat k_extra "go"
                      refine ⟨ds, k + 1, f2.set k (max (f2.getD k 0) d0), by simp only [Int.toNat_natCast, vints, List.map_set], rfl, by simpa only [putD] using hd2, by omega, by simpa using hf2, some (.int d0), ?_⟩
                      simp
                rintro _ _ ⟨rfl, w4, w5, rfl⟩
                k_extra "s"
                repeat k_extra "g1"
                exact ⟨s, _, p ++ [l0], r, rfl, rfl, by simpa using hp, hps, by omega, hg1, by rw [putD_len, hf1], _, _, _, rfl⟩
        · rintro _ _ ⟨rfl, w1, w2, w3, w4, w5, rfl⟩
          repeat k_extra "go"
          refine ⟨ks, _, rfl, rfl, ?_, by rw [goG_len, hf], fun k hk => hks k (List.mem_cons_of_mem _ hk), _, _, _, _, _, rfl⟩
          simpa only [gapFrom] using hg
  rintro _ _ ⟨rfl, w1, w2, w3, w4, w5, rfl⟩
  have hn2 : ∀ f, upd o n (.list (vints f)) n = some (.list (vints f)) := fun f => upd_same ..
  have hgl : ∀ ks f, (gapFrom T (marksOf ls) ks f).length = f.length := by
    intro ks
    induction ks with
    | nil => intro f; rfl
    | cons k ks ih => intro f; simp only [gapFrom]; rw [ih, goG_len]
  k_extra "s"
  repeat k_extra "g1"
  refine wpF.lenL rfl (by first | exact smallV (by omega) | exact small (by simp; omega)) ?_
  repeat k_extra "g1"
  refine ⟨vints (gapFrom T (marksOf ls) (List.range (ls.length + 2)) (List.replicate (ls.length + 3) 0)), by simp only [asL, hn2], small (by simp [hgl]; omega), by simp, ?_⟩
  rw [pick_mid _ (by omega) (by omega), ← List.map_take, ← List.map_drop]
  have e1 : (((vints (marksOf ls)).length : Nat) : Int).toNat = ls.length + 2 := by simp [marksOf]; omega
  rw [e1]
  rcases q with q | q
  · left
    exact ⟨o, sub0 hn, q⟩
  · right
    intro m hm
    have hmn : m ≠ n := fun e => by subst e; rw [hn2] at hm; cases hm
    have hom : o m = none := by rw [upd_ne hmn] at hm; exact hm
    exact ⟨_, sub1 hn, q m hom⟩

end

section
variable {B : Bs} {G : Glb} {d : Nat} {sc : Scope} {loc : Loc} {g : Gh} {o : Objs} {s : Shared} {Q : V → Objs → Prop}
theorem wBox (h : B1 B) {cell more : Int} (q : ∀ x y n, o n = none → Q (.obj n) (upd o n (.list [.int x, .int y]))) : wpF B (d + 1) (.raw (.ref 189)) [.int cell, .int more] Q o := by
  refine wpF.fn (f_law_box h) (ok_law_box _) (gs_law_box h) rfl ?_
  k_extra "loc"
  repeat k_extra "go"
  refine wpO2.powS (by decide) (by decide) (by decide) ?_
  repeat k_extra "go"
  refine wpF.max2 ?_
  repeat k_extra "go"
  refine wpF.abs ?_
  refine wpO2.mulL (by decide) ?_
  repeat k_extra "go"
  refine wpF.intB ?_
  repeat k_extra "go"
  refine wpF.abs ?_
  repeat k_extra "go"
  refine wpO2.fmod (by decide) ?_
  repeat k_extra "go"
  right
  intro n hn
  repeat k_extra "go"
  exact retQ (q _ _ n hn)

theorem wTake (h : B1 B) {b : Nat} {x y many : Int} (hb : o b = some (.list [.int x, .int y])) (hm : 0 < many) (hm2 : many ≤ 1000) (q : ∀ r x' y', 0 ≤ r → r < many → Q (.int r) (upd o b (.list [.int x', .int y']))) : wpF B (d + 1) (.raw (.ref 196)) [.obj b, .int many] Q o := by
  have e0 : asL o (.obj b) = some [.int x, .int y] := by simp only [asL, hb]
  refine wpF.fn (f_law_take h) (ok_law_take _) (gs_law_take h) rfl ?_
  k_extra "loc"
  repeat k_extra "go"
  refine wpSub.list e0 (atI_nat (by decide) rfl) (small (by simp)) ?_
  repeat k_extra "go"
  refine iteB (fun hc => ?_) fun hc => ?_
  · repeat k_extra "go"
    refine wpSub.list e0 (atI_nat (by decide) rfl) (small (by simp)) ?_
    repeat k_extra "go"
    refine wpO2.fmod (by omega) ?_
    repeat k_extra "go"
    refine wpSub.list e0 (atI_nat (by decide) rfl) (small (by simp)) ?_
    repeat k_extra "go"
    refine wpO2.fdiv (by omega) (by omega) ?_
    repeat k_extra "go"
    refine wpO3U.list hb (seqIndex_nat (by decide) (by simp)) (small (by simp)) ?_
    repeat k_extra "go"
    exact retQ (q _ _ _ (Int.fmod_nonneg_of_pos _ hm) (Int.fmod_lt_of_pos _ hm))
  · repeat k_extra "go"
    refine wpSub.list e0 (atI_nat (by decide) rfl) (small (by simp)) ?_
    repeat k_extra "go"
    refine wpO2.mulR (by decide) ?_
    repeat k_extra "go"
    refine wpO2.fmod (by decide) ?_
    repeat k_extra "go"
    refine wpO3U.list hb (seqIndex_nat (by decide) (by simp)) (small (by simp)) ?_
    repeat k_extra "go"
    refine wpSub.list (by simp only [asL, upd_same]; rfl) (atI_nat (by decide) rfl) (small (by simp)) ?_
    repeat k_extra "go"
    refine wpO2.fdiv (by decide) (by decide) ?_
    repeat k_extra "go"
    refine wpO2.fmod (by omega) ?_
    repeat k_extra "go"
    exact retQ (q _ _ _ (Int.fmod_nonneg_of_pos _ hm) (Int.fmod_lt_of_pos _ hm))


end

section
variable {B : Bs} {G : Glb} {d : Nat} {sc : Scope} {loc : Loc} {g : Gh} {o : Objs} {s : Shared} {Q : V → Objs → Prop}
theorem wForms2 (h : B1 B) {b : Nat} {x y most : Int} (hm1 : 0 < most) (hm2 : most ≤ 6) (hb : o b = some (.list [.int x, .int y])) (q : ∀ fs x' y', FormsOk2 fs → fs ≠ [] → Q (.lst (fs.map vform)) (upd o b (.list [.int x', .int y']))) : wpF B (d + 2) (.raw (.ref 201)) [.obj b, .int most] Q o := by
  refine wpF.fn (f_law_forms h) (ok_law_forms _) (gs_law_forms h) rfl ?_
  k_extra "loc"
  repeat k_extra "go"
  right
  intro n hn
  have hbn := ne_of hn hb
  repeat k_extra "go"
  refine wpX.fors ?_
  repeat k_extra "go"
  refine wTake h (x := x) (y := y) (by rw [upd_ne hbn]; exact hb) hm1 (by omega) fun r x1 y1 hr0 hr1 => ?_
  repeat k_extra "go"
  refine wpF.range1 ?_
  rw [show (2 + r : Int) = ((r.toNat + 2 : Nat) : Int) by omega]
  refine ⟨_, itV_rng, rngOk_n (by omega), .inl rfl, ?_⟩
  refine ForP.of (fun rest l o1 => ∃ fs x2 y2, FormsOk2 fs ∧ fs.length + rest.length ≤ 7 ∧ (fs ≠ [] ∨ rest ≠ []) ∧ o1 = upd (upd o n (.list (fs.map vform))) b (.list [.int x2, .int y2]) ∧ ∃ u1 u2 u3 u4, l = ([("box", some (.obj b)), ("most", some (.int most)), ("found", some (.obj n)), ("turn", u1), ("letters", u2), ("way", u3), ("numbers", u4)] : Loc)) ?_ ?_ _ _ _
    ⟨[], x1, y1, ⟨by simp, (fun _ hf => nomatch hf), by simp⟩, by simp; omega, .inr (by simp), rfl, _, _, _, _, rfl⟩
  · rintro l o1 ⟨fs, x2, y2, hf, hs, hne, rfl, u1, u2, u3, u4, rfl⟩
    dsimp only
    refine wpS.freeze (n := n) (xs := fs.map vform) (by rw [upd_ne hbn.symm, upd_same]) (.same (.same (.froz (.same (.same (.same (.same .nil))))))) ?_
    rw [delMid hn hbn.symm]
    repeat k_extra "go"
    exact retQ (q fs _ _ hf (by rcases hne with hne | hne; exact hne; exact absurd rfl hne))
  · rintro x0 xs l o1 ⟨fs, x2, y2, hf, hs, hne, rfl, u1, u2, u3, u4, rfl⟩
    refine wpA.name (by k_extra "put") ?_
    k_extra "s"
    refine wpX.assignC [("box", some (.obj b))] [("_law_take", .raw (.ref 196))] ["k"] (by simp) (fun p hp => by simp only [List.mem_singleton] at hp; subst hp; exact g_law_take h) rfl (by kernel_rfl) (by kernel_rfl) ?_
    repeat k_extra "g1"
    refine wTake h (upd_same ..) (by decide) (by decide) fun r2 x3 y3 hr20 hr21 => ?_
    rw [upd_upd]
    repeat k_extra "g1"
    refine wpF.range1 ?_
    rw [show (1 + r2 : Int) = ((r2.toNat + 1 : Nat) : Int) by omega]
    refine ⟨_, itV_rng, rngOk_n (by omega), .inl rfl, small (by simp; omega), ?_⟩
    refine CompP.of (fun rest acc o1 => ∃ w x4 y4, acc = vints w ∧ w.length + rest.length ≤ 3 ∧ (w ≠ [] ∨ rest ≠ []) ∧ (L9 w) ∧ o1 = upd (upd o n (.list (fs.map vform))) b (.list [.int x4, .int y4])) ?_ ?_ _ _ _ ⟨[], x3, y3, rfl, by simp; omega, .inr (by simp), (fun _ hl => nomatch hl), rfl⟩
    · rintro acc o1 ⟨w, x4, y4, rfl, hw, hwn, hl3, rfl⟩
      left
      refine ⟨_, by k_extra "put", ?_⟩
      have hwne : w ≠ [] := by rcases hwn with e | e; exact e; exact absurd rfl e
      simp only [List.length_nil, Nat.add_zero] at hw
      k_extra "s"
      repeat k_extra "g1"
      refine wTake h (upd_same ..) (by decide) (by decide) fun r3 x5 y5 hr30 hr31 => ?_
      rw [upd_upd]
      repeat k_extra "g1"
      k_extra "s"
      repeat k_extra "g1"
      left
      repeat k_extra "g1"
      refine wpO2.inT (ns := [1, 3]) ?_
      repeat k_extra "g1"
      refine wpF.intB ?_
      generalize hca : decide (r3 ∈ ([1, 3] : List Int)) = ca
      refine wpO2.lmul rfl (by cases ca <;> decide) (by cases ca <;> decide) (by cases ca <;> decide) ?_
      rw [zeros_if]
      left
      repeat k_extra "g1"
      refine wpO2.ladd rfl rfl (small (by have := edges_len ca; simp only [List.length_map, this]; split <;> omega)) ?_
      left
      repeat k_extra "g1"
      left
      repeat k_extra "g1"
      refine wpO2.inT (ns := [2, 3]) ?_
      repeat k_extra "g1"
      refine wpF.intB ?_
      generalize hcb : decide (r3 ∈ ([2, 3] : List Int)) = cb
      refine wpO2.lmul rfl (by cases cb <;> decide) (by cases cb <;> decide) (by cases cb <;> decide) ?_
      rw [zeros_if]
      left
      refine wpO2.ladd rfl rfl (small (by have := edges_len ca; have := edges_len cb; simp only [List.length_append, List.length_map, *]; split <;> split <;> omega)) ?_
      left
      have hP : PatL (edges ca ++ w ++ edges cb) w ca cb := ⟨rfl, hwne, L9.ok hl3⟩
      have hlen := hP.len
      rw [show vints (edges ca) ++ vints w ++ vints (edges cb) = vints (edges ca ++ w ++ edges cb) by simp]
      generalize edges ca ++ w ++ edges cb = ls at hP hlen ⊢
      have hl5 : ls.length ≤ 5 := by cases ca <;> cases cb <;> simp at hlen <;> omega
      repeat k_extra "g1"
      k_extra "s"
      refine wpX.assignC [("box", some (.obj b))] [("_law_take", .raw (.ref 196))] ["k"] (by simp) (fun p hp => by simp only [List.mem_singleton] at hp; subst hp; exact g_law_take h) rfl (by kernel_rfl) (by kernel_rfl) ?_
      repeat k_extra "g1"
      refine wpF.lenL rfl (by first | exact smallV (by omega) | exact small (by simp; omega)) ?_
      repeat k_extra "g1"
      refine wpF.range1 ?_
      rw [show (((vints ls).length : Nat) + 1 : Int) = ((ls.length + 1 : Nat) : Int) by simp]
      refine ⟨_, itV_rng, rngOk_n (by omega), .inl rfl, small (by simp; omega), ?_⟩
      refine CompP.of (fun rest acc o1 => ∃ ds x4 y4, acc = vints ds ∧ ds.length + rest.length = ls.length + 1 ∧ (∀ l ∈ ds, 0 ≤ l ∧ l ≤ 9) ∧ o1 = upd (upd o n (.list (fs.map vform))) b (.list [.int x4, .int y4])) ?_ ?_ _ _ _ ⟨[], x5, y5, rfl, by simp, (fun _ hl => nomatch hl), rfl⟩
      · rintro acc o1 ⟨ds, x6, y6, rfl, hdl, hd, rfl⟩
        left
        refine ⟨_, by k_extra "put", ?_⟩
        simp only [List.length_nil, Nat.add_zero] at hdl
        have en : ∀ X, upd (upd o n X) b (.list [.int x6, .int y6]) n = some X := fun X => by rw [upd_ne hbn.symm, upd_same]
        k_extra "s"
        repeat k_extra "g1"
        refine wpE.compO [] [] ["form"] (by simp) (fun p hp => nomatch hp) rfl (by kernel_rfl) ?_
        repeat k_extra "g1"
        refine ⟨n, _, rfl, en _, rfl, small (by simp; have := hf.sz; omega), ?_⟩
        refine CompO.map (en _) vform (fun f => V.lst (vints f.1)) fs (fun f hff => ⟨_, rfl, rfl, ?_⟩) ?_
        · simp only [bindTg]
          repeat k_extra "g1"
          refine wpSub.tup (xs := [.lst (vints f.1), .lst (vints f.2)]) (atI_nat (by decide) rfl) (by decide) (by decide) ?_
          exact ⟨rfl, rfl⟩
        left
        rw [show (fs.map fun f => V.lst (vints f.1)) = (fs.map (·.1)).map fun ns => V.lst (vints ns) by rw [List.map_map]; rfl]
        refine wpO2.notInL rfl rfl ?_
        repeat k_extra "g1"
        by_cases hin : ls ∈ fs.map (·.1)
        · rw [decide_eq_true hin]
          repeat k_extra "go"
          refine ⟨fs, x6, y6, hf, by simp at hs; omega, .inl (fun e => by subst e; simp at hin), rfl, _, _, _, _, rfl⟩
        · rw [decide_eq_false hin]
          repeat k_extra "go"
          refine ⟨_, MethIs.list (en _) PySem.F.slot_list_append rfl, .inl ⟨_, rfl⟩, ?_⟩
          repeat k_extra "go"
          refine wpF.append (en _) (small (by simp; have := hf.sz; omega)) ?_
          rw [updMid hbn.symm]
          refine ⟨rfl, ?_⟩
          repeat k_extra "go"
          refine ⟨fs ++ [(ls, ds)], x6, y6, ⟨by simp at hs ⊢; omega, fun f hff => ?_, ?_⟩, by simp at hs ⊢; omega, .inl (by simp), by rw [List.map_append]; rfl, _, _, _, _, rfl⟩
          · rcases List.mem_append.mp hff with hff | hff
            · exact hf.ok f hff
            · simp only [List.mem_singleton] at hff
              subst hff
              exact ⟨w, ca, cb, hP, hdl, hd, hw, hl3⟩
          · rw [List.map_append, List.nodup_append]
            refine ⟨hf.nd, by simp, fun a ha b hb' => ?_⟩
            simp only [List.map_cons, List.map_nil, List.mem_singleton] at hb'
            subst hb'
            exact fun e => hin (e ▸ ha)
      · rintro x7 xs7 acc o1 ⟨ds, x6, y6, rfl, hdl, hd, rfl⟩
        refine ⟨_, rfl, rfl, ?_⟩
        simp only [bindTg, wpIfs, if_true]
        repeat k_extra "g1"
        left
        repeat k_extra "g1"
        refine wTake h (upd_same ..) (by decide) (by decide) fun r8 x8 y8 hr80 hr81 => ?_
        rw [upd_upd]
        refine wpSub.list (xs := vints [0, 1, 2, 3, 0, 9]) rfl (pickI hr80 hr81) (small (by simp)) ?_
        refine ⟨ds ++ [[0, 1, 2, 3, 0, 9].getD r8.toNat 0], x8, y8, by simp, by simp at hdl ⊢; omega, ?_, rfl⟩
        intro l hl
        rcases List.mem_append.mp hl with hl | hl
        · exact hd l hl
        · simp only [List.mem_singleton] at hl
          subst hl
          have : ∀ k < 6, 0 ≤ ([0, 1, 2, 3, 0, 9] : List Int).getD k 0 ∧ ([0, 1, 2, 3, 0, 9] : List Int).getD k 0 ≤ 9 := by decide
          exact this _ (by omega)
    · rintro x5 xs5 acc o1 ⟨w, x4, y4, rfl, hw, hwn, hl3, rfl⟩
      refine ⟨_, rfl, rfl, ?_⟩
      simp only [bindTg, wpIfs, if_true]
      repeat k_extra "g1"
      refine wTake h (upd_same ..) (by decide) (by decide) fun r3 x6 y6 hr30 hr31 => ?_
      rw [upd_upd]
      repeat k_extra "g1"
      refine ⟨w ++ [97 + r3], x6, y6, by simp, by simp at hw ⊢; omega, .inl (by simp), ?_, rfl⟩
      intro l hl
      rcases List.mem_append.mp hl with hl | hl
      · exact hl3 l hl
      · simp only [List.mem_singleton] at hl
        subst hl
        omega

end

section
variable {B : Bs} {G : Glb} {d : Nat} {sc : Scope} {loc : Loc} {g : Gh} {o : Objs} {s : Shared} {Q : V → Objs → Prop}
theorem wOther (h : B1 B) {ls ns : List Int} (hn : ns.length = 3) (hl : ∀ l ∈ ls, l = 0 ∨ 97 ≤ l ∧ l ≤ 99) (hsz : ls.length ≤ 1000) (q : Q (.lst (vints (ls.map (ren ns)))) o) : wpF B (d + 1) (.raw (.ref 220)) [.lst (vints ls), .lst (vints ns)] Q o := by
  refine wpF.fn (f_law_other h) (ok_law_other _) (gs_law_other h) rfl ?_
  k_extra "loc"
  repeat k_extra "go"
  refine wpE.comp [("names", some (.lst (vints ns)))] [] ["letter"] (by simp) (fun p hp => nomatch hp) rfl (by kernel_rfl) ?_
  repeat k_extra "go"
  refine ⟨_, rfl, trivial, .inl rfl, small (by simp; omega), ?_⟩
  refine CompP.map V.int (fun l => V.int (ren ns l)) ls (fun l hm => ⟨_, rfl, rfl, ?_⟩) ?_
  · simp only [bindTg]
    repeat k_extra "go"
    unfold ren
    by_cases h0 : l = 0
    · rw [beq_iff_eq.mpr h0, if_pos h0]
      repeat k_extra "go"
      exact ⟨rfl, rfl⟩
    · rw [beq_eq_false_iff_ne.mpr h0, if_neg h0]
      have := (hl l hm).resolve_left h0
      repeat k_extra "go"
      exact wpSub.list (y := .int (ns.getD (l - 97).toNat 0)) rfl (pickI (by omega) (by omega)) (by first | exact smallV (by omega) | exact small (by simp; omega)) ⟨rfl, rfl⟩
  left
  refine retQ ?_
  rw [show ls.map (fun l => V.int (ren ns l)) = vints (ls.map (ren ns)) by rw [vints, List.map_map]; rfl]
  exact q

theorem wTable2 (h : B1 B) {fs : List Form} (hf : ∀ f ∈ fs, FormG f) (hnd : (fs.map (·.1)).Nodup) (hsz : fs.length ≤ 100) {w : List Int} (hw0 : w ≠ []) (hw : ∀ l ∈ w, 1 ≤ l ∧ l ≤ 255) (hwl : w.length ≤ 63) {st : Option (List Int)} (hst : ∀ s, st = some s → ∀ p ∈ s, 0 ≤ p ∧ p ≤ w.length)
    (q : ∀ n T, o n = none → Rep2 T fs w st → Q (.obj n) (upd o n (.tab T))) : wpF B (d + 6) (.raw (.ref 208)) [.lst (fs.map vform), .lst (vints w), vst st] Q o := by
  refine wpF.fn (f_law_table h) (ok_law_table _) (gs_law_table h) rfl ?_
  k_extra "loc"
  k_extra "s"
  repeat k_extra "g1"
  rw [← h.C]
  refine wpF.make (tabOk h) (tabMk h) (by rw [h.C, h.K]; kernel_rfl) (by rw [h.K]; kernel_rfl) (f_init h) (ok_init _) fun n hn => ?_
  repeat k_extra "g1"
  refine wpS.cut (fun l o1 => ∃ T, Rep T fs ∧ o1 = upd o n (.tab T) ∧ ∃ u1 u2, l = ([("forms", some (.lst (fs.map vform))), ("word", some (.lst (vints w))), ("stands", some (vst st)), ("table", some (.obj n)), ("letters", u1), ("numbers", u2)] : Loc)) ?_ ?_
  · refine wpX.fors ?_
    repeat k_extra "g1"
    refine ⟨_, rfl, trivial, .inr ⟨_, rfl⟩, ?_⟩
    refine ForP.of (fun rest l o1 => ∃ ds rs T, fs = ds ++ rs ∧ rest = rs.map vform ∧ Rep T ds ∧ o1 = upd o n (.tab T) ∧ ∃ u1 u2, l = ([("forms", some (.lst (fs.map vform))), ("word", some (.lst (vints w))), ("stands", some (vst st)), ("table", some (.obj n)), ("letters", u1), ("numbers", u2)] : Loc)) ?_ ?_ _ _ _ ⟨[], fs, Tab.empty, rfl, rfl, Rep.empty, rfl, _, _, rfl⟩
    · rintro l o1 ⟨ds, rs, T, e, er, R, rfl, u1, u2, rfl⟩
      have : rs = [] := by cases rs with
        | nil => rfl
        | cons => cases er
      subst this
      rw [List.append_nil] at e
      subst e
      exact ⟨rfl, T, R, rfl, _, _, rfl⟩
    · rintro x0 xs l o1 ⟨ds, rs, T, e, er, R, rfl, u1, u2, rfl⟩
      cases rs with
      | nil => cases er
      | cons f rs =>
        simp only [List.map_cons, List.cons.injEq] at er
        obtain ⟨rfl, rfl⟩ := er
        have hfG := hf f (by rw [e]; simp)
        obtain ⟨w', hp⟩ := hfG.pat
        have hnot : f.1 ∉ ds.map (·.1) := by
          rw [e, List.map_append, List.nodup_append] at hnd
          exact fun q => hnd.2.2 _ q f.1 (by simp) rfl
        refine wpA.tup (names := ["letters", "numbers"]) rfl (.cons (by k_extra "put") (.cons (by k_extra "put") .nil)) ?_
        k_extra "s"
        repeat k_extra "g1"
        have ht : upd o n (.tab T) n = some (.tab T) := upd_same ..
        have hlen : ds.length ≤ 100 := by rw [e] at hsz; simp at hsz; omega
        refine ⟨_, m_add h ht, keep1 h (by decide), ?_⟩
        repeat k_extra "g1"
        refine wAdd h ht hp (R.no hfG.lets hnot) (by have := R.nl; omega) (by have := R.nn; omega) ?_
        rw [upd_upd]
        refine ⟨rfl, ?_⟩
        repeat k_extra "go"
        exact ⟨ds ++ [f], rs, _, by rw [e]; simp, rfl, R.step hfG hnot, rfl, _, _, rfl⟩
  rintro _ _ ⟨T, R, rfl, u1, u2, rfl⟩
  have ht : upd o n (.tab T) n = some (.tab T) := upd_same ..
  cases st with
  | none =>
    simp only [vst]
    repeat k_extra "go"
    rw [show V.none.isNone = true from rfl]
    repeat k_extra "go"
    exact retQ (q n T hn (R.two w))
  | some s =>
    simp only [vst]
    repeat k_extra "go"
    rw [show (V.lst (vints s)).isNone = false from rfl]
    repeat k_extra "go"
    refine ⟨_, m_add_exception h ht, keep1 h (by decide), ?_⟩
    repeat k_extra "go"
    refine wAddExc h ht (.inl rfl) hw0 hw hwl (hst s rfl) (by rw [R.ne]; decide) ?_
    rw [upd_upd]
    refine ⟨rfl, ?_⟩
    repeat k_extra "go"
    exact retQ (q n _ hn (R.twoE w s))

theorem wMixed (h : B1 B) {b : Nat} {x y : Int} (hb : o b = some (.list [.int x, .int y])) {fs : List Form} (hsz : fs.length ≤ 100) (q : ∀ (gs : List Form) (x' y' : Int), gs.Perm fs → Q (.lst (gs.map vform)) (upd o b (.list [.int x', .int y']))) :
    wpF B (d + 2) (.raw (.ref 215)) [.obj b, .lst (fs.map vform)] Q o := by
  refine wpF.fn (f_law_mixed h) (ok_law_mixed _) (gs_law_mixed h) rfl ?_
  k_extra "loc"
  k_extra "s"
  refine wpX.tupS (names := ["rest", "found"]) ?_ (by kernel_rfl)
  repeat k_extra "g1"
  refine wpF.list1 rfl (by first | exact smallV (by omega) | exact small (by simp; omega)) ?_
  right
  intro n1 hn1
  repeat k_extra "g1"
  right
  intro n2 hn2
  repeat k_extra "g1"
  k_extra "tup2"
  have hne : n2 ≠ n1 := fun e => by subst e; rw [upd_same] at hn2; cases hn2
  rw [upd_ne hne] at hn2
  have hb1 := ne_of hn1 hb
  have hb2 := ne_of hn2 hb
  refine wpS.cut (fun l o1 => ∃ (gs : List Form) (x y : Int), gs.Perm fs ∧ o1 = upd (upd (upd o n1 (.list [])) n2 (.list (gs.map vform))) b (.list [.int x, .int y]) ∧ l = ([("box", some (.obj b)), ("rows", some (.lst (fs.map vform))), ("rest", some (.obj n1)), ("found", some (.obj n2))] : Loc)) ?_ ?_
  · refine wpX.whiles (fun k l o1 => ∃ (rs gs : List Form) (x y : Int), (gs ++ rs).Perm fs ∧ k = rs.length ∧ o1 = upd (upd (upd o n1 (.list (rs.map vform))) n2 (.list (gs.map vform))) b (.list [.int x, .int y]) ∧ l = ([("box", some (.obj b)), ("rows", some (.lst (fs.map vform))), ("rest", some (.obj n1)), ("found", some (.obj n2))] : Loc)) ?_ fs.length
      ⟨fs, [], x, y, List.Perm.refl _, rfl, (upd_id (by rw [upd_ne hb2, upd_ne hb1]; exact hb)).symm, rfl⟩
    rintro k l o1 ⟨rs, gs, x2, y2, hp, rfl, rfl, rfl⟩
    have hrl : rs.length ≤ 100 := by have := hp.length_eq; simp at this; omega
    have hgl : gs.length ≤ 100 := by have := hp.length_eq; simp at this; omega
    have e1 : ∀ X Y Z, upd (upd (upd o n1 X) n2 Y) b Z n1 = some X := fun X Y Z => by rw [upd_ne hb1.symm, upd_ne hne.symm, upd_same]
    have e2 : ∀ X Y Z, upd (upd (upd o n1 X) n2 Y) b Z n2 = some Y := fun X Y Z => by rw [upd_ne hb2.symm, upd_same]
    repeat k_extra "g1"
    left
    refine wpO2.lneNil (fs := rs) (by simp only [asL, e1]) rfl ?_
    repeat k_extra "g1"
    cases rs with
    | nil =>
      rw [decide_eq_true rfl]
      repeat k_extra "g1"
      exact ⟨rfl, gs, x2, y2, by simpa using hp, rfl, rfl⟩
    | cons r0 rs =>
      rw [decide_eq_false (by simp)]
      repeat k_extra "go"
      refine ⟨_, MethIs.list (e2 _ _ _) PySem.F.slot_list_append rfl, .inl ⟨_, rfl⟩, ?_⟩
      repeat k_extra "go"
      refine ⟨_, MethIs.list (e1 _ _ _) PySem.F.slot_list_pop rfl, .inl ⟨_, rfl⟩, ?_⟩
      repeat k_extra "go"
      refine wpF.lenL (by simp only [asL, e1]; rfl) (small (by simp at hrl ⊢; omega)) ?_
      repeat k_extra "go"
      rw [show ((((r0 :: rs).map vform).length : Nat) : Int) = ((r0 :: rs).length : Int) by simp]
      refine wTake h (upd_same ..) (by simp only [List.length_cons]; omega) (by simp only [List.length_cons] at hrl ⊢; omega) fun r x3 y3 hr0 hr1 => ?_
      rw [upd_upd]
      repeat k_extra "go"
      have hrlt : r.toNat < (r0 :: rs).length := by omega
      refine wpF.popAt (v := vform ((r0 :: rs)[r.toNat]'hrlt)) (j := r.toNat) (e1 _ _ _) (seqIndex_nat hr0 (by simpa using hr1)) (by rw [List.getElem?_map, List.getElem?_eq_getElem hrlt]; rfl) (small (by simp at hrl ⊢; omega)) ?_
      have e3 : ∀ X Y Z W, upd (upd (upd (upd o n1 X) n2 Y) b Z) n1 W = upd (upd (upd o n1 W) n2 Y) b Z := fun X Y Z W => by
        funext k; unfold upd
        by_cases h1 : k = n1 <;> by_cases h2 : k = n2 <;> by_cases h3 : k = b <;> simp_all
      have e4 : ∀ X Y Z W, upd (upd (upd (upd o n1 X) n2 Y) b Z) n2 W = upd (upd (upd o n1 X) n2 W) b Z := fun X Y Z W => by
        funext k; unfold upd
        by_cases h1 : k = n1 <;> by_cases h2 : k = n2 <;> by_cases h3 : k = b <;> simp_all
      rw [e3]
      repeat k_extra "go"
      refine wpF.append (e2 _ _ _) (by first | exact smallV (by omega) | exact small (by simp; omega)) ?_
      rw [e4]
      refine ⟨rfl, ?_⟩
      repeat k_extra "go"
      refine ⟨rs.length, by simp, (r0 :: rs).eraseIdx r.toNat, gs ++ [(r0 :: rs)[r.toNat]'hrlt], x3, y3, ?_, by rw [List.length_eraseIdx_of_lt hrlt]; rfl, by rw [List.map_append, map_erase]; rfl, rfl⟩
      refine List.Perm.trans ?_ hp
      rw [List.append_assoc]
      exact List.Perm.append_left gs (perm_erase _ _ hrlt)
  rintro _ _ ⟨gs, x2, y2, hp, rfl, rfl⟩
  have e2 : ∀ X Y Z, upd (upd (upd o n1 X) n2 Y) b Z n2 = some Y := fun X Y Z => by rw [upd_ne hb2.symm, upd_same]
  refine wpS.freeze (n := n2) (e2 _ _ _) (.same (.same (.same (.froz .nil)))) ?_
  repeat k_extra "go"
  refine ⟨upd o b (.list [.int x2, .int y2]), fun m z hm => ?_, q gs _ _ hp⟩
  unfold del
  have hm2 : m ≠ n2 := fun e => by subst e; rw [upd_ne hb2.symm, hn2] at hm; cases hm
  have hm1 : m ≠ n1 := fun e => by subst e; rw [upd_ne hb1.symm, hn1] at hm; cases hm
  rw [if_neg hm2]
  by_cases hmb : m = b
  · subst hmb; rw [upd_same] at hm ⊢; exact hm
  · rw [upd_ne hmb] at hm ⊢
    rw [upd_ne hm2, upd_ne hm1]; exact hm

theorem wWord2 (h : B1 B) {b : Nat} {x y : Int} (hb : o b = some (.list [.int x, .int y])) {fs : List Form} (hf : FormsOk2 fs) (hne : fs ≠ []) (q : ∀ w x' y', w ≠ [] → L9 w → w.length ≤ 10 → Q (.lst (vints w)) (upd o b (.list [.int x', .int y']))) :
    wpF B (d + 2) (.raw (.ref 225)) [.obj b, .lst (fs.map vform)] Q o := by
  have hfl : 0 < fs.length := List.length_pos_iff.mpr hne
  have hfs := hf.sz
  refine wpF.fn (f_law_word h) (ok_law_word _) (gs_law_word h) rfl ?_
  k_extra "loc"
  k_extra "s"
  repeat k_extra "g1"
  refine wTake h hb (by decide) (by decide) fun r4 x4 y4 hr40 hr41 => ?_
  repeat k_extra "g1"
  left
  repeat k_extra "g1"
  refine wTake h (upd_same ..) (by decide) (by decide) fun r5 x5 y5 hr50 hr51 => ?_
  rw [upd_upd]
  repeat k_extra "g1"
  refine wpF.intB ?_
  generalize (r5 == 1) = c3
  refine wpO2.lmul rfl (by cases c3 <;> decide) (by cases c3 <;> decide) (by cases c3 <;> simp) ?_
  left
  have e98 : (List.replicate ((if c3 = true then (1 : Int) else 0).toNat) [V.int (97 + r4)]).flatten = vints (if c3 then [97 + r4] else []) := by cases c3 <;> rfl
  rw [e98]
  have hw1 : (if c3 then [97 + r4] else []).length ≤ 1 ∧ L9 (if c3 then [97 + r4] else []) := by
    cases c3
    · exact ⟨by simp, fun l hl => by simp at hl⟩
    · exact ⟨by simp, fun l hl => by simp at hl; subst hl; omega⟩
  generalize (if c3 then [97 + r4] else []) = w0 at hw1 ⊢
  obtain ⟨hw0l, hw09⟩ := hw1
  repeat k_extra "g1"
  k_extra "s"
  refine wpX.fors ?_
  repeat k_extra "g1"
  refine wTake h (upd_same ..) (by decide) (by decide) fun r x1 y1 hr0 hr1 => ?_
  rw [upd_upd]
  repeat k_extra "g1"
  refine wpF.range1 ?_
  rw [show (1 + r : Int) = ((r.toNat + 1 : Nat) : Int) by omega]
  refine ⟨_, itV_rng, rngOk_n (by omega), .inl rfl, ?_⟩
  refine ForP.of (fun rest l o1 => ∃ w x2 y2, w.length + 3 * rest.length ≤ 10 ∧ (w ≠ [] ∨ rest ≠ []) ∧ L9 w ∧ o1 = upd o b (.list [.int x2, .int y2]) ∧ ∃ u1, l = ([("box", some (.obj b)), ("forms", some (.lst (fs.map vform))), ("found", some (.lst (vints w))), ("lap", u1)] : Loc)) ?_ ?_ _ _ _
    ⟨w0, x1, y1, by simp; omega, .inr (by simp), hw09, rfl, _, rfl⟩
  · rintro l o1 ⟨w, x2, y2, hw, hwn, hl3, rfl, u1, rfl⟩
    repeat k_extra "go"
    simp only [List.length_nil, Nat.mul_zero, Nat.add_zero] at hw
    exact retQ (q w _ _ (by rcases hwn with e | e; exact e; exact absurd rfl e) hl3 hw)
  · rintro x0 xs l o1 ⟨w, x2, y2, hw, hwn, hl3, rfl, u1, rfl⟩
    simp only [List.length_cons] at hw
    refine wpA.name (by k_extra "put") ?_
    repeat k_extra "go"
    refine wpE.comp [] [] ["letter"] (by simp) (fun p hp => nomatch hp) rfl (by kernel_rfl) ?_
    repeat k_extra "go"
    refine wpF.lenL rfl (by first | exact smallV (by omega) | exact small (by simp; omega)) ?_
    repeat k_extra "go"
    rw [show (((fs.map vform).length : Nat) : Int) = (fs.length : Int) by simp]
    refine wTake h (upd_same ..) (by omega) (by omega) fun r2 x3 y3 hr20 hr21 => ?_
    rw [upd_upd]
    obtain ⟨f, hfr⟩ : ∃ f, fs[r2.toNat]? = some f := ⟨fs[r2.toNat]'(by omega), List.getElem?_eq_getElem (by omega)⟩
    have hfm : f ∈ fs := List.mem_of_getElem? hfr
    obtain ⟨w1, a, c, hf1⟩ := hf.ok f hfm
    refine wpSub.list (y := vform f) rfl (atI_nat hr20 (by rw [List.getElem?_map, hfr]; rfl)) (by first | exact smallV (by omega) | exact small (by simp; omega)) ?_
    repeat k_extra "go"
    refine wpSub.tup (xs := [.lst (vints f.1), .lst (vints f.2)]) (atI_nat (by decide) rfl) (by decide) (by decide) ?_
    have hl1 := hf1.l.len
    have hs1 := hf1.sz
    refine ⟨_, rfl, trivial, .inl rfl, small (by simp; split at hl1 <;> split at hl1 <;> omega), ?_⟩
    refine CompP.filt V.int (fun l => decide (0 < l)) V.int f.1 (fun l hl => ⟨_, rfl, rfl, ?_, fun _ => ?_⟩) ?_
    · simp only [bindTg]
      repeat k_extra "go"
      exact ⟨rfl, rfl⟩
    · simp only [bindTg]
      repeat k_extra "go"
      exact ⟨rfl, rfl⟩
    left
    have ew : f.1.filter (fun l => decide (0 < l)) = w1 := by
      have e1 : w1.filter (fun l => decide (0 < l)) = w1 := List.filter_eq_self.mpr fun l hl => decide_eq_true (by have := hf1.l.ok l hl; omega)
      rw [hf1.l.eq, List.filter_append, List.filter_append, e1]
      cases a <;> cases c <;> simp [edges]
    rw [ew]
    refine wpO2.ladd rfl rfl (by first | exact smallV (by omega) | exact small (by simp; omega)) ?_
    left
    repeat k_extra "go"
    refine ⟨w ++ w1, x3, y3, by simp only [List.length_append]; omega, .inl (by simp [hf1.l.ne]), fun l hl => ?_, rfl, some x0, by simp only [vints, List.map_append]⟩
    rcases List.mem_append.mp hl with hl | hl
    · exact hl3 l hl
    · exact hf1.l9 l hl

end

section
variable {B : Bs} {G : Glb} {d : Nat} {sc : Scope} {loc : Loc} {g : Gh} {o : Objs} {s : Shared} {Q : V → Objs → Prop}
theorem gapNums_len (T : Tab) (ls : List Int) : (gapNums T ls).length = ls.length + 1 := by
  have hgl : ∀ ks f, (gapFrom T (marksOf ls) ks f).length = f.length := by
    intro ks
    induction ks with
    | nil => intro f; rfl
    | cons k ks ih => intro f; simp only [gapFrom]; rw [ih, goG_len]
  unfold gapNums
  rw [List.length_drop, List.length_take, hgl, List.length_replicate]
  omega

theorem wPoints (h : B1 B) {t : Nat} {T : Tab} (ht : o t = some (.tab T)) (hT : TabRows T) {x : V} {ls : List Int} (hx : x = .lst (vints ls) ∨ (x = .tup (vints ls) ∧ ls.length ≤ 63)) (hne : ls ≠ []) (hok : ∀ l ∈ ls, 1 ≤ l ∧ l ≤ 255) (hsz : ls.length ≤ 1000) {left right : Int} (hE : ∀ k ks, T.excs k = some ks → ks.length ≤ 10000)
    (q : NewL Q (vints (pointsT T ls left right)) o) : wpF B (d + 3) (.raw (.ref 175)) [.obj t, x, .int left, .int right] Q o := by
  have hw : (ls.take 63).length ≤ 63 := by simp; omega
  have hS : Seq x (vints ls) := by
    rcases hx with e | e
    · exact .inl e
    · exact .inr e.1
  refine wpF.fn (f_points h) (ok_points _) (gs_points h) rfl ?_
  k_extra "loc"
  k_extra "s"
  repeat k_extra "g1"
  refine isWord h hS hne (by omega) hok ?_
  repeat k_extra "g1"
  k_extra "s"
  repeat k_extra "g1"
  refine wpS.cut (fun l o1 => o = o1 ∧ l = ([("self", some (.obj t)), ("letters", some x), ("left", some (.int left)), ("right", some (.int right)), ("word", some (.lst (vints (ls.take 63)))), ("first", none), ("last", none), ("kept", none), ("numbers", none)] : Loc)) ?_ ?_
  · rcases hx with rfl | ⟨rfl, h63⟩
    · repeat k_extra "g1"
      refine ⟨_, rfl, small (by simp; omega), by simp, ?_⟩
      rw [pick_upto _ (by decide), ← List.map_take]
      left
      repeat k_extra "g1"
      refine wpF.list1 rfl (by first | exact smallV (by omega) | exact small (by simp; omega)) ?_
      left
      rw [show (63 : Int).toNat = 63 from rfl]
      repeat k_extra "g1"
      exact ⟨rfl, rfl, rfl⟩
    · refine wpX.assign ?_
      refine wpE.call (by k_extra "mem") (by k_extra "keep") ?_
      refine wpEs.cons ?_
      refine wpE.sliceT ?_
      repeat k_extra "g1"
      refine ⟨_, _, rfl, rfl, by simp; omega, ?_⟩
      repeat k_extra "g1"
      refine wpF.list1 rfl (by first | exact smallV (by omega) | exact small (by simp; omega)) ?_
      left
      repeat k_extra "g1"
      exact ⟨rfl, rfl, by rw [List.take_of_length_le h63]⟩
  rintro _ _ ⟨rfl, rfl⟩
  k_extra "s"
  refine wpX.tup (names := ["first", "last"]) ?_ rfl (by kernel_rfl)
  repeat k_extra "g1"
  refine leastPart h ?_
  repeat k_extra "g1"
  refine wpF.lenL rfl (by first | exact smallV (by omega) | exact small (by simp; omega)) ?_
  repeat k_extra "g1"
  refine leastPart h ?_
  repeat k_extra "g1"
  k_extra "tup2"
  have eF : max 1 (min 63 left) = leastP left := rfl
  have eR : max 1 (min 63 right) = leastP right := rfl
  have eW : (((vints (ls.take 63)).length : Nat) : Int) = ((ls.take 63).length : Nat) := by simp
  rw [eF, eR, eW]
  have hF : 1 ≤ leastP left ∧ leastP left ≤ 63 := by unfold leastP; omega
  have hR : 1 ≤ leastP right ∧ leastP right ≤ 63 := by unfold leastP; omega
  k_extra "s"
  repeat k_extra "g1"
  refine ⟨_, MethIs.get ht rfl, .inl ⟨_, rfl⟩, ?_⟩
  repeat k_extra "g1"
  refine wordKey h (.inl rfl) ?_
  repeat k_extra "g1"
  refine wpF.getE ht ?_
  unfold pointsT at q
  cases ek : T.excs (keyOf (ls.take 63)) with
  | some ks =>
    rw [ek] at q
    rw [Option.map_some, Option.getD_some]
    repeat k_extra "go"
    rw [show (tupI ks).isNone = false from rfl]
    repeat k_extra "go"
    refine wpE.comp [("first", some (.int (leastP left))), ("last", some (.int (((ls.take 63).length : Nat) - leastP right)))] [] ["place"] (by simp) (fun p hp => nomatch hp) rfl (by kernel_rfl) ?_
    repeat k_extra "go"
    refine ⟨_, rfl, trivial, .inl rfl, small (by have := hE _ _ ek; simpa using this), ?_⟩
    refine CompP.filt V.int (between (leastP left) (((ls.take 63).length : Nat) - leastP right)) V.int ks (fun k hk => ⟨_, rfl, rfl, ?_, fun _ => ?_⟩) ?_
    · simp only [bindTg]
      repeat k_extra "go"
      unfold between
      refine iteB (fun hc => ?_) fun hc => ?_
      · rw [decide_eq_true_eq] at hc
        repeat k_extra "go"
        exact ⟨by simp [hc], rfl⟩
      · rw [decide_eq_false_iff_not] at hc
        exact ⟨by simp [hc], rfl⟩
    · simp only [bindTg]
      repeat k_extra "go"
      exact ⟨rfl, rfl⟩
    exact q.imp retQ fun q n hn => retQ (q n hn)
  | none =>
    rw [ek] at q
    rw [Option.map_none, Option.getD_none]
    repeat k_extra "go"
    rw [show V.none.isNone = true from rfl]
    repeat k_extra "go"
    refine ⟨_, m_gap_numbers h ht, keep1 h (by decide), ?_⟩
    repeat k_extra "go"
    refine wGap h ht hT (.inl rfl) (fun l hl => by have := hok l (List.mem_of_mem_take hl); omega) (by omega) ?_
    left
    repeat k_extra "go"
    have hgl := gapNums_len T (ls.take 63)
    generalize gapNums T (ls.take 63) = nums at hgl q ⊢
    refine wpE.comp [("numbers", some (.lst (vints nums)))] [] ["place"] (by simp) (fun p hp => nomatch hp) rfl (by kernel_rfl) ?_
    repeat k_extra "go"
    refine wpF.range2 ?_
    refine ⟨_, itV_rng2, ?_, .inl rfl, small ?_, ?_⟩
    · simp only [rngOk]; omega
    · simp; omega
    refine CompP.filt (fun i : Nat => V.int (leastP left + i)) (fun i => nums.getD (leastP left + (i : Int)).toNat 0 % 2 == 1) (fun i => V.int (leastP left + i)) _ (fun i hi => ⟨_, rfl, rfl, ?_, fun _ => ?_⟩) ?_
    · simp only [bindTg]
      rw [List.mem_range] at hi
      have hx : nums[(leastP left + (i : Int)).toNat]? = some (nums.getD (leastP left + (i : Int)).toNat 0) := by
        rw [List.getD_eq_getElem?_getD, List.getElem?_eq_getElem (by omega)]; rfl
      repeat k_extra "go"
      refine wpSub.list (y := .int (nums.getD (leastP left + (i : Int)).toNat 0)) rfl (atI_nat (by omega) (by rw [List.getElem?_map, hx]; rfl)) (by first | exact smallV (by omega) | exact small (by simp; omega)) ?_
      repeat k_extra "go"
      refine wpO2.fmod (by decide) ?_
      repeat k_extra "go"
      refine ⟨?_, rfl⟩
      rw [Int.fmod_eq_emod_of_nonneg _ (by decide)]
    · simp only [bindTg]
      repeat k_extra "go"
      exact ⟨rfl, rfl⟩
    have e2 : ((List.range (((ls.take 63).length : Nat) - leastP right + 1 - leastP left).toNat).filter fun i : Nat => nums.getD (leastP left + (i : Int)).toNat 0 % 2 == 1).map (fun i : Nat => V.int (leastP left + i)) =
        vints (((List.range (((ls.take 63).length : Nat) - leastP right + 1 - leastP left).toNat).map fun i : Nat => leastP left + (i : Int)).filter fun p => nums.getD p.toNat 0 % 2 == 1) := by
      rw [List.filter_map, vints, List.map_map]; rfl
    rw [e2]
    exact q.imp retQ fun q n hn => retQ (q n hn)

end

section
variable {B : Bs} {G : Glb} {d : Nat} {sc : Scope} {loc : Loc} {g : Gh} {o : Objs} {s : Shared} {Q : V → Objs → Prop}
theorem wTail (h : B1 B) {nP nT : Nat} {oa : Objs} {b tN tM t0 t2 t1 tW : Nat} {TN TM T0 T2 T1 TW : Tab} {fst far : Bool} {fs gs : List Form} {hh le ri : Int} {ns w : List Int} {st : Option (List Int)} (hf : FormsOk2 fs) (hp : gs.Perm fs) (hh0 : 0 ≤ hh) (hh1 : hh < fs.length) (hw0 : w ≠ []) (hw9 : L9 w) (hwl : w.length ≤ 63) (RW : Rep2 TW gs w st) (R1 : Rep2 T1 (fs.take hh.toNat) w none) (q : ∀ o', Q (.bool true) o') (S : Live oa b [(nP, .list (vints (pointsT TW w le ri))), (nT, .list (vints (gapNums TW w))), (tN, .tab TN), (tM, .tab TM), (t0, .tab T0), (t2, .tab T2), (t1, .tab T1), (tW, .tab TW)]) : wpS B ⟨[("_law_take", .raw (.ref 196)), ("_law_forms", .raw (.ref 201)), ("len", .raw (.builtin "len")), ("_law_word", .raw (.ref 225)), ("range", .raw (.type "range")), ("_law_table", .raw (.ref 208)), ("_law_mixed", .raw (.ref 215)), ("_law_other", .raw (.ref 220)), ("tuple", .raw (.type "tuple"))], (scopeOf (heapK B.w.params) 230)⟩ (d + 7) (scopeOf (heapK B.w.params) 230) ([("box", some (.obj b)), ("is_first", some (.bool fst)), ("is_far", some (.bool far)), ("forms", some (.lst (fs.map vform))), ("half", some (.int hh)), ("names", some (.lst (vints ns))), ("word", some (.lst (vints w))), ("left", some (.int le)), ("right", some (.int ri)), ("stands", some (vst st)), ("size", some (.int w.length)), ("whole", some (.obj tW)), ("one", some (.obj t1)), ("other", some (.obj t2)), ("none", some (.obj t0)), ("turned_forms", some (.lst ((fs.map revF).map vform))), ("mirror", some (.obj tM)), ("named", some (.obj tN)), ("told", some (.obj nT)), ("first", some (.lst (vints (gapNums T1 w)))), ("second", some (.lst (vints (gapNums T2 w)))), ("points", some (.obj nP)), ("back", some (.lst (vints (pointsT TM w.reverse ri le)))), ("raised", none)] : Loc) ((bodyOf (heapK B.w.params) 230).drop 21) (RetQ Q) oa := by
  have hfs := hf.sz
  have hwok := L9.ok hw9
  have hG := hf.g
  have hnd := hf.nd
  have hhN : hh.toNat < fs.length := by omega
  have hGg : ∀ f ∈ gs, FormG f := fun f hm => hG f (hp.mem_iff.mp hm)
  have hlW := gapNums_len TW w
  have hl1 := gapNums_len T1 w
  have okW := RW.rows hGg
  have exW := RW.excs (by omega)
  have lt255 : ∀ x : List Int, (∀ l ∈ x, 1 ≤ l ∧ l ≤ 255) → ∀ l ∈ x, 0 ≤ l ∧ l < 256 := fun x hx l hl => by have := hx l hl; omega
  have qLen : (pointsT TW w le ri).length ≤ w.length + 1 := by rw [pts2 RW hwl]; exact ptsF_len ..
  have eP := S.get (n := nP) (X := .list (vints (pointsT TW w le ri))) (by k_extra "mem")
  k_extra "s"
  repeat k_extra "g1"
  refine ⟨_, MethIs.list eP PySem.F.slot_list_append rfl, .inl ⟨_, rfl⟩, ?_⟩
  repeat k_extra "g1"
  refine wpF.append eP (small (by simp; omega)) ?_
  have S := S.setAt (Y := .list (vints (pointsT TW w le ri) ++ [.int 1])) []
  generalize upd oa nP (.list (vints (pointsT TW w le ri) ++ [.int 1])) = ob at S ⊢
  refine ⟨rfl, ?_⟩
  clear eP
  have eT := S.get (n := nT) (X := .list (vints (gapNums TW w))) (by k_extra "mem")
  k_extra "s"
  repeat k_extra "g1"
  refine ⟨_, MethIs.list eT PySem.F.slot_list_append rfl, .inl ⟨_, rfl⟩, ?_⟩
  repeat k_extra "g1"
  refine wpF.append eT (small (by simp; omega)) ?_
  have S := S.setAt (n := nT) (Y := .list (vints (gapNums TW w) ++ [.int 1])) [(nP, _)]
  generalize upd ob nT (.list (vints (gapNums TW w) ++ [.int 1])) = oc at S ⊢
  refine ⟨rfl, ?_⟩
  clear eT
  have e1 := S.get (n := t1) (X := .tab T1) (by k_extra "mem")
  have hfh : fs[hh.toNat]? = some (fs[hh.toNat]'hhN) := List.getElem?_eq_getElem hhN
  have hts := take_snoc hhN
  generalize fs[hh.toNat]'hhN = fh at hfh hts
  have hfm : fh ∈ fs := List.mem_of_getElem? hfh
  obtain ⟨wh, hpat⟩ := (hG fh hfm).pat
  have hnot : fh.1 ∉ (fs.take hh.toNat).map (·.1) := by
    have q1 := hnd.sublist ((List.take_sublist (hh.toNat + 1) fs).map _)
    rw [hts, List.map_append, List.nodup_append] at q1
    exact fun q2 => q1.2.2 _ q2 fh.1 (by simp) rfl
  k_extra "s"
  repeat k_extra "g1"
  refine ⟨_, m_add h e1, keep1 h (by decide), ?_⟩
  repeat k_extra "g1"
  refine wpSub.list (y := vform fh) rfl (atI_nat hh0 (by rw [List.getElem?_map, hfh]; rfl)) (small (by simp; omega)) ?_
  repeat k_extra "g1"
  refine wpSub.tup (xs := [.lst (vints fh.1), .lst (vints fh.2)]) (y := .lst (vints fh.1)) (atI_nat (by decide) rfl) (by decide) (by decide) ?_
  repeat k_extra "g1"
  refine wpSub.list (y := vform fh) rfl (atI_nat hh0 (by rw [List.getElem?_map, hfh]; rfl)) (small (by simp; omega)) ?_
  repeat k_extra "g1"
  refine wpSub.tup (xs := [.lst (vints fh.1), .lst (vints fh.2)]) (y := .lst (vints fh.2)) (atI_nat (by decide) rfl) (by decide) (by decide) ?_
  repeat k_extra "g1"
  refine wAdd h e1 hpat (R1.no (hG fh hfm).lets hnot) (by have := R1.nl; simp at this; omega) (by have := R1.nn; simp at this; omega) ?_
  have R3 := R1.add (hG fh hfm) hnot
  rw [← hts] at R3
  generalize addT T1 fh.1 fh.2 (sA fh.1) (eA fh.1) = T3 at R3 ⊢
  have S := S.setAt (n := t1) (Y := .tab T3) [(nP, _), (nT, _), (tN, _), (tM, _), (t0, _), (t2, _)]
  generalize upd oc t1 (.tab T3) = od at S ⊢
  refine ⟨rfl, ?_⟩
  clear e1
  have e3 := S.get (n := t1) (X := .tab T3) (by k_extra "mem")
  have eT := S.get (n := nT) (X := .list (vints (gapNums TW w) ++ [.int 1])) (by k_extra "mem")
  have eP := S.get (n := nP) (X := .list (vints (pointsT TW w le ri) ++ [.int 1])) (by k_extra "mem")
  have eW := S.get (n := tW) (X := .tab TW) (by k_extra "mem")
  have ok3 := R3.rows (fun f hm => hG f (List.mem_of_mem_take hm))
  have hl3 := gapNums_len T3 w
  have nd1 := hnd.sublist ((List.take_sublist hh.toNat fs).map _)
  have nd3 := hnd.sublist ((List.take_sublist (hh.toNat + 1) fs).map _)
  have mono1 : ∀ k, k < w.length + 1 → (gapNums T1 w).getD k 0 ≤ (gapNums T3 w).getD k 0 := fun k hk => gap_mono R1 R3 (fun f hm => hG f (List.mem_of_mem_take hm)) (fun f hm => hG f (List.mem_of_mem_take hm)) nd1 nd3 (fun f hm => by rw [hts]; exact List.mem_append_left _ hm) hwok hk
  have mono3 : ∀ k, k < w.length + 1 → (gapNums T3 w).getD k 0 ≤ (gapNums TW w).getD k 0 := fun k hk => gap_mono R3 RW (fun f hm => hG f (List.mem_of_mem_take hm)) hGg nd3 ((hp.map _).nodup_iff.mpr hnd) (fun f hm => hp.mem_iff.mpr (List.mem_of_mem_take hm)) hwok hk
  k_extra "s"
  repeat k_extra "g1"
  refine ⟨_, m_gap_numbers h e3, keep1 h (by decide), ?_⟩
  repeat k_extra "g1"
  refine wGap h e3 ok3 (.inl rfl) (lt255 w hwok) (by omega) ?_
  left
  repeat k_extra "g1"
  refine wpS.cut (fun l o' => od = o' ∧ l = ([("box", some (.obj b)), ("is_first", some (.bool fst)), ("is_far", some (.bool far)), ("forms", some (.lst (fs.map vform))), ("half", some (.int hh)), ("names", some (.lst (vints ns))), ("word", some (.lst (vints w))), ("left", some (.int le)), ("right", some (.int ri)), ("stands", some (vst st)), ("size", some (.int w.length)), ("whole", some (.obj tW)), ("one", some (.obj t1)), ("other", some (.obj t2)), ("none", some (.obj t0)), ("turned_forms", some (.lst ((fs.map revF).map vform))), ("mirror", some (.obj tM)), ("named", some (.obj tN)), ("told", some (.obj nT)), ("first", some (.lst (vints (gapNums T1 w)))), ("second", some (.lst (vints (gapNums T2 w)))), ("points", some (.obj nP)), ("back", some (.lst (vints (pointsT TM w.reverse ri le)))), ("raised", some (.lst (vints (gapNums T3 w))))] : Loc)) ?_ ?_
  · repeat k_extra "g1"
    refine wpE.comp [("told", some (.obj nT)), ("first", some (.lst (vints (gapNums T1 w)))), ("raised", some (.lst (vints (gapNums T3 w))))] [] ["k"] (by simp) (fun p hp => nomatch hp) rfl (by kernel_rfl) ?_
    repeat k_extra "g1"
    refine wpF.range1 ?_
    rw [show ((w.length : Nat) + 1 : Int) = ((w.length + 1 : Nat) : Int) by simp]
    refine ⟨_, itV_rng, rngOk_n (by omega), .inl rfl, small (by simp; omega), ?_⟩
    refine CompP.filt (fun i : Nat => V.int i) (fun _ => false) (fun i : Nat => V.int i) _ (fun i hi => ⟨_, rfl, rfl, ?_, fun q => nomatch q⟩) ?_
    · simp only [bindTg]
      have hi' := List.mem_range.mp hi
      have m1 := mono1 i hi'
      have m3 := mono3 i hi'
      repeat k_extra "g1"
      refine wpSub.list (y := .int ((gapNums T3 w).getD i 0)) rfl (pickI (r := (i : Int)) (by omega) (by omega)) (small (by simp; omega)) ?_
      repeat k_extra "g1"
      refine wpSub.list (y := .int ((gapNums T1 w).getD i 0)) rfl (pickI (r := (i : Int)) (by omega) (by omega)) (small (by simp; omega)) ?_
      repeat k_extra "g1"
      rw [decide_eq_false (by omega)]
      repeat k_extra "g1"
      refine wpSub.list (y := .int ((gapNums T3 w).getD i 0)) rfl (pickI (r := (i : Int)) (by omega) (by omega)) (small (by simp; omega)) ?_
      repeat k_extra "g1"
      refine wpSub.list (y := .int ((gapNums TW w).getD i 0)) (xs := vints (gapNums TW w) ++ [.int 1]) (asL_of eT) (atI_nat (by omega) (by rw [Int.toNat_natCast, List.getElem?_append_left (by simp; omega), List.getElem?_map, List.getD_eq_getElem?_getD, List.getElem?_eq_getElem (by omega)]; rfl)) (small (by simp; omega)) ?_
      repeat k_extra "g1"
      rw [decide_eq_false (by omega)]
      repeat k_extra "g1"
      exact ⟨rfl, rfl⟩
    left
    rw [show ((List.range (w.length + 1)).filter fun _ : Nat => false) = [] from List.filter_eq_nil_iff.mpr fun _ _ => by simp]
    repeat k_extra "g1"
    left
    refine wpO2.lne (ns := []) (ms := []) rfl rfl ?_
    rw [decide_eq_true rfl]
    repeat k_extra "go"
    exact ⟨rfl, rfl, rfl⟩
  rintro _ _ ⟨rfl, rfl⟩
  k_extra "s"
  repeat k_extra "g1"
  refine ⟨_, m_points h eW, keep1 h (by decide), ?_⟩
  repeat k_extra "g1"
  refine wPoints h eW okW (.inl rfl) hw0 hwok (by omega) exW ?_
  left
  repeat k_extra "g1"
  refine wpF.lenL rfl (small (by simp; omega)) ?_
  repeat k_extra "g1"
  refine wpF.lenL (xs := vints (pointsT TW w le ri) ++ [.int 1]) (asL_of eP) (small (by simp; omega)) ?_
  repeat k_extra "g1"
  rw [beq_iff_eq.mpr (by simp)]
  repeat k_extra "g1"
  refine ⟨_, m_gap_numbers h eW, keep1 h (by decide), ?_⟩
  repeat k_extra "g1"
  refine wGap h eW okW (.inl rfl) (lt255 w hwok) (by omega) ?_
  left
  repeat k_extra "g1"
  refine ⟨vints (gapNums TW w) ++ [.int 1], by simp only [asL, eT], small (by simp; omega), by simp, ?_⟩
  rw [pick_init]
  left
  refine wpO2.leq (ms := gapNums TW w) rfl (by simp [asL]) ?_
  rw [decide_eq_true rfl]
  exact retQ (q _)

end

section
variable {B : Bs} {G : Glb} {d : Nat} {sc : Scope} {loc : Loc} {g : Gh} {o : Objs} {s : Shared} {Q : V → Objs → Prop}
theorem wMid (h : B1 B) {o8 : Objs} {b tN tM t0 t2 t1 tW : Nat} {TN TM T0 T2 T1 TW : Tab} {fst far : Bool} {fs gs : List Form} {hh le ri : Int} {ns w : List Int} {st : Option (List Int)} (hf : FormsOk2 fs) (hp : gs.Perm fs) (hh0 : 0 ≤ hh) (hh1 : hh < fs.length) (hw0 : w ≠ []) (hw9 : L9 w) (hwl : w.length ≤ 63) (RW : Rep2 TW gs w st) (R1 : Rep2 T1 (fs.take hh.toNat) w none) (q : ∀ o', Q (.bool true) o') (hns : RenOk ns) (hst : ∀ s, st = some s → Sub (w.length + 1) s) (R2 : Rep2 T2 (fs.drop hh.toNat) w none) (R0 : Rep2 T0 [] w none) (RM : Rep2 TM (fs.map revF) w.reverse (st.map fun s => s.map fun k => (w.length : Int) - k)) (RN : Rep2 TN (fs.map (nmF ns)) (w.map (ren ns)) st) (S : Live o8 b [(tN, .tab TN), (tM, .tab TM), (t0, .tab T0), (t2, .tab T2), (t1, .tab T1), (tW, .tab TW)]) : wpS B ⟨[("_law_take", .raw (.ref 196)), ("_law_forms", .raw (.ref 201)), ("len", .raw (.builtin "len")), ("_law_word", .raw (.ref 225)), ("range", .raw (.type "range")), ("_law_table", .raw (.ref 208)), ("_law_mixed", .raw (.ref 215)), ("_law_other", .raw (.ref 220)), ("tuple", .raw (.type "tuple"))], (scopeOf (heapK B.w.params) 230)⟩ (d + 7) (scopeOf (heapK B.w.params) 230) ([("box", some (.obj b)), ("is_first", some (.bool fst)), ("is_far", some (.bool far)), ("forms", some (.lst (fs.map vform))), ("half", some (.int hh)), ("names", some (.lst (vints ns))), ("word", some (.lst (vints w))), ("left", some (.int le)), ("right", some (.int ri)), ("stands", some (vst st)), ("size", some (.int w.length)), ("whole", some (.obj tW)), ("one", some (.obj t1)), ("other", some (.obj t2)), ("none", some (.obj t0)), ("turned_forms", some (.lst ((fs.map revF).map vform))), ("mirror", some (.obj tM)), ("named", some (.obj tN)), ("told", none), ("first", none), ("second", none), ("points", none), ("back", none), ("raised", none)] : Loc) ((bodyOf (heapK B.w.params) 230).drop 14) (RetQ Q) o8 := by
  have hfs := hf.sz
  have hwok := L9.ok hw9
  have hG := hf.g
  have hnd := hf.nd
  have hhN : hh.toNat < fs.length := by omega
  have hGg : ∀ f ∈ gs, FormG f := fun f hm => hG f (hp.mem_iff.mp hm)
  have hlW := gapNums_len TW w
  have hl1 := gapNums_len T1 w
  have okW := RW.rows hGg
  have exW := RW.excs (by omega)
  have lt255 : ∀ x : List Int, (∀ l ∈ x, 1 ≤ l ∧ l ≤ 255) → ∀ l ∈ x, 0 ≤ l ∧ l < 256 := fun x hx l hl => by have := hx l hl; omega
  have qLen : (pointsT TW w le ri).length ≤ w.length + 1 := by rw [pts2 RW hwl]; exact ptsF_len ..
  have hrG : ∀ f ∈ fs.map revF, FormG f := fun f hm => by obtain ⟨g, hg, rfl⟩ := List.mem_map.mp hm; exact (hG g hg).rev
  have hrO : ∀ l ∈ w.reverse, 1 ≤ l ∧ l ≤ 255 := fun l hl => hwok l (by simpa using hl)
  have hnO : ∀ l ∈ w.map (ren ns), 1 ≤ l ∧ l ≤ 255 := fun l hl => by obtain ⟨l', hl', rfl⟩ := List.mem_map.mp hl; exact ren_ok hns (hw9 l' hl')
  have hnG : ∀ f ∈ fs.map (nmF ns), FormG f := fun f hm => by obtain ⟨g, hg, rfl⟩ := List.mem_map.mp hm; obtain ⟨_, _, _, kg⟩ := hf.ok g hg; exact kg.nmG hns
  -- what is to be shown, plain
  have pMax := gap_max RW R1 R2 hp hG hnd hwok
  have pZero := gap_none R0 hwok
  have pRev := gap_rev RW RM hp hG hnd hwok
  have pRen := gap_ren hns RW RN hp hf hw9
  have qRev := pts_rev RW RM hp hG hnd hwok hwl le ri
  have qRen := pts_ren hns RW RN hp hf hw9 hwl le ri
  have qZero := pts_zero R0 hwok hwl le ri
  have hl2 := gapNums_len T2 w
  have ok1 := R1.rows (fun f hm => hG f (List.mem_of_mem_take hm))
  have ok2 := R2.rows (fun f hm => hG f (List.mem_of_mem_drop hm))
  have ok0 := R0.rows (fun f hm => nomatch hm)
  have okM := RM.rows hrG
  have okN := RN.rows hnG
  have ex0 := R0.excs (by omega)
  have exM := RM.excs (by simp; omega)
  have exN := RN.excs (by simp; omega)
  have qLenM : (pointsT TM w.reverse ri le).length ≤ w.length + 1 := by rw [pts2 RM (by simpa using hwl)]; exact Nat.le_trans (ptsF_len ..) (by simp)
  k_extra "s"
  refine wpX.tup (names := ["told", "first", "second"]) ?_ rfl (by kernel_rfl)
  repeat k_extra "g1"
  have eW := S.get (n := tW) (X := .tab TW) (by k_extra "mem")
  refine ⟨_, m_gap_numbers h eW, keep1 h (by decide), ?_⟩
  repeat k_extra "g1"
  refine wGap h eW okW (.inl rfl) (lt255 w hwok) (by omega) ?_
  right
  intro nT hT
  have S := S.new (X := .list (vints (gapNums TW w))) hT
  generalize upd o8 nT (.list (vints (gapNums TW w))) = o9 at S ⊢
  repeat k_extra "g1"
  have e1 := S.get (n := t1) (X := .tab T1) (by k_extra "mem")
  refine ⟨_, m_gap_numbers h e1, keep1 h (by decide), ?_⟩
  repeat k_extra "g1"
  refine wGap h e1 ok1 (.inl rfl) (lt255 w hwok) (by omega) ?_
  left
  repeat k_extra "g1"
  have e2 := S.get (n := t2) (X := .tab T2) (by k_extra "mem")
  refine ⟨_, m_gap_numbers h e2, keep1 h (by decide), ?_⟩
  repeat k_extra "g1"
  refine wGap h e2 ok2 (.inl rfl) (lt255 w hwok) (by omega) ?_
  left
  repeat k_extra "g1"
  refine ⟨_, _, rfl, .cons (by k_extra "put") (.cons (by k_extra "put") (.cons (by k_extra "put") .nil)), ?_⟩
  have eT := S.get (n := nT) (X := .list (vints (gapNums TW w))) (by k_extra "mem")
  have e0 := S.get (n := t0) (X := .tab T0) (by k_extra "mem")
  have eW := S.get (n := tW) (X := .tab TW) (by k_extra "mem")
  have eM := S.get (n := tM) (X := .tab TM) (by k_extra "mem")
  have eN := S.get (n := tN) (X := .tab TN) (by k_extra "mem")
  refine wpS.cut (fun l o' => o9 = o' ∧ l = ([("box", some (.obj b)), ("is_first", some (.bool fst)), ("is_far", some (.bool far)), ("forms", some (.lst (fs.map vform))), ("half", some (.int hh)), ("names", some (.lst (vints ns))), ("word", some (.lst (vints w))), ("left", some (.int le)), ("right", some (.int ri)), ("stands", some (vst st)), ("size", some (.int w.length)), ("whole", some (.obj tW)), ("one", some (.obj t1)), ("other", some (.obj t2)), ("none", some (.obj t0)), ("turned_forms", some (.lst ((fs.map revF).map vform))), ("mirror", some (.obj tM)), ("named", some (.obj tN)), ("told", some (.obj nT)), ("first", some (.lst (vints (gapNums T1 w)))), ("second", some (.lst (vints (gapNums T2 w)))), ("points", none), ("back", none), ("raised", none)] : Loc)) ?_ ?_
  · repeat k_extra "g1"
    refine wpE.comp [("first", some (.lst (vints (gapNums T1 w)))), ("second", some (.lst (vints (gapNums T2 w))))] [("max", .raw (.builtin "max"))] ["k"] (by simp) (fun p hp => by simp only [List.mem_singleton] at hp; subst hp; exact g_max h) rfl (by kernel_rfl) ?_
    repeat k_extra "g1"
    refine wpF.range1 ?_
    rw [show ((w.length : Nat) + 1 : Int) = ((w.length + 1 : Nat) : Int) by simp]
    refine ⟨_, itV_rng, rngOk_n (by omega), .inl rfl, small (by simp; omega), ?_⟩
    refine CompP.map (fun i : Nat => V.int i) (fun i : Nat => V.int (max ((gapNums T1 w).getD i 0) ((gapNums T2 w).getD i 0))) _ (fun i hi => ⟨_, rfl, rfl, ?_⟩) ?_
    · simp only [bindTg]
      have hi' := List.mem_range.mp hi
      repeat k_extra "g1"
      refine wpSub.list (y := .int ((gapNums T1 w).getD i 0)) rfl (pickI (r := (i : Int)) (by omega) (by omega)) (small (by simp; omega)) ?_
      repeat k_extra "g1"
      refine wpSub.list (y := .int ((gapNums T2 w).getD i 0)) rfl (pickI (r := (i : Int)) (by omega) (by omega)) (small (by simp; omega)) ?_
      repeat k_extra "g1"
      refine wpF.max2 ?_
      exact ⟨rfl, rfl⟩
    left
    rw [show (List.range (w.length + 1)).map (fun i : Nat => V.int (max ((gapNums T1 w).getD i 0) ((gapNums T2 w).getD i 0))) = vints (gapNums TW w) by rw [pMax, vints, List.map_map]; rfl]
    refine wpO2.lne (asL_of eT) rfl ?_
    rw [decide_eq_true rfl]
    repeat k_extra "g1"
    refine ⟨_, m_gap_numbers h e0, keep1 h (by decide), ?_⟩
    repeat k_extra "g1"
    refine wGap h e0 ok0 (.inl rfl) (lt255 w hwok) (by omega) ?_
    left
    rw [pZero]
    repeat k_extra "g1"
    left
    repeat k_extra "g1"
    refine wpO2.lmul rfl (by omega) (by omega) (by simp; omega) ?_
    rw [zeros_flat, show (((w.length : Nat) : Int) + 1).toNat = w.length + 1 by omega]
    left
    refine wpO2.lne rfl rfl ?_
    rw [decide_eq_true rfl]
    repeat k_extra "go"
    exact ⟨rfl, rfl, rfl⟩
  rintro _ _ ⟨rfl, rfl⟩
  refine wpS.cut (fun l o' => o9 = o' ∧ l = ([("box", some (.obj b)), ("is_first", some (.bool fst)), ("is_far", some (.bool far)), ("forms", some (.lst (fs.map vform))), ("half", some (.int hh)), ("names", some (.lst (vints ns))), ("word", some (.lst (vints w))), ("left", some (.int le)), ("right", some (.int ri)), ("stands", some (vst st)), ("size", some (.int w.length)), ("whole", some (.obj tW)), ("one", some (.obj t1)), ("other", some (.obj t2)), ("none", some (.obj t0)), ("turned_forms", some (.lst ((fs.map revF).map vform))), ("mirror", some (.obj tM)), ("named", some (.obj tN)), ("told", some (.obj nT)), ("first", some (.lst (vints (gapNums T1 w)))), ("second", some (.lst (vints (gapNums T2 w)))), ("points", none), ("back", none), ("raised", none)] : Loc)) ?_ ?_
  · repeat k_extra "g1"
    refine ⟨_, m_gap_numbers h eM, keep1 h (by decide), ?_⟩
    repeat k_extra "g1"
    refine ⟨_, rfl, small (by simp; omega), by simp, ?_⟩
    rw [pick_rev, ← List.map_reverse]
    left
    repeat k_extra "g1"
    refine wGap h eM okM (.inl rfl) (lt255 _ hrO) (by simp; omega) ?_
    left
    rw [pRev]
    repeat k_extra "g1"
    refine ⟨_, asL_of eT, small (by simp; omega), by simp, ?_⟩
    rw [pick_rev, ← List.map_reverse]
    left
    refine wpO2.lne rfl rfl ?_
    rw [decide_eq_true rfl]
    repeat k_extra "g1"
    refine ⟨_, m_gap_numbers h eN, keep1 h (by decide), ?_⟩
    repeat k_extra "g1"
    refine wOther h hns.n (fun l hl => .inr (hw9 l hl)) (by omega) ?_
    repeat k_extra "g1"
    refine wGap h eN okN (.inl rfl) (lt255 _ hnO) (by simp; omega) ?_
    left
    rw [pRen]
    repeat k_extra "g1"
    refine wpO2.lne rfl (asL_of eT) ?_
    rw [decide_eq_true rfl]
    repeat k_extra "go"
    exact ⟨rfl, rfl, rfl⟩
  rintro _ _ ⟨rfl, rfl⟩
  k_extra "s"
  repeat k_extra "g1"
  refine ⟨_, m_points h eW, keep1 h (by decide), ?_⟩
  repeat k_extra "g1"
  refine wPoints h eW okW (.inl rfl) hw0 hwok (by omega) exW ?_
  right
  intro nP hP
  have S := S.new (X := .list (vints (pointsT TW w le ri))) hP
  generalize upd o9 nP (.list (vints (pointsT TW w le ri))) = oa at S ⊢
  repeat k_extra "g1"
  clear eT e0 eW eM eN e1 e2
  have eP := S.get (n := nP) (X := .list (vints (pointsT TW w le ri))) (by k_extra "mem")
  have eT := S.get (n := nT) (X := .list (vints (gapNums TW w))) (by k_extra "mem")
  have e0 := S.get (n := t0) (X := .tab T0) (by k_extra "mem")
  have eM := S.get (n := tM) (X := .tab TM) (by k_extra "mem")
  have eN := S.get (n := tN) (X := .tab TN) (by k_extra "mem")
  k_extra "s"
  repeat k_extra "g1"
  refine ⟨_, m_points h eM, keep1 h (by decide), ?_⟩
  repeat k_extra "g1"
  refine ⟨_, rfl, small (by simp; omega), by simp, ?_⟩
  rw [pick_rev, ← List.map_reverse]
  left
  repeat k_extra "g1"
  refine wPoints h eM okM (.inl rfl) (by simp [hw0]) hrO (by simp; omega) exM ?_
  left
  repeat k_extra "g1"
  refine wpS.cut (fun l o' => oa = o' ∧ l = ([("box", some (.obj b)), ("is_first", some (.bool fst)), ("is_far", some (.bool far)), ("forms", some (.lst (fs.map vform))), ("half", some (.int hh)), ("names", some (.lst (vints ns))), ("word", some (.lst (vints w))), ("left", some (.int le)), ("right", some (.int ri)), ("stands", some (vst st)), ("size", some (.int w.length)), ("whole", some (.obj tW)), ("one", some (.obj t1)), ("other", some (.obj t2)), ("none", some (.obj t0)), ("turned_forms", some (.lst ((fs.map revF).map vform))), ("mirror", some (.obj tM)), ("named", some (.obj tN)), ("told", some (.obj nT)), ("first", some (.lst (vints (gapNums T1 w)))), ("second", some (.lst (vints (gapNums T2 w)))), ("points", some (.obj nP)), ("back", some (.lst (vints (pointsT TM w.reverse ri le)))), ("raised", none)] : Loc)) ?_ ?_
  · repeat k_extra "g1"
    refine wpE.comp [("size", some (.int w.length))] [] ["point"] (by simp) (fun p hp => nomatch hp) rfl (by kernel_rfl) ?_
    repeat k_extra "g1"
    refine ⟨_, rfl, trivial, .inl rfl, small (by simp; omega), ?_⟩
    refine CompP.map V.int (fun k => V.int (w.length - k)) (pointsT TM w.reverse ri le) (fun k hk => ⟨_, rfl, rfl, ?_⟩) ?_
    · simp only [bindTg]
      repeat k_extra "g1"
      exact ⟨rfl, rfl⟩
    left
    rw [show (pointsT TM w.reverse ri le).map (fun k => V.int ((w.length : Int) - k)) = vints ((pointsT TM w.reverse ri le).map fun k => (w.length : Int) - k) by rw [vints, List.map_map]; rfl]
    repeat k_extra "g1"
    refine ⟨_, rfl, small (by simp; omega), by simp, ?_⟩
    rw [pick_rev, ← List.map_reverse, qRev]
    left
    repeat k_extra "g1"
    refine wpO2.lne rfl (asL_of eP) ?_
    rw [decide_eq_true rfl]
    repeat k_extra "g1"
    refine ⟨_, m_points h eN, keep1 h (by decide), ?_⟩
    repeat k_extra "g1"
    refine wOther h hns.n (fun l hl => .inr (hw9 l hl)) (by omega) ?_
    repeat k_extra "g1"
    refine wpF.tuple1 rfl (small (by simp; omega)) ?_
    repeat k_extra "g1"
    refine wPoints h eN okN (.inr ⟨rfl, by simpa using hwl⟩) (by simp [hw0]) hnO (by simp; omega) exN ?_
    left
    rw [qRen]
    repeat k_extra "g1"
    refine wpO2.lne rfl (asL_of eP) ?_
    rw [decide_eq_true rfl]
    repeat k_extra "go"
    exact ⟨rfl, rfl, rfl⟩
  rintro _ _ ⟨rfl, rfl⟩
  refine wpS.cut (fun l o' => oa = o' ∧ l = ([("box", some (.obj b)), ("is_first", some (.bool fst)), ("is_far", some (.bool far)), ("forms", some (.lst (fs.map vform))), ("half", some (.int hh)), ("names", some (.lst (vints ns))), ("word", some (.lst (vints w))), ("left", some (.int le)), ("right", some (.int ri)), ("stands", some (vst st)), ("size", some (.int w.length)), ("whole", some (.obj tW)), ("one", some (.obj t1)), ("other", some (.obj t2)), ("none", some (.obj t0)), ("turned_forms", some (.lst ((fs.map revF).map vform))), ("mirror", some (.obj tM)), ("named", some (.obj tN)), ("told", some (.obj nT)), ("first", some (.lst (vints (gapNums T1 w)))), ("second", some (.lst (vints (gapNums T2 w)))), ("points", some (.obj nP)), ("back", some (.lst (vints (pointsT TM w.reverse ri le)))), ("raised", none)] : Loc)) ?_ ?_
  · repeat k_extra "g1"
    refine ⟨_, m_points h e0, keep1 h (by decide), ?_⟩
    repeat k_extra "g1"
    refine wPoints h e0 ok0 (.inl rfl) hw0 hwok (by omega) ex0 ?_
    left
    rw [qZero]
    repeat k_extra "g1"
    left
    refine wpO2.lne (ns := []) (ms := []) rfl rfl ?_
    rw [decide_eq_true rfl]
    repeat k_extra "g1"
    cases st with
    | some s =>
      rw [show (vst (some s)).isNone = false from rfl]
      repeat k_extra "go"
      exact ⟨rfl, rfl, rfl⟩
    | none =>
      rw [show (vst none).isNone = true from rfl]
      repeat k_extra "g1"
      refine wpE.compO [("told", some (.obj nT))] [] ["point"] (by simp) (fun p hp => nomatch hp) rfl (by kernel_rfl) ?_
      repeat k_extra "g1"
      refine ⟨nP, _, rfl, eP, rfl, small (by simp; omega), ?_⟩
      refine CompO.filt eP V.int (fun p => (gapNums TW w).getD p.toNat 0 % 2 == 0) V.int (pointsT TW w le ri) (fun p hp' => ⟨_, rfl, rfl, ?_, fun _ => ?_⟩) ?_
      · simp only [bindTg]
        have := pts_mem RW hwl hp'
        repeat k_extra "g1"
        refine wpSub.list (y := .int ((gapNums TW w).getD p.toNat 0)) (asL_of eT) (pickI (by omega) (by omega)) (small (by simp; omega)) ?_
        repeat k_extra "g1"
        refine wpO2.fmod (by decide) ?_
        repeat k_extra "g1"
        refine ⟨?_, rfl⟩
        rw [Int.fmod_eq_emod_of_nonneg _ (by decide)]
      · simp only [bindTg]
        repeat k_extra "g1"
        exact ⟨rfl, rfl⟩
      left
      rw [pts_odd RW hwl le ri]
      repeat k_extra "g1"
      left
      refine wpO2.lne (ns := []) (ms := []) rfl rfl ?_
      rw [decide_eq_true rfl]
      repeat k_extra "go"
      exact ⟨rfl, rfl, rfl⟩
  rintro _ _ ⟨rfl, rfl⟩
  exact wTail h hf hp hh0 hh1 hw0 hw9 hwl RW R1 q S

end

section
variable {B : Bs} {G : Glb} {d : Nat} {sc : Scope} {loc : Loc} {g : Gh} {o : Objs} {s : Shared} {Q : V → Objs → Prop}

theorem wRound2 (h : B1 B) {b : Nat} {x y : Int} {fst : Bool} (hb : o b = some (.list [.int x, .int y])) (q : ∀ o', Q (.bool true) o') : wpF B (d + 8) (.raw (.ref 230)) [.obj b, .bool fst] Q o := by
  refine wpF.fn (f_law_round h) (ok_law_round _) (gs_law_round h) rfl ?_
  k_extra "loc"
  refine wpS.cut (fun l o1 => ∃ far x y, upd o b (.list [.int x, .int y]) = o1 ∧ l = ([("box", some (.obj b)), ("is_first", some (.bool fst)), ("is_far", some (.bool far)), ("forms", none), ("half", none), ("names", none), ("word", none), ("left", none), ("right", none), ("stands", none), ("size", none), ("whole", none), ("one", none), ("other", none), ("none", none), ("turned_forms", none), ("mirror", none), ("named", none), ("told", none), ("first", none), ("second", none), ("points", none), ("back", none), ("raised", none)] : Loc)) ?_ ?_
  · repeat k_extra "g1"
    cases fst
    · repeat k_extra "g1"
      exact ⟨rfl, false, x, y, upd_id hb, rfl⟩
    · repeat k_extra "g1"
      refine wTake h hb (by decide) (by decide) fun r x1 y1 hr0 hr1 => ?_
      repeat k_extra "g1"
      exact ⟨rfl, _, x1, y1, rfl, rfl⟩
  rintro _ _ ⟨far, x1, y1, rfl, rfl⟩
  refine wpS.cut (fun l o1 => ∃ fs x y, FormsOk2 fs ∧ fs ≠ [] ∧ upd o b (.list [.int x, .int y]) = o1 ∧ l = ([("box", some (.obj b)), ("is_first", some (.bool fst)), ("is_far", some (.bool far)), ("forms", some (.lst (fs.map vform))), ("half", none), ("names", none), ("word", none), ("left", none), ("right", none), ("stands", none), ("size", none), ("whole", none), ("one", none), ("other", none), ("none", none), ("turned_forms", none), ("mirror", none), ("named", none), ("told", none), ("first", none), ("second", none), ("points", none), ("back", none), ("raised", none)] : Loc)) ?_ ?_
  · repeat k_extra "g1"
    cases far
    all_goals
      repeat k_extra "g1"
      refine wForms2 h (by decide) (by decide) (upd_same ..) fun fs x2 y2 hf hfn => ?_
      rw [upd_upd]
      repeat k_extra "g1"
      exact ⟨rfl, fs, x2, y2, hf, hfn, rfl, rfl⟩
  rintro _ _ ⟨fs, x2, y2, hf, hfn, rfl, rfl⟩
  have hfs := hf.sz
  have hfl : 0 < fs.length := List.length_pos_iff.mpr hfn
  k_extra "s"
  repeat k_extra "g1"
  refine wpF.lenL rfl (small (by simp; omega)) ?_
  repeat k_extra "g1"
  rw [show (((fs.map vform).length : Nat) : Int) = (fs.length : Int) by simp]
  refine wTake h (upd_same ..) (by omega) (by omega) fun hh x3 y3 hh0 hh1 => ?_
  rw [upd_upd]
  repeat k_extra "g1"
  k_extra "s"
  repeat k_extra "g1"
  left
  repeat k_extra "g1"
  left
  repeat k_extra "g1"
  left
  repeat k_extra "g1"
  left
  repeat k_extra "g1"
  refine wTake h (upd_same ..) (by decide) (by decide) fun r4 x4 y4 hr40 hr41 => ?_
  rw [upd_upd]
  obtain ⟨ns, hns, hat⟩ := names_pick hr40 hr41
  refine wpSub.list rfl hat (small (by simp)) ?_
  repeat k_extra "g1"
  k_extra "s"
  repeat k_extra "g1"
  refine wWord2 h (upd_same ..) hf hfn fun w x5 y5 hw0 hw9 hwl => ?_
  rw [upd_upd]
  repeat k_extra "g1"
  refine wpS.cut (fun l o1 => ∃ w x y, w ≠ [] ∧ L9 w ∧ w.length ≤ 63 ∧ upd o b (.list [.int x, .int y]) = o1 ∧ l = ([("box", some (.obj b)), ("is_first", some (.bool fst)), ("is_far", some (.bool far)), ("forms", some (.lst (fs.map vform))), ("half", some (.int hh)), ("names", some (.lst (vints ns))), ("word", some (.lst (vints w))), ("left", none), ("right", none), ("stands", none), ("size", none), ("whole", none), ("one", none), ("other", none), ("none", none), ("turned_forms", none), ("mirror", none), ("named", none), ("told", none), ("first", none), ("second", none), ("points", none), ("back", none), ("raised", none)] : Loc)) ?_ ?_
  · repeat k_extra "g1"
    cases far
    · repeat k_extra "go"
      exact ⟨rfl, w, x5, y5, hw0, hw9, by omega, rfl, rfl⟩
    · repeat k_extra "go"
      refine wpO2.lmul rfl (by decide) (by decide) (by simp; omega) ?_
      rw [repl_vints]
      left
      repeat k_extra "go"
      refine wTake h (upd_same ..) (by decide) (by decide) fun r6 x6 y6 hr60 hr61 => ?_
      rw [upd_upd]
      repeat k_extra "go"
      have hl63 : (List.replicate (63 : Int).toNat w).flatten.length = 63 * w.length := repl_len _ _
      have hpos : 0 < w.length := List.length_pos_iff.mpr hw0
      refine ⟨_, rfl, small (by rw [List.length_map, hl63]; omega), by simp, ?_⟩
      rw [pick_upto _ (by omega), ← List.map_take]
      left
      repeat k_extra "go"
      refine ⟨rfl, _, x6, y6, ?_, fun l hl => hw9 l (repl_mem (List.mem_of_mem_take hl)), ?_, rfl, rfl⟩
      · refine List.length_pos_iff.mp ?_
        rw [List.length_take, hl63]; omega
      · rw [List.length_take, hl63]; omega
  rintro _ _ ⟨w, x6, y6, hw0, hw9, hwl, rfl, rfl⟩
  have hwok := L9.ok hw9
  k_extra "s"
  refine wpX.tupS (names := ["left", "right"]) ?_ (by kernel_rfl)
  repeat k_extra "g1"
  refine wTake h (upd_same ..) (by decide) (by decide) fun r7 x7 y7 hr70 hr71 => ?_
  rw [upd_upd]
  repeat k_extra "g1"
  refine wTake h (upd_same ..) (by decide) (by decide) fun r8 x8 y8 hr80 hr81 => ?_
  rw [upd_upd]
  repeat k_extra "g1"
  k_extra "tup2"
  generalize (1 + r7 : Int) = le
  generalize (1 + r8 : Int) = ri
  k_extra "s"
  refine wpX.tup (names := ["stands", "size"]) ?_ rfl (by kernel_rfl)
  repeat k_extra "g1"
  refine wpF.lenL rfl (small (by simp; omega)) ?_
  repeat k_extra "g1"
  k_extra "tup2"
  rw [show (((vints w).length : Nat) : Int) = ((w.length : Nat) : Int) by simp]
  refine wpS.cut (fun l o1 => ∃ (st : Option (List Int)) (x y : Int), (∀ s, st = some s → Sub (w.length + 1) s) ∧ upd o b (.list [.int x, .int y]) = o1 ∧ l = ([("box", some (.obj b)), ("is_first", some (.bool fst)), ("is_far", some (.bool far)), ("forms", some (.lst (fs.map vform))), ("half", some (.int hh)), ("names", some (.lst (vints ns))), ("word", some (.lst (vints w))), ("left", some (.int le)), ("right", some (.int ri)), ("stands", some (vst st)), ("size", some (.int w.length)), ("whole", none), ("one", none), ("other", none), ("none", none), ("turned_forms", none), ("mirror", none), ("named", none), ("told", none), ("first", none), ("second", none), ("points", none), ("back", none), ("raised", none)] : Loc)) ?_ ?_
  · repeat k_extra "g1"
    refine wTake h (upd_same ..) (by decide) (by decide) fun r9 x9 y9 hr90 hr91 => ?_
    rw [upd_upd]
    repeat k_extra "g1"
    cases (r9 == 0)
    · repeat k_extra "go"
      exact ⟨rfl, none, x9, y9, (fun s e => by cases e), rfl, rfl⟩
    · repeat k_extra "g1"
      k_extra "s"
      refine wpX.assignC [("box", some (.obj b))] [("_law_take", .raw (.ref 196))] ["k"] (by simp) (fun p hp => by simp only [List.mem_singleton] at hp; subst hp; exact g_law_take h) rfl (by kernel_rfl) (by kernel_rfl) ?_
      repeat k_extra "g1"
      refine wpF.range1 ?_
      rw [show ((w.length : Nat) + 1 : Int) = ((w.length + 1 : Nat) : Int) by simp]
      refine ⟨_, itV_rng, rngOk_n (by omega), .inl rfl, small (by simp; omega), ?_⟩
      rw [List.range_eq_range']
      refine CompP.of (fun rest acc o1 => ∃ i k st x y, rest = (List.range' i k).map (fun i : Nat => V.int i) ∧ i + k = w.length + 1 ∧ Sub i st ∧ acc = vints st ∧ o1 = upd o b (.list [.int x, .int y])) ?_ ?_ _ _ _ ⟨0, w.length + 1, [], x9, y9, rfl, by omega, Sub.nil, rfl, rfl⟩
      case refine_2 =>
        rintro x0 xs acc o1 ⟨i, k, st, x3, y3, er, hik, hs, rfl, rfl⟩
        cases k with
        | zero => cases er
        | succ k =>
          rw [List.range'_succ, List.map_cons, List.cons.injEq] at er
          obtain ⟨rfl, rfl⟩ := er
          refine ⟨_, rfl, rfl, ?_⟩
          simp only [bindTg, wpIfs]
          repeat k_extra "g1"
          refine wTake h (upd_same ..) (by decide) (by decide) fun r x4 y4 hr0 hr1 => ?_
          rw [upd_upd]
          repeat k_extra "g1"
          cases (r == 0)
          · simp only [Bool.false_eq_true, if_false]
            exact ⟨i + 1, k, st, x4, y4, rfl, by omega, hs.succ.1, rfl, rfl⟩
          · simp only [if_true]
            repeat k_extra "g1"
            exact ⟨i + 1, k, _, x4, y4, rfl, by omega, hs.succ.2, by simp, rfl⟩
      rintro acc o1 ⟨i, k, st, x3, y3, er, hik, hs, rfl, rfl⟩
      have hk : k = 0 := by cases k with
        | zero => rfl
        | succ k => rw [List.range'_succ] at er; cases er
      subst hk
      obtain rfl : i = w.length + 1 := by omega
      left
      refine ⟨_, by k_extra "put", ?_⟩
      repeat k_extra "go"
      exact ⟨rfl, some st, x3, y3, fun s e => by cases e; exact hs, rfl, rfl⟩
  rintro _ _ ⟨st, x9, y9, hst, rfl, rfl⟩
  have hstm : ∀ s, st = some s → ∀ p ∈ s, 0 ≤ p ∧ p ≤ w.length := fun s e p hp => by have := (hst s e).mem hp; omega
  have hG := hf.g
  have hnd := hf.nd
  have hhN : hh.toNat < fs.length := by omega
  have S : Live (upd o b (.list [.int x9, .int y9])) b [] := ⟨⟨x9, y9, upd_same ..⟩, (fun p hp => nomatch hp), by simp⟩
  generalize upd o b (.list [.int x9, .int y9]) = o1 at S ⊢
  clear hb
  -- the tables
  k_extra "s"
  refine wpX.tupS (names := ["whole", "one"]) ?_ (by kernel_rfl)
  repeat k_extra "g1"
  obtain ⟨xa, ya, hba⟩ := S.eb
  refine wMixed h hba (by omega) fun gs xb yb hp => ?_
  have S := S.box xb yb
  generalize upd o1 b (.list [.int xb, .int yb]) = o2 at S ⊢
  have hgl := hp.length_eq
  repeat k_extra "g1"
  refine wTable2 h (fun f hm => hG f (hp.mem_iff.mp hm)) ((hp.map _).nodup_iff.mpr hnd) (by omega) hw0 hwok hwl hstm fun tW TW hW RW => ?_
  have S := S.new (X := .tab TW) hW
  generalize upd o2 tW (.tab TW) = o3 at S ⊢
  repeat k_extra "g1"
  refine ⟨_, rfl, small (by simp; omega), by simp, ?_⟩
  rw [pick_upto _ hh0, ← List.map_take]
  left
  repeat k_extra "g1"
  refine wTable2 h (st := none) (fun f hm => hG f (List.mem_of_mem_take hm)) (hnd.sublist ((List.take_sublist _ _).map _)) (by simp; omega) hw0 hwok hwl (fun s e => by cases e) fun t1 T1 h1 R1 => ?_
  have S := S.new (X := .tab T1) h1
  generalize upd o3 t1 (.tab T1) = o4 at S ⊢
  repeat k_extra "g1"
  k_extra "tup2"
  k_extra "s"
  refine wpX.tupS (names := ["other", "none"]) ?_ (by kernel_rfl)
  repeat k_extra "g1"
  refine ⟨_, rfl, small (by simp; omega), by simp, ?_⟩
  rw [pick_from _ hh0, ← List.map_drop]
  left
  repeat k_extra "g1"
  refine wTable2 h (st := none) (fun f hm => hG f (List.mem_of_mem_drop hm)) (hnd.sublist ((List.drop_sublist _ _).map _)) (by simp; omega) hw0 hwok hwl (fun s e => by cases e) fun t2 T2 h2 R2 => ?_
  have S := S.new (X := .tab T2) h2
  generalize upd o4 t2 (.tab T2) = o5 at S ⊢
  repeat k_extra "g1"
  left
  repeat k_extra "g1"
  refine wTable2 h (st := none) (fs := []) (fun f hm => nomatch hm) (by simp) (by simp) hw0 hwok hwl (fun s e => by cases e) fun t0 T0 h0 R0 => ?_
  have S := S.new (X := .tab T0) h0
  generalize upd o5 t0 (.tab T0) = o6 at S ⊢
  repeat k_extra "g1"
  k_extra "tup2"
  k_extra "s"
  refine wpX.assignC [] [] ["letters", "numbers"] (by simp) (fun p hp => nomatch hp) rfl (by kernel_rfl) (by kernel_rfl) ?_
  repeat k_extra "g1"
  refine ⟨_, rfl, trivial, .inr ⟨_, rfl⟩, small (by simp; omega), ?_⟩
  refine CompP.map vform (fun f => vform (revF f)) fs (fun f hm => ⟨_, rfl, rfl, ?_⟩) ?_
  · simp only [bindTg]
    obtain ⟨_, _, _, _, hn, _, hs5⟩ := hG f hm
    repeat k_extra "g1"
    refine ⟨_, rfl, small (by simp; omega), by simp, ?_⟩
    rw [pick_rev, ← List.map_reverse]
    left
    repeat k_extra "g1"
    refine ⟨_, rfl, small (by simp; omega), by simp, ?_⟩
    rw [pick_rev, ← List.map_reverse]
    left
    repeat k_extra "g1"
    exact ⟨rfl, rfl⟩
  left
  rw [show fs.map (fun f => vform (revF f)) = (fs.map revF).map vform by rw [List.map_map]; rfl]
  refine ⟨_, by k_extra "put", ?_⟩
  have hrG : ∀ f ∈ fs.map revF, FormG f := fun f hm => by obtain ⟨g, hg, rfl⟩ := List.mem_map.mp hm; exact (hG g hg).rev
  have hrO : ∀ l ∈ w.reverse, 1 ≤ l ∧ l ≤ 255 := fun l hl => hwok l (by simpa using hl)
  refine wpS.cut (fun l o' => ∃ tM TM, Live o' b [(tM, .tab TM), (t0, .tab T0), (t2, .tab T2), (t1, .tab T1), (tW, .tab TW)] ∧ Rep2 TM (fs.map revF) w.reverse (st.map fun s => s.map fun k => (w.length : Int) - k) ∧ l = ([("box", some (.obj b)), ("is_first", some (.bool fst)), ("is_far", some (.bool far)), ("forms", some (.lst (fs.map vform))), ("half", some (.int hh)), ("names", some (.lst (vints ns))), ("word", some (.lst (vints w))), ("left", some (.int le)), ("right", some (.int ri)), ("stands", some (vst st)), ("size", some (.int w.length)), ("whole", some (.obj tW)), ("one", some (.obj t1)), ("other", some (.obj t2)), ("none", some (.obj t0)), ("turned_forms", some (.lst ((fs.map revF).map vform))), ("mirror", some (.obj tM)), ("named", none), ("told", none), ("first", none), ("second", none), ("points", none), ("back", none), ("raised", none)] : Loc)) ?_ ?_
  · repeat k_extra "g1"
    refine ⟨_, rfl, small (by simp; omega), by simp, ?_⟩
    rw [pick_rev, ← List.map_reverse]
    left
    repeat k_extra "g1"
    cases st with
    | none =>
      rw [show (vst none).isNone = true from rfl]
      repeat k_extra "g1"
      refine wTable2 h (st := none) hrG (rev_nd hnd) (by simp; omega) (by simp [hw0]) hrO (by simpa using hwl) (fun s e => by cases e) fun tM TM hM RM => ?_
      repeat k_extra "g1"
      exact ⟨rfl, tM, TM, S.new hM, RM, rfl⟩
    | some s =>
      have hsl := (hst s rfl).len
      rw [show (vst (some s)).isNone = false from rfl]
      repeat k_extra "g1"
      refine wpE.comp [("size", some (.int w.length))] [] ["k"] (by simp) (fun p hp => nomatch hp) rfl (by kernel_rfl) ?_
      repeat k_extra "g1"
      refine ⟨vints s, rfl, trivial, .inl rfl, small (by simp; omega), ?_⟩
      refine CompP.map V.int (fun k => V.int (w.length - k)) s (fun k hk => ⟨_, rfl, rfl, ?_⟩) ?_
      · simp only [bindTg]
        repeat k_extra "g1"
        exact ⟨rfl, rfl⟩
      left
      rw [show s.map (fun k => V.int ((w.length : Int) - k)) = vints (s.map fun k => (w.length : Int) - k) by rw [vints, List.map_map]; rfl]
      repeat k_extra "g1"
      refine wTable2 h (st := some (s.map fun k => (w.length : Int) - k)) hrG (rev_nd hnd) (by simp; omega) (by simp [hw0]) hrO (by simpa using hwl) (fun s' e p hp => ?_) fun tM TM hM RM => ?_
      · cases e
        obtain ⟨k, hk, rfl⟩ := List.mem_map.mp hp
        have := hstm s rfl k hk
        simp; omega
      repeat k_extra "g1"
      exact ⟨rfl, tM, TM, S.new hM, RM, rfl⟩
  rintro _ o7 ⟨tM, TM, S, RM, rfl⟩
  have hnO : ∀ l ∈ w.map (ren ns), 1 ≤ l ∧ l ≤ 255 := fun l hl => by obtain ⟨l', hl', rfl⟩ := List.mem_map.mp hl; exact ren_ok hns (hw9 l' hl')
  have hnG : ∀ f ∈ fs.map (nmF ns), FormG f := fun f hm => by obtain ⟨g, hg, rfl⟩ := List.mem_map.mp hm; obtain ⟨_, _, _, kg⟩ := hf.ok g hg; exact kg.nmG hns
  refine wpS.cut (fun l o' => ∃ tN TN, Live o' b [(tN, .tab TN), (tM, .tab TM), (t0, .tab T0), (t2, .tab T2), (t1, .tab T1), (tW, .tab TW)] ∧ Rep2 TN (fs.map (nmF ns)) (w.map (ren ns)) st ∧ l = ([("box", some (.obj b)), ("is_first", some (.bool fst)), ("is_far", some (.bool far)), ("forms", some (.lst (fs.map vform))), ("half", some (.int hh)), ("names", some (.lst (vints ns))), ("word", some (.lst (vints w))), ("left", some (.int le)), ("right", some (.int ri)), ("stands", some (vst st)), ("size", some (.int w.length)), ("whole", some (.obj tW)), ("one", some (.obj t1)), ("other", some (.obj t2)), ("none", some (.obj t0)), ("turned_forms", some (.lst ((fs.map revF).map vform))), ("mirror", some (.obj tM)), ("named", some (.obj tN)), ("told", none), ("first", none), ("second", none), ("points", none), ("back", none), ("raised", none)] : Loc)) ?_ ?_
  · repeat k_extra "g1"
    refine wpE.comp [("names", some (.lst (vints ns)))] [("_law_other", .raw (.ref 220))] ["letters", "numbers"] (by simp) (fun p hp => by simp only [List.mem_singleton] at hp; subst hp; exact g_law_other h) rfl (by kernel_rfl) ?_
    repeat k_extra "g1"
    refine ⟨_, rfl, trivial, .inr ⟨_, rfl⟩, small (by simp; omega), ?_⟩
    refine CompP.map vform (fun f => vform (nmF ns f)) fs (fun f hm => ⟨_, rfl, rfl, ?_⟩) ?_
    · simp only [bindTg]
      obtain ⟨_, _, _, kf⟩ := hf.ok f hm
      obtain ⟨_, _, _, _, hn, _, hs5⟩ := hG f hm
      repeat k_extra "g1"
      refine wOther h hns.n (fun l hl => kf.dom l hl) (by omega) ?_
      repeat k_extra "g1"
      exact ⟨rfl, rfl⟩
    left
    rw [show fs.map (fun f => vform (nmF ns f)) = (fs.map (nmF ns)).map vform by rw [List.map_map]; rfl]
    repeat k_extra "g1"
    refine wOther h hns.n (fun l hl => .inr (hw9 l hl)) (by omega) ?_
    repeat k_extra "g1"
    refine wTable2 h (st := st) hnG (nm_nd hns hf) (by simp; omega) (by simp [hw0]) hnO (by simpa using hwl) (by simpa using hstm) fun tN TN hN RN => ?_
    repeat k_extra "g1"
    exact ⟨rfl, tN, TN, S.new hN, RN, rfl⟩
  rintro _ o8 ⟨tN, TN, S, RN, rfl⟩
  exact wMid h hf hp hh0 hh1 hw0 hw9 hwl RW R1 q hns hst R2 R0 RM RN S

end

section
variable {B : Bs} {G : Glb} {d : Nat} {sc : Scope} {loc : Loc} {g : Gh} {o : Objs} {s : Shared} {Q : V → Objs → Prop}
theorem wLaw (h : B1 B) {ns : List Int} (hn : ns.length ≤ 63) : wpS B ⟨[("range", .raw (.type "range")), ("len", .raw (.builtin "len")), ("_law_round", .raw (.ref 230)), ("_law_box", .raw (.ref 189)), ("sum", .raw (.builtin "sum"))], scopeOf (heapK B.w.params) 237⟩ (d + 9) (scopeOf (heapK B.w.params) 237)
    [("script", some (.lst (vints ns))), ("cells", Option.none), ("k", Option.none)] (bodyOf (heapK B.w.params) 237) (RetQ fun v _ => v = .bool true) o := by
  refine wpS.cut (fun l o1 => ∃ cs, cs.length ≤ 64 ∧ l = ([("script", some (.lst (vints ns))), ("cells", some (.lst (vints cs))), ("k", none)] : Loc)) ?_ ?_
  · repeat k_extra "g1"
    left
    refine wpO2.lne (ns := ns) (ms := []) rfl rfl ?_
    repeat k_extra "g1"
    by_cases hc : ns = []
    · rw [decide_eq_true hc]
      repeat k_extra "g1"
      refine wpO2.powS (by decide) (by decide) (by decide) ?_
      repeat k_extra "g1"
      left
      repeat k_extra "g1"
      exact ⟨rfl, [_], by simp, rfl⟩
    · rw [decide_eq_false hc]
      repeat k_extra "g1"
      refine ⟨_, rfl, small (by simp; omega), by simp, ?_⟩
      rw [pick_upto _ (by decide), ← List.map_take]
      left
      repeat k_extra "g1"
      exact ⟨rfl, _, by simp; omega, rfl⟩
  rintro _ o1 ⟨cs, hcs, rfl⟩
  refine wpS.cut (fun l o1 => ∃ u, l = ([("script", some (.lst (vints ns))), ("cells", some (.lst (vints cs))), ("k", u)] : Loc)) ?_ ?_
  · refine wpX.fors ?_
    repeat k_extra "g1"
    refine wpF.lenL rfl (small (by simp; omega)) ?_
    repeat k_extra "g1"
    refine wpF.range1 ?_
    rw [show (((vints cs).length : Nat) : Int) = ((cs.length : Nat) : Int) by simp]
    refine ⟨_, itV_rng, rngOk_n (by omega), .inl rfl, ?_⟩
    refine ForP.of (fun rest l o1 => (∃ ks : List Nat, rest = ks.map (fun i : Nat => V.int i) ∧ ∀ k ∈ ks, k < cs.length) ∧ ∃ u, l = ([("script", some (.lst (vints ns))), ("cells", some (.lst (vints cs))), ("k", u)] : Loc)) ?_ ?_ _ _ _ ⟨⟨List.range cs.length, rfl, fun k hk => List.mem_range.mp hk⟩, _, rfl⟩
    · rintro l o1 ⟨-, u, rfl⟩
      exact ⟨rfl, _, rfl⟩
    · rintro x0 r0 l o2 ⟨⟨ks, e, hks⟩, u, rfl⟩
      cases ks with
      | nil => cases e
      | cons z ks =>
        simp only [List.map_cons, List.cons.injEq] at e
        obtain ⟨rfl, rfl⟩ := e
        have hz := hks z List.mem_cons_self
        refine wpA.name (by k_extra "put") ?_
        k_extra "s"
        repeat k_extra "g1"
        refine wpSub.list (y := .int (cs.getD z 0)) rfl (pickI (r := (z : Int)) (by omega) (by omega)) (small (by simp; omega)) ?_
        repeat k_extra "g1"
        refine ⟨_, rfl, small (by simp; omega), by simp, ?_⟩
        rw [pick_from _ (by decide), ← List.map_drop]
        left
        repeat k_extra "g1"
        refine wpF.sum rfl ?_
        repeat k_extra "g1"
        refine wBox h fun x y n hn => ?_
        repeat k_extra "g1"
        refine wRound2 h (upd_same ..) fun o' => ?_
        repeat k_extra "go"
        exact ⟨⟨ks, rfl, fun k hk => hks k (List.mem_cons_of_mem _ hk)⟩, _, rfl⟩
  rintro _ o1 ⟨u, rfl⟩
  repeat k_extra "go"
  exact retQ rfl

end

/-- the program's top, run to its end -/
theorem topLeft : LeftO PySem.Challenge.rw_sq0030_02.row.prog view [Str.ofString "PageError"] (fun s => xlAt view [] s && recOk (RowW.records PySem.Challenge.rw_sq0030_02.row.toRowW) s) (Hook.obs hookK) (Hook.val hookK) 3624 := fun w => by kernel_rfl
theorem rowSaid : PySem.Challenge.rw_sq0030_02.wellSaid = true := by kernel_rfl
theorem PW : PySem.Challenge.rw_sq0030_02.Holds := by
  refine holds_law rowSaid fun said => ?_
  refine holds_open (q := view) (loose := [Str.ofString "PageError"]) (Xt := fun s => xlAt view [] s && recOk (RowW.records PySem.Challenge.rw_sq0030_02.row.toRowW) s) (XP := XL view []) (Yf := Hook.obs hookK) (Ya := Hook.val hookK) (YP := Hook.says hookK) (N := 3624) topLeft (Hook.of hookK) (Hook.keeps hookK)
    (fun s e => xl_of s (Bool.and_eq_true_iff.mp e).1) XL.keeps (by rfl) (by rfl) (by rfl) (fun s e => recFacts_of (Bool.and_eq_true_iff.mp e).2) (by rfl) said (by decide +kernel) ⟨rfl, rfl, rfl, rfl, rfl, by decide +kernel⟩ ?_ ?_
  · w_witness2
  intro w s₀ s₁ mg mb G Y fa o pm cd doc dV kV ho hd hcd hD hmg hg args vals as hpre hlay hrd hwl hlo
  have KX := kIn_of Y
  have X := (Ground.X G).1
  have V := (Ground.X G).2
  refine Ground.open G ?_
  intro T B D TE TW
  try (refine guard_noD D (by decide +kernel) ?_; clear D)
  obtain ⟨_, _, M⟩ := bmod_of_top T
  have TA := at_of_top T
  try (obtain ⟨_, _, he, B0⟩ := based_of_top T rfl hmg ho hd; have he' : cd = _ := he; subst he'; clear he)
  clear hmg
  wrow_args hpre hlay hrd hwl hlo
  all_goals (
    first | refine callC_kw (enter_call ?_) | refine enter_call ?_ | refine callC_kw (enter_callW ?_) | refine enter_callW ?_ | w_how
    w_top on
    try refine codeAny_mono ?_ (fun _ _ g => GoodW.toG g)
    have K0 := below_caller (Top.heap T)
    w_call any ho hd hcd hD T F
    clear hd TA
    k_drop
    skip)
  rename Top _ _ _ _ _ _ => T
  rename World => w
  have TR := topRead_of T
  refine top_run (K := heapK w.params) (C := 178) (sc := scopeOf (heapK w.params) 237) (body := bodyOf (heapK w.params) 237) (x := "script") (ls := ["cells", "k"]) (d := 20) (names := [("range", .raw (.type "range")), ("len", .raw (.builtin "len")), ("_law_round", .raw (.ref 230)), ("_law_box", .raw (.ref 189)), ("sum", .raw (.builtin "sum"))])
    (by assumption) TR.g TR.b TR.nolimit TR.builtins (by assumption) (by assumption) (by kernel_rfl) (by assumption) (by assumption) ⟨rfl, (by show (302 : Nat) + 4 * 20 + 10 ≤ 1000; decide), (by show (7 : Nat) + 20 * 20 + 100 ≤ 9900; decide)⟩ (by kernel_rfl) (by kernel_rfl) (by kernel_rfl)
    (fun B hp hw hK hC => ?_) (fun s' m' F hg hos => ?_)
  · have h : B1 B := ⟨by rw [hK, hw], hC⟩
    subst hw
    exact ⟨gs_law h, wLaw (d := 11) h (by omega)⟩
  · exact goodW_bool F hg (raisesW_false (by wrow_none_raised)) (postW_of (by wrow_shape) (by wtm_val) (by w_fin)) hos

end Mine
set_option maxRecDepth 100000 in
set_option maxHeartbeats 8000000 in
theorem PySem.Challenge.cw_sq0030_02_holds : PySem.Challenge.rw_sq0030_02.Holds := by
  exact Mine.PW

