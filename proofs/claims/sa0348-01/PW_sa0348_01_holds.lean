import PyProof.Rows.All
import Wide.All
import OpenK.AllK
import Wide.FinOn
import PySem.Challenge.RW_sa0348_01
set_option Elab.async false
section
local macro_rules | `(tactic| omega) => `(tactic| first | decide | (with_reducible assumption) | lia | omega (config := {}))
section
open PySem PySem.W PyProof.Rows PySem.Calls
namespace Mine

/-- pure data -/
inductive D where
  | int (i : Int) | bool (b : Bool) | none | list (l : List D) | tup (l : List D) | fn (x : Str) | pin (a : Addr)

structure Wd where
  prog : Program
  w : World
  mg : Str → Option Value
  mb : Str → Option Value
  K : Frag

noncomputable def Wd.G (W : Wd) (h : Heap) : Prop := h.Ns mainGlobals W.mg ∧ h.Ns builtinsNs W.mb ∧ h.NoLimit ∧ W.K.In h

noncomputable def Ext (h h' : Heap) : Prop := ∀ b o, h.get? b = some o → h'.get? b = some o
theorem Ext.refl (h : Heap) : Ext h h := fun _ _ e => e
theorem Ext.trans {h h' h'' : Heap} (a : Ext h h') (b : Ext h' h'') : Ext h h'' := fun x o e => b x o (a x o e)
theorem Ext.push (h : Heap) (o : Obj) : Ext h (h.push o) := fun _ _ e => Heap.get?_push_of_some _ e
theorem Ext.size {h h' : Heap} (x : Ext h h') {a : Addr} {o : Obj} (e : h.get? a = some o) : a < h'.objs.size := Heap.lt_size (x a o e)
theorem get?_size (h : Heap) : h.get? h.objs.size = none := by
  cases e : h.get? h.objs.size with
  | none => rfl
  | some o => exact absurd (Heap.lt_size e) (Nat.lt_irrefl _)

theorem Wd.G.ext {W : Wd} {h h' : Heap} (g : W.G h) (x : Ext h h') : W.G h' :=
  ⟨g.1.keeps x, g.2.1.keeps x, g.2.2.1.keeps x, fun a o e => x a o (g.2.2.2 a o e)⟩

mutual
inductive Rep (W : Wd) (av : Addr → Prop) (h : Heap) : Value → D → Prop
  | int (i : Int) (t : Tok) : Rep W av h (.int i t) (.int i)
  | bool (b : Bool) : Rep W av h (.bool b) (.bool b)
  | none : Rep W av h .none .none
  | fn {a : Addr} {x : Str} : W.mg x = some (.ref a) → Rep W av h (.ref a) (.fn x)
  | pin (a : Addr) : Rep W av h (.ref a) (.pin a)
  | list {a : Addr} {vs : List Value} {ds : List D} : ¬ av a → h.PlainList a vs.toArray → Reps W av h vs ds → Rep W av h (.ref a) (.list ds)
  | tup {a : Addr} {vs : List Value} {ds : List D} : ¬ av a → h.IsTuple a vs.toArray → Reps W av h vs ds → Rep W av h (.ref a) (.tup ds)
inductive Reps (W : Wd) (av : Addr → Prop) (h : Heap) : List Value → List D → Prop
  | nil : Reps W av h [] []
  | cons {v : Value} {d : D} {vs : List Value} {ds : List D} : Rep W av h v d → Reps W av h vs ds → Reps W av h (v :: vs) (d :: ds)
end

noncomputable def Keq (av : Addr → Prop) (h h' : Heap) : Prop := ∀ b o its n, ¬ av b → o.data = .seq its n → h.get? b = some o → h'.get? b = some o
theorem Ext.keq {av : Addr → Prop} {h h' : Heap} (x : Ext h h') : Keq av h h' := fun b o _ _ _ _ e => x b o e

theorem PL.keq {av : Addr → Prop} {h h' : Heap} {a : Addr} {its : Array Value} (p : h.PlainList a its) (k : Keq av h h') (n : ¬ av a) : h'.PlainList a its := by
  obtain ⟨m, e⟩ := p
  exact ⟨m, k a _ _ _ n rfl e⟩
theorem PL.ext {h h' : Heap} {a : Addr} {its : Array Value} (p : h.PlainList a its) (k : Ext h h') : h'.PlainList a its := by
  obtain ⟨m, e⟩ := p
  exact ⟨m, k a _ e⟩
theorem PL.some {h : Heap} {a : Addr} {its : Array Value} (p : h.PlainList a its) : (h.get? a).isSome = true := by
  obtain ⟨m, e⟩ := p; rw [e]; rfl
theorem PL.isList {h : Heap} {a : Addr} {its : Array Value} (p : h.PlainList a its) : h.IsList a its := by
  obtain ⟨m, e⟩ := p; exact ⟨_, e, rfl, m, rfl⟩
theorem PL.plainL {h : Heap} {a : Addr} {its : Array Value} (p : h.PlainList a its) : PlainL h a its := by
  obtain ⟨m, e⟩ := p; exact ⟨_, m, e, rfl, rfl, rfl⟩
theorem isTuple_keq {av : Addr → Prop} {h h' : Heap} {a : Addr} {its : Array Value} (p : h.IsTuple a its) (k : Keq av h h') (n : ¬ av a) : h'.IsTuple a its := by
  obtain ⟨o, e, hc, m, hs⟩ := p
  exact ⟨o, k a o _ _ n hs e, hc, m, hs⟩
theorem isTuple_some {h : Heap} {a : Addr} {its : Array Value} (p : h.IsTuple a its) : (h.get? a).isSome = true := by
  obtain ⟨o, e, _⟩ := p; rw [e]; rfl

mutual
theorem Rep.mono {W : Wd} {av av' : Addr → Prop} {h h' : Heap} (k : Keq av h h') (ka : ∀ b, (h.get? b).isSome = true → av' b → av b) : ∀ {v : Value} {d : D}, Rep W av h v d → Rep W av' h' v d
  | _, _, .int i t => .int i t
  | _, _, .bool b => .bool b
  | _, _, .none => .none
  | _, _, .fn e => .fn e
  | _, _, .pin a => .pin a
  | _, _, .list n p r => .list (fun x => n (ka _ (PL.some p) x)) (PL.keq p k n) (Reps.mono k ka r)
  | _, _, .tup n p r => .tup (fun x => n (ka _ (isTuple_some p) x)) (isTuple_keq p k n) (Reps.mono k ka r)
theorem Reps.mono {W : Wd} {av av' : Addr → Prop} {h h' : Heap} (k : Keq av h h') (ka : ∀ b, (h.get? b).isSome = true → av' b → av b) : ∀ {vs : List Value} {ds : List D}, Reps W av h vs ds → Reps W av' h' vs ds
  | _, _, .nil => .nil
  | _, _, .cons a b => .cons (Rep.mono k ka a) (Reps.mono k ka b)
end
theorem Rep.ext {W : Wd} {av : Addr → Prop} {h h' : Heap} {v : Value} {d : D} (r : Rep W av h v d) (x : Ext h h') : Rep W av h' v d := r.mono x.keq fun _ _ e => e
theorem Reps.ext {W : Wd} {av : Addr → Prop} {h h' : Heap} {v : List Value} {d : List D} (r : Reps W av h v d) (x : Ext h h') : Reps W av h' v d := r.mono x.keq fun _ _ e => e

theorem Reps.length {W : Wd} {av : Addr → Prop} {h : Heap} : ∀ {vs : List Value} {ds : List D}, Reps W av h vs ds → vs.length = ds.length
  | _, _, .nil => rfl
  | _, _, .cons _ b => by simp [Reps.length b]
theorem Reps.append {W : Wd} {av : Addr → Prop} {h : Heap} : ∀ {vs : List Value} {ds : List D} {vs' : List Value} {ds' : List D}, Reps W av h vs ds → Reps W av h vs' ds' → Reps W av h (vs ++ vs') (ds ++ ds')
  | _, _, _, _, .nil, y => y
  | _, _, _, _, .cons a b, y => .cons a (Reps.append b y)
theorem Reps.get {W : Wd} {av : Addr → Prop} {h : Heap} : ∀ {vs : List Value} {ds : List D}, Reps W av h vs ds → ∀ {i : Nat} {d : D}, ds[i]? = some d → ∃ v, vs[i]? = some v ∧ Rep W av h v d
  | _, _, .nil, i, d, e => by cases e
  | _, _, .cons a b, 0, d, e => by cases e; exact ⟨_, rfl, a⟩
  | _, _, .cons a b, i + 1, d, e => by
    obtain ⟨v, hv, r⟩ := Reps.get b (i := i) (d := d) (by simpa using e)
    exact ⟨v, by simpa using hv, r⟩
theorem Reps.get' {W : Wd} {av : Addr → Prop} {h : Heap} : ∀ {vs : List Value} {ds : List D}, Reps W av h vs ds → ∀ {i : Nat} {v : Value}, vs[i]? = some v → ∃ d, ds[i]? = some d ∧ Rep W av h v d
  | _, _, .nil, i, d, e => by cases e
  | _, _, .cons a b, 0, d, e => by cases e; exact ⟨_, rfl, a⟩
  | _, _, .cons a b, i + 1, d, e => by
    obtain ⟨v, hv, r⟩ := Reps.get' b (i := i) (v := d) (by simpa using e)
    exact ⟨v, by simpa using hv, r⟩
theorem Reps.set {W : Wd} {av : Addr → Prop} {h : Heap} : ∀ {vs : List Value} {ds : List D}, Reps W av h vs ds → ∀ {i : Nat} {v : Value} {d : D}, Rep W av h v d → Reps W av h (vs.set i v) (ds.set i d)
  | _, _, .nil, i, _, _, _ => by simpa using Reps.nil
  | _, _, .cons _ b, 0, _, _, r => .cons r b
  | _, _, .cons a b, i + 1, _, _, r => .cons a (Reps.set b r)
theorem Reps.take {W : Wd} {av : Addr → Prop} {h : Heap} : ∀ {vs : List Value} {ds : List D}, Reps W av h vs ds → ∀ (i : Nat), Reps W av h (vs.take i) (ds.take i)
  | _, _, .nil, i => by simpa using Reps.nil
  | _, _, .cons _ _, 0 => .nil
  | _, _, .cons a b, i + 1 => .cons a (Reps.take b i)
theorem Reps.drop {W : Wd} {av : Addr → Prop} {h : Heap} : ∀ {vs : List Value} {ds : List D}, Reps W av h vs ds → ∀ (i : Nat), Reps W av h (vs.drop i) (ds.drop i)
  | _, _, .nil, i => by simpa using Reps.nil
  | _, _, .cons a b, 0 => .cons a b
  | _, _, .cons a b, i + 1 => Reps.drop b i
theorem Reps.reverse {W : Wd} {av : Addr → Prop} {h : Heap} : ∀ {vs : List Value} {ds : List D}, Reps W av h vs ds → Reps W av h vs.reverse ds.reverse
  | _, _, .nil => .nil
  | _, _, .cons a b => by
    rw [List.reverse_cons, List.reverse_cons]
    exact Reps.append (Reps.reverse b) (.cons a .nil)

/-- what a variable holds -/
inductive B where
  | p (d : D)
  | own (a : Addr) (ds : List D)
noncomputable abbrev Loc := List (Option B)
noncomputable def Own (ρ : Loc) (a : Addr) : Prop := ∃ (k : Nat) (ds : List D), ρ[k]? = some (some (.own a ds))

structure Cx where
  W : Wd
  A : Around
  env : Env
  h₀ : Heap
  av : Addr → Prop
  ks : List Str
  gs : List Str
  lvl : Nat
  fn : Bool

noncomputable def Pv (c : Cx) (ρ : Loc) (a : Addr) : Prop := c.av a ∨ Own ρ a

noncomputable def Room (A : Around) (n : Nat) : Prop := A.handled = none ∧ A.depth + n + 5 < recursionLimit ∧ A.units + 8 * n + 100 < cLine

structure FnOk (c : Cx) : Prop where
  av0 : ∀ a, c.av a → (c.h₀.get? a).isSome = true
  hi : c.h₀.objs.size ≤ c.env.locals
  g0 : c.W.G c.h₀
  apart : c.env.cells.Pairwise fun x y => x.2 ≠ y.2
  cellsHi : ∀ n cd, c.env.cells.lookup n = some cd → c.h₀.objs.size ≤ cd
  cellsAll : ∀ (k : Nat) x, c.ks[k]? = some x → c.env.kindOf x = some .cell → (c.env.cells.lookup x).isSome = true
structure Cx.Ok (c : Cx) : Prop where
  kind : c.env.scope.kind = .function
  gl : c.env.globals = mainGlobals
  bi : c.env.builtins = builtinsNs
  room : Room c.A c.lvl
  nod : c.ks.Nodup
  kinds : ∀ (k : Nat) x, c.ks[k]? = some x → c.env.kindOf x = some .local ∨ c.env.kindOf x = some .cell
  globs : ∀ (k : Nat) x, c.gs[k]? = some x → c.env.kindOf x = some .globalImplicit
  nodb : ∀ x, x ∈ c.ks ∨ x ∈ c.gs → (x == ("__debug__" : Str)) = false
  isFn : c.fn = true → FnOk c

noncomputable def VarV (h : Heap) (env : Env) (x : Str) (v : Value) : Prop :=
  (env.kindOf x = some .local ∧ ∃ m, h.Ns env.locals m ∧ m x = some v) ∨
  ((env.kindOf x = some .cell ∨ (env.kindOf x = some .free ∧ (x == ("__classdict__" : Str)) = false)) ∧ ∃ cd, env.cells.lookup x = some cd ∧ h.IsCell cd (some v))

noncomputable def IsB (W : Wd) (av : Addr → Prop) (h : Heap) (v : Value) : B → Prop
  | .p d => Rep W av h v d
  | .own a ds => v = .ref a ∧ ∃ vs, h.PlainList a vs.toArray ∧ Reps W av h vs ds

structure FS (c : Cx) (ρ : Loc) (h : Heap) : Prop where
  ok : c.Ok
  g : c.W.G h
  av1 : ∀ a, c.av a → (h.get? a).isSome = true
  keep : c.fn = true → Ext c.h₀ h
  ns : ∃ m, h.Ns c.env.locals m
  cells : c.fn = true → ∀ n cd, c.env.cells.lookup n = some cd → ∃ v, h.IsCell cd v
  var : ∀ (k : Nat) x b, c.ks[k]? = some x → ρ[k]? = some (some b) → ∃ v, VarV h c.env x v ∧ IsB c.W (Pv c ρ) h v b
  own0 : ∀ (k : Nat) a ds, ρ[k]? = some (some (.own a ds)) → (c.fn = true → c.h₀.get? a = none) ∧ ¬ c.av a ∧ ∃ its, h.PlainList a its
  ownd : ∀ (k k' : Nat) a ds ds', ρ[k]? = some (some (.own a ds)) → ρ[k']? = some (some (.own a ds')) → k = k'

theorem VarV.ext {h h' : Heap} {env : Env} {x : Str} {v : Value} (V : VarV h env x v) (e : Ext h h') : VarV h' env x v := by
  rcases V with ⟨hk, m, hn, hm⟩ | ⟨hk, cd, hc, hv⟩
  · exact .inl ⟨hk, m, hn.keeps e, hm⟩
  · exact .inr ⟨hk, cd, hc, hv.keeps e⟩
theorem IsB.mono {W : Wd} {av av' : Addr → Prop} {h h' : Heap} {v : Value} {b : B} (H : IsB W av h v b) (e : Ext h h') (ka : ∀ b, (h.get? b).isSome = true → av' b → av b) : IsB W av' h' v b := by
  cases b with
  | p d => exact Rep.mono e.keq ka H
  | own a ds =>
    obtain ⟨rfl, vs, p, r⟩ := H
    exact ⟨rfl, vs, PL.ext p e, r.mono e.keq ka⟩
theorem ext_some {h h' : Heap} (e : Ext h h') {a : Addr} (x : (h.get? a).isSome = true) : (h'.get? a).isSome = true := by
  obtain ⟨o, q⟩ := Option.isSome_iff_exists.mp x
  rw [e a o q]; rfl
theorem FS.ext {c : Cx} {ρ : Loc} {h h' : Heap} (F : FS c ρ h) (e : Ext h h') : FS c ρ h' where
  ok := F.ok
  g := F.g.ext e
  av1 := fun a p => ext_some e (F.av1 a p)
  keep := fun hf => (F.keep hf).trans e
  ns := let ⟨m, hn⟩ := F.ns; ⟨m, hn.keeps e⟩
  cells := fun hf n cd hm => let ⟨v, hv⟩ := F.cells hf n cd hm; ⟨v, hv.keeps e⟩
  var := fun k x b hk hb => let ⟨v, V, H⟩ := F.var k x b hk hb; ⟨v, V.ext e, H.mono e fun _ _ q => q⟩
  own0 := fun k a ds hk => let ⟨x, y, its, p⟩ := F.own0 k a ds hk; ⟨x, y, its, PL.ext p e⟩
  ownd := F.ownd
theorem FS.pv {c : Cx} {ρ : Loc} {h : Heap} (F : FS c ρ h) {a : Addr} (p : Pv c ρ a) : (h.get? a).isSome = true := by
  rcases p with p | ⟨k, ds, p⟩
  · exact F.av1 a p
  · obtain ⟨_, _, its, n, e⟩ := F.own0 k a ds p
    rw [e]; rfl
theorem FS.off {c : Cx} {ρ : Loc} {h : Heap} (F : FS c ρ h) {a : Addr} (n : h.get? a = none) : ¬ Pv c ρ a := fun p => by
  have := F.pv p
  rw [n] at this; cases this

noncomputable abbrev after (s : Shared) (h' : Heap) (tk : Nat) : Shared := { s with heap := h', toks := tk }

/-- an expression's value -/
noncomputable def Ev (c : Cx) (ρ : Loc) (e : Expr) (d : D) : Prop :=
  ∀ (s : Shared) (Q : Value → Shared → Prop) (E : Value → Shared → Prop), FS c ρ s.heap →
    (∀ v h' tk, Ext s.heap h' → Rep c.W (Pv c ρ) h' v d → Q v (after s h' tk)) → wpAny (model c.W.prog c.W.w) c.A (eval e c.env) Q E s
/-- an expression that makes a list of its own -/
noncomputable def EvO (c : Cx) (ρ : Loc) (e : Expr) (ds : List D) : Prop :=
  ∀ (s : Shared) (Q : Value → Shared → Prop) (E : Value → Shared → Prop), FS c ρ s.heap →
    (∀ a vs h' tk, Ext s.heap h' → s.heap.get? a = none → h'.PlainList a vs.toArray → Reps c.W (fun b => Pv c ρ b ∨ b = a) h' vs ds → Q (.ref a) (after s h' tk)) → wpAny (model c.W.prog c.W.w) c.A (eval e c.env) Q E s
/-- a test -/
noncomputable def EvT (c : Cx) (ρ : Loc) (e : Expr) (b : Bool) : Prop :=
  ∀ (s : Shared) (Q : Bool → Shared → Prop) (E : Value → Shared → Prop), FS c ρ s.heap →
    (∀ h' tk, Ext s.heap h' → Q b (after s h' tk)) → wpAny (model c.W.prog c.W.w) c.A (PySem.isTrue e c.env (eval e c.env)) Q E s
/-- several, one behind the other -/
noncomputable def EvL (c : Cx) (ρ : Loc) (pos : Pos) (es : List Expr) (ds : List D) : Prop :=
  ∀ (s : Shared) (Q : List Value → Shared → Prop) (E : Value → Shared → Prop), FS c ρ s.heap →
    (∀ vs h' tk, Ext s.heap h' → Reps c.W (Pv c ρ) h' vs ds → Q vs (after s h' tk)) → wpAny (model c.W.prog c.W.w) c.A (spliced (backTo pos (starEach es c.env))) Q E s

theorem EvO.ev {c : Cx} {ρ : Loc} {e : Expr} {ds : List D} (H : EvO c ρ e ds) : Ev c ρ e (.list ds) := by
  intro s Q E F h
  exact H s Q E F fun a vs h' tk x hn p r => h _ h' tk x (.list (F.off hn) p (r.mono (Ext.refl _).keq fun b _ q => .inl q))
end Mine
end
section
open PySem PySem.W PyProof.Rows PySem.Calls
namespace Mine

variable {c : Cx} {ρ : Loc}

theorem Ev.int {i : Int} {k : Nat} {pos : Pos} : Ev c ρ (.Constant (.int i) k pos) (.int i) :=
  fun _ _ _ _ h => wpAny_Constant_int (h _ _ _ (Ext.refl _) (.int i _))
theorem Ev.bool {b : Bool} {k : Nat} {pos : Pos} : Ev c ρ (.Constant (.bool b) k pos) (.bool b) :=
  fun s _ _ _ h => wpAny_Constant_bool (h _ s.heap s.toks (Ext.refl _) (.bool b))

theorem ev_var {x : Str} {pos : Pos} {v : Value} {s : Shared} {Q : Value → Shared → Prop} {E : Value → Shared → Prop} (O : c.Ok) (hx : x ∈ c.ks) (V : VarV s.heap c.env x v) (h : Q v s) :
    wpAny (model c.W.prog c.W.w) c.A (eval (.Name x pos) c.env) Q E s := by
  have hd := O.nodb x (.inl hx)
  rcases V with ⟨hk, m, hn, hm⟩ | ⟨hk | ⟨hk, hcd⟩, cd, hc, hv⟩
  · exact wpAny_Name (wpAny_loadName_local O.kind hk hn hm h) hd
  · exact wpAny_Name (wpAny_loadName_cell O.kind hk hc hv h) hd
  · exact wpAny_Name (wpAny_loadName_free O.kind hk hc hv h hcd) hd

theorem Ev.name (k : Nat) {x : Str} {pos : Pos} {d : D} (hk : c.ks[k]? = some x) (hb : ρ[k]? = some (some (.p d))) : Ev c ρ (.Name x pos) d := by
  intro s Q E F h
  obtain ⟨v, V, H⟩ := F.var k x _ hk hb
  exact ev_var F.ok (List.mem_of_getElem? hk) V (h v s.heap s.toks (Ext.refl _) H)

/-- a list, pure or own -/
noncomputable def EvSeq (c : Cx) (ρ : Loc) (e : Expr) (ds : List D) : Prop :=
  ∀ (s : Shared) (Q : Value → Shared → Prop) (E : Value → Shared → Prop), FS c ρ s.heap →
    (∀ a vs h' tk, Ext s.heap h' → h'.PlainList a vs.toArray → Reps c.W (Pv c ρ) h' vs ds → Q (.ref a) (after s h' tk)) → wpAny (model c.W.prog c.W.w) c.A (eval e c.env) Q E s
theorem EvSeq.of {e : Expr} {ds : List D} (H : Ev c ρ e (.list ds)) : EvSeq c ρ e ds := by
  intro s Q E F h
  refine H s Q E F fun v h' tk x r => ?_
  cases r with
  | list n p r => exact h _ _ h' tk x p r
theorem EvSeq.own (k : Nat) {x : Str} {pos : Pos} {a : Addr} {ds : List D} (hk : c.ks[k]? = some x) (hb : ρ[k]? = some (some (.own a ds))) : EvSeq c ρ (.Name x pos) ds := by
  intro s Q E F h
  obtain ⟨v, V, rfl, vs, p, r⟩ := F.var k x _ hk hb
  exact ev_var F.ok (List.mem_of_getElem? hk) V (h a vs s.heap s.toks (Ext.refl _) p r)

/-- a binary operation on represented values -/
noncomputable def OpOk (c : Cx) (ρ : Loc) (t : Value → Value → Sem Value) (d₁ d₂ d : D) : Prop :=
  ∀ (s : Shared) (v₁ v₂ : Value) (Q : Value → Shared → Prop) (E : Value → Shared → Prop), FS c ρ s.heap → Rep c.W (Pv c ρ) s.heap v₁ d₁ → Rep c.W (Pv c ρ) s.heap v₂ d₂ →
    (∀ v h' tk, Ext s.heap h' → Rep c.W (Pv c ρ) h' v d → Q v (after s h' tk)) → wpAny (model c.W.prog c.W.w) c.A (t v₁ v₂) Q E s

theorem ev_two {l r : Expr} {d₁ d₂ : D} (h1 : Ev c ρ l d₁) (h2 : Ev c ρ r d₂) {s : Shared} {Q : Value → Value → Shared → Prop} {E : Value → Shared → Prop} (F : FS c ρ s.heap)
    (h : ∀ v₁ v₂ h' tk, Ext s.heap h' → Rep c.W (Pv c ρ) h' v₁ d₁ → Rep c.W (Pv c ρ) h' v₂ d₂ → Q v₁ v₂ (after s h' tk)) :
    wpAny (model c.W.prog c.W.w) c.A (eval l c.env) (fun a s₁ => wpAny (model c.W.prog c.W.w) c.A (eval r c.env) (fun b s₂ => Q a b s₂) E s₁) E s :=
  h1 s _ _ F fun v₁ g₁ t₁ x₁ r₁ => h2 (after s g₁ t₁) _ _ (F.ext x₁) fun v₂ g₂ t₂ x₂ r₂ => h v₁ v₂ g₂ t₂ (x₁.trans x₂) (r₁.ext x₂) r₂

theorem Ev.binop {l r : Expr} {op : Operator} {pos : Pos} {d₁ d₂ d : D} (h1 : Ev c ρ l d₁) (h2 : Ev c ρ r d₂) (hop : OpOk c ρ (binaryOp op) d₁ d₂ d) : Ev c ρ (.BinOp l op r pos) d := by
  intro s Q E F h
  exact wpAny_BinOp (ev_two h1 h2 F fun v₁ v₂ h' tk x r₁ r₂ => hop _ v₁ v₂ _ _ (F.ext x) r₁ r₂ fun v g t y r => h v g t (x.trans y) r)

section
variable {i j : Int}
theorem op_add : OpOk c ρ (binaryOp .Add) (.int i) (.int j) (.int (i + j)) := by
  intro s v₁ v₂ Q E F r₁ r₂ h; cases r₁; cases r₂
  exact wpAny_add_int (h _ _ _ (Ext.refl _) (.int _ _))
theorem op_sub : OpOk c ρ (binaryOp .Sub) (.int i) (.int j) (.int (i - j)) := by
  intro s v₁ v₂ Q E F r₁ r₂ h; cases r₁; cases r₂
  exact sub_int' (h _ _ _ (Ext.refl _) (.int _ _))
theorem mul_ok (hs : i.natAbs < 2 ^ 64 ∨ j.natAbs < 2 ^ 64) : IntMulOk i j := by
  rcases hs with hs | hs
  · exact .of_left (intBits_le_64 (by omega) (by omega))
  · exact .of_right (intBits_le_64 (by omega) (by omega))
theorem op_mul (hs : i.natAbs < 2 ^ 64 ∨ j.natAbs < 2 ^ 64) : OpOk c ρ (binaryOp .Mult) (.int i) (.int j) (.int (i * j)) := by
  intro s v₁ v₂ Q E F r₁ r₂ h; cases r₁; cases r₂
  exact mul_int (h _ _ _ (Ext.refl _) (.int _ _)) (mul_ok hs)
theorem op_mod (hj : 0 < j) : OpOk c ρ (binaryOp .Mod) (.int i) (.int j) (.int (i % j)) := by
  intro s v₁ v₂ Q E F r₁ r₂ h; cases r₁; cases r₂
  refine mod_int' (by omega) ?_
  rw [Int.fmod_eq_emod_of_nonneg _ (by omega)]
  exact h _ _ _ (Ext.refl _) (.int _ _)
theorem op_div (hj : 0 < j) (hs : j < 1073741824) : OpOk c ρ (binaryOp .FloorDiv) (.int i) (.int j) (.int (i / j)) := by
  intro s v₁ v₂ Q E F r₁ r₂ h; cases r₁; cases r₂
  refine floordiv_int (by omega) ?_ (.inl (PyProof.noPylong_small (by omega)))
  rw [Int.fdiv_eq_ediv_of_nonneg _ (by omega)]
  exact h _ _ _ (Ext.refl _) (.int _ _)
theorem op_shl (hj : 0 ≤ j) (hj' : j ≤ 1000000) (hi : i.natAbs < 2 ^ 64) : OpOk c ρ (binaryOp .LShift) (.int i) (.int j) (.int (i * 2 ^ j.toNat)) := by
  intro s v₁ v₂ Q E F r₁ r₂ h; cases r₁; cases r₂
  exact lshift_int_small hj hj' hi (h _ _ _ (Ext.refl _) (.int _ _))
theorem op_shr (hj : 0 ≤ j) : OpOk c ρ (binaryOp .RShift) (.int i) (.int j) (.int (i / 2 ^ j.toNat)) := by
  intro s v₁ v₂ Q E F r₁ r₂ h; cases r₁; cases r₂
  refine rshift_int hj ?_
  rw [Int.fdiv_eq_ediv_of_nonneg _ (Int.pow_nonneg (by omega))]
  exact h _ _ _ (Ext.refl _) (.int _ _)
theorem op_and : OpOk c ρ (binaryOp .BitAnd) (.int i) (.int j) (.int (Builtin.bitAnd i j)) := by
  intro s v₁ v₂ Q E F r₁ r₂ h; cases r₁; cases r₂
  exact and_int (h _ _ _ (Ext.refl _) (.int _ _))
theorem op_or : OpOk c ρ (binaryOp .BitOr) (.int i) (.int j) (.int (Builtin.bitOr i j)) := by
  intro s v₁ v₂ Q E F r₁ r₂ h; cases r₁; cases r₂
  exact or_int (h _ _ _ (Ext.refl _) (.int _ _))
theorem op_pow (hj : 0 ≤ j) (hs : (Builtin.Int.intBits i : Int) * j ≤ 2 ^ 27) : OpOk c ρ (binaryOp .Pow) (.int i) (.int j) (.int (i ^ j.toNat)) := by
  intro s v₁ v₂ Q E F r₁ r₂ h; cases r₁; cases r₂
  exact pow_int hj hs (h _ _ _ (Ext.refl _) (.int _ _))
-- in place
theorem iop_add : OpOk c ρ (inplaceOp .Add) (.int i) (.int j) (.int (i + j)) := by
  intro s v₁ v₂ Q E F r₁ r₂ h; cases r₁; cases r₂
  exact wpAny_iadd_int (h _ _ _ (Ext.refl _) (.int _ _))
theorem iop_sub : OpOk c ρ (inplaceOp .Sub) (.int i) (.int j) (.int (i - j)) := by
  intro s v₁ v₂ Q E F r₁ r₂ h; cases r₁; cases r₂
  exact isub_int (h _ _ _ (Ext.refl _) (.int _ _))
theorem iop_mul (hs : i.natAbs < 2 ^ 64 ∨ j.natAbs < 2 ^ 64) : OpOk c ρ (inplaceOp .Mult) (.int i) (.int j) (.int (i * j)) := by
  intro s v₁ v₂ Q E F r₁ r₂ h; cases r₁; cases r₂
  exact imul_int (h _ _ _ (Ext.refl _) (.int _ _)) (mul_ok hs)
theorem iop_div (hj : 0 < j) (hs : j < 1073741824) : OpOk c ρ (inplaceOp .FloorDiv) (.int i) (.int j) (.int (i / j)) := by
  intro s v₁ v₂ Q E F r₁ r₂ h; cases r₁; cases r₂
  refine ifloordiv_int (by omega) ?_ (.inl (PyProof.noPylong_small (by omega)))
  rw [Int.fdiv_eq_ediv_of_nonneg _ (by omega)]
  exact h _ _ _ (Ext.refl _) (.int _ _)
theorem iop_shr (hj : 0 ≤ j) : OpOk c ρ (inplaceOp .RShift) (.int i) (.int j) (.int (i / 2 ^ j.toNat)) := by
  intro s v₁ v₂ Q E F r₁ r₂ h; cases r₁; cases r₂
  refine irshift_int hj ?_
  rw [Int.fdiv_eq_ediv_of_nonneg _ (Int.pow_nonneg (by omega))]
  exact h _ _ _ (Ext.refl _) (.int _ _)
theorem iop_or : OpOk c ρ (inplaceOp .BitOr) (.int i) (.int j) (.int (Builtin.bitOr i j)) := by
  intro s v₁ v₂ Q E F r₁ r₂ h; cases r₁; cases r₂
  exact ior_int (h _ _ _ (Ext.refl _) (.int _ _))
end

-- comparisons
theorem cmp_lt {i j : Int} : OpOk c ρ (compareOp .Lt) (.int i) (.int j) (.bool (decide (i < j))) := by
  intro s v₁ v₂ Q E F r₁ r₂ h; cases r₁; cases r₂
  exact wpAny_lt_int (h _ s.heap s.toks (Ext.refl _) (.bool _))
theorem cmp_gt {i j : Int} : OpOk c ρ (compareOp .Gt) (.int i) (.int j) (.bool (decide (i > j))) := by
  intro s v₁ v₂ Q E F r₁ r₂ h; cases r₁; cases r₂
  exact gt_int (h _ s.heap s.toks (Ext.refl _) (.bool _))
theorem cmp_le {i j : Int} : OpOk c ρ (compareOp .LtE) (.int i) (.int j) (.bool (decide (i ≤ j))) := by
  intro s v₁ v₂ Q E F r₁ r₂ h; cases r₁; cases r₂
  exact le_int (h _ s.heap s.toks (Ext.refl _) (.bool _))
theorem cmp_ge {i j : Int} : OpOk c ρ (compareOp .GtE) (.int i) (.int j) (.bool (decide (i ≥ j))) := by
  intro s v₁ v₂ Q E F r₁ r₂ h; cases r₁; cases r₂
  exact ge_int (h _ s.heap s.toks (Ext.refl _) (.bool _))
theorem cmp_eq {i j : Int} : OpOk c ρ (compareOp .Eq) (.int i) (.int j) (.bool (i == j)) := by
  intro s v₁ v₂ Q E F r₁ r₂ h; cases r₁; cases r₂
  exact eq_int (h _ s.heap s.toks (Ext.refl _) (.bool _))
theorem cmp_ne {i j : Int} : OpOk c ρ (compareOp .NotEq) (.int i) (.int j) (.bool (i != j)) := by
  intro s v₁ v₂ Q E F r₁ r₂ h; cases r₁; cases r₂
  exact ne_int (h _ s.heap s.toks (Ext.refl _) (.bool _))
theorem cmp_eqb {i j : Bool} : OpOk c ρ (compareOp .Eq) (.bool i) (.bool j) (.bool (i == j)) := by
  intro s v₁ v₂ Q E F r₁ r₂ h; cases r₁; cases r₂
  exact eq_bool (h _ s.heap s.toks (Ext.refl _) (.bool _))
theorem cmp_neb {i j : Bool} : OpOk c ρ (compareOp .NotEq) (.bool i) (.bool j) (.bool (i != j)) := by
  intro s v₁ v₂ Q E F r₁ r₂ h; cases r₁; cases r₂
  exact ne_bool (h _ s.heap s.toks (Ext.refl _) (.bool _))

theorem Ev.cmp {l r : Expr} {op : CmpOp} {pos : Pos} {d₁ d₂ d : D} (h1 : Ev c ρ l d₁) (h2 : Ev c ρ r d₂) (hop : OpOk c ρ (compareOp op) d₁ d₂ d) (hb : behindInMarks op r = false := by rfl) : Ev c ρ (.Compare l [op] [r] pos) d := by
  intro s Q E F h
  exact wpAny_Compare1 (ev_two h1 h2 F fun v₁ v₂ h' tk x r₁ r₂ => hop _ v₁ v₂ _ _ (F.ext x) r₁ r₂ fun v g t y r => h v g t (x.trans y) r) hb
theorem EvT.cmp {l r : Expr} {op : CmpOp} {pos : Pos} {d₁ d₂ : D} {b : Bool} (h1 : Ev c ρ l d₁) (h2 : Ev c ρ r d₂) (hop : OpOk c ρ (compareOp op) d₁ d₂ (.bool b)) (hb : behindInMarks op r = false := by rfl) : EvT c ρ (.Compare l [op] [r] pos) b := by
  intro s Q E F h
  refine wpAny_isTrue_Compare1 (ev_two h1 h2 F fun v₁ v₂ h' tk x r₁ r₂ => hop _ v₁ v₂ _ _ (F.ext x) r₁ r₂ fun v g t y r => ?_) hb
  cases r
  exact wpAny_truthy_bool (h g t (x.trans y))
/-- any other test -/
theorem EvT.val {e : Expr} {b : Bool} (h1 : Ev c ρ e (.bool b)) (hw : ∀ whole, PySem.isTrue e c.env whole = (do let v ← whole; standAt e.pos; holding [v] (truthy v)) := by intro _; rfl) : EvT c ρ e b := by
  intro s Q E F h
  refine wpAny_isTrue_value (h1 s _ _ F fun v g t x r => ?_) (hw _)
  cases r
  exact wpAny_truthy_bool (h g t x)
theorem EvT.not {e : Expr} {pos : Pos} {b : Bool} (h1 : EvT c ρ e b) : EvT c ρ (.UnaryOp .Not e pos) (!b) := by
  intro s Q E F h
  exact wpAny_isTrue_Not (h1 s _ _ F fun g t x => h g t x)
theorem EvT.and {x y : Expr} {pos : Pos} {a b : Bool} (h1 : EvT c ρ x a) (h2 : a = true → EvT c ρ y b) : EvT c ρ (.BoolOp .And [x, y] pos) (a && b) := by
  intro s Q E F h
  refine wpAny_isTrue_BoolOp (wpAny_allTrue_And_cons (h1 s _ _ F fun g t e => ?_))
  cases a with
  | false => simpa using h g t e
  | true =>
    simp only [if_true]
    refine wpAny_allTrue_And_cons (h2 rfl _ _ _ (F.ext e) fun g' t' e' => ?_)
    have := h g' t' (e.trans e')
    cases b with
    | false => simpa using this
    | true => simp only [if_true]; exact wpAny_allTrue_And_nil this
theorem EvT.or {x y : Expr} {pos : Pos} {a b : Bool} (h1 : EvT c ρ x a) (h2 : a = false → EvT c ρ y b) : EvT c ρ (.BoolOp .Or [x, y] pos) (a || b) := by
  intro s Q E F h
  refine wpAny_isTrue_BoolOp (wpAny_allTrue_Or_cons (h1 s _ _ F fun g t e => ?_))
  cases a with
  | true => simpa using h g t e
  | false =>
    simp only [Bool.false_eq_true, if_false]
    refine wpAny_allTrue_Or_cons (h2 rfl _ _ _ (F.ext e) fun g' t' e' => ?_)
    have := h g' t' (e.trans e')
    cases b with
    | true => simpa using this
    | false => simp only [Bool.false_eq_true, if_false]; exact wpAny_allTrue_Or_nil this
theorem Ev.and {x y : Expr} {pos : Pos} {a b : Bool} (h1 : Ev c ρ x (.bool a)) (h2 : a = true → Ev c ρ y (.bool b)) : Ev c ρ (.BoolOp .And [x, y] pos) (.bool (a && b)) := by
  intro s Q E F h
  refine wpAny_And2 (h1 s _ _ F fun v g t e r => ?_)
  cases r
  refine wpAny_truthy_bool ?_
  cases a with
  | false => simp only [Bool.false_eq_true, if_false]; exact h _ g t e (.bool _)
  | true => simp only [if_true]; exact h2 rfl _ _ _ (F.ext e) fun v g' t' e' r => h v g' t' (e.trans e') (by simpa using r)
theorem Ev.not {e : Expr} {pos : Pos} {b : Bool} (h1 : Ev c ρ e (.bool b)) : Ev c ρ (.UnaryOp .Not e pos) (.bool (!b)) := by
  intro s Q E F h
  refine wpAny_UnaryOp (h1 s _ _ F fun v g t x r => ?_)
  cases r
  refine wpAny_bind (wpAny_truthy_bool (wpAny_pure (h _ g t x (.bool _))))
theorem Ev.neg {e : Expr} {pos : Pos} {i : Int} (h1 : Ev c ρ e (.int i)) : Ev c ρ (.UnaryOp .USub e pos) (.int (-i)) := by
  intro s Q E F h
  refine wpAny_UnaryOp (h1 s _ _ F fun v g t x r => ?_)
  cases r
  exact neg_int (h _ _ _ x (.int _ _))
theorem Ev.ite {t x y : Expr} {pos : Pos} {b : Bool} {d : D} (h1 : EvT c ρ t b) (h2 : b = true → Ev c ρ x d) (h3 : b = false → Ev c ρ y d) : Ev c ρ (.IfExp t x y pos) d := by
  intro s Q E F h
  refine wpAny_IfExp (h1 s _ _ F fun g t e => ?_)
  cases b with
  | true => simp only [if_true]; exact h2 rfl _ _ _ (F.ext e) fun v g' t' e' r => h v g' t' (e.trans e') r
  | false => simp only [Bool.false_eq_true, if_false]; exact h3 rfl _ _ _ (F.ext e) fun v g' t' e' r => h v g' t' (e.trans e') r

-- several
theorem EvL.nil {pos : Pos} : EvL c ρ pos [] [] := fun s _ _ _ h => spliced_nil (h [] s.heap s.toks (Ext.refl _) .nil)
theorem EvL.cons {pos : Pos} {e : Expr} {es : List Expr} {d : D} {ds : List D} (h1 : Ev c ρ e d) (h2 : EvL c ρ pos es ds) (hs : starEach (e :: es) c.env = (false, eval e c.env) :: starEach es c.env := by rfl) : EvL c ρ pos (e :: es) (d :: ds) := by
  intro s Q E F h
  rw [hs]
  show wpAny _ _ (spliced ((false, eval e c.env) :: backTo pos (starEach es c.env))) Q E s
  exact spliced_cons (h1 s _ _ F fun v g t x r => h2 _ _ _ (F.ext x) fun vs g' t' x' rs => h (v :: vs) g' t' (x.trans x') (.cons (r.ext x') rs))

theorem push_plain (h : Heap) (vs : List Value) : (h.push { cls := .type "list", data := .seq vs.toArray }).PlainList h.objs.size vs.toArray := ⟨_, Heap.get?_push_size _ rfl⟩
theorem push_tup (h : Heap) (vs : List Value) : (h.push { cls := .type "tuple", data := .seq vs.toArray }).IsTuple h.objs.size vs.toArray := ⟨_, Heap.get?_push_size _ rfl, rfl, _, rfl⟩

theorem Ev.tup {pos : Pos} {es : List Expr} {k : Nat} {ds : List D} (h1 : EvL c ρ pos es ds) (hz : ds.length ≤ 100 := by exact Nat.le_of_ble_eq_true rfl) : Ev c ρ (.Tuple es k pos) (.tup ds) := by
  intro s Q E F h
  refine wpAny_Tuple_spliced (h1 s _ _ F fun vs g t x rs => ⟨by rw [rs.length]; exact Nat.le_trans hz (by decide), ?_⟩)
  exact h _ _ t (x.trans (Ext.push _ _)) (.tup ((F.ext x).off (get?_size _)) (push_tup _ _) (rs.ext (Ext.push _ _)))
theorem EvO.disp {pos : Pos} {es : List Expr} {ds : List D} (h1 : EvL c ρ pos es ds) (hz : ds.length ≤ 100 := by exact Nat.le_of_ble_eq_true rfl) : EvO c ρ (.List es pos) ds := by
  intro s Q E F h
  refine wpAny_List_spliced (h1 s _ _ F fun vs g t x rs => ⟨by rw [rs.length]; exact Nat.le_trans hz (by decide), ?_⟩)
  have hn : g.get? g.objs.size = none := get?_size _
  refine h _ vs _ t (x.trans (Ext.push _ _)) ?_ (push_plain _ _) (rs.mono (Ext.push _ _).keq fun b hb q => ?_)
  · cases e : s.heap.get? g.objs.size with
    | none => rfl
    | some o => rw [x _ _ e] at hn; cases hn
  · rcases q with q | rfl
    · exact q
    · rw [hn] at hb; cases hb
end Mine
end
section
open PySem PySem.W PyProof.Rows PySem.Calls
set_option maxRecDepth 10000
namespace Mine

variable {c : Cx} {ρ : Loc}

theorem sz_line {n : Nat} (h : n ≤ 100000) : n ≤ sizeLine := Nat.le_trans h (by decide)

-- items
theorem Ev.item {value slice : Expr} {pos : Pos} {ds : List D} {i : Int} {d : D} (h1 : EvSeq c ρ value ds) (h2 : Ev c ρ slice (.int i)) (h0 : 0 ≤ i) (hi : i < 100000) (hd : ds[i.toNat]? = some d)
    (hs : ∀ o i, subscripted slice false o i = operate [o, i] (getItem o i) := by intro _ _; rfl) : Ev c ρ (.Subscript value slice pos) d := by
  intro s Q E F h
  refine Subscript_ (h1 s _ _ F fun a vs g t x p rs => h2 _ _ _ (F.ext x) fun v g' t' x' r => ?_)
  cases r
  have rs' := rs.ext x'
  obtain ⟨v, hv, r⟩ := rs'.get hd
  have hl := (PL.ext p x').isList
  exact tail_any hl.typeIs slot_list_getitem.lookup (wpAny_getItem_list hl h0 (by omega) (by simpa using hv) (h v g' t' (x.trans x') r)) (hs _ _)
theorem Ev.itemNeg {value slice : Expr} {pos : Pos} {ds : List D} {i : Int} {d : D} (h1 : EvSeq c ρ value ds) (h2 : Ev c ρ slice (.int i)) (h0 : i < 0) (hi : -(ds.length : Int) ≤ i) (hz : ds.length ≤ 100000) (hd : ds[(i + ds.length).toNat]? = some d)
    (hs : ∀ o i, subscripted slice false o i = operate [o, i] (getItem o i) := by intro _ _; rfl) : Ev c ρ (.Subscript value slice pos) d := by
  intro s Q E F h
  refine Subscript_ (h1 s _ _ F fun a vs g t x p rs => h2 _ _ _ (F.ext x) fun v g' t' x' r => ?_)
  cases r
  have rs' := rs.ext x'
  obtain ⟨v, hv, r⟩ := rs'.get hd
  have hl := (PL.ext p x').isList
  have hlen := rs.length
  exact tail_any hl.typeIs slot_list_getitem.lookup (wpAny_getItem_list_neg hl h0 (by simp; omega) (by omega) (by simpa [hlen] using hv) (h v g' t' (x.trans x') r)) (hs _ _)
theorem Ev.itemT {value slice : Expr} {pos : Pos} {ds : List D} {i : Int} {d : D} (h1 : Ev c ρ value (.tup ds)) (h2 : Ev c ρ slice (.int i)) (h0 : 0 ≤ i) (hi : i < 100000) (hd : ds[i.toNat]? = some d)
    (hs : ∀ o i, subscripted slice false o i = operate [o, i] (getItem o i) := by intro _ _; rfl) : Ev c ρ (.Subscript value slice pos) d := by
  intro s Q E F h
  refine Subscript_ (h1 s _ _ F fun a g t x p => h2 _ _ _ (F.ext x) fun v g' t' x' r => ?_)
  cases r
  cases p with
  | tup na p rs =>
  rename_i vs
  have rs' := rs.ext x'
  obtain ⟨v, hv, r⟩ := rs'.get hd
  have ht : g'.IsTuple _ vs.toArray := isTuple_keq p x'.keq na
  have hlen := rs.length
  have hlt : i.toNat < vs.length := by
    rw [hlen]
    rcases Nat.lt_or_ge i.toNat ds.length with q | q
    · exact q
    · rw [List.getElem?_eq_none q] at hd; cases hd
  refine item_tupleT (l := vs) (j := i.toNat) ht (by omega) (by omega) ?_ hv (h v g' t' (x.trans x') r) (hs _ _)
  unfold seqIndex?
  simp only []
  first
    | (rw [if_neg (by omega)]; rw [if_pos (by omega)])
    | (rw [if_neg (by omega), if_neg (by omega)])
    | (simp; omega)

-- calls of built-ins by name
noncomputable def PlainArgs (pos : Pos) (args : List Expr) (env : Env) : Prop := ∃ x rest, backTo pos (starEach args env) = (false, x) :: rest ∧ (backTo pos (starEach args env)).any (·.1) = false

theorem ev_glob {x : Str} {pos : Pos} {v : Value} {s : Shared} {Q : Value → Shared → Prop} {E : Value → Shared → Prop} (F : FS c ρ s.heap) (k : Nat) (hk : c.gs[k]? = some x) (hv : c.W.mg x = some v) (h : Q v s) :
    wpAny (model c.W.prog c.W.w) c.A (eval (.Name x pos) c.env) Q E s := by
  refine Name_function_global F.ok.kind (F.ok.globs k x hk) (loadGlobal_global ?_ hv h) (F.ok.nodb x (.inr (List.mem_of_getElem? hk)))
  rw [F.ok.gl]; exact F.g.1
theorem ev_globB {x : Str} {pos : Pos} {v : Value} {s : Shared} {Q : Value → Shared → Prop} {E : Value → Shared → Prop} (F : FS c ρ s.heap) (k : Nat) (hk : c.gs[k]? = some x) (hn : c.W.mg x = none) (hv : c.W.mb x = some v) (h : Q v s) :
    wpAny (model c.W.prog c.W.w) c.A (eval (.Name x pos) c.env) Q E s := by
  refine Name_function_global F.ok.kind (F.ok.globs k x hk) (loadGlobal_builtin ?_ hn ?_ hv h) (F.ok.nodb x (.inr (List.mem_of_getElem? hk)))
  · rw [F.ok.gl]; exact F.g.1
  · rw [F.ok.bi]; exact F.g.2.1

theorem call_by {f : Value} {pos : Pos} {args : List Expr} {s : Shared} {Q : Value → Shared → Prop} {E : Value → Shared → Prop} (hp : PlainArgs pos args c.env)
    (hf : (∃ id, f = .builtin id) ∨ (∃ T, f = .type T)) (h : wpAny (model c.W.prog c.W.w) c.A (spliced (backTo pos (starEach args c.env))) (fun vs s₁ => wpAny (model c.W.prog c.W.w) c.A (call f vs) Q E s₁) E s) :
    wpAny (model c.W.prog c.W.w) c.A (callWith pos f [] (backTo pos (starEach args c.env)) []) Q E s := by
  obtain ⟨x, rest, e, ha⟩ := hp
  rcases hf with ⟨id, rfl⟩ | ⟨T, rfl⟩
  · refine callWith_builtin ha ?_
    rw [e] at h ⊢
    exact evalArgs_plain h
  · refine PySem.callWith_type ha ?_
    rw [e] at h ⊢
    exact evalArgs_plain h

/-- a built-in, by name: what it stands for -/
structure Blt (W : Wd) (x : Str) (v : Value) : Prop where
  miss : W.mg x = none
  hit : W.mb x = some v
  kind : (∃ id, v = .builtin id) ∨ (∃ T, v = .type T)

theorem ev_callB (k : Nat) {x : Str} {np pos : Pos} {args : List Expr} {v : Value} {ds : List D} {s : Shared} {Q : Value → Shared → Prop} {E : Value → Shared → Prop} (F : FS c ρ s.heap) (hk : c.gs[k]? = some x) (hb : Blt c.W x v) (hp : PlainArgs pos args c.env)
    (ha : EvL c ρ pos args ds) (h : ∀ vs h' tk, Ext s.heap h' → Reps c.W (Pv c ρ) h' vs ds → wpAny (model c.W.prog c.W.w) c.A (call v vs) Q E (after s h' tk)) :
    wpAny (model c.W.prog c.W.w) c.A (eval (.Call (.Name x np) args [] pos) c.env) Q E s := by
  refine wpAny_Call_ofName (ev_globB F k hk hb.miss hb.hit ?_)
  exact call_by hp hb.kind (ha s _ _ F fun vs g t x rs => h vs g t x rs)

/-- the same with one argument, a list -/
theorem ev_callS (k : Nat) {x : Str} {np pos : Pos} {e : Expr} {v : Value} {ds : List D} {s : Shared} {Q : Value → Shared → Prop} {E : Value → Shared → Prop} (F : FS c ρ s.heap) (hk : c.gs[k]? = some x) (hb : Blt c.W x v)
    (he : starEach [e] c.env = [(false, eval e c.env)]) (ha : EvSeq c ρ e ds)
    (h : ∀ a vs h' tk, Ext s.heap h' → h'.PlainList a vs.toArray → Reps c.W (Pv c ρ) h' vs ds → wpAny (model c.W.prog c.W.w) c.A (call v [.ref a]) Q E (after s h' tk)) :
    wpAny (model c.W.prog c.W.w) c.A (eval (.Call (.Name x np) [e] [] pos) c.env) Q E s := by
  refine wpAny_Call_ofName (ev_globB F k hk hb.miss hb.hit ?_)
  refine call_by ⟨eval e c.env, [], by rw [he]; rfl, by rw [he]; rfl⟩ hb.kind ?_
  rw [he]
  exact spliced_cons (ha s _ _ F fun a vs g t x p rs => spliced_nil (h a vs g t x p rs))

theorem Ev.len (k : Nat) {np pos : Pos} {e : Expr} {ds : List D} (hk : c.gs[k]? = some ("len" : Str)) (hb : Blt c.W "len" (.builtin "len")) (ha : EvSeq c ρ e ds) (hz : ds.length ≤ 100000)
    (he : starEach [e] c.env = [(false, eval e c.env)] := by rfl) : Ev c ρ (.Call (.Name "len" np) [e] [] pos) (.int ds.length) := by
  intro s Q E F h
  refine ev_callS k F hk hb he ha fun a vs g t x p rs => ?_
  have hlen := rs.length
  refine call_len_list p.isList (by simp; omega) ?_
  have : ((vs.toArray.size : Nat) : Int) = (ds.length : Int) := by simp [hlen]
  rw [this]
  exact h _ g _ x (.int _ _)
theorem Ev.lenT (k : Nat) {np pos : Pos} {e : Expr} {ds : List D} (hk : c.gs[k]? = some ("len" : Str)) (hb : Blt c.W "len" (.builtin "len")) (ha : Ev c ρ e (.tup ds)) (hz : ds.length ≤ 100000)
    (he : starEach [e] c.env = [(false, eval e c.env)] := by rfl) : Ev c ρ (.Call (.Name "len" np) [e] [] pos) (.int ds.length) := by
  intro s Q E F h
  refine ev_callB (ds := [.tup ds]) k F hk hb ⟨eval e c.env, [], by rw [he]; rfl, by rw [he]; rfl⟩ (EvL.cons ha EvL.nil he) fun vs g t x rs => ?_
  cases rs with
  | cons r rs =>
  cases rs
  cases r with
  | tup na p rs =>
  rename_i vs
  have hlen := rs.length
  refine len_tuple p (by simp; omega) ?_
  have : ((vs.toArray.size : Nat) : Int) = (ds.length : Int) := by simp [hlen]
  rw [this]
  exact h _ g _ x (.int _ _)

theorem Ev.abs (k : Nat) {np pos : Pos} {e : Expr} {i : Int} (hk : c.gs[k]? = some ("abs" : Str)) (hb : Blt c.W "abs" (.builtin "abs")) (ha : Ev c ρ e (.int i))
    (he : starEach [e] c.env = [(false, eval e c.env)] := by rfl) : Ev c ρ (.Call (.Name "abs" np) [e] [] pos) (.int (i.natAbs : Int)) := by
  intro s Q E F h
  refine ev_callB (ds := [.int i]) k F hk hb ⟨eval e c.env, [], by rw [he]; rfl, by rw [he]; rfl⟩ (EvL.cons ha EvL.nil he) fun vs g t x rs => ?_
  cases rs with
  | cons r rs =>
  cases rs; cases r
  refine call_abs_int fun u tk => ?_
  have : (if i < 0 then -i else i) = (i.natAbs : Int) := by split <;> omega
  rw [this]
  exact h _ g _ x (.int _ _)
theorem Ev.intc (k : Nat) {np pos : Pos} {e : Expr} {i : Int} (hk : c.gs[k]? = some ("int" : Str)) (hb : Blt c.W "int" (.type "int")) (ha : Ev c ρ e (.int i))
    (he : starEach [e] c.env = [(false, eval e c.env)] := by rfl) : Ev c ρ (.Call (.Name "int" np) [e] [] pos) (.int i) := by
  intro s Q E F h
  refine ev_callB (ds := [.int i]) k F hk hb ⟨eval e c.env, [], by rw [he]; rfl, by rw [he]; rfl⟩ (EvL.cons ha EvL.nil he) fun vs g t x rs => ?_
  cases rs with
  | cons r rs =>
  cases rs; cases r
  exact call_int_int (h _ g _ x (.int _ _))
theorem Ev.max3 (k : Nat) {np pos : Pos} {e₁ e₂ e₃ : Expr} {i j l : Int} (hk : c.gs[k]? = some ("max" : Str)) (hb : Blt c.W "max" (.builtin "max"))
    (he : starEach [e₁, e₂, e₃] c.env = [(false, eval e₁ c.env), (false, eval e₂ c.env), (false, eval e₃ c.env)] := by rfl)
    (ha : EvL c ρ pos [e₁, e₂, e₃] [.int i, .int j, .int l]) : Ev c ρ (.Call (.Name "max" np) [e₁, e₂, e₃] [] pos) (.int (max i (max j l))) := by
  intro s Q E F h
  refine ev_callB (ds := [.int i, .int j, .int l]) k F hk hb ⟨eval e₁ c.env, _, by rw [he]; rfl, by rw [he]; rfl⟩ ha fun vs g t x rs => ?_
  cases rs with
  | cons r₁ rs =>
  cases rs with
  | cons r₂ rs =>
  cases rs with
  | cons r₃ rs =>
  cases rs; cases r₁; cases r₂; cases r₃
  refine max_three_ints F.ok.room.1 fun h' tk hk => ?_
  have fin : ∀ t, Q (.int (max i (max j l)) t) (after s h' tk) := fun t => h _ h' tk (x.trans hk) (.int _ _)
  split
  · split
    · have := fin; simp only [show max i (max j l) = l by omega] at this; exact this _
    · have := fin; simp only [show max i (max j l) = j by omega] at this; exact this _
  · split
    · have := fin; simp only [show max i (max j l) = l by omega] at this; exact this _
    · have := fin; simp only [show max i (max j l) = i by omega] at this; exact this _

/-- a fresh list -/
theorem fresh_of {h h' : Heap} (x : Ext h h') : h.get? h'.objs.size = none := by
  cases e : h.get? h'.objs.size with
  | none => rfl
  | some o => exact absurd (x.size e) (Nat.lt_irrefl _)
theorem reps_own {W : Wd} {av : Addr → Prop} {h h' : Heap} {a : Addr} {vs : List Value} {ds : List D} (r : Reps W av h vs ds) (x : Ext h h') (hn : h.get? a = none) : Reps W (fun b => av b ∨ b = a) h' vs ds :=
  r.mono x.keq fun b hb q => by
    rcases q with q | rfl
    · exact q
    · rw [hn] at hb; cases hb

theorem EvO.listT (k : Nat) {np pos : Pos} {e : Expr} {ds : List D} (hk : c.gs[k]? = some ("list" : Str)) (hb : Blt c.W "list" (.type "list")) (ha : Ev c ρ e (.tup ds)) (hz : ds.length ≤ 100000)
    (he : starEach [e] c.env = [(false, eval e c.env)] := by rfl) : EvO c ρ (.Call (.Name "list" np) [e] [] pos) ds := by
  intro s Q E F h
  refine ev_callB (ds := [.tup ds]) k F hk hb ⟨eval e c.env, [], by rw [he]; rfl, by rw [he]; rfl⟩ (EvL.cons ha EvL.nil he) fun vs g t x rs => ?_
  cases rs with
  | cons r rs =>
  cases rs
  cases r with
  | tup na p rs =>
  rename_i vs
  have hlen := rs.length
  obtain ⟨o, ho, hc, n, hd⟩ := p
  refine call_list_seq _ (.inr rfl) ho hc hd (fun h' c' hk' hD => ?_) (sz_line (by simp; omega))
  exact h g.objs.size vs h' t (x.trans hk') (fresh_of x) ⟨c', hD⟩ (reps_own rs hk' (get?_size g))

theorem EvO.cat {l r : Expr} {pos : Pos} {d₁ d₂ : List D} (h1 : EvSeq c ρ l d₁) (h2 : EvSeq c ρ r d₂) (hz : d₁.length + d₂.length ≤ 100000) : EvO c ρ (.BinOp l .Add r pos) (d₁ ++ d₂) := by
  intro s Q E F h
  refine wpAny_BinOp (h1 s _ _ F fun a vs g t x p rs => h2 _ _ _ (F.ext x) fun b ws g' t' x' p' rs' => ?_)
  have p₁ := PL.ext p x'
  obtain ⟨n, ho⟩ := p₁
  obtain ⟨n2, ho2⟩ := p'
  have e : vs.toArray ++ ws.toArray = (vs ++ ws).toArray := by simp
  have l1 := rs.length
  have l2 := rs'.length
  refine concat_meets (s := after s g' t') ⟨_, ho, rfl⟩ ⟨_, ho2, rfl⟩ noFill_list_add seq_list_add PySem.F.slot_list_add PySem.F.entry_list_add (PySem.F.args_list_add_2 _ _) (list_addW a b vs.toArray ws.toArray n n2 none none #[] #[] (sz_line (by simp; omega))) ⟨ho, ho2, ?_⟩
  rw [e]
  exact h g'.objs.size (vs ++ ws) _ t' ((x.trans x').trans (Ext.push _ _)) (fresh_of (x.trans x')) (push_plain _ _) (reps_own ((rs.ext x').append rs') (Ext.push _ _) (get?_size _))

theorem flat_rep {α : Type} (x : α) : ∀ n : Nat, (List.replicate n [x]).flatten = List.replicate n x
  | 0 => rfl
  | n + 1 => by rw [List.replicate_succ, List.flatten_cons, flat_rep x n]; rfl
theorem fold_app {α : Type} (x : α) : ∀ (n : Nat) (acc : List α), List.foldl (fun x1 x2 => x1 ++ x2) acc.toArray (List.replicate n #[x]) = (acc ++ List.replicate n x).toArray
  | 0, acc => by simp
  | n + 1, acc => by
    rw [List.replicate_succ, List.foldl_cons]
    have : acc.toArray ++ #[x] = (acc ++ [x]).toArray := by simp
    rw [this, fold_app x n, List.replicate_succ]
    simp
theorem Reps.replicate {W : Wd} {av : Addr → Prop} {h : Heap} {v : Value} {d : D} (r : Rep W av h v d) : ∀ n : Nat, Reps W av h (List.replicate n v) (List.replicate n d)
  | 0 => .nil
  | n + 1 => .cons r (Reps.replicate r n)
theorem EvO.rep {l r : Expr} {pos : Pos} {d : D} {i : Int} (h1 : EvSeq c ρ l [d]) (h2 : Ev c ρ r (.int i)) (h0 : 0 ≤ i) (hz : i ≤ 100000) : EvO c ρ (.BinOp l .Mult r pos) (List.replicate i.toNat d) := by
  intro s Q E F h
  refine wpAny_BinOp (h1 s _ _ F fun a vs g t x p rs => h2 _ _ _ (F.ext x) fun v g' t' x' r' => ?_)
  cases r' with
  | int _ u =>
  cases rs with
  | cons r rs =>
  cases rs
  rename_i v
  obtain ⟨m, hm⟩ := (F.ext (x.trans x')).ns
  have p₁ := PL.ext p x'
  obtain ⟨k, hl⟩ := p₁
  refine wpAny_binaryOp_repeat_ref (s := after s g' t') (T := "list") (U := "int") (by decide) ⟨_, hl, rfl⟩ (fun s' => typeIs_int s' i u) noFill_list_mul PySem.F.fills_int_mul PySem.F.slot_int_rmul repeat_list PySem.F.slot_int_index.lookup
    (call_meets PySem.F.slot_int_rmul (typeIs_int _ i u) PySem.F.entry_int_rmul (PySem.F.args_int_rmul_2 _ _) (int___rmul___int_list i u a [v].toArray k)
      ⟨hl, rfl, ⟨_, hl, rfl⟩, call_meets PySem.F.slot_list_mul ⟨_, hl, rfl⟩ PySem.F.entry_list_mul (PySem.F.args_list_mul_2 _ _)
        (AutoListH.list___mul___list_int_3 a [v].toArray k i u (by simp [Builtin.List.listFitsIndex]; omega) (by simp; omega) (by simp [Builtin.List.listTooLong, sizeLine]; omega))
        ⟨hl, ?_⟩⟩)
  have e : List.foldl (fun x1 x2 => x1 ++ x2) #[] (List.replicate (if ([v].toArray).isEmpty = true then 0 else i.toNat) [v].toArray) = (List.replicate i.toNat v).toArray := by
    have := fold_app v i.toNat []
    simpa using this
  have e' := e
  show Q _ _
  have q := h g'.objs.size (List.replicate i.toNat v) _ t' ((x.trans x').trans (Ext.push _ { cls := .type "list", data := .seq (List.replicate i.toNat v).toArray })) (fresh_of (x.trans x')) (push_plain _ _) (reps_own (Reps.replicate (r.ext x') i.toNat) (Ext.push _ _) (get?_size _))
  rw [← e'] at q
  exact q
end Mine
end
section
open PySem PySem.W PyProof.Rows PySem.Calls
set_option maxRecDepth 10000
namespace Mine

variable {c : Cx} {ρ : Loc}

-- slices
theorem pick_nat (vs : List Value) (a b : Nat) : slicePick vs.toArray (some (a : Int)) (some (b : Int)) none = ((vs.take b).drop a).toArray := by
  rw [slicePick_plain]
  simp only [Option.elim, clipAt_nat, List.size_toArray]
  congr 1
  rw [List.drop_take]
  rcases Nat.le_total a vs.length with h | h
  · rw [Nat.min_eq_left h]
    rcases Nat.le_total b vs.length with h' | h'
    · rw [Nat.min_eq_left h']
    · rw [Nat.min_eq_right h', List.take_of_length_le (by simp), List.take_of_length_le (by simp; omega)]
  · rw [Nat.min_eq_right h, List.drop_of_length_le (by simp), List.drop_of_length_le (by simpa using h)]
    simp

theorem slice_core {value : Expr} {lower upper : Option Expr} {p pos : Pos} {ds es : List D} (h1 : EvSeq c ρ value ds) (hz : ds.length ≤ 100000) (lo hi : Option Int)
    (hl : ∀ (s : Shared) (Q : Value → Shared → Prop) (E : Value → Shared → Prop), FS c ρ s.heap → (∀ v h' tk, Ext s.heap h' → IsPart v lo → Q v (after s h' tk)) → wpAny (model c.W.prog c.W.w) c.A (evalPart lower c.env) Q E s)
    (hu : ∀ (s : Shared) (Q : Value → Shared → Prop) (E : Value → Shared → Prop), FS c ρ s.heap → (∀ v h' tk, Ext s.heap h' → IsPart v hi → Q v (after s h' tk)) → wpAny (model c.W.prog c.W.w) c.A (evalPart upper c.env) Q E s)
    (he : ∀ (vs : List Value) (h : Heap) (av : Addr → Prop), Reps c.W av h vs ds → ∃ ws : List Value, slicePick vs.toArray lo hi none = ws.toArray ∧ Reps c.W av h ws es)
    (ht : ∀ o r, letTemporaryGo value o r = pure () := by intro _ _; rfl) : EvO c ρ (.Subscript value (.Slice lower upper none p) pos) es := by
  intro s Q E F h
  refine wpAny_Subscript_list_slice (h1 s _ _ F fun a vs g t x pl rs => hl _ _ _ (F.ext x) fun vl g₂ t₂ x₂ pl₂ => hu _ _ _ ((F.ext x).ext x₂) fun vu g₃ t₃ x₃ pl₃ => ?_) ht
  have p' := PL.ext pl (x₂.trans x₃)
  have rs' := rs.ext (x₂.trans x₃)
  obtain ⟨ws, e, rw'⟩ := he vs g₃ _ rs'
  have hlen := rs.length
  refine ⟨a, vs.toArray, lo, hi, rfl, p'.isList, sz_line (by simp; omega), pl₂, pl₃, ?_⟩
  rw [e]
  let gs := g₃.push { cls := .type "slice", data := .fields #[vl, vu, .none] }
  have hs : gs.objs.size = g₃.objs.size + 1 := Heap.size_push ..
  have x₄ : Ext s.heap gs := (x.trans (x₂.trans x₃)).trans (Ext.push _ _)
  have q := h gs.objs.size ws (gs.push { cls := .type "list", data := .seq ws.toArray }) t₃ (x₄.trans (Ext.push _ _)) (fresh_of x₄) (push_plain _ _) (reps_own (rw'.ext (Ext.push _ _)) (Ext.push _ _) (get?_size gs))
  rw [hs] at q
  exact q

theorem part_int {e : Expr} {i : Int} (h : Ev c ρ e (.int i)) (s : Shared) (Q : Value → Shared → Prop) (E : Value → Shared → Prop) (F : FS c ρ s.heap) (hQ : ∀ v h' tk, Ext s.heap h' → IsPart v (some i) → Q v (after s h' tk)) :
    wpAny (model c.W.prog c.W.w) c.A (evalPart (some e) c.env) Q E s :=
  wpAny_evalPart_some (h s _ _ F fun v g t x r => by cases r; exact hQ _ g t x (.int _ _))
theorem part_none (s : Shared) (Q : Value → Shared → Prop) (E : Value → Shared → Prop) (_ : FS c ρ s.heap) (hQ : ∀ v h' tk, Ext s.heap h' → IsPart v none → Q v (after s h' tk)) :
    wpAny (model c.W.prog c.W.w) c.A (evalPart none c.env) Q E s :=
  wpAny_evalPart_none (hQ _ s.heap s.toks (Ext.refl _) .none)

theorem EvO.upto {value e : Expr} {p pos : Pos} {ds : List D} {i : Int} (h1 : EvSeq c ρ value ds) (h2 : Ev c ρ e (.int i)) (h0 : 0 ≤ i) (hz : ds.length ≤ 100000) (ht : ∀ o r, letTemporaryGo value o r = pure () := by intro _ _; rfl) :
    EvO c ρ (.Subscript value (.Slice none (some e) none p) pos) (ds.take i.toNat) := by
  obtain ⟨n, rfl⟩ := Int.eq_ofNat_of_zero_le h0
  refine slice_core h1 hz none (some (n : Int)) part_none (part_int h2) (fun vs h av r => ⟨vs.take n, by rw [slicePick_upto'], ?_⟩) ht
  exact r.take n
theorem EvO.from {value e : Expr} {p pos : Pos} {ds : List D} {i : Int} (h1 : EvSeq c ρ value ds) (h2 : Ev c ρ e (.int i)) (h0 : 0 ≤ i) (hz : ds.length ≤ 100000) (ht : ∀ o r, letTemporaryGo value o r = pure () := by intro _ _; rfl) :
    EvO c ρ (.Subscript value (.Slice (some e) none none p) pos) (ds.drop i.toNat) := by
  obtain ⟨n, rfl⟩ := Int.eq_ofNat_of_zero_le h0
  refine slice_core h1 hz (some (n : Int)) none (part_int h2) part_none (fun vs h av r => ⟨vs.drop n, by rw [slicePick_from'], ?_⟩) ht
  exact r.drop n
theorem EvO.run {value e f : Expr} {p pos : Pos} {ds : List D} {i j : Int} (h1 : EvSeq c ρ value ds) (h2 : Ev c ρ e (.int i)) (h3 : Ev c ρ f (.int j)) (h0 : 0 ≤ i) (h0' : 0 ≤ j) (hz : ds.length ≤ 100000) (ht : ∀ o r, letTemporaryGo value o r = pure () := by intro _ _; rfl) :
    EvO c ρ (.Subscript value (.Slice (some e) (some f) none p) pos) ((ds.take j.toNat).drop i.toNat) := by
  obtain ⟨n, rfl⟩ := Int.eq_ofNat_of_zero_le h0
  obtain ⟨m, rfl⟩ := Int.eq_ofNat_of_zero_le h0'
  refine slice_core h1 hz (some (n : Int)) (some (m : Int)) (part_int h2) (part_int h3) (fun vs h av r => ⟨(vs.take m).drop n, pick_nat vs n m, ?_⟩) ht
  exact (r.take m).drop n
theorem EvO.copy {value : Expr} {p pos : Pos} {ds : List D} (h1 : EvSeq c ρ value ds) (hz : ds.length ≤ 100000) (ht : ∀ o r, letTemporaryGo value o r = pure () := by intro _ _; rfl) :
    EvO c ρ (.Subscript value (.Slice none none none p) pos) ds :=
  slice_core h1 hz none none part_none part_none (fun vs h av r => ⟨vs, slicePick_all _, r⟩) ht

theorem EvO.rev {value e : Expr} {p pos : Pos} {ds : List D} (h1 : EvSeq c ρ value ds) (h2 : Ev c ρ e (.int (-1))) (hz : ds.length ≤ 100000) (ht : ∀ o r, letTemporaryGo value o r = pure () := by intro _ _; rfl) :
    EvO c ρ (.Subscript value (.Slice none none (some e) p) pos) ds.reverse := by
  intro s Q E F h
  refine Subscript_ (h1 s _ _ F fun a vs g t x pl rs => ?_)
  refine wpAny_Slice (part_none _ _ _ (F.ext x) fun vl g₁ t₁ x₁ q₁ => part_none _ _ _ ((F.ext x).ext x₁) fun vu g₂ t₂ x₂ q₂ => part_int h2 _ _ _ (((F.ext x).ext x₁).ext x₂) fun v g₃ t₃ x₃ q₃ => ?_)
  have xx : Ext g g₃ := (x₁.trans x₂).trans x₃
  have x₄ := xx.trans (Ext.push g₃ { cls := .type "slice", data := .fields #[vl, vu, v] })
  have p' := PL.ext pl x₄
  have rs' := rs.ext x₄
  have hlen := rs.length
  have hsl : (g₃.push { cls := .type "slice", data := .fields #[vl, vu, v] }).IsSliceOf g₃.objs.size vl vu v := ⟨_, Heap.get?_push_size _ rfl, rfl, rfl⟩
  refine tail_any (ops := [.ref a, .ref g₃.objs.size]) p'.isList.typeIs slot_list_getitem.lookup (wpAny_getItem_list_slice p'.isList hsl q₁ q₂ q₃ (by decide) ?_ (sz_line (by simp; omega))) rfl
  have e : slicePick vs.toArray none none (some (-1)) = vs.reverse.toArray := krv_pick vs.toArray
  rw [e]
  exact h _ vs.reverse _ t₃ ((x.trans x₄).trans (Ext.push _ _)) (fresh_of (x.trans x₄)) (push_plain _ _) (reps_own rs'.reverse (Ext.push _ _) (get?_size _))

theorem Ev.bitlen {o : Expr} {apos pos : Pos} {i : Int} (h1 : Ev c ρ o (.int i)) (hbase : attributeBase o "bit_length" c.env (eval o c.env) = eval o c.env := by rfl) (hline : (apos.endLine == pos.line) = true := by rfl) :
    Ev c ρ (.Call (.Attribute o "bit_length" apos) [] [] pos) (.int (Builtin.Int.intBits i)) := by
  intro s Q E F h
  refine wpAny_Call_method0_late hbase hline (h1 s _ _ F fun v g t x r => ?_)
  cases r
  refine ⟨"int", "int.bit_length", PySem.F.plainAttrs_int, PyProof.Rows.slot_int_bit_length, PyProof.Rows.type_int_bit_length, rfl, ?_, ?_⟩
  · intro a e; cases e
  · exact callWith_builtin rfl (PyProof.Rows.evalArgs_none (call_int_bit_length (h _ _ _ x (.int _ _))))
end Mine
end
section
open PySem PySem.W PyProof.Rows PySem.Calls
set_option maxRecDepth 10000
namespace Mine

variable {c : Cx} {ρ : Loc}

inductive Out where
  | next (ρ : Loc) | cont (ρ : Loc) | brk (ρ : Loc) | ret (d : D)

noncomputable def Priv (c : Cx) (ρ : Loc) (b : Addr) : Prop := b = c.env.locals ∨ (∃ n, c.env.cells.lookup n = some b) ∨ Own ρ b
noncomputable def Pres (c : Cx) (ρ : Loc) (h h' : Heap) : Prop := ∀ b o, h.get? b = some o → ¬ Priv c ρ b → h'.get? b = some o
noncomputable def OwnSub (h : Heap) (ρ ρ' : Loc) : Prop := ∀ a, Own ρ' a → Own ρ a ∨ h.get? a = none
noncomputable def Post (c : Cx) (ρ : Loc) (h : Heap) (fl : Flow) (h' : Heap) : Out → Prop
  | .next ρ' => fl = .next ∧ FS c ρ' h' ∧ OwnSub h ρ ρ'
  | .cont ρ' => fl = .cont ∧ FS c ρ' h' ∧ OwnSub h ρ ρ'
  | .brk ρ' => fl = .brk ∧ FS c ρ' h' ∧ OwnSub h ρ ρ'
  | .ret d => ∃ v, fl = .ret v ∧ Rep c.W c.av h' v d

noncomputable def ExS (c : Cx) (ρ : Loc) (st : Stmt) (Φ : Out → Prop) : Prop :=
  ∀ (s : Shared) (Q : Flow → Shared → Prop) (E : Value → Shared → Prop), c.fn = true → FS c ρ s.heap →
    (∀ fl o h' tk, Φ o → Pres c ρ s.heap h' → Post c ρ s.heap fl h' o → Q fl (after s h' tk)) → wpAny (model c.W.prog c.W.w) c.A (exec st c.env) Q E s
noncomputable def Ex (c : Cx) (ρ : Loc) (sts : List Stmt) (Φ : Out → Prop) : Prop :=
  ∀ (s : Shared) (Q : Flow → Shared → Prop) (E : Value → Shared → Prop), c.fn = true → FS c ρ s.heap →
    (∀ fl o h' tk, Φ o → Pres c ρ s.heap h' → Post c ρ s.heap fl h' o → Q fl (after s h' tk)) → wpAny (model c.W.prog c.W.w) c.A (execs sts c.env) Q E s

theorem Ext.pres {h h' : Heap} (x : Ext h h') : Pres c ρ h h' := fun b o e _ => x b o e
theorem OwnSub.refl (h : Heap) (ρ : Loc) : OwnSub h ρ ρ := fun _ o => .inl o
theorem Pres.trans {ρ' : Loc} {h h' h'' : Heap} (p : Pres c ρ h h') (os : OwnSub h ρ ρ') (q : Pres c ρ' h' h'') : Pres c ρ h h'' := fun b o e n =>
  q b o (p b o e n) fun r => by
    rcases r with r | r | r
    · exact n (.inl r)
    · exact n (.inr (.inl r))
    · rcases os b r with z | z
      · exact n (.inr (.inr z))
      · rw [e] at z; cases z
theorem OwnSub.trans {ρ' ρ'' : Loc} {h h' : Heap} (hf : c.fn = true) (F : FS c ρ' h') (p : Pres c ρ h h') (a : OwnSub h ρ ρ') (b : OwnSub h' ρ' ρ'') : OwnSub h ρ ρ'' := fun x o => by
  rcases b x o with z | z
  · exact a x z
  · cases e : h.get? x with
    | none => exact .inr rfl
    | some ob =>
      by_cases hp : Priv c ρ x
      · rcases hp with rfl | ⟨n, hm⟩ | hp
        · obtain ⟨m, oL, _, _, hL, _⟩ := F.ns
          rw [hL] at z; cases z
        · obtain ⟨v, oc, hc, _⟩ := F.cells hf n x hm
          rw [hc] at z; cases z
        · exact .inl hp
      · rw [p x ob e hp] at z; cases z

theorem Post.trans {ρ' : Loc} {h h' h'' : Heap} {fl : Flow} {o : Out} (hf : c.fn = true) (F : FS c ρ' h') (p : Pres c ρ h h') (a : OwnSub h ρ ρ') (q : Post c ρ' h' fl h'' o) : Post c ρ h fl h'' o := by
  cases o with
  | next ρ'' => exact ⟨q.1, q.2.1, a.trans hf F p q.2.2⟩
  | cont ρ'' => exact ⟨q.1, q.2.1, a.trans hf F p q.2.2⟩
  | brk ρ'' => exact ⟨q.1, q.2.1, a.trans hf F p q.2.2⟩
  | ret d => exact q

/-- what comes behind a statement -/
noncomputable def Cont (c : Cx) (rest : List Stmt) (Φ : Out → Prop) : Out → Prop
  | .next ρ' => Ex c ρ' rest Φ
  | o => Φ o

theorem Ex.nil {Φ : Out → Prop} (h : Φ (.next ρ)) : Ex c ρ [] Φ := fun s Q E _ F hQ =>
  wpAny_execs_nil (hQ _ _ s.heap s.toks h (Ext.refl _).pres ⟨rfl, F, OwnSub.refl _ _⟩)
theorem Ex.cons {st : Stmt} {rest : List Stmt} {Φ : Out → Prop} (h : ExS c ρ st (Cont c rest Φ)) : Ex c ρ (st :: rest) Φ := by
  intro s Q E hf F hQ
  refine wpAny_execs_cons (h s _ _ hf F fun fl o h' tk ho hp hP => ?_)
  cases o with
  | next ρ' =>
    obtain ⟨rfl, F', os⟩ := hP
    exact ho _ _ _ hf F' fun fl o h'' tk' ho' hp' hP' => hQ fl o h'' tk' ho' (hp.trans os hp') (hP'.trans hf F' hp os)
  | cont ρ' =>
    have := hP.1; subst this
    exact hQ _ _ h' tk ho hp hP
  | brk ρ' =>
    have := hP.1; subst this
    exact hQ _ _ h' tk ho hp hP
  | ret d =>
    obtain ⟨v, rfl, r⟩ := hP
    exact hQ _ _ h' tk ho hp ⟨v, rfl, r⟩
theorem Ex.mono {sts : List Stmt} {Φ Ψ : Out → Prop} (h : Ex c ρ sts Φ) (hi : ∀ o, Φ o → Ψ o) : Ex c ρ sts Ψ := fun s Q E hf F hQ => h s Q E hf F fun fl o h' tk ho hp hP => hQ fl o h' tk (hi o ho) hp hP
theorem ExS.mono {st : Stmt} {Φ Ψ : Out → Prop} (h : ExS c ρ st Φ) (hi : ∀ o, Φ o → Ψ o) : ExS c ρ st Ψ := fun s Q E hf F hQ => h s Q E hf F fun fl o h' tk ho hp hP => hQ fl o h' tk (hi o ho) hp hP

-- forgetting
theorem FS.sub {ρ' : Loc} {h : Heap} (F : FS c ρ h) (hs : ∀ (k : Nat) b, ρ'[k]? = some (some b) → ρ[k]? = some (some b)) : FS c ρ' h where
  ok := F.ok
  g := F.g
  av1 := F.av1
  keep := F.keep
  ns := F.ns
  cells := F.cells
  var := fun k x b hk hb => by
    obtain ⟨v, V, H⟩ := F.var k x b hk (hs k b hb)
    exact ⟨v, V, H.mono (Ext.refl _) fun a _ q => by
      rcases q with q | ⟨k', ds, q⟩
      · exact .inl q
      · exact .inr ⟨k', ds, hs _ _ q⟩⟩
  own0 := fun k a ds q => F.own0 k a ds (hs _ _ q)
  ownd := fun k k' a ds ds' q q' => F.ownd k k' a ds ds' (hs _ _ q) (hs _ _ q')
/-- an own list may be held as pure from here on -/
inductive Weak : Loc → Loc → Prop
  | nil : Weak [] []
  | same {b ρ ρ'} : Weak ρ ρ' → Weak (b :: ρ) (b :: ρ')
  | drop {b ρ ρ'} : Weak ρ ρ' → Weak (b :: ρ) (none :: ρ')
  | free {a ds ρ ρ'} : Weak ρ ρ' → Weak (some (.own a ds) :: ρ) (some (.p (.list ds)) :: ρ')
theorem Weak.at : ∀ {ρ ρ' : Loc}, Weak ρ ρ' → ∀ (k : Nat) b, ρ'[k]? = some (some b) → ρ[k]? = some (some b) ∨ ∃ a ds, ρ[k]? = some (some (.own a ds)) ∧ b = .p (.list ds)
  | _, _, .nil, k, b, h => by simp at h
  | _, _, .same w, 0, b, h => .inl h
  | _, _, .same w, k + 1, b, h => w.at k b h
  | _, _, .drop w, 0, b, h => by cases h
  | _, _, .drop w, k + 1, b, h => w.at k b h
  | _, _, .free w, 0, b, h => by cases h; exact .inr ⟨_, _, rfl, rfl⟩
  | _, _, .free w, k + 1, b, h => w.at k b h
theorem Weak.refl : ∀ ρ : Loc, Weak ρ ρ
  | [] => .nil
  | _ :: r => .same (Weak.refl r)
theorem Weak.own {ρ ρ' : Loc} (w : Weak ρ ρ') {a : Addr} (o : Own ρ' a) : Own ρ a := by
  obtain ⟨k, ds, e⟩ := o
  rcases w.at k _ e with q | ⟨a', ds', q, e'⟩
  · exact ⟨k, ds, q⟩
  · cases e'
theorem FS.weak {ρ' : Loc} {h : Heap} (F : FS c ρ h) (w : Weak ρ ρ') : FS c ρ' h where
  ok := F.ok
  g := F.g
  av1 := F.av1
  keep := F.keep
  ns := F.ns
  cells := F.cells
  var := fun k x b hk hb => by
    have ka : ∀ b, (h.get? b).isSome = true → Pv c ρ' b → Pv c ρ b := fun a _ q => by
      rcases q with q | q
      · exact .inl q
      · exact .inr (w.own q)
    rcases w.at k b hb with q | ⟨a, ds, q, rfl⟩
    · obtain ⟨v, V, H⟩ := F.var k x b hk q
      exact ⟨v, V, H.mono (Ext.refl _) ka⟩
    · obtain ⟨v, V, rfl, vs, p, r⟩ := F.var k x _ hk q
      refine ⟨_, V, .list (fun z => ?_) p (r.mono (Ext.refl _).keq ka)⟩
      rcases z with z | ⟨k', ds', z⟩
      · exact (F.own0 k a ds q).2.1 z
      · rcases w.at k' _ z with q' | ⟨a', ds'', q', e'⟩
        · have := F.ownd k k' a ds ds' q q'
          subst this
          rw [z] at hb; cases hb
        · cases e'
  own0 := fun k a ds q => by
    rcases w.at k _ q with q | ⟨_, _, _, e⟩
    · exact F.own0 k a ds q
    · cases e
  ownd := fun k k' a ds ds' q q' => by
    rcases w.at k _ q with q | ⟨_, _, _, e⟩
    · rcases w.at k' _ q' with q' | ⟨_, _, _, e⟩
      · exact F.ownd k k' a ds ds' q q'
      · cases e
    · cases e
theorem Ex.weak {ρ' : Loc} {sts : List Stmt} {Φ : Out → Prop} (w : Weak ρ ρ') (h : Ex c ρ' sts Φ) : Ex c ρ sts Φ := by
  intro s Q E hf F hQ
  have pp : ∀ {h h' : Heap}, Pres c ρ' h h' → Pres c ρ h h' := fun p b o e n => p b o e fun z => by
    rcases z with z | z | z
    · exact n (.inl z)
    · exact n (.inr (.inl z))
    · exact n (.inr (.inr (w.own z)))
  refine h s Q E hf (F.weak w) fun fl o h' tk ho hp hP => hQ fl o h' tk ho (pp hp) ?_
  have os : ∀ {ρ'' : Loc}, OwnSub s.heap ρ' ρ'' → OwnSub s.heap ρ ρ'' := fun a x o => by
    rcases a x o with z | z
    · exact .inl (w.own z)
    · exact .inr z
  cases o with
  | next ρ'' => exact ⟨hP.1, hP.2.1, os hP.2.2⟩
  | cont ρ'' => exact ⟨hP.1, hP.2.1, os hP.2.2⟩
  | brk ρ'' => exact ⟨hP.1, hP.2.1, os hP.2.2⟩
  | ret d => exact hP

-- stores
noncomputable def SeqKeep (h h' : Heap) : Prop := ∀ b o its n, o.data = .seq its n → h.get? b = some o → h'.get? b = some o
theorem SeqKeep.keq {av : Addr → Prop} {h h' : Heap} (k : SeqKeep h h') : Keq av h h' := fun b o its n _ hd e => k b o its n hd e
theorem PL.seqKeep {h h' : Heap} {a : Addr} {its : Array Value} (p : h.PlainList a its) (k : SeqKeep h h') : h'.PlainList a its := by
  obtain ⟨m, e⟩ := p
  exact ⟨m, k a _ _ _ rfl e⟩
theorem IsB.monoS {W : Wd} {av av' : Addr → Prop} {h h' : Heap} {v : Value} {b : B} (H : IsB W av h v b) (e : SeqKeep h h') (ka : ∀ b, (h.get? b).isSome = true → av' b → av b) : IsB W av' h' v b := by
  cases b with
  | p d => exact Rep.mono e.keq ka H
  | own a ds =>
    obtain ⟨rfl, vs, p, r⟩ := H
    exact ⟨rfl, vs, PL.seqKeep p e, r.mono e.keq ka⟩

theorem ns_inj {h : Heap} {L : Addr} {m m' : Str → Option Value} (a : h.Ns L m) (b : h.Ns L m') : m = m' := by
  obtain ⟨o, es, ep, e, hd, _, hf⟩ := a
  obtain ⟨o', es', ep', e', hd', _, hf'⟩ := b
  rw [e] at e'; cases e'
  rw [hd] at hd'; cases hd'
  funext n
  rw [← hf n, ← hf' n]

theorem get_set_ne {ρ : Loc} {k k' : Nat} {b : Option B} (h : k ≠ k') : (ρ.set k b)[k']? = ρ[k']? := by rw [List.getElem?_set]; simp [h]
theorem get_set_eq {ρ : Loc} {k : Nat} {b : Option B} (h : k < ρ.length) : (ρ.set k b)[k]? = some b := by rw [List.getElem?_set]; simp [h]

/-- a name is bound: what the heap does -/
theorem store_core {k : Nat} {x : Str} {v : Value} {s : Shared} {Q : Unit → Shared → Prop} {E : Value → Shared → Prop} (hf : c.fn = true) (F : FS c ρ s.heap) (hk : c.ks[k]? = some x)
    (h : ∀ h' tk, SeqKeep s.heap h' → Pres c ρ s.heap h' → (∃ m, h'.Ns c.env.locals m) → (∀ n cd, c.env.cells.lookup n = some cd → ∃ v, h'.IsCell cd v) → VarV h' c.env x v →
      (∀ y u, y ≠ x → VarV s.heap c.env y u → VarV h' c.env y u) → Q () (after s h' tk)) :
    wpAny (model c.W.prog c.W.w) c.A (storeName c.env x v) Q E s := by
  obtain ⟨m, hn⟩ := F.ns
  have hp : (c.env.scope.kind == .class || (c.env.scope.kind == .module && c.env.locals != c.env.globals)) = false := by rw [F.ok.kind]; rfl
  have hL : ∀ {cd : Addr} {u : Option Value}, s.heap.IsCell cd u → cd ≠ c.env.locals := fun hc e => by
    subst e
    obtain ⟨o, eo, hd⟩ := hc
    obtain ⟨o', es, ep, eo', hd', _⟩ := hn
    rw [eo] at eo'; cases eo'; rw [hd] at hd'; cases hd'
  rcases F.ok.kinds k x hk with hx | hx
  · refine wpAny_storeName_local hx hn (fun h' hn' hs => h h' _ (fun b o its n hd e => ?_) (fun b o e np => hs.extBut b o (fun q => np (.inl q)) e) ⟨_, hn'⟩ (fun n cd hm => ?_) (.inl ⟨hx, _, hn', by simp⟩) fun y u hy V => ?_) hp
    · refine hs.extBut b o (fun q => ?_) e
      subst q
      obtain ⟨o', es, ep, eo', hd', _⟩ := hn
      rw [e] at eo'; cases eo'; rw [hd] at hd'; cases hd'
    · obtain ⟨u, hc⟩ := F.cells hf n cd hm
      exact ⟨u, hc.sameBut hs (hL hc)⟩
    · rcases V with ⟨hy', m', hn₂, hm⟩ | ⟨hy', cd, hc, hv⟩
      · have := ns_inj hn hn₂; subst this
        exact .inl ⟨hy', _, hn', by simpa [hy] using hm⟩
      · exact .inr ⟨hy', cd, hc, hv.sameBut hs (hL hv)⟩
  · obtain ⟨cd, hc⟩ := Option.isSome_iff_exists.mp ((F.ok.isFn hf).cellsAll k x hk hx)
    obtain ⟨u₀, hc₀⟩ := F.cells hf x cd hc
    refine wpAny_storeName_cell F.ok.kind hx hc hc₀ fun h' hv' hs => h h' _ (fun b o its n hd e => ?_) (fun b o e np => hs.extBut b o (fun q => np (.inr (.inl ⟨x, q ▸ hc⟩))) e) ⟨m, hn.sameBut hs (Ne.symm (hL hc₀))⟩ (fun n cd' hm => ?_) (.inr ⟨.inl hx, cd, hc, hv'⟩) fun y u hy V => ?_
    · refine hs.extBut b o (fun q => ?_) e
      subst q
      obtain ⟨o', e', hd'⟩ := hc₀
      rw [e] at e'; cases e'; rw [hd] at hd'; cases hd'
    · by_cases q : cd' = cd
      · subst q; exact ⟨_, hv'⟩
      · obtain ⟨u, hu⟩ := F.cells hf n cd' hm
        exact ⟨u, hu.sameBut hs q⟩
    · rcases V with ⟨hy', m', hn₂, hm⟩ | ⟨hy', cd', hc', hv⟩
      · exact .inl ⟨hy', m', hn₂.sameBut hs (Ne.symm (hL hc₀)), hm⟩
      · refine .inr ⟨hy', cd', hc', hv.sameBut hs fun q => ?_⟩
        subst q
        exact hy (name_of_addr (F.ok.isFn hf).apart (mem_of_lookup hc') (mem_of_lookup hc))

theorem nodup_ne {ks : List Str} (hn : ks.Nodup) {k k' : Nat} {x y : Str} (hk : ks[k]? = some x) (hk' : ks[k']? = some y) (h : k' ≠ k) : y ≠ x := by
  intro e
  subst e
  exact h ((List.getElem?_inj (by
    rcases Nat.lt_or_ge k' ks.length with q | q
    · exact q
    · rw [List.getElem?_eq_none q] at hk'; cases hk') hn).mp (hk'.trans hk.symm))

theorem keep_of {h' : Heap} {h : Heap} (hf : c.fn = true) (F : FS c ρ h) (p : Pres c ρ h h') : Ext c.h₀ h' := fun b o e => p b o (F.keep hf b o e) fun z => by
  have hlt := Heap.lt_size e
  rcases z with rfl | ⟨n, hm⟩ | ⟨k, ds, z⟩
  · exact absurd (F.ok.isFn hf).hi (Nat.not_le.mpr hlt)
  · exact absurd ((F.ok.isFn hf).cellsHi n b hm) (Nat.not_le.mpr hlt)
  · rw [(F.own0 k b ds z).1 hf] at e; cases e
theorem g_of {h' : Heap} {h : Heap} (hf : c.fn = true) (F : FS c ρ h) (p : Pres c ρ h h') : c.W.G h' := (F.ok.isFn hf).g0.ext (keep_of hf F p)
theorem av_of {h' : Heap} {h : Heap} (hf : c.fn = true) (F : FS c ρ h) (p : Pres c ρ h h') : ∀ a, c.av a → (h'.get? a).isSome = true := fun a z => ext_some (keep_of hf F p) ((F.ok.isFn hf).av0 a z)

theorem own_set_p {ρ : Loc} {k : Nat} {d : D} {a : Addr} (o : Own (ρ.set k (some (.p d))) a) : Own ρ a := by
  obtain ⟨k', ds, e⟩ := o
  by_cases q : k = k'
  · subst q
    rcases Nat.lt_or_ge k ρ.length with z | z
    · rw [get_set_eq z] at e; cases e
    · rw [List.getElem?_eq_none (by simpa using z)] at e; cases e
  · rw [get_set_ne q] at e; exact ⟨k', ds, e⟩

theorem store_p {k : Nat} {x : Str} {v : Value} {d : D} {s : Shared} {Q : Unit → Shared → Prop} {E : Value → Shared → Prop} (hf : c.fn = true) (F : FS c ρ s.heap) (hk : c.ks[k]? = some x) (hl : k < ρ.length) (r : Rep c.W (Pv c ρ) s.heap v d)
    (h : ∀ h' tk, FS c (ρ.set k (some (.p d))) h' → Pres c ρ s.heap h' → SeqKeep s.heap h' → Q () (after s h' tk)) : wpAny (model c.W.prog c.W.w) c.A (storeName c.env x v) Q E s := by
  refine store_core hf F hk fun h' tk sk pr hn hc V VV => h h' tk ?_ pr sk
  have ka : ∀ b, (s.heap.get? b).isSome = true → Pv c (ρ.set k (some (.p d))) b → Pv c ρ b := fun b _ q => by
    rcases q with q | q
    · exact .inl q
    · exact .inr (own_set_p q)
  refine ⟨F.ok, g_of hf F pr, av_of hf F pr, fun _ => keep_of hf F pr, hn, fun _ => hc, fun k' y b hk' hb => ?_, fun k' a ds q => ?_, fun k' k'' a ds ds' q q' => ?_⟩
  · by_cases q : k = k'
    · subst q
      rw [get_set_eq hl] at hb; cases hb
      rw [hk] at hk'; cases hk'
      exact ⟨v, V, Rep.mono sk.keq ka r⟩
    · rw [get_set_ne q] at hb
      obtain ⟨u, U, H⟩ := F.var k' y b hk' hb
      exact ⟨u, VV y u (nodup_ne F.ok.nod hk hk' (Ne.symm q)) U, H.monoS sk ka⟩
  · by_cases z : k = k'
    · subst z; rw [get_set_eq hl] at q; cases q
    · rw [get_set_ne z] at q
      obtain ⟨h0, h1, its, p⟩ := F.own0 k' a ds q
      exact ⟨h0, h1, its, PL.seqKeep p sk⟩
  · by_cases z : k = k'
    · subst z; rw [get_set_eq hl] at q; cases q
    · by_cases z' : k = k''
      · subst z'; rw [get_set_eq hl] at q'; cases q'
      · rw [get_set_ne z] at q; rw [get_set_ne z'] at q'
        exact F.ownd _ _ _ _ _ q q'

/-- a fresh list in a slot of its own -/
theorem FS.slot {h h' : Heap} {a : Addr} {vs : List Value} {ds : List D} (F : FS c ρ h) (hks : c.ks.length ≤ ρ.length) (x : Ext h h') (hn : h.get? a = none) (p : h'.PlainList a vs.toArray) : FS c (ρ ++ [some (.own a ds)]) h' := by
  have ka : ∀ b, (h.get? b).isSome = true → Pv c (ρ ++ [some (.own a ds)]) b → Pv c ρ b := fun b hb q => by
    rcases q with q | ⟨k, ds', q⟩
    · exact .inl q
    · rcases Nat.lt_or_ge k ρ.length with z | z
      · rw [List.getElem?_append_left z] at q; exact .inr ⟨k, ds', q⟩
      · rw [List.getElem?_append_right z] at q
        cases hz : k - ρ.length with
        | zero => rw [hz] at q; cases q; rw [hn] at hb; cases hb
        | succ n => rw [hz] at q; simp at q
  have cases' : ∀ (k : Nat) b, (ρ ++ [some (.own a ds)])[k]? = some (some b) → ρ[k]? = some (some b) ∨ (k = ρ.length ∧ b = .own a ds) := fun k b q => by
    rcases Nat.lt_or_ge k ρ.length with z | z
    · rw [List.getElem?_append_left z] at q; exact .inl q
    · rw [List.getElem?_append_right z] at q
      cases hz : k - ρ.length with
      | zero => rw [hz] at q; cases q; exact .inr ⟨by omega, rfl⟩
      | succ n => rw [hz] at q; simp at q
  have G := F.ext x
  have hi : c.fn = true → c.h₀.get? a = none := fun hf => by
    cases e : c.h₀.get? a with
    | none => rfl
    | some o => rw [F.keep hf a o e] at hn; cases hn
  have hv : ¬ c.av a := fun z => by have := F.av1 a z; rw [hn] at this; cases this
  refine ⟨F.ok, G.g, G.av1, G.keep, G.ns, G.cells, fun k y b hk hb => ?_, fun k a' ds' q => ?_, fun k k' a' ds' ds'' q q' => ?_⟩
  · rcases cases' k b hb with q | ⟨rfl, rfl⟩
    · obtain ⟨u, U, H⟩ := F.var k y b hk q
      exact ⟨u, U.ext x, H.mono x ka⟩
    · rw [List.getElem?_eq_none hks] at hk; cases hk
  · rcases cases' k _ q with q | ⟨rfl, e⟩
    · exact G.own0 k a' ds' q
    · cases e; exact ⟨hi, hv, _, p⟩
  · have off : ∀ (k : Nat) ds', ρ[k]? ≠ some (some (.own a ds')) := fun k ds' z => by
      obtain ⟨_, _, its, n, e⟩ := F.own0 k a ds' z
      rw [hn] at e; cases e
    rcases cases' k _ q with q | ⟨rfl, e⟩
    · rcases cases' k' _ q' with q' | ⟨rfl, e'⟩
      · exact F.ownd _ _ _ _ _ q q'
      · cases e'; exact absurd q (off _ _)
    · rcases cases' k' _ q' with q' | ⟨rfl, e'⟩
      · cases e; exact absurd q' (off _ _)
      · rfl

theorem own_slot {a b : Addr} {ds : List D} (o : Own (ρ ++ [some (.own a ds)]) b) : Own ρ b ∨ b = a := by
  obtain ⟨k, ds', q⟩ := o
  rcases Nat.lt_or_ge k ρ.length with z | z
  · rw [List.getElem?_append_left z] at q; exact .inl ⟨k, ds', q⟩
  · rw [List.getElem?_append_right z] at q
    cases hz : k - ρ.length with
    | zero => rw [hz] at q; cases q; exact .inr rfl
    | succ n => rw [hz] at q; simp at q
theorem own_set_o {k : Nat} {a b : Addr} {ds : List D} (o : Own (ρ.set k (some (.own a ds))) b) : Own ρ b ∨ b = a := by
  obtain ⟨k', ds', e⟩ := o
  by_cases q : k = k'
  · subst q
    rcases Nat.lt_or_ge k ρ.length with z | z
    · rw [get_set_eq z] at e; cases e; exact .inr rfl
    · rw [List.getElem?_eq_none (by simpa using z)] at e; cases e
  · rw [get_set_ne q] at e; exact .inl ⟨k', ds', e⟩
theorem slot_own {a : Addr} {ds : List D} : Own (ρ ++ [some (.own a ds)]) a := ⟨ρ.length, ds, by rw [List.getElem?_append_right (Nat.le_refl _)]; simp⟩
theorem own_slot_of {a b : Addr} {ds : List D} (o : Own ρ b) : Own (ρ ++ [some (.own a ds)]) b := by
  obtain ⟨k, ds', q⟩ := o
  refine ⟨k, ds', ?_⟩
  rw [List.getElem?_append_left]
  · exact q
  · rcases Nat.lt_or_ge k ρ.length with z | z
    · exact z
    · rw [List.getElem?_eq_none z] at q; cases q

theorem store_o {k : Nat} {x : Str} {a : Addr} {vs : List Value} {ds : List D} {s : Shared} {Q : Unit → Shared → Prop} {E : Value → Shared → Prop} (hf : c.fn = true) (F : FS c (ρ ++ [some (.own a ds)]) s.heap) (hk : c.ks[k]? = some x) (hl : k < ρ.length)
    (p : s.heap.PlainList a vs.toArray) (r : Reps c.W (Pv c (ρ ++ [some (.own a ds)])) s.heap vs ds)
    (h : ∀ h' tk, FS c (ρ.set k (some (.own a ds))) h' → Pres c (ρ ++ [some (.own a ds)]) s.heap h' → Q () (after s h' tk)) : wpAny (model c.W.prog c.W.w) c.A (storeName c.env x (.ref a)) Q E s := by
  refine store_core hf F hk fun h' tk sk pr hn hc V VV => h h' tk ?_ pr
  have ka : ∀ b, (s.heap.get? b).isSome = true → Pv c (ρ.set k (some (.own a ds))) b → Pv c (ρ ++ [some (.own a ds)]) b := fun b _ q => by
    rcases q with q | q
    · exact .inl q
    · rcases own_set_o q with q | rfl
      · exact .inr (own_slot_of q)
      · exact .inr slot_own
  have left : ∀ (k' : Nat) b, ρ[k']? = some (some b) → (ρ ++ [some (.own a ds)])[k']? = some (some b) := fun k' b q => by
    rw [List.getElem?_append_left]
    · exact q
    · rcases Nat.lt_or_ge k' ρ.length with z | z
      · exact z
      · rw [List.getElem?_eq_none z] at q; cases q
  have last : (ρ ++ [some (.own a ds)])[ρ.length]? = some (some (.own a ds)) := by rw [List.getElem?_append_right (Nat.le_refl _)]; simp
  have off : ∀ (k' : Nat) ds', ρ[k']? ≠ some (some (.own a ds')) := fun k' ds' q => by
    have e := F.ownd k' ρ.length a ds' ds (left k' _ q) last
    subst e
    rw [List.getElem?_eq_none (Nat.le_refl _)] at q; cases q
  have O := F.own0 _ _ _ last
  refine ⟨F.ok, g_of hf F pr, av_of hf F pr, fun _ => keep_of hf F pr, hn, fun _ => hc, fun k' y b hk' hb => ?_, fun k' a' ds' q => ?_, fun k' k'' a' ds' ds'' q q' => ?_⟩
  · by_cases q : k = k'
    · subst q
      rw [get_set_eq hl] at hb; cases hb
      rw [hk] at hk'; cases hk'
      exact ⟨.ref a, V, rfl, vs, PL.seqKeep p sk, r.mono sk.keq ka⟩
    · rw [get_set_ne q] at hb
      obtain ⟨u, U, H⟩ := F.var k' y b hk' (left _ _ hb)
      exact ⟨u, VV y u (nodup_ne F.ok.nod hk hk' (Ne.symm q)) U, H.monoS sk ka⟩
  · by_cases z : k = k'
    · subst z; rw [get_set_eq hl] at q; cases q
      exact ⟨O.1, O.2.1, _, PL.seqKeep p sk⟩
    · rw [get_set_ne z] at q
      obtain ⟨h0, h1, its, p⟩ := F.own0 k' a' ds' (left _ _ q)
      exact ⟨h0, h1, its, PL.seqKeep p sk⟩
  · by_cases z : k = k'
    · by_cases z' : k = k''
      · exact z.symm.trans z'
      · subst z; rw [get_set_eq hl] at q; cases q
        rw [get_set_ne z'] at q'
        exact absurd q' (off _ _)
    · rw [get_set_ne z] at q
      by_cases z' : k = k''
      · subst z'; rw [get_set_eq hl] at q'; cases q'
        exact absurd q (off _ _)
      · rw [get_set_ne z'] at q'
        exact F.ownd _ _ _ _ _ (left _ _ q) (left _ _ q')

theorem ownSub_set_p {h : Heap} {k : Nat} {d : D} : OwnSub h ρ (ρ.set k (some (.p d))) := fun _ o => .inl (own_set_p o)

-- statements
theorem ExS.assign (k : Nat) {x : Str} {np pos : Pos} {e : Expr} {d : D} {Φ : Out → Prop} (hk : c.ks[k]? = some x) (hl : k < ρ.length) (h1 : Ev c ρ e d) (hΦ : Φ (.next (ρ.set k (some (.p d)))))
    (hs : swapsWith e (some (.Name x np)) pos.line c.env = pure false := by rfl) : ExS c ρ (.Assign [.Name x np] e pos) Φ := by
  intro s Q E hf F hQ
  refine wpAny_Assign_Name (h1 s _ _ F fun v g t y r => store_p hf (F.ext y) hk hl r fun h' tk F' pr _ => ?_) hs
  exact hQ .next (.next _) h' tk hΦ (y.pres.trans (OwnSub.refl _ _) pr) ⟨rfl, F', ownSub_set_p⟩

theorem ownSub_slot {h : Heap} {a : Addr} {ds : List D} (hn : h.get? a = none) : OwnSub h ρ (ρ ++ [some (.own a ds)]) := fun b o => by
  rcases own_slot o with o | rfl
  · exact .inl o
  · exact .inr hn
theorem ownSub_set_o {h : Heap} {k : Nat} {a : Addr} {ds : List D} (hn : h.get? a = none) : OwnSub h ρ (ρ.set k (some (.own a ds))) := fun b o => by
  rcases own_set_o o with o | rfl
  · exact .inl o
  · exact .inr hn
theorem reps_slot {h : Heap} {a : Addr} {vs : List Value} {ds es : List D} (r : Reps c.W (fun b => Pv c ρ b ∨ b = a) h vs ds) : Reps c.W (Pv c (ρ ++ [some (.own a es)])) h vs ds :=
  r.mono (Ext.refl _).keq fun b _ q => by
    rcases q with q | q
    · exact .inl (.inl q)
    · rcases own_slot q with q | q
      · exact .inl (.inr q)
      · exact .inr q

theorem ExS.assignO (k : Nat) {x : Str} {np pos : Pos} {e : Expr} {ds : List D} {Φ : Out → Prop} (hk : c.ks[k]? = some x) (hl : k < ρ.length) (hks : c.ks.length ≤ ρ.length) (h1 : EvO c ρ e ds) (hΦ : ∀ a, Φ (.next (ρ.set k (some (.own a ds)))))
    (hs : swapsWith e (some (.Name x np)) pos.line c.env = pure false := by rfl) : ExS c ρ (.Assign [.Name x np] e pos) Φ := by
  intro s Q E hf F hQ
  refine wpAny_Assign_Name (h1 s _ _ F fun a vs g t y hn p r => store_o hf (F.slot hks y hn p) hk hl p (reps_slot r) fun h' tk F' pr => ?_) hs
  exact hQ .next (.next _) h' tk (hΦ a) (y.pres.trans (ownSub_slot hn) pr) ⟨rfl, F', ownSub_set_o hn⟩

theorem ExS.aug (k : Nat) {x : Str} {np pos : Pos} {op : Operator} {e : Expr} {d₁ d₂ d : D} {Φ : Out → Prop} (hk : c.ks[k]? = some x) (hl : k < ρ.length) (hb : ρ[k]? = some (some (.p d₁))) (h1 : Ev c ρ e d₂) (hop : OpOk c ρ (inplaceOp op) d₁ d₂ d)
    (hΦ : Φ (.next (ρ.set k (some (.p d))))) : ExS c ρ (.AugAssign (.Name x np) op e pos) Φ := by
  intro s Q E hf F hQ
  obtain ⟨v, V, H⟩ := F.var k x _ hk hb
  have ld : ∀ {Q : Value → Shared → Prop}, Q v s → wpAny (model c.W.prog c.W.w) c.A (loadName c.env x) Q E s := fun {Q} hq => by
    rcases V with ⟨hk, m, hn, hm⟩ | ⟨hk | ⟨hk, hcd⟩, cd, hc, hv⟩
    · exact wpAny_loadName_local F.ok.kind hk hn hm hq
    · exact wpAny_loadName_cell F.ok.kind hk hc hv hq
    · exact wpAny_loadName_free F.ok.kind hk hc hv hq hcd
  refine wpAny_AugAssign_Name (ld (h1 s _ _ F fun u g t y r => hop _ v u _ _ (F.ext y) (Rep.ext H y) r fun w g' t' y' r' => store_p hf ((F.ext y).ext y') hk hl r' fun h' tk F' pr _ => ?_))
  exact hQ .next (.next _) h' tk hΦ ((y.trans y').pres.trans (OwnSub.refl _ _) pr) ⟨rfl, F', ownSub_set_p⟩

theorem ExS.ret {pos : Pos} {e : Expr} {d : D} {Φ : Out → Prop} (h1 : Ev c ρ e d) (hΦ : Φ (.ret d)) : ExS c ρ (.Return (some e) pos) Φ := by
  intro s Q E hf F hQ
  exact wpAny_Return_some (h1 s _ _ F fun v g t y r => hQ _ (.ret d) g t hΦ y.pres ⟨v, rfl, r.mono (Ext.refl _).keq fun _ _ q => .inl q⟩)
theorem ExS.if {pos : Pos} {t : Expr} {b : Bool} {body orelse : List Stmt} {Φ : Out → Prop} (h1 : EvT c ρ t b) (h2 : b = true → Ex c ρ body Φ) (h3 : b = false → Ex c ρ orelse Φ) : ExS c ρ (.If t body orelse pos) Φ := by
  intro s Q E hf F hQ
  refine wpAny_If (h1 s _ _ F fun g tk y => ?_)
  have fin : ∀ {sts : List Stmt}, Ex c ρ sts Φ → wpAny (model c.W.prog c.W.w) c.A (execs sts c.env) Q E (after s g tk) := fun hx => hx _ _ _ hf (F.ext y) fun fl o h' tk' ho hp hP =>
    hQ fl o h' tk' ho (y.pres.trans (OwnSub.refl _ _) hp) (hP.trans hf (F.ext y) y.pres (OwnSub.refl _ _))
  cases b with
  | true => simp only [if_true]; exact fin (h2 rfl)
  | false => simp only [Bool.false_eq_true, if_false]; exact fin (h3 rfl)
theorem ExS.pass {pos : Pos} {Φ : Out → Prop} (hΦ : Φ (.next ρ)) : ExS c ρ (.Pass pos) Φ := fun s Q E _ F hQ =>
  wpAny_Pass (hQ _ (.next ρ) s.heap s.toks hΦ (Ext.refl _).pres ⟨rfl, F, OwnSub.refl _ _⟩)
end Mine
end
section
open PySem PySem.W PyProof.Rows PySem.Calls
set_option maxRecDepth 10000
namespace Mine

variable {c : Cx} {ρ : Loc}

theorem own_set_same {k : Nat} {a b : Addr} {ds ds' : List D} (hb : ρ[k]? = some (some (.own a ds))) (o : Own (ρ.set k (some (.own a ds'))) b) : Own ρ b := by
  rcases own_set_o o with o | rfl
  · exact o
  · exact ⟨k, ds, hb⟩

/-- an own list is changed in place -/
theorem FS.mutate {h h' : Heap} {k : Nat} {a : Addr} {ds ds' : List D} {vs' : List Value} (hf : c.fn = true) (F : FS c ρ h) (hb : ρ[k]? = some (some (.own a ds))) (hs : Heap.SameBut a h h') (p' : h'.PlainList a vs'.toArray) (r' : Reps c.W (Pv c ρ) h vs' ds') :
    FS c (ρ.set k (some (.own a ds'))) h' ∧ Pres c ρ h h' := by
  have hl : k < ρ.length := by
    rcases Nat.lt_or_ge k ρ.length with z | z
    · exact z
    · rw [List.getElem?_eq_none z] at hb; cases hb
  obtain ⟨hn0, hn1, its, n0, e0⟩ := F.own0 k a ds hb
  have hOa : Own ρ a := ⟨k, ds, hb⟩
  have pr : Pres c ρ h h' := fun b o e np => hs.extBut b o (fun q => np (.inr (.inr (q ▸ hOa)))) e
  have kq : Keq (Pv c ρ) h h' := fun b o its n nb _ e => hs.extBut b o (fun q => nb (.inr (q ▸ hOa))) e
  have ka : ∀ b, (h.get? b).isSome = true → Pv c (ρ.set k (some (.own a ds'))) b → Pv c ρ b := fun b _ q => by
    rcases q with q | q
    · exact .inl q
    · exact .inr (own_set_same hb q)
  have hL : c.env.locals ≠ a := fun q => by
    obtain ⟨m, o, es, ep, e, hd, _⟩ := F.ns
    rw [q, e0] at e; cases e; cases hd
  have hC : ∀ {cd u}, h.IsCell cd u → cd ≠ a := fun hc q => by
    obtain ⟨o, e, hd⟩ := hc
    rw [q, e0] at e; cases e; cases hd
  have VV : ∀ y u, VarV h c.env y u → VarV h' c.env y u := fun y u V => by
    rcases V with ⟨hk, m, hn, hm⟩ | ⟨hk, cd, hc, hv⟩
    · exact .inl ⟨hk, m, hn.sameBut hs hL, hm⟩
    · exact .inr ⟨hk, cd, hc, hv.sameBut hs (hC hv)⟩
  refine ⟨⟨F.ok, g_of hf F pr, av_of hf F pr, fun _ => keep_of hf F pr, ?_, fun _ n cd hm => ?_, fun k' y b hk' hb' => ?_, fun k' a' es q => ?_, fun k' k'' a' es es' q q' => ?_⟩, pr⟩
  · obtain ⟨m, hn⟩ := F.ns; exact ⟨m, hn.sameBut hs hL⟩
  · obtain ⟨u, hu⟩ := F.cells hf n cd hm; exact ⟨u, hu.sameBut hs (hC hu)⟩
  · by_cases q : k = k'
    · subst q
      rw [get_set_eq hl] at hb'; cases hb'
      obtain ⟨u, U, rfl, _⟩ := F.var k y _ hk' hb
      exact ⟨_, VV y _ U, rfl, vs', p', r'.mono kq ka⟩
    · rw [get_set_ne q] at hb'
      obtain ⟨u, U, H⟩ := F.var k' y b hk' hb'
      refine ⟨u, VV y u U, ?_⟩
      cases b with
      | p d => exact Rep.mono kq ka H
      | own a' es =>
        obtain ⟨rfl, vs, p, r⟩ := H
        have hne : a' ≠ a := fun z => q (F.ownd k k' a ds es hb (z ▸ hb'))
        obtain ⟨n, e⟩ := p
        exact ⟨rfl, vs, ⟨n, hs.extBut _ _ hne e⟩, r.mono kq ka⟩
  · by_cases z : k = k'
    · subst z; rw [get_set_eq hl] at q; cases q
      exact ⟨hn0, hn1, _, p'⟩
    · rw [get_set_ne z] at q
      obtain ⟨h0, h1, its', n, e⟩ := F.own0 k' a' es q
      have hne : a' ≠ a := fun w => z (F.ownd k k' a ds es hb (w ▸ q))
      exact ⟨h0, h1, its', n, hs.extBut _ _ hne e⟩
  · have back : ∀ {k' : Nat} {a' : Addr} {es : List D}, (ρ.set k (some (B.own a ds')))[k']? = some (some (B.own a' es)) → ∃ es', ρ[k']? = some (some (B.own a' es')) := fun {k' a' es} q => by
      by_cases z : k = k'
      · subst z; rw [get_set_eq hl] at q; cases q; exact ⟨ds, hb⟩
      · rw [get_set_ne z] at q; exact ⟨es, q⟩
    obtain ⟨x, hx⟩ := back q
    obtain ⟨y, hy⟩ := back q'
    exact F.ownd _ _ _ _ _ hx hy

theorem ExS.append (k : Nat) {x : Str} {np apos pos epos : Pos} {e : Expr} {a : Addr} {ds : List D} {d : D} {Φ : Out → Prop} (hk : c.ks[k]? = some x) (hb : ρ[k]? = some (some (.own a ds))) (h1 : Ev c ρ e d) (hz : ds.length ≤ 100000)
    (hΦ : Φ (.next (ρ.set k (some (.own a (ds ++ [d])))))) (he : starEach [e] c.env = [(false, eval e c.env)] := by rfl) (hline : (apos.endLine == pos.line) = true := by rfl) :
    ExS c ρ (.Expr (.Call (.Attribute (.Name x np) "append" apos) [e] [] pos) epos) Φ := by
  intro s Q E hf F hQ
  refine wpAny_Expr_any ?_ (by unfold interactive; rw [F.ok.kind]; rfl) rfl
  obtain ⟨v, V, rfl, vs, p, r⟩ := F.var k x _ hk hb
  refine wpAny_Call_append rfl (by rw [he]; rfl) hline (by rw [he]; rfl) (ev_var F.ok (List.mem_of_getElem? hk) V ⟨a, vs.toArray, rfl, PL.plainL p, h1 s _ _ F fun u g t y ru => ?_⟩)
  have hlen := r.length
  refine wpAny_list_append_plain (PL.ext p y) (fun h' p' hs => ?_) (sz_line (by simp; omega))
  have e : vs.toArray.push u = (vs ++ [u]).toArray := by simp
  rw [e] at p'
  have M := FS.mutate hf (F.ext y) hb hs p' ((r.ext y).append (.cons ru .nil))
  exact hQ .next (.next _) h' t hΦ (y.pres.trans (OwnSub.refl _ _) M.2) ⟨rfl, M.1, fun b o => .inl (own_set_same hb o)⟩

theorem ExS.setItem (k : Nat) {x : Str} {np sp pos : Pos} {i e : Expr} {a : Addr} {ds : List D} {j : Int} {d : D} {Φ : Out → Prop} (hk : c.ks[k]? = some x) (hb : ρ[k]? = some (some (.own a ds))) (h1 : Ev c ρ e d) (h2 : Ev c ρ i (.int j)) (h0 : 0 ≤ j) (hj : j < ds.length) (hz : ds.length ≤ 100000)
    (hΦ : Φ (.next (ρ.set k (some (.own a (ds.set j.toNat d)))))) (hs : swapsWith e (some (.Subscript (.Name x np) i sp)) pos.line c.env = pure false := by rfl) :
    ExS c ρ (.Assign [.Subscript (.Name x np) i sp] e pos) Φ := by
  intro s Q E hf F hQ
  refine wpAny_Assign_Subscript (h1 s _ _ F fun u g t y ru => ?_) hs
  have F₁ := F.ext y
  obtain ⟨v, V, rfl, vs, p, r⟩ := F₁.var k x _ hk hb
  refine ev_var F.ok (List.mem_of_getElem? hk) V (h2 _ _ _ F₁ fun w g' t' y' rw' => ?_)
  cases rw'
  have hlen := r.length
  obtain ⟨n, e0⟩ := PL.ext p y'
  refine ki_setAt e0 h0 (by omega) (by simp; omega) ?_
  have hs' : Heap.SameBut a g' (g'.update a (Obj.mapSeq (·.setIfInBounds j.toNat u))) := Heap.SameBut.update ..
  have p' : (g'.update a (Obj.mapSeq (·.setIfInBounds j.toNat u))).PlainList a (vs.set j.toNat u).toArray := by
    refine ⟨n, ?_⟩
    have q := Heap.get?_update_self (Obj.mapSeq (·.setIfInBounds j.toNat u)) e0 rfl
    rw [q]
    simp [Obj.mapSeq]
  have M := FS.mutate hf (F₁.ext y') hb hs' p' ((r.ext y').set (ru.ext y'))
  exact hQ .next (.next _) _ t' hΦ ((y.trans y').pres.trans (OwnSub.refl _ _) M.2) ⟨rfl, M.1, fun b o => .inl (own_set_same hb o)⟩

-- several names at once
noncomputable def setP : Loc → List (Nat × Str) → List D → Loc
  | ρ, q :: r, d :: ds => setP (ρ.set q.1 (some (.p d))) r ds
  | ρ, _, _ => ρ

inductive Binds (c : Cx) : List (Nat × Str) → List (Value → Sem Unit) → Prop
  | nil : Binds c [] []
  | cons {q r f fs} : (∀ v (s : Shared) (Q : Unit → Shared → Prop) (E : Value → Shared → Prop), wpAny (model c.W.prog c.W.w) c.A (storeName c.env q.2 v) Q E s → wpAny (model c.W.prog c.W.w) c.A (f v) Q E s) → Binds c r fs → Binds c (q :: r) (f :: fs)

theorem own_setP {a : Addr} : ∀ {kxs : List (Nat × Str)} {ds : List D} {ρ : Loc}, Own (setP ρ kxs ds) a → Own ρ a
  | [], _, _, o => o
  | _ :: _, [], _, o => o
  | q :: r, d :: ds, ρ, o => own_set_p (own_setP (kxs := r) (ds := ds) o)
theorem length_setP : ∀ {kxs : List (Nat × Str)} {ds : List D} {ρ : Loc}, (setP ρ kxs ds).length = ρ.length
  | [], _, _ => rfl
  | _ :: _, [], _ => rfl
  | q :: r, d :: ds, ρ => (length_setP (kxs := r) (ds := ds)).trans (by simp)
theorem setP_slot {b : Option B} : ∀ {kxs : List (Nat × Str)} {ds : List D} {ρ : Loc}, (∀ q ∈ kxs, q.1 < ρ.length) → setP (ρ ++ [b]) kxs ds = setP ρ kxs ds ++ [b]
  | [], _, _, _ => rfl
  | _ :: _, [], _, _ => rfl
  | q :: r, d :: ds, ρ, h => by
    show setP ((ρ ++ [b]).set q.1 (some (.p d))) r ds = setP (ρ.set q.1 (some (.p d))) r ds ++ [b]
    rw [List.set_append_left _ _ (h q (.head _))]
    exact setP_slot fun z hz => by rw [List.length_set]; exact h z (.tail _ hz)

theorem aio_cons (t : Value → Sem Unit) (ts : List (Value → Sem Unit)) (x : Value) (xs : List Value) : assignInOrder (t :: ts) (x :: xs) = (holding xs (t x) >>= fun _ => assignInOrder ts xs) := rfl
theorem aio_nil (xs : List Value) : assignInOrder [] xs = pure () := rfl
theorem stores_pk {kxs : List (Nat × Str)} {fs : List (Value → Sem Unit)} (B : Binds c kxs fs) : ∀ {gs : List (Value → Sem Unit)} {ds : List D} {vs us : List Value} {ρ : Loc} {s : Shared} {Q : Unit → Shared → Prop} {E : Value → Shared → Prop}, c.fn = true → FS c ρ s.heap →
    (∀ q ∈ kxs, c.ks[q.1]? = some q.2 ∧ q.1 < ρ.length) → kxs.length = ds.length → Reps c.W (Pv c ρ) s.heap vs ds →
    (∀ h' tk, FS c (setP ρ kxs ds) h' → Pres c ρ s.heap h' → SeqKeep s.heap h' → wpAny (model c.W.prog c.W.w) c.A (assignInOrder gs us) Q E (after s h' tk)) → wpAny (model c.W.prog c.W.w) c.A (assignInOrder (fs ++ gs) (vs ++ us)) Q E s := by
  induction B with
  | nil =>
    intro gs ds vs us ρ s Q E hf F hk hl rs h
    cases ds with
    | cons => cases hl
    | nil =>
    cases rs
    exact h s.heap s.toks F (fun _ _ e _ => e) fun _ _ _ _ _ e => e
  | @cons q r f fs hf' bs ih =>
    intro gs ds vs us ρ s Q E hf F hk hl rs h
    cases ds with
    | nil => cases hl
    | cons d ds =>
    cases rs with
    | cons rv rs =>
    rename_i v vs
    show wpAny _ _ (assignInOrder (f :: (fs ++ gs)) (v :: (vs ++ us))) Q E s
    first | rw [aio_cons] | rw [aio_nil]
    refine wpAny_bind (wpAny_holding (hf' v s _ _ (store_p hf F (hk q (.head _)).1 (hk q (.head _)).2 rv fun h' tk F' pr sk => ?_)))
    have ka : ∀ b, (s.heap.get? b).isSome = true → Pv c (ρ.set q.1 (some (.p d))) b → Pv c ρ b := fun b _ z => by
      rcases z with z | z
      · exact .inl z
      · exact .inr (own_set_p z)
    refine ih hf F' (fun z hz => ⟨(hk z (.tail _ hz)).1, by rw [List.length_set]; exact (hk z (.tail _ hz)).2⟩) (by simpa using hl) (rs.mono sk.keq ka) fun h'' tk' F'' pr' sk' => ?_
    exact h h'' tk' F'' (pr.trans ownSub_set_p pr') fun b o its n hd e => sk' b o its n hd (sk b o its n hd e)
theorem stores_p {kxs : List (Nat × Str)} {fs : List (Value → Sem Unit)} {ds : List D} {vs : List Value} {s : Shared} {Q : Unit → Shared → Prop} {E : Value → Shared → Prop} (B : Binds c kxs fs) (hf : c.fn = true) (F : FS c ρ s.heap)
    (hk : ∀ q ∈ kxs, c.ks[q.1]? = some q.2 ∧ q.1 < ρ.length) (hl : kxs.length = ds.length) (rs : Reps c.W (Pv c ρ) s.heap vs ds)
    (h : ∀ h' tk, FS c (setP ρ kxs ds) h' → Pres c ρ s.heap h' → SeqKeep s.heap h' → Q () (after s h' tk)) : wpAny (model c.W.prog c.W.w) c.A (assignInOrder fs vs) Q E s := by
  have := stores_pk B (gs := []) (us := []) (Q := Q) (E := E) hf F hk hl rs fun h' tk F' pr sk => by
    first | rw [aio_cons] | rw [aio_nil]
    · exact wpAny_pure (h h' tk F' pr sk)
  simpa using this

theorem binds_swap : ∀ (kxs : List (Nat × Str)), Binds c kxs (kxs.map fun q => bindName c.env q.2)
  | [] => .nil
  | _ :: r => .cons (fun _ _ _ _ h => wpAny_bindName h) (binds_swap r)

theorem flat_nil_own (h : Heap) : OwnSub h ρ ρ := OwnSub.refl h ρ

/-- a, b = (e, f), the stores from behind; also from any tuple's value -/
theorem ExS.assignW (kxs : List (Nat × Str)) {elts : List Expr} {tk : Nat} {tpos pos : Pos} {e : Expr} {ds : List D} {Φ : Out → Prop} (hk : ∀ q ∈ kxs, c.ks[q.1]? = some q.2 ∧ q.1 < ρ.length) (hn : kxs.length = ds.length) (h1 : Ev c ρ e (.tup ds))
    (hΦ : Φ (.next (setP ρ kxs.reverse ds.reverse)))
    (hs : swapsWithSole [.Tuple elts tk tpos] e pos.line c.env = pure false := by rfl) (hw : swappedStores [.Tuple elts tk tpos] e c.env = pure (some (kxs.map (·.2))) := by rfl) :
    ExS c ρ (.Assign [.Tuple elts tk tpos] e pos) Φ := by
  intro s Q E hf F hQ
  refine Assign_Tuple_swapped (h1 s _ _ F fun v g t y r => ?_) hs hw
  cases r with
  | tup na p rs =>
  rename_i vs
  have hlen := rs.length
  rw [show (kxs.map (·.2)).length = vs.toArray.size by simp [hn, hlen]]
  refine wpAny_unpackItems_tuple F.ok.room.1 p fun h' eb => ?_
  have x' : Ext g h' := fun b o e => eb b o (Nat.ne_of_lt (Heap.lt_size e)) e
  have ez : ((kxs.map (·.2)).reverse.map fun n => bindName c.env n) = kxs.reverse.map fun q => bindName c.env q.2 := by simp
  have ev : (vs.toArray.toList).reverse = vs.reverse := rfl
  rw [ez, ev]
  refine stores_p (binds_swap kxs.reverse) hf ((F.ext y).ext x') (fun q hq => hk q (List.mem_reverse.mp hq)) (by simpa using hn) (rs.ext x').reverse fun h'' tk' F' pr _ => ?_
  exact hQ .next (.next _) h'' tk' hΦ ((y.trans x').pres.trans (OwnSub.refl _ _) pr) ⟨rfl, F', fun b o => .inl (own_setP o)⟩

theorem ExS.assignU (kxs : List (Nat × Str)) {elts : List Expr} {tk : Nat} {tpos pos : Pos} {e : Expr} {ds : List D} {Φ : Out → Prop} (hk : ∀ q ∈ kxs, c.ks[q.1]? = some q.2 ∧ q.1 < ρ.length) (hn : kxs.length = ds.length) (h1 : Ev c ρ e (.tup ds))
    (hb : Binds c kxs ((assignEach elts c.env).map (·.2))) (hidx : (assignEach elts c.env).findIdx? (·.1) = none) (hne : (assignEach elts c.env).length = kxs.length)
    (hΦ : Φ (.next (setP ρ kxs ds)))
    (hs : swapsWithSole [.Tuple elts tk tpos] e pos.line c.env = pure false := by rfl) (hw : swappedStores [.Tuple elts tk tpos] e c.env = pure none := by rfl) :
    ExS c ρ (.Assign [.Tuple elts tk tpos] e pos) Φ := by
  intro s Q E hf F hQ
  refine Assign_Tuple (h1 s _ _ F fun v g t y r => ?_) hs hw
  cases r with
  | tup na p rs =>
  rename_i vs
  have hlen := rs.length
  refine wpAny_assign_Tuple F.ok.room.1 p (by simp [hne, hn, hlen]) hidx fun h' eb => ?_
  have x' : Ext g h' := fun b o e => eb b o (Nat.ne_of_lt (Heap.lt_size e)) e
  refine stores_p hb hf ((F.ext y).ext x') hk hn (rs.ext x') fun h'' tk' F' pr _ => ?_
  exact hQ .next (.next _) h'' tk' hΦ ((y.trans x').pres.trans (OwnSub.refl _ _) pr) ⟨rfl, F', fun b o => .inl (own_setP o)⟩

/-- found, carry = (a fresh list, ..): the list is the first name's own -/
theorem ExS.assignOW (k : Nat) (x : Str) (kxs : List (Nat × Str)) {elts : List Expr} {tk tk' : Nat} {tpos vpos pos : Pos} {e : Expr} {es : List Expr} {ds : List D} {ds' : List D} {Φ : Out → Prop} (hkx : c.ks[k]? = some x) (hl : k < ρ.length) (hks : c.ks.length ≤ ρ.length)
    (hk : ∀ q ∈ kxs, c.ks[q.1]? = some q.2 ∧ q.1 < ρ.length) (hn : kxs.length = ds'.length) (h1 : EvO c ρ e ds) (h2 : ∀ a, EvL c (ρ ++ [some (.own a ds)]) vpos es ds') (hz : ds'.length ≤ 100)
    (hΦ : ∀ a, Φ (.next ((setP ρ kxs.reverse ds'.reverse).set k (some (.own a ds)))))
    (he : starEach (e :: es) c.env = (false, eval e c.env) :: starEach es c.env := by rfl)
    (hs : swapsWithSole [.Tuple elts tk tpos] (.Tuple (e :: es) tk' vpos) pos.line c.env = pure false := by rfl) (hw : swappedStores [.Tuple elts tk tpos] (.Tuple (e :: es) tk' vpos) c.env = pure (some (x :: kxs.map (·.2))) := by rfl) :
    ExS c ρ (.Assign [.Tuple elts tk tpos] (.Tuple (e :: es) tk' vpos) pos) Φ := by
  intro s Q E hf F hQ
  refine Assign_Tuple_swapped ?_ hs hw
  refine wpAny_Tuple_spliced ?_
  rw [he]
  show wpAny _ _ (spliced ((false, eval e c.env) :: backTo vpos (starEach es c.env))) _ _ s
  refine spliced_cons (h1 s _ _ F fun a vs g t y hn' p r => ?_)
  have F₁ := F.slot hks y hn' p (ds := ds)
  refine h2 a _ _ _ F₁ fun ws g' t' y' rs => ?_
  have hlen := rs.length
  refine ⟨by show ws.length + 1 ≤ sizeLine; exact sz_line (by omega), ?_⟩
  let T := g'.push { cls := .type "tuple", data := .seq (Value.ref a :: ws).toArray }
  have yT : Ext g' T := Ext.push _ _
  have hT : T.IsTuple g'.objs.size (Value.ref a :: ws).toArray := push_tup _ _
  rw [show (x :: kxs.map (·.2)).length = (Value.ref a :: ws).toArray.size by simp [hn, hlen]]
  refine wpAny_unpackItems_tuple (s := after s T t') F.ok.room.1 hT fun h' eb => ?_
  have x' : Ext T h' := fun b o e => eb b o (Nat.ne_of_lt (Heap.lt_size e)) e
  have ez : ((x :: kxs.map (·.2)).reverse.map fun n => bindName c.env n) = (kxs.reverse.map fun q => bindName c.env q.2) ++ [bindName c.env x] := by simp
  have ev : ((Value.ref a :: ws).toArray.toList).reverse = ws.reverse ++ [Value.ref a] := by simp
  rw [ez, ev]
  have xx : Ext g h' := (y'.trans yT).trans x'
  have F₂ := (F₁.ext (y'.trans yT)).ext x'
  have last : ∀ (s : Shared) (Q : Unit → Shared → Prop), wpAny (model c.W.prog c.W.w) c.A (bindName c.env x (.ref a)) Q E s → wpAny (model c.W.prog c.W.w) c.A (assignInOrder [bindName c.env x] [.ref a]) Q E s := fun s Q h => by
    first | rw [aio_cons] | rw [aio_nil]
    refine wpAny_bind (wpAny_holding (wpAny_mono h (fun _ _ q => ?_) fun _ _ q => q))
    first | rw [aio_cons] | rw [aio_nil]
    · exact wpAny_pure q
  have hk' : ∀ q ∈ kxs.reverse, c.ks[q.1]? = some q.2 ∧ q.1 < (ρ ++ [some (B.own a ds)]).length := fun q hq => ⟨(hk q (List.mem_reverse.mp hq)).1, by have := (hk q (List.mem_reverse.mp hq)).2; simp; omega⟩
  refine stores_pk (binds_swap kxs.reverse) hf F₂ hk' (by simpa using hn) (rs.ext (yT.trans x')).reverse fun h'' tk'' F' pr sk => last _ _ (wpAny_bindName ?_)
  have es : setP (ρ ++ [some (B.own a ds)]) kxs.reverse ds'.reverse = setP ρ kxs.reverse ds'.reverse ++ [some (B.own a ds)] := setP_slot fun q hq => (hk q (List.mem_reverse.mp hq)).2
  rw [es] at F'
  have ka : ∀ b, (h'.get? b).isSome = true → Pv c (setP ρ kxs.reverse ds'.reverse ++ [some (B.own a ds)]) b → Pv c (ρ ++ [some (B.own a ds)]) b := fun b _ q => by
    rcases q with q | q
    · exact .inl q
    · rcases own_slot q with q | rfl
      · exact .inr (own_slot_of (own_setP q))
      · exact .inr slot_own
  refine store_o hf F' hkx (by rw [length_setP]; exact hl) (PL.seqKeep (PL.ext p xx) sk) (((reps_slot r).ext xx).mono sk.keq ka) fun h₃ tk₃ F₃ pr₃ => ?_
  have os1 : OwnSub s.heap ρ (ρ ++ [some (B.own a ds)]) := ownSub_slot hn'
  have os2 : OwnSub h' (ρ ++ [some (B.own a ds)]) (setP ρ kxs.reverse ds'.reverse ++ [some (B.own a ds)]) := fun b o => by
    rcases own_slot o with o | rfl
    · exact .inl (own_slot_of (own_setP o))
    · exact .inl slot_own
  have P1 : Pres c ρ s.heap h' := (y.trans xx).pres
  have P2 : Pres c (ρ ++ [some (B.own a ds)]) h' h₃ := pr.trans os2 pr₃
  refine hQ .next (.next _) h₃ tk₃ (hΦ a) (P1.trans os1 P2) ⟨rfl, F₃, fun b o => ?_⟩
  rcases own_set_o o with o | rfl
  · exact .inl (own_setP o)
  · exact .inr hn'
end Mine
end
section
open PySem PySem.W PyProof.Rows PySem.Calls
set_option maxRecDepth 10000
namespace Mine

variable {c : Cx} {ρ : Loc}

/-- a def's contract: what a call hands back -/
noncomputable def CallOK (W : Wd) (lvl : Nat) (x : Str) (ds : List D) (d : D) : Prop :=
  ∃ a o fd, W.mg x = some (.ref a) ∧ W.K.lookup a = some o ∧ o.data = .func fd ∧
    ∀ (A : Around) (s : Shared) (vs : List Value) (av : Addr → Prop) (Q : Value → Shared → Prop) (E : Value → Shared → Prop), Room A lvl → W.G s.heap → (∀ b, av b → (s.heap.get? b).isSome = true) → Reps W av s.heap vs ds →
      (∀ v h' tk, Ext s.heap h' → Rep W av h' v d → Q v (after s h' tk)) → wpAny (model W.prog W.w) A (call (.ref a) vs []) Q E s

theorem Room.le {A : Around} {n m : Nat} (r : Room A n) (h : m ≤ n) : Room A m := ⟨r.1, by have := r.2.1; omega, by have := r.2.2; omega⟩
theorem Room.deeper {A : Around} {n : Nat} {env : Env} (r : Room A (n + 1)) : Room (A.deeper env) n := ⟨r.1, by show A.depth + 1 + n + 5 < _; have := r.2.1; omega, by show A.units + 3 + 8 * n + 100 < _; have := r.2.2; omega⟩

theorem Ev.glob (k : Nat) {x : Str} {pos : Pos} {a : Addr} (hk : c.gs[k]? = some x) (hv : c.W.mg x = some (.ref a)) : Ev c ρ (.Name x pos) (.fn x) := fun s Q E F h => ev_glob F k hk hv (h _ s.heap s.toks (Ext.refl _) (.fn hv))

theorem Ev.call {f : Str} {np pos : Pos} {x : Str} {args : List Expr} {ds : List D} {d : D} {l : Nat} (hf : Ev c ρ (.Name f np) (.fn x)) (ha : EvL c ρ pos args ds) (hc : CallOK c.W l x ds d) (hl : l ≤ c.lvl) (hp : PlainArgs pos args c.env := by exact ⟨_, _, rfl, rfl⟩) :
    Ev c ρ (.Call (.Name f np) args [] pos) d := by
  intro s Q E F h
  obtain ⟨a, o, fd, hm, ho, hd, hc⟩ := hc
  refine wpAny_Call_ofName (hf s _ _ F fun v g t y r => ?_)
  cases r with
  | fn e =>
  rw [hm] at e; cases e
  obtain ⟨x₀, rest, ea, _⟩ := hp
  show wpAny _ _ (callWith pos (.ref a) [] (backTo pos (starEach args c.env)) []) Q E _
  refine callWith_function (o := o) (fd := fd) ?_
  have key := ha (after s g t) (fun vs s₁ => (s₁.heap.get? a = some o ∧ o.data = .func fd) ∧ wpAny (model c.W.prog c.W.w) c.A (PySem.call (.ref a) ([] ++ vs) []) Q E s₁) E (F.ext y) fun vs g' t' y' rs => ?_
  · rw [ea] at key ⊢
    exact evalArgs_plain key
  · have F' := (F.ext y).ext y'
    exact ⟨⟨F'.g.2.2.2 a o ho, hd⟩, hc c.A _ vs (Pv c ρ) Q E (F.ok.room.le hl) F'.g (fun b p => F'.pv p) rs fun v h' tk z r => h v h' tk ((y.trans y').trans z) r⟩

theorem Ev.callG (k : Nat) {f : Str} {np pos : Pos} {args : List Expr} {ds : List D} {d : D} {l : Nat} (hk : c.gs[k]? = some f) (ha : EvL c ρ pos args ds) (hc : CallOK c.W l f ds d) (hl : l ≤ c.lvl) (hp : PlainArgs pos args c.env := by exact ⟨_, _, rfl, rfl⟩) :
    Ev c ρ (.Call (.Name f np) args [] pos) d := by
  obtain ⟨a, o, fd, hm, r⟩ := id hc
  exact Ev.call (Ev.glob k hk hm) ha hc hl hp

-- the text's defs
noncomputable def bodyOf : Stmt → List Stmt
  | .FunctionDef _ _ b _ _ _ _ _ _ _ => b
  | _ => []
noncomputable def scopeOf : Stmt → Scope
  | .FunctionDef _ _ _ _ _ _ sc _ _ _ => sc
  | _ => { kind := .function, names := [], isGenerator := false, isCoroutine := false, more := [] }
noncomputable def parsOf : Stmt → Arguments
  | .FunctionDef _ a _ _ _ _ _ _ _ _ => a
  | _ => { posonlyargs := [], args := [], vararg := none, kwonlyargs := [], kw_defaults := [], kwarg := none, defaults := [] }

/-- what stands under a global name -/
structure FnData where
  qual : Str
  doc : Value
  pm : Value
  an : Option Addr
  cdv : Value
  ct : Value
noncomputable def fdOf (st : Stmt) (x : Str) (m : FnData) : FuncData := fnX x m.qual (parsOf st) (bodyOf st) (scopeOf st) [] .none .none m.doc m.pm m.an m.cdv m.ct
noncomputable def FnAt (W : Wd) (x nm : Str) (st : Stmt) : Prop :=
  ∃ a oc od osl m, W.mg x = some (.ref a) ∧ W.K.lookup a = some ⟨oc, od, .func (fdOf st nm m), osl⟩ ∧ codeIn W.K m.cdv m.qual = true

noncomputable def chk (scope : Scope) (ks gs : List Str) (n : Nat) : Bool :=
  scope.kind == .function && !scope.isCoroutine && !scope.isGenerator && ks.all (fun x => (scope.names.lookup x == some .local) || (scope.names.lookup x == some .cell && ((cellsFrom n scope.names []).lookup x).isSome)) &&
    gs.all (fun x => scope.names.lookup x == some .globalImplicit) && decide ks.Nodup && ks.all (fun x => !(x == ("__debug__" : Str))) && gs.all (fun x => !(x == ("__debug__" : Str)))

noncomputable abbrev mkC (W : Wd) (st : Stmt) (x : Str) (ks gs : List Str) (lvl : Nat) (A : Around) (m : FnData) (L a : Addr) (h₀ : Heap) (av : Addr → Prop) : Cx :=
  { W := W, A := A, env := callEnvC (fdOf st x m) L a, h₀ := h₀, av := av, ks := ks, gs := gs, lvl := lvl, fn := true }

theorem bindL_miss {kf : Str → Option NameKind} {x : Str} : ∀ {bs : List (Str × Value)} {m : Str → Option Value}, (∀ p ∈ bs, p.1 ≠ x) → bindL kf bs m x = m x
  | [], _, _ => rfl
  | (n, v) :: r, m, h => by
    unfold bindL
    rw [bindL_miss fun p hp => h p (.tail _ hp)]
    split
    · show (if x = n then some v else m x) = m x
      rw [if_neg (Ne.symm (h (n, v) (.head _)))]
    · rfl
theorem bindC_miss {kf : Str → Option NameKind} {x : Str} : ∀ {bs : List (Str × Value)} {m : Str → Option Value}, (∀ p ∈ bs, p.1 ≠ x) → bindC kf bs m x = m x
  | [], _, _ => rfl
  | (n, v) :: r, m, h => by
    unfold bindC
    rw [bindC_miss fun p hp => h p (.tail _ hp)]
    split
    · rfl
    · show (if x = n then some v else m x) = m x
      rw [if_neg (Ne.symm (h (n, v) (.head _)))]
theorem zip_ne {ks : List Str} {vs : List Value} {y : Str} (h : y ∉ ks) : ∀ p ∈ ks.zip vs, p.1 ≠ y := fun p hp e => h (e ▸ (List.of_mem_zip hp).1)
theorem bindL_at {kf : Str → Option NameKind} : ∀ {ks : List Str} {vs : List Value} {m : Str → Option Value} {k : Nat} {x : Str} {v : Value}, ks.Nodup → ks[k]? = some x → vs[k]? = some v → kf x = some .local → bindL kf (ks.zip vs) m x = some v
  | [], _, _, _, _, _, _, h, _, _ => by simp at h
  | _ :: _, [], _, _, _, _, _, _, h, _ => by simp at h
  | y :: ks, u :: vs, m, 0, x, v, hn, hk, hv, hx => by
    cases hk; cases hv
    rw [List.zip_cons_cons]
    unfold bindL
    rw [bindL_miss (zip_ne (List.nodup_cons.mp hn).1), if_pos hx]; simp
  | y :: ks, u :: vs, m, k + 1, x, v, hn, hk, hv, hx => by
    rw [List.zip_cons_cons]
    unfold bindL
    exact bindL_at (List.nodup_cons.mp hn).2 (by simpa using hk) (by simpa using hv) hx
theorem bindC_at {kf : Str → Option NameKind} : ∀ {ks : List Str} {vs : List Value} {m : Str → Option Value} {k : Nat} {x : Str} {v : Value}, ks.Nodup → ks[k]? = some x → vs[k]? = some v → kf x ≠ some .local → bindC kf (ks.zip vs) m x = some v
  | [], _, _, _, _, _, _, h, _, _ => by simp at h
  | _ :: _, [], _, _, _, _, _, _, h, _ => by simp at h
  | y :: ks, u :: vs, m, 0, x, v, hn, hk, hv, hx => by
    cases hk; cases hv
    rw [List.zip_cons_cons]
    unfold bindC
    rw [bindC_miss (zip_ne (List.nodup_cons.mp hn).1), if_neg hx]; simp
  | y :: ks, u :: vs, m, k + 1, x, v, hn, hk, hv, hx => by
    rw [List.zip_cons_cons]
    unfold bindC
    exact bindC_at (List.nodup_cons.mp hn).2 (by simpa using hk) (by simpa using hv) hx

noncomputable def rho0 (ds : List D) (n : Nat) : Loc := ds.map (fun d => some (.p d)) ++ List.replicate n none
theorem rho0_at {ds : List D} {n k : Nat} {b : B} (h : (rho0 ds n)[k]? = some (some b)) : ∃ d, ds[k]? = some d ∧ b = .p d := by
  unfold rho0 at h
  rcases Nat.lt_or_ge k ds.length with q | q
  · rw [List.getElem?_append_left (by simpa using q), List.getElem?_map] at h
    cases e : ds[k]? with
    | none => rw [e] at h; cases h
    | some d => rw [e] at h; cases h; exact ⟨d, rfl, rfl⟩
  · rw [List.getElem?_append_right (by simpa using q), List.getElem?_replicate] at h
    split at h <;> cases h

theorem all0 {P : List Value → Prop} (h : P []) (vs : List Value) (e : vs.length = 0) : P vs := by
  rw [List.eq_nil_of_length_eq_zero e]; exact h
theorem allS {P : List Value → Prop} {n : Nat} (h : ∀ v vs, vs.length = n → P (v :: vs)) : ∀ vs : List Value, vs.length = n + 1 → P vs
  | [], e => absurd e (Nat.succ_ne_zero n).symm
  | v :: vs, e => h v vs (Nat.succ.inj e)
theorem all1 {P : List Value → Prop} (h : ∀ v1, P [v1]) : ∀ vs : List Value, vs.length = 1 → P vs := allS fun v1 => all0 (h v1)
theorem all2 {P : List Value → Prop} (h : ∀ v1 v2, P [v1, v2]) : ∀ vs : List Value, vs.length = 2 → P vs := allS fun v1 => all1 (h v1)
theorem all3 {P : List Value → Prop} (h : ∀ v1 v2 v3, P [v1, v2, v3]) : ∀ vs : List Value, vs.length = 3 → P vs := allS fun v1 => all2 (h v1)
theorem all4 {P : List Value → Prop} (h : ∀ v1 v2 v3 v4, P [v1, v2, v3, v4]) : ∀ vs : List Value, vs.length = 4 → P vs := allS fun v1 => all3 (h v1)
theorem all5 {P : List Value → Prop} (h : ∀ v1 v2 v3 v4 v5, P [v1, v2, v3, v4, v5]) : ∀ vs : List Value, vs.length = 5 → P vs := allS fun v1 => all4 (h v1)
theorem all6 {P : List Value → Prop} (h : ∀ v1 v2 v3 v4 v5 v6, P [v1, v2, v3, v4, v5, v6]) : ∀ vs : List Value, vs.length = 6 → P vs := allS fun v1 => all5 (h v1)
theorem all7 {P : List Value → Prop} (h : ∀ v1 v2 v3 v4 v5 v6 v7, P [v1, v2, v3, v4, v5, v6, v7]) : ∀ vs : List Value, vs.length = 7 → P vs := allS fun v1 => all6 (h v1)
theorem all8 {P : List Value → Prop} (h : ∀ v1 v2 v3 v4 v5 v6 v7 v8, P [v1, v2, v3, v4, v5, v6, v7, v8]) : ∀ vs : List Value, vs.length = 8 → P vs := allS fun v1 => all7 (h v1)
theorem fn_ok {W : Wd} {x nm : Str} {st : Stmt} (hF : FnAt W x nm st) {lvl : Nat} (ps ks gs : List Str) {ds : List D} {d : D} (hchk : ∀ n, chk (scopeOf st) (ps ++ ks) gs n = true) (hlen : ps.length = ds.length)
    (hbind : ∀ (m : FnData) (vs : List Value), vs.length = ds.length → bindArgs (fdOf st nm m) ⟨vs, []⟩ = pure (ps.zip vs))
    (hbody : ∀ A m L a h₀ av, Ex (mkC W st nm (ps ++ ks) gs lvl A m L a h₀ av) (rho0 ds ks.length) (bodyOf st) fun o => o = .ret d ∨ (d = .none ∧ ∃ ρ', o = .next ρ')) : CallOK W (lvl + 1) x ds d := by
  obtain ⟨a, oc, od, osl, m, hm, ho, hcd⟩ := hF
  refine ⟨a, _, _, hm, ho, rfl, fun A s vs av Q E R G hav rs hQ => ?_⟩
  have hlv := rs.length
  have C1 := hchk (s.heap.objs.size + 1)
  unfold chk at C1
  simp only [Bool.and_eq_true, List.all_eq_true, Bool.or_eq_true, beq_iff_eq, Bool.not_eq_true', decide_eq_true_eq] at C1
  obtain ⟨⟨⟨⟨⟨⟨⟨hkind, hco⟩, hge⟩, hks⟩, hgs⟩, hnd⟩, hdk⟩, hdg⟩ := C1
  have hpnd : ps.Nodup := (List.nodup_append.mp hnd).1
  refine wpAny_call (codeAny_call_cells (fd := fdOf st nm m) (body := bodyOf st) (binds := ps.zip vs) (by have := R.2.1; omega) (G.2.2.2 a _ ho) rfl G.2.2.1 (codeRec_of G.2.2.2 hcd) rfl (hbind m vs hlv) rfl (fun y hy => hks y.1 (List.mem_append_left _ (List.of_mem_zip hy).1)) (fun s₁ X => ?_) hco hge hkind)
  let c : Cx := mkC W st nm (ps ++ ks) gs lvl (A.deeper (callEnvC (fdOf st nm m) s.heap.objs.size a)) m s.heap.objs.size a s.heap av
  obtain ⟨h₁, tk, rfl, hk₁⟩ := X.done
  have hOk : c.Ok := {
    kind := hkind, gl := rfl, bi := rfl, room := R.deeper, nod := hnd
    kinds := fun k y hy => by
      rcases hks y (List.mem_of_getElem? hy) with q | q
      · exact .inl q
      · exact .inr q.1
    globs := fun k y hy => hgs y (List.mem_of_getElem? hy)
    nodb := fun y hy => by
      rcases hy with hy | hy
      · exact hdk y hy
      · exact hdg y hy
    isFn := fun _ => {
      av0 := hav, hi := Nat.le_refl _, g0 := G, apart := X.apart
      cellsHi := fun n cd hc => Nat.le_of_lt (X.above n cd (mem_of_lookup hc))
      cellsAll := fun k y hy hc => by
        rcases hks y (List.mem_of_getElem? hy) with q | q
        · have z : (callEnvC (fdOf st nm m) s.heap.objs.size a).kindOf y = some .local := q
          have w : (callEnvC (fdOf st nm m) s.heap.objs.size a).kindOf y = some .cell := hc
          rw [z] at w; cases w
        · exact q.2 } }
  have noOwn : ∀ b, ¬ Own (rho0 ds ks.length) b := fun b ⟨k, es, e⟩ => by
    obtain ⟨_, _, e'⟩ := rho0_at e; cases e'
  have F : FS c (rho0 ds ks.length) h₁ := {
    ok := hOk, g := G.ext hk₁, av1 := fun b z => ext_some hk₁ (hav b z), keep := fun _ => hk₁, ns := ⟨_, X.toInCall.ns⟩, cells := fun _ n cd hc => ⟨_, X.cell n cd hc⟩
    var := fun k y b hk hb => by
      obtain ⟨d', hd', rfl⟩ := rho0_at hb
      have hlt : k < ps.length := by
        rw [hlen]
        rcases Nat.lt_or_ge k ds.length with q | q
        · exact q
        · rw [List.getElem?_eq_none q] at hd'; cases hd'
      have hk' : ps[k]? = some y := by
        have : (ps ++ ks)[k]? = some y := hk
        rwa [List.getElem?_append_left hlt] at this
      obtain ⟨v, hv, r⟩ := rs.get hd'
      refine ⟨v, ?_, Rep.mono (fun b o _ _ _ _ e => hk₁ b o e) (fun b _ q => by
        rcases q with q | q
        · exact q
        · exact absurd q (noOwn b)) r⟩
      rcases hks y (List.mem_append_left _ (List.mem_of_getElem? hk')) with q | ⟨q, q2⟩
      · exact .inl ⟨q, _, X.toInCall.ns, bindL_at hpnd hk' hv q⟩
      · obtain ⟨cd, hcd'⟩ := Option.isSome_iff_exists.mp q2
        have hc := X.cell y cd hcd'
        have e : bindC (callEnvC (fdOf st nm m) s.heap.objs.size a).kindOf (ps.zip vs) (fun _ => none) y = some v := bindC_at hpnd hk' hv (by
          have z : (callEnvC (fdOf st nm m) s.heap.objs.size a).kindOf y = some .cell := q
          rw [z]; decide)
        rw [e] at hc
        exact .inr ⟨.inl q, cd, hcd', hc⟩
    own0 := fun k b es e => absurd ⟨k, es, e⟩ (noOwn b)
    ownd := fun k k' b es es' e _ => absurd ⟨k, es, e⟩ (noOwn b) }
  refine hbody _ m s.heap.objs.size a s.heap av _ _ _ rfl F fun fl o h' tk' ho' hp hP => ?_
  have x : Ext s.heap h' := keep_of (c := c) rfl F hp
  rcases ho' with rfl | ⟨rfl, ρ', rfl⟩
  · obtain ⟨v, rfl, r⟩ := hP
    exact hQ v h' tk' x r
  · obtain ⟨rfl, _, _⟩ := hP
    exact hQ .none h' tk' x .none
end Mine
end
section
open PySem PySem.W PyProof.Rows PySem.Calls
set_option maxRecDepth 10000
namespace Mine

variable {c : Cx} {ρ : Loc}

/-- what a loop's turn hands on -/
noncomputable def Turn (Φ : Out → Prop) (J : Loc → Prop) : Out → Prop
  | .next ρ' => J ρ'
  | .cont ρ' => J ρ'
  | .brk ρ' => Φ (.next ρ')
  | .ret d => Φ (.ret d)

theorem ExS.while (I : Nat → Loc → Prop) (n : Nat) {test : Expr} {body : List Stmt} {pos : Pos} {Φ : Out → Prop} (h0 : I n ρ)
    (step : ∀ n ρ', I n ρ' → ∃ b, EvT c ρ' test b ∧ (b = true → Ex c ρ' body (Turn Φ fun ρ'' => ∃ m, m < n ∧ I m ρ'')) ∧ (b = false → Φ (.next ρ'))) : ExS c ρ (.While test body [] pos) Φ := by
  intro s Q E hf F hQ
  refine wpAny_While (codeAny_whileLoop (fun n s' => ∃ h' tk ρ', s' = after s h' tk ∧ I n ρ' ∧ FS c ρ' h' ∧ Pres c ρ s.heap h' ∧ OwnSub s.heap ρ ρ') ?_ n ⟨s.heap, s.toks, ρ, rfl, h0, F, (Ext.refl _).pres, OwnSub.refl _ _⟩)
  rintro n s' ⟨h', tk, ρ', rfl, hI, F', P, O⟩
  obtain ⟨b, hT, hB, hN⟩ := step n ρ' hI
  refine hT _ _ _ F' fun g t y => ?_
  have P' : Pres c ρ s.heap g := P.trans O y.pres
  cases b with
  | false =>
    simp only [Bool.false_eq_true, if_false]
    exact wpAny_execs_nil (hQ _ (.next ρ') g t (hN rfl) P' ⟨rfl, F'.ext y, O⟩)
  | true =>
    simp only [if_true]
    refine hB rfl _ _ _ hf (F'.ext y) fun fl o g' t' ho hp hP => ?_
    have P'' : Pres c ρ s.heap g' := P'.trans O hp
    have hP' := hP.trans hf (F'.ext y) P' O
    cases o with
    | next ρ'' =>
      obtain ⟨rfl, F'', O''⟩ := hP'
      obtain ⟨m, hm, hI'⟩ := ho
      exact ⟨m, hm, g', t', ρ'', rfl, hI', F'', P'', O''⟩
    | cont ρ'' =>
      obtain ⟨rfl, F'', O''⟩ := hP'
      obtain ⟨m, hm, hI'⟩ := ho
      exact ⟨m, hm, g', t', ρ'', rfl, hI', F'', P'', O''⟩
    | brk ρ'' =>
      obtain ⟨rfl, F'', O''⟩ := hP'
      exact hQ _ (.next ρ'') g' t' ho P'' ⟨rfl, F'', O''⟩
    | ret d =>
      obtain ⟨v, rfl, r⟩ := hP'
      exact hQ _ (.ret d) g' t' ho P'' ⟨v, rfl, r⟩

noncomputable def ItemIs (single : Bool) (g : Heap) (v : Value) (us : List Value) : Prop := match single with
  | true => us = [v]
  | false => ∃ T, v = .ref T ∧ g.IsTuple T us.toArray

/-- an iterator, its items by their parts -/
structure Iter (c : Cx) (av : Addr → Prop) (target : Expr) (single tidy : Bool) (dss : List (List D)) (s : Heap) (I : Addr) (fp wr : List Addr) (P Md : Nat → Value → Heap → Prop) (St : Nat → Heap → Prop) (h : Heap) : Prop where
  turns : KTurns c.W.prog c.W.w c.A target I fp wr dss.length P Md St
  st : St 0 h
  new : ∀ b ∈ wr, s.get? b = none
  fpS : ∀ b ∈ fp, (h.get? b).isSome = true ∧ ((s.get? b).isSome = true → ∃ o its n, s.get? b = some o ∧ o.data = .seq its n ∧ ¬ av b)
  alive : ∀ i g, St i g → ∀ b ∈ wr, (g.get? b).isSome = true
  wq : tidy = true → ∀ i g b o, St i g → b ∈ wr → g.get? b = some o → ∀ its n, o.data ≠ .seq its n
  item : ∀ i v g, i < dss.length → P i v g → ∃ us ds, dss[i]? = some ds ∧ ItemIs single g v us ∧ Reps c.W (fun b => av b ∨ b ∈ wr) h us ds
  self : ∀ i (s : Shared) (Q : Value → Shared → Prop) (E : Value → Shared → Prop), St i s.heap → Q (.ref I) s → wpAny (model c.W.prog c.W.w) c.A (pyIter (.ref I)) Q E s
  size : dss.length ≤ sizeLine

noncomputable def EvIt (c : Cx) (ρ : Loc) (target iter : Expr) (single tidy : Bool) (dss : List (List D)) : Prop :=
  ∀ (s : Shared) (Q : Value → Shared → Prop) (E : Value → Shared → Prop), FS c ρ s.heap →
    (∀ I fp wr P Md St h' tk, Ext s.heap h' → Iter c (Pv c ρ) target single tidy dss s.heap I fp wr P Md St h' → Q (.ref I) (after s h' tk)) →
    wpAny (model c.W.prog c.W.w) c.A (eval iter c.env) (fun x s₁ => wpAny (model c.W.prog c.W.w) c.A (pyIter x) Q E s₁) E s

theorem reps_wr {W : Wd} {av : Addr → Prop} {h h' : Heap} {wr : List Addr} {vs : List Value} {ds : List D} (r : Reps W av h vs ds) (x : Ext h h') (hn : ∀ b ∈ wr, h.get? b = none) : Reps W (fun b => av b ∨ b ∈ wr) h' vs ds :=
  r.mono x.keq fun b hb q => by
    rcases q with q | q
    · exact q
    · rw [hn b q] at hb; cases hb
theorem letGo_name {x : Str} {p : Pos} (it v : Value) : letOwnedTupleGo (.Name x p) it v = pure () := rfl

theorem EvIt.list {x : Str} {p : Pos} {iter : Expr} {ds : List D} (hpure : Ev c ρ iter (.list ds)) (hz : ds.length ≤ 100000) : EvIt c ρ (.Name x p) iter true true (ds.map fun d => [d]) := by
  intro s Q E F h
  refine hpure s _ _ F fun v g t y r => ?_
  cases r with
  | list na pl rs =>
  rename_i a vs
  have hlen := rs.length
  refine wpAny_pyIter_list pl.isList ?_
  let it : Obj := { cls := .type "list_iterator", data := .fields #[.ref a, .int 0 0] }
  have hne : a ≠ g.objs.size := fun e => by
    obtain ⟨n, e'⟩ := pl
    exact absurd (Heap.lt_size e') (by rw [e]; exact Nat.lt_irrefl _)
  have W := Walks.list (prog := c.W.prog) (w := c.W.w) (A := c.A) F.ok.room.1 g.objs.size a hne vs.toArray
  rw [show vs.toArray.size = (ds.map fun d => [d]).length by simp [hlen]] at W
  have hx := y.trans (Ext.push g it)
  refine h _ _ _ _ _ _ (g.push it) t hx ⟨KTurns.ofWalks W fun i v s Q E _ hQ => wpAny_of_eq (letGo_name _ _) hQ, ⟨⟨_, Heap.get?_push_size _ rfl, rfl, rfl⟩, (PL.ext pl (Ext.push g it)).isList⟩, ?_, ?_, ?_, ?_, ?_, ?_, ?_⟩
  · intro b hb
    rw [List.mem_singleton.mp hb]
    exact fresh_of y
  · intro b hb
    rcases List.mem_cons.mp hb with rfl | hb
    · refine ⟨by rw [Heap.get?_push_size g (o := it) rfl]; rfl, fun z => ?_⟩
      rw [fresh_of y] at z; cases z
    · rw [List.mem_singleton.mp hb]
      obtain ⟨n, e⟩ := pl
      refine ⟨by rw [Ext.push g it _ _ e]; rfl, fun z => ?_⟩
      obtain ⟨o, e'⟩ := Option.isSome_iff_exists.mp z
      have := y _ _ e'
      rw [e] at this; cases this
      exact ⟨_, _, _, e', rfl, na⟩
  · rintro i g' ⟨⟨o', e', _, hd⟩, _⟩ b hb
    rw [List.mem_singleton.mp hb, e']; rfl
  · rintro _ i g' b o ⟨⟨o', e', _, hd⟩, _⟩ hb e its n hq
    rw [List.mem_singleton.mp hb, e'] at e; cases e
    rw [hd] at hq; cases hq
  · intro i v g' hi hP
    have hi' : i < vs.length := by rw [hlen]; simpa using hi
    have hv : vs[i]? = some v := by simpa using hP
    obtain ⟨d, hd, r⟩ := rs.get' hv
    exact ⟨[v], [d], by rw [List.getElem?_map, hd]; rfl, rfl, reps_wr (.cons r .nil) (Ext.push g it) fun b hb => by rw [List.mem_singleton.mp hb]; exact get?_size g⟩
  · exact W.self
  · simpa using sz_line hz

/-- the heap changes at an iterator's own objects -/
theorem FS.but {h h' : Heap} {wr : List Addr} (hf : c.fn = true) (F : FS c ρ h) (hk : ∀ b o, b ∉ wr → h.get? b = some o → h'.get? b = some o) (hp : ∀ b ∈ wr, ¬ Priv c ρ b) (h0 : ∀ b ∈ wr, c.h₀.get? b = none)
    (hq : ∀ b ∈ wr, ∀ o, h.get? b = some o → ∀ its n, o.data ≠ .seq its n) : FS c ρ h' := by
  have sk : SeqKeep h h' := fun b o its n hd e => hk b o (fun hb => hq b hb o e its n hd) e
  have kp : Ext c.h₀ h' := fun b o e => hk b o (fun hb => by rw [h0 b hb] at e; cases e) (F.keep hf b o e)
  have hL : c.env.locals ∉ wr := fun hb => hp _ hb (.inl rfl)
  have hC : ∀ {n cd}, c.env.cells.lookup n = some cd → cd ∉ wr := fun hc hb => hp _ hb (.inr (.inl ⟨_, hc⟩))
  refine ⟨F.ok, (F.ok.isFn hf).g0.ext kp, fun a z => ext_some kp ((F.ok.isFn hf).av0 a z), fun _ => kp, ?_, fun _ n cd hc => ?_, fun k x b hk' hb => ?_, fun k a ds e => ?_, F.ownd⟩
  · obtain ⟨m, hn⟩ := F.ns
    exact ⟨m, hn.at' fun o e => hk _ o hL e⟩
  · obtain ⟨v, o, e, hd⟩ := F.cells hf n cd hc
    exact ⟨v, o, hk _ o (hC hc) e, hd⟩
  · obtain ⟨v, V, H⟩ := F.var k x b hk' hb
    refine ⟨v, ?_, H.monoS sk fun _ _ q => q⟩
    rcases V with ⟨q, m, hn, hm⟩ | ⟨q, cd, hc, o, e, hd⟩
    · exact .inl ⟨q, m, hn.at' fun o e => hk _ o hL e, hm⟩
    · exact .inr ⟨q, cd, hc, o, hk _ o (hC hc) e, hd⟩
  · obtain ⟨p, q, its, r⟩ := F.own0 k a ds e
    exact ⟨p, q, its, PL.seqKeep r sk⟩

theorem not_priv_seq {h : Heap} (hf : c.fn = true) (F : FS c ρ h) {b : Addr} {o : Obj} {its : Array Value} {n : Nat} (e : h.get? b = some o) (hd : o.data = .seq its n) (no : ¬ Own ρ b) : ¬ Priv c ρ b := by
  rintro (rfl | ⟨x, hc⟩ | z)
  · obtain ⟨m, o', es, ep, e', hd', _⟩ := F.ns
    rw [e] at e'; cases e'; rw [hd] at hd'; cases hd'
  · obtain ⟨v, o', e', hd'⟩ := F.cells hf x b hc
    rw [e] at e'; cases e'; rw [hd] at hd'; cases hd'
  · exact no z
theorem priv_some {h : Heap} (hf : c.fn = true) (F : FS c ρ h) {b : Addr} (p : Priv c ρ b) : (h.get? b).isSome = true := by
  rcases p with rfl | ⟨x, hc⟩ | ⟨k, ds, z⟩
  · obtain ⟨m, o', es, ep, e', _⟩ := F.ns
    rw [e']; rfl
  · obtain ⟨v, o', e', hd'⟩ := F.cells hf x b hc
    rw [e']; rfl
  · obtain ⟨_, _, its, n, e⟩ := F.own0 k b ds z
    rw [e]; rfl

/-- how a target is bound to an item's parts -/
noncomputable def BindsTo' (c : Cx) (target : Expr) (single : Bool) (kxs : List (Nat × Str)) : Prop :=
  match single with
  | true => ∃ k x p, target = .Name x p ∧ kxs = [(k, x)]
  | false => ∃ elts k p, target = .Tuple elts k p ∧ Binds c kxs ((assignEach elts c.env).map (·.2)) ∧ (assignEach elts c.env).findIdx? (·.1) = none ∧ (assignEach elts c.env).length = kxs.length

theorem bind_item {target : Expr} {single : Bool} {kxs : List (Nat × Str)} {v : Value} {us : List Value} {ds : List D} {s : Shared} {Q : Unit → Shared → Prop} {E : Value → Shared → Prop} (hf : c.fn = true) (F : FS c ρ s.heap) (hb : BindsTo' c target single kxs)
    (hk : ∀ q ∈ kxs, c.ks[q.1]? = some q.2 ∧ q.1 < ρ.length) (hl : kxs.length = ds.length) (hi : ItemIs single s.heap v us) (rs : Reps c.W (Pv c ρ) s.heap us ds)
    (h : ∀ h' tk, FS c (setP ρ kxs ds) h' → Pres c ρ s.heap h' → Q () (after s h' tk)) : wpAny (model c.W.prog c.W.w) c.A (assign target c.env v) Q E s := by
  cases single with
  | true =>
    obtain ⟨k, x, p, rfl, rfl⟩ := hb
    have e : us = [v] := hi
    subst e
    cases rs with
    | cons r rs =>
    cases rs
    exact wpAny_assign_Name (store_p hf F (hk _ (.head _)).1 (hk _ (.head _)).2 r fun h' tk F' pr _ => h h' tk F' pr)
  | false =>
    obtain ⟨elts, k, p, rfl, hB, hidx, hne⟩ := hb
    obtain ⟨T, rfl, hT⟩ := hi
    have hlen := rs.length
    refine wpAny_assign_Tuple F.ok.room.1 hT (by simp [hne, hl, hlen]) hidx fun h' eb => ?_
    have x' : Ext s.heap h' := fun b o e => eb b o (Nat.ne_of_lt (Heap.lt_size e)) e
    exact stores_p hB hf (F.ext x') hk hl (rs.ext x') fun h'' tk' F' pr _ => h h'' tk' F' (x'.pres.trans (OwnSub.refl _ _) pr)

theorem ExS.for (kxs : List (Nat × Str)) (I : Nat → Loc → Prop) {target iter : Expr} {single : Bool} {dss : List (List D)} {body : List Stmt} {pos : Pos} {Φ : Out → Prop} (hb : BindsTo' c target single kxs) (hk : ∀ q ∈ kxs, c.ks[q.1]? = some q.2)
    (hit : EvIt c ρ target iter single true dss) (h0 : I 0 ρ)
    (step : ∀ i ρ' ds, I i ρ' → dss[i]? = some ds → (∀ q ∈ kxs, q.1 < ρ'.length) ∧ kxs.length = ds.length ∧ Ex c (setP ρ' kxs ds) body (Turn Φ (I (i + 1))))
    (done : ∀ ρ', I dss.length ρ' → Φ (.next ρ')) (hs : ∀ x, foldedSetIterable iter c.env x = pure x := by intro _; rfl) : ExS c ρ (.For target iter body [] pos) Φ := by
  intro s Q E hf F hQ
  refine wpAny_For (hit s _ _ F fun J fp wr P Md St g tk y it => ?_) hs
  have G := F.ext y
  have wrS : ∀ b ∈ wr, (g.get? b).isSome = true := fun b hb => (it.fpS b (it.turns.sub b hb)).1
  have h0w : ∀ b ∈ wr, c.h₀.get? b = none := fun b hb => by
    cases e : c.h₀.get? b with
    | none => rfl
    | some o => have := F.keep hf b o e; rw [it.new b hb] at this; cases this
  have pw : ∀ b ∈ wr, ¬ Priv c ρ b := fun b hb p => by have := priv_some hf F p; rw [it.new b hb] at this; cases this
  have pf : ∀ b ∈ fp, ¬ Priv c ρ b := fun b hb p => by
    obtain ⟨o, its, n, e, hd, na⟩ := (it.fpS b hb).2 (priv_some hf F p)
    exact not_priv_seq hf F e hd (fun z => na (.inr z)) p
  have grow : ∀ {ρ' : Loc}, OwnSub g ρ ρ' → ∀ b, (g.get? b).isSome = true → ¬ Priv c ρ b → ¬ Priv c ρ' b := fun {ρ'} os b hs np p => by
    rcases p with p | p | p
    · exact np (.inl p)
    · exact np (.inr (.inl p))
    · rcases os b p with z | z
      · exact np (.inr (.inr z))
      · rw [z] at hs; cases hs
  refine codeAny_forLoop_any (fun k s' => ∃ h' tk' ρ' i, s' = after s h' tk' ∧ i ≤ dss.length ∧ k = dss.length + 1 - i ∧ St i h' ∧ I i ρ' ∧ FS c ρ' h' ∧ (∀ b o, g.get? b = some o → ¬ Priv c ρ b → b ∉ wr → h'.get? b = some o) ∧ OwnSub g ρ ρ') ?_ (dss.length + 1)
    ⟨g, tk, ρ, 0, rfl, Nat.zero_le _, rfl, it.st, h0, G, fun b o e _ _ => e, OwnSub.refl _ _⟩
  rintro k s' ⟨h', tk', ρ', i, rfl, hi, rfl, hst, hI, F', PW, os⟩
  have toPres : ∀ {h₂ : Heap}, (∀ b o, g.get? b = some o → ¬ Priv c ρ b → b ∉ wr → h₂.get? b = some o) → Pres c ρ s.heap h₂ := fun pw' b o e np => pw' b o (y b o e) np fun hb => by rw [it.new b hb] at e; cases e
  have toSub : ∀ {ρ₂ : Loc}, OwnSub g ρ ρ₂ → OwnSub s.heap ρ ρ₂ := fun os b o => by
    rcases os b o with z | z
    · exact .inl z
    · right
      cases e : s.heap.get? b with
      | none => rfl
      | some ob => rw [y b ob e] at z; cases z
  by_cases hlt : i < dss.length
  · refine it.turns.item i _ _ _ hlt hst fun v h₁ t₁ hMd hk₁ => it.turns.go i v _ _ _ hMd fun h₂ hP hst₂ hk₂ => ?_
    have hk₁₂ : ∀ b o, b ∉ wr → h'.get? b = some o → h₂.get? b = some o := fun b o hb e => hk₂ b o hb (hk₁ b o hb e)
    have F₂ : FS c ρ' h₂ := F'.but hf hk₁₂ (fun b hb => grow os b (wrS b hb) (pw b hb)) h0w fun b hb o e => it.wq rfl i h' b o hst hb e
    have PW₂ : ∀ b o, g.get? b = some o → ¬ Priv c ρ b → b ∉ wr → h₂.get? b = some o := fun b o e np hb => hk₁₂ b o hb (PW b o e np hb)
    obtain ⟨us, ds, hds, hItem, rs⟩ := it.item i v h₂ hlt hP
    obtain ⟨hkl, hl, hbody⟩ := step i ρ' ds hI hds
    have rs₂ : Reps c.W (Pv c ρ') h₂ us ds := rs.mono (fun b o its n na hd e => PW₂ b o e (not_priv_seq hf G e hd fun z => na (.inl (.inr z))) fun hb => it.wq rfl 0 g b o it.st hb e its n hd) fun b hs q => .inl (by
      rcases q with q | q
      · exact .inl q
      · rcases os b q with z | z
        · exact .inr z
        · rw [z] at hs; cases hs)
    refine bind_item hf F₂ hb (fun q hq => ⟨hk q hq, hkl q hq⟩) hl hItem rs₂ fun h₃ t₃ F₃ pr₃ => ?_
    refine hbody _ _ _ hf F₃ fun fl o h₄ t₄ ho pr₄ hP₄ => ?_
    have os3 : OwnSub h₂ ρ' (setP ρ' kxs ds) := fun b z => .inl (own_setP z)
    have pr₂₄ : Pres c ρ' h₂ h₄ := pr₃.trans os3 pr₄
    have hP₂₄ := hP₄.trans hf F₃ pr₃ os3
    have PW₄ : ∀ b o, g.get? b = some o → ¬ Priv c ρ b → b ∉ wr → h₄.get? b = some o := fun b o e np hb => pr₂₄ b o (PW₂ b o e np hb) (grow os b (by rw [e]; rfl) np)
    have os₄ : ∀ {ρ'' : Loc}, OwnSub h₂ ρ' ρ'' → OwnSub g ρ ρ'' := fun o b z => by
      rcases o b z with w | w
      · exact os b w
      · by_cases hpr : Own ρ b
        · exact .inl hpr
        · right
          cases e : g.get? b with
          | none => rfl
          | some ob =>
            exfalso
            by_cases hw : b ∈ wr
            · -- an iterator's own object still stands
              have : (h₂.get? b).isSome = true := it.alive _ _ hst₂ b hw
              rw [w] at this; cases this
            · by_cases hp : Priv c ρ b
              · rcases hp with rfl | ⟨x, hc⟩ | hp
                · have := priv_some hf F₂ (.inl rfl); rw [w] at this; cases this
                · have := priv_some hf F₂ (.inr (.inl ⟨x, hc⟩)); rw [w] at this; cases this
                · exact hpr hp
              · rw [PW₂ b ob e hp hw] at w; cases w
    have st₄ : St (i + 1) h₄ := it.turns.frame _ _ _ hst₂ fun b hb o e => pr₂₄ b o e (grow os b (it.fpS b hb).1 (pf b hb))
    cases o with
    | next ρ'' =>
      obtain ⟨rfl, F₄, o₄⟩ := hP₂₄
      exact ⟨dss.length + 1 - (i + 1), by omega, h₄, t₄, ρ'', i + 1, rfl, hlt, rfl, st₄, ho, F₄, PW₄, os₄ o₄⟩
    | cont ρ'' =>
      obtain ⟨rfl, F₄, o₄⟩ := hP₂₄
      exact ⟨dss.length + 1 - (i + 1), by omega, h₄, t₄, ρ'', i + 1, rfl, hlt, rfl, st₄, ho, F₄, PW₄, os₄ o₄⟩
    | brk ρ'' =>
      obtain ⟨rfl, F₄, o₄⟩ := hP₂₄
      exact hQ _ (.next ρ'') h₄ t₄ ho (toPres PW₄) ⟨rfl, F₄, toSub (os₄ o₄)⟩
    | ret d =>
      obtain ⟨u, rfl, r⟩ := hP₂₄
      exact hQ _ (.ret d) h₄ t₄ ho (toPres PW₄) ⟨u, rfl, r⟩
  · have hin : i = dss.length := by omega
    subst hin
    refine it.turns.done _ _ _ hst fun h₁ t₁ hk₁ => wpAny_execs_nil ?_
    have F₁ : FS c ρ' h₁ := F'.but hf hk₁ (fun b hb => grow os b (wrS b hb) (pw b hb)) h0w fun b hb o e => it.wq rfl _ h' b o hst hb e
    exact hQ _ (.next ρ') h₁ t₁ (done ρ' hI) (toPres fun b o e np hb => hk₁ b o hb (PW b o e np hb)) ⟨rfl, F₁, toSub os⟩

-- a tuple's items
theorem EvIt.tuple {x : Str} {p : Pos} {iter : Expr} {ds : List D} (hpure : Ev c ρ iter (.tup ds)) (hz : ds.length ≤ 100000) : EvIt c ρ (.Name x p) iter true true (ds.map fun d => [d]) := by
  intro s Q E F h
  refine hpure s _ _ F fun v g t y r => ?_
  cases r with
  | tup na pl rs =>
  rename_i a vs
  have hlen := rs.length
  refine wpAny_pyIter_tuple pl ?_
  let it : Obj := { cls := .type "tuple_iterator", data := .fields #[.ref a, .int 0 0] }
  have hne : a ≠ g.objs.size := fun e => by
    obtain ⟨o, e', _⟩ := pl
    exact absurd (Heap.lt_size e') (by rw [e]; exact Nat.lt_irrefl _)
  have W := Walks.tuple (prog := c.W.prog) (w := c.W.w) (A := c.A) F.ok.room.1 g.objs.size a hne vs.toArray
  rw [show vs.toArray.size = (ds.map fun d => [d]).length by simp [hlen]] at W
  have hx := y.trans (Ext.push g it)
  refine h _ _ _ _ _ _ (g.push it) t hx ⟨KTurns.ofWalks W fun i v s Q E _ hQ => wpAny_of_eq (letGo_name _ _) hQ, ⟨⟨_, Heap.get?_push_size _ rfl, rfl, rfl⟩, isTuple_keq (av := fun _ => False) pl (Ext.push g it).keq (fun z => z)⟩, ?_, ?_, ?_, ?_, ?_, ?_, ?_⟩
  · intro b hb
    rw [List.mem_singleton.mp hb]
    exact fresh_of y
  · intro b hb
    rcases List.mem_cons.mp hb with rfl | hb
    · refine ⟨by rw [Heap.get?_push_size g (o := it) rfl]; rfl, fun z => ?_⟩
      rw [fresh_of y] at z; cases z
    · rw [List.mem_singleton.mp hb]
      obtain ⟨o₁, e, hc, n, hd⟩ := pl
      refine ⟨by rw [Ext.push g it _ _ e]; rfl, fun z => ?_⟩
      obtain ⟨o, e'⟩ := Option.isSome_iff_exists.mp z
      have := y _ _ e'
      rw [e] at this; cases this
      exact ⟨_, _, _, e', hd, na⟩
  · rintro i g' ⟨⟨o', e', _, hd⟩, _⟩ b hb
    rw [List.mem_singleton.mp hb, e']; rfl
  · rintro _ i g' b o ⟨⟨o', e', _, hd⟩, _⟩ hb e its n hq
    rw [List.mem_singleton.mp hb, e'] at e; cases e
    rw [hd] at hq; cases hq
  · intro i v g' hi hP
    have hi' : i < vs.length := by rw [hlen]; simpa using hi
    have hv : vs[i]? = some v := by simpa using hP
    obtain ⟨d, hd, r⟩ := rs.get' hv
    exact ⟨[v], [d], by rw [List.getElem?_map, hd]; rfl, rfl, reps_wr (.cons r .nil) (Ext.push g it) fun b hb => by rw [List.mem_singleton.mp hb]; exact get?_size g⟩
  · exact W.self
  · simpa using sz_line hz

-- reversed(a list)
theorem EvIt.rev (k : Nat) {x : Str} {p np pos : Pos} {e : Expr} {ds : List D} (hk : c.gs[k]? = some ("reversed" : Str)) (hb : Blt c.W "reversed" (.type "reversed")) (ha : Ev c ρ e (.list ds)) (hz : ds.length ≤ 100000)
    (he : starEach [e] c.env = [(false, eval e c.env)] := by rfl) : EvIt c ρ (.Name x p) (.Call (.Name "reversed" np) [e] [] pos) true true (ds.reverse.map fun d => [d]) := by
  intro s Q E F h
  refine ev_callB (ds := [.list ds]) k F hk hb ⟨eval e c.env, [], by rw [he]; rfl, by rw [he]; rfl⟩ (EvL.cons ha EvL.nil he) fun vs g t y rs => ?_
  cases rs with
  | cons r rs =>
  cases rs
  cases r with
  | list na pl rs =>
  rename_i a vs
  have hlen := rs.length
  refine call_reversed_list pl.isList ?_
  have hr : (g.push (revObj a ((vs.toArray.size : Int) - 1))).IsRevIter g.objs.size a ((vs.toArray.size : Int) - 1) := ⟨_, Heap.get?_push_size _ rfl, rfl, rfl⟩
  refine wpAny_pyIter_revIter hr ?_
  have hne : a ≠ g.objs.size := fun e => by
    obtain ⟨n, e'⟩ := pl
    exact absurd (Heap.lt_size e') (by rw [e]; exact Nat.lt_irrefl _)
  have W := Walks.listRev (prog := c.W.prog) (w := c.W.w) (A := c.A) F.ok.room.1 g.objs.size a hne vs.toArray
  rw [show vs.toArray.size = (ds.reverse.map fun d => [d]).length by simp [hlen]] at W
  have xg := Ext.push g (revObj a ((vs.toArray.size : Int) - 1))
  have hx := y.trans xg
  have hsz : (ds.reverse.map fun d => [d]).length = vs.toArray.size := by simp [hlen]
  refine h _ _ _ _ _ _ _ t hx ⟨KTurns.ofWalks W fun i v s Q E _ hQ => wpAny_of_eq (letGo_name _ _) hQ, ⟨Nat.zero_le _, by rw [hsz]; simpa using hr, (PL.ext pl xg).isList⟩, ?_, ?_, ?_, ?_, ?_, ?_, ?_⟩
  · intro b hb
    rw [List.mem_singleton.mp hb]
    exact fresh_of y
  · intro b hb
    rcases List.mem_cons.mp hb with rfl | hb
    · refine ⟨by rw [Heap.get?_push_size g (o := revObj a ((vs.toArray.size : Int) - 1)) rfl]; rfl, fun z => ?_⟩
      rw [fresh_of y] at z; cases z
    · rw [List.mem_singleton.mp hb]
      obtain ⟨n, e⟩ := pl
      refine ⟨by rw [xg _ _ e]; rfl, fun z => ?_⟩
      obtain ⟨o, e'⟩ := Option.isSome_iff_exists.mp z
      have := y _ _ e'
      rw [e] at this; cases this
      exact ⟨_, _, _, e', rfl, na⟩
  · rintro i g' ⟨_, ⟨o', e', _, hd⟩, _⟩ b hb
    rw [List.mem_singleton.mp hb, e']; rfl
  · rintro _ i g' b o ⟨_, ⟨o', e', _, hd⟩, _⟩ hb e its n hq
    rw [List.mem_singleton.mp hb, e'] at e; cases e
    rw [hd] at hq; cases hq
  · intro i v g' hi hP
    have hi' : i < vs.length := by rw [hlen]; simpa using hi
    have hv : vs[vs.length - 1 - i]? = some v := by
      have : vs.toArray[(ds.reverse.map fun d => [d]).length - 1 - i]? = some v := hP
      rw [hsz] at this; simpa using this
    obtain ⟨d, hd, r⟩ := rs.get' hv
    refine ⟨[v], [d], ?_, rfl, reps_wr (.cons r .nil) xg fun b hb => by rw [List.mem_singleton.mp hb]; exact get?_size g⟩
    rw [List.getElem?_map, List.getElem?_reverse (by rw [← hlen]; exact hi'), ← hlen, hd]; rfl
  · exact W.self
  · simpa using sz_line hz

-- ranges
noncomputable def rng (a st : Int) (n : Nat) : List (List D) := (List.range n).map fun (i : Nat) => [D.int (a + (i : Int) * st)]
theorem rng_length (a st : Int) (n : Nat) : (rng a st n).length = n := by simp [rng]
theorem rng_get {a st : Int} {n i : Nat} (h : i < n) : (rng a st n)[i]? = some [D.int (a + (i : Int) * st)] := by
  unfold rng; rw [List.getElem?_map, List.getElem?_range h]; rfl
theorem it_range {x : Str} {p : Pos} {a b st : Int} {n : Nat} {t u v : Tok} {s : Shared} {g : Heap} {r : Addr} {tk : Nat} {Q : Value → Shared → Prop} {E : Value → Shared → Prop} (F : FS c ρ s.heap) (y : Ext s.heap g) (hr : IsRange g r a b st t u v) (hsm : Builtin.Range.small a b st = true) (hn : Builtin.Range.rangeSize a b st = (n : Int)) (hz : n ≤ 100000)
    (h : ∀ I fp wr P Md St h' tk, Ext s.heap h' → Iter c (Pv c ρ) (.Name x p) true true (rng a st n) s.heap I fp wr P Md St h' → Q (.ref I) (after s h' tk)) :
    wpAny (model c.W.prog c.W.w) c.A (pyIter (.ref r)) Q E (after s g tk) := by
  refine wpAny_pyIter_range hr hsm ?_
  let it : Obj := { cls := .type "range_iterator", data := .fields #[rawInt a, rawInt (Builtin.Range.rangeSize a b st), rawInt st] }
  have xg := Ext.push g it
  have W' := Walks.range (prog := c.W.prog) (w := c.W.w) (A := c.A) F.ok.room.1 g.objs.size a st n
  refine h g.objs.size [g.objs.size] [g.objs.size] _ _ _ (g.push it) tk (y.trans xg) ⟨KTurns.ofWalks ((rng_length a st n).symm ▸ W') fun i v s Q E _ hQ => wpAny_of_eq (letGo_name _ _) hQ, ?_, ?_, ?_, ?_, ?_, ?_, ?_, ?_⟩
  · have q : (g.push it).get? g.objs.size = some it := Heap.get?_push_size _ rfl
    have z : it = { cls := .type "range_iterator", data := .fields #[rawInt (a + ((0 : Nat) : Int) * st), rawInt ((n : Int) - ((0 : Nat) : Int)), rawInt st] } := by
      show _ = _
      simp only [it, hn]; simp
    rw [rng_length]
    exact q.trans (congrArg some z)
  · intro b hb
    rw [List.mem_singleton.mp hb]
    exact fresh_of y
  · intro b hb
    rw [List.mem_singleton.mp hb]
    refine ⟨by rw [Heap.get?_push_size g (o := it) rfl]; rfl, fun z => ?_⟩
    rw [fresh_of y] at z; cases z
  · rintro i g' e' b hb
    have e'' : g'.get? g.objs.size = _ := e'
    rw [List.mem_singleton.mp hb, e'']; rfl
  · rintro _ i g' b o e' hb e its m hq
    have e'' : g'.get? g.objs.size = _ := e'
    rw [List.mem_singleton.mp hb, e''] at e; cases e
    cases hq
  · rintro i v g' hi ⟨t, rfl⟩
    have hi' : i < n := by rwa [rng_length] at hi
    exact ⟨_, [.int (a + (i : Int) * st)], rng_get hi', rfl, .cons (.int _ _) .nil⟩
  · exact ((rng_length a st n).symm ▸ W').self
  · rw [rng_length]; exact sz_line hz

theorem EvIt.range1 (k : Nat) {x : Str} {p np pos : Pos} {e : Expr} {i : Int} (n : Nat) (hk : c.gs[k]? = some ("range" : Str)) (hb : Blt c.W "range" (.type "range")) (ha : Ev c ρ e (.int i)) (hi : i.toNat = n) (hi' : i < 100000) (hi'' : -100000 < i)
    (he : starEach [e] c.env = [(false, eval e c.env)] := by rfl) : EvIt c ρ (.Name x p) (.Call (.Name "range" np) [e] [] pos) true true (rng 0 1 n) := by
  intro s Q E F h
  refine ev_callB (ds := [.int i]) k F hk hb ⟨eval e c.env, [], by rw [he]; rfl, by rw [he]; rfl⟩ (EvL.cons ha EvL.nil he) fun vs g t y rs => ?_
  cases rs with
  | cons r rs =>
  cases rs; cases r
  refine call_range_1 ?_
  refine it_range (s := s) (g := g.push _) F (y.trans (Ext.push _ _)) (IsRange.new ..) (small_one (by omega) (by omega) (by omega) (by omega)) ?_ (by omega) h
  rw [rangeSize_one]; split <;> omega
theorem EvIt.range2 (k : Nat) {x : Str} {p np pos : Pos} {e f : Expr} {i j : Int} (n : Nat) (hk : c.gs[k]? = some ("range" : Str)) (hb : Blt c.W "range" (.type "range")) (h1 : Ev c ρ e (.int i)) (h2 : Ev c ρ f (.int j)) (hi : (j - i).toNat = n) (hi' : i < 100000) (hi'' : -100000 < i) (hj' : j < 100000) (hj'' : -100000 < j) (hz : n ≤ 100000)
    (he : starEach [e, f] c.env = [(false, eval e c.env), (false, eval f c.env)] := by rfl) (he2 : starEach [f] c.env = [(false, eval f c.env)] := by rfl) : EvIt c ρ (.Name x p) (.Call (.Name "range" np) [e, f] [] pos) true true (rng i 1 n) := by
  intro s Q E F h
  refine ev_callB (ds := [.int i, .int j]) k F hk hb ⟨eval e c.env, _, by rw [he]; rfl, by rw [he]; rfl⟩ (EvL.cons h1 (EvL.cons h2 EvL.nil he2) (by rw [he, he2])) fun vs g t y rs => ?_
  cases rs with
  | cons r rs =>
  cases rs with
  | cons r' rs =>
  cases rs; cases r; cases r'
  refine call_range_2 ?_
  refine it_range (s := s) (g := g.push _) F (y.trans (Ext.push _ _)) (IsRange.new ..) (small_one (by omega) (by omega) (by omega) (by omega)) ?_ (by omega) h
  rw [rangeSize_one]; split <;> omega
theorem EvIt.range3 (k : Nat) {x : Str} {p np pos : Pos} {e f l : Expr} {i j st : Int} (n : Nat) (hk : c.gs[k]? = some ("range" : Str)) (hb : Blt c.W "range" (.type "range")) (h1 : Ev c ρ e (.int i)) (h2 : Ev c ρ f (.int j)) (h3 : Ev c ρ l (.int st))
    (hn : Builtin.Range.rangeSize i j st = (n : Int)) (hsm : Builtin.Range.small i j st = true) (hst : st ≠ 0) (hst' : st.natAbs < 1073741824) (hz : n ≤ 100000)
    (he : starEach [e, f, l] c.env = [(false, eval e c.env), (false, eval f c.env), (false, eval l c.env)] := by rfl) (ha : EvL c ρ pos [e, f, l] [.int i, .int j, .int st]) : EvIt c ρ (.Name x p) (.Call (.Name "range" np) [e, f, l] [] pos) true true (rng i st n) := by
  intro s Q E F h
  refine ev_callB (ds := [.int i, .int j, .int st]) k F hk hb ⟨eval e c.env, _, by rw [he]; rfl, by rw [he]; rfl⟩ ha fun vs g t y rs => ?_
  cases rs with
  | cons r rs =>
  cases rs with
  | cons r' rs =>
  cases rs with
  | cons r'' rs =>
  cases rs; cases r; cases r'; cases r''
  refine call_range_3 hst ?_ (.inl (PyProof.noPylong_small hst'))
  exact it_range (s := s) (g := g.push _) F (y.trans (Ext.push _ _)) (IsRange.new ..) hsm hn hz h

-- enumerate(a list)
noncomputable def enums (ds : List D) : List (List D) := ds.zipIdx.map fun q => [D.int (q.2 : Int), q.1]
theorem enums_length (ds : List D) : (enums ds).length = ds.length := by simp [enums]
theorem enums_get {ds : List D} {i : Nat} {d : D} (h : ds[i]? = some d) : (enums ds)[i]? = some [.int (i : Int), d] := by
  unfold enums; rw [List.getElem?_map, List.getElem?_zipIdx, h]; simp
theorem EvIt.enum (k : Nat) {elts : List Expr} {kk : Nat} {p np pos : Pos} {e : Expr} {ds : List D} (hk : c.gs[k]? = some ("enumerate" : Str)) (hb : Blt c.W "enumerate" (.type "enumerate")) (ha : Ev c ρ e (.list ds)) (hz : ds.length ≤ 100000)
    (he : starEach [e] c.env = [(false, eval e c.env)] := by rfl) : EvIt c ρ (.Tuple elts kk p) (.Call (.Name "enumerate" np) [e] [] pos) false true (enums ds) := by
  intro s Q E F h
  refine ev_callB (ds := [.list ds]) k F hk hb ⟨eval e c.env, [], by rw [he]; rfl, by rw [he]; rfl⟩ (EvL.cons ha EvL.nil he) fun vs g t y rs => ?_
  cases rs with
  | cons r rs =>
  cases rs
  cases r with
  | list na pl rs =>
  rename_i a vs
  have hlen := rs.length
  have hal : @LT.lt Nat _ a g.objs.size := by obtain ⟨n, e'⟩ := pl; exact Heap.lt_size e'
  have n1 : @Ne Nat (g.objs.size + 1) g.objs.size := by omega
  have n2 : @Ne Nat a (g.objs.size + 1) := by omega
  have n3 : @Ne Nat a g.objs.size := by omega
  refine call_enumerate_list pl.isList fun h' he' hit hsz hk' => wpAny_pyIter_enum he' ?_
  dsimp only [after] at he' hit hsz ⊢
  have W := (WalksT.enumerate (prog := c.W.prog) (w := c.W.w) (A := c.A) F.ok.room.1 (g.objs.size + 1) g.objs.size a n1 n2 n3 vs.toArray).toU
  rw [show vs.toArray.size = (enums ds).length by simp [enums_length, hlen]] at W
  have xg : Ext g h' := hk'
  have pl' := PL.ext pl xg
  refine h _ _ _ _ _ _ h' t (y.trans xg) ⟨KTurns.ofWalksU W, ⟨⟨_, he'⟩, hit, pl'.isList⟩, ?_, ?_, ?_, ?_, ?_, ?_, ?_⟩
  · intro b hb
    have : @LE.le Nat _ g.objs.size b := by
      rcases List.mem_cons.mp hb with rfl | hb
      · exact Nat.le_succ _
      · rw [List.mem_singleton.mp hb]; exact Nat.le_refl _
    cases e : s.heap.get? b with
    | none => rfl
    | some o => exact absurd (y.size e) (Nat.not_lt.mpr this)
  · intro b hb
    rcases List.mem_cons.mp hb with rfl | hb
    · refine ⟨by have : h'.get? _ = _ := he'; rw [this]; rfl, fun z => ?_⟩
      obtain ⟨o, eo⟩ := Option.isSome_iff_exists.mp z
      exact absurd (y.size eo) (Nat.not_lt.mpr (Nat.le_succ _))
    · rcases List.mem_cons.mp hb with rfl | hb
      · obtain ⟨o, eo, _⟩ := hit
        refine ⟨by rw [eo]; rfl, fun z => ?_⟩
        obtain ⟨o, eo⟩ := Option.isSome_iff_exists.mp z
        exact absurd (y.size eo) (Nat.lt_irrefl _)
      · rw [List.mem_singleton.mp hb]
        obtain ⟨n, e⟩ := pl
        refine ⟨by rw [xg _ _ e]; rfl, fun z => ?_⟩
        obtain ⟨o, e'⟩ := Option.isSome_iff_exists.mp z
        have := y _ _ e'
        rw [e] at this; cases this
        exact ⟨_, _, _, e', rfl, na⟩
  · rintro i g' ⟨⟨old, hE⟩, ⟨o, eo, _⟩, _⟩ b hb
    rcases List.mem_cons.mp hb with rfl | hb
    · have : g'.get? _ = _ := hE
      rw [this]; rfl
    · rw [List.mem_singleton.mp hb, eo]; rfl
  · rintro _ i g' b o ⟨⟨old, hE⟩, ⟨o', eo, _, hd⟩, _⟩ hb e its m hq
    rcases List.mem_cons.mp hb with rfl | hb
    · have : g'.get? _ = _ := hE
      rw [this] at e; cases e; cases hq
    · rw [List.mem_singleton.mp hb, eo] at e; cases e
      rw [hd] at hq; cases hq
  · rintro i v g' hi ⟨T, vals, rfl, ⟨t, z, hz, rfl⟩, hT⟩
    have hv : vs[i]? = some z := by simpa using hz
    obtain ⟨d, hd, r⟩ := rs.get' hv
    exact ⟨[.int i t, z], _, enums_get hd, ⟨T, rfl, hT⟩, reps_wr (.cons (.int _ _) (.cons r .nil)) xg fun b hb => by
      have : @LE.le Nat _ g.objs.size b := by
        rcases List.mem_cons.mp hb with rfl | hb
        · exact Nat.le_succ _
        · rw [List.mem_singleton.mp hb]; exact Nat.le_refl _
      cases e : g.get? b with
      | none => rfl
      | some o => exact absurd (Heap.lt_size e) (Nat.not_lt.mpr this)⟩
  · exact W.self
  · rw [enums_length]; exact sz_line hz
end Mine
end
section
open PySem PySem.W PyProof.Rows PySem.Calls
set_option maxRecDepth 10000
namespace Mine

variable {c : Cx} {ρ : Loc}

theorem comp_loop {prog : Program} {w : World} {A : Around} {R : Result → Shared → Prop} {s : Shared} {elt target iter : Expr} {scope : Scope} {pos : Pos} {it acc : Value} {env : Env} (I : Nat → Shared → Prop)
    (turn : ∀ n s (E : Value → Shared → Prop), I n s → wpAny (model prog w) A (pyNext it) (fun r s₁ => match r with
      | none => R (.ok .next) s₁
      | some v => wpAny (model prog w) A (letOwnedTupleGo target it v) (fun _ s₂ => wpAny (model prog w) A (assign target env v) (fun _ s₃ => wpAny (model prog w) A (eval elt env) (fun x s₄ =>
          wpAny (model prog w) A (call (.builtin "list.append") [acc, x]) (fun _ s₅ => ∃ m, m < n ∧ I m s₅) E s₄) E s₃) E s₂) E s₁) E s)
    (n : Nat) (h : I n s) : codeAny (model prog w) A (.compLoop (.ListComp elt [⟨target, iter, [], 0⟩] scope pos) 0 it acc env) R s := by
  refine codeAny_loop rfl I (fun n s hI => ?_) n h
  show wpAny _ A ((compTurn (.ListComp elt [⟨target, iter, [], 0⟩] scope pos) 0 it acc env).onRaise (fun x => do noteFrame x env; theTreesLotGoes x)) _ _ s
  refine wpAny_noted ?_
  rw [compTurn_list1]
  refine wpAny_bind (wpAny_standAt (wpAny_bind (wpAny_mono (turn n s _ hI) (fun r s₁ h₁ => ?_) fun _ _ h' => h')))
  cases r with
  | none => exact wpAny_pure h₁
  | some v =>
    refine wpAny_bind (wpAny_mono h₁ (fun _ s₂ h₂ => wpAny_bind (wpAny_mono h₂ (fun _ s₃ h₃ => wpAny_bind (wpAny_bind (wpAny_mono h₃ (fun x s₄ h₄ => wpAny_bind (wpAny_mono h₄ (fun _ s₅ h₅ => wpAny_pure (wpAny_pure ⟨rfl, h₅⟩)) fun _ _ h' => h')) fun _ _ h' => h'))) fun _ _ h' => h')) fun _ _ h' => h')

/-- a comprehension's target: names of its own -/
noncomputable def CBinds (env : Env) (target : Expr) (single : Bool) (xs : List Str) : Prop :=
  match single with
  | true => ∃ x p, target = .Name x p ∧ xs = [x]
  | false => ∃ x y k p p₁ p₂, target = .Tuple [.Name x p₁, .Name y p₂] k p ∧ xs = [x, y]

theorem cbind_item {W : Wd} {A : Around} {env : Env} {target : Expr} {single : Bool} {xs : List Str} {v : Value} {us : List Value} {s : Shared} {Q : Unit → Shared → Prop} {E : Value → Shared → Prop} {m : Str → Option Value} (hh : A.handled = none)
    (hk : env.scope.kind = .function) (hx : ∀ x ∈ xs, env.kindOf x = some .local) (hnd : xs.Nodup) (hn : s.heap.Ns env.locals m) (hb : CBinds env target single xs) (hi : ItemIs single s.heap v us) (hl : us.length = xs.length)
    (h : ∀ h' tk m', h'.Ns env.locals m' → (∀ (j : Nat) x, xs[j]? = some x → m' x = us[j]?) → (∀ b o, b ≠ env.locals → s.heap.get? b = some o → h'.get? b = some o) → Q () (after s h' tk)) :
    wpAny (model W.prog W.w) A (assign target env v) Q E s := by
  have hp : (env.scope.kind == .class || (env.scope.kind == .module && env.locals != env.globals)) = false := by rw [hk]; rfl
  cases single with
  | true =>
    obtain ⟨x, p, rfl, rfl⟩ := hb
    have e : us = [v] := hi
    subst e
    refine wpAny_assign_Name (wpAny_storeName_local (hx x (.head _)) hn (fun h' hn' hs => h h' _ _ hn' (fun j y hj => ?_) fun b o hb e => hs.extBut b o hb e) hp)
    cases j with
    | zero => cases hj; simp
    | succ j => simp at hj
  | false =>
    obtain ⟨x, y, k, p, p₁, p₂, rfl, rfl⟩ := hb
    obtain ⟨T, rfl, hT⟩ := hi
    match us, hl with
    | [u₁, u₂], _ =>
    refine wpAny_assign_Tuple hh hT rfl rfl fun h' eb => ?_
    have x' : Ext s.heap h' := fun b o e => eb b o (Nat.ne_of_lt (Heap.lt_size e)) e
    show wpAny _ _ (assignInOrder [assign (.Name x p₁) env, assign (.Name y p₂) env] [u₁, u₂]) Q E _
    first | rw [aio_cons] | rw [aio_nil]
    refine wpAny_bind (wpAny_holding (wpAny_assign_Name (wpAny_storeName_local (hx x (.head _)) (hn.keeps x') (fun h₁ hn₁ hs₁ => ?_) hp)))
    first | rw [aio_cons] | rw [aio_nil]
    refine wpAny_bind (wpAny_holding (wpAny_assign_Name (wpAny_storeName_local (hx y (.tail _ (.head _))) hn₁ (fun h₂ hn₂ hs₂ => ?_) hp)))
    first | rw [aio_cons] | rw [aio_nil]
    · refine wpAny_pure (h h₂ _ _ hn₂ (fun j z hj => ?_) fun b o hb e => hs₂.extBut b o hb (hs₁.extBut b o hb (x' b o e)))
      have hxy : x ≠ y := fun e => by subst e; simp at hnd
      match j with
      | 0 => cases hj; simp [hxy]
      | 1 => cases hj; simp
      | j + 2 => simp at hj

/-- a comprehension's own frame -/
noncomputable abbrev mkK (c : Cx) (scope : Scope) (cl : List (Str × Addr)) (ks gs : List Str) (C : Addr) (av : Addr → Prop) : Cx :=
  { W := c.W, A := c.A, env := compEnvC scope cl C c.env, h₀ := c.h₀, av := av, ks := ks, gs := gs, lvl := c.lvl, fn := false }
noncomputable def rhoK (ds : List D) (caps : List (Nat × D)) : Loc := ds.map (fun d => some (.p d)) ++ caps.map fun q => some (.p q.2)
theorem rhoK_at {ds : List D} {caps : List (Nat × D)} {k : Nat} {b : B} (h : (rhoK ds caps)[k]? = some (some b)) : (∃ d, ds[k]? = some d ∧ b = .p d) ∨ (ds.length ≤ k ∧ ∃ q, caps[k - ds.length]? = some q ∧ b = .p q.2) := by
  unfold rhoK at h
  rcases Nat.lt_or_ge k ds.length with q | q
  · rw [List.getElem?_append_left (by simpa using q), List.getElem?_map] at h
    cases e : ds[k]? with
    | none => rw [e] at h; cases h
    | some d => rw [e] at h; cases h; exact .inl ⟨d, rfl, rfl⟩
  · rw [List.getElem?_append_right (by simpa using q), List.getElem?_map, List.length_map] at h
    cases e : caps[k - ds.length]? with
    | none => rw [e] at h; cases h
    | some d => rw [e] at h; cases h; exact .inr ⟨q, d, rfl, rfl⟩

/-- the looks at a comprehension's scope -/
structure KOk (c : Cx) (ρ : Loc) (scope : Scope) (cl : List (Str × Addr)) (xs gs : List Str) (caps : List (Nat × D)) (cs : List Str) : Prop where
  clos : closureFor scope c.env = pure cl
  kind : scope.kind = .function
  nocell : ∀ y ∈ scope.names, y.2 ≠ .cell
  names : ∀ y ∈ scope.names, y.2 = .local → scope.names.lookup y.1 = some .local
  nod : (xs ++ cs).Nodup
  loc : ∀ x ∈ xs, (relabel scope c.env).names.lookup x = some .local
  cap : ∀ (j : Nat) x, cs[j]? = some x → (relabel scope c.env).names.lookup x = some .cell ∧ cl.lookup x = c.env.cells.lookup x ∧ c.env.kindOf x = some .cell ∧ ∃ k d, caps[j]? = some (k, d) ∧ c.ks[k]? = some x ∧ ρ[k]? = some (some (.p d))
  len : cs.length = caps.length
  gl : ∀ x ∈ gs, (relabel scope c.env).names.lookup x = some .globalImplicit
  nodb : ∀ x, x ∈ xs ++ cs ∨ x ∈ gs → (x == ("__debug__" : Str)) = false

theorem comp_core {target iter elt : Expr} {single tidy : Bool} {dss : List (List D)} {outs : List D} {scope : Scope} {cl : List (Str × Addr)} {xs gs cs : List Str} {caps : List (Nat × D)} {pos : Pos} {RR : Value → Addr → Result → Shared → Prop} {s : Shared} {E : Value → Shared → Prop}
    (F : FS c ρ s.heap) (K : KOk c ρ scope cl xs gs caps cs) (hb : CBinds (compEnvC scope cl 0 c.env) target single xs) (hit : EvIt c ρ target iter single tidy dss) (hlen : outs.length = dss.length)
    (hel : ∀ (i : Nat) ds d, dss[i]? = some ds → outs[i]? = some d → ds.length = xs.length ∧ ∀ C av, Ev (mkK c scope cl (xs ++ cs) gs C av) (rhoK ds caps) elt d)
    (hRR : ∀ Dd C h' tk ys m, Ext s.heap h' → s.heap.get? Dd = none → s.heap.get? C = none → Dd ≠ C → h'.Ns C m → h'.PlainList Dd ys.toArray → Reps c.W (fun b => Pv c ρ b ∨ b = Dd) h' ys outs → RR (.ref Dd) C (.ok .next) (after s h' tk)) :
    wpAny (model c.W.prog c.W.w) c.A (eval iter c.env) (fun x s₁ => wpAny (model c.W.prog c.W.w) c.A (pyIter x) (fun it s₂ => wpAny (model c.W.prog c.W.w) c.A (newList []) (fun acc s₃ =>
      wpAny (model c.W.prog c.W.w) c.A (newFunctionEnv scope c.env.globals cl [] c.env.qual none .none (some c.env)) (fun cenv s₄ =>
        codeAny (model c.W.prog c.W.w) c.A (.compStart (.ListComp elt [⟨target, iter, [], 0⟩] scope pos) 0 it acc { cenv with scope := relabel scope c.env }) (RR acc cenv.locals) s₄) E s₃) E s₂) E s₁) E s := by
  refine hit s _ _ F fun I fp wr P Md St g tk y it => ?_
  refine wpAny_newObj_type (wpAny_newFunctionEnv K.nocell (by intro y hy; simp at hy) (fun h₁ hns₁ hsb₁ => ?_) K.kind)
  dsimp only at hns₁ hsb₁ ⊢
  let lo : Obj := { cls := .type "list", dict := none, data := .seq ([] : List Value).toArray }
  generalize hH2 : g.push { cls := .type "list", dict := none, data := .seq ([] : List Value).toArray } = H2 at hns₁ hsb₁ ⊢
  have hC : H2.objs.size = g.objs.size + 1 := by rw [← hH2]; exact Heap.size_push ..
  have hDC : @Ne Nat g.objs.size H2.objs.size := by rw [hC]; exact Nat.ne_of_lt (Nat.lt_succ_self _)
  generalize hCe : H2.objs.size = C at hns₁ hsb₁ ⊢
  have hCn : g.get? C = none := by
    cases e : g.get? C with
    | none => rfl
    | some o => exact absurd (Heap.lt_size e) (by rw [← hCe, hC]; exact Nat.not_lt.mpr (Nat.le_succ _))
  have hDn : g.get? g.objs.size = none := get?_size g
  have hDC' : g.objs.size ≠ C := by rw [← hCe]; exact hDC
  generalize hDe : g.objs.size = Dd at hDn hDC' ⊢
  have back : ∀ {b : Addr}, g.get? b = none → s.heap.get? b = none := fun {b} hn => by
    cases e : s.heap.get? b with
    | none => rfl
    | some o => rw [y b o e] at hn; cases hn
  have wrg : ∀ b ∈ wr, (g.get? b).isSome = true := fun b hb => (it.fpS b (it.turns.sub b hb)).1
  have hDw : Dd ∉ wr := fun hb => by have := wrg _ hb; rw [hDn] at this; cases this
  have hCw : C ∉ wr := fun hb => by have := wrg _ hb; rw [hCn] at this; cases this
  have hDf : Dd ∉ fp := fun hb => by have := (it.fpS _ hb).1; rw [hDn] at this; cases this
  have hCf : C ∉ fp := fun hb => by have := (it.fpS _ hb).1; rw [hCn] at this; cases this
  have x2 : Ext g H2 := hH2 ▸ Ext.push g lo
  have old : Ext g h₁ := fun b o e => hsb₁.extBut b o (fun q => by rw [q, hCn] at e; cases e) (Heap.get?_push_of_some _ (x2 b o e))
  have pl0 : h₁.PlainList Dd ([] : List Value).toArray := by
    have q : H2.get? Dd = some lo := by
      rw [← hDe, ← hH2]; exact Heap.get?_push_size g (o := lo) rfl
    exact ⟨0, hsb₁.extBut _ _ hDC' (Heap.get?_push_of_some _ q)⟩
  let av : Addr → Prop := fun b => (Pv c ρ b ∨ b = Dd) ∨ b ∈ wr
  have noOwn : ∀ ds b, ¬ Own (rhoK ds caps) b := fun ds b ⟨k, es, e⟩ => by
    rcases rhoK_at e with ⟨_, _, e'⟩ | ⟨_, _, _, e'⟩ <;> cases e'
  have hb' : CBinds (compEnvC scope cl C c.env) target single xs := hb
  have loop : codeAny (model c.W.prog c.W.w) c.A (.compLoop (.ListComp elt [⟨target, iter, [], 0⟩] scope pos) 0 (.ref I) (.ref Dd) (compEnvC scope cl C c.env)) (RR (.ref Dd) C) (after s h₁ (tk + ([] : List (Str × Value)).length)) := by
    refine comp_loop (fun k s' => ∃ h' tk' i ys m', s' = after s h' tk' ∧ i ≤ dss.length ∧ k = dss.length + 1 - i ∧ St i h' ∧ h'.Ns C m' ∧ h'.PlainList Dd ys.toArray ∧ Reps c.W av h' ys (outs.take i) ∧ (∀ b o, b ∉ wr → g.get? b = some o → h'.get? b = some o)) ?_ (dss.length + 1)
      ⟨h₁, _, 0, [], _, rfl, Nat.zero_le _, rfl, it.turns.frame _ _ _ it.st fun b _ o e => old b o e, hns₁, pl0, .nil, fun b o _ e => old b o e⟩
    rintro k s' E ⟨h', tk', i, ys, m', rfl, hi, rfl, hst, hn, pl, rs, kp⟩
    by_cases hlt : i < dss.length
    · refine it.turns.item i _ _ _ hlt hst fun v g₁ t₁ hMd hk₁ => it.turns.go i v _ _ _ hMd fun g₂ hP hst₂ hk₂ => ?_
      have hk₁₂ : ∀ b o, b ∉ wr → h'.get? b = some o → g₂.get? b = some o := fun b o hb e => hk₂ b o hb (hk₁ b o hb e)
      obtain ⟨us, ds, hds, hItem, ru⟩ := it.item i v g₂ hlt hP
      obtain ⟨d, hd⟩ : ∃ d, outs[i]? = some d := ⟨outs[i]'(by omega), List.getElem?_eq_getElem (by omega)⟩
      obtain ⟨hl, hev⟩ := hel i ds d hds hd
      have hul := ru.length
      have hn₂ : g₂.Ns C m' := hn.at' fun o e => hk₁₂ C o hCw e
      refine cbind_item (W := c.W) F.ok.room.1 K.kind K.loc (List.nodup_append.mp K.nod).1 hn₂ hb' hItem (by omega) fun g₃ t₃ m₃ hn₃ hm₃ hk₃ => ?_
      have kp₃ : ∀ b o, b ∉ wr → g.get? b = some o → g₃.get? b = some o := fun b o hb e => hk₃ b o (fun q => by have q' : b = C := q; rw [q', hCn] at e; cases e) (hk₁₂ b o hb (kp b o hb e))
      have xs₃ : Ext s.heap g₃ := fun b o e => kp₃ b o (fun hb => by rw [it.new b hb] at e; cases e) (y b o e)
      have st₃ : St (i + 1) g₃ := it.turns.frame _ _ _ hst₂ fun b hb o e => hk₃ b o (fun q => hCf (by have q' : b = C := q; rw [← q']; exact hb)) e
      have pl₃ : g₃.PlainList Dd ys.toArray := by
        obtain ⟨n, e⟩ := pl
        exact ⟨n, hk₃ _ _ hDC' (hk₁₂ _ _ hDw e)⟩
      let c' : Cx := mkK c scope cl (xs ++ cs) gs C av
      have F' : FS c' (rhoK ds caps) g₃ := {
        ok := {
          kind := K.kind, gl := F.ok.gl, bi := F.ok.bi, room := F.ok.room, nod := K.nod
          kinds := fun k x hx => by
            rcases Nat.lt_or_ge k xs.length with q | q
            · have hx' : xs[k]? = some x := by have : (xs ++ cs)[k]? = some x := hx; rwa [List.getElem?_append_left q] at this
              exact .inl (K.loc x (List.mem_of_getElem? hx'))
            · have hx' : cs[k - xs.length]? = some x := by have : (xs ++ cs)[k]? = some x := hx; rwa [List.getElem?_append_right q] at this
              exact .inr (K.cap _ x hx').1
          globs := fun k x hx => K.gl x (List.mem_of_getElem? hx)
          nodb := K.nodb
          isFn := fun q => by cases q }
        g := F.g.ext xs₃
        av1 := fun b hb => by
          rcases hb with (hb | rfl) | hb
          · exact ext_some xs₃ (F.pv hb)
          · exact PL.some pl₃
          · exact it.alive _ _ st₃ b hb
        keep := fun q => by cases q
        ns := ⟨m₃, hn₃⟩
        cells := fun q => by cases q
        own0 := fun k b es e => absurd ⟨k, es, e⟩ (noOwn ds b)
        ownd := fun k k' b es es' e _ => absurd ⟨k, es, e⟩ (noOwn ds b)
        var := fun k x b hx hb => by
          have pvav : ∀ b, (g.get? b).isSome = true → Pv c' (rhoK ds caps) b → (Pv c ρ b ∨ b ∈ wr) := fun b hs q => by
            rcases q with ((q | rfl) | q) | q
            · exact .inl q
            · rw [hDn] at hs; cases hs
            · exact .inr q
            · exact absurd q (noOwn ds b)
          rcases rhoK_at hb with ⟨d', hd', rfl⟩ | ⟨hk, q, hq, rfl⟩
          · have hkx : k < xs.length := by
              rw [← hl]
              rcases Nat.lt_or_ge k ds.length with z | z
              · exact z
              · rw [List.getElem?_eq_none z] at hd'; cases hd'
            have hx' : xs[k]? = some x := by have : (xs ++ cs)[k]? = some x := hx; rwa [List.getElem?_append_left hkx] at this
            obtain ⟨u, hu, r⟩ := ru.get hd'
            refine ⟨u, .inl ⟨K.loc x (List.mem_of_getElem? hx'), m₃, hn₃, (hm₃ k x hx').trans hu⟩, Rep.mono (fun b o its n na hd e => kp₃ b o (fun hb => na (.inr hb)) e) (fun b hs q => pvav b hs q) r⟩
          · have hkx : xs.length ≤ k := by rw [← hl]; exact hk
            have hx' : cs[k - xs.length]? = some x := by have : (xs ++ cs)[k]? = some x := hx; rwa [List.getElem?_append_right hkx] at this
            obtain ⟨h1, h2, h3, k', d', h4, h5, h6⟩ := K.cap _ x hx'
            rw [hl, h4] at hq; cases hq
            obtain ⟨u, U, H⟩ := F.var k' x _ h5 h6
            refine ⟨u, ?_, Rep.mono xs₃.keq (fun b hs q => by
              have hs' := ext_some y hs
              rcases pvav b hs' q with z | z
              · exact z
              · rw [it.new b z] at hs; cases hs) H⟩
            rcases U with ⟨z, _⟩ | ⟨_, cd, hcd, hv⟩
            · rw [h3] at z; cases z
            · exact .inr ⟨.inl h1, cd, h2.trans hcd, hv.keeps xs₃⟩ }
      refine hev C av (after s g₃ t₃) _ _ F' fun u g₄ t₄ x₄ ru' => ?_
      have ru₄ : Rep c.W av g₄ u d := ru'.mono (Ext.refl _).keq fun b _ q => .inl q
      have hys := rs.length
      refine wpAny_list_append_plain (PL.ext pl₃ x₄) (fun g₅ pl₅ hs₅ => ?_) (by
        have e : ys.toArray.size = i := by simp [hys]; omega
        rw [e]; exact Nat.le_trans hi it.size)
      refine ⟨dss.length + 1 - (i + 1), by omega, g₅, t₄, i + 1, ys ++ [u], m₃, rfl, hlt, rfl, it.turns.frame _ _ _ st₃ fun b hb o e => hs₅.extBut b o (fun q => hDf (by have q' : b = Dd := q; rw [← q']; exact hb)) (x₄ b o e), (hn₃.keeps x₄).sameBut hs₅ (Ne.symm hDC'), by simpa using pl₅, ?_, fun b o hb e => hs₅.extBut b o (fun q => by have q' : b = Dd := q; rw [q', hDn] at e; cases e) (x₄ b o (kp₃ b o hb e))⟩
      have kq : Keq av h' g₅ := fun b o its n na hd e => hs₅.extBut b o (fun q => na (.inl (.inr q))) (x₄ b o (hk₃ b o (fun q => by
        have q' : b = C := q
        obtain ⟨o', es, ep, e', hd', _⟩ := hn
        rw [q', e'] at e; cases e; rw [hd'] at hd; cases hd) (hk₁₂ b o (fun hb => na (.inr hb)) e)))
      have kq' : Keq av g₄ g₅ := fun b o its n na hd e => hs₅.extBut b o (fun q => na (.inl (.inr q))) e
      have et : outs.take (i + 1) = outs.take i ++ [d] := by rw [List.take_add_one, hd]; rfl
      rw [et]
      exact (rs.mono kq fun _ _ q => q).append (.cons (ru₄.mono kq' fun _ _ q => q) .nil)
    · have hin : i = dss.length := by omega
      subst hin
      refine it.turns.done _ _ _ hst fun g₁ t₁ hk₁ => ?_
      have xs₁ : Ext s.heap g₁ := fun b o e => hk₁ b o (fun hb => by rw [it.new b hb] at e; cases e) (kp b o (fun hb => by rw [it.new b hb] at e; cases e) (y b o e))
      have pl₁ : g₁.PlainList Dd ys.toArray := by
        obtain ⟨n, e⟩ := pl
        exact ⟨n, hk₁ _ _ hDw e⟩
      rw [← hlen, List.take_length] at rs
      exact hRR Dd C g₁ t₁ ys m' xs₁ (back hDn) (back hCn) hDC' (hn.at' fun o e => hk₁ C o hCw e) pl₁ (rs.mono (fun b o its n na hd e => hk₁ b o (fun hb => na (.inr hb)) e) fun b _ q => .inl q)
  exact codeAny_compStart_list loop (it.self 0 _ _ _ (it.turns.frame _ _ _ it.st fun b _ o e => old b o e) loop)

theorem EvO.comp {target iter elt : Expr} {single tidy : Bool} {dss : List (List D)} {outs : List D} {scope : Scope} {cl : List (Str × Addr)} {xs gs cs : List Str} {caps : List (Nat × D)} {pos : Pos}
    (K : KOk c ρ scope cl xs gs caps cs) (hb : CBinds (compEnvC scope cl 0 c.env) target single xs) (hit : EvIt c ρ target iter single tidy dss) (hlen : outs.length = dss.length)
    (hel : ∀ (i : Nat) ds d, dss[i]? = some ds → outs[i]? = some d → ds.length = xs.length ∧ ∀ C av, Ev (mkK c scope cl (xs ++ cs) gs C av) (rhoK ds caps) elt d)
    (hs : ∀ x, foldedSetIterable iter c.env x = pure x := by intro _; rfl) : EvO c ρ (.ListComp elt [⟨target, iter, [], 0⟩] scope pos) outs := by
  intro s Q E F h
  show wpAny _ _ (comprehension (.ListComp elt [⟨target, iter, [], 0⟩] scope pos) scope c.env _ (newList []) false (eval iter c.env)) Q E s
  refine wpAny_comprehension_free rfl hs K.clos K.kind K.names (comp_core F K hb hit hlen hel fun Dd C h' tk ys m x hD hC hne hn pl rs => ?_)
  refine ⟨m, hn, fun h'' hs'' => ?_⟩
  have sk : SeqKeep h' h'' := fun b o its n hd e => hs''.extBut b o (fun q => by
    have q' : b = C := q
    obtain ⟨o', es, ep, e', hd', _⟩ := hn
    rw [q', e'] at e; cases e; rw [hd'] at hd; cases hd) e
  exact h Dd ys h'' tk (fun b o e => hs''.extBut b o (fun q => by have q' : b = C := q; rw [q', hC] at e; cases e) (x b o e)) hD (PL.seqKeep pl sk) (rs.mono sk.keq fun _ _ q => q)

theorem ExS.assignComp (k : Nat) {x : Str} {np spos : Pos} {target iter elt : Expr} {single tidy : Bool} {dss : List (List D)} {outs : List D} {scope : Scope} {cl : List (Str × Addr)} {xs gs cs : List Str} {caps : List (Nat × D)} {pos : Pos} {Φ : Out → Prop}
    (hk : c.ks[k]? = some x) (hl : k < ρ.length) (hks : c.ks.length ≤ ρ.length)
    (K : KOk c ρ scope cl xs gs caps cs) (hb : CBinds (compEnvC scope cl 0 c.env) target single xs) (hit : EvIt c ρ target iter single tidy dss) (hlen : outs.length = dss.length)
    (hel : ∀ (i : Nat) ds d, dss[i]? = some ds → outs[i]? = some d → ds.length = xs.length ∧ ∀ C av, Ev (mkK c scope cl (xs ++ cs) gs C av) (rhoK ds caps) elt d)
    (hΦ : ∀ a, Φ (.next (ρ.set k (some (.own a outs)))))
    (hsw : swapsWith (.ListComp elt [⟨target, iter, [], 0⟩] scope pos) (some (.Name x np)) spos.line c.env = pure true := by rfl)
    (hs : ∀ x, foldedSetIterable iter c.env x = pure x := by intro _; rfl) : ExS c ρ (.Assign [.Name x np] (.ListComp elt [⟨target, iter, [], 0⟩] scope pos) spos) Φ := by
  intro s Q E hf F hQ
  rw [exec_Assign_Name_used _ _ _ _ hsw]
  refine wpAny_bind (wpAny_standAt (wpAny_bind ?_))
  show wpAny _ _ (do let _ ← comprehension (.ListComp elt [⟨target, iter, [], 0⟩] scope pos) scope c.env _ (newList []) false (eval iter c.env) (some (PySem.assign (.Name x np) c.env))) _ _ s
  refine wpAny_bind (wpAny_mono (wpAny_comprehension_free (Q := fun _ s' => Q .next s') (use := some (PySem.assign (.Name x np) c.env)) rfl hs K.clos K.kind K.names (comp_core F K hb hit hlen hel fun Dd C h' tk ys m x' hD hC hne hn pl rs => ?_)) (fun _ s' hq => wpAny_pure (wpAny_pure hq)) fun _ _ e => e)
  refine wpAny_assign_Name (store_o hf (F.slot hks x' hD pl (ds := outs)) hk hl pl (reps_slot rs) fun h₃ tk₃ F₃ pr₃ => ?_)
  have hLC : c.env.locals ≠ C := fun q => by
    obtain ⟨m', o, _, _, e, _⟩ := F.ns
    rw [q, hC] at e; cases e
  have nC : ¬ Priv c (ρ ++ [some (.own Dd outs)]) C := by
    rintro (q | ⟨n, q⟩ | q)
    · exact hLC q.symm
    · obtain ⟨v, o, e, _⟩ := F.cells hf n C q
      rw [hC] at e; cases e
    · rcases own_slot q with ⟨k', ds, q⟩ | q
      · obtain ⟨_, _, its, n, e⟩ := F.own0 k' C ds q
        rw [hC] at e; cases e
      · exact hne q.symm
  have hn₃ : h₃.Ns C m := hn.at' fun o e => pr₃ C o e nC
  refine ⟨m, hn₃, fun h₄ hs₄ => ?_⟩
  have hk₄ : ∀ b o, b ∉ [C] → h₃.get? b = some o → h₄.get? b = some o := fun b o hb e => hs₄.extBut b o (fun q => hb (by rw [q]; exact .head _)) e
  have h0 : ∀ b ∈ [C], c.h₀.get? b = none := fun b hb => by
    rw [List.mem_singleton.mp hb]
    cases e : c.h₀.get? C with
    | none => rfl
    | some o => have := F.keep hf C o e; rw [hC] at this; cases this
  have nC' : ¬ Priv c (ρ.set k (some (.own Dd outs))) C := by
    rintro (q | ⟨n, q⟩ | q)
    · exact hLC q.symm
    · exact nC (.inr (.inl ⟨n, q⟩))
    · rcases own_set_o q with q | q
      · exact nC (.inr (.inr (own_slot_of q)))
      · exact hne q.symm
  have F₄ : FS c (ρ.set k (some (.own Dd outs))) h₄ := F₃.but hf hk₄ (fun b hb => by rw [List.mem_singleton.mp hb]; exact nC') h0 fun b hb o e its n hd => by
    rw [List.mem_singleton.mp hb] at e
    obtain ⟨o', es, ep, e', hd', _⟩ := hn₃
    rw [e'] at e; cases e; rw [hd'] at hd; cases hd
  have P1 : Pres c ρ s.heap h₃ := x'.pres.trans (ownSub_slot hD) pr₃
  exact hQ .next (.next _) h₄ tk₃ (hΦ Dd) (fun b o e np => hk₄ b o (fun hb => by rw [List.mem_singleton.mp hb, hC] at e; cases e) (P1 b o e np)) ⟨rfl, F₄, ownSub_set_o hD⟩
end Mine
end
section
open PySem PySem.W PyProof.Rows PySem.Calls PySem.Spec
set_option maxRecDepth 10000
namespace Mine

variable {c : Cx} {ρ : Loc}

-- two lists of the same ints
mutual
noncomputable def toP : D → PyData
  | .int i => .int i
  | .bool b => .bool b
  | .none => .none
  | .list l => .list (toPs l)
  | .tup l => .tuple (toPs l)
  | .fn _ => .none
  | .pin _ => .none
noncomputable def toPs : List D → List PyData
  | [] => []
  | d :: ds => toP d :: toPs ds
end
noncomputable def okD : Nat → D → Bool
  | _, .int _ => true
  | n + 1, .list ds => ds.all (okD n)
  | _, _ => false
mutual
theorem rep_reads {W : Wd} {av : Addr → Prop} {h : Heap} : ∀ {v : Value} {d : D} (n : Nat), Rep W av h v d → okD n d = true → ∃ as, Reads h v (toP d) as
  | _, _, n, .int i t, _ => ⟨_, by rw [toP]; exact Reads.int i t⟩
  | _, _, n, .bool b, hk => by cases n <;> simp [okD] at hk
  | _, _, n, .none, hk => by cases n <;> simp [okD] at hk
  | _, _, n, .fn _, hk => by cases n <;> simp [okD] at hk
  | _, _, n, .pin _, hk => by cases n <;> simp [okD] at hk
  | _, _, n, .tup _ _ _, hk => by cases n <;> simp [okD] at hk
  | _, _, 0, .list _ _ _, hk => by simp [okD] at hk
  | _, _, n + 1, .list _ p r, hk => by
    obtain ⟨as, q⟩ := reps_reads n r (by simpa [okD] using hk)
    obtain ⟨m, e⟩ := p
    rw [toP]
    exact ⟨_, reads_list_at e rfl rfl (by simpa using q)⟩
theorem reps_reads {W : Wd} {av : Addr → Prop} {h : Heap} : ∀ {vs : List Value} {ds : List D} (n : Nat), Reps W av h vs ds → (∀ d ∈ ds, okD n d = true) → ∃ as, ReadsAll h vs (toPs ds) as
  | _, _, n, .nil, _ => ⟨_, by rw [toPs]; exact ReadsAll.nil⟩
  | _, _, n, .cons hd r, hk => by
    obtain ⟨as, q⟩ := rep_reads n hd (hk _ (.head _))
    obtain ⟨bs, p⟩ := reps_reads n r fun d hm => hk d (.tail _ hm)
    rw [toPs]
    exact ⟨_, ReadsAll.cons q p⟩
end
theorem okD_lay : ∀ (n : Nat) (d : D), okD n d = true → (toP d).canLay0 = true ∧ (toP d).depth ≤ n ∧ PyData.eqv (toP d) (toP d) = true := by
  have all : ∀ n, (∀ d, okD n d = true → (toP d).canLay0 = true ∧ (toP d).depth ≤ n ∧ PyData.eqv (toP d) (toP d) = true) → ∀ ds : List D, (∀ d ∈ ds, okD n d = true) → PyData.canLayAll0 (toPs ds) = true ∧ PyData.depthAll (toPs ds) ≤ n ∧ PyData.eqvAll (toPs ds) (toPs ds) = true := by
    intro n ih ds
    induction ds with
    | nil => intro _; simp [toPs, PyData.canLayAll0, PyData.depthAll, PyData.eqvAll]
    | cons d ds hi =>
      intro h
      have a := ih d (h d (.head _))
      have b := hi fun x hx => h x (.tail _ hx)
      simp only [toPs, PyData.canLayAll0, PyData.depthAll, PyData.eqvAll, a.1, b.1, a.2.2, b.2.2, Bool.and_self, true_and, and_true]
      have := a.2.1
      have := b.2.1
      omega
  intro n
  induction n with
  | zero =>
    intro d h
    cases d <;> simp_all [okD, toP, PyData.canLay0, PyData.depth, PyData.eqv]
  | succ n ih =>
    intro d h
    cases d with
    | list ds =>
      have a := all n ih ds (by simpa [okD] using h)
      simp only [toP, PyData.canLay0, PyData.depth, PyData.eqv]
      exact ⟨a.1, by have := a.2.1; omega, a.2.2⟩
    | int i => simp [toP, PyData.canLay0, PyData.depth, PyData.eqv]
    | _ => simp [okD] at h
theorem cmp_ne_same {ds : List D} (h : okD 5 (.list ds) = true) : OpOk c ρ (compareOp .NotEq) (.list ds) (.list ds) (.bool false) := by
  intro s v₁ v₂ Q E F r₁ r₂ hQ
  obtain ⟨as, ra⟩ := rep_reads 5 r₁ h
  obtain ⟨bs, rb⟩ := rep_reads 5 r₂ h
  have L := okD_lay 5 _ h
  have sh : SeqAt.shaped (toP (.list ds)) = true := by
    unfold SeqAt.shaped
    rw [L.1, Bool.true_and]
    exact decide_eq_true (by have := L.2.1; omega)
  refine ne_dataH ra rb sh sh (by have := F.ok.room.2.2; omega) ?_
  rw [L.2.2]
  exact hQ _ s.heap s.toks (Ext.refl _) (.bool _)

-- zip(a list, a list)
noncomputable def zips (d₁ d₂ : List D) : List (List D) := (d₁.zip d₂).map fun q => [q.1, q.2]
theorem zips_length (d₁ d₂ : List D) : (zips d₁ d₂).length = min d₁.length d₂.length := by simp [zips]
theorem zips_get {d₁ d₂ : List D} {i : Nat} {a b : D} (h1 : d₁[i]? = some a) (h2 : d₂[i]? = some b) : (zips d₁ d₂)[i]? = some [a, b] := by
  unfold zips
  have : (d₁.zip d₂)[i]? = some (a, b) := List.getElem?_zip_eq_some.mpr ⟨h1, h2⟩
  rw [List.getElem?_map, this]; rfl
theorem EvIt.zip (k : Nat) {elts : List Expr} {kk : Nat} {p np pos : Pos} {e f : Expr} {d₁ d₂ : List D} (hk : c.gs[k]? = some ("zip" : Str)) (hb : Blt c.W "zip" (.type "zip")) (h1 : Ev c ρ e (.list d₁)) (h2 : Ev c ρ f (.list d₂)) (hz : d₁.length ≤ 100000)
    (he : starEach [e, f] c.env = [(false, eval e c.env), (false, eval f c.env)] := by rfl) (he2 : starEach [f] c.env = [(false, eval f c.env)] := by rfl) :
    EvIt c ρ (.Tuple elts kk p) (.Call (.Name "zip" np) [e, f] [] pos) false false (zips d₁ d₂) := by
  intro s Q E F h
  refine ev_callB (ds := [.list d₁, .list d₂]) k F hk hb ⟨eval e c.env, _, by rw [he]; rfl, by rw [he]; rfl⟩ (EvL.cons h1 (EvL.cons h2 EvL.nil he2) (by rw [he, he2])) fun vs g t y rs => ?_
  cases rs with
  | cons r rs =>
  cases rs with
  | cons r' rs =>
  cases rs
  cases r with
  | list na pl r₁ =>
  rename_i l₁ vs
  cases r' with
  | list nb pl' r₂ =>
  rename_i l₂ ws
  have hlen₁ := r₁.length
  have hlen₂ := r₂.length
  have b₁ : @LT.lt Nat _ l₁ g.objs.size := by obtain ⟨n, e'⟩ := pl; exact Heap.lt_size e'
  have b₂ : @LT.lt Nat _ l₂ g.objs.size := by obtain ⟨n, e'⟩ := pl'; exact Heap.lt_size e'
  refine call_zip_2 pl.isList pl'.isList fun h' hz hTI hTO hi1 hi2 hsz hk' => wpAny_pyIter_zip hz ?_
  dsimp only [after] at hz hTI hTO hi1 hi2 hsz ⊢
  have ne : ∀ {a b : Nat}, a ≠ b → @Ne Addr a b := fun q => q
  have D : ZipApart (g.objs.size + 4) (g.objs.size + 2) (g.objs.size + 3) g.objs.size (g.objs.size + 1) l₁ l₂ := by
    constructor <;> (refine ne ?_; omega)
  have W := (WalksT.zip2 (prog := c.W.prog) (w := c.W.w) (A := c.A) F.ok.room.1 _ _ _ _ _ _ _ D vs.toArray ws.toArray).toU
  rw [show min vs.toArray.size ws.toArray.size = (zips d₁ d₂).length by simp [zips_length, hlen₁, hlen₂]] at W
  have xg : Ext g h' := hk'
  have hge : ∀ b ∈ [g.objs.size + 4, g.objs.size + 3, g.objs.size, g.objs.size + 1], @LE.le Nat _ g.objs.size b := fun b hb => by
    simp only [List.mem_cons, List.not_mem_nil, or_false] at hb
    rcases hb with rfl | rfl | rfl | rfl <;> omega
  have gone : ∀ b, @LE.le Nat _ g.objs.size b → g.get? b = none := fun b hb => by
    cases e : g.get? b with
    | none => rfl
    | some o => exact absurd (Heap.lt_size e) (Nat.not_lt.mpr hb)
  have gone' : ∀ b, @LE.le Nat _ g.objs.size b → s.heap.get? b = none := fun b hb => by
    cases e : s.heap.get? b with
    | none => rfl
    | some o => exact absurd (y.size e) (Nat.not_lt.mpr hb)
  refine h _ _ _ _ _ _ h' t (y.trans xg) ⟨KTurns.ofWalksU W, ⟨hz, hTI, ⟨_, _, hTO⟩, hi1, hi2, (PL.ext pl xg).isList, (PL.ext pl' xg).isList⟩, ?_, ?_, ?_, ?_, ?_, ?_, ?_⟩
  · intro b hb; exact gone' b (hge b hb)
  · intro b hb
    have new : ∀ {o : Obj}, h'.get? b = some o → @LE.le Nat _ g.objs.size b → (h'.get? b).isSome = true ∧ ((s.heap.get? b).isSome = true → ∃ o its n, s.heap.get? b = some o ∧ o.data = .seq its n ∧ ¬ Pv c ρ b) := fun {o} e hb => by
      refine ⟨by rw [e]; rfl, fun z => ?_⟩
      rw [gone' b hb] at z; cases z
    have old : ∀ {vs : Array Value}, g.PlainList b vs → ¬ Pv c ρ b → (h'.get? b).isSome = true ∧ ((s.heap.get? b).isSome = true → ∃ o its n, s.heap.get? b = some o ∧ o.data = .seq its n ∧ ¬ Pv c ρ b) := fun {vs} pl na => by
      obtain ⟨n, e⟩ := pl
      refine ⟨by rw [xg _ _ e]; rfl, fun z => ?_⟩
      obtain ⟨o, e'⟩ := Option.isSome_iff_exists.mp z
      have := y _ _ e'
      rw [e] at this; cases this
      exact ⟨_, _, _, e', rfl, na⟩
    simp only [List.mem_cons, List.not_mem_nil, or_false] at hb
    rcases hb with rfl | rfl | rfl | rfl | rfl | rfl | rfl
    · exact new hz (Nat.le_add_right _ _)
    · exact new hTI (Nat.le_add_right _ _)
    · exact new hTO (Nat.le_add_right _ _)
    · obtain ⟨o, e, _⟩ := hi1; exact new e (Nat.le_refl _)
    · obtain ⟨o, e, _⟩ := hi2; exact new e (Nat.le_add_right _ _)
    · exact old pl na
    · exact old pl' nb
  · rintro i g' ⟨hz, _, ⟨a, b, hTO⟩, ⟨o, e, _⟩, ⟨o', e', _⟩, _⟩ b hb
    simp only [List.mem_cons, List.not_mem_nil, or_false] at hb
    rcases hb with rfl | rfl | rfl | rfl
    · have q : g'.get? _ = _ := hz
      rw [q]; rfl
    · have q : g'.get? _ = _ := hTO
      rw [q]; rfl
    · rw [e]; rfl
    · rw [e']; rfl
  · intro q; cases q
  · rintro i v g' hi ⟨T, vals, rfl, ⟨x, z, hx, hzz, rfl⟩, hT⟩
    obtain ⟨a, ha, ra⟩ := r₁.get' (i := i) (v := x) (by simpa using hx)
    obtain ⟨b, hb, rb⟩ := r₂.get' (i := i) (v := z) (by simpa using hzz)
    exact ⟨[x, z], _, zips_get ha hb, ⟨T, rfl, hT⟩, reps_wr (.cons ra (.cons rb .nil)) xg fun b hb => gone b (hge b hb)⟩
  · exact W.self
  · rw [zips_length]; exact sz_line (by omega)
end Mine
end
section
/-! digits: plain Lean -/
namespace Mine

noncomputable def dg (B z n : Nat) : List Nat := (List.range n).map fun i => z / B ^ i % B
noncomputable def nd (B z : Nat) : Nat := if h : z = 0 ∨ B < 2 then 0 else nd B (z / B) + 1
termination_by z
decreasing_by exact Nat.div_lt_self (by omega) (by omega)
noncomputable def lim (B z : Nat) : List Nat := dg B z (nd B z)

theorem dg_length (B z n : Nat) : (dg B z n).length = n := by simp [dg]
theorem dg_zero (B z : Nat) : dg B z 0 = [] := rfl
theorem dg_succ (B z n : Nat) : dg B z (n + 1) = dg B z n ++ [z / B ^ n % B] := by simp [dg, List.range_succ]
theorem dg_get {B z n i : Nat} (h : i < n) : (dg B z n)[i]? = some (z / B ^ i % B) := by simp [dg, h]
theorem lim_length (B z : Nat) : (lim B z).length = nd B z := dg_length ..
theorem lim_get {B z i : Nat} (h : i < nd B z) : (lim B z)[i]? = some (z / B ^ i % B) := dg_get h

theorem nd_zero (B : Nat) : nd B 0 = 0 := by rw [nd]; simp
theorem nd_pos {B z : Nat} (hB : 2 ≤ B) (hz : 0 < z) : nd B z = nd B (z / B) + 1 := by
  rw [nd, dif_neg (by omega)]
theorem nd_lt {B : Nat} (hB : 2 ≤ B) (z : Nat) : z < B ^ nd B z := by
  induction z using Nat.strongRecOn with
  | ind z ih =>
    rcases Nat.eq_zero_or_pos z with rfl | hz
    · rw [nd_zero]; simp
    · rw [nd_pos hB hz, Nat.pow_succ]
      exact (Nat.div_lt_iff_lt_mul (by omega)).mp (ih _ (Nat.div_lt_self hz (by omega)))
theorem nd_ge {B : Nat} (hB : 2 ≤ B) : ∀ (k z : Nat), k < nd B z → B ^ k ≤ z := by
  intro k
  induction k with
  | zero =>
    intro z h
    rcases Nat.eq_zero_or_pos z with rfl | hz
    · rw [nd_zero] at h; omega
    · rw [Nat.pow_zero]; exact hz
  | succ k ih =>
    intro z h
    rcases Nat.eq_zero_or_pos z with rfl | hz
    · rw [nd_zero] at h; omega
    · rw [nd_pos hB hz] at h
      have := ih (z / B) (by omega)
      rw [Nat.pow_succ]
      exact (Nat.le_div_iff_mul_le (by omega)).mp this
theorem nd_le {B z n : Nat} (hB : 2 ≤ B) (h : z < B ^ n) : nd B z ≤ n := by
  rcases Nat.lt_or_ge n (nd B z) with q | q
  · have := nd_ge hB n z q; omega
  · exact q
theorem nd_eq {B z n : Nat} (hB : 2 ≤ B) (h : z < B ^ n) (h' : n = 0 ∨ B ^ (n - 1) ≤ z) : nd B z = n := by
  have h1 := nd_le hB h
  rcases h' with rfl | h'
  · omega
  · rcases Nat.lt_or_ge (nd B z) n with q | q
    · have h2 := nd_lt hB z
      have : B ^ nd B z ≤ B ^ (n - 1) := Nat.pow_le_pow_right (by omega) (by omega)
      omega
    · omega
theorem nd_small {B z : Nat} (hB : 2 ≤ B) (h : z < 2 ^ 64) : nd B z ≤ 64 :=
  nd_le hB (Nat.lt_of_lt_of_le h (Nat.pow_le_pow_left hB 64))
theorem nd_mono {B x y : Nat} (hB : 2 ≤ B) (h : x ≤ y) : nd B x ≤ nd B y := nd_le hB (Nat.lt_of_le_of_lt h (nd_lt hB y))
theorem lt_nd {B z k : Nat} (hB : 2 ≤ B) : k < nd B z ↔ B ^ k ≤ z :=
  ⟨nd_ge hB k z, fun h => by
    rcases Nat.lt_or_ge k (nd B z) with q | q
    · exact q
    · have := nd_lt hB z
      have h2 : B ^ nd B z ≤ B ^ k := Nat.pow_le_pow_right (by omega) q
      omega⟩
theorem nd_eq_zero {B z : Nat} (hB : 2 ≤ B) : nd B z = 0 ↔ z = 0 := by
  constructor
  · intro h
    have := nd_lt hB z
    rw [h] at this; simpa using this
  · rintro rfl; exact nd_zero B
theorem lim_zero (B : Nat) : lim B 0 = [] := by unfold lim; rw [nd_zero]; rfl
theorem lim_one {B z : Nat} (_hB : 2 ≤ B) (h0 : 0 < z) (h : z < B) : lim B z = [z] := by
  have : nd B z = 1 := nd_eq (by omega) (by simpa using h) (.inr (by rw [Nat.sub_self, Nat.pow_zero]; exact h0))
  unfold lim; rw [this]; simp [dg, Nat.mod_eq_of_lt h]

theorem div_pow_zero {B z n : Nat} (h : z < B ^ n) : z / B ^ n = 0 := Nat.div_eq_of_lt h
theorem div_ge_nd {B z i : Nat} (hB : 2 ≤ B) (h : nd B z ≤ i) : z / B ^ i = 0 := by
  apply Nat.div_eq_of_lt
  exact Nat.lt_of_lt_of_le (nd_lt hB z) (Nat.pow_le_pow_right (by omega) h)
theorem div_step (B z i : Nat) : z / B ^ (i + 1) = z / B ^ i / B := by rw [Nat.pow_succ, Nat.div_div_eq_div_mul]
theorem div_split (B z i : Nat) : z / B ^ i = z / B ^ (i + 1) * B + z / B ^ i % B := by
  rw [div_step]
  have := Nat.div_add_mod (z / B ^ i) B
  rw [Nat.mul_comm] at this; omega

/-- the list is the number's own -/
theorem dg_is_lim {B z n : Nat} (hB : 2 ≤ B) (h : z < B ^ n) (h' : n = 0 ∨ B ^ (n - 1) ≤ z) : dg B z n = lim B z := by
  unfold lim; rw [nd_eq hB h h']

/-- trailing noughts off -/
noncomputable def strip : List Nat → List Nat
  | [] => []
  | d :: l => match strip l with
    | [] => if d = 0 then [] else [d]
    | r => d :: r
theorem strip_snoc_zero (l : List Nat) : strip (l ++ [0]) = strip l := by
  induction l with
  | nil => simp [strip]
  | cons d l ih => simp only [List.cons_append, strip, ih]
theorem strip_snoc_pos (l : List Nat) {d : Nat} (h : d ≠ 0) : strip (l ++ [d]) = l ++ [d] := by
  induction l with
  | nil => simp [strip, h]
  | cons e l ih =>
    simp only [List.cons_append, strip, ih]
    cases hl : l ++ [d] with
    | nil => simp at hl
    | cons a r => rfl
theorem strip_dg {B z : Nat} (hB : 2 ≤ B) : ∀ {n : Nat}, z < B ^ n → strip (dg B z n) = lim B z
  | 0, h => by
    have : z = 0 := by simpa using h
    subst this; rw [lim_zero]; rfl
  | n + 1, h => by
    rw [dg_succ]
    rcases Nat.lt_or_ge z (B ^ n) with q | q
    · rw [div_pow_zero q, Nat.zero_mod, strip_snoc_zero]
      exact strip_dg hB q
    · have hd : z / B ^ n % B ≠ 0 := by
        have h1 : z / B ^ n < B := Nat.div_lt_of_lt_mul (by rw [← Nat.pow_succ]; exact h)
        have h2 : 0 < z / B ^ n := Nat.div_pos q (Nat.pow_pos (by omega))
        rw [Nat.mod_eq_of_lt h1]; omega
      rw [strip_snoc_pos _ hd, ← dg_succ]
      exact dg_is_lim hB h (.inr (by simpa using q))

/-- the carry of a sum -/
noncomputable def cy (B x y i : Nat) : Nat := (x + y) / B ^ i - x / B ^ i - y / B ^ i
theorem div_add_le (P x y : Nat) : x / P + y / P ≤ (x + y) / P := by
  rcases Nat.eq_zero_or_pos P with rfl | hP
  · simp
  · rw [Nat.le_div_iff_mul_le hP, Nat.add_mul]
    have := Nat.div_mul_le_self x P
    have := Nat.div_mul_le_self y P
    omega
theorem cy_eq (B x y i : Nat) : cy B x y i + x / B ^ i + y / B ^ i = (x + y) / B ^ i := by
  have := div_add_le (B ^ i) x y
  unfold cy; omega
theorem cy_zero (B x y : Nat) : cy B x y 0 = 0 := by unfold cy; simp
theorem cy_le (B x y i : Nat) (hB : 2 ≤ B) : cy B x y i ≤ 1 := by
  have hP : 0 < B ^ i := Nat.pow_pos (by omega)
  have h := cy_eq B x y i
  generalize B ^ i = P at *
  have hx := Nat.div_add_mod x P
  have hy := Nat.div_add_mod y P
  have hx' := Nat.mod_lt x hP
  have hy' := Nat.mod_lt y hP
  have : (x + y) / P < x / P + y / P + 2 := by
    rw [Nat.div_lt_iff_lt_mul hP, Nat.add_mul, Nat.add_mul, Nat.mul_comm (x / P), Nat.mul_comm (y / P)]
    omega
  omega
theorem cy_turn (B x y i : Nat) (hB : 2 ≤ B) : (cy B x y i + (x / B ^ i % B + y / B ^ i % B)) % B = (x + y) / B ^ i % B ∧ (cy B x y i + (x / B ^ i % B + y / B ^ i % B)) / B = cy B x y (i + 1) := by
  have h0 := cy_eq B x y i
  have h1 := cy_eq B x y (i + 1)
  rw [div_step, div_step, div_step] at h1
  generalize cy B x y i = c at *
  generalize cy B x y (i + 1) = c' at *
  generalize (x + y) / B ^ i = s at *
  generalize x / B ^ i = a at *
  generalize y / B ^ i = b at *
  have ha := Nat.div_add_mod a B
  have hb := Nat.div_add_mod b B
  have e : s = c + (a % B + b % B) + B * (a / B + b / B) := by rw [Nat.mul_add]; omega
  have e2 : s / B = (c + (a % B + b % B)) / B + (a / B + b / B) := by
    rw [e, Nat.add_mul_div_left _ _ (by omega)]
  constructor
  · rw [e, Nat.add_mul_mod_self_left]
  · omega
end Mine
end
section
open PySem PySem.W PyProof.Rows PySem.Calls
set_option maxRecDepth 10000
namespace Mine

noncomputable def stm (i : Nat) : Stmt := PySem.Challenge.pw_sa0348_01.main.body.getD i (.Pass ⟨0, 0, 0, 0⟩)

/-- what stands under the global names -/
structure Prg (W : Wd) : Prop where
  len : Blt W "len" (.builtin "len")
  abs : Blt W "abs" (.builtin "abs")
  max : Blt W "max" (.builtin "max")
  int : Blt W "int" (.type "int")
  list : Blt W "list" (.type "list")
  range : Blt W "range" (.type "range")
  enumerate : Blt W "enumerate" (.type "enumerate")
  zip : Blt W "zip" (.type "zip")
  reversed : Blt W "reversed" (.type "reversed")
  f_normal : FnAt W "normal" "normal" (stm 5)
  f_compare : FnAt W "compare" "compare" (stm 6)
  f_add : FnAt W "add" "add" (stm 7)
  f_sub : FnAt W "sub" "sub" (stm 8)
  f_add_at : FnAt W "add_at" "add_at" (stm 9)
  f_shift_left : FnAt W "shift_left" "shift_left" (stm 10)
  f_shift_right : FnAt W "shift_right" "shift_right" (stm 11)
  f_bits : FnAt W "bits" "bits" (stm 12)
  f_low : FnAt W "low" "low" (stm 13)
  f_is_small_prime : FnAt W "is_small_prime" "is_small_prime" (stm 15)
  f_prime_for : FnAt W "prime_for" "prime_for" (stm 16)
  f_plain_power : FnAt W "plain_power" "plain_power" (stm 17)
  f_root_of_unity : FnAt W "root_of_unity" "root_of_unity" (stm 18)
  f_powers_of : FnAt W "powers_of" "powers_of" (stm 19)
  f_forward_primeforms : FnAt W "forward_primeforms" "forward" (stm 20)
  f_backward_primeforms : FnAt W "backward_primeforms" "backward" (stm 22)
  f_filled : FnAt W "filled" "filled" (stm 24)
  f_convolve : FnAt W "convolve" "convolve" (stm 25)
  f_convolve_turned : FnAt W "convolve_turned" "convolve_turned" (stm 26)
  f_ring_one : FnAt W "ring_one" "ring_one" (stm 28)
  f_ring_add : FnAt W "ring_add" "ring_add" (stm 29)
  f_ring_sub : FnAt W "ring_sub" "ring_sub" (stm 30)
  f_ring_neg : FnAt W "ring_neg" "ring_neg" (stm 31)
  f_need_ring : FnAt W "need_ring" "need_ring" (stm 32)
  f_ring_fold : FnAt W "ring_fold" "ring_fold" (stm 33)
  f_ring_shift : FnAt W "ring_shift" "ring_shift" (stm 34)
  f_ring_mul : FnAt W "ring_mul" "ring_mul" (stm 35)
  f_forward_rings : FnAt W "forward_rings" "forward" (stm 36)
  f_backward_rings : FnAt W "backward_rings" "backward" (stm 38)
  f_convolved : FnAt W "convolved" "convolved" (stm 40)
  f_weighted : FnAt W "weighted" "weighted" (stm 41)
  f_convolved_minus : FnAt W "convolved_minus" "convolved_minus" (stm 42)
  f_mul_school : FnAt W "mul_school" "mul_school" (stm 44)
  f_signed : FnAt W "signed" "signed" (stm 46)
  f_s_neg : FnAt W "s_neg" "s_neg" (stm 47)
  f_s_add : FnAt W "s_add" "s_add" (stm 48)
  f_s_sub : FnAt W "s_sub" "s_sub" (stm 49)
  f_s_mul : FnAt W "s_mul" "s_mul" (stm 50)
  f_pieces : FnAt W "pieces" "pieces" (stm 52)
  f_piece_size : FnAt W "piece_size" "piece_size" (stm 53)
  f_scaled : FnAt W "scaled" "scaled" (stm 54)
  f_exact_small : FnAt W "exact_small" "exact_small" (stm 55)
  f_both_values : FnAt W "both_values" "both_values" (stm 56)
  f_value_at_half : FnAt W "value_at_half" "value_at_half" (stm 57)
  f_halves_of : FnAt W "halves_of" "halves_of" (stm 58)
  f_natural : FnAt W "natural" "natural" (stm 59)
  f_even_coefficients : FnAt W "even_coefficients" "even_coefficients" (stm 60)
  f_odd_coefficients : FnAt W "odd_coefficients" "odd_coefficients" (stm 61)
  f_from_seven : FnAt W "from_seven" "from_seven" (stm 62)
  f_recomposed : FnAt W "recomposed" "recomposed" (stm 63)
  f_products_of : FnAt W "products_of" "products_of" (stm 65)
  f_ends_of : FnAt W "ends_of" "ends_of" (stm 66)
  f_values_four : FnAt W "values_four" "values_four" (stm 67)
  f_values_seven : FnAt W "values_seven" "values_seven" (stm 68)
  f_joined_seven : FnAt W "joined_seven" "joined_seven" (stm 69)
  f_common_size : FnAt W "common_size" "common_size" (stm 70)
  f_toom4 : FnAt W "toom4" "toom4" (stm 71)
  f_law_brick : FnAt W "_law_brick" "_law_brick" (stm 73)
  f_law_limbs : FnAt W "_law_limbs" "_law_limbs" (stm 74)
  f_law_without : FnAt W "_law_without" "_law_without" (stm 75)
  f_law_single : FnAt W "_law_single" "_law_single" (stm 76)
  f_law_is_tooms : FnAt W "_law_is_tooms" "_law_is_tooms" (stm 77)

-- small helps
theorem tw (w : Nat) : ((w : Int)).toNat = w := Int.toNat_natCast w
noncomputable def iL (l : List Nat) : List D := l.map fun (d : Nat) => D.int (d : Int)
noncomputable def R (B z : Nat) : D := .list (iL (lim B z))
theorem iL_length (l : List Nat) : (iL l).length = l.length := by simp [iL]
theorem iL_get {l : List Nat} {i d : Nat} (h : l[i]? = some d) : (iL l)[i]? = some (.int (d : Int)) := by simp [iL, h]
theorem iL_append (l r : List Nat) : iL (l ++ r) = iL l ++ iL r := by simp [iL]
theorem iL_snoc (l : List Nat) (d : Nat) : iL l ++ [.int (d : Int)] = iL (l ++ [d]) := by simp [iL]
theorem iL_lim_length (B z : Nat) : (iL (lim B z)).length = nd B z := by rw [iL_length, lim_length]

theorem ExS.retO (k : Nat) {c : Cx} {ρ : Loc} {x : Str} {np pos : Pos} {a : Addr} {ds : List D} {Φ : Out → Prop} (hk : c.ks[k]? = some x) (hb : ρ[k]? = some (some (.own a ds))) (hΦ : Φ (.ret (.list ds))) : ExS c ρ (.Return (some (.Name x np)) pos) Φ := by
  intro s Q E hf F hQ
  refine wpAny_Return_some ?_
  obtain ⟨v, V, rfl, vs, p, r⟩ := F.var k x _ hk hb
  have na : ¬ c.av a := (F.own0 k a ds hb).2.1
  exact ev_var F.ok (List.mem_of_getElem? hk) V (hQ _ (.ret (.list ds)) s.heap s.toks hΦ (Ext.refl _).pres ⟨_, rfl, .list na p (r.mono (Ext.refl _).keq fun _ _ q => .inl q)⟩)
/-- an own list is held as pure from here on -/
theorem weak_free : ∀ (k : Nat) {ρ : Loc} {a : Addr} {ds : List D}, ρ[k]? = some (some (.own a ds)) → Weak ρ (ρ.set k (some (.p (.list ds))))
  | 0, _ :: r, a, ds, h => by cases h; exact .free (Weak.refl r)
  | k + 1, _ :: r, a, ds, h => .same (weak_free k (ρ := r) h)
theorem Ex.free (k : Nat) {c : Cx} {ρ : Loc} {a : Addr} {ds : List D} {sts : List Stmt} {Φ : Out → Prop} (hb : ρ[k]? = some (some (.own a ds))) (h : Ex c (ρ.set k (some (.p (.list ds)))) sts Φ) : Ex c ρ sts Φ := Ex.weak (weak_free k hb) h
/-- a turn from two sides -/
theorem Ex.seq {c : Cx} {ρ : Loc} {st : Stmt} {rest : List Stmt} {Ψ Φ : Out → Prop} (h1 : ExS c ρ st Ψ) (h2 : ∀ o, Ψ o → Cont c rest Φ o) : Ex c ρ (st :: rest) Φ := Ex.cons (h1.mono h2)
theorem pow2_ge {w : Nat} (h : 1 ≤ w) : 2 ≤ 2 ^ w := by
  have := Nat.pow_le_pow_right (n := 2) (by omega) h
  simpa using this
theorem mask_nat (x w : Nat) : Builtin.bitAnd (x : Int) (1 * 2 ^ ((w : Int)).toNat - 1) = ((x % 2 ^ w : Nat) : Int) := by
  rw [tw, Int.one_mul, kbt_mask]; simp
theorem shr_nat (x w : Nat) : (x : Int) / 2 ^ ((w : Int)).toNat = ((x / 2 ^ w : Nat) : Int) := by
  rw [tw]; simp

-- the rules as they are used
theorem lt_of_some {ρ : Loc} {k : Nat} (h : (ρ[k]?).isSome = true) : k < ρ.length := by
  rcases Nat.lt_or_ge k ρ.length with q | q
  · exact q
  · rw [List.getElem?_eq_none q] at h; cases h
noncomputable def KX (c : Cx) (ρ : Loc) : List (Nat × Str) → Prop
  | [] => True
  | q :: r => (c.ks[q.1]? = some q.2 ∧ (ρ[q.1]?).isSome = true) ∧ KX c ρ r
theorem KX.all {c : Cx} {ρ : Loc} : ∀ {kxs : List (Nat × Str)}, KX c ρ kxs → ∀ q ∈ kxs, c.ks[q.1]? = some q.2 ∧ q.1 < ρ.length
  | _ :: _, h, q, hq => by
    rcases List.mem_cons.mp hq with rfl | hq
    · exact ⟨h.1.1, lt_of_some h.1.2⟩
    · exact KX.all h.2 q hq
noncomputable def KS (c : Cx) : List (Nat × Str) → Prop
  | [] => True
  | q :: r => c.ks[q.1]? = some q.2 ∧ KS c r
theorem KS.all {c : Cx} : ∀ {kxs : List (Nat × Str)}, KS c kxs → ∀ q ∈ kxs, c.ks[q.1]? = some q.2
  | _ :: _, h, q, hq => by
    rcases List.mem_cons.mp hq with rfl | hq
    · exact h.1
    · exact KS.all h.2 q hq

section
variable {c : Cx} {ρ : Loc} {rest : List Stmt} {Φ : Out → Prop} {x : Str} {np pos : Pos}
theorem Ev.itemN {value slice : Expr} {ds : List D} {i : Int} {d : D} (h1 : EvSeq c ρ value ds) (h2 : Ev c ρ slice (.int i)) (j : Nat) (he : i = (j : Int)) (hj : j < 100000) (hd : ds[j]? = some d)
    (hs : ∀ o i, subscripted slice false o i = operate [o, i] (getItem o i) := by intro _ _; rfl) : Ev c ρ (.Subscript value slice pos) d := by
  subst he
  exact Ev.item h1 h2 (by omega) (by omega) (by simpa using hd) hs
theorem Ev.itemTN {value slice : Expr} {ds : List D} {i : Int} {d : D} (h1 : Ev c ρ value (.tup ds)) (h2 : Ev c ρ slice (.int i)) (j : Nat) (he : i = (j : Int)) (hj : j < 100000) (hd : ds[j]? = some d)
    (hs : ∀ o i, subscripted slice false o i = operate [o, i] (getItem o i) := by intro _ _; rfl) : Ev c ρ (.Subscript value slice pos) d := by
  subst he
  exact Ev.itemT h1 h2 (by omega) (by omega) (by simpa using hd) hs
theorem Ev.to {e : Expr} {d d' : D} (h : Ev c ρ e d) (q : d = d') : Ev c ρ e d' := q ▸ h
theorem EvT.to {e : Expr} {d d' : Bool} (h : EvT c ρ e d) (q : d = d') : EvT c ρ e d' := q ▸ h
theorem EvO.to {e : Expr} {d d' : List D} (h : EvO c ρ e d) (q : d = d') : EvO c ρ e d' := q ▸ h
theorem EvIt.to {t e : Expr} {a b : Bool} {d d' : List (List D)} (h : EvIt c ρ t e a b d) (q : d = d') : EvIt c ρ t e a b d' := q ▸ h

theorem X.set (k : Nat) {e : Expr} {d : D} (h1 : Ev c ρ e d) (h : Ex c (ρ.set k (some (.p d))) rest Φ) (hk : c.ks[k]? = some x := by rfl) (hl : (ρ[k]?).isSome = true := by rfl) (hs : swapsWith e (some (.Name x np)) pos.line c.env = pure false := by rfl) :
    Ex c ρ (.Assign [.Name x np] e pos :: rest) Φ := Ex.cons (ExS.assign k hk (lt_of_some hl) h1 h hs)
theorem X.own (k : Nat) {e : Expr} {ds : List D} (h1 : EvO c ρ e ds) (h : ∀ a, Ex c (ρ.set k (some (.own a ds))) rest Φ) (hk : c.ks[k]? = some x := by rfl) (hl : (ρ[k]?).isSome = true := by rfl) (hks : Nat.ble c.ks.length ρ.length = true := by rfl) (hs : swapsWith e (some (.Name x np)) pos.line c.env = pure false := by rfl) :
    Ex c ρ (.Assign [.Name x np] e pos :: rest) Φ := Ex.cons (ExS.assignO k hk (lt_of_some hl) (Nat.le_of_ble_eq_true hks) h1 h hs)
theorem X.aug (k : Nat) {op : Operator} {e : Expr} {d₁ d₂ d : D} (h1 : Ev c ρ e d₂) (hop : OpOk c ρ (inplaceOp op) d₁ d₂ d) (h : Ex c (ρ.set k (some (.p d))) rest Φ) (hk : c.ks[k]? = some x := by rfl) (hb : ρ[k]? = some (some (.p d₁)) := by rfl) :
    Ex c ρ (.AugAssign (.Name x np) op e pos :: rest) Φ := Ex.cons (ExS.aug k hk (lt_of_some (by rw [hb]; rfl)) hb h1 hop h)
theorem X.app (k : Nat) {apos epos : Pos} {e : Expr} {a : Addr} {ds : List D} {d : D} (h1 : Ev c ρ e d) (hz : ds.length ≤ 100000) (h : Ex c (ρ.set k (some (.own a (ds ++ [d])))) rest Φ) (hk : c.ks[k]? = some x := by rfl) (hb : ρ[k]? = some (some (.own a ds)) := by rfl)
    (he : starEach [e] c.env = [(false, eval e c.env)] := by rfl) (hline : (apos.endLine == pos.line) = true := by rfl) :
    Ex c ρ (.Expr (.Call (.Attribute (.Name x np) "append" apos) [e] [] pos) epos :: rest) Φ := Ex.cons (ExS.append k hk hb h1 hz h he hline)
theorem X.put (k : Nat) {sp : Pos} {i e : Expr} {a : Addr} {ds : List D} {j : Int} {d : D} (h1 : Ev c ρ e d) (h2 : Ev c ρ i (.int j)) (n : Nat) (hn : j = (n : Int)) (hj : n < ds.length) (hz : ds.length ≤ 100000)
    (h : Ex c (ρ.set k (some (.own a (ds.set n d)))) rest Φ) (hk : c.ks[k]? = some x := by rfl) (hb : ρ[k]? = some (some (.own a ds)) := by rfl) (hs : swapsWith e (some (.Subscript (.Name x np) i sp)) pos.line c.env = pure false := by rfl) :
    Ex c ρ (.Assign [.Subscript (.Name x np) i sp] e pos :: rest) Φ := by
  subst hn
  exact Ex.cons (ExS.setItem k hk hb h1 h2 (by omega) (by omega) hz (by rw [Int.toNat_natCast]; exact h) hs)
theorem X.ret {e : Expr} {d : D} (h1 : Ev c ρ e d) (h : Φ (.ret d)) : Ex c ρ (.Return (some e) pos :: rest) Φ := Ex.cons (ExS.ret h1 h)
theorem X.retO (k : Nat) {a : Addr} {ds : List D} (h : Φ (.ret (.list ds))) (hk : c.ks[k]? = some x := by rfl) (hb : ρ[k]? = some (some (.own a ds)) := by rfl) : Ex c ρ (.Return (some (.Name x np)) pos :: rest) Φ := Ex.cons (ExS.retO k hk hb h)
theorem X.if {t : Expr} {b : Bool} {body orelse : List Stmt} (h1 : EvT c ρ t b) (h2 : b = true → Ex c ρ body (Cont c rest Φ)) (h3 : b = false → Ex c ρ orelse (Cont c rest Φ)) : Ex c ρ (.If t body orelse pos :: rest) Φ := Ex.cons (ExS.if h1 h2 h3)
theorem X.else {t : Expr} {b : Bool} {body : List Stmt} (h1 : EvT c ρ t b) (h2 : b = true → Ex c ρ body (Cont c rest Φ)) (h3 : b = false → Ex c ρ rest Φ) : Ex c ρ (.If t body [] pos :: rest) Φ := Ex.cons (ExS.if h1 h2 fun h => Ex.nil (h3 h))
/-- a test that is known to fail -/
theorem X.no {t : Expr} {body : List Stmt} (h1 : EvT c ρ t false) (h3 : Ex c ρ rest Φ) : Ex c ρ (.If t body [] pos :: rest) Φ := Ex.cons (ExS.if h1 (fun h => by cases h) fun _ => Ex.nil h3)
theorem X.tupW (kxs : List (Nat × Str)) {elts : List Expr} {tk : Nat} {tpos : Pos} {e : Expr} {ds : List D} (h1 : Ev c ρ e (.tup ds)) (h : Ex c (setP ρ kxs.reverse ds.reverse) rest Φ) (hk : KX c ρ kxs) (hn : kxs.length = ds.length := by rfl)
    (hs : swapsWithSole [.Tuple elts tk tpos] e pos.line c.env = pure false := by rfl) (hw : swappedStores [.Tuple elts tk tpos] e c.env = pure (some (kxs.map (·.2))) := by rfl) :
    Ex c ρ (.Assign [.Tuple elts tk tpos] e pos :: rest) Φ := Ex.cons (ExS.assignW kxs hk.all hn h1 h hs hw)
theorem X.tupU (kxs : List (Nat × Str)) {elts : List Expr} {tk : Nat} {tpos : Pos} {e : Expr} {ds : List D} (h1 : Ev c ρ e (.tup ds)) (h : Ex c (setP ρ kxs ds) rest Φ) (hk : KX c ρ kxs) (hb : Binds c kxs ((assignEach elts c.env).map (·.2))) (hn : kxs.length = ds.length := by rfl)
    (hidx : (assignEach elts c.env).findIdx? (·.1) = none := by rfl) (hne : (assignEach elts c.env).length = kxs.length := by rfl)
    (hs : swapsWithSole [.Tuple elts tk tpos] e pos.line c.env = pure false := by rfl) (hw : swappedStores [.Tuple elts tk tpos] e c.env = pure none := by rfl) :
    Ex c ρ (.Assign [.Tuple elts tk tpos] e pos :: rest) Φ := Ex.cons (ExS.assignU kxs hk.all hn h1 hb hidx hne h hs hw)
theorem X.ow (k : Nat) (kxs : List (Nat × Str)) {elts : List Expr} {tk tk' : Nat} {tpos vpos : Pos} {e : Expr} {es : List Expr} {ds : List D} {ds' : List D} (h1 : EvO c ρ e ds) (h2 : ∀ a, EvL c (ρ ++ [some (.own a ds)]) vpos es ds')
    (h : ∀ a, Ex c ((setP ρ kxs.reverse ds'.reverse).set k (some (.own a ds))) rest Φ) (hk : KX c ρ kxs) (hkx : c.ks[k]? = some x := by rfl) (hl : (ρ[k]?).isSome = true := by rfl) (hks : Nat.ble c.ks.length ρ.length = true := by rfl) (hn : kxs.length = ds'.length := by rfl) (hz : Nat.ble ds'.length 100 = true := by rfl)
    (he : starEach (e :: es) c.env = (false, eval e c.env) :: starEach es c.env := by rfl)
    (hs : swapsWithSole [.Tuple elts tk tpos] (.Tuple (e :: es) tk' vpos) pos.line c.env = pure false := by rfl) (hw : swappedStores [.Tuple elts tk tpos] (.Tuple (e :: es) tk' vpos) c.env = pure (some (x :: kxs.map (·.2))) := by rfl) :
    Ex c ρ (.Assign [.Tuple elts tk tpos] (.Tuple (e :: es) tk' vpos) pos :: rest) Φ :=
  Ex.cons (ExS.assignOW k x kxs hkx (lt_of_some hl) (Nat.le_of_ble_eq_true hks) hk.all hn h1 h2 (Nat.le_of_ble_eq_true hz) h he hs hw)
theorem X.while (I : Nat → Loc → Prop) (n : Nat) {test : Expr} {body : List Stmt} (h0 : I n ρ)
    (step : ∀ n ρ', I n ρ' → ∃ b, EvT c ρ' test b ∧ (b = true → Ex c ρ' body (Turn (Cont c rest Φ) fun ρ'' => ∃ m, m < n ∧ I m ρ'')) ∧ (b = false → Ex c ρ' rest Φ)) : Ex c ρ (.While test body [] pos :: rest) Φ := Ex.cons (ExS.while I n h0 step)
theorem X.for (kxs : List (Nat × Str)) (I : Nat → Loc → Prop) {target iter : Expr} {single : Bool} {dss : List (List D)} {body : List Stmt} (hit : EvIt c ρ target iter single true dss) (h0 : I 0 ρ)
    (step : ∀ i ρ' ds, I i ρ' → dss[i]? = some ds → KX c ρ' kxs ∧ kxs.length = ds.length ∧ Ex c (setP ρ' kxs ds) body (Turn (Cont c rest Φ) (I (i + 1))))
    (done : ∀ ρ', I dss.length ρ' → Ex c ρ' rest Φ) (hb : BindsTo' c target single kxs) (hk : KS c kxs) (hs : ∀ x, foldedSetIterable iter c.env x = pure x := by intro _; rfl) : Ex c ρ (.For target iter body [] pos :: rest) Φ := by
  exact Ex.cons (ExS.for kxs I hb hk.all hit h0 (fun i ρ' ds hI hd => ⟨fun q hq => ((step i ρ' ds hI hd).1.all q hq).2, (step i ρ' ds hI hd).2⟩) done hs)
end
end Mine
end
section
open PySem PySem.W PyProof.Rows PySem.Calls
set_option maxRecDepth 10000
namespace Mine
section
variable {c : Cx} {ρ : Loc} {rest : List Stmt} {Φ : Out → Prop} {x y : Str} {np np' pos : Pos}
theorem X.forR (k : Nat) (I : Nat → Loc → Prop) {iter : Expr} {a st : Int} {n : Nat} {body : List Stmt} (hit : EvIt c ρ (.Name x np) iter true true (rng a st n)) (h0 : I 0 ρ)
    (step : ∀ i ρ' (v : Int), i < n → I i ρ' → v = a + (i : Int) * st → (ρ'[k]?).isSome = true ∧ Ex c (ρ'.set k (some (.p (.int v)))) body (Turn (Cont c rest Φ) (I (i + 1))))
    (done : ∀ ρ', I n ρ' → Ex c ρ' rest Φ) (hk : c.ks[k]? = some x := by rfl) (hs : ∀ x, foldedSetIterable iter c.env x = pure x := by intro _; rfl) : Ex c ρ (.For (.Name x np) iter body [] pos :: rest) Φ := by
  refine X.for [(k, x)] I hit h0 (fun i ρ' ds hI hd => ?_) (fun ρ' h => done ρ' (by rwa [rng_length] at h)) ⟨_, _, _, rfl, rfl⟩ ⟨hk, trivial⟩ hs
  have hi : i < n := by
    rcases Nat.lt_or_ge i n with q | q
    · exact q
    · rw [List.getElem?_eq_none (by rw [rng_length]; exact q)] at hd; cases hd
  rw [rng_get hi] at hd
  cases hd
  have := step i ρ' _ hi hI rfl
  exact ⟨⟨⟨hk, this.1⟩, trivial⟩, rfl, this.2⟩
theorem X.forL (k : Nat) (I : Nat → Loc → Prop) {iter : Expr} {ds : List D} {body : List Stmt} (hit : EvIt c ρ (.Name x np) iter true true (ds.map fun d => [d])) (h0 : I 0 ρ)
    (step : ∀ i ρ' d, i < ds.length → ds[i]? = some d → I i ρ' → (ρ'[k]?).isSome = true ∧ Ex c (ρ'.set k (some (.p d))) body (Turn (Cont c rest Φ) (I (i + 1))))
    (done : ∀ ρ', I ds.length ρ' → Ex c ρ' rest Φ) (hk : c.ks[k]? = some x := by rfl) (hs : ∀ x, foldedSetIterable iter c.env x = pure x := by intro _; rfl) : Ex c ρ (.For (.Name x np) iter body [] pos :: rest) Φ := by
  refine X.for [(k, x)] I hit h0 (fun i ρ' es hI hd => ?_) (fun ρ' h => done ρ' (by rwa [List.length_map] at h)) ⟨_, _, _, rfl, rfl⟩ ⟨hk, trivial⟩ hs
  rw [List.getElem?_map] at hd
  cases e : ds[i]? with
  | none => rw [e] at hd; cases hd
  | some d =>
    rw [e] at hd; cases hd
    have hi : i < ds.length := by
      rcases Nat.lt_or_ge i ds.length with q | q
      · exact q
      · rw [List.getElem?_eq_none q] at e; cases e
    have := step i ρ' d hi e hI
    exact ⟨⟨⟨hk, this.1⟩, trivial⟩, rfl, this.2⟩
theorem X.forE (k k' : Nat) (I : Nat → Loc → Prop) {iter : Expr} {tk : Nat} {tpos : Pos} {ds : List D} {body : List Stmt} (hit : EvIt c ρ (.Tuple [.Name x np, .Name y np'] tk tpos) iter false true (enums ds)) (h0 : I 0 ρ)
    (step : ∀ i ρ' d, i < ds.length → ds[i]? = some d → I i ρ' → (ρ'[k]?).isSome = true ∧ (ρ'[k']?).isSome = true ∧ Ex c ((ρ'.set k (some (.p (.int (i : Int))))).set k' (some (.p d))) body (Turn (Cont c rest Φ) (I (i + 1))))
    (done : ∀ ρ', I ds.length ρ' → Ex c ρ' rest Φ) (hk : c.ks[k]? = some x := by rfl) (hk' : c.ks[k']? = some y := by rfl) (hs : ∀ x, foldedSetIterable iter c.env x = pure x := by intro _; rfl) : Ex c ρ (.For (.Tuple [.Name x np, .Name y np'] tk tpos) iter body [] pos :: rest) Φ := by
  refine X.for [(k, x), (k', y)] I hit h0 (fun i ρ' es hI hd => ?_) (fun ρ' h => done ρ' (by rwa [enums_length] at h)) ⟨_, _, _, rfl, .cons (fun v s Q E h => wpAny_assign_Name h) (.cons (fun v s Q E h => wpAny_assign_Name h) .nil), rfl, rfl⟩ ⟨hk, hk', trivial⟩ hs
  have hi : i < ds.length := by
    rcases Nat.lt_or_ge i ds.length with q | q
    · exact q
    · rw [List.getElem?_eq_none (by rw [enums_length]; exact q)] at hd; cases hd
  rw [enums_get (List.getElem?_eq_getElem hi)] at hd
  cases hd
  have := step i ρ' _ hi (List.getElem?_eq_getElem hi) hI
  exact ⟨⟨⟨hk, this.1⟩, ⟨hk', this.2.1⟩, trivial⟩, rfl, this.2.2⟩
end
end Mine
end
section
open PySem PySem.W PyProof.Rows PySem.Calls
set_option maxRecDepth 10000
namespace Mine
noncomputable def KC (c : Cx) (ρ : Loc) (scope : Scope) (cl : List (Str × Addr)) : List Str → List (Nat × D) → Prop
  | x :: cs, q :: caps => ((relabel scope c.env).names.lookup x = some .cell ∧ cl.lookup x = c.env.cells.lookup x ∧ c.env.kindOf x = some .cell ∧ c.ks[q.1]? = some x ∧ ρ[q.1]? = some (some (.p q.2))) ∧ KC c ρ scope cl cs caps
  | [], [] => True
  | _, _ => False
theorem KC.len {c : Cx} {ρ : Loc} {scope : Scope} {cl : List (Str × Addr)} : ∀ {cs : List Str} {caps : List (Nat × D)}, KC c ρ scope cl cs caps → cs.length = caps.length
  | [], [], _ => rfl
  | _ :: _, _ :: _, h => by simp [KC.len h.2]
  | [], _ :: _, h => h.elim
  | _ :: _, [], h => h.elim
theorem KC.at {c : Cx} {ρ : Loc} {scope : Scope} {cl : List (Str × Addr)} : ∀ {cs : List Str} {caps : List (Nat × D)}, KC c ρ scope cl cs caps → ∀ (j : Nat) x, cs[j]? = some x → (relabel scope c.env).names.lookup x = some .cell ∧ cl.lookup x = c.env.cells.lookup x ∧ c.env.kindOf x = some .cell ∧ ∃ k d, caps[j]? = some (k, d) ∧ c.ks[k]? = some x ∧ ρ[k]? = some (some (.p d))
  | [], [], _, j, x, h => by simp at h
  | y :: _, q :: _, h, 0, x, e => by cases e; exact ⟨h.1.1, h.1.2.1, h.1.2.2.1, q.1, q.2, rfl, h.1.2.2.2⟩
  | _ :: _, _ :: _, h, j + 1, x, e => KC.at h.2 j x (by simpa using e)
  | [], _ :: _, h, _, _, _ => h.elim
  | _ :: _, [], h, _, _, _ => h.elim
theorem KOk.of {c : Cx} {ρ : Loc} {scope : Scope} {cl : List (Str × Addr)} {xs gs cs : List Str} {caps : List (Nat × D)} (clos : closureFor scope c.env = pure cl) (hc : KC c ρ scope cl cs caps)
    (kind : scope.kind = .function) (h1 : (scope.names.all fun y => !(y.2 == .cell)) = true) (h2 : (scope.names.all fun y => !(y.2 == .local) || scope.names.lookup y.1 == some .local) = true)
    (h3 : (decide (xs ++ cs).Nodup) = true) (h4 : (xs.all fun x => (relabel scope c.env).names.lookup x == some .local) = true) (h5 : (gs.all fun x => (relabel scope c.env).names.lookup x == some .globalImplicit) = true)
    (h6 : ((xs ++ cs ++ gs).all fun x => !(x == ("__debug__" : Str))) = true) : KOk c ρ scope cl xs gs caps cs where
  clos := clos
  kind := kind
  nocell := fun y hy e => by have := List.all_eq_true.mp h1 y hy; rw [e] at this; cases this
  names := fun y hy e => by
    have := List.all_eq_true.mp h2 y hy
    rw [e] at this
    simpa using this
  nod := of_decide_eq_true h3
  loc := fun x hx => by simpa using List.all_eq_true.mp h4 x hx
  cap := hc.at
  len := hc.len
  gl := fun x hx => by simpa using List.all_eq_true.mp h5 x hx
  nodb := fun x hx => by
    have := List.all_eq_true.mp h6 x (by simp at hx ⊢; rcases hx with (h | h) | h <;> simp [h])
    simpa using this
section
variable {c : Cx} {ρ : Loc}
/-- a comprehension with one name -/
theorem EvO.c1 (x : Str) (cs gs : List Str) (caps : List (Nat × D)) {p : Pos} {iter elt : Expr} {tidy : Bool} {dss : List (List D)} {outs : List D} {scope : Scope} {pos : Pos} (hit : EvIt c ρ (.Name x p) iter true tidy dss) (hlen : outs.length = dss.length)
    (hel : ∀ (i : Nat) ds d, dss[i]? = some ds → outs[i]? = some d → ∃ u, ds = [u] ∧ ∀ cl C av, Ev (mkK c scope cl (x :: cs) gs C av) (rhoK [u] caps) elt d)
    {cl : List (Str × Addr)} (clos : closureFor scope c.env = pure cl) (hc : KC c ρ scope cl cs caps)
    (kind : scope.kind = .function := by rfl) (h1 : (scope.names.all fun y => !(y.2 == .cell)) = true := by rfl) (h2 : (scope.names.all fun y => !(y.2 == .local) || scope.names.lookup y.1 == some .local) = true := by rfl)
    (h3 : (decide ([x] ++ cs).Nodup) = true := by rfl) (h4 : ([x].all fun x => (relabel scope c.env).names.lookup x == some .local) = true := by rfl) (h5 : (gs.all fun x => (relabel scope c.env).names.lookup x == some .globalImplicit) = true := by rfl)
    (h6 : (([x] ++ cs ++ gs).all fun x => !(x == ("__debug__" : Str))) = true := by rfl)
    (hs : ∀ x, foldedSetIterable iter c.env x = pure x := by intro _; rfl) : EvO c ρ (.ListComp elt [⟨.Name x p, iter, [], 0⟩] scope pos) outs := by
  refine EvO.comp (single := true) (KOk.of clos hc kind h1 h2 h3 h4 h5 h6) ⟨_, _, rfl, rfl⟩ hit hlen (fun i ds d hi hd => ?_) hs
  obtain ⟨u, rfl, h⟩ := hel i ds d hi hd
  exact ⟨rfl, fun C av => h cl C av⟩
/-- a comprehension with two names -/
theorem EvO.c2 (x y : Str) (cs gs : List Str) (caps : List (Nat × D)) {kk : Nat} {p p₁ p₂ : Pos} {iter elt : Expr} {tidy : Bool} {dss : List (List D)} {outs : List D} {scope : Scope} {pos : Pos} (hit : EvIt c ρ (.Tuple [.Name x p₁, .Name y p₂] kk p) iter false tidy dss) (hlen : outs.length = dss.length)
    (hel : ∀ (i : Nat) ds d, dss[i]? = some ds → outs[i]? = some d → ∃ u v, ds = [u, v] ∧ ∀ cl C av, Ev (mkK c scope cl (x :: y :: cs) gs C av) (rhoK [u, v] caps) elt d)
    {cl : List (Str × Addr)} (clos : closureFor scope c.env = pure cl) (hc : KC c ρ scope cl cs caps)
    (kind : scope.kind = .function := by rfl) (h1 : (scope.names.all fun y => !(y.2 == .cell)) = true := by rfl) (h2 : (scope.names.all fun y => !(y.2 == .local) || scope.names.lookup y.1 == some .local) = true := by rfl)
    (h3 : (decide ([x, y] ++ cs).Nodup) = true := by rfl) (h4 : ([x, y].all fun x => (relabel scope c.env).names.lookup x == some .local) = true := by rfl) (h5 : (gs.all fun x => (relabel scope c.env).names.lookup x == some .globalImplicit) = true := by rfl)
    (h6 : (([x, y] ++ cs ++ gs).all fun x => !(x == ("__debug__" : Str))) = true := by rfl)
    (hs : ∀ x, foldedSetIterable iter c.env x = pure x := by intro _; rfl) : EvO c ρ (.ListComp elt [⟨.Tuple [.Name x p₁, .Name y p₂] kk p, iter, [], 0⟩] scope pos) outs := by
  refine EvO.comp (single := false) (KOk.of clos hc kind h1 h2 h3 h4 h5 h6) ⟨_, _, _, _, _, _, rfl, rfl⟩ hit hlen (fun i ds d hi hd => ?_) hs
  obtain ⟨u, v, rfl, h⟩ := hel i ds d hi hd
  exact ⟨rfl, fun C av => h cl C av⟩
theorem enums_at {ds es : List D} {i : Nat} (h : (enums ds)[i]? = some es) : ∃ d, ds[i]? = some d ∧ es = [.int (i : Int), d] := by
  have hi : i < ds.length := by
    rcases Nat.lt_or_ge i ds.length with q | q
    · exact q
    · rw [List.getElem?_eq_none (by rw [enums_length]; exact q)] at h; cases h
  rw [enums_get (List.getElem?_eq_getElem hi)] at h
  exact ⟨_, List.getElem?_eq_getElem hi, (Option.some.inj h).symm⟩
theorem zips_at {d₁ d₂ es : List D} {i : Nat} (h : (zips d₁ d₂)[i]? = some es) : ∃ a b, d₁[i]? = some a ∧ d₂[i]? = some b ∧ es = [a, b] := by
  have hi : i < min d₁.length d₂.length := by
    rcases Nat.lt_or_ge i (min d₁.length d₂.length) with q | q
    · exact q
    · rw [List.getElem?_eq_none (by rw [zips_length]; exact q)] at h; cases h
  have h1 : i < d₁.length := by omega
  have h2 : i < d₂.length := by omega
  rw [zips_get (List.getElem?_eq_getElem h1) (List.getElem?_eq_getElem h2)] at h
  exact ⟨_, _, List.getElem?_eq_getElem h1, List.getElem?_eq_getElem h2, (Option.some.inj h).symm⟩
theorem sing_at {ds es : List D} {i : Nat} (h : (ds.map fun d => [d])[i]? = some es) : ∃ d, ds[i]? = some d ∧ es = [d] := by
  rw [List.getElem?_map] at h
  cases e : ds[i]? with
  | none => rw [e] at h; cases h
  | some d => rw [e] at h; exact ⟨d, rfl, (Option.some.inj h).symm⟩
theorem rng_at {a st : Int} {n i : Nat} {es : List D} (h : (rng a st n)[i]? = some es) : i < n ∧ es = [.int (a + (i : Int) * st)] := by
  have hi : i < n := by
    rcases Nat.lt_or_ge i n with q | q
    · exact q
    · rw [List.getElem?_eq_none (by rw [rng_length]; exact q)] at h; cases h
  rw [rng_get hi] at h
  exact ⟨hi, (Option.some.inj h).symm⟩
end
end Mine
end
section
open PySem PySem.W PyProof.Rows PySem.Calls
set_option maxRecDepth 10000
namespace Mine
variable {c : Cx} {ρ : Loc}
theorem letGo_tupleiter {prog : Program} {w : World} {A : Around} {E : Value → Shared → Prop} {s : Shared} {elts : List Expr} {x1} {pos : Pos} {I l T : Addr} {i : Nat} {Q : Unit → Shared → Prop} (hit : s.heap.IsTupleIter I l i) (hQ : Q () s) :
    wpAny (model prog w) A (letOwnedTupleGo (.Tuple elts x1 pos) (.ref I) (.ref T)) Q E s := by
  obtain ⟨o, ho, hc, hd⟩ := hit
  unfold letOwnedTupleGo
  refine wpAny_bind (wpAny_load ho ?_)
  rw [hc, hd]
  show wpAny _ A (if (["enumerate", "zip", "dict_itemiterator", "dict_reverseitemiterator", "odict_iterator", "itertools.zip_longest", "itertools.pairwise"].contains "tuple_iterator" &&
      (#[.ref l, .int i 0] : Array Value)[0]? == some (rawInt T)) = true then _ else _) Q E s
  rw [if_neg (by
    intro h
    rw [show (["enumerate", "zip", "dict_itemiterator", "dict_reverseitemiterator", "odict_iterator", "itertools.zip_longest", "itertools.pairwise"].contains "tuple_iterator") = false from by decide, Bool.false_and] at h
    cases h)]
  exact wpAny_pure hQ
noncomputable def refsOf : List Value → List Addr
  | [] => []
  | .ref a :: r => a :: refsOf r
  | _ :: r => refsOf r
theorem refs_tup {W : Wd} {av : Addr → Prop} {h : Heap} : ∀ {vs : List Value} {dss : List (List D)}, Reps W av h vs (dss.map D.tup) → (∀ b ∈ refsOf vs, ¬ av b ∧ ∃ us, h.IsTuple b us) ∧
    ∀ (i : Nat) v, vs[i]? = some v → ∃ T us ds, v = .ref T ∧ T ∈ refsOf vs ∧ dss[i]? = some ds ∧ h.IsTuple T us.toArray ∧ Reps W av h us ds
  | [], [], _ => ⟨fun b hb => by simp [refsOf] at hb, fun i v h => by simp at h⟩
  | _ :: _, [], r => by cases r
  | [], _ :: _, r => by cases r
  | v :: vs, ds :: dss, r => by
    cases r with
    | cons r rs =>
    cases r with
    | tup na pl rr =>
    obtain ⟨h1, h2⟩ := refs_tup rs
    refine ⟨fun b hb => ?_, fun i v hv => ?_⟩
    · rcases List.mem_cons.mp hb with rfl | hb
      · exact ⟨na, _, pl⟩
      · exact h1 b hb
    · cases i with
      | zero => cases hv; exact ⟨_, _, ds, rfl, .head _, rfl, pl, rr⟩
      | succ i =>
        obtain ⟨T, us, ds', e, hm, hd, hp, hr⟩ := h2 i v (by simpa using hv)
        exact ⟨T, us, ds', e, .tail _ hm, by simpa using hd, hp, hr⟩
theorem EvIt.tuples {elts : List Expr} {kk : Nat} {p : Pos} {iter : Expr} {dss : List (List D)} (hpure : Ev c ρ iter (.tup (dss.map D.tup))) (hz : dss.length ≤ 100000) : EvIt c ρ (.Tuple elts kk p) iter false true dss := by
  intro s Q E F h
  refine hpure s _ _ F fun v g t y r => ?_
  cases r with
  | tup na pl rs =>
  rename_i a vs
  have hlen := rs.length
  obtain ⟨R1, R2⟩ := refs_tup rs
  refine wpAny_pyIter_tuple pl ?_
  let it : Obj := { cls := .type "tuple_iterator", data := .fields #[.ref a, .int 0 0] }
  have hne : a ≠ g.objs.size := fun e => by
    obtain ⟨o, e', _⟩ := pl
    exact absurd (Heap.lt_size e') (by rw [e]; exact Nat.lt_irrefl _)
  have hni : ∀ b ∈ refsOf vs, b ≠ g.objs.size := fun b hb e => by
    obtain ⟨_, us, o, e', _⟩ := R1 b hb
    exact absurd (Heap.lt_size e') (by rw [e]; exact Nat.lt_irrefl _)
  have W := Walks.tuple (prog := c.W.prog) (w := c.W.w) (A := c.A) F.ok.room.1 g.objs.size a hne vs.toArray
  rw [show vs.toArray.size = dss.length by simp [hlen]] at W
  have hx := y.trans (Ext.push g it)
  let Inn : Heap → Prop := fun g' => ∀ b ∈ refsOf vs, ∀ o, (g.push it).get? b = some o → g'.get? b = some o
  let St : Nat → Heap → Prop := fun i h => h.IsTupleIter g.objs.size a i ∧ h.IsTuple a vs.toArray
  have K : KTurns c.W.prog c.W.w c.A (.Tuple elts kk p) g.objs.size ([g.objs.size, a] ++ refsOf vs) [g.objs.size] dss.length (fun i v g' => vs.toArray[i]? = some v ∧ Inn g') (fun i v g' => vs.toArray[i]? = some v ∧ St (i + 1) g' ∧ Inn g') (fun i g' => St i g' ∧ Inn g') :=
    { sub := fun b hb => List.mem_append_left _ (W.sub b hb)
      frame := fun i h h' st hk => ⟨W.frame i h h' st.1 fun b hb => hk b (List.mem_append_left _ hb), fun b hb o e => hk b (List.mem_append_right _ hb) o (st.2 b hb o e)⟩
      item := fun i s Q E hi st hQ => W.item i s Q E hi st.1 fun v h' tk hP st' hk => hQ v h' tk ⟨hP, st', fun b hb o e => hk b o (fun q => hni b hb (List.mem_singleton.mp q)) (st.2 b hb o e)⟩ hk
      go := fun i v s Q E hm hQ => by
        obtain ⟨hv, st, inn⟩ := hm
        obtain ⟨T, us, ds, rfl, _⟩ := R2 i v (by simpa using hv)
        exact letGo_tupleiter st.1 (hQ s.heap ⟨hv, inn⟩ ⟨st, inn⟩ fun _ _ _ e => e)
      done := fun s Q E st hQ => W.done s Q E st.1 hQ }
  refine h _ _ _ _ _ _ (g.push it) t hx ⟨K, ⟨⟨⟨_, Heap.get?_push_size _ rfl, rfl, rfl⟩, isTuple_keq (av := fun _ => False) pl (Ext.push g it).keq (fun z => z)⟩, fun b _ o e => e⟩, ?_, ?_, ?_, ?_, ?_, ?_, ?_⟩
  · intro b hb
    rw [List.mem_singleton.mp hb]
    exact fresh_of y
  · have tup_case : ∀ b, ¬ Pv c ρ b → (∃ us, g.IsTuple b us) → ((g.push it).get? b).isSome = true ∧ ((s.heap.get? b).isSome = true → ∃ o its n, s.heap.get? b = some o ∧ o.data = .seq its n ∧ ¬ Pv c ρ b) := fun b nb hb => by
      obtain ⟨us, o₁, e, hc, n, hd⟩ := hb
      refine ⟨by rw [Ext.push g it _ _ e]; rfl, fun z => ?_⟩
      obtain ⟨o, e'⟩ := Option.isSome_iff_exists.mp z
      have := y _ _ e'
      rw [e] at this; cases this
      exact ⟨_, _, _, e', hd, nb⟩
    intro b hb
    rcases List.mem_append.mp hb with hb | hb
    · rcases List.mem_cons.mp hb with rfl | hb
      · refine ⟨by rw [Heap.get?_push_size g (o := it) rfl]; rfl, fun z => ?_⟩
        rw [fresh_of y] at z; cases z
      · rw [List.mem_singleton.mp hb]
        exact tup_case a na ⟨_, pl⟩
    · exact tup_case b (R1 b hb).1 (R1 b hb).2
  · rintro i g' ⟨⟨⟨o', e', _, hd⟩, _⟩, _⟩ b hb
    rw [List.mem_singleton.mp hb, e']; rfl
  · rintro _ i g' b o ⟨⟨⟨o', e', _, hd⟩, _⟩, _⟩ hb e its n hq
    rw [List.mem_singleton.mp hb, e'] at e; cases e
    rw [hd] at hq; cases hq
  · intro i v g' hi hP
    obtain ⟨T, us, ds, rfl, hm, hd, hp, hr⟩ := R2 i v (by simpa using hP.1)
    have hpush : (g.push it).IsTuple T us.toArray := hp.push it
    exact ⟨us, ds, hd, ⟨T, rfl, hpush.at fun o e => hP.2 T hm o e⟩, reps_wr hr (Ext.push g it) fun b hb => by rw [List.mem_singleton.mp hb]; exact get?_size g⟩
  · exact fun i s Q E st hQ => W.self i s Q E st.1 hQ
  · exact sz_line hz
end Mine
end
section
open PySem PySem.W PyProof.Rows PySem.Calls
set_option maxRecDepth 10000
namespace Mine
variable {W : Wd}

theorem iL_get' {l : List Nat} {i : Nat} {d : D} (h : (iL l)[i]? = some d) : ∃ n, l[i]? = some n ∧ d = .int (n : Int) := by
  unfold iL at h
  rw [List.getElem?_map] at h
  cases e : l[i]? with
  | none => rw [e] at h; cases h
  | some n => rw [e] at h; cases h; exact ⟨n, rfl, rfl⟩

/-- the noughts at a list's end: how many places are left -/
theorem strip_take : ∀ (l : List Nat), ∃ k, k ≤ l.length ∧ strip l = l.take k ∧ (∀ i, k ≤ i → i < l.length → l[i]? = some 0) ∧ (k = 0 ∨ ∃ d, l[k - 1]? = some d ∧ d ≠ 0)
  | [] => ⟨0, Nat.le_refl _, rfl, fun i _ h => by simp at h, .inl rfl⟩
  | d :: l => by
    obtain ⟨k, hk, hs, hz, hn⟩ := strip_take l
    rcases Nat.eq_zero_or_pos k with rfl | hp
    · have e : strip l = [] := by rw [hs]; rfl
      by_cases hd : d = 0
      · refine ⟨0, Nat.zero_le _, by simp [strip, e, hd], fun i _ hi => ?_, .inl rfl⟩
        cases i with
        | zero => simp [hd]
        | succ i => simpa using hz i (Nat.zero_le _) (by simpa using hi)
      · refine ⟨1, by simp, by simp [strip, e, hd], fun i h1 hi => ?_, .inr ⟨d, by simp, hd⟩⟩
        cases i with
        | zero => omega
        | succ i => simpa using hz i (Nat.zero_le _) (by simpa using hi)
    · obtain ⟨e, he, hne⟩ := hn.resolve_left (by omega)
      refine ⟨k + 1, by simpa using hk, ?_, fun i h1 hi => ?_, .inr ⟨e, ?_, hne⟩⟩
      · rw [strip, hs]
        cases h : l.take k with
        | nil =>
          have : (l.take k).length = k := by rw [List.length_take]; omega
          rw [h] at this; simp at this; omega
        | cons a r => simp [h]
      · cases i with
        | zero => omega
        | succ i => simpa using hz i (by omega) (by simpa using hi)
      · rw [Nat.add_sub_cancel]
        cases k with
        | zero => omega
        | succ k => simpa using he

theorem iL_getD {l : List Nat} {i : Nat} (h : i < l.length) : (iL l)[i]? = some (.int ((l.getD i 0 : Nat) : Int)) := by
  apply iL_get
  rw [List.getD_eq_getElem?_getD, List.getElem?_eq_getElem h]; rfl

theorem normal_ok (P : Prg W) {l : List Nat} (hz : l.length ≤ 1000) : CallOK W 1 "normal" [.list (iL l)] (.list (iL (strip l))) := by
  refine fn_ok P.f_normal ["a"] ["end"] ["len"] (fun n => by kernel_rfl) rfl ?_ ?_
  · intro m
    refine all1 fun v1 => ?_
    kernel_rfl
  intro A m L a h₀ av
  obtain ⟨k, hk, hs, hzero, hn⟩ := strip_take l
  refine X.set 1 (Ev.len 0 rfl P.len (EvSeq.of (Ev.name 0 rfl rfl)) (by rw [iL_length]; omega)) ?_
  rw [iL_length]
  refine X.while (fun n ρ => k ≤ n ∧ n ≤ l.length ∧ ρ = [some (.p (.list (iL l))), some (.p (.int (n : Int)))]) l.length ⟨hk, Nat.le_refl _, rfl⟩ fun n ρ hI => ?_
  obtain ⟨h1, h2, rfl⟩ := hI
  refine ⟨_, EvT.and (EvT.cmp (Ev.name 1 rfl rfl) Ev.int cmp_gt) (b := ((l.getD (n - 1) 0 : Nat) : Int) == 0) (fun h => EvT.cmp (Ev.itemN (EvSeq.of (Ev.name 0 rfl rfl)) (Ev.binop (Ev.name 1 rfl rfl) Ev.int op_sub) (n - 1) ?_ ?_ (iL_getD ?_)) Ev.int cmp_eq), fun h => ?_, fun h => ?_⟩
  · simp at h; omega
  · simp at h; omega
  · simp at h; omega
  · simp only [Bool.and_eq_true, decide_eq_true_eq, beq_iff_eq] at h
    refine X.aug 1 Ev.int iop_sub (Ex.nil ⟨n - 1, by omega, ?_, by omega, ?_⟩)
    · rcases hn with rfl | ⟨d, hd, hd0⟩
      · omega
      · rcases Nat.lt_or_ge k n with q | q
        · omega
        · have e : n = k := by omega
          rw [e, List.getD_eq_getElem?_getD, hd] at h
          simp at h; omega
    · have : ((n : Int) - 1) = ((n - 1 : Nat) : Int) := by omega
      simp [this]
  · refine X.ret (EvO.ev (EvO.upto (EvSeq.of (Ev.name 0 rfl rfl)) (Ev.name 1 rfl rfl) (by omega) (by rw [iL_length]; omega))) (.inl ?_)
    have e : n = k := by
      rcases Nat.eq_zero_or_pos n with q | q
      · omega
      · rcases Nat.lt_or_ge k n with z | z
        · have := hzero (n - 1) (by omega) (by omega)
          rw [List.getD_eq_getElem?_getD, this] at h
          simp at h; omega
        · omega
    rw [hs, e]
    simp [iL]
end Mine
end
section
open PySem PySem.W PyProof.Rows PySem.Calls
set_option maxRecDepth 10000
namespace Mine
variable {W : Wd}

theorem iLl_get {B z i : Nat} (h : i < nd B z) : (iL (lim B z))[i]? = some (.int ((z / B ^ i % B : Nat) : Int)) := iL_get (lim_get h)
theorem iLd_get {B z i n : Nat} (h : i < n) : (iL (dg B z n))[i]? = some (.int ((z / B ^ i % B : Nat) : Int)) := iL_get (dg_get h)
theorem R_def (B z : Nat) : R B z = .list (iL (lim B z)) := rfl

noncomputable def cmpN (x y : Nat) : Int := if x < y then -1 else if x = y then 0 else 1

theorem nd_lt_imp {B x y : Nat} (hB : 2 ≤ B) (h : nd B x < nd B y) : x < y := by
  rcases Nat.lt_or_ge x y with q | q
  · exact q
  · have := nd_mono hB q; omega

theorem compare_ok (P : Prg W) {w x y : Nat} (hw : 1 ≤ w) (hx : x < 2 ^ 64) (hy : y < 2 ^ 64) : CallOK W 1 "compare" [R (2 ^ w) x, R (2 ^ w) y] (.int (cmpN x y)) := by
  have hB := pow2_ge hw
  generalize 2 ^ w = B at hB
  have nx := nd_small hB hx
  have ny := nd_small hB hy
  refine fn_ok P.f_compare ["a", "b"] ["at"] ["len", "range"] (fun n => by kernel_rfl) rfl ?_ ?_
  · intro m
    refine all2 fun v1 v2 => ?_
    kernel_rfl
  intro A m L a h₀ av
  refine X.else (EvT.cmp (Ev.len 0 rfl P.len (EvSeq.of (Ev.name 0 rfl rfl)) ?_) (Ev.len 0 rfl P.len (EvSeq.of (Ev.name 1 rfl rfl)) ?_) cmp_ne) (fun h => ?_) (fun h => ?_)
  · rw [iL_lim_length]; omega
  · rw [iL_lim_length]; omega
  · rw [iL_lim_length, iL_lim_length] at h
    refine X.ret (Ev.ite (EvT.cmp (Ev.len 0 rfl P.len (EvSeq.of (Ev.name 0 rfl rfl)) (by rw [iL_lim_length]; omega)) (Ev.len 0 rfl P.len (EvSeq.of (Ev.name 1 rfl rfl)) (by rw [iL_lim_length]; omega)) cmp_lt) (fun h' => (Ev.neg Ev.int).to ?_) (fun h' => Ev.int.to ?_)) (.inl rfl)
    · rw [iL_lim_length, iL_lim_length] at h'
      have : x < y := nd_lt_imp hB (by simpa using h')
      simp [cmpN, this]
    · rw [iL_lim_length, iL_lim_length] at h'
      have : y < x := nd_lt_imp hB (by simp at h h'; omega)
      simp only [cmpN]
      rw [if_neg (by omega), if_neg (by omega)]
  rw [iL_lim_length, iL_lim_length] at h
  have hN : nd B x = nd B y := by simp at h; omega
  refine X.forR 2 (fun i ρ => x / B ^ (nd B x - i) = y / B ^ (nd B x - i) ∧ ∃ b, ρ = [some (.p (R B x)), some (.p (R B y)), b]) (EvIt.range3 1 (nd B x) rfl P.range (Ev.binop ((Ev.len 0 rfl P.len (EvSeq.of (Ev.name 0 rfl rfl)) ?_)) Ev.int op_sub) (Ev.neg Ev.int) (Ev.neg Ev.int) ?_ ?_ ?_ ?_ ?_ (ha := (EvL.cons (Ev.binop (Ev.len 0 rfl P.len (EvSeq.of (Ev.name 0 rfl rfl)) ?_) Ev.int op_sub) (EvL.cons (Ev.neg Ev.int) (EvL.cons (Ev.neg Ev.int) EvL.nil))))) ⟨?_, _, rfl⟩ (fun i ρ v hi hI hv => ?_) (fun ρ hI => ?_)
  · rw [iL_lim_length]; omega
  · rw [iL_lim_length, rangeSize_downNat]; omega
  · rw [iL_lim_length]; exact small_down (by omega) (by omega) (by omega) (by omega)
  · decide
  · decide
  · omega
  · rw [iL_lim_length]; omega
  · rw [Nat.sub_zero, div_pow_zero (nd_lt hB x), hN, div_pow_zero (nd_lt hB y)]
  · obtain ⟨hd, b, rfl⟩ := hI
    rw [iL_lim_length] at hv
    have ev : v = ((nd B x - 1 - i : Nat) : Int) := by omega
    generalize hJ : nd B x - 1 - i = J at ev
    have e1 : nd B x - i = J + 1 := by omega
    have e2 : nd B x - (i + 1) = J := by omega
    rw [e1] at hd
    have sx := div_split B x J
    have sy := div_split B y J
    rw [hd] at sx
    refine ⟨rfl, ?_⟩
    dsimp only [List.set]
    have ea := iLl_get (B := B) (z := x) (i := J) (by omega)
    have eb := iLl_get (B := B) (z := y) (i := J) (by omega)
    refine X.else (EvT.cmp (Ev.itemN (EvSeq.of (Ev.name 0 rfl rfl)) (Ev.name 2 rfl rfl) J ev (by omega) ea) (Ev.itemN (EvSeq.of (Ev.name 1 rfl rfl)) (Ev.name 2 rfl rfl) J ev (by omega) eb) cmp_ne) (fun h => ?_) (fun h => ?_)
    · refine X.ret (Ev.ite (EvT.cmp (Ev.itemN (EvSeq.of (Ev.name 0 rfl rfl)) (Ev.name 2 rfl rfl) J ev (by omega) ea) (Ev.itemN (EvSeq.of (Ev.name 1 rfl rfl)) (Ev.name 2 rfl rfl) J ev (by omega) eb) cmp_lt) (fun h' => (Ev.neg Ev.int).to ?_) (fun h' => Ev.int.to ?_)) (.inl rfl)
      · simp only [decide_eq_true_eq, Int.ofNat_lt] at h'
        have : x < y := by
          rcases Nat.lt_or_ge x y with q | q
          · exact q
          · have := Nat.div_le_div_right (c := B ^ J) q; omega
        simp [cmpN, this]
      · simp only [bne_iff_ne, ne_eq, Int.ofNat_inj, decide_eq_false_iff_not, Int.ofNat_lt] at h h'
        have : y < x := by
          rcases Nat.lt_or_ge y x with q | q
          · exact q
          · have := Nat.div_le_div_right (c := B ^ J) q; omega
        simp only [cmpN]
        rw [if_neg (by omega), if_neg (by omega)]
    · refine Ex.nil ⟨?_, _, rfl⟩
      rw [e2]
      simp only [bne_eq_false_iff_eq, Int.ofNat_inj] at h
      omega
  · obtain ⟨hd, b, rfl⟩ := hI
    rw [Nat.sub_self, Nat.pow_zero, Nat.div_one, Nat.div_one] at hd
    subst hd
    exact X.ret Ev.int (.inl (by simp [cmpN]))
end Mine
end
section
open PySem PySem.W PyProof.Rows PySem.Calls
set_option maxRecDepth 10000
set_option maxHeartbeats 1000000
namespace Mine
variable {W : Wd}

theorem one_shl_small {w : Nat} : (1 * 2 ^ ((w : Int)).toNat : Int) = ((2 ^ w : Nat) : Int) := by
  rw [tw, Int.one_mul]; simp

theorem add_ok (P : Prg W) {w x y : Nat} (hw : 1 ≤ w) (hw' : w ≤ 16) (hx : x < 2 ^ 64) (hy : y < 2 ^ 64) : CallOK W 1 "add" [R (2 ^ w) x, R (2 ^ w) y, .int (w : Int)] (R (2 ^ w) (x + y)) := by
  have hB := pow2_ge hw
  refine fn_ok P.f_add ["a", "b", "w"] ["found", "carry", "mask", "at"] ["len", "range"] (fun n => by kernel_rfl) rfl ?_ ?_
  · intro m
    refine all3 fun v1 v2 v3 => ?_
    kernel_rfl
  intro A m L a h₀ av
  have nx := nd_small hB hx
  have ny := nd_small hB hy
  have core : ∀ x y : Nat, nd (2 ^ w) x ≤ 64 → nd (2 ^ w) y ≤ nd (2 ^ w) x → Ex (mkC W (stm 7) "add" ["a", "b", "w", "found", "carry", "mask", "at"] ["len", "range"] 0 A m L a h₀ av)
      [some (.p (R (2 ^ w) x)), some (.p (R (2 ^ w) y)), some (.p (.int (w : Int))), none, none, none, none] (bodyOf (stm 7)).tail fun o => o = .ret (R (2 ^ w) (x + y)) ∨ (R (2 ^ w) (x + y) = .none ∧ ∃ ρ', o = .next ρ') := by
    clear hx hy nx ny x y
    intro x y nx nxy
    refine X.ow 3 [(4, "carry"), (5, "mask")] (EvO.disp EvL.nil) (fun ad => (EvL.cons Ev.int (EvL.cons (Ev.binop (Ev.binop Ev.int (Ev.name 2 rfl rfl) (op_shl (by omega) (by omega) (by decide))) Ev.int op_sub) EvL.nil))) (fun ad => ?_) ⟨⟨rfl, rfl⟩, ⟨rfl, rfl⟩, trivial⟩
    dsimp only [setP, List.set, List.reverse, List.reverseAux]
    refine X.forR 6 (fun i ρ => ∃ b, ρ = [some (.p (R (2 ^ w) x)), some (.p (R (2 ^ w) y)), some (.p (.int (w : Int))), some (.own ad (iL (dg (2 ^ w) (x + y) i))), some (.p (.int (cy (2 ^ w) x y i : Nat))), some (.p (.int (1 * 2 ^ ((w : Int)).toNat - 1))), b])
      (EvIt.range1 1 (nd (2 ^ w) y) rfl P.range (Ev.len 0 rfl P.len (EvSeq.of (Ev.name 1 rfl rfl)) ?_) ?_ ?_ ?_) ⟨none, ?_⟩ (fun i ρ v hi hI hv => ?_) (fun ρ hI => ?_)
    · rw [iL_lim_length]; omega
    · rw [iL_lim_length]; omega
    · rw [iL_lim_length]; omega
    · rw [iL_lim_length]; omega
    · rw [cy_zero]; rfl
    · obtain ⟨b, rfl⟩ := hI
      have ev : v = (i : Int) := by omega
      subst ev
      refine ⟨rfl, ?_⟩
      dsimp only [List.set]
      obtain ⟨t1, t2⟩ := cy_turn (2 ^ w) x y i hB
      have ea := iLl_get (B := 2 ^ w) (z := x) (i := i) (by omega)
      have eb := iLl_get (B := 2 ^ w) (z := y) (i := i) (by omega)
      refine X.aug 4 (Ev.binop (Ev.itemN (EvSeq.of (Ev.name 0 rfl rfl)) (Ev.name 6 rfl rfl) i rfl (by omega) ea) (Ev.itemN (EvSeq.of (Ev.name 1 rfl rfl)) (Ev.name 6 rfl rfl) i rfl (by omega) eb) op_add) iop_add ?_
      rw [← Int.natCast_add, ← Int.natCast_add]
      refine X.app 3 ((Ev.binop (Ev.name 4 rfl rfl) (Ev.name 5 rfl rfl) op_and).to (congrArg D.int (mask_nat _ w))) ?_ ?_
      · rw [iL_length, dg_length]; omega
      rw [t1, iL_snoc, ← dg_succ]
      refine X.aug 4 (Ev.name 2 rfl rfl) (iop_shr (by omega)) (Ex.nil ⟨some (.p (.int (i : Int))), ?_⟩)
      dsimp only [List.set]
      rw [shr_nat, t2]
    obtain ⟨b, rfl⟩ := hI
    refine X.forR 6 (fun i ρ => ∃ b, ρ = [some (.p (R (2 ^ w) x)), some (.p (R (2 ^ w) y)), some (.p (.int (w : Int))), some (.own ad (iL (dg (2 ^ w) (x + y) (nd (2 ^ w) y + i)))), some (.p (.int (cy (2 ^ w) x y (nd (2 ^ w) y + i) : Nat))), some (.p (.int (1 * 2 ^ ((w : Int)).toNat - 1))), b])
      (EvIt.range2 1 (nd (2 ^ w) x - nd (2 ^ w) y) rfl P.range (Ev.len 0 rfl P.len (EvSeq.of (Ev.name 1 rfl rfl)) ?_) (Ev.len 0 rfl P.len (EvSeq.of (Ev.name 0 rfl rfl)) ?_) ?_ ?_ ?_ ?_ ?_ ?_) ⟨_, rfl⟩ (fun i ρ v hi hI hv => ?_) (fun ρ hI => ?_)
    · rw [iL_lim_length]; omega
    · rw [iL_lim_length]; omega
    · rw [iL_lim_length, iL_lim_length]; omega
    · rw [iL_lim_length]; omega
    · rw [iL_lim_length]; omega
    · rw [iL_lim_length]; omega
    · rw [iL_lim_length]; omega
    · omega
    · obtain ⟨b, rfl⟩ := hI
      rw [iL_lim_length] at hv
      generalize hJ : nd (2 ^ w) y + i = J at *
      have ev : v = (J : Int) := by omega
      subst ev
      refine ⟨rfl, ?_⟩
      dsimp only [List.set]
      obtain ⟨t1, t2⟩ := cy_turn (2 ^ w) x y J hB
      rw [div_ge_nd (z := y) hB (by omega), Nat.zero_mod, Nat.add_zero] at t1 t2
      have ea := iLl_get (B := 2 ^ w) (z := x) (i := J) (by omega)
      refine X.aug 4 (Ev.itemN (EvSeq.of (Ev.name 0 rfl rfl)) (Ev.name 6 rfl rfl) J rfl (by omega) ea) iop_add ?_
      rw [← Int.natCast_add]
      refine X.app 3 ((Ev.binop (Ev.name 4 rfl rfl) (Ev.name 5 rfl rfl) op_and).to (congrArg D.int (mask_nat _ w))) ?_ ?_
      · rw [iL_length, dg_length]; omega
      rw [t1, iL_snoc, ← dg_succ]
      refine X.aug 4 (Ev.name 2 rfl rfl) (iop_shr (by omega)) (Ex.nil ⟨some (.p (.int (J : Int))), ?_⟩)
      dsimp only [List.set]
      rw [shr_nat, t2, ← Nat.add_assoc, hJ]
    obtain ⟨b, rfl⟩ := hI
    rw [show nd (2 ^ w) y + (nd (2 ^ w) x - nd (2 ^ w) y) = nd (2 ^ w) x by omega]
    have hcy := cy_eq (2 ^ w) x y (nd (2 ^ w) x)
    have hle := cy_le (2 ^ w) x y (nd (2 ^ w) x) hB
    rw [div_ge_nd (z := x) hB (Nat.le_refl _), div_ge_nd (z := y) hB nxy, Nat.add_zero] at hcy
    refine X.else (EvT.cmp (Ev.name 4 rfl rfl) Ev.int cmp_gt) (fun h => ?_) (fun h => ?_)
    · simp only [gt_iff_lt, decide_eq_true_eq] at h
      refine X.app 3 (Ev.name 4 rfl rfl) ?_ (Ex.nil ?_)
      · rw [iL_length, dg_length]; omega
      rw [iL_snoc]
      have e : dg (2 ^ w) (x + y) (nd (2 ^ w) x) ++ [cy (2 ^ w) x y (nd (2 ^ w) x)] = lim (2 ^ w) (x + y) := by
        have : cy (2 ^ w) x y (nd (2 ^ w) x) = (x + y) / (2 ^ w) ^ (nd (2 ^ w) x) % 2 ^ w := by rw [← hcy, Nat.mod_eq_of_lt (by omega)]
        rw [this, ← dg_succ]
        have hpos : 0 < (2 ^ w) ^ (nd (2 ^ w) x) := Nat.pow_pos (by omega)
        refine dg_is_lim hB ?_ (.inr ?_)
        · rw [Nat.pow_succ]
          have := Nat.div_add_mod (x + y) ((2 ^ w) ^ (nd (2 ^ w) x))
          have := Nat.mod_lt (x + y) hpos
          have : (2 ^ w) ^ nd (2 ^ w) x * ((x + y) / (2 ^ w) ^ nd (2 ^ w) x) ≤ (2 ^ w) ^ nd (2 ^ w) x * 1 := Nat.mul_le_mul_left _ (by omega)
          have : (2 ^ w) ^ nd (2 ^ w) x * 2 ≤ (2 ^ w) ^ nd (2 ^ w) x * 2 ^ w := Nat.mul_le_mul_left _ hB
          omega
        · rw [Nat.add_sub_cancel]
          rcases Nat.lt_or_ge (x + y) ((2 ^ w) ^ nd (2 ^ w) x) with q | q
          · rw [Nat.div_eq_of_lt q] at hcy; omega
          · exact q
      exact X.retO 3 (.inl (congrArg (fun l => Out.ret (.list (iL l))) e))
    · simp only [gt_iff_lt, decide_eq_false_iff_not] at h
      have e : dg (2 ^ w) (x + y) (nd (2 ^ w) x) = lim (2 ^ w) (x + y) := by
        refine dg_is_lim hB ?_ ?_
        · rcases Nat.lt_or_ge (x + y) ((2 ^ w) ^ nd (2 ^ w) x) with q | q
          · exact q
          · have := Nat.div_pos q (Nat.pow_pos (by omega)); omega
        · rcases Nat.eq_zero_or_pos (nd (2 ^ w) x) with q | q
          · exact .inl q
          · have := nd_ge hB (nd (2 ^ w) x - 1) x (by omega)
            exact .inr (by omega)
      exact X.retO 3 (.inl (congrArg (fun l => Out.ret (.list (iL l))) e))
  refine X.else (EvT.cmp (Ev.len 0 rfl P.len (EvSeq.of (Ev.name 0 rfl rfl)) ?_) (Ev.len 0 rfl P.len (EvSeq.of (Ev.name 1 rfl rfl)) ?_) cmp_lt) (fun h => ?_) (fun h => ?_)
  · rw [iL_lim_length]; omega
  · rw [iL_lim_length]; omega
  · rw [iL_lim_length, iL_lim_length] at h
    refine X.tupW [(0, "a"), (1, "b")] (Ev.tup (EvL.cons (Ev.name 1 rfl rfl) (EvL.cons (Ev.name 0 rfl rfl) EvL.nil))) (Ex.nil ?_) ⟨⟨rfl, rfl⟩, ⟨rfl, rfl⟩, trivial⟩
    rw [Nat.add_comm x y]
    dsimp only [Cont, setP, List.set, List.reverse, List.reverseAux]
    have hle : nd (2 ^ w) x ≤ nd (2 ^ w) y := by simp at h; omega
    exact core y x ny hle
  · rw [iL_lim_length, iL_lim_length] at h
    exact core x y nx (by simp at h; omega)
end Mine
end
section
namespace Mine

theorem dg_congr {B z z' n : Nat} (h : ∀ i, i < n → z / B ^ i % B = z' / B ^ i % B) : dg B z n = dg B z' n := by
  unfold dg
  exact List.map_congr_left fun i hi => h i (List.mem_range.mp hi)

-- a shift to the left
theorem sl_turn (B P x i : Nat) (hB : 2 ≤ B) : (x % B ^ i * P) / B ^ i + x / B ^ i % B * P = (x % B ^ (i + 1) * P) / B ^ i := by
  have hp : 0 < B ^ i := Nat.pow_pos (by omega)
  have e : x % B ^ (i + 1) = x % B ^ i + B ^ i * (x / B ^ i % B) := by rw [Nat.pow_succ, Nat.mod_mul]
  rw [e, Nat.add_mul, Nat.mul_assoc, Nat.add_mul_div_left _ _ hp]
theorem sl_digit (B P x i : Nat) (hB : 2 ≤ B) : (x % B ^ (i + 1) * P) / B ^ i % B = x * P / B ^ i % B := by
  have hp : 0 < B ^ i := Nat.pow_pos (by omega)
  have e : x * P = x % B ^ (i + 1) * P + B ^ i * (B * (x / B ^ (i + 1) * P)) := by
    conv => lhs; rw [← Nat.mod_add_div x (B ^ (i + 1)), Nat.add_mul, Nat.pow_succ]
    rw [Nat.pow_succ]; simp only [Nat.mul_assoc]
  rw [e, Nat.add_mul_div_left _ _ hp, Nat.add_mul_mod_self_left]
theorem sl_carry (B P x i : Nat) : (x % B ^ (i + 1) * P) / B ^ i / B = (x % B ^ (i + 1) * P) / B ^ (i + 1) := by
  rw [Nat.div_div_eq_div_mul, Nat.pow_succ]
theorem sl_lt (B P x i : Nat) (hB : 2 ≤ B) (hP : 0 < P) : (x % B ^ i * P) / B ^ i < P := by
  have hp : 0 < B ^ i := Nat.pow_pos (by omega)
  rw [Nat.div_lt_iff_lt_mul hp, Nat.mul_comm P]
  exact Nat.mul_lt_mul_of_pos_right (Nat.mod_lt _ hp) hP
theorem dg_shift (B z s : Nat) (hB : 2 ≤ B) : ∀ n, dg B (z * B ^ s) (s + n) = List.replicate s 0 ++ dg B z n := by
  intro n
  unfold dg
  rw [List.range_add, List.map_append, List.map_map]
  have hp : 0 < B ^ s := Nat.pow_pos (by omega)
  congr 1
  · rw [List.eq_replicate_iff]
    refine ⟨by simp, fun b hb => ?_⟩
    obtain ⟨i, hi, rfl⟩ := List.mem_map.mp hb
    have hi := List.mem_range.mp hi
    have e : B ^ s = B ^ i * (B * B ^ (s - i - 1)) := by
      rw [← Nat.pow_succ', ← Nat.pow_add]; congr 1; omega
    have hi' : 0 < B ^ i := Nat.pow_pos (by omega)
    rw [e, Nat.mul_left_comm, Nat.mul_div_cancel_left _ hi', Nat.mul_left_comm, Nat.mul_mod_right]
  · refine List.map_congr_left fun i _ => ?_
    show z * B ^ s / B ^ (s + i) % B = _
    rw [Nat.pow_add, Nat.mul_comm z, Nat.mul_div_mul_left _ _ hp]
theorem lim_shift (B z s : Nat) (hB : 2 ≤ B) (hz : 0 < z) : lim B (z * B ^ s) = List.replicate s 0 ++ lim B z := by
  have hp : 0 < B ^ s := Nat.pow_pos (by omega)
  show _ = _ ++ dg B z (nd B z)
  rw [← dg_shift B z s hB]
  refine (dg_is_lim hB ?_ (.inr ?_)).symm
  · rw [Nat.add_comm, Nat.pow_add]
    exact Nat.mul_lt_mul_of_pos_right (nd_lt hB z) hp
  · have h0 : 0 < nd B z := by
      rcases Nat.eq_zero_or_pos (nd B z) with q | q
      · rw [nd_eq_zero hB] at q; omega
      · exact q
    rw [show s + nd B z - 1 = (nd B z - 1) + s by omega, Nat.pow_add]
    exact Nat.mul_le_mul_right _ (nd_ge hB _ _ (by omega))

-- a shift to the right

theorem sr_turn (few v y : Nat) : ((y % 2 ^ (few + v)) / 2 ^ few + (y / 2 ^ (few + v) % 2 ^ (few + v)) * 2 ^ v) % 2 ^ (few + v) = y / 2 ^ few % 2 ^ (few + v) := by
  have hf : 0 < 2 ^ few := Nat.two_pow_pos few
  have e : y = y % 2 ^ (few + v) + 2 ^ few * (2 ^ v * (y / 2 ^ (few + v))) := by
    conv => lhs; rw [← Nat.mod_add_div y (2 ^ (few + v))]
    rw [← Nat.mul_assoc, ← Nat.pow_add]
  have e2 : y / 2 ^ few = y % 2 ^ (few + v) / 2 ^ few + 2 ^ v * (y / 2 ^ (few + v)) := by
    conv => lhs; rw [e]
    rw [Nat.add_mul_div_left _ _ hf]
  have e3 : 2 ^ v * (y / 2 ^ (few + v)) = (y / 2 ^ (few + v) % 2 ^ (few + v)) * 2 ^ v + 2 ^ (few + v) * (2 ^ v * (y / 2 ^ (few + v) / 2 ^ (few + v))) := by
    conv => lhs; rw [← Nat.mod_add_div (y / 2 ^ (few + v)) (2 ^ (few + v))]
    rw [Nat.mul_add, Nat.mul_comm (2 ^ v), Nat.mul_left_comm (2 ^ v)]
  rw [e2, e3, ← Nat.add_assoc, Nat.add_mul_mod_self_left]
theorem sr_lt (few v y : Nat) : y % 2 ^ (few + v) / 2 ^ few < 2 ^ v := by
  rw [Nat.div_lt_iff_lt_mul (Nat.two_pow_pos _), ← Nat.pow_add, Nat.add_comm v]
  exact Nat.mod_lt _ (Nat.two_pow_pos _)

theorem dg_ge {B z n : Nat} (hB : 2 ≤ B) (h : nd B z ≤ n) : dg B z n = lim B z ++ List.replicate (n - nd B z) 0 := by
  obtain ⟨k, rfl⟩ : ∃ k, n = nd B z + k := ⟨n - nd B z, by omega⟩
  unfold lim dg
  rw [List.range_add, List.map_append, List.map_map]
  congr 1
  rw [List.eq_replicate_iff]
  refine ⟨by simp, fun b hb => ?_⟩
  obtain ⟨i, hi, rfl⟩ := List.mem_map.mp hb
  show z / B ^ (nd B z + i) % B = 0
  rw [div_ge_nd hB (by omega), Nat.zero_mod]
theorem dg_take {B z n s : Nat} (h : s ≤ n) : (dg B z n).take s = dg B z s := by
  unfold dg
  rw [← List.map_take, List.take_range, Nat.min_eq_left h]
theorem dg_drop {B z n s : Nat} (h : s ≤ n) : (dg B z n).drop s = dg B (z / B ^ s) (n - s) := by
  obtain ⟨k, rfl⟩ : ∃ k, n = s + k := ⟨n - s, by omega⟩
  unfold dg
  rw [List.range_add, List.map_append, List.drop_append_of_le_length (by simp), List.drop_of_length_le (by simp), Nat.add_sub_cancel_left, List.nil_append, List.map_map]
  refine List.map_congr_left fun i _ => ?_
  show z / B ^ (s + i) % B = z / B ^ s / B ^ i % B
  rw [Nat.div_div_eq_div_mul, Nat.pow_add]
theorem nd_div {B : Nat} (hB : 2 ≤ B) (z s : Nat) : nd B (z / B ^ s) = nd B z - s := by
  rcases Nat.lt_or_ge s (nd B z) with q | q
  · refine nd_eq hB ?_ (.inr ?_)
    · rw [Nat.div_lt_iff_lt_mul (Nat.pow_pos (by omega)), ← Nat.pow_add, Nat.sub_add_cancel (by omega)]
      exact nd_lt hB z
    · rw [Nat.le_div_iff_mul_le (Nat.pow_pos (by omega)), ← Nat.pow_add, show nd B z - s - 1 + s = nd B z - 1 by omega]
      exact nd_ge hB _ _ (by omega)
  · rw [div_ge_nd hB q, nd_zero]; omega
theorem lim_take {B z s : Nat} (h : s ≤ nd B z) : (lim B z).take s = dg B z s := dg_take h
theorem lim_drop {B z s : Nat} (hB : 2 ≤ B) (h : s ≤ nd B z) : (lim B z).drop s = lim B (z / B ^ s) := by
  show (dg B z (nd B z)).drop s = dg B (z / B ^ s) (nd B (z / B ^ s))
  rw [dg_drop h, nd_div hB]
theorem lim_split {B z : Nat} (hB : 2 ≤ B) (s : Nat) (h : 0 < z / B ^ s) : lim B z = dg B z s ++ lim B (z / B ^ s) := by
  have hs : s < nd B z := by
    rcases Nat.lt_or_ge s (nd B z) with q | q
    · exact q
    · rw [div_ge_nd hB q] at h; omega
  rw [← lim_drop hB (by omega), ← lim_take (by omega)]
  exact (List.take_append_drop s _).symm

-- what stands below
theorem low_digit {P B i : Nat} (x Q : Nat) (h : P = B ^ i * (B * Q)) : x % P / B ^ i % B = x / B ^ i % B := by
  rw [h, Nat.mod_mul_right_div_self, Nat.mod_mul_right_mod]
theorem low_last {P D i : Nat} (x B Q : Nat) (h : P = D * Q) (hB : Q ∣ B) (hQ : Q ≤ B) (hQ0 : 0 < Q) (_ : i = i) : x % P / D % B = x / D % B % Q := by
  rw [h, Nat.mod_mul_right_div_self, Nat.mod_mod_of_dvd _ hB]
  exact Nat.mod_eq_of_lt (Nat.lt_of_lt_of_le (Nat.mod_lt _ hQ0) hQ)

-- the product of the schools
noncomputable def mix (B G F t n : Nat) : List Nat := (List.range n).map fun k => if k < t then G / B ^ k % B else F / B ^ k % B
theorem mix_length (B G F t n : Nat) : (mix B G F t n).length = n := by simp [mix]
theorem mix_get {B G F t n k : Nat} (hk : k < n) (ht : t ≤ k) : (mix B G F t n)[k]? = some (F / B ^ k % B) := by
  simp [mix, hk]; omega
theorem mix_set {B G G' F t n : Nat} (h : ∀ k, k < t → G' / B ^ k % B = G / B ^ k % B) : (mix B G F t n).set t (G' / B ^ t % B) = mix B G' F (t + 1) n := by
  refine List.ext_getElem? fun k => ?_
  rw [List.getElem?_set]
  unfold mix
  simp only [List.getElem?_map, List.length_map, List.length_range]
  by_cases e : t = k
  · subst e
    by_cases hn : t < n
    · rw [if_pos rfl, if_pos hn, List.getElem?_range hn]; simp
    · rw [if_pos rfl, if_neg hn, List.getElem?_eq_none (by simp; omega)]; rfl
  · rw [if_neg e]
    by_cases hn : k < n
    · rw [List.getElem?_range hn]
      simp only [Option.map_some]
      by_cases hk : k < t
      · rw [if_pos hk, if_pos (by omega), h k hk]
      · rw [if_neg hk, if_neg (by omega)]
    · rw [List.getElem?_eq_none (by simp; omega)]; rfl
theorem mix_dg (B G F t n : Nat) (h : ∀ k, t ≤ k → k < n → F / B ^ k % B = G / B ^ k % B) : mix B G F t n = dg B G n := by
  refine List.map_congr_left fun k hk => ?_
  split
  · rfl
  · exact h k (by omega) (List.mem_range.mp hk)
theorem mix_start (B G n : Nat) : mix B G G 0 n = dg B G n := by
  refine List.map_congr_left fun k hk => ?_
  rw [if_neg (Nat.not_lt_zero k)]
theorem ms_low {B : Nat} (G e i k : Nat) (h : k < i) (hB : 2 ≤ B) : (G + e * B ^ i) / B ^ k % B = G / B ^ k % B := by
  have hp : 0 < B ^ k := Nat.pow_pos (by omega)
  have e1 : e * B ^ i = B ^ k * (B * (e * B ^ (i - k - 1))) := by
    rw [show i = k + (1 + (i - k - 1)) by omega, Nat.pow_add, Nat.pow_add, Nat.pow_one, show k + (1 + (i - k - 1)) - k - 1 = i - k - 1 by omega]
    simp only [Nat.mul_left_comm]
  rw [e1, Nat.add_mul_div_left _ _ hp, Nat.add_mul_mod_self_left]
/-- the carry of a row -/
noncomputable def mc (B G F t : Nat) : Nat := G / B ^ t - F / B ^ t
theorem mc_turn {B : Nat} (G F e t : Nat) (hB : 2 ≤ B) (hle : F ≤ G) : (mc B G F t + (F / B ^ t % B + e)) % B = (G + e * B ^ t) / B ^ t % B ∧ (mc B G F t + (F / B ^ t % B + e)) / B = mc B (G + e * B ^ t) F (t + 1) := by
  have hp : 0 < B ^ t := Nat.pow_pos (by omega)
  have hd : F / B ^ t ≤ G / B ^ t := Nat.div_le_div_right hle
  have e1 : (G + e * B ^ t) / B ^ t = G / B ^ t + e := by rw [Nat.mul_comm, Nat.add_mul_div_left _ _ hp]
  have s := div_split B F t
  have e2 : G / B ^ t + e = mc B G F t + (F / B ^ t % B + e) + B * (F / B ^ (t + 1)) := by
    unfold mc; rw [Nat.mul_comm B]; omega
  refine ⟨by rw [e1, e2, Nat.add_mul_mod_self_left], ?_⟩
  show _ = (G + e * B ^ t) / B ^ (t + 1) - F / B ^ (t + 1)
  rw [div_step B (G + e * B ^ t), e1, e2, Nat.add_mul_div_left _ _ (by omega), Nat.add_sub_cancel]
theorem dg_add_high {B : Nat} (hB : 2 ≤ B) (F c s : Nat) : dg B (F + c * B ^ s) s = dg B F s := dg_congr fun i hi => ms_low F c s i hi hB
theorem div_add_high {B : Nat} (hB : 2 ≤ B) (F c s : Nat) : (F + c * B ^ s) / B ^ s = F / B ^ s + c := by
  rw [Nat.mul_comm, Nat.add_mul_div_left _ _ (Nat.pow_pos (by omega))]
end Mine
end
section
open PySem PySem.W PyProof.Rows PySem.Calls
set_option maxRecDepth 10000
set_option maxHeartbeats 2000000
namespace Mine
variable {W : Wd}

theorem normal_dg (P : Prg W) {B z n : Nat} (hB : 2 ≤ B) (hz : z < B ^ n) (hn : n ≤ 1000) : CallOK W 1 "normal" [.list (iL (dg B z n))] (R B z) := by
  have := normal_ok P (l := dg B z n) (by rw [dg_length]; omega)
  rwa [strip_dg hB hz] at this

theorem sub_ok (P : Prg W) {w x y : Nat} (hw : 1 ≤ w) (hw' : w ≤ 16) (hx : x < 2 ^ 64) (hyx : y ≤ x) : CallOK W 2 "sub" [R (2 ^ w) x, R (2 ^ w) y, .int (w : Int)] (R (2 ^ w) (x - y)) := by
  have hB := pow2_ge hw
  have hcmp := compare_ok P (x := x) (y := y) hw hx (by omega)
  have nx := nd_small hB hx
  have nyx := nd_mono hB hyx
  obtain ⟨z, rfl⟩ : ∃ z, x = z + y := ⟨x - y, by omega⟩
  rw [Nat.add_sub_cancel]
  have hnorm := normal_dg P (z := z) hB (Nat.lt_of_le_of_lt (Nat.le_add_right z y) (nd_lt hB (z + y))) (by omega)
  refine fn_ok P.f_sub ["a", "b", "w"] ["found", "borrow", "base", "at", "limb"] ["compare", "OutOfRange", "range", "len", "normal"] (fun n => by kernel_rfl) rfl ?_ ?_
  · intro m
    refine all3 fun v1 v2 v3 => ?_
    kernel_rfl
  intro A m L a h₀ av
  refine X.no ((EvT.cmp (Ev.callG 0 rfl (EvL.cons (Ev.name 0 rfl rfl) (EvL.cons (Ev.name 1 rfl rfl) EvL.nil)) hcmp (Nat.le_refl _)) Ev.int cmp_lt).to ?_) ?_
  · unfold cmpN
    rw [if_neg (by omega)]
    split <;> rfl
  refine X.ow 3 [(4, "borrow"), (5, "base")] (EvO.disp EvL.nil) (fun ad => (EvL.cons Ev.int (EvL.cons (Ev.binop Ev.int (Ev.name 2 rfl rfl) (op_shl (by omega) (by omega) (by decide))) EvL.nil))) (fun ad => ?_) ⟨⟨rfl, rfl⟩, ⟨rfl, rfl⟩, trivial⟩
  dsimp only [setP, List.set, List.reverse, List.reverseAux]
  rw [one_shl_small]
  refine X.forR 6 (fun i ρ => ∃ b b', ρ = [some (.p (R (2 ^ w) (z + y))), some (.p (R (2 ^ w) y)), some (.p (.int (w : Int))), some (.own ad (iL (dg (2 ^ w) z i))), some (.p (.int (cy (2 ^ w) z y i : Nat))), some (.p (.int ((2 ^ w : Nat) : Int))), b, b'])
    (EvIt.range1 2 (nd (2 ^ w) (z + y)) rfl P.range (Ev.len 3 rfl P.len (EvSeq.of (Ev.name 0 rfl rfl)) ?_) ?_ ?_ ?_) ⟨none, none, ?_⟩ (fun i ρ v hi hI hv => ?_) (fun ρ hI => ?_)
  · rw [iL_lim_length]; omega
  · rw [iL_lim_length]; omega
  · rw [iL_lim_length]; omega
  · rw [iL_lim_length]; omega
  · rw [cy_zero]; rfl
  · obtain ⟨b, b', rfl⟩ := hI
    have ev : v = (i : Int) := by omega
    subst ev
    refine ⟨rfl, ?_⟩
    dsimp only [List.set]
    obtain ⟨t1, t2⟩ := cy_turn (2 ^ w) z y i hB
    have hc := cy_le (2 ^ w) z y i hB
    have ea := iLl_get (B := 2 ^ w) (z := z + y) (i := i) hi
    rw [← t1] at ea
    have hzl : z / (2 ^ w) ^ i % 2 ^ w < 2 ^ w := Nat.mod_lt _ (by omega)
    have hyl : y / (2 ^ w) ^ i % 2 ^ w < 2 ^ w := Nat.mod_lt _ (by omega)
    have e2 : ∀ hi', Nat.succ_le_of_lt (n := i) (m := nd (2 ^ w) y) hi' = hi' → (iL (lim (2 ^ w) y))[i]? = some (.int ((y / (2 ^ w) ^ i % 2 ^ w : Nat) : Int)) := fun h _ => iLl_get h
    generalize cy (2 ^ w) z y i = k at *
    generalize hk' : cy (2 ^ w) z y (i + 1) = k' at *
    generalize hzd : z / (2 ^ w) ^ i % 2 ^ w = zd at *
    generalize hyd : y / (2 ^ w) ^ i % 2 ^ w = yd at *
    have hlimb : ((((k + (zd + yd)) % 2 ^ w : Nat) : Int) - (k : Int) - (yd : Int) < 0 → k' = 1 ∧ (((k + (zd + yd)) % 2 ^ w : Nat) : Int) - (k : Int) - (yd : Int) + ((2 ^ w : Nat) : Int) = (zd : Int)) ∧
        (¬ (((k + (zd + yd)) % 2 ^ w : Nat) : Int) - (k : Int) - (yd : Int) < 0 → k' = 0 ∧ (((k + (zd + yd)) % 2 ^ w : Nat) : Int) - (k : Int) - (yd : Int) = (zd : Int)) := by
      generalize 2 ^ w = B at *
      rcases Nat.lt_or_ge (k + (zd + yd)) B with q | q
      · rw [Nat.mod_eq_of_lt q]; rw [Nat.div_eq_of_lt q] at t2; omega
      · have e1 : (k + (zd + yd)) % B = k + (zd + yd) - B := by rw [Nat.mod_eq_sub_mod q, Nat.mod_eq_of_lt (by omega)]
        have e2 : (k + (zd + yd)) / B = 1 := by rw [Nat.div_eq_sub_div (by omega) q, Nat.div_eq_of_lt (by omega)]
        omega
    refine X.set 7 (d := .int ((((k + (zd + yd)) % 2 ^ w : Nat) : Int) - (k : Int) - (yd : Int))) (Ev.binop (Ev.binop (Ev.itemN (EvSeq.of (Ev.name 0 rfl rfl)) (Ev.name 6 rfl rfl) i rfl (by omega) ea) (Ev.name 4 rfl rfl) op_sub) (Ev.ite (EvT.cmp (Ev.name 6 rfl rfl) (Ev.len 3 rfl P.len (EvSeq.of (Ev.name 1 rfl rfl)) (by rw [iL_lim_length]; omega)) cmp_lt) (fun h => (Ev.itemN (EvSeq.of (Ev.name 1 rfl rfl)) (Ev.name 6 rfl rfl) i rfl (by omega) (e2 ?_ rfl))) (fun h => Ev.int.to ?_)) op_sub) ?_
    · rw [iL_lim_length] at h; simp at h; omega
    · rw [iL_lim_length] at h
      have : nd (2 ^ w) y ≤ i := by simp at h; omega
      rw [div_ge_nd hB this, Nat.zero_mod] at hyd
      rw [← hyd]; rfl
    dsimp only [List.set]
    generalize (((k + (zd + yd)) % 2 ^ w : Nat) : Int) - (k : Int) - (yd : Int) = limb at *
    refine X.set 4 (d := .int (k' : Int)) (Ev.ite (EvT.cmp (Ev.name 7 rfl rfl) Ev.int cmp_lt) (fun h => Ev.int.to ?_) (fun h => Ev.int.to ?_)) ?_
    · rw [(hlimb.1 (by simpa using h)).1]; rfl
    · rw [(hlimb.2 (by simpa using h)).1]; rfl
    dsimp only [List.set]
    refine X.app 3 (d := .int (zd : Int)) (Ev.ite (EvT.cmp (Ev.name 7 rfl rfl) Ev.int cmp_lt) (fun h => (Ev.binop (Ev.name 7 rfl rfl) (Ev.name 5 rfl rfl) op_add).to ?_) (fun h => (Ev.name 7 rfl rfl).to ?_)) ?_ (Ex.nil ⟨some (.p (.int (i : Int))), some (.p (.int limb)), ?_⟩)
    · rw [(hlimb.1 (by simpa using h)).2]
    · rw [(hlimb.2 (by simpa using h)).2]
    · rw [iL_length, dg_length]; omega
    · dsimp only [List.set]
      rw [iL_snoc, ← hzd, ← dg_succ]
  obtain ⟨b, b', rfl⟩ := hI
  exact Ex.free 3 rfl (X.ret (Ev.callG 4 rfl (EvL.cons (Ev.name 3 rfl rfl) EvL.nil) hnorm (Nat.le_of_ble_eq_true rfl)) (.inl rfl))
end Mine
end
section
open PySem PySem.W PyProof.Rows PySem.Calls
set_option maxRecDepth 10000
set_option maxHeartbeats 2000000
namespace Mine
variable {W : Wd}

theorem iL_take (l : List Nat) (n : Nat) : (iL l).take n = iL (l.take n) := by simp [iL]
theorem iL_drop (l : List Nat) (n : Nat) : (iL l).drop n = iL (l.drop n) := by simp [iL]
theorem iL_zeros (n : Nat) : List.replicate n (D.int 0) = iL (List.replicate n 0) := by simp [iL]

theorem or_nat (a b : Nat) : Builtin.bitOr (a : Int) (b : Int) = ((a ||| b : Nat) : Int) := by
  unfold Builtin.bitOr Builtin.bitAnd Builtin.bitNot
  have h1 : decide ((0 : Int) ≤ -(a : Int) - 1) = false := decide_eq_false (by omega)
  have h2 : decide ((0 : Int) ≤ -(b : Int) - 1) = false := decide_eq_false (by omega)
  rw [h1, h2]
  show -(-(((-(-(a : Int) - 1) - 1).toNat ||| (-(-(b : Int) - 1) - 1).toNat : Nat) : Int) - 1) - 1 = _
  rw [show (-(-(a : Int) - 1) - 1).toNat = a by omega, show (-(-(b : Int) - 1) - 1).toNat = b by omega]
  omega
theorem or_shl {a k : Nat} (b : Nat) (h : a < 2 ^ k) : Builtin.bitOr (a : Int) ((b : Int) * 2 ^ ((k : Int)).toNat) = ((a + b * 2 ^ k : Nat) : Int) := by
  rw [tw, show (b : Int) * 2 ^ k = ((b * 2 ^ k : Nat) : Int) by simp, or_nat, Nat.or_comm, Nat.mul_comm b, ← Nat.two_pow_add_eq_or_of_lt h, Nat.add_comm]

theorem add_at_ok (P : Prg W) {w F b s : Nat} (hw : 1 ≤ w) (hw' : w ≤ 16) (hF : F < 2 ^ 64) (hb : b < 2 ^ 64) (hs : s ≤ 100) : CallOK W 2 "add_at" [R (2 ^ w) F, R (2 ^ w) b, .int (s : Int), .int (w : Int)] (R (2 ^ w) (F + b * (2 ^ w) ^ s)) := by
  have hB := pow2_ge hw
  have nF := nd_small hB hF
  have nb := nd_small hB hb
  have hadd := add_ok P (x := F / (2 ^ w) ^ s) (y := b) hw hw' (Nat.lt_of_le_of_lt (Nat.div_le_self _ _) hF) hb
  refine fn_ok P.f_add_at ["a", "b", "spot", "w"] [] ["len", "add"] (fun n => by kernel_rfl) rfl ?_ ?_
  · intro m
    refine all4 fun v1 v2 v3 v4 => ?_
    kernel_rfl
  intro A m L a h₀ av
  refine X.else (EvT.cmp (Ev.len 0 rfl P.len (EvSeq.of (Ev.name 1 rfl rfl)) ?_) Ev.int cmp_eq) (fun h => ?_) (fun h => ?_)
  · rw [iL_lim_length]; omega
  · refine X.ret (EvO.ev (EvO.copy (EvSeq.of (Ev.name 0 rfl rfl)) ?_)) (.inl ?_)
    · rw [iL_lim_length]; omega
    · rw [iL_lim_length] at h
      have : nd (2 ^ w) b = 0 := by simp at h; omega
      rw [nd_eq_zero hB] at this
      subst this
      rw [Nat.zero_mul]; rfl
  have hb0 : 0 < b := by
    rw [iL_lim_length] at h
    rcases Nat.eq_zero_or_pos b with q | q
    · rw [q, nd_zero] at h; simp at h
    · exact q
  have hsplit := lim_split (z := F + b * (2 ^ w) ^ s) hB s (by rw [div_add_high hB]; exact Nat.lt_of_lt_of_le hb0 (Nat.le_add_left _ _))
  rw [div_add_high hB, dg_add_high hB] at hsplit
  refine X.else (EvT.cmp (Ev.name 2 rfl rfl) (Ev.len 0 rfl P.len (EvSeq.of (Ev.name 0 rfl rfl)) ?_) cmp_ge) (fun h => ?_) (fun h => ?_)
  · rw [iL_lim_length]; omega
  · rw [iL_lim_length] at h
    have hge : nd (2 ^ w) F ≤ s := by simp at h; omega
    refine X.ret (EvO.ev (EvO.cat (EvSeq.of (EvO.ev (EvO.cat (EvSeq.of (Ev.name 0 rfl rfl)) (EvSeq.of (EvO.ev (EvO.rep (EvSeq.of (EvO.ev (EvO.disp (EvL.cons Ev.int EvL.nil)))) (Ev.binop (Ev.name 2 rfl rfl) (Ev.len 0 rfl P.len (EvSeq.of (Ev.name 0 rfl rfl)) ?_) op_sub) ?_ ?_))) ?_))) (EvSeq.of (Ev.name 1 rfl rfl)) ?_)) (.inl ?_)
    · rw [iL_lim_length]; omega
    · rw [iL_lim_length]; omega
    · rw [iL_lim_length]; omega
    · rw [iL_lim_length, List.length_replicate]; omega
    · rw [List.length_append, iL_lim_length, iL_lim_length, List.length_replicate]; omega
    · rw [div_ge_nd hB hge, Nat.zero_add, dg_ge hB hge] at hsplit
      rw [R_def, hsplit, iL_lim_length, iL_zeros, iL_append, iL_append, show ((s : Int) - (nd (2 ^ w) F : Int)).toNat = s - nd (2 ^ w) F by omega]
  · rw [iL_lim_length] at h
    have hlt : s < nd (2 ^ w) F := by simp at h; omega
    refine X.ret (EvO.ev (EvO.cat (EvSeq.of (EvO.ev (EvO.upto (EvSeq.of (Ev.name 0 rfl rfl)) (Ev.name 2 rfl rfl) ?_ ?_))) (EvSeq.of (Ev.callG 1 rfl (EvL.cons ((EvO.ev (EvO.from (EvSeq.of (Ev.name 0 rfl rfl)) (Ev.name 2 rfl rfl) ?_ ?_)).to ?_) (EvL.cons (Ev.name 1 rfl rfl) (EvL.cons (Ev.name 3 rfl rfl) EvL.nil))) hadd (Nat.le_of_ble_eq_true rfl))) ?_)) (.inl ?_)
    · omega
    · rw [iL_lim_length]; omega
    · omega
    · rw [iL_lim_length]; omega
    · rw [iL_drop, tw, lim_drop hB (by omega)]; rfl
    · have : F / (2 ^ w) ^ s + b < 2 ^ 65 := by
        have := Nat.div_le_self F ((2 ^ w) ^ s); omega
      have h2 : nd (2 ^ w) (F / (2 ^ w) ^ s + b) ≤ 65 := nd_le hB (Nat.lt_of_lt_of_le this (Nat.pow_le_pow_left hB 65))
      rw [iL_lim_length, List.length_take, iL_lim_length]; omega
    · rw [R_def, hsplit, iL_take, tw, lim_take (by omega), iL_append]

theorem shift_left_ok (P : Prg W) {w x n : Nat} (hw : 1 ≤ w) (hw' : w ≤ 16) (hx : x < 2 ^ 64) (hn : n ≤ 64) : CallOK W 1 "shift_left" [R (2 ^ w) x, .int (n : Int), .int (w : Int)] (R (2 ^ w) (x * 2 ^ n)) := by
  have hB := pow2_ge hw
  have nx := nd_small hB hx
  refine fn_ok P.f_shift_left ["a", "n", "w"] ["spots", "few", "found", "carry", "mask", "one"] ["len"] (fun n => by kernel_rfl) rfl ?_ ?_
  · intro m
    refine all3 fun v1 v2 v3 => ?_
    kernel_rfl
  intro A m L a h₀ av
  refine X.else (EvT.cmp (Ev.len 0 rfl P.len (EvSeq.of (Ev.name 0 rfl rfl)) ?_) Ev.int cmp_eq) (fun h => ?_) (fun h => ?_)
  · rw [iL_lim_length]; omega
  · rw [iL_lim_length] at h
    have : nd (2 ^ w) x = 0 := by simp at h; omega
    rw [nd_eq_zero hB] at this
    subst this
    refine X.ret (EvO.ev (EvO.disp EvL.nil)) (.inl ?_)
    rw [Nat.zero_mul, R_def, lim_zero]; rfl
  have hx0 : 0 < x := by
    rw [iL_lim_length] at h
    rcases Nat.eq_zero_or_pos x with q | q
    · rw [q, nd_zero] at h; simp at h
    · exact q
  have eq : n = n % w + w * (n / w) := (Nat.mod_add_div n w).symm
  have hdl : n / w ≤ n := Nat.div_le_self _ _
  have hml : n % w < w := Nat.mod_lt _ (by omega)
  refine X.tupW [(3, "spots"), (4, "few")] (ds := [.int ((n / w : Nat) : Int), .int ((n % w : Nat) : Int)]) (Ev.tup (EvL.cons (Ev.binop (Ev.name 1 rfl rfl) (Ev.name 2 rfl rfl) (op_div (by omega) (by omega))) (EvL.cons (Ev.binop (Ev.name 1 rfl rfl) (Ev.name 2 rfl rfl) (op_mod (by omega))) EvL.nil))) ?_ ⟨⟨rfl, rfl⟩, ⟨rfl, rfl⟩, trivial⟩
  dsimp only [setP, List.set, List.reverse, List.reverseAux]
  generalize hs : n / w = s at *
  generalize hf : n % w = f at *
  have hP : 0 < 2 ^ f := Nat.two_pow_pos f
  have hPB : 2 ^ f < 2 ^ w := Nat.pow_lt_pow_right (by omega) (by omega)
  have ex : x * 2 ^ n = x * 2 ^ f * (2 ^ w) ^ s := by rw [eq, Nat.pow_add, ← Nat.pow_mul, Nat.mul_assoc]
  have hz0 : 0 < x * 2 ^ f := Nat.mul_pos hx0 hP
  have eR : R (2 ^ w) (x * 2 ^ n) = .list (iL (List.replicate s 0 ++ lim (2 ^ w) (x * 2 ^ f))) := by
    rw [ex, R_def, lim_shift _ _ _ hB hz0]
  rw [eR]
  refine X.ow 5 [(6, "carry"), (7, "mask")] (EvO.rep (EvSeq.of (EvO.ev (EvO.disp (EvL.cons Ev.int EvL.nil)))) (Ev.name 3 rfl rfl) (by omega) (by omega)) (fun ad => (EvL.cons Ev.int (EvL.cons (Ev.binop (Ev.binop Ev.int (Ev.name 2 rfl rfl) (op_shl (by omega) (by omega) (by decide))) Ev.int op_sub) EvL.nil))) (fun ad => ?_) ⟨⟨rfl, rfl⟩, ⟨rfl, rfl⟩, trivial⟩
  dsimp only [setP, List.set, List.reverse, List.reverseAux]
  refine X.forL 8 (fun i ρ => ∃ b, ρ = [some (.p (R (2 ^ w) x)), some (.p (.int (n : Int))), some (.p (.int (w : Int))), some (.p (.int (s : Int))), some (.p (.int (f : Int))), some (.own ad (iL (List.replicate s 0 ++ dg (2 ^ w) (x * 2 ^ f) i))), some (.p (.int ((x % (2 ^ w) ^ i * 2 ^ f / (2 ^ w) ^ i : Nat) : Int))), some (.p (.int (1 * 2 ^ ((w : Int)).toNat - 1))), b])
    (EvIt.list (Ev.name 0 rfl rfl) ?_) ⟨none, ?_⟩ (fun i ρ d hi hd hI => ?_) (fun ρ hI => ?_)
  · rw [iL_lim_length]; omega
  · rw [iL_zeros, tw, Nat.pow_zero, Nat.mod_one, Nat.zero_mul, Nat.zero_div, dg_zero, List.append_nil]; rfl
  · obtain ⟨b, rfl⟩ := hI
    rw [iL_lim_length] at hi
    rw [iLl_get hi] at hd
    cases hd
    refine ⟨rfl, ?_⟩
    dsimp only [List.set]
    have t1 := sl_turn (2 ^ w) (2 ^ f) x i hB
    have t2 := sl_digit (2 ^ w) (2 ^ f) x i hB
    have t3 := sl_carry (2 ^ w) (2 ^ f) x i
    have t4 := sl_lt (2 ^ w) (2 ^ f) x i hB hP
    have hdl : x / (2 ^ w) ^ i % 2 ^ w < 2 ^ w := Nat.mod_lt _ (by omega)
    have hwl : 2 ^ w ≤ 2 ^ 16 := Nat.pow_le_pow_right (by omega) hw'
    refine X.aug 6 (d := .int ((x % (2 ^ w) ^ (i + 1) * 2 ^ f / (2 ^ w) ^ i : Nat) : Int)) (Ev.binop (Ev.name 8 rfl rfl) (Ev.name 4 rfl rfl) (op_shl (by omega) (by omega) (by omega))) ?_ ?_
    · rw [← t1, ← or_shl _ t4]; exact iop_or
    refine X.app 5 ((Ev.binop (Ev.name 6 rfl rfl) (Ev.name 7 rfl rfl) op_and).to (congrArg D.int (mask_nat _ w))) ?_ ?_
    · rw [iL_length, List.length_append, List.length_replicate, dg_length]; omega
    rw [t2, iL_snoc, List.append_assoc, ← dg_succ]
    refine X.aug 6 (Ev.name 2 rfl rfl) (iop_shr (by omega)) (Ex.nil ⟨some (.p (.int ((x / (2 ^ w) ^ i % 2 ^ w : Nat) : Int))), ?_⟩)
    dsimp only [List.set]
    rw [shr_nat, t3]
  · obtain ⟨b, rfl⟩ := hI
    rw [iL_lim_length, Nat.mod_eq_of_lt (nd_lt hB x)]
    have hle : (2 ^ w) ^ (nd (2 ^ w) x - 1) ≤ x * 2 ^ f := Nat.le_trans (nd_ge hB _ _ (by
      rcases Nat.eq_zero_or_pos (nd (2 ^ w) x) with q | q
      · rw [nd_eq_zero hB] at q; omega
      · omega)) (Nat.le_mul_of_pos_right _ hP)
    have hub : x * 2 ^ f / (2 ^ w) ^ nd (2 ^ w) x < 2 ^ w := by
      have := sl_lt (2 ^ w) (2 ^ f) x (nd (2 ^ w) x) hB hP
      rw [Nat.mod_eq_of_lt (nd_lt hB x)] at this
      omega
    refine X.else (EvT.cmp (Ev.name 6 rfl rfl) Ev.int cmp_gt) (fun h => ?_) (fun h => ?_)
    · simp only [gt_iff_lt, decide_eq_true_eq] at h
      refine X.app 5 (Ev.name 6 rfl rfl) ?_ (Ex.nil ?_)
      · rw [iL_length, List.length_append, List.length_replicate, dg_length]; omega
      rw [iL_snoc]
      have e : List.replicate s 0 ++ dg (2 ^ w) (x * 2 ^ f) (nd (2 ^ w) x) ++ [x * 2 ^ f / (2 ^ w) ^ nd (2 ^ w) x] = List.replicate s 0 ++ lim (2 ^ w) (x * 2 ^ f) := by
        rw [lim_split hB (nd (2 ^ w) x) (by omega), lim_one hB (by omega) hub, List.append_assoc]
      exact X.retO 5 (.inl (congrArg (fun l => Out.ret (.list (iL l))) e))
    · simp only [gt_iff_lt, decide_eq_false_iff_not] at h
      have e : List.replicate s 0 ++ dg (2 ^ w) (x * 2 ^ f) (nd (2 ^ w) x) = List.replicate s 0 ++ lim (2 ^ w) (x * 2 ^ f) := by
        rw [dg_is_lim hB ?_ (.inr hle)]
        rcases Nat.lt_or_ge (x * 2 ^ f) ((2 ^ w) ^ nd (2 ^ w) x) with q | q
        · exact q
        · have := Nat.div_pos q (Nat.pow_pos (by omega)); omega
      exact X.retO 5 (.inl (congrArg (fun l => Out.ret (.list (iL l))) e))
end Mine
end
section
open PySem PySem.W PyProof.Rows PySem.Calls
set_option maxRecDepth 10000
set_option maxHeartbeats 2000000
namespace Mine
variable {W : Wd}

theorem shift_right_ok (P : Prg W) {w x n : Nat} (hw : 1 ≤ w) (hw' : w ≤ 16) (hx : x < 2 ^ 64) (hn : n ≤ 64) : CallOK W 2 "shift_right" [R (2 ^ w) x, .int (n : Int), .int (w : Int)] (R (2 ^ w) (x / 2 ^ n)) := by
  have hB := pow2_ge hw
  have nx := nd_small hB hx
  have eq : n = n % w + w * (n / w) := (Nat.mod_add_div n w).symm
  have hdl : n / w ≤ n := Nat.div_le_self _ _
  have hml : n % w < w := Nat.mod_lt _ (by omega)
  have hz : x / 2 ^ n < (2 ^ w) ^ (nd (2 ^ w) x - n / w) := by
    rw [Nat.div_lt_iff_lt_mul (Nat.two_pow_pos _)]
    refine Nat.lt_of_lt_of_le (nd_lt hB x) ?_
    rw [← Nat.pow_mul, ← Nat.pow_mul, ← Nat.pow_add]
    refine Nat.pow_le_pow_right (by omega) ?_
    rw [Nat.mul_sub]
    generalize w * nd (2 ^ w) x = q
    generalize w * (n / w) = r at *
    omega
  have hnorm := normal_dg P hB hz (Nat.le_trans (Nat.sub_le _ _) (by omega))
  refine fn_ok P.f_shift_right ["a", "n", "w"] ["spots", "few", "found", "mask", "at", "above"] ["range", "len", "normal"] (fun n => by kernel_rfl) rfl ?_ ?_
  · intro m
    refine all3 fun v1 v2 v3 => ?_
    kernel_rfl
  intro A m L a h₀ av
  refine X.tupW [(3, "spots"), (4, "few")] (ds := [.int ((n / w : Nat) : Int), .int ((n % w : Nat) : Int)]) (Ev.tup (EvL.cons (Ev.binop (Ev.name 1 rfl rfl) (Ev.name 2 rfl rfl) (op_div (by omega) (by omega))) (EvL.cons (Ev.binop (Ev.name 1 rfl rfl) (Ev.name 2 rfl rfl) (op_mod (by omega))) EvL.nil))) ?_ ⟨⟨rfl, rfl⟩, ⟨rfl, rfl⟩, trivial⟩
  dsimp only [setP, List.set, List.reverse, List.reverseAux]
  generalize hs : n / w = s at *
  generalize hf : n % w = f at *
  obtain ⟨v, hwv⟩ : ∃ v, w = f + v := ⟨w - f, by omega⟩
  have ez : x / 2 ^ n = x / (2 ^ w) ^ s / 2 ^ f := by
    conv => lhs; rw [eq]
    rw [Nat.div_div_eq_div_mul, ← Nat.pow_mul, ← Nat.pow_add, Nat.add_comm]
  refine X.ow 5 [(6, "mask")] (EvO.disp EvL.nil) (fun ad => (EvL.cons (Ev.binop (Ev.binop Ev.int (Ev.name 2 rfl rfl) (op_shl (by omega) (by omega) (by decide))) Ev.int op_sub) EvL.nil)) (fun ad => ?_) ⟨⟨rfl, rfl⟩, trivial⟩
  dsimp only [setP, List.set, List.reverse, List.reverseAux]
  refine X.forR 7 (fun i ρ => ∃ b b', ρ = [some (.p (R (2 ^ w) x)), some (.p (.int (n : Int))), some (.p (.int (w : Int))), some (.p (.int (s : Int))), some (.p (.int (f : Int))), some (.own ad (iL (dg (2 ^ w) (x / 2 ^ n) i))), some (.p (.int (1 * 2 ^ ((w : Int)).toNat - 1))), b, b'])
    (EvIt.range2 0 (nd (2 ^ w) x - s) rfl P.range (Ev.name 3 rfl rfl) (Ev.len 1 rfl P.len (EvSeq.of (Ev.name 0 rfl rfl)) ?_) ?_ ?_ ?_ ?_ ?_ ?_) ⟨none, none, rfl⟩ (fun i ρ v' hi hI hv => ?_) (fun ρ hI => ?_)
  · rw [iL_lim_length]; omega
  · rw [iL_lim_length]; omega
  · omega
  · omega
  · rw [iL_lim_length]; omega
  · rw [iL_lim_length]; omega
  · omega
  · obtain ⟨b, b', rfl⟩ := hI
    generalize hJ : s + i = J at *
    have ev : v' = (J : Int) := by omega
    subst ev
    refine ⟨rfl, ?_⟩
    dsimp only [List.set]
    have ea := iLl_get (B := 2 ^ w) (z := x) (i := J) (by omega)
    have eab : ∀ h : J + 1 < nd (2 ^ w) x, (iL (lim (2 ^ w) x))[J + 1]? = some (.int ((x / (2 ^ w) ^ (J + 1) % 2 ^ w : Nat) : Int)) := fun h => iLl_get h
    refine X.set 8 (d := .int ((x / (2 ^ w) ^ (J + 1) % 2 ^ w : Nat) : Int)) (Ev.ite (EvT.cmp (Ev.binop (Ev.name 7 rfl rfl) Ev.int op_add) (Ev.len 1 rfl P.len (EvSeq.of (Ev.name 0 rfl rfl)) ?_) cmp_lt) (fun h => (Ev.itemN (EvSeq.of (Ev.name 0 rfl rfl)) (Ev.binop (Ev.name 7 rfl rfl) Ev.int op_add) (J + 1) rfl (by omega) (eab ?_))) (fun h => Ev.int.to ?_)) ?_
    · rw [iL_lim_length]; omega
    · rw [iL_lim_length] at h; simp at h; omega
    · rw [iL_lim_length] at h
      rw [div_ge_nd hB (i := J + 1) (by simp at h; omega), Nat.zero_mod]; rfl
    dsimp only [List.set]
    have hwl : 2 ^ w ≤ 2 ^ 16 := Nat.pow_le_pow_right (by omega) hw'
    have hal : x / (2 ^ w) ^ (J + 1) % 2 ^ w < 2 ^ w := Nat.mod_lt _ (by omega)
    refine X.app 5 (d := .int ((x / 2 ^ n / (2 ^ w) ^ i % 2 ^ w : Nat) : Int)) ((Ev.binop (d₁ := .int (((x / (2 ^ w) ^ J % 2 ^ w / 2 ^ f + x / (2 ^ w) ^ (J + 1) % 2 ^ w * 2 ^ v : Nat)) : Int)) (Ev.binop (Ev.binop (Ev.itemN (EvSeq.of (Ev.name 0 rfl rfl)) (Ev.name 7 rfl rfl) J rfl (by omega) ea) (Ev.name 4 rfl rfl) (op_shr (by omega))) (Ev.binop (Ev.name 8 rfl rfl) (Ev.binop (Ev.name 2 rfl rfl) (Ev.name 4 rfl rfl) op_sub) (op_shl (by omega) (by omega) (by omega))) ?_) (Ev.name 6 rfl rfl) op_and).to ?_) ?_ (Ex.nil ⟨some (.p (.int (J : Int))), some (.p (.int ((x / (2 ^ w) ^ (J + 1) % 2 ^ w : Nat) : Int))), ?_⟩)
    · have hl : x / (2 ^ w) ^ J % 2 ^ w / 2 ^ f < 2 ^ v := by
        have := sr_lt f v (x / (2 ^ w) ^ J)
        rwa [← hwv] at this
      rw [← or_shl _ hl, shr_nat, show ((w : Int) - (f : Int)) = (v : Int) by omega]
      exact op_or
    · rw [mask_nat]
      congr 2
      have := sr_turn f v (x / (2 ^ w) ^ J)
      rw [← hwv, ← div_step] at this
      rw [this, ez, ← hJ, Nat.div_div_eq_div_mul, Nat.div_div_eq_div_mul, Nat.div_div_eq_div_mul, Nat.pow_add]
      congr 2
      simp only [Nat.mul_comm, Nat.mul_left_comm]
    · rw [iL_length, dg_length]; omega
    · dsimp only [List.set]
      rw [iL_snoc, ← dg_succ]
  · obtain ⟨b, b', rfl⟩ := hI
    exact Ex.free 5 rfl (X.ret (Ev.callG 2 rfl (EvL.cons (Ev.name 5 rfl rfl) EvL.nil) hnorm (Nat.le_of_ble_eq_true rfl)) (.inl rfl))

theorem bits_ok (P : Prg W) {w x : Nat} (hw : 1 ≤ w) (hw' : w ≤ 16) (hx : x < 2 ^ 64) : ∃ b : Nat, x < 2 ^ b ∧ CallOK W 1 "bits" [R (2 ^ w) x, .int (w : Int)] (.int (b : Int)) := by
  have hB := pow2_ge hw
  have nx := nd_small hB hx
  rcases Nat.eq_zero_or_pos (nd (2 ^ w) x) with q | q
  · refine ⟨0, ?_, ?_⟩
    · rw [nd_eq_zero hB] at q; subst q; decide
    refine fn_ok P.f_bits ["a", "w"] [] ["len"] (fun n => by kernel_rfl) rfl ?_ ?_
    · intro m
      refine all2 fun v1 v2 => ?_
      kernel_rfl
    intro A m L a h₀ av
    refine X.ret (Ev.ite (b := false) ((EvT.cmp (Ev.len 0 rfl P.len (EvSeq.of (Ev.name 0 rfl rfl)) ?_) Ev.int cmp_gt).to ?_) (fun h => by cases h) (fun h => Ev.int)) (.inl rfl)
    · rw [iL_lim_length]; omega
    · rw [iL_lim_length, q]; rfl
  · obtain ⟨k, hk⟩ : ∃ k, nd (2 ^ w) x = k + 1 := ⟨nd (2 ^ w) x - 1, by omega⟩
    refine ⟨k * w + Builtin.Int.intBits ((x / (2 ^ w) ^ k % 2 ^ w : Nat) : Int), ?_, ?_⟩
    · have h1 := nd_lt hB x
      rw [hk] at h1
      have h2 : x / (2 ^ w) ^ k < 2 ^ w := by
        rw [Nat.div_lt_iff_lt_mul (Nat.pow_pos (by omega)), ← Nat.pow_succ']; exact h1
      rw [Nat.mod_eq_of_lt h2]
      have h3 : x / (2 ^ w) ^ k < 2 ^ Builtin.Int.intBits ((x / (2 ^ w) ^ k : Nat) : Int) := by
        exact (PySem.intBits_le_iff (x := ((x / (2 ^ w) ^ k : Nat) : Int))).mp (Nat.le_refl _)
      rw [Nat.div_lt_iff_lt_mul (Nat.pow_pos (by omega))] at h3
      rw [Nat.pow_add, Nat.mul_comm k, Nat.pow_mul, Nat.mul_comm]
      exact h3
    refine fn_ok P.f_bits ["a", "w"] [] ["len"] (fun n => by kernel_rfl) rfl ?_ ?_
    · intro m
      refine all2 fun v1 v2 => ?_
      kernel_rfl
    intro A m L a h₀ av
    refine X.ret (Ev.ite (b := true) ((EvT.cmp (Ev.len 0 rfl P.len (EvSeq.of (Ev.name 0 rfl rfl)) ?_) Ev.int cmp_gt).to ?_) (fun h => ((Ev.binop (Ev.binop (Ev.binop (Ev.len 0 rfl P.len (EvSeq.of (Ev.name 0 rfl rfl)) ?_) Ev.int op_sub) (Ev.name 1 rfl rfl) (op_mul ?_)) (Ev.bitlen (i := ((x / (2 ^ w) ^ k % 2 ^ w : Nat) : Int)) (Ev.itemNeg (i := -1) (EvSeq.of (Ev.name 0 rfl rfl)) (Ev.neg Ev.int) ?_ ?_ ?_ ?_)) op_add)).to ?_) (fun h => by cases h)) (.inl rfl)
    · rw [iL_lim_length]; omega
    · rw [iL_lim_length, hk]; exact decide_eq_true (by omega)
    · rw [iL_lim_length]; omega
    · right; omega
    · omega
    · rw [iL_lim_length]; omega
    · rw [iL_lim_length]; omega
    · rw [iL_lim_length, show ((-1 : Int) + ((nd (2 ^ w) x : Nat) : Int)).toNat = k by omega]
      exact iLl_get (by omega)
    · rw [iL_lim_length, hk]
      congr 1
      rw [show ((k + 1 : Nat) : Int) - 1 = (k : Int) by omega]; simp
end Mine
end
section
open PySem PySem.W PyProof.Rows PySem.Calls
set_option maxRecDepth 10000
set_option maxHeartbeats 2000000
namespace Mine
variable {W : Wd}

theorem low_ok (P : Prg W) {w x n : Nat} (hw : 1 ≤ w) (hw' : w ≤ 16) (hx : x < 2 ^ 64) (hn : n ≤ 64) : CallOK W 2 "low" [R (2 ^ w) x, .int (n : Int), .int (w : Int)] (R (2 ^ w) (x % 2 ^ n)) := by
  have hB := pow2_ge hw
  have nx := nd_small hB hx
  have eq : n = n % w + w * (n / w) := (Nat.mod_add_div n w).symm
  have hdl : n / w ≤ n := Nat.div_le_self _ _
  have hml : n % w < w := Nat.mod_lt _ (by omega)
  have hz : x % 2 ^ n < (2 ^ w) ^ (n / w + 1) := by
    refine Nat.lt_of_lt_of_le (Nat.mod_lt _ (Nat.two_pow_pos n)) ?_
    rw [← Nat.pow_mul]
    refine Nat.pow_le_pow_right (by omega) ?_
    rw [Nat.mul_add]
    generalize w * (n / w) = r at *
    omega
  have hnorm := normal_dg P hB hz (Nat.le_trans (Nat.add_le_add_right hdl 1) (by omega))
  refine fn_ok P.f_low ["a", "n", "w"] ["spots", "few"] ["len", "normal"] (fun n => by kernel_rfl) rfl ?_ ?_
  · intro m
    refine all3 fun v1 v2 v3 => ?_
    kernel_rfl
  intro A m L a h₀ av
  refine X.tupW [(3, "spots"), (4, "few")] (ds := [.int ((n / w : Nat) : Int), .int ((n % w : Nat) : Int)]) (Ev.tup (EvL.cons (Ev.binop (Ev.name 1 rfl rfl) (Ev.name 2 rfl rfl) (op_div (by omega) (by omega))) (EvL.cons (Ev.binop (Ev.name 1 rfl rfl) (Ev.name 2 rfl rfl) (op_mod (by omega))) EvL.nil))) ?_ ⟨⟨rfl, rfl⟩, ⟨rfl, rfl⟩, trivial⟩
  dsimp only [setP, List.set, List.reverse, List.reverseAux]
  generalize hs : n / w = s at *
  generalize hf : n % w = f at *
  have e2n : 2 ^ n = (2 ^ w) ^ s * 2 ^ f := by rw [← Nat.pow_mul, ← Nat.pow_add, Nat.add_comm]; exact congrArg _ eq
  have hP : 0 < 2 ^ f := Nat.two_pow_pos f
  have hPB : 2 ^ f ∣ 2 ^ w := Nat.pow_dvd_pow 2 (by omega)
  have hPl : 2 ^ f ≤ 2 ^ w := Nat.pow_le_pow_right (by omega) (by omega)
  refine X.else (EvT.cmp (Ev.name 3 rfl rfl) (Ev.len 0 rfl P.len (EvSeq.of (Ev.name 0 rfl rfl)) ?_) cmp_ge) (fun h => ?_) (fun h => ?_)
  · rw [iL_lim_length]; omega
  · refine X.ret (EvO.ev (EvO.copy (EvSeq.of (Ev.name 0 rfl rfl)) ?_)) (.inl ?_)
    · rw [iL_lim_length]; omega
    · rw [iL_lim_length] at h
      have hl : nd (2 ^ w) x ≤ s := by simp at h; omega
      have : x < 2 ^ n := by
        refine Nat.lt_of_lt_of_le (nd_lt hB x) (Nat.le_trans (Nat.pow_le_pow_right (by omega) hl) ?_)
        rw [e2n]
        exact Nat.le_mul_of_pos_right _ hP
      rw [Nat.mod_eq_of_lt this]; rfl
  · rw [iL_lim_length] at h
    have hl : s < nd (2 ^ w) x := by simp at h; omega
    have ea := iLl_get (B := 2 ^ w) (z := x) (i := s) hl
    have e1 : dg (2 ^ w) x s = dg (2 ^ w) (x % 2 ^ n) s := dg_congr fun i hi => by
      refine (low_digit x ((2 ^ w) ^ (s - i - 1) * 2 ^ f) ?_).symm
      rw [e2n, ← Nat.mul_assoc, ← Nat.mul_assoc, ← Nat.pow_succ, ← Nat.pow_add]
      congr 2; omega
    refine X.ret (Ev.callG 1 rfl (EvL.cons ((EvO.ev (EvO.cat (EvSeq.of (EvO.ev (EvO.upto (EvSeq.of (Ev.name 0 rfl rfl)) (Ev.name 3 rfl rfl) ?_ ?_))) (EvSeq.of (EvO.ev (EvO.disp (EvL.cons ((Ev.binop (Ev.itemN (EvSeq.of (Ev.name 0 rfl rfl)) (Ev.name 3 rfl rfl) s rfl (by omega) ea) (Ev.binop (Ev.binop Ev.int (Ev.name 4 rfl rfl) (op_shl ?_ ?_ ?_)) Ev.int op_sub) op_and).to (congrArg D.int (mask_nat _ f))) EvL.nil)))) ?_)).to ?_) EvL.nil) hnorm (Nat.le_of_ble_eq_true rfl)) (.inl rfl)
    · omega
    · rw [iL_lim_length]; omega
    · omega
    · omega
    · decide
    · rw [List.length_take, iL_lim_length]
      show _ + 1 ≤ _
      omega
    · rw [iL_take, tw, lim_take (by omega), iL_snoc, e1, ← low_last (P := 2 ^ n) x (2 ^ w) (2 ^ f) e2n hPB hPl hP (rfl : s = s), ← dg_succ]

theorem mul_school_ok (P : Prg W) {w x y : Nat} (hw : 1 ≤ w) (hw' : w ≤ 16) (hx : x < 2 ^ 64) (hy : y < 2 ^ 64) : CallOK W 2 "mul_school" [R (2 ^ w) x, R (2 ^ w) y, .int (w : Int)] (R (2 ^ w) (x * y)) := by
  have hB := pow2_ge hw
  have nx := nd_small hB hx
  have ny := nd_small hB hy
  have hwl : 2 ^ w ≤ 2 ^ 16 := Nat.pow_le_pow_right (by omega) hw'
  have hz : x * y < (2 ^ w) ^ (nd (2 ^ w) x + nd (2 ^ w) y) := by
    rw [Nat.pow_add]
    exact Nat.mul_lt_mul'' (nd_lt hB x) (nd_lt hB y)
  have hnorm := normal_dg P hB hz (by omega)
  refine fn_ok P.f_mul_school ["a", "b", "w"] ["found", "mask", "at", "limb", "carry", "spot", "other"] ["len", "enumerate", "normal"] (fun n => by kernel_rfl) rfl ?_ ?_
  · intro m
    refine all3 fun v1 v2 v3 => ?_
    kernel_rfl
  intro A m L a h₀ av
  refine X.ow 3 [(4, "mask")] (EvO.rep (EvSeq.of (EvO.ev (EvO.disp (EvL.cons Ev.int EvL.nil)))) (Ev.binop (Ev.len 0 rfl P.len (EvSeq.of (Ev.name 0 rfl rfl)) ?_) (Ev.len 0 rfl P.len (EvSeq.of (Ev.name 1 rfl rfl)) ?_) op_add) ?_ ?_) (fun ad => (EvL.cons (Ev.binop (Ev.binop Ev.int (Ev.name 2 rfl rfl) (op_shl (by omega) (by omega) (by decide))) Ev.int op_sub) EvL.nil)) (fun ad => ?_) ⟨⟨rfl, rfl⟩, trivial⟩
  · rw [iL_lim_length]; omega
  · rw [iL_lim_length]; omega
  · rw [iL_lim_length, iL_lim_length]; omega
  · rw [iL_lim_length, iL_lim_length]; omega
  dsimp only [setP, List.set, List.reverse, List.reverseAux]
  rw [iL_lim_length, iL_lim_length, ← Int.natCast_add, tw, iL_zeros]
  generalize hN : nd (2 ^ w) x + nd (2 ^ w) y = N at *
  have hG : ∀ i, (x % (2 ^ w) ^ i) * y < (2 ^ w) ^ (i + nd (2 ^ w) y) := fun i => by
    rw [Nat.pow_add]
    exact Nat.mul_lt_mul'' (Nat.mod_lt _ (Nat.pow_pos (by omega))) (nd_lt hB y)
  refine X.forE 5 6 (fun i ρ => ∃ b1 b2 b3 b4 b5, ρ = [some (.p (R (2 ^ w) x)), some (.p (R (2 ^ w) y)), some (.p (.int (w : Int))), some (.own ad (iL (dg (2 ^ w) (x % (2 ^ w) ^ i * y) N))), some (.p (.int (1 * 2 ^ ((w : Int)).toNat - 1))), b1, b2, b3, b4, b5])
    (EvIt.enum 1 rfl P.enumerate (Ev.name 0 rfl rfl) ?_) ⟨none, none, none, none, none, ?_⟩ (fun i ρ d hi hd hI => ?_) (fun ρ hI => ?_)
  · rw [iL_lim_length]; omega
  · rw [Nat.pow_zero, Nat.mod_one, Nat.zero_mul, dg_ge hB (by rw [nd_zero]; omega), nd_zero, lim_zero]; rfl
  · obtain ⟨b1, b2, b3, b4, b5, rfl⟩ := hI
    rw [iL_lim_length] at hi
    rw [iLl_get hi] at hd
    cases hd
    refine ⟨rfl, rfl, ?_⟩
    dsimp only [List.set]
    generalize hdd : x / (2 ^ w) ^ i % 2 ^ w = dd
    have hddl : dd < 2 ^ w := hdd ▸ Nat.mod_lt _ (by omega)
    have hF := hG i
    have hG1 := hG (i + 1)
    generalize hFF : x % (2 ^ w) ^ i * y = F at *
    have eG : ∀ j, F + dd * (y % (2 ^ w) ^ (j + 1)) * (2 ^ w) ^ i = (F + dd * (y % (2 ^ w) ^ j) * (2 ^ w) ^ i) + dd * (y / (2 ^ w) ^ j % 2 ^ w) * (2 ^ w) ^ (i + j) := fun j => by
      rw [Nat.pow_succ (2 ^ w) j, Nat.mod_mul, Nat.mul_add, Nat.add_mul, Nat.pow_add, Nat.add_assoc]
      congr 2
      simp only [Nat.mul_comm, Nat.mul_left_comm]
    refine X.set 7 Ev.int ?_
    dsimp only [List.set]
    refine X.forE 8 9 (fun j ρ => ∃ b4 b5, ρ = [some (.p (R (2 ^ w) x)), some (.p (R (2 ^ w) y)), some (.p (.int (w : Int))), some (.own ad (iL (mix (2 ^ w) (F + dd * (y % (2 ^ w) ^ j) * (2 ^ w) ^ i) F (i + j) N))), some (.p (.int (1 * 2 ^ ((w : Int)).toNat - 1))), some (.p (.int (i : Int))), some (.p (.int (dd : Int))), some (.p (.int ((mc (2 ^ w) (F + dd * (y % (2 ^ w) ^ j) * (2 ^ w) ^ i) F (i + j) : Nat) : Int))), b4, b5])
      (EvIt.enum 1 rfl P.enumerate (Ev.name 1 rfl rfl) ?_) ⟨b4, b5, ?_⟩ (fun j ρ d hj hd hI => ?_) (fun ρ hI => ?_)
    · rw [iL_lim_length]; omega
    · rw [Nat.pow_zero, Nat.mod_one, Nat.mul_zero, Nat.zero_mul, Nat.add_zero, Nat.add_zero, mix_dg _ _ _ _ _ (fun _ _ _ => rfl)]
      unfold mc
      rw [Nat.sub_self]; rfl
    · obtain ⟨b4, b5, rfl⟩ := hI
      rw [iL_lim_length] at hj
      rw [iLl_get hj] at hd
      cases hd
      refine ⟨rfl, rfl, ?_⟩
      dsimp only [List.set]
      obtain ⟨t1, t2⟩ := mc_turn (B := 2 ^ w) (F + dd * (y % (2 ^ w) ^ j) * (2 ^ w) ^ i) F (dd * (y / (2 ^ w) ^ j % 2 ^ w)) (i + j) hB (Nat.le_add_right _ _)
      rw [← eG] at t1 t2
      have em : (iL (mix (2 ^ w) (F + dd * (y % (2 ^ w) ^ j) * (2 ^ w) ^ i) F (i + j) N))[i + j]? = some (.int ((F / (2 ^ w) ^ (i + j) % 2 ^ w : Nat) : Int)) := iL_get (mix_get (by omega) (Nat.le_refl _))
      refine X.aug 7 (Ev.binop (Ev.itemN (EvSeq.own 3 rfl rfl) (Ev.binop (Ev.name 5 rfl rfl) (Ev.name 8 rfl rfl) op_add) (i + j) rfl (by omega) em) (Ev.binop (Ev.name 6 rfl rfl) (Ev.name 9 rfl rfl) (op_mul (.inl (by omega)))) op_add) iop_add ?_
      rw [← Int.natCast_mul, ← Int.natCast_add, ← Int.natCast_add]
      refine X.put 3 ((Ev.binop (Ev.name 7 rfl rfl) (Ev.name 4 rfl rfl) op_and).to (congrArg D.int (mask_nat _ w))) (Ev.binop (Ev.name 5 rfl rfl) (Ev.name 8 rfl rfl) op_add) (i + j) rfl ?_ ?_ ?_
      · rw [iL_length, mix_length]; omega
      · rw [iL_length, mix_length]; omega
      dsimp only [List.set]
      rw [t1]
      have es : (iL (mix (2 ^ w) (F + dd * (y % (2 ^ w) ^ j) * (2 ^ w) ^ i) F (i + j) N)).set (i + j) (.int (((F + dd * (y % (2 ^ w) ^ (j + 1)) * (2 ^ w) ^ i) / (2 ^ w) ^ (i + j) % 2 ^ w : Nat) : Int)) = iL (mix (2 ^ w) (F + dd * (y % (2 ^ w) ^ (j + 1)) * (2 ^ w) ^ i) F (i + j + 1) N) := by
        rw [← mix_set (G := F + dd * (y % (2 ^ w) ^ j) * (2 ^ w) ^ i) (fun k hk => by rw [eG]; exact ms_low _ _ _ _ hk hB)]
        simp [iL, List.map_set]
      rw [es]
      refine X.aug 7 (Ev.name 2 rfl rfl) (iop_shr (by omega)) (Ex.nil ⟨some (.p (.int (j : Int))), some (.p (.int ((y / (2 ^ w) ^ j % 2 ^ w : Nat) : Int))), ?_⟩)
      dsimp only [List.set]
      rw [shr_nat, t2]; rfl
    · obtain ⟨b4, b5, rfl⟩ := hI
      rw [iL_lim_length, Nat.mod_eq_of_lt (nd_lt hB y)]
      have eGG : F + dd * y * (2 ^ w) ^ i = x % (2 ^ w) ^ (i + 1) * y := by
        rw [Nat.pow_succ, Nat.mod_mul, Nat.add_mul, hFF, hdd]
        congr 1
        simp only [Nat.mul_comm, Nat.mul_left_comm, Nat.mul_assoc]
      rw [eGG]
      generalize hGG : x % (2 ^ w) ^ (i + 1) * y = G at *
      have ec : mc (2 ^ w) G F (i + nd (2 ^ w) y) = G / (2 ^ w) ^ (i + nd (2 ^ w) y) % 2 ^ w := by
        unfold mc
        rw [Nat.div_eq_of_lt hF, Nat.sub_zero, Nat.mod_eq_of_lt]
        rw [Nat.div_lt_iff_lt_mul (Nat.pow_pos (by omega)), ← Nat.pow_succ']
        exact Nat.lt_of_lt_of_le hG1 (Nat.pow_le_pow_right (by omega) (by omega))
      refine X.put 3 (Ev.name 7 rfl rfl) (Ev.binop (Ev.name 5 rfl rfl) (Ev.len 0 rfl P.len (EvSeq.of (Ev.name 1 rfl rfl)) ?_) op_add) (i + nd (2 ^ w) y) ?_ ?_ ?_ (Ex.nil ⟨some (.p (.int (i : Int))), some (.p (.int (dd : Int))), some (.p (.int ((mc (2 ^ w) G F (i + nd (2 ^ w) y) : Nat) : Int))), b4, b5, ?_⟩)
      · rw [iL_lim_length]; omega
      · rw [iL_lim_length, ← Int.natCast_add]
      · rw [iL_length, mix_length]; omega
      · rw [iL_length, mix_length]; omega
      dsimp only [List.set]
      have es : (iL (mix (2 ^ w) G F (i + nd (2 ^ w) y) N)).set (i + nd (2 ^ w) y) (.int ((mc (2 ^ w) G F (i + nd (2 ^ w) y) : Nat) : Int)) = iL (dg (2 ^ w) G N) := by
        rw [← mix_dg (2 ^ w) G F (i + nd (2 ^ w) y + 1) N, ← mix_set (G := G) (fun k hk => rfl), ec]
        · simp [iL, List.map_set]
        · intro k hk hkn
          have e1 : F / (2 ^ w) ^ k = 0 := Nat.div_eq_of_lt (Nat.lt_of_lt_of_le hF (Nat.pow_le_pow_right (by omega) (by omega)))
          have e2 : G / (2 ^ w) ^ k = 0 := Nat.div_eq_of_lt (Nat.lt_of_lt_of_le hG1 (Nat.pow_le_pow_right (by omega) (by omega)))
          rw [e1, e2]
      rw [es]
  · obtain ⟨b1, b2, b3, b4, b5, rfl⟩ := hI
    rw [iL_lim_length, Nat.mod_eq_of_lt (nd_lt hB x)]
    exact Ex.free 3 rfl (X.ret (Ev.callG 2 rfl (EvL.cons (Ev.name 3 rfl rfl) EvL.nil) hnorm (Nat.le_of_ble_eq_true rfl)) (.inl rfl))
end Mine
end
section
open PySem PySem.W PyProof.Rows PySem.Calls
set_option maxRecDepth 10000
set_option maxHeartbeats 2000000
namespace Mine
variable {W : Wd}

theorem X.expr {c : Cx} {ρ : Loc} {rest : List Stmt} {Φ : Out → Prop} {e : Expr} {pos : Pos} {d : D} (h1 : Ev c ρ e d) (h : Ex c ρ rest Φ) (hs : swapsWith e none pos.line c.env = pure false := by rfl) : Ex c ρ (.Expr e pos :: rest) Φ := by
  refine Ex.cons fun s Q E hf F hQ => ?_
  refine wpAny_Expr_any (h1 s _ _ F fun v g t y r => ?_) (by unfold interactive; rw [F.ok.kind]; rfl) hs
  exact hQ .next (.next _) g t h y.pres ⟨rfl, F.ext y, OwnSub.refl _ _⟩

theorem cmpN_ge {x y : Nat} : cmpN x y ≥ 0 ↔ y ≤ x := by
  unfold cmpN; split
  · omega
  · split <;> omega
theorem cmpN_lt {x y : Nat} : cmpN x y < 0 ↔ x < y := by
  unfold cmpN; split
  · omega
  · split <;> omega
/-- the least number that stands for X modulo M -/
noncomputable def rd (M : Nat) (X : Int) : Nat := (X % (M : Int)).toNat
theorem rd_lt {M : Nat} (h : 0 < M) (X : Int) : rd M X < M := by
  unfold rd
  have := Int.emod_lt_of_pos X (show (0 : Int) < M by omega)
  have := Int.emod_nonneg X (show (M : Int) ≠ 0 by omega)
  omega
theorem rd_cast {M : Nat} (h : 0 < M) (X : Int) : (rd M X : Int) = X % (M : Int) := by
  unfold rd
  have := Int.emod_nonneg X (show (M : Int) ≠ 0 by omega)
  omega
theorem rd_is {M : Nat} (h : 0 < M) (X : Int) : ∃ k : Int, X = (rd M X : Int) + (M : Int) * k := ⟨X / M, by
  rw [rd_cast h]; have := Int.emod_add_mul_ediv X (M : Int); omega⟩
theorem rd_eq {M z : Nat} {X k : Int} (hz : z < M) (h : X = (z : Int) + (M : Int) * k) : rd M X = z := by
  unfold rd
  rw [h, Int.add_mul_emod_self_left, Int.emod_eq_of_lt (by omega) (by omega)]; omega
theorem rd_congr {M : Nat} {X Y k : Int} (h : X = Y + (M : Int) * k) : rd M X = rd M Y := by
  unfold rd
  rw [h, Int.add_mul_emod_self_left]
theorem rd_nat {M z : Nat} (hz : z < M) : rd M (z : Int) = z := rd_eq (k := 0) hz (by simp)
noncomputable def Q (w n : Nat) (X : Int) : D := R (2 ^ w) (rd (2 ^ n + 1) X)
theorem Q_congr {w n : Nat} {X Y k : Int} (h : X = Y + ((2 ^ n + 1 : Nat) : Int) * k) : Q w n X = Q w n Y := by
  unfold Q; rw [rd_congr h]

theorem lim_ones {B : Nat} (hB : 2 ≤ B) : D.list [.int 1] = R B 1 := by
  rw [R_def, lim_one hB (by omega) (by omega)]; rfl
theorem M_le {n : Nat} (h : n ≤ 16) : 2 ^ n + 1 ≤ 65537 := by
  have : 2 ^ n ≤ 2 ^ 16 := Nat.pow_le_pow_right (by omega) h
  omega

section
variable (P : Prg W) {w n : Nat} (hw : 1 ≤ w) (hw' : w ≤ 16) (hn : n ≤ 16)
include P hw hw' hn
theorem ring_one_ok : CallOK W 2 "ring_one" [.int (n : Int), .int (w : Int)] (R (2 ^ w) (2 ^ n + 1)) := by
  have hB := pow2_ge hw
  have hM := M_le hn
  have h1 := shift_left_ok P (x := 1) (n := n) hw hw' (by omega) (by omega)
  have h2 := add_ok P (x := 1 * 2 ^ n) (y := 1) hw hw' (by omega) (by omega)
  rw [Nat.one_mul] at h1 h2
  refine fn_ok P.f_ring_one ["n", "w"] [] ["add", "shift_left"] (fun n => by kernel_rfl) rfl ?_ ?_
  · intro m
    refine all2 fun v1 v2 => ?_
    kernel_rfl
  intro A m L a h₀ av
  exact X.ret (Ev.callG 0 rfl (EvL.cons (Ev.callG 1 rfl (EvL.cons ((EvO.ev (EvO.disp (EvL.cons Ev.int EvL.nil))).to (lim_ones hB)) (EvL.cons (Ev.name 0 rfl rfl) (EvL.cons (Ev.name 1 rfl rfl) EvL.nil))) h1 (Nat.le_of_ble_eq_true rfl)) (EvL.cons ((EvO.ev (EvO.disp (EvL.cons Ev.int EvL.nil))).to (lim_ones hB)) (EvL.cons (Ev.name 1 rfl rfl) EvL.nil))) h2 (Nat.le_of_ble_eq_true rfl)) (.inl rfl)

theorem ring_add_ok (U V : Int) : CallOK W 3 "ring_add" [Q w n U, Q w n V, .int (n : Int), .int (w : Int)] (Q w n (U + V)) := by
  have hM := M_le hn
  have hone := ring_one_ok P hw hw' hn
  have hx := rd_lt (M := 2 ^ n + 1) (Nat.succ_pos _) U
  have hy := rd_lt (M := 2 ^ n + 1) (Nat.succ_pos _) V
  obtain ⟨kx, ex⟩ := rd_is (M := 2 ^ n + 1) (Nat.succ_pos _) U
  obtain ⟨ky, ey⟩ := rd_is (M := 2 ^ n + 1) (Nat.succ_pos _) V
  unfold Q
  generalize rd (2 ^ n + 1) U = x at *
  generalize rd (2 ^ n + 1) V = y at *
  have hadd := add_ok P (x := x) (y := y) hw hw' (by omega) (by omega)
  obtain ⟨b, hb, hbits⟩ := bits_ok P (x := x + y) hw hw' (by omega)
  have hcmp := compare_ok P (x := x + y) (y := 2 ^ n + 1) hw (by omega) (by omega)
  have c1 : x + y < 2 ^ n + 1 → rd (2 ^ n + 1) (U + V) = x + y := fun h => rd_eq (k := kx + ky) h (by
    rw [ex, ey, Int.mul_add]; omega)
  have c2 : 2 ^ n + 1 ≤ x + y → rd (2 ^ n + 1) (U + V) = x + y - (2 ^ n + 1) := fun h => rd_eq (k := kx + ky + 1) (by omega) (by
    rw [ex, ey, Int.mul_add, Int.mul_add]; omega)
  refine fn_ok P.f_ring_add ["a", "b", "n", "w"] ["found"] ["add", "bits", "compare", "ring_one", "sub"] (fun n => by kernel_rfl) rfl ?_ ?_
  · intro m
    refine all4 fun v1 v2 v3 v4 => ?_
    kernel_rfl
  intro A m L a h₀ av
  refine X.set 4 (Ev.callG 0 rfl (EvL.cons (Ev.name 0 rfl rfl) (EvL.cons (Ev.name 1 rfl rfl) (EvL.cons (Ev.name 3 rfl rfl) EvL.nil))) hadd (Nat.le_of_ble_eq_true rfl)) ?_
  refine X.ret (Ev.ite (EvT.and (EvT.cmp (Ev.callG 1 rfl (EvL.cons (Ev.name 4 rfl rfl) (EvL.cons (Ev.name 3 rfl rfl) EvL.nil)) hbits (Nat.le_of_ble_eq_true rfl)) (Ev.name 2 rfl rfl) cmp_gt) fun h => (EvT.cmp (Ev.callG 2 rfl (EvL.cons (Ev.name 4 rfl rfl) (EvL.cons (Ev.callG 3 rfl (EvL.cons (Ev.name 2 rfl rfl) (EvL.cons (Ev.name 3 rfl rfl) EvL.nil)) hone (Nat.le_of_ble_eq_true rfl)) EvL.nil)) hcmp (Nat.le_of_ble_eq_true rfl)) Ev.int cmp_ge)) (fun h => ?_) (fun h => (Ev.name 4 rfl rfl).to ?_)) (.inl rfl)
  · have hge : 2 ^ n + 1 ≤ x + y := by
      simp only [Bool.and_eq_true, decide_eq_true_eq, cmpN_ge] at h
      exact h.2
    rw [c2 hge]
    exact Ev.callG 4 rfl (EvL.cons (Ev.name 4 rfl rfl) (EvL.cons (Ev.callG 3 rfl (EvL.cons (Ev.name 2 rfl rfl) (EvL.cons (Ev.name 3 rfl rfl) EvL.nil)) hone (Nat.le_of_ble_eq_true rfl)) (EvL.cons (Ev.name 3 rfl rfl) EvL.nil))) (sub_ok P hw hw' (by omega) hge) (Nat.le_of_ble_eq_true rfl)
  · rw [c1]
    rcases Nat.lt_or_ge (x + y) (2 ^ n + 1) with q | q
    · exact q
    · simp only [Bool.and_eq_false_iff, decide_eq_false_iff_not, cmpN_ge] at h
      rcases h with h | h
      · have : b ≤ n := by omega
        have := Nat.pow_le_pow_right (n := 2) (by omega) this
        omega
      · omega

theorem ring_sub_ok (U V : Int) : CallOK W 3 "ring_sub" [Q w n U, Q w n V, .int (n : Int), .int (w : Int)] (Q w n (U - V)) := by
  have hM := M_le hn
  have hone := ring_one_ok P hw hw' hn
  have hx := rd_lt (M := 2 ^ n + 1) (Nat.succ_pos _) U
  have hy := rd_lt (M := 2 ^ n + 1) (Nat.succ_pos _) V
  obtain ⟨kx, ex⟩ := rd_is (M := 2 ^ n + 1) (Nat.succ_pos _) U
  obtain ⟨ky, ey⟩ := rd_is (M := 2 ^ n + 1) (Nat.succ_pos _) V
  unfold Q
  generalize rd (2 ^ n + 1) U = x at *
  generalize rd (2 ^ n + 1) V = y at *
  have hadd := add_ok P (x := x) (y := 2 ^ n + 1) hw hw' (by omega) (by omega)
  have hcmp := compare_ok P (x := x) (y := y) hw (by omega) (by omega)
  have c1 : y ≤ x → rd (2 ^ n + 1) (U - V) = x - y := fun h => rd_eq (k := kx - ky) (by omega) (by
    rw [ex, ey, Int.mul_sub]; omega)
  have c2 : x < y → rd (2 ^ n + 1) (U - V) = x + (2 ^ n + 1) - y := fun h => rd_eq (k := kx - ky - 1) (by omega) (by
    rw [ex, ey, Int.mul_sub, Int.mul_sub]; omega)
  refine fn_ok P.f_ring_sub ["a", "b", "n", "w"] [] ["compare", "sub", "add", "ring_one"] (fun n => by kernel_rfl) rfl ?_ ?_
  · intro m
    refine all4 fun v1 v2 v3 v4 => ?_
    kernel_rfl
  intro A m L a h₀ av
  refine X.else (EvT.cmp (Ev.callG 0 rfl (EvL.cons (Ev.name 0 rfl rfl) (EvL.cons (Ev.name 1 rfl rfl) EvL.nil)) hcmp (Nat.le_of_ble_eq_true rfl)) Ev.int cmp_ge) (fun h => ?_) (fun h => ?_)
  · have hge : y ≤ x := by
      simp only [decide_eq_true_eq, cmpN_ge] at h
      exact h
    rw [c1 hge]
    exact X.ret (Ev.callG 1 rfl (EvL.cons (Ev.name 0 rfl rfl) (EvL.cons (Ev.name 1 rfl rfl) (EvL.cons (Ev.name 3 rfl rfl) EvL.nil))) (sub_ok P hw hw' (by omega) hge) (Nat.le_of_ble_eq_true rfl)) (.inl rfl)
  · have hlt : x < y := by
      simp only [decide_eq_false_iff_not, cmpN_ge] at h
      omega
    rw [c2 hlt]
    exact X.ret (Ev.callG 1 rfl (EvL.cons (Ev.callG 2 rfl (EvL.cons (Ev.name 0 rfl rfl) (EvL.cons (Ev.callG 3 rfl (EvL.cons (Ev.name 2 rfl rfl) (EvL.cons (Ev.name 3 rfl rfl) EvL.nil)) hone (Nat.le_of_ble_eq_true rfl)) (EvL.cons (Ev.name 3 rfl rfl) EvL.nil))) hadd (Nat.le_of_ble_eq_true rfl)) (EvL.cons (Ev.name 1 rfl rfl) (EvL.cons (Ev.name 3 rfl rfl) EvL.nil))) (sub_ok P hw hw' (by omega) (by omega)) (Nat.le_of_ble_eq_true rfl)) (.inl rfl)

theorem ring_neg_ok (U : Int) : CallOK W 3 "ring_neg" [Q w n U, .int (n : Int), .int (w : Int)] (Q w n (-U)) := by
  have hB := pow2_ge hw
  have hM := M_le hn
  have hone := ring_one_ok P hw hw' hn
  have hx := rd_lt (M := 2 ^ n + 1) (Nat.succ_pos _) U
  obtain ⟨kx, ex⟩ := rd_is (M := 2 ^ n + 1) (Nat.succ_pos _) U
  unfold Q
  generalize rd (2 ^ n + 1) U = x at *
  have nx := nd_small (z := x) hB (by omega)
  have c1 : 0 < x → rd (2 ^ n + 1) (-U) = 2 ^ n + 1 - x := fun h => rd_eq (k := -kx - 1) (by omega) (by
    rw [ex, Int.mul_sub, Int.mul_neg]; omega)
  have c2 : x = 0 → rd (2 ^ n + 1) (-U) = 0 := fun h => rd_eq (k := -kx) (by omega) (by
    rw [ex, Int.mul_neg]; omega)
  refine fn_ok P.f_ring_neg ["a", "n", "w"] [] ["len", "sub", "ring_one"] (fun n => by kernel_rfl) rfl ?_ ?_
  · intro m
    refine all3 fun v1 v2 v3 => ?_
    kernel_rfl
  intro A m L a h₀ av
  refine X.ret (Ev.ite (EvT.cmp (Ev.len 0 rfl P.len (EvSeq.of (Ev.name 0 rfl rfl)) ?_) Ev.int cmp_gt) (fun h => ?_) (fun h => ((EvO.ev (EvO.disp EvL.nil))).to ?_)) (.inl rfl)
  · rw [iL_lim_length]; omega
  · rw [iL_lim_length] at h
    have : 0 < x := by
      rcases Nat.eq_zero_or_pos x with q | q
      · rw [q, nd_zero] at h; simp at h
      · exact q
    rw [c1 this]
    exact Ev.callG 1 rfl (EvL.cons (Ev.callG 2 rfl (EvL.cons (Ev.name 1 rfl rfl) (EvL.cons (Ev.name 2 rfl rfl) EvL.nil)) hone (Nat.le_of_ble_eq_true rfl)) (EvL.cons (Ev.name 0 rfl rfl) (EvL.cons (Ev.name 2 rfl rfl) EvL.nil))) (sub_ok P hw hw' (by omega) (by omega)) (Nat.le_of_ble_eq_true rfl)
  · rw [iL_lim_length] at h
    have : nd (2 ^ w) x = 0 := by simp at h; omega
    rw [nd_eq_zero hB] at this
    rw [c2 this, R_def, lim_zero]; rfl
omit hw hw' hn in
theorem need_ring_ok {n : Nat} (h1 : 1 ≤ n) : CallOK W 1 "need_ring" [.int (n : Int)] .none := by
  refine fn_ok P.f_need_ring ["n"] [] ["OutOfRange"] (fun n => by kernel_rfl) rfl ?_ ?_
  · intro m
    refine all1 fun v1 => ?_
    kernel_rfl
  intro A m L a h₀ av
  refine X.no ((EvT.cmp (Ev.name 0 rfl rfl) Ev.int cmp_lt).to ?_) (Ex.nil (.inr ⟨rfl, _, rfl⟩))
  simp; omega
end
end Mine
end
section
open PySem PySem.W PyProof.Rows PySem.Calls
set_option maxRecDepth 10000
set_option maxHeartbeats 2000000
namespace Mine
variable {W : Wd}

noncomputable def sg (b : Bool) : Int := if b then -1 else 1
theorem sg_not (b : Bool) : sg (!b) = - sg b := by cases b <;> rfl
theorem Q_zero (w n : Nat) : D.list [] = Q w n 0 := by
  unfold Q
  rw [show rd (2 ^ n + 1) 0 = 0 from rd_eq (k := 0) (Nat.succ_pos _) (by simp), R_def, lim_zero]; rfl
theorem pow_emod_neg (n : Nat) (i : Nat) : ∃ k : Int, (2 : Int) ^ (n + i) = - 2 ^ i + ((2 ^ n + 1 : Nat) : Int) * k := ⟨2 ^ i, by
  rw [Int.pow_add]
  have : ((2 ^ n + 1 : Nat) : Int) = 2 ^ n + 1 := by simp
  rw [this, Int.add_mul]; omega⟩
/-- how far a turn goes -/
noncomputable def tn (n : Nat) (k : Int) : Nat := (k % ((2 * n : Nat) : Int)).toNat

section
variable (P : Prg W) {w n : Nat} (hw : 1 ≤ w) (hw' : w ≤ 16) (hn1 : 1 ≤ n) (hn : n ≤ 16)
include P hw hw' hn1 hn
theorem ring_fold_ok {x : Nat} (hx : x < 2 ^ 64) : CallOK W 4 "ring_fold" [R (2 ^ w) x, .int (n : Int), .int (w : Int)] (Q w n (x : Int)) := by
  have hB := pow2_ge hw
  have hneed := need_ring_ok P hn1
  refine fn_ok P.f_ring_fold ["a", "n", "w"] ["found", "is_minus", "part"] ["need_ring", "len", "low", "ring_sub", "ring_add", "shift_right"] (fun n => by kernel_rfl) rfl ?_ ?_
  · intro m
    refine all3 fun v1 v2 v3 => ?_
    kernel_rfl
  intro A m L a h₀ av
  refine X.expr (Ev.callG 0 rfl (EvL.cons (Ev.name 1 rfl rfl) EvL.nil) hneed (Nat.le_of_ble_eq_true rfl)) ?_
  refine X.tupW [(3, "found"), (4, "is_minus")] (Ev.tup (EvL.cons ((EvO.ev (EvO.disp EvL.nil)).to (Q_zero w n)) (EvL.cons Ev.bool EvL.nil))) ?_ ⟨⟨rfl, rfl⟩, ⟨rfl, rfl⟩, trivial⟩
  dsimp only [setP, List.set, List.reverse, List.reverseAux]
  refine X.while (fun z ρ => z < 2 ^ 64 ∧ ∃ (F k : Int) (s : Bool) (b : Option B), (x : Int) = F + sg s * z + ((2 ^ n + 1 : Nat) : Int) * k ∧ ρ = [some (.p (R (2 ^ w) z)), some (.p (.int (n : Int))), some (.p (.int (w : Int))), some (.p (Q w n F)), some (.p (.bool s)), b]) x
    ⟨hx, 0, 0, false, none, by simp [sg], rfl⟩ fun z ρ hI => ?_
  obtain ⟨hz, F, k, s, b, hF, rfl⟩ := hI
  have nz := nd_small hB hz
  refine ⟨_, (EvT.cmp (Ev.len 1 rfl P.len (EvSeq.of (Ev.name 0 rfl rfl)) (by rw [iL_lim_length]; omega)) Ev.int cmp_gt), fun h => ?_, fun h => ?_⟩
  · have hz0 : 0 < z := by
      rw [iL_lim_length] at h
      rcases Nat.eq_zero_or_pos z with q | q
      · rw [q, nd_zero] at h; simp at h
      · exact q
    have hlow := low_ok P (x := z) (n := n) hw hw' hz (by omega)
    have hsr := shift_right_ok P (x := z) (n := n) hw hw' hz (by omega)
    have hpart : R (2 ^ w) (z % 2 ^ n) = Q w n ((z % 2 ^ n : Nat) : Int) := by
      unfold Q
      rw [rd_nat (Nat.lt_succ_of_lt (Nat.mod_lt _ (Nat.two_pow_pos n)))]
    rw [hpart] at hlow
    have hsplit := Nat.mod_add_div z (2 ^ n)
    refine X.set 5 (Ev.callG 2 rfl (EvL.cons (Ev.name 0 rfl rfl) (EvL.cons (Ev.name 1 rfl rfl) (EvL.cons (Ev.name 2 rfl rfl) EvL.nil))) hlow (Nat.le_of_ble_eq_true rfl)) ?_
    dsimp only [List.set]
    refine X.set 3 (d := Q w n (F + sg s * ((z % 2 ^ n : Nat) : Int))) (Ev.ite (EvT.val (Ev.name 4 rfl rfl)) (fun h => ?_) (fun h => ?_)) ?_
    · have e : F + sg s * ((z % 2 ^ n : Nat) : Int) = F - ((z % 2 ^ n : Nat) : Int) := by rw [h]; show F + (-1) * _ = _; omega
      rw [e]
      exact Ev.callG 3 rfl (EvL.cons (Ev.name 3 rfl rfl) (EvL.cons (Ev.name 5 rfl rfl) (EvL.cons (Ev.name 1 rfl rfl) (EvL.cons (Ev.name 2 rfl rfl) EvL.nil)))) (ring_sub_ok P hw hw' hn _ _) (Nat.le_of_ble_eq_true rfl)
    · have e : F + sg s * ((z % 2 ^ n : Nat) : Int) = F + ((z % 2 ^ n : Nat) : Int) := by rw [h]; show F + 1 * _ = _; omega
      rw [e]
      exact Ev.callG 4 rfl (EvL.cons (Ev.name 3 rfl rfl) (EvL.cons (Ev.name 5 rfl rfl) (EvL.cons (Ev.name 1 rfl rfl) (EvL.cons (Ev.name 2 rfl rfl) EvL.nil)))) (ring_add_ok P hw hw' hn _ _) (Nat.le_of_ble_eq_true rfl)
    dsimp only [List.set]
    refine X.set 0 (Ev.callG 5 rfl (EvL.cons (Ev.name 0 rfl rfl) (EvL.cons (Ev.name 1 rfl rfl) (EvL.cons (Ev.name 2 rfl rfl) EvL.nil))) hsr (Nat.le_of_ble_eq_true rfl)) ?_
    dsimp only [List.set]
    refine X.set 4 (Ev.not (Ev.name 4 rfl rfl)) (Ex.nil ⟨z / 2 ^ n, Nat.div_lt_self hz0 (by
      have := Nat.pow_le_pow_right (n := 2) (by omega) hn1; omega), Nat.lt_of_le_of_lt (Nat.div_le_self _ _) hz, F + sg s * ((z % 2 ^ n : Nat) : Int), k + sg s * ((z / 2 ^ n : Nat) : Int), !s, some (.p (Q w n ((z % 2 ^ n : Nat) : Int))), ?_, rfl⟩)
    rw [hF, sg_not]
    have hM : ((2 ^ n + 1 : Nat) : Int) = ((2 ^ n : Nat) : Int) + 1 := by omega
    have hz' : (z : Int) = ((z % 2 ^ n : Nat) : Int) + ((2 ^ n : Nat) : Int) * ((z / 2 ^ n : Nat) : Int) := by
      rw [← Int.natCast_mul, ← Int.natCast_add, hsplit]
    rw [hM]
    generalize ((z % 2 ^ n : Nat) : Int) = r at *
    generalize ((z / 2 ^ n : Nat) : Int) = q at *
    generalize ((2 ^ n : Nat) : Int) = M at *
    rw [hz']
    simp only [Int.mul_add, Int.add_mul, Int.neg_mul, Int.one_mul]
    rw [Int.mul_left_comm (sg s) M q]
    omega
  · rw [iL_lim_length] at h
    have : nd (2 ^ w) z = 0 := by simp at h; omega
    rw [nd_eq_zero hB] at this
    subst this
    rw [Q_congr (X := (x : Int)) (Y := F) (k := k) (by rw [hF]; simp)]
    exact X.ret (Ev.name 3 rfl rfl) (.inl rfl)

theorem ring_shift_base {U k : Int} (hk : tn n k < n) : CallOK W 5 "ring_shift" [Q w n U, .int k, .int (n : Int), .int (w : Int)] (Q w n (U * 2 ^ tn n k)) := by
  have hneed := need_ring_ok P hn1
  have hM := M_le hn
  have hx := rd_lt (M := 2 ^ n + 1) (Nat.succ_pos _) U
  obtain ⟨c, ec⟩ := rd_is (M := 2 ^ n + 1) (Nat.succ_pos _) U
  have ek : k % (2 * (n : Int)) = ((tn n k : Nat) : Int) := by
    unfold tn
    have := Int.emod_nonneg k (show (2 * (n : Int)) ≠ 0 by omega)
    have e : ((2 * n : Nat) : Int) = 2 * (n : Int) := by omega
    rw [e]; omega
  have eQ : Q w n U = R (2 ^ w) (rd (2 ^ n + 1) U) := rfl
  rw [eQ]
  have eU : Q w n (U * 2 ^ tn n k) = Q w n ((rd (2 ^ n + 1) U * 2 ^ tn n k : Nat) : Int) := by
    refine Q_congr (k := c * 2 ^ tn n k) ?_
    conv => lhs; rw [ec]
    rw [Int.add_mul, Int.mul_assoc]
    simp
  rw [eU]
  generalize rd (2 ^ n + 1) U = x at *
  generalize tn n k = t at *
  have hpt : 2 ^ t ≤ 2 ^ 16 := Nat.pow_le_pow_right (by omega) (by omega)
  have hxt : x * 2 ^ t ≤ 65537 * 2 ^ 16 := Nat.mul_le_mul (by omega) hpt
  have hsl := shift_left_ok P (x := x) (n := t) hw hw' (by omega) (by omega)
  have hfold := ring_fold_ok P hw hw' hn1 hn (x := x * 2 ^ t) (by omega)
  refine fn_ok P.f_ring_shift ["a", "k", "n", "w"] [] ["need_ring", "ring_neg", "ring_shift", "ring_fold", "shift_left"] (fun n => by kernel_rfl) rfl ?_ ?_
  · intro m
    refine all4 fun v1 v2 v3 v4 => ?_
    kernel_rfl
  intro A m L a h₀ av
  refine X.expr (Ev.callG 0 rfl (EvL.cons (Ev.name 2 rfl rfl) EvL.nil) hneed (Nat.le_of_ble_eq_true rfl)) ?_
  refine X.set 1 ((Ev.binop (Ev.name 1 rfl rfl) (Ev.binop Ev.int (Ev.name 2 rfl rfl) (op_mul (.inl (by decide)))) (op_mod (by omega))).to (congrArg D.int ek)) ?_
  refine X.no ((EvT.cmp (Ev.name 1 rfl rfl) (Ev.name 2 rfl rfl) cmp_ge).to (decide_eq_false (by omega))) ?_
  exact X.ret (Ev.callG 3 rfl (EvL.cons (Ev.callG 4 rfl (EvL.cons (Ev.name 0 rfl rfl) (EvL.cons (Ev.name 1 rfl rfl) (EvL.cons (Ev.name 3 rfl rfl) EvL.nil))) hsl (Nat.le_of_ble_eq_true rfl)) (EvL.cons (Ev.name 2 rfl rfl) (EvL.cons (Ev.name 3 rfl rfl) EvL.nil))) hfold (Nat.le_of_ble_eq_true rfl)) (.inl rfl)

omit P hw hw' hn in
theorem tn_small {t : Nat} (ht : t < 2 * n) : tn n (t : Int) = t := by
  unfold tn
  rw [Int.emod_eq_of_lt (by omega) (by omega)]; omega

theorem ring_shift_ok (U k : Int) : CallOK W 6 "ring_shift" [Q w n U, .int k, .int (n : Int), .int (w : Int)] (Q w n (U * 2 ^ tn n k)) := by
  have hneed := need_ring_ok P hn1
  have ek : k % (2 * (n : Int)) = ((tn n k : Nat) : Int) := by
    unfold tn
    have := Int.emod_nonneg k (show (2 * (n : Int)) ≠ 0 by omega)
    have e : ((2 * n : Nat) : Int) = 2 * (n : Int) := by omega
    rw [e]; omega
  have hlt : tn n k < 2 * n := by
    have := Int.emod_lt_of_pos k (show (0 : Int) < 2 * (n : Int) by omega)
    omega
  have hbase : ∀ t : Nat, t < n → CallOK W 5 "ring_shift" [Q w n U, .int (t : Int), .int (n : Int), .int (w : Int)] (Q w n (U * 2 ^ t)) := fun t ht => by
    have := ring_shift_base P hw hw' hn1 hn (U := U) (k := (t : Int)) (by rw [tn_small hn1 (by omega)]; exact ht)
    rwa [tn_small hn1 (by omega)] at this
  have hM := M_le hn
  rcases Nat.lt_or_ge (tn n k) n with q | q
  · obtain ⟨a, o, fd, h1, h2, h3, h4⟩ := ring_shift_base P hw hw' hn1 hn (U := U) q
    exact ⟨a, o, fd, h1, h2, h3, fun A s vs av Q E r => h4 A s vs av Q E (r.le (by omega))⟩
  · obtain ⟨i, hi⟩ : ∃ i, tn n k = n + i := ⟨tn n k - n, by omega⟩
    have hneg := ring_neg_ok P hw hw' hn (U * 2 ^ i)
    have eU : Q w n (U * 2 ^ tn n k) = Q w n (-(U * 2 ^ i)) := by
      obtain ⟨c, hc⟩ := pow_emod_neg n i
      rw [hi, hc]
      refine Q_congr (k := U * c) ?_
      rw [Int.mul_add, Int.mul_neg, Int.mul_left_comm]
    rw [eU]
    refine fn_ok P.f_ring_shift ["a", "k", "n", "w"] [] ["need_ring", "ring_neg", "ring_shift", "ring_fold", "shift_left"] (fun n => by kernel_rfl) rfl ?_ ?_
    · intro m
      refine all4 fun v1 v2 v3 v4 => ?_
      kernel_rfl
    intro A m L a h₀ av
    refine X.expr (Ev.callG 0 rfl (EvL.cons (Ev.name 2 rfl rfl) EvL.nil) hneed (Nat.le_of_ble_eq_true rfl)) ?_
    refine X.set 1 ((Ev.binop (Ev.name 1 rfl rfl) (Ev.binop Ev.int (Ev.name 2 rfl rfl) (op_mul (.inl (by decide)))) (op_mod (by omega))).to (congrArg D.int ek)) ?_
    refine X.else (EvT.cmp (Ev.name 1 rfl rfl) (Ev.name 2 rfl rfl) cmp_ge) (fun h => ?_) (fun h => ?_)
    · exact X.ret (Ev.callG 1 rfl (EvL.cons (Ev.callG 2 rfl (EvL.cons (Ev.name 0 rfl rfl) (EvL.cons ((Ev.binop (Ev.name 1 rfl rfl) (Ev.name 2 rfl rfl) op_sub).to (congrArg D.int (show ((tn n k : Nat) : Int) - (n : Int) = (i : Int) by omega))) (EvL.cons (Ev.name 2 rfl rfl) (EvL.cons (Ev.name 3 rfl rfl) EvL.nil)))) (hbase i (by omega)) (Nat.le_of_ble_eq_true rfl)) (EvL.cons (Ev.name 2 rfl rfl) (EvL.cons (Ev.name 3 rfl rfl) EvL.nil))) hneg (Nat.le_of_ble_eq_true rfl)) (.inl rfl)
    · simp at h; omega

theorem ring_mul_ok (U V : Int) : CallOK W 5 "ring_mul" [Q w n U, Q w n V, .int (n : Int), .int (w : Int), .fn "mul_school"] (Q w n (U * V)) := by
  have hM := M_le hn
  have hx := rd_lt (M := 2 ^ n + 1) (Nat.succ_pos _) U
  obtain ⟨c, ec⟩ := rd_is (M := 2 ^ n + 1) (Nat.succ_pos _) U
  have hy := rd_lt (M := 2 ^ n + 1) (Nat.succ_pos _) V
  obtain ⟨e, ee⟩ := rd_is (M := 2 ^ n + 1) (Nat.succ_pos _) V
  have eQ : ∀ z, Q w n z = R (2 ^ w) (rd (2 ^ n + 1) z) := fun _ => rfl
  rw [eQ U, eQ V]
  have eU : Q w n (U * V) = Q w n ((rd (2 ^ n + 1) U * rd (2 ^ n + 1) V : Nat) : Int) := by
    generalize rd (2 ^ n + 1) U = x at *
    generalize rd (2 ^ n + 1) V = y at *
    refine Q_congr (k := c * V + x * e) ?_
    generalize ((2 ^ n + 1 : Nat) : Int) = M at *
    rw [Int.natCast_mul]
    conv => lhs; rw [ec, Int.add_mul]
    conv => lhs; lhs; rw [ee, Int.mul_add]
    rw [Int.mul_add, Int.mul_assoc, Int.mul_left_comm (x : Int) M e]
    omega
  rw [eU]
  generalize rd (2 ^ n + 1) U = x at *
  generalize rd (2 ^ n + 1) V = y at *
  have hxy : x * y ≤ 65537 * 65537 := Nat.mul_le_mul (by omega) (by omega)
  have hmul := mul_school_ok P (x := x) (y := y) hw hw' (by omega) (by omega)
  have hfold := ring_fold_ok P hw hw' hn1 hn (x := x * y) (by omega)
  refine fn_ok P.f_ring_mul ["a", "b", "n", "w", "mul"] [] ["ring_fold"] (fun n => by kernel_rfl) rfl ?_ ?_
  · intro m
    refine all5 fun v1 v2 v3 v4 v5 => ?_
    kernel_rfl
  intro A m L a h₀ av
  exact X.ret (Ev.callG 0 rfl (EvL.cons (Ev.call (Ev.name 4 rfl rfl) (EvL.cons (Ev.name 0 rfl rfl) (EvL.cons (Ev.name 1 rfl rfl) (EvL.cons (Ev.name 3 rfl rfl) EvL.nil))) hmul (Nat.le_of_ble_eq_true rfl)) (EvL.cons (Ev.name 2 rfl rfl) (EvL.cons (Ev.name 3 rfl rfl) EvL.nil))) hfold (Nat.le_of_ble_eq_true rfl)) (.inl rfl)
end
end Mine
end
section
open PySem PySem.W PyProof.Rows PySem.Calls
set_option maxRecDepth 10000
set_option maxHeartbeats 2000000
namespace Mine
variable {W : Wd}

noncomputable def qL (w n : Nat) (l : List Int) : List D := l.map (Q w n)
theorem qL_length (w n : Nat) (l : List Int) : (qL w n l).length = l.length := by simp [qL]
theorem qL_get {w n i : Nat} {l : List Int} (h : i < l.length) : (qL w n l)[i]? = some (Q w n (l.getD i 0)) := by
  unfold qL
  rw [List.getElem?_map, List.getElem?_eq_getElem h, List.getD_eq_getElem?_getD, List.getElem?_eq_getElem h]; rfl
theorem qL_set (w n i : Nat) (l : List Int) (x : Int) : (qL w n l).set i (Q w n x) = qL w n (l.set i x) := by
  simp [qL, List.map_set]
noncomputable def wt (n : Nat) (st : Int) (l : List Int) : List Int := (List.range l.length).map fun i => l.getD i 0 * 2 ^ tn n (st * (i : Int))
theorem qL_wt {w n i : Nat} {st : Int} {l : List Int} {d : D} (h : (qL w n (wt n st l))[i]? = some d) : i < l.length ∧ d = Q w n (l.getD i 0 * 2 ^ tn n (st * (i : Int))) := by
  unfold qL wt at h
  rw [List.map_map, List.getElem?_map] at h
  rcases Nat.lt_or_ge i l.length with q | q
  · rw [List.getElem?_range q] at h
    exact ⟨q, by cases h; rfl⟩
  · rw [List.getElem?_eq_none (by simpa using q)] at h; cases h

section
variable (P : Prg W) {w n : Nat} (hw : 1 ≤ w) (hw' : w ≤ 16) (hn1 : 1 ≤ n) (hn : n ≤ 16)
include P hw hw' hn1 hn
theorem weighted_ok (l : List Int) (st : Int) (hl : l.length ≤ 100) : CallOK W 7 "weighted" [.list (qL w n l), .int st, .int (n : Int), .int (w : Int)] (.list (qL w n (wt n st l))) := by
  refine fn_ok P.f_weighted ["row", "step", "n", "w"] [] ["enumerate"] (fun n => by kernel_rfl) rfl ?_ ?_
  · intro m
    refine all4 fun v1 v2 v3 v4 => ?_
    kernel_rfl
  intro A m L a h₀ av
  refine X.ret (EvO.ev (EvO.c2 "at" "one" ["step", "n", "w"] ["ring_shift"] [(1, .int st), (2, .int (n : Int)), (3, .int (w : Int))] (EvIt.enum 0 rfl P.enumerate (Ev.name 0 rfl rfl) ?_) ?_ (fun i ds d hi hd => ?_) rfl ⟨⟨rfl, rfl, rfl, rfl, rfl⟩, ⟨rfl, rfl, rfl, rfl, rfl⟩, ⟨rfl, rfl, rfl, rfl, rfl⟩, trivial⟩)) (.inl rfl)
  · rw [qL_length]; omega
  · rw [enums_length, qL_length, qL_length]; simp [wt]
  · obtain ⟨u, hu, rfl⟩ := enums_at hi
    obtain ⟨hil, rfl⟩ := qL_wt hd
    rw [qL_get hil] at hu
    cases hu
    refine ⟨_, _, rfl, fun cl C av => ?_⟩
    exact Ev.callG 0 rfl (EvL.cons (Ev.name 1 rfl rfl) (EvL.cons (Ev.binop (Ev.name 2 rfl rfl) (Ev.name 0 rfl rfl) (op_mul (.inr (by omega)))) (EvL.cons (Ev.name 3 rfl rfl) (EvL.cons (Ev.name 4 rfl rfl) EvL.nil)))) (ring_shift_ok P hw hw' hn1 hn _ _) (Nat.le_of_ble_eq_true rfl)
end
end Mine
end
section
open PySem PySem.W PyProof.Rows PySem.Calls
set_option maxRecDepth 10000
set_option maxHeartbeats 2000000
namespace Mine
variable {W : Wd}

noncomputable def fS (n h : Nat) (st : Int) (b i : Nat) (l : List Int) : List Int :=
  (l.set (b + i) (l.getD (b + i) 0 + l.getD (b + h + i) 0)).set (b + h + i) ((l.getD (b + i) 0 - l.getD (b + h + i) 0) * 2 ^ tn n (st * (i : Int)))
noncomputable def fA (n h : Nat) (st : Int) (b : Nat) : Nat → List Int → List Int
  | 0, l => l
  | i + 1, l => fS n h st b i (fA n h st b i l)
noncomputable def fB (n h : Nat) (st : Int) : Nat → List Int → List Int
  | 0, l => l
  | j + 1, l => fA n h st (2 * h * j) h (fB n h st j l)
theorem fA_length (n h : Nat) (st : Int) (b : Nat) (l : List Int) : ∀ i, (fA n h st b i l).length = l.length
  | 0 => rfl
  | i + 1 => by rw [fA, fS, List.length_set, List.length_set, fA_length n h st b l i]
theorem fB_length (n h : Nat) (st : Int) (l : List Int) : ∀ j, (fB n h st j l).length = l.length
  | 0 => rfl
  | j + 1 => by rw [fB, fA_length, fB_length n h st l j]
noncomputable def bS (n h : Nat) (st : Int) (b i : Nat) (l : List Int) : List Int :=
  (l.set (b + i) (l.getD (b + i) 0 + l.getD (b + h + i) 0 * 2 ^ tn n (-st * (i : Int)))).set (b + h + i) (l.getD (b + i) 0 - l.getD (b + h + i) 0 * 2 ^ tn n (-st * (i : Int)))
noncomputable def bA (n h : Nat) (st : Int) (b : Nat) : Nat → List Int → List Int
  | 0, l => l
  | i + 1, l => bS n h st b i (bA n h st b i l)
noncomputable def bB (n h : Nat) (st : Int) : Nat → List Int → List Int
  | 0, l => l
  | j + 1, l => bA n h st (2 * h * j) h (bB n h st j l)
theorem bA_length (n h : Nat) (st : Int) (b : Nat) (l : List Int) : ∀ i, (bA n h st b i l).length = l.length
  | 0 => rfl
  | i + 1 => by rw [bA, bS, List.length_set, List.length_set, bA_length n h st b l i]
theorem bB_length (n h : Nat) (st : Int) (l : List Int) : ∀ j, (bB n h st j l).length = l.length
  | 0 => rfl
  | j + 1 => by rw [bB, bA_length, bB_length n h st l j]
/-- a round of the loop over the beginnings -/
structure Round (len h N : Nat) : Prop where
  size : Builtin.Range.rangeSize 0 (len : Int) (2 * (h : Int)) = (N : Int)
  small : Builtin.Range.small 0 (len : Int) (2 * (h : Int)) = true
  whole : len = 2 * h * N
  le : h ≤ 100
  leN : N ≤ 100
theorem Round.in {len h N j : Nat} (r : Round len h N) (hj : j < N) : 2 * h * j + 2 * h ≤ len := by
  have := Nat.mul_le_mul_left (2 * h) hj
  rw [Nat.mul_succ] at this
  rw [r.whole]; exact this

section
variable (P : Prg W) {w n : Nat} (hw : 1 ≤ w) (hw' : w ≤ 16) (hn1 : 1 ≤ n) (hn : n ≤ 16)
include P hw hw' hn1 hn
theorem forward_rings_walk (l₀ res : List Int) (h0 : 0 < l₀.length) (hlen : l₀.length ≤ 100) (G : Nat → Int → List Int → Prop)
    (g0 : G (l₀.length / 2) (2 * (n : Int) / (l₀.length : Int)) l₀)
    (gs : ∀ h st l, 0 < h → G h st l → l.length = l₀.length ∧ ∃ N, Round l₀.length h N ∧ G (h / 2) (2 * st) (fB n h st N l))
    (ge : ∀ st l, G 0 st l → l = res) : CallOK W 7 "forward_rings" [.list (qL w n l₀), .int (n : Int), .int (w : Int)] (.list (qL w n res)) := by
  refine fn_ok P.f_forward_rings ["row", "n", "w"] ["found", "half", "step", "begin", "at", "one", "other"] ["len", "range", "ring_add", "ring_shift", "ring_sub"] (fun n => by kernel_rfl) rfl ?_ ?_
  · intro m
    refine all3 fun v1 v2 v3 => ?_
    kernel_rfl
  intro A m L a h₀ av
  refine X.ow 3 [(4, "half"), (5, "step")] (ds' := [.int ((l₀.length / 2 : Nat) : Int), .int (2 * (n : Int) / (l₀.length : Int))]) (EvO.copy (EvSeq.of (Ev.name 0 rfl rfl)) ?_) (fun ad => (EvL.cons ((Ev.binop (Ev.len 0 rfl P.len (EvSeq.of (Ev.name 0 rfl rfl)) ?_) Ev.int (op_div (by decide) (by decide))).to ?_) (EvL.cons ((Ev.binop (Ev.binop Ev.int (Ev.name 1 rfl rfl) (op_mul (.inl (by decide)))) (Ev.len 0 rfl P.len (EvSeq.of (Ev.name 0 rfl rfl)) ?_) (op_div ?_ ?_)).to ?_) EvL.nil))) (fun ad => ?_) ⟨⟨rfl, rfl⟩, ⟨rfl, rfl⟩, trivial⟩
  · rw [qL_length]; omega
  · rw [qL_length]; omega
  · rw [qL_length]; rfl
  · rw [qL_length]; omega
  · rw [qL_length]; omega
  · rw [qL_length]; omega
  · rw [qL_length]
  dsimp only [setP, List.set, List.reverse, List.reverseAux]
  refine X.while (fun h ρ => ∃ st l b1 b2 b3 b4, G h st l ∧ ρ = [some (.p (.list (qL w n l₀))), some (.p (.int (n : Int))), some (.p (.int (w : Int))), some (.own ad (qL w n l)), some (.p (.int (h : Int))), some (.p (.int st)), b1, b2, b3, b4]) _
    ⟨_, _, none, none, none, none, g0, rfl⟩ fun h ρ hI => ?_
  obtain ⟨st, l, b1, b2, b3, b4, hG, rfl⟩ := hI
  refine ⟨_, (EvT.cmp (Ev.name 4 rfl rfl) Ev.int cmp_gt), fun hh => ?_, fun hh => ?_⟩
  · have hh0 : 0 < h := by simpa using hh
    obtain ⟨hl, N, hR, hG'⟩ := gs h st l hh0 hG
    have hle := hR.le
    have hleN := hR.leN
    refine X.forR 6 (fun j ρ => ∃ b1 b2 b3 b4, ρ = [some (.p (.list (qL w n l₀))), some (.p (.int (n : Int))), some (.p (.int (w : Int))), some (.own ad (qL w n (fB n h st j l))), some (.p (.int (h : Int))), some (.p (.int st)), b1, b2, b3, b4])
      (EvIt.range3 1 N rfl P.range Ev.int (Ev.len 0 rfl P.len (EvSeq.own 3 rfl rfl) ?_) (Ev.binop Ev.int (Ev.name 4 rfl rfl) (op_mul (.inl (by decide)))) ?_ ?_ ?_ ?_ ?_ (ha := (EvL.cons Ev.int (EvL.cons (Ev.len 0 rfl P.len (EvSeq.own 3 rfl rfl) ?_) (EvL.cons (Ev.binop Ev.int (Ev.name 4 rfl rfl) (op_mul (.inl (by decide)))) EvL.nil))))) ⟨b1, b2, b3, b4, rfl⟩ (fun j ρ v hj hI hv => ?_) (fun ρ hI => ?_)
    · rw [qL_length]; omega
    · rw [qL_length, hl]; exact hR.size
    · rw [qL_length, hl]; exact hR.small
    · omega
    · omega
    · omega
    · rw [qL_length]; omega
    · obtain ⟨b1, b2, b3, b4, rfl⟩ := hI
      have hin := hR.in hj
      have ev : v = ((2 * h * j : Nat) : Int) := by
        rw [hv, Int.zero_add, Int.mul_comm, Int.natCast_mul, Int.natCast_mul]; rfl
      subst ev
      generalize eb : 2 * h * j = b at *
      refine ⟨rfl, ?_⟩
      dsimp only [List.set]
      refine X.forR 7 (fun i ρ => ∃ b2 b3 b4, ρ = [some (.p (.list (qL w n l₀))), some (.p (.int (n : Int))), some (.p (.int (w : Int))), some (.own ad (qL w n (fA n h st b i (fB n h st j l)))), some (.p (.int (h : Int))), some (.p (.int st)), some (.p (.int (b : Int))), b2, b3, b4])
        (EvIt.range1 1 h rfl P.range (Ev.name 4 rfl rfl) (by omega) (by omega) (by omega)) ⟨b2, b3, b4, rfl⟩ (fun i ρ v hi hI hv => ?_) (fun ρ hI => ?_)
      · obtain ⟨b2, b3, b4, rfl⟩ := hI
        have ev : v = (i : Int) := by omega
        subst ev
        refine ⟨rfl, ?_⟩
        dsimp only [List.set]
        have hlA : (fA n h st b i (fB n h st j l)).length = l₀.length := by rw [fA_length, fB_length, hl]
        generalize hA : fA n h st b i (fB n h st j l) = lA at *
        have e1 := qL_get (w := w) (n := n) (l := lA) (i := b + i) (by omega)
        have e2 := qL_get (w := w) (n := n) (l := lA) (i := b + h + i) (by omega)
        refine X.tupW [(8, "one"), (9, "other")] (Ev.tup (EvL.cons (Ev.itemN (EvSeq.own 3 rfl rfl) (Ev.binop (Ev.name 6 rfl rfl) (Ev.name 7 rfl rfl) op_add) (b + i) rfl (by omega) e1) (EvL.cons (Ev.itemN (EvSeq.own 3 rfl rfl) (Ev.binop (Ev.binop (Ev.name 6 rfl rfl) (Ev.name 4 rfl rfl) op_add) (Ev.name 7 rfl rfl) op_add) (b + h + i) rfl (by omega) e2) EvL.nil))) ?_ ⟨⟨rfl, rfl⟩, ⟨rfl, rfl⟩, trivial⟩
        dsimp only [setP, List.set, List.reverse, List.reverseAux]
        refine X.put 3 (Ev.callG 2 rfl (EvL.cons (Ev.name 8 rfl rfl) (EvL.cons (Ev.name 9 rfl rfl) (EvL.cons (Ev.name 1 rfl rfl) (EvL.cons (Ev.name 2 rfl rfl) EvL.nil)))) (ring_add_ok P hw hw' hn _ _) (Nat.le_of_ble_eq_true rfl)) (Ev.binop (Ev.name 6 rfl rfl) (Ev.name 7 rfl rfl) op_add) (b + i) rfl ?_ ?_ ?_
        · rw [qL_length]; omega
        · rw [qL_length]; omega
        dsimp only [List.set]
        rw [qL_set]
        refine X.put 3 (Ev.callG 3 rfl (EvL.cons (Ev.callG 4 rfl (EvL.cons (Ev.name 8 rfl rfl) (EvL.cons (Ev.name 9 rfl rfl) (EvL.cons (Ev.name 1 rfl rfl) (EvL.cons (Ev.name 2 rfl rfl) EvL.nil)))) (ring_sub_ok P hw hw' hn _ _) (Nat.le_of_ble_eq_true rfl)) (EvL.cons (Ev.binop (Ev.name 5 rfl rfl) (Ev.name 7 rfl rfl) (op_mul (.inr (by omega)))) (EvL.cons (Ev.name 1 rfl rfl) (EvL.cons (Ev.name 2 rfl rfl) EvL.nil)))) (ring_shift_ok P hw hw' hn1 hn _ _) (Nat.le_of_ble_eq_true rfl)) (Ev.binop (Ev.binop (Ev.name 6 rfl rfl) (Ev.name 4 rfl rfl) op_add) (Ev.name 7 rfl rfl) op_add) (b + h + i) rfl ?_ ?_ (Ex.nil ⟨some (.p (.int (i : Int))), some (.p (Q w n (lA.getD (b + i) 0))), some (.p (Q w n (lA.getD (b + h + i) 0))), ?_⟩)
        · rw [qL_length, List.length_set]; omega
        · rw [qL_length, List.length_set]; omega
        dsimp only [List.set]
        rw [qL_set, fA, hA, fS]
      · obtain ⟨b2, b3, b4, rfl⟩ := hI
        refine Ex.nil ⟨some (.p (.int (b : Int))), b2, b3, b4, ?_⟩
        rw [fB, eb]
    · obtain ⟨b1, b2, b3, b4, rfl⟩ := hI
      refine X.tupW [(4, "half"), (5, "step")] (ds := [.int ((h / 2 : Nat) : Int), .int (2 * st)]) (Ev.tup (EvL.cons (Ev.binop (Ev.name 4 rfl rfl) Ev.int (op_div (by decide) (by decide))) (EvL.cons (Ev.binop Ev.int (Ev.name 5 rfl rfl) (op_mul (.inl (by decide)))) EvL.nil))) (Ex.nil ⟨h / 2, by omega, 2 * st, _, b1, b2, b3, b4, hG', rfl⟩) ⟨⟨rfl, rfl⟩, ⟨rfl, rfl⟩, trivial⟩
  · have : h = 0 := by simp at hh; omega
    subst this
    rw [ge st l hG]
    exact X.retO 3 (.inl rfl)

theorem backward_rings_walk (l₀ res : List Int) (h0 : 0 < l₀.length) (hlen : l₀.length ≤ 100) (G : Nat → List Int → Prop)
    (g0 : G 1 l₀)
    (gs : ∀ h l, h < l₀.length → G h l → 0 < h ∧ l.length = l₀.length ∧ ∃ N, Round l₀.length h N ∧ G (2 * h) (bB n h ((n : Int) / (h : Int)) N l))
    (ge : ∀ h l, l₀.length ≤ h → G h l → l.length = l₀.length ∧ l.map (fun x => x * 2 ^ tn n (-((Builtin.Int.intBits (l₀.length : Int) : Nat) - 1 : Int))) = res) (gl : ∀ h l, G h l → l.length = l₀.length) :
    CallOK W 7 "backward_rings" [.list (qL w n l₀), .int (n : Int), .int (w : Int)] (.list (qL w n res)) := by
  refine fn_ok P.f_backward_rings ["row", "n", "w"] ["found", "half", "step", "begin", "at", "one", "other", "less"] ["len", "range", "ring_shift", "ring_add", "ring_sub"] (fun n => by kernel_rfl) rfl ?_ ?_
  · intro m
    refine all3 fun v1 v2 v3 => ?_
    kernel_rfl
  intro A m L a h₀ av
  refine X.ow 3 [(4, "half")] (EvO.copy (EvSeq.of (Ev.name 0 rfl rfl)) ?_) (fun ad => (EvL.cons Ev.int EvL.nil)) (fun ad => ?_) ⟨⟨rfl, rfl⟩, trivial⟩
  · rw [qL_length]; omega
  dsimp only [setP, List.set, List.reverse, List.reverseAux]
  refine X.while (fun z ρ => ∃ h l b0 b1 b2 b3 b4, z = l₀.length - h ∧ G h l ∧ ρ = [some (.p (.list (qL w n l₀))), some (.p (.int (n : Int))), some (.p (.int (w : Int))), some (.own ad (qL w n l)), some (.p (.int (h : Int))), b0, b1, b2, b3, b4, none]) (l₀.length - 1)
    ⟨1, _, none, none, none, none, none, rfl, g0, rfl⟩ fun z ρ hI => ?_
  obtain ⟨h, l, b0, b1, b2, b3, b4, rfl, hG, rfl⟩ := hI
  have hgl := gl h l hG
  refine ⟨_, (EvT.cmp (Ev.name 4 rfl rfl) (Ev.len 0 rfl P.len (EvSeq.own 3 rfl rfl) (by rw [qL_length]; omega)) cmp_lt), fun hh => ?_, fun hh => ?_⟩
  · rw [qL_length, hgl] at hh
    have hh0 : h < l₀.length := by simpa using hh
    obtain ⟨hp, hl, N, hR, hG'⟩ := gs h l hh0 hG
    have hle := hR.le
    have hleN := hR.leN
    refine X.set 5 (Ev.binop (Ev.name 1 rfl rfl) (Ev.name 4 rfl rfl) (op_div (by omega) (by omega))) ?_
    dsimp only [List.set]
    generalize hst : (n : Int) / (h : Int) = st at *
    refine X.forR 6 (fun j ρ => ∃ b1 b2 b3 b4, ρ = [some (.p (.list (qL w n l₀))), some (.p (.int (n : Int))), some (.p (.int (w : Int))), some (.own ad (qL w n (bB n h st j l))), some (.p (.int (h : Int))), some (.p (.int st)), b1, b2, b3, b4, none])
      (EvIt.range3 1 N rfl P.range Ev.int (Ev.len 0 rfl P.len (EvSeq.own 3 rfl rfl) ?_) (Ev.binop Ev.int (Ev.name 4 rfl rfl) (op_mul (.inl (by decide)))) ?_ ?_ ?_ ?_ ?_ (ha := (EvL.cons Ev.int (EvL.cons (Ev.len 0 rfl P.len (EvSeq.own 3 rfl rfl) ?_) (EvL.cons (Ev.binop Ev.int (Ev.name 4 rfl rfl) (op_mul (.inl (by decide)))) EvL.nil))))) ⟨b1, b2, b3, b4, rfl⟩ (fun j ρ v hj hI hv => ?_) (fun ρ hI => ?_)
    · rw [qL_length]; omega
    · rw [qL_length, hl]; exact hR.size
    · rw [qL_length, hl]; exact hR.small
    · omega
    · omega
    · omega
    · rw [qL_length]; omega
    · obtain ⟨b1, b2, b3, b4, rfl⟩ := hI
      have hin := hR.in hj
      have ev : v = ((2 * h * j : Nat) : Int) := by
        rw [hv, Int.zero_add, Int.mul_comm, Int.natCast_mul, Int.natCast_mul]; rfl
      subst ev
      generalize eb : 2 * h * j = b at *
      refine ⟨rfl, ?_⟩
      dsimp only [List.set]
      refine X.forR 7 (fun i ρ => ∃ b2 b3 b4, ρ = [some (.p (.list (qL w n l₀))), some (.p (.int (n : Int))), some (.p (.int (w : Int))), some (.own ad (qL w n (bA n h st b i (bB n h st j l)))), some (.p (.int (h : Int))), some (.p (.int st)), some (.p (.int (b : Int))), b2, b3, b4, none])
        (EvIt.range1 1 h rfl P.range (Ev.name 4 rfl rfl) (by omega) (by omega) (by omega)) ⟨b2, b3, b4, rfl⟩ (fun i ρ v hi hI hv => ?_) (fun ρ hI => ?_)
      · obtain ⟨b2, b3, b4, rfl⟩ := hI
        have ev : v = (i : Int) := by omega
        subst ev
        refine ⟨rfl, ?_⟩
        dsimp only [List.set]
        have hlA : (bA n h st b i (bB n h st j l)).length = l₀.length := by rw [bA_length, bB_length, hl]
        generalize hA : bA n h st b i (bB n h st j l) = lA at *
        have e1 := qL_get (w := w) (n := n) (l := lA) (i := b + i) (by omega)
        have e2 := qL_get (w := w) (n := n) (l := lA) (i := b + h + i) (by omega)
        refine X.set 8 (Ev.itemN (EvSeq.own 3 rfl rfl) (Ev.binop (Ev.name 6 rfl rfl) (Ev.name 7 rfl rfl) op_add) (b + i) rfl (by omega) e1) ?_
        dsimp only [List.set]
        refine X.set 9 (Ev.callG 2 rfl (EvL.cons (Ev.itemN (EvSeq.own 3 rfl rfl) (Ev.binop (Ev.binop (Ev.name 6 rfl rfl) (Ev.name 4 rfl rfl) op_add) (Ev.name 7 rfl rfl) op_add) (b + h + i) rfl (by omega) e2) (EvL.cons (Ev.binop (Ev.neg (Ev.name 5 rfl rfl)) (Ev.name 7 rfl rfl) (op_mul (.inr (by omega)))) (EvL.cons (Ev.name 1 rfl rfl) (EvL.cons (Ev.name 2 rfl rfl) EvL.nil)))) (ring_shift_ok P hw hw' hn1 hn _ _) (Nat.le_of_ble_eq_true rfl)) ?_
        dsimp only [List.set]
        refine X.put 3 (Ev.callG 3 rfl (EvL.cons (Ev.name 8 rfl rfl) (EvL.cons (Ev.name 9 rfl rfl) (EvL.cons (Ev.name 1 rfl rfl) (EvL.cons (Ev.name 2 rfl rfl) EvL.nil)))) (ring_add_ok P hw hw' hn _ _) (Nat.le_of_ble_eq_true rfl)) (Ev.binop (Ev.name 6 rfl rfl) (Ev.name 7 rfl rfl) op_add) (b + i) rfl ?_ ?_ ?_
        · rw [qL_length]; omega
        · rw [qL_length]; omega
        dsimp only [List.set]
        rw [qL_set]
        refine X.put 3 (Ev.callG 4 rfl (EvL.cons (Ev.name 8 rfl rfl) (EvL.cons (Ev.name 9 rfl rfl) (EvL.cons (Ev.name 1 rfl rfl) (EvL.cons (Ev.name 2 rfl rfl) EvL.nil)))) (ring_sub_ok P hw hw' hn _ _) (Nat.le_of_ble_eq_true rfl)) (Ev.binop (Ev.binop (Ev.name 6 rfl rfl) (Ev.name 4 rfl rfl) op_add) (Ev.name 7 rfl rfl) op_add) (b + h + i) rfl ?_ ?_ (Ex.nil ⟨some (.p (.int (i : Int))), some (.p (Q w n (lA.getD (b + i) 0))), some (.p (Q w n (lA.getD (b + h + i) 0 * 2 ^ tn n (-st * (i : Int))))), ?_⟩)
        · rw [qL_length, List.length_set]; omega
        · rw [qL_length, List.length_set]; omega
        dsimp only [List.set]
        rw [qL_set, bA, hA, bS]
      · obtain ⟨b2, b3, b4, rfl⟩ := hI
        refine Ex.nil ⟨some (.p (.int (b : Int))), b2, b3, b4, ?_⟩
        rw [bB, eb]
    · obtain ⟨b1, b2, b3, b4, rfl⟩ := hI
      refine X.set 4 (d := .int ((2 * h : Nat) : Int)) (Ev.binop Ev.int (Ev.name 4 rfl rfl) (op_mul (.inl (by decide)))) (Ex.nil ⟨l₀.length - 2 * h, by omega, 2 * h, _, some (.p (.int st)), b1, b2, b3, b4, rfl, hG', rfl⟩)
  · rw [qL_length, hgl] at hh
    have hh0 : l₀.length ≤ h := by simpa using hh
    obtain ⟨hl, hres⟩ := ge h l hh0 hG
    refine X.set 10 (d := .int ((Builtin.Int.intBits (l₀.length : Int) : Nat) - 1 : Int)) ((Ev.binop (Ev.bitlen (Ev.len 0 rfl P.len (EvSeq.of (Ev.name 0 rfl rfl)) ?_)) Ev.int op_sub).to ?_) ?_
    · rw [qL_length]; omega
    · rw [qL_length]
    generalize ((Builtin.Int.intBits (l₀.length : Int) : Nat) - 1 : Int) = less at *
    dsimp only [List.set]
    refine Ex.free 3 rfl ?_
    dsimp only [List.set]
    refine X.ret (EvO.ev (EvO.c1 "one" ["less", "n", "w"] ["ring_shift"] [(10, .int less), (1, .int (n : Int)), (2, .int (w : Int))] (EvIt.list (Ev.name 3 rfl rfl) ?_) ?_ (fun i ds d hi hd => ?_) rfl ⟨⟨rfl, rfl, rfl, rfl, rfl⟩, ⟨rfl, rfl, rfl, rfl, rfl⟩, ⟨rfl, rfl, rfl, rfl, rfl⟩, trivial⟩)) (.inl rfl)
    · rw [qL_length]; omega
    · rw [List.length_map, qL_length, qL_length, ← hres, List.length_map]
    · obtain ⟨u, hu, rfl⟩ := sing_at hi
      rw [← hres] at hd
      have hil : i < l.length := by
        rcases Nat.lt_or_ge i l.length with q | q
        · exact q
        · rw [List.getElem?_eq_none (by rw [qL_length]; exact q)] at hu; cases hu
      rw [qL_get hil] at hu
      rw [qL_get (by rw [List.length_map]; exact hil)] at hd
      cases hu
      cases hd
      refine ⟨_, rfl, fun cl C av => ?_⟩
      rw [List.getD_eq_getElem?_getD, List.getD_eq_getElem?_getD, List.getElem?_map, List.getElem?_eq_getElem hil]
      exact Ev.callG 0 rfl (EvL.cons (Ev.name 0 rfl rfl) (EvL.cons (Ev.neg (Ev.name 1 rfl rfl)) (EvL.cons (Ev.name 2 rfl rfl) (EvL.cons (Ev.name 3 rfl rfl) EvL.nil)))) (ring_shift_ok P hw hw' hn1 hn _ _) (Nat.le_of_ble_eq_true rfl)
end
end Mine
end
section
open PySem PySem.W PyProof.Rows PySem.Calls
set_option maxRecDepth 10000
set_option maxHeartbeats 2000000
namespace Mine
variable {W : Wd}

noncomputable def fwd (n : Nat) (l : List Int) : List Int := if l.length = 2 then fB n 1 (2 * (n : Int) / 2) 1 l else fB n 1 (2 * (2 * (n : Int) / 4)) 2 (fB n 2 (2 * (n : Int) / 4) 1 l)
noncomputable def bwd (n : Nat) (l : List Int) : List Int := if l.length = 2 then (bB n 1 ((n : Int) / 1) 1 l).map (fun x => x * 2 ^ tn n (-1)) else (bB n 2 ((n : Int) / 2) 1 (bB n 1 ((n : Int) / 1) 2 l)).map (fun x => x * 2 ^ tn n (-2))
theorem fwd_length (n : Nat) (l : List Int) : (fwd n l).length = l.length := by
  unfold fwd; split <;> simp [fB_length]
noncomputable def cv (n : Nat) (a b : List Int) : List Int := bwd n (List.zipWith (· * ·) (fwd n a) (fwd n b))
noncomputable def cvm (n : Nat) (a b : List Int) : List Int := wt n (-((n : Int) / (a.length : Int))) (cv n (wt n ((n : Int) / (a.length : Int)) a) (wt n ((n : Int) / (a.length : Int)) b))
theorem wt_length (n : Nat) (st : Int) (l : List Int) : (wt n st l).length = l.length := by simp [wt]
theorem cv_length (n : Nat) {a b : List Int} (h : a.length = b.length) : (cv n a b).length = a.length := by
  unfold cv bwd; split <;> simp [bB_length, fwd_length, h]

section
variable (P : Prg W) {w n : Nat} (hw : 1 ≤ w) (hw' : w ≤ 16) (hn1 : 1 ≤ n) (hn : n ≤ 16)
include P hw hw' hn1 hn
theorem forward_rings_ok (l : List Int) (hl : l.length = 2 ∨ l.length = 4) : CallOK W 7 "forward_rings" [.list (qL w n l), .int (n : Int), .int (w : Int)] (.list (qL w n (fwd n l))) := by
  rcases hl with hl | hl
  · refine forward_rings_walk P hw hw' hn1 hn l _ (by omega) (by omega) (fun h st l' => (h = 1 ∧ st = 2 * (n : Int) / 2 ∧ l' = l) ∨ (h = 0 ∧ l' = fB n 1 (2 * (n : Int) / 2) 1 l)) (.inl ⟨by rw [hl], by rw [hl]; rfl, rfl⟩) (fun h st l' hh hG => ?_) (fun st l' hG => ?_)
    · rcases hG with ⟨rfl, rfl, rfl⟩ | ⟨rfl, _⟩
      · refine ⟨rfl, 1, ?_, .inr ⟨rfl, rfl⟩⟩
        rw [hl]
        exact ⟨by decide, by decide, by decide, by decide, by decide⟩
      · omega
    · rcases hG with ⟨h, _⟩ | ⟨_, rfl⟩
      · omega
      · unfold fwd; rw [if_pos hl]
  · refine forward_rings_walk P hw hw' hn1 hn l _ (by omega) (by omega) (fun h st l' => (h = 2 ∧ st = 2 * (n : Int) / 4 ∧ l' = l) ∨ (h = 1 ∧ st = 2 * (2 * (n : Int) / 4) ∧ l' = fB n 2 (2 * (n : Int) / 4) 1 l) ∨ (h = 0 ∧ l' = fB n 1 (2 * (2 * (n : Int) / 4)) 2 (fB n 2 (2 * (n : Int) / 4) 1 l))) (.inl ⟨by rw [hl], by rw [hl]; rfl, rfl⟩) (fun h st l' hh hG => ?_) (fun st l' hG => ?_)
    · rcases hG with ⟨rfl, rfl, rfl⟩ | ⟨rfl, rfl, rfl⟩ | ⟨rfl, _⟩
      · refine ⟨rfl, 1, ?_, .inr (.inl ⟨rfl, rfl, rfl⟩)⟩
        rw [hl]
        exact ⟨by decide, by decide, by decide, by decide, by decide⟩
      · refine ⟨fB_length .., 2, ?_, .inr (.inr ⟨rfl, rfl⟩)⟩
        rw [hl]
        exact ⟨by decide, by decide, by decide, by decide, by decide⟩
      · omega
    · rcases hG with ⟨h, _⟩ | ⟨h, _⟩ | ⟨_, rfl⟩
      · omega
      · omega
      · unfold fwd; rw [if_neg (by omega)]

theorem backward_rings_ok (l : List Int) (hl : l.length = 2 ∨ l.length = 4) : CallOK W 7 "backward_rings" [.list (qL w n l), .int (n : Int), .int (w : Int)] (.list (qL w n (bwd n l))) := by
  rcases hl with hl | hl
  · refine backward_rings_walk P hw hw' hn1 hn l _ (by omega) (by omega) (fun h l' => (h = 1 ∧ l' = l) ∨ (h = 2 ∧ l' = bB n 1 ((n : Int) / 1) 1 l)) (.inl ⟨rfl, rfl⟩) (fun h l' hh hG => ?_) (fun h l' hh hG => ?_) (fun h l' hG => ?_)
    · rcases hG with ⟨rfl, rfl⟩ | ⟨rfl, _⟩
      · refine ⟨by omega, rfl, 1, ?_, .inr ⟨rfl, rfl⟩⟩
        rw [hl]
        exact ⟨by decide, by decide, by decide, by decide, by decide⟩
      · omega
    · rcases hG with ⟨rfl, rfl⟩ | ⟨rfl, rfl⟩
      · omega
      · refine ⟨bB_length .., ?_⟩
        unfold bwd; rw [if_pos hl, hl]; rfl
    · rcases hG with ⟨rfl, rfl⟩ | ⟨rfl, rfl⟩
      · rfl
      · exact bB_length ..
  · refine backward_rings_walk P hw hw' hn1 hn l _ (by omega) (by omega) (fun h l' => (h = 1 ∧ l' = l) ∨ (h = 2 ∧ l' = bB n 1 ((n : Int) / 1) 2 l) ∨ (h = 4 ∧ l' = bB n 2 ((n : Int) / 2) 1 (bB n 1 ((n : Int) / 1) 2 l))) (.inl ⟨rfl, rfl⟩) (fun h l' hh hG => ?_) (fun h l' hh hG => ?_) (fun h l' hG => ?_)
    · rcases hG with ⟨rfl, rfl⟩ | ⟨rfl, rfl⟩ | ⟨rfl, _⟩
      · refine ⟨by omega, rfl, 2, ?_, .inr (.inl ⟨rfl, rfl⟩)⟩
        rw [hl]
        exact ⟨by decide, by decide, by decide, by decide, by decide⟩
      · refine ⟨by omega, bB_length .., 1, ?_, .inr (.inr ⟨rfl, rfl⟩)⟩
        rw [hl]
        exact ⟨by decide, by decide, by decide, by decide, by decide⟩
      · omega
    · rcases hG with ⟨rfl, rfl⟩ | ⟨rfl, rfl⟩ | ⟨rfl, rfl⟩
      · omega
      · omega
      · refine ⟨(bB_length ..).trans (bB_length ..), ?_⟩
        unfold bwd; rw [if_neg (by omega), hl]; rfl
    · rcases hG with ⟨rfl, rfl⟩ | ⟨rfl, rfl⟩ | ⟨rfl, rfl⟩
      · rfl
      · exact bB_length ..
      · exact (bB_length ..).trans (bB_length ..)

theorem convolved_ok (x y : List Int) (hx : x.length = 2 ∨ x.length = 4) (hxy : y.length = x.length) : CallOK W 8 "convolved" [.list (qL w n x), .list (qL w n y), .int (n : Int), .int (w : Int), .fn "mul_school"] (.list (qL w n (cv n x y))) := by
  have h1 := forward_rings_ok P hw hw' hn1 hn x hx
  have h2 := forward_rings_ok P hw hw' hn1 hn y (by rw [hxy]; exact hx)
  have h3 := backward_rings_ok P hw hw' hn1 hn (List.zipWith (· * ·) (fwd n x) (fwd n y)) (by rw [List.length_zipWith, fwd_length, fwd_length]; omega)
  refine fn_ok P.f_convolved ["one", "other", "n", "w", "mul"] ["left", "right"] ["forward_rings", "backward_rings", "zip"] (fun n => by kernel_rfl) rfl ?_ ?_
  · intro m
    refine all5 fun v1 v2 v3 v4 v5 => ?_
    kernel_rfl
  intro A m L a h₀ av
  refine X.tupW [(5, "left"), (6, "right")] (Ev.tup (EvL.cons (Ev.callG 0 rfl (EvL.cons (Ev.name 0 rfl rfl) (EvL.cons (Ev.name 2 rfl rfl) (EvL.cons (Ev.name 3 rfl rfl) EvL.nil))) h1 (Nat.le_of_ble_eq_true rfl)) (EvL.cons (Ev.callG 0 rfl (EvL.cons (Ev.name 1 rfl rfl) (EvL.cons (Ev.name 2 rfl rfl) (EvL.cons (Ev.name 3 rfl rfl) EvL.nil))) h2 (Nat.le_of_ble_eq_true rfl)) EvL.nil))) ?_ ⟨⟨rfl, rfl⟩, ⟨rfl, rfl⟩, trivial⟩
  dsimp only [setP, List.set, List.reverse, List.reverseAux]
  refine X.ret (Ev.callG 1 rfl (EvL.cons (EvO.ev (EvO.c2 "a" "b" ["n", "w", "mul"] ["ring_mul"] [(2, .int (n : Int)), (3, .int (w : Int)), (4, .fn "mul_school")] (EvIt.zip 2 rfl P.zip (Ev.name 5 rfl rfl) (Ev.name 6 rfl rfl) ?_) ?_ (fun i ds d hi hd => ?_) rfl ⟨⟨rfl, rfl, rfl, rfl, rfl⟩, ⟨rfl, rfl, rfl, rfl, rfl⟩, ⟨rfl, rfl, rfl, rfl, rfl⟩, trivial⟩)) (EvL.cons (Ev.name 2 rfl rfl) (EvL.cons (Ev.name 3 rfl rfl) EvL.nil))) h3 (Nat.le_of_ble_eq_true rfl)) (.inl rfl)
  · rw [qL_length, fwd_length]; omega
  · rw [zips_length, qL_length, qL_length, qL_length, List.length_zipWith]
  · obtain ⟨u, v, hu, hv, rfl⟩ := zips_at hi
    have hil : i < x.length := by
      rcases Nat.lt_or_ge i x.length with q | q
      · exact q
      · rw [List.getElem?_eq_none (by rw [qL_length, fwd_length]; exact q)] at hu; cases hu
    have l1 : i < (fwd n x).length := by rw [fwd_length]; exact hil
    have l2 : i < (fwd n y).length := by rw [fwd_length]; omega
    rw [qL_get l1] at hu
    rw [qL_get l2] at hv
    rw [qL_get (by rw [List.length_zipWith]; omega), List.getD_eq_getElem?_getD, List.getElem?_zipWith, List.getElem?_eq_getElem l1, List.getElem?_eq_getElem l2] at hd
    rw [List.getD_eq_getElem?_getD, List.getElem?_eq_getElem l1] at hu
    rw [List.getD_eq_getElem?_getD, List.getElem?_eq_getElem l2] at hv
    cases hu; cases hv; cases hd
    refine ⟨_, _, rfl, fun cl C av => ?_⟩
    exact Ev.callG 0 rfl (EvL.cons (Ev.name 0 rfl rfl) (EvL.cons (Ev.name 1 rfl rfl) (EvL.cons (Ev.name 2 rfl rfl) (EvL.cons (Ev.name 3 rfl rfl) (EvL.cons (Ev.name 4 rfl rfl) EvL.nil))))) (ring_mul_ok P hw hw' hn1 hn _ _) (Nat.le_of_ble_eq_true rfl)

theorem convolved_minus_ok (x y : List Int) (hx : x.length = 2 ∨ x.length = 4) (hxy : y.length = x.length) : CallOK W 9 "convolved_minus" [.list (qL w n x), .list (qL w n y), .int (n : Int), .int (w : Int), .fn "mul_school"] (.list (qL w n (cvm n x y))) := by
  have h1 := weighted_ok P hw hw' hn1 hn x ((n : Int) / (x.length : Int)) (by omega)
  have h2 := weighted_ok P hw hw' hn1 hn y ((n : Int) / (x.length : Int)) (by omega)
  have h3 := convolved_ok P hw hw' hn1 hn (wt n ((n : Int) / (x.length : Int)) x) (wt n ((n : Int) / (x.length : Int)) y) (by rw [wt_length]; exact hx) (by rw [wt_length, wt_length]; exact hxy)
  have h4 := weighted_ok P hw hw' hn1 hn (cv n (wt n ((n : Int) / (x.length : Int)) x) (wt n ((n : Int) / (x.length : Int)) y)) (-((n : Int) / (x.length : Int))) (by rw [cv_length n (by rw [wt_length, wt_length, hxy]), wt_length]; omega)
  refine fn_ok P.f_convolved_minus ["one", "other", "n", "w", "mul"] ["step", "found"] ["len", "convolved", "weighted"] (fun n => by kernel_rfl) rfl ?_ ?_
  · intro m
    refine all5 fun v1 v2 v3 v4 v5 => ?_
    kernel_rfl
  intro A m L a h₀ av
  refine X.set 5 (d := .int ((n : Int) / (x.length : Int))) ((Ev.binop (Ev.name 2 rfl rfl) (Ev.len 0 rfl P.len (EvSeq.of (Ev.name 0 rfl rfl)) ?_) (op_div ?_ ?_)).to ?_) ?_
  · rw [qL_length]; omega
  · rw [qL_length]; omega
  · rw [qL_length]; omega
  · rw [qL_length]
  refine X.set 6 (Ev.callG 1 rfl (EvL.cons (Ev.callG 2 rfl (EvL.cons (Ev.name 0 rfl rfl) (EvL.cons (Ev.name 5 rfl rfl) (EvL.cons (Ev.name 2 rfl rfl) (EvL.cons (Ev.name 3 rfl rfl) EvL.nil)))) h1 (Nat.le_of_ble_eq_true rfl)) (EvL.cons (Ev.callG 2 rfl (EvL.cons (Ev.name 1 rfl rfl) (EvL.cons (Ev.name 5 rfl rfl) (EvL.cons (Ev.name 2 rfl rfl) (EvL.cons (Ev.name 3 rfl rfl) EvL.nil)))) h2 (Nat.le_of_ble_eq_true rfl)) (EvL.cons (Ev.name 2 rfl rfl) (EvL.cons (Ev.name 3 rfl rfl) (EvL.cons (Ev.name 4 rfl rfl) EvL.nil))))) h3 (Nat.le_of_ble_eq_true rfl)) ?_
  exact X.ret (Ev.callG 2 rfl (EvL.cons (Ev.name 6 rfl rfl) (EvL.cons (Ev.neg (Ev.name 5 rfl rfl)) (EvL.cons (Ev.name 2 rfl rfl) (EvL.cons (Ev.name 3 rfl rfl) EvL.nil)))) h4 (Nat.le_of_ble_eq_true rfl)) (.inl rfl)
end
end Mine
end
section
open PySem PySem.W PyProof.Rows PySem.Calls
set_option maxRecDepth 10000
set_option maxHeartbeats 4000000
namespace Mine
/-- what the row of sums has to be -/
noncomputable def due2 (s a0 a1 b0 b1 : Int) : List Int := [a0 * b0 + s * (a1 * b1), a0 * b1 + a1 * b0]
noncomputable def due4 (s a0 a1 a2 a3 b0 b1 b2 b3 : Int) : List Int := [a0 * b0 + s * (a1 * b3 + a2 * b2 + a3 * b1), a0 * b1 + a1 * b0 + s * (a2 * b3 + a3 * b2), a0 * b2 + a1 * b1 + a2 * b0 + s * (a3 * b3), a0 * b3 + a1 * b2 + a2 * b1 + a3 * b0]
noncomputable def dot : List Int → List Int → Int
  | c :: cs, m :: ms => c * m + dot cs ms
  | _, _ => 0
theorem un1 {P x y : Int} {l m : List Int} (h : (x :: l).map (· % P) = (y :: m).map (· % P)) : x % P = y % P ∧ l.map (· % P) = m.map (· % P) := ⟨(List.cons.inj h).1, (List.cons.inj h).2⟩
theorem un2 {P : Int} {x y : List Int} {l m : List (List Int)} (h : (x :: l).map (·.map (· % P)) = (y :: m).map (·.map (· % P))) : x.map (· % P) = y.map (· % P) ∧ l.map (·.map (· % P)) = m.map (·.map (· % P)) := ⟨(List.cons.inj h).1, (List.cons.inj h).2⟩
theorem dot_mod {P : Int} : ∀ {cs ds : List Int} (_ : cs.map (· % P) = ds.map (· % P)) (ms : List Int), dot cs ms % P = dot ds ms % P
  | [], [], _, _ => rfl
  | [], _ :: _, h, _ => by cases h
  | _ :: _, [], h, _ => by cases h
  | c :: cs, d :: ds, h, [] => rfl
  | c :: cs, d :: ds, h, m :: ms => by
    obtain ⟨h1, h2⟩ := un1 h
    show (c * m + dot cs ms) % P = (d * m + dot ds ms) % P
    rw [Int.add_emod, Int.mul_emod, h1, dot_mod h2 ms, ← Int.mul_emod, ← Int.add_emod]
theorem map_cons {P x y : Int} {l m : List Int} (h : x % P = y % P) (t : l.map (· % P) = m.map (· % P)) : (x :: l).map (· % P) = (y :: m).map (· % P) := by
  rw [List.map_cons, List.map_cons, h, t]
noncomputable def C2 (e f κ : Int) : List (List Int) :=
  [[κ + e * e * f * κ, κ - e * e * f * κ, κ - e * e * f * κ, κ + e * e * f * κ], [κ - e * e * f * κ, κ + e * e * f * κ, κ + e * e * f * κ, κ - e * e * f * κ]]
noncomputable def D2 (s : Int) : List (List Int) := [[1, 0, 0, s], [0, 1, 1, 0]]
noncomputable def sameM (P : Int) (x y : List (List Int)) : Bool := x.map (·.map (· % P)) == y.map (·.map (· % P))
theorem cyc2 {e f κ P : Int} (h : sameM P (C2 e f κ) (D2 1) = true) (a0 a1 b0 b1 : Int) :
    [((a0 + a1) * (b0 + b1) + (a0 - a1) * e * ((b0 - b1) * e) * f) * κ, ((a0 + a1) * (b0 + b1) - (a0 - a1) * e * ((b0 - b1) * e) * f) * κ].map (· % P) = (due2 1 a0 a1 b0 b1).map (· % P) := by
  have h := eq_of_beq h
  obtain ⟨h0, h⟩ := un2 h
  obtain ⟨h1, h⟩ := un2 h
  refine map_cons ((congrArg (· % P) ?_).trans ((dot_mod h0 [a0 * b0, a0 * b1, a1 * b0, a1 * b1]).trans (congrArg (· % P) ?_))) (map_cons ((congrArg (· % P) ?_).trans ((dot_mod h1 [a0 * b0, a0 * b1, a1 * b0, a1 * b1]).trans (congrArg (· % P) ?_))) rfl)
  all_goals simp only [dot]
  all_goals grind
theorem tw2 {w0 w1 x y P φ0 φ1 : Int} (a0 a1 b0 b1 : Int) (h : [x, y].map (· % P) = (due2 1 (a0 * w0) (a1 * w1) (b0 * w0) (b1 * w1)).map (· % P))
    (ht : sameM P [[w0 * w0 * φ0, w1 * w1 * φ0], [w0 * w1 * φ1, w1 * w0 * φ1]] [[1, -1], [1, 1]] = true) : [x * φ0, y * φ1].map (· % P) = (due2 (-1) a0 a1 b0 b1).map (· % P) := by
  obtain ⟨g0, h⟩ := un1 h
  obtain ⟨g1, h⟩ := un1 h
  have ht := eq_of_beq ht
  obtain ⟨h0, ht⟩ := un2 ht
  obtain ⟨h1, ht⟩ := un2 ht
  refine map_cons ?_ (map_cons ?_ rfl)
  · rw [Int.mul_emod, g0, ← Int.mul_emod]
    refine (congrArg (· % P) ?_).trans ((dot_mod h0 [a0 * b0, a1 * b1]).trans (congrArg (· % P) ?_)) <;> simp only [dot] <;> grind
  · rw [Int.mul_emod, g1, ← Int.mul_emod]
    refine (congrArg (· % P) ?_).trans ((dot_mod h1 [a0 * b1, a1 * b0]).trans (congrArg (· % P) ?_)) <;> simp only [dot] <;> grind
noncomputable def cf (F0 F1 F2 F3 e1 e2 μ : Int) : List Int :=
  [F0 + F1 * (e1 * e1) + F2 * (e2 * e2) + F3 * (e2 * e1 * (e2 * e1)), F0 - F1 * (e1 * e1) + F2 * (e2 * μ) - F3 * (e2 * e1 * (μ * e1)), F0 + F1 * (e1 * e1) - F2 * (e2 * e2) - F3 * (e2 * e1 * (e2 * e1)), F0 - F1 * (e1 * e1) - F2 * (e2 * μ) + F3 * (e2 * e1 * (μ * e1)),
   F0 - F1 * (e1 * e1) + F2 * (e2 * μ) - F3 * (e2 * e1 * (μ * e1)), F0 + F1 * (e1 * e1) + F2 * (μ * μ) + F3 * (μ * e1 * (μ * e1)), F0 - F1 * (e1 * e1) - F2 * (e2 * μ) + F3 * (e2 * e1 * (μ * e1)), F0 + F1 * (e1 * e1) - F2 * (μ * μ) - F3 * (μ * e1 * (μ * e1)),
   F0 + F1 * (e1 * e1) - F2 * (e2 * e2) - F3 * (e2 * e1 * (e2 * e1)), F0 - F1 * (e1 * e1) - F2 * (e2 * μ) + F3 * (e2 * e1 * (μ * e1)), F0 + F1 * (e1 * e1) + F2 * (e2 * e2) + F3 * (e2 * e1 * (e2 * e1)), F0 - F1 * (e1 * e1) + F2 * (e2 * μ) - F3 * (e2 * e1 * (μ * e1)),
   F0 - F1 * (e1 * e1) - F2 * (e2 * μ) + F3 * (e2 * e1 * (μ * e1)), F0 + F1 * (e1 * e1) - F2 * (μ * μ) - F3 * (μ * e1 * (μ * e1)), F0 - F1 * (e1 * e1) + F2 * (e2 * μ) - F3 * (e2 * e1 * (μ * e1)), F0 + F1 * (e1 * e1) + F2 * (μ * μ) + F3 * (μ * e1 * (μ * e1))]
noncomputable def mon (a0 a1 a2 a3 b0 b1 b2 b3 : Int) : List Int := [a0 * b0, a0 * b1, a0 * b2, a0 * b3, a1 * b0, a1 * b1, a1 * b2, a1 * b3, a2 * b0, a2 * b1, a2 * b2, a2 * b3, a3 * b0, a3 * b1, a3 * b2, a3 * b3]
noncomputable def C4 (e1 e2 f g μ ν κ : Int) : List (List Int) := [cf κ (f * κ) (g * κ) (f * g * κ) e1 e2 μ, cf κ (-(f * κ)) (ν * κ) (-(f * ν * κ)) e1 e2 μ, cf κ (f * κ) (-(g * κ)) (-(f * g * κ)) e1 e2 μ, cf κ (-(f * κ)) (-(ν * κ)) (f * ν * κ) e1 e2 μ]
noncomputable def D4 : List (List Int) := [[1, 0, 0, 0, 0, 0, 0, 1, 0, 0, 1, 0, 0, 1, 0, 0], [0, 1, 0, 0, 1, 0, 0, 0, 0, 0, 0, 1, 0, 0, 1, 0], [0, 0, 1, 0, 0, 1, 0, 0, 1, 0, 0, 0, 0, 0, 0, 1], [0, 0, 0, 1, 0, 0, 1, 0, 0, 1, 0, 0, 1, 0, 0, 0]]
theorem cf_eq (F0 F1 F2 F3 e1 e2 μ a0 a1 a2 a3 b0 b1 b2 b3 : Int) : dot (cf F0 F1 F2 F3 e1 e2 μ) (mon a0 a1 a2 a3 b0 b1 b2 b3) =
    (a0 + a2 + (a1 + a3)) * (b0 + b2 + (b1 + b3)) * F0 + (a0 + a2 - (a1 + a3)) * e1 * ((b0 + b2 - (b1 + b3)) * e1) * F1 + ((a0 - a2) * e2 + (a1 - a3) * μ) * ((b0 - b2) * e2 + (b1 - b3) * μ) * F2 + ((a0 - a2) * e2 - (a1 - a3) * μ) * e1 * (((b0 - b2) * e2 - (b1 - b3) * μ) * e1) * F3 := by
  simp only [dot, cf, mon]
  grind
theorem cyc4 {e1 e2 f g μ ν κ P : Int} (h : sameM P (C4 e1 e2 f g μ ν κ) D4 = true) (a0 a1 a2 a3 b0 b1 b2 b3 : Int) {z0 z1 z2 z3 : Int} (hz0 : z0 = (a0 + a2 + (a1 + a3)) * (b0 + b2 + (b1 + b3))) (hz1 : z1 = (a0 + a2 - (a1 + a3)) * e1 * ((b0 + b2 - (b1 + b3)) * e1))
    (hz2 : z2 = ((a0 - a2) * e2 + (a1 - a3) * μ) * ((b0 - b2) * e2 + (b1 - b3) * μ)) (hz3 : z3 = ((a0 - a2) * e2 - (a1 - a3) * μ) * e1 * (((b0 - b2) * e2 - (b1 - b3) * μ) * e1)) :
    [(z0 + z1 * f + (z2 + z3 * f) * g) * κ, (z0 - z1 * f + (z2 - z3 * f) * ν) * κ, (z0 + z1 * f - (z2 + z3 * f) * g) * κ, (z0 - z1 * f - (z2 - z3 * f) * ν) * κ].map (· % P) = (due4 1 a0 a1 a2 a3 b0 b1 b2 b3).map (· % P) := by
  have h := eq_of_beq h
  obtain ⟨h0, h⟩ := un2 h
  obtain ⟨h1, h⟩ := un2 h
  obtain ⟨h2, h⟩ := un2 h
  obtain ⟨h3, h⟩ := un2 h
  have key : ∀ {x F0 F1 F2 F3 : Int} {D : List Int}, (cf F0 F1 F2 F3 e1 e2 μ).map (· % P) = D.map (· % P) → x = z0 * F0 + z1 * F1 + z2 * F2 + z3 * F3 → x % P = dot D (mon a0 a1 a2 a3 b0 b1 b2 b3) % P := fun {x F0 F1 F2 F3 D} hc hx => by
    rw [← dot_mod hc, cf_eq, hx, hz0, hz1, hz2, hz3]
  refine map_cons ((key h0 ?_).trans (congrArg (· % P) ?_)) (map_cons ((key h1 ?_).trans (congrArg (· % P) ?_)) (map_cons ((key h2 ?_).trans (congrArg (· % P) ?_)) (map_cons ((key h3 ?_).trans (congrArg (· % P) ?_)) rfl)))
  all_goals (try simp only [dot, mon])
  all_goals grind
theorem tw4 {w0 w1 w2 w3 x0 x1 x2 x3 P φ0 φ1 φ2 φ3 : Int} (a0 a1 a2 a3 b0 b1 b2 b3 : Int) (h : [x0, x1, x2, x3].map (· % P) = (due4 1 (a0 * w0) (a1 * w1) (a2 * w2) (a3 * w3) (b0 * w0) (b1 * w1) (b2 * w2) (b3 * w3)).map (· % P))
    (ht : sameM P [[w0 * w0 * φ0, w1 * w3 * φ0, w2 * w2 * φ0, w3 * w1 * φ0], [w0 * w1 * φ1, w1 * w0 * φ1, w2 * w3 * φ1, w3 * w2 * φ1], [w0 * w2 * φ2, w1 * w1 * φ2, w2 * w0 * φ2, w3 * w3 * φ2], [w0 * w3 * φ3, w1 * w2 * φ3, w2 * w1 * φ3, w3 * w0 * φ3]]
      [[1, -1, -1, -1], [1, 1, -1, -1], [1, 1, 1, -1], [1, 1, 1, 1]] = true) : [x0 * φ0, x1 * φ1, x2 * φ2, x3 * φ3].map (· % P) = (due4 (-1) a0 a1 a2 a3 b0 b1 b2 b3).map (· % P) := by
  obtain ⟨g0, h⟩ := un1 h
  obtain ⟨g1, h⟩ := un1 h
  obtain ⟨g2, h⟩ := un1 h
  obtain ⟨g3, h⟩ := un1 h
  have ht := eq_of_beq ht
  obtain ⟨h0, ht⟩ := un2 ht
  obtain ⟨h1, ht⟩ := un2 ht
  obtain ⟨h2, ht⟩ := un2 ht
  obtain ⟨h3, ht⟩ := un2 ht
  have key : ∀ {x y φ : Int} {C D M : List Int}, x % P = y % P → C.map (· % P) = D.map (· % P) → y * φ = dot C M → x * φ % P = dot D M % P := fun {x y φ C D M} g hc e => by
    rw [Int.mul_emod, g, ← Int.mul_emod, e, dot_mod hc]
  refine map_cons ((key (M := [a0 * b0, a1 * b3, a2 * b2, a3 * b1]) g0 h0 ?_).trans (congrArg (· % P) ?_)) (map_cons ((key (M := [a0 * b1, a1 * b0, a2 * b3, a3 * b2]) g1 h1 ?_).trans (congrArg (· % P) ?_)) (map_cons ((key (M := [a0 * b2, a1 * b1, a2 * b0, a3 * b3]) g2 h2 ?_).trans (congrArg (· % P) ?_)) (map_cons ((key (M := [a0 * b3, a1 * b2, a2 * b1, a3 * b0]) g3 h3 ?_).trans (congrArg (· % P) ?_)) rfl)))
  all_goals simp only [dot]
  all_goals grind
end Mine
end
section
open PySem PySem.W PyProof.Rows PySem.Calls
set_option maxRecDepth 10000
set_option maxHeartbeats 4000000
namespace Mine
theorem fwd2 (n : Nat) (a b : Int) : fwd n [a, b] = [a + b, (a - b) * 2 ^ tn n (2 * (n : Int) / 2 * (0 : Nat))] := rfl
theorem fwd4 (n : Nat) (a b c d : Int) : fwd n [a, b, c, d] = [a + c + (b + d), (a + c - (b + d)) * 2 ^ tn n (2 * (2 * (n : Int) / 4) * (0 : Nat)),
  (a - c) * 2 ^ tn n (2 * (n : Int) / 4 * (0 : Nat)) + (b - d) * 2 ^ tn n (2 * (n : Int) / 4 * (1 : Nat)), ((a - c) * 2 ^ tn n (2 * (n : Int) / 4 * (0 : Nat)) - (b - d) * 2 ^ tn n (2 * (n : Int) / 4 * (1 : Nat))) * 2 ^ tn n (2 * (2 * (n : Int) / 4) * (0 : Nat))] := rfl
theorem bwd2 (n : Nat) (a b : Int) : bwd n [a, b] = [(a + b * 2 ^ tn n (-((n : Int) / 1) * (0 : Nat))) * 2 ^ tn n (-1), (a - b * 2 ^ tn n (-((n : Int) / 1) * (0 : Nat))) * 2 ^ tn n (-1)] := rfl
theorem bwd4 (n : Nat) (a b c d : Int) : bwd n [a, b, c, d] =
  [(a + b * 2 ^ tn n (-((n : Int) / 1) * (0 : Nat)) + (c + d * 2 ^ tn n (-((n : Int) / 1) * (0 : Nat))) * 2 ^ tn n (-((n : Int) / 2) * (0 : Nat))) * 2 ^ tn n (-2),
   (a - b * 2 ^ tn n (-((n : Int) / 1) * (0 : Nat)) + (c - d * 2 ^ tn n (-((n : Int) / 1) * (0 : Nat))) * 2 ^ tn n (-((n : Int) / 2) * (1 : Nat))) * 2 ^ tn n (-2),
   (a + b * 2 ^ tn n (-((n : Int) / 1) * (0 : Nat)) - (c + d * 2 ^ tn n (-((n : Int) / 1) * (0 : Nat))) * 2 ^ tn n (-((n : Int) / 2) * (0 : Nat))) * 2 ^ tn n (-2),
   (a - b * 2 ^ tn n (-((n : Int) / 1) * (0 : Nat)) - (c - d * 2 ^ tn n (-((n : Int) / 1) * (0 : Nat))) * 2 ^ tn n (-((n : Int) / 2) * (1 : Nat))) * 2 ^ tn n (-2)] := rfl
theorem wt2 (n : Nat) (st a b : Int) : wt n st [a, b] = [a * 2 ^ tn n (st * (0 : Nat)), b * 2 ^ tn n (st * (1 : Nat))] := rfl
theorem wt4 (n : Nat) (st a b c d : Int) : wt n st [a, b, c, d] = [a * 2 ^ tn n (st * (0 : Nat)), b * 2 ^ tn n (st * (1 : Nat)), c * 2 ^ tn n (st * (2 : Nat)), d * 2 ^ tn n (st * (3 : Nat))] := rfl
theorem cv_2 {n : Nat} {P : Int} (h : sameM P (C2 (2 ^ tn n (2 * (n : Int) / 2 * (0 : Nat))) (2 ^ tn n (-((n : Int) / 1) * (0 : Nat))) (2 ^ tn n (-1))) (D2 1) = true) (a0 a1 b0 b1 : Int) :
    (cv n [a0, a1] [b0, b1]).map (· % P) = (due2 1 a0 a1 b0 b1).map (· % P) := by
  rw [cv, fwd2, fwd2]
  refine (congrArg (List.map (· % P)) (bwd2 ..)).trans (cyc2 h a0 a1 b0 b1)
theorem cv_4 {n : Nat} {P : Int} (h : sameM P (C4 (2 ^ tn n (2 * (2 * (n : Int) / 4) * (0 : Nat))) (2 ^ tn n (2 * (n : Int) / 4 * (0 : Nat))) (2 ^ tn n (-((n : Int) / 1) * (0 : Nat))) (2 ^ tn n (-((n : Int) / 2) * (0 : Nat))) (2 ^ tn n (2 * (n : Int) / 4 * (1 : Nat))) (2 ^ tn n (-((n : Int) / 2) * (1 : Nat))) (2 ^ tn n (-2))) D4 = true)
    (a0 a1 a2 a3 b0 b1 b2 b3 : Int) : (cv n [a0, a1, a2, a3] [b0, b1, b2, b3]).map (· % P) = (due4 1 a0 a1 a2 a3 b0 b1 b2 b3).map (· % P) := by
  rw [cv, fwd4, fwd4]
  exact (congrArg (List.map (· % P)) (bwd4 ..)).trans (cyc4 h a0 a1 a2 a3 b0 b1 b2 b3 rfl rfl rfl rfl)
noncomputable def ok2 (n : Nat) (P : Int) : Bool := sameM P (C2 (2 ^ tn n (2 * (n : Int) / 2 * (0 : Nat))) (2 ^ tn n (-((n : Int) / 1) * (0 : Nat))) (2 ^ tn n (-1))) (D2 1)
noncomputable def ok4 (n : Nat) (P : Int) : Bool := sameM P (C4 (2 ^ tn n (2 * (2 * (n : Int) / 4) * (0 : Nat))) (2 ^ tn n (2 * (n : Int) / 4 * (0 : Nat))) (2 ^ tn n (-((n : Int) / 1) * (0 : Nat))) (2 ^ tn n (-((n : Int) / 2) * (0 : Nat))) (2 ^ tn n (2 * (n : Int) / 4 * (1 : Nat))) (2 ^ tn n (-((n : Int) / 2) * (1 : Nat))) (2 ^ tn n (-2))) D4
noncomputable def two2 (P : Int) (w : Nat → Int) (φ : Nat → Int) : Bool := sameM P [[w 0 * w 0 * φ 0, w 1 * w 1 * φ 0], [w 0 * w 1 * φ 1, w 1 * w 0 * φ 1]] [[1, -1], [1, 1]]
noncomputable def two4 (P : Int) (w : Nat → Int) (φ : Nat → Int) : Bool := sameM P [[w 0 * w 0 * φ 0, w 1 * w 3 * φ 0, w 2 * w 2 * φ 0, w 3 * w 1 * φ 0], [w 0 * w 1 * φ 1, w 1 * w 0 * φ 1, w 2 * w 3 * φ 1, w 3 * w 2 * φ 1], [w 0 * w 2 * φ 2, w 1 * w 1 * φ 2, w 2 * w 0 * φ 2, w 3 * w 3 * φ 2], [w 0 * w 3 * φ 3, w 1 * w 2 * φ 3, w 2 * w 1 * φ 3, w 3 * w 0 * φ 3]]
      [[1, -1, -1, -1], [1, 1, -1, -1], [1, 1, 1, -1], [1, 1, 1, 1]]
noncomputable def w2 (n m : Nat) (i : Nat) : Int := 2 ^ tn n ((n : Int) / (m : Int) * (i : Int))
noncomputable def φ2 (n m : Nat) (i : Nat) : Int := 2 ^ tn n (-((n : Int) / (m : Int)) * (i : Int))
theorem list2 {l : List Int} (h : l.length = 2) : l = [l.getD 0 0, l.getD 1 0] := by
  match l, h with
  | [_, _], _ => rfl
theorem list4 {l : List Int} (h : l.length = 4) : l = [l.getD 0 0, l.getD 1 0, l.getD 2 0, l.getD 3 0] := by
  match l, h with
  | [_, _, _, _], _ => rfl
theorem cvm_2 {n : Nat} {P : Int} (h : ok2 n P = true) (ht : two2 P (w2 n 2) (φ2 n 2) = true) (a0 a1 b0 b1 : Int) : (cvm n [a0, a1] [b0, b1]).map (· % P) = (due2 (-1) a0 a1 b0 b1).map (· % P) := by
  have e := list2 (cv_length n (a := [a0 * w2 n 2 0, a1 * w2 n 2 1]) (b := [b0 * w2 n 2 0, b1 * w2 n 2 1]) rfl)
  have g := cv_2 (n := n) (P := P) h (a0 * w2 n 2 0) (a1 * w2 n 2 1) (b0 * w2 n 2 0) (b1 * w2 n 2 1)
  rw [e] at g
  have f := tw2 a0 a1 b0 b1 g (φ0 := φ2 n 2 0) (φ1 := φ2 n 2 1) ht
  refine Eq.trans ?_ f
  show (wt n _ (cv n [a0 * w2 n 2 0, a1 * w2 n 2 1] [b0 * w2 n 2 0, b1 * w2 n 2 1])).map _ = _
  rw [e]; rfl
theorem cvm_4 {n : Nat} {P : Int} (h : ok4 n P = true) (ht : two4 P (w2 n 4) (φ2 n 4) = true) (a0 a1 a2 a3 b0 b1 b2 b3 : Int) : (cvm n [a0, a1, a2, a3] [b0, b1, b2, b3]).map (· % P) = (due4 (-1) a0 a1 a2 a3 b0 b1 b2 b3).map (· % P) := by
  have e := list4 (cv_length n (a := [a0 * w2 n 4 0, a1 * w2 n 4 1, a2 * w2 n 4 2, a3 * w2 n 4 3]) (b := [b0 * w2 n 4 0, b1 * w2 n 4 1, b2 * w2 n 4 2, b3 * w2 n 4 3]) rfl)
  have g := cv_4 (n := n) (P := P) h (a0 * w2 n 4 0) (a1 * w2 n 4 1) (a2 * w2 n 4 2) (a3 * w2 n 4 3) (b0 * w2 n 4 0) (b1 * w2 n 4 1) (b2 * w2 n 4 2) (b3 * w2 n 4 3)
  rw [e] at g
  have f := tw4 a0 a1 a2 a3 b0 b1 b2 b3 g (φ0 := φ2 n 4 0) (φ1 := φ2 n 4 1) (φ2 := φ2 n 4 2) (φ3 := φ2 n 4 3) ht
  refine Eq.trans ?_ f
  show (wt n _ (cv n [a0 * w2 n 4 0, a1 * w2 n 4 1, a2 * w2 n 4 2, a3 * w2 n 4 3] [b0 * w2 n 4 0, b1 * w2 n 4 1, b2 * w2 n 4 2, b3 * w2 n 4 3])).map _ = _
  rw [e]; rfl
theorem qL_of {w n : Nat} {l l' : List Int} (h : l.map (· % ((2 ^ n + 1 : Nat) : Int)) = l'.map (· % ((2 ^ n + 1 : Nat) : Int))) : qL w n l = qL w n l' := by
  have e : ∀ l : List Int, qL w n l = (l.map (· % ((2 ^ n + 1 : Nat) : Int))).map fun z => R (2 ^ w) z.toNat := fun l => by
    unfold qL Q rd
    rw [List.map_map]; rfl
  rw [e, e, h]
theorem rings_ok : ∀ n, n = 4 ∨ n = 8 ∨ n = 12 ∨ n = 16 → (ok2 n ((2 ^ n + 1 : Nat) : Int) = true ∧ two2 ((2 ^ n + 1 : Nat) : Int) (w2 n 2) (φ2 n 2) = true) ∧ ok4 n ((2 ^ n + 1 : Nat) : Int) = true ∧ two4 ((2 ^ n + 1 : Nat) : Int) (w2 n 4) (φ2 n 4) = true := fun n hn => by
  rcases hn with rfl | rfl | rfl | rfl <;> decide +kernel
theorem qcv_2 {w n : Nat} (hn : n = 4 ∨ n = 8 ∨ n = 12 ∨ n = 16) (a0 a1 b0 b1 : Int) : qL w n (cv n [a0, a1] [b0, b1]) = qL w n (due2 1 a0 a1 b0 b1) := qL_of (cv_2 (rings_ok n hn).1.1 a0 a1 b0 b1)
theorem qcvm_2 {w n : Nat} (hn : n = 4 ∨ n = 8 ∨ n = 12 ∨ n = 16) (a0 a1 b0 b1 : Int) : qL w n (cvm n [a0, a1] [b0, b1]) = qL w n (due2 (-1) a0 a1 b0 b1) := qL_of (cvm_2 (rings_ok n hn).1.1 (rings_ok n hn).1.2 a0 a1 b0 b1)
theorem qcv_4 {w n : Nat} (hn : n = 4 ∨ n = 8 ∨ n = 12 ∨ n = 16) (a0 a1 a2 a3 b0 b1 b2 b3 : Int) : qL w n (cv n [a0, a1, a2, a3] [b0, b1, b2, b3]) = qL w n (due4 1 a0 a1 a2 a3 b0 b1 b2 b3) := qL_of (cv_4 (rings_ok n hn).2.1 a0 a1 a2 a3 b0 b1 b2 b3)
theorem qcvm_4 {w n : Nat} (hn : n = 4 ∨ n = 8 ∨ n = 12 ∨ n = 16) (a0 a1 a2 a3 b0 b1 b2 b3 : Int) : qL w n (cvm n [a0, a1, a2, a3] [b0, b1, b2, b3]) = qL w n (due4 (-1) a0 a1 a2 a3 b0 b1 b2 b3) := qL_of (cvm_4 (rings_ok n hn).2.1 (rings_ok n hn).2.2 a0 a1 a2 a3 b0 b1 b2 b3)
end Mine
end
section
open PySem PySem.W PyProof.Rows PySem.Calls
set_option maxRecDepth 10000
set_option maxHeartbeats 2000000
namespace Mine
variable {W : Wd}

noncomputable def sp (n : Nat) : Bool := decide (2 ≤ n ∧ ∀ k, k < n → k < 2 ∨ n < k * k ∨ n % k ≠ 0)
theorem is_small_prime_ok (P : Prg W) {n : Nat} (hn : n ≤ 10000) : CallOK W 1 "is_small_prime" [.int (n : Int)] (.bool (sp n)) := by
  refine fn_ok P.f_is_small_prime ["n"] ["at"] [] (fun n => by kernel_rfl) rfl ?_ ?_
  · intro m
    refine all1 fun v1 => ?_
    kernel_rfl
  intro A m L a h₀ av
  refine X.else (EvT.cmp (Ev.name 0 rfl rfl) Ev.int cmp_lt) (fun h => ?_) (fun h => ?_)
  · have : sp n = false := decide_eq_false fun z => by simp at h; omega
    rw [this]
    exact X.ret Ev.bool (.inl rfl)
  have h2 : 2 ≤ n := by simp at h; omega
  refine X.set 1 Ev.int ?_
  refine X.while (fun z ρ => ∃ k : Nat, z = n + 1 - k ∧ 2 ≤ k ∧ k ≤ n ∧ (∀ j, j < k → j < 2 ∨ n < j * j ∨ n % j ≠ 0) ∧ ρ = [some (.p (.int (n : Int))), some (.p (.int (k : Int)))]) (n + 1 - 2) ⟨2, rfl, by omega, h2, fun j hj => .inl hj, rfl⟩ fun z ρ hI => ?_
  obtain ⟨k, rfl, hk, hkn, hall, rfl⟩ := hI
  refine ⟨_, (EvT.cmp (Ev.binop (Ev.name 1 rfl rfl) (Ev.name 1 rfl rfl) (op_mul (.inl (by omega)))) (Ev.name 0 rfl rfl) cmp_le), fun h => ?_, fun h => ?_⟩
  · rw [← Int.natCast_mul] at h
    have hkk : k * k ≤ n := by simpa only [decide_eq_true_eq, Int.ofNat_le] using h
    have hlt : k < n := by
      have : k * 2 ≤ k * k := Nat.mul_le_mul_left k hk
      omega
    refine X.else (EvT.cmp (Ev.binop (Ev.name 0 rfl rfl) (Ev.name 1 rfl rfl) (op_mod (by omega))) Ev.int cmp_eq) (fun h => ?_) (fun h => ?_)
    · have hm : n % k = 0 := by
        rw [← Int.natCast_emod] at h
        have := eq_of_beq h
        omega
      have : sp n = false := decide_eq_false fun z => by
        rcases z.2 k hlt with q | q | q <;> omega
      rw [this]
      exact X.ret Ev.bool (.inl rfl)
    · have hm : n % k ≠ 0 := by
        rw [← Int.natCast_emod] at h
        intro e
        rw [e] at h; simp at h
      refine X.aug 1 Ev.int iop_add (Ex.nil ⟨n + 1 - (k + 1), by omega, k + 1, rfl, by omega, by omega, fun j hj => ?_, rfl⟩)
      rcases Nat.lt_or_ge j k with q | q
      · exact hall j q
      · have : j = k := by omega
        subst this; exact .inr (.inr hm)
  · rw [← Int.natCast_mul] at h
    have hkk : n < k * k := by simpa only [decide_eq_false_iff_not, Int.ofNat_le, Nat.not_le] using h
    have : sp n = true := decide_eq_true ⟨h2, fun j hj => by
      rcases Nat.lt_or_ge j k with q | q
      · exact hall j q
      · exact .inr (.inl (Nat.lt_of_lt_of_le hkk (Nat.mul_le_mul q q)))⟩
    rw [this]
    exact X.ret Ev.bool (.inl rfl)

theorem prime_for_ok (P : Prg W) {size bound t p : Nat} (hs : 0 < size) (hp : p = bound - bound % size + 1 + size * t) (hp1 : p ≤ 10000) (hb : bound < p) (hsp : sp p = true)
    (hall : ∀ i, i < t → bound - bound % size + 1 + size * i ≤ bound ∨ sp (bound - bound % size + 1 + size * i) = false) : CallOK W 2 "prime_for" [.int (size : Int), .int (bound : Int)] (.int (p : Int)) := by
  refine fn_ok P.f_prime_for ["size", "bound"] ["found"] ["is_small_prime"] (fun n => by kernel_rfl) rfl ?_ ?_
  · intro m
    refine all2 fun v1 v2 => ?_
    kernel_rfl
  intro A m L a h₀ av
  have hle : bound % size ≤ bound := Nat.mod_le _ _
  refine X.set 2 (d := .int ((bound - bound % size + 1 : Nat) : Int)) ((Ev.binop (Ev.binop (Ev.name 1 rfl rfl) (Ev.binop (Ev.name 1 rfl rfl) (Ev.name 0 rfl rfl) (op_mod (by omega))) op_sub) Ev.int op_add).to ?_) ?_
  · rw [← Int.natCast_emod]
    generalize bound % size = r at *
    congr 1; omega
  generalize bound - bound % size + 1 = f0 at *
  refine X.while (fun z ρ => ∃ i : Nat, i ≤ t ∧ z = t - i ∧ ρ = [some (.p (.int (size : Int))), some (.p (.int (bound : Int))), some (.p (.int ((f0 + size * i : Nat) : Int)))]) t ⟨0, by omega, rfl, rfl⟩ fun z ρ hI => ?_
  obtain ⟨i, hi, rfl, rfl⟩ := hI
  have hile : size * i ≤ size * t := Nat.mul_le_mul_left _ hi
  refine ⟨_, (EvT.or (EvT.cmp (Ev.name 2 rfl rfl) (Ev.name 1 rfl rfl) cmp_le) fun h => (EvT.not (EvT.val (Ev.callG 0 rfl (EvL.cons (Ev.name 2 rfl rfl) EvL.nil) (is_small_prime_ok P (by omega)) (Nat.le_of_ble_eq_true rfl))))), fun h => ?_, fun h => ?_⟩
  · have hit : i < t := by
      rcases Nat.lt_or_ge i t with q | q
      · exact q
      · have : i = t := by omega
        subst this
        rw [← hp, hsp] at h
        simp at h; omega
    refine X.aug 2 (Ev.name 0 rfl rfl) iop_add (Ex.nil ⟨t - (i + 1), by omega, i + 1, by omega, rfl, ?_⟩)
    dsimp only [List.set]
    rw [← Int.natCast_add, Nat.mul_succ, Nat.add_assoc]
  · have hit : i = t := by
      rcases Nat.lt_or_ge i t with q | q
      · rcases hall i q with z | z
        · simp only [Bool.or_eq_false_iff, decide_eq_false_iff_not] at h
          omega
        · rw [z] at h; simp at h
      · omega
    subst hit
    rw [hp]
    exact X.ret (Ev.name 2 rfl rfl) (.inl rfl)

theorem emod_pow (x p : Int) : ∀ m : Nat, (x % p) ^ m % p = x ^ m % p
  | 0 => by rw [Int.pow_zero, Int.pow_zero]
  | m + 1 => by
    rw [Int.pow_succ, Int.pow_succ, Int.mul_emod, emod_pow x p m, Int.emod_emod, ← Int.mul_emod]
theorem pp_turn (F A p : Int) (n : Nat) : (if n % 2 = 1 then F * A % p else F % p) * (A * A % p) ^ (n / 2) % p = F * A ^ n % p := by
  have e : A ^ n = (if n % 2 = 1 then A else 1) * (A * A) ^ (n / 2) := by
    have h1 := Nat.mod_add_div n 2
    have h2 : (A * A) ^ (n / 2) = A ^ (2 * (n / 2)) := by rw [Int.pow_mul, Int.pow_succ, Int.pow_succ, Int.pow_zero, Int.one_mul]
    rw [h2]
    split
    · rename_i h
      conv => lhs; rw [← h1, h, Int.pow_add, Int.pow_succ, Int.pow_zero, Int.one_mul]
    · rename_i h
      have : n % 2 = 0 := by omega
      conv => lhs; rw [← h1, this, Nat.zero_add]
      rw [Int.one_mul]
  rw [e, Int.mul_emod, emod_pow, ← Int.mul_assoc]
  conv => rhs; rw [Int.mul_emod]
  congr 2
  split <;> simp
theorem plain_power_ok (P : Prg W) {A₀ : Int} {n₀ p : Nat} (hp : 0 < p) (hp1 : p ≤ 10000) (hA : A₀.natAbs ≤ 10000) : CallOK W 1 "plain_power" [.int A₀, .int (n₀ : Int), .int (p : Int)] (.int (A₀ ^ n₀ % (p : Int))) := by
  refine fn_ok P.f_plain_power ["a", "n", "p"] ["found"] [] (fun n => by kernel_rfl) rfl ?_ ?_
  · intro m
    refine all3 fun v1 v2 v3 => ?_
    kernel_rfl
  intro A m L a h₀ av
  refine X.set 3 (Ev.binop Ev.int (Ev.name 2 rfl rfl) (op_mod (by omega))) ?_
  refine X.while (fun n ρ => ∃ F Z : Int, F * Z ^ n % (p : Int) = A₀ ^ n₀ % (p : Int) ∧ F % (p : Int) = F ∧ Z.natAbs ≤ 10000 ∧ F.natAbs ≤ 10000 ∧ ρ = [some (.p (.int Z)), some (.p (.int (n : Int))), some (.p (.int (p : Int))), some (.p (.int F))]) n₀ ⟨1 % (p : Int), A₀, ?_, ?_, hA, ?_, rfl⟩ fun n ρ hI => ?_
  · rw [Int.mul_emod, Int.emod_emod, ← Int.mul_emod, Int.one_mul]
  · exact Int.emod_emod ..
  · have := Int.emod_lt_of_pos 1 (show (0 : Int) < (p : Int) by omega)
    have := Int.emod_nonneg 1 (show (p : Int) ≠ 0 by omega)
    omega
  obtain ⟨F, Z, hF, hFF, hZ, hFb, rfl⟩ := hI
  have hb : ∀ z : Int, (z % (p : Int)).natAbs ≤ 10000 := fun z => by
    have := Int.emod_lt_of_pos z (show (0 : Int) < (p : Int) by omega)
    have := Int.emod_nonneg z (show (p : Int) ≠ 0 by omega)
    omega
  refine ⟨_, (EvT.cmp (Ev.name 1 rfl rfl) Ev.int cmp_gt), fun h => ?_, fun h => ?_⟩
  · have hn0 : 0 < n := by simpa using h
    have tail : ∀ F' : Int, F' = (if n % 2 = 1 then F * Z % (p : Int) else F % (p : Int)) → Ex (mkC W (stm 17) "plain_power" ["a", "n", "p", "found"] [] 0 A m L a h₀ av) [some (.p (.int Z)), some (.p (.int (n : Int))), some (.p (.int (p : Int))), some (.p (.int F'))]
        (match bodyOf (stm 17) with | _ :: .While _ b _ _ :: _ => b.tail | _ => []) (Turn (Cont (mkC W (stm 17) "plain_power" ["a", "n", "p", "found"] [] 0 A m L a h₀ av) (bodyOf (stm 17)).tail.tail fun o => o = .ret (.int (A₀ ^ n₀ % (p : Int))) ∨ (D.int (A₀ ^ n₀ % (p : Int)) = .none ∧ ∃ ρ', o = .next ρ')) fun ρ'' => ∃ m, m < n ∧ ∃ F Z : Int, F * Z ^ m % (p : Int) = A₀ ^ n₀ % (p : Int) ∧ F % (p : Int) = F ∧ Z.natAbs ≤ 10000 ∧ F.natAbs ≤ 10000 ∧ ρ'' = [some (.p (.int Z)), some (.p (.int (m : Int))), some (.p (.int (p : Int))), some (.p (.int F))]) := fun F' hF' => by
      refine X.set 0 (Ev.binop (Ev.binop (Ev.name 0 rfl rfl) (Ev.name 0 rfl rfl) (op_mul (.inl (by omega)))) (Ev.name 2 rfl rfl) (op_mod (by omega))) ?_
      dsimp only [List.set]
      refine X.aug 1 Ev.int (iop_div (by decide) (by decide)) (Ex.nil ⟨n / 2, by omega, F', Z * Z % (p : Int), ?_, ?_, hb _, ?_, rfl⟩)
      · rw [hF', pp_turn, hF]
      · rw [hF']; split <;> exact Int.emod_emod ..
      · rw [hF']; split <;> exact hb _
    refine X.else (EvT.cmp (Ev.binop (Ev.name 1 rfl rfl) Ev.int (op_mod (by decide))) Ev.int cmp_eq) (fun h => ?_) (fun h => ?_)
    · have hodd : n % 2 = 1 := by
        have := eq_of_beq h
        omega
      refine X.set 3 (Ev.binop (Ev.binop (Ev.name 3 rfl rfl) (Ev.name 0 rfl rfl) (op_mul (.inl (by omega)))) (Ev.name 2 rfl rfl) (op_mod (by omega))) (Ex.nil ?_)
      dsimp only [List.set, Cont]
      exact tail _ (by rw [if_pos hodd])
    · have hodd : ¬ n % 2 = 1 := fun e => by
        have : ((n : Int) % 2 == 1) = true := beq_iff_eq.mpr (by omega)
        rw [this] at h; cases h
      exact tail _ (by rw [if_neg hodd, hFF])
  · have : n = 0 := by simp at h; omega
    subst this
    rw [Int.pow_zero, Int.mul_one, hFF] at hF
    rw [← hF]
    exact X.ret (Ev.name 3 rfl rfl) (.inl rfl)
end Mine
end
section
open PySem PySem.W PyProof.Rows PySem.Calls
set_option maxRecDepth 10000
set_option maxHeartbeats 2000000
namespace Mine
variable {W : Wd}

theorem root_of_unity_ok (P : Prg W) {size p t : Nat} {r : Int} (hp : 1 < p) (hp1 : p ≤ 10000) (hs : 1 < size) (hs1 : size ≤ 10000) (hd : (p - 1) % size = 0) (ht : t ≤ 1000)
    (hno : ∀ i, i < t → ((2 + i : Nat) : Int) ^ ((p - 1) / 2) % (p : Int) ≠ (p : Int) - 1) (hyes : ((2 + t : Nat) : Int) ^ ((p - 1) / 2) % (p : Int) = (p : Int) - 1) (hr : ((2 + t : Nat) : Int) ^ ((p - 1) / size) % (p : Int) = r) :
    CallOK W 2 "root_of_unity" [.int (size : Int), .int (p : Int)] (.int r) := by
  refine fn_ok P.f_root_of_unity ["size", "p"] ["base"] ["OutOfRange", "plain_power"] (fun n => by kernel_rfl) rfl ?_ ?_
  · intro m
    refine all2 fun v1 v2 => ?_
    kernel_rfl
  intro A m L a h₀ av
  have e1 : (p : Int) - 1 = ((p - 1 : Nat) : Int) := by omega
  refine X.no ((EvT.cmp (Ev.binop (Ev.binop (Ev.name 1 rfl rfl) Ev.int op_sub) (Ev.name 0 rfl rfl) (op_mod (by omega))) Ev.int cmp_ne).to ?_) ?_
  · rw [e1, ← Int.natCast_emod, hd]; rfl
  refine X.no ((EvT.cmp (Ev.name 0 rfl rfl) Ev.int cmp_eq).to ?_) ?_
  · simp; omega
  refine X.set 2 Ev.int ?_
  refine X.while (fun z ρ => ∃ i : Nat, i ≤ t ∧ z = t - i ∧ ρ = [some (.p (.int (size : Int))), some (.p (.int (p : Int))), some (.p (.int ((2 + i : Nat) : Int)))]) t ⟨0, by omega, rfl, rfl⟩ fun z ρ hI => ?_
  obtain ⟨i, hi, rfl, rfl⟩ := hI
  refine ⟨_, (EvT.cmp (Ev.callG 1 rfl (EvL.cons (Ev.name 2 rfl rfl) (EvL.cons ((Ev.binop (Ev.binop (Ev.name 1 rfl rfl) Ev.int op_sub) Ev.int (op_div (by decide) (by decide))).to (congrArg D.int (show ((p : Int) - 1) / 2 = (((p - 1) / 2 : Nat) : Int) by omega))) (EvL.cons (Ev.name 1 rfl rfl) EvL.nil))) (plain_power_ok P (by omega) hp1 (by omega)) (Nat.le_of_ble_eq_true rfl)) (Ev.binop (Ev.name 1 rfl rfl) Ev.int op_sub) cmp_ne), fun h => ?_, fun h => ?_⟩
  · have hit : i < t := by
      rcases Nat.lt_or_ge i t with q | q
      · exact q
      · have : i = t := by omega
        subst this
        rw [hyes] at h
        simp at h
    refine X.aug 2 Ev.int iop_add (Ex.nil ⟨t - (i + 1), by omega, i + 1, by omega, rfl, rfl⟩)
  · have hit : i = t := by
      rcases Nat.lt_or_ge i t with q | q
      · exact absurd (by simpa using h) (hno i q)
      · omega
    subst hit
    refine X.ret ((Ev.callG 1 rfl (EvL.cons (Ev.name 2 rfl rfl) (EvL.cons ((Ev.binop (Ev.binop (Ev.name 1 rfl rfl) Ev.int op_sub) (Ev.name 0 rfl rfl) (op_div (by omega) (by omega))).to (d' := .int (((p - 1) / size : Nat) : Int)) ?_) (EvL.cons (Ev.name 1 rfl rfl) EvL.nil))) (plain_power_ok P (by omega) hp1 (by omega)) (Nat.le_of_ble_eq_true rfl)).to (congrArg D.int hr)) (.inl rfl)
    rw [e1]; simp

noncomputable def pwL (r : Int) (p k : Nat) : List D := (List.range k).map fun i => D.int (r ^ i % (p : Int))
theorem pwL_length (r : Int) (p k : Nat) : (pwL r p k).length = k := by simp [pwL]
theorem pwL_get {r : Int} {p k i : Nat} (h : i < k) : (pwL r p k)[i]? = some (.int (r ^ i % (p : Int))) := by simp [pwL, h]
theorem pwL_succ (r : Int) (p k : Nat) : pwL r p (k + 1) = pwL r p k ++ [.int (r ^ k % (p : Int))] := by simp [pwL, List.range_succ]
theorem mod_small {p : Nat} (hp : 0 < p) (hp1 : p ≤ 10000) (z : Int) : (z % (p : Int)).natAbs ≤ 10000 := by
  have := Int.emod_lt_of_pos z (show (0 : Int) < (p : Int) by omega)
  have := Int.emod_nonneg z (show (p : Int) ≠ 0 by omega)
  omega
theorem powers_of_ok (P : Prg W) {r : Int} {many p : Nat} (hp : 0 < p) (hp1 : p ≤ 10000) (hm : 1 ≤ many) (hm1 : many ≤ 100) : CallOK W 1 "powers_of" [.int r, .int (many : Int), .int (p : Int)] (.list (pwL r p many)) := by
  refine fn_ok P.f_powers_of ["root", "many", "p"] ["found"] ["len"] (fun n => by kernel_rfl) rfl ?_ ?_
  · intro m
    refine all3 fun v1 v2 v3 => ?_
    kernel_rfl
  intro A m L a h₀ av
  refine X.own 3 (ds := pwL r p 1) ((EvO.disp (EvL.cons (Ev.binop Ev.int (Ev.name 2 rfl rfl) (op_mod (by omega))) EvL.nil)).to ?_) fun ad => ?_
  · simp [pwL, List.range_succ]
  refine X.while (fun z ρ => ∃ k : Nat, 1 ≤ k ∧ k ≤ many ∧ z = many - k ∧ ρ = [some (.p (.int r)), some (.p (.int (many : Int))), some (.p (.int (p : Int))), some (.own ad (pwL r p k))]) (many - 1) ⟨1, by omega, hm, rfl, rfl⟩ fun z ρ hI => ?_
  obtain ⟨k, hk, hkm, rfl, rfl⟩ := hI
  refine ⟨_, (EvT.cmp (Ev.len 0 rfl P.len (EvSeq.own 3 rfl rfl) (by rw [pwL_length]; omega)) (Ev.name 1 rfl rfl) cmp_lt), fun h => ?_, fun h => ?_⟩
  · rw [pwL_length] at h
    have hkm : k < many := by simpa using h
    obtain ⟨j, rfl⟩ : ∃ j, k = j + 1 := ⟨k - 1, by omega⟩
    have hsm := mod_small hp hp1 (r ^ j)
    have eg : (pwL r p (j + 1))[j]? = some (.int (r ^ j % (p : Int))) := pwL_get (by omega)
    refine X.app 3 (d := .int (r ^ (j + 1) % (p : Int))) ((Ev.binop (Ev.binop (Ev.itemN (EvSeq.own 3 rfl rfl) (Ev.binop (Ev.len 0 rfl P.len (EvSeq.own 3 rfl rfl) ?_) Ev.int op_sub) j ?_ ?_ eg) (Ev.name 0 rfl rfl) (op_mul (.inl (by omega)))) (Ev.name 2 rfl rfl) (op_mod (by omega))).to ?_) ?_ (Ex.nil ⟨many - (j + 1 + 1), by omega, j + 1 + 1, by omega, by omega, rfl, ?_⟩)
    · rw [pwL_length]; omega
    · rw [pwL_length]; omega
    · omega
    · rw [Int.pow_succ, Int.mul_emod, Int.emod_emod, ← Int.mul_emod]
    · rw [pwL_length]; omega
    · dsimp only [List.set]
      rw [pwL_succ r p (j + 1)]
  · rw [pwL_length] at h
    have hkm : k = many := by simp at h; omega
    subst hkm
    refine X.ret (EvO.ev (EvO.upto (EvSeq.own 3 rfl rfl) (Ev.name 1 rfl rfl) ?_ ?_)) (.inl ?_)
    · omega
    · rw [pwL_length]; omega
    · rw [tw, List.take_of_length_le (by rw [pwL_length]; omega)]

theorem filled_ok (P : Prg W) {ds : List D} {size : Nat} (h : ds.length = size) (hs : size ≤ 100) : CallOK W 1 "filled" [.list ds, .int (size : Int)] (.list ds) := by
  refine fn_ok P.f_filled ["row", "size"] [] ["len"] (fun n => by kernel_rfl) rfl ?_ ?_
  · intro m
    refine all2 fun v1 v2 => ?_
    kernel_rfl
  intro A m L a h₀ av
  refine X.ret (EvO.ev (EvO.cat (EvSeq.of (Ev.name 0 rfl rfl)) (EvSeq.of (EvO.ev (EvO.rep (EvSeq.of (EvO.ev (EvO.disp (EvL.cons Ev.int EvL.nil)))) (Ev.binop (Ev.name 1 rfl rfl) (Ev.len 0 rfl P.len (EvSeq.of (Ev.name 0 rfl rfl)) ?_) op_sub) ?_ ?_))) ?_)) (.inl ?_)
  · omega
  · omega
  · omega
  · rw [List.length_replicate]; omega
  · rw [h, Int.sub_self]; simp
end Mine
end
section
open PySem PySem.W PyProof.Rows PySem.Calls
set_option maxRecDepth 10000
set_option maxHeartbeats 2000000
namespace Mine
variable {W : Wd}

section
variable {c : Cx} {ρ : Loc} {rest : List Stmt} {Φ : Out → Prop}
theorem X.c1 (k : Nat) (x : Str) (cs gs : List Str) (caps : List (Nat × D)) {z : Str} {np spos p : Pos} {iter elt : Expr} {tidy : Bool} {dss : List (List D)} {outs : List D} {scope : Scope} {pos : Pos} (hit : EvIt c ρ (.Name x p) iter true tidy dss) (hlen : outs.length = dss.length)
    (hel : ∀ (i : Nat) ds d, dss[i]? = some ds → outs[i]? = some d → ∃ u, ds = [u] ∧ ∀ cl C av, Ev (mkK c scope cl (x :: cs) gs C av) (rhoK [u] caps) elt d)
    {cl : List (Str × Addr)} (clos : closureFor scope c.env = pure cl) (hc : KC c ρ scope cl cs caps) (h : ∀ a, Ex c (ρ.set k (some (.own a outs))) rest Φ)
    (hk : c.ks[k]? = some z := by rfl) (hl : (ρ[k]?).isSome = true := by rfl) (hks : Nat.ble c.ks.length ρ.length = true := by rfl)
    (kind : scope.kind = .function := by rfl) (h1 : (scope.names.all fun y => !(y.2 == .cell)) = true := by rfl) (h2 : (scope.names.all fun y => !(y.2 == .local) || scope.names.lookup y.1 == some .local) = true := by rfl)
    (h3 : (decide ([x] ++ cs).Nodup) = true := by rfl) (h4 : ([x].all fun x => (relabel scope c.env).names.lookup x == some .local) = true := by rfl) (h5 : (gs.all fun x => (relabel scope c.env).names.lookup x == some .globalImplicit) = true := by rfl)
    (h6 : (([x] ++ cs ++ gs).all fun x => !(x == ("__debug__" : Str))) = true := by rfl)
    (hsw : swapsWith (.ListComp elt [⟨.Name x p, iter, [], 0⟩] scope pos) (some (.Name z np)) spos.line c.env = pure true := by rfl) (hs : ∀ x, foldedSetIterable iter c.env x = pure x := by intro _; rfl) :
    Ex c ρ (.Assign [.Name z np] (.ListComp elt [⟨.Name x p, iter, [], 0⟩] scope pos) spos :: rest) Φ := by
  refine Ex.cons (ExS.assignComp (single := true) k hk (lt_of_some hl) (Nat.le_of_ble_eq_true hks) (KOk.of clos hc kind h1 h2 h3 h4 h5 h6) ⟨_, _, rfl, rfl⟩ hit hlen (fun i ds d hi hd => ?_) h hsw hs)
  obtain ⟨u, rfl, h⟩ := hel i ds d hi hd
  exact ⟨rfl, fun C av => h cl C av⟩
theorem X.c2 (k : Nat) (x y : Str) (cs gs : List Str) (caps : List (Nat × D)) {z : Str} {np spos p p₁ p₂ : Pos} {kk : Nat} {iter elt : Expr} {tidy : Bool} {dss : List (List D)} {outs : List D} {scope : Scope} {pos : Pos} (hit : EvIt c ρ (.Tuple [.Name x p₁, .Name y p₂] kk p) iter false tidy dss) (hlen : outs.length = dss.length)
    (hel : ∀ (i : Nat) ds d, dss[i]? = some ds → outs[i]? = some d → ∃ u v, ds = [u, v] ∧ ∀ cl C av, Ev (mkK c scope cl (x :: y :: cs) gs C av) (rhoK [u, v] caps) elt d)
    {cl : List (Str × Addr)} (clos : closureFor scope c.env = pure cl) (hc : KC c ρ scope cl cs caps) (h : ∀ a, Ex c (ρ.set k (some (.own a outs))) rest Φ)
    (hk : c.ks[k]? = some z := by rfl) (hl : (ρ[k]?).isSome = true := by rfl) (hks : Nat.ble c.ks.length ρ.length = true := by rfl)
    (kind : scope.kind = .function := by rfl) (h1 : (scope.names.all fun y => !(y.2 == .cell)) = true := by rfl) (h2 : (scope.names.all fun y => !(y.2 == .local) || scope.names.lookup y.1 == some .local) = true := by rfl)
    (h3 : (decide ([x, y] ++ cs).Nodup) = true := by rfl) (h4 : ([x, y].all fun x => (relabel scope c.env).names.lookup x == some .local) = true := by rfl) (h5 : (gs.all fun x => (relabel scope c.env).names.lookup x == some .globalImplicit) = true := by rfl)
    (h6 : (([x, y] ++ cs ++ gs).all fun x => !(x == ("__debug__" : Str))) = true := by rfl)
    (hsw : swapsWith (.ListComp elt [⟨.Tuple [.Name x p₁, .Name y p₂] kk p, iter, [], 0⟩] scope pos) (some (.Name z np)) spos.line c.env = pure true := by rfl) (hs : ∀ x, foldedSetIterable iter c.env x = pure x := by intro _; rfl) :
    Ex c ρ (.Assign [.Name z np] (.ListComp elt [⟨.Tuple [.Name x p₁, .Name y p₂] kk p, iter, [], 0⟩] scope pos) spos :: rest) Φ := by
  refine Ex.cons (ExS.assignComp (single := false) k hk (lt_of_some hl) (Nat.le_of_ble_eq_true hks) (KOk.of clos hc kind h1 h2 h3 h4 h5 h6) ⟨_, _, _, _, _, _, rfl, rfl⟩ hit hlen (fun i ds d hi hd => ?_) h hsw hs)
  obtain ⟨u, v, rfl, h⟩ := hel i ds d hi hd
  exact ⟨rfl, fun C av => h cl C av⟩
end

noncomputable def iI (l : List Int) : List D := l.map D.int
theorem iI_length (l : List Int) : (iI l).length = l.length := by simp [iI]
theorem iI_at {l : List Int} {i : Nat} {d : D} (h : (iI l)[i]? = some d) : i < l.length ∧ d = .int (l.getD i 0) := by
  unfold iI at h
  rw [List.getElem?_map] at h
  rcases Nat.lt_or_ge i l.length with q | q
  · rw [List.getElem?_eq_getElem q] at h
    rw [List.getD_eq_getElem?_getD, List.getElem?_eq_getElem q]
    exact ⟨q, (Option.some.inj h).symm⟩
  · rw [List.getElem?_eq_none q] at h; cases h
noncomputable def pL (p : Nat) (l : List Int) : List D := l.map fun z => D.int (z % (p : Int))
theorem pL_length (p : Nat) (l : List Int) : (pL p l).length = l.length := by simp [pL]
theorem pL_get {p i : Nat} {l : List Int} (h : i < l.length) : (pL p l)[i]? = some (.int (l.getD i 0 % (p : Int))) := by
  unfold pL
  rw [List.getElem?_map, List.getElem?_eq_getElem h, List.getD_eq_getElem?_getD, List.getElem?_eq_getElem h]; rfl
theorem pL_at {p i : Nat} {l : List Int} {d : D} (h : (pL p l)[i]? = some d) : i < l.length ∧ d = .int (l.getD i 0 % (p : Int)) := by
  rcases Nat.lt_or_ge i l.length with q | q
  · rw [pL_get q] at h; exact ⟨q, (Option.some.inj h).symm⟩
  · rw [List.getElem?_eq_none (by rw [pL_length]; exact q)] at h; cases h
theorem pL_set (p i : Nat) (l : List Int) (x : Int) : (pL p l).set i (.int (x % (p : Int))) = pL p (l.set i x) := by
  simp [pL, List.map_set]
theorem pL_iI (p : Nat) (l : List Int) : pL p l = iI (l.map (· % (p : Int))) := by simp [pL, iI]

/-- a row of ints that stand for l modulo p -/
noncomputable def RM (p : Nat) (ds : List D) (l : List Int) : Prop := ds.length = l.length ∧ ∀ (i : Nat) (d : D), ds[i]? = some d → ∃ z : Int, d = .int z ∧ z % (p : Int) = l.getD i 0 % (p : Int)
theorem RM.iI (p : Nat) (l : List Int) : RM p (iI l) l := ⟨iI_length l, fun i d h => by
  obtain ⟨_, rfl⟩ := iI_at h
  exact ⟨_, rfl, rfl⟩⟩
theorem RM.pL (p : Nat) (l : List Int) : RM p (pL p l) l := ⟨pL_length p l, fun i d h => by
  obtain ⟨_, rfl⟩ := pL_at h
  exact ⟨_, rfl, Int.emod_emod_of_dvd _ (Int.dvd_refl _)⟩⟩

noncomputable def pfS (h : Nat) (mu : Nat → Int) (b i : Nat) (l : List Int) : List Int :=
  (l.set (b + i) (l.getD (b + i) 0 + l.getD (b + h + i) 0)).set (b + h + i) ((l.getD (b + i) 0 - l.getD (b + h + i) 0) * mu i)
noncomputable def pfA (h : Nat) (mu : Nat → Int) (b : Nat) : Nat → List Int → List Int
  | 0, l => l
  | i + 1, l => pfS h mu b i (pfA h mu b i l)
noncomputable def pfB (h : Nat) (mu : Nat → Int) : Nat → List Int → List Int
  | 0, l => l
  | j + 1, l => pfA h mu (2 * h * j) h (pfB h mu j l)
theorem pfA_length (h : Nat) (mu : Nat → Int) (b : Nat) (l : List Int) : ∀ i, (pfA h mu b i l).length = l.length
  | 0 => rfl
  | i + 1 => by rw [pfA, pfS, List.length_set, List.length_set, pfA_length h mu b l i]
theorem pfB_length (h : Nat) (mu : Nat → Int) (l : List Int) : ∀ j, (pfB h mu j l).length = l.length
  | 0 => rfl
  | j + 1 => by rw [pfB, pfA_length, pfB_length h mu l j]
noncomputable def pbS (h : Nat) (mu : Nat → Int) (b i : Nat) (l : List Int) : List Int :=
  (l.set (b + i) (l.getD (b + i) 0 + l.getD (b + h + i) 0 * mu i)).set (b + h + i) (l.getD (b + i) 0 - l.getD (b + h + i) 0 * mu i)
noncomputable def pbA (h : Nat) (mu : Nat → Int) (b : Nat) : Nat → List Int → List Int
  | 0, l => l
  | i + 1, l => pbS h mu b i (pbA h mu b i l)
noncomputable def pbB (h : Nat) (mu : Nat → Int) : Nat → List Int → List Int
  | 0, l => l
  | j + 1, l => pbA h mu (2 * h * j) h (pbB h mu j l)
theorem pbA_length (h : Nat) (mu : Nat → Int) (b : Nat) (l : List Int) : ∀ i, (pbA h mu b i l).length = l.length
  | 0 => rfl
  | i + 1 => by rw [pbA, pbS, List.length_set, List.length_set, pbA_length h mu b l i]
theorem pbB_length (h : Nat) (mu : Nat → Int) (l : List Int) : ∀ j, (pbB h mu j l).length = l.length
  | 0 => rfl
  | j + 1 => by rw [pbB, pbA_length, pbB_length h mu l j]

theorem forward_primeforms_walk (P : Prg W) {p : Nat} {r₀ : Int} (hp : 0 < p) (hp1 : p ≤ 10000) (hr : r₀.natAbs ≤ 10000) (l₀ res : List Int) (ds₀ : List D) (hds : RM p ds₀ l₀) (h0 : 0 < l₀.length) (hlen : l₀.length ≤ 100) (G : Nat → Int → List Int → Prop)
    (g0 : G (l₀.length / 2) r₀ l₀)
    (gs : ∀ h r l, 0 < h → G h r l → l.length = l₀.length ∧ ∃ N, Round l₀.length h N ∧ G (h / 2) (r * r % (p : Int)) (pfB h (fun i => r ^ i % (p : Int)) N l))
    (ge : ∀ r l, G 0 r l → l = res) : CallOK W 2 "forward_primeforms" [.list ds₀, .int r₀, .int (p : Int)] (.list (pL p res)) := by
  refine fn_ok P.f_forward_primeforms ["row", "root", "p"] ["found", "half", "steps", "begin", "at", "one", "other"] ["len", "powers_of", "range"] (fun n => by kernel_rfl) rfl ?_ ?_
  · intro m
    refine all3 fun v1 v2 v3 => ?_
    kernel_rfl
  intro A m L a h₀ av
  refine X.c1 3 "one" ["p"] [] [(2, .int (p : Int))] (outs := pL p l₀) (EvIt.list (Ev.name 0 rfl rfl) ?_) ?_ (fun i ds d hi hd => ?_) rfl ⟨⟨rfl, rfl, rfl, rfl, rfl⟩, trivial⟩ (fun ad => ?_)
  · rw [hds.1]; omega
  · rw [List.length_map, hds.1, pL_length]
  · obtain ⟨u, hu, rfl⟩ := sing_at hi
    obtain ⟨z, rfl, hz⟩ := hds.2 _ _ hu
    obtain ⟨_, rfl⟩ := pL_at hd
    exact ⟨_, rfl, fun cl C av => (Ev.binop (Ev.name 0 rfl rfl) (Ev.name 1 rfl rfl) (op_mod (by omega))).to (by rw [hz])⟩
  refine X.set 4 (d := .int ((l₀.length / 2 : Nat) : Int)) ((Ev.binop (Ev.len 0 rfl P.len (EvSeq.of (Ev.name 0 rfl rfl)) ?_) Ev.int (op_div (by decide) (by decide))).to ?_) ?_
  · rw [hds.1]; omega
  · rw [hds.1]; rfl
  refine X.while (fun h ρ => ∃ r l b0 b1 b2 b3 b4, G h r l ∧ r.natAbs ≤ 10000 ∧ ρ = [some (.p (.list ds₀)), some (.p (.int r)), some (.p (.int (p : Int))), some (.own ad (pL p l)), some (.p (.int (h : Int))), b0, b1, b2, b3, b4]) _
    ⟨_, _, none, none, none, none, none, g0, hr, rfl⟩ fun h ρ hI => ?_
  obtain ⟨r, l, b0, b1, b2, b3, b4, hG, hrr, rfl⟩ := hI
  refine ⟨_, (EvT.cmp (Ev.name 4 rfl rfl) Ev.int cmp_gt), fun hh => ?_, fun hh => ?_⟩
  · have hh0 : 0 < h := by simpa using hh
    obtain ⟨hl, N, hR, hG'⟩ := gs h r l hh0 hG
    have hle := hR.le
    have hleN := hR.leN
    refine X.set 5 (Ev.callG 1 rfl (EvL.cons (Ev.name 1 rfl rfl) (EvL.cons (Ev.name 4 rfl rfl) (EvL.cons (Ev.name 2 rfl rfl) EvL.nil))) (powers_of_ok P hp hp1 hh0 hle) (Nat.le_of_ble_eq_true rfl)) ?_
    dsimp only [List.set]
    generalize hmu : (fun (i : Nat) => r ^ i % (p : Int)) = mu at *
    have hmu' : ∀ i, r ^ i % (p : Int) = mu i := fun i => by rw [← hmu]
    refine X.forR 6 (fun j ρ => ∃ b1 b2 b3 b4, ρ = [some (.p (.list ds₀)), some (.p (.int r)), some (.p (.int (p : Int))), some (.own ad (pL p (pfB h mu j l))), some (.p (.int (h : Int))), some (.p (.list (pwL r p h))), b1, b2, b3, b4])
      (EvIt.range3 2 N rfl P.range Ev.int (Ev.len 0 rfl P.len (EvSeq.of (Ev.name 0 rfl rfl)) ?_) (Ev.binop Ev.int (Ev.name 4 rfl rfl) (op_mul (.inl (by decide)))) ?_ ?_ ?_ ?_ ?_ (ha := (EvL.cons Ev.int (EvL.cons (Ev.len 0 rfl P.len (EvSeq.of (Ev.name 0 rfl rfl)) ?_) (EvL.cons (Ev.binop Ev.int (Ev.name 4 rfl rfl) (op_mul (.inl (by decide)))) EvL.nil))))) ⟨b1, b2, b3, b4, rfl⟩ (fun j ρ v hj hI hv => ?_) (fun ρ hI => ?_)
    · rw [hds.1]; omega
    · rw [hds.1]; exact hR.size
    · rw [hds.1]; exact hR.small
    · omega
    · omega
    · omega
    · rw [hds.1]; omega
    · obtain ⟨b1, b2, b3, b4, rfl⟩ := hI
      have hin := hR.in hj
      have ev : v = ((2 * h * j : Nat) : Int) := by
        rw [hv, Int.zero_add, Int.mul_comm, Int.natCast_mul, Int.natCast_mul]; rfl
      subst ev
      generalize eb : 2 * h * j = b at *
      refine ⟨rfl, ?_⟩
      dsimp only [List.set]
      refine X.forR 7 (fun i ρ => ∃ b2 b3 b4, ρ = [some (.p (.list ds₀)), some (.p (.int r)), some (.p (.int (p : Int))), some (.own ad (pL p (pfA h mu b i (pfB h mu j l)))), some (.p (.int (h : Int))), some (.p (.list (pwL r p h))), some (.p (.int (b : Int))), b2, b3, b4])
        (EvIt.range1 2 h rfl P.range (Ev.name 4 rfl rfl) (by omega) (by omega) (by omega)) ⟨b2, b3, b4, rfl⟩ (fun i ρ v hi hI hv => ?_) (fun ρ hI => ?_)
      · obtain ⟨b2, b3, b4, rfl⟩ := hI
        have ev : v = (i : Int) := by omega
        subst ev
        refine ⟨rfl, ?_⟩
        dsimp only [List.set]
        have hlA : (pfA h mu b i (pfB h mu j l)).length = l₀.length := by rw [pfA_length, pfB_length, hl]
        generalize hA : pfA h mu b i (pfB h mu j l) = lA at *
        have e1 := pL_get (p := p) (l := lA) (i := b + i) (by omega)
        have e2 := pL_get (p := p) (l := lA) (i := b + h + i) (by omega)
        have e3 := pwL_get (r := r) (p := p) hi
        rw [hmu'] at e3
        have hs1 := mod_small hp hp1 (lA.getD (b + i) 0)
        have hs2 := mod_small hp hp1 (lA.getD (b + h + i) 0)
        refine X.tupW [(8, "one"), (9, "other")] (Ev.tup (EvL.cons (Ev.itemN (EvSeq.own 3 rfl rfl) (Ev.binop (Ev.name 6 rfl rfl) (Ev.name 7 rfl rfl) op_add) (b + i) rfl (by omega) e1) (EvL.cons (Ev.itemN (EvSeq.own 3 rfl rfl) (Ev.binop (Ev.binop (Ev.name 6 rfl rfl) (Ev.name 7 rfl rfl) op_add) (Ev.name 4 rfl rfl) op_add) (b + h + i) (by omega) (by omega) e2) EvL.nil))) ?_ ⟨⟨rfl, rfl⟩, ⟨rfl, rfl⟩, trivial⟩
        dsimp only [setP, List.set, List.reverse, List.reverseAux]
        refine X.put 3 ((Ev.binop (Ev.binop (Ev.name 8 rfl rfl) (Ev.name 9 rfl rfl) op_add) (Ev.name 2 rfl rfl) (op_mod (by omega))).to (congrArg D.int (Int.add_emod ..).symm)) (Ev.binop (Ev.name 6 rfl rfl) (Ev.name 7 rfl rfl) op_add) (b + i) rfl ?_ ?_ ?_
        · rw [pL_length]; omega
        · rw [pL_length]; omega
        dsimp only [List.set]
        rw [pL_set]
        refine X.put 3 (d := .int ((lA.getD (b + i) 0 - lA.getD (b + h + i) 0) * mu i % (p : Int))) ((Ev.binop (Ev.binop (Ev.binop (Ev.name 8 rfl rfl) (Ev.name 9 rfl rfl) op_sub) (Ev.itemN (EvSeq.of (Ev.name 5 rfl rfl)) (Ev.name 7 rfl rfl) i rfl (by omega) e3) (op_mul (.inl (by omega)))) (Ev.name 2 rfl rfl) (op_mod (by omega))).to ?_) (Ev.binop (Ev.binop (Ev.name 6 rfl rfl) (Ev.name 7 rfl rfl) op_add) (Ev.name 4 rfl rfl) op_add) (b + h + i) (by omega) ?_ ?_ (Ex.nil ⟨some (.p (.int (i : Int))), some (.p (.int (lA.getD (b + i) 0 % (p : Int)))), some (.p (.int (lA.getD (b + h + i) 0 % (p : Int)))), ?_⟩)
        · rw [Int.mul_emod, ← Int.sub_emod, ← Int.mul_emod]
        · rw [pL_length, List.length_set]; omega
        · rw [pL_length, List.length_set]; omega
        dsimp only [List.set]
        rw [pL_set, pfA, hA, pfS]
      · obtain ⟨b2, b3, b4, rfl⟩ := hI
        refine Ex.nil ⟨some (.p (.int (b : Int))), b2, b3, b4, ?_⟩
        rw [pfB, eb]
    · obtain ⟨b1, b2, b3, b4, rfl⟩ := hI
      refine X.set 1 (Ev.binop (Ev.binop (Ev.name 1 rfl rfl) (Ev.name 1 rfl rfl) (op_mul (.inl (by omega)))) (Ev.name 2 rfl rfl) (op_mod (by omega))) ?_
      dsimp only [List.set]
      refine X.aug 4 Ev.int (iop_div (by decide) (by decide)) (Ex.nil ⟨h / 2, by omega, _, _, some (.p (.list (pwL r p h))), b1, b2, b3, b4, hG', mod_small hp hp1 _, rfl⟩)
  · have : h = 0 := by simp at hh; omega
    subst this
    rw [ge r l hG]
    exact X.retO 3 (.inl rfl)
end Mine
end
section
open PySem PySem.W PyProof.Rows PySem.Calls
set_option maxRecDepth 10000
set_option maxHeartbeats 2000000
namespace Mine
variable {W : Wd}

theorem backward_primeforms_walk (P : Prg W) {p : Nat} {r₀ T S : Int} (hp : 2 ≤ p) (hp1 : p ≤ 10000) (hr : r₀.natAbs ≤ 10000) (l₀ : List Int) (h0 : 0 < l₀.length) (hlen : l₀.length ≤ 100) (hT : r₀ ^ (l₀.length - 1) % (p : Int) = T) (hS : (l₀.length : Int) ^ (p - 2) % (p : Int) = S) (res : List Int) (G : Nat → List Int → Prop)
    (g0 : G 1 l₀)
    (gs : ∀ h l, h < l₀.length → G h l → 0 < h ∧ l.length = l₀.length ∧ ∃ N, Round l₀.length h N ∧ G (h * 2) (pbB h (fun i => (T ^ (l₀.length / (2 * h)) % (p : Int)) ^ i % (p : Int)) N l))
    (ge : ∀ h l, l₀.length ≤ h → G h l → l.length = l₀.length ∧ l.map (· * S) = res) : CallOK W 2 "backward_primeforms" [.list (pL p l₀), .int r₀, .int (p : Int)] (.list (pL p res)) := by
  refine fn_ok P.f_backward_primeforms ["row", "root", "p"] ["found", "size", "turned", "half", "steps", "begin", "at", "one", "other", "share"] ["len", "plain_power", "powers_of", "range"] (fun n => by kernel_rfl) rfl ?_ ?_
  · intro m
    refine all3 fun v1 v2 v3 => ?_
    kernel_rfl
  intro A m L a h₀ av
  have hTs : T.natAbs ≤ 10000 := hT ▸ mod_small (by omega) hp1 _
  have hSs : S.natAbs ≤ 10000 := hS ▸ mod_small (by omega) hp1 _
  refine X.own 3 (EvO.copy (EvSeq.of (Ev.name 0 rfl rfl)) ?_) fun ad => ?_
  · rw [pL_length]; omega
  refine X.set 4 (d := .int (l₀.length : Int)) ((Ev.len 0 rfl P.len (EvSeq.of (Ev.name 0 rfl rfl)) ?_).to ?_) ?_
  · rw [pL_length]; omega
  · rw [pL_length]
  generalize hle : l₀.length = len at *
  refine X.set 5 ((Ev.callG 1 rfl (EvL.cons (Ev.name 1 rfl rfl) (EvL.cons ((Ev.binop (Ev.name 4 rfl rfl) Ev.int op_sub).to (congrArg D.int (show (len : Int) - 1 = ((len - 1 : Nat) : Int) by omega))) (EvL.cons (Ev.name 2 rfl rfl) EvL.nil))) (plain_power_ok P (by omega) hp1 hr) (Nat.le_of_ble_eq_true rfl)).to (congrArg D.int hT)) ?_
  refine X.set 6 Ev.int ?_
  refine X.while (fun z ρ => ∃ h l b0 b1 b2 b3 b4, z = len - h ∧ G h l ∧ ρ = [some (.p (.list (pL p l₀))), some (.p (.int r₀)), some (.p (.int (p : Int))), some (.own ad (pL p l)), some (.p (.int (len : Int))), some (.p (.int T)), some (.p (.int (h : Int))), b0, b1, b2, b3, b4, none]) (len - 1)
    ⟨1, _, none, none, none, none, none, rfl, g0, rfl⟩ fun z ρ hI => ?_
  obtain ⟨h, l, b0, b1, b2, b3, b4, rfl, hG, rfl⟩ := hI
  refine ⟨_, (EvT.cmp (Ev.name 6 rfl rfl) (Ev.name 4 rfl rfl) cmp_lt), fun hh => ?_, fun hh => ?_⟩
  · have hh0 : h < len := by simpa using hh
    obtain ⟨hpos, hl, N, hR, hG'⟩ := gs h l hh0 hG
    have hle' := hR.le
    have hleN := hR.leN
    have hdv : (len : Int) / (2 * (h : Int)) = ((len / (2 * h) : Nat) : Int) := by
      rw [Int.natCast_ediv, Int.natCast_mul]; rfl
    refine X.set 7 (Ev.callG 2 rfl (EvL.cons (Ev.callG 1 rfl (EvL.cons (Ev.name 5 rfl rfl) (EvL.cons ((Ev.binop (Ev.name 4 rfl rfl) (Ev.binop Ev.int (Ev.name 6 rfl rfl) (op_mul (.inl (by decide)))) (op_div (by omega) (by omega))).to (congrArg D.int hdv)) (EvL.cons (Ev.name 2 rfl rfl) EvL.nil))) (plain_power_ok P (by omega) hp1 hTs) (Nat.le_of_ble_eq_true rfl)) (EvL.cons (Ev.name 6 rfl rfl) (EvL.cons (Ev.name 2 rfl rfl) EvL.nil))) (powers_of_ok P (by omega) hp1 hpos hle') (Nat.le_of_ble_eq_true rfl)) ?_
    dsimp only [List.set]
    generalize hs : T ^ (len / (2 * h)) % (p : Int) = r at *
    generalize hmu : (fun (i : Nat) => r ^ i % (p : Int)) = mu at *
    have hmu' : ∀ i, r ^ i % (p : Int) = mu i := fun i => by rw [← hmu]
    refine X.forR 8 (fun j ρ => ∃ b1 b2 b3 b4, ρ = [some (.p (.list (pL p l₀))), some (.p (.int r₀)), some (.p (.int (p : Int))), some (.own ad (pL p (pbB h mu j l))), some (.p (.int (len : Int))), some (.p (.int T)), some (.p (.int (h : Int))), some (.p (.list (pwL r p h))), b1, b2, b3, b4, none])
      (EvIt.range3 3 N rfl P.range Ev.int (Ev.name 4 rfl rfl) (Ev.binop Ev.int (Ev.name 6 rfl rfl) (op_mul (.inl (by decide)))) ?_ ?_ ?_ ?_ ?_ (ha := (EvL.cons Ev.int (EvL.cons (Ev.name 4 rfl rfl) (EvL.cons (Ev.binop Ev.int (Ev.name 6 rfl rfl) (op_mul (.inl (by decide)))) EvL.nil))))) ⟨b1, b2, b3, b4, rfl⟩ (fun j ρ v hj hI hv => ?_) (fun ρ hI => ?_)
    · exact hR.size
    · exact hR.small
    · omega
    · omega
    · omega
    · obtain ⟨b1, b2, b3, b4, rfl⟩ := hI
      have hin := hR.in hj
      have ev : v = ((2 * h * j : Nat) : Int) := by
        rw [hv, Int.zero_add, Int.mul_comm, Int.natCast_mul, Int.natCast_mul]; rfl
      subst ev
      generalize eb : 2 * h * j = b at *
      refine ⟨rfl, ?_⟩
      dsimp only [List.set]
      refine X.forR 9 (fun i ρ => ∃ b2 b3 b4, ρ = [some (.p (.list (pL p l₀))), some (.p (.int r₀)), some (.p (.int (p : Int))), some (.own ad (pL p (pbA h mu b i (pbB h mu j l)))), some (.p (.int (len : Int))), some (.p (.int T)), some (.p (.int (h : Int))), some (.p (.list (pwL r p h))), some (.p (.int (b : Int))), b2, b3, b4, none])
        (EvIt.range1 3 h rfl P.range (Ev.name 6 rfl rfl) (by omega) (by omega) (by omega)) ⟨b2, b3, b4, rfl⟩ (fun i ρ v hi hI hv => ?_) (fun ρ hI => ?_)
      · obtain ⟨b2, b3, b4, rfl⟩ := hI
        have ev : v = (i : Int) := by omega
        subst ev
        refine ⟨rfl, ?_⟩
        dsimp only [List.set]
        have hlA : (pbA h mu b i (pbB h mu j l)).length = len := by rw [pbA_length, pbB_length, hl]
        generalize hA : pbA h mu b i (pbB h mu j l) = lA at *
        have e1 := pL_get (p := p) (l := lA) (i := b + i) (by omega)
        have e2 := pL_get (p := p) (l := lA) (i := b + h + i) (by omega)
        have e3 := pwL_get (r := r) (p := p) hi
        rw [hmu'] at e3
        have hs1 := mod_small (p := p) (by omega) hp1 (lA.getD (b + i) 0)
        have hs2 := mod_small (p := p) (by omega) hp1 (lA.getD (b + h + i) 0)
        refine X.tupW [(10, "one"), (11, "other")] (ds := [.int (lA.getD (b + i) 0 % (p : Int)), .int (lA.getD (b + h + i) 0 * mu i % (p : Int))]) (Ev.tup (EvL.cons (Ev.itemN (EvSeq.own 3 rfl rfl) (Ev.binop (Ev.name 8 rfl rfl) (Ev.name 9 rfl rfl) op_add) (b + i) rfl (by omega) e1) (EvL.cons ((Ev.binop (Ev.binop (Ev.itemN (EvSeq.own 3 rfl rfl) (Ev.binop (Ev.binop (Ev.name 8 rfl rfl) (Ev.name 9 rfl rfl) op_add) (Ev.name 6 rfl rfl) op_add) (b + h + i) (by omega) (by omega) e2) (Ev.itemN (EvSeq.of (Ev.name 7 rfl rfl)) (Ev.name 9 rfl rfl) i rfl (by omega) e3) (op_mul (.inl (by omega)))) (Ev.name 2 rfl rfl) (op_mod (by omega))).to ?_) EvL.nil))) ?_ ⟨⟨rfl, rfl⟩, ⟨rfl, rfl⟩, trivial⟩
        · rw [Int.mul_emod, Int.emod_emod, ← Int.mul_emod]
        dsimp only [setP, List.set, List.reverse, List.reverseAux]
        refine X.put 3 ((Ev.binop (Ev.binop (Ev.name 10 rfl rfl) (Ev.name 11 rfl rfl) op_add) (Ev.name 2 rfl rfl) (op_mod (by omega))).to (congrArg D.int (Int.add_emod ..).symm)) (Ev.binop (Ev.name 8 rfl rfl) (Ev.name 9 rfl rfl) op_add) (b + i) rfl ?_ ?_ ?_
        · rw [pL_length]; omega
        · rw [pL_length]; omega
        dsimp only [List.set]
        rw [pL_set]
        refine X.put 3 ((Ev.binop (Ev.binop (Ev.name 10 rfl rfl) (Ev.name 11 rfl rfl) op_sub) (Ev.name 2 rfl rfl) (op_mod (by omega))).to (congrArg D.int (Int.sub_emod ..).symm)) (Ev.binop (Ev.binop (Ev.name 8 rfl rfl) (Ev.name 9 rfl rfl) op_add) (Ev.name 6 rfl rfl) op_add) (b + h + i) (by omega) ?_ ?_ (Ex.nil ⟨some (.p (.int (i : Int))), some (.p (.int (lA.getD (b + i) 0 % (p : Int)))), some (.p (.int (lA.getD (b + h + i) 0 * mu i % (p : Int)))), ?_⟩)
        · rw [pL_length, List.length_set]; omega
        · rw [pL_length, List.length_set]; omega
        dsimp only [List.set]
        rw [pL_set, pbA, hA, pbS]
      · obtain ⟨b2, b3, b4, rfl⟩ := hI
        refine Ex.nil ⟨some (.p (.int (b : Int))), b2, b3, b4, ?_⟩
        rw [pbB, eb]
    · obtain ⟨b1, b2, b3, b4, rfl⟩ := hI
      refine X.aug 6 (d₁ := .int (h : Int)) (d₂ := .int 2) (d := .int ((h * 2 : Nat) : Int)) Ev.int (iop_mul (i := (h : Int)) (j := 2) (.inr (by decide))) (Ex.nil ⟨len - h * 2, by omega, h * 2, _, some (.p (.list (pwL r p h))), b1, b2, b3, b4, rfl, hG', rfl⟩)
  · have hh0 : len ≤ h := by simpa using hh
    obtain ⟨hl, hres⟩ := ge h l hh0 hG
    refine X.set 12 ((Ev.callG 1 rfl (EvL.cons (Ev.name 4 rfl rfl) (EvL.cons ((Ev.binop (Ev.name 2 rfl rfl) Ev.int op_sub).to (congrArg D.int (show (p : Int) - 2 = ((p - 2 : Nat) : Int) by omega))) (EvL.cons (Ev.name 2 rfl rfl) EvL.nil))) (plain_power_ok P (by omega) hp1 (by omega)) (Nat.le_of_ble_eq_true rfl)).to (congrArg D.int hS)) ?_
    dsimp only [List.set]
    refine Ex.free 3 rfl ?_
    dsimp only [List.set]
    refine X.ret (EvO.ev (EvO.c1 "one" ["share", "p"] [] [(12, .int S), (2, .int (p : Int))] (EvIt.list (Ev.name 3 rfl rfl) ?_) ?_ (fun i ds d hi hd => ?_) rfl ⟨⟨rfl, rfl, rfl, rfl, rfl⟩, ⟨rfl, rfl, rfl, rfl, rfl⟩, trivial⟩)) (.inl rfl)
    · rw [pL_length]; omega
    · rw [List.length_map, pL_length, pL_length, ← hres, List.length_map]
    · obtain ⟨u, hu, rfl⟩ := sing_at hi
      obtain ⟨hil, rfl⟩ := pL_at hu
      rw [← hres] at hd
      rw [pL_get (by rw [List.length_map]; exact hil)] at hd
      cases hd
      have hs1 := mod_small (p := p) (by omega) hp1 (l.getD i 0)
      refine ⟨_, rfl, fun cl C av => (Ev.binop (Ev.binop (Ev.name 0 rfl rfl) (Ev.name 1 rfl rfl) (op_mul (.inl (by omega)))) (Ev.name 2 rfl rfl) (op_mod (by omega))).to ?_⟩
      rw [Int.mul_emod, Int.emod_emod, ← Int.mul_emod]
      rw [List.getD_eq_getElem?_getD, List.getD_eq_getElem?_getD, List.getElem?_map, List.getElem?_eq_getElem hil]
      rfl
end Mine
end
section
open PySem PySem.W PyProof.Rows PySem.Calls
set_option maxRecDepth 10000
set_option maxHeartbeats 2000000
namespace Mine
variable {W : Wd}

noncomputable def fwdp (p : Nat) (r : Int) (l : List Int) : List Int := if l.length = 2 then pfB 1 (fun i => r ^ i % (p : Int)) 1 l else pfB 1 (fun i => (r * r % (p : Int)) ^ i % (p : Int)) 2 (pfB 2 (fun i => r ^ i % (p : Int)) 1 l)
noncomputable def bwdp (p : Nat) (T S : Int) (l : List Int) : List Int := if l.length = 2 then (pbB 1 (fun i => (T ^ (2 / (2 * 1)) % (p : Int)) ^ i % (p : Int)) 1 l).map (· * S)
  else (pbB 2 (fun i => (T ^ (4 / (2 * 2)) % (p : Int)) ^ i % (p : Int)) 1 (pbB 1 (fun i => (T ^ (4 / (2 * 1)) % (p : Int)) ^ i % (p : Int)) 2 l)).map (· * S)
theorem fwdp_length (p : Nat) (r : Int) (l : List Int) : (fwdp p r l).length = l.length := by
  unfold fwdp; split <;> simp [pfB_length]
theorem bwdp_length (p : Nat) (T S : Int) (l : List Int) : (bwdp p T S l).length = l.length := by
  unfold bwdp; split <;> simp [pbB_length]
noncomputable def cvp (p : Nat) (r T S : Int) (a b : List Int) : List Int := bwdp p T S (List.zipWith (· * ·) (fwdp p r a) (fwdp p r b))
theorem cvp_length (p : Nat) (r T S : Int) {a b : List Int} (h : b.length = a.length) : (cvp p r T S a b).length = a.length := by
  rw [cvp, bwdp_length, List.length_zipWith, fwdp_length, fwdp_length]; omega
noncomputable def wtp (p : Nat) (r : Int) (l : List Int) : List Int := (List.range l.length).map fun i => l.getD i 0 * (r ^ i % (p : Int))
noncomputable def unp (p : Nat) (r : Int) (l : List Int) : List Int := (List.range l.length).map fun i => l.getD i 0 * ((r ^ i % (p : Int)) ^ (p - 2) % (p : Int))
theorem wtp_length (p : Nat) (r : Int) (l : List Int) : (wtp p r l).length = l.length := by simp [wtp]
theorem unp_length (p : Nat) (r : Int) (l : List Int) : (unp p r l).length = l.length := by simp [unp]
theorem wtp_getD (p : Nat) (r : Int) {l : List Int} {i : Nat} (h : i < l.length) : (wtp p r l).getD i 0 = l.getD i 0 * (r ^ i % (p : Int)) := by
  rw [List.getD_eq_getElem?_getD]; simp [wtp, h]
theorem unp_getD (p : Nat) (r : Int) {l : List Int} {i : Nat} (h : i < l.length) : (unp p r l).getD i 0 = l.getD i 0 * ((r ^ i % (p : Int)) ^ (p - 2) % (p : Int)) := by
  rw [List.getD_eq_getElem?_getD]; simp [unp, h]

section
variable (P : Prg W) {p : Nat} {r T S : Int} (hp : 2 ≤ p) (hp1 : p ≤ 10000) (hr : r.natAbs ≤ 10000)
include P hp hp1 hr
theorem forward_primeforms_ok {ds : List D} {l : List Int} (hds : RM p ds l) (hl : l.length = 2 ∨ l.length = 4) : CallOK W 2 "forward_primeforms" [.list ds, .int r, .int (p : Int)] (.list (pL p (fwdp p r l))) := by
  rcases hl with hl | hl
  · refine forward_primeforms_walk P (by omega) hp1 hr l _ ds hds (by omega) (by omega) (fun h r' l' => (h = 1 ∧ r' = r ∧ l' = l) ∨ (h = 0 ∧ l' = pfB 1 (fun i => r ^ i % (p : Int)) 1 l)) (.inl ⟨by rw [hl], rfl, rfl⟩) (fun h r' l' hh hG => ?_) (fun r' l' hG => ?_)
    · rcases hG with ⟨rfl, rfl, rfl⟩ | ⟨rfl, _⟩
      · refine ⟨rfl, 1, ?_, .inr ⟨rfl, rfl⟩⟩
        rw [hl]
        exact ⟨by decide, by decide, by decide, by decide, by decide⟩
      · omega
    · rcases hG with ⟨h, _⟩ | ⟨_, rfl⟩
      · omega
      · unfold fwdp; rw [if_pos hl]
  · refine forward_primeforms_walk P (by omega) hp1 hr l _ ds hds (by omega) (by omega) (fun h r' l' => (h = 2 ∧ r' = r ∧ l' = l) ∨ (h = 1 ∧ r' = r * r % (p : Int) ∧ l' = pfB 2 (fun i => r ^ i % (p : Int)) 1 l) ∨ (h = 0 ∧ l' = pfB 1 (fun i => (r * r % (p : Int)) ^ i % (p : Int)) 2 (pfB 2 (fun i => r ^ i % (p : Int)) 1 l))) (.inl ⟨by rw [hl], rfl, rfl⟩) (fun h r' l' hh hG => ?_) (fun r' l' hG => ?_)
    · rcases hG with ⟨rfl, rfl, rfl⟩ | ⟨rfl, rfl, rfl⟩ | ⟨rfl, _⟩
      · refine ⟨rfl, 1, ?_, .inr (.inl ⟨rfl, rfl, rfl⟩)⟩
        rw [hl]
        exact ⟨by decide, by decide, by decide, by decide, by decide⟩
      · refine ⟨pfB_length .., 2, ?_, .inr (.inr ⟨rfl, rfl⟩)⟩
        rw [hl]
        exact ⟨by decide, by decide, by decide, by decide, by decide⟩
      · omega
    · rcases hG with ⟨h, _⟩ | ⟨h, _⟩ | ⟨_, rfl⟩
      · omega
      · omega
      · unfold fwdp; rw [if_neg (by omega)]

theorem backward_primeforms_ok {l : List Int} (hl : l.length = 2 ∨ l.length = 4) (hT : r ^ (l.length - 1) % (p : Int) = T) (hS : (l.length : Int) ^ (p - 2) % (p : Int) = S) : CallOK W 2 "backward_primeforms" [.list (pL p l), .int r, .int (p : Int)] (.list (pL p (bwdp p T S l))) := by
  rcases hl with hl | hl
  · refine backward_primeforms_walk P hp hp1 hr l (by omega) (by omega) hT hS _ (fun h l' => (h = 1 ∧ l' = l) ∨ (h = 2 ∧ l' = pbB 1 (fun i => (T ^ (2 / (2 * 1)) % (p : Int)) ^ i % (p : Int)) 1 l)) (.inl ⟨rfl, rfl⟩) (fun h l' hh hG => ?_) (fun h l' hh hG => ?_)
    · rcases hG with ⟨rfl, rfl⟩ | ⟨rfl, _⟩
      · refine ⟨by omega, rfl, 1, ?_, .inr ⟨rfl, ?_⟩⟩
        · rw [hl]; exact ⟨by decide, by decide, by decide, by decide, by decide⟩
        · rw [hl]
      · omega
    · rcases hG with ⟨rfl, rfl⟩ | ⟨rfl, rfl⟩
      · omega
      · refine ⟨pbB_length .., ?_⟩
        unfold bwdp; rw [if_pos hl]
  · refine backward_primeforms_walk P hp hp1 hr l (by omega) (by omega) hT hS _ (fun h l' => (h = 1 ∧ l' = l) ∨ (h = 2 ∧ l' = pbB 1 (fun i => (T ^ (4 / (2 * 1)) % (p : Int)) ^ i % (p : Int)) 2 l) ∨ (h = 4 ∧ l' = pbB 2 (fun i => (T ^ (4 / (2 * 2)) % (p : Int)) ^ i % (p : Int)) 1 (pbB 1 (fun i => (T ^ (4 / (2 * 1)) % (p : Int)) ^ i % (p : Int)) 2 l))) (.inl ⟨rfl, rfl⟩) (fun h l' hh hG => ?_) (fun h l' hh hG => ?_)
    · rcases hG with ⟨rfl, rfl⟩ | ⟨rfl, rfl⟩ | ⟨rfl, _⟩
      · refine ⟨by omega, rfl, 2, ?_, .inr (.inl ⟨rfl, ?_⟩)⟩
        · rw [hl]; exact ⟨by decide, by decide, by decide, by decide, by decide⟩
        · rw [hl]
      · refine ⟨by omega, pbB_length .., 1, ?_, .inr (.inr ⟨rfl, ?_⟩)⟩
        · rw [hl]; exact ⟨by decide, by decide, by decide, by decide, by decide⟩
        · rw [hl]
      · omega
    · rcases hG with ⟨rfl, rfl⟩ | ⟨rfl, rfl⟩ | ⟨rfl, rfl⟩
      · omega
      · omega
      · refine ⟨(pbB_length ..).trans (pbB_length ..), ?_⟩
        unfold bwdp; rw [if_neg (by omega)]

theorem convolve_ok {x y : List Int} {dx dy : List D} (hdx : RM p dx x) (hdy : RM p dy y) (hx : x.length = 2 ∨ x.length = 4) (hxy : y.length = x.length) (hroot : CallOK W 2 "root_of_unity" [.int (x.length : Int), .int (p : Int)] (.int r))
    (hT : r ^ (x.length - 1) % (p : Int) = T) (hS : (x.length : Int) ^ (p - 2) % (p : Int) = S) : CallOK W 3 "convolve" [.list dx, .list dy, .int (x.length : Int), .int (p : Int)] (.list (pL p (cvp p r T S x y))) := by
  have lz : (List.zipWith (· * ·) (fwdp p r x) (fwdp p r y)).length = x.length := by rw [List.length_zipWith, fwdp_length, fwdp_length]; omega
  have h1 := forward_primeforms_ok P hp hp1 hr hdx hx
  have h2 := forward_primeforms_ok P hp hp1 hr hdy (by rw [hxy]; exact hx)
  have h3 := backward_primeforms_ok P hp hp1 hr (T := T) (S := S) (l := List.zipWith (· * ·) (fwdp p r x) (fwdp p r y)) (by rw [lz]; exact hx) (by rw [lz]; exact hT) (by rw [lz]; exact hS)
  have f1 := filled_ok P (ds := dx) (size := x.length) hdx.1 (by omega)
  have f2 := filled_ok P (ds := dy) (size := x.length) (hdy.1.trans hxy) (by omega)
  refine fn_ok P.f_convolve ["a", "b", "size", "p"] ["root", "here", "there"] ["root_of_unity", "forward_primeforms", "filled", "backward_primeforms", "zip"] (fun n => by kernel_rfl) rfl ?_ ?_
  · intro m
    refine all4 fun v1 v2 v3 v4 => ?_
    kernel_rfl
  intro A m L a h₀ av
  refine X.set 4 (Ev.callG 0 rfl (EvL.cons (Ev.name 2 rfl rfl) (EvL.cons (Ev.name 3 rfl rfl) EvL.nil)) hroot (Nat.le_of_ble_eq_true rfl)) ?_
  refine X.tupW [(5, "here"), (6, "there")] (Ev.tup (EvL.cons (Ev.callG 1 rfl (EvL.cons (Ev.callG 2 rfl (EvL.cons (Ev.name 0 rfl rfl) (EvL.cons (Ev.name 2 rfl rfl) EvL.nil)) f1 (Nat.le_of_ble_eq_true rfl)) (EvL.cons (Ev.name 4 rfl rfl) (EvL.cons (Ev.name 3 rfl rfl) EvL.nil))) h1 (Nat.le_of_ble_eq_true rfl)) (EvL.cons (Ev.callG 1 rfl (EvL.cons (Ev.callG 2 rfl (EvL.cons (Ev.name 1 rfl rfl) (EvL.cons (Ev.name 2 rfl rfl) EvL.nil)) f2 (Nat.le_of_ble_eq_true rfl)) (EvL.cons (Ev.name 4 rfl rfl) (EvL.cons (Ev.name 3 rfl rfl) EvL.nil))) h2 (Nat.le_of_ble_eq_true rfl)) EvL.nil))) ?_ ⟨⟨rfl, rfl⟩, ⟨rfl, rfl⟩, trivial⟩
  dsimp only [setP, List.set, List.reverse, List.reverseAux]
  refine X.ret (Ev.callG 3 rfl (EvL.cons (EvO.ev (EvO.c2 "one" "other" ["p"] [] [(3, .int (p : Int))] (EvIt.zip 4 rfl P.zip (Ev.name 5 rfl rfl) (Ev.name 6 rfl rfl) ?_) ?_ (fun i ds d hi hd => ?_) rfl ⟨⟨rfl, rfl, rfl, rfl, rfl⟩, trivial⟩)) (EvL.cons (Ev.name 4 rfl rfl) (EvL.cons (Ev.name 3 rfl rfl) EvL.nil))) h3 (Nat.le_of_ble_eq_true rfl)) (.inl rfl)
  · rw [pL_length, fwdp_length]; omega
  · rw [zips_length, pL_length, pL_length, pL_length, List.length_zipWith]
  · obtain ⟨u, v, hu, hv, rfl⟩ := zips_at hi
    obtain ⟨l1, rfl⟩ := pL_at hu
    obtain ⟨l2, rfl⟩ := pL_at hv
    rw [pL_get (by rw [List.length_zipWith]; omega)] at hd
    cases hd
    have hs1 := mod_small (p := p) (by omega) hp1 ((fwdp p r x).getD i 0)
    refine ⟨_, _, rfl, fun cl C av => (Ev.binop (Ev.binop (Ev.name 0 rfl rfl) (Ev.name 1 rfl rfl) (op_mul (.inl (by omega)))) (Ev.name 2 rfl rfl) (op_mod (by omega))).to ?_⟩
    rw [← Int.mul_emod]
    simp only [List.getD_eq_getElem?_getD, List.getElem?_zipWith, List.getElem?_eq_getElem l1, List.getElem?_eq_getElem l2]
    rfl

theorem convolve_turned_ok {r2 : Int} {x y : List Int} {dx dy : List D} (hdx : dx = iI x) (hdy : dy = iI y) (hsx : ∀ i, (x.getD i 0).natAbs ≤ 10000) (hsy : ∀ i, (y.getD i 0).natAbs ≤ 10000) (hx : x.length = 2 ∨ x.length = 4) (hxy : y.length = x.length) (hroot : CallOK W 2 "root_of_unity" [.int (x.length : Int), .int (p : Int)] (.int r))
    (hroot2 : CallOK W 2 "root_of_unity" [.int ((2 * x.length : Nat) : Int), .int (p : Int)] (.int r2))
    (hT : r ^ (x.length - 1) % (p : Int) = T) (hS : (x.length : Int) ^ (p - 2) % (p : Int) = S) : CallOK W 4 "convolve_turned" [.list dx, .list dy, .int (x.length : Int), .int (p : Int)] (.list (pL p (unp p r2 (cvp p r T S (wtp p r2 x) (wtp p r2 y))))) := by
  subst hdx hdy
  have lw := wtp_length p r2 x
  have lwy := wtp_length p r2 y
  have lc : (cvp p r T S (wtp p r2 x) (wtp p r2 y)).length = x.length := by rw [cvp_length _ _ _ _ (by omega), lw]
  have h1 := convolve_ok P hp hp1 hr (T := T) (S := S) (RM.pL p (wtp p r2 x)) (RM.pL p (wtp p r2 y)) (by rw [lw]; exact hx) (by omega) (by rw [lw]; exact hroot) (by rw [lw]; exact hT) (by rw [lw]; exact hS)
  rw [lw] at h1
  have h2 := powers_of_ok P (r := r2) (many := x.length) (p := p) (by omega) hp1 (by omega) (by omega)
  have f1 := filled_ok P (ds := iI x) (size := x.length) (iI_length x) (by omega)
  have f2 := filled_ok P (ds := iI y) (size := x.length) ((iI_length y).trans hxy) (by omega)
  refine fn_ok P.f_convolve_turned ["a", "b", "size", "p"] ["weights", "here", "there"] ["powers_of", "root_of_unity", "zip", "filled", "convolve"] (fun n => by kernel_rfl) rfl ?_ ?_
  · intro m
    refine all4 fun v1 v2 v3 v4 => ?_
    kernel_rfl
  intro A m L a h₀ av
  refine X.set 4 (Ev.callG 0 rfl (EvL.cons (Ev.callG 1 rfl (EvL.cons ((Ev.binop Ev.int (Ev.name 2 rfl rfl) (op_mul (.inl (by decide)))).to (congrArg D.int (show 2 * (x.length : Int) = ((2 * x.length : Nat) : Int) by omega))) (EvL.cons (Ev.name 3 rfl rfl) EvL.nil)) hroot2 (Nat.le_of_ble_eq_true rfl)) (EvL.cons (Ev.name 2 rfl rfl) (EvL.cons (Ev.name 3 rfl rfl) EvL.nil))) h2 (Nat.le_of_ble_eq_true rfl)) ?_
  refine X.c2 5 "one" "weight" ["p"] [] [(3, .int (p : Int))] (outs := pL p (wtp p r2 x)) (EvIt.zip 2 rfl P.zip (Ev.callG 3 rfl (EvL.cons (Ev.name 0 rfl rfl) (EvL.cons (Ev.name 2 rfl rfl) EvL.nil)) f1 (Nat.le_of_ble_eq_true rfl)) (Ev.name 4 rfl rfl) ?_) ?_ (fun i ds d hi hd => ?_) rfl ⟨⟨rfl, rfl, rfl, rfl, rfl⟩, trivial⟩ (fun ad => ?_)
  · rw [iI_length]; omega
  · rw [zips_length, iI_length, pwL_length, pL_length, lw]; omega
  · obtain ⟨u, v, hu, hv, rfl⟩ := zips_at hi
    obtain ⟨l1, rfl⟩ := iI_at hu
    rw [pwL_get l1] at hv
    rw [pL_get (by omega), wtp_getD _ _ l1] at hd
    cases hd; cases hv
    have hs1 := hsx i
    exact ⟨_, _, rfl, fun cl C av => (Ev.binop (Ev.binop (Ev.name 0 rfl rfl) (Ev.name 1 rfl rfl) (op_mul (.inl (by omega)))) (Ev.name 2 rfl rfl) (op_mod (by omega)))⟩
  refine Ex.free 5 rfl ?_
  refine X.c2 6 "one" "weight" ["p"] [] [(3, .int (p : Int))] (outs := pL p (wtp p r2 y)) (EvIt.zip 2 rfl P.zip (Ev.callG 3 rfl (EvL.cons (Ev.name 1 rfl rfl) (EvL.cons (Ev.name 2 rfl rfl) EvL.nil)) f2 (Nat.le_of_ble_eq_true rfl)) (Ev.name 4 rfl rfl) ?_) ?_ (fun i ds d hi hd => ?_) rfl ⟨⟨rfl, rfl, rfl, rfl, rfl⟩, trivial⟩ (fun ad' => ?_)
  · rw [iI_length]; omega
  · rw [zips_length, iI_length, pwL_length, pL_length, lwy]; omega
  · obtain ⟨u, v, hu, hv, rfl⟩ := zips_at hi
    obtain ⟨l1, rfl⟩ := iI_at hu
    rw [pwL_get (by omega)] at hv
    rw [pL_get (by omega), wtp_getD _ _ l1] at hd
    cases hd; cases hv
    have hs1 := hsy i
    exact ⟨_, _, rfl, fun cl C av => (Ev.binop (Ev.binop (Ev.name 0 rfl rfl) (Ev.name 1 rfl rfl) (op_mul (.inl (by omega)))) (Ev.name 2 rfl rfl) (op_mod (by omega)))⟩
  refine Ex.free 6 rfl ?_
  refine X.ret (EvO.ev (EvO.c2 "one" "weight" ["p"] ["plain_power"] [(3, .int (p : Int))] (EvIt.zip 2 rfl P.zip (Ev.callG 4 rfl (EvL.cons (Ev.name 5 rfl rfl) (EvL.cons (Ev.name 6 rfl rfl) (EvL.cons (Ev.name 2 rfl rfl) (EvL.cons (Ev.name 3 rfl rfl) EvL.nil)))) h1 (Nat.le_of_ble_eq_true rfl)) (Ev.name 4 rfl rfl) ?_) ?_ (fun i ds d hi hd => ?_) rfl ⟨⟨rfl, rfl, rfl, rfl, rfl⟩, trivial⟩)) (.inl rfl)
  · rw [pL_length]; omega
  · rw [zips_length, pL_length, pwL_length, pL_length, unp_length]; omega
  · obtain ⟨u, v, hu, hv, rfl⟩ := zips_at hi
    obtain ⟨l1, rfl⟩ := pL_at hu
    rw [pwL_get (by omega)] at hv
    rw [pL_get (by rw [unp_length]; omega), unp_getD _ _ l1] at hd
    cases hd; cases hv
    have hs1 := mod_small (p := p) (by omega) hp1 ((cvp p r T S (wtp p r2 x) (wtp p r2 y)).getD i 0)
    have hs2 := mod_small (p := p) (by omega) hp1 (r2 ^ i)
    refine ⟨_, _, rfl, fun cl C av => (Ev.binop (Ev.binop (Ev.name 0 rfl rfl) (Ev.callG 0 rfl (EvL.cons (Ev.name 1 rfl rfl) (EvL.cons ((Ev.binop (Ev.name 2 rfl rfl) Ev.int op_sub).to (congrArg D.int (show (p : Int) - 2 = ((p - 2 : Nat) : Int) by omega))) (EvL.cons (Ev.name 2 rfl rfl) EvL.nil))) (plain_power_ok P (by omega) hp1 hs2) (Nat.le_of_ble_eq_true rfl)) (op_mul (.inl (by omega)))) (Ev.name 2 rfl rfl) (op_mod (by omega))).to ?_⟩
    rw [Int.mul_emod, Int.emod_emod, ← Int.mul_emod]
end
end Mine
end
section
open PySem PySem.W PyProof.Rows PySem.Calls
set_option maxRecDepth 10000
set_option maxHeartbeats 4000000
namespace Mine
theorem pL_of {p : Nat} {l l' : List Int} (h : l.map (· % (p : Int)) = l'.map (· % (p : Int))) : pL p l = pL p l' := by
  rw [pL_iI, pL_iI, h]
theorem fwdp2 (p : Nat) (r a b : Int) : fwdp p r [a, b] = [a + b, (a - b) * (r ^ 0 % (p : Int))] := rfl
theorem fwdp4 (p : Nat) (r a b c d : Int) : fwdp p r [a, b, c, d] = [a + c + (b + d), (a + c - (b + d)) * ((r * r % (p : Int)) ^ 0 % (p : Int)),
  (a - c) * (r ^ 0 % (p : Int)) + (b - d) * (r ^ 1 % (p : Int)), ((a - c) * (r ^ 0 % (p : Int)) - (b - d) * (r ^ 1 % (p : Int))) * ((r * r % (p : Int)) ^ 0 % (p : Int))] := rfl
theorem bwdp2 (p : Nat) (T S a b : Int) : bwdp p T S [a, b] = [(a + b * ((T ^ 1 % (p : Int)) ^ 0 % (p : Int))) * S, (a - b * ((T ^ 1 % (p : Int)) ^ 0 % (p : Int))) * S] := rfl
theorem bwdp4 (p : Nat) (T S a b c d : Int) : bwdp p T S [a, b, c, d] =
  [(a + b * ((T ^ 2 % (p : Int)) ^ 0 % (p : Int)) + (c + d * ((T ^ 2 % (p : Int)) ^ 0 % (p : Int))) * ((T ^ 1 % (p : Int)) ^ 0 % (p : Int))) * S,
   (a - b * ((T ^ 2 % (p : Int)) ^ 0 % (p : Int)) + (c - d * ((T ^ 2 % (p : Int)) ^ 0 % (p : Int))) * ((T ^ 1 % (p : Int)) ^ 1 % (p : Int))) * S,
   (a + b * ((T ^ 2 % (p : Int)) ^ 0 % (p : Int)) - (c + d * ((T ^ 2 % (p : Int)) ^ 0 % (p : Int))) * ((T ^ 1 % (p : Int)) ^ 0 % (p : Int))) * S,
   (a - b * ((T ^ 2 % (p : Int)) ^ 0 % (p : Int)) - (c - d * ((T ^ 2 % (p : Int)) ^ 0 % (p : Int))) * ((T ^ 1 % (p : Int)) ^ 1 % (p : Int))) * S] := rfl
theorem wtp2 (p : Nat) (r a b : Int) : wtp p r [a, b] = [a * (r ^ 0 % (p : Int)), b * (r ^ 1 % (p : Int))] := rfl
theorem wtp4 (p : Nat) (r a b c d : Int) : wtp p r [a, b, c, d] = [a * (r ^ 0 % (p : Int)), b * (r ^ 1 % (p : Int)), c * (r ^ 2 % (p : Int)), d * (r ^ 3 % (p : Int))] := rfl
theorem unp2 (p : Nat) (r a b : Int) : unp p r [a, b] = [a * ((r ^ 0 % (p : Int)) ^ (p - 2) % (p : Int)), b * ((r ^ 1 % (p : Int)) ^ (p - 2) % (p : Int))] := rfl
theorem unp4 (p : Nat) (r a b c d : Int) : unp p r [a, b, c, d] = [a * ((r ^ 0 % (p : Int)) ^ (p - 2) % (p : Int)), b * ((r ^ 1 % (p : Int)) ^ (p - 2) % (p : Int)), c * ((r ^ 2 % (p : Int)) ^ (p - 2) % (p : Int)), d * ((r ^ 3 % (p : Int)) ^ (p - 2) % (p : Int))] := rfl
noncomputable def wp (p : Nat) (r : Int) (i : Nat) : Int := r ^ i % (p : Int)
noncomputable def φp (p : Nat) (r : Int) (i : Nat) : Int := (r ^ i % (p : Int)) ^ (p - 2) % (p : Int)
noncomputable def okp2 (p : Nat) (r T S : Int) : Bool := sameM (p : Int) (C2 (r ^ 0 % (p : Int)) ((T ^ 1 % (p : Int)) ^ 0 % (p : Int)) S) (D2 1)
noncomputable def okp4 (p : Nat) (r T S : Int) : Bool := sameM (p : Int) (C4 ((r * r % (p : Int)) ^ 0 % (p : Int)) (r ^ 0 % (p : Int)) ((T ^ 2 % (p : Int)) ^ 0 % (p : Int)) ((T ^ 1 % (p : Int)) ^ 0 % (p : Int)) (r ^ 1 % (p : Int)) ((T ^ 1 % (p : Int)) ^ 1 % (p : Int)) S) D4
theorem cvp_2 {p : Nat} {r T S : Int} (h : okp2 p r T S = true) (a0 a1 b0 b1 : Int) : (cvp p r T S [a0, a1] [b0, b1]).map (· % (p : Int)) = (due2 1 a0 a1 b0 b1).map (· % (p : Int)) := by
  rw [cvp, fwdp2, fwdp2]
  exact (congrArg (List.map (· % (p : Int))) (bwdp2 ..)).trans (cyc2 h a0 a1 b0 b1)
theorem cvp_4 {p : Nat} {r T S : Int} (h : okp4 p r T S = true) (a0 a1 a2 a3 b0 b1 b2 b3 : Int) : (cvp p r T S [a0, a1, a2, a3] [b0, b1, b2, b3]).map (· % (p : Int)) = (due4 1 a0 a1 a2 a3 b0 b1 b2 b3).map (· % (p : Int)) := by
  rw [cvp, fwdp4, fwdp4]
  exact (congrArg (List.map (· % (p : Int))) (bwdp4 ..)).trans (cyc4 h a0 a1 a2 a3 b0 b1 b2 b3 rfl rfl rfl rfl)
theorem cvt_2 {p : Nat} {r T S r2 : Int} (h : okp2 p r T S = true) (ht : two2 (p : Int) (wp p r2) (φp p r2) = true) (a0 a1 b0 b1 : Int) :
    (unp p r2 (cvp p r T S (wtp p r2 [a0, a1]) (wtp p r2 [b0, b1]))).map (· % (p : Int)) = (due2 (-1) a0 a1 b0 b1).map (· % (p : Int)) := by
  have e := list2 (cvp_length p r T S (a := [a0 * wp p r2 0, a1 * wp p r2 1]) (b := [b0 * wp p r2 0, b1 * wp p r2 1]) rfl)
  have g := cvp_2 h (a0 * wp p r2 0) (a1 * wp p r2 1) (b0 * wp p r2 0) (b1 * wp p r2 1)
  rw [e] at g
  refine Eq.trans ?_ (tw2 a0 a1 b0 b1 g (φ0 := φp p r2 0) (φ1 := φp p r2 1) ht)
  show (unp p r2 (cvp p r T S [a0 * wp p r2 0, a1 * wp p r2 1] [b0 * wp p r2 0, b1 * wp p r2 1])).map _ = _
  rw [e]; rfl
theorem cvt_4 {p : Nat} {r T S r2 : Int} (h : okp4 p r T S = true) (ht : two4 (p : Int) (wp p r2) (φp p r2) = true) (a0 a1 a2 a3 b0 b1 b2 b3 : Int) :
    (unp p r2 (cvp p r T S (wtp p r2 [a0, a1, a2, a3]) (wtp p r2 [b0, b1, b2, b3]))).map (· % (p : Int)) = (due4 (-1) a0 a1 a2 a3 b0 b1 b2 b3).map (· % (p : Int)) := by
  have e := list4 (cvp_length p r T S (a := [a0 * wp p r2 0, a1 * wp p r2 1, a2 * wp p r2 2, a3 * wp p r2 3]) (b := [b0 * wp p r2 0, b1 * wp p r2 1, b2 * wp p r2 2, b3 * wp p r2 3]) rfl)
  have g := cvp_4 h (a0 * wp p r2 0) (a1 * wp p r2 1) (a2 * wp p r2 2) (a3 * wp p r2 3) (b0 * wp p r2 0) (b1 * wp p r2 1) (b2 * wp p r2 2) (b3 * wp p r2 3)
  rw [e] at g
  refine Eq.trans ?_ (tw4 a0 a1 a2 a3 b0 b1 b2 b3 g (φ0 := φp p r2 0) (φ1 := φp p r2 1) (φ2 := φp p r2 2) (φ3 := φp p r2 3) ht)
  show (unp p r2 (cvp p r T S [a0 * wp p r2 0, a1 * wp p r2 1, a2 * wp p r2 2, a3 * wp p r2 3] [b0 * wp p r2 0, b1 * wp p r2 1, b2 * wp p r2 2, b3 * wp p r2 3])).map _ = _
  rw [e]; rfl
end Mine
end
section
open PySem PySem.W PyProof.Rows PySem.Calls
set_option linter.unusedSectionVars false
set_option maxRecDepth 10000
set_option maxHeartbeats 2000000
namespace Mine
variable {W : Wd}

theorem cmpN_ge' {x y : Nat} : cmpN x y ≥ 0 ↔ y ≤ x := by
  unfold cmpN; split
  · omega
  · split <;> omega
theorem cmpN_lt' {x y : Nat} : cmpN x y < 0 ↔ x < y := by
  unfold cmpN; split
  · omega
  · split <;> omega
/-- a number with its sign -/
noncomputable def SV (B : Nat) (v : Int) : D := .tup [.bool (decide (v < 0)), R B v.natAbs]
theorem SV_nat (B x : Nat) : D.tup [.bool false, R B x] = SV B (x : Int) := by
  unfold SV
  rw [decide_eq_false (by omega), Int.natAbs_natCast]

section
variable (P : Prg W) {w : Nat} (hw : 1 ≤ w) (hw' : w ≤ 16)
include P hw hw'
omit hw' in
theorem signed_ok (b : Bool) {x : Nat} {v : Int} (hx : x < 2 ^ 64) (hv : v = if b then -(x : Int) else (x : Int)) : CallOK W 1 "signed" [.bool b, R (2 ^ w) x] (SV (2 ^ w) v) := by
  have hB := pow2_ge hw
  have nx := nd_small hB hx
  refine fn_ok P.f_signed ["is_below", "nat"] [] ["len"] (fun n => by kernel_rfl) rfl ?_ ?_
  · intro m
    refine all2 fun v1 v2 => ?_
    kernel_rfl
  intro A m L a h₀ av
  refine X.ret ((Ev.tup (EvL.cons (Ev.and (Ev.name 0 rfl rfl) fun _ => (Ev.cmp (Ev.len 0 rfl P.len (EvSeq.of (Ev.name 1 rfl rfl)) ?_) Ev.int cmp_gt)) (EvL.cons (Ev.name 1 rfl rfl) EvL.nil))).to ?_) (.inl rfl)
  · rw [iL_lim_length]; omega
  · rw [iL_lim_length]
    unfold SV
    have h1 : v.natAbs = x := by cases b <;> simp at hv <;> omega
    have h2 : (b && decide (((nd (2 ^ w) x : Nat) : Int) > 0)) = decide (v < 0) := by
      have : (decide (((nd (2 ^ w) x : Nat) : Int) > 0)) = decide (0 < x) := by
        rw [decide_eq_decide]
        have := nd_eq_zero (z := x) hB
        omega
      rw [this]
      cases b
      · simp at hv ⊢; omega
      · simp at hv ⊢; omega
    rw [h1, h2]
theorem s_neg_ok {v : Int} (hv : v.natAbs < 2 ^ 62) : CallOK W 2 "s_neg" [SV (2 ^ w) v] (SV (2 ^ w) (-v)) := by
  have hs := signed_ok P hw (!(decide (v < 0))) (x := v.natAbs) (v := -v) (by omega) (by
    by_cases h : v < 0
    · simp [h]; omega
    · simp [h]; omega)
  refine fn_ok P.f_s_neg ["x"] [] ["signed"] (fun n => by kernel_rfl) rfl ?_ ?_
  · intro m
    refine all1 fun v1 => ?_
    kernel_rfl
  intro A m L a h₀ av
  exact X.ret (Ev.callG 0 rfl (EvL.cons (Ev.not (Ev.itemTN (Ev.name 0 rfl rfl) Ev.int 0 rfl (by omega) rfl)) (EvL.cons (Ev.itemTN (Ev.name 0 rfl rfl) Ev.int 1 rfl (by omega) rfl) EvL.nil)) hs (Nat.le_of_ble_eq_true rfl)) (.inl rfl)
theorem s_add_ok {x y : Int} (hx : x.natAbs < 2 ^ 62) (hy : y.natAbs < 2 ^ 62) : CallOK W 3 "s_add" [SV (2 ^ w) x, SV (2 ^ w) y, .int (w : Int)] (SV (2 ^ w) (x + y)) := by
  have hcmp := compare_ok P (w := w) (x := x.natAbs) (y := y.natAbs) hw (by omega) (by omega)
  refine fn_ok P.f_s_add ["x", "y", "w"] [] ["signed", "add", "compare", "sub"] (fun n => by kernel_rfl) rfl ?_ ?_
  · intro m
    refine all3 fun v1 v2 v3 => ?_
    kernel_rfl
  intro A m L a h₀ av
  refine X.else (EvT.cmp (Ev.itemTN (Ev.name 0 rfl rfl) Ev.int 0 rfl (by omega) rfl) (Ev.itemTN (Ev.name 1 rfl rfl) Ev.int 0 rfl (by omega) rfl) cmp_eqb) (fun h => ?_) (fun h => ?_)
  · have h' : decide (x < 0) = decide (y < 0) := by simpa using h
    have h'' : x < 0 ↔ y < 0 := by rwa [decide_eq_decide] at h'
    exact X.ret (Ev.callG 0 rfl (EvL.cons (Ev.itemTN (Ev.name 0 rfl rfl) Ev.int 0 rfl (by omega) rfl) (EvL.cons (Ev.callG 1 rfl (EvL.cons (Ev.itemTN (Ev.name 0 rfl rfl) Ev.int 1 rfl (by omega) rfl) (EvL.cons (Ev.itemTN (Ev.name 1 rfl rfl) Ev.int 1 rfl (by omega) rfl) (EvL.cons (Ev.name 2 rfl rfl) EvL.nil))) (add_ok P hw hw' (by omega) (by omega)) (Nat.le_of_ble_eq_true rfl)) EvL.nil))
      (signed_ok P hw _ (v := x + y) (by omega) (by by_cases q : x < 0 <;> simp [q] <;> omega)) (Nat.le_of_ble_eq_true rfl)) (.inl rfl)
  have h'' : ¬ (x < 0 ↔ y < 0) := fun e => by
    have : decide (x < 0) = decide (y < 0) := by rwa [decide_eq_decide]
    rw [this] at h; simp at h
  refine X.else (EvT.cmp (Ev.callG 2 rfl (EvL.cons (Ev.itemTN (Ev.name 0 rfl rfl) Ev.int 1 rfl (by omega) rfl) (EvL.cons (Ev.itemTN (Ev.name 1 rfl rfl) Ev.int 1 rfl (by omega) rfl) EvL.nil)) hcmp (Nat.le_of_ble_eq_true rfl)) Ev.int cmp_lt) (fun h => ?_) (fun h => ?_)
  · have hlt : x.natAbs < y.natAbs := by simpa only [decide_eq_true_eq, cmpN_lt'] using h
    exact X.ret (Ev.callG 0 rfl (EvL.cons (Ev.itemTN (Ev.name 1 rfl rfl) Ev.int 0 rfl (by omega) rfl) (EvL.cons (Ev.callG 3 rfl (EvL.cons (Ev.itemTN (Ev.name 1 rfl rfl) Ev.int 1 rfl (by omega) rfl) (EvL.cons (Ev.itemTN (Ev.name 0 rfl rfl) Ev.int 1 rfl (by omega) rfl) (EvL.cons (Ev.name 2 rfl rfl) EvL.nil))) (sub_ok P hw hw' (by omega) (by omega)) (Nat.le_of_ble_eq_true rfl)) EvL.nil))
      (signed_ok P hw _ (v := x + y) (by omega) (by by_cases q : y < 0 <;> simp [q] <;> omega)) (Nat.le_of_ble_eq_true rfl)) (.inl rfl)
  · have hge : y.natAbs ≤ x.natAbs := by
      have : ¬ x.natAbs < y.natAbs := by simpa only [decide_eq_false_iff_not, cmpN_lt'] using h
      omega
    exact X.ret (Ev.callG 0 rfl (EvL.cons (Ev.itemTN (Ev.name 0 rfl rfl) Ev.int 0 rfl (by omega) rfl) (EvL.cons (Ev.callG 3 rfl (EvL.cons (Ev.itemTN (Ev.name 0 rfl rfl) Ev.int 1 rfl (by omega) rfl) (EvL.cons (Ev.itemTN (Ev.name 1 rfl rfl) Ev.int 1 rfl (by omega) rfl) (EvL.cons (Ev.name 2 rfl rfl) EvL.nil))) (sub_ok P hw hw' (by omega) hge) (Nat.le_of_ble_eq_true rfl)) EvL.nil))
      (signed_ok P hw _ (v := x + y) (by omega) (by by_cases q : x < 0 <;> simp [q] <;> omega)) (Nat.le_of_ble_eq_true rfl)) (.inl rfl)
theorem s_sub_ok {x y : Int} (hx : x.natAbs < 2 ^ 62) (hy : y.natAbs < 2 ^ 62) : CallOK W 4 "s_sub" [SV (2 ^ w) x, SV (2 ^ w) y, .int (w : Int)] (SV (2 ^ w) (x - y)) := by
  have h1 := s_neg_ok P hw hw' hy
  have h2 := s_add_ok P hw hw' (x := x) (y := -y) hx (by omega)
  rw [show x + -y = x - y by omega] at h2
  refine fn_ok P.f_s_sub ["x", "y", "w"] [] ["s_add", "s_neg"] (fun n => by kernel_rfl) rfl ?_ ?_
  · intro m
    refine all3 fun v1 v2 v3 => ?_
    kernel_rfl
  intro A m L a h₀ av
  exact X.ret (Ev.callG 0 rfl (EvL.cons (Ev.name 0 rfl rfl) (EvL.cons (Ev.callG 1 rfl (EvL.cons (Ev.name 1 rfl rfl) EvL.nil) h1 (Nat.le_of_ble_eq_true rfl)) (EvL.cons (Ev.name 2 rfl rfl) EvL.nil))) h2 (Nat.le_of_ble_eq_true rfl)) (.inl rfl)
theorem s_mul_ok {x y : Int} (hx : x.natAbs < 2 ^ 31) (hy : y.natAbs < 2 ^ 31) : CallOK W 3 "s_mul" [SV (2 ^ w) x, SV (2 ^ w) y, .int (w : Int), .fn "mul_school"] (SV (2 ^ w) (x * y)) := by
  have hxy : x.natAbs * y.natAbs ≤ 2 ^ 31 * 2 ^ 31 := Nat.mul_le_mul (by omega) (by omega)
  have hm := mul_school_ok P (w := w) (x := x.natAbs) (y := y.natAbs) hw hw' (by omega) (by omega)
  have hs := signed_ok P hw (decide (x < 0) != decide (y < 0)) (x := x.natAbs * y.natAbs) (v := x * y) (by omega) (by
    rw [← Int.natAbs_mul]
    by_cases h1 : x < 0 <;> by_cases h2 : y < 0
    · have := Int.mul_pos_of_neg_of_neg h1 h2
      simp [h1, h2]; omega
    · have := Int.mul_nonpos_of_nonpos_of_nonneg (show x ≤ 0 by omega) (show 0 ≤ y by omega)
      simp [h1, h2]; omega
    · have := Int.mul_nonpos_of_nonneg_of_nonpos (show 0 ≤ x by omega) (show y ≤ 0 by omega)
      simp [h1, h2]; omega
    · have := Int.mul_nonneg (show 0 ≤ x by omega) (show 0 ≤ y by omega)
      simp [h1, h2]; omega)
  refine fn_ok P.f_s_mul ["x", "y", "w", "mul"] [] ["signed"] (fun n => by kernel_rfl) rfl ?_ ?_
  · intro m
    refine all4 fun v1 v2 v3 v4 => ?_
    kernel_rfl
  intro A m L a h₀ av
  exact X.ret (Ev.callG 0 rfl (EvL.cons (Ev.cmp (Ev.itemTN (Ev.name 0 rfl rfl) Ev.int 0 rfl (by omega) rfl) (Ev.itemTN (Ev.name 1 rfl rfl) Ev.int 0 rfl (by omega) rfl) cmp_neb) (EvL.cons (Ev.call (Ev.name 3 rfl rfl) (EvL.cons (Ev.itemTN (Ev.name 0 rfl rfl) Ev.int 1 rfl (by omega) rfl) (EvL.cons (Ev.itemTN (Ev.name 1 rfl rfl) Ev.int 1 rfl (by omega) rfl) (EvL.cons (Ev.name 2 rfl rfl) EvL.nil))) hm (Nat.le_of_ble_eq_true rfl)) EvL.nil)) hs (Nat.le_of_ble_eq_true rfl)) (.inl rfl)
theorem scaled_ok {x : Int} {n : Nat} (hx : x.natAbs < 2 ^ 62) (hn : n ≤ 64) : CallOK W 2 "scaled" [SV (2 ^ w) x, .int (n : Int), .int (w : Int)] (SV (2 ^ w) (x * 2 ^ n)) := by
  have hsl := shift_left_ok P (w := w) (x := x.natAbs) (n := n) hw hw' (by omega) hn
  refine fn_ok P.f_scaled ["x", "n", "w"] [] ["shift_left"] (fun n => by kernel_rfl) rfl ?_ ?_
  · intro m
    refine all3 fun v1 v2 v3 => ?_
    kernel_rfl
  intro A m L a h₀ av
  refine X.ret ((Ev.tup (EvL.cons (Ev.itemTN (Ev.name 0 rfl rfl) Ev.int 0 rfl (by omega) rfl) (EvL.cons (Ev.callG 0 rfl (EvL.cons (Ev.itemTN (Ev.name 0 rfl rfl) Ev.int 1 rfl (by omega) rfl) (EvL.cons (Ev.name 1 rfl rfl) (EvL.cons (Ev.name 2 rfl rfl) EvL.nil))) hsl (Nat.le_of_ble_eq_true rfl)) EvL.nil))).to ?_) (.inl rfl)
  unfold SV
  have hp : (0 : Int) < 2 ^ n := Int.pow_pos (by decide)
  have h1 : (x * 2 ^ n).natAbs = x.natAbs * 2 ^ n := by rw [Int.natAbs_mul, Int.natAbs_pow]; rfl
  have h2 : decide (x * 2 ^ n < 0) = decide (x < 0) := by
    rw [decide_eq_decide]
    constructor
    · intro h
      rcases Int.lt_or_le x 0 with q | q
      · exact q
      · have := Int.mul_nonneg q (Int.le_of_lt hp); omega
    · intro h
      exact Int.mul_neg_of_neg_of_pos h hp
  rw [h1, h2]
omit P hw hw' in
theorem dg_cons {B q e : Nat} (n : Nat) (he : e < B) : dg B (q * B + e) (n + 1) = e :: dg B q n := by
  unfold dg
  rw [List.range_succ_eq_map, List.map_cons, List.map_map]
  congr 1
  · rw [Nat.pow_zero, Nat.div_one, Nat.add_comm, Nat.add_mul_mod_self_right, Nat.mod_eq_of_lt he]
  · refine List.map_congr_left fun i _ => ?_
    show (q * B + e) / B ^ (i + 1) % B = q / B ^ i % B
    rw [Nat.pow_succ', ← Nat.div_div_eq_div_mul, Nat.add_comm, Nat.add_mul_div_right _ _ (by omega), Nat.div_eq_of_lt he, Nat.zero_add]
theorem exact_small_ok {q : Int} {d : Nat} (hd : 0 < d) (hd' : d ≤ 100) (hx : ((d : Int) * q).natAbs < 2 ^ 62) {v : Int} (hv : v = (d : Int) * q) : CallOK W 2 "exact_small" [SV (2 ^ w) v, .int (d : Int), .int (w : Int)] (SV (2 ^ w) q) := by
  subst hv
  have hB := pow2_ge hw
  have hwl : 2 ^ w ≤ 2 ^ 16 := Nat.pow_le_pow_right (by omega) hw'
  have eX : ((d : Int) * q).natAbs = d * q.natAbs := by rw [Int.natAbs_mul, Int.natAbs_natCast]
  have h2 : decide ((d : Int) * q < 0) = decide (q < 0) := by
    rw [decide_eq_decide]
    constructor
    · intro h
      rcases Int.lt_or_le q 0 with z | z
      · exact z
      · have := Int.mul_nonneg (show (0 : Int) ≤ d by omega) z; omega
    · intro h
      have := Int.mul_neg_of_neg_of_pos h (show (0 : Int) < (d : Int) by omega)
      rw [Int.mul_comm]; exact this
  unfold SV
  rw [h2]
  rw [eX] at hx ⊢
  generalize hQ : q.natAbs = Q at *
  generalize hX : d * Q = Y at *
  have nX := nd_small (z := Y) hB (by omega)
  have hYd : Y / d = Q := by rw [← hX, Nat.mul_div_cancel_left _ hd]
  have hYm : Y % d = 0 := by rw [← hX, Nat.mul_mod_right]
  have hQl : Q < (2 ^ w) ^ nd (2 ^ w) Y := by
    rw [← hYd]; exact Nat.lt_of_le_of_lt (Nat.div_le_self _ _) (nd_lt hB Y)
  have hnorm := normal_dg P hB hQl (by omega)
  refine fn_ok P.f_exact_small ["x", "d", "w"] ["found", "rest", "limb", "whole"] ["DivisionByZero", "OutOfRange", "reversed", "NotExact", "normal"] (fun n => by kernel_rfl) rfl ?_ ?_
  · intro m
    refine all3 fun v1 v2 v3 => ?_
    kernel_rfl
  intro A m L a h₀ av
  refine X.no ((EvT.cmp (Ev.name 1 rfl rfl) Ev.int cmp_eq).to ?_) ?_
  · simp; omega
  refine X.no ((EvT.cmp (Ev.name 1 rfl rfl) Ev.int cmp_lt).to ?_) ?_
  · simp
  refine X.ow 3 [(4, "rest")] (EvO.disp EvL.nil) (fun ad => (EvL.cons Ev.int EvL.nil)) (fun ad => ?_) ⟨⟨rfl, rfl⟩, trivial⟩
  dsimp only [setP, List.set, List.reverse, List.reverseAux]
  refine X.forL 5 (fun i ρ => ∃ b b', ρ = [some (.p (.tup [.bool (decide (q < 0)), R (2 ^ w) Y])), some (.p (.int (d : Int))), some (.p (.int (w : Int))), some (.own ad (iL (dg (2 ^ w) (Y / (2 ^ w) ^ (nd (2 ^ w) Y - i) / d) i).reverse)), some (.p (.int ((Y / (2 ^ w) ^ (nd (2 ^ w) Y - i) % d : Nat) : Int))), b, b'])
    (EvIt.rev 2 rfl P.reversed (Ev.itemTN (Ev.name 0 rfl rfl) Ev.int 1 rfl (by omega) rfl) ?_) ⟨none, none, ?_⟩ (fun i ρ dd hi hdd hI => ?_) (fun ρ hI => ?_)
  · rw [iL_lim_length]; omega
  · rw [Nat.sub_zero, Nat.div_eq_of_lt (nd_lt hB Y), Nat.zero_mod]; rfl
  · obtain ⟨b, b', rfl⟩ := hI
    rw [List.length_reverse, iL_lim_length] at hi
    obtain ⟨J, hJ⟩ : ∃ J, nd (2 ^ w) Y = i + 1 + J := ⟨nd (2 ^ w) Y - (i + 1), by omega⟩
    have e0 : (iL (lim (2 ^ w) Y)).reverse[i]? = some (.int ((Y / (2 ^ w) ^ J % 2 ^ w : Nat) : Int)) := by
      rw [List.getElem?_reverse (by rw [iL_lim_length]; omega), iL_lim_length, show nd (2 ^ w) Y - 1 - i = J by omega]
      exact iLl_get (by omega)
    rw [e0] at hdd
    cases hdd
    rw [show nd (2 ^ w) Y - i = J + 1 by omega, show nd (2 ^ w) Y - (i + 1) = J by omega]
    have sp := div_split (2 ^ w) Y J
    have hll : Y / (2 ^ w) ^ J % 2 ^ w < 2 ^ w := Nat.mod_lt _ (by omega)
    generalize Y / (2 ^ w) ^ (J + 1) = U at *
    generalize hl : Y / (2 ^ w) ^ J % 2 ^ w = l at *
    have hr := Nat.mod_lt U hd
    have hU := Nat.div_add_mod U d
    have hwh : U % d * 2 ^ w + l < d * 2 ^ w := by
      have : (U % d + 1) * 2 ^ w ≤ d * 2 ^ w := Nat.mul_le_mul_right _ hr
      rw [Nat.add_mul, Nat.one_mul] at this
      omega
    have ev : Y / (2 ^ w) ^ J = (U % d * 2 ^ w + l) + d * (U / d * 2 ^ w) := by
      rw [sp]
      conv => lhs; lhs; rw [← hU, Nat.add_mul, Nat.mul_assoc]
      omega
    have eq1 : Y / (2 ^ w) ^ J / d = U / d * 2 ^ w + (U % d * 2 ^ w + l) / d := by
      rw [ev, Nat.add_mul_div_left _ _ hd, Nat.add_comm]
    have eq2 : Y / (2 ^ w) ^ J % d = (U % d * 2 ^ w + l) % d := by
      rw [ev, Nat.add_mul_mod_self_left]
    have hel : (U % d * 2 ^ w + l) / d < 2 ^ w := by
      rw [Nat.div_lt_iff_lt_mul hd, Nat.mul_comm (2 ^ w) d]; exact hwh
    refine ⟨rfl, ?_⟩
    dsimp only [List.set]
    refine X.set 6 (d := .int ((U % d * 2 ^ w + l : Nat) : Int)) ((Ev.binop (Ev.binop (Ev.name 4 rfl rfl) (Ev.name 2 rfl rfl) (op_shl (by omega) (by omega) (by omega))) (Ev.name 5 rfl rfl) op_add).to ?_) ?_
    · rw [tw]; simp
    dsimp only [List.set]
    refine X.app 3 (d := .int (((U % d * 2 ^ w + l) / d : Nat) : Int)) (Ev.binop (Ev.name 6 rfl rfl) (Ev.name 1 rfl rfl) (op_div (by omega) (by omega))) ?_ ?_
    · rw [iL_length, List.length_reverse, dg_length]; omega
    dsimp only [List.set]
    rw [iL_snoc]
    refine X.set 4 (d := .int (((U % d * 2 ^ w + l) % d : Nat) : Int)) (Ev.binop (Ev.name 6 rfl rfl) (Ev.name 1 rfl rfl) (op_mod (by omega))) (Ex.nil ⟨some (.p (.int (l : Int))), some (.p (.int ((U % d * 2 ^ w + l : Nat) : Int))), ?_⟩)
    dsimp only [List.set]
    rw [eq1, eq2, dg_cons i hel, List.reverse_cons]
  · obtain ⟨b, b', rfl⟩ := hI
    rw [List.length_reverse, iL_lim_length, Nat.sub_self, Nat.pow_zero, Nat.div_one, hYd, hYm]
    refine X.no ((EvT.cmp (Ev.name 4 rfl rfl) Ev.int cmp_ne).to rfl) ?_
    refine X.ret (Ev.tup (EvL.cons (Ev.itemTN (Ev.name 0 rfl rfl) Ev.int 0 rfl (by omega) rfl) (EvL.cons (Ev.callG 4 rfl (EvL.cons ((EvO.ev (EvO.rev (EvSeq.own 3 rfl rfl) (Ev.neg Ev.int) ?_)).to ?_) EvL.nil) hnorm (Nat.le_of_ble_eq_true rfl)) EvL.nil))) (.inl rfl)
    · rw [iL_length, List.length_reverse, dg_length]; omega
    · simp [iL]
theorem natural_ok {x : Int} (hx : 0 ≤ x) : CallOK W 1 "natural" [SV (2 ^ w) x] (R (2 ^ w) x.toNat) := by
  refine fn_ok P.f_natural ["x"] [] ["OutOfRange"] (fun n => by kernel_rfl) rfl ?_ ?_
  · intro m
    refine all1 fun v1 => ?_
    kernel_rfl
  intro A m L a h₀ av
  refine X.no ((EvT.val (Ev.itemTN (Ev.name 0 rfl rfl) Ev.int 0 rfl (by omega) rfl)).to (decide_eq_false (by omega))) ?_
  refine X.ret ((Ev.itemTN (Ev.name 0 rfl rfl) Ev.int 1 rfl (by omega) rfl).to ?_) (.inl rfl)
  rw [show x.natAbs = x.toNat by omega]
end
end Mine
end
section
open PySem PySem.W PyProof.Rows PySem.Calls
set_option linter.unusedSectionVars false
set_option maxRecDepth 10000
set_option maxHeartbeats 4000000
namespace Mine
variable {W : Wd}

section
variable (P : Prg W) {w : Nat} (hw : 1 ≤ w) (hw' : w ≤ 16)
include P hw hw'
theorem s_sub_to {x y z : Int} (hx : x.natAbs < 2 ^ 62) (hy : y.natAbs < 2 ^ 62) (hz : x - y = z) : CallOK W 4 "s_sub" [SV (2 ^ w) x, SV (2 ^ w) y, .int (w : Int)] (SV (2 ^ w) z) := hz ▸ s_sub_ok P hw hw' hx hy
theorem s_add_to {x y z : Int} (hx : x.natAbs < 2 ^ 62) (hy : y.natAbs < 2 ^ 62) (hz : x + y = z) : CallOK W 3 "s_add" [SV (2 ^ w) x, SV (2 ^ w) y, .int (w : Int)] (SV (2 ^ w) z) := hz ▸ s_add_ok P hw hw' hx hy
theorem scaled_to {x z : Int} (n : Nat) (hx : x.natAbs < 2 ^ 62) (hn : n ≤ 64) (hz : x * 2 ^ n = z) : CallOK W 2 "scaled" [SV (2 ^ w) x, .int (n : Int), .int (w : Int)] (SV (2 ^ w) z) := hz ▸ scaled_ok P hw hw' hx hn
theorem exact_to {v q : Int} (d : Nat) (hd : 0 < d) (hd' : d ≤ 100) (hx : v.natAbs < 2 ^ 62) (hv : v = (d : Int) * q) : CallOK W 2 "exact_small" [SV (2 ^ w) v, .int (d : Int), .int (w : Int)] (SV (2 ^ w) q) := exact_small_ok P hw hw' hd hd' (hv ▸ hx) hv

theorem halves_of_ok {e o : Int} (he : e.natAbs < 2 ^ 60) (ho : o.natAbs < 2 ^ 60) : CallOK W 5 "halves_of" [SV (2 ^ w) (e + o), SV (2 ^ w) (e - o), .int (w : Int)] (.tup [SV (2 ^ w) e, SV (2 ^ w) o]) := by
  refine fn_ok P.f_halves_of ["plus", "minus", "w"] [] ["exact_small", "s_add", "s_sub"] (fun n => by kernel_rfl) rfl ?_ ?_
  · intro m
    refine all3 fun v1 v2 v3 => ?_
    kernel_rfl
  intro A m L a h₀ av
  exact X.ret (Ev.tup (EvL.cons (Ev.callG 0 rfl (EvL.cons (Ev.callG 1 rfl (EvL.cons (Ev.name 0 rfl rfl) (EvL.cons (Ev.name 1 rfl rfl) (EvL.cons (Ev.name 2 rfl rfl) EvL.nil))) (s_add_to P hw hw' (z := 2 * e) (by omega) (by omega) (by omega)) (Nat.le_of_ble_eq_true rfl)) (EvL.cons Ev.int (EvL.cons (Ev.name 2 rfl rfl) EvL.nil))) (exact_to P hw hw' 2 (q := e) (by omega) (by omega) (by omega) (by omega)) (Nat.le_of_ble_eq_true rfl))
    (EvL.cons (Ev.callG 0 rfl (EvL.cons (Ev.callG 2 rfl (EvL.cons (Ev.name 0 rfl rfl) (EvL.cons (Ev.name 1 rfl rfl) (EvL.cons (Ev.name 2 rfl rfl) EvL.nil))) (s_sub_to P hw hw' (z := 2 * o) (by omega) (by omega) (by omega)) (Nat.le_of_ble_eq_true rfl)) (EvL.cons Ev.int (EvL.cons (Ev.name 2 rfl rfl) EvL.nil))) (exact_to P hw hw' 2 (q := o) (by omega) (by omega) (by omega) (by omega)) (Nat.le_of_ble_eq_true rfl)) EvL.nil))) (.inl rfl)

theorem even_coefficients_ok {c0 c2 c4 c6 : Int} (h0 : 0 ≤ c0 ∧ c0 ≤ 1000) (h2 : 0 ≤ c2 ∧ c2 ≤ 1000) (h4 : 0 ≤ c4 ∧ c4 ≤ 1000) (h6 : 0 ≤ c6 ∧ c6 ≤ 1000) : CallOK W 5 "even_coefficients" [SV (2 ^ w) (c0 + c2 + c4 + c6), SV (2 ^ w) (c0 + 4 * c2 + 16 * c4 + 64 * c6), SV (2 ^ w) c0, SV (2 ^ w) c6, .int (w : Int)] (.tup [SV (2 ^ w) c2, SV (2 ^ w) c4]) := by
  refine fn_ok P.f_even_coefficients ["even_one", "even_two", "at_zero", "at_far", "w"] ["one", "two", "fourth"] ["s_sub", "scaled", "exact_small"] (fun n => by kernel_rfl) rfl ?_ ?_
  · intro m
    refine all5 fun v1 v2 v3 v4 v5 => ?_
    kernel_rfl
  intro A m L a h₀ av
  refine X.set 5 (Ev.callG 0 rfl (EvL.cons (Ev.callG 0 rfl (EvL.cons (Ev.name 0 rfl rfl) (EvL.cons (Ev.name 2 rfl rfl) (EvL.cons (Ev.name 4 rfl rfl) EvL.nil))) (s_sub_to P hw hw' (z := c2 + c4 + c6) (by omega) (by omega) (by omega)) (Nat.le_of_ble_eq_true rfl)) (EvL.cons (Ev.name 3 rfl rfl) (EvL.cons (Ev.name 4 rfl rfl) EvL.nil))) (s_sub_to P hw hw' (z := c2 + c4) (by omega) (by omega) (by omega)) (Nat.le_of_ble_eq_true rfl)) ?_
  refine X.set 6 (Ev.callG 0 rfl (EvL.cons (Ev.callG 0 rfl (EvL.cons (Ev.name 1 rfl rfl) (EvL.cons (Ev.name 2 rfl rfl) (EvL.cons (Ev.name 4 rfl rfl) EvL.nil))) (s_sub_to P hw hw' (z := 4 * c2 + 16 * c4 + 64 * c6) (by omega) (by omega) (by omega)) (Nat.le_of_ble_eq_true rfl)) (EvL.cons (Ev.callG 1 rfl (EvL.cons (Ev.name 3 rfl rfl) (EvL.cons Ev.int (EvL.cons (Ev.name 4 rfl rfl) EvL.nil))) (scaled_to P hw hw' 6 (z := 64 * c6) (by omega) (by omega) (by omega)) (Nat.le_of_ble_eq_true rfl)) (EvL.cons (Ev.name 4 rfl rfl) EvL.nil))) (s_sub_to P hw hw' (z := 4 * (c2 + 4 * c4)) (by omega) (by omega) (by omega)) (Nat.le_of_ble_eq_true rfl)) ?_
  refine X.set 7 (Ev.callG 2 rfl (EvL.cons (Ev.callG 0 rfl (EvL.cons (Ev.callG 2 rfl (EvL.cons (Ev.name 6 rfl rfl) (EvL.cons Ev.int (EvL.cons (Ev.name 4 rfl rfl) EvL.nil))) (exact_to P hw hw' 4 (q := c2 + 4 * c4) (by omega) (by omega) (by omega) (by omega)) (Nat.le_of_ble_eq_true rfl)) (EvL.cons (Ev.name 5 rfl rfl) (EvL.cons (Ev.name 4 rfl rfl) EvL.nil))) (s_sub_to P hw hw' (z := 3 * c4) (by omega) (by omega) (by omega)) (Nat.le_of_ble_eq_true rfl)) (EvL.cons Ev.int (EvL.cons (Ev.name 4 rfl rfl) EvL.nil))) (exact_to P hw hw' 3 (q := c4) (by omega) (by omega) (by omega) (by omega)) (Nat.le_of_ble_eq_true rfl)) ?_
  exact X.ret (Ev.tup (EvL.cons (Ev.callG 0 rfl (EvL.cons (Ev.name 5 rfl rfl) (EvL.cons (Ev.name 7 rfl rfl) (EvL.cons (Ev.name 4 rfl rfl) EvL.nil))) (s_sub_to P hw hw' (z := c2) (by omega) (by omega) (by omega)) (Nat.le_of_ble_eq_true rfl)) (EvL.cons (Ev.name 7 rfl rfl) EvL.nil))) (.inl rfl)

theorem odd_coefficients_ok {c1 c3 c5 : Int} (h1 : 0 ≤ c1 ∧ c1 ≤ 1000) (h3 : 0 ≤ c3 ∧ c3 ≤ 1000) (h5 : 0 ≤ c5 ∧ c5 ≤ 1000) : CallOK W 5 "odd_coefficients" [SV (2 ^ w) (c1 + c3 + c5), SV (2 ^ w) (c1 + 4 * c3 + 16 * c5), SV (2 ^ w) (16 * c1 + 4 * c3 + c5), .int (w : Int)] (.tup [SV (2 ^ w) c1, SV (2 ^ w) c3, SV (2 ^ w) c5]) := by
  refine fn_ok P.f_odd_coefficients ["odd_one", "odd_two", "odd_half", "w"] ["low", "high", "third", "fifth"] ["exact_small", "s_sub", "scaled"] (fun n => by kernel_rfl) rfl ?_ ?_
  · intro m
    refine all4 fun v1 v2 v3 v4 => ?_
    kernel_rfl
  intro A m L a h₀ av
  refine X.set 4 (Ev.callG 0 rfl (EvL.cons (Ev.callG 1 rfl (EvL.cons (Ev.name 1 rfl rfl) (EvL.cons (Ev.name 0 rfl rfl) (EvL.cons (Ev.name 3 rfl rfl) EvL.nil))) (s_sub_to P hw hw' (z := 3 * (c3 + 5 * c5)) (by omega) (by omega) (by omega)) (Nat.le_of_ble_eq_true rfl)) (EvL.cons Ev.int (EvL.cons (Ev.name 3 rfl rfl) EvL.nil))) (exact_to P hw hw' 3 (q := c3 + 5 * c5) (by omega) (by omega) (by omega) (by omega)) (Nat.le_of_ble_eq_true rfl)) ?_
  refine X.set 5 (Ev.callG 0 rfl (EvL.cons (Ev.callG 1 rfl (EvL.cons (Ev.callG 2 rfl (EvL.cons (Ev.name 0 rfl rfl) (EvL.cons Ev.int (EvL.cons (Ev.name 3 rfl rfl) EvL.nil))) (scaled_to P hw hw' 4 (z := 16 * (c1 + c3 + c5)) (by omega) (by omega) (by omega)) (Nat.le_of_ble_eq_true rfl)) (EvL.cons (Ev.name 2 rfl rfl) (EvL.cons (Ev.name 3 rfl rfl) EvL.nil))) (s_sub_to P hw hw' (z := 3 * (4 * c3 + 5 * c5)) (by omega) (by omega) (by omega)) (Nat.le_of_ble_eq_true rfl)) (EvL.cons Ev.int (EvL.cons (Ev.name 3 rfl rfl) EvL.nil))) (exact_to P hw hw' 3 (q := 4 * c3 + 5 * c5) (by omega) (by omega) (by omega) (by omega)) (Nat.le_of_ble_eq_true rfl)) ?_
  refine X.set 6 (Ev.callG 0 rfl (EvL.cons (Ev.callG 1 rfl (EvL.cons (Ev.name 5 rfl rfl) (EvL.cons (Ev.name 4 rfl rfl) (EvL.cons (Ev.name 3 rfl rfl) EvL.nil))) (s_sub_to P hw hw' (z := 3 * c3) (by omega) (by omega) (by omega)) (Nat.le_of_ble_eq_true rfl)) (EvL.cons Ev.int (EvL.cons (Ev.name 3 rfl rfl) EvL.nil))) (exact_to P hw hw' 3 (q := c3) (by omega) (by omega) (by omega) (by omega)) (Nat.le_of_ble_eq_true rfl)) ?_
  refine X.set 7 (Ev.callG 0 rfl (EvL.cons (Ev.callG 1 rfl (EvL.cons (Ev.name 4 rfl rfl) (EvL.cons (Ev.name 6 rfl rfl) (EvL.cons (Ev.name 3 rfl rfl) EvL.nil))) (s_sub_to P hw hw' (z := 5 * c5) (by omega) (by omega) (by omega)) (Nat.le_of_ble_eq_true rfl)) (EvL.cons Ev.int (EvL.cons (Ev.name 3 rfl rfl) EvL.nil))) (exact_to P hw hw' 5 (q := c5) (by omega) (by omega) (by omega) (by omega)) (Nat.le_of_ble_eq_true rfl)) ?_
  exact X.ret (Ev.tup (EvL.cons (Ev.callG 1 rfl (EvL.cons (Ev.callG 1 rfl (EvL.cons (Ev.name 0 rfl rfl) (EvL.cons (Ev.name 6 rfl rfl) (EvL.cons (Ev.name 3 rfl rfl) EvL.nil))) (s_sub_to P hw hw' (z := c1 + c5) (by omega) (by omega) (by omega)) (Nat.le_of_ble_eq_true rfl)) (EvL.cons (Ev.name 7 rfl rfl) (EvL.cons (Ev.name 3 rfl rfl) EvL.nil))) (s_sub_to P hw hw' (z := c1) (by omega) (by omega) (by omega)) (Nat.le_of_ble_eq_true rfl)) (EvL.cons (Ev.name 6 rfl rfl) (EvL.cons (Ev.name 7 rfl rfl) EvL.nil)))) (.inl rfl)

theorem from_seven_ok {c0 c1 c2 c3 c4 c5 c6 : Int} (h0 : 0 ≤ c0 ∧ c0 ≤ 1000) (h1 : 0 ≤ c1 ∧ c1 ≤ 1000) (h2 : 0 ≤ c2 ∧ c2 ≤ 1000) (h3 : 0 ≤ c3 ∧ c3 ≤ 1000) (h4 : 0 ≤ c4 ∧ c4 ≤ 1000) (h5 : 0 ≤ c5 ∧ c5 ≤ 1000) (h6 : 0 ≤ c6 ∧ c6 ≤ 1000)
    {p1 m1 p2 m2 hf : Int} (hp1 : p1 = (c0 + c2 + c4 + c6) + (c1 + c3 + c5)) (hm1 : m1 = (c0 + c2 + c4 + c6) - (c1 + c3 + c5)) (hp2 : p2 = (c0 + 4 * c2 + 16 * c4 + 64 * c6) + 2 * (c1 + 4 * c3 + 16 * c5)) (hm2 : m2 = (c0 + 4 * c2 + 16 * c4 + 64 * c6) - 2 * (c1 + 4 * c3 + 16 * c5))
    (hhf : hf = 64 * c0 + 32 * c1 + 16 * c2 + 8 * c3 + 4 * c4 + 2 * c5 + c6) :
    CallOK W 6 "from_seven" [SV (2 ^ w) c0, .tup [SV (2 ^ w) p1, SV (2 ^ w) m1], .tup [SV (2 ^ w) p2, SV (2 ^ w) m2], SV (2 ^ w) hf, SV (2 ^ w) c6, .int (w : Int)]
      (.list [R (2 ^ w) c0.toNat, R (2 ^ w) c1.toNat, R (2 ^ w) c2.toNat, R (2 ^ w) c3.toNat, R (2 ^ w) c4.toNat, R (2 ^ w) c5.toNat, R (2 ^ w) c6.toNat]) := by
  subst hp1 hm1 hp2 hm2 hhf
  refine fn_ok P.f_from_seven ["at_zero", "ones", "twos", "at_half", "at_far", "w"] ["even_one", "odd_one", "even_two", "odd_two", "second", "fourth", "left", "first", "third", "fifth"] ["halves_of", "even_coefficients", "s_sub", "scaled", "odd_coefficients", "exact_small"] (fun n => by kernel_rfl) rfl ?_ ?_
  · intro m
    refine all6 fun v1 v2 v3 v4 v5 v6 => ?_
    kernel_rfl
  intro A m L a h₀ av
  dsimp only [rho0, List.map, List.length, List.replicate, List.cons_append, List.nil_append]
  refine X.tupU [(6, "even_one"), (7, "odd_one")] (Ev.callG 0 rfl (EvL.cons (Ev.itemTN (Ev.name 1 rfl rfl) Ev.int 0 rfl (by omega) rfl) (EvL.cons (Ev.itemTN (Ev.name 1 rfl rfl) Ev.int 1 rfl (by omega) rfl) (EvL.cons (Ev.name 5 rfl rfl) EvL.nil))) (halves_of_ok P hw hw' (by omega) (by omega)) (Nat.le_of_ble_eq_true rfl)) ?_ ⟨⟨rfl, rfl⟩, ⟨rfl, rfl⟩, trivial⟩ (.cons (fun v s Q E h => wpAny_assign_Name h) (.cons (fun v s Q E h => wpAny_assign_Name h) .nil))
  dsimp only [setP, List.set, List.reverse, List.reverseAux]
  refine X.tupU [(8, "even_two"), (9, "odd_two")] (Ev.callG 0 rfl (EvL.cons (Ev.itemTN (Ev.name 2 rfl rfl) Ev.int 0 rfl (by omega) rfl) (EvL.cons (Ev.itemTN (Ev.name 2 rfl rfl) Ev.int 1 rfl (by omega) rfl) (EvL.cons (Ev.name 5 rfl rfl) EvL.nil))) (halves_of_ok P hw hw' (by omega) (by omega)) (Nat.le_of_ble_eq_true rfl)) ?_ ⟨⟨rfl, rfl⟩, ⟨rfl, rfl⟩, trivial⟩ (.cons (fun v s Q E h => wpAny_assign_Name h) (.cons (fun v s Q E h => wpAny_assign_Name h) .nil))
  dsimp only [setP, List.set, List.reverse, List.reverseAux]
  refine X.tupU [(10, "second"), (11, "fourth")] (Ev.callG 1 rfl (EvL.cons (Ev.name 6 rfl rfl) (EvL.cons (Ev.name 8 rfl rfl) (EvL.cons (Ev.name 0 rfl rfl) (EvL.cons (Ev.name 4 rfl rfl) (EvL.cons (Ev.name 5 rfl rfl) EvL.nil))))) (even_coefficients_ok P hw hw' h0 h2 h4 h6) (Nat.le_of_ble_eq_true rfl)) ?_ ⟨⟨rfl, rfl⟩, ⟨rfl, rfl⟩, trivial⟩ (.cons (fun v s Q E h => wpAny_assign_Name h) (.cons (fun v s Q E h => wpAny_assign_Name h) .nil))
  dsimp only [setP, List.set, List.reverse, List.reverseAux]
  refine X.set 12 (Ev.callG 2 rfl (EvL.cons (Ev.callG 2 rfl (EvL.cons (Ev.name 3 rfl rfl) (EvL.cons (Ev.callG 3 rfl (EvL.cons (Ev.name 0 rfl rfl) (EvL.cons Ev.int (EvL.cons (Ev.name 5 rfl rfl) EvL.nil))) (scaled_to P hw hw' 6 (z := 64 * c0) (by omega) (by omega) (by omega)) (Nat.le_of_ble_eq_true rfl)) (EvL.cons (Ev.name 5 rfl rfl) EvL.nil))) (s_sub_to P hw hw' (z := 32 * c1 + 16 * c2 + 8 * c3 + 4 * c4 + 2 * c5 + c6) (by omega) (by omega) (by omega)) (Nat.le_of_ble_eq_true rfl)) (EvL.cons (Ev.callG 3 rfl (EvL.cons (Ev.name 10 rfl rfl) (EvL.cons Ev.int (EvL.cons (Ev.name 5 rfl rfl) EvL.nil))) (scaled_to P hw hw' 4 (z := 16 * c2) (by omega) (by omega) (by omega)) (Nat.le_of_ble_eq_true rfl)) (EvL.cons (Ev.name 5 rfl rfl) EvL.nil))) (s_sub_to P hw hw' (z := 32 * c1 + 8 * c3 + 4 * c4 + 2 * c5 + c6) (by omega) (by omega) (by omega)) (Nat.le_of_ble_eq_true rfl)) ?_
  try dsimp only [List.set]
  refine X.set 12 (Ev.callG 2 rfl (EvL.cons (Ev.callG 2 rfl (EvL.cons (Ev.name 12 rfl rfl) (EvL.cons (Ev.callG 3 rfl (EvL.cons (Ev.name 11 rfl rfl) (EvL.cons Ev.int (EvL.cons (Ev.name 5 rfl rfl) EvL.nil))) (scaled_to P hw hw' 2 (z := 4 * c4) (by omega) (by omega) (by omega)) (Nat.le_of_ble_eq_true rfl)) (EvL.cons (Ev.name 5 rfl rfl) EvL.nil))) (s_sub_to P hw hw' (z := 32 * c1 + 8 * c3 + 2 * c5 + c6) (by omega) (by omega) (by omega)) (Nat.le_of_ble_eq_true rfl)) (EvL.cons (Ev.name 4 rfl rfl) (EvL.cons (Ev.name 5 rfl rfl) EvL.nil))) (s_sub_to P hw hw' (z := 2 * (16 * c1 + 4 * c3 + c5)) (by omega) (by omega) (by omega)) (Nat.le_of_ble_eq_true rfl)) ?_
  try dsimp only [List.set]
  refine X.tupU [(13, "first"), (14, "third"), (15, "fifth")] (Ev.callG 4 rfl (EvL.cons (Ev.name 7 rfl rfl) (EvL.cons (Ev.callG 5 rfl (EvL.cons (Ev.name 9 rfl rfl) (EvL.cons Ev.int (EvL.cons (Ev.name 5 rfl rfl) EvL.nil))) (exact_to P hw hw' 2 (q := c1 + 4 * c3 + 16 * c5) (by omega) (by omega) (by omega) (by omega)) (Nat.le_of_ble_eq_true rfl)) (EvL.cons (Ev.callG 5 rfl (EvL.cons (Ev.name 12 rfl rfl) (EvL.cons Ev.int (EvL.cons (Ev.name 5 rfl rfl) EvL.nil))) (exact_to P hw hw' 2 (q := 16 * c1 + 4 * c3 + c5) (by omega) (by omega) (by omega) (by omega)) (Nat.le_of_ble_eq_true rfl)) (EvL.cons (Ev.name 5 rfl rfl) EvL.nil)))) (odd_coefficients_ok P hw hw' h1 h3 h5) (Nat.le_of_ble_eq_true rfl)) ?_ ⟨⟨rfl, rfl⟩, ⟨rfl, rfl⟩, ⟨rfl, rfl⟩, trivial⟩ (.cons (fun v s Q E h => wpAny_assign_Name h) (.cons (fun v s Q E h => wpAny_assign_Name h) (.cons (fun v s Q E h => wpAny_assign_Name h) .nil)))
  dsimp only [setP, List.set, List.reverse, List.reverseAux]
  refine X.ret (EvO.ev (EvO.c1 "one" [] ["natural"] [] (EvIt.tuple (Ev.tup (EvL.cons (Ev.name 0 rfl rfl) (EvL.cons (Ev.name 13 rfl rfl) (EvL.cons (Ev.name 10 rfl rfl) (EvL.cons (Ev.name 14 rfl rfl) (EvL.cons (Ev.name 11 rfl rfl) (EvL.cons (Ev.name 15 rfl rfl) (EvL.cons (Ev.name 4 rfl rfl) EvL.nil)))))))) (Nat.le_of_ble_eq_true rfl)) rfl (fun i ds d hi hd => ?_) rfl trivial)) (.inl rfl)
  obtain ⟨u, hu, rfl⟩ := sing_at hi
  refine ⟨u, rfl, fun cl C av => ?_⟩
  have key : ∃ x : Int, 0 ≤ x ∧ u = SV (2 ^ w) x ∧ d = R (2 ^ w) x.toNat := by
    match i, hu, hd with
    | 0, hu, hd => cases hu; cases hd; exact ⟨c0, h0.1, rfl, rfl⟩
    | 1, hu, hd => cases hu; cases hd; exact ⟨c1, h1.1, rfl, rfl⟩
    | 2, hu, hd => cases hu; cases hd; exact ⟨c2, h2.1, rfl, rfl⟩
    | 3, hu, hd => cases hu; cases hd; exact ⟨c3, h3.1, rfl, rfl⟩
    | 4, hu, hd => cases hu; cases hd; exact ⟨c4, h4.1, rfl, rfl⟩
    | 5, hu, hd => cases hu; cases hd; exact ⟨c5, h5.1, rfl, rfl⟩
    | 6, hu, hd => cases hu; cases hd; exact ⟨c6, h6.1, rfl, rfl⟩
    | i + 7, hu, hd => simp at hu
  obtain ⟨x, hx, rfl, rfl⟩ := key
  exact Ev.callG 0 rfl (EvL.cons (Ev.name 0 rfl rfl) EvL.nil) (natural_ok P hw hw' hx) (Nat.le_of_ble_eq_true rfl)
end
end Mine
end
section
open PySem PySem.W PyProof.Rows PySem.Calls
set_option linter.unusedSectionVars false
set_option maxRecDepth 10000
set_option maxHeartbeats 4000000
namespace Mine
variable {W : Wd}

noncomputable def pR (B : Nat) (l : List Nat) : List D := l.map (R B)
theorem pR_length (B : Nat) (l : List Nat) : (pR B l).length = l.length := by simp [pR]
theorem pR_at {B : Nat} {l : List Nat} {i : Nat} {d : D} (h : (pR B l)[i]? = some d) : i < l.length ∧ d = R B (l.getD i 0) := by
  unfold pR at h
  rw [List.getElem?_map] at h
  rcases Nat.lt_or_ge i l.length with q | q
  · rw [List.getElem?_eq_getElem q] at h
    rw [List.getD_eq_getElem?_getD, List.getElem?_eq_getElem q]
    exact ⟨q, (Option.some.inj h).symm⟩
  · rw [List.getElem?_eq_none q] at h; cases h
theorem pR_get {B : Nat} {l : List Nat} {i : Nat} (h : i < l.length) : (pR B l)[i]? = some (R B (l.getD i 0)) := by
  unfold pR
  rw [List.getElem?_map, List.getElem?_eq_getElem h, List.getD_eq_getElem?_getD, List.getElem?_eq_getElem h]; rfl
theorem lim_digit {B d : Nat} (hB : 2 ≤ B) (h : d < B) : strip [d] = lim B d := by
  rcases Nat.eq_zero_or_pos d with q | q
  · subst q; rw [lim_zero]; rfl
  · rw [lim_one hB q h]
    show strip ([] ++ [d]) = [d]
    rw [strip_snoc_pos _ (by omega)]; rfl
theorem piece_strip {B : Nat} (hB : 2 ≤ B) (l : List Nat) (i : Nat) (h : l.getD i 0 < B) : strip ((l.take (i + 1)).drop i) = lim B (l.getD i 0) := by
  rcases Nat.lt_or_ge i l.length with q | q
  · rw [List.take_succ_eq_append_getElem q, List.drop_append_of_le_length (by simp; omega), List.drop_of_length_le (by simp; omega), List.nil_append]
    rw [List.getD_eq_getElem?_getD, List.getElem?_eq_getElem q] at h ⊢
    exact lim_digit hB h
  · rw [List.drop_of_length_le (by simp; omega), List.getD_eq_getElem?_getD, List.getElem?_eq_none q]
    show strip [] = lim B 0
    rw [lim_zero]; rfl

/-- the even and the odd places' sums -/
noncomputable def evn (pw : Nat) (l : List Nat) : Nat → Nat
  | 0 => 0
  | i + 1 => if i % 2 = 0 then evn pw l i + l.getD i 0 * 2 ^ (pw * i) else evn pw l i
noncomputable def odn (pw : Nat) (l : List Nat) : Nat → Nat
  | 0 => 0
  | i + 1 => if i % 2 = 0 then odn pw l i else odn pw l i + l.getD i 0 * 2 ^ (pw * i)
noncomputable def hvn (l : List Nat) : Nat → Nat
  | 0 => 0
  | i + 1 => hvn l i * 2 ^ 1 + l.getD i 0
theorem term_le {pw i d : Nat} (hpw : pw ≤ 1) (hi : i ≤ 8) (hd : d ≤ 7) : d * 2 ^ (pw * i) ≤ 7 * 2 ^ 8 := by
  refine Nat.mul_le_mul hd (Nat.pow_le_pow_right (by omega) ?_)
  calc pw * i ≤ 1 * i := Nat.mul_le_mul_right _ hpw
    _ ≤ 8 := by omega
theorem evn_le {pw : Nat} {l : List Nat} (hpw : pw ≤ 1) (hl : ∀ i, l.getD i 0 ≤ 7) : ∀ i, i ≤ 8 → evn pw l i ≤ 1792 * i
  | 0, _ => Nat.le_refl _
  | i + 1, h => by
    have := evn_le hpw hl i (by omega)
    have := term_le (i := i) hpw (by omega) (hl i)
    unfold evn; split <;> omega
theorem odn_le {pw : Nat} {l : List Nat} (hpw : pw ≤ 1) (hl : ∀ i, l.getD i 0 ≤ 7) : ∀ i, i ≤ 8 → odn pw l i ≤ 1792 * i
  | 0, _ => Nat.le_refl _
  | i + 1, h => by
    have := odn_le hpw hl i (by omega)
    have := term_le (i := i) hpw (by omega) (hl i)
    unfold odn; split <;> omega
theorem hvn_le {l : List Nat} (hl : ∀ i, l.getD i 0 ≤ 7) : ∀ i, hvn l i + 7 ≤ 7 * 2 ^ i
  | 0 => Nat.le_refl _
  | i + 1 => by
    have := hvn_le hl i
    have := hl i
    unfold hvn; rw [Nat.pow_succ]; omega
theorem hvn_le' {l : List Nat} (hl : ∀ i, l.getD i 0 ≤ 7) {i : Nat} (hi : i ≤ 8) : hvn l i ≤ 1792 := by
  have := hvn_le hl i
  have : 2 ^ i ≤ 2 ^ 8 := Nat.pow_le_pow_right (by omega) hi
  omega

section
variable (P : Prg W) {w : Nat} (hw : 1 ≤ w) (hw' : w ≤ 16)
include P hw hw'
theorem pieces_ok {l : List Nat} (hl : l.length ≤ 4) (hd : ∀ i, l.getD i 0 < 2 ^ w) : CallOK W 2 "pieces" [.list (iL l), .int 4, .int 1] (.list (pR (2 ^ w) [l.getD 0 0, l.getD 1 0, l.getD 2 0, l.getD 3 0])) := by
  have hB := pow2_ge hw
  have hn : ∀ i, CallOK W 1 "normal" [.list (iL ((l.take (i + 1)).drop i))] (R (2 ^ w) (l.getD i 0)) := fun i => by
    have := normal_ok P (l := (l.take (i + 1)).drop i) (by simp; omega)
    rwa [piece_strip hB l i (hd i)] at this
  have hlast : l.drop 3 = (l.take (3 + 1)).drop 3 := by rw [List.take_of_length_le hl]
  refine fn_ok P.f_pieces ["a", "many", "size"] ["found"] ["range", "normal"] (fun n => by kernel_rfl) rfl ?_ ?_
  · intro m
    refine all3 fun v1 v2 v3 => ?_
    kernel_rfl
  intro A m L a h₀ av
  refine X.c1 3 "at" ["a", "size"] ["normal"] [(0, .list (iL l)), (2, .int 1)] (outs := pR (2 ^ w) [l.getD 0 0, l.getD 1 0, l.getD 2 0]) (EvIt.range1 0 3 rfl P.range (Ev.binop (Ev.name 1 rfl rfl) Ev.int op_sub) (by decide) (by decide) (by decide)) rfl (fun i ds d hi hd => ?_) rfl ⟨⟨rfl, rfl, rfl, rfl, rfl⟩, ⟨rfl, rfl, rfl, rfl, rfl⟩, trivial⟩ (fun ad => ?_)
  · obtain ⟨h3, rfl⟩ := rng_at hi
    have ed : d = R (2 ^ w) (l.getD i 0) := by
      match i, h3, hd with
      | 0, _, hd => cases hd; rfl
      | 1, _, hd => cases hd; rfl
      | 2, _, hd => cases hd; rfl
      | i + 3, h, _ => omega
    subst ed
    have ei : (0 : Int) + (i : Int) * 1 = (i : Int) := by omega
    rw [ei]
    refine ⟨_, rfl, fun cl C av => ?_⟩
    refine Ev.callG 0 rfl (EvL.cons ((EvO.ev (EvO.run (EvSeq.of (Ev.name 1 rfl rfl)) (Ev.binop (Ev.name 0 rfl rfl) (Ev.name 2 rfl rfl) (op_mul (.inr (by decide)))) (Ev.binop (Ev.binop (Ev.name 0 rfl rfl) Ev.int op_add) (Ev.name 2 rfl rfl) (op_mul (.inr (by decide)))) ?_ ?_ ?_)).to ?_) EvL.nil) (hn i) (Nat.le_of_ble_eq_true rfl)
    · omega
    · omega
    · rw [iL_length]; omega
    · rw [iL_take, iL_drop, show ((i : Int) * 1).toNat = i by omega, show (((i : Int) + 1) * 1).toNat = i + 1 by omega]
  refine X.ret (EvO.ev ((EvO.cat (EvSeq.own 3 rfl rfl) (EvSeq.of (EvO.ev (EvO.disp (EvL.cons (Ev.callG 1 rfl (EvL.cons ((EvO.ev (EvO.from (EvSeq.of (Ev.name 0 rfl rfl)) (Ev.binop (Ev.binop (Ev.name 1 rfl rfl) Ev.int op_sub) (Ev.name 2 rfl rfl) (op_mul (.inl (by decide)))) (by decide) ?_)).to ?_) EvL.nil) (hn 3) (Nat.le_of_ble_eq_true rfl)) EvL.nil)))) ?_))) (.inl rfl)
  · rw [iL_length]; omega
  · rw [← hlast, iL_drop]; rfl
  · exact Nat.le_of_ble_eq_true rfl
theorem piece_size_ok {n : Nat} : CallOK W 1 "piece_size" [.int (n : Int), .int 4] (.int (((n + 3) / 4 : Nat) : Int)) := by
  refine fn_ok P.f_piece_size ["length", "many"] [] [] (fun n => by kernel_rfl) rfl ?_ ?_
  · intro m
    refine all2 fun v1 v2 => ?_
    kernel_rfl
  intro A m L a h₀ av
  refine X.ret ((Ev.binop (Ev.binop (Ev.binop (Ev.name 0 rfl rfl) (Ev.name 1 rfl rfl) op_add) Ev.int op_sub) (Ev.name 1 rfl rfl) (op_div (by decide) (by decide))).to ?_) (.inl rfl)
  congr 1; omega
theorem common_size_ok {da db : List D} (ha : da.length ≤ 4) (hb : db.length ≤ 4) : CallOK W 2 "common_size" [.list da, .list db, .int 4, .int 4] (.int 1) := by
  refine fn_ok P.f_common_size ["a", "b", "first", "second"] [] ["max", "piece_size", "len"] (fun n => by kernel_rfl) rfl ?_ ?_
  · intro m
    refine all4 fun v1 v2 v3 v4 => ?_
    kernel_rfl
  intro A m L a h₀ av
  refine X.ret ((Ev.max3 0 rfl P.max (ha := (EvL.cons (Ev.callG 1 rfl (EvL.cons (Ev.len 2 rfl P.len (EvSeq.of (Ev.name 0 rfl rfl)) (by omega)) (EvL.cons (Ev.name 2 rfl rfl) EvL.nil)) (piece_size_ok P hw hw') (Nat.le_of_ble_eq_true rfl)) (EvL.cons (Ev.callG 1 rfl (EvL.cons (Ev.len 2 rfl P.len (EvSeq.of (Ev.name 1 rfl rfl)) (by omega)) (EvL.cons (Ev.name 3 rfl rfl) EvL.nil)) (piece_size_ok P hw hw') (Nat.le_of_ble_eq_true rfl)) (EvL.cons Ev.int EvL.nil))))).to ?_) (.inl rfl)
  congr 1; omega
theorem both_values_ok {l : List Nat} {pw : Nat} (hl4 : l.length = 4) (hpw : pw ≤ 1) (hl : ∀ i, l.getD i 0 ≤ 7) : CallOK W 5 "both_values" [.list (pR (2 ^ w) l), .int (pw : Int), .int (w : Int)]
    (.tup [SV (2 ^ w) ((evn pw l 4 : Int) + (odn pw l 4 : Int)), SV (2 ^ w) ((evn pw l 4 : Int) - (odn pw l 4 : Int))]) := by
  refine fn_ok P.f_both_values ["parts", "power", "w"] ["even", "odd", "at", "part", "term"] ["enumerate", "shift_left", "add", "s_sub"] (fun n => by kernel_rfl) rfl ?_ ?_
  · intro m
    refine all3 fun v1 v2 v3 => ?_
    kernel_rfl
  intro A m L a h₀ av
  have hz : D.list [] = R (2 ^ w) 0 := by rw [R_def, lim_zero]; rfl
  refine X.tupW [(3, "even"), (4, "odd")] (Ev.tup (EvL.cons ((EvO.ev (EvO.disp EvL.nil)).to hz) (EvL.cons ((EvO.ev (EvO.disp EvL.nil)).to hz) EvL.nil))) ?_ ⟨⟨rfl, rfl⟩, ⟨rfl, rfl⟩, trivial⟩
  dsimp only [setP, List.set, List.reverse, List.reverseAux]
  refine X.forE 5 6 (fun i ρ => i ≤ 4 ∧ ∃ b1 b2 b3, ρ = [some (.p (.list (pR (2 ^ w) l))), some (.p (.int (pw : Int))), some (.p (.int (w : Int))), some (.p (R (2 ^ w) (evn pw l i))), some (.p (R (2 ^ w) (odn pw l i))), b1, b2, b3]) (EvIt.enum 0 rfl P.enumerate (Ev.name 0 rfl rfl) ?_) ⟨by omega, none, none, none, rfl⟩ (fun i ρ d hi hd hI => ?_) (fun ρ hI => ?_)
  · rw [pR_length]; omega
  · obtain ⟨h4, b1, b2, b3, rfl⟩ := hI
    obtain ⟨hil, rfl⟩ := pR_at hd
    have hli := hl i
    have he := evn_le hpw hl i (by omega)
    have ho := odn_le hpw hl i (by omega)
    have ht := term_le (i := i) hpw (by omega) hli
    have hpi : pw * i ≤ 4 := by
      have : pw * i ≤ 1 * i := Nat.mul_le_mul_right _ hpw
      omega
    refine ⟨rfl, rfl, ?_⟩
    dsimp only [List.set]
    refine X.set 7 (Ev.callG 1 rfl (EvL.cons (Ev.name 6 rfl rfl) (EvL.cons ((Ev.binop (Ev.name 1 rfl rfl) (Ev.name 5 rfl rfl) (op_mul (.inl (by omega)))).to (d' := .int ((pw * i : Nat) : Int)) (by simp)) (EvL.cons (Ev.name 2 rfl rfl) EvL.nil))) (shift_left_ok P hw hw' (x := l.getD i 0) (n := pw * i) (by omega) (by omega)) (Nat.le_of_ble_eq_true rfl)) ?_
    dsimp only [List.set]
    refine X.if (EvT.cmp (Ev.binop (Ev.name 5 rfl rfl) Ev.int (op_mod (by decide))) Ev.int cmp_eq) (fun h => ?_) (fun h => ?_)
    · have hm : i % 2 = 0 := by have := eq_of_beq h; omega
      refine X.set 3 (Ev.callG 2 rfl (EvL.cons (Ev.name 3 rfl rfl) (EvL.cons (Ev.name 7 rfl rfl) (EvL.cons (Ev.name 2 rfl rfl) EvL.nil))) (add_ok P hw hw' (by omega) (by omega)) (Nat.le_of_ble_eq_true rfl)) (Ex.nil (Ex.nil ⟨by omega, some (.p (.int (i : Int))), some (.p (R (2 ^ w) (l.getD i 0))), some (.p (R (2 ^ w) (l.getD i 0 * 2 ^ (pw * i)))), ?_⟩))
      dsimp only [List.set]
      rw [evn, odn, if_pos hm, if_pos hm]
    · have hm : ¬ i % 2 = 0 := fun e => by
        have : ((i : Int) % 2 == 0) = true := beq_iff_eq.mpr (by omega)
        rw [this] at h; cases h
      refine X.set 4 (Ev.callG 2 rfl (EvL.cons (Ev.name 4 rfl rfl) (EvL.cons (Ev.name 7 rfl rfl) (EvL.cons (Ev.name 2 rfl rfl) EvL.nil))) (add_ok P hw hw' (by omega) (by omega)) (Nat.le_of_ble_eq_true rfl)) (Ex.nil (Ex.nil ⟨by omega, some (.p (.int (i : Int))), some (.p (R (2 ^ w) (l.getD i 0))), some (.p (R (2 ^ w) (l.getD i 0 * 2 ^ (pw * i)))), ?_⟩))
      dsimp only [List.set]
      rw [evn, odn, if_neg hm, if_neg hm]
  · obtain ⟨h4, b1, b2, b3, rfl⟩ := hI
    rw [pR_length, hl4]
    have he := evn_le hpw hl 4 (by omega)
    have ho := odn_le hpw hl 4 (by omega)
    generalize evn pw l 4 = e at *
    generalize odn pw l 4 = o at *
    exact X.ret (Ev.tup (EvL.cons ((Ev.tup (EvL.cons Ev.bool (EvL.cons (Ev.callG 2 rfl (EvL.cons (Ev.name 3 rfl rfl) (EvL.cons (Ev.name 4 rfl rfl) (EvL.cons (Ev.name 2 rfl rfl) EvL.nil))) (add_ok P hw hw' (by omega) (by omega)) (Nat.le_of_ble_eq_true rfl)) EvL.nil))).to (SV_nat _ _)) (EvL.cons (Ev.callG 3 rfl (EvL.cons ((Ev.tup (EvL.cons Ev.bool (EvL.cons (Ev.name 3 rfl rfl) EvL.nil))).to (SV_nat _ _)) (EvL.cons ((Ev.tup (EvL.cons Ev.bool (EvL.cons (Ev.name 4 rfl rfl) EvL.nil))).to (SV_nat _ _)) (EvL.cons (Ev.name 2 rfl rfl) EvL.nil))) (s_sub_ok P hw hw' (by omega) (by omega)) (Nat.le_of_ble_eq_true rfl)) EvL.nil))) (.inl rfl)
theorem value_at_half_ok {l : List Nat} (hl4 : l.length = 4) (hl : ∀ i, l.getD i 0 ≤ 7) : CallOK W 2 "value_at_half" [.list (pR (2 ^ w) l), .int (w : Int)] (SV (2 ^ w) (hvn l 4 : Int)) := by
  refine fn_ok P.f_value_at_half ["parts", "w"] ["found", "part"] ["add", "shift_left"] (fun n => by kernel_rfl) rfl ?_ ?_
  · intro m
    refine all2 fun v1 v2 => ?_
    kernel_rfl
  intro A m L a h₀ av
  have hz : D.list [] = R (2 ^ w) 0 := by rw [R_def, lim_zero]; rfl
  refine X.set 2 ((EvO.ev (EvO.disp EvL.nil)).to hz) ?_
  refine X.forL 3 (fun i ρ => i ≤ 4 ∧ ∃ b1, ρ = [some (.p (.list (pR (2 ^ w) l))), some (.p (.int (w : Int))), some (.p (R (2 ^ w) (hvn l i))), b1]) (EvIt.list (Ev.name 0 rfl rfl) ?_) ⟨by omega, none, rfl⟩ (fun i ρ d hi hd hI => ?_) (fun ρ hI => ?_)
  · rw [pR_length]; omega
  · obtain ⟨h4, b1, rfl⟩ := hI
    obtain ⟨hil, rfl⟩ := pR_at hd
    have hli := hl i
    have he := hvn_le' hl (i := i) (by omega)
    refine ⟨rfl, ?_⟩
    dsimp only [List.set]
    refine X.set 2 (Ev.callG 0 rfl (EvL.cons (Ev.callG 1 rfl (EvL.cons (Ev.name 2 rfl rfl) (EvL.cons Ev.int (EvL.cons (Ev.name 1 rfl rfl) EvL.nil))) (shift_left_ok P hw hw' (x := hvn l i) (n := 1) (by omega) (by omega)) (Nat.le_of_ble_eq_true rfl)) (EvL.cons (Ev.name 3 rfl rfl) (EvL.cons (Ev.name 1 rfl rfl) EvL.nil))) (add_ok P hw hw' (by omega) (by omega)) (Nat.le_of_ble_eq_true rfl)) (Ex.nil ⟨by omega, some (.p (R (2 ^ w) (l.getD i 0))), rfl⟩)
  · obtain ⟨h4, b1, rfl⟩ := hI
    rw [pR_length, hl4]
    exact X.ret ((Ev.tup (EvL.cons Ev.bool (EvL.cons (Ev.name 2 rfl rfl) EvL.nil))).to (SV_nat _ _)) (.inl rfl)
theorem ends_of_ok {l : List Nat} (hl4 : l.length = 4) : CallOK W 1 "ends_of" [.list (pR (2 ^ w) l)] (.list [SV (2 ^ w) (l.getD 0 0 : Int), SV (2 ^ w) (l.getD 3 0 : Int)]) := by
  refine fn_ok P.f_ends_of ["parts"] [] ["len"] (fun n => by kernel_rfl) rfl ?_ ?_
  · intro m
    refine all1 fun v1 => ?_
    kernel_rfl
  intro A m L a h₀ av
  refine X.ret (EvO.ev (EvO.disp (EvL.cons ((Ev.tup (EvL.cons Ev.bool (EvL.cons (Ev.itemN (EvSeq.of (Ev.name 0 rfl rfl)) Ev.int 0 rfl (by omega) (pR_get (by omega))) EvL.nil))).to (SV_nat _ _)) (EvL.cons ((Ev.tup (EvL.cons Ev.bool (EvL.cons (Ev.itemN (EvSeq.of (Ev.name 0 rfl rfl)) (Ev.binop (Ev.len 0 rfl P.len (EvSeq.of (Ev.name 0 rfl rfl)) ?_) Ev.int op_sub) 3 ?_ (by omega) (pR_get (by omega))) EvL.nil))).to (SV_nat _ _)) EvL.nil)))) (.inl rfl)
  · rw [pR_length]; omega
  · rw [pR_length, hl4]; rfl
noncomputable def vals (l : List Nat) : List Int := [(l.getD 0 0 : Int), (l.getD 3 0 : Int), (evn 0 l 4 : Int) + (odn 0 l 4 : Int), (evn 0 l 4 : Int) - (odn 0 l 4 : Int), (evn 1 l 4 : Int) + (odn 1 l 4 : Int), (evn 1 l 4 : Int) - (odn 1 l 4 : Int), (hvn l 4 : Int)]
theorem values_four_ok {l : List Nat} (hl4 : l.length = 4) (hl : ∀ i, l.getD i 0 ≤ 7) : CallOK W 6 "values_four" [.list (pR (2 ^ w) l), .int (w : Int)] (.list (((vals l).take 4).map (SV (2 ^ w)))) := by
  have h1 := ends_of_ok P hw hw' hl4
  have h2 := both_values_ok P hw hw' (pw := 0) hl4 (by omega) hl
  refine fn_ok P.f_values_four ["parts", "w"] [] ["ends_of", "list", "both_values"] (fun n => by kernel_rfl) rfl ?_ ?_
  · intro m
    refine all2 fun v1 v2 => ?_
    kernel_rfl
  intro A m L a h₀ av
  exact X.ret (EvO.ev (EvO.cat (EvSeq.of (Ev.callG 0 rfl (EvL.cons (Ev.name 0 rfl rfl) EvL.nil) h1 (Nat.le_of_ble_eq_true rfl))) (EvSeq.of (EvO.ev (EvO.listT 1 rfl P.list (Ev.callG 2 rfl (EvL.cons (Ev.name 0 rfl rfl) (EvL.cons Ev.int (EvL.cons (Ev.name 1 rfl rfl) EvL.nil))) h2 (Nat.le_of_ble_eq_true rfl)) (Nat.le_of_ble_eq_true rfl)))) (Nat.le_of_ble_eq_true rfl))) (.inl rfl)
theorem values_seven_ok {l : List Nat} (hl4 : l.length = 4) (hl : ∀ i, l.getD i 0 ≤ 7) : CallOK W 7 "values_seven" [.list (pR (2 ^ w) l), .int (w : Int)] (.list ((vals l).map (SV (2 ^ w)))) := by
  have h1 := values_four_ok P hw hw' hl4 hl
  have h2 := both_values_ok P hw hw' (pw := 1) hl4 (by omega) hl
  have h3 := value_at_half_ok P hw hw' hl4 hl
  refine fn_ok P.f_values_seven ["parts", "w"] [] ["values_four", "list", "both_values", "value_at_half"] (fun n => by kernel_rfl) rfl ?_ ?_
  · intro m
    refine all2 fun v1 v2 => ?_
    kernel_rfl
  intro A m L a h₀ av
  exact X.ret (EvO.ev (EvO.cat (EvSeq.of (EvO.ev (EvO.cat (EvSeq.of (Ev.callG 0 rfl (EvL.cons (Ev.name 0 rfl rfl) (EvL.cons (Ev.name 1 rfl rfl) EvL.nil)) h1 (Nat.le_of_ble_eq_true rfl))) (EvSeq.of (EvO.ev (EvO.listT 1 rfl P.list (Ev.callG 2 rfl (EvL.cons (Ev.name 0 rfl rfl) (EvL.cons Ev.int (EvL.cons (Ev.name 1 rfl rfl) EvL.nil))) h2 (Nat.le_of_ble_eq_true rfl)) (Nat.le_of_ble_eq_true rfl)))) (Nat.le_of_ble_eq_true rfl)))) (EvSeq.of (EvO.ev (EvO.disp (EvL.cons (Ev.callG 3 rfl (EvL.cons (Ev.name 0 rfl rfl) (EvL.cons (Ev.name 1 rfl rfl) EvL.nil)) h3 (Nat.le_of_ble_eq_true rfl)) EvL.nil)))) (Nat.le_of_ble_eq_true rfl))) (.inl rfl)
end
end Mine
end
section
namespace Mine
noncomputable def rc (B : Nat) (l : List Nat) : Nat → Nat
  | 0 => 0
  | i + 1 => rc B l i + l.getD i 0 * B ^ i
theorem rc_lt {B : Nat} {l : List Nat} (h : ∀ i, l.getD i 0 < B) : ∀ i, rc B l i < B ^ i
  | 0 => by simp [rc]
  | i + 1 => by
    have h1 := rc_lt h i
    have h2 : (l.getD i 0 + 1) * B ^ i ≤ B * B ^ i := Nat.mul_le_mul_right _ (h i)
    rw [Nat.add_mul, Nat.one_mul] at h2
    unfold rc
    rw [Nat.pow_succ, Nat.mul_comm (B ^ i) B]
    omega
theorem dg_rc {B : Nat} (hB : 2 ≤ B) {l : List Nat} (h : ∀ i, l.getD i 0 < B) : ∀ i, i ≤ l.length → dg B (rc B l i) i = l.take i
  | 0, _ => by simp [dg_zero]
  | i + 1, hi => by
    have hp : 0 < B ^ i := Nat.pow_pos (by omega)
    rw [dg_succ, rc, dg_add_high hB, dg_rc hB h i (by omega), div_add_high hB, Nat.div_eq_of_lt (rc_lt h i), Nat.zero_add, Nat.mod_eq_of_lt (h i), List.take_succ_eq_append_getElem (by omega)]
    congr 2
    rw [List.getD_eq_getElem?_getD, List.getElem?_eq_getElem (by omega)]; rfl
theorem lim_rc {B : Nat} (hB : 2 ≤ B) {l : List Nat} (h : ∀ i, l.getD i 0 < B) : lim B (rc B l l.length) = strip l := by
  rw [← strip_dg hB (rc_lt h l.length), dg_rc hB h _ (Nat.le_refl _), List.take_length]
theorem strip_cons (d : Nat) (l : List Nat) : strip (d :: l) = if strip l = [] then (if d = 0 then [] else [d]) else d :: strip l := by
  cases h : strip l with
  | nil => simp [strip, h]
  | cons a r => simp [strip, h]
theorem strip_len : ∀ l : List Nat, (strip l).length ≤ l.length
  | [] => Nat.le_refl _
  | d :: l => by
    have := strip_len l
    rw [strip_cons]
    split
    · split <;> simp
    · simp; omega
theorem strip_pad : ∀ l : List Nat, strip l ++ List.replicate (l.length - (strip l).length) 0 = l
  | [] => rfl
  | d :: l => by
    have ih := strip_pad l
    have hl := strip_len l
    rw [strip_cons]
    split
    · rename_i h
      rw [h] at ih
      simp only [List.length_nil, Nat.sub_zero, List.nil_append] at ih
      split
      · rename_i hd
        subst hd
        conv => rhs; rw [← ih]
        rfl
      · conv => rhs; rw [← ih]
        rfl
    · rw [List.length_cons, List.length_cons, Nat.add_sub_add_right, List.cons_append, ih]
theorem strip_strip : ∀ l : List Nat, strip (strip l) = strip l
  | [] => rfl
  | d :: l => by
    have ih := strip_strip l
    rw [strip_cons]
    split
    · split
      · rfl
      · rename_i hd
        rw [strip_cons]; simp [strip, hd]
    · rename_i h
      rw [strip_cons, ih, if_neg h]
theorem strip_getD (l : List Nat) (i : Nat) : (strip l).getD i 0 = l.getD i 0 := by
  conv => rhs; rw [← strip_pad l]
  rw [List.getD_eq_getElem?_getD, List.getD_eq_getElem?_getD, List.getElem?_append]
  split
  · rfl
  · rename_i h
    rw [List.getElem?_eq_none (by omega), List.getElem?_replicate]
    split <;> rfl
end Mine
end
section
open PySem PySem.W PyProof.Rows PySem.Calls
set_option linter.unusedSectionVars false
set_option maxRecDepth 10000
set_option maxHeartbeats 4000000
namespace Mine
variable {W : Wd}

section
variable (P : Prg W) {w : Nat} (hw : 1 ≤ w) (hw' : w ≤ 16)
include P hw hw'
theorem recomposed_ok {l : List Nat} (hw9 : w ≤ 9) (hl : l.length ≤ 7) (hd : ∀ i, l.getD i 0 < 2 ^ w) : CallOK W 3 "recomposed" [.list (pR (2 ^ w) l), .int 1, .int (w : Int)] (R (2 ^ w) (rc (2 ^ w) l l.length)) := by
  have hB := pow2_ge hw
  have hwl : 2 ^ w ≤ 2 ^ 9 := Nat.pow_le_pow_right (by omega) hw9
  have hb : ∀ i, i ≤ 7 → rc (2 ^ w) l i < 2 ^ 64 := fun i hi => by
    refine Nat.lt_of_lt_of_le (rc_lt hd i) ?_
    refine Nat.le_trans (Nat.pow_le_pow_left hwl i) ?_
    rw [← Nat.pow_mul]
    exact Nat.pow_le_pow_right (by omega) (by omega)
  refine fn_ok P.f_recomposed ["coefficients", "size", "w"] ["found", "at", "one"] ["enumerate", "add_at"] (fun n => by kernel_rfl) rfl ?_ ?_
  · intro m
    refine all3 fun v1 v2 v3 => ?_
    kernel_rfl
  intro A m L a h₀ av
  have hz : D.list [] = R (2 ^ w) 0 := by rw [R_def, lim_zero]; rfl
  refine X.set 3 ((EvO.ev (EvO.disp EvL.nil)).to hz) ?_
  refine X.forE 4 5 (fun i ρ => i ≤ 7 ∧ ∃ b1 b2, ρ = [some (.p (.list (pR (2 ^ w) l))), some (.p (.int 1)), some (.p (.int (w : Int))), some (.p (R (2 ^ w) (rc (2 ^ w) l i))), b1, b2]) (EvIt.enum 0 rfl P.enumerate (Ev.name 0 rfl rfl) ?_) ⟨by omega, none, none, rfl⟩ (fun i ρ d hi hdd hI => ?_) (fun ρ hI => ?_)
  · rw [pR_length]; omega
  · obtain ⟨h7, b1, b2, rfl⟩ := hI
    obtain ⟨hil, rfl⟩ := pR_at hdd
    have hdi := hd i
    refine ⟨rfl, rfl, ?_⟩
    dsimp only [List.set]
    exact X.set 3 (Ev.callG 1 rfl (EvL.cons (Ev.name 3 rfl rfl) (EvL.cons (Ev.name 5 rfl rfl) (EvL.cons ((Ev.binop (Ev.name 4 rfl rfl) (Ev.name 1 rfl rfl) (op_mul (.inr (by decide)))).to (congrArg D.int (Int.mul_one _))) (EvL.cons (Ev.name 2 rfl rfl) EvL.nil)))) (add_at_ok P hw hw' (hb i h7) (b := l.getD i 0) (s := i) (by omega) (by omega)) (Nat.le_of_ble_eq_true rfl)) (Ex.nil ⟨by omega, some (.p (.int (i : Int))), some (.p (R (2 ^ w) (l.getD i 0))), rfl⟩)
  · obtain ⟨h7, b1, b2, rfl⟩ := hI
    rw [pR_length]
    exact X.ret (Ev.name 3 rfl rfl) (.inl rfl)
theorem products_of_ok {x y : List Int} (hx : x.length ≤ 100) (hxy : y.length = x.length) (hbx : ∀ i, (x.getD i 0).natAbs < 2 ^ 31) (hby : ∀ i, (y.getD i 0).natAbs < 2 ^ 31) : CallOK W 4 "products_of" [.list (x.map (SV (2 ^ w))), .list (y.map (SV (2 ^ w))), .int (w : Int), .fn "mul_school"] (.list ((List.zipWith (· * ·) x y).map (SV (2 ^ w)))) := by
  refine fn_ok P.f_products_of ["some", "others", "w", "mul"] [] ["zip"] (fun n => by kernel_rfl) rfl ?_ ?_
  · intro m
    refine all4 fun v1 v2 v3 v4 => ?_
    kernel_rfl
  intro A m L a h₀ av
  refine X.ret (EvO.ev (EvO.c2 "one" "other" ["w", "mul"] ["s_mul"] [(2, .int (w : Int)), (3, .fn "mul_school")] (EvIt.zip 0 rfl P.zip (Ev.name 0 rfl rfl) (Ev.name 1 rfl rfl) ?_) ?_ (fun i ds d hi hd => ?_) rfl ⟨⟨rfl, rfl, rfl, rfl, rfl⟩, ⟨rfl, rfl, rfl, rfl, rfl⟩, trivial⟩)) (.inl rfl)
  · simp; omega
  · simp [zips_length]
  · obtain ⟨u, v, hu, hv, rfl⟩ := zips_at hi
    have hil : i < x.length := by
      rcases Nat.lt_or_ge i x.length with q | q
      · exact q
      · rw [List.getElem?_eq_none (by simpa using q)] at hu; cases hu
    have hil' : i < y.length := by omega
    have b1 := hbx i
    have b2 := hby i
    rw [List.getD_eq_getElem?_getD, List.getElem?_eq_getElem hil] at b1
    rw [List.getD_eq_getElem?_getD, List.getElem?_eq_getElem hil'] at b2
    rw [List.getElem?_map, List.getElem?_eq_getElem hil] at hu
    rw [List.getElem?_map, List.getElem?_eq_getElem hil'] at hv
    rw [List.getElem?_map, List.getElem?_zipWith, List.getElem?_eq_getElem hil, List.getElem?_eq_getElem hil'] at hd
    cases hu; cases hv; cases hd
    exact ⟨_, _, rfl, fun cl C av => Ev.callG 0 rfl (EvL.cons (Ev.name 0 rfl rfl) (EvL.cons (Ev.name 1 rfl rfl) (EvL.cons (Ev.name 2 rfl rfl) (EvL.cons (Ev.name 3 rfl rfl) EvL.nil)))) (s_mul_ok P hw hw' b1 b2) (Nat.le_of_ble_eq_true rfl)⟩
theorem joined_seven_ok {c : List Nat} {v0 v1 v2 v3 v4 v5 v6 : D} {res : D} (hf : CallOK W 6 "from_seven" [v0, .tup [v2, v3], .tup [v4, v5], v6, v1, .int (w : Int)] (.list (pR (2 ^ w) c))) (hr : CallOK W 3 "recomposed" [.list (pR (2 ^ w) c), .int 1, .int (w : Int)] res) :
    CallOK W 7 "joined_seven" [.list [v0, v1, v2, v3, v4, v5, v6], .int 1, .int (w : Int)] res := by
  refine fn_ok P.f_joined_seven ["values", "size", "w"] ["found"] ["from_seven", "recomposed"] (fun n => by kernel_rfl) rfl ?_ ?_
  · intro m
    refine all3 fun v1 v2 v3 => ?_
    kernel_rfl
  intro A m L a h₀ av
  refine X.set 3 (Ev.callG 0 rfl (EvL.cons (Ev.itemN (EvSeq.of (Ev.name 0 rfl rfl)) Ev.int 0 rfl (by decide) rfl) (EvL.cons (Ev.tup (EvL.cons (Ev.itemN (EvSeq.of (Ev.name 0 rfl rfl)) Ev.int 2 rfl (by decide) rfl) (EvL.cons (Ev.itemN (EvSeq.of (Ev.name 0 rfl rfl)) Ev.int 3 rfl (by decide) rfl) EvL.nil))) (EvL.cons (Ev.tup (EvL.cons (Ev.itemN (EvSeq.of (Ev.name 0 rfl rfl)) Ev.int 4 rfl (by decide) rfl) (EvL.cons (Ev.itemN (EvSeq.of (Ev.name 0 rfl rfl)) Ev.int 5 rfl (by decide) rfl) EvL.nil))) (EvL.cons (Ev.itemN (EvSeq.of (Ev.name 0 rfl rfl)) Ev.int 6 rfl (by decide) rfl) (EvL.cons (Ev.itemN (EvSeq.of (Ev.name 0 rfl rfl)) Ev.int 1 rfl (by decide) rfl) (EvL.cons (Ev.name 2 rfl rfl) EvL.nil)))))) hf (Nat.le_of_ble_eq_true rfl)) ?_
  exact X.ret (Ev.callG 1 rfl (EvL.cons (Ev.name 3 rfl rfl) (EvL.cons (Ev.name 1 rfl rfl) (EvL.cons (Ev.name 2 rfl rfl) EvL.nil))) hr (Nat.le_of_ble_eq_true rfl)) (.inl rfl)

/-- the product's digits -/
noncomputable def pd (a0 a1 a2 a3 b0 b1 b2 b3 : Nat) : List Nat := [a0 * b0, a0 * b1 + a1 * b0, a0 * b2 + a1 * b1 + a2 * b0, a0 * b3 + a1 * b2 + a2 * b1 + a3 * b0, a1 * b3 + a2 * b2 + a3 * b1, a2 * b3 + a3 * b2, a3 * b3]
omit P hw hw' in
theorem vals_four (a0 a1 a2 a3 : Nat) : vals [a0, a1, a2, a3] = [(a0 : Int), (a3 : Int), (a0 + a2 : Int) + (a1 + a3 : Int), (a0 + a2 : Int) - (a1 + a3 : Int), (a0 + 4 * a2 : Int) + (2 * a1 + 8 * a3 : Int), (a0 + 4 * a2 : Int) - (2 * a1 + 8 * a3 : Int), 8 * (a0 : Int) + 4 * a1 + 2 * a2 + a3] := by
  have h1 : evn 0 [a0, a1, a2, a3] 4 = 0 + a0 * 2 ^ (0 * 0) + a2 * 2 ^ (0 * 2) := rfl
  have h2 : odn 0 [a0, a1, a2, a3] 4 = 0 + a1 * 2 ^ (0 * 1) + a3 * 2 ^ (0 * 3) := rfl
  have h3 : evn 1 [a0, a1, a2, a3] 4 = 0 + a0 * 2 ^ (1 * 0) + a2 * 2 ^ (1 * 2) := rfl
  have h4 : odn 1 [a0, a1, a2, a3] 4 = 0 + a1 * 2 ^ (1 * 1) + a3 * 2 ^ (1 * 3) := rfl
  have h5 : hvn [a0, a1, a2, a3] 4 = (((0 * 2 ^ 1 + a0) * 2 ^ 1 + a1) * 2 ^ 1 + a2) * 2 ^ 1 + a3 := rfl
  unfold vals
  rw [h1, h2, h3, h4, h5]
  simp only [List.getD_cons_zero, List.getD_cons_succ, List.cons.injEq, and_true]
  refine ⟨trivial, trivial, ?_, ?_, ?_, ?_, ?_⟩ <;> omega
theorem toom4_ok {la lb : List Nat} (hw8 : 8 ≤ w) (hw9 : w ≤ 9) (hla : la.length ≤ 4) (hlb : lb.length ≤ 4) (ha : ∀ i, la.getD i 0 ≤ 7) (hb : ∀ i, lb.getD i 0 ≤ 7) :
    CallOK W 8 "toom4" [.list (iL la), .list (iL lb), .int (w : Int), .fn "mul_school"] (.list (iL (strip (pd (la.getD 0 0) (la.getD 1 0) (la.getD 2 0) (la.getD 3 0) (lb.getD 0 0) (lb.getD 1 0) (lb.getD 2 0) (lb.getD 3 0))))) := by
  have hB := pow2_ge hw
  have hwl : 2 ^ 8 ≤ 2 ^ w := Nat.pow_le_pow_right (by omega) hw8
  have hcs := common_size_ok P hw hw' (da := iL la) (db := iL lb) (by rw [iL_length]; omega) (by rw [iL_length]; omega)
  have hpa := pieces_ok P hw hw' hla (fun i => by have := ha i; omega)
  have hpb := pieces_ok P hw hw' hlb (fun i => by have := hb i; omega)
  have a0 := ha 0
  have a1 := ha 1
  have a2 := ha 2
  have a3 := ha 3
  have b0 := hb 0
  have b1 := hb 1
  have b2 := hb 2
  have b3 := hb 3
  generalize la.getD 0 0 = x0 at *
  generalize la.getD 1 0 = x1 at *
  generalize la.getD 2 0 = x2 at *
  generalize la.getD 3 0 = x3 at *
  generalize lb.getD 0 0 = y0 at *
  generalize lb.getD 1 0 = y1 at *
  generalize lb.getD 2 0 = y2 at *
  generalize lb.getD 3 0 = y3 at *
  have four : ∀ {z0 z1 z2 z3 : Nat}, z0 ≤ 7 → z1 ≤ 7 → z2 ≤ 7 → z3 ≤ 7 → ∀ i, [z0, z1, z2, z3].getD i 0 ≤ 7 := fun h0 h1 h2 h3 i => by
    match i with
    | 0 => exact h0
    | 1 => exact h1
    | 2 => exact h2
    | 3 => exact h3
    | i + 4 => simp
  have hva := values_seven_ok P hw hw' (l := [x0, x1, x2, x3]) rfl (four a0 a1 a2 a3)
  have hvb := values_seven_ok P hw hw' (l := [y0, y1, y2, y3]) rfl (four b0 b1 b2 b3)
  have bnd : ∀ {z0 z1 z2 z3 : Nat}, z0 ≤ 7 → z1 ≤ 7 → z2 ≤ 7 → z3 ≤ 7 → ∀ i, ((vals [z0, z1, z2, z3]).getD i 0).natAbs < 2 ^ 31 := fun h0 h1 h2 h3 i => by
    rw [vals_four]
    match i with
    | 0 => simp; omega
    | 1 => simp; omega
    | 2 => simp; omega
    | 3 => simp; omega
    | 4 => simp; omega
    | 5 => simp; omega
    | 6 => simp; omega
    | i + 7 => simp
  have hprod := products_of_ok P hw hw' (x := vals [x0, x1, x2, x3]) (y := vals [y0, y1, y2, y3]) (by rw [vals_four]; simp) (by rw [vals_four, vals_four]; rfl) (bnd a0 a1 a2 a3) (bnd b0 b1 b2 b3)
  have pb : ∀ {u v : Nat}, u ≤ 7 → v ≤ 7 → u * v ≤ 49 := fun h h' => Nat.mul_le_mul h h'
  have hdl : ∀ i, (pd x0 x1 x2 x3 y0 y1 y2 y3).getD i 0 ≤ 196 := fun i => by
    unfold pd
    have := pb a0 b0
    have := pb a0 b1
    have := pb a0 b2
    have := pb a0 b3
    have := pb a1 b0
    have := pb a1 b1
    have := pb a1 b2
    have := pb a1 b3
    have := pb a2 b0
    have := pb a2 b1
    have := pb a2 b2
    have := pb a2 b3
    have := pb a3 b0
    have := pb a3 b1
    have := pb a3 b2
    have := pb a3 b3
    match i with
    | 0 => simp; omega
    | 1 => simp; omega
    | 2 => simp; omega
    | 3 => simp; omega
    | 4 => simp; omega
    | 5 => simp; omega
    | 6 => simp; omega
    | i + 7 => simp
  have hrec := recomposed_ok P hw hw' (l := pd x0 x1 x2 x3 y0 y1 y2 y3) hw9 (Nat.le_refl 7) (fun i => by have := hdl i; omega)
  rw [R_def, lim_rc hB (fun i => by have := hdl i; omega)] at hrec
  have hfs := from_seven_ok P hw hw' (c0 := ((pd x0 x1 x2 x3 y0 y1 y2 y3).getD 0 0 : Nat)) (c1 := ((pd x0 x1 x2 x3 y0 y1 y2 y3).getD 1 0 : Nat)) (c2 := ((pd x0 x1 x2 x3 y0 y1 y2 y3).getD 2 0 : Nat)) (c3 := ((pd x0 x1 x2 x3 y0 y1 y2 y3).getD 3 0 : Nat)) (c4 := ((pd x0 x1 x2 x3 y0 y1 y2 y3).getD 4 0 : Nat)) (c5 := ((pd x0 x1 x2 x3 y0 y1 y2 y3).getD 5 0 : Nat)) (c6 := ((pd x0 x1 x2 x3 y0 y1 y2 y3).getD 6 0 : Nat))
    (p1 := ((x0 + x2 : Int) + (x1 + x3 : Int)) * ((y0 + y2 : Int) + (y1 + y3 : Int))) (m1 := ((x0 + x2 : Int) - (x1 + x3 : Int)) * ((y0 + y2 : Int) - (y1 + y3 : Int)))
    (p2 := ((x0 + 4 * x2 : Int) + (2 * x1 + 8 * x3 : Int)) * ((y0 + 4 * y2 : Int) + (2 * y1 + 8 * y3 : Int))) (m2 := ((x0 + 4 * x2 : Int) - (2 * x1 + 8 * x3 : Int)) * ((y0 + 4 * y2 : Int) - (2 * y1 + 8 * y3 : Int)))
    (hf := (8 * (x0 : Int) + 4 * x1 + 2 * x2 + x3) * (8 * (y0 : Int) + 4 * y1 + 2 * y2 + y3))
    (by have := hdl 0; omega) (by have := hdl 1; omega) (by have := hdl 2; omega) (by have := hdl 3; omega) (by have := hdl 4; omega) (by have := hdl 5; omega) (by have := hdl 6; omega)
    (by simp only [pd, List.getD_cons_zero, List.getD_cons_succ, Int.natCast_add, Int.natCast_mul]; grind)
    (by simp only [pd, List.getD_cons_zero, List.getD_cons_succ, Int.natCast_add, Int.natCast_mul]; grind)
    (by simp only [pd, List.getD_cons_zero, List.getD_cons_succ, Int.natCast_add, Int.natCast_mul]; grind)
    (by simp only [pd, List.getD_cons_zero, List.getD_cons_succ, Int.natCast_add, Int.natCast_mul]; grind)
    (by simp only [pd, List.getD_cons_zero, List.getD_cons_succ, Int.natCast_add, Int.natCast_mul]; grind)
  have hj := joined_seven_ok P hw hw' (c := pd x0 x1 x2 x3 y0 y1 y2 y3) hfs hrec
  have ev0 : ((pd x0 x1 x2 x3 y0 y1 y2 y3).getD 0 0 : Int) = (x0 : Int) * (y0 : Int) := by simp [pd]
  have ev6 : ((pd x0 x1 x2 x3 y0 y1 y2 y3).getD 6 0 : Int) = (x3 : Int) * (y3 : Int) := by simp [pd]
  rw [ev0, ev6] at hj
  rw [vals_four, vals_four] at hprod
  rw [vals_four] at hva hvb
  refine fn_ok P.f_toom4 ["a", "b", "w", "mul"] ["size", "some", "others"] ["common_size", "values_seven", "pieces", "joined_seven", "products_of"] (fun n => by kernel_rfl) rfl ?_ ?_
  · intro m
    refine all4 fun v1 v2 v3 v4 => ?_
    kernel_rfl
  intro A m L a h₀ av
  refine X.set 4 (Ev.callG 0 rfl (EvL.cons (Ev.name 0 rfl rfl) (EvL.cons (Ev.name 1 rfl rfl) (EvL.cons Ev.int (EvL.cons Ev.int EvL.nil)))) hcs (Nat.le_of_ble_eq_true rfl)) ?_
  refine X.tupW [(5, "some"), (6, "others")] (Ev.tup (EvL.cons (Ev.callG 1 rfl (EvL.cons (Ev.callG 2 rfl (EvL.cons (Ev.name 0 rfl rfl) (EvL.cons Ev.int (EvL.cons (Ev.name 4 rfl rfl) EvL.nil))) hpa (Nat.le_of_ble_eq_true rfl)) (EvL.cons (Ev.name 2 rfl rfl) EvL.nil)) hva (Nat.le_of_ble_eq_true rfl)) (EvL.cons (Ev.callG 1 rfl (EvL.cons (Ev.callG 2 rfl (EvL.cons (Ev.name 1 rfl rfl) (EvL.cons Ev.int (EvL.cons (Ev.name 4 rfl rfl) EvL.nil))) hpb (Nat.le_of_ble_eq_true rfl)) (EvL.cons (Ev.name 2 rfl rfl) EvL.nil)) hvb (Nat.le_of_ble_eq_true rfl)) EvL.nil))) ?_ ⟨⟨rfl, rfl⟩, ⟨rfl, rfl⟩, trivial⟩
  dsimp only [setP, List.set, List.reverse, List.reverseAux]
  exact X.ret (Ev.callG 3 rfl (EvL.cons (Ev.callG 4 rfl (EvL.cons (Ev.name 5 rfl rfl) (EvL.cons (Ev.name 6 rfl rfl) (EvL.cons (Ev.name 2 rfl rfl) (EvL.cons (Ev.name 3 rfl rfl) EvL.nil)))) hprod (Nat.le_of_ble_eq_true rfl)) (EvL.cons (Ev.name 4 rfl rfl) (EvL.cons (Ev.name 2 rfl rfl) EvL.nil))) hj (Nat.le_of_ble_eq_true rfl)) (.inl rfl)
end
end Mine
end
section
open PySem PySem.W PyProof.Rows PySem.Calls
set_option linter.unusedSectionVars false
set_option maxRecDepth 10000
set_option maxHeartbeats 4000000
namespace Mine
variable {W : Wd}

theorem law_limbs_ok (P : Prg W) {w z : Nat} (hw : 1 ≤ w) (hw' : w ≤ 16) (hz : z < 2 ^ 64) : CallOK W 1 "_law_limbs" [.int (z : Int), .int (w : Int)] (R (2 ^ w) z) := by
  have hB := pow2_ge hw
  have hwl : 2 ^ w ≤ 2 ^ 16 := Nat.pow_le_pow_right (by omega) hw'
  have nz := nd_small hB hz
  have e2 : (2 : Int) ^ ((w : Int)).toNat = ((2 ^ w : Nat) : Int) := by rw [tw]; simp
  have hbits : ((Builtin.Int.intBits 2 : Nat) : Int) * (w : Int) ≤ 2 ^ 27 := by
    rw [show Builtin.Int.intBits 2 = 2 by decide]; omega
  refine fn_ok P.f_law_limbs ["number", "w"] ["found"] [] (fun n => by kernel_rfl) rfl ?_ ?_
  · intro m
    refine all2 fun v1 v2 => ?_
    kernel_rfl
  intro A m L a h₀ av
  refine X.own 2 (EvO.disp EvL.nil) fun ad => ?_
  refine X.while (fun q ρ => ∃ i, q = z / (2 ^ w) ^ i ∧ i ≤ nd (2 ^ w) z ∧ ρ = [some (.p (.int (q : Int))), some (.p (.int (w : Int))), some (.own ad (iL (dg (2 ^ w) z i)))]) z ⟨0, by simp, by omega, rfl⟩ fun q ρ hI => ?_
  obtain ⟨i, hq, hi, rfl⟩ := hI
  refine ⟨_, (EvT.cmp (Ev.name 0 rfl rfl) Ev.int cmp_gt), fun h => ?_, fun h => ?_⟩
  · have hq0 : 0 < q := by simpa using h
    have hin : i < nd (2 ^ w) z := by
      rcases Nat.lt_or_ge i (nd (2 ^ w) z) with y | y
      · exact y
      · rw [div_ge_nd hB y] at hq; omega
    refine X.app 2 (d := .int ((z / (2 ^ w) ^ i % 2 ^ w : Nat) : Int)) ((Ev.binop (Ev.name 0 rfl rfl) ((Ev.binop Ev.int (Ev.name 1 rfl rfl) (op_pow (by omega) hbits)).to (congrArg D.int e2)) (op_mod (by omega))).to ?_) ?_ ?_
    · rw [hq]; simp
    · rw [iL_length, dg_length]; omega
    dsimp only [List.set]
    rw [iL_snoc, ← dg_succ]
    refine X.set 0 (d := .int ((q / 2 ^ w : Nat) : Int)) ((Ev.binop (Ev.name 0 rfl rfl) ((Ev.binop Ev.int (Ev.name 1 rfl rfl) (op_pow (by omega) hbits)).to (congrArg D.int e2)) (op_div (by omega) (by omega))).to ?_) (Ex.nil ⟨q / 2 ^ w, Nat.div_lt_self hq0 hB, i + 1, ?_, by omega, rfl⟩)
    · simp
    · rw [hq, ← div_step]
  · have hq0 : q = 0 := by simp at h; omega
    have hin : i = nd (2 ^ w) z := by
      rcases Nat.lt_or_ge i (nd (2 ^ w) z) with y | y
      · have := nd_ge hB i z y
        have := Nat.div_pos this (Nat.pow_pos (by omega))
        omega
      · omega
    subst hin
    exact X.retO 2 (.inl rfl)

theorem law_without_ok (P : Prg W) {l : List Nat} (hz : l.length ≤ 1000) : CallOK W 1 "_law_without" [.list (iL l)] (.list (iL (strip l))) := by
  refine fn_ok P.f_law_without ["row"] ["end"] ["len"] (fun n => by kernel_rfl) rfl ?_ ?_
  · intro m
    refine all1 fun v1 => ?_
    kernel_rfl
  intro A m L a h₀ av
  obtain ⟨k, hk, hs, hzero, hn⟩ := strip_take l
  refine X.set 1 (Ev.len 0 rfl P.len (EvSeq.of (Ev.name 0 rfl rfl)) (by rw [iL_length]; omega)) ?_
  rw [iL_length]
  refine X.while (fun n ρ => k ≤ n ∧ n ≤ l.length ∧ ρ = [some (.p (.list (iL l))), some (.p (.int (n : Int)))]) l.length ⟨hk, Nat.le_refl _, rfl⟩ fun n ρ hI => ?_
  obtain ⟨h1, h2, rfl⟩ := hI
  refine ⟨_, EvT.and (EvT.cmp (Ev.name 1 rfl rfl) Ev.int cmp_gt) (b := ((l.getD (n - 1) 0 : Nat) : Int) == 0) (fun h => EvT.cmp (Ev.itemN (EvSeq.of (Ev.name 0 rfl rfl)) (Ev.binop (Ev.name 1 rfl rfl) Ev.int op_sub) (n - 1) ?_ ?_ (iL_getD ?_)) Ev.int cmp_eq), fun h => ?_, fun h => ?_⟩
  · simp at h; omega
  · simp at h; omega
  · simp at h; omega
  · simp only [Bool.and_eq_true, decide_eq_true_eq, beq_iff_eq] at h
    refine X.set 1 (Ev.binop (Ev.name 1 rfl rfl) Ev.int op_sub) (Ex.nil ⟨n - 1, by omega, ?_, by omega, ?_⟩)
    · rcases hn with rfl | ⟨d, hd, hd0⟩
      · omega
      · rcases Nat.lt_or_ge k n with q | q
        · omega
        · have e : n = k := by omega
          rw [e, List.getD_eq_getElem?_getD, hd] at h
          simp at h; omega
    · have : ((n : Int) - 1) = ((n - 1 : Nat) : Int) := by omega
      simp [this]
  · refine X.ret (EvO.ev (EvO.upto (EvSeq.of (Ev.name 0 rfl rfl)) (Ev.name 1 rfl rfl) (by omega) (by rw [iL_length]; omega))) (.inl ?_)
    have e : n = k := by
      rcases Nat.eq_zero_or_pos n with q | q
      · omega
      · rcases Nat.lt_or_ge k n with z | z
        · have := hzero (n - 1) (by omega) (by omega)
          rw [List.getD_eq_getElem?_getD, this] at h
          simp at h; omega
        · omega
    rw [hs, e]
    simp [iL]

-- the row of sums
noncomputable def sgS (s : Int) (m : Nat) (x y : Int) (k : Nat) (l : List Int) : List Int := if k < m then l.set k (l.getD k 0 + x * y) else l.set (k - m) (l.getD (k - m) 0 + s * x * y)
noncomputable def sgA (s : Int) (m : Nat) (x : Int) (at' : Nat) (b : List Int) : Nat → List Int → List Int
  | 0, l => l
  | j + 1, l => sgS s m x (b.getD j 0) (at' + j) (sgA s m x at' b j l)
noncomputable def sgB (s : Int) (m : Nat) (a b : List Int) : Nat → List Int → List Int
  | 0, l => l
  | i + 1, l => sgA s m (a.getD i 0) i b m (sgB s m a b i l)
theorem sgS_length (s : Int) (m : Nat) (x y : Int) (k : Nat) (l : List Int) : (sgS s m x y k l).length = l.length := by unfold sgS; split <;> simp
theorem sgA_length (s : Int) (m : Nat) (x : Int) (at' : Nat) (b l : List Int) : ∀ j, (sgA s m x at' b j l).length = l.length
  | 0 => rfl
  | j + 1 => by rw [sgA, sgS_length, sgA_length s m x at' b l j]
theorem sgB_length (s : Int) (m : Nat) (a b l : List Int) : ∀ i, (sgB s m a b i l).length = l.length
  | 0 => rfl
  | i + 1 => by rw [sgB, sgA_length, sgB_length s m a b l i]
theorem iI_get {l : List Int} {i : Nat} (h : i < l.length) : (iI l)[i]? = some (.int (l.getD i 0)) := by
  unfold iI
  rw [List.getElem?_map, List.getElem?_eq_getElem h, List.getD_eq_getElem?_getD, List.getElem?_eq_getElem h]; rfl
theorem iI_set (l : List Int) (i : Nat) (x : Int) : (iI l).set i (.int x) = iI (l.set i x) := by simp [iI, List.map_set]
theorem law_single_ok (P : Prg W) {a b : List Int} {s : Int} (hm : b.length = a.length) (hm' : a.length ≤ 100) (ha : ∀ i, (a.getD i 0).natAbs < 2 ^ 64) (hs : s.natAbs ≤ 1) : CallOK W 1 "_law_single" [.list (iI a), .list (iI b), .int s] (.list (iI (sgB s a.length a b a.length (List.replicate a.length 0)))) := by
  refine fn_ok P.f_law_single ["one", "other", "sign"] ["found", "at", "x", "spot", "y"] ["len", "enumerate"] (fun n => by kernel_rfl) rfl ?_ ?_
  · intro m
    refine all3 fun v1 v2 v3 => ?_
    kernel_rfl
  intro A m L ad₀ h₀ av
  refine X.own 3 (ds := iI (List.replicate a.length 0)) ((EvO.rep (EvSeq.of (EvO.ev (EvO.disp (EvL.cons Ev.int EvL.nil)))) (Ev.len 0 rfl P.len (EvSeq.of (Ev.name 0 rfl rfl)) ?_) ?_ ?_).to ?_) fun ad => ?_
  · rw [iI_length]; omega
  · omega
  · rw [iI_length]; omega
  · rw [iI_length]; simp [iI]
  have elen : ∀ {ρ : Loc} {p q z : Pos}, ρ[0]? = some (some (.p (.list (iI a)))) → Ev (mkC W (stm 76) "_law_single" ["one", "other", "sign", "found", "at", "x", "spot", "y"] ["len", "enumerate"] 0 A m L ad₀ h₀ av) ρ (.Call (.Name "len" p) [.Name "one" z] [] q) (.int (a.length : Int)) := fun {ρ p q z} h => by
    have := Ev.len (np := p) (pos := q) (e := .Name "one" z) (ρ := ρ) (c := mkC W (stm 76) "_law_single" ["one", "other", "sign", "found", "at", "x", "spot", "y"] ["len", "enumerate"] 0 A m L ad₀ h₀ av) 0 rfl P.len (EvSeq.of (Ev.name 0 rfl h)) (by rw [iI_length]; omega) rfl
    rwa [iI_length] at this
  refine X.forE 4 5 (fun i ρ => ∃ b1 b2 b3 b4, ρ = [some (.p (.list (iI a))), some (.p (.list (iI b))), some (.p (.int s)), some (.own ad (iI (sgB s a.length a b i (List.replicate a.length 0)))), b1, b2, b3, b4]) (EvIt.enum 1 rfl P.enumerate (Ev.name 0 rfl rfl) ?_) ⟨none, none, none, none, rfl⟩ (fun i ρ d hi hd hI => ?_) (fun ρ hI => ?_)
  · rw [iI_length]; omega
  · obtain ⟨b1, b2, b3, b4, rfl⟩ := hI
    obtain ⟨hil, rfl⟩ := iI_at hd
    have hx := ha i
    refine ⟨rfl, rfl, ?_⟩
    dsimp only [List.set]
    refine X.forE 6 7 (fun j ρ => ∃ b3 b4, ρ = [some (.p (.list (iI a))), some (.p (.list (iI b))), some (.p (.int s)), some (.own ad (iI (sgA s a.length (a.getD i 0) i b j (sgB s a.length a b i (List.replicate a.length 0))))), some (.p (.int (i : Int))), some (.p (.int (a.getD i 0))), b3, b4]) (EvIt.enum 1 rfl P.enumerate (Ev.name 1 rfl rfl) ?_) ⟨b3, b4, rfl⟩ (fun j ρ d hj hd hI => ?_) (fun ρ hI => ?_)
    · rw [iI_length]; omega
    · obtain ⟨b3, b4, rfl⟩ := hI
      obtain ⟨hjl, rfl⟩ := iI_at hd
      refine ⟨rfl, rfl, ?_⟩
      dsimp only [List.set]
      have hlA : (sgA s a.length (a.getD i 0) i b j (sgB s a.length a b i (List.replicate a.length 0))).length = a.length := by rw [sgA_length, sgB_length, List.length_replicate]
      generalize hA : sgA s a.length (a.getD i 0) i b j (sgB s a.length a b i (List.replicate a.length 0)) = lA at *
      generalize a.getD i 0 = x at *
      generalize hyy : b.getD j 0 = y at *
      refine X.if (EvT.cmp (Ev.binop (Ev.name 4 rfl rfl) (Ev.name 6 rfl rfl) op_add) (elen rfl) cmp_lt) (fun h => ?_) (fun h => ?_)
      · have hk : i + j < a.length := by simp at h; omega
        have e1 := iI_get (l := lA) (i := i + j) (by omega)
        refine X.put 3 (Ev.binop (Ev.itemN (EvSeq.own 3 rfl rfl) (Ev.binop (Ev.name 4 rfl rfl) (Ev.name 6 rfl rfl) op_add) (i + j) rfl (by omega) e1) (Ev.binop (Ev.name 5 rfl rfl) (Ev.name 7 rfl rfl) (op_mul (.inl hx))) op_add) (Ev.binop (Ev.name 4 rfl rfl) (Ev.name 6 rfl rfl) op_add) (i + j) rfl ?_ ?_ (Ex.nil (Ex.nil ⟨some (.p (.int (j : Int))), some (.p (.int y)), ?_⟩))
        · rw [iI_length]; omega
        · rw [iI_length]; omega
        dsimp only [List.set]
        rw [iI_set, sgA, hA, hyy, sgS, if_pos hk]
      · have hk : ¬ i + j < a.length := by simp at h; omega
        have e1 := iI_get (l := lA) (i := i + j - a.length) (by omega)
        refine X.put 3 (Ev.binop (Ev.itemN (EvSeq.own 3 rfl rfl) (Ev.binop (Ev.binop (Ev.name 4 rfl rfl) (Ev.name 6 rfl rfl) op_add) (elen rfl) op_sub) (i + j - a.length) (by omega) (by omega) e1) (Ev.binop (Ev.binop (Ev.name 2 rfl rfl) (Ev.name 5 rfl rfl) (op_mul (.inl (by omega)))) (Ev.name 7 rfl rfl) (op_mul (.inl ?_))) op_add) (Ev.binop (Ev.binop (Ev.name 4 rfl rfl) (Ev.name 6 rfl rfl) op_add) (elen rfl) op_sub) (i + j - a.length) (by omega) ?_ ?_ (Ex.nil (Ex.nil ⟨some (.p (.int (j : Int))), some (.p (.int y)), ?_⟩))
        · rw [Int.natAbs_mul]
          have : s.natAbs * x.natAbs ≤ 1 * x.natAbs := Nat.mul_le_mul_right _ hs
          omega
        · rw [iI_length]; omega
        · rw [iI_length]; omega
        dsimp only [List.set]
        rw [iI_set, sgA, hA, hyy, sgS, if_neg hk]
    · obtain ⟨b3, b4, rfl⟩ := hI
      rw [iI_length, hm]
      exact Ex.nil ⟨some (.p (.int (i : Int))), some (.p (.int (a.getD i 0))), b3, b4, rfl⟩
  · obtain ⟨b1, b2, b3, b4, rfl⟩ := hI
    rw [iI_length]
    exact X.retO 3 (.inl rfl)
end Mine
end
section
open PySem PySem.W PyProof.Rows PySem.Calls
set_option linter.unusedSectionVars false
set_option maxRecDepth 10000
set_option maxHeartbeats 4000000
namespace Mine
variable {W : Wd}

theorem okD_int (n : Nat) (i : Int) : okD n (.int i) = true := by cases n <;> rfl
theorem okD_list {n : Nat} {ds : List D} (h : ∀ d ∈ ds, okD n d = true) : okD (n + 1) (.list ds) = true := by
  rw [okD]; exact List.all_eq_true.mpr h
theorem okD_iI (n : Nat) (l : List Int) : okD (n + 1) (.list (iI l)) = true := okD_list fun d hd => by
  obtain ⟨i, _, rfl⟩ := List.mem_map.mp hd; exact okD_int ..
theorem okD_iL (n : Nat) (l : List Nat) : okD (n + 1) (.list (iL l)) = true := okD_list fun d hd => by
  obtain ⟨i, _, rfl⟩ := List.mem_map.mp hd; exact okD_int ..

theorem law_is_tooms_walk (P : Prg W) {w m : Nat} {a b C C' : List Nat} {r1 r2 : List Int} (hm : m ≤ 4) (hm1 : 1 ≤ m) (ha : a.length = m) (hb : b.length = m)
    (htoom : CallOK W 8 "toom4" [.list (iL (strip a)), .list (iL (strip b)), .int (w : Int), .fn "mul_school"] (.list (iL (strip C)))) (hmul : ∃ x, W.mg "mul_school" = some (.ref x))
    (hC : strip C = strip C') (hC' : C'.length = 2 * m) (h1 : r1.length = m) (h2 : r2.length = m)
    (hr1 : ∀ i, i < m → r1.getD i 0 = (C'.getD i 0 : Int) + 1 * (C'.getD (i + m) 0 : Int)) (hr2 : ∀ i, i < m → r2.getD i 0 = (C'.getD i 0 : Int) + (0 - 1) * (C'.getD (i + m) 0 : Int)) :
    CallOK W 9 "_law_is_tooms" [.list (iL a), .list (iL b), .list [.list (iI r1), .list (iI r2)], .int (w : Int)] (.bool true) := by
  obtain ⟨ax, hax⟩ := hmul
  have hsl := strip_len C'
  have wa := law_without_ok P (l := a) (by omega)
  have wb := law_without_ok P (l := b) (by omega)
  have wc := law_without_ok P (l := strip C') (by omega)
  rw [strip_strip] at wc
  rw [hC] at htoom
  have hpad := strip_pad C'
  refine fn_ok P.f_law_is_tooms ["one", "other", "due", "w"] ["many", "limbs", "sign", "row"] ["len", "toom4", "_law_without", "mul_school", "range"] (fun n => by kernel_rfl) rfl ?_ ?_
  · intro m
    refine all4 fun v1 v2 v3 v4 => ?_
    kernel_rfl
  intro A mm L ad₀ h₀ av
  refine X.set 4 (d := .int (m : Int)) ((Ev.len 0 rfl P.len (EvSeq.of (Ev.name 0 rfl rfl)) ?_).to ?_) ?_
  · rw [iL_length]; omega
  · rw [iL_length, ha]
  refine X.set 5 (Ev.callG 1 rfl (EvL.cons (Ev.callG 2 rfl (EvL.cons (Ev.name 0 rfl rfl) EvL.nil) wa (Nat.le_of_ble_eq_true rfl)) (EvL.cons (Ev.callG 2 rfl (EvL.cons (Ev.name 1 rfl rfl) EvL.nil) wb (Nat.le_of_ble_eq_true rfl)) (EvL.cons (Ev.name 3 rfl rfl) (EvL.cons (Ev.glob 3 rfl hax) EvL.nil)))) htoom (Nat.le_of_ble_eq_true rfl)) ?_
  refine X.no ((EvT.or (EvT.cmp (Ev.len 0 rfl P.len (EvSeq.of (Ev.name 5 rfl rfl)) ?_) (Ev.binop Ev.int (Ev.name 4 rfl rfl) (op_mul (.inl (by decide)))) cmp_gt) (b := false) fun h => (EvT.cmp (Ev.name 5 rfl rfl) (Ev.callG 2 rfl (EvL.cons (Ev.name 5 rfl rfl) EvL.nil) wc (Nat.le_of_ble_eq_true rfl)) (cmp_ne_same (okD_iL 4 _)))).to ?_) ?_
  · rw [iL_length]; omega
  · rw [iL_length, Bool.or_false]; exact decide_eq_false (by omega)
  refine X.set 5 (d := .list (iL C')) ((EvO.ev (EvO.cat (EvSeq.of (Ev.name 5 rfl rfl)) (EvSeq.of (EvO.ev (EvO.rep (EvSeq.of (EvO.ev (EvO.disp (EvL.cons Ev.int EvL.nil)))) (Ev.binop (Ev.binop Ev.int (Ev.name 4 rfl rfl) (op_mul (.inl (by decide)))) (Ev.len 0 rfl P.len (EvSeq.of (Ev.name 5 rfl rfl)) ?_) op_sub) ?_ ?_))) ?_)).to ?_) ?_
  · rw [iL_length]; omega
  · rw [iL_length]; omega
  · rw [iL_length]; omega
  · rw [iL_length, List.length_replicate]; omega
  · rw [iL_length, iL_zeros, ← iL_append, show (2 * (m : Int) - ((strip C').length : Int)).toNat = C'.length - (strip C').length by omega, hpad]
  refine X.for [(6, "sign"), (7, "row")] (fun i ρ => ∃ b6 b7, ρ = [some (.p (.list (iL a))), some (.p (.list (iL b))), some (.p (.list [.list (iI r1), .list (iI r2)])), some (.p (.int (w : Int))), some (.p (.int (m : Int))), some (.p (.list (iL C'))), b6, b7])
    (EvIt.tuples (dss := [[.int 1, .list (iI r1)], [.int (0 - 1), .list (iI r2)]]) (Ev.tup (EvL.cons (Ev.tup (EvL.cons Ev.int (EvL.cons (Ev.itemN (EvSeq.of (Ev.name 2 rfl rfl)) Ev.int 0 rfl (by decide) rfl) EvL.nil))) (EvL.cons (Ev.tup (EvL.cons (Ev.binop Ev.int Ev.int op_sub) (EvL.cons (Ev.itemN (EvSeq.of (Ev.name 2 rfl rfl)) Ev.int 1 rfl (by decide) rfl) EvL.nil))) EvL.nil))) (Nat.le_of_ble_eq_true rfl)) ⟨none, none, rfl⟩ (fun i ρ ds hI hd => ?_) (fun ρ hI => ?_)
    ⟨_, _, _, rfl, .cons (fun v s Q E h => wpAny_assign_Name h) (.cons (fun v s Q E h => wpAny_assign_Name h) .nil), rfl, rfl⟩ ⟨rfl, rfl, trivial⟩
  · obtain ⟨b6, b7, rfl⟩ := hI
    have key : ∃ (s : Int) (r : List Int), ds = [.int s, .list (iI r)] ∧ r.length = m ∧ s.natAbs ≤ 1 ∧ ∀ j, j < m → r.getD j 0 = (C'.getD j 0 : Int) + s * (C'.getD (j + m) 0 : Int) := by
      match i, hd with
      | 0, hd => cases hd; exact ⟨1, r1, rfl, h1, by decide, hr1⟩
      | 1, hd => cases hd; exact ⟨0 - 1, r2, rfl, h2, by decide, hr2⟩
      | i + 2, hd => simp at hd
    obtain ⟨s, r, rfl, hr, hs, hrr⟩ := key
    refine ⟨⟨⟨rfl, rfl⟩, ⟨rfl, rfl⟩, trivial⟩, rfl, ?_⟩
    dsimp only [setP, List.set]
    refine X.no (EvT.cmp (EvO.ev (EvO.c1 "at" ["limbs", "sign", "many"] [] [(5, .list (iL C')), (6, .int s), (4, .int (m : Int))] (outs := iI r) (EvIt.range1 4 m rfl P.range (Ev.name 4 rfl rfl) (by omega) (by omega) (by omega)) ?_ (fun i ds d hi hd => ?_) rfl ⟨⟨rfl, rfl, rfl, rfl, rfl⟩, ⟨rfl, rfl, rfl, rfl, rfl⟩, ⟨rfl, rfl, rfl, rfl, rfl⟩, trivial⟩)) (Ev.name 7 rfl rfl) (cmp_ne_same (okD_iI 4 _))) (Ex.nil ⟨some (.p (.int s)), some (.p (.list (iI r))), rfl⟩)
    · rw [iI_length, rng_length, hr]
    · obtain ⟨him, rfl⟩ := rng_at hi
      obtain ⟨_, rfl⟩ := iI_at hd
      have ei : (0 : Int) + (i : Int) * 1 = (i : Int) := by omega
      rw [ei, hrr i him]
      refine ⟨_, rfl, fun cl C av => ?_⟩
      exact Ev.binop (Ev.itemN (EvSeq.of (Ev.name 1 rfl rfl)) (Ev.name 0 rfl rfl) i rfl (by omega) (iL_getD (by omega))) (Ev.binop (Ev.name 2 rfl rfl) (Ev.itemN (EvSeq.of (Ev.name 1 rfl rfl)) (Ev.binop (Ev.name 0 rfl rfl) (Ev.name 3 rfl rfl) op_add) (i + m) rfl (by omega) (iL_getD (by omega))) (op_mul (.inl (by omega)))) op_add
  · obtain ⟨b6, b7, rfl⟩ := hI
    exact X.ret Ev.bool (.inl rfl)
end Mine
end
section
open PySem PySem.W PyProof.Rows PySem.Calls
set_option maxRecDepth 10000
namespace Mine
variable {c : Cx} {ρ : Loc}

/-- all but one object stand -/
noncomputable def ExtBut (a : Addr) (h h' : Heap) : Prop := ∀ b o, b ≠ a → h.get? b = some o → h'.get? b = some o
theorem Ext.but {a : Addr} {h h' : Heap} (x : Ext h h') : ExtBut a h h' := fun b o _ e => x b o e
theorem ExtBut.trans {a : Addr} {h h' h'' : Heap} (x : ExtBut a h h') (y : ExtBut a h' h'') : ExtBut a h h'' := fun b o n e => y b o n (x b o n e)

/-- an own list is changed in place, other objects may be new -/
theorem FS.mutate2 {h h' : Heap} {k : Nat} {a : Addr} {ds ds' : List D} {vs' : List Value} (hf : c.fn = true) (F : FS c ρ h) (hb : ρ[k]? = some (some (.own a ds))) (hs : ExtBut a h h') (p' : h'.PlainList a vs'.toArray) (r' : Reps c.W (Pv c ρ) h' vs' ds') :
    FS c (ρ.set k (some (.own a ds'))) h' ∧ Pres c ρ h h' := by
  have hl : k < ρ.length := by
    rcases Nat.lt_or_ge k ρ.length with z | z
    · exact z
    · rw [List.getElem?_eq_none z] at hb; cases hb
  obtain ⟨hn0, hn1, its, n0, e0⟩ := F.own0 k a ds hb
  have hOa : Own ρ a := ⟨k, ds, hb⟩
  have pr : Pres c ρ h h' := fun b o e np => hs b o (fun q => np (.inr (.inr (q ▸ hOa)))) e
  have kq : Keq (Pv c ρ) h h' := fun b o its n nb _ e => hs b o (fun q => nb (.inr (q ▸ hOa))) e
  have ka : ∀ {g : Heap} b, (g.get? b).isSome = true → Pv c (ρ.set k (some (.own a ds'))) b → Pv c ρ b := fun b _ q => by
    rcases q with q | q
    · exact .inl q
    · exact .inr (own_set_same hb q)
  have hL : c.env.locals ≠ a := fun q => by
    obtain ⟨m, o, es, ep, e, hd, _⟩ := F.ns
    rw [q, e0] at e; cases e; cases hd
  have hC : ∀ {cd u}, h.IsCell cd u → h'.IsCell cd u := fun {cd u} hc => by
    have ne : cd ≠ a := fun q => by
      obtain ⟨o, e, hd⟩ := hc
      rw [q, e0] at e; cases e; cases hd
    obtain ⟨o, e, hd⟩ := hc
    exact ⟨o, hs _ _ ne e, hd⟩
  have hN : ∀ {m}, h.Ns c.env.locals m → h'.Ns c.env.locals m := fun ⟨o, es, ep, e, r⟩ => ⟨o, es, ep, hs _ _ hL e, r⟩
  have VV : ∀ y u, VarV h c.env y u → VarV h' c.env y u := fun y u V => by
    rcases V with ⟨hk, m, hn, hm⟩ | ⟨hk, cd, hc, hv⟩
    · exact .inl ⟨hk, m, hN hn, hm⟩
    · exact .inr ⟨hk, cd, hc, hC hv⟩
  refine ⟨⟨F.ok, g_of hf F pr, av_of hf F pr, fun _ => keep_of hf F pr, ?_, fun _ n cd hm => ?_, fun k' y b hk' hb' => ?_, fun k' a' es q => ?_, fun k' k'' a' es es' q q' => ?_⟩, pr⟩
  · obtain ⟨m, hn⟩ := F.ns; exact ⟨m, hN hn⟩
  · obtain ⟨u, hu⟩ := F.cells hf n cd hm; exact ⟨u, hC hu⟩
  · by_cases q : k = k'
    · subst q
      rw [get_set_eq hl] at hb'; cases hb'
      obtain ⟨u, U, rfl, _⟩ := F.var k y _ hk' hb
      exact ⟨_, VV y _ U, rfl, vs', p', r'.mono (Ext.refl _).keq ka⟩
    · rw [get_set_ne q] at hb'
      obtain ⟨u, U, H⟩ := F.var k' y b hk' hb'
      refine ⟨u, VV y u U, ?_⟩
      cases b with
      | p d => exact Rep.mono kq ka H
      | own a' es =>
        obtain ⟨rfl, vs, p, r⟩ := H
        have hne : a' ≠ a := fun z => q (F.ownd k k' a ds es hb (z ▸ hb'))
        obtain ⟨n, e⟩ := p
        exact ⟨rfl, vs, ⟨n, hs _ _ hne e⟩, r.mono kq ka⟩
  · by_cases z : k = k'
    · subst z; rw [get_set_eq hl] at q; cases q
      exact ⟨hn0, hn1, _, p'⟩
    · rw [get_set_ne z] at q
      obtain ⟨h0, h1, its', n, e⟩ := F.own0 k' a' es q
      have hne : a' ≠ a := fun w => z (F.ownd k k' a ds es hb (w ▸ q))
      exact ⟨h0, h1, its', n, hs _ _ hne e⟩
  · have back : ∀ {k' : Nat} {a' : Addr} {es : List D}, (ρ.set k (some (B.own a ds')))[k']? = some (some (B.own a' es)) → ∃ es', ρ[k']? = some (some (B.own a' es')) := fun {k' a' es} q => by
      by_cases z : k = k'
      · subst z; rw [get_set_eq hl] at q; cases q; exact ⟨ds, hb⟩
      · rw [get_set_ne z] at q; exact ⟨es, q⟩
    obtain ⟨x, hx⟩ := back q
    obtain ⟨y, hy⟩ := back q'
    exact F.ownd _ _ _ _ _ hx hy

/-- the heap without one object -/
noncomputable def freeAt (h : Heap) (a : Addr) : Heap := { h with objs := h.objs.modify a fun o => { o with data := .freed } }
theorem freeAt_size (h : Heap) (a : Addr) : (freeAt h a).objs.size = h.objs.size := by simp [freeAt]
theorem freeAt_none (h : Heap) (a : Addr) : (freeAt h a).get? a = none := by
  unfold freeAt Heap.get?
  simp only [Array.getElem?_modify, if_true]
  cases h.objs[a]? with
  | none => rfl
  | some o => rfl
theorem freeAt_ne (h : Heap) {a b : Addr} (n : b ≠ a) : (freeAt h a).get? b = h.get? b := by
  unfold freeAt Heap.get?
  simp only [Array.getElem?_modify]
  rw [if_neg (fun e => n e.symm)]
theorem freeAt_ext {h h' : Heap} {a : Addr} (x : ExtBut a h h') : Ext (freeAt h a) h' := fun b o e => by
  by_cases q : b = a
  · subst q; rw [freeAt_none] at e; cases e
  · rw [freeAt_ne h q] at e; exact x b o q e
end Mine
end
section
open PySem PySem.W PyProof.Rows PySem.Calls
set_option maxRecDepth 10000
set_option maxHeartbeats 2000000
namespace Mine
variable {W : Wd}

noncomputable def brick (bs : List Int) (k : Nat) (K : Nat) : Int := if k + 1 ≤ bs.length then bs.getD k 0 % (K : Int) else (9 * ((k : Int) + 1) + ((k : Int) + 1) / 4 + 3) % (K : Int)
theorem iI_get' {l : List Int} {i : Nat} (h : i < l.length) : (iI l)[i]? = some (.int (l.getD i 0)) := by
  unfold iI
  rw [List.getElem?_map, List.getElem?_eq_getElem h, List.getD_eq_getElem?_getD, List.getElem?_eq_getElem h]; rfl
noncomputable def crD (bs : List Int) (k : Nat) : List D := [.int (k : Int), .list (iI bs)]

theorem brick_ok (P : Prg W) {a : Addr} {k K : Nat} {bs : List Int} (hK : 0 < K) (hk : k ≤ 1000) (hbs : bs.length ≤ 1000) : ∃ f o fd, W.mg "_law_brick" = some (.ref f) ∧ W.K.lookup f = some o ∧ o.data = .func fd ∧
    ∀ (A : Around) (s : Shared) (t : Tok) (us : List Value) (av : Addr → Prop) (Q : Value → Shared → Prop) (E : Value → Shared → Prop), Room A 1 → W.G (freeAt s.heap a) → W.G s.heap → av a → (∀ b, av b → (s.heap.get? b).isSome = true) → s.heap.PlainList a us.toArray → Reps W av s.heap us (crD bs k) →
      (∀ t h' tk us', ExtBut a s.heap h' → h'.PlainList a us'.toArray → Reps W av h' us' (crD bs (k + 1)) → Q (.int (brick bs k K) t) (after s h' tk)) → wpAny (model W.prog W.w) A (call (.ref f) [.ref a, .int (K : Int) t] []) Q E s := by
  obtain ⟨f, oc, od, osl, m, hm, ho, hcd⟩ := P.f_law_brick
  refine ⟨f, _, _, hm, ho, rfl, fun A s t us av Q E R Gf G hA hav pl rs hQ => ?_⟩
  have C1 : chk (scopeOf (stm 73)) ["crate", "many"] ["len"] (s.heap.objs.size + 1) = true := by kernel_rfl
  unfold chk at C1
  simp only [Bool.and_eq_true, List.all_eq_true, Bool.or_eq_true, beq_iff_eq, Bool.not_eq_true', decide_eq_true_eq] at C1
  obtain ⟨⟨⟨⟨⟨⟨⟨hkind, hco⟩, hge⟩, hks⟩, hgs⟩, hnd⟩, hdk⟩, hdg⟩ := C1
  have hbind : bindArgs (fdOf (stm 73) "_law_brick" m) ⟨[.ref a, .int (K : Int) t], []⟩ = pure ((["crate", "many"] : List Str).zip [.ref a, .int (K : Int) t]) := by kernel_rfl
  refine wpAny_call (codeAny_call_cells (fd := fdOf (stm 73) "_law_brick" m) (body := bodyOf (stm 73)) (binds := (["crate", "many"] : List Str).zip [.ref a, .int (K : Int) t]) (by have := R.2.1; omega) (G.2.2.2 f _ ho) rfl G.2.2.1 (codeRec_of G.2.2.2 hcd) rfl hbind rfl (fun y hy => hks y.1 (List.of_mem_zip hy).1) (fun s₁ X => ?_) hco hge hkind)
  let c : Cx := mkC W (stm 73) "_law_brick" ["crate", "many"] ["len"] 0 (A.deeper (callEnvC (fdOf (stm 73) "_law_brick" m) s.heap.objs.size f)) m s.heap.objs.size f (freeAt s.heap a) (fun b => av b ∧ b ≠ a)
  obtain ⟨h₁, tk, rfl, hk₁⟩ := X.done
  have hOk : c.Ok := {
    kind := hkind, gl := rfl, bi := rfl, room := R.deeper, nod := hnd
    kinds := fun k y hy => by
      rcases hks y (List.mem_of_getElem? hy) with q | q
      · exact .inl q
      · exact .inr q.1
    globs := fun k y hy => hgs y (List.mem_of_getElem? hy)
    nodb := fun y hy => by
      rcases hy with hy | hy
      · exact hdk y hy
      · exact hdg y hy
    isFn := fun _ => {
      av0 := fun b hb => by rw [freeAt_ne _ hb.2]; exact hav b hb.1
      hi := by rw [freeAt_size]; exact Nat.le_refl _
      g0 := Gf, apart := X.apart
      cellsHi := fun n cd hc => by rw [freeAt_size]; exact Nat.le_of_lt (X.above n cd (mem_of_lookup hc))
      cellsAll := fun k y hy hc => by
        rcases hks y (List.mem_of_getElem? hy) with q | q
        · have z : (callEnvC (fdOf (stm 73) "_law_brick" m) s.heap.objs.size f).kindOf y = some .local := q
          have w : (callEnvC (fdOf (stm 73) "_law_brick" m) s.heap.objs.size f).kindOf y = some .cell := hc
          rw [z] at w; cases w
        · exact q.2 } }
  let ρ : Loc := [some (.own a (crD bs k)), some (.p (.int (K : Int)))]
  have own_is : ∀ b, Own ρ b → b = a := fun b ⟨j, es, e⟩ => by
    match j, e with
    | 0, e => cases e; rfl
    | 1, e => cases e
    | j + 2, e => simp [ρ] at e
  have pv_av : ∀ b, Pv c ρ b → av b := fun b q => by
    rcases q with q | q
    · exact q.1
    · rw [own_is b q]; exact hA
  have av_pv : ∀ b, av b → Pv c ρ b := fun b q => by
    by_cases e : b = a
    · exact .inr ⟨0, crD bs k, by rw [e]; rfl⟩
    · exact .inl ⟨q, e⟩
  have varOf : ∀ (j : Nat) x v, (["crate", "many"] : List Str)[j]? = some x → ([.ref a, .int (K : Int) t] : List Value)[j]? = some v → VarV h₁ c.env x v := fun j x v hx hv => by
    rcases hks x (List.mem_of_getElem? hx) with q | ⟨q, q2⟩
    · exact .inl ⟨q, _, X.toInCall.ns, bindL_at hnd hx hv q⟩
    · obtain ⟨cd, hcd'⟩ := Option.isSome_iff_exists.mp q2
      have hc := X.cell x cd hcd'
      have e : bindC (callEnvC (fdOf (stm 73) "_law_brick" m) s.heap.objs.size f).kindOf ((["crate", "many"] : List Str).zip [.ref a, .int (K : Int) t]) (fun _ => none) x = some v := bindC_at hnd hx hv (by
        have z : (callEnvC (fdOf (stm 73) "_law_brick" m) s.heap.objs.size f).kindOf x = some .cell := q
        rw [z]; decide)
      rw [e] at hc
      exact .inr ⟨.inl q, cd, hcd', hc⟩
  have F : FS c ρ h₁ := {
    ok := hOk, g := G.ext hk₁, av1 := fun b z => ext_some hk₁ (hav b z.1), keep := fun _ => freeAt_ext (Ext.but hk₁), ns := ⟨_, X.toInCall.ns⟩, cells := fun _ n cd hc => ⟨_, X.cell n cd hc⟩
    var := fun j y b hj hb => by
      match j, hj, hb with
      | 0, hj, hb =>
        cases hb
        exact ⟨.ref a, varOf 0 y _ hj rfl, rfl, us, PL.ext pl hk₁, (rs.ext hk₁).mono (Ext.refl _).keq fun b _ q => pv_av b q⟩
      | 1, hj, hb => cases hb; exact ⟨_, varOf 1 y _ hj rfl, .int _ _⟩
      | j + 2, hj, hb => simp [ρ] at hb
    own0 := fun j b es e => by
      have : b = a := own_is b ⟨j, es, e⟩
      subst this
      exact ⟨fun _ => freeAt_none _ _, fun z => z.2 rfl, _, PL.ext pl hk₁⟩
    ownd := fun j j' b es es' e e' => by
      match j, j', e, e' with
      | 0, 0, _, _ => rfl
      | 0, 1, _, e' => cases e'
      | 1, _, e, _ => cases e
      | 0, j + 2, _, e' => simp [ρ] at e'
      | j + 2, _, e, _ => simp [ρ] at e }
  let ρ1 : Loc := [some (.own a (crD bs (k + 1))), some (.p (.int (K : Int)))]
  let ρ2 : Loc := [some (.p (.list (crD bs (k + 1)))), some (.p (.int (K : Int)))]
  have E1 : ExS c ρ ((bodyOf (stm 73)).headD (.Pass ⟨0, 0, 0, 0⟩)) fun o => o = .next ρ1 := by
    refine ExS.setItem (x := "crate") 0 rfl rfl (Ev.binop (Ev.itemN (EvSeq.own (x := "crate") 0 rfl rfl) Ev.int 0 rfl (by decide) rfl) Ev.int op_add) Ev.int (by decide) ?_ ?_ ?_
    · show (0 : Int) < ((2 : Nat) : Int); decide
    · show 2 ≤ 100000; decide
    · rfl
  have E2 : Ex c ρ2 (bodyOf (stm 73)).tail fun o => o = .ret (.int (brick bs k K)) := by
    have ec : Ev c ρ2 (.Name "crate" ⟨0, 0, 0, 0⟩) (.list (crD bs (k + 1))) := Ev.name 0 rfl rfl
    refine Mine.X.else (EvT.cmp (Ev.itemN (EvSeq.of (Ev.name (x := "crate") 0 rfl rfl)) Ev.int 0 rfl (by decide) rfl) (Ev.len (ds := iI bs) 0 rfl P.len (EvSeq.of (Ev.itemN (EvSeq.of (Ev.name (x := "crate") 0 rfl rfl)) Ev.int 1 rfl (by decide) rfl)) (by rw [iI_length]; omega)) cmp_le) (fun h => ?_) (fun h => ?_)
    · rw [iI_length] at h
      have hle : k + 1 ≤ bs.length := by simp at h; omega
      refine Mine.X.ret ((Ev.binop (Ev.itemN (ds := iI bs) (EvSeq.of (Ev.itemN (EvSeq.of (Ev.name (x := "crate") 0 rfl rfl)) Ev.int 1 rfl (by decide) rfl)) (Ev.binop (Ev.itemN (EvSeq.of (Ev.name (x := "crate") 0 rfl rfl)) Ev.int 0 rfl (by decide) rfl) Ev.int op_sub) k ?_ (by omega) (iI_get' (by omega))) (Ev.name (x := "many") 1 rfl rfl) (op_mod (by omega))).to ?_) rfl
      · omega
      · rw [brick, if_pos hle]
    · rw [iI_length] at h
      have hle : ¬ k + 1 ≤ bs.length := by simp at h; omega
      refine Mine.X.ret ((Ev.binop (Ev.binop (Ev.binop (Ev.binop Ev.int (Ev.itemN (EvSeq.of (Ev.name (x := "crate") 0 rfl rfl)) Ev.int 0 rfl (by decide) rfl) (op_mul (.inl (by decide)))) (Ev.binop (Ev.itemN (EvSeq.of (Ev.name (x := "crate") 0 rfl rfl)) Ev.int 0 rfl (by decide) rfl) Ev.int (op_div (by decide) (by decide))) op_add) Ev.int op_add) (Ev.name (x := "many") 1 rfl rfl) (op_mod (by omega))).to ?_) rfl
      rw [brick, if_neg hle]; rfl
  have eb : bodyOf (stm 73) = (bodyOf (stm 73)).headD (.Pass ⟨0, 0, 0, 0⟩) :: (bodyOf (stm 73)).tail := by kernel_rfl
  show wpAny (model W.prog W.w) c.A (execs (bodyOf (stm 73)) c.env) _ _ _
  rw [eb]
  refine wpAny_execs_cons (E1 _ _ _ rfl F fun fl o h' tk' hoo hp hP => ?_)
  subst hoo
  obtain ⟨rfl, F', os⟩ := hP
  have F2 : FS c ρ2 h' := F'.weak (weak_free 0 (ρ := ρ1) rfl)
  refine E2 _ _ _ rfl F2 fun fl o h'' tk'' hoo hp' hP' => ?_
  subst hoo
  obtain ⟨v, rfl, r⟩ := hP'
  have x : Ext (freeAt s.heap a) h'' := keep_of (c := c) rfl F2 hp'
  obtain ⟨u, U, e, us', pl', rs'⟩ := F'.var 0 "crate" _ rfl rfl
  have noOwn2 : ∀ b, ¬ Own ρ2 b := fun b ⟨j, es, e⟩ => by
    match j, e with
    | 0, e => cases e
    | 1, e => cases e
    | j + 2, e => simp [ρ2] at e
  have seqs : ∀ b o its n, o.data = .seq its n → h'.get? b = some o → h''.get? b = some o := fun b o its n hd e => hp' b o e (not_priv_seq rfl F2 e hd (noOwn2 b))
  have pl'' : h''.PlainList a us'.toArray := by
    obtain ⟨n, e⟩ := pl'
    exact ⟨n, seqs a _ _ _ rfl e⟩
  have own1 : ∀ b, Own ρ1 b → b = a := fun b ⟨j, es, e⟩ => by
    match j, e with
    | 0, e => cases e; rfl
    | 1, e => cases e
    | j + 2, e => simp [ρ1] at e
  have rs'' : Reps W av h'' us' (crD bs (k + 1)) := rs'.mono (fun b o its n _ hd e => seqs b o its n hd e) fun b _ q => by
    by_cases e : b = a
    · exact .inr ⟨0, crD bs (k + 1), by rw [e]; rfl⟩
    · exact .inl ⟨q, e⟩
  cases r with
  | int i t' =>
  exact hQ t' h'' tk'' us' (fun b o n e => x b o (by rw [freeAt_ne _ n]; exact e)) pl'' rs''
end Mine
end
section
open PySem PySem.W PyProof.Rows PySem.Calls
set_option maxRecDepth 10000
set_option maxHeartbeats 2000000
namespace Mine
variable {c : Cx} {ρ : Loc}

theorem freeAt_mono {h g : Heap} {a : Addr} (x : Ext h g) : Ext (freeAt h a) (freeAt g a) := fun b o e => by
  by_cases q : b = a
  · subst q; rw [freeAt_none] at e; cases e
  · rw [freeAt_ne h q] at e; rw [freeAt_ne g q]; exact x b o e
theorem freeAt_from {h₀ h : Heap} {a : Addr} (x : Ext h₀ h) (n : h₀.get? a = none) : Ext h₀ (freeAt h a) := fun b o e => by
  have q : b ≠ a := fun q => by subst q; rw [n] at e; cases e
  rw [freeAt_ne h q]; exact x b o e

/-- a call of the brick's def, in any frame -/
theorem brick_step (P : Prg c.W) {a : Addr} {k K : Nat} {bs : List Int} (hK : 0 < K) (hk : k ≤ 1000) (hbs : bs.length ≤ 1000) (g : Nat) (hg : c.gs[g]? = some ("_law_brick" : Str)) (hl : 1 ≤ c.lvl) {np p p2 pos : Pos} {kk : Nat}
    {av : Addr → Prop} {us : List Value} {s : Shared} {Q : Value → Shared → Prop} {E : Value → Shared → Prop} (F : FS c ρ s.heap) (hcr : Ev c ρ (.Name "crate" p) (.pin a)) (Gf : c.W.G (freeAt s.heap a)) (hA : av a) (hav : ∀ b, av b → (s.heap.get? b).isSome = true)
    (pl : s.heap.PlainList a us.toArray) (rs : Reps c.W av s.heap us (crD bs k))
    (h : ∀ t h' tk us', ExtBut a s.heap h' → h'.PlainList a us'.toArray → Reps c.W av h' us' (crD bs (k + 1)) → Q (.int (brick bs k K) t) (after s h' tk)) :
    wpAny (model c.W.prog c.W.w) c.A (eval (.Call (.Name "_law_brick" np) [.Name "crate" p, .Constant (.int (K : Int)) kk p2] [] pos) c.env) Q E s := by
  obtain ⟨f, o, fd, hm, ho, hd, hb⟩ := brick_ok (W := c.W) P (a := a) (k := k) (K := K) (bs := bs) hK hk hbs
  refine wpAny_Call_ofName (ev_glob F g hg hm ?_)
  have ha : EvL c ρ pos [.Name "crate" p, .Constant (.int (K : Int)) kk p2] [.pin a, .int (K : Int)] := EvL.cons hcr (EvL.cons Ev.int EvL.nil)
  obtain ⟨x₀, rest, ea, _⟩ : PlainArgs pos [.Name "crate" p, .Constant (.int (K : Int)) kk p2] c.env := ⟨_, _, rfl, rfl⟩
  show wpAny _ _ (callWith pos (.ref f) [] (backTo pos (starEach _ c.env)) []) Q E _
  refine callWith_function (o := o) (fd := fd) ?_
  have key := ha s (fun vs s₁ => (s₁.heap.get? f = some o ∧ o.data = .func fd) ∧ wpAny (model c.W.prog c.W.w) c.A (PySem.call (.ref f) ([] ++ vs) []) Q E s₁) E F fun vs g t y rs' => ?_
  · rw [ea] at key ⊢
    exact evalArgs_plain key
  · cases rs' with
    | cons r1 rs' =>
    cases rs' with
    | cons r2 rs' =>
    cases rs'
    cases r1
    cases r2
    exact ⟨⟨(F.ext y).g.2.2.2 f o ho, hd⟩, hb c.A (after s g t) _ us av Q E (F.ok.room.le hl) (Gf.ext (freeAt_mono y)) (F.g.ext y) hA (fun b q => ext_some y (hav b q)) (PL.ext pl y) (rs.ext y) fun t' h' tk us' x p' r' => h t' h' tk us' ((Ext.but y).trans x) p' r'⟩

/-- an expression that also changes the frame; its value is a number -/
noncomputable def EvM (c : Cx) (ρ : Loc) (e : Expr) (i : Int) (ρ' : Loc) : Prop :=
  ∀ (s : Shared) (Q : Value → Shared → Prop) (E : Value → Shared → Prop), c.fn = true → FS c ρ s.heap →
    (∀ t h' tk, Pres c ρ s.heap h' → FS c ρ' h' → OwnSub s.heap ρ ρ' → Q (.int i t) (after s h' tk)) → wpAny (model c.W.prog c.W.w) c.A (eval e c.env) Q E s
theorem EvM.pure {e : Expr} {i : Int} (h : Ev c ρ e (.int i)) : EvM c ρ e i ρ := fun s Q E _ F hQ => h s Q E F fun v h' tk x r => by
  cases r
  exact hQ _ h' tk x.pres (F.ext x) (OwnSub.refl _ _)
theorem EvM.bin {l r : Expr} {op : Operator} {pos : Pos} {i j z : Int} {ρ₁ ρ₂ : Loc} (h1 : EvM c ρ l i ρ₁) (h2 : EvM c ρ₁ r j ρ₂) (hop : OpOk c ρ₂ (binaryOp op) (.int i) (.int j) (.int z)) : EvM c ρ (.BinOp l op r pos) z ρ₂ := by
  intro s Q E hf F hQ
  refine wpAny_BinOp (h1 s _ _ hf F fun t₁ g₁ k₁ p₁ F₁ o₁ => h2 (after s g₁ k₁) _ _ hf F₁ fun t₂ g₂ k₂ p₂ F₂ o₂ => hop _ _ _ _ _ F₂ (.int _ _) (.int _ _) fun v g t y r => ?_)
  cases r
  exact hQ _ g t ((p₁.trans o₁ p₂).trans (OwnSub.trans hf F₁ p₁ o₁ o₂) y.pres) (F₂.ext y) (OwnSub.trans hf F₁ p₁ o₁ o₂)
theorem Ev.namePin (k : Nat) {x : Str} {pos : Pos} {a : Addr} {ds : List D} (hk : c.ks[k]? = some x) (hb : ρ[k]? = some (some (.own a ds))) : Ev c ρ (.Name x pos) (.pin a) := by
  intro s Q E F h
  obtain ⟨v, V, rfl, vs, p, r⟩ := F.var k x _ hk hb
  exact ev_var F.ok (List.mem_of_getElem? hk) V (h _ s.heap s.toks (Ext.refl _) (.pin a))
theorem EvM.brick (P : Prg c.W) {a : Addr} {k K : Nat} {bs : List Int} (n : Nat) (hK : 0 < K) (hk : k ≤ 1000) (hbs : bs.length ≤ 1000) (g : Nat) (hg : c.gs[g]? = some ("_law_brick" : Str)) (hl : 1 ≤ c.lvl) {np p p2 pos : Pos} {kk : Nat}
    (hks : c.ks[n]? = some ("crate" : Str)) (hb : ρ[n]? = some (some (.own a (crD bs k)))) : EvM c ρ (.Call (.Name "_law_brick" np) [.Name "crate" p, .Constant (.int (K : Int)) kk p2] [] pos) (brick bs k K) (ρ.set n (some (.own a (crD bs (k + 1))))) := by
  intro s Q E hf F hQ
  obtain ⟨v, V, rfl, us, pl, rs⟩ := F.var n _ _ hks hb
  have n0 := (F.own0 n a _ hb).1 hf
  refine brick_step P hK hk hbs g hg hl F (Ev.namePin n hks hb) ((F.ok.isFn hf).g0.ext (freeAt_from (F.keep hf) n0)) (av := Pv c ρ) (.inr ⟨n, _, hb⟩) (fun b q => F.pv q) pl rs fun t h' tk us' x p' r' => ?_
  have M := FS.mutate2 hf F hb x p' r'
  exact hQ t h' tk M.2 M.1 fun b o => .inl (own_set_same hb o)
/-- several such, from left to right -/
noncomputable def EvMs (c : Cx) (ρ : Loc) (pos : Pos) (es : List Expr) (is : List Int) (ρ' : Loc) : Prop :=
  ∀ (s : Shared) (Q : List Value → Shared → Prop) (E : Value → Shared → Prop), c.fn = true → FS c ρ s.heap →
    (∀ vs h' tk, Pres c ρ s.heap h' → FS c ρ' h' → OwnSub s.heap ρ ρ' → (∀ av g, Reps c.W av g vs (iI is)) → Q vs (after s h' tk)) → wpAny (model c.W.prog c.W.w) c.A (spliced (backTo pos (starEach es c.env))) Q E s
theorem EvMs.nil {pos : Pos} : EvMs c ρ pos [] [] ρ := fun s _ _ _ F h => spliced_nil (h [] s.heap s.toks (Ext.refl _).pres F (OwnSub.refl _ _) fun _ _ => .nil)
theorem EvMs.cons {pos : Pos} {e : Expr} {es : List Expr} {i : Int} {is : List Int} {ρ₁ ρ₂ : Loc} (h1 : EvM c ρ e i ρ₁) (h2 : EvMs c ρ₁ pos es is ρ₂) (hs : starEach (e :: es) c.env = (false, eval e c.env) :: starEach es c.env := by rfl) : EvMs c ρ pos (e :: es) (i :: is) ρ₂ := by
  intro s Q E hf F h
  rw [hs]
  show wpAny _ _ (spliced ((false, eval e c.env) :: backTo pos (starEach es c.env))) Q E s
  exact spliced_cons (h1 s _ _ hf F fun t g k p₁ F₁ o₁ => h2 _ _ _ hf F₁ fun vs g' t' p₂ F₂ o₂ rs => h (_ :: vs) g' t' (p₁.trans o₁ p₂) F₂ (OwnSub.trans hf F₁ p₁ o₁ o₂) fun av g => .cons (.int _ _) (rs av g))
theorem X.tupM (kxs : List (Nat × Str)) {rest : List Stmt} {Φ : Out → Prop} {elts es : List Expr} {tk tk' : Nat} {tpos vpos pos : Pos} {is : List Int} {ρ' : Loc} (h1 : EvMs c ρ vpos es is ρ') (hz : is.length ≤ 100) (hn : kxs.length = is.length)
    (h : Ex c (setP ρ' kxs.reverse (iI is).reverse) rest Φ) (hk : ∀ q ∈ kxs, c.ks[q.1]? = some q.2 ∧ q.1 < ρ'.length)
    (hs : swapsWithSole [.Tuple elts tk tpos] (.Tuple es tk' vpos) pos.line c.env = pure false := by rfl) (hw : swappedStores [.Tuple elts tk tpos] (.Tuple es tk' vpos) c.env = pure (some (kxs.map (·.2))) := by rfl) :
    Ex c ρ (.Assign [.Tuple elts tk tpos] (.Tuple es tk' vpos) pos :: rest) Φ := by
  refine Ex.cons fun s Q E hf F hQ => ?_
  refine Assign_Tuple_swapped ?_ hs hw
  refine wpAny_Tuple_spliced ?_
  refine h1 _ _ _ hf F fun vs g t p₁ F₁ o₁ rs => ?_
  have hlen := (rs (fun _ => False) g).length
  rw [iI_length] at hlen
  refine ⟨sz_line (by omega), ?_⟩
  let T := g.push { cls := .type "tuple", data := .seq vs.toArray }
  have yT : Ext g T := Ext.push _ _
  have hT : T.IsTuple g.objs.size vs.toArray := push_tup _ _
  rw [show (kxs.map (·.2)).length = vs.toArray.size by simp [hn, hlen]]
  refine wpAny_unpackItems_tuple (s := after s T t) F.ok.room.1 hT fun h' eb => ?_
  have x' : Ext T h' := fun b o e => eb b o (Nat.ne_of_lt (Heap.lt_size e)) e
  have ez : ((kxs.map (·.2)).reverse.map fun n => bindName c.env n) = kxs.reverse.map fun q => bindName c.env q.2 := by simp
  have ev : (vs.toArray.toList).reverse = vs.reverse := rfl
  rw [ez, ev]
  have xx := yT.trans x'
  refine stores_p (binds_swap kxs.reverse) hf (F₁.ext xx) (fun q hq => hk q (List.mem_reverse.mp hq)) (by simpa [iI] using hn) (rs _ h').reverse fun h'' tk' F' pr _ => ?_
  have o2 : OwnSub g ρ' (setP ρ' kxs.reverse (iI is).reverse) := fun b o => .inl (own_setP o)
  exact hQ .next (.next _) h'' tk' h ((p₁.trans o₁ xx.pres).trans (OwnSub.trans hf F₁ p₁ o₁ (OwnSub.refl _ _)) pr) ⟨rfl, F', OwnSub.trans hf F₁ p₁ o₁ o2⟩
end Mine
end
section
open PySem PySem.W PyProof.Rows PySem.Calls
set_option maxRecDepth 10000
set_option maxHeartbeats 2000000
namespace Mine
variable {c : Cx} {ρ : Loc}

noncomputable def putAt (h : Heap) (a : Addr) (o : Obj) : Heap := { h with objs := h.objs.modify a fun _ => o }
theorem putAt_ne (h : Heap) {a b : Addr} (o : Obj) (n : b ≠ a) : (putAt h a o).get? b = h.get? b := by
  unfold putAt Heap.get?
  simp only [Array.getElem?_modify]
  rw [if_neg (fun e => n e.symm)]
theorem putAt_eq {h g : Heap} {a : Addr} {o o' : Obj} (e : h.get? a = some o) (e' : g.get? a = some o') : (putAt g a o).get? a = some o := by
  have hg : ∃ z, g.objs[a]? = some z := by
    cases q : g.objs[a]? with
    | none => unfold Heap.get? at e'; rw [q] at e'; cases e'
    | some z => exact ⟨z, rfl⟩
  obtain ⟨z, hz⟩ := hg
  have nf : ∀ {x y w}, o ≠ ⟨x, y, .freed, w⟩ := fun {x y w} q => by
    subst q
    unfold Heap.get? at e
    split at e
    · cases e
    · rename_i hh; exact hh _ _ _ e
  unfold putAt Heap.get?
  simp only [Array.getElem?_modify, if_true, hz, Option.map_some]
  split
  · rename_i q; cases q; exact absurd rfl nf
  · rfl

/-- a comprehension that calls the brick's def for each item -/
theorem comp_brick (P : Prg c.W) {a : Addr} {k K n N : Nat} {bs : List Int} {x : Str} {p np cp kp' pos0 : Pos} {kk : Nat} {iter : Expr} {tidy : Bool} {dss : List (List D)} {scope : Scope} {cl : List (Str × Addr)} {gs : List Str} {pos : Pos} {RR : Value → Addr → Result → Shared → Prop} {s : Shared} {E : Value → Shared → Prop}
    (hf : c.fn = true) (F : FS c ρ s.heap) (hK : 0 < K) (hkN : k + N ≤ 1000) (hbs : bs.length ≤ 1000) (hl : 1 ≤ c.lvl) (hks : c.ks[n]? = some ("crate" : Str)) (hbn : ρ[n]? = some (some (.own a (crD bs k)))) (KO : KOk c ρ scope cl [x] gs [] []) (hxc : x ≠ ("crate" : Str)) (hg : gs[0]? = some ("_law_brick" : Str))
    (hc1 : (relabel scope c.env).names.lookup ("crate" : Str) = some .cell) (hc2 : cl.lookup ("crate" : Str) = c.env.cells.lookup ("crate" : Str)) (hc3 : c.env.kindOf "crate" = some .cell)
    (hit : EvIt c ρ (.Name x p) iter true tidy dss) (hN : dss.length = N) (h1 : ∀ (i : Nat) ds, dss[i]? = some ds → ds.length = 1)
    (hRR : ∀ Dd C h' tk ys us m, ExtBut a s.heap h' → s.heap.get? Dd = none → s.heap.get? C = none → Dd ≠ C → h'.Ns C m → h'.PlainList Dd ys.toArray → (∀ av g, Reps c.W av g ys (iI ((List.range N).map fun i => brick bs (k + i) K))) → h'.PlainList a us.toArray → Reps c.W (fun b => Pv c ρ b ∨ b = Dd) h' us (crD bs (k + N)) → RR (.ref Dd) C (.ok .next) (after s h' tk)) :
    wpAny (model c.W.prog c.W.w) c.A (eval iter c.env) (fun x₁ s₁ => wpAny (model c.W.prog c.W.w) c.A (pyIter x₁) (fun it s₂ => wpAny (model c.W.prog c.W.w) c.A (newList []) (fun acc s₃ =>
      wpAny (model c.W.prog c.W.w) c.A (newFunctionEnv scope c.env.globals cl [] c.env.qual none .none (some c.env)) (fun cenv s₄ =>
        codeAny (model c.W.prog c.W.w) c.A (.compStart (.ListComp (.Call (.Name "_law_brick" np) [.Name "crate" cp, .Constant (.int (K : Int)) kk kp'] [] pos0) [⟨.Name x p, iter, [], 0⟩] scope pos) 0 it acc { cenv with scope := relabel scope c.env }) (RR acc cenv.locals) s₄) E s₃) E s₂) E s₁) E s := by
  obtain ⟨va, Va, rfl, us0, pla, rsa⟩ := F.var n _ _ hks hbn
  have hOa : Own ρ a := ⟨n, _, hbn⟩
  have sa : (s.heap.get? a).isSome = true := PL.some pla
  have n0 := (F.own0 n a _ hbn).1 hf
  have cellC : ∃ cd, c.env.cells.lookup ("crate" : Str) = some cd ∧ s.heap.IsCell cd (some (.ref a)) := by
    rcases Va with ⟨z, _⟩ | ⟨_, cd, hcd, hv⟩
    · rw [hc3] at z; cases z
    · exact ⟨cd, hcd, hv⟩
  obtain ⟨cd, hcd, hcv⟩ := cellC
  have hcda : cd ≠ a := fun q => by
    obtain ⟨o, e, hd⟩ := hcv
    obtain ⟨m, e'⟩ := pla
    rw [q, e'] at e; cases e; cases hd
  refine hit s _ _ F fun I fp wr P₀ Md St g tk y it => ?_
  refine wpAny_newObj_type (wpAny_newFunctionEnv KO.nocell (by intro y hy; simp at hy) (fun h₁ hns₁ hsb₁ => ?_) KO.kind)
  dsimp only at hns₁ hsb₁ ⊢
  let lo : Obj := { cls := .type "list", dict := none, data := .seq ([] : List Value).toArray }
  generalize hH2 : g.push { cls := .type "list", dict := none, data := .seq ([] : List Value).toArray } = H2 at hns₁ hsb₁ ⊢
  have hC : H2.objs.size = g.objs.size + 1 := by rw [← hH2]; exact Heap.size_push ..
  have hDC : @Ne Nat g.objs.size H2.objs.size := by rw [hC]; exact Nat.ne_of_lt (Nat.lt_succ_self _)
  generalize hCe : H2.objs.size = C at hns₁ hsb₁ ⊢
  have hCn : g.get? C = none := by
    cases e : g.get? C with
    | none => rfl
    | some o => exact absurd (Heap.lt_size e) (by rw [← hCe, hC]; exact Nat.not_lt.mpr (Nat.le_succ _))
  have hDn : g.get? g.objs.size = none := get?_size g
  have hDC' : g.objs.size ≠ C := by rw [← hCe]; exact hDC
  generalize hDe : g.objs.size = Dd at hDn hDC' ⊢
  have back : ∀ {b : Addr}, g.get? b = none → s.heap.get? b = none := fun {b} hn => by
    cases e : s.heap.get? b with
    | none => rfl
    | some o => rw [y b o e] at hn; cases hn
  have wrg : ∀ b ∈ wr, (g.get? b).isSome = true := fun b hb => (it.fpS b (it.turns.sub b hb)).1
  have hDw : Dd ∉ wr := fun hb => by have := wrg _ hb; rw [hDn] at this; cases this
  have hCw : C ∉ wr := fun hb => by have := wrg _ hb; rw [hCn] at this; cases this
  have hDf : Dd ∉ fp := fun hb => by have := (it.fpS _ hb).1; rw [hDn] at this; cases this
  have hCf : C ∉ fp := fun hb => by have := (it.fpS _ hb).1; rw [hCn] at this; cases this
  have haf : a ∉ fp := fun hb => by
    obtain ⟨o, its, n', _, _, na⟩ := (it.fpS a hb).2 sa
    exact na (.inr hOa)
  have haw : a ∉ wr := fun hb => haf (it.turns.sub a hb)
  have hag : (g.get? a).isSome = true := ext_some y sa
  have haD : a ≠ Dd := fun q => by rw [q, hDn] at hag; cases hag
  have haC : a ≠ C := fun q => by rw [q, hCn] at hag; cases hag
  have x2 : Ext g H2 := hH2 ▸ Ext.push g lo
  have old : Ext g h₁ := fun b o e => hsb₁.extBut b o (fun q => by rw [q, hCn] at e; cases e) (Heap.get?_push_of_some _ (x2 b o e))
  have pl0 : h₁.PlainList Dd ([] : List Value).toArray := by
    have q : H2.get? Dd = some lo := by
      rw [← hDe, ← hH2]; exact Heap.get?_push_size g (o := lo) rfl
    exact ⟨0, hsb₁.extBut _ _ hDC' (Heap.get?_push_of_some _ q)⟩
  let av : Addr → Prop := fun b => (Pv c ρ b ∨ b = Dd) ∨ b ∈ wr
  have avPv : ∀ b, (s.heap.get? b).isSome = true → av b → Pv c ρ b := fun b hs q => by
    rcases q with (q | q) | q
    · exact q
    · rw [q, back hDn] at hs; cases hs
    · rw [it.new b q] at hs; cases hs
  have loop : codeAny (model c.W.prog c.W.w) c.A (.compLoop (.ListComp (.Call (.Name "_law_brick" np) [.Name "crate" cp, .Constant (.int (K : Int)) kk kp'] [] pos0) [⟨.Name x p, iter, [], 0⟩] scope pos) 0 (.ref I) (.ref Dd) (compEnvC scope cl C c.env)) (RR (.ref Dd) C) (after s h₁ (tk + ([] : List (Str × Value)).length)) := by
    refine comp_loop (fun kn s' => ∃ h' tk' i ys us m', s' = after s h' tk' ∧ i ≤ N ∧ kn = N + 1 - i ∧ St i h' ∧ h'.Ns C m' ∧ h'.PlainList Dd ys.toArray ∧ (∀ av g, Reps c.W av g ys (iI ((List.range i).map fun i => brick bs (k + i) K))) ∧ h'.PlainList a us.toArray ∧ Reps c.W av h' us (crD bs (k + i)) ∧ (∀ b o, b ∉ wr → b ≠ a → g.get? b = some o → h'.get? b = some o)) ?_ (N + 1)
      ⟨h₁, _, 0, [], us0, _, rfl, Nat.zero_le _, rfl, it.turns.frame _ _ _ it.st fun b _ o e => old b o e, hns₁, pl0, fun _ _ => .nil, PL.ext pla (y.trans old), rsa.mono (y.trans old).keq avPv, fun b o _ _ e => old b o e⟩
    rintro kn s' E ⟨h', tk', i, ys, us, m', rfl, hi, rfl, hst, hn, pl, rs, plA, rsA, kp⟩
    by_cases hlt : i < N
    · refine it.turns.item i _ _ _ (by omega) hst fun v g₁ t₁ hMd hk₁ => it.turns.go i v _ _ _ hMd fun g₂ hP hst₂ hk₂ => ?_
      have hk₁₂ : ∀ b o, b ∉ wr → h'.get? b = some o → g₂.get? b = some o := fun b o hb e => hk₂ b o hb (hk₁ b o hb e)
      obtain ⟨us', ds, hds, hItem, ru⟩ := it.item i v g₂ (by omega) hP
      have hl1 := h1 i ds hds
      have hul := ru.length
      have hn₂ : g₂.Ns C m' := hn.at' fun o e => hk₁₂ C o hCw e
      have hb' : CBinds (compEnvC scope cl C c.env) (.Name x p) true [x] := ⟨_, _, rfl, rfl⟩
      refine cbind_item (W := c.W) F.ok.room.1 KO.kind KO.loc (by simp) hn₂ hb' hItem (by simp; omega) fun g₃ t₃ m₃ hn₃ hm₃ hk₃ => ?_
      have st₃ : St (i + 1) g₃ := it.turns.frame _ _ _ hst₂ fun b hb o e => hk₃ b o (fun q => hCf (by have q' : b = C := q; rw [← q']; exact hb)) e
      have to₃ : ∀ b o, b ∉ wr → b ≠ C → h'.get? b = some o → g₃.get? b = some o := fun b o hb nC e => hk₃ b o nC (hk₁₂ b o hb e)
      have kp₃ : ∀ b o, b ∉ wr → b ≠ a → g.get? b = some o → g₃.get? b = some o := fun b o hb na e => to₃ b o hb (fun q => by rw [q, hCn] at e; cases e) (kp b o hb na e)
      have xb₃ : ExtBut a s.heap g₃ := fun b o na e => kp₃ b o (fun hb => by rw [it.new b hb] at e; cases e) na (y b o e)
      have pl₃ : g₃.PlainList Dd ys.toArray := by
        obtain ⟨m, e⟩ := pl
        exact ⟨m, to₃ _ _ hDw hDC' e⟩
      have plA₃ : g₃.PlainList a us.toArray := by
        obtain ⟨m, e⟩ := plA
        exact ⟨m, to₃ _ _ haw haC e⟩
      have seqC : ∀ b o its m, o.data = .seq its m → h'.get? b = some o → b ≠ C := fun b o its m hd e q => by
        obtain ⟨o', es, ep, e', hd', _⟩ := hn
        rw [q, e'] at e; cases e; rw [hd'] at hd; cases hd
      have rsA₃ : Reps c.W av g₃ us (crD bs (k + i)) := rsA.mono (fun b o its m na hd e => to₃ b o (fun hb => na (.inr hb)) (seqC b o its m hd e) e) fun _ _ q => q
      have x0₃ : Ext c.h₀ g₃ := fun b o e => xb₃ b o (fun q => by rw [q, n0] at e; cases e) (F.keep hf b o e)
      have hav₃ : ∀ b, av b → (g₃.get? b).isSome = true := fun b hb => by
        rcases hb with (hb | hb) | hb
        · by_cases q : b = a
          · rw [q]; exact PL.some plA₃
          · obtain ⟨o, e⟩ := Option.isSome_iff_exists.mp (F.pv hb)
            rw [xb₃ b o q e]; rfl
        · rw [hb]; exact PL.some pl₃
        · exact it.alive _ _ st₃ b hb
      obtain ⟨d0, hd0⟩ : ∃ d, ds = [d] := by
        match ds, hl1 with
        | [d], _ => exact ⟨d, rfl⟩
      subst hd0
      let c' : Cx := mkK c scope cl [x, "crate"] gs C av
      let ρ' : Loc := [some (.p d0), some (.p (.pin a))]
      have noOwn : ∀ b, ¬ Own ρ' b := fun b ⟨j, es, e⟩ => by
        match j, e with
        | 0, e => cases e
        | 1, e => cases e
        | j + 2, e => simp [ρ'] at e
      have F' : FS c' ρ' g₃ := {
        ok := {
          kind := KO.kind, gl := F.ok.gl, bi := F.ok.bi, room := F.ok.room
          nod := by show ([x, "crate"] : List Str).Nodup; simp [hxc]
          kinds := fun j z hz => by
            match j, hz with
            | 0, hz => cases hz; exact .inl (KO.loc x (.head _))
            | 1, hz => cases hz; exact .inr hc1
            | j + 2, hz => simp [c'] at hz
          globs := fun j z hz => KO.gl z (List.mem_of_getElem? hz)
          nodb := fun z hz => by
            rcases hz with hz | hz
            · rcases List.mem_cons.mp hz with rfl | hz
              · exact KO.nodb z (.inl (.head _))
              · rw [List.mem_singleton.mp hz]; decide
            · exact KO.nodb z (.inr hz)
          isFn := fun q => by cases q }
        g := (F.ok.isFn hf).g0.ext x0₃
        av1 := hav₃
        keep := fun q => by cases q
        ns := ⟨m₃, hn₃⟩
        cells := fun q => by cases q
        own0 := fun j b es e => absurd ⟨j, es, e⟩ (noOwn b)
        ownd := fun j j' b es es' e _ => absurd ⟨j, es, e⟩ (noOwn b)
        var := fun j z b hz hb => by
          match j, hz, hb with
          | 0, hz, hb =>
            cases hz; cases hb
            obtain ⟨u, hu, r⟩ := ru.get (i := 0) (d := d0) rfl
            refine ⟨u, .inl ⟨KO.loc x (.head _), m₃, hn₃, (hm₃ 0 x rfl).trans hu⟩, Rep.mono (fun b o its m na hd e => kp₃ b o (fun hb => na (.inr hb)) (fun q => na (.inl (q ▸ hOa |> .inr))) e) (fun b hs q => ?_) r⟩
            rcases q with ((q | q) | q) | q
            · exact .inl q
            · rw [q, hDn] at hs; cases hs
            · exact .inr q
            · exact absurd q (noOwn b)
          | 1, hz, hb =>
            cases hz; cases hb
            refine ⟨.ref a, .inr ⟨.inl hc1, cd, hc2.trans hcd, ?_⟩, .pin a⟩
            obtain ⟨o, e, r⟩ := hcv
            exact ⟨o, xb₃ cd o hcda e, r⟩
          | j + 2, hz, hb => simp [ρ'] at hb }
      refine brick_step (c := c') (ρ := ρ') P hK (by omega) hbs 0 hg hl F' (Ev.name 1 rfl rfl) ((F.ok.isFn hf).g0.ext (freeAt_from x0₃ n0)) (av := av) (.inl (.inl (.inr hOa))) hav₃ plA₃ rsA₃ fun t g₄ t₄ us₄ x₄ plA₄ rsA₄ => ?_
      have hys := (rs av g).length
      rw [iI_length, List.length_map, List.length_range] at hys
      have pl₄ : g₄.PlainList Dd ys.toArray := by
        obtain ⟨m, e⟩ := pl₃
        exact ⟨m, x₄ _ _ (Ne.symm haD) e⟩
      refine wpAny_list_append_plain pl₄ (fun g₅ pl₅ hs₅ => ?_) (by
        have e : ys.toArray.size = i := by simp [hys]
        rw [e]; exact sz_line (by omega))
      have nD : ∀ {b : Addr} {o : Obj}, b ≠ Dd → g₄.get? b = some o → g₅.get? b = some o := fun {b o} n e => hs₅.extBut b o n e
      refine ⟨N + 1 - (i + 1), by omega, g₅, t₄, i + 1, ys ++ [.int (brick bs (k + i) K) t], us₄, m₃, rfl, hlt, rfl, it.turns.frame _ _ _ st₃ fun b hb o e => nD (fun q => hDf (q ▸ hb)) (x₄ b o (fun q => haf (q ▸ hb)) e), ?_, by simpa using pl₅, fun av g => ?_, ?_, ?_, fun b o hb na e => nD (fun q => by rw [q, hDn] at e; cases e) (x₄ b o na (kp₃ b o hb na e))⟩
      · refine (hn₃.at' fun o e => ?_)
        exact nD (Ne.symm hDC') (x₄ C o (Ne.symm haC) e)
      · rw [List.range_succ, List.map_append]
        have := (rs av g).append (Reps.cons (Rep.int (W := c.W) (av := av) (h := g) (brick bs (k + i) K) t) .nil)
        simpa [iI] using this
      · obtain ⟨m, e⟩ := plA₄
        exact ⟨m, nD haD e⟩
      · exact rsA₄.mono (fun b o its m na hd e => nD (fun q => na (.inl (.inr q))) e) fun _ _ q => q
    · have hin : i = N := by omega
      subst hin
      rw [← hN] at hst
      refine it.turns.done _ _ _ hst fun g₁ t₁ hk₁ => ?_
      have xb₁ : ExtBut a s.heap g₁ := fun b o na e => hk₁ b o (fun hb => by rw [it.new b hb] at e; cases e) (kp b o (fun hb => by rw [it.new b hb] at e; cases e) na (y b o e))
      have pl₁ : g₁.PlainList Dd ys.toArray := by
        obtain ⟨m, e⟩ := pl
        exact ⟨m, hk₁ _ _ hDw e⟩
      have plA₁ : g₁.PlainList a us.toArray := by
        obtain ⟨m, e⟩ := plA
        exact ⟨m, hk₁ _ _ haw e⟩
      exact hRR Dd C g₁ t₁ ys us m' xb₁ (back hDn) (back hCn) hDC' (hn.at' fun o e => hk₁ C o hCw e) pl₁ rs plA₁ (rsA.mono (fun b o its m na hd e => hk₁ b o (fun hb => na (.inr hb)) e) fun b _ q => .inl q)
  exact codeAny_compStart_list loop (it.self 0 _ _ _ (it.turns.frame _ _ _ it.st fun b _ o e => old b o e) loop)
end Mine
end
section
open PySem PySem.W PyProof.Rows PySem.Calls
set_option maxRecDepth 10000
set_option maxHeartbeats 2000000
namespace Mine
variable {c : Cx} {ρ : Loc}
theorem X.brickComp (P : Prg c.W) {a : Addr} {k K : Nat} (n kz N : Nat) {bs : List Int} {x z : Str} {p np cp kp' pos0 znp spos : Pos} {kk : Nat} {iter : Expr} {tidy : Bool} {dss : List (List D)} {scope : Scope} {cl : List (Str × Addr)} (gs : List Str) {pos : Pos} {rest : List Stmt} {Φ : Out → Prop}
    (hK : 0 < K) (hkN : k + N ≤ 1000) (hbs : bs.length ≤ 1000) (hit : EvIt c ρ (.Name x p) iter true tidy dss) (hN : dss.length = N) (h1 : ∀ (i : Nat) ds, dss[i]? = some ds → ds.length = 1) (KO : KOk c ρ scope cl [x] gs [] [])
    (hc2 : cl.lookup ("crate" : Str) = c.env.cells.lookup ("crate" : Str))
    (h : ∀ Dd, Ex c ((ρ.set n (some (.own a (crD bs (k + N))))).set kz (some (.own Dd (iI ((List.range N).map fun i => brick bs (k + i) K))))) rest Φ)
    (hbn : ρ[n]? = some (some (.own a (crD bs k))) := by rfl) (hl : 1 ≤ c.lvl := by exact Nat.le_of_ble_eq_true rfl) (hks : c.ks[n]? = some ("crate" : Str) := by rfl) (hxc : x ≠ ("crate" : Str) := by decide) (hg : gs[0]? = some ("_law_brick" : Str) := by rfl)
    (hc1 : (relabel scope c.env).names.lookup ("crate" : Str) = some .cell := by rfl) (hc3 : c.env.kindOf ("crate" : Str) = some .cell := by rfl)
    (hkz : c.ks[kz]? = some z := by rfl) (hlz : (ρ[kz]?).isSome = true := by rfl) (hksl : Nat.ble c.ks.length ρ.length = true := by rfl)
    (hsw : swapsWith (.ListComp (.Call (.Name "_law_brick" np) [.Name "crate" cp, .Constant (.int (K : Int)) kk kp'] [] pos0) [⟨.Name x p, iter, [], 0⟩] scope pos) (some (.Name z znp)) spos.line c.env = pure true := by rfl)
    (hs : ∀ x, foldedSetIterable iter c.env x = pure x := by intro _; rfl) :
    Ex c ρ (.Assign [.Name z znp] (.ListComp (.Call (.Name "_law_brick" np) [.Name "crate" cp, .Constant (.int (K : Int)) kk kp'] [] pos0) [⟨.Name x p, iter, [], 0⟩] scope pos) spos :: rest) Φ := by
  have hlz := lt_of_some hlz
  have hksl := Nat.le_of_ble_eq_true hksl
  have hnl := lt_of_some (by rw [hbn]; rfl : (ρ[n]?).isSome = true)
  refine Ex.cons fun s Q E hf F hQ => ?_
  generalize hO : iI ((List.range N).map fun i => brick bs (k + i) K) = outs at *
  rw [exec_Assign_Name_used _ _ _ _ hsw]
  refine wpAny_bind (wpAny_standAt (wpAny_bind ?_))
  show wpAny _ _ (do let _ ← comprehension (.ListComp (.Call (.Name "_law_brick" np) [.Name "crate" cp, .Constant (.int (K : Int)) kk kp'] [] pos0) [⟨.Name x p, iter, [], 0⟩] scope pos) scope c.env _ (newList []) false (eval iter c.env) (some (PySem.assign (.Name z znp) c.env))) _ _ s
  refine wpAny_bind (wpAny_mono (wpAny_comprehension_free (Q := fun _ s' => Q .next s') (use := some (PySem.assign (.Name z znp) c.env)) rfl hs KO.clos KO.kind KO.names (comp_brick P hf F hK hkN hbs hl hks hbn KO hxc hg hc1 hc2 hc3 hit hN h1 fun Dd C h' tk ys us m xb hD hC hne hn pl rs plA rsA => ?_)) (fun _ s' hq => wpAny_pure (wpAny_pure hq)) fun _ _ e => e)
  rw [hO] at rs
  obtain ⟨its, n1, eA⟩ := (F.own0 n a _ hbn).2.2
  have hOa : Own ρ a := ⟨n, _, hbn⟩
  have haD : a ≠ Dd := fun q => by rw [q, hD] at eA; cases eA
  have haC : a ≠ C := fun q => by rw [q, hC] at eA; cases eA
  obtain ⟨m2, eA'⟩ := id plA
  let g0 := putAt h' a { cls := .type "list", data := .seq its n1 }
  have x0 : Ext s.heap g0 := fun b o e => by
    by_cases q : b = a
    · subst q
      rw [eA] at e; cases e
      exact putAt_eq eA eA'
    · exact (putAt_ne h' _ q).trans (xb b o q e)
  have pl0 : g0.PlainList Dd ys.toArray := by
    obtain ⟨m3, e⟩ := pl
    exact ⟨m3, (putAt_ne h' _ (Ne.symm haD)).trans e⟩
  have Fs := F.slot hksl x0 hD pl0 (ds := outs)
  have hbn' : (ρ ++ [some (B.own Dd outs)])[n]? = some (some (.own a (crD bs k))) := by rw [List.getElem?_append_left hnl]; exact hbn
  have M := FS.mutate2 hf Fs hbn' (fun b o q e => (putAt_ne h' _ q).symm.trans e : ExtBut a g0 h') plA (reps_slot rsA)
  have F1 := M.1
  rw [List.set_append_left _ _ hnl] at F1
  generalize hρA : ρ.set n (some (B.own a (crD bs (k + N)))) = ρA at *
  have lA : ρA.length = ρ.length := by rw [← hρA, List.length_set]
  have ownA : ∀ {b}, Own ρA b → Own ρ b := fun {b} o => by rw [← hρA] at o; exact own_set_same hbn o
  refine wpAny_assign_Name (store_o hf F1 hkz (by omega) pl (rs _ _) fun h₃ tk₃ F₃ pr₃ => ?_)
  have hLC : c.env.locals ≠ C := fun q => by
    obtain ⟨m', o, _, _, e, _⟩ := F.ns
    rw [q, hC] at e; cases e
  have nC : ¬ Priv c (ρA ++ [some (.own Dd outs)]) C := by
    rintro (q | ⟨nn, q⟩ | q)
    · exact hLC q.symm
    · obtain ⟨v, o, e, _⟩ := F.cells hf nn C q
      rw [hC] at e; cases e
    · rcases own_slot q with q | q
      · obtain ⟨k', ds, q⟩ := ownA q
        obtain ⟨_, _, its, nn, e⟩ := F.own0 k' C ds q
        rw [hC] at e; cases e
      · exact hne q.symm
  have hn₃ : h₃.Ns C m := hn.at' fun o e => pr₃ C o e nC
  refine ⟨m, hn₃, fun h₄ hs₄ => ?_⟩
  have hk₄ : ∀ b o, b ∉ [C] → h₃.get? b = some o → h₄.get? b = some o := fun b o hb e => hs₄.extBut b o (fun q => hb (by rw [q]; exact .head _)) e
  have h0 : ∀ b ∈ [C], c.h₀.get? b = none := fun b hb => by
    rw [List.mem_singleton.mp hb]
    cases e : c.h₀.get? C with
    | none => rfl
    | some o => have := F.keep hf C o e; rw [hC] at this; cases this
  have nC' : ¬ Priv c (ρA.set kz (some (.own Dd outs))) C := by
    rintro (q | ⟨nn, q⟩ | q)
    · exact hLC q.symm
    · exact nC (.inr (.inl ⟨nn, q⟩))
    · rcases own_set_o q with q | q
      · exact nC (.inr (.inr (own_slot_of q)))
      · exact hne q.symm
  have F₄ : FS c (ρA.set kz (some (.own Dd outs))) h₄ := F₃.but hf hk₄ (fun b hb => by rw [List.mem_singleton.mp hb]; exact nC') h0 fun b hb o e its n hd => by
    rw [List.mem_singleton.mp hb] at e
    obtain ⟨o', es, ep, e', hd', _⟩ := hn₃
    rw [e'] at e; cases e; rw [hd'] at hd; cases hd
  have P1 : Pres c ρ s.heap h₃ := fun b o e np => pr₃ b o (xb b o (fun q => np (.inr (.inr (q ▸ hOa)))) e) (by
    rintro (q | q | q)
    · exact np (.inl q)
    · exact np (.inr (.inl q))
    · rcases own_slot q with q | q
      · exact np (.inr (.inr (ownA q)))
      · rw [q, hD] at e; cases e)
  exact hQ .next (.next _) h₄ tk₃ (h Dd) (fun b o e np => hk₄ b o (fun hb => by rw [List.mem_singleton.mp hb, hC] at e; cases e) (P1 b o e np)) ⟨rfl, F₄, fun b o => by
    rcases own_set_o o with q | q
    · exact .inl (ownA q)
    · rw [q]; exact .inr hD⟩
/-- a part of the list that was handed in -/
theorem EvO.arg (k : Nat) {x : Str} {np p pos : Pos} {e : Expr} {l : Addr} {vs : List Value} {ns : List Int} {i : Nat} (hf : c.fn = true) (hk : c.ks[k]? = some x) (hb : ρ[k]? = some (some (.p (.pin l)))) (hL : c.h₀.IsList l vs.toArray) (hI : IntsAre vs ns) (hz : vs.length ≤ 100000) (h2 : Ev c ρ e (.int (i : Int)))
    (ht : ∀ o r, letTemporaryGo (.Name x np) o r = pure () := by intro _ _; rfl) : EvO c ρ (.Subscript (.Name x np) (.Slice none (some e) none p) pos) (iI (ns.take i)) := by
  intro s Q E F h
  refine wpAny_Subscript_list_slice (Ev.name k hk hb s _ _ F fun v g t x₁ r => part_none _ _ _ (F.ext x₁) fun vl g₂ t₂ x₂ pl₂ => part_int h2 _ _ _ ((F.ext x₁).ext x₂) fun vu g₃ t₃ x₃ pl₃ => ?_) ht
  cases r
  have xx : Ext c.h₀ g₃ := (F.keep hf).trans (x₁.trans (x₂.trans x₃))
  have p' : g₃.IsList l vs.toArray := by
    obtain ⟨o, e, r⟩ := hL
    exact ⟨o, xx _ _ e, r⟩
  refine ⟨l, vs.toArray, none, some (i : Int), rfl, p', sz_line (by simpa using hz), pl₂, pl₃, ?_⟩
  have e : slicePick vs.toArray none (some (i : Int)) none = (vs.take i).toArray := by rw [slicePick_upto']
  rw [e]
  let gs := g₃.push { cls := .type "slice", data := .fields #[vl, vu, .none] }
  have hs : gs.objs.size = g₃.objs.size + 1 := Heap.size_push ..
  have x₄ : Ext s.heap gs := (x₁.trans (x₂.trans x₃)).trans (Ext.push _ _)
  have reps : ∀ {W : Wd} {av : Addr → Prop} {h : Heap} {vs : List Value} {ns : List Int}, IntsAre vs ns → Reps W av h vs (iI ns) := fun {W av h vs ns} hI => by
    induction hI with
    | nil => exact .nil
    | cons n t _ ih => exact .cons (.int _ _) ih
  have rr : ∀ {av : Addr → Prop} {h : Heap}, Reps c.W av h (vs.take i) (iI (ns.take i)) := fun {av h} => by
    have := (reps (W := c.W) (av := av) (h := h) hI).take i
    simpa [iI] using this
  have q := h gs.objs.size (vs.take i) (gs.push { cls := .type "list", data := .seq (vs.take i).toArray }) t₃ (x₄.trans (Ext.push _ _)) (fresh_of x₄) (push_plain _ _) rr
  rw [hs] at q
  exact q
end Mine
end
section
open PySem PySem.W PyProof.Rows PySem.Calls
set_option maxRecDepth 10000
set_option maxHeartbeats 4000000
namespace Mine
variable {W : Wd}
noncomputable def pfAt (size bound i : Nat) : Nat := bound - bound % size + 1 + size * i
noncomputable def pfOk (size bound t : Nat) : Bool := decide (bound < pfAt size bound t) && sp (pfAt size bound t) && (List.range t).all fun i => decide (pfAt size bound i ≤ bound) || !(sp (pfAt size bound i))
theorem pf_call (P : Prg W) {size bound t : Nat} (hs : 0 < size) (h : pfOk size bound t = true) (hp : pfAt size bound t ≤ 10000) : CallOK W 2 "prime_for" [.int (size : Int), .int (bound : Int)] (.int ((pfAt size bound t : Nat) : Int)) := by
  unfold pfOk at h
  simp only [Bool.and_eq_true, decide_eq_true_eq, List.all_eq_true, List.mem_range, Bool.or_eq_true, Bool.not_eq_true'] at h
  exact prime_for_ok P hs rfl hp h.1.1 h.1.2 fun i hi => h.2 i hi
noncomputable def rootOk (size p t : Nat) : Bool := decide (1 < p ∧ p ≤ 10000 ∧ 1 < size ∧ size ≤ 10000 ∧ (p - 1) % size = 0 ∧ t ≤ 1000 ∧ (∀ i, i < t → ((2 + i : Nat) : Int) ^ ((p - 1) / 2) % (p : Int) ≠ (p : Int) - 1) ∧ ((2 + t : Nat) : Int) ^ ((p - 1) / 2) % (p : Int) = (p : Int) - 1)
noncomputable def rootAt (size p t : Nat) : Int := ((2 + t : Nat) : Int) ^ ((p - 1) / size) % (p : Int)
theorem root_call (P : Prg W) {size p t : Nat} (h : rootOk size p t = true) : CallOK W 2 "root_of_unity" [.int (size : Int), .int (p : Int)] (.int (rootAt size p t)) := by
  obtain ⟨h1, h2, h3, h4, h5, h6, h7, h8⟩ := of_decide_eq_true h
  exact root_of_unity_ok P h1 h2 h3 h4 h5 h6 h7 h8 rfl
theorem sg_due2 (s a0 a1 b0 b1 : Int) : sgB s 2 [a0, a1] [b0, b1] 2 (List.replicate 2 0) = due2 s b0 b1 a0 a1 := by
  have e : sgB s 2 [a0, a1] [b0, b1] 2 (List.replicate 2 0) = [0 + a0 * b0 + s * a1 * b1, 0 + a0 * b1 + a1 * b0] := rfl
  rw [e, due2]
  congr 1
  · grind
  congr 1
  grind
theorem sg_row0 (s x b0 b1 b2 b3 f0 f1 f2 f3 : Int) : sgA s 4 x 0 [b0, b1, b2, b3] 4 [f0, f1, f2, f3] = [f0 + x * b0, f1 + x * b1, f2 + x * b2, f3 + x * b3] := rfl
theorem sg_row1 (s x b0 b1 b2 b3 f0 f1 f2 f3 : Int) : sgA s 4 x 1 [b0, b1, b2, b3] 4 [f0, f1, f2, f3] = [f0 + s * x * b3, f1 + x * b0, f2 + x * b1, f3 + x * b2] := rfl
theorem sg_row2 (s x b0 b1 b2 b3 f0 f1 f2 f3 : Int) : sgA s 4 x 2 [b0, b1, b2, b3] 4 [f0, f1, f2, f3] = [f0 + s * x * b2, f1 + s * x * b3, f2 + x * b0, f3 + x * b1] := rfl
theorem sg_row3 (s x b0 b1 b2 b3 f0 f1 f2 f3 : Int) : sgA s 4 x 3 [b0, b1, b2, b3] 4 [f0, f1, f2, f3] = [f0 + s * x * b1, f1 + s * x * b2, f2 + s * x * b3, f3 + x * b0] := rfl
theorem sg_due4 (s a0 a1 a2 a3 b0 b1 b2 b3 : Int) : sgB s 4 [a0, a1, a2, a3] [b0, b1, b2, b3] 4 (List.replicate 4 0) = due4 s b0 b1 b2 b3 a0 a1 a2 a3 := by
  show sgA s 4 a3 3 [b0, b1, b2, b3] 4 (sgA s 4 a2 2 [b0, b1, b2, b3] 4 (sgA s 4 a1 1 [b0, b1, b2, b3] 4 (sgA s 4 a0 0 [b0, b1, b2, b3] 4 [0, 0, 0, 0]))) = _
  rw [sg_row0, sg_row1, sg_row2, sg_row3, due4]
  congr 1
  · grind
  congr 1
  · grind
  congr 1
  · grind
  congr 1
  grind
/-- all that the prime gives -/
structure Tab (W : Wd) (m bound p : Nat) (r r2 T S : Int) : Prop where
  lo : 2 ≤ p
  hi : p ≤ 10000
  rs : r.natAbs ≤ 10000
  pf : CallOK W 2 "prime_for" [.int ((2 * m : Nat) : Int), .int (bound : Int)] (.int (p : Int))
  r1 : CallOK W 2 "root_of_unity" [.int (m : Int), .int (p : Int)] (.int r)
  rr2 : CallOK W 2 "root_of_unity" [.int ((2 * m : Nat) : Int), .int (p : Int)] (.int r2)
  hT : r ^ (m - 1) % (p : Int) = T
  hS : (m : Int) ^ (p - 2) % (p : Int) = S
  plus : ∀ a b : List Int, a.length = m → b.length = m → pL p (cvp p r T S b a) = pL p (sgB 1 m a b m (List.replicate m 0))
  minus : ∀ a b : List Int, a.length = m → b.length = m → pL p (unp p r2 (cvp p r T S (wtp p r2 b) (wtp p r2 a))) = pL p (sgB (-1) m a b m (List.replicate m 0))
theorem two_of {l : List Int} (h : l.length = 2) : ∃ a b, l = [a, b] := by
  match l, h with
  | [a, b], _ => exact ⟨a, b, rfl⟩
theorem four_of {l : List Int} (h : l.length = 4) : ∃ a b c d, l = [a, b, c, d] := by
  match l, h with
  | [a, b, c, d], _ => exact ⟨a, b, c, d, rfl⟩

noncomputable def tOf (m p t1 : Nat) : Int := rootAt m p t1 ^ (m - 1) % (p : Int)
noncomputable def sOf (m p : Nat) : Int := (m : Int) ^ (p - 2) % (p : Int)
noncomputable def tabOk (m : Nat) (ok : Nat → Int → Int → Int → Bool) (tw : Int → (Nat → Int) → (Nat → Int) → Bool) (bound p t t1 t2 : Nat) : Bool :=
  pfAt (2 * m) bound t == p && (pfOk (2 * m) bound t && (rootOk m p t1 && (rootOk (2 * m) p t2 && (ok p (rootAt m p t1) (tOf m p t1) (sOf m p) && (tw (p : Int) (wp p (rootAt (2 * m) p t2)) (φp p (rootAt (2 * m) p t2)) &&
    decide (2 ≤ p ∧ p ≤ 10000 ∧ (rootAt m p t1).natAbs ≤ 10000))))))
theorem tab_of (P : Prg W) {m bound p t t1 t2 : Nat} {ok : Nat → Int → Int → Int → Bool} {tw : Int → (Nat → Int) → (Nat → Int) → Bool} (hm : 0 < 2 * m) (h : tabOk m ok tw bound p t t1 t2 = true)
    (hp : ∀ r T S, ok p r T S = true → ∀ a b : List Int, a.length = m → b.length = m → pL p (cvp p r T S b a) = pL p (sgB 1 m a b m (List.replicate m 0)))
    (hq : ∀ r T S r2, ok p r T S = true → tw (p : Int) (wp p r2) (φp p r2) = true → ∀ a b : List Int, a.length = m → b.length = m → pL p (unp p r2 (cvp p r T S (wtp p r2 b) (wtp p r2 a))) = pL p (sgB (-1) m a b m (List.replicate m 0))) :
    ∃ p r r2 T S, Tab W m bound p r r2 T S := by
  unfold tabOk at h
  simp only [Bool.and_eq_true, decide_eq_true_eq, beq_iff_eq] at h
  obtain ⟨e, h1, h2, h3, h4, h5, h6, h7, h8⟩ := h
  exact ⟨p, _, _, _, _, h6, h7, h8, e ▸ pf_call P hm h1 (e ▸ h7), root_call P h2, root_call P h3, rfl, rfl, hp _ _ _ h4, hq _ _ _ _ h4 h5⟩
theorem primes_2 : ∀ bound, bound < 60 → ∃ t, t < 4 ∧ ∃ t1, t1 < 2 ∧ ∃ t2, t2 < 2 ∧ tabOk 2 okp2 two2 bound (pfAt 4 bound t) t t1 t2 = true := by decide +kernel
theorem primes_4 : ∀ bound, bound < 60 → ∃ t, t < 5 ∧ ∃ t1, t1 < 4 ∧ ∃ t2, t2 < 4 ∧ tabOk 4 okp4 two4 bound (pfAt 8 bound t) t t1 t2 = true := by decide +kernel
theorem tab_2 (P : Prg W) {bound : Nat} (h : bound < 60) : ∃ p r r2 T S, Tab W 2 bound p r r2 T S := by
  obtain ⟨t, _, t1, _, t2, _, h⟩ := primes_2 bound h
  refine tab_of P (by decide) h (fun r T S h a b ha hb => ?_) fun r T S r2 h h' a b ha hb => ?_
  · rw [list2 ha, list2 hb, sg_due2]
    exact pL_of (cvp_2 h ..)
  · rw [list2 ha, list2 hb, sg_due2]
    exact pL_of (cvt_2 h h' ..)
theorem tab_4 (P : Prg W) {bound : Nat} (h : bound < 60) : ∃ p r r2 T S, Tab W 4 bound p r r2 T S := by
  obtain ⟨t, _, t1, _, t2, _, h⟩ := primes_4 bound h
  refine tab_of P (by decide) h (fun r T S h a b ha hb => ?_) fun r T S r2 h h' a b ha hb => ?_
  · rw [list4 ha, list4 hb, sg_due4]
    exact pL_of (cvp_4 h ..)
  · rw [list4 ha, list4 hb, sg_due4]
    exact pL_of (cvt_4 h h' ..)
end Mine
end
section
open PySem PySem.W PyProof.Rows PySem.Calls
set_option maxRecDepth 10000
set_option maxHeartbeats 4000000
namespace Mine
variable {W : Wd}
noncomputable def cI (l : List Nat) : List Int := l.map fun (d : Nat) => (d : Int)
theorem iL_cI (l : List Nat) : iL l = iI (cI l) := by simp [iL, iI, cI]
theorem law_is_tooms_ok (P : Prg W) {w m : Nat} {a b : List Nat} (hw8 : 8 ≤ w) (hw9 : w ≤ 9) (hm : m = 2 ∨ m = 4) (ha : a.length = m) (hb : b.length = m) (ha7 : ∀ i, a.getD i 0 ≤ 7) (hb7 : ∀ i, b.getD i 0 ≤ 7) :
    CallOK W 9 "_law_is_tooms" [.list (iL a), .list (iL b), .list [.list (iI (sgB 1 m (cI a) (cI b) m (List.replicate m 0))), .list (iI (sgB (-1) m (cI a) (cI b) m (List.replicate m 0)))], .int (w : Int)] (.bool true) := by
  have hsa := strip_len a
  have hsb := strip_len b
  have ht := toom4_ok P (w := w) (by omega) (by omega) (la := strip a) (lb := strip b) hw8 hw9 (by omega) (by omega) (fun i => by rw [strip_getD]; exact ha7 i) (fun i => by rw [strip_getD]; exact hb7 i)
  simp only [strip_getD] at ht
  obtain ⟨mx, _, _, hmx, _⟩ := mul_school_ok P (w := w) (x := 0) (y := 0) (by omega) (by omega) (by decide) (by decide)
  rcases hm with rfl | rfl
  · match a, ha, b, hb with
    | [a0, a1], _, [b0, b1], _ =>
    have e : ∀ s : Int, sgB s 2 (cI [a0, a1]) (cI [b0, b1]) 2 (List.replicate 2 0) = due2 s b0 b1 a0 a1 := fun s => sg_due2 s a0 a1 b0 b1
    rw [e, e]
    refine law_is_tooms_walk P (C' := [a0 * b0, a0 * b1 + a1 * b0, a1 * b1, 0]) (Nat.le_of_ble_eq_true rfl) (Nat.le_of_ble_eq_true rfl) rfl rfl ht ⟨mx, hmx⟩ ?_ rfl rfl rfl (fun i hi => ?_) (fun i hi => ?_)
    · have e1 : pd ([a0, a1].getD 0 0) ([a0, a1].getD 1 0) ([a0, a1].getD 2 0) ([a0, a1].getD 3 0) ([b0, b1].getD 0 0) ([b0, b1].getD 1 0) ([b0, b1].getD 2 0) ([b0, b1].getD 3 0) = (([a0 * b0, a0 * b1 + a1 * b0, a1 * b1, 0] ++ [0]) ++ [0]) ++ [0] := by simp [pd]
      rw [e1, strip_snoc_zero, strip_snoc_zero, strip_snoc_zero]
    · match i, hi with
      | 0, _ => simp [due2]; grind
      | 1, _ => simp [due2]; grind
    · match i, hi with
      | 0, _ => simp [due2]; grind
      | 1, _ => simp [due2]; grind
  · match a, ha, b, hb with
    | [a0, a1, a2, a3], _, [b0, b1, b2, b3], _ =>
    have e : ∀ s : Int, sgB s 4 (cI [a0, a1, a2, a3]) (cI [b0, b1, b2, b3]) 4 (List.replicate 4 0) = due4 s b0 b1 b2 b3 a0 a1 a2 a3 := fun s => sg_due4 s a0 a1 a2 a3 b0 b1 b2 b3
    rw [e, e]
    refine law_is_tooms_walk P (C' := pd a0 a1 a2 a3 b0 b1 b2 b3 ++ [0]) (Nat.le_of_ble_eq_true rfl) (Nat.le_of_ble_eq_true rfl) rfl rfl ht ⟨mx, hmx⟩ (strip_snoc_zero _).symm rfl rfl rfl (fun i hi => ?_) (fun i hi => ?_)
    · match i, hi with
      | 0, _ => simp [due4, pd]; grind
      | 1, _ => simp [due4, pd]; grind
      | 2, _ => simp [due4, pd]; grind
      | 3, _ => simp [due4, pd]; grind
    · match i, hi with
      | 0, _ => simp [due4, pd]; grind
      | 1, _ => simp [due4, pd]; grind
      | 2, _ => simp [due4, pd]; grind
      | 3, _ => simp [due4, pd]; grind
end Mine
end
section
open PySem PySem.W PyProof.Rows PySem.Calls
set_option maxRecDepth 10000
set_option maxHeartbeats 4000000
namespace Mine
variable {W : Wd}
theorem due2_comm (s a0 a1 b0 b1 : Int) : due2 s a0 a1 b0 b1 = due2 s b0 b1 a0 a1 := by
  unfold due2
  congr 1
  · grind
  congr 1
  grind
theorem due4_comm (s a0 a1 a2 a3 b0 b1 b2 b3 : Int) : due4 s a0 a1 a2 a3 b0 b1 b2 b3 = due4 s b0 b1 b2 b3 a0 a1 a2 a3 := by
  unfold due4
  congr 1
  · grind
  congr 1
  · grind
  congr 1
  · grind
  congr 1
  grind
theorem qcv {w n mm : Nat} (hn : n = 4 ∨ n = 8 ∨ n = 12 ∨ n = 16) (hmm : mm = 2 ∨ mm = 4) {a b : List Int} (ha : a.length = mm) (hb : b.length = mm) : qL w n (cv n a b) = qL w n (sgB 1 mm a b mm (List.replicate mm 0)) ∧ qL w n (cvm n a b) = qL w n (sgB (-1) mm a b mm (List.replicate mm 0)) := by
  rcases hmm with rfl | rfl
  · obtain ⟨a0, a1, rfl⟩ := two_of ha
    obtain ⟨b0, b1, rfl⟩ := two_of hb
    rw [sg_due2, sg_due2, due2_comm 1 b0, due2_comm (-1) b0]
    exact ⟨qcv_2 hn .., qcvm_2 hn ..⟩
  · obtain ⟨a0, a1, a2, a3, rfl⟩ := four_of ha
    obtain ⟨b0, b1, b2, b3, rfl⟩ := four_of hb
    rw [sg_due4, sg_due4, due4_comm 1 b0, due4_comm (-1) b0]
    exact ⟨qcv_4 hn .., qcvm_4 hn ..⟩
theorem okD_qL (w n : Nat) (l : List Int) : okD 3 (.list (qL w n l)) = true := okD_list fun d hd => by
  obtain ⟨i, _, rfl⟩ := List.mem_map.mp hd
  exact okD_iL 1 _
theorem Q_small {w n z : Nat} (hn : 4 ≤ n) (hz : z ≤ 7) : Q w n (z : Int) = R (2 ^ w) z := by
  unfold Q
  have : 2 ^ 4 ≤ 2 ^ n := Nat.pow_le_pow_right (by omega) hn
  rw [rd_nat (by omega)]
end Mine
end
section
open PySem PySem.W PyProof.Rows PySem.Calls
set_option maxRecDepth 10000
set_option maxHeartbeats 4000000
namespace Mine
variable {W : Wd}
noncomputable abbrev lawC (W : Wd) (A : Around) (m : FnData) (L ad : Addr) (h₀ : Heap) (av : Addr → Prop) : Cx :=
  mkC W (stm 78) "law" ["script", "crate", "many", "kind", "n", "w", "bound", "one", "other", "due", "p", "rows", "led"] ["_law_brick", "range", "_law_single", "prime_for", "convolve", "convolve_turned", "convolved", "mul_school", "convolved_minus", "_law_is_tooms"] 20 A m L ad h₀ av
theorem okD_pL (n p : Nat) (l : List Int) : okD (n + 1) (.list (pL p l)) = true := okD_list fun d hd => by
  obtain ⟨i, _, rfl⟩ := List.mem_map.mp hd; exact okD_int ..
theorem cI_length (l : List Nat) : (cI l).length = l.length := by simp [cI]
theorem cI_getD (l : List Nat) (i : Nat) : (cI l).getD i 0 = ((l.getD i 0 : Nat) : Int) := by
  unfold cI
  rw [List.getD_eq_getElem?_getD, List.getD_eq_getElem?_getD, List.getElem?_map]
  cases l[i]? <;> rfl
theorem law_tail (P : Prg W) {A : Around} {m : FnData} {L ad l acr a1 a2 : Addr} {h₀ : Heap} {av : Addr → Prop} {mm n w bound kind : Nat} (hmm : mm = 2 ∨ mm = 4) (hn : n = 4 ∨ n = 8 ∨ n = 12 ∨ n = 16) (hw : 8 ≤ w ∧ w ≤ 9) (hbd : bound < 60) (hk : kind < 2) {a b : List Nat} {cr : List D}
    (ha : a.length = mm) (hb : b.length = mm) (ha7 : ∀ i, a.getD i 0 ≤ 7) (hb7 : ∀ i, b.getD i 0 ≤ 7) :
    Ex (lawC W A m L ad h₀ av) [some (.p (.pin l)), some (.own acr cr), some (.p (.int (mm : Int))), some (.p (.int (kind : Int))), some (.p (.int (n : Int))), some (.p (.int (w : Int))), some (.p (.int (bound : Int))), some (.own a1 (iI (cI a))), some (.own a2 (iI (cI b))), none, none, none, none] ((bodyOf (stm 78)).drop 5) fun o => o = .ret (.bool true) := by
  have tab : ∃ p r r2 T S, Tab W mm bound p r r2 T S := by
    rcases hmm with rfl | rfl
    · exact tab_2 P hbd
    · exact tab_4 P hbd
  obtain ⟨p, r, r2, T, S, tb⟩ := tab
  have la := cI_length a
  have lb := cI_length b
  have sa : ∀ i, ((cI a).getD i 0).natAbs ≤ 10000 := fun i => by rw [cI_getD]; have := ha7 i; omega
  have sb : ∀ i, ((cI b).getD i 0).natAbs ≤ 10000 := fun i => by rw [cI_getD]; have := hb7 i; omega
  have hs1 := law_single_ok P (a := cI a) (b := cI b) (s := 1) (by omega) (by omega) (fun i => by have := sa i; omega) (by decide)
  have hs2 := law_single_ok P (a := cI a) (b := cI b) (s := -1) (by omega) (by omega) (fun i => by have := sa i; omega) (by decide)
  rw [la, ha] at hs1 hs2
  have hc := convolve_ok P tb.lo tb.hi tb.rs (T := T) (S := S) (RM.iI p (cI b)) (RM.iI p (cI a)) (by omega) (by omega) (by rw [lb, hb]; exact tb.r1) (by rw [lb, hb]; exact tb.hT) (by rw [lb, hb]; exact tb.hS)
  have ht := convolve_turned_ok P tb.lo tb.hi tb.rs (r2 := r2) (T := T) (S := S) (x := cI b) (y := cI a) rfl rfl sb sa (by omega) (by omega) (by rw [lb, hb]; exact tb.r1) (by rw [lb, hb]; exact tb.rr2) (by rw [lb, hb]; exact tb.hT) (by rw [lb, hb]; exact tb.hS)
  rw [lb, hb, tb.plus (cI a) (cI b) (by omega) (by omega)] at hc
  rw [lb, hb, tb.minus (cI a) (cI b) (by omega) (by omega)] at ht
  have htm := law_is_tooms_ok P (w := w) hw.1 hw.2 hmm ha hb ha7 hb7
  have hplo := tb.lo
  have hphi := tb.hi
  refine Ex.free 7 rfl ?_
  dsimp only [List.set]
  refine Ex.free 8 rfl ?_
  dsimp only [List.set]
  refine X.set 9 (EvO.ev (EvO.disp (EvL.cons (Ev.callG 2 rfl (EvL.cons (Ev.name 7 rfl rfl) (EvL.cons (Ev.name 8 rfl rfl) (EvL.cons Ev.int EvL.nil))) hs1 (Nat.le_of_ble_eq_true rfl)) (EvL.cons (Ev.callG 2 rfl (EvL.cons (Ev.name 7 rfl rfl) (EvL.cons (Ev.name 8 rfl rfl) (EvL.cons ((Ev.binop Ev.int Ev.int op_sub).to (congrArg D.int (by decide : (0 : Int) - 1 = -1))) EvL.nil))) hs2 (Nat.le_of_ble_eq_true rfl)) EvL.nil)))) ?_
  dsimp only [List.set]
  refine X.set 10 (Ev.callG 3 rfl (EvL.cons ((Ev.binop Ev.int (Ev.name 2 rfl rfl) (op_mul (.inl (by decide)))).to (congrArg D.int (show 2 * (mm : Int) = ((2 * mm : Nat) : Int) by omega))) (EvL.cons (Ev.name 6 rfl rfl) EvL.nil)) tb.pf (Nat.le_of_ble_eq_true rfl)) ?_
  dsimp only [List.set]
  have ls1 : (sgB 1 mm (cI a) (cI b) mm (List.replicate mm 0)).length = mm := by rw [sgB_length, List.length_replicate]
  have ls2 : (sgB (-1) mm (cI a) (cI b) mm (List.replicate mm 0)).length = mm := by rw [sgB_length, List.length_replicate]
  generalize hd1 : sgB 1 mm (cI a) (cI b) mm (List.replicate mm 0) = due1 at *
  generalize hd2 : sgB (-1) mm (cI a) (cI b) mm (List.replicate mm 0) = due2' at *
  refine X.no (EvT.cmp (Ev.callG 4 rfl (EvL.cons (Ev.name 8 rfl rfl) (EvL.cons (Ev.name 7 rfl rfl) (EvL.cons (Ev.name 2 rfl rfl) (EvL.cons (Ev.name 10 rfl rfl) EvL.nil)))) hc (Nat.le_of_ble_eq_true rfl))
    (EvO.ev (EvO.c1 "number" ["p"] [] [(10, .int (p : Int))] (outs := pL p due1) (EvIt.list (Ev.itemN (EvSeq.of (Ev.name 9 rfl rfl)) Ev.int 0 rfl (by decide) rfl) (by rw [iI_length]; omega)) (by rw [pL_length, List.length_map, iI_length]) (fun i ds d hi hd => ?_) rfl ⟨⟨rfl, rfl, rfl, rfl, rfl⟩, trivial⟩)) (cmp_ne_same (okD_pL 4 _ _))) ?_
  · obtain ⟨u, hu, rfl⟩ := sing_at hi
    obtain ⟨hil, rfl⟩ := iI_at hu
    obtain ⟨_, rfl⟩ := pL_at hd
    exact ⟨_, rfl, fun cl C av => Ev.binop (Ev.name 0 rfl rfl) (Ev.name 1 rfl rfl) (op_mod (by omega))⟩
  refine X.no (EvT.cmp (Ev.callG 5 rfl (EvL.cons (Ev.name 8 rfl rfl) (EvL.cons (Ev.name 7 rfl rfl) (EvL.cons (Ev.name 2 rfl rfl) (EvL.cons (Ev.name 10 rfl rfl) EvL.nil)))) ht (Nat.le_of_ble_eq_true rfl))
    (EvO.ev (EvO.c1 "number" ["p"] [] [(10, .int (p : Int))] (outs := pL p due2') (EvIt.list (Ev.itemN (EvSeq.of (Ev.name 9 rfl rfl)) Ev.int 1 rfl (by decide) rfl) (by rw [iI_length]; omega)) (by rw [pL_length, List.length_map, iI_length]) (fun i ds d hi hd => ?_) rfl ⟨⟨rfl, rfl, rfl, rfl, rfl⟩, trivial⟩)) (cmp_ne_same (okD_pL 4 _ _))) ?_
  · obtain ⟨u, hu, rfl⟩ := sing_at hi
    obtain ⟨hil, rfl⟩ := iI_at hu
    obtain ⟨_, rfl⟩ := pL_at hd
    exact ⟨_, rfl, fun cl C av => Ev.binop (Ev.name 0 rfl rfl) (Ev.name 1 rfl rfl) (op_mod (by omega))⟩
  have hn16 : 4 ≤ n ∧ n ≤ 16 := by omega
  have limbs7 : ∀ z : Nat, z ≤ 7 → CallOK W 1 "_law_limbs" [.int (z : Int), .int (w : Int)] (Q w n (z : Int)) := fun z hz => by
    have e : Q w n (z : Int) = R (2 ^ w) z := by
      unfold Q
      have : 2 ^ 4 ≤ 2 ^ n := Nat.pow_le_pow_right (by omega) hn16.1
      rw [rd_nat (by omega)]
    rw [e]
    exact law_limbs_ok P (by omega) (by omega) (by omega)
  have rowOf : ∀ {c : Cx} {ρ : Loc} (x : List Nat) (_ : c = c), True := fun _ _ => trivial
  refine Ex.cons (ExS.assignComp (single := true) (xs := ["row"]) (cs := ["w"]) (gs := []) (caps := [(5, .int (w : Int))]) (outs := [.list (qL w n (cI a)), .list (qL w n (cI b))]) 11 rfl (Nat.le_of_ble_eq_true rfl) (Nat.le_of_ble_eq_true rfl) (KOk.of rfl ⟨⟨rfl, rfl, rfl, rfl, rfl⟩, trivial⟩ rfl rfl rfl rfl rfl rfl rfl) ⟨_, _, rfl, rfl⟩ (EvIt.tuple (Ev.tup (EvL.cons (Ev.name 7 rfl rfl) (EvL.cons (Ev.name 8 rfl rfl) EvL.nil))) (Nat.le_of_ble_eq_true rfl)) rfl (fun i ds d hi hd => ?_) (fun ar => ?_))
  · obtain ⟨u, hu, rfl⟩ := sing_at hi
    have key : ∃ x : List Nat, u = .list (iI (cI x)) ∧ d = .list (qL w n (cI x)) ∧ x.length = mm ∧ ∀ i, x.getD i 0 ≤ 7 := by
      match i, hu, hd with
      | 0, hu, hd => cases hu; cases hd; exact ⟨a, rfl, rfl, ha, ha7⟩
      | 1, hu, hd => cases hu; cases hd; exact ⟨b, rfl, rfl, hb, hb7⟩
      | i + 2, hu, hd => simp at hu
    obtain ⟨x, rfl, rfl, hx, hx7⟩ := key
    refine ⟨rfl, fun C av => EvO.ev (EvO.c1 "number" ["w"] ["_law_limbs"] [(1, .int (w : Int))] (outs := qL w n (cI x)) (EvIt.list (Ev.name 0 rfl rfl) (by rw [iI_length, cI_length]; omega)) (by rw [qL_length, List.length_map, iI_length]) (fun i ds d hi hd => ?_) rfl ⟨⟨rfl, rfl, rfl, rfl, rfl⟩, trivial⟩)⟩
    obtain ⟨u, hu, rfl⟩ := sing_at hi
    obtain ⟨hil, rfl⟩ := iI_at hu
    rw [qL_get hil] at hd
    cases hd
    rw [cI_getD]
    exact ⟨_, rfl, fun cl C av => Ev.callG 0 rfl (EvL.cons (Ev.name 0 rfl rfl) (EvL.cons (Ev.name 1 rfl rfl) EvL.nil)) (limbs7 _ (hx7 i)) (Nat.le_of_ble_eq_true rfl)⟩
  dsimp only [List.set, Cont]
  refine Ex.free 11 rfl ?_
  dsimp only [List.set]
  have hcv := qcv (w := w) hn hmm (a := cI a) (b := cI b) (by omega) (by omega)
  rw [hd1, hd2] at hcv
  have hled1 := convolved_ok P (w := w) (n := n) (by omega) (by omega) (by omega) hn16.2 (cI a) (cI b) (by omega) (by omega)
  have hled2 := convolved_minus_ok P (w := w) (n := n) (by omega) (by omega) (by omega) hn16.2 (cI a) (cI b) (by omega) (by omega)
  rw [hcv.1] at hled1
  rw [hcv.2] at hled2
  obtain ⟨mx, _, _, hmx, _⟩ := mul_school_ok P (w := w) (x := 0) (y := 0) (by omega) (by omega) (by decide) (by decide)
  have tail : ∀ dk : List Int, dk.length = mm → [D.list (iI due1), D.list (iI due2')][kind]? = some (.list (iI dk)) → Ex (lawC W A m L ad h₀ av) [some (.p (.pin l)), some (.own acr cr), some (.p (.int (mm : Int))), some (.p (.int (kind : Int))), some (.p (.int (n : Int))), some (.p (.int (w : Int))), some (.p (.int (bound : Int))), some (.p (.list (iI (cI a)))), some (.p (.list (iI (cI b)))), some (.p (.list [.list (iI due1), .list (iI due2')])), some (.p (.int (p : Int))), some (.p (.list [.list (qL w n (cI a)), .list (qL w n (cI b))])), some (.p (.list (qL w n dk)))] ((bodyOf (stm 78)).drop 11) fun o => o = .ret (.bool true) := fun dk hdk hkd => by
    have okq : ∀ x : List Int, okD 4 (.list (qL w n x)) = true := fun x => okD_list fun d hd => by
      obtain ⟨i, _, rfl⟩ := List.mem_map.mp hd
      exact okD_iL 2 _
    have okq5 : ∀ x : List Int, okD 5 (.list (qL w n x)) = true := fun x => okD_list fun d hd => by
      obtain ⟨i, _, rfl⟩ := List.mem_map.mp hd
      exact okD_iL 3 _
    have e2 : (2 : Int) ^ ((n : Int)).toNat + 1 = ((2 ^ n + 1 : Nat) : Int) := by rw [tw]; simp
    have hbits : ((Builtin.Int.intBits 2 : Nat) : Int) * (n : Int) ≤ 2 ^ 27 := by
      rw [show Builtin.Int.intBits 2 = 2 by decide]; omega
    have hM := M_le hn16.2
    refine X.no (EvT.cmp (Ev.name 12 rfl rfl) (EvO.ev (EvO.c1 "number" ["n", "w"] ["_law_limbs"] [(4, .int (n : Int)), (5, .int (w : Int))] (outs := qL w n dk) (EvIt.list (Ev.itemN (EvSeq.of (Ev.name 9 rfl rfl)) (Ev.name 3 rfl rfl) kind rfl (by omega) hkd) (by rw [iI_length]; omega)) (by rw [qL_length, List.length_map, iI_length]) (fun i ds d hi hd => ?_) rfl ⟨⟨rfl, rfl, rfl, rfl, rfl⟩, ⟨rfl, rfl, rfl, rfl, rfl⟩, trivial⟩)) (cmp_ne_same (okq5 _))) ?_
    · obtain ⟨u, hu, rfl⟩ := sing_at hi
      obtain ⟨hil, rfl⟩ := iI_at hu
      rw [qL_get hil] at hd
      cases hd
      have hlt := rd_lt (M := 2 ^ n + 1) (Nat.succ_pos _) (dk.getD i 0)
      refine ⟨_, rfl, fun cl C av => Ev.callG 0 rfl (EvL.cons ((Ev.binop (Ev.name 0 rfl rfl) ((Ev.binop (Ev.binop Ev.int (Ev.name 1 rfl rfl) (op_pow (by omega) hbits)) Ev.int op_add).to (congrArg D.int e2)) (op_mod (by omega))).to (congrArg D.int (rd_cast (M := 2 ^ n + 1) (Nat.succ_pos _) (dk.getD i 0)).symm)) (EvL.cons (Ev.name 2 rfl rfl) EvL.nil)) (law_limbs_ok P (by omega) (by omega) (by omega)) (Nat.le_of_ble_eq_true rfl)⟩
    refine X.no (EvT.cmp (Ev.name 11 rfl rfl) (EvO.ev (EvO.comp (single := true) (xs := ["row"]) (cs := ["w"]) (gs := []) (caps := [(5, .int (w : Int))]) (outs := [.list (qL w n (cI a)), .list (qL w n (cI b))]) (KOk.of rfl ⟨⟨rfl, rfl, rfl, rfl, rfl⟩, trivial⟩ rfl rfl rfl rfl rfl rfl rfl) ⟨_, _, rfl, rfl⟩ (EvIt.tuple (Ev.tup (EvL.cons (Ev.name 7 rfl rfl) (EvL.cons (Ev.name 8 rfl rfl) EvL.nil))) (Nat.le_of_ble_eq_true rfl)) rfl (fun i ds d hi hd => ?_))) (cmp_ne_same (okD_list fun d hd => ?_))) ?_
    · obtain ⟨u, hu, rfl⟩ := sing_at hi
      have key : ∃ x : List Nat, u = .list (iI (cI x)) ∧ d = .list (qL w n (cI x)) ∧ x.length = mm ∧ ∀ i, x.getD i 0 ≤ 7 := by
        match i, hu, hd with
        | 0, hu, hd => cases hu; cases hd; exact ⟨a, rfl, rfl, ha, ha7⟩
        | 1, hu, hd => cases hu; cases hd; exact ⟨b, rfl, rfl, hb, hb7⟩
        | i + 2, hu, hd => simp at hu
      obtain ⟨x, rfl, rfl, hx, hx7⟩ := key
      refine ⟨rfl, fun C av => EvO.ev (EvO.c1 "number" ["w"] ["_law_limbs"] [(1, .int (w : Int))] (outs := qL w n (cI x)) (EvIt.list (Ev.name 0 rfl rfl) (by rw [iI_length, cI_length]; omega)) (by rw [qL_length, List.length_map, iI_length]) (fun i ds d hi hd => ?_) rfl ⟨⟨rfl, rfl, rfl, rfl, rfl⟩, trivial⟩)⟩
      obtain ⟨u, hu, rfl⟩ := sing_at hi
      obtain ⟨hil, rfl⟩ := iI_at hu
      rw [qL_get hil] at hd
      cases hd
      rw [cI_getD]
      exact ⟨_, rfl, fun cl C av => Ev.callG 0 rfl (EvL.cons (Ev.name 0 rfl rfl) (EvL.cons (Ev.name 1 rfl rfl) EvL.nil)) (limbs7 _ (hx7 i)) (Nat.le_of_ble_eq_true rfl)⟩
    · rcases List.mem_cons.mp hd with rfl | hd
      · exact okq _
      · rw [List.mem_singleton.mp hd]; exact okq _
    rw [iL_cI, iL_cI] at htm
    exact X.ret (Ev.callG 9 rfl (EvL.cons (Ev.name 7 rfl rfl) (EvL.cons (Ev.name 8 rfl rfl) (EvL.cons (Ev.name 9 rfl rfl) (EvL.cons (Ev.name 5 rfl rfl) EvL.nil)))) htm (Nat.le_of_ble_eq_true rfl)) rfl
  refine X.if (EvT.cmp (Ev.name 3 rfl rfl) Ev.int cmp_eq) (fun h => ?_) (fun h => ?_)
  · have hk0 : kind = 0 := by have := eq_of_beq h; omega
    refine X.set 12 (Ev.callG 6 rfl (EvL.cons (Ev.itemN (EvSeq.of (Ev.name 11 rfl rfl)) Ev.int 0 rfl (by decide) rfl) (EvL.cons (Ev.itemN (EvSeq.of (Ev.name 11 rfl rfl)) Ev.int 1 rfl (by decide) rfl) (EvL.cons (Ev.name 4 rfl rfl) (EvL.cons (Ev.name 5 rfl rfl) (EvL.cons (Ev.glob 7 rfl hmx) EvL.nil))))) hled1 (Nat.le_of_ble_eq_true rfl)) (Ex.nil ?_)
    dsimp only [List.set, Cont]
    exact tail due1 ls1 (by rw [hk0]; rfl)
  · have hk1 : kind = 1 := by
      have : kind ≠ 0 := fun e => by rw [e] at h; simp at h
      omega
    refine X.set 12 (Ev.callG 8 rfl (EvL.cons (Ev.itemN (EvSeq.of (Ev.name 11 rfl rfl)) Ev.int 0 rfl (by decide) rfl) (EvL.cons (Ev.itemN (EvSeq.of (Ev.name 11 rfl rfl)) Ev.int 1 rfl (by decide) rfl) (EvL.cons (Ev.name 4 rfl rfl) (EvL.cons (Ev.name 5 rfl rfl) (EvL.cons (Ev.glob 7 rfl hmx) EvL.nil))))) hled2 (Nat.le_of_ble_eq_true rfl)) (Ex.nil ?_)
    dsimp only [List.set, Cont]
    exact tail due2' ls2 (by rw [hk1]; rfl)
end Mine
end
section
open PySem PySem.W PyProof.Rows PySem.Calls
set_option maxRecDepth 10000
set_option maxHeartbeats 4000000
namespace Mine
variable {W : Wd}
theorem brick_lt (bs : List Int) (k : Nat) {K : Nat} (h : 0 < K) : ∃ j : Nat, j < K ∧ brick bs k K = (j : Int) := by
  have hb : ∃ z : Int, brick bs k K = z % (K : Int) := by unfold brick; split <;> exact ⟨_, rfl⟩
  obtain ⟨z, hz⟩ := hb
  have h1 := Int.emod_nonneg z (show (K : Int) ≠ 0 by omega)
  have h2 := Int.emod_lt_of_pos z (show (0 : Int) < (K : Int) by omega)
  exact ⟨(z % (K : Int)).toNat, by omega, by rw [hz]; omega⟩
theorem X.tupMU {c : Cx} {ρ : Loc} (kxs : List (Nat × Str)) {rest : List Stmt} {Φ : Out → Prop} {elts es : List Expr} {tk tk' : Nat} {tpos vpos pos : Pos} {is : List Int} {ρ' : Loc} (h1 : EvMs c ρ vpos es is ρ') (hz : is.length ≤ 100) (hn : kxs.length = is.length)
    (h : Ex c (setP ρ' kxs (iI is)) rest Φ) (hk : ∀ q ∈ kxs, c.ks[q.1]? = some q.2 ∧ q.1 < ρ'.length) (hb : Binds c kxs ((assignEach elts c.env).map (·.2)))
    (hidx : (assignEach elts c.env).findIdx? (·.1) = none := by rfl) (hne : (assignEach elts c.env).length = kxs.length := by rfl)
    (hs : swapsWithSole [.Tuple elts tk tpos] (.Tuple es tk' vpos) pos.line c.env = pure false := by rfl) (hw : swappedStores [.Tuple elts tk tpos] (.Tuple es tk' vpos) c.env = pure none := by rfl) :
    Ex c ρ (.Assign [.Tuple elts tk tpos] (.Tuple es tk' vpos) pos :: rest) Φ := by
  refine Ex.cons fun s Q E hf F hQ => ?_
  refine Assign_Tuple ?_ hs hw
  refine wpAny_Tuple_spliced ?_
  refine h1 _ _ _ hf F fun vs g t p₁ F₁ o₁ rs => ?_
  have hlen := (rs (fun _ => False) g).length
  rw [iI_length] at hlen
  refine ⟨sz_line (by omega), ?_⟩
  let T := g.push { cls := .type "tuple", data := .seq vs.toArray }
  have yT : Ext g T := Ext.push _ _
  have hT : T.IsTuple g.objs.size vs.toArray := push_tup _ _
  refine wpAny_assign_Tuple (s := after s T t) F.ok.room.1 hT (by simp [hne, hn, hlen]) hidx fun h' eb => ?_
  have x' : Ext T h' := fun b o e => eb b o (Nat.ne_of_lt (Heap.lt_size e)) e
  have xx := yT.trans x'
  refine stores_p hb hf (F₁.ext xx) hk (by simpa [iI] using hn) (rs _ h') fun h'' tk' F' pr _ => ?_
  have o2 : OwnSub g ρ' (setP ρ' kxs (iI is)) := fun b o => .inl (own_setP o)
  exact hQ .next (.next _) h'' tk' h ((p₁.trans o₁ xx.pres).trans (OwnSub.trans hf F₁ p₁ o₁ (OwnSub.refl _ _)) pr) ⟨rfl, F', OwnSub.trans hf F₁ p₁ o₁ o2⟩
theorem bricks_nat (bs : List Int) (k mm : Nat) : ∃ a : List Nat, a.length = mm ∧ (∀ i, a.getD i 0 ≤ 7) ∧ ((List.range mm).map fun i => brick bs (k + i) 8) = cI a := by
  refine ⟨(List.range mm).map fun i => (brick bs (k + i) 8).toNat, by simp, fun i => ?_, ?_⟩
  · rw [List.getD_eq_getElem?_getD, List.getElem?_map]
    rcases Nat.lt_or_ge i mm with q | q
    · rw [List.getElem?_range q]
      obtain ⟨j, hj, e⟩ := brick_lt bs (k + i) (K := 8) (by decide)
      show (brick bs (k + i) 8).toNat ≤ 7
      rw [e]; omega
    · rw [List.getElem?_eq_none (by simpa using q)]; exact Nat.zero_le _
  · unfold cI
    rw [List.map_map]
    refine List.map_congr_left fun i _ => ?_
    obtain ⟨j, hj, e⟩ := brick_lt bs (k + i) (K := 8) (by decide)
    show brick bs (k + i) 8 = (((brick bs (k + i) 8).toNat : Nat) : Int)
    rw [e]; omega
theorem law_body (P : Prg W) {A : Around} {m : FnData} {L ad l : Addr} {h₀ : Heap} {av : Addr → Prop} {vs : List Value} {ns : List Int} (hL : h₀.IsList l vs.toArray) (hI : IntsAre vs ns) (hz : vs.length ≤ 100) :
    Ex (lawC W A m L ad h₀ av) [some (.p (.pin l)), none, none, none, none, none, none, none, none, none, none, none, none] (bodyOf (stm 78)) fun o => o = .ret (.bool true) := by
  have hbl : ((ns.take 13).map fun z => ((z.natAbs : Nat) : Int)).length ≤ 13 := by simp; omega
  refine X.own 1 (ds := crD ((ns.take 13).map fun z => ((z.natAbs : Nat) : Int)) 0) (EvO.disp (EvL.cons Ev.int (EvL.cons (EvO.ev (EvO.c1 "brick" [] ["abs", "int"] [] (EvIt.list (EvO.ev (EvO.arg (i := 13) 0 rfl rfl rfl hL hI (by omega) Ev.int)) (by rw [iI_length]; simp; omega)) (by simp [iI]) (fun i ds d hi hd => ?_) rfl trivial)) EvL.nil))) fun acr => ?_
  · obtain ⟨u, hu, rfl⟩ := sing_at hi
    obtain ⟨hil, rfl⟩ := iI_at hu
    obtain ⟨_, rfl⟩ := iI_at hd
    refine ⟨_, rfl, fun cl C av => (Ev.abs 0 rfl P.abs (Ev.intc 1 rfl P.int (Ev.name 0 rfl rfl))).to ?_⟩
    rw [List.getD_eq_getElem?_getD, List.getD_eq_getElem?_getD, List.getElem?_map, List.getElem?_eq_getElem hil]; rfl
  generalize ((ns.take 13).map fun z => ((z.natAbs : Nat) : Int)) = bs at *
  dsimp only [List.set]
  obtain ⟨j0, h0, e0⟩ := brick_lt bs 0 (K := 2) (by decide)
  obtain ⟨j1, h1, e1⟩ := brick_lt bs 1 (K := 2) (by decide)
  obtain ⟨j2, h2, e2⟩ := brick_lt bs 2 (K := 4) (by decide)
  obtain ⟨j3, h3, e3⟩ := brick_lt bs 3 (K := 2) (by decide)
  obtain ⟨j4, h4, e4⟩ := brick_lt bs 4 (K := 60) (by decide)
  refine X.tupM [(2, "many"), (3, "kind")] (EvMs.cons (EvM.bin (EvM.pure Ev.int) (EvM.bin (EvM.pure Ev.int) (EvM.brick (K := 2) (bs := bs) (k := 0) P 1 (by decide) (by decide) (by omega) 0 rfl (Nat.le_of_ble_eq_true rfl) rfl rfl) (op_mul (.inl (by decide)))) op_add) (EvMs.cons (EvM.brick (K := 2) (bs := bs) (k := 1) P 1 (by decide) (by decide) (by omega) 0 rfl (Nat.le_of_ble_eq_true rfl) rfl rfl) EvMs.nil)) (Nat.le_of_ble_eq_true rfl) rfl ?_ (KX.all (kxs := [(2, "many"), (3, "kind")]) ⟨⟨rfl, rfl⟩, ⟨rfl, rfl⟩, trivial⟩)
  dsimp only [setP, List.set, List.reverse, List.reverseAux, iI, List.map]
  rw [e0, e1]
  refine X.tupMU [(4, "n"), (5, "w"), (6, "bound")] (EvMs.cons (EvM.bin (EvM.pure Ev.int) (EvM.bin (EvM.pure Ev.int) (EvM.brick (K := 4) (bs := bs) (k := 2) P 1 (by decide) (by decide) (by omega) 0 rfl (Nat.le_of_ble_eq_true rfl) rfl rfl) (op_mul (.inl (by decide)))) op_add) (EvMs.cons (EvM.bin (EvM.pure Ev.int) (EvM.brick (K := 2) (bs := bs) (k := 3) P 1 (by decide) (by decide) (by omega) 0 rfl (Nat.le_of_ble_eq_true rfl) rfl rfl) op_add) (EvMs.cons (EvM.brick (K := 60) (bs := bs) (k := 4) P 1 (by decide) (by decide) (by omega) 0 rfl (Nat.le_of_ble_eq_true rfl) rfl rfl) EvMs.nil))) (Nat.le_of_ble_eq_true rfl) rfl ?_ (KX.all (kxs := [(4, "n"), (5, "w"), (6, "bound")]) ⟨⟨rfl, rfl⟩, ⟨rfl, rfl⟩, ⟨rfl, rfl⟩, trivial⟩) (.cons (fun v s Q E h => wpAny_assign_Name h) (.cons (fun v s Q E h => wpAny_assign_Name h) (.cons (fun v s Q E h => wpAny_assign_Name h) .nil)))
  dsimp only [setP, List.set, List.reverse, List.reverseAux, iI, List.map]
  rw [e2, e3, e4]
  obtain ⟨mm, hmm, em⟩ : ∃ mm : Nat, (mm = 2 ∨ mm = 4) ∧ (2 + 2 * (j0 : Int)) = (mm : Int) := ⟨2 + 2 * j0, by omega, by omega⟩
  obtain ⟨n, hn, en⟩ : ∃ n : Nat, (n = 4 ∨ n = 8 ∨ n = 12 ∨ n = 16) ∧ (4 + 4 * (j2 : Int)) = (n : Int) := ⟨4 + 4 * j2, by omega, by omega⟩
  obtain ⟨w, hw, ew⟩ : ∃ w : Nat, (8 ≤ w ∧ w ≤ 9) ∧ (8 + (j3 : Int)) = (w : Int) := ⟨8 + j3, by omega, by omega⟩
  rw [em, en, ew]
  refine X.brickComp (K := 8) (bs := bs) (k := 5) P 1 7 mm ["_law_brick"] (by decide) (by omega) (by omega) (EvIt.range1 1 mm rfl P.range (Ev.name 2 rfl rfl) (by omega) (by omega) (by omega)) (by rw [rng_length]) (fun i ds h => by obtain ⟨_, rfl⟩ := rng_at h; rfl) (KOk.of rfl trivial rfl rfl rfl rfl rfl rfl rfl) rfl (fun a1 => ?_)
  dsimp only [List.set]
  refine X.brickComp (K := 8) (bs := bs) (k := 5 + mm) P 1 8 mm ["_law_brick"] (by decide) (by omega) (by omega) (EvIt.range1 1 mm rfl P.range (Ev.name 2 rfl rfl) (by omega) (by omega) (by omega)) (by rw [rng_length]) (fun i ds h => by obtain ⟨_, rfl⟩ := rng_at h; rfl) (KOk.of rfl trivial rfl rfl rfl rfl rfl rfl rfl) rfl (fun a2 => ?_)
  dsimp only [List.set]
  obtain ⟨a, ha, ha7, ea⟩ := bricks_nat bs 5 mm
  obtain ⟨b, hb, hb7, eb⟩ := bricks_nat bs (5 + mm) mm
  rw [ea, eb]
  exact law_tail P hmm hn hw h4 h1 ha hb ha7 hb7
end Mine
end
section
open PySem PySem.W PyProof.Rows PySem.Calls
set_option maxRecDepth 100000
namespace Mine
theorem cells_is {h₀ h : Heap} {L : Addr} {cm : Str → Option Value} : ∀ {cs : List (Str × Addr)} {news : List (Addr × Obj)}, CellsAre cm cs news → News h₀ L h news → ∀ n cd, (n, cd) ∈ cs → h.IsCell cd (cm n)
  | _, _, .nil, _, n, cd, hm => by cases hm
  | _, _, .cons hd r, N, n, cd, hm => by
    rcases List.mem_cons.mp hm with e | hm
    · cases e
      exact ⟨_, (N _ (.head _)).1, hd⟩
    · exact cells_is r (fun p hp => N p (.tail _ hp)) n cd hm

end Mine
end
section
open PySem PySem.W PyProof.Rows PySem.Calls
set_option maxRecDepth 100000
set_option maxHeartbeats 2000000
namespace Mine
theorem law_fs {W : Wd} {h₀ h₁ : Heap} {fa l : Addr} {cd : Value} {cm bm : Str → Option Value} {news : List (Addr × Obj)} (G : W.G h₀) (F : Fr h₀ h₀.objs.size h₁ bm) (hb : bm "script" = some (.ref l))
    (N : News h₀ h₀.objs.size h₁ news) (X : CellsAre cm (cellsFrom (h₀.objs.size + 1) (scopeOf (stm 78)).names []) news) (R : Room (callerA.deeper (envOfC "law" (scopeOf (stm 78)) h₀.objs.size fa cd)) 20) :
    FS (lawC W (callerA.deeper (envOfC "law" (scopeOf (stm 78)) h₀.objs.size fa cd)) ⟨"law", .none, .none, none, cd, .none⟩ h₀.objs.size fa h₀ (fun _ => False)) [some (.p (.pin l)), none, none, none, none, none, none, none, none, none, none, none, none] h₁ := by
  have C1 : ∀ n, chk (scopeOf (stm 78)) ["script", "crate", "many", "kind", "n", "w", "bound", "one", "other", "due", "p", "rows", "led"] ["_law_brick", "range", "_law_single", "prime_for", "convolve", "convolve_turned", "convolved", "mul_school", "convolved_minus", "_law_is_tooms"] n = true := fun n => by kernel_rfl
  have C1 := C1 (h₀.objs.size + 1)
  unfold chk at C1
  simp only [Bool.and_eq_true, List.all_eq_true, Bool.or_eq_true, beq_iff_eq, Bool.not_eq_true', decide_eq_true_eq] at C1
  obtain ⟨⟨⟨⟨⟨⟨⟨hkind, hco⟩, hge⟩, hks⟩, hgs⟩, hnd⟩, hdk⟩, hdg⟩ := C1
  have cells := cells_is X N
  have ce : cellsFrom (h₀.objs.size + 1) (scopeOf (stm 78)).names [] = ([(("p" : Str), (h₀.objs.size + 1 + 1 + 1 + 1 : Nat)), (("w" : Str), (h₀.objs.size + 1 + 1 + 1 : Nat)), (("n" : Str), (h₀.objs.size + 1 + 1 : Nat)), (("crate" : Str), (h₀.objs.size + 1 : Nat))] : List (Str × Nat)) := by kernel_rfl
  have noOwn : ∀ b, ¬ Own [some (.p (.pin l)), none, none, none, none, none, none, none, none, none, none, none, none] b := fun b ⟨k, es, e⟩ => by
    match k, e with
    | 0, e => cases e
    | k + 1, e =>
      have : (List.replicate 12 (none : Option B))[k]? = some (some (.own b es)) := e
      rw [List.getElem?_replicate] at this
      split at this <;> cases this
  exact {
    ok := {
      kind := hkind, gl := rfl, bi := rfl, room := R, nod := hnd
      kinds := fun k y hy => by
        rcases hks y (List.mem_of_getElem? hy) with q | q
        · exact .inl q
        · exact .inr q.1
      globs := fun k y hy => hgs y (List.mem_of_getElem? hy)
      nodb := fun y hy => by
        rcases hy with hy | hy
        · exact hdk y hy
        · exact hdg y hy
      isFn := fun _ => {
        av0 := fun _ z => z.elim
        hi := Nat.le_refl _, g0 := G
        apart := by
          show (cellsFrom (h₀.objs.size + 1) (scopeOf (stm 78)).names []).Pairwise _
          rw [ce]
          have key : ∀ s : Nat, ([(("p" : Str), (s + 1 + 1 + 1 + 1 : Nat)), (("w" : Str), (s + 1 + 1 + 1 : Nat)), (("n" : Str), (s + 1 + 1 : Nat)), (("crate" : Str), (s + 1 : Nat))] : List (Str × Nat)).Pairwise fun x y => x.2 ≠ y.2 := fun s => by simp; try omega
          exact key _
        cellsHi := fun n cd hc => by
          have hm := mem_of_lookup (show (cellsFrom (h₀.objs.size + 1) (scopeOf (stm 78)).names []).lookup n = some cd from hc)
          rw [ce] at hm
          simp at hm
          rcases hm with ⟨_, rfl⟩ | ⟨_, rfl⟩ | ⟨_, rfl⟩ | ⟨_, rfl⟩ <;> exact Nat.le_of_lt (by show h₀.objs.size < _; omega)
        cellsAll := fun k y hy hc => by
          rcases hks y (List.mem_of_getElem? hy) with q | q
          · have z : (envOfC "law" (scopeOf (stm 78)) h₀.objs.size fa cd).kindOf y = some .local := q
            have w : (envOfC "law" (scopeOf (stm 78)) h₀.objs.size fa cd).kindOf y = some .cell := hc
            rw [z] at w; cases w
          · exact q.2 } }
    g := G.ext F.keep, av1 := fun _ z => z.elim, keep := fun _ => F.keep, ns := ⟨_, F.ns⟩
    cells := fun _ n cd hc => ⟨_, cells n cd (mem_of_lookup hc)⟩
    var := fun k y b hk hb' => by
      match k, hk, hb' with
      | 0, hk, hb' =>
        cases hk; cases hb'
        refine ⟨.ref l, .inl ⟨?_, _, F.ns, hb⟩, .pin l⟩
        rcases hks "script" (.head _) with q | q
        · exact q
        · exact absurd q.1 (by show (scopeOf (stm 78)).names.lookup ("script" : Str) ≠ some .cell; rw [show (scopeOf (stm 78)).names.lookup ("script" : Str) = some .local by kernel_rfl]; decide)
      | k + 1, hk, hb' =>
        have : (List.replicate 12 (none : Option B))[k]? = some (some b) := hb'
        rw [List.getElem?_replicate] at this
        split at this <;> cases this
    own0 := fun k b es e => absurd ⟨k, es, e⟩ (noOwn b)
    ownd := fun k k' b es es' e _ => absurd ⟨k, es, e⟩ (noOwn b) }
end Mine
end
section
open PySem PySem.W PyProof.Rows PySem.Calls
set_option maxRecDepth 100000
namespace Mine
theorem roomLaw (env : Env) : Mine.Room (callerA.deeper env) 20 := by
  refine ⟨rfl, ?_, ?_⟩
  · show callerA.depth + 1 + 20 + 5 < recursionLimit
    decide +kernel
  · show callerA.units + 3 + 8 * 20 + 100 < cLine
    decide +kernel
end Mine
end
section
open PySem PySem.W PyProof.Rows
set_option maxRecDepth 100000
namespace Mine
noncomputable def adrOf (K : Frag) (x : Str) : Addr := match nsIn K mainGlobals x with | some (some (.ref a)) => a | _ => 0
noncomputable def objOf (K : Frag) (x : Str) : Obj := (K.lookup (adrOf K x)).getD default
noncomputable def mOf (o : Obj) : FnData := match o.data with
  | .func fd => ⟨fd.qualname, fd.doc, fd.pyModule, fd.annotations, fd.code, fd.closureTuple⟩
  | _ => ⟨"", .none, .none, none, .none, .none⟩
structure Fnd (K : Frag) (x nm : Str) (st : Stmt) : Prop where
  a : nsIn K mainGlobals x = some (some (.ref (adrOf K x)))
  b : K.lookup (adrOf K x) = some ⟨(objOf K x).cls, (objOf K x).dict, .func (fdOf st nm (mOf (objOf K x))), (objOf K x).slots⟩
  c : codeIn K (mOf (objOf K x)).cdv (mOf (objOf K x)).qual = true
theorem fnAt_of {W : Wd} {h : Heap} {x nm : Str} {st : Stmt} (KX : W.K.In h) (g : h.Ns mainGlobals W.mg) (f : Fnd W.K x nm st) : FnAt W x nm st :=
  ⟨_, _, _, _, _, mg_of KX g f.a, f.b, f.c⟩
noncomputable abbrev Wof (K : Frag) (w : World) (mg mb : Str → Option Value) : Wd := { prog := PySem.Challenge.rw_sa0348_01.row.prog, w := w, mg := mg, mb := mb, K := K }
structure Founds (K : Frag) : Prop where
  len : nsIn K mainGlobals "len" = some none
  abs : nsIn K mainGlobals "abs" = some none
  max : nsIn K mainGlobals "max" = some none
  int : nsIn K mainGlobals "int" = some none
  list : nsIn K mainGlobals "list" = some none
  range : nsIn K mainGlobals "range" = some none
  enumerate : nsIn K mainGlobals "enumerate" = some none
  zip : nsIn K mainGlobals "zip" = some none
  reversed : nsIn K mainGlobals "reversed" = some none
  f_normal : Fnd K "normal" "normal" (stm 5)
  f_compare : Fnd K "compare" "compare" (stm 6)
  f_add : Fnd K "add" "add" (stm 7)
  f_sub : Fnd K "sub" "sub" (stm 8)
  f_add_at : Fnd K "add_at" "add_at" (stm 9)
  f_shift_left : Fnd K "shift_left" "shift_left" (stm 10)
  f_shift_right : Fnd K "shift_right" "shift_right" (stm 11)
  f_bits : Fnd K "bits" "bits" (stm 12)
  f_low : Fnd K "low" "low" (stm 13)
  f_is_small_prime : Fnd K "is_small_prime" "is_small_prime" (stm 15)
  f_prime_for : Fnd K "prime_for" "prime_for" (stm 16)
  f_plain_power : Fnd K "plain_power" "plain_power" (stm 17)
  f_root_of_unity : Fnd K "root_of_unity" "root_of_unity" (stm 18)
  f_powers_of : Fnd K "powers_of" "powers_of" (stm 19)
  f_forward_primeforms : Fnd K "forward_primeforms" "forward" (stm 20)
  f_backward_primeforms : Fnd K "backward_primeforms" "backward" (stm 22)
  f_filled : Fnd K "filled" "filled" (stm 24)
  f_convolve : Fnd K "convolve" "convolve" (stm 25)
  f_convolve_turned : Fnd K "convolve_turned" "convolve_turned" (stm 26)
  f_ring_one : Fnd K "ring_one" "ring_one" (stm 28)
  f_ring_add : Fnd K "ring_add" "ring_add" (stm 29)
  f_ring_sub : Fnd K "ring_sub" "ring_sub" (stm 30)
  f_ring_neg : Fnd K "ring_neg" "ring_neg" (stm 31)
  f_need_ring : Fnd K "need_ring" "need_ring" (stm 32)
  f_ring_fold : Fnd K "ring_fold" "ring_fold" (stm 33)
  f_ring_shift : Fnd K "ring_shift" "ring_shift" (stm 34)
  f_ring_mul : Fnd K "ring_mul" "ring_mul" (stm 35)
  f_forward_rings : Fnd K "forward_rings" "forward" (stm 36)
  f_backward_rings : Fnd K "backward_rings" "backward" (stm 38)
  f_convolved : Fnd K "convolved" "convolved" (stm 40)
  f_weighted : Fnd K "weighted" "weighted" (stm 41)
  f_convolved_minus : Fnd K "convolved_minus" "convolved_minus" (stm 42)
  f_mul_school : Fnd K "mul_school" "mul_school" (stm 44)
  f_signed : Fnd K "signed" "signed" (stm 46)
  f_s_neg : Fnd K "s_neg" "s_neg" (stm 47)
  f_s_add : Fnd K "s_add" "s_add" (stm 48)
  f_s_sub : Fnd K "s_sub" "s_sub" (stm 49)
  f_s_mul : Fnd K "s_mul" "s_mul" (stm 50)
  f_pieces : Fnd K "pieces" "pieces" (stm 52)
  f_piece_size : Fnd K "piece_size" "piece_size" (stm 53)
  f_scaled : Fnd K "scaled" "scaled" (stm 54)
  f_exact_small : Fnd K "exact_small" "exact_small" (stm 55)
  f_both_values : Fnd K "both_values" "both_values" (stm 56)
  f_value_at_half : Fnd K "value_at_half" "value_at_half" (stm 57)
  f_halves_of : Fnd K "halves_of" "halves_of" (stm 58)
  f_natural : Fnd K "natural" "natural" (stm 59)
  f_even_coefficients : Fnd K "even_coefficients" "even_coefficients" (stm 60)
  f_odd_coefficients : Fnd K "odd_coefficients" "odd_coefficients" (stm 61)
  f_from_seven : Fnd K "from_seven" "from_seven" (stm 62)
  f_recomposed : Fnd K "recomposed" "recomposed" (stm 63)
  f_products_of : Fnd K "products_of" "products_of" (stm 65)
  f_ends_of : Fnd K "ends_of" "ends_of" (stm 66)
  f_values_four : Fnd K "values_four" "values_four" (stm 67)
  f_values_seven : Fnd K "values_seven" "values_seven" (stm 68)
  f_joined_seven : Fnd K "joined_seven" "joined_seven" (stm 69)
  f_common_size : Fnd K "common_size" "common_size" (stm 70)
  f_toom4 : Fnd K "toom4" "toom4" (stm 71)
  f_law_brick : Fnd K "_law_brick" "_law_brick" (stm 73)
  f_law_limbs : Fnd K "_law_limbs" "_law_limbs" (stm 74)
  f_law_without : Fnd K "_law_without" "_law_without" (stm 75)
  f_law_single : Fnd K "_law_single" "_law_single" (stm 76)
  f_law_is_tooms : Fnd K "_law_is_tooms" "_law_is_tooms" (stm 77)
theorem prg_of {K : Frag} {w : World} {mg mb : Str → Option Value} {h : Heap} (KX : K.In h) (g : h.Ns mainGlobals mg) (hb : ∀ x : Str, x ≠ Str.ofString "__name__" → mb x = bootBuiltins x) (f : Founds K) : Prg (Wof K w mg mb) where
  len := ⟨mg_none_of KX g f.len, (hb "len" (by decide)).trans (by kernel_rfl), .inl ⟨_, rfl⟩⟩
  abs := ⟨mg_none_of KX g f.abs, (hb "abs" (by decide)).trans (by kernel_rfl), .inl ⟨_, rfl⟩⟩
  max := ⟨mg_none_of KX g f.max, (hb "max" (by decide)).trans (by kernel_rfl), .inl ⟨_, rfl⟩⟩
  int := ⟨mg_none_of KX g f.int, (hb "int" (by decide)).trans (by kernel_rfl), .inr ⟨_, rfl⟩⟩
  list := ⟨mg_none_of KX g f.list, (hb "list" (by decide)).trans (by kernel_rfl), .inr ⟨_, rfl⟩⟩
  range := ⟨mg_none_of KX g f.range, (hb "range" (by decide)).trans (by kernel_rfl), .inr ⟨_, rfl⟩⟩
  enumerate := ⟨mg_none_of KX g f.enumerate, (hb "enumerate" (by decide)).trans (by kernel_rfl), .inr ⟨_, rfl⟩⟩
  zip := ⟨mg_none_of KX g f.zip, (hb "zip" (by decide)).trans (by kernel_rfl), .inr ⟨_, rfl⟩⟩
  reversed := ⟨mg_none_of KX g f.reversed, (hb "reversed" (by decide)).trans (by kernel_rfl), .inr ⟨_, rfl⟩⟩
  f_normal := fnAt_of KX g f.f_normal
  f_compare := fnAt_of KX g f.f_compare
  f_add := fnAt_of KX g f.f_add
  f_sub := fnAt_of KX g f.f_sub
  f_add_at := fnAt_of KX g f.f_add_at
  f_shift_left := fnAt_of KX g f.f_shift_left
  f_shift_right := fnAt_of KX g f.f_shift_right
  f_bits := fnAt_of KX g f.f_bits
  f_low := fnAt_of KX g f.f_low
  f_is_small_prime := fnAt_of KX g f.f_is_small_prime
  f_prime_for := fnAt_of KX g f.f_prime_for
  f_plain_power := fnAt_of KX g f.f_plain_power
  f_root_of_unity := fnAt_of KX g f.f_root_of_unity
  f_powers_of := fnAt_of KX g f.f_powers_of
  f_forward_primeforms := fnAt_of KX g f.f_forward_primeforms
  f_backward_primeforms := fnAt_of KX g f.f_backward_primeforms
  f_filled := fnAt_of KX g f.f_filled
  f_convolve := fnAt_of KX g f.f_convolve
  f_convolve_turned := fnAt_of KX g f.f_convolve_turned
  f_ring_one := fnAt_of KX g f.f_ring_one
  f_ring_add := fnAt_of KX g f.f_ring_add
  f_ring_sub := fnAt_of KX g f.f_ring_sub
  f_ring_neg := fnAt_of KX g f.f_ring_neg
  f_need_ring := fnAt_of KX g f.f_need_ring
  f_ring_fold := fnAt_of KX g f.f_ring_fold
  f_ring_shift := fnAt_of KX g f.f_ring_shift
  f_ring_mul := fnAt_of KX g f.f_ring_mul
  f_forward_rings := fnAt_of KX g f.f_forward_rings
  f_backward_rings := fnAt_of KX g f.f_backward_rings
  f_convolved := fnAt_of KX g f.f_convolved
  f_weighted := fnAt_of KX g f.f_weighted
  f_convolved_minus := fnAt_of KX g f.f_convolved_minus
  f_mul_school := fnAt_of KX g f.f_mul_school
  f_signed := fnAt_of KX g f.f_signed
  f_s_neg := fnAt_of KX g f.f_s_neg
  f_s_add := fnAt_of KX g f.f_s_add
  f_s_sub := fnAt_of KX g f.f_s_sub
  f_s_mul := fnAt_of KX g f.f_s_mul
  f_pieces := fnAt_of KX g f.f_pieces
  f_piece_size := fnAt_of KX g f.f_piece_size
  f_scaled := fnAt_of KX g f.f_scaled
  f_exact_small := fnAt_of KX g f.f_exact_small
  f_both_values := fnAt_of KX g f.f_both_values
  f_value_at_half := fnAt_of KX g f.f_value_at_half
  f_halves_of := fnAt_of KX g f.f_halves_of
  f_natural := fnAt_of KX g f.f_natural
  f_even_coefficients := fnAt_of KX g f.f_even_coefficients
  f_odd_coefficients := fnAt_of KX g f.f_odd_coefficients
  f_from_seven := fnAt_of KX g f.f_from_seven
  f_recomposed := fnAt_of KX g f.f_recomposed
  f_products_of := fnAt_of KX g f.f_products_of
  f_ends_of := fnAt_of KX g f.f_ends_of
  f_values_four := fnAt_of KX g f.f_values_four
  f_values_seven := fnAt_of KX g f.f_values_seven
  f_joined_seven := fnAt_of KX g f.f_joined_seven
  f_common_size := fnAt_of KX g f.f_common_size
  f_toom4 := fnAt_of KX g f.f_toom4
  f_law_brick := fnAt_of KX g f.f_law_brick
  f_law_limbs := fnAt_of KX g f.f_law_limbs
  f_law_without := fnAt_of KX g f.f_law_without
  f_law_single := fnAt_of KX g f.f_law_single
  f_law_is_tooms := fnAt_of KX g f.f_law_is_tooms
theorem wp_swap {prog prog' : Program} {w : World} {A A' : Around} {Q : Flow → Shared → Prop} {E : Value → Shared → Prop} {s : Shared} {x y : Sem Flow} (e1 : prog = prog') (e2 : A = A') (e : x = y) (h : wpAny (model prog' w) A' y Q E s) : wpAny (model prog w) A x Q E s := by
  subst e1 e2 e; exact h
theorem goodB {c : ClaimW} {cl : Str → Option Addr} {mean : ExcName → Option Value} {args : List WData} {s₁ s' : Shared} (x : ∀ b o, s₁.heap.get? b = some o → s'.heap.get? b = some o) (hg : s'.gens = #[]) (hn : ∀ cls, c.raises args cls = false)
    (hp : c.post args (.bool true) args = true) (hos : s'.os = s₁.os) : GoodW c cl mean args s₁ (.ok (.ret (.bool true))) s' := ⟨.inl ⟨_, _, [], rfl, hn, .bool true, hp, unshared_nil⟩, x, hos, hg⟩
theorem law_run {K : Frag} {w : World} {mg mb : Str → Option Value} {s : Shared} {h₀ : Heap} {fa l : Addr} {cd : Value} {cm bm : Str → Option Value} {news : List (Addr × Obj)} {vs : List Value} {ns : List Int}
    (P : Prg (Wof K w mg mb)) (GG : (Wof K w mg mb).G h₀) (F : Fr h₀ h₀.objs.size s.heap bm) (hb : bm "script" = some (.ref l)) (N : News h₀ h₀.objs.size s.heap news) (X : CellsAre cm (cellsFrom (h₀.objs.size + 1) (scopeOf (stm 78)).names []) news)
    (hL : h₀.IsList l vs.toArray) (hI : IntsAre vs ns) (hz : ¬ ((63 : Nat) : Int) < ((ns.length : Nat) : Int)) {Q : Flow → Shared → Prop} {E : Value → Shared → Prop} (h : ∀ h' tk', Ext h₀ h' → Q (.ret (.bool true)) (after s h' tk')) :
    wpAny (model PySem.Challenge.rw_sa0348_01.row.prog w) (callerA.deeper (envOfC "law" (scopeOf (stm 78)) h₀.objs.size fa cd)) (execs (bodyOf (stm 78)) (envOfC "law" (scopeOf (stm 78)) h₀.objs.size fa cd)) Q E s := by
  have R : Mine.Room (callerA.deeper (envOfC "law" (scopeOf (stm 78)) h₀.objs.size fa cd)) 20 := roomLaw _
  have FF := law_fs (fa := fa) (l := l) (cd := cd) GG F hb N X R
  have hlen := hI.length
  have key := law_body (A := callerA.deeper (envOfC "law" (scopeOf (stm 78)) h₀.objs.size fa cd)) (m := ⟨"law", .none, .none, none, cd, .none⟩) (L := h₀.objs.size) (ad := fa) (l := l) (h₀ := h₀) (av := fun _ => False) P hL hI (by omega)
  refine key s Q E rfl FF fun fl o' h' tk' ho' hp hP => ?_
  subst ho'
  obtain ⟨v, rfl, r⟩ := hP
  cases r
  exact h h' tk' (keep_of rfl FF hp)
end Mine
end
end
namespace Mine.law_holds
def tw10983241140555628109 : Nat := 0
def tw14160533322030094474 : Nat := 0
def tw447027507633508388 : Nat := 0
def tw18340598423539479173 : Nat := 0
def tw8720880381367431298 : Nat := 0
def tw6860709855171689206 : Nat := 0
def tw9168033884955339765 : Nat := 0
def tw3974387499553966400 : Nat := 0
def tw9288214680346807717 : Nat := 0
def tw5950301352895977177 : Nat := 0
def tw10028117763298573888 : Nat := 0
def tw12847567107135931479 : Nat := 0
def tw16805829885119392726 : Nat := 0
def tw4992725456586698614 : Nat := 0
def tw8514742172934523775 : Nat := 0
def tw2557128651999224082 : Nat := 0
def tw7696488724909661519 : Nat := 0
def tw11097350217990362986 : Nat := 0
def tw3307954989432871184 : Nat := 0
def tw2503670479209048990 : Nat := 0
def tw1096898596823417342 : Nat := 0
def tw18326849912455186884 : Nat := 0
def tw3253568177066640346 : Nat := 0
def tw130176653241373134 : Nat := 0
def tw1784627337472249616 : Nat := 0
def tw16893121556090616931 : Nat := 0
def tw10007947361888340627 : Nat := 0
def tw14872900085578418628 : Nat := 0
def tw12481875629721207810 : Nat := 0
def tw14497384708736915567 : Nat := 0
def tw3756308257209627903 : Nat := 0
def tw18261290160731607033 : Nat := 0
def tw6727219029552735585 : Nat := 0
def tw2907507879108658156 : Nat := 0
def tw1341266762083198811 : Nat := 0
def tw7495221243884187115 : Nat := 0
def tw11633083819707477107 : Nat := 0
def tw4524032621918665186 : Nat := 0
def tw8890443458166856008 : Nat := 0
def tw6836929175068602330 : Nat := 0
def tw5045712524691215523 : Nat := 0
def tw2090888555730037645 : Nat := 0
def tw12889056044993165476 : Nat := 0
def tw9889521400790421688 : Nat := 0
def tw10301956948240465243 : Nat := 0
def tw11133525997344109421 : Nat := 0
def tw6265907326580845545 : Nat := 0
def tw18388893480867403737 : Nat := 0
def tw5858263632927829637 : Nat := 0
def tw7769649832755249146 : Nat := 0
def tw13397297893571687751 : Nat := 0
def tw228058311090241170 : Nat := 0
def tw6667284449218939238 : Nat := 0
def tw17713402740875732926 : Nat := 0
def tw11484002064277903863 : Nat := 0
def tw900637438159641495 : Nat := 0
def tw1670043908289496885 : Nat := 0
def tw2269544990204364226 : Nat := 0
def tw179590077315354965 : Nat := 0
def tw10250492657576779755 : Nat := 0
def tw6896717019858035522 : Nat := 0
def tw15472126771306010800 : Nat := 0
def tw8274860762260061732 : Nat := 0
def tw13429453918920967058 : Nat := 0
def tw3850334171643177529 : Nat := 0
def tw15609566024721092083 : Nat := 0
def tw9606376775287448836 : Nat := 0
def tw1496123403401453975 : Nat := 0
def tw3186734533307500241 : Nat := 0
def tw12116493165278983582 : Nat := 0
def tw1031057903888850656 : Nat := 0
def tw1385162719727133579 : Nat := 0
def tw17120909763851287664 : Nat := 0
def tw14326059299131336239 : Nat := 0
def tw3329330481660614911 : Nat := 0
def tw5920216800500632969 : Nat := 0
def tw16461882675039125421 : Nat := 0
def tw8860054118572591635 : Nat := 0
def tw907578622648922086 : Nat := 0
def tw16009327648451700120 : Nat := 0
def tw15732109348078318572 : Nat := 0
def tw11690447701083486646 : Nat := 0
def tw16760957895259694429 : Nat := 0
def tw15661869461025623997 : Nat := 0
def tw2152083551845799040 : Nat := 0
def tw18090433342136740992 : Nat := 0
def tw3776956092104397036 : Nat := 0
def tw15150646450996357022 : Nat := 0
def tw9423440377400516374 : Nat := 0
def tw5769158387606399586 : Nat := 0
def tw11426015686315989412 : Nat := 0
def tw7629946663754641087 : Nat := 0
def tw5981114437932730796 : Nat := 0
def tw11100686419730198450 : Nat := 0
def tw10516828495840041881 : Nat := 0
def tw15154110283740273250 : Nat := 0
def tw3682559726232862161 : Nat := 0
def tw17923851452625207687 : Nat := 0
def tw14822640431511872941 : Nat := 0
def tw10222300733896627045 : Nat := 0
def tw8266603773606604290 : Nat := 0
def tw14925382992726071281 : Nat := 0
def tw18051328159682125866 : Nat := 0
def tw1905533677188600702 : Nat := 0
def tw6507877686720480950 : Nat := 0
def tw16935243356766158856 : Nat := 0
def tw59864651932915081 : Nat := 0
def tw4329158554759489670 : Nat := 0
def tw41732636909640268 : Nat := 0
def tw16470317323979864763 : Nat := 0
def tw1762888911704233025 : Nat := 0
def tw2618386414584295968 : Nat := 0
def tw11017292853192552079 : Nat := 0
def tw5389484754426515990 : Nat := 0
def tw8249079356659094474 : Nat := 0
def tw9849722394096787677 : Nat := 0
def tw12296726922439171297 : Nat := 0
def tw4889031023730116350 : Nat := 0
def tw13766487248619392586 : Nat := 0
def tw8857742495270377987 : Nat := 0
def tw1928719863018725356 : Nat := 0
def tw6159533029260741167 : Nat := 0
def tw10666784280354678857 : Nat := 0
def tw2075624079617657780 : Nat := 0
def tw12149405283708829123 : Nat := 0
def tw9875236377963488844 : Nat := 0
def tw3494445600050047599 : Nat := 0
def tw7221428835167493151 : Nat := 0
def tw5455921660152230842 : Nat := 0
def tw10958410103948607464 : Nat := 0
def tw11677100312832694166 : Nat := 0
def tw14789792462180790578 : Nat := 0
def tw3366817510852727610 : Nat := 0
def tw676263390381983339 : Nat := 0
def tw5117662029339320154 : Nat := 0
def tw4441770287765753910 : Nat := 0
def tw12456547296908542839 : Nat := 0
def tw1819975233463548508 : Nat := 0
def tw12626328134170644701 : Nat := 0
def tw13182730311906835528 : Nat := 0
def tw13220211186989608806 : Nat := 0
def tw784011647948385275 : Nat := 0
def tw6677821561840896501 : Nat := 0
def tw12684681026606017882 : Nat := 0
def tw6260460797876433568 : Nat := 0
def tw3979707639553702691 : Nat := 0
def tw11625900857008200698 : Nat := 0
def tw16106779387088534511 : Nat := 0
def tw4037582482628031876 : Nat := 0
def tw15274831704391544125 : Nat := 0
def tw699380112222796084 : Nat := 0
def tw160851071654074740 : Nat := 0
def tw7404543985812422374 : Nat := 0
def tw9317688335297629284 : Nat := 0
def tw13800757232730249582 : Nat := 0
def tw17255088995462705879 : Nat := 0
def tw10264638600885302300 : Nat := 0
def tw1689763614830377041 : Nat := 0
def tw6553333263825352884 : Nat := 0
def tw575232530192455986 : Nat := 0
def tw7910590604623066228 : Nat := 0
def tw11881114122080957857 : Nat := 0
def tw3426384778480675251 : Nat := 0
def tw1909877003179415225 : Nat := 0
def tw9127328646792445573 : Nat := 0
def tw10566571302883470556 : Nat := 0
def tw14354538779393863138 : Nat := 0
def tw15759456685926392790 : Nat := 0
def tw10817052189556005596 : Nat := 0
def tw1099259369241382048 : Nat := 0
def tw2055734563569237896 : Nat := 0
def tw13280740594461564331 : Nat := 0
def tw2856731137302751260 : Nat := 0
def tw13392613628428298086 : Nat := 0
def tw15014403891855920072 : Nat := 0
def tw11966672015165255308 : Nat := 0
def tw6564709946809587534 : Nat := 0
def tw10024239376800412576 : Nat := 0
def tw3896150654470677357 : Nat := 0
def tw8472228645029834797 : Nat := 0
def tw6911747868599837429 : Nat := 0
def tw8957123355933967898 : Nat := 0
def tw16462895619179043833 : Nat := 0
def tw10441050188594101415 : Nat := 0
def tw8970147916757833333 : Nat := 0
def tw3927331946688356228 : Nat := 0
def tw17598101756349436640 : Nat := 0
def tw2102315897755806987 : Nat := 0
def tw519298541982818421 : Nat := 0
def tw16883458599210261866 : Nat := 0
def tw17345407343664743607 : Nat := 0
def tw12303009252429188658 : Nat := 0
def tw17253903310271361901 : Nat := 0
def tw14498155544194170393 : Nat := 0
def tw4072507727158212662 : Nat := 0
def tw6881874429007886204 : Nat := 0
def tw11544315989524547432 : Nat := 0
def tw13478230802861573701 : Nat := 0
def tw8441880690091102137 : Nat := 0
def tw12889673554181485818 : Nat := 0
def tw14377833709258309704 : Nat := 0
def tw15006436103509636135 : Nat := 0
def tw11126432536435168541 : Nat := 0
def tw4008084134468147086 : Nat := 0
def tw850272041215511910 : Nat := 0
def tw10188763426450519768 : Nat := 0
def tw9843604407834444796 : Nat := 0
def tw14289194402921355359 : Nat := 0
def tw5037970770195530229 : Nat := 0
def tw1377309892636839040 : Nat := 0
def tw12645607732203181651 : Nat := 0
def tw8909828626151137519 : Nat := 0
def tw16273140198857503625 : Nat := 0
def tw12780804625047726367 : Nat := 0
def tw18254337876149969668 : Nat := 0
def tw8481075993509181622 : Nat := 0
def tw10368410895845634921 : Nat := 0
def tw6387557786957746132 : Nat := 0
def tw660297872995803996 : Nat := 0
def tw3005452535816212104 : Nat := 0
def tw18113906227735052554 : Nat := 0
def tw11977050620070087417 : Nat := 0
def tw8040771413219435098 : Nat := 0
def tw15162217921772873613 : Nat := 0
def tw2175471002772951711 : Nat := 0
def tw6719018230134327050 : Nat := 0
def tw4916342969005030805 : Nat := 0
def tw14988988175077273356 : Nat := 0
def tw11182679623053108816 : Nat := 0
def tw12394330538082041428 : Nat := 0
def tw5112083995522966620 : Nat := 0
def tw607667584577438428 : Nat := 0
def tw3910120701321347557 : Nat := 0
def tw14883556706271630602 : Nat := 0
def tw13028658284911697911 : Nat := 0
def tw16332274672890094952 : Nat := 0
def tw12831907817818079685 : Nat := 0
def tw16521515382418738743 : Nat := 0
def tw718173064312146323 : Nat := 0
def tw17911580528928914924 : Nat := 0
def tw10486713781251687710 : Nat := 0
def tw4515466672771955728 : Nat := 0
def tw9529696498207198238 : Nat := 0
def tw4323815956820902445 : Nat := 0
def tw1832781179975386347 : Nat := 0
def tw15829985883664642994 : Nat := 0
def tw3850404396616230974 : Nat := 0
def tw8835965917227929528 : Nat := 0
def tw908389787484368193 : Nat := 0
def tw10108825076125807744 : Nat := 0
def tw3046938939346580660 : Nat := 0
def tw11330957891505755796 : Nat := 0
def tw2136269947727277649 : Nat := 0
def tw8666519363043736892 : Nat := 0
def tw1973129929022764952 : Nat := 0
def tw8386679336120195906 : Nat := 0
def tw14385925486924208373 : Nat := 0
def tw8191475993861738794 : Nat := 0
def tw13154458805202713791 : Nat := 0
def tw18249637531494128599 : Nat := 0
def tw5451054884063135654 : Nat := 0
def tw13958071646730322851 : Nat := 0
def tw17499823404086765753 : Nat := 0
def tw5989267464594152519 : Nat := 0
def tw18234560199702728603 : Nat := 0
def tw3882201998751590657 : Nat := 0
def tw8854015012368427407 : Nat := 0
def tw3136910860242942599 : Nat := 0
def tw11223184984439025696 : Nat := 0
def tw15617896438947887921 : Nat := 0
def tw3808703085821546077 : Nat := 0
def tw1791086108937442324 : Nat := 0
def tw8984712037535005518 : Nat := 0
def tw8652346329174877282 : Nat := 0
def tw13650905803964671038 : Nat := 0
def tw16074064945343616743 : Nat := 0
def tw7089819591129360890 : Nat := 0
def tw1622690429015379626 : Nat := 0
def tw7311554392007033315 : Nat := 0
def tw3313073865562206066 : Nat := 0
def tw9065511896191132704 : Nat := 0
def tw11404014056486942332 : Nat := 0
def tw17899081815984039989 : Nat := 0
def tw14904137174637212347 : Nat := 0
def tw4146061822495498468 : Nat := 0
def tw15140378357190847165 : Nat := 0
def tw6776455111828631412 : Nat := 0
def tw2643271747718453845 : Nat := 0
def tw17974257514489008736 : Nat := 0
def tw5731563423909890137 : Nat := 0
def tw4439653461905209652 : Nat := 0
def tw10296202853966499060 : Nat := 0
def tw9207643191828677137 : Nat := 0
def tw6709271908398517637 : Nat := 0
def tw2043166853727251185 : Nat := 0
def tw16563099163409725306 : Nat := 0
def tw15191720212996534143 : Nat := 0
def tw2644310842459337959 : Nat := 0
def tw8312341600987523519 : Nat := 0
def tw13402424001964919149 : Nat := 0
def tw14746732674962391887 : Nat := 0
def tw5640673133297012132 : Nat := 0
def tw14828999820898988419 : Nat := 0
def tw13336368349410954346 : Nat := 0
def tw8549365171731915398 : Nat := 0
def tw17274716441693411508 : Nat := 0
def tw498061464947678834 : Nat := 0
def tw12291295341487003417 : Nat := 0
def tw10465528174321978529 : Nat := 0
def tw1258919526383655059 : Nat := 0
def tw15352839923633478061 : Nat := 0
def tw6869992995446874880 : Nat := 0
def tw15293083901398250104 : Nat := 0
def tw9992725586745946429 : Nat := 0
def tw14531881819706719225 : Nat := 0
def tw445335354869643106 : Nat := 0
def tw4781243967656130014 : Nat := 0
def tw14991590004735058009 : Nat := 0
def tw13431030151845061361 : Nat := 0
def tw13281950902743806629 : Nat := 0
def tw3033269912633744064 : Nat := 0
def tw14997073306097389879 : Nat := 0
def tw3912811242725288453 : Nat := 0
def tw14596297492920191028 : Nat := 0
def tw16098122237329998606 : Nat := 0
def tw12977093529070104392 : Nat := 0
def tw7185456241796803578 : Nat := 0
def tw8330938851228082562 : Nat := 0
def tw1710076424337546998 : Nat := 0
def tw881140697980615281 : Nat := 0
def tw1685627985566243432 : Nat := 0
def tw5062152199769849712 : Nat := 0
def tw2322801206320994539 : Nat := 0
def tw12622292602297523153 : Nat := 0
def tw8176227357466254829 : Nat := 0
def tw18006792725990754497 : Nat := 0
def tw8763168800255643514 : Nat := 0
def tw5898729028444588960 : Nat := 0
def tw10093380194815717143 : Nat := 0
def tw2139172203440323022 : Nat := 0
def tw11609493526922420660 : Nat := 0
def tw11924911360389889469 : Nat := 0
def tw5364902710198789758 : Nat := 0
def tw16836969012518115619 : Nat := 0
def tw12476058986133298565 : Nat := 0
def tw14051398506283589457 : Nat := 0
def tw3049941959672503198 : Nat := 0
def tw1778412455037948541 : Nat := 0
def tw9682718004065560343 : Nat := 0
def tw11098625913536864229 : Nat := 0
def tw6317479115527610633 : Nat := 0
def tw10876394233666535175 : Nat := 0
def tw15802469936163623734 : Nat := 0
def tw1186782194237197914 : Nat := 0
def tw12342728606916771844 : Nat := 0
def tw1989176631692091739 : Nat := 0
def tw17865009358878524859 : Nat := 0
def tw4995542688137877417 : Nat := 0
def tw13190408463805328480 : Nat := 0
def tw2903333896348957400 : Nat := 0
def tw8553002610548859549 : Nat := 0
def tw9552830710289189752 : Nat := 0
def tw16190678330180157336 : Nat := 0
def tw9184033795430018204 : Nat := 0
def tw8715444014776630742 : Nat := 0
def tw10726639523019406850 : Nat := 0
def tw15448297888555860652 : Nat := 0
def tw724200737284857819 : Nat := 0
def tw4464252984393422682 : Nat := 0
def tw11764581739189218997 : Nat := 0
def tw6934448944433832347 : Nat := 0
def tw17027635718292003107 : Nat := 0
def tw11795792742502079742 : Nat := 0
def tw1335265377702380343 : Nat := 0
def tw11289095316329951393 : Nat := 0
def tw17028624522117568015 : Nat := 0
def tw13250372474279835810 : Nat := 0
def tw7820799176418779761 : Nat := 0
def tw13780023080261437657 : Nat := 0
def tw3956099054510807996 : Nat := 0
def tw17237755526102222789 : Nat := 0
def tw7205925804402219904 : Nat := 0
def tw3959601488294255719 : Nat := 0
def tw16873799427995575018 : Nat := 0
def tw6765152471904792315 : Nat := 0
def tw576407869801174206 : Nat := 0
def tw13301187468288870568 : Nat := 0
def tw11097158420108258118 : Nat := 0
def tw455179833554555240 : Nat := 0
def tw3595789414353437717 : Nat := 0
def tw6674817763981286723 : Nat := 0
def tw7407239408455114201 : Nat := 0
def tw11470271118054631628 : Nat := 0
def tw15806970514647361693 : Nat := 0
def tw16099233806120587224 : Nat := 0
def tw17942709131360195518 : Nat := 0
def tw7859275671446845435 : Nat := 0
def tw5274592661964301406 : Nat := 0
def tw3955097671198598788 : Nat := 0
def tw18269650602155537469 : Nat := 0
def tw12732824653754844360 : Nat := 0
def tw7497986649931050792 : Nat := 0
def tw9069877914133315304 : Nat := 0
def tw8369274380968253667 : Nat := 0
def tw981846192996546977 : Nat := 0
def tw302768837105346163 : Nat := 0
def tw2295933128562542503 : Nat := 0
def tw6189876280036216102 : Nat := 0
def tw10348105795364475437 : Nat := 0
def tw7604666192120794032 : Nat := 0
def tw9255152265573255198 : Nat := 0
def tw7566432030715092817 : Nat := 0
def tw15544829507116839252 : Nat := 0
def tw120379689235128954 : Nat := 0
def tw1035469204868569938 : Nat := 0
def tw745255978533919091 : Nat := 0
def tw10362271348294423435 : Nat := 0
def tw12115171985352901274 : Nat := 0
def tw14892801356780361778 : Nat := 0
def tw5914491427308094424 : Nat := 0
def tw18203989763732354715 : Nat := 0
def tw7019463264422422977 : Nat := 0
def tw12419048959643632839 : Nat := 0
def tw4030767218360268280 : Nat := 0
def tw11347954631545130290 : Nat := 0
def tw14390095281932903014 : Nat := 0
def tw2387193687640843687 : Nat := 0
def tw13190703287169160282 : Nat := 0
def tw16533268621062345490 : Nat := 0
def tw11387778649828244046 : Nat := 0
def tw16978406815995349258 : Nat := 0
def tw17470365217354309832 : Nat := 0
def tw10027879121665395642 : Nat := 0
def tw12687621791434340054 : Nat := 0
def tw16381176275627223697 : Nat := 0
def tw6723812968561706957 : Nat := 0
def tw11803358882649189518 : Nat := 0
def tw1172607208729018732 : Nat := 0
def tw8285764192309689115 : Nat := 0
def tw7636989558263936852 : Nat := 0
def tw5907203647135998699 : Nat := 0
end Mine.law_holds

open PySem PySem.W PyProof.Rows
namespace Mine
set_option Elab.async true in
set_option maxRecDepth 100000 in
set_option maxHeartbeats 8000000 in
theorem law_holds : PySem.Challenge.rw_sa0348_01.Holds := by
  w_on; o_law; k_head
  case hw => w_witness2
  k_go0
  rename_i w s0 s1 mg mb G Y fa o pm doc ho hg KX X V GL T B TE TW w13 w12 M cda w10 hcd ns hs hlay0 hL1 hr1 hl2 w8 w7 l vs w4 hL ra wl r0 hI hr hcond1 hcond K0 hD h1 tk1 F c3 c2 c1 c0 left2 left1 left0 right N0 X0
  have TR := topRead_of T
  have P := prg_of (w := w) (mg := mg) (mb := mb) KX TR.g TR.builtins ⟨by kernel_rfl, by kernel_rfl, by kernel_rfl, by kernel_rfl, by kernel_rfl, by kernel_rfl, by kernel_rfl, by kernel_rfl, by kernel_rfl, ⟨by kernel_rfl, by kernel_rfl, by kernel_rfl⟩, ⟨by kernel_rfl, by kernel_rfl, by kernel_rfl⟩, ⟨by kernel_rfl, by kernel_rfl, by kernel_rfl⟩, ⟨by kernel_rfl, by kernel_rfl, by kernel_rfl⟩, ⟨by kernel_rfl, by kernel_rfl, by kernel_rfl⟩, ⟨by kernel_rfl, by kernel_rfl, by kernel_rfl⟩, ⟨by kernel_rfl, by kernel_rfl, by kernel_rfl⟩, ⟨by kernel_rfl, by kernel_rfl, by kernel_rfl⟩, ⟨by kernel_rfl, by kernel_rfl, by kernel_rfl⟩, ⟨by kernel_rfl, by kernel_rfl, by kernel_rfl⟩, ⟨by kernel_rfl, by kernel_rfl, by kernel_rfl⟩, ⟨by kernel_rfl, by kernel_rfl, by kernel_rfl⟩, ⟨by kernel_rfl, by kernel_rfl, by kernel_rfl⟩, ⟨by kernel_rfl, by kernel_rfl, by kernel_rfl⟩, ⟨by kernel_rfl, by kernel_rfl, by kernel_rfl⟩, ⟨by kernel_rfl, by kernel_rfl, by kernel_rfl⟩, ⟨by kernel_rfl, by kernel_rfl, by kernel_rfl⟩, ⟨by kernel_rfl, by kernel_rfl, by kernel_rfl⟩, ⟨by kernel_rfl, by kernel_rfl, by kernel_rfl⟩, ⟨by kernel_rfl, by kernel_rfl, by kernel_rfl⟩, ⟨by kernel_rfl, by kernel_rfl, by kernel_rfl⟩, ⟨by kernel_rfl, by kernel_rfl, by kernel_rfl⟩, ⟨by kernel_rfl, by kernel_rfl, by kernel_rfl⟩, ⟨by kernel_rfl, by kernel_rfl, by kernel_rfl⟩, ⟨by kernel_rfl, by kernel_rfl, by kernel_rfl⟩, ⟨by kernel_rfl, by kernel_rfl, by kernel_rfl⟩, ⟨by kernel_rfl, by kernel_rfl, by kernel_rfl⟩, ⟨by kernel_rfl, by kernel_rfl, by kernel_rfl⟩, ⟨by kernel_rfl, by kernel_rfl, by kernel_rfl⟩, ⟨by kernel_rfl, by kernel_rfl, by kernel_rfl⟩, ⟨by kernel_rfl, by kernel_rfl, by kernel_rfl⟩, ⟨by kernel_rfl, by kernel_rfl, by kernel_rfl⟩, ⟨by kernel_rfl, by kernel_rfl, by kernel_rfl⟩, ⟨by kernel_rfl, by kernel_rfl, by kernel_rfl⟩, ⟨by kernel_rfl, by kernel_rfl, by kernel_rfl⟩, ⟨by kernel_rfl, by kernel_rfl, by kernel_rfl⟩, ⟨by kernel_rfl, by kernel_rfl, by kernel_rfl⟩, ⟨by kernel_rfl, by kernel_rfl, by kernel_rfl⟩, ⟨by kernel_rfl, by kernel_rfl, by kernel_rfl⟩, ⟨by kernel_rfl, by kernel_rfl, by kernel_rfl⟩, ⟨by kernel_rfl, by kernel_rfl, by kernel_rfl⟩, ⟨by kernel_rfl, by kernel_rfl, by kernel_rfl⟩, ⟨by kernel_rfl, by kernel_rfl, by kernel_rfl⟩, ⟨by kernel_rfl, by kernel_rfl, by kernel_rfl⟩, ⟨by kernel_rfl, by kernel_rfl, by kernel_rfl⟩, ⟨by kernel_rfl, by kernel_rfl, by kernel_rfl⟩, ⟨by kernel_rfl, by kernel_rfl, by kernel_rfl⟩, ⟨by kernel_rfl, by kernel_rfl, by kernel_rfl⟩, ⟨by kernel_rfl, by kernel_rfl, by kernel_rfl⟩, ⟨by kernel_rfl, by kernel_rfl, by kernel_rfl⟩, ⟨by kernel_rfl, by kernel_rfl, by kernel_rfl⟩, ⟨by kernel_rfl, by kernel_rfl, by kernel_rfl⟩, ⟨by kernel_rfl, by kernel_rfl, by kernel_rfl⟩, ⟨by kernel_rfl, by kernel_rfl, by kernel_rfl⟩, ⟨by kernel_rfl, by kernel_rfl, by kernel_rfl⟩, ⟨by kernel_rfl, by kernel_rfl, by kernel_rfl⟩, ⟨by kernel_rfl, by kernel_rfl, by kernel_rfl⟩, ⟨by kernel_rfl, by kernel_rfl, by kernel_rfl⟩, ⟨by kernel_rfl, by kernel_rfl, by kernel_rfl⟩, ⟨by kernel_rfl, by kernel_rfl, by kernel_rfl⟩, ⟨by kernel_rfl, by kernel_rfl, by kernel_rfl⟩, ⟨by kernel_rfl, by kernel_rfl, by kernel_rfl⟩⟩
  refine wp_swap rfl (by kernel_rfl) (by kernel_rfl) (law_run (fa := fa) (cd := .ref cda) P ⟨TR.g, TR.b, TR.nolimit, KX⟩ F (by kernel_rfl) N0 X0 hL hI hcond1 fun h' tk' x => ?_)
  clear P N0 X0 F
  refine goodB x hg (raisesW_false ?_) ?_ rfl
  · wrow_none_raised
  · kc_post
end Mine
theorem PySem.Challenge.cw_sa0348_01_holds : PySem.Challenge.rw_sa0348_01.Holds :=
  Mine.law_holds

