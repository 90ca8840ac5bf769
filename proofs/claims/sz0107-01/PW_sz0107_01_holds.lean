import PyProof.Rows.All
import Wide.All
import OpenK.AllK
import Wide.FinOn
import PySem.Challenge.RW_sz0107_01
open PySem PySem.W PyProof.Rows PySem.Calls PySem.Spec
set_option Elab.async false
set_option maxRecDepth 100000
set_option genSizeOf false
set_option genInjectivity false
set_option compiler.extract_closed false
namespace Mine
noncomputable section
/-- what is frozen: addresses with the objects that stand there for good -/
abbrev Zs := Addr → Obj → Prop
noncomputable def Zs.put (Z : Zs) (a : Addr) (o : Obj) : Zs := fun b p => Z b p ∨ (b = a ∧ p = o)
noncomputable def Rd (Z : Zs) (v : Value) (d : Dat) : Prop := ∃ news : List (Addr × Obj), (∀ p ∈ news, Z p.1 p.2) ∧ DatIn news v d
noncomputable def RdA (Z : Zs) (vs : List Value) (ds : List Dat) : Prop := ∃ news : List (Addr × Obj), (∀ p ∈ news, Z p.1 p.2) ∧ DatAll news vs ds
abbrev tupOf (its : Array Value) (n : Nat) : Obj := { cls := .type "tuple", data := .seq its n }

section
variable {Z Z' : Zs} {v : Value} {vs ws : List Value} {d : Dat} {ds es : List Dat}
theorem Rd.mono (h : Rd Z v d) (k : ∀ a o, Z a o → Z' a o) : Rd Z' v d := let ⟨n, a, b⟩ := h; ⟨n, fun p hp => k _ _ (a p hp), b⟩
theorem RdA.mono (h : RdA Z vs ds) (k : ∀ a o, Z a o → Z' a o) : RdA Z' vs ds := let ⟨n, a, b⟩ := h; ⟨n, fun p hp => k _ _ (a p hp), b⟩
theorem Rd.none : Rd Z .none .none := ⟨[], List.forall_mem_nil _, .none⟩
theorem Rd.bool (b : Bool) : Rd Z (.bool b) (.bool b) := ⟨[], List.forall_mem_nil _, .bool b⟩
theorem Rd.int (i : Int) (t : Tok) : Rd Z (.int i t) (.int i) := ⟨[], List.forall_mem_nil _, .int i t⟩
theorem RdA.nil : RdA Z [] [] := ⟨[], List.forall_mem_nil _, .nil⟩
theorem RdA.cons (h : Rd Z v d) (k : RdA Z vs ds) : RdA Z (v :: vs) (d :: ds) := by
  obtain ⟨n, a, b⟩ := h
  obtain ⟨m, a', b'⟩ := k
  refine ⟨n ++ m, fun p hp => (List.mem_append.mp hp).elim (a p) (a' p), .cons (b.mono fun p hp => List.mem_append.mpr (.inl hp)) (b'.mono fun p hp => List.mem_append.mpr (.inr hp))⟩
theorem RdA.cons_inv (h : RdA Z vs (d :: ds)) : ∃ v ws, vs = v :: ws ∧ Rd Z v d ∧ RdA Z ws ds := by
  obtain ⟨n, a, b⟩ := h
  cases b with
  | cons b c => exact ⟨_, _, rfl, ⟨n, a, b⟩, ⟨n, a, c⟩⟩
theorem RdA.nil_inv (h : RdA Z vs []) : vs = [] := by
  obtain ⟨n, a, b⟩ := h
  cases b; rfl
theorem RdA.vcons_inv (h : RdA Z (v :: vs) ds) : ∃ d es, ds = d :: es ∧ Rd Z v d ∧ RdA Z vs es := by
  obtain ⟨n, a, b⟩ := h
  cases b with
  | cons b c => exact ⟨_, _, rfl, ⟨n, a, b⟩, ⟨n, a, c⟩⟩
theorem RdA.len (h : RdA Z vs ds) : vs.length = ds.length := let ⟨_, _, b⟩ := h; b.length
theorem RdA.append (h : RdA Z vs ds) (k : RdA Z ws es) : RdA Z (vs ++ ws) (ds ++ es) := by
  obtain ⟨n, a, b⟩ := h
  obtain ⟨m, a', b'⟩ := k
  exact ⟨n ++ m, fun p hp => (List.mem_append.mp hp).elim (a p) (a' p), (b.mono fun p hp => List.mem_append.mpr (.inl hp)).append (b'.mono fun p hp => List.mem_append.mpr (.inr hp))⟩
theorem RdA.get (h : RdA Z vs ds) {k : Nat} (hk : ds[k]? = some d) : ∃ v, vs[k]? = some v ∧ Rd Z v d := by
  obtain ⟨n, a, b⟩ := h
  obtain ⟨hlt, rfl⟩ := List.getElem?_eq_some_iff.mp hk
  obtain ⟨v, e, r⟩ := b.get hlt
  exact ⟨v, e, n, a, r⟩
theorem RdA.at (h : RdA Z vs ds) {k : Nat} (hk : vs[k]? = some v) : ∃ d, ds[k]? = some d ∧ Rd Z v d := by
  obtain ⟨hlt, _⟩ := List.getElem?_eq_some_iff.mp hk
  have hlt' : k < ds.length := h.len ▸ hlt
  obtain ⟨w, e, r⟩ := h.get (List.getElem?_eq_getElem hlt')
  rw [hk] at e; cases e
  exact ⟨_, List.getElem?_eq_getElem hlt', r⟩
theorem RdA.take (h : RdA Z vs ds) (k : Nat) : RdA Z (vs.take k) (ds.take k) := by
  induction k generalizing vs ds with
  | zero => simpa using RdA.nil
  | succ k ih =>
    cases ds with
    | nil => rw [h.nil_inv]; simpa using RdA.nil
    | cons d ds =>
      obtain ⟨v, ws, rfl, h1, h2⟩ := h.cons_inv
      exact .cons h1 (ih h2)
theorem RdA.drop (h : RdA Z vs ds) (k : Nat) : RdA Z (vs.drop k) (ds.drop k) := by
  induction k generalizing vs ds with
  | zero => simpa using h
  | succ k ih =>
    cases ds with
    | nil => rw [h.nil_inv]; simpa using RdA.nil
    | cons d ds =>
      obtain ⟨v, ws, rfl, h1, h2⟩ := h.cons_inv
      exact ih h2
theorem Rd.tup {a : Addr} {n : Nat} (ha : Z a (tupOf vs.toArray n)) (h : RdA Z vs ds) : Rd Z (.ref a) (.tuple ds) := by
  obtain ⟨m, x, b⟩ := h
  exact ⟨(a, tupOf vs.toArray n) :: m, fun p hp => (List.mem_cons.mp hp).elim (fun e => e ▸ ha) (x p), .tuple (.head _) (b.mono fun p hp => .tail _ hp)⟩
theorem Rd.lst {a : Addr} {n : Nat} (ha : Z a (listOf vs.toArray n)) (h : RdA Z vs ds) : Rd Z (.ref a) (.list ds) := by
  obtain ⟨m, x, b⟩ := h
  exact ⟨(a, listOf vs.toArray n) :: m, fun p hp => (List.mem_cons.mp hp).elim (fun e => e ▸ ha) (x p), .list (.head _) (b.mono fun p hp => .tail _ hp)⟩
theorem Rd.int_inv {i : Int} (h : Rd Z v (.int i)) : ∃ t, v = .int i t := by obtain ⟨n, a, b⟩ := h; cases b; exact ⟨_, rfl⟩
theorem Rd.bool_inv {i : Bool} (h : Rd Z v (.bool i)) : v = .bool i := by obtain ⟨n, a, b⟩ := h; cases b; rfl
theorem Rd.none_inv (h : Rd Z v .none) : v = .none := by obtain ⟨n, a, b⟩ := h; cases b; rfl
theorem Rd.tup_inv (h : Rd Z v (.tuple ds)) : ∃ a vs n, v = .ref a ∧ Z a (tupOf vs.toArray n) ∧ RdA Z vs ds := by
  obtain ⟨n, x, b⟩ := h
  cases b with
  | tuple hm b => exact ⟨_, _, _, rfl, x _ hm, n, x, b⟩
theorem Rd.lst_inv (h : Rd Z v (.list ds)) : ∃ a vs n, v = .ref a ∧ Z a (listOf vs.toArray n) ∧ RdA Z vs ds := by
  obtain ⟨n, x, b⟩ := h
  cases b with
  | list hm b => exact ⟨_, _, _, rfl, x _ hm, n, x, b⟩
end

/-- what a name holds: a datum that stands for good, or a list that this frame alone holds -/
inductive RV where
  | dat (d : Dat)
  | own (ds : List Dat)
abbrev Rho := List (Str × RV)
noncomputable def upd : Rho → Str → RV → Rho
  | [], x, r => [(x, r)]
  | (y, q) :: t, x, r => if x == y then (x, r) :: t else (y, q) :: upd t x r
theorem lookup_upd (ρ : Rho) (x y : Str) (r : RV) : (upd ρ x r).lookup y = if y = x then some r else ρ.lookup y := by
  induction ρ with
  | nil =>
    by_cases h : y = x
    · subst h; simp [upd]
    · simp [upd, h, List.lookup_cons, beq_eq_false_iff_ne.mpr h]
  | cons p t ih =>
    obtain ⟨z, q⟩ := p
    unfold upd
    by_cases hz : x = z
    · subst hz
      simp only [beq_self_eq_true, if_true]
      by_cases h : y = x
      · subst h; simp
      · simp [h, List.lookup_cons, beq_eq_false_iff_ne.mpr h]
    · rw [if_neg (by simpa using hz)]
      rw [List.lookup_cons, List.lookup_cons, ih]
      by_cases h : y = z
      · subst h; simp [Ne.symm hz]
      · rw [beq_eq_false_iff_ne.mpr h]

/-- what stays the same through the whole call -/
structure GC where
  prog : Program
  w : World
  N : Nat
  mg : Str → Option Value
  mb : Str → Option Value
  defs : List DefItem
  consts : List (Str × PyData)
  objs : List (Str × (Obj → Prop))
  names : List Str
abbrev GC.Glob (g : GC) (h : Heap) : Prop := PyProof.Rows.Glob g.N g.mg g.mb g.defs g.consts g.objs g.names h
/-- a frame at work -/
structure Cx where
  g : GC
  A : Around
  env : Env
  h₀ : Heap
abbrev Cx.prog (c : Cx) := c.g.prog
abbrev Cx.w (c : Cx) := c.g.w

/-- the built-in names that the text calls -/
inductive Bi where
  | len | abs | min | int | sorted | range | enumerate
noncomputable def Bi.name : Bi → Str
  | .len => Str.ofString "len"
  | .abs => Str.ofString "abs"
  | .min => Str.ofString "min"
  | .int => Str.ofString "int"
  | .sorted => Str.ofString "sorted"
  | .range => Str.ofString "range"
  | .enumerate => Str.ofString "enumerate"
noncomputable def Bi.val : Bi → Value
  | .len => .builtin "len"
  | .abs => .builtin "abs"
  | .min => .builtin "min"
  | .int => .type "int"
  | .sorted => .builtin "sorted"
  | .range => .type "range"
  | .enumerate => .type "enumerate"
noncomputable def biTab : List (Str × Bi) := [(Str.ofString "len", .len), (Str.ofString "abs", .abs), (Str.ofString "min", .min), (Str.ofString "int", .int), (Str.ofString "sorted", .sorted), (Str.ofString "range", .range), (Str.ofString "enumerate", .enumerate)]
noncomputable def progDefs : List DefItem := PySem.Challenge.pw_sz0107_01.main.body.filterMap fun st => match st with
  | .FunctionDef name args body _ _ _ scope _ _ pos => some ⟨name, args, body, scope, pos⟩
  | _ => none
structure GC.Ok (g : GC) : Prop where
  fn : ∀ d ∈ progDefs, d ∈ g.defs
  bl : ∀ p ∈ biTab, g.mg p.1 = none ∧ g.mb p.1 = some p.2.val

noncomputable def Room (A : Around) (n : Nat) : Prop := A.handled = none ∧ A.depth + 2 * n + 2 < recursionLimit ∧ A.units + 8 * n + 100 < cLine

structure Cx.Ok (c : Cx) (n : Nat) : Prop where
  kind : c.env.scope.kind = .function
  glob : c.env.globals = mainGlobals
  bi : c.env.builtins = builtinsNs
  G : c.g.Glob c.h₀
  go : c.g.Ok
  room : Room c.A n
  apart : c.env.cells.Pairwise fun x y => x.2 ≠ y.2
  nd : c.env.kindOf (Str.ofString "__debug__") = none

abbrev Own (c : Cx) (O : Str → Option Addr) (a : Addr) : Prop := a = c.env.locals ∨ (∃ n, (n, a) ∈ c.env.cells) ∨ ∃ x, O x = some a

noncomputable def Var (c : Cx) (m cm : Str → Option Value) (x : Str) (v : Value) : Prop :=
  (c.env.kindOf x = some .local ∧ m x = some v) ∨ (c.env.kindOf x = some .cell ∧ ∃ a, c.env.cells.lookup x = some a ∧ cm x = some v)

noncomputable def Has (Z : Zs) (O : Str → Option Addr) (h : Heap) (x : Str) (v : Value) : RV → Prop
  | .dat d => Rd Z v d
  | .own ds => ∃ a vs n, O x = some a ∧ v = .ref a ∧ h.get? a = some (listOf vs.toArray n) ∧ RdA Z vs ds

structure St (c : Cx) (Z : Zs) (O : Str → Option Addr) (ρ : Rho) (h : Heap) : Prop where
  fr : ∃ m cm, Fr c.h₀ c.env.locals h m ∧ (∀ n a, c.env.cells.lookup n = some a → h.IsCell a (cm n)) ∧ ∀ x r, ρ.lookup x = some r → ∃ v, Var c m cm x v ∧ Has Z O h x v r
  zin : ∀ a o, Z a o → h.get? a = some o
  zav : ∀ a o, Z a o → ¬ Own c O a
  oav : ∀ x a, O x = some a → a ≠ c.env.locals ∧ (∀ n, (n, a) ∉ c.env.cells) ∧ c.h₀.get? a = none ∧ h.get? a ≠ none
  oinj : ∀ x y a, O x = some a → O y = some a → x = y
  call : ∀ n a, (n, a) ∈ c.env.cells → a ≠ c.env.locals ∧ h.get? a ≠ none

structure Stp (c : Cx) (Z : Zs) (O : Str → Option Addr) (h : Heap) (Z' : Zs) (O' : Str → Option Addr) (h' : Heap) : Prop where
  z : ∀ a o, Z a o → Z' a o
  zn : ∀ a o, Z' a o → Z a o ∨ h.get? a = none ∨ ∃ x, O x = some a
  keep : ∀ b o, h.get? b = some o → ¬ Own c O b → h'.get? b = some o
  own : ∀ x b, O' x = some b → (∃ y, O y = some b) ∨ h.get? b = none

theorem St.loc {c : Cx} {Z : Zs} {O : Str → Option Addr} {ρ : Rho} {h : Heap} (S : St c Z O ρ h) : h.get? c.env.locals ≠ none := by
  obtain ⟨m, cm, F, _⟩ := S.fr
  obtain ⟨o, _, _, e, _⟩ := F.ns
  rw [e]; exact Option.some_ne_none _
theorem Stp.refl {c : Cx} {Z : Zs} {O : Str → Option Addr} {h : Heap} : Stp c Z O h Z O h := ⟨fun _ _ e => e, fun _ _ e => .inl e, fun _ _ e _ => e, fun _ _ e => .inl ⟨_, e⟩⟩
theorem Stp.trans {c : Cx} {Z Z' Z'' : Zs} {O O' O'' : Str → Option Addr} {ρ'' : Rho} {h h' h'' : Heap} (S'' : St c Z'' O'' ρ'' h'')
    (x : Stp c Z O h Z' O' h') (y : Stp c Z' O' h' Z'' O'' h'') : Stp c Z O h Z'' O'' h'' := by
  have old : ∀ b o, h.get? b = some o → b ≠ c.env.locals → (∀ n, (n, b) ∉ c.env.cells) → (∃ z, O z = some b) ∨ h'.get? b = some o := by
    intro b o e h1 h2
    by_cases hc : ∃ z, O z = some b
    · exact .inl hc
    · exact .inr (x.keep b o e (fun hb => hb.elim h1 fun hb => hb.elim (fun ⟨n, q⟩ => h2 n q) hc))
  have own : ∀ z b, O' z = some b → (∃ y, O y = some b) ∨ h.get? b = none := x.own
  refine ⟨fun a o e => y.z a o (x.z a o e), fun a o e => ?_, fun b o e hb => ?_, fun z b e => ?_⟩
  · rcases y.zn a o e with q | q | ⟨z, q⟩
    · exact x.zn a o q
    · cases e1 : h.get? a with
      | none => exact .inr (.inl rfl)
      | some o1 =>
        have nl : a ≠ c.env.locals := fun q => S''.zav a o e (.inl q)
        have nc : ∀ n, (n, a) ∉ c.env.cells := fun n q => S''.zav a o e (.inr (.inl ⟨n, q⟩))
        rcases old a o1 e1 nl nc with k | k
        · exact .inr (.inr k)
        · rw [q] at k; cases k
    · rcases own z a q with k | k
      · exact .inr (.inr k)
      · exact .inr (.inl k)
  · have e' := x.keep b o e hb
    refine y.keep b o e' ?_
    rintro (q | ⟨n, q⟩ | ⟨z, q⟩)
    · exact hb (.inl q)
    · exact hb (.inr (.inl ⟨n, q⟩))
    · rcases own z b q with k | k
      · exact hb (.inr (.inr k))
      · rw [e] at k; cases k
  · rcases y.own z b e with ⟨u, q⟩ | q
    · exact own u b q
    · cases e1 : h.get? b with
      | none => exact .inr rfl
      | some o1 =>
        have k := S''.oav z b e
        rcases old b o1 e1 k.1 k.2.1 with k | k
        · exact .inl k
        · rw [q] at k; cases k

/-- all objects kept: the frame stands as it stood -/
theorem St.grow {c : Cx} {Z : Zs} {O : Str → Option Addr} {ρ : Rho} {h h' : Heap} (S : St c Z O ρ h) (k : ∀ b o, h.get? b = some o → h'.get? b = some o) : St c Z O ρ h' := by
  obtain ⟨m, cm, F, C, V⟩ := S.fr
  refine ⟨⟨m, cm, ⟨F.ns.keeps k, fun b o e => k b o (F.keep b o e), F.above⟩, fun n a e => (C n a e).keeps k, fun x r e => ?_⟩, fun a o e => k _ _ (S.zin a o e), S.zav, fun x a e => ?_, S.oinj, fun n a e => ?_⟩
  · obtain ⟨v, hv, hr⟩ := V x r e
    refine ⟨v, hv, ?_⟩
    cases r with
    | dat d => exact hr
    | own ds => obtain ⟨a, vs, n, e1, e2, e3, e4⟩ := hr; exact ⟨a, vs, n, e1, e2, k _ _ e3, e4⟩
  · obtain ⟨e1, e2, e3, e4⟩ := S.oav x a e
    refine ⟨e1, e2, e3, ?_⟩
    cases q : h.get? a with
    | none => exact absurd q e4
    | some o => rw [k _ _ q]; exact Option.some_ne_none _
  · obtain ⟨e1, e4⟩ := S.call n a e
    refine ⟨e1, ?_⟩
    cases q : h.get? a with
    | none => exact absurd q e4
    | some o => rw [k _ _ q]; exact Option.some_ne_none _

/-- what is frozen may grow by objects off the frame's own -/
theorem St.zs {c : Cx} {Z Z' : Zs} {O : Str → Option Addr} {ρ : Rho} {h : Heap} (S : St c Z O ρ h) (k : ∀ a o, Z a o → Z' a o) (zin : ∀ a o, Z' a o → h.get? a = some o) (zav : ∀ a o, Z' a o → ¬ Own c O a) : St c Z' O ρ h := by
  obtain ⟨m, cm, F, C, V⟩ := S.fr
  refine ⟨⟨m, cm, F, C, fun x r e => ?_⟩, zin, zav, S.oav, S.oinj, S.call⟩
  obtain ⟨v, hv, hr⟩ := V x r e
  refine ⟨v, hv, ?_⟩
  cases r with
  | dat d => exact Rd.mono hr k
  | own ds => obtain ⟨a, vs, n, e1, e2, e3, e4⟩ := hr; exact ⟨a, vs, n, e1, e2, e3, e4.mono k⟩

theorem St.notOwn {c : Cx} {Z : Zs} {O : Str → Option Addr} {ρ : Rho} {h : Heap} (S : St c Z O ρ h) {a : Addr} (e : h.get? a = none) : ¬ Own c O a := by
  rintro (q | ⟨n, q⟩ | ⟨x, q⟩)
  · subst q; exact S.loc e
  · exact (S.call n a q).2 e
  · exact (S.oav x a q).2.2.2 e

/-- a new object, frozen at once -/
theorem St.put {c : Cx} {Z : Zs} {O : Str → Option Addr} {ρ : Rho} {h h' : Heap} {a : Addr} {o : Obj} (S : St c Z O ρ h) (k : ∀ b o, h.get? b = some o → h'.get? b = some o) (e : h.get? a = none) (e' : h'.get? a = some o) :
    St c (Z.put a o) O ρ h' ∧ Stp c Z O h (Z.put a o) O h' := by
  refine ⟨(S.grow k).zs (fun _ _ q => .inl q) ?_ ?_, fun _ _ q => .inl q, ?_, fun b o q _ => k b o q, fun _ _ q => .inl ⟨_, q⟩⟩
  · rintro b p (q | ⟨rfl, rfl⟩)
    · exact k _ _ (S.zin b p q)
    · exact e'
  · rintro b p (q | ⟨rfl, rfl⟩)
    · exact S.zav b p q
    · exact S.notOwn e
  · rintro b p (q | ⟨rfl, rfl⟩)
    · exact .inl q
    · exact .inr (.inl e)
theorem Stp.grow {c : Cx} {Z : Zs} {O : Str → Option Addr} {h h' : Heap} (k : ∀ b o, h.get? b = some o → h'.get? b = some o) : Stp c Z O h Z O h' := ⟨fun _ _ e => e, fun _ _ e => .inl e, fun b o e _ => k b o e, fun _ _ e => .inl ⟨_, e⟩⟩

/-- an own list is frozen -/
theorem St.freeze {c : Cx} {Z : Zs} {O : Str → Option Addr} {ρ : Rho} {h : Heap} (S : St c Z O ρ h) {x : Str} {ds : List Dat} (e : ρ.lookup x = some (.own ds)) :
    ∃ m cm v, Fr c.h₀ c.env.locals h m ∧ (∀ n a, c.env.cells.lookup n = some a → h.IsCell a (cm n)) ∧ Var c m cm x v ∧ ∃ Z' O', St c Z' O' (upd ρ x (.dat (.list ds))) h ∧ Stp c Z O h Z' O' h ∧ (∀ y a, O' y = some a → O y = some a) ∧ Rd Z' v (.list ds) := by
  obtain ⟨m, cm, F, C, V⟩ := S.fr
  obtain ⟨v, hv, a, vs, n, e1, e2, e3, e4⟩ := V x _ e
  subst e2
  have hz : ∀ b p, Zs.put Z a (listOf vs.toArray n) b p → h.get? b = some p := by
    rintro b p (q | ⟨rfl, rfl⟩)
    · exact S.zin b p q
    · exact e3
  have rd : Rd (Z.put a (listOf vs.toArray n)) (.ref a) (.list ds) := Rd.lst (.inr ⟨rfl, rfl⟩) (e4.mono fun _ _ q => .inl q)
  refine ⟨m, cm, .ref a, F, C, hv, Z.put a (listOf vs.toArray n), fun y => if y = x then none else O y, ⟨⟨m, cm, F, C, fun y r q => ?_⟩, hz, ?_, ?_, ?_, S.call⟩, ⟨fun _ _ q => .inl q, ?_, fun b o q _ => q, ?_⟩, (fun y b k => by by_cases hy : y = x <;> simp [hy] at k ⊢; exact k), rd⟩
  · rw [lookup_upd] at q
    by_cases hy : y = x
    · subst hy
      rw [if_pos rfl] at q; cases q
      exact ⟨_, hv, rd⟩
    · rw [if_neg hy] at q
      obtain ⟨u, hu, hr⟩ := V y r q
      refine ⟨u, hu, ?_⟩
      cases r with
      | dat d => exact Rd.mono hr fun _ _ q => .inl q
      | own ds => obtain ⟨a', vs', n', k1, k2, k3, k4⟩ := hr; exact ⟨a', vs', n', by simp only [if_neg hy]; exact k1, k2, k3, k4.mono fun _ _ q => .inl q⟩
  · rintro b p (q | ⟨rfl, rfl⟩)
    · rintro (k | k | ⟨y, k⟩)
      · exact S.zav b p q (.inl k)
      · exact S.zav b p q (.inr (.inl k))
      · by_cases hy : y = x
        · simp [hy] at k
        · simp only [if_neg hy] at k; exact S.zav b p q (.inr (.inr ⟨y, k⟩))
    · obtain ⟨k1, k2, _⟩ := S.oav x _ e1
      rintro (k | ⟨n, k⟩ | ⟨y, k⟩)
      · exact k1 k
      · exact k2 n k
      · by_cases hy : y = x
        · simp [hy] at k
        · simp only [if_neg hy] at k; exact hy (S.oinj _ _ _ k e1)
  · intro y b k
    by_cases hy : y = x
    · simp [hy] at k
    · simp only [if_neg hy] at k; exact S.oav y b k
  · intro y z b k1 k2
    by_cases hy : y = x
    · simp [hy] at k1
    · by_cases hz : z = x
      · simp [hz] at k2
      · simp only [if_neg hy] at k1; simp only [if_neg hz] at k2; exact S.oinj _ _ _ k1 k2
  · rintro b p (q | ⟨rfl, rfl⟩)
    · exact .inl q
    · exact .inr (.inr ⟨x, e1⟩)
  · intro y b k
    by_cases hy : y = x
    · simp [hy] at k
    · simp only [if_neg hy] at k; exact .inl ⟨_, k⟩
noncomputable def Ends (c : Cx) (Z : Zs) (O : Str → Option Addr) (s : Shared) (Z' : Zs) (O' : Str → Option Addr) (ρ' : Rho) (s' : Shared) : Prop :=
  ∃ h' tk', s' = { s with heap := h', toks := tk' } ∧ St c Z' O' ρ' h' ∧ Stp c Z O s.heap Z' O' h'
section
variable {c : Cx} {Z Z1 Z2 : Zs} {O O1 O2 : Str → Option Addr} {ρ ρ1 ρ2 : Rho} {s s1 s2 : Shared}
theorem Ends.refl (S : St c Z O ρ s.heap) : Ends c Z O s Z O ρ s := ⟨s.heap, s.toks, rfl, S, .refl⟩
theorem Ends.tok (S : St c Z O ρ s.heap) (tk : Nat) : Ends c Z O s Z O ρ { s with toks := tk } := ⟨s.heap, tk, rfl, S, .refl⟩
theorem Ends.st (x : Ends c Z O s Z1 O1 ρ1 s1) : St c Z1 O1 ρ1 s1.heap := by obtain ⟨h, tk, rfl, S, _⟩ := x; exact S
theorem Ends.z (x : Ends c Z O s Z1 O1 ρ1 s1) : ∀ a o, Z a o → Z1 a o := by obtain ⟨h, tk, rfl, _, P⟩ := x; exact P.z
theorem Ends.stp (x : Ends c Z O s Z1 O1 ρ1 s1) : Stp c Z O s.heap Z1 O1 s1.heap := by obtain ⟨h, tk, rfl, _, P⟩ := x; exact P
theorem Ends.trans (x : Ends c Z O s Z1 O1 ρ1 s1) (y : Ends c Z1 O1 s1 Z2 O2 ρ2 s2) : Ends c Z O s Z2 O2 ρ2 s2 := by
  obtain ⟨h1, t1, rfl, S1, P1⟩ := x
  obtain ⟨h2, t2, rfl, S2, P2⟩ := y
  exact ⟨h2, t2, rfl, S2, Stp.trans S2 P1 P2⟩
theorem Ends.grow (S : St c Z O ρ s.heap) {h' : Heap} {tk : Nat} (k : ∀ b o, s.heap.get? b = some o → h'.get? b = some o) : Ends c Z O s Z O ρ { s with heap := h', toks := tk } :=
  ⟨h', tk, rfl, S.grow k, .grow k⟩
theorem Ends.put (S : St c Z O ρ s.heap) {h' : Heap} {tk : Nat} {a : Addr} {o : Obj} (k : ∀ b o, s.heap.get? b = some o → h'.get? b = some o) (e : s.heap.get? a = none) (e' : h'.get? a = some o) :
    Ends c Z O s (Z.put a o) O ρ { s with heap := h', toks := tk } := ⟨h', tk, rfl, (S.put k e e').1, (S.put k e e').2⟩
end

abbrev WP {α : Type} (c : Cx) (t : Sem α) (Q : α → Shared → Prop) (s : Shared) : Prop := wpAny (model c.prog c.w) c.A t Q (fun _ _ => False) s

/-- what an expression leaves: no new own lists; all else as it was -/
structure Xp (O : Str → Option Addr) (s : Shared) (O' : Str → Option Addr) (s' : Shared) : Prop where
  sub : ∀ x a, O' x = some a → O x = some a
  kp : ∀ b o, s.heap.get? b = some o → (∀ x, O x ≠ some b) → s'.heap.get? b = some o
theorem Xp.refl {O : Str → Option Addr} {s : Shared} : Xp O s O s := ⟨fun _ _ q => q, fun _ _ q _ => q⟩
theorem Xp.grow {O : Str → Option Addr} {s s' : Shared} (k : ∀ b o, s.heap.get? b = some o → s'.heap.get? b = some o) : Xp O s O s' := ⟨fun _ _ q => q, fun b o q _ => k b o q⟩
theorem Xp.trans {O O1 O2 : Str → Option Addr} {s s1 s2 : Shared} (x : Xp O s O1 s1) (y : Xp O1 s1 O2 s2) : Xp O s O2 s2 :=
  ⟨fun a b q => x.sub a b (y.sub a b q), fun b o q h => y.kp b o (x.kp b o q h) fun z w => h z (x.sub z b w)⟩
noncomputable def EvR (c : Cx) (Z : Zs) (O : Str → Option Addr) (s : Shared) (K : Dat → Rho → Prop) (v : Value) (s' : Shared) : Prop :=
  ∃ d ρ' Z' O', K d ρ' ∧ Ends c Z O s Z' O' ρ' s' ∧ Xp O s O' s' ∧ Rd Z' v d
theorem EvR.of {c : Cx} {Z Z' : Zs} {O : Str → Option Addr} {s s' : Shared} {K : Dat → Rho → Prop} {v : Value} {d : Dat} {ρ' : Rho} (k : K d ρ') (e : Ends c Z O s Z' O ρ' s') (r : Rd Z' v d) (kp : ∀ b o, s.heap.get? b = some o → s'.heap.get? b = some o := by intro _ _ q; first | exact q | exact Heap.get?_push_of_some _ q) : EvR c Z O s K v s' := ⟨d, ρ', Z', O, k, e, .grow kp, r⟩
/-- the expression e, from a frame ρ, ends in a datum and a frame that K holds of -/
noncomputable def Ev (c : Cx) (ρ : Rho) (e : Expr) (K : Dat → Rho → Prop) : Prop := ∀ Z O s, St c Z O ρ s.heap → WP c (eval e c.env) (EvR c Z O s K) s

theorem wp_mono {α : Type} {c : Cx} {t : Sem α} {Q Q' : α → Shared → Prop} {s : Shared} (h : WP c t Q s) (k : ∀ a s', Q a s' → Q' a s') : WP c t Q' s := wpAny_mono h k fun _ _ x => x
theorem Ev.mono {c : Cx} {ρ : Rho} {e : Expr} {K K' : Dat → Rho → Prop} (h : Ev c ρ e K) (k : ∀ d ρ', K d ρ' → K' d ρ') : Ev c ρ e K' :=
  fun Z O s S => wp_mono (h Z O s S) fun _ _ ⟨d, ρ', Z', O', a, b⟩ => ⟨d, ρ', Z', O', k _ _ a, b⟩

theorem get_fresh (h : Heap) : h.get? h.objs.size = none := Heap.get?_none_of_le (Nat.le_refl _)
theorem sizeLine_ge : 1000000 ≤ sizeLine := by rw [sizeLine_eq]; decide

/-- what Python's two-place operators give -/
noncomputable def vBin (op : Operator) (a b : Dat) (K : Dat → Prop) : Prop :=
  match op with
  | .Add => (match a, b with
    | .int a, .int b => K (.int (a + b))
    | .list xs, .list ys => xs.length + ys.length ≤ 1000 ∧ K (.list (xs ++ ys))
    | _, _ => False)
  | .Sub => (match a, b with | .int a, .int b => K (.int (a - b)) | _, _ => False)
  | .Mult => (match a, b with | .int a, .int b => a.natAbs < 2 ^ 64 ∧ K (.int (a * b)) | _, _ => False)
  | .LShift => (match a, b with | .int a, .int b => 0 ≤ b ∧ b ≤ 64 ∧ a.natAbs < 2 ^ 64 ∧ K (.int (a * 2 ^ b.toNat)) | _, _ => False)
  | .RShift => (match a, b with | .int a, .int b => 0 ≤ b ∧ K (.int (a.fdiv (2 ^ b.toNat))) | _, _ => False)
  | .Pow => (match a, b with | .int a, .int b => 0 ≤ b ∧ b ≤ 64 ∧ a.natAbs < 2 ^ 64 ∧ K (.int (a ^ b.toNat)) | _, _ => False)
  | .BitAnd => (match a, b with | .int a, .int b => K (.int (Builtin.bitAnd a b)) | _, _ => False)
  | .BitOr => (match a, b with | .int a, .int b => K (.int (Builtin.bitOr a b)) | _, _ => False)
  | .Mod => (match a, b with | .int a, .int b => b ≠ 0 ∧ K (.int (a.fmod b)) | _, _ => False)
  | .FloorDiv => (match a, b with | .int a, .int b => b ≠ 0 ∧ b.natAbs < 2 ^ 20 ∧ K (.int (a.fdiv b)) | _, _ => False)
  | _ => False

theorem bin_sound {c : Cx} {Z : Zs} {O : Str → Option Addr} {ρ : Rho} {s : Shared} {op : Operator} {va vb : Value} {a b : Dat} {K : Dat → Prop} (S : St c Z O ρ s.heap)
    (ra : Rd Z va a) (rb : Rd Z vb b) (h : vBin op a b K) : WP c (binaryOp op va vb) (EvR c Z O s fun d ρ' => ρ' = ρ ∧ K d) s := by
  have int : ∀ (i : Int), K (.int i) → EvR c Z O s (fun d ρ' => ρ' = ρ ∧ K d) (.int i s.toks) { s with toks := s.toks + 1 } := fun i k => .of ⟨rfl, k⟩ (.tok S _) (.int _ _)
  cases op
  case Add =>
    simp only [vBin] at h
    split at h
    · obtain ⟨t, rfl⟩ := ra.int_inv; obtain ⟨u, rfl⟩ := rb.int_inv; exact P.add_int (int _ h)
    · obtain ⟨x, vs, n, rfl, hx, rx⟩ := ra.lst_inv
      obtain ⟨y, ws, m, rfl, hy, ry⟩ := rb.lst_inv
      have hl := rx.len
      have hm := ry.len
      refine P.add_list (items := vs.toArray) (n := n) (items2 := ws.toArray) (n2 := m) (S.zin _ _ hx) (S.zin _ _ hy) ?_ (by have := sizeLine_ge; simp; omega)
      have e : vs.toArray ++ ws.toArray = (vs ++ ws).toArray := by simp
      rw [e]
      exact .of ⟨rfl, h.2⟩ (Ends.put (tk := s.toks) S (fun b o => Heap.get?_push_of_some _) (get_fresh _) (Heap.get?_push_size _ rfl)) (.lst (.inr ⟨rfl, rfl⟩) ((rx.append ry).mono fun _ _ q => .inl q))
    · exact h.elim
  case Sub =>
    simp only [vBin] at h
    split at h
    · obtain ⟨t, rfl⟩ := ra.int_inv; obtain ⟨u, rfl⟩ := rb.int_inv; exact P.sub_int (int _ h)
    · exact h.elim
  case Mult =>
    simp only [vBin] at h
    split at h
    · obtain ⟨t, rfl⟩ := ra.int_inv; obtain ⟨u, rfl⟩ := rb.int_inv; exact P.mul_int (int _ h.2) (IntMulOk.of_left (intBits_le h.1))
    · exact h.elim
  case LShift =>
    simp only [vBin] at h
    split at h
    · obtain ⟨t, rfl⟩ := ra.int_inv; obtain ⟨u, rfl⟩ := rb.int_inv; exact lshift_int_small h.1 (by omega) h.2.2.1 (int _ h.2.2.2)
    · exact h.elim
  case RShift =>
    simp only [vBin] at h
    split at h
    · obtain ⟨t, rfl⟩ := ra.int_inv; obtain ⟨u, rfl⟩ := rb.int_inv; exact rshift_int h.1 (int _ h.2)
    · exact h.elim
  case Pow =>
    simp only [vBin] at h
    split at h
    · obtain ⟨t, rfl⟩ := ra.int_inv; obtain ⟨u, rfl⟩ := rb.int_inv; exact pow_int_small h.1 (by omega) h.2.2.1 (int _ h.2.2.2)
    · exact h.elim
  case BitAnd =>
    simp only [vBin] at h
    split at h
    · obtain ⟨t, rfl⟩ := ra.int_inv; obtain ⟨u, rfl⟩ := rb.int_inv; exact and_int (int _ h)
    · exact h.elim
  case BitOr =>
    simp only [vBin] at h
    split at h
    · obtain ⟨t, rfl⟩ := ra.int_inv; obtain ⟨u, rfl⟩ := rb.int_inv; exact or_int (int _ h)
    · exact h.elim
  case Mod =>
    simp only [vBin] at h
    split at h
    · obtain ⟨t, rfl⟩ := ra.int_inv; obtain ⟨u, rfl⟩ := rb.int_inv; exact mod_int' h.1 (int _ h.2)
    · exact h.elim
  case FloorDiv =>
    simp only [vBin] at h
    split at h
    · obtain ⟨t, rfl⟩ := ra.int_inv; obtain ⟨u, rfl⟩ := rb.int_inv; exact floordiv_int h.1 (int _ h.2.2) (.inl (PyProof.noPylong_small (by omega)))
    · exact h.elim
  all_goals exact h.elim

theorem Rd.reads {Z : Zs} {O : Str → Option Addr} {c : Cx} {ρ : Rho} {h : Heap} (S : St c Z O ρ h) {v : Value} {d : Dat} (r : Rd Z v d) (hk : kqdOk 8 d = true) : ∃ as, Reads h v (kqdP d) as := by
  obtain ⟨n, a, b⟩ := r
  have N : News {} h.objs.size h n := fun p hp => ⟨S.zin _ _ (a p hp), Nat.ne_of_lt (Heap.lt_size (S.zin _ _ (a p hp))), by simp [Heap.get?]⟩
  exact kqd_in N 8 b hk

/-- what Python's comparisons give -/
noncomputable def vCmp (op : CmpOp) (a b : Dat) (K : Bool → Prop) : Prop :=
  match op with
  | .Lt => (match a, b with | .int a, .int b => K (decide (a < b)) | _, _ => False)
  | .LtE => (match a, b with | .int a, .int b => K (decide (a ≤ b)) | _, _ => False)
  | .Gt => (match a, b with | .int a, .int b => K (decide (b < a)) | _, _ => False)
  | .GtE => (match a, b with | .int a, .int b => K (decide (b ≤ a)) | _, _ => False)
  | .Is => (match a with
    | .none => (match b with | .none => K true | _ => False)
    | .tuple _ => (match b with | .none => K false | _ => False)
    | .int _ => (match b with | .none => K false | _ => False)
    | _ => False)
  | .IsNot => (match a with
    | .none => (match b with | .none => K false | _ => False)
    | .tuple _ => (match b with | .none => K true | _ => False)
    | .int _ => (match b with | .none => K true | _ => False)
    | _ => False)
  | .Eq => (match a with
    | .int a => (match b with
      | .int b => K (decide (a = b))
      | _ => False)
    | a => kqdOk 8 a = true ∧ kqdOk 8 b = true ∧ ∀ t : Bool, (t = true ↔ a = b) → K t)
  | .NotEq => (match a with
    | .int a => (match b with
      | .int b => K (!decide (a = b))
      | _ => False)
    | .bool a => (match b with
      | .bool b => K (a != b)
      | _ => False)
    | a => kqdOk 8 a = true ∧ kqdOk 8 b = true ∧ ∀ t : Bool, (t = true ↔ a = b) → K (!t))
  | _ => False

theorem shaped_of {d : Dat} (h : kqdOk 8 d = true) : SeqAt.shaped (kqdP d) = true := by
  have l := kqd_lay 8 d h
  unfold SeqAt.shaped
  rw [l.1, Bool.true_and]
  exact decide_eq_true (Nat.le_trans l.2 (by decide))

theorem cmp_sound {c : Cx} {n : Nat} (ok : c.Ok n) {Z : Zs} {O : Str → Option Addr} {ρ : Rho} {s : Shared} {op : CmpOp} {va vb : Value} {a b : Dat} {K : Bool → Prop} (S : St c Z O ρ s.heap)
    (ra : Rd Z va a) (rb : Rd Z vb b) (h : vCmp op a b K) : WP c (compareOp op va vb) (fun v s' => ∃ t : Bool, v = .bool t ∧ K t ∧ s' = s) s := by
  have hu : c.A.units + 64 < cLine := by have := ok.room.2.2; omega
  cases op
  case Lt =>
    simp only [vCmp] at h
    split at h
    · obtain ⟨t, rfl⟩ := ra.int_inv; obtain ⟨u, rfl⟩ := rb.int_inv; exact P.lt_int ⟨_, rfl, h, rfl⟩
    · exact h.elim
  case LtE =>
    simp only [vCmp] at h
    split at h
    · obtain ⟨t, rfl⟩ := ra.int_inv; obtain ⟨u, rfl⟩ := rb.int_inv; exact P.le_int ⟨_, rfl, h, rfl⟩
    · exact h.elim
  case Gt =>
    simp only [vCmp] at h
    split at h
    · obtain ⟨t, rfl⟩ := ra.int_inv; obtain ⟨u, rfl⟩ := rb.int_inv; exact P.gt_int ⟨_, rfl, h, rfl⟩
    · exact h.elim
  case GtE =>
    simp only [vCmp] at h
    split at h
    · obtain ⟨t, rfl⟩ := ra.int_inv; obtain ⟨u, rfl⟩ := rb.int_inv; exact P.ge_int ⟨_, rfl, h, rfl⟩
    · exact h.elim
  case Is =>
    simp only [vCmp] at h
    split at h
    · split at h
      · obtain rfl := ra.none_inv; obtain rfl := rb.none_inv; exact wpAny_is_self rfl ⟨_, rfl, h, rfl⟩
      · exact h.elim
    · split at h
      · obtain ⟨x, vs, n, rfl, _⟩ := ra.tup_inv; obtain rfl := rb.none_inv; exact wpAny_is_other rfl (fun q => by cases q) ⟨_, rfl, h, rfl⟩
      · exact h.elim
    · split at h
      · obtain ⟨t, rfl⟩ := ra.int_inv; obtain rfl := rb.none_inv; exact wpAny_is_other rfl (fun q => by cases q) ⟨_, rfl, h, rfl⟩
      · exact h.elim
    · exact h.elim
  case IsNot =>
    simp only [vCmp] at h
    split at h
    · split at h
      · obtain rfl := ra.none_inv; obtain rfl := rb.none_inv; exact wpAny_isNot_self rfl ⟨_, rfl, h, rfl⟩
      · exact h.elim
    · split at h
      · obtain ⟨x, vs, n, rfl, _⟩ := ra.tup_inv; obtain rfl := rb.none_inv; exact wpAny_isNot_other rfl (fun q => by cases q) ⟨_, rfl, h, rfl⟩
      · exact h.elim
    · split at h
      · obtain ⟨t, rfl⟩ := ra.int_inv; obtain rfl := rb.none_inv; exact wpAny_isNot_other rfl (fun q => by cases q) ⟨_, rfl, h, rfl⟩
      · exact h.elim
    · exact h.elim
  case Eq =>
    simp only [vCmp] at h
    split at h
    · split at h
      · rename_i a _ b
        obtain ⟨t, rfl⟩ := ra.int_inv; obtain ⟨u, rfl⟩ := rb.int_inv
        have e : (a == b) = decide (a = b) := by by_cases q : a = b <;> simp [q]
        exact P.eq_int (by rw [e]; exact ⟨_, rfl, h, rfl⟩)
      · exact h.elim
    · obtain ⟨h1, h2, h3⟩ := h
      obtain ⟨as, r1⟩ := ra.reads S h1
      obtain ⟨bs, r2⟩ := rb.reads S h2
      exact eq_dataH r1 r2 (shaped_of h1) (shaped_of h2) hu ⟨_, rfl, h3 _ (kqd_eqv 8 a b 8 h1 h2), rfl⟩
  case NotEq =>
    simp only [vCmp] at h
    split at h
    · split at h
      · rename_i a _ b
        obtain ⟨t, rfl⟩ := ra.int_inv; obtain ⟨u, rfl⟩ := rb.int_inv
        have e : (a != b) = !decide (a = b) := by by_cases q : a = b <;> simp [q]
        exact P.ne_int (by rw [e]; exact ⟨_, rfl, h, rfl⟩)
      · exact h.elim
    · split at h
      · obtain rfl := ra.bool_inv; obtain rfl := rb.bool_inv; exact ne_bool ⟨_, rfl, h, rfl⟩
      · exact h.elim
    · obtain ⟨h1, h2, h3⟩ := h
      obtain ⟨as, r1⟩ := ra.reads S h1
      obtain ⟨bs, r2⟩ := rb.reads S h2
      exact ne_dataH r1 r2 (shaped_of h1) (shaped_of h2) hu ⟨_, rfl, h3 _ (kqd_eqv 8 a b 8 h1 h2), rfl⟩
  all_goals exact h.elim
section
variable {c : Cx} {n : Nat} {Z Z1 : Zs} {O O1 : Str → Option Addr} {ρ : Rho} {s s1 : Shared} {K : Dat → Rho → Prop}
theorem EvR.then {v : Value} {s2 : Shared} {K : Dat → Rho → Prop} {ρ1 : Rho} (e : Ends c Z O s Z1 O1 ρ1 s1) (o : Xp O s O1 s1) (h : EvR c Z1 O1 s1 K v s2) : EvR c Z O s K v s2 := by
  obtain ⟨d, ρ', Z', O', a, b, d1, d2⟩ := h
  exact ⟨d, ρ', Z', O', a, e.trans b, o.trans d1, d2⟩

theorem ndebug (ok : c.Ok n) {x : Str} {k : NameKind} (h : c.env.kindOf x = some k) : (x == ("__debug__" : Str)) = false := by
  refine beq_eq_false_iff_ne.mpr fun e => ?_
  have := ok.nd
  rw [← e, h] at this
  cases this

theorem name_read (ok : c.Ok n) {x : Str} {pos : Pos} {r : RV} {Q : Value → Shared → Prop} (S : St c Z O ρ s.heap) (hx : ρ.lookup x = some r) (h : ∀ v, Has Z O s.heap x v r → Q v s) : WP c (eval (.Name x pos) c.env) Q s := by
  obtain ⟨m, cm, F, C, V⟩ := S.fr
  obtain ⟨v, hv, hr⟩ := V x r hx
  rcases hv with ⟨hk, hm⟩ | ⟨hk, a, ha, hm⟩
  · exact wpAny_Name (wpAny_loadName_local ok.kind hk F.ns hm (h v hr)) (ndebug ok hk)
  · exact wpAny_Name (wpAny_loadName_cell ok.kind hk ha (hm ▸ C x a ha) (h v hr)) (ndebug ok hk)

theorem Ev.intC {i : Int} {k : Nat} {pos : Pos} (h : K (.int i) ρ) : Ev c ρ (.Constant (.int i) k pos) K := fun _ _ _ S => wpAny_Constant_int (.of h (.tok S _) (.int _ _))
theorem Ev.nothing {k : Nat} {pos : Pos} (h : K .none ρ) : Ev c ρ (.Constant .none k pos) K := fun _ _ _ S => wpAny_Constant_none (.of h (.refl S) .none)
theorem Ev.boolC {b : Bool} {k : Nat} {pos : Pos} (h : K (.bool b) ρ) : Ev c ρ (.Constant (.bool b) k pos) K := fun _ _ _ S => wpAny_Constant_bool (.of h (.refl S) (.bool b))
theorem Ev.dat (ok : c.Ok n) {x : Str} {pos : Pos} {d : Dat} (hx : ρ.lookup x = some (.dat d)) (h : K d ρ) : Ev c ρ (.Name x pos) K :=
  fun _ _ _ S => name_read ok S hx fun _ hv => .of h (.refl S) hv
theorem Ev.own (ok : c.Ok n) {x : Str} {pos : Pos} {ds : List Dat} (hx : ρ.lookup x = some (.own ds)) (h : K (.list ds) (upd ρ x (.dat (.list ds)))) : Ev c ρ (.Name x pos) K := by
  intro Z O s S
  obtain ⟨m, cm, v, F, C, hv, Z', O', S', P, hO, rd⟩ := S.freeze hx
  have fin : EvR c Z O s K v s := ⟨_, _, Z', O', h, ⟨s.heap, s.toks, rfl, S', P⟩, ⟨hO, fun _ _ q _ => q⟩, rd⟩
  rcases hv with ⟨hk, hm⟩ | ⟨hk, a, ha, hm⟩
  · exact wpAny_Name (wpAny_loadName_local ok.kind hk F.ns hm fin) (ndebug ok hk)
  · exact wpAny_Name (wpAny_loadName_cell ok.kind hk ha (hm ▸ C x a ha) fin) (ndebug ok hk)

theorem Ev.bin {op : Operator} {l r : Expr} {pos : Pos} (h : Ev c ρ l fun a ρ1 => Ev c ρ1 r fun b ρ2 => vBin op a b fun d => K d ρ2) : Ev c ρ (.BinOp l op r pos) K := by
  intro Z O s S
  refine wpAny_BinOp (wp_mono (h Z O s S) ?_)
  rintro va s1 ⟨a, ρ1, Z1, O1, k1, e1, o1, r1⟩
  refine wp_mono (k1 Z1 O1 s1 e1.st) ?_
  rintro vb s2 ⟨b, ρ2, Z2, O2, k2, e2, o2, r2⟩
  refine wp_mono (bin_sound e2.st (r1.mono e2.z) r2 k2) ?_
  rintro v s3 ⟨d, ρ3, Z3, O3, ⟨rfl, k3⟩, e3, o3, r3⟩
  exact ⟨d, _, Z3, O3, k3, e1.trans (e2.trans e3), o1.trans (o2.trans o3), r3⟩

theorem Ev.neg {x : Expr} {pos : Pos} (h : Ev c ρ x fun a ρ1 => ∃ i, a = .int i ∧ K (.int (-i)) ρ1) : Ev c ρ (.UnaryOp .USub x pos) K := by
  intro Z O s S
  refine wpAny_UnaryOp (wp_mono (h Z O s S) ?_)
  rintro va s1 ⟨a, ρ1, Z1, O1, ⟨i, rfl, k1⟩, e1, o1, r1⟩
  obtain ⟨t, rfl⟩ := r1.int_inv
  exact P.neg_int (EvR.then e1 o1 (.of k1 (.tok e1.st _) (.int _ _)))

/-- a test, from a frame ρ, ends in a truth and a frame that K holds of -/
noncomputable def TeR (c : Cx) (Z : Zs) (O : Str → Option Addr) (s : Shared) (K : Bool → Rho → Prop) (b : Bool) (s' : Shared) : Prop :=
  ∃ ρ' Z' O', K b ρ' ∧ Ends c Z O s Z' O' ρ' s' ∧ Xp O s O' s'
theorem TeR.then {b : Bool} {s2 : Shared} {K : Bool → Rho → Prop} {ρ1 : Rho} (e : Ends c Z O s Z1 O1 ρ1 s1) (o : Xp O s O1 s1) (h : TeR c Z1 O1 s1 K b s2) : TeR c Z O s K b s2 := by
  obtain ⟨ρ', Z', O', a, b, d1⟩ := h
  exact ⟨ρ', Z', O', a, e.trans b, o.trans d1⟩
noncomputable def Te (c : Cx) (ρ : Rho) (e : Expr) (K : Bool → Rho → Prop) : Prop := ∀ Z O s, St c Z O ρ s.heap → WP c (isTrue e c.env (eval e c.env)) (TeR c Z O s K) s
theorem Te.mono {e : Expr} {K K' : Bool → Rho → Prop} (h : Te c ρ e K) (k : ∀ d ρ', K d ρ' → K' d ρ') : Te c ρ e K' :=
  fun Z O s S => wp_mono (h Z O s S) fun _ _ ⟨ρ', Z', O', a, b⟩ => ⟨ρ', Z', O', k _ _ a, b⟩

noncomputable def plainE : Expr → Bool
  | .Set .. => false
  | .Starred .. => false
  | .Slice .. => false
  | _ => true
theorem plain_marks {op : CmpOp} {e : Expr} (h : plainE e = true) : behindInMarks op e = false := by cases e <;> first | rfl | cases h

theorem Ev.cmp (ok : c.Ok n) {op : CmpOp} {l r : Expr} {pos : Pos} (hp : plainE r = true) (h : Ev c ρ l fun a ρ1 => Ev c ρ1 r fun b ρ2 => vCmp op a b fun t => K (.bool t) ρ2) : Ev c ρ (.Compare l [op] [r] pos) K := by
  intro Z O s S
  refine wpAny_Compare1 (wp_mono (h Z O s S) ?_) (plain_marks hp)
  rintro va s1 ⟨a, ρ1, Z1, O1, k1, e1, o1, r1⟩
  refine wp_mono (k1 Z1 O1 s1 e1.st) ?_
  rintro vb s2 ⟨b, ρ2, Z2, O2, k2, e2, o2, r2⟩
  refine wp_mono (cmp_sound ok e2.st (r1.mono e2.z) r2 k2) ?_
  rintro v s3 ⟨t, rfl, k3, rfl⟩
  exact ⟨.bool t, _, Z2, O2, k3, e1.trans e2, o1.trans o2, .bool t⟩
theorem Te.cmp (ok : c.Ok n) {op : CmpOp} {l r : Expr} {pos : Pos} {K : Bool → Rho → Prop} (hp : plainE r = true) (h : Ev c ρ l fun a ρ1 => Ev c ρ1 r fun b ρ2 => vCmp op a b fun t => K t ρ2) : Te c ρ (.Compare l [op] [r] pos) K := by
  intro Z O s S
  refine wpAny_isTrue_Compare1 (wp_mono (h Z O s S) ?_) (plain_marks hp)
  rintro va s1 ⟨a, ρ1, Z1, O1, k1, e1, o1, r1⟩
  refine wp_mono (k1 Z1 O1 s1 e1.st) ?_
  rintro vb s2 ⟨b, ρ2, Z2, O2, k2, e2, o2, r2⟩
  refine wp_mono (cmp_sound ok e2.st (r1.mono e2.z) r2 k2) ?_
  rintro v s3 ⟨t, rfl, k3, rfl⟩
  exact wpAny_truthy_bool ⟨_, Z2, O2, k3, e1.trans e2, o1.trans o2⟩
theorem Te.cmp2 (ok : c.Ok n) {op op' : CmpOp} {l r r' : Expr} {pos : Pos} {K : Bool → Rho → Prop} (hp' : plainE r' = true)
    (h : Ev c ρ l fun a ρ1 => Ev c ρ1 r fun b ρ2 => vCmp op a b fun t => (t = false → K false ρ2) ∧ (t = true → Ev c ρ2 r' fun b' ρ3 => vCmp op' b b' fun t' => K t' ρ3)) : Te c ρ (.Compare l [op, op'] [r, r'] pos) K := by
  intro Z O s S
  refine isTrue_chain (wp_mono (h Z O s S) ?_) (by show behindInMarks op' r' = false; exact plain_marks hp')
  rintro va s1 ⟨a, ρ1, Z1, O1, k1, e1, o1, r1⟩
  refine test_link (wp_mono (k1 Z1 O1 s1 e1.st) ?_)
  rintro vb s2 ⟨b, ρ2, Z2, O2, k2, e2, o2, r2⟩
  refine wp_mono (cmp_sound ok e2.st (r1.mono e2.z) r2 k2) ?_
  rintro v s3 ⟨t, rfl, k3, rfl⟩
  refine wpAny_truthy_bool ?_
  cases t with
  | false => exact ⟨_, Z2, O2, k3.1 rfl, e1.trans e2, o1.trans o2⟩
  | true =>
    have k4 := k3.2 rfl Z2 O2 s3 e2.st
    refine test_last (wp_mono k4 ?_)
    rintro vb' s4 ⟨b', ρ4, Z4, O4, k4, e4, o4, r4⟩
    refine wp_mono (cmp_sound ok e4.st (r2.mono e4.z) r4 k4) ?_
    rintro v s5 ⟨t, rfl, k5, rfl⟩
    exact wpAny_truthy_bool ⟨_, Z4, O4, k5, e1.trans (e2.trans e4), o1.trans (o2.trans o4)⟩

theorem Te.notT {x : Expr} {pos : Pos} {K : Bool → Rho → Prop} (h : Te c ρ x fun b ρ1 => K (!b) ρ1) : Te c ρ (.UnaryOp .Not x pos) K :=
  fun Z O s S => wpAny_isTrue_Not (wp_mono (h Z O s S) fun _ _ q => q)
theorem Ev.notE {x : Expr} {pos : Pos} (h : Ev c ρ x fun a ρ1 => ∃ b, a = .bool b ∧ K (.bool !b) ρ1) : Ev c ρ (.UnaryOp .Not x pos) K := by
  intro Z O s S
  refine wpAny_UnaryOp (wp_mono (h Z O s S) ?_)
  rintro va s1 ⟨a, ρ1, Z1, O1, ⟨b, rfl, k1⟩, e1, o1, r1⟩
  obtain rfl := r1.bool_inv
  exact not_of (wpAny_truthy_bool ⟨.bool !b, _, Z1, O1, k1, e1, o1, .bool _⟩)
theorem Te.and_nil {pos : Pos} {K : Bool → Rho → Prop} (h : K true ρ) : Te c ρ (.BoolOp .And [] pos) K := fun Z O _ S => wpAny_isTrue_BoolOp (wpAny_allTrue_And_nil ⟨ρ, Z, O, h, .refl S, .refl⟩)
theorem Te.or_nil {pos : Pos} {K : Bool → Rho → Prop} (h : K false ρ) : Te c ρ (.BoolOp .Or [] pos) K := fun Z O _ S => wpAny_isTrue_BoolOp (wpAny_allTrue_Or_nil ⟨ρ, Z, O, h, .refl S, .refl⟩)
theorem allTrue_of {op : BoolOp} {xs : List Expr} {pos : Pos} {Q : Bool → Shared → Prop} (h : WP c (isTrue (.BoolOp op xs pos) c.env (eval (.BoolOp op xs pos) c.env)) Q s) : WP c (allTrue op xs c.env) Q s := h
theorem Te.and_cons {x : Expr} {rest : List Expr} {pos : Pos} {K : Bool → Rho → Prop} (h : Te c ρ x fun b ρ1 => (b = false → K false ρ1) ∧ (b = true → Te c ρ1 (.BoolOp .And rest pos) K)) : Te c ρ (.BoolOp .And (x :: rest) pos) K := by
  intro Z O s S
  refine wpAny_isTrue_BoolOp (wpAny_allTrue_And_cons (wp_mono (h Z O s S) ?_))
  rintro b s1 ⟨ρ1, Z1, O1, k1, e1, o1⟩
  cases b with
  | false => exact ⟨ρ1, Z1, O1, k1.1 rfl, e1, o1⟩
  | true => exact wp_mono (allTrue_of (k1.2 rfl Z1 O1 s1 e1.st)) fun _ _ q => q.then e1 o1
theorem Te.or_cons {x : Expr} {rest : List Expr} {pos : Pos} {K : Bool → Rho → Prop} (h : Te c ρ x fun b ρ1 => (b = true → K true ρ1) ∧ (b = false → Te c ρ1 (.BoolOp .Or rest pos) K)) : Te c ρ (.BoolOp .Or (x :: rest) pos) K := by
  intro Z O s S
  refine wpAny_isTrue_BoolOp (wpAny_allTrue_Or_cons (wp_mono (h Z O s S) ?_))
  rintro b s1 ⟨ρ1, Z1, O1, k1, e1, o1⟩
  cases b with
  | true => exact ⟨ρ1, Z1, O1, k1.1 rfl, e1, o1⟩
  | false => exact wp_mono (allTrue_of (k1.2 rfl Z1 O1 s1 e1.st)) fun _ _ q => q.then e1 o1
/-- a call's answer as a test -/
theorem Te.call {f : Expr} {args : List Expr} {pos : Pos} {K : Bool → Rho → Prop} (h : Ev c ρ (.Call f args [] pos) fun a ρ1 => ∃ b, a = .bool b ∧ K b ρ1) : Te c ρ (.Call f args [] pos) K := by
  intro Z O s S
  refine wpAny_isTrue_value (wp_mono (h Z O s S) ?_)
  rintro va s1 ⟨a, ρ1, Z1, O1, ⟨b, rfl, k1⟩, e1, o1, r1⟩
  obtain rfl := r1.bool_inv
  exact wpAny_truthy_bool ⟨ρ1, Z1, O1, k1, e1, o1⟩

theorem Ev.and2 {x y : Expr} {pos : Pos} (h : Ev c ρ x fun a ρ1 => ∃ b, a = .bool b ∧ (b = false → K (.bool false) ρ1) ∧ (b = true → Ev c ρ1 y K)) : Ev c ρ (.BoolOp .And [x, y] pos) K := by
  intro Z O s S
  refine wpAny_And2 (wp_mono (h Z O s S) ?_)
  rintro va s1 ⟨a, ρ1, Z1, O1, ⟨b, rfl, k1, k2⟩, e1, o1, r1⟩
  obtain rfl := r1.bool_inv
  refine wpAny_truthy_bool ?_
  cases b with
  | false => exact ⟨_, ρ1, Z1, O1, k1 rfl, e1, o1, r1⟩
  | true => exact wp_mono (k2 rfl Z1 O1 s1 e1.st) fun _ _ q => q.then e1 o1

theorem Ev.ite {t x y : Expr} {pos : Pos} (h : Te c ρ t fun b ρ1 => (b = true → Ev c ρ1 x K) ∧ (b = false → Ev c ρ1 y K)) : Ev c ρ (.IfExp t x y pos) K := by
  intro Z O s S
  refine wpAny_IfExp (wp_mono (h Z O s S) ?_)
  rintro b s1 ⟨ρ1, Z1, O1, k1, e1, o1⟩
  cases b with
  | true => exact wp_mono (k1.1 rfl Z1 O1 s1 e1.st) fun _ _ q => q.then e1 o1
  | false => exact wp_mono (k1.2 rfl Z1 O1 s1 e1.st) fun _ _ q => q.then e1 o1

/-- expressions one behind another -/
noncomputable def EsR (c : Cx) (Z : Zs) (O : Str → Option Addr) (s : Shared) (K : List Dat → Rho → Prop) (vs : List Value) (s' : Shared) : Prop :=
  ∃ ds ρ' Z' O', K ds ρ' ∧ Ends c Z O s Z' O' ρ' s' ∧ Xp O s O' s' ∧ RdA Z' vs ds
noncomputable def Es (c : Cx) (ρ : Rho) (es : List Expr) (K : List Dat → Rho → Prop) : Prop := ∀ pos Z O s, St c Z O ρ s.heap → WP c (spliced (backTo pos (starEach es c.env))) (EsR c Z O s K) s
theorem plain_star {e : Expr} {rest : List Expr} {env : Env} (h : plainE e = true) : starEach (e :: rest) env = (false, eval e env) :: starEach rest env := by cases e <;> first | rfl | cases h
theorem Es.nil {K : List Dat → Rho → Prop} (h : K [] ρ) : Es c ρ [] K := fun _ Z O _ S => args_nil ⟨[], ρ, Z, O, h, .refl S, .refl, .nil⟩
theorem Es.cons {e : Expr} {rest : List Expr} {K : List Dat → Rho → Prop} (hp : plainE e = true) (h : Ev c ρ e fun d ρ1 => Es c ρ1 rest fun ds ρ2 => K (d :: ds) ρ2) : Es c ρ (e :: rest) K := by
  intro pos Z O s S
  refine args_cons (wp_mono (h Z O s S) ?_) (plain_star hp)
  rintro va s1 ⟨a, ρ1, Z1, O1, k1, e1, o1, r1⟩
  refine wp_mono (k1 pos Z1 O1 s1 e1.st) ?_
  rintro vs s2 ⟨ds, ρ2, Z2, O2, k2, e2, o2, r2⟩
  exact ⟨_, ρ2, Z2, O2, k2, e1.trans e2, o1.trans o2, .cons (r1.mono e2.z) r2⟩

theorem Ev.tup {elts : List Expr} {k : Nat} {pos : Pos} (h : Es c ρ elts fun ds ρ1 => ds.length ≤ 1000 ∧ K (.tuple ds) ρ1) : Ev c ρ (.Tuple elts k pos) K := by
  intro Z O s S
  refine Tuple_ (wp_mono (h pos Z O s S) ?_)
  rintro vs s1 ⟨ds, ρ1, Z1, O1, ⟨hl, k1⟩, e1, o1, r1⟩
  have hl' := r1.len
  refine wpAny_newObj_type (EvR.then e1 o1 ?_) (by show vs.toArray.size ≤ sizeLine; have := sizeLine_ge; rw [List.size_toArray]; omega)
  exact .of k1 (Ends.put (tk := s1.toks) e1.st (fun b o => Heap.get?_push_of_some _) (get_fresh _) (Heap.get?_push_size _ rfl)) (.tup (.inr ⟨rfl, rfl⟩) (r1.mono fun _ _ q => .inl q))
theorem Ev.listD {elts : List Expr} {pos : Pos} (h : Es c ρ elts fun ds ρ1 => ds.length ≤ 1000 ∧ K (.list ds) ρ1) : Ev c ρ (.List elts pos) K := by
  intro Z O s S
  refine List_ (wp_mono (h pos Z O s S) ?_)
  rintro vs s1 ⟨ds, ρ1, Z1, O1, ⟨hl, k1⟩, e1, o1, r1⟩
  have hl' := r1.len
  refine wpAny_newObj_type (EvR.then e1 o1 ?_) (by show vs.toArray.size ≤ sizeLine; have := sizeLine_ge; rw [List.size_toArray]; omega)
  exact .of k1 (Ends.put (tk := s1.toks) e1.st (fun b o => Heap.get?_push_of_some _) (get_fresh _) (Heap.get?_push_size _ rfl)) (.lst (.inr ⟨rfl, rfl⟩) (r1.mono fun _ _ q => .inl q))
end
section
variable {c : Cx} {n : Nat} {Z Z1 : Zs} {O O1 : Str → Option Addr} {ρ : Rho} {s s1 : Shared} {K : Dat → Rho → Prop}

/-- the place that an index names -/
noncomputable def place (k : Int) (n : Nat) : Option Nat := if 0 ≤ k then (if k < n then some k.toNat else none) else if -(n : Int) ≤ k then some (k + n).toNat else none
noncomputable def vItem (a : Dat) (k : Int) (K : Dat → Prop) : Prop :=
  match a with
  | .tuple ds => ds.length ≤ 1000 ∧ ∃ j d, place k ds.length = some j ∧ ds[j]? = some d ∧ K d
  | .list ds => ds.length ≤ 1000 ∧ ∃ j d, place k ds.length = some j ∧ ds[j]? = some d ∧ K d
  | _ => False
theorem place_of {k : Int} {n j : Nat} (hj : place k n = some j) (hl : n ≤ 1000) : -(2 ^ 63) ≤ k ∧ k < 2 ^ 63 ∧ seqIndex? k n = some j := by
  unfold place at hj
  unfold seqIndex?
  dsimp only
  by_cases h0 : 0 ≤ k
  · rw [if_pos h0] at hj
    have q : ¬ k < 0 := by omega
    by_cases h1 : k < n
    · rw [if_pos h1] at hj; cases hj
      refine ⟨by omega, by omega, ?_⟩
      rw [if_neg q, if_pos (by rw [decide_eq_true h0, decide_eq_true h1]; rfl)]
    · rw [if_neg h1] at hj; cases hj
  · rw [if_neg h0] at hj
    have q : k < 0 := by omega
    by_cases h1 : -(n : Int) ≤ k
    · rw [if_pos h1] at hj; cases hj
      refine ⟨by omega, by omega, ?_⟩
      have e1 : 0 ≤ k + (n : Int) := by omega
      have e2 : k + (n : Int) < n := by omega
      rw [if_pos q, if_pos (by rw [decide_eq_true e1, decide_eq_true e2]; rfl)]
    · rw [if_neg h1] at hj; cases hj
theorem plain_sub {e : Expr} {o i : Value} (h : plainE e = true) : subscripted e false o i = operate [o, i] (getItem o i) := by cases e <;> first | rfl | cases h
theorem list_item {a : Addr} {vs : List Value} {m : Nat} {ds : List Dat} {k : Int} {t : Tok} {j : Nat} {d : Dat} {value slice : Expr} {Q : Value → Shared → Prop} (hp : plainE slice = true) (ha : s.heap.get? a = some (listOf vs.toArray m)) (r : RdA Z vs ds)
    (hl : ds.length ≤ 1000) (hj : place k ds.length = some j) (hd : ds[j]? = some d) (h : ∀ v, Rd Z v d → Q v s) : WP c (subscriptTail value slice (.ref a) (.int k t)) Q s := by
  have L : s.heap.IsList a vs.toArray := ⟨_, ha, rfl, m, rfl⟩
  obtain ⟨v, hv, rv⟩ := r.get hd
  have hn := r.len
  refine tail_any L.typeIs slot_list_getitem.lookup ?_ (plain_sub hp)
  unfold place at hj
  by_cases h0 : 0 ≤ k
  · rw [if_pos h0] at hj
    by_cases h1 : k < ds.length
    · rw [if_pos h1] at hj; cases hj
      exact wpAny_getItem_list L h0 (by omega) (by simpa using hv) (h v rv)
    · rw [if_neg h1] at hj; cases hj
  · rw [if_neg h0] at hj
    by_cases h1 : -(ds.length : Int) ≤ k
    · rw [if_pos h1] at hj; cases hj
      have hs : vs.toArray.size = ds.length := by simpa using hn
      exact wpAny_getItem_list_neg L (by omega) (by rw [hs]; exact h1) (by omega) (by rw [hs]; simpa using hv) (h v rv)
    · rw [if_neg h1] at hj; cases hj
theorem tuple_item {a : Addr} {vs : List Value} {m : Nat} {ds : List Dat} {k : Int} {t : Tok} {j : Nat} {d : Dat} {value slice : Expr} {Q : Value → Shared → Prop} (hp : plainE slice = true) (ha : s.heap.get? a = some (tupOf vs.toArray m)) (r : RdA Z vs ds)
    (hl : ds.length ≤ 1000) (hj : place k ds.length = some j) (hd : ds[j]? = some d) (h : ∀ v, Rd Z v d → Q v s) : WP c (subscriptTail value slice (.ref a) (.int k t)) Q s := by
  have L : IsTup s.heap a vs.toArray := ⟨_, ha, rfl, m, rfl⟩
  obtain ⟨v, hv, rv⟩ := r.get hd
  have hn := r.len
  have hs : vs.toArray.size = ds.length := by simpa using hn
  obtain ⟨k1, k2, k3⟩ := place_of hj hl
  exact tail_any L.typeIs slot_tuple_getitem.lookup (getItem_tuple L k1 k2 (by rw [hs]; exact k3) (by simpa using hv) (h v rv)) (plain_sub hp)

theorem Ev.item {value slice : Expr} {pos : Pos} (hp : plainE slice = true) (h : Ev c ρ value fun a ρ1 => Ev c ρ1 slice fun b ρ2 => ∃ k, b = .int k ∧ vItem a k fun d => K d ρ2) : Ev c ρ (.Subscript value slice pos) K := by
  intro Z O s S
  refine Subscript_ (wp_mono (h Z O s S) ?_)
  rintro va s1 ⟨a, ρ1, Z1, O1, k1, e1, o1, r1⟩
  refine wp_mono (k1 Z1 O1 s1 e1.st) ?_
  rintro vb s2 ⟨b, ρ2, Z2, O2, ⟨k, rfl, k2⟩, e2, o2, r2⟩
  obtain ⟨t, rfl⟩ := r2.int_inv
  unfold vItem at k2
  split at k2
  · obtain ⟨hl, j, d, hj, hd, k3⟩ := k2
    obtain ⟨x, vs, m, rfl, hx, rx⟩ := (r1.mono e2.z).tup_inv
    exact tuple_item hp (e2.st.zin _ _ hx) rx hl hj hd fun v rv => ⟨d, ρ2, Z2, O2, k3, e1.trans e2, o1.trans o2, rv⟩
  · obtain ⟨hl, j, d, hj, hd, k3⟩ := k2
    obtain ⟨x, vs, m, rfl, hx, rx⟩ := (r1.mono e2.z).lst_inv
    exact list_item hp (e2.st.zin _ _ hx) rx hl hj hd fun v rv => ⟨d, ρ2, Z2, O2, k3, e1.trans e2, o1.trans o2, rv⟩
  · exact k2.elim

/-- an own list's item: the list stays the frame's own -/
theorem Ev.itemOwn (ok : c.Ok n) {x : Str} {p : Pos} {slice : Expr} {pos : Pos} {ds₀ : List Dat} (hx : ρ.lookup x = some (.own ds₀)) (hp : plainE slice = true)
    (h : Ev c ρ slice fun b ρ2 => ∃ k ds, b = .int k ∧ ρ2.lookup x = some (.own ds) ∧ vItem (.list ds) k fun d => K d ρ2) : Ev c ρ (.Subscript (.Name x p) slice pos) K := by
  intro Z O s S
  refine Subscript_ (name_read ok S hx ?_)
  rintro va ⟨a, vs, m, ha, rfl, _, _⟩
  refine wp_mono (h Z O s S) ?_
  rintro vb s2 ⟨b, ρ2, Z2, O2, ⟨k, ds, rfl, hx2, k2⟩, e2, o2, r2⟩
  obtain ⟨t, rfl⟩ := r2.int_inv
  obtain ⟨hl, j, d, hj, hd, k3⟩ := k2
  obtain ⟨m2, cm2, F2, C2, V2⟩ := e2.st.fr
  obtain ⟨v, _, a', vs', m', ha', rfl, hg, rx⟩ := V2 x _ hx2
  have : a' = a := Option.some.inj ((o2.sub _ _ ha').symm.trans ha)
  subst this
  exact list_item hp hg rx hl hj hd fun v rv => ⟨d, ρ2, Z2, O2, k3, e2, o2, rv⟩

/-- a part of a slice -/
noncomputable def Part (c : Cx) (ρ : Rho) (e : Option Expr) (K : Option Int → Rho → Prop) : Prop :=
  match e with
  | none => K none ρ
  | some e => Ev c ρ e fun a ρ1 => ∃ k, a = .int k ∧ K (some k) ρ1
theorem Part.run {e : Option Expr} {K : Option Int → Rho → Prop} (h : Part c ρ e K) (S : St c Z O ρ s.heap) {Q : Value → Shared → Prop}
    (k : ∀ v i s1 ρ1 Z1 O1, IsPart v i → K i ρ1 → Ends c Z O s Z1 O1 ρ1 s1 → Xp O s O1 s1 → Q v s1) : WP c (evalPart e c.env) Q s := by
  cases e with
  | none => exact wpAny_pure (k _ _ _ _ _ _ .none h (.refl S) .refl)
  | some e =>
    refine wp_mono (h Z O s S) ?_
    rintro va s1 ⟨a, ρ1, Z1, O1, ⟨i, rfl, k1⟩, e1, o1, r1⟩
    obtain ⟨t, rfl⟩ := r1.int_inv
    exact k _ _ _ _ _ _ (.int i t) k1 e1 o1
noncomputable def cut (ds : List Dat) (lo hi : Option Int) : List Dat := (ds.drop (lo.elim 0 (clipAt ds.length))).take (hi.elim ds.length (clipAt ds.length) - lo.elim 0 (clipAt ds.length))
theorem clip_nat {n : Nat} (k : Nat) : clipAt n (k : Int) = min k n := by
  unfold clipAt
  rw [if_neg (Int.not_lt.mpr (Int.natCast_nonneg k)), Int.max_eq_right (Int.le_min.mpr ⟨Int.natCast_nonneg k, Int.natCast_nonneg n⟩)]
  rcases Nat.le_total k n with h | h
  · rw [Int.min_eq_left (Int.ofNat_le.mpr h), Nat.min_eq_left h]; rfl
  · rw [Int.min_eq_right (Int.ofNat_le.mpr h), Nat.min_eq_right h]; rfl
theorem list_cutL {a : Addr} {vs : List Value} {ds : List Dat} {vl vu : Value} {lo hi : Option Int} {value : Expr} {l u : Option Expr} {p : Pos} {Q : Value → Shared → Prop}
    (S : St c Z O ρ s.heap) (L0 : s.heap.IsList a vs.toArray) (r : RdA Z vs ds) (hl : ds.length ≤ 1000) (pl : IsPart vl lo) (pu : IsPart vu hi)
    (h : ∀ v h' Z', Ends c Z O s Z' O ρ { s with heap := h' } → (∀ b o, s.heap.get? b = some o → h'.get? b = some o) → Rd Z' v (.list (cut ds lo hi)) → Q v { s with heap := h' }) :
    WP c (subscriptTail value (.Slice l u none p) (.ref a) (.ref s.heap.objs.size)) Q { s with heap := s.heap.push { cls := .type "slice", data := .fields #[vl, vu, .none] } } := by
  have hn := r.len
  have L : (s.heap.push { cls := .type "slice", data := .fields #[vl, vu, .none] }).IsList a vs.toArray := L0.push _
  refine tail_any (s := { s with heap := s.heap.push { cls := .type "slice", data := .fields #[vl, vu, .none] } }) (ops := [.ref s.heap.objs.size, .ref a]) (T := "list") L.typeIs slot_list_getitem.lookup
    (wpAny_getItem_list_slice L (Heap.IsSliceOf.new ..) pl pu .none (by simp) ?_ (by have := sizeLine_ge; rw [List.size_toArray]; omega)) rfl
  have e : slicePick vs.toArray lo hi none = ((vs.drop (lo.elim 0 (clipAt ds.length))).take (hi.elim ds.length (clipAt ds.length) - lo.elim 0 (clipAt ds.length))).toArray := by
    rw [slicePick_plain]
    have : vs.toArray.size = ds.length := by simpa using hn
    rw [this]
  rw [e]
  have k : ∀ b o, s.heap.get? b = some o → ((s.heap.push { cls := .type "slice", data := .fields #[vl, vu, .none] }).push { cls := .type "list", data := .seq ((vs.drop (lo.elim 0 (clipAt ds.length))).take (hi.elim ds.length (clipAt ds.length) - lo.elim 0 (clipAt ds.length))).toArray }).get? b = some o :=
    fun b o q => Heap.get?_push_of_some _ (Heap.get?_push_of_some _ q)
  refine h _ _ _ (Ends.put (tk := s.toks) S k ?_ (Heap.get?_push_size _ rfl)) k (.lst (.inr ⟨rfl, rfl⟩) (((r.drop _).take _).mono fun _ _ q => .inl q))
  exact Heap.get?_none_of_le (by rw [Heap.size_push]; exact Nat.le_succ _)

theorem list_cut {a : Addr} {vs : List Value} {m : Nat} {ds : List Dat} {vl vu : Value} {lo hi : Option Int} {value : Expr} {l u : Option Expr} {p : Pos} {Q : Value → Shared → Prop}
    (S : St c Z O ρ s.heap) (ha : s.heap.get? a = some (listOf vs.toArray m)) (r : RdA Z vs ds) (hl : ds.length ≤ 1000) (pl : IsPart vl lo) (pu : IsPart vu hi)
    (h : ∀ v h' Z', Ends c Z O s Z' O ρ { s with heap := h' } → (∀ b o, s.heap.get? b = some o → h'.get? b = some o) → Rd Z' v (.list (cut ds lo hi)) → Q v { s with heap := h' }) :
    WP c (subscriptTail value (.Slice l u none p) (.ref a) (.ref s.heap.objs.size)) Q { s with heap := s.heap.push { cls := .type "slice", data := .fields #[vl, vu, .none] } } :=
  list_cutL S ⟨_, ha, rfl, m, rfl⟩ r hl pl pu h

theorem Ev.slice {value : Expr} {l u : Option Expr} {p pos : Pos} (h : Ev c ρ value fun a ρ1 => Part c ρ1 l fun lo ρ2 => Part c ρ2 u fun hi ρ3 => ∃ ds, a = .list ds ∧ ds.length ≤ 1000 ∧ K (.list (cut ds lo hi)) ρ3) :
    Ev c ρ (.Subscript value (.Slice l u none p) pos) K := by
  intro Z O s S
  refine Subscript_ (wp_mono (h Z O s S) ?_)
  rintro va s1 ⟨a, ρ1, Z1, O1, k1, e1, o1, r1⟩
  refine wpAny_Slice (k1.run e1.st ?_)
  intro vl lo s2 ρ2 Z2 O2 pl k2 e2 o2
  refine k2.run e2.st ?_
  rintro vu hi s3 ρ3 Z3 O3 pu ⟨ds, rfl, hl, k3⟩ e3 o3
  refine wpAny_pure ?_
  obtain ⟨x, vs, m, rfl, hx, rx⟩ := ((r1.mono e2.z).mono e3.z).lst_inv
  refine list_cut e3.st (e3.st.zin _ _ hx) rx hl pl pu fun v h' Z' ee kk rd => ?_
  exact ⟨_, ρ3, Z', O3, k3, e1.trans (e2.trans (e3.trans ee)), o1.trans (o2.trans (o3.trans (.grow kk))), rd⟩
theorem Ev.sliceOwn (ok : c.Ok n) {x : Str} {q : Pos} {l u : Option Expr} {p pos : Pos} {ds₀ : List Dat} (hx : ρ.lookup x = some (.own ds₀))
    (h : Part c ρ l fun lo ρ2 => Part c ρ2 u fun hi ρ3 => ∃ ds, ρ3.lookup x = some (.own ds) ∧ ds.length ≤ 1000 ∧ K (.list (cut ds lo hi)) ρ3) :
    Ev c ρ (.Subscript (.Name x q) (.Slice l u none p) pos) K := by
  intro Z O s S
  refine Subscript_ (name_read ok S hx ?_)
  rintro va ⟨a, vs, m, ha, rfl, _, _⟩
  refine wpAny_Slice (h.run S ?_)
  intro vl lo s2 ρ2 Z2 O2 pl k2 e2 o2
  refine k2.run e2.st ?_
  rintro vu hi s3 ρ3 Z3 O3 pu ⟨ds, hx3, hl, k3⟩ e3 o3
  refine wpAny_pure ?_
  obtain ⟨m3, cm3, F3, C3, V3⟩ := e3.st.fr
  obtain ⟨v, _, a', vs', m', ha', rfl, hg, rx⟩ := V3 x _ hx3
  have : a' = a := Option.some.inj (((o2.trans o3).sub _ _ ha').symm.trans ha)
  subst this
  refine list_cut e3.st hg rx hl pl pu fun v h' Z' ee kk rd => ?_
  exact ⟨_, ρ3, Z', O3, k3, e2.trans (e3.trans ee), o2.trans (o3.trans (.grow kk)), rd⟩

/-- a global name of the frame -/
noncomputable def FnOk (g : GC) (f : Str) (n : Nat) (ds : List Dat) (d : Dat) : Prop :=
  ∀ (A : Around) (s : Shared) (Z : Zs) (vs : List Value) (fa : Addr), Room A n → g.Ok → g.Glob s.heap → (∀ a o, Z a o → s.heap.get? a = some o) → RdA Z vs ds → g.mg f = some (.ref fa) →
    wpAny (model g.prog g.w) A (call (.ref fa) vs) (fun r s' => ∃ h' tk' Z', s' = { s with heap := h', toks := tk' } ∧ (∀ b o, s.heap.get? b = some o → h'.get? b = some o) ∧
      (∀ a o, Z a o → Z' a o) ∧ (∀ a o, Z' a o → h'.get? a = some o ∧ (Z a o ∨ s.heap.get? a = none)) ∧ Rd Z' r d) (fun _ _ => False) s

theorem St.glob (ok : c.Ok n) (S : St c Z O ρ s.heap) : c.g.Glob s.heap := by
  obtain ⟨m, cm, F, _⟩ := S.fr
  exact ok.G.keeps F.keep

theorem fn_read (ok : c.Ok n) {f : DefItem} {pos : Pos} {Q : Value → Shared → Prop} (S : St c Z O ρ s.heap) (hk : c.env.kindOf f.name = some .globalImplicit) (hf : f ∈ progDefs) (hnd : f.params.defaults = [])
    (h : ∀ fa c' o pm doc, c.g.mg f.name = some (.ref fa) → s.heap.get? fa = some o → o.data = .func (docDef f.name f.params f.body f.scope pm (.ref c') doc) → Q (.ref fa) s) : WP c (eval (.Name f.name pos) c.env) Q s := by
  have G := S.glob ok
  obtain ⟨fa, c', o, pm, doc, _, _, h3, h4, h5, h6⟩ := (G.made f (ok.go.fn f hf)).plain hnd
  exact Name_function_global ok.kind hk (loadGlobal_global (by rw [ok.glob]; exact G.g) h3 (h fa c' o pm doc h3 h4 h5)) (ndebug ok hk)

theorem Ev.call (ok : c.Ok n) {f : DefItem} {p pos : Pos} {e : Expr} {rest : List Expr} (hk : c.env.kindOf f.name = some .globalImplicit) (hf : f ∈ progDefs) (hnd : f.params.defaults = []) (hp : plainE e = true)
    (h : Es c ρ (e :: rest) fun ds ρ1 => ∃ d, FnOk c.g f.name n ds d ∧ K d ρ1) : Ev c ρ (.Call (.Name f.name p) (e :: rest) [] pos) K := by
  intro Z O s S
  refine Call_Name rfl (fn_read ok S hk hf hnd ?_)
  intro fa c' o pm doc hm ho hd
  refine callWith_def hd (wp_mono (h pos Z O s S) ?_) (plain_star hp)
  rintro vs s1 ⟨ds, ρ1, Z1, O1, ⟨d, hF, k1⟩, e1, o1, r1⟩
  have G1 : c.g.Glob s1.heap := e1.st.glob ok
  have G0 : c.g.Glob c.h₀ := ok.G
  obtain ⟨fa2, _, o0, _, _, _, _, h3', h4', _, _⟩ := (G0.made f (ok.go.fn f hf)).plain hnd
  have e2 : fa2 = fa := by rw [hm] at h3'; cases h3'; rfl
  rw [e2] at h4'
  obtain ⟨m1, cm1, F1, _⟩ := e1.st.fr
  obtain ⟨m0, cm0, F0, _⟩ := S.fr
  have ho1 : s1.heap.get? fa = some o := by
    rw [F1.keep _ _ h4', ← F0.keep _ _ h4', ho]
  refine ⟨ho1, wpAny_mono (hF c.A s1 Z1 vs fa ok.room ok.go G1 e1.st.zin r1 hm) ?_ fun _ _ x => x⟩
  rintro r s2 ⟨h', tk', Z', rfl, kp, z1, z2, rd⟩
  refine EvR.then e1 o1 ⟨d, ρ1, Z', O1, k1, ⟨h', tk', rfl, (e1.st.grow kp).zs z1 (fun a o q => (z2 a o q).1) (fun a o q => ?_), ⟨z1, fun a o q => ?_, fun b o q _ => kp b o q, fun _ _ q => .inl ⟨_, q⟩⟩⟩, .grow kp, rd⟩
  · rcases (z2 a o q).2 with k | k
    · exact e1.st.zav a o k
    · exact e1.st.notOwn k
  · rcases (z2 a o q).2 with k | k
    · exact .inl k
    · exact .inr (.inl k)

theorem bi_read (ok : c.Ok n) {f : Str} {b : Bi} {pos : Pos} {Q : Value → Shared → Prop} (S : St c Z O ρ s.heap) (hk : c.env.kindOf f = some .globalImplicit) (hb : (f, b) ∈ biTab) (h : Q b.val s) : WP c (eval (.Name f pos) c.env) Q s := by
  have G := S.glob ok
  have B := ok.go.bl _ hb
  exact Name_function_global ok.kind hk (loadGlobal_builtin (by rw [ok.glob]; exact G.g) B.1 (by rw [ok.bi]; exact G.b) B.2 h) (ndebug ok hk)

/-- what the built-in functions give -/
noncomputable def vBi (b : Bi) (ds : List Dat) (K : Dat → Prop) : Prop :=
  match b with
  | .len => ∃ xs, ds = [.list xs] ∧ xs.length ≤ 1000 ∧ K (.int xs.length)
  | .abs => ∃ a : Int, ds = [.int a] ∧ K (.int (if a < 0 then -a else a))
  | .min => ∃ a b : Int, ds = [.int a, .int b] ∧ K (.int (if b < a then b else a))
  | .int => ∃ a : Int, ds = [.int a] ∧ K (.int a)
  | _ => False

theorem bi_sound (ok : c.Ok n) {b : Bi} {vs : List Value} {ds : List Dat} {K : Dat → Prop} (S : St c Z O ρ s.heap) (r : RdA Z vs ds) (h : vBi b ds K) : WP c (call b.val vs) (EvR c Z O s fun d ρ' => ρ' = ρ ∧ K d) s := by
  cases b
  case len =>
    obtain ⟨xs, rfl, h⟩ := h
    obtain ⟨v, ws, rfl, r1, r2⟩ := r.cons_inv
    obtain rfl := r2.nil_inv
    obtain ⟨x, vs, m, rfl, hx, rx⟩ := r1.lst_inv
    have hn := rx.len
    refine call_len_list (items := vs.toArray) ⟨_, S.zin _ _ hx, rfl, m, rfl⟩ (by rw [List.size_toArray]; omega) ?_
    have e : (vs.toArray.size : Int) = xs.length := by rw [List.size_toArray, hn]
    rw [e]
    exact .of ⟨rfl, h.2⟩ (.tok S _) (.int _ _)
  case abs =>
    obtain ⟨a, rfl, h⟩ := h
    obtain ⟨v, ws, rfl, r1, r2⟩ := r.cons_inv
    obtain rfl := r2.nil_inv
    obtain ⟨t, rfl⟩ := r1.int_inv
    exact call_abs_int fun u tk => .of ⟨rfl, h⟩ (.tok S _) (.int _ _)
  case min =>
    obtain ⟨a, b, rfl, h⟩ := h
    obtain ⟨v, ws, rfl, r1, r2⟩ := r.cons_inv
    obtain ⟨v, ws, rfl, r3, r4⟩ := r2.cons_inv
    obtain rfl := r4.nil_inv
    obtain ⟨t, rfl⟩ := r1.int_inv
    obtain ⟨u, rfl⟩ := r3.int_inv
    refine min_two_ints ok.room.1 fun h' tk k => ?_
    split
    · rename_i q; rw [if_pos q] at h; exact .of ⟨rfl, h⟩ (.grow S k) (.int _ _) k
    · rename_i q; rw [if_neg q] at h; exact .of ⟨rfl, h⟩ (.grow S k) (.int _ _) k
  case int =>
    obtain ⟨a, rfl, h⟩ := h
    obtain ⟨v, ws, rfl, r1, r2⟩ := r.cons_inv
    obtain rfl := r2.nil_inv
    obtain ⟨t, rfl⟩ := r1.int_inv
    exact call_int_int (.of ⟨rfl, h⟩ (.refl S) (.int _ _))
  all_goals exact h.elim

theorem callWith_bi {b : Bi} {pos : Pos} {e : Expr} {rest : List Expr} {Q : Value → Shared → Prop} (hp : plainE e = true) (hr : (backTo pos (starEach rest c.env)).any (·.1) = false)
    (h : WP c (spliced (backTo pos (starEach (e :: rest) c.env))) (fun vs s₁ => WP c (call b.val vs) Q s₁) s) : WP c (callWith pos b.val [] (backTo pos (starEach (e :: rest) c.env)) []) Q s := by
  cases b
  · exact callWith_builtin1 h (plain_star hp) hr
  · exact callWith_builtin1 h (plain_star hp) hr
  · exact callWith_builtin1 h (plain_star hp) hr
  · exact callWith_type1 h (plain_star hp) hr
  · exact callWith_builtin1 h (plain_star hp) hr
  · exact callWith_type1 h (plain_star hp) hr
  · exact callWith_type1 h (plain_star hp) hr
theorem plain_any {pos : Pos} {env : Env} : ∀ {es : List Expr}, es.all plainE = true → (backTo pos (starEach es env)).any (·.1) = false
  | [], _ => rfl
  | e :: es, h => by
    rw [List.all_cons, Bool.and_eq_true] at h
    rw [plain_star h.1]
    have ih := plain_any (pos := pos) (env := env) h.2
    show (false || (backTo pos (starEach es env)).any (·.1)) = false
    rw [ih]; rfl
theorem Ev.bi (ok : c.Ok n) {f : Str} {b : Bi} {p pos : Pos} {e : Expr} {rest : List Expr} (hk : c.env.kindOf f = some .globalImplicit) (hb : (f, b) ∈ biTab) (hp : (e :: rest).all plainE = true)
    (h : Es c ρ (e :: rest) fun ds ρ1 => vBi b ds fun d => K d ρ1) : Ev c ρ (.Call (.Name f p) (e :: rest) [] pos) K := by
  intro Z O s S
  have hp' := hp
  rw [List.all_cons, Bool.and_eq_true] at hp'
  refine Call_Name rfl (bi_read ok S hk hb (callWith_bi hp'.1 (plain_any hp'.2) (wp_mono (h pos Z O s S) ?_)))
  rintro vs s1 ⟨ds, ρ1, Z1, O1, k1, e1, o1, r1⟩
  refine wp_mono (bi_sound ok e1.st r1 k1) ?_
  rintro v s2 ⟨d, ρ2, Z2, O2, ⟨rfl, k2⟩, e2, o2, r2⟩
  exact ⟨d, _, Z2, O2, k2, e1.trans e2, o1.trans o2, r2⟩
/-- the length of an own list -/
theorem Ev.lenOwn (ok : c.Ok n) {f x : Str} {p q pos : Pos} {ds : List Dat} (hk : c.env.kindOf f = some .globalImplicit) (hb : (f, Bi.len) ∈ biTab) (hx : ρ.lookup x = some (.own ds)) (hl : ds.length ≤ 1000) (h : K (.int ds.length) ρ) :
    Ev c ρ (.Call (.Name f p) [.Name x q] [] pos) K := by
  intro Z O s S
  refine Call_Name rfl (bi_read ok S hk hb (callWith_bi rfl rfl (args_cons (name_read ok S hx ?_) rfl)))
  rintro va ⟨a, vs, m, ha, rfl, hg, rx⟩
  refine args_nil ?_
  have hn := rx.len
  refine call_len_list (items := vs.toArray) ⟨_, hg, rfl, m, rfl⟩ (by rw [List.size_toArray]; omega) ?_
  have e : (vs.toArray.size : Int) = ds.length := by rw [List.size_toArray, hn]
  rw [e]
  exact .of h (.tok S _) (.int _ _)
/-- an own list against the written empty one -/
theorem eq_nil_own (ok : c.Ok n) {x : Str} {q p pos : Pos} {ds : List Dat} {K : Bool → Prop} (S : St c Z O ρ s.heap) (hx : ρ.lookup x = some (.own ds)) (hk : ∀ d ∈ ds, kqdOk 7 d = true) (h : K (decide (ds = []))) {Q : Bool → Shared → Prop}
    (hQ : ∀ b h', K b → Ends c Z O s Z O ρ { s with heap := h' } → (∀ b o, s.heap.get? b = some o → h'.get? b = some o) → Q b { s with heap := h' }) : WP c (isTrue (.Compare (.Name x q) [.Eq] [.List [] p] pos) c.env (eval (.Compare (.Name x q) [.Eq] [.List [] p] pos) c.env)) Q s := by
  refine wpAny_isTrue_Compare1 (name_read ok S hx ?_) rfl
  rintro va ⟨a, vs, m, ha, rfl, hg, rx⟩
  refine List_ (args_nil (wpAny_newObj_type ?_ (by show ([] : List Value).toArray.size ≤ sizeLine; exact Nat.zero_le _)))
  have k : ∀ b o, s.heap.get? b = some o → (s.heap.push { cls := .type "list", data := .seq ([] : List Value).toArray }).get? b = some o := fun b o q => Heap.get?_push_of_some _ q
  obtain ⟨nw, hz, dn⟩ := rx
  have N : News {} (s.heap.push { cls := .type "list", data := .seq ([] : List Value).toArray }).objs.size (s.heap.push { cls := .type "list", data := .seq ([] : List Value).toArray }) nw :=
    fun p hp => ⟨k _ _ (S.zin _ _ (hz p hp)), Nat.ne_of_lt (Heap.lt_size (k _ _ (S.zin _ _ (hz p hp)))), by simp [Heap.get?]⟩
  obtain ⟨as, q1⟩ := kqd_all N 7 dn hk
  have hu : c.A.units + 64 < cLine := by have := ok.room.2.2; omega
  have o1 : kqdOk 8 (.list ds) = true := by simpa [kqdOk] using hk
  have o2 : kqdOk 8 (.list []) = true := by simp [kqdOk]
  have r1 : Reads (s.heap.push { cls := .type "list", data := .seq ([] : List Value).toArray }) (.ref a) (kqdP (.list ds)) (a :: as) := by
    rw [kqdP]; exact reads_list_at (k _ _ hg) rfl rfl (by simpa using q1)
  have r2 : Reads (s.heap.push { cls := .type "list", data := .seq ([] : List Value).toArray }) (.ref s.heap.objs.size) (kqdP (.list [])) (s.heap.objs.size :: []) := by
    rw [kqdP, kqdPs]; exact reads_list_at (Heap.get?_push_size _ rfl) rfl rfl .nil
  refine eq_dataH r1 r2 (shaped_of o1) (shaped_of o2) hu (wpAny_truthy_bool ?_)
  have e : PyData.eqv (kqdP (.list ds)) (kqdP (.list [])) = decide (ds = []) := by
    have z := kqd_eqv 8 (.list ds) (.list []) 8 o1 o2
    by_cases hd : ds = []
    · rw [decide_eq_true hd]; exact z.mpr (by rw [hd])
    · rw [decide_eq_false hd]; exact Bool.eq_false_iff.mpr fun w => hd (Dat.list.inj (z.mp w))
  rw [e]
  exact hQ _ _ h (.grow (tk := s.toks) S k) k
end
/-- a def's own frame -/
structure Cx.Fn (c : Cx) : Prop where
  cnew : ∀ n a, (n, a) ∈ c.env.cells → c.h₀.get? a = none
  cl : ∀ x, c.env.kindOf x = some .cell → ∃ a, c.env.cells.lookup x = some a
/-- all kept but the frame's names -/
abbrev Off (c : Cx) (h h' : Heap) : Prop := ∀ b o, b ≠ c.env.locals → (∀ n, (n, b) ∉ c.env.cells) → h.get? b = some o → h'.get? b = some o
noncomputable def Put (c : Cx) (x : Str) : Prop := c.env.kindOf x = some .local ∨ c.env.kindOf x = some .cell

section
variable {c : Cx} {n : Nat} {Z Z1 : Zs} {O O1 : Str → Option Addr} {ρ : Rho} {s s1 : Shared} {K : Dat → Rho → Prop}

theorem name_of_addr' {cs : List (Str × Addr)} (h : cs.Pairwise fun x y => x.2 ≠ y.2) {x y : Str} {a : Addr} (hx : (x, a) ∈ cs) (hy : (y, a) ∈ cs) : x = y := name_of_addr h hx hy

/-- the heap turned at one address of the frame's own: all else that the frame says stands -/
theorem St.turn {b : Addr} {h h' : Heap} {m' cm' : Str → Option Value} {ρ' : Rho} {O' : Str → Option Addr} {Z' : Zs}
    (S : St c Z O ρ h) (hs : Heap.SameBut b h h') (F' : Fr c.h₀ c.env.locals h' m') (C' : ∀ n a, c.env.cells.lookup n = some a → h'.IsCell a (cm' n))
    (V : ∀ x r, ρ'.lookup x = some r → ∃ v, Var c m' cm' x v ∧ Has Z' O' h' x v r)
    (zin : ∀ a o, Z' a o → h'.get? a = some o) (zav : ∀ a o, Z' a o → ¬ Own c O' a) (oav : ∀ x a, O' x = some a → a ≠ c.env.locals ∧ (∀ n, (n, a) ∉ c.env.cells) ∧ c.h₀.get? a = none ∧ h'.get? a ≠ none) (oinj : ∀ x y a, O' x = some a → O' y = some a → x = y)
    (hb : h'.get? b ≠ none) : St c Z' O' ρ' h' := by
  refine ⟨⟨m', cm', F', C', V⟩, zin, zav, oav, oinj, fun n a e => ?_⟩
  obtain ⟨e1, e4⟩ := S.call n a e
  refine ⟨e1, ?_⟩
  by_cases hab : a = b
  · subst hab; exact hb
  · rw [hs.2 a hab]; exact e4

theorem Ns.some {h : Heap} {L : Addr} {m : Str → Option Value} (x : h.Ns L m) : h.get? L ≠ none := by
  obtain ⟨o, _, _, e, _⟩ := x; rw [e]; exact Option.some_ne_none _
theorem Cell.some {h : Heap} {a : Addr} {v : Option Value} (x : h.IsCell a v) : h.get? a ≠ none := by
  obtain ⟨o, e, _⟩ := x; rw [e]; exact Option.some_ne_none _

/-- a value is bound to a name: the shared part of both kinds -/
theorem store_any (ok : c.Ok n) (fn : c.Fn) {x : Str} {v : Value} (S : St c Z O ρ s.heap) (hx : Put c x) {Q : Unit → Shared → Prop} {r : RV} {O' : Str → Option Addr}
    (hr : ∀ h' : Heap, Off c s.heap h' → Has Z O' h' x v r)
    (hO : ∀ y, y ≠ x → O' y = O y) (hOx : O' x = O x ∨ ∃ a, O' x = some a ∧ s.heap.get? a ≠ none ∧ a ≠ c.env.locals ∧ (∀ n, (n, a) ∉ c.env.cells) ∧ c.h₀.get? a = none ∧ (∀ y, O y ≠ some a) ∧ ∀ o, ¬ Z a o)
    (h : ∀ h' tk', St c Z O' (upd ρ x r) h' → Off c s.heap h' → Q () { s with heap := h', toks := tk' }) : WP c (storeName c.env x v) Q s := by
  obtain ⟨m, cm, F, C, V⟩ := S.fr
  have oav : ∀ h' : Heap, Off c s.heap h' → ∀ y a, O' y = some a → a ≠ c.env.locals ∧ (∀ n, (n, a) ∉ c.env.cells) ∧ c.h₀.get? a = none ∧ h'.get? a ≠ none := by
    intro h' hk y a e
    have up : a ≠ c.env.locals → (∀ n, (n, a) ∉ c.env.cells) → s.heap.get? a ≠ none → h'.get? a ≠ none := by
      intro h1 h2 h3
      cases q : s.heap.get? a with
      | none => exact absurd q h3
      | some o => rw [hk a o h1 h2 q]; exact Option.some_ne_none _
    by_cases hy : y = x
    · subst hy
      rcases hOx with q | ⟨a', q, q1, q2, q3, q4, q5, q6⟩
      · rw [q] at e
        obtain ⟨e1, e2, e3, e4⟩ := S.oav y a e
        exact ⟨e1, e2, e3, up e1 e2 e4⟩
      · rw [q] at e; cases e
        exact ⟨q2, q3, q4, up q2 q3 q1⟩
    · rw [hO y hy] at e
      obtain ⟨e1, e2, e3, e4⟩ := S.oav y a e
      exact ⟨e1, e2, e3, up e1 e2 e4⟩
  have oinj : ∀ y z a, O' y = some a → O' z = some a → y = z := by
    intro y z a e1 e2
    by_cases hy : y = x
    · by_cases hz : z = x
      · rw [hy, hz]
      · subst hy
        rw [hO z hz] at e2
        rcases hOx with q | ⟨a', q, q1, q2, q3, q4, q5, q6⟩
        · rw [q] at e1; exact S.oinj _ _ _ e1 e2
        · rw [q] at e1; cases e1; exact absurd e2 (q5 z)
    · by_cases hz : z = x
      · subst hz
        rw [hO y hy] at e1
        rcases hOx with q | ⟨a', q, q1, q2, q3, q4, q5, q6⟩
        · rw [q] at e2; exact S.oinj _ _ _ e1 e2
        · rw [q] at e2; cases e2; exact absurd e1 (q5 y)
      · rw [hO y hy] at e1; rw [hO z hz] at e2; exact S.oinj _ _ _ e1 e2
  have zav : ∀ a o, Z a o → ¬ Own c O' a := by
    intro a o q
    rintro (k | k | ⟨y, k⟩)
    · exact S.zav a o q (.inl k)
    · exact S.zav a o q (.inr (.inl k))
    · by_cases hy : y = x
      · subst hy
        rcases hOx with q1 | ⟨a', q1, _, _, _, _, _, q6⟩
        · rw [q1] at k; exact S.zav a o q (.inr (.inr ⟨y, k⟩))
        · rw [q1] at k; cases k; exact q6 o q
      · rw [hO y hy] at k; exact S.zav a o q (.inr (.inr ⟨y, k⟩))
  have vars : ∀ (h' : Heap) m' cm', Off c s.heap h' → Var c m' cm' x v → (∀ y w, y ≠ x → Var c m cm y w → Var c m' cm' y w) →
      ∀ y q, (upd ρ x r).lookup y = some q → ∃ w, Var c m' cm' y w ∧ Has Z O' h' y w q := by
    intro h' m' cm' hk h1 h2 y q e
    rw [lookup_upd] at e
    by_cases hy : y = x
    · subst hy; rw [if_pos rfl] at e; cases e
      exact ⟨v, h1, hr h' hk⟩
    · rw [if_neg hy] at e
      obtain ⟨w, hw, hq⟩ := V y q e
      refine ⟨w, h2 y w hy hw, ?_⟩
      cases q with
      | dat d => exact hq
      | own ds =>
        obtain ⟨a, vs, k, k1, k2, k3, k4⟩ := hq
        obtain ⟨e1, e2, _⟩ := S.oav y a k1
        exact ⟨a, vs, k, by rw [hO y hy]; exact k1, k2, hk _ _ e1 e2 k3, k4⟩
  rcases hx with hk | hk
  · refine wpAny_storeName_local hk F.ns (fun h' hn hs => ?_) (by rw [ok.kind]; rfl)
    have kp : Off c s.heap h' := fun b o h1 _ e => (hs.2 b h1).trans e
    refine h h' _ (St.turn (cm' := cm) S hs (F.set hn hs) (fun y a e => (C y a e).sameBut hs (S.call y a (mem_of_lookup e)).1) (vars h' _ cm kp (.inl ⟨hk, by simp⟩) ?_) (fun a o e => ?_) zav (oav h' kp) oinj (Ns.some hn)) kp
    · rintro y w hy (⟨a1, a2⟩ | a)
      · exact .inl ⟨a1, by simp [hy, a2]⟩
      · exact .inr a
    · exact kp a o (fun q => S.zav a o e (.inl q)) (fun n q => S.zav a o e (.inr (.inl ⟨n, q⟩))) (S.zin a o e)
  · obtain ⟨b, hb⟩ := fn.cl x hk
    have hmem := mem_of_lookup hb
    obtain ⟨hbl, _⟩ := S.call x b hmem
    refine wpAny_storeName_cell ok.kind hk hb (C x b hb) fun h' hv hs => ?_
    have kp : Off c s.heap h' := fun a o _ h2 e => (hs.2 a (fun q => h2 x (q ▸ hmem))).trans e
    have F' : Fr c.h₀ c.env.locals h' m := ⟨F.ns.sameBut hs (Ne.symm hbl), fun a o e => (hs.2 a (fun q => by rw [q, fn.cnew x b hmem] at e; cases e)).trans (F.keep a o e), F.above⟩
    refine h h' s.toks (St.turn (cm' := fun y => if y = x then some v else cm y) (m' := m) S hs F' (fun y a e => ?_) (vars h' m _ kp (.inr ⟨hk, b, hb, by simp⟩) ?_) (fun a o e => ?_) zav (oav h' kp) oinj (Cell.some hv)) kp
    · by_cases hy : y = x
      · subst hy; rw [hb] at e; cases e; simpa using hv
      · have hab : a ≠ b := fun q => hy (name_of_addr ok.apart (mem_of_lookup e) (q ▸ hmem))
        simpa [hy] using (C y a e).sameBut hs hab
    · rintro y w hy (a | ⟨a1, a2, a3, a4⟩)
      · exact .inl a
      · exact .inr ⟨a1, a2, a3, by simp [hy, a4]⟩
    · exact kp a o (fun q => S.zav a o e (.inl q)) (fun n q => S.zav a o e (.inr (.inl ⟨n, q⟩))) (S.zin a o e)

theorem store_dat (ok : c.Ok n) (fn : c.Fn) {x : Str} {v : Value} {d : Dat} (S : St c Z O ρ s.heap) (hx : Put c x) (r : Rd Z v d) {Q : Unit → Shared → Prop}
    (h : ∀ s', Ends c Z O s Z O (upd ρ x (.dat d)) s' → Q () s') : WP c (storeName c.env x v) Q s :=
  store_any ok fn S hx (r := .dat d) (O' := O) (fun _ _ => r) (fun _ _ => rfl) (.inl rfl) fun h' tk' S' kp =>
    h _ ⟨h', tk', rfl, S', ⟨fun _ _ q => q, fun _ _ q => .inl q, fun b o e hb => kp b o (fun q => hb (.inl q)) (fun n q => hb (.inr (.inl ⟨n, q⟩))) e, fun _ _ q => .inl ⟨_, q⟩⟩⟩

/-- a new list that nobody else holds -/
structure Fresh (c : Cx) (Z : Zs) (O : Str → Option Addr) (h : Heap) (a : Addr) (ds : List Dat) : Prop where
  lay : ∃ vs m, h.get? a = some (listOf vs.toArray m) ∧ RdA Z vs ds
  nl : a ≠ c.env.locals
  nc : ∀ n, (n, a) ∉ c.env.cells
  nb : c.h₀.get? a = none
  no : ∀ y, O y ≠ some a
  nz : ∀ o, ¬ Z a o
theorem store_own (ok : c.Ok n) (fn : c.Fn) {x : Str} {a : Addr} {ds : List Dat} (S : St c Z O ρ s.heap) (hx : Put c x) (hf : Fresh c Z O s.heap a ds) {Q : Unit → Shared → Prop}
    (h : ∀ h' tk', St c Z (fun y => if y = x then some a else O y) (upd ρ x (.own ds)) h' → Off c s.heap h' → Q () { s with heap := h', toks := tk' }) : WP c (storeName c.env x (.ref a)) Q s := by
  obtain ⟨vs, m, e, r⟩ := hf.lay
  exact store_any ok fn S hx (r := .own ds) (O' := fun y => if y = x then some a else O y) (fun h' hk => ⟨a, vs, m, by simp, rfl, hk _ _ hf.nl hf.nc e, r⟩) (fun y hy => by simp [hy])
    (.inr ⟨a, by simp, by rw [e]; exact Option.some_ne_none _, hf.nl, hf.nc, hf.nb, hf.no, hf.nz⟩) h

/-- a statement's end -/
noncomputable def ExR (c : Cx) (Z : Zs) (O : Str → Option Addr) (s : Shared) (K : Rho → Prop) (R : Dat → Prop) (f : Flow) (s' : Shared) : Prop :=
  match f with
  | .next => ∃ ρ' Z' O', K ρ' ∧ Ends c Z O s Z' O' ρ' s'
  | .ret v => ∃ d ρ' Z' O', R d ∧ Ends c Z O s Z' O' ρ' s' ∧ Rd Z' v d
  | _ => False
theorem ExR.then {f : Flow} {s2 : Shared} {K : Rho → Prop} {R : Dat → Prop} {ρ1 : Rho} (e : Ends c Z O s Z1 O1 ρ1 s1) (h : ExR c Z1 O1 s1 K R f s2) : ExR c Z O s K R f s2 := by
  cases f with
  | next => obtain ⟨ρ', Z', O', a, b⟩ := h; exact ⟨ρ', Z', O', a, e.trans b⟩
  | ret v => obtain ⟨d, ρ', Z', O', a, b, d1⟩ := h; exact ⟨d, ρ', Z', O', a, e.trans b, d1⟩
  | brk => exact h
  | cont => exact h
theorem ExR.mono {f : Flow} {s2 : Shared} {K K' : Rho → Prop} {R R' : Dat → Prop} (h : ExR c Z O s K R f s2) (hk : ∀ ρ, K ρ → K' ρ) (hr : ∀ d, R d → R' d) : ExR c Z O s K' R' f s2 := by
  cases f with
  | next => obtain ⟨ρ', Z', O', a, b⟩ := h; exact ⟨ρ', Z', O', hk _ a, b⟩
  | ret v => obtain ⟨d, ρ', Z', O', a, b, d1⟩ := h; exact ⟨d, ρ', Z', O', hr _ a, b, d1⟩
  | brk => exact h
  | cont => exact h
noncomputable def Ex (c : Cx) (ρ : Rho) (st : Stmt) (K : Rho → Prop) (R : Dat → Prop) : Prop := ∀ Z O s, St c Z O ρ s.heap → WP c (exec st c.env) (ExR c Z O s K R) s
noncomputable def Exs (c : Cx) (ρ : Rho) (sts : List Stmt) (K : Rho → Prop) (R : Dat → Prop) : Prop := ∀ Z O s, St c Z O ρ s.heap → WP c (execs sts c.env) (ExR c Z O s K R) s
variable {R : Dat → Prop} {KS : Rho → Prop}
theorem Exs.mono {sts : List Stmt} {K' : Rho → Prop} {R' : Dat → Prop} (h : Exs c ρ sts KS R) (hk : ∀ ρ, KS ρ → K' ρ) (hr : ∀ d, R d → R' d) : Exs c ρ sts K' R' := fun Z O s S => wp_mono (h Z O s S) fun _ _ q => q.mono hk hr
theorem Exs.nil (h : KS ρ) : Exs c ρ [] KS R := fun Z O _ S => wpAny_execs_nil ⟨ρ, Z, O, h, .refl S⟩
theorem Exs.cons {st : Stmt} {rest : List Stmt} (h : Ex c ρ st (fun ρ1 => Exs c ρ1 rest KS R) R) : Exs c ρ (st :: rest) KS R := by
  intro Z O s S
  refine wpAny_execs_cons (wp_mono (h Z O s S) ?_)
  intro f s1 q
  cases f with
  | next => obtain ⟨ρ1, Z1, O1, k, e⟩ := q; exact wp_mono (k Z1 O1 s1 e.st) fun _ _ r => r.then e
  | ret v => obtain ⟨d, ρ', Z', O', a, b, d1⟩ := q; exact ⟨d, ρ', Z', O', a, b, d1⟩
  | brk => exact q.elim
  | cont => exact q.elim
theorem Ex.ret {e : Expr} {pos : Pos} (h : Ev c ρ e fun d _ => R d) : Ex c ρ (.Return (some e) pos) KS R := by
  intro Z O s S
  refine wpAny_Return_some (wp_mono (h Z O s S) ?_)
  rintro v s1 ⟨d, ρ1, Z1, O1, k1, e1, o1, r1⟩
  exact ⟨d, ρ1, Z1, O1, k1, e1, r1⟩
theorem Ex.ite {t : Expr} {x y : List Stmt} {pos : Pos} (h : Te c ρ t fun b ρ1 => (b = true → Exs c ρ1 x KS R) ∧ (b = false → Exs c ρ1 y KS R)) : Ex c ρ (.If t x y pos) KS R := by
  intro Z O s S
  refine wpAny_If (wp_mono (h Z O s S) ?_)
  rintro b s1 ⟨ρ1, Z1, O1, k1, e1, o1⟩
  cases b with
  | true => exact wp_mono (k1.1 rfl Z1 O1 s1 e1.st) fun _ _ q => q.then e1
  | false => exact wp_mono (k1.2 rfl Z1 O1 s1 e1.st) fun _ _ q => q.then e1

noncomputable def noComp : Expr → Bool
  | .ListComp .. => false
  | .SetComp .. => false
  | .DictComp .. => false
  | _ => true
theorem noComp_swaps {e : Expr} {t : Option Expr} {l : Nat} {env : Env} (h : noComp e = true) : swapsWith e t l env = pure false := by cases e <;> first | rfl | cases h
theorem Ex.assign (ok : c.Ok n) (fn : c.Fn) {x : Str} {p pos : Pos} {e : Expr} (hc : noComp e = true) (hx : Put c x) (h : Ev c ρ e fun d ρ1 => KS (upd ρ1 x (.dat d))) : Ex c ρ (.Assign [.Name x p] e pos) KS R := by
  intro Z O s S
  refine wpAny_Assign_Name (wp_mono (h Z O s S) ?_) (noComp_swaps hc)
  rintro v s1 ⟨d, ρ1, Z1, O1, k1, e1, o1, r1⟩
  exact store_dat ok fn e1.st hx r1 fun s' e2 => ⟨_, Z1, O1, k1, e1.trans e2⟩

theorem fresh_new {h h' : Heap} {a : Addr} {vs : List Value} {m : Nat} {ds : List Dat} (S : St c Z O ρ h) (e : h.get? a = none) (e' : h'.get? a = some (listOf vs.toArray m)) (r : RdA Z vs ds) : Fresh c Z O h' a ds := by
  have no := S.notOwn e
  refine ⟨⟨vs, m, e', r⟩, fun q => no (.inl q), fun n q => no (.inr (.inl ⟨n, q⟩)), ?_, fun y q => no (.inr (.inr ⟨y, q⟩)), fun o q => by rw [S.zin a o q] at e; cases e⟩
  cases q : c.h₀.get? a with
  | none => rfl
  | some o =>
    obtain ⟨m, cm, F, _⟩ := S.fr
    rw [F.keep a o q] at e; cases e
/-- a new list is bound to a name -/
theorem bind_fresh (ok : c.Ok n) (fn : c.Fn) {x : Str} {a : Addr} {vs : List Value} {m : Nat} {ds : List Dat} {h' : Heap} (S : St c Z O ρ s.heap) (hx : Put c x) (k : ∀ b o, s.heap.get? b = some o → h'.get? b = some o) (e : s.heap.get? a = none)
    (e' : h'.get? a = some (listOf vs.toArray m)) (r : RdA Z vs ds) {Q : Unit → Shared → Prop} (h : ∀ s' O', Ends c Z O s Z O' (upd ρ x (.own ds)) s' → Q () s') : WP c (storeName c.env x (.ref a)) Q { s with heap := h' } := by
  have hf := fresh_new (h' := h') S e e' r
  refine store_own (s := { s with heap := h' }) ok fn (S.grow k) hx hf fun h2 tk2 S2 kp => h _ _ ⟨h2, tk2, rfl, S2, ⟨fun _ _ q => q, fun _ _ q => .inl q, fun b o q hb => kp b o (fun z => hb (.inl z)) (fun n z => hb (.inr (.inl ⟨n, z⟩))) (k b o q), fun y b q => ?_⟩⟩
  by_cases hy : y = x
  · simp only [hy, if_true] at q; cases q; exact .inr e
  · simp only [if_neg hy] at q; exact .inl ⟨y, q⟩
theorem Ex.assignList (ok : c.Ok n) (fn : c.Fn) {x : Str} {p pos q : Pos} {elts : List Expr} (hx : Put c x) (h : Es c ρ elts fun ds ρ1 => ds.length ≤ 1000 ∧ KS (upd ρ1 x (.own ds))) : Ex c ρ (.Assign [.Name x p] (.List elts q) pos) KS R := by
  intro Z O s S
  refine wpAny_Assign_Name (List_ (wp_mono (h q Z O s S) ?_)) rfl
  rintro vs s1 ⟨ds, ρ1, Z1, O1, ⟨hl, k1⟩, e1, o1, r1⟩
  have hl' := r1.len
  refine wpAny_newObj_type ?_ (by show vs.toArray.size ≤ sizeLine; have := sizeLine_ge; rw [List.size_toArray]; omega)
  exact bind_fresh ok fn e1.st hx (fun b o => Heap.get?_push_of_some _) (get_fresh _) (Heap.get?_push_size _ rfl) r1 fun s' O' e2 => ⟨_, Z1, O', k1, e1.trans e2⟩
/-- x = l + r, two lists: a new list of the frame's own -/
theorem Ex.assignCat (ok : c.Ok n) (fn : c.Fn) {x : Str} {p pos q : Pos} {l r : Expr} (hx : Put c x)
    (h : Ev c ρ l fun a ρ1 => Ev c ρ1 r fun b ρ2 => ∃ xs ys, a = .list xs ∧ b = .list ys ∧ xs.length + ys.length ≤ 1000 ∧ KS (upd ρ2 x (.own (xs ++ ys)))) : Ex c ρ (.Assign [.Name x p] (.BinOp l .Add r q) pos) KS R := by
  intro Z O s S
  refine wpAny_Assign_Name (wpAny_BinOp (wp_mono (h Z O s S) ?_)) rfl
  rintro va s1 ⟨a, ρ1, Z1, O1, k1, e1, o1, r1⟩
  refine wp_mono (k1 Z1 O1 s1 e1.st) ?_
  rintro vb s2 ⟨b, ρ2, Z2, O2, ⟨xs, ys, rfl, rfl, hl, k2⟩, e2, o2, r2⟩
  obtain ⟨y, vs, m, rfl, hy, ry⟩ := (r1.mono e2.z).lst_inv
  obtain ⟨z, ws, m', rfl, hz, rz⟩ := r2.lst_inv
  have h1 := ry.len
  have h2 := rz.len
  refine P.add_list (items := vs.toArray) (n := m) (items2 := ws.toArray) (n2 := m') (e2.st.zin _ _ hy) (e2.st.zin _ _ hz) ?_ (by have := sizeLine_ge; simp; omega)
  have e : vs.toArray ++ ws.toArray = (vs ++ ws).toArray := by simp
  rw [e]
  exact bind_fresh ok fn e2.st hx (fun b o => Heap.get?_push_of_some _) (get_fresh _) (Heap.get?_push_size _ rfl) (ry.append rz) fun s' O' e3 => ⟨_, Z2, O', k2, e1.trans (e2.trans e3)⟩
theorem Ex.aug (ok : c.Ok n) (fn : c.Fn) {x : Str} {p pos : Pos} {e : Expr} {i : Int} (hv : ρ.lookup x = some (.dat (.int i))) (hx : Put c x) (h : Ev c ρ e fun d ρ1 => ∃ j, d = .int j ∧ KS (upd ρ1 x (.dat (.int (i + j))))) : Ex c ρ (.AugAssign (.Name x p) .Add e pos) KS R := by
  intro Z O s S
  refine wpAny_AugAssign_Name ?_
  obtain ⟨m, cm, F, C, V⟩ := S.fr
  obtain ⟨v, hw, hr⟩ := V x _ hv
  obtain ⟨t, rfl⟩ := Rd.int_inv hr
  have go : WP c (eval e c.env) (fun v s₂ => WP c (inplaceOp .Add (.int i t) v) (fun r s₃ => WP c (storeName c.env x r) (fun _ => ExR c Z O s KS R .next) s₃) s₂) s := by
    refine wp_mono (h Z O s S) ?_
    rintro vb s2 ⟨b, ρ2, Z2, O2, ⟨j, rfl, k2⟩, e2, o2, r2⟩
    obtain ⟨u, rfl⟩ := r2.int_inv
    refine P.iadd_int ?_
    have e3 := Ends.tok e2.st (s2.toks + 1)
    exact store_dat ok fn e3.st hx (.int _ _) fun s' e4 => ⟨_, Z2, O2, k2, e2.trans (e3.trans e4)⟩
  rcases hw with ⟨hk, hm⟩ | ⟨hk, a, ha, hm⟩
  · exact wpAny_loadName_local ok.kind hk F.ns hm go
  · exact wpAny_loadName_cell ok.kind hk ha (hm ▸ C x a ha) go
end
theorem Room.down {A : Around} {n m : Nat} (h : Room A n) (hm : m ≤ n) : Room A m := ⟨h.1, by have := h.2.1; omega, by have := h.2.2; omega⟩
theorem Room.deeper {A : Around} {n : Nat} (h : Room A (n + 1)) (env : Env) : Room (A.deeper env) n := by
  refine ⟨h.1, ?_, ?_⟩
  · show A.depth + 1 + 2 * n + 2 < _; have := h.2.1; omega
  · show A.units + 3 + 8 * n + 100 < _; have := h.2.2; omega
theorem FnOk.up {g : GC} {f : Str} {n m : Nat} {ds : List Dat} {d : Dat} (h : FnOk g f n ds d) (hm : n ≤ m) : FnOk g f m ds d :=
  fun A s Z vs fa r o G z rd hf => h A s Z vs fa (r.down hm) o G z rd hf

theorem bindL_off (kd : Str → Option NameKind) : ∀ (b : List (Str × Value)) (m : Str → Option Value) (x : Str), x ∉ b.map (·.1) → bindL kd b m x = m x
  | [], _, _, _ => rfl
  | (y, v) :: r, m, x, h => by
    rw [List.map_cons, List.mem_cons, not_or] at h
    rw [bindL, bindL_off kd r _ x h.2]
    split
    · simp [h.1]
    · rfl
theorem bindC_off (kd : Str → Option NameKind) : ∀ (b : List (Str × Value)) (m : Str → Option Value) (x : Str), x ∉ b.map (·.1) → bindC kd b m x = m x
  | [], _, _, _ => rfl
  | (y, v) :: r, m, x, h => by
    rw [List.map_cons, List.mem_cons, not_or] at h
    rw [bindC, bindC_off kd r _ x h.2]
    split
    · rfl
    · simp [h.1]
theorem bindL_at (kd : Str → Option NameKind) (b : List (Str × Value)) (x : Str) (v : Value) (hk : kd x = some .local) : ∀ m : Str → Option Value, (b.map (·.1)).Nodup → (x, v) ∈ b → bindL kd b m x = some v := by
  induction b with
  | nil => exact fun _ _ hm => absurd hm List.not_mem_nil
  | cons p r ih =>
    intro m hn hm
    rw [List.map_cons, List.nodup_cons] at hn
    rcases List.mem_cons.mp hm with e | hm
    · cases e
      rw [bindL, bindL_off kd r _ _ hn.1, if_pos hk]; exact if_pos rfl
    · rw [bindL]; exact ih _ hn.2 hm
theorem bindC_at (kd : Str → Option NameKind) (b : List (Str × Value)) (x : Str) (v : Value) (hk : kd x = some .cell) : ∀ m : Str → Option Value, (b.map (·.1)).Nodup → (x, v) ∈ b → bindC kd b m x = some v := by
  induction b with
  | nil => exact fun _ _ hm => absurd hm List.not_mem_nil
  | cons p r ih =>
    intro m hn hm
    rw [List.map_cons, List.nodup_cons] at hn
    rcases List.mem_cons.mp hm with e | hm
    · cases e
      rw [bindC, bindC_off kd r _ _ hn.1, if_neg (by rw [hk]; exact fun e => by cases e)]; exact if_pos rfl
    · rw [bindC]; exact ih _ hn.2 hm
theorem cells_has : ∀ (names : List (Str × NameKind)) (n : Nat) (acc : List (Str × Addr)) (x : Str), (names.lookup x = some .cell ∨ (acc.lookup x).isSome = true) → ((cellsFrom n names acc).lookup x).isSome = true
  | [], _, _, _, h => by
    rcases h with h | h
    · cases h
    · exact h
  | (y, k) :: r, n, acc, x, h => by
    unfold cellsFrom
    split
    · rename_i hk
      refine cells_has r _ _ x ?_
      by_cases hy : x = y
      · subst hy; exact .inr (by simp)
      · rw [List.lookup_cons, beq_eq_false_iff_ne.mpr hy] at h
        rw [List.lookup_cons, beq_eq_false_iff_ne.mpr hy]
        exact h
    · rename_i hk
      refine cells_has r _ _ x ?_
      by_cases hy : x = y
      · subst hy
        rcases h with h | h
        · simp at h; subst h; simp at hk
        · exact .inr h
      · rw [List.lookup_cons, beq_eq_false_iff_ne.mpr hy] at h; exact h

theorem zip_lookup : ∀ {ps : List Str} {ds : List Dat} {vs : List Value} {Z : Zs} {x : Str} {r : RV}, RdA Z vs ds → (ps.zip (ds.map RV.dat)).lookup x = some r → ∃ v d, (x, v) ∈ ps.zip vs ∧ r = .dat d ∧ Rd Z v d
  | [], _, _, _, _, _, _, h => by simp at h
  | p :: ps, [], _, _, _, _, _, h => by simp at h
  | p :: ps, d :: ds, vs, Z, x, r, hr, h => by
    obtain ⟨v, ws, rfl, h1, h2⟩ := hr.cons_inv
    rw [List.map_cons, List.zip_cons_cons, List.lookup_cons] at h
    by_cases hx : x = p
    · subst hx
      simp at h; subst h
      exact ⟨v, d, by simp, rfl, h1⟩
    · rw [beq_eq_false_iff_ne.mpr hx] at h
      obtain ⟨v', d', a, b, e⟩ := zip_lookup h2 h
      exact ⟨v', d', by rw [List.zip_cons_cons]; exact List.mem_cons_of_mem _ a, b, e⟩

/-- the frame of a def that is called -/
abbrev frameOf (g : GC) (f : DefItem) (A : Around) (L a : Addr) (cd : Value) (h₀ : Heap) : Cx := ⟨g, A, envOfC f.name f.scope L a cd, h₀⟩

structure DefOk (f : DefItem) (ps : List Str) : Prop where
  mem : f ∈ progDefs
  nd : f.params.defaults = []
  bind : ∀ (pm cd doc : Value) (vs : List Value), vs.length = ps.length → bindArgs (docDef f.name f.params f.body f.scope pm cd doc) ⟨vs, []⟩ = pure (ps.zip vs)
  nodup : ps.Nodup
  kinds : ∀ x ∈ ps, f.scope.names.lookup x = some .local ∨ f.scope.names.lookup x = some .cell
  co : f.scope.isCoroutine = false
  gen : f.scope.isGenerator = false
  kind : f.scope.kind = .function
  dbg : f.scope.names.lookup (Str.ofString "__debug__") = none
  cells : ((cellsFrom 0 f.scope.names []).map (·.1)).Nodup

theorem FnOk.intro {g : GC} {f : DefItem} {nm : Str} {ps : List Str} {n : Nat} {ds : List Dat} {d : Dat} (D : DefOk f ps) (hn : f.name = nm) (hl : ds.length = ps.length)
    (body : ∀ A L a cd h₀, (frameOf g f A L a cd h₀).Ok n → (frameOf g f A L a cd h₀).Fn → Exs (frameOf g f A L a cd h₀) (ps.zip (ds.map RV.dat)) f.body (fun _ => d = .none) (fun r => r = d)) : FnOk g nm (n + 1) ds d := by
  subst hn
  intro A s Z vs fa room go G hz rd hf
  obtain ⟨fa', c', o, pm, doc, _, _, h3, h4, h5, h6⟩ := (G.made f (go.fn f D.mem)).plain D.nd
  have e : fa' = fa := by rw [hf] at h3; cases h3; rfl
  rw [e] at h4
  refine wpAny_call ?_
  have hvl : vs.length = ps.length := rd.len.trans hl
  have hfst : (ps.zip vs).map (·.1) = ps := by rw [List.map_fst_zip]; omega
  have hmem : ∀ x ∈ ps.zip vs, x.1 ∈ ps := fun x hx => hfst ▸ List.mem_map.mpr ⟨x, hx, rfl⟩
  refine call_cells_ret (by have := room.2.1; omega) h4 h5 G.nolimit h6 (D.bind _ _ _ vs hvl) (fun x hx => ?_) (fun h₁ tk F X => ?_) D.co D.gen D.kind
  · rcases D.kinds x.1 (hmem x hx) with k | k
    · exact .inl k
    · exact .inr ⟨k, cells_has _ _ _ _ (.inl k)⟩
  · have hnd : ((cellsFrom (s.heap.objs.size + 1) f.scope.names []).map (·.1)).Nodup := cellsFrom_names f.scope.names 0 (s.heap.objs.size + 1) [] [] rfl ▸ D.cells
    have ok : (frameOf g f (A.deeper (envOfC f.name f.scope s.heap.objs.size fa (.ref c'))) s.heap.objs.size fa (.ref c') s.heap).Ok n := ⟨D.kind, rfl, rfl, G, go, room.deeper _, X.apart, D.dbg⟩
    have fn : (frameOf g f (A.deeper (envOfC f.name f.scope s.heap.objs.size fa (.ref c'))) s.heap.objs.size fa (.ref c') s.heap).Fn :=
      ⟨fun n a ha => Heap.get?_none_of_le (Nat.le_of_lt (X.above n a ha)), fun x hx => Option.isSome_iff_exists.mp (cells_has _ _ _ _ (.inl hx))⟩
    have S : St (frameOf g f (A.deeper (envOfC f.name f.scope s.heap.objs.size fa (.ref c'))) s.heap.objs.size fa (.ref c') s.heap) Z (fun _ => none) (ps.zip (ds.map RV.dat)) h₁ := by
      refine ⟨⟨_, _, F, X.cell, fun x r hx => ?_⟩, fun a o e => F.keep a o (hz a o e), fun a o e => ?_, fun _ _ e => (by cases e), fun _ _ _ e => (by cases e), fun n a ha => ?_⟩
      · obtain ⟨v, d', hm, rfl, rv⟩ := zip_lookup rd hx
        refine ⟨v, ?_, rv⟩
        rcases D.kinds x (hmem _ hm) with k | k
        · exact .inl ⟨k, bindL_at _ _ x v k _ (by rw [hfst]; exact D.nodup) hm⟩
        · obtain ⟨b, hb⟩ := fn.cl x k
          exact .inr ⟨k, b, hb, bindC_at _ _ x v k _ (by rw [hfst]; exact D.nodup) hm⟩
      · have hlt : a < s.heap.objs.size := Heap.lt_size (hz a o e)
        rintro (q | ⟨n, q⟩ | ⟨x, q⟩)
        · exact absurd q (Nat.ne_of_lt hlt)
        · exact absurd (X.above n a q) (Nat.not_lt.mpr (Nat.le_of_lt hlt))
        · cases q
      · refine ⟨Nat.ne_of_gt (X.above n a ha), Cell.some (X.cell n a (lookup_of_mem_nodup hnd ha))⟩
    refine wpAny_mono (body _ _ _ _ _ ok fn Z (fun _ => none) { s with heap := h₁, toks := tk } S) ?_ fun _ _ x => x
    have fin : ∀ {v : Value} {s' : Shared} {d' : Dat} {ρ' : Rho} {Z' : Zs} {O' : Str → Option Addr}, Ends (frameOf g f (A.deeper (envOfC f.name f.scope s.heap.objs.size fa (.ref c'))) s.heap.objs.size fa (.ref c') s.heap) Z (fun _ => none) { s with heap := h₁, toks := tk } Z' O' ρ' s' → Rd Z' v d' →
        ∃ h' tk' Z', s' = { s with heap := h', toks := tk' } ∧ (∀ b o, s.heap.get? b = some o → h'.get? b = some o) ∧ (∀ a o, Z a o → Z' a o) ∧ (∀ a o, Z' a o → h'.get? a = some o ∧ (Z a o ∨ s.heap.get? a = none)) ∧ Rd Z' v d' := by
      rintro v s' d' ρ' Z' O' ⟨h', tk', rfl, S', P⟩ rv
      obtain ⟨m', cm', F', _⟩ := S'.fr
      refine ⟨h', tk', Z', rfl, F'.keep, P.z, fun a o q => ⟨S'.zin a o q, ?_⟩, rv⟩
      rcases P.zn a o q with k | k | ⟨x, k⟩
      · exact .inl k
      · right
        cases q2 : s.heap.get? a with
        | none => rfl
        | some o2 =>
          have := F.keep a o2 q2
          have k' : h₁.get? a = none := k
          rw [k'] at this; cases this
      · cases k
    intro fl s' q
    cases fl with
    | next => obtain ⟨ρ', Z', O', hd, e⟩ := q; subst hd; exact fin e .none
    | ret v => obtain ⟨d', ρ', Z', O', hd, e, rv⟩ := q; subst hd; exact fin e rv
    | brk => exact q.elim
    | cont => exact q.elim
/-- a frame that says less -/
noncomputable def Sub (a b : Rho) : Prop := ∀ p ∈ a, b.lookup p.1 = some p.2
theorem Sub.lookup {a b : Rho} (h : Sub a b) {x : Str} {r : RV} (e : a.lookup x = some r) : b.lookup x = some r := h (x, r) (mem_of_lookup e)
theorem Sub.nil {b : Rho} : Sub [] b := fun _ h => absurd h (List.not_mem_nil)
theorem Sub.cons {a b : Rho} {x : Str} {r : RV} (h : b.lookup x = some r) (k : Sub a b) : Sub ((x, r) :: a) b := List.forall_mem_cons.mpr ⟨h, k⟩
section
variable {c : Cx} {n : Nat} {Z Z1 : Zs} {O O1 : Str → Option Addr} {ρ ρ' : Rho} {s s1 s0 : Shared} {K : Dat → Rho → Prop} {R : Dat → Prop} {KS : Rho → Prop}
theorem St.weak {h : Heap} (S : St c Z O ρ h) (w : Sub ρ' ρ) : St c Z O ρ' h := by
  obtain ⟨m, cm, F, C, V⟩ := S.fr
  exact ⟨⟨m, cm, F, C, fun x r e => V x r (w.lookup e)⟩, S.zin, S.zav, S.oav, S.oinj, S.call⟩
theorem Ends.weak (e : Ends c Z O s Z1 O1 ρ s1) (w : Sub ρ' ρ) : Ends c Z O s Z1 O1 ρ' s1 := by
  obtain ⟨h, tk, rfl, S, P⟩ := e
  exact ⟨h, tk, rfl, S.weak w, P⟩
theorem Exs.weak {sts : List Stmt} (h : Exs c ρ' sts KS R) (w : Sub ρ' ρ) : Exs c ρ sts KS R := fun Z O s S => wp_mono (h Z O s (S.weak w)) fun _ _ q => q

theorem false_to {α : Type} {t : Sem α} {Q : α → Shared → Prop} {E : Value → Shared → Prop} (h : WP c t Q s) : wpAny (model c.prog c.w) c.A t Q E s := wpAny_mono h (fun _ _ x => x) fun _ _ x => x.elim

/-- while: a state α at each test, a measure that each turn lowers -/
theorem Ex.whileL {α : Type} {test : Expr} {body : List Stmt} {pos : Pos} (inv : α → Rho) (μ : α → Nat) (P : α → Prop) (a₀ : α) (h0 : Sub (inv a₀) ρ) (p0 : P a₀)
    (step : ∀ a, P a → Te c (inv a) test fun b ρ1 => (b = true → Exs c ρ1 body (fun ρ2 => ∃ a', μ a' < μ a ∧ P a' ∧ Sub (inv a') ρ2) R) ∧ (b = false → KS ρ1)) : Ex c ρ (.While test body [] pos) KS R := by
  intro Z O s S
  refine wpAny_While (codeAny_whileLoop (fun k s' => ∃ a Z' O', μ a = k ∧ P a ∧ Ends c Z O s Z' O' (inv a) s') ?_ (μ a₀) ⟨a₀, Z, O, rfl, p0, (Ends.refl S).weak h0⟩)
  rintro k s' ⟨a, Z', O', rfl, pa, e⟩
  refine false_to (wp_mono (step a pa Z' O' s' e.st) ?_)
  rintro b s2 ⟨ρ2, Z2, O2, k2, e2, _⟩
  cases b with
  | false =>
    simp only [Bool.false_eq_true, if_false]
    exact wpAny_execs_nil ⟨ρ2, Z2, O2, k2.2 rfl, e.trans e2⟩
  | true =>
    simp only [if_true]
    refine false_to (wp_mono (k2.1 rfl Z2 O2 s2 e2.st) ?_)
    intro f s3 q
    cases f with
    | next => obtain ⟨ρ3, Z3, O3, ⟨a', hμ, pa', w⟩, e3⟩ := q; exact ⟨μ a', hμ, a', Z3, O3, rfl, pa', (e.trans (e2.trans e3)).weak w⟩
    | ret v => obtain ⟨d, ρ3, Z3, O3, r, e3, rv⟩ := q; exact ⟨d, ρ3, Z3, O3, r, e.trans (e2.trans e3), rv⟩
    | brk => exact q.elim
    | cont => exact q.elim

/-- objects that are neither the frame's nor frozen are turned -/
theorem St.other {h h' : Heap} {wr : List Addr} (S : St c Z O ρ h) (k : ∀ b o, b ∉ wr → h.get? b = some o → h'.get? b = some o) (hw : ∀ b ∈ wr, ¬ Own c O b ∧ (∀ o, ¬ Z b o) ∧ c.h₀.get? b = none) : St c Z O ρ h' := by
  obtain ⟨m, cm, F, C, V⟩ := S.fr
  have kO : ∀ b o, Own c O b → h.get? b = some o → h'.get? b = some o := fun b o q e => k b o (fun hb => (hw b hb).1 q) e
  have live : ∀ b, Own c O b → h.get? b ≠ none → h'.get? b ≠ none := fun b q e => by
    cases e1 : h.get? b with
    | none => exact absurd e1 e
    | some o => rw [kO b o q e1]; exact Option.some_ne_none _
  refine ⟨⟨m, cm, ⟨F.ns.at' fun o e => kO _ o (.inl rfl) e, fun b o e => k b o (fun hb => by rw [(hw b hb).2.2] at e; cases e) (F.keep b o e), F.above⟩, fun n a e => ?_, fun x r e => ?_⟩, fun a o e => k a o (fun hb => (hw a hb).2.1 o e) (S.zin a o e), S.zav, fun x a e => ?_, S.oinj, fun n a e => ?_⟩
  · obtain ⟨o, ho, hd⟩ := C n a e
    exact ⟨o, kO a o (.inr (.inl ⟨n, mem_of_lookup e⟩)) ho, hd⟩
  · obtain ⟨v, hv, hr⟩ := V x r e
    refine ⟨v, hv, ?_⟩
    cases r with
    | dat d => exact hr
    | own ds => obtain ⟨a, vs, n, e1, e2, e3, e4⟩ := hr; exact ⟨a, vs, n, e1, e2, kO a _ (.inr (.inr ⟨x, e1⟩)) e3, e4⟩
  · obtain ⟨e1, e2, e3, e4⟩ := S.oav x a e
    exact ⟨e1, e2, e3, live a (.inr (.inr ⟨x, e⟩)) e4⟩
  · obtain ⟨e1, e4⟩ := S.call n a e
    exact ⟨e1, live a (.inr (.inl ⟨n, e⟩)) e4⟩
theorem Ends.other {wr : List Addr} {h' : Heap} {tk : Nat} (e : Ends c Z O s Z1 O1 ρ s1) (k : ∀ b o, b ∉ wr → s1.heap.get? b = some o → h'.get? b = some o) (hw : ∀ b ∈ wr, ¬ Own c O1 b ∧ (∀ o, ¬ Z1 b o) ∧ c.h₀.get? b = none) (hn : ∀ b ∈ wr, s.heap.get? b = none) :
    Ends c Z O s Z1 O1 ρ { s1 with heap := h', toks := tk } := by
  obtain ⟨h1, tk1, rfl, S1, P⟩ := e
  refine ⟨h', tk, rfl, S1.other k hw, ⟨P.z, P.zn, fun b o q hb => k b o (fun hw' => by rw [hn b hw'] at q; cases q) (P.keep b o q hb), P.own⟩⟩

theorem fresh_off {h : Heap} (S : St c Z O ρ h) {b : Addr} (e : h.get? b = none) : ¬ Own c O b ∧ (∀ o, ¬ Z b o) ∧ c.h₀.get? b = none := by
  refine ⟨S.notOwn e, (fun o q => by rw [S.zin b o q] at e; cases e), ?_⟩
  cases q : c.h₀.get? b with
  | none => rfl
  | some o =>
    obtain ⟨m, cm, F, _⟩ := S.fr
    rw [F.keep b o q] at e; cases e

/-- what a loop's turn must leave as it is: its iterator -/
theorem off_stp (e : Ends c Z O s Z1 O1 ρ' s1) {b : Addr} (hl : s.heap.get? b ≠ none) (h : ¬ Own c O b ∧ (∀ o, ¬ Z b o) ∧ c.h₀.get? b = none) : ¬ Own c O1 b ∧ (∀ o, ¬ Z1 b o) ∧ c.h₀.get? b = none := by
  obtain ⟨h1, tk1, rfl, S1, P⟩ := e
  refine ⟨?_, fun o q => ?_, h.2.2⟩
  · rintro (q | ⟨n, q⟩ | ⟨x, q⟩)
    · exact h.1 (.inl q)
    · exact h.1 (.inr (.inl ⟨n, q⟩))
    · rcases P.own x b q with k | k
      · exact h.1 (.inr (.inr k))
      · exact hl k
  · rcases P.zn b o q with k | k | k
    · exact h.2.1 o k
    · exact hl k
    · exact h.1 (.inr (.inr k))

theorem for_core (ok : c.Ok n) (fn : c.Fn) {x : Str} {p : Pos} {body : List Stmt} (hx : Put c x) {I : Addr} {fp wr : List Addr} {nn : Nat} {P : Nat → Value → Prop} {Sti : Nat → Heap → Prop} (W : Walks c.prog c.w c.A I fp wr nn P Sti)
    (hlive : ∀ i h, Sti i h → ∀ b ∈ wr, h.get? b ≠ none) {ds : List Dat} (hds : ds.length = nn) (inv : Nat → Rho) (S : St c Z O ρ s0.heap) (h0 : Sub (inv 0) ρ) {h1 : Heap} {tk1 : Nat} (hk : ∀ b o, s0.heap.get? b = some o → h1.get? b = some o)
    (st0 : Sti 0 h1) (hwr : ∀ b ∈ wr, s0.heap.get? b = none) (hfp : ∀ b ∈ fp, b ∈ wr ∨ ∃ o, Z b o) (hP : ∀ i v, P i v → ∃ d, ds[i]? = some d ∧ Rd Z v d)
    (step : ∀ i d, ds[i]? = some d → Exs c (upd (inv i) x (.dat d)) body (fun ρ2 => Sub (inv (i + 1)) ρ2) R) (done : KS (inv nn)) :
    codeAny (model c.prog c.w) c.A (.forLoop (.Name x p) (.ref I) body [] c.env) (fun r s' => match r with | .ok f => ExR c Z O s0 KS R f s' | .error e => cameBackBy (model c.prog c.w) c.A c.env (fun _ _ => False) e s') { s0 with heap := h1, toks := tk1 } := by
  refine codeAny_forLoop (fun k s' => ∃ i Z' O', Ends c Z O s0 Z' O' (inv i) s' ∧ Sti i s'.heap ∧ (∀ b ∈ wr, ¬ Own c O' b ∧ (∀ o, ¬ Z' b o) ∧ c.h₀.get? b = none) ∧ i ≤ nn ∧ k = nn + 1 - i) ?_ (nn + 1)
    ⟨0, Z, O, (Ends.grow S hk).weak h0, st0, fun b hb => fresh_off S (hwr b hb), Nat.zero_le _, rfl⟩
  rintro k s' ⟨i, Z', O', e, sti, off, hi, rfl⟩
  by_cases hlt : i < nn
  · refine W.item i s' _ _ hlt sti fun v h2 tk2 hPv sti2 hk2 => ?_
    have e2 : Ends c Z O s0 Z' O' (inv i) { s' with heap := h2, toks := tk2 } := e.other hk2 off hwr
    obtain ⟨d, hd, rv⟩ := hP i v hPv
    refine false_to (wpAny_assign_Name (store_dat ok fn e2.st hx (rv.mono e.z) fun s3 e3 => ?_))
    refine false_to (wp_mono (step i d hd Z' O' s3 e3.st) ?_)
    have live2 : ∀ b ∈ wr, h2.get? b ≠ none := hlive _ _ sti2
    have off3 : ∀ b ∈ wr, ¬ Own c O' b ∧ (∀ o, ¬ Z' b o) ∧ c.h₀.get? b = none := off
    have keep3 : ∀ b ∈ fp, ∀ o, h2.get? b = some o → s3.heap.get? b = some o := fun b hb o q => by
      rcases hfp b hb with k | ⟨o', k⟩
      · exact e3.stp.keep b o q (off b k).1
      · exact e3.stp.keep b o q (e2.st.zav b o' (e.z b o' k))
    have sti3 : Sti (i + 1) s3.heap := W.frame _ _ _ sti2 keep3
    intro f s4 q
    cases f with
    | next =>
      obtain ⟨ρ4, Z4, O4, w, e4⟩ := q
      have live3 : ∀ b ∈ wr, s3.heap.get? b ≠ none := hlive _ _ sti3
      refine ⟨nn + 1 - (i + 1), by omega, i + 1, Z4, O4, (e2.trans (e3.trans e4)).weak w, W.frame _ _ _ sti3 fun b hb o q => ?_, fun b hb => off_stp e4 (live3 b hb) (off b hb), hlt, rfl⟩
      rcases hfp b hb with k | ⟨o', k⟩
      · exact e4.stp.keep b o q (off b k).1
      · exact e4.stp.keep b o q (e3.st.zav b o' (e.z b o' k))
    | ret v => obtain ⟨d, ρ3, Z3, O3, r, e4, rv⟩ := q; exact ⟨d, ρ3, Z3, O3, r, e2.trans (e3.trans e4), rv⟩
    | brk => exact q.elim
    | cont => exact q.elim
  · have hin : i = nn := by omega
    subst hin
    refine W.done s' _ _ sti fun h2 tk2 hk2 => wpAny_execs_nil ?_
    exact ⟨inv i, Z', O', done, e.other hk2 off hwr⟩

theorem folded {e : Expr} {env : Env} (h : plainE e = true) (x : Value) : foldedSetIterable e env x = pure x := by cases e <;> first | rfl | cases h

theorem Ex.forList (ok : c.Ok n) (fn : c.Fn) {x : Str} {p pos : Pos} {iter : Expr} {body : List Stmt} (hx : Put c x) (hp : plainE iter = true) (inv : List Dat → Nat → Rho)
    (h : Ev c ρ iter fun a ρ1 => ∃ ds, a = .list ds ∧ Sub (inv ds 0) ρ1 ∧ (∀ i d, ds[i]? = some d → Exs c (upd (inv ds i) x (.dat d)) body (fun ρ2 => Sub (inv ds (i + 1)) ρ2) R) ∧ KS (inv ds ds.length)) : Ex c ρ (.For (.Name x p) iter body [] pos) KS R := by
  intro Z O s S
  refine wpAny_For (wp_mono (h Z O s S) ?_) (folded hp)
  rintro va s1 ⟨a, ρ1, Z1, O1, ⟨ds, rfl, h0, step, done⟩, e1, o1, r1⟩
  obtain ⟨y, vs, m, rfl, hy, ry⟩ := r1.lst_inv
  have hg := e1.st.zin _ _ hy
  refine wpAny_pyIter_list (items := vs.toArray) ⟨_, hg, rfl, m, rfl⟩ ?_
  have hne : y ≠ s1.heap.objs.size := Nat.ne_of_lt (Heap.lt_size hg)
  have W := Walks.list (prog := c.prog) (w := c.w) ok.room.1 s1.heap.objs.size y hne vs.toArray
  have hl := ry.len
  refine codeAny_mono (for_core ok fn hx (ds := ds) (s0 := s1) (tk1 := s1.toks) (KS := KS) (R := R) W ?_ (by rw [List.size_toArray, hl]) (inv ds) e1.st h0 (fun b o => Heap.get?_push_of_some _) ?_ ?_ ?_ ?_ step (by rw [List.size_toArray, hl]; exact done)) ?_
  · rintro i h ⟨⟨o, ho, _⟩, _⟩ b hb
    rw [List.mem_singleton.mp hb, ho]; exact Option.some_ne_none _
  · exact ⟨⟨_, Heap.get?_push_size _ rfl, rfl, rfl⟩, _, Heap.get?_push_of_some _ hg, rfl, m, rfl⟩
  · intro b hb; rw [List.mem_singleton.mp hb]; exact get_fresh _
  · intro b hb
    rcases List.mem_cons.mp hb with e | hb
    · exact .inl (by simp [e])
    · exact .inr ⟨_, (List.mem_singleton.mp hb) ▸ hy⟩
  · intro i v hv
    exact ry.at (by simpa using hv)
  · intro r s' q
    cases r with
    | ok f => exact q.then e1
    | error e => exact q

/-- for x in range(k) -/
theorem Ex.forRange (ok : c.Ok n) (fn : c.Fn) {x : Str} {p q pos qos : Pos} {e : Expr} {body : List Stmt} (hx : Put c x) (hk : c.env.kindOf (Str.ofString "range") = some .globalImplicit) (hp : plainE e = true) (inv : Nat → Nat → Rho)
    (h : Ev c ρ e fun a ρ1 => ∃ k : Nat, a = .int k ∧ k ≤ 1000 ∧ Sub (inv k 0) ρ1 ∧ (∀ i, i < k → Exs c (upd (inv k i) x (.dat (.int i))) body (fun ρ2 => Sub (inv k (i + 1)) ρ2) R) ∧ KS (inv k k)) :
    Ex c ρ (.For (.Name x p) (.Call (.Name (Str.ofString "range") q) [e] [] qos) body [] pos) KS R := by
  intro Z O s S
  refine wpAny_For (Call_Name rfl (bi_read ok S hk (b := .range) (by simp [biTab]) (callWith_bi hp rfl (args_cons (wp_mono (h Z O s S) ?_) (plain_star hp))))) (by intro _; rfl)
  rintro va s1 ⟨a, ρ1, Z1, O1, ⟨k, rfl, hk1, h0, step, done⟩, e1, o1, r1⟩
  obtain ⟨t, rfl⟩ := r1.int_inv
  refine args_nil (call_range_1 (wpAny_pyIter_range (IsRange.new ..) (small_one (by decide) (by decide) (by omega) (by omega)) ?_))
  have hsz : Builtin.Range.rangeSize 0 (k : Int) 1 = (k : Int) := by rw [rangeSize_one]; split <;> omega
  have kp : ∀ b o, s1.heap.get? b = some o → ((s1.heap.push { cls := .type "range", data := .fields #[.int 0 s1.toks, .int k t, .int 1 (s1.toks + 1)] }).push { cls := .type "range_iterator", data := .fields #[rawInt 0, rawInt (Builtin.Range.rangeSize 0 k 1), rawInt 1] }).get? b = some o :=
    fun b o q => Heap.get?_push_of_some _ (Heap.get?_push_of_some _ q)
  have W := (Walks.range (prog := c.prog) (w := c.w) ok.room.1 (s1.heap.push { cls := .type "range", data := .fields #[.int 0 s1.toks, .int k t, .int 1 (s1.toks + 1)] }).objs.size 0 1 k).bound
  have hlen : ((List.range k).map fun i : Nat => Dat.int i).length = k := by simp
  refine codeAny_mono (for_core ok fn hx (ds := (List.range k).map fun i : Nat => Dat.int i) (s0 := s1) (KS := KS) (R := R) W ?_ hlen (inv k) e1.st h0 kp ?_ ?_ ?_ ?_ (fun i d hd => ?_) done) ?_
  · intro i h hi b hb
    rw [List.mem_singleton.mp hb, hi]; exact Option.some_ne_none _
  · have e1 : (0 + ((0 : Nat) : Int) * 1) = 0 := by simp
    have e2 : ((k : Int) - ((0 : Nat) : Int)) = Builtin.Range.rangeSize 0 k 1 := by rw [hsz]; simp
    rw [e1, e2]
    exact Heap.get?_push_size _ rfl
  · intro b hb; rw [List.mem_singleton.mp hb]; exact Heap.get?_none_of_le (by rw [Heap.size_push]; exact Nat.le_succ _)
  · intro b hb; exact .inl hb
  · rintro i v ⟨hi, t, rfl⟩
    refine ⟨.int i, by simp [hi], ?_⟩
    have : 0 + (i : Int) * 1 = i := by omega
    rw [this]; exact .int _ _
  · have hi : i < k := by have := (List.getElem?_eq_some_iff.mp hd).1; simpa using this
    have : d = .int i := by simp [hi] at hd; exact hd.symm
    subst this
    exact step i hi
  · intro r s' q
    cases r with
    | ok f => exact q.then e1
    | error e => exact q
end
section
variable {c : Cx} {n : Nat} {Z Z1 : Zs} {O O1 : Str → Option Addr} {ρ ρ' : Rho} {s s1 s0 : Shared} {K : Dat → Rho → Prop} {R : Dat → Prop} {KS : Rho → Prop}

theorem two_inv {Z : Zs} {v : Value} {d1 d2 : Dat} (r : Rd Z v (.tuple [d1, d2])) : ∃ a v1 v2 m, v = .ref a ∧ Z a (tupOf #[v1, v2] m) ∧ Rd Z v1 d1 ∧ Rd Z v2 d2 := by
  obtain ⟨a, vs, m, rfl, ha, rr⟩ := r.tup_inv
  obtain ⟨v1, w1, rfl, r1, r2⟩ := rr.cons_inv
  obtain ⟨v2, w2, rfl, r3, r4⟩ := r2.cons_inv
  obtain rfl := r4.nil_inv
  exact ⟨a, v1, v2, m, rfl, ha, r1, r3⟩
theorem ext_keep {h h' : Heap} (x : Heap.ExtBut h.objs.size h h') : ∀ b o, h.get? b = some o → h'.get? b = some o := fun b o e => x b o (Nat.ne_of_lt (Heap.lt_size e)) e

theorem assign_two (ok : c.Ok n) (fn : c.Fn) {x y : Str} {p q tpos : Pos} {k : Nat} (hx : Put c x) (hy : Put c y) {v : Value} {d1 d2 : Dat} (S : St c Z O ρ s.heap) (r : Rd Z v (.tuple [d1, d2])) {Q : Unit → Shared → Prop}
    (h : ∀ s', Ends c Z O s Z O (upd (upd ρ x (.dat d1)) y (.dat d2)) s' → Q () s') : WP c (assign (.Tuple [.Name x p, .Name y q] k tpos) c.env v) Q s := by
  obtain ⟨a, v1, v2, m, rfl, ha, r1, r2⟩ := two_inv r
  refine wpAny_assign_Tuple (items := #[v1, v2]) ok.room.1 ⟨_, S.zin _ _ ha, rfl, m, rfl⟩ rfl rfl fun h' hx' => ?_
  have e1 : Ends c Z O s Z O ρ { s with heap := h' } := .grow (tk := s.toks) S (ext_keep hx')
  show wpAny _ _ (assignInOrder [assign (.Name x p) c.env, assign (.Name y q) c.env] [v1, v2]) _ _ _
  refine wpAny_assignInOrder_more (wpAny_assign_Name (store_dat ok fn e1.st hx r1 fun s2 e2 => ?_))
  refine wpAny_assignInOrder_more (wpAny_assign_Name (store_dat ok fn e2.st hy r2 fun s3 e3 => ?_))
  exact wpAny_assignInOrder_none (h s3 (e1.trans (e2.trans e3)))
theorem swaps_tuple {x : List Expr} {k : Nat} {tpos pos : Pos} {v : Expr} {env : Env} (hc : noComp v = true) : swapsWithSole [.Tuple x k tpos] v pos.line env = pure false := by
  show swapsWith v (some (.Tuple x k tpos)) pos.line env = pure false
  exact noComp_swaps hc
theorem Ex.assign2 (ok : c.Ok n) (fn : c.Fn) {x y : Str} {p q tpos pos : Pos} {k : Nat} {value : Expr} (hx : Put c x) (hy : Put c y) (hc : noComp value = true) (hw : swappedStores [.Tuple [.Name x p, .Name y q] k tpos] value c.env = pure none)
    (h : Ev c ρ value fun a ρ1 => ∃ d1 d2, a = .tuple [d1, d2] ∧ KS (upd (upd ρ1 x (.dat d1)) y (.dat d2))) : Ex c ρ (.Assign [.Tuple [.Name x p, .Name y q] k tpos] value pos) KS R := by
  intro Z O s S
  refine Assign_Tuple (wp_mono (h Z O s S) ?_) (swaps_tuple hc) hw
  rintro v s1 ⟨a, ρ1, Z1, O1, ⟨d1, d2, rfl, k1⟩, e1, o1, r1⟩
  exact assign_two ok fn hx hy e1.st r1 fun s2 e2 => ⟨_, Z1, O1, k1, e1.trans e2⟩
theorem Ex.assign2s (ok : c.Ok n) (fn : c.Fn) {x y : Str} {p q tpos pos : Pos} {k : Nat} {value : Expr} (hx : Put c x) (hy : Put c y) (hc : noComp value = true) (hw : swappedStores [.Tuple [.Name x p, .Name y q] k tpos] value c.env = pure (some [x, y]))
    (h : Ev c ρ value fun a ρ1 => ∃ d1 d2, a = .tuple [d1, d2] ∧ KS (upd (upd ρ1 y (.dat d2)) x (.dat d1))) : Ex c ρ (.Assign [.Tuple [.Name x p, .Name y q] k tpos] value pos) KS R := by
  intro Z O s S
  refine Assign_Tuple_swapped (wp_mono (h Z O s S) ?_) (swaps_tuple hc) hw
  rintro v s1 ⟨a, ρ1, Z1, O1, ⟨d1, d2, rfl, k1⟩, e1, o1, r1⟩
  obtain ⟨t, v1, v2, m, rfl, ha, r2, r3⟩ := two_inv r1
  refine wpAny_unpackItems_tuple (items := #[v1, v2]) ok.room.1 ⟨_, e1.st.zin _ _ ha, rfl, m, rfl⟩ fun h' hx' => ?_
  have e2 : Ends c Z1 O1 s1 Z1 O1 ρ1 { s1 with heap := h' } := .grow (tk := s1.toks) e1.st (ext_keep hx')
  show wpAny _ _ (assignInOrder [bindName c.env y, bindName c.env x] [v2, v1]) _ _ _
  refine wpAny_assignInOrder_more (wpAny_bindName (store_dat ok fn e2.st hy r3 fun s3 e3 => ?_))
  refine wpAny_assignInOrder_more (wpAny_bindName (store_dat ok fn e3.st hx r2 fun s4 e4 => ?_))
  exact wpAny_assignInOrder_none ⟨_, Z1, O1, k1, e1.trans (e2.trans (e3.trans e4))⟩
/-- x, y = ([], e): the first is a list of the frame's own -/
theorem Ex.assign2o (ok : c.Ok n) (fn : c.Fn) {x y : Str} {p q tpos pos q1 q2 : Pos} {k k2 : Nat} {e : Expr} (hx : Put c x) (hy : Put c y) (hp : plainE e = true)
    (hw : swappedStores [.Tuple [.Name x p, .Name y q] k tpos] (.Tuple [.List [] q1, e] k2 q2) c.env = pure (some [x, y]))
    (h : Ev c ρ e fun d ρ1 => KS (upd (upd ρ1 y (.dat d)) x (.own []))) : Ex c ρ (.Assign [.Tuple [.Name x p, .Name y q] k tpos] (.Tuple [.List [] q1, e] k2 q2) pos) KS R := by
  intro Z O s S
  refine Assign_Tuple_swapped (Tuple_ (args_cons (List_ (args_nil (wpAny_newObj_type ?_ (Nat.zero_le _)))) rfl)) (swaps_tuple rfl) hw
  have fr := get_fresh s.heap
  have off := fresh_off S fr
  have k1 : ∀ b o, s.heap.get? b = some o → (s.heap.push { cls := .type "list", data := .seq ([] : List Value).toArray }).get? b = some o := fun b o => Heap.get?_push_of_some _
  have a1 : (s.heap.push { cls := .type "list", data := .seq ([] : List Value).toArray }).get? s.heap.objs.size = some (listOf ([] : List Value).toArray 0) := Heap.get?_push_size _ rfl
  have e1 : Ends c Z O s Z O ρ { s with heap := s.heap.push { cls := .type "list", data := .seq ([] : List Value).toArray } } := .grow (tk := s.toks) S k1
  refine args_cons (wp_mono (h Z O _ e1.st) ?_) (plain_star hp)
  rintro v s2 ⟨d, ρ2, Z2, O2, kd, e2, o2, r2⟩
  refine args_nil (wpAny_newObj_type ?_ (by show 2 ≤ sizeLine; have := sizeLine_ge; omega))
  have off2 := off_stp e2 (b := s.heap.objs.size) (by rw [a1]; exact Option.some_ne_none _) off
  have a2 : s2.heap.get? s.heap.objs.size = some (listOf ([] : List Value).toArray 0) := e2.stp.keep _ _ a1 off.1
  have k3 : ∀ b o, s2.heap.get? b = some o → (s2.heap.push { cls := .type "tuple", data := .seq [Value.ref s.heap.objs.size, v].toArray }).get? b = some o := fun b o => Heap.get?_push_of_some _
  have e3 : Ends c Z2 O2 s2 Z2 O2 ρ2 { s2 with heap := s2.heap.push { cls := .type "tuple", data := .seq [Value.ref s.heap.objs.size, v].toArray } } := .grow (tk := s2.toks) e2.st k3
  refine wpAny_unpackItems_tuple (items := #[Value.ref s.heap.objs.size, v]) ok.room.1 ⟨_, Heap.get?_push_size _ rfl, rfl, _, rfl⟩ fun h' hx' => ?_
  have e4 : Ends c Z2 O2 { s2 with heap := s2.heap.push { cls := .type "tuple", data := .seq [Value.ref s.heap.objs.size, v].toArray } } Z2 O2 ρ2 { s2 with heap := h' } := .grow (tk := s2.toks) e3.st (ext_keep hx')
  show wpAny _ _ (assignInOrder [bindName c.env y, bindName c.env x] [v, Value.ref s.heap.objs.size]) _ _ _
  refine wpAny_assignInOrder_more (wpAny_bindName (store_dat ok fn e4.st hy r2 fun s5 e5 => ?_))
  have e15 := e1.trans (e2.trans (e3.trans (e4.trans e5)))
  have a5 : s5.heap.get? s.heap.objs.size = some (listOf ([] : List Value).toArray 0) := e5.stp.keep _ _ (ext_keep hx' _ _ (k3 _ _ a2)) off2.1
  have hf : Fresh c Z2 O2 s5.heap s.heap.objs.size [] := ⟨⟨[], 0, a5, .nil⟩, fun z => off2.1 (.inl z), fun n z => off2.1 (.inr (.inl ⟨n, z⟩)), off2.2.2, fun y z => off2.1 (.inr (.inr ⟨y, z⟩)), off2.2.1⟩
  refine wpAny_assignInOrder_more (wpAny_bindName (store_own ok fn e5.st hx hf fun h6 tk6 S6 kp => ?_))
  refine wpAny_assignInOrder_none ⟨_, Z2, _, kd, ⟨h6, tk6, ?_, S6, ?_⟩⟩
  · obtain ⟨hh, tt, rfl, _, _⟩ := e15; rfl
  · refine ⟨e15.stp.z, e15.stp.zn, fun b o z hb => ?_, fun w b z => ?_⟩
    · exact kp b o (fun q => hb (.inl q)) (fun n q => hb (.inr (.inl ⟨n, q⟩))) (e15.stp.keep b o z hb)
    · by_cases hw' : w = x
      · simp only [hw', if_true] at z; cases z; exact .inr fr
      · simp only [if_neg hw'] at z; exact e15.stp.own w b z

/-- found.append(e) -/
theorem Ex.append (ok : c.Ok n) {x : Str} {p ap pos pos' : Pos} {e : Expr} {ds : List Dat} (hx : ρ.lookup x = some (.own ds)) (hp : plainE e = true) (hline : (ap.endLine == pos.line) = true) 
    (hi : interactive c.env = false)
    (h : Ev c ρ e fun d ρ1 => ∃ ds1, ρ1.lookup x = some (.own ds1) ∧ ds1.length ≤ 1000 ∧ KS (upd ρ1 x (.own (ds1 ++ [d])))) : Ex c ρ (.Expr (.Call (.Attribute (.Name x p) (Str.ofString "append") ap) [e] [] pos) pos') KS R := by
  intro Z O s S
  refine wpAny_Expr (wpAny_Call_append rfl ?_ hline ?_ (name_read ok S hx ?_)) hi rfl
  · rw [plain_star hp]; rfl
  · rw [plain_star hp]; rfl
  rintro va ⟨a, vs, m, ha, rfl, hg, rx⟩
  refine ⟨a, vs.toArray, rfl, ⟨_, _, hg, rfl, rfl, rfl⟩, wp_mono (h Z O s S) ?_⟩
  rintro v s1 ⟨d, ρ1, Z1, O1, ⟨ds1, hx1, hl1, k1⟩, e1, o1, r1⟩
  have S1 := e1.st
  obtain ⟨m1, cm1, F1, C1, V1⟩ := S1.fr
  obtain ⟨w, hw, a', vs', m', ha', rfl, hg', rx'⟩ := V1 x _ hx1
  have haa : a' = a := Option.some.inj ((o1.sub _ _ ha').symm.trans ha)
  subst haa
  have hlen := rx'.len
  refine append_at (hsz := by rw [List.size_toArray]; have := sizeLine_ge; omega) hg' fun h2 hs2 hg2 => ?_
  obtain ⟨b1, b2, b3, b4⟩ := S1.oav x a' ha'
  refine ⟨_, Z1, O1, k1, ?_⟩
  have e' : (vs'.toArray.push v) = (vs' ++ [v]).toArray := by simp
  rw [e'] at hg2
  have St2 : St c Z1 O1 (upd ρ1 x (.own (ds1 ++ [d]))) h2 := by
    refine St.turn (m' := m1) (cm' := cm1) (O' := O1) (Z' := Z1) S1 hs2 ⟨F1.ns.sameBut hs2 (Ne.symm b1), fun b o q => (hs2.2 b (fun z => by rw [z, b3] at q; cases q)).trans (F1.keep b o q), F1.above⟩ (fun y b q => (C1 y b q).sameBut hs2 (fun z => b2 y (z ▸ mem_of_lookup q))) ?_ ?_ S1.zav ?_ S1.oinj (by rw [hg2]; exact Option.some_ne_none _)
    · intro y r q
      rw [lookup_upd] at q
      by_cases hy : y = x
      · subst hy; rw [if_pos rfl] at q; cases q
        exact ⟨_, hw, a', _, _, ha', rfl, hg2, rx'.append (.cons r1 .nil)⟩
      · rw [if_neg hy] at q
        obtain ⟨u, hu, hr⟩ := V1 y r q
        refine ⟨u, hu, ?_⟩
        cases r with
        | dat d => exact hr
        | own es =>
          obtain ⟨b, ws, k, z1, z2, z3, z4⟩ := hr
          exact ⟨b, ws, k, z1, z2, (hs2.2 b (fun z => hy (S1.oinj _ _ _ z1 (z ▸ ha')))).trans z3, z4⟩
    · intro b o q
      exact (hs2.2 b (fun z => S1.zav b o q (.inr (.inr ⟨x, z ▸ ha'⟩)))).trans (S1.zin b o q)
    · intro y b q
      obtain ⟨z1, z2, z3, z4⟩ := S1.oav y b q
      refine ⟨z1, z2, z3, ?_⟩
      by_cases hb : b = a'
      · subst hb; rw [hg2]; exact Option.some_ne_none _
      · rw [hs2.2 b hb]; exact z4
  exact e1.trans ⟨h2, s1.toks, rfl, St2, ⟨fun _ _ q => q, fun _ _ q => .inl q, fun b o q hb => (hs2.2 b (fun z => hb (.inr (.inr ⟨x, z ▸ ha'⟩)))).trans q, fun _ _ q => .inl ⟨_, q⟩⟩⟩
end
section
variable {Z : Zs} (hZ : ∀ a o o', Z a o → Z a o' → o = o')
include hZ
mutual
theorem dat_uniq {n1 n2 : List (Addr × Obj)} (h1 : ∀ p ∈ n1, Z p.1 p.2) (h2 : ∀ p ∈ n2, Z p.1 p.2) : ∀ {v : Value} {d d' : Dat}, DatIn n1 v d → DatIn n2 v d' → d = d'
  | _, _, _, .none, h => by cases h; rfl
  | _, _, _, .bool b, h => by cases h; rfl
  | _, _, _, .int i t, h => by cases h; rfl
  | _, _, _, .str x t, h => by cases h; rfl
  | _, _, _, .bytes b t, h => by cases h; rfl
  | _, _, _, .tuple hm r, h => by
    cases h with
    | tuple hm' r' =>
      have q1 := h1 _ hm
      have q2 := h2 _ hm'
      have e := hZ _ _ _ q1 q2
      have e' := congrArg Obj.data e
      simp only [Data.seq.injEq] at e'
      have e2 := congrArg Array.toList e'.1
      dsimp only at e2
      subst e2
      rw [dats_uniq h1 h2 r r']
    | list hm' r' =>
      have q1 := h1 _ hm
      have q2 := h2 _ hm'
      have e := hZ _ _ _ q1 q2
      have e' := congrArg Obj.cls e
      simp at e'
  | _, _, _, .list hm r, h => by
    cases h with
    | list hm' r' =>
      have q1 := h1 _ hm
      have q2 := h2 _ hm'
      have e := hZ _ _ _ q1 q2
      have e' := congrArg Obj.data e
      simp only [Data.seq.injEq] at e'
      have e2 := congrArg Array.toList e'.1
      dsimp only at e2
      subst e2
      rw [dats_uniq h1 h2 r r']
    | tuple hm' r' =>
      have q1 := h1 _ hm
      have q2 := h2 _ hm'
      have e := hZ _ _ _ q1 q2
      have e' := congrArg Obj.cls e
      simp at e'
theorem dats_uniq {n1 n2 : List (Addr × Obj)} (h1 : ∀ p ∈ n1, Z p.1 p.2) (h2 : ∀ p ∈ n2, Z p.1 p.2) : ∀ {vs : List Value} {ds ds' : List Dat}, DatAll n1 vs ds → DatAll n2 vs ds' → ds = ds'
  | _, _, _, .nil, h => by cases h; rfl
  | _, _, _, .cons a b, h => by
    cases h with
    | cons a' b' => rw [dat_uniq h1 h2 a a', dats_uniq h1 h2 b b']
end
end
section
variable {c : Cx} {n : Nat} {Z Z1 : Zs} {O O1 : Str → Option Addr} {ρ ρ' : Rho} {s s1 s0 : Shared} {K : Dat → Rho → Prop} {R : Dat → Prop} {KS : Rho → Prop}
theorem St.uniq {h : Heap} (S : St c Z O ρ h) {v : Value} {d d' : Dat} (r : Rd Z v d) (r' : Rd Z v d') : d = d' := by
  obtain ⟨n1, h1, x⟩ := r
  obtain ⟨n2, h2, y⟩ := r'
  exact dat_uniq (fun a o o' q q' => by have := S.zin a o q; rw [S.zin a o' q'] at this; cases this; rfl) h1 h2 x y

/-- the frame of a comprehension within a frame -/
abbrev compOf (c : Cx) (scope : Scope) (cl : List (Str × Addr)) (C : Addr) : Cx := ⟨c.g, c.A, compEnvC scope cl C c.env, c.h₀⟩
noncomputable def compRho (x : Str) (d : Dat) (cap : List (Str × Dat)) : Rho := (x, .dat d) :: cap.map fun p => (p.1, .dat p.2)

structure CompOk (c : Cx) (scope : Scope) (cl : List (Str × Addr)) (x : Str) : Prop where
  clos : closureFor scope c.env = pure cl
  cell : ∀ y ∈ scope.names, y.2 ≠ .cell
  kind : scope.kind = .function
  names : ∀ y ∈ scope.names, y.2 = .local → scope.names.lookup y.1 = some .local
  hx : scope.names.lookup x = some .local
  cls : ∀ p ∈ cl, c.env.cells.lookup p.1 = some p.2
  ap : cl.Pairwise fun x y => x.2 ≠ y.2
  nd : (relabel scope c.env).names.lookup (Str.ofString "__debug__") = none
/-- what a comprehension takes of the frame about it -/
structure CapOk (c : Cx) (scope : Scope) (cl : List (Str × Addr)) (x : Str) (ρ : Rho) (cap : List (Str × Dat)) : Prop where
  off : ∀ p ∈ cap, p.1 ≠ x
  said : ∀ p ∈ cap, ρ.lookup p.1 = some (.dat p.2)
  kd : ∀ p ∈ cap, c.env.kindOf p.1 = some .cell ∧ (relabel scope c.env).names.lookup p.1 = some .cell ∧ (cl.lookup p.1).isSome = true

theorem compOf.ok (ok : c.Ok n) {scope : Scope} {cl : List (Str × Addr)} {x : Str} {C : Addr} (D : CompOk c scope cl x) : (compOf c scope cl C).Ok n :=
  ⟨D.kind, ok.glob, ok.bi, ok.G, ok.go, ok.room, D.ap, D.nd⟩

theorem comp_st {scope : Scope} {cl : List (Str × Addr)} {x : Str} {cap : List (Str × Dat)} {C : Addr} {h h3 : Heap} {m3 : Str → Option Value} {v : Value} {d : Dat} (D : CompOk c scope cl x) (E : CapOk c scope cl x ρ cap) (S : St c Z O ρ h)
    (k : ∀ b o, h.get? b = some o → h3.get? b = some o) (hC : h.objs.size ≤ C) (hn : h3.Ns C m3) (hm : m3 x = some v) (r : Rd Z v d) : St (compOf c scope cl C) Z (fun _ => none) (compRho x d cap) h3 := by
  obtain ⟨m, cm, F, CC, V⟩ := S.fr
  have hcl : ∀ p, p ∈ cl → p ∈ c.env.cells := fun p hp => mem_of_lookup (D.cls p hp)
  have lt : ∀ b, h.get? b ≠ none → b ≠ C := fun b q e => by
    cases q2 : h.get? b with
    | none => exact q q2
    | some o => exact absurd (Nat.lt_of_lt_of_le (Heap.lt_size q2) hC) (e ▸ Nat.lt_irrefl _)
  have hL : c.env.locals < C := Nat.lt_of_lt_of_le F.ns.lt hC
  refine ⟨⟨m3, cm, ⟨hn, fun b o e => k b o (F.keep b o e), Nat.le_of_lt (Nat.lt_of_le_of_lt F.above hL)⟩, fun y a e => (CC y a (D.cls _ (mem_of_lookup e))).keeps k, fun y q e => ?_⟩, fun a o e => k a o (S.zin a o e), fun a o e => ?_, fun _ _ e => (by cases e), fun _ _ _ e => (by cases e), fun y a e => ?_⟩
  · unfold compRho at e
    by_cases hy : y = x
    · subst hy
      simp at e; subst e
      exact ⟨v, .inl ⟨lookup_relabel_local D.hx, hm⟩, r⟩
    · rw [List.lookup_cons, beq_eq_false_iff_ne.mpr hy] at e
      have hmem := mem_of_lookup e
      obtain ⟨⟨y', dy⟩, hp, e2⟩ := List.mem_map.mp hmem
      cases e2
      obtain ⟨w, hw, hr⟩ := V _ _ (E.said _ hp)
      obtain ⟨k1, k2, k3⟩ := E.kd _ hp
      rcases hw with ⟨z, _⟩ | ⟨_, a, ha, hv⟩
      · rw [k1] at z; cases z
      · obtain ⟨a', ha'⟩ := Option.isSome_iff_exists.mp k3
        have := D.cls _ (mem_of_lookup ha')
        rw [ha] at this; cases this
        exact ⟨w, .inr ⟨k2, _, ha', hv⟩, hr⟩
  · rintro (q | ⟨y, q⟩ | ⟨y, q⟩)
    · exact lt a (by rw [S.zin a o e]; exact Option.some_ne_none _) q
    · exact S.zav a o e (.inr (.inl ⟨y, hcl _ q⟩))
    · cases q
  · obtain ⟨_, e2⟩ := S.call y a (hcl _ e)
    refine ⟨lt a e2, ?_⟩
    cases q : h.get? a with
    | none => exact absurd q e2
    | some o => rw [k a o q]; exact Option.some_ne_none _

/-- the tests of a comprehension at one item -/
noncomputable def Tests (c : Cx) (ρ : Rho) (ifs : List Expr) (b : Bool) : Prop :=
  match ifs with
  | [] => b = true
  | [t] => Te c ρ t fun b' _ => b' = b
  | _ => False
/-- an element: the item as it is, or an int -/
noncomputable def Elem (c : Cx) (ρ : Rho) (x : Str) (elt : Expr) (d e : Dat) : Prop := (∃ q, elt = .Name x q ∧ e = d) ∨ Ev c ρ elt fun d' _ => ∃ k, d' = .int k ∧ e = .int k

theorem paired_read {F : Value → Value → Prop} {p : Value → Bool} {pd : Dat → Bool} {fd : Dat → Dat} : ∀ {vs : List Value} {ds : List Dat} {ys : List Value}, RdA Z vs ds → (∀ v d, Rd Z v d → d ∈ ds → p v = pd d) → (∀ v y d, Rd Z v d → d ∈ ds → F v y → Rd Z y (fd d)) →
    Paired F (vs.filter p) ys → RdA Z ys ((ds.filter pd).map fd)
  | [], ds, ys, r, _, _, h => by
    have : ds = [] := by have := r.len; simpa using this.symm
    subst this
    cases h; exact .nil
  | v :: vs, ds, ys, r, hp, hF, h => by
    obtain ⟨d, es, rfl, r1, r2⟩ := r.vcons_inv
    have e := hp v d r1 (.head _)
    have ih := fun {ys} => paired_read (ys := ys) r2 (fun v d a b => hp v d a (.tail _ b)) (fun v y d a b => hF v y d a (.tail _ b))
    cases hb : pd d with
    | false =>
      rw [hb] at e
      rw [List.filter_cons, e] at h
      rw [List.filter_cons, hb]
      exact ih h
    | true =>
      rw [hb] at e
      rw [List.filter_cons, e] at h
      rw [List.filter_cons, hb]
      cases h with
      | cons a b => exact .cons (hF v _ d r1 (.head _) a) (ih b)

/-- the source of a comprehension, behind its iterator's making -/
noncomputable def CompSrc (c : Cx) (n : Nat) (Z : Zs) (O : Str → Option Addr) (s : Shared) (elt : Expr) (x : Str) (ifs : List Expr) (scope : Scope) (cl : List (Str × Addr)) (cap : List (Str × Dat)) (pd : Dat → Bool) (fd : Dat → Dat) (K : Dat → Rho → Prop) (it : Value) (s₂ : Shared) : Prop :=
  ∃ (I : Addr) (fp wr : List Addr) (nn : Nat) (P : Nat → Value → Prop) (Sti : Nat → Heap → Prop) (ρ1 : Rho) (Z1 : Zs) (O1 : Str → Option Addr) (s1 : Shared) (h2 : Heap) (tk2 : Nat) (ds : List Dat),
    s₂ = { s1 with heap := h2, toks := tk2 } ∧ it = .ref I ∧ Walks c.prog c.w c.A I fp wr nn P Sti ∧ Sti 0 h2 ∧ (∀ b ∈ fp, b < h2.objs.size) ∧ nn ≤ 1000 ∧
    Ends c Z O s Z1 O1 ρ1 s1 ∧ Xp O s O1 s1 ∧ (∀ b o, s1.heap.get? b = some o → h2.get? b = some o) ∧ s1.heap.objs.size ≤ h2.objs.size ∧ (∀ b ∈ wr, s1.heap.get? b = none) ∧ ds.length = nn ∧ (∀ i v, P i v → ∃ d, ds[i]? = some d ∧ Rd Z1 v d) ∧
    CapOk c scope cl x ρ1 cap ∧ K (.list ((ds.filter pd).map fd)) ρ1 ∧
    (∀ d ∈ ds, ∀ C, (compOf c scope cl C).Ok n → Tests (compOf c scope cl C) (compRho x d cap) ifs (pd d) ∧ (pd d = true → Elem (compOf c scope cl C) (compRho x d cap) x elt d (fd d)))
open Classical in
theorem comp_at (ok : c.Ok n) {elt iter : Expr} {x : Str} {px : Pos} {ifs : List Expr} {scope : Scope} {cl : List (Str × Addr)} {pos : Pos} {cap : List (Str × Dat)} (D : CompOk c scope cl x) (hp : plainE iter = true)
    (pd : Dat → Bool) (fd : Dat → Dat)
    (h : WP c (eval iter c.env) (fun xv s₁ => WP c (pyIter xv) (fun it s₂ => CompSrc c n Z O s elt x ifs scope cl cap pd fd K it s₂) s₁) s) :
    WP c (eval (.ListComp elt [⟨.Name x px, iter, ifs, 0⟩] scope pos) c.env) (EvR c Z O s K) s := by
  have key : ∀ (xv : Value) (s₁ : Shared), WP c (pyIter xv) (fun it s₂ => CompSrc c n Z O s elt x ifs scope cl cap pd fd K it s₂) s₁ →
      WP c (pyIter xv) (fun it s₂ => wpAny (model c.prog c.w) c.A (newList []) (fun acc s₃ => wpAny (model c.prog c.w) c.A (newFunctionEnv scope c.env.globals cl [] c.env.qual none .none (some c.env)) (fun cenv s₄ =>
        codeAny (model c.prog c.w) c.A (.compStart (.ListComp elt [⟨.Name x px, iter, ifs, 0⟩] scope pos) 0 it acc { cenv with scope := relabel scope c.env }) (compPost (model c.prog c.w) c.A (fun _ _ => False) none (EvR c Z O s K) acc cenv.locals) s₄) (fun _ _ => False) s₃) (fun _ _ => False) s₂) s₁ := by
    intro xv s₁ hyp
    refine wp_mono hyp ?_
    rintro it s₂ ⟨I, fp, wr, nn, P, Sti, ρ1, Z1, O1, s1, h2, tk2, ds, rfl, rfl, W, st0, hfp, hnn, e1, o1, k12, hsz, hwr, hds, hP, cap', hK, hB⟩
    have S1 := e1.st
    have up : ∀ (b : Addr) (o : Obj), s1.heap.get? b = some o → b ∉ wr := fun b o q hb => by rw [hwr b hb] at q; cases q
    let p : Value → Bool := fun v => decide (∃ d ∈ ds, Rd Z1 v d ∧ pd d = true)
    let F : Value → Value → Prop := fun v y => ∀ d ∈ ds, Rd Z1 v d → Rd Z1 y (fd d)
    have hpp : ∀ v d, Rd Z1 v d → d ∈ ds → p v = pd d := by
      intro v d r hd
      cases hb : pd d with
      | true => exact decide_eq_true ⟨d, hd, r, hb⟩
      | false => exact decide_eq_false fun ⟨d', _, r', hb'⟩ => by rw [S1.uniq r' r] at hb'; rw [hb] at hb'; cases hb'
    refine comp_block_walkC (RR := fun acc C => compPost (model c.prog c.w) c.A (fun _ _ => False) none (EvR c Z O s K) acc C) W (by have := sizeLine_ge; omega) p F D.cell D.kind D.hx st0 hfp ⟨?_, ?_⟩ ?_
    · intro C i v s₃ m₃ E' hC hv hn hm hk _
      obtain ⟨d, hd, r⟩ := hP i v hv
      have hdm := List.mem_of_getElem? hd
      have k13 : ∀ b o, s1.heap.get? b = some o → s₃.heap.get? b = some o := fun b o q => hk b o (up b o q) (k12 b o q)
      have S3 := comp_st (d := d) D cap' S1 k13 (Nat.le_trans hsz hC) hn hm r
      have ht := (hB d hdm C (compOf.ok ok D)).1
      rw [hpp v d r hdm]
      unfold Tests at ht
      split at ht
      · rw [ht]
        exact wpAny_tests_nil ⟨rfl, s₃.heap, s₃.toks, rfl, fun _ _ q => q⟩
      · refine wpAny_tests_one (wpAny_mono (ht Z1 (fun _ => none) s₃ S3) ?_ fun _ _ x => x.elim)
        rintro b s4 ⟨ρ4, Z4, O4, rfl, ⟨h4, tk4, rfl, _, _⟩, x4⟩
        exact ⟨rfl, h4, tk4, rfl, fun b o q => x4.kp b o q fun _ z => by cases z⟩
      · exact ht.elim
    · intro C i v s₃ m₃ E' hC hv hpv hn hm hk _
      obtain ⟨d, hd, r⟩ := hP i v hv
      have hdm := List.mem_of_getElem? hd
      have k13 : ∀ b o, s1.heap.get? b = some o → s₃.heap.get? b = some o := fun b o q => hk b o (up b o q) (k12 b o q)
      have S3 := comp_st (d := d) D cap' S1 k13 (Nat.le_trans hsz hC) hn hm r
      rw [hpp v d r hdm] at hpv
      have okc := compOf.ok (C := C) ok D
      rcases (hB d hdm C okc).2 hpv with ⟨q, rfl, hfd⟩ | he
      · refine wpAny_Name (wpAny_loadName_local D.kind (lookup_relabel_local D.hx) hn hm ⟨fun d' _ r' => ?_, s₃.heap, s₃.toks, rfl, fun _ _ q => q⟩) (ndebug okc (x := x) (k := .local) (lookup_relabel_local D.hx))
        rw [S1.uniq r' r, hfd]; exact r
      · refine wpAny_mono (he Z1 (fun _ => none) s₃ S3) ?_ fun _ _ x => x.elim
        rintro y s4 ⟨d4, ρ4, Z4, O4, ⟨k, rfl, hfd⟩, ⟨h4, tk4, rfl, _, _⟩, x4, r4⟩
        obtain ⟨t, rfl⟩ := r4.int_inv
        exact ⟨fun d' _ r' => by rw [S1.uniq r' r, hfd]; exact .int k t, h4, tk4, rfl, fun b o q => x4.kp b o q fun _ z => by cases z⟩
    · intro Dd C h' tk m' ys vs hD hC hDC hn hl hpl hlen hPv hpair hkk
      have k1' : ∀ b o, s1.heap.get? b = some o → h'.get? b = some o := fun b o q => hkk b o (up b o q) (k12 b o q)
      have hD1 : s1.heap.get? Dd = none := by
        cases q : s1.heap.get? Dd with
        | none => rfl
        | some o => have := k12 _ _ q; have hD' : h2.get? Dd = none := hD; rw [hD'] at this; cases this
      have rv : RdA Z1 vs ds := by
        have go : ∀ (vs : List Value) (ds : List Dat), vs.length = ds.length → (∀ (j : Nat) (v : Value), vs[j]? = some v → ∃ d, ds[j]? = some d ∧ Rd Z1 v d) → RdA Z1 vs ds := by
          intro vs
          induction vs with
          | nil => intro ds hl _; cases ds with
            | nil => exact .nil
            | cons _ _ => simp at hl
          | cons v vs ih =>
            intro ds hl hj
            cases ds with
            | nil => simp at hl
            | cons d ds =>
              obtain ⟨d', e, r⟩ := hj 0 v rfl
              simp at e; subst e
              exact .cons r (ih ds (by simpa using hl) fun j w hw => by
                obtain ⟨d', e, r⟩ := hj (j + 1) w (by simpa using hw)
                exact ⟨d', by simpa using e, r⟩)
        exact go vs ds (hlen.trans hds.symm) fun j v hv => hP j v (hPv j v hv)
      have ry : RdA Z1 ys.toList ((ds.filter pd).map fd) := paired_read rv hpp (fun v y d r hd f => f d hd r) hpair
      obtain ⟨nL, hL⟩ := hpl
      refine ⟨m', hn, fun h'' hs'' => ?_⟩
      have k1'' : ∀ b o, s1.heap.get? b = some o → h''.get? b = some o := fun b o q => by
        refine hs''.extBut b o (fun z => ?_) (k1' b o q)
        subst z
        have hC' : h2.get? b = none := hC
        rw [k12 b o q] at hC'; cases hC'
      have e2 : Ends c Z1 O1 s1 (Z1.put Dd (listOf ys.toList.toArray nL)) O1 ρ1 { s1 with heap := h'', toks := tk } := Ends.put S1 k1'' hD1 (by rw [Array.toArray_toList]; exact hs''.extBut _ _ hDC hL)
      exact ⟨_, ρ1, _, O1, hK, e1.trans e2, o1.trans (.grow k1''), .lst (.inr ⟨rfl, rfl⟩) (ry.mono fun _ _ q => .inl q)⟩
  rw [eval_ListComp]
  exact wpAny_comprehension_free (use := none) rfl (fun v => folded hp v) D.clos D.kind D.names (wp_mono h fun xv s₁ q => key xv s₁ q)

theorem comp_core (ok : c.Ok n) {elt iter : Expr} {x : Str} {px : Pos} {ifs : List Expr} {scope : Scope} {cl : List (Str × Addr)} {pos : Pos} {cap : List (Str × Dat)} (D : CompOk c scope cl x) (hp : plainE iter = true)
    (pd : Dat → Bool) (fd : Dat → Dat)
    (h : ∀ Z O s, St c Z O ρ s.heap → WP c (eval iter c.env) (fun xv s₁ => WP c (pyIter xv) (fun it s₂ => CompSrc c n Z O s elt x ifs scope cl cap pd fd K it s₂) s₁) s) :
    Ev c ρ (.ListComp elt [⟨.Name x px, iter, ifs, 0⟩] scope pos) K := fun Z O s S => comp_at ok D hp pd fd (h Z O s S)

/-- over a list or a tuple -/
theorem Ev.comp (ok : c.Ok n) {elt iter : Expr} {x : Str} {px : Pos} {ifs : List Expr} {scope : Scope} {cl : List (Str × Addr)} {pos : Pos} (cap : List (Str × Dat)) (D : CompOk c scope cl x) (hp : plainE iter = true) (pd : Dat → Bool) (fd : Dat → Dat)
    (h : Ev c ρ iter fun a ρ1 => ∃ ds, (a = .list ds ∨ a = .tuple ds) ∧ ds.length ≤ 1000 ∧ CapOk c scope cl x ρ1 cap ∧ K (.list ((ds.filter pd).map fd)) ρ1 ∧
      (∀ d ∈ ds, ∀ C, (compOf c scope cl C).Ok n → Tests (compOf c scope cl C) (compRho x d cap) ifs (pd d) ∧ (pd d = true → Elem (compOf c scope cl C) (compRho x d cap) x elt d (fd d)))) :
    Ev c ρ (.ListComp elt [⟨.Name x px, iter, ifs, 0⟩] scope pos) K := by
  refine comp_core (cap := cap) ok D hp pd fd fun Z O s S => wp_mono (h Z O s S) ?_
  rintro va s1 ⟨a, ρ1, Z1, O1, ⟨ds, hds, hl, hcap, hK, hB⟩, e1, o1, r1⟩
  rcases hds with rfl | rfl
  · obtain ⟨y, vs, m, rfl, hy, ry⟩ := r1.lst_inv
    have hg := e1.st.zin _ _ hy
    have hn := ry.len
    have hlt := Heap.lt_size hg
    refine wpAny_pyIter_list (items := vs.toArray) ⟨_, hg, rfl, m, rfl⟩ ?_
    have W := Walks.list (prog := c.prog) (w := c.w) ok.room.1 s1.heap.objs.size y (Nat.ne_of_lt hlt) vs.toArray
    refine ⟨_, _, _, _, _, _, ρ1, Z1, O1, s1, _, s1.toks, ds, rfl, rfl, W, ⟨⟨_, Heap.get?_push_size _ rfl, rfl, rfl⟩, _, Heap.get?_push_of_some _ hg, rfl, m, rfl⟩, ?_, by rw [List.size_toArray, hn]; exact hl, e1, o1, fun b o => Heap.get?_push_of_some _, by rw [Heap.size_push]; exact Nat.le_succ _, ?_, by rw [List.size_toArray, hn], fun i v hv => ry.at (by simpa using hv), hcap, hK, hB⟩
    · intro b hb
      rw [Heap.size_push]
      rcases List.mem_cons.mp hb with e | hb
      · rw [e]; exact Nat.lt_succ_self _
      · rw [List.mem_singleton.mp hb]; exact Nat.lt_succ_of_lt hlt
    · intro b hb; rw [List.mem_singleton.mp hb]; exact get_fresh _
  · obtain ⟨y, vs, m, rfl, hy, ry⟩ := r1.tup_inv
    have hg := e1.st.zin _ _ hy
    have hn := ry.len
    have hlt := Heap.lt_size hg
    refine wpAny_pyIter_tuple (items := vs.toArray) ⟨_, hg, rfl, m, rfl⟩ ?_
    have W := Walks.tuple (prog := c.prog) (w := c.w) ok.room.1 s1.heap.objs.size y (Nat.ne_of_lt hlt) vs.toArray
    refine ⟨_, _, _, _, _, _, ρ1, Z1, O1, s1, _, s1.toks, ds, rfl, rfl, W, ⟨⟨_, Heap.get?_push_size _ rfl, rfl, rfl⟩, _, Heap.get?_push_of_some _ hg, rfl, m, rfl⟩, ?_, by rw [List.size_toArray, hn]; exact hl, e1, o1, fun b o => Heap.get?_push_of_some _, by rw [Heap.size_push]; exact Nat.le_succ _, ?_, by rw [List.size_toArray, hn], fun i v hv => ry.at (by simpa using hv), hcap, hK, hB⟩
    · intro b hb
      rw [Heap.size_push]
      rcases List.mem_cons.mp hb with e | hb
      · rw [e]; exact Nat.lt_succ_self _
      · rw [List.mem_singleton.mp hb]; exact Nat.lt_succ_of_lt hlt
    · intro b hb; rw [List.mem_singleton.mp hb]; exact get_fresh _
/-- over range(k) -/
theorem Ev.compRange (ok : c.Ok n) {elt e : Expr} {x : Str} {px q qos : Pos} {ifs : List Expr} {scope : Scope} {cl : List (Str × Addr)} {pos : Pos} (cap : List (Str × Dat)) (D : CompOk c scope cl x) (hk : c.env.kindOf (Str.ofString "range") = some .globalImplicit) (hp : plainE e = true) (pd : Dat → Bool) (fd : Dat → Dat)
    (h : Ev c ρ e fun a ρ1 => ∃ k : Nat, a = .int k ∧ k ≤ 1000 ∧ CapOk c scope cl x ρ1 cap ∧ K (.list ((((List.range k).map fun i : Nat => Dat.int i).filter pd).map fd)) ρ1 ∧
      (∀ i, i < k → ∀ C, (compOf c scope cl C).Ok n → Tests (compOf c scope cl C) (compRho x (.int i) cap) ifs (pd (.int i)) ∧ (pd (.int i) = true → Elem (compOf c scope cl C) (compRho x (.int i) cap) x elt (.int i) (fd (.int i))))) :
    Ev c ρ (.ListComp elt [⟨.Name x px, .Call (.Name (Str.ofString "range") q) [e] [] qos, ifs, 0⟩] scope pos) K := by
  refine comp_core (cap := cap) ok D rfl pd fd fun Z O s S => Call_Name rfl (bi_read ok S hk (b := .range) (by simp [biTab]) (callWith_bi hp rfl (args_cons (wp_mono (h Z O s S) ?_) (plain_star hp))))
  rintro va s1 ⟨a, ρ1, Z1, O1, ⟨k, rfl, hk1, hcap, hK, hB⟩, e1, o1, r1⟩
  obtain ⟨t, rfl⟩ := r1.int_inv
  refine args_nil (call_range_1 (wpAny_pyIter_range (IsRange.new ..) (small_one (by decide) (by decide) (by omega) (by omega)) ?_))
  have hsz : Builtin.Range.rangeSize 0 (k : Int) 1 = (k : Int) := by rw [rangeSize_one]; split <;> omega
  have kp : ∀ b o, s1.heap.get? b = some o → ((s1.heap.push { cls := .type "range", data := .fields #[.int 0 s1.toks, .int k t, .int 1 (s1.toks + 1)] }).push { cls := .type "range_iterator", data := .fields #[rawInt 0, rawInt (Builtin.Range.rangeSize 0 k 1), rawInt 1] }).get? b = some o :=
    fun b o q => Heap.get?_push_of_some _ (Heap.get?_push_of_some _ q)
  have W := (Walks.range (prog := c.prog) (w := c.w) ok.room.1 (s1.heap.push { cls := .type "range", data := .fields #[.int 0 s1.toks, .int k t, .int 1 (s1.toks + 1)] }).objs.size 0 1 k).bound
  refine ⟨_, _, _, _, _, _, ρ1, Z1, O1, s1, _, s1.toks + 1 + 1, (List.range k).map fun i : Nat => Dat.int i, rfl, rfl, W, ?_, ?_, hk1, e1, o1, kp, ?_, ?_, by simp, ?_, hcap, hK, ?_⟩
  · have e1 : (0 + ((0 : Nat) : Int) * 1) = 0 := by simp
    have e2 : ((k : Int) - ((0 : Nat) : Int)) = Builtin.Range.rangeSize 0 k 1 := by rw [hsz]; simp
    rw [e1, e2]
    exact Heap.get?_push_size _ rfl
  · intro b hb; rw [List.mem_singleton.mp hb]; simp only [Heap.size_push]; exact Nat.lt_succ_self _
  · simp only [Heap.size_push]; exact Nat.le_succ_of_le (Nat.le_succ _)
  · intro b hb; rw [List.mem_singleton.mp hb]; exact Heap.get?_none_of_le (by rw [Heap.size_push]; exact Nat.le_succ _)
  · rintro i v ⟨hi, t, rfl⟩
    refine ⟨.int i, by simp [hi], ?_⟩
    have : 0 + (i : Int) * 1 = i := by omega
    rw [this]; exact .int _ _
  · intro d hd
    obtain ⟨i, hi, rfl⟩ := List.mem_map.mp hd
    exact hB i (List.mem_range.mp hi)
end
section
variable {K : Dat → Prop} {KB : Bool → Prop} {a b : Int}
theorem vb_add (k : K (.int (a + b))) : vBin .Add (.int a) (.int b) K := k
theorem vb_sub (k : K (.int (a - b))) : vBin .Sub (.int a) (.int b) K := k
theorem vb_cat {xs ys : List Dat} (h : xs.length + ys.length ≤ 1000) (k : K (.list (xs ++ ys))) : vBin .Add (.list xs) (.list ys) K := ⟨h, k⟩
theorem vb_mul (h : a.natAbs < 2 ^ 64) (k : K (.int (a * b))) : vBin .Mult (.int a) (.int b) K := ⟨h, k⟩
theorem vb_shl (h0 : 0 ≤ b) (h1 : b ≤ 64) (h : a.natAbs < 2 ^ 64) (k : K (.int (a * 2 ^ b.toNat))) : vBin .LShift (.int a) (.int b) K := ⟨h0, h1, h, k⟩
theorem vb_shr (h0 : 0 ≤ b) (k : K (.int (a.fdiv (2 ^ b.toNat)))) : vBin .RShift (.int a) (.int b) K := ⟨h0, k⟩
theorem vb_pow (h0 : 0 ≤ b) (h1 : b ≤ 64) (h : a.natAbs < 2 ^ 64) (k : K (.int (a ^ b.toNat))) : vBin .Pow (.int a) (.int b) K := ⟨h0, h1, h, k⟩
theorem vb_and (k : K (.int (Builtin.bitAnd a b))) : vBin .BitAnd (.int a) (.int b) K := k
theorem vb_or (k : K (.int (Builtin.bitOr a b))) : vBin .BitOr (.int a) (.int b) K := k
theorem vb_mod (h : b ≠ 0) (k : K (.int (a.fmod b))) : vBin .Mod (.int a) (.int b) K := ⟨h, k⟩
theorem vb_div (h : b ≠ 0) (h1 : b.natAbs < 2 ^ 20) (k : K (.int (a.fdiv b))) : vBin .FloorDiv (.int a) (.int b) K := ⟨h, h1, k⟩
theorem vc_lt (k : KB (decide (a < b))) : vCmp .Lt (.int a) (.int b) KB := k
theorem vc_le (k : KB (decide (a ≤ b))) : vCmp .LtE (.int a) (.int b) KB := k
theorem vc_gt (k : KB (decide (b < a))) : vCmp .Gt (.int a) (.int b) KB := k
theorem vc_ge (k : KB (decide (b ≤ a))) : vCmp .GtE (.int a) (.int b) KB := k
theorem vc_eq (k : KB (decide (a = b))) : vCmp .Eq (.int a) (.int b) KB := k
theorem vc_ne (k : KB (!decide (a = b))) : vCmp .NotEq (.int a) (.int b) KB := k
theorem vc_neb {x y : Bool} (k : KB (x != y)) : vCmp .NotEq (.bool x) (.bool y) KB := k
theorem vc_is0 (k : KB true) : vCmp .Is .none .none KB := k
theorem vc_is1 {ds : List Dat} (k : KB false) : vCmp .Is (.tuple ds) .none KB := k
theorem vc_isn0 (k : KB false) : vCmp .IsNot .none .none KB := k
theorem vc_isn1 {ds : List Dat} (k : KB true) : vCmp .IsNot (.tuple ds) .none KB := k
theorem vc_eqt {xs ys : List Dat} (h1 : kqdOk 8 (.tuple xs) = true) (h2 : kqdOk 8 (.tuple ys) = true) (k : ∀ t : Bool, (t = true ↔ Dat.tuple xs = Dat.tuple ys) → KB t) : vCmp .Eq (.tuple xs) (.tuple ys) KB := ⟨h1, h2, k⟩
theorem vc_net {xs ys : List Dat} (h1 : kqdOk 8 (.tuple xs) = true) (h2 : kqdOk 8 (.tuple ys) = true) (k : ∀ t : Bool, (t = true ↔ Dat.tuple xs = Dat.tuple ys) → KB (!t)) : vCmp .NotEq (.tuple xs) (.tuple ys) KB := ⟨h1, h2, k⟩
theorem vc_eql {xs ys : List Dat} (h1 : kqdOk 8 (.list xs) = true) (h2 : kqdOk 8 (.list ys) = true) (k : ∀ t : Bool, (t = true ↔ Dat.list xs = Dat.list ys) → KB t) : vCmp .Eq (.list xs) (.list ys) KB := ⟨h1, h2, k⟩
theorem vc_nel {xs ys : List Dat} (h1 : kqdOk 8 (.list xs) = true) (h2 : kqdOk 8 (.list ys) = true) (k : ∀ t : Bool, (t = true ↔ Dat.list xs = Dat.list ys) → KB (!t)) : vCmp .NotEq (.list xs) (.list ys) KB := ⟨h1, h2, k⟩
theorem vi_tup {ds : List Dat} {d : Dat} {k : Int} {j : Nat} (hl : ds.length ≤ 1000) (hj : place k ds.length = some j) (hd : ds[j]? = some d) (h : K d) : vItem (.tuple ds) k K := ⟨hl, j, d, hj, hd, h⟩
theorem vi_lst {ds : List Dat} {d : Dat} {k : Int} {j : Nat} (hl : ds.length ≤ 1000) (hj : place k ds.length = some j) (hd : ds[j]? = some d) (h : K d) : vItem (.list ds) k K := ⟨hl, j, d, hj, hd, h⟩
end

/-- a name of a def of the text -/
noncomputable def IsFn (nm : Str) : Prop := ∃ f ∈ progDefs, f.name = nm ∧ f.params.defaults = []
theorem DefOk.isFn {f : DefItem} {ps : List Str} {nm : Str} (D : DefOk f ps) (h : f.name = nm) : IsFn nm := ⟨f, D.mem, h, D.nd⟩
theorem Ev.fn {c : Cx} {n : Nat} {ρ : Rho} {K : Dat → Rho → Prop} (ok : c.Ok n) {nm : Str} {p pos : Pos} {e : Expr} {rest : List Expr} (hF : IsFn nm) (hk : c.env.kindOf nm = some .globalImplicit) (hp : plainE e = true)
    (h : Es c ρ (e :: rest) fun ds ρ1 => ∃ d, FnOk c.g nm n ds d ∧ K d ρ1) : Ev c ρ (.Call (.Name nm p) (e :: rest) [] pos) K := by
  obtain ⟨f, hf, rfl, hnd⟩ := hF
  exact Ev.call ok hk hf hnd hp h

theorem plen : progDefs.length = 27 := by decide +kernel
abbrev item (i : Nat) (h : i < 27) : DefItem := progDefs[i]'(by rw [plen]; exact h)
noncomputable def iMask : DefItem := item 0 (by decide)
noncomputable def iIsPrefix : DefItem := item 1 (by decide)
noncomputable def iPrefixAt : DefItem := item 2 (by decide)
noncomputable def iHolds : DefItem := item 3 (by decide)
noncomputable def iCovers : DefItem := item 4 (by decide)
noncomputable def iApart : DefItem := item 5 (by decide)
noncomputable def iParent : DefItem := item 6 (by decide)
noncomputable def iHalves : DefItem := item 7 (by decide)
noncomputable def iFirstLast : DefItem := item 8 (by decide)
noncomputable def iUncovered : DefItem := item 9 (by decide)
noncomputable def iAggregated : DefItem := item 10 (by decide)
noncomputable def iMinus : DefItem := item 11 (by decide)
noncomputable def iFirstBits : DefItem := item 12 (by decide)
noncomputable def iBitOf : DefItem := item 13 (by decide)
noncomputable def iShared : DefItem := item 14 (by decide)
noncomputable def iWithChild : DefItem := item 15 (by decide)
noncomputable def iFork : DefItem := item 16 (by decide)
noncomputable def iTreePut : DefItem := item 17 (by decide)
noncomputable def iTreeLook : DefItem := item 18 (by decide)
noncomputable def iNodeCount : DefItem := item 19 (by decide)
noncomputable def iDraw : DefItem := item 20 (by decide)
noncomputable def iCode : DefItem := item 21 (by decide)
noncomputable def iOnes : DefItem := item 22 (by decide)
noncomputable def iRest : DefItem := item 23 (by decide)
noncomputable def iBits : DefItem := item 24 (by decide)
noncomputable def iRead : DefItem := item 25 (by decide)
noncomputable def iLaw : DefItem := item 26 (by decide)

abbrev S1 (a : String) : List Str := [Str.ofString a]
abbrev S2 (a b : String) : List Str := [Str.ofString a, Str.ofString b]
abbrev S3 (a b c : String) : List Str := [Str.ofString a, Str.ofString b, Str.ofString c]
abbrev S4 (a b c d : String) : List Str := [Str.ofString a, Str.ofString b, Str.ofString c, Str.ofString d]
theorem len1 {α : Type} {vs : List α} (h : vs.length = 1) : ∃ a, vs = [a] := List.length_eq_one_iff.mp h
theorem len2 {α : Type} {vs : List α} (h : vs.length = 2) : ∃ a b, vs = [a, b] := by
  obtain ⟨a, r, rfl⟩ := List.exists_cons_of_length_pos (show 0 < vs.length by rw [h]; decide)
  obtain ⟨b, rfl⟩ := len1 (Nat.succ.inj h)
  exact ⟨a, b, rfl⟩
theorem len3 {α : Type} {vs : List α} (h : vs.length = 3) : ∃ a b c, vs = [a, b, c] := by
  obtain ⟨a, r, rfl⟩ := List.exists_cons_of_length_pos (show 0 < vs.length by rw [h]; decide)
  obtain ⟨b, c, rfl⟩ := len2 (Nat.succ.inj h)
  exact ⟨a, b, c, rfl⟩
theorem len4 {α : Type} {vs : List α} (h : vs.length = 4) : ∃ a b c d, vs = [a, b, c, d] := by
  obtain ⟨a, r, rfl⟩ := List.exists_cons_of_length_pos (show 0 < vs.length by rw [h]; decide)
  obtain ⟨b, c, d, rfl⟩ := len3 (Nat.succ.inj h)
  exact ⟨a, b, c, d, rfl⟩
theorem dMask : DefOk iMask (S2 "length" "bits") where
  mem := List.getElem_mem _
  nd := by rfl
  bind := fun pm cd doc vs h => by obtain ⟨a, b, rfl⟩ := len2 h; rfl
  nodup := by decide +kernel
  kinds := by decide +kernel
  co := by rfl
  gen := by rfl
  kind := by rfl
  dbg := by decide +kernel
  cells := by decide +kernel
theorem nMask : iMask.name = Str.ofString "mask_of" := by rfl
theorem fMask : IsFn (Str.ofString "mask_of") := dMask.isFn nMask
theorem dIsPrefix : DefOk iIsPrefix (S3 "address" "length" "bits") where
  mem := List.getElem_mem _
  nd := by rfl
  bind := fun pm cd doc vs h => by obtain ⟨a, b, c, rfl⟩ := len3 h; rfl
  nodup := by decide +kernel
  kinds := by decide +kernel
  co := by rfl
  gen := by rfl
  kind := by rfl
  dbg := by decide +kernel
  cells := by decide +kernel
theorem nIsPrefix : iIsPrefix.name = Str.ofString "is_prefix" := by rfl
theorem fIsPrefix : IsFn (Str.ofString "is_prefix") := dIsPrefix.isFn nIsPrefix
theorem dPrefixAt : DefOk iPrefixAt (S3 "address" "length" "bits") where
  mem := List.getElem_mem _
  nd := by rfl
  bind := fun pm cd doc vs h => by obtain ⟨a, b, c, rfl⟩ := len3 h; rfl
  nodup := by decide +kernel
  kinds := by decide +kernel
  co := by rfl
  gen := by rfl
  kind := by rfl
  dbg := by decide +kernel
  cells := by decide +kernel
theorem nPrefixAt : iPrefixAt.name = Str.ofString "prefix_at" := by rfl
theorem fPrefixAt : IsFn (Str.ofString "prefix_at") := dPrefixAt.isFn nPrefixAt
theorem dHolds : DefOk iHolds (S3 "prefix" "address" "bits") where
  mem := List.getElem_mem _
  nd := by rfl
  bind := fun pm cd doc vs h => by obtain ⟨a, b, c, rfl⟩ := len3 h; rfl
  nodup := by decide +kernel
  kinds := by decide +kernel
  co := by rfl
  gen := by rfl
  kind := by rfl
  dbg := by decide +kernel
  cells := by decide +kernel
theorem nHolds : iHolds.name = Str.ofString "holds_address" := by rfl
theorem fHolds : IsFn (Str.ofString "holds_address") := dHolds.isFn nHolds
theorem dCovers : DefOk iCovers (S3 "one" "other" "bits") where
  mem := List.getElem_mem _
  nd := by rfl
  bind := fun pm cd doc vs h => by obtain ⟨a, b, c, rfl⟩ := len3 h; rfl
  nodup := by decide +kernel
  kinds := by decide +kernel
  co := by rfl
  gen := by rfl
  kind := by rfl
  dbg := by decide +kernel
  cells := by decide +kernel
theorem nCovers : iCovers.name = Str.ofString "covers" := by rfl
theorem fCovers : IsFn (Str.ofString "covers") := dCovers.isFn nCovers
theorem dApart : DefOk iApart (S3 "one" "other" "bits") where
  mem := List.getElem_mem _
  nd := by rfl
  bind := fun pm cd doc vs h => by obtain ⟨a, b, c, rfl⟩ := len3 h; rfl
  nodup := by decide +kernel
  kinds := by decide +kernel
  co := by rfl
  gen := by rfl
  kind := by rfl
  dbg := by decide +kernel
  cells := by decide +kernel
theorem nApart : iApart.name = Str.ofString "are_apart" := by rfl
theorem fApart : IsFn (Str.ofString "are_apart") := dApart.isFn nApart
theorem dParent : DefOk iParent (S2 "prefix" "bits") where
  mem := List.getElem_mem _
  nd := by rfl
  bind := fun pm cd doc vs h => by obtain ⟨a, b, rfl⟩ := len2 h; rfl
  nodup := by decide +kernel
  kinds := by decide +kernel
  co := by rfl
  gen := by rfl
  kind := by rfl
  dbg := by decide +kernel
  cells := by decide +kernel
theorem nParent : iParent.name = Str.ofString "parent_of" := by rfl
theorem fParent : IsFn (Str.ofString "parent_of") := dParent.isFn nParent
theorem dHalves : DefOk iHalves (S2 "prefix" "bits") where
  mem := List.getElem_mem _
  nd := by rfl
  bind := fun pm cd doc vs h => by obtain ⟨a, b, rfl⟩ := len2 h; rfl
  nodup := by decide +kernel
  kinds := by decide +kernel
  co := by rfl
  gen := by rfl
  kind := by rfl
  dbg := by decide +kernel
  cells := by decide +kernel
theorem nHalves : iHalves.name = Str.ofString "halves_of" := by rfl
theorem fHalves : IsFn (Str.ofString "halves_of") := dHalves.isFn nHalves
theorem dFirstLast : DefOk iFirstLast (S2 "prefix" "bits") where
  mem := List.getElem_mem _
  nd := by rfl
  bind := fun pm cd doc vs h => by obtain ⟨a, b, rfl⟩ := len2 h; rfl
  nodup := by decide +kernel
  kinds := by decide +kernel
  co := by rfl
  gen := by rfl
  kind := by rfl
  dbg := by decide +kernel
  cells := by decide +kernel
theorem nFirstLast : iFirstLast.name = Str.ofString "first_last" := by rfl
theorem fFirstLast : IsFn (Str.ofString "first_last") := dFirstLast.isFn nFirstLast
theorem dUncovered : DefOk iUncovered (S2 "some" "bits") where
  mem := List.getElem_mem _
  nd := by rfl
  bind := fun pm cd doc vs h => by obtain ⟨a, b, rfl⟩ := len2 h; rfl
  nodup := by decide +kernel
  kinds := by decide +kernel
  co := by rfl
  gen := by rfl
  kind := by rfl
  dbg := by decide +kernel
  cells := by decide +kernel
theorem nUncovered : iUncovered.name = Str.ofString "uncovered" := by rfl
theorem fUncovered : IsFn (Str.ofString "uncovered") := dUncovered.isFn nUncovered
theorem dAggregated : DefOk iAggregated (S2 "some" "bits") where
  mem := List.getElem_mem _
  nd := by rfl
  bind := fun pm cd doc vs h => by obtain ⟨a, b, rfl⟩ := len2 h; rfl
  nodup := by decide +kernel
  kinds := by decide +kernel
  co := by rfl
  gen := by rfl
  kind := by rfl
  dbg := by decide +kernel
  cells := by decide +kernel
theorem nAggregated : iAggregated.name = Str.ofString "aggregated" := by rfl
theorem fAggregated : IsFn (Str.ofString "aggregated") := dAggregated.isFn nAggregated
theorem dMinus : DefOk iMinus (S3 "whole" "part" "bits") where
  mem := List.getElem_mem _
  nd := by rfl
  bind := fun pm cd doc vs h => by obtain ⟨a, b, c, rfl⟩ := len3 h; rfl
  nodup := by decide +kernel
  kinds := by decide +kernel
  co := by rfl
  gen := by rfl
  kind := by rfl
  dbg := by decide +kernel
  cells := by decide +kernel
theorem nMinus : iMinus.name = Str.ofString "minus_prefix" := by rfl
theorem fMinus : IsFn (Str.ofString "minus_prefix") := dMinus.isFn nMinus
theorem dFirstBits : DefOk iFirstBits (S3 "address" "length" "bits") where
  mem := List.getElem_mem _
  nd := by rfl
  bind := fun pm cd doc vs h => by obtain ⟨a, b, c, rfl⟩ := len3 h; rfl
  nodup := by decide +kernel
  kinds := by decide +kernel
  co := by rfl
  gen := by rfl
  kind := by rfl
  dbg := by decide +kernel
  cells := by decide +kernel
theorem nFirstBits : iFirstBits.name = Str.ofString "first_bits" := by rfl
theorem fFirstBits : IsFn (Str.ofString "first_bits") := dFirstBits.isFn nFirstBits
theorem dBitOf : DefOk iBitOf (S3 "address" "place" "bits") where
  mem := List.getElem_mem _
  nd := by rfl
  bind := fun pm cd doc vs h => by obtain ⟨a, b, c, rfl⟩ := len3 h; rfl
  nodup := by decide +kernel
  kinds := by decide +kernel
  co := by rfl
  gen := by rfl
  kind := by rfl
  dbg := by decide +kernel
  cells := by decide +kernel
theorem nBitOf : iBitOf.name = Str.ofString "bit_of" := by rfl
theorem fBitOf : IsFn (Str.ofString "bit_of") := dBitOf.isFn nBitOf
theorem dShared : DefOk iShared (S3 "one" "other" "bits") where
  mem := List.getElem_mem _
  nd := by rfl
  bind := fun pm cd doc vs h => by obtain ⟨a, b, c, rfl⟩ := len3 h; rfl
  nodup := by decide +kernel
  kinds := by decide +kernel
  co := by rfl
  gen := by rfl
  kind := by rfl
  dbg := by decide +kernel
  cells := by decide +kernel
theorem nShared : iShared.name = Str.ofString "shared_length" := by rfl
theorem fShared : IsFn (Str.ofString "shared_length") := dShared.isFn nShared
theorem dWithChild : DefOk iWithChild (S3 "node" "place" "child") where
  mem := List.getElem_mem _
  nd := by rfl
  bind := fun pm cd doc vs h => by obtain ⟨a, b, c, rfl⟩ := len3 h; rfl
  nodup := by decide +kernel
  kinds := by decide +kernel
  co := by rfl
  gen := by rfl
  kind := by rfl
  dbg := by decide +kernel
  cells := by decide +kernel
theorem nWithChild : iWithChild.name = Str.ofString "with_child" := by rfl
theorem fWithChild : IsFn (Str.ofString "with_child") := dWithChild.isFn nWithChild
theorem dFork : DefOk iFork (S4 "one" "other" "length" "bits") where
  mem := List.getElem_mem _
  nd := by rfl
  bind := fun pm cd doc vs h => by obtain ⟨a, b, c, d, rfl⟩ := len4 h; rfl
  nodup := by decide +kernel
  kinds := by decide +kernel
  co := by rfl
  gen := by rfl
  kind := by rfl
  dbg := by decide +kernel
  cells := by decide +kernel
theorem nFork : iFork.name = Str.ofString "fork" := by rfl
theorem fFork : IsFn (Str.ofString "fork") := dFork.isFn nFork
theorem dTreePut : DefOk iTreePut (S4 "tree" "prefix" "worth" "bits") where
  mem := List.getElem_mem _
  nd := by rfl
  bind := fun pm cd doc vs h => by obtain ⟨a, b, c, d, rfl⟩ := len4 h; rfl
  nodup := by decide +kernel
  kinds := by decide +kernel
  co := by rfl
  gen := by rfl
  kind := by rfl
  dbg := by decide +kernel
  cells := by decide +kernel
theorem nTreePut : iTreePut.name = Str.ofString "tree_put" := by rfl
theorem fTreePut : IsFn (Str.ofString "tree_put") := dTreePut.isFn nTreePut
theorem dTreeLook : DefOk iTreeLook (S3 "tree" "address" "bits") where
  mem := List.getElem_mem _
  nd := by rfl
  bind := fun pm cd doc vs h => by obtain ⟨a, b, c, rfl⟩ := len3 h; rfl
  nodup := by decide +kernel
  kinds := by decide +kernel
  co := by rfl
  gen := by rfl
  kind := by rfl
  dbg := by decide +kernel
  cells := by decide +kernel
theorem nTreeLook : iTreeLook.name = Str.ofString "tree_look" := by rfl
theorem fTreeLook : IsFn (Str.ofString "tree_look") := dTreeLook.isFn nTreeLook
theorem dNodeCount : DefOk iNodeCount (S1 "tree") where
  mem := List.getElem_mem _
  nd := by rfl
  bind := fun pm cd doc vs h => by obtain ⟨a, rfl⟩ := len1 h; rfl
  nodup := by decide +kernel
  kinds := by decide +kernel
  co := by rfl
  gen := by rfl
  kind := by rfl
  dbg := by decide +kernel
  cells := by decide +kernel
theorem nNodeCount : iNodeCount.name = Str.ofString "node_count" := by rfl
theorem fNodeCount : IsFn (Str.ofString "node_count") := dNodeCount.isFn nNodeCount
theorem dCode : DefOk iCode (S1 "lengths") where
  mem := List.getElem_mem _
  nd := by rfl
  bind := fun pm cd doc vs h => by obtain ⟨a, rfl⟩ := len1 h; rfl
  nodup := by decide +kernel
  kinds := by decide +kernel
  co := by rfl
  gen := by rfl
  kind := by rfl
  dbg := by decide +kernel
  cells := by decide +kernel
theorem nCode : iCode.name = Str.ofString "_law_code" := by rfl
theorem fCode : IsFn (Str.ofString "_law_code") := dCode.isFn nCode
theorem dOnes : DefOk iOnes (S1 "number") where
  mem := List.getElem_mem _
  nd := by rfl
  bind := fun pm cd doc vs h => by obtain ⟨a, rfl⟩ := len1 h; rfl
  nodup := by decide +kernel
  kinds := by decide +kernel
  co := by rfl
  gen := by rfl
  kind := by rfl
  dbg := by decide +kernel
  cells := by decide +kernel
theorem nOnes : iOnes.name = Str.ofString "_law_ones" := by rfl
theorem fOnes : IsFn (Str.ofString "_law_ones") := dOnes.isFn nOnes
theorem dRest : DefOk iRest (S1 "words") where
  mem := List.getElem_mem _
  nd := by rfl
  bind := fun pm cd doc vs h => by obtain ⟨a, rfl⟩ := len1 h; rfl
  nodup := by decide +kernel
  kinds := by decide +kernel
  co := by rfl
  gen := by rfl
  kind := by rfl
  dbg := by decide +kernel
  cells := by decide +kernel
theorem nRest : iRest.name = Str.ofString "_law_rest" := by rfl
theorem fRest : IsFn (Str.ofString "_law_rest") := dRest.isFn nRest
theorem dBits : DefOk iBits (S1 "word") where
  mem := List.getElem_mem _
  nd := by rfl
  bind := fun pm cd doc vs h => by obtain ⟨a, rfl⟩ := len1 h; rfl
  nodup := by decide +kernel
  kinds := by decide +kernel
  co := by rfl
  gen := by rfl
  kind := by rfl
  dbg := by decide +kernel
  cells := by decide +kernel
theorem nBits : iBits.name = Str.ofString "_law_bits" := by rfl
theorem fBits : IsFn (Str.ofString "_law_bits") := dBits.isFn nBits
theorem dRead : DefOk iRead (S2 "tree" "bits") where
  mem := List.getElem_mem _
  nd := by rfl
  bind := fun pm cd doc vs h => by obtain ⟨a, b, rfl⟩ := len2 h; rfl
  nodup := by decide +kernel
  kinds := by decide +kernel
  co := by rfl
  gen := by rfl
  kind := by rfl
  dbg := by decide +kernel
  cells := by decide +kernel
theorem nRead : iRead.name = Str.ofString "_law_read" := by rfl
theorem fRead : IsFn (Str.ofString "_law_read") := dRead.isFn nRead
end
section
variable {b : Prop} [Decidable b] {P Q : Prop}
theorem br_t (hb : b) (h : Q) : (decide b = false → P) ∧ (decide b = true → Q) := ⟨fun e => absurd hb (of_decide_eq_false e), fun _ => h⟩
theorem br_f (hb : ¬ b) (h : P) : (decide b = false → P) ∧ (decide b = true → Q) := ⟨fun _ => h, fun e => absurd (of_decide_eq_true e) hb⟩
theorem br_t' (hb : b) (h : P) : (decide b = true → P) ∧ (decide b = false → Q) := ⟨fun _ => h, fun e => absurd hb (of_decide_eq_false e)⟩
theorem br_f' (hb : ¬ b) (h : Q) : (decide b = true → P) ∧ (decide b = false → Q) := ⟨fun e => absurd (of_decide_eq_true e) hb, fun _ => h⟩
theorem br_nt (hb : b) (h : P) : ((!decide b) = false → P) ∧ ((!decide b) = true → Q) := ⟨fun _ => h, fun e => by rw [decide_eq_true hb] at e; cases e⟩
theorem br_nt' (hb : b) (h : Q) : ((!decide b) = true → P) ∧ ((!decide b) = false → Q) := ⟨fun e => (by rw [decide_eq_true hb] at e; cases e), fun _ => h⟩
theorem br_nf (hb : ¬ b) (h : Q) : ((!decide b) = false → P) ∧ ((!decide b) = true → Q) := ⟨fun e => (by rw [decide_eq_false hb] at e; cases e), fun _ => h⟩
theorem br_nf' (hb : ¬ b) (h : P) : ((!decide b) = true → P) ∧ ((!decide b) = false → Q) := ⟨fun _ => h, fun e => by rw [decide_eq_false hb] at e; cases e⟩
theorem br_1 (h : Q) : (true = false → P) ∧ (true = true → Q) := ⟨fun e => (by cases e), fun _ => h⟩
theorem br_2 (h : P) : (true = true → P) ∧ (true = false → Q) := ⟨fun _ => h, fun e => by cases e⟩
theorem br_3 (h : P) : (false = false → P) ∧ (false = true → Q) := ⟨fun _ => h, fun e => by cases e⟩
theorem br_4 (h : Q) : (false = true → P) ∧ (false = false → Q) := ⟨fun e => (by cases e), fun _ => h⟩
end

theorem bLen : (Str.ofString "len", Bi.len) ∈ biTab := by simp [biTab]
theorem bAbs : (Str.ofString "abs", Bi.abs) ∈ biTab := by simp [biTab]
theorem bMin : (Str.ofString "min", Bi.min) ∈ biTab := by simp [biTab]
theorem bInt : (Str.ofString "int", Bi.int) ∈ biTab := by simp [biTab]
section
variable {K : Dat → Prop} {xs : List Dat} {a b : Int}
theorem vbi_len (h : xs.length ≤ 1000) (k : K (.int xs.length)) : vBi .len [.list xs] K := ⟨xs, rfl, h, k⟩
theorem vbi_abs (k : K (.int (if a < 0 then -a else a))) : vBi .abs [.int a] K := ⟨a, rfl, k⟩
theorem vbi_min (k : K (.int (if b < a then b else a))) : vBi .min [.int a, .int b] K := ⟨a, b, rfl, k⟩
theorem vbi_int (k : K (.int a)) : vBi .int [.int a] K := ⟨a, rfl, k⟩
end

section
variable {c : Cx} {ρ : Rho} {K : Option Int → Rho → Prop}
theorem part_none (h : K none ρ) : Part c ρ none K := h
theorem part_some {e : Expr} (h : Ev c ρ e fun a ρ1 => ∃ k, a = .int k ∧ K (some k) ρ1) : Part c ρ (some e) K := h
end
-- one step of a proof that goes by the syntax
local macro_rules | `(tactic| kwd_rel) => `(tactic| first | exact Or.inl rfl | exact Or.inr rfl)
local macro_rules | `(tactic| tbr_iter $t) => `(tactic| with_reducible refine $t ?_)
local macro_rules | `(tactic| tb_from $t) => `(tactic| ((with_reducible refine' $t ‹_› ?hx ?_); (case hx => rfl)))
local macro_rules | `(tactic| k_search $t) => `(tactic| ((with_reducible refine' $t ?hx ?_); (case hx => rfl)))
local macro_rules | `(tactic| ktf_call $t) => `(tactic| ((with_reducible refine' $t ?hx ?_); (case hx => first | decide | omega)))
local macro_rules | `(tactic| tb_rel) => `(tactic| first
  | tbr_iter Exs.cons
  | tbr_iter Exs.nil
  | tbr_iter Ex.ret
  | tbr_iter Ex.ite
  | tbr_iter Ev.intC
  | tb_from Ev.dat
  | tb_from Ev.own
  | tbr_iter Ev.bin
  | tbr_iter Ev.nothing
  | tbr_iter Ev.boolC
  | tbr_iter Ev.neg
  | tbr_iter part_none
  | tbr_iter part_some
  | tb_from Ev.sliceOwn
  | tbr_iter Ev.slice
  | ((with_reducible refine' Ex.assignCat (l := Expr.Subscript _ (Expr.Slice _ _ _ _) _) ‹_› ‹_› ?hx ?_); (case hx => kwd_rel))
  | ((with_reducible refine' Ev.itemOwn ‹_› ?hx ?hp ?_); (case hx => rfl); (case hp => rfl))
  | k_search Ev.item
  | tb_from Ev.cmp
  | tb_from Te.cmp
  | tb_from Te.cmp2
  | tbr_iter Te.notT
  | tbr_iter Ev.notE
  | tbr_iter Te.and_nil
  | tbr_iter Te.or_nil
  | tbr_iter Te.and_cons
  | tbr_iter Te.or_cons
  | tbr_iter Te.call
  | tbr_iter Ev.and2
  | tbr_iter Ev.ite
  | k_search Es.cons
  | tbr_iter Es.nil
  | tbr_iter Ev.tup
  | tbr_iter Ev.listD
  | ((with_reducible refine' Ev.fn ‹_› ?hf ?hk ?hp ?_); (case hf => with_reducible first | exact fMask | exact fHolds | exact fCovers | exact fPrefixAt | exact fParent | exact fHalves | exact fFirstBits | exact fBitOf | exact fWithChild | exact fShared | exact fFork | exact fTreePut | exact fNodeCount | exact fUncovered | exact fAggregated | exact fMinus | exact fApart | exact fIsPrefix | exact fFirstLast | exact fTreeLook | exact fCode | exact fOnes | exact fRest | exact fBits | exact fRead); (case hk => rfl); (case hp => rfl))
  | ((with_reducible refine' Ex.assignList ‹_› ‹_› ?hx ?_); (case hx => kwd_rel))
  | ((with_reducible refine' Ex.assign ‹_› ‹_› ?hc ?hx ?_); (case hc => rfl); (case hx => kwd_rel))
  | tbr_iter vb_add
  | tbr_iter vb_sub
  | tbr_iter vb_and
  | ((with_reducible refine' vb_mul ?a ?_); (case a => exact (by decide : Int.natAbs 2 < 2 ^ 64)))
  | tbr_iter vb_or
  | tbr_iter vc_lt
  | tbr_iter vc_le
  | tbr_iter vc_gt
  | tbr_iter vc_ge
  | tbr_iter vc_eq
  | tbr_iter vc_ne
  | tbr_iter vc_neb
  | tbr_iter vc_is0
  | tbr_iter vc_is1
  | tbr_iter vc_isn0
  | tbr_iter vc_isn1
  | with_reducible refine ⟨_, rfl, ?_⟩
  | ((with_reducible refine' vi_tup ?a ?b ?c ?_); (case a => exact Nat.le_of_ble_eq_true rfl); (case b => rfl); (case c => rfl))
  | ((with_reducible refine' vi_lst ?a ?b ?c ?_); (case a => exact Nat.le_of_ble_eq_true rfl); (case b => rfl); (case c => rfl))
  | ((with_reducible refine' And.intro (a := List.length _ ≤ 1000) ?a ?_); (case a => exact Nat.le_of_ble_eq_true rfl))
  | ((with_reducible refine' Ev.lenOwn ‹_› ?hk ?hb ?hx ?hl ?_); (case hx => rfl); (case hb => with_reducible exact bLen); (case hk => rfl); (case hl => first | exact Nat.le_of_ble_eq_true rfl | assumption | (simp only [List.length_map, List.length_append, List.length_cons, List.length_nil]; omega)))
  | with_reducible refine ⟨_, _, rfl, rfl, ?_⟩
  | ((with_reducible refine' Ev.bi ‹_› ?hk ?hb ?hp ?_); (case hb => with_reducible first | exact bLen | exact bAbs | exact bMin | exact bInt); (case hk => rfl); (case hp => rfl))
  | ((with_reducible refine' Ex.assign2o ‹_› ‹_› ?hx ?hy ?hp ?hw ?_); (case hw => rfl); (case hp => rfl); (case hx => kwd_rel); (case hy => kwd_rel))
  | ((with_reducible refine' Ex.assign2s ‹_› ‹_› ?hx ?hy ?hc ?hw ?_); (case hw => rfl); (case hx => kwd_rel); (case hy => kwd_rel); (case hc => rfl))
  | ((with_reducible refine' Ex.assign2 ‹_› ‹_› ?hx ?hy ?hc ?hw ?_); (case hw => rfl); (case hx => kwd_rel); (case hy => kwd_rel); (case hc => rfl))
  | with_reducible refine ⟨_, _, rfl, ?_⟩
  | ((with_reducible refine' vbi_len ?a ?_); (case a => exact Nat.le_of_ble_eq_true rfl))
  | tbr_iter vbi_abs
  | tbr_iter vbi_min
  | tbr_iter vbi_int)

local macro_rules | `(tactic| tb_start) => `(tactic| first
  | tbr_iter br_1
  | tbr_iter br_2
  | tbr_iter br_3
  | tbr_iter br_4
  | ktf_call br_t
  | ktf_call br_t'
  | ktf_call br_f
  | ktf_call br_f'
  | ktf_call br_nt
  | ktf_call br_nt'
  | ktf_call br_nf
  | ktf_call br_nf')


noncomputable section

abbrev pD (a l : Int) : Dat := .tuple [.int a, .int l]
noncomputable def maskI (l : Int) : Int := (1 * 2 ^ l.toNat - 1) * 2 ^ (4 - l).toNat
theorem pow_small {l : Int} (h0 : 0 ≤ l) (h4 : l ≤ 4) : ((2 : Int) ^ l.toNat) = 1 ∨ ((2 : Int) ^ l.toNat) = 2 ∨ ((2 : Int) ^ l.toNat) = 4 ∨ ((2 : Int) ^ l.toNat) = 8 ∨ ((2 : Int) ^ l.toNat) = 16 := by
  have : l = 0 ∨ l = 1 ∨ l = 2 ∨ l = 3 ∨ l = 4 := by omega
  rcases this with rfl | rfl | rfl | rfl | rfl <;> decide
section
variable {g : GC} {a b l m x : Int}
theorem okMask (h0 : 0 ≤ l) (h4 : l ≤ 4) : FnOk g (Str.ofString "mask_of") 1 [.int l, .int 4] (.int (maskI l)) := by
  refine FnOk.intro dMask nMask rfl fun A L a cd h₀ ok fn => ?_
  have hp := pow_small h0 h4
  refine Exs.cons ?_
  repeat tb_rel
  refine vb_shl h0 (by omega) (by decide) ?_
  repeat tb_rel
  exact vb_shl (by omega) (by omega) (by omega) rfl

noncomputable def holdsB (a l x : Int) : Bool := decide (Builtin.bitAnd x (maskI l) = a)
theorem okHolds (h0 : 0 ≤ l) (h4 : l ≤ 4) : FnOk g (Str.ofString "holds_address") 2 [pD a l, .int x, .int 4] (.bool (holdsB a l x)) := by
  refine FnOk.intro dHolds nHolds rfl fun A L b cd h₀ ok fn => ?_
  refine Exs.cons ?_
  repeat tb_rel
  refine ⟨_, okMask h0 h4, ?_⟩
  repeat tb_rel
  rfl
noncomputable def coversB (a l b m : Int) : Bool := decide (l ≤ m) && holdsB a l b
theorem okCovers (h0 : 0 ≤ l) (h4 : l ≤ 4) : FnOk g (Str.ofString "covers") 3 [pD a l, pD b m, .int 4] (.bool (coversB a l b m)) := by
  refine FnOk.intro dCovers nCovers rfl fun A L b cd h₀ ok fn => ?_
  refine Exs.cons ?_
  repeat tb_rel
  refine ⟨fun h => by simp [coversB, h], fun h => ?_⟩
  repeat tb_rel
  refine ⟨_, okHolds h0 h4, ?_⟩
  simp [coversB, h]
noncomputable def apartB (a l b m : Int) : Bool := !coversB a l b m && !coversB b m a l
theorem okApart (h0 : 0 ≤ l) (h4 : l ≤ 4) (k0 : 0 ≤ m) (k4 : m ≤ 4) : FnOk g (Str.ofString "are_apart") 4 [pD a l, pD b m, .int 4] (.bool (apartB a l b m)) := by
  refine FnOk.intro dApart nApart rfl fun A L b cd h₀ ok fn => ?_
  refine Exs.cons ?_
  repeat tb_rel
  refine ⟨_, okCovers h0 h4, _, rfl, _, rfl, ?_, ?_⟩
  · intro h; simp [apartB, h]
  · intro h
    repeat tb_rel
    refine ⟨_, okCovers k0 k4, _, rfl, ?_⟩
    simp [apartB, h]
theorem okIsPrefix (h0 : 0 ≤ l) (h4 : l ≤ 4) (k0 : 0 ≤ x) (k4 : x < 16) : FnOk g (Str.ofString "is_prefix") 2 [.int x, .int l, .int 4] (.bool (decide (Builtin.bitAnd x (maskI l) = x))) := by
  refine FnOk.intro dIsPrefix nIsPrefix rfl fun A L b cd h₀ ok fn => ?_
  refine Exs.cons ?_
  repeat (first | tb_rel | tb_start)
  refine vb_shl (by omega) (by omega) (by decide) ?_
  repeat (first | tb_rel | tb_start)
  refine br_nt' (by show x < 1 * 2 ^ 4; omega) ?_
  repeat (first | tb_rel | tb_start)
  refine ⟨_, okMask h0 h4, ?_⟩
  repeat tb_rel
  rfl
theorem okPrefixAt (h0 : 0 ≤ l) (h4 : l ≤ 4) : FnOk g (Str.ofString "prefix_at") 2 [.int x, .int l, .int 4] (pD (Builtin.bitAnd x (maskI l)) l) := by
  refine FnOk.intro dPrefixAt nPrefixAt rfl fun A L b cd h₀ ok fn => ?_
  refine Exs.cons ?_
  repeat tb_rel
  refine ⟨_, okMask h0 h4, ?_⟩
  repeat tb_rel
  rfl
noncomputable def parentD (a l : Int) : Dat := if l = 0 then .none else pD (Builtin.bitAnd a (maskI (l - 1))) (l - 1)
theorem okParent (h0 : 0 ≤ l) (h4 : l ≤ 4) : FnOk g (Str.ofString "parent_of") 3 [pD a l, .int 4] (parentD a l) := by
  refine FnOk.intro dParent nParent rfl fun A L b cd h₀ ok fn => ?_
  refine Exs.cons ?_
  repeat tb_rel
  refine ⟨fun h => ?_, fun h => ?_⟩
  · repeat tb_rel
    simp only [decide_eq_true_eq] at h
    simp [parentD, h]
  · simp only [decide_eq_false_iff_not] at h
    repeat tb_rel
    refine ⟨_, okPrefixAt (by omega) (by omega), ?_⟩
    simp [parentD, h]
noncomputable def halvesD (a l : Int) : Dat := if l = 4 then .tuple [] else .tuple [pD a (l + 1), pD (Builtin.bitOr a (1 * 2 ^ (4 - (l + 1)).toNat)) (l + 1)]
theorem okHalves (h4 : l ≤ 4) (h0 : 0 ≤ l) : FnOk g (Str.ofString "halves_of") 1 [pD a l, .int 4] (halvesD a l) := by
  refine FnOk.intro dHalves nHalves rfl fun A L b cd h₀ ok fn => ?_
  refine Exs.cons ?_
  repeat tb_rel
  refine ⟨fun h => ?_, fun h => ?_⟩
  · repeat tb_rel
    simp only [decide_eq_true_eq] at h
    simp [halvesD, h]
  · simp only [decide_eq_false_iff_not] at h
    repeat tb_rel
    refine vb_shl (by omega) (by omega) (by decide) ?_
    repeat tb_rel
    simp [halvesD, h]
theorem okFirstLast (h0 : 0 ≤ l) (h4 : l ≤ 4) : FnOk g (Str.ofString "first_last") 1 [pD a l, .int 4] (.tuple [.int a, .int (Builtin.bitOr a (1 * 2 ^ (4 - l).toNat - 1))]) := by
  refine FnOk.intro dFirstLast nFirstLast rfl fun A L b cd h₀ ok fn => ?_
  refine Exs.cons ?_
  repeat tb_rel
  refine vb_shl (by omega) (by omega) (by decide) ?_
  repeat tb_rel
  rfl
noncomputable def firstBitsI (x l : Int) : Int := x.fdiv (2 ^ (4 - l).toNat) * 2 ^ (4 - l).toNat
theorem fdiv_small {x : Int} (k0 : 0 ≤ x) (k4 : x < 16) (k : Nat) : (x.fdiv (2 ^ k)).natAbs < 2 ^ 64 := by
  have h1 : 0 ≤ (2 : Int) ^ k := Int.le_of_lt (Int.pow_pos (by decide))
  rw [Int.fdiv_eq_ediv_of_nonneg _ h1]
  have h2 : x / 2 ^ k ≤ x := Int.ediv_le_self _ k0
  have h3 : 0 ≤ x / 2 ^ k := Int.ediv_nonneg k0 h1
  omega
theorem okFirstBits (h0 : 0 ≤ l) (h4 : l ≤ 4) (k0 : 0 ≤ x) (k4 : x < 16) : FnOk g (Str.ofString "first_bits") 1 [.int x, .int l, .int 4] (.int (firstBitsI x l)) := by
  refine FnOk.intro dFirstBits nFirstBits rfl fun A L b cd h₀ ok fn => ?_
  refine Exs.cons ?_
  repeat tb_rel
  refine vb_shr (by omega) ?_
  repeat tb_rel
  exact vb_shl (by omega) (by omega) (fdiv_small k0 k4 _) rfl
noncomputable def bitI (x p : Int) : Int := Builtin.bitAnd (x.fdiv (2 ^ (4 - 1 - p).toNat)) 1
theorem okBitOf {p : Int} (h4 : p ≤ 3) : FnOk g (Str.ofString "bit_of") 1 [.int x, .int p, .int 4] (.int (bitI x p)) := by
  refine FnOk.intro dBitOf nBitOf rfl fun A L b cd h₀ ok fn => ?_
  refine Exs.cons ?_
  repeat tb_rel
  refine vb_shr (by omega) ?_
  repeat tb_rel
  rfl
theorem okWithChild0 {p w t r e : Dat} : FnOk g (Str.ofString "with_child") 1 [.tuple [p, w, t, r], .int 0, e] (.tuple [p, w, e, r]) := by
  refine FnOk.intro dWithChild nWithChild rfl fun A L b cd h₀ ok fn => ?_
  refine Exs.cons ?_
  repeat (first | tb_rel | tb_start)
  rfl
theorem okWithChild1 {p w t r e : Dat} {k : Int} (hk : k ≠ 0) : FnOk g (Str.ofString "with_child") 1 [.tuple [p, w, t, r], .int k, e] (.tuple [p, w, t, e]) := by
  refine FnOk.intro dWithChild nWithChild rfl fun A L b cd h₀ ok fn => ?_
  refine Exs.cons ?_
  repeat (first | tb_rel | tb_start)
  rfl
end



theorem bitAnd_nn {x y : Int} (hx : 0 ≤ x) (hy : 0 ≤ y) : Builtin.bitAnd x y = ((x.toNat &&& y.toNat : Nat) : Int) := by
  unfold Builtin.bitAnd
  rw [decide_eq_true hx, decide_eq_true hy]
theorem bit_01 {x p : Int} (h : 0 ≤ x) : bitI x p = 0 ∨ bitI x p = 1 := by
  have h1 : 0 ≤ (2 : Int) ^ (4 - 1 - p).toNat := Int.le_of_lt (Int.pow_pos (by decide))
  have h0 : 0 ≤ x.fdiv (2 ^ (4 - 1 - p).toNat) := by rw [Int.fdiv_eq_ediv_of_nonneg _ h1]; exact Int.ediv_nonneg h h1
  unfold bitI
  rw [bitAnd_nn h0 (by decide), show (1 : Int).toNat = 1 from rfl, Nat.and_one_is_mod]
  omega

/-- how far two addresses agree -/
noncomputable def sharedFrom (a b mst : Int) : Nat → Int → Int
  | 0, k => k
  | f + 1, k => if k < mst ∧ bitI a k = bitI b k then sharedFrom a b mst f (k + 1) else k
noncomputable def sharedI (a l b m : Int) : Int := sharedFrom a b (if m < l then m else l) (if m < l then m else l).toNat 0
theorem sharedFrom_le (a b mst : Int) : ∀ (f : Nat) (k : Int), k ≤ mst → k ≤ sharedFrom a b mst f k ∧ sharedFrom a b mst f k ≤ mst
  | 0, k, h => ⟨Int.le_refl _, h⟩
  | f + 1, k, h => by
    unfold sharedFrom
    split
    · rename_i q
      have ih := sharedFrom_le a b mst f (k + 1) (by omega)
      exact ⟨by omega, ih.2⟩
    · exact ⟨Int.le_refl _, h⟩
theorem sharedI_le {a l b m : Int} (h0 : 0 ≤ l) (k0 : 0 ≤ m) : 0 ≤ sharedI a l b m ∧ sharedI a l b m ≤ l ∧ sharedI a l b m ≤ m := by
  unfold sharedI
  split
  · have := sharedFrom_le a b m m.toNat 0 (by omega); omega
  · have := sharedFrom_le a b l l.toNat 0 (by omega); omega
section
variable {g : GC} {a b l m x : Int}
theorem okShared (h0 : 0 ≤ l) (h4 : l ≤ 4) (k0 : 0 ≤ m) (k4 : m ≤ 4) : FnOk g (Str.ofString "shared_length") 2 [pD a l, pD b m, .int 4] (.int (sharedI a l b m)) := by
  refine FnOk.intro dShared nShared rfl fun A L ad cd h₀ ok fn => ?_
  refine Exs.cons ?_
  repeat tb_rel
  generalize hm : (if m < l then m else l) = mst
  have hm4 : 0 ≤ mst ∧ mst ≤ 4 := by rw [← hm]; split <;> omega
  refine Ex.whileL (fun k : Int => [(Str.ofString "one", .dat (pD a l)), (Str.ofString "other", .dat (pD b m)), (Str.ofString "bits", .dat (.int 4)), (Str.ofString "many", .dat (.int k)), (Str.ofString "most", .dat (.int mst))])
    (fun k => (mst - k).toNat) (fun k => 0 ≤ k ∧ k ≤ mst ∧ sharedFrom a b mst (mst - k).toNat k = sharedI a l b m) 0 ?_ ⟨by omega, by omega, by unfold sharedI; rw [hm]; simp⟩ ?_
  · repeat (first | exact Sub.nil | refine Sub.cons rfl ?_)
  · rintro k ⟨h1, h2, h3⟩
    repeat tb_rel
    refine ⟨fun hd => ?_, fun hd => ?_⟩
    · simp only [decide_eq_false_iff_not] at hd
      have : k = mst := by omega
      refine br_4 ?_
      repeat tb_rel
      subst this
      simp [sharedFrom] at h3
      rw [h3]
    · simp only [decide_eq_true_eq] at hd
      repeat tb_rel
      refine ⟨_, okBitOf (by omega), ?_⟩
      repeat tb_rel
      refine ⟨_, okBitOf (by omega), ?_⟩
      repeat tb_rel
      have hf : (mst - k).toNat = (mst - (k + 1)).toNat + 1 := by omega
      rw [hf] at h3
      unfold sharedFrom at h3
      refine ⟨fun he => ?_, fun he => ?_⟩
      · simp only [decide_eq_false_iff_not] at he
        rw [if_neg (fun q => he q.2)] at h3
        refine br_4 ?_
        repeat tb_rel
        rw [h3]
      · simp only [decide_eq_true_eq] at he
        rw [if_pos ⟨hd, he⟩] at h3
        repeat tb_rel
        refine br_2 ?_
        refine Exs.cons ?_
        refine Ex.aug (by assumption) (by assumption) (by rfl) (by exact Or.inl rfl) ?_
        repeat tb_rel
        refine ⟨k + 1, by omega, ⟨by omega, by omega, h3⟩, ?_⟩
        repeat (first | exact Sub.nil | refine Sub.cons rfl ?_)
end
/-- the tree that the text builds -/
inductive T where
  | nil
  | node (a l : Int) (w : Option Int) (x y : T)
noncomputable def wD : Option Int → Dat
  | none => .none
  | some k => .int k
noncomputable def T.toD : T → Dat
  | .nil => .none
  | .node a l w x y => .tuple [pD a l, wD w, x.toD, y.toD]
noncomputable def T.Ok : T → Prop
  | .nil => True
  | .node a l _ x y => 0 ≤ a ∧ a < 16 ∧ 0 ≤ l ∧ l ≤ 4 ∧ x.Ok ∧ y.Ok
noncomputable def T.deep : T → Nat
  | .nil => 0
  | .node _ _ _ x y => max x.deep y.deep + 1
noncomputable def T.size : T → Nat
  | .nil => 0
  | .node _ _ _ x y => x.size + y.size + 1
noncomputable def pick (k : Int) (e : T) (p : T × T) : T × T := if k = 0 then (e, p.2) else (p.1, e)
noncomputable def forkT (a b n : Int) (one other : T) : T :=
  .node (firstBitsI a n) n none (pick (bitI b n) other (pick (bitI a n) one (.nil, .nil))).1 (pick (bitI b n) other (pick (bitI a n) one (.nil, .nil))).2
noncomputable def T.put (b m k : Int) : T → T
  | .nil => .node b m (some k) .nil .nil
  | .node a l w x y =>
    if sharedI a l b m = l then
      if sharedI a l b m = m then .node a l (some k) x y
      else if bitI b (sharedI a l b m) = 0 then .node a l w (x.put b m k) y else .node a l w x (y.put b m k)
    else if sharedI a l b m = m then (if bitI a (sharedI a l b m) = 0 then .node b m (some k) (.node a l w x y) .nil else .node b m (some k) .nil (.node a l w x y))
    else forkT a b (sharedI a l b m) (.node a l w x y) (.node b m (some k) .nil .nil)
noncomputable def T.count : T → Int
  | .nil => 0
  | .node _ _ _ x y => 1 + x.count + y.count
noncomputable def T.look (z : Int) : T → Dat → Dat
  | .nil, f => f
  | .node a l w x y, f => if firstBitsI z l = a then
      (if l = 4 then (match w with | none => f | some k => .tuple [pD a l, .int k])
       else if bitI z l = 0 then x.look z (match w with | none => f | some k => .tuple [pD a l, .int k]) else y.look z (match w with | none => f | some k => .tuple [pD a l, .int k]))
    else f
section
variable {g : GC} {a b l m x : Int}
theorem okWC {p w t r e : Dat} {k : Int} : FnOk g (Str.ofString "with_child") 1 [.tuple [p, w, t, r], .int k, e] (if k = 0 then .tuple [p, w, e, r] else .tuple [p, w, t, e]) := by
  by_cases h : k = 0
  · subst h; rw [if_pos rfl]; exact okWithChild0
  · rw [if_neg h]; exact okWithChild1 h
theorem okFork {n : Int} {w1 x1 y1 w2 x2 y2 : Dat} (ha : 0 ≤ a) (ha' : a < 16) (hn : 0 ≤ n) (hn' : n ≤ 3) :
    FnOk g (Str.ofString "fork") 2 [.tuple [pD a l, w1, x1, y1], .tuple [pD b m, w2, x2, y2], .int n, .int 4]
      (let n1 : Dat × Dat := if bitI a n = 0 then (.tuple [pD a l, w1, x1, y1], .none) else (.none, .tuple [pD a l, w1, x1, y1])
       if bitI b n = 0 then .tuple [pD (firstBitsI a n) n, .none, .tuple [pD b m, w2, x2, y2], n1.2] else .tuple [pD (firstBitsI a n) n, .none, n1.1, .tuple [pD b m, w2, x2, y2]]) := by
  refine FnOk.intro dFork nFork rfl fun A L ad cd h₀ ok fn => ?_
  refine Exs.cons ?_
  repeat tb_rel
  refine ⟨_, okFirstBits hn (by omega) ha ha', ?_⟩
  repeat tb_rel
  refine ⟨_, okBitOf hn', ?_⟩
  repeat tb_rel
  by_cases h1 : bitI a n = 0
  · rw [h1]
    refine ⟨_, okWithChild0, ?_⟩
    repeat tb_rel
    refine ⟨_, okBitOf hn', ?_⟩
    repeat tb_rel
    refine ⟨_, okWC, ?_⟩
    simp
  · refine ⟨_, okWithChild1 h1, ?_⟩
    repeat tb_rel
    refine ⟨_, okBitOf hn', ?_⟩
    repeat tb_rel
    refine ⟨_, okWC, ?_⟩
    simp [h1]
theorem fork_toD {n k : Int} {w : Option Int} {x y : T} : (forkT a b n (.node a l w x y) (.node b m (some k) .nil .nil)).toD =
      (let n1 : Dat × Dat := if bitI a n = 0 then (.tuple [pD a l, wD w, x.toD, y.toD], .none) else (.none, .tuple [pD a l, wD w, x.toD, y.toD])
       if bitI b n = 0 then .tuple [pD (firstBitsI a n) n, .none, .tuple [pD b m, .int k, .none, .none], n1.2] else .tuple [pD (firstBitsI a n) n, .none, n1.1, .tuple [pD b m, .int k, .none, .none]]) := by
  unfold forkT pick
  by_cases h1 : bitI a n = 0 <;> by_cases h2 : bitI b n = 0 <;> simp [h1, h2, T.toD, wD]

theorem okTreePut {k : Int} (hb : 0 ≤ b) (hb' : b < 16) (k0 : 0 ≤ m) (k4 : m ≤ 4) : ∀ t : T, t.Ok → FnOk g (Str.ofString "tree_put") (4 + t.deep) [t.toD, pD b m, .int k, .int 4] (t.put b m k).toD
  | .nil, _ => by
    have e : T.nil.toD = Dat.none := rfl
    rw [e]
    refine FnOk.intro dTreePut nTreePut rfl fun A L ad cd h₀ ok fn => ?_
    refine Exs.cons ?_
    repeat (first | tb_rel | tb_start)
    rfl
  | .node a l w x y, ⟨ha, ha', h0, h4, hx, hy⟩ => by
    have ihx := okTreePut (k := k) hb hb' k0 k4 x hx
    have ihy := okTreePut (k := k) hb hb' k0 k4 y hy
    have hs := sharedI_le (a := a) (b := b) h0 k0
    have hd : 4 + (T.node a l w x y).deep = (4 + max x.deep y.deep) + 1 := rfl
    have et : (T.node a l w x y).toD = .tuple [pD a l, wD w, x.toD, y.toD] := rfl
    rw [hd, et]
    refine FnOk.intro dTreePut nTreePut rfl fun A L ad cd h₀ ok fn => ?_
    refine Exs.cons ?_
    repeat (first | tb_rel | tb_start)
    refine ⟨_, (okShared h0 h4 k0 k4).up (by first | decide | omega), ?_⟩
    unfold T.put
    generalize sharedI a l b m = n at hs ⊢
    repeat tb_rel
    by_cases e1 : n = l
    · by_cases e2 : n = m
      · refine br_t e1 ?_
        repeat tb_rel
        refine br_t e2 ?_
        repeat (first | tb_rel | tb_start)
        rw [if_pos e1, if_pos e2]; rfl
      · refine br_t e1 ?_
        repeat tb_rel
        refine br_f e2 ?_
        repeat (first | tb_rel | tb_start)
        refine ⟨_, (okBitOf (by omega)).up (by first | decide | omega), ?_⟩
        repeat tb_rel
        rw [if_pos e1, if_neg e2]
        rcases bit_01 (p := n) hb with h | h
        · rw [h]
          repeat tb_rel
          refine ⟨_, ihx.up (by first | decide | omega), ?_⟩
          repeat tb_rel
          refine ⟨_, okWithChild0.up (by first | decide | omega), ?_⟩
          rw [if_pos rfl]; rfl
        · rw [h]
          repeat tb_rel
          refine ⟨_, ihy.up (by first | decide | omega), ?_⟩
          repeat tb_rel
          refine ⟨_, (okWithChild1 (by decide)).up (by first | decide | omega), ?_⟩
          rw [if_neg (by decide)]; rfl
    · refine br_f e1 ?_
      repeat (first | tb_rel | tb_start)
      rw [if_neg e1]
      by_cases e2 : n = m
      · refine br_t' e2 ?_
        repeat tb_rel
        refine ⟨_, (okBitOf (by omega)).up (by first | decide | omega), ?_⟩
        repeat tb_rel
        refine ⟨_, okWC.up (by first | decide | omega), ?_⟩
        rw [if_pos e2]
        split <;> rfl
      · refine br_f' e2 ?_
        repeat tb_rel
        refine ⟨_, (okFork ha ha' hs.1 (by omega)).up (by first | decide | omega), ?_⟩
        rw [if_neg e2]
        exact fork_toD.symm

theorem okNodeCount : ∀ t : T, FnOk g (Str.ofString "node_count") (1 + t.deep) [t.toD] (.int t.count)
  | .nil => by
    have e : T.nil.toD = Dat.none := rfl
    rw [e]
    refine FnOk.intro dNodeCount nNodeCount rfl fun A L ad cd h₀ ok fn => ?_
    refine Exs.cons ?_
    repeat (first | tb_rel | tb_start)
    rfl
  | .node a l w x y => by
    have ihx := okNodeCount x
    have ihy := okNodeCount y
    have hd : 1 + (T.node a l w x y).deep = (1 + max x.deep y.deep) + 1 := rfl
    have et : (T.node a l w x y).toD = .tuple [pD a l, wD w, x.toD, y.toD] := rfl
    rw [hd, et]
    refine FnOk.intro dNodeCount nNodeCount rfl fun A L ad cd h₀ ok fn => ?_
    refine Exs.cons ?_
    repeat (first | tb_rel | tb_start)
    refine ⟨_, ihx.up (by first | decide | omega), ?_⟩
    repeat (first | tb_rel | tb_start)
    refine ⟨_, ihy.up (by first | decide | omega), ?_⟩
    repeat (first | tb_rel | tb_start)
    rfl
theorem vc_isn_w {w : Option Int} {KB : Bool → Prop} (k : KB w.isSome) : vCmp .IsNot (wD w) .none KB := by cases w <;> exact k
end
noncomputable def kasEval {α : Type} (lt : Nat → Nat → Bool) (n : Nat) : KasT α → Option α
  | .ret a => some a
  | .ask i j k => if i < n ∧ j < n then kasEval lt n (k (lt i j)) else none
theorem kas_wp_eval {α : Type} {lt : Nat → Nat → Bool} {n : Nat} {cmp : Nat → Nat → (Bool → Shared → Prop) → Shared → Prop} {Q : α → Shared → Prop} {s : Shared}
    (hc : ∀ i j C, i < n → j < n → C (lt i j) s → cmp i j C s) : ∀ (t : KasT α) (a : α), kasEval lt n t = some a → Q a s → t.kasWp cmp Q s
  | .ret _, _, h, q => by cases h; exact q
  | .ask i j k, a, h, q => by
    unfold kasEval at h
    split at h
    · rename_i hh
      exact hc i j _ hh.1 hh.2 (kas_wp_eval hc (k (lt i j)) a h q)
    · cases h

abbrev Pr := Int × Int
abbrev pd (p : Pr) : Dat := pD p.1 p.2
abbrev pDs (ps : List Pr) : List Dat := ps.map pd
noncomputable def lexB (p q : Pr) : Bool := if p.1 = q.1 then (if p.2 = q.2 then false else decide (p.2 < q.2)) else decide (p.1 < q.1)
noncomputable def sortIdx (ps : List Pr) : Option (List Nat) :=
  if ps.length < 2 then some (List.range ps.length) else if ps.length < 64 then
    (kasEval (fun i j => lexB (ps.getD i (0, 0)) (ps.getD j (0, 0))) ps.length (kas_sort ps.length)).bind fun p => if p.toList.all (fun i => decide (i < ps.length)) then some p.toList else none
  else none
noncomputable def sortP (ps : List Pr) : Option (List Pr) := (sortIdx ps).map fun l => l.map fun i => ps.getD i (0, 0)

/-- the tuples stand in the heap -/
noncomputable def Tups (h : Heap) (vs : List Value) (ps : List Pr) : Prop :=
  vs.length = ps.length ∧ ∀ (i : Nat) (p : Pr), ps[i]? = some p → ∃ x t u n, vs[i]? = some (.ref x) ∧ h.get? x = some (tupOf #[.int p.1 t, .int p.2 u] n)
theorem Tups.grow {h h' : Heap} {vs : List Value} {ps : List Pr} (t : Tups h vs ps) (k : ∀ b o, h.get? b = some o → h'.get? b = some o) : Tups h' vs ps :=
  ⟨t.1, fun i p e => let ⟨x, t', u, n, e1, e2⟩ := t.2 i p e; ⟨x, t', u, n, e1, k _ _ e2⟩⟩
theorem Tups.of {Z : Zs} {h : Heap} {vs : List Value} {ps : List Pr} (hz : ∀ a o, Z a o → h.get? a = some o) (r : RdA Z vs (pDs ps)) : Tups h vs ps := by
  refine ⟨by rw [r.len]; simp, fun i p e => ?_⟩
  obtain ⟨v, hv, rv⟩ := r.get (k := i) (d := pd p) (by simp [pDs, e])
  obtain ⟨a, v1, v2, m, rfl, ha, r1, r2⟩ := two_inv rv
  obtain ⟨t, rfl⟩ := r1.int_inv
  obtain ⟨u, rfl⟩ := r2.int_inv
  exact ⟨a, t, u, m, hv, hz _ _ ha⟩
section
variable {prog : Program} {w : World} {A : Around} {E : Value → Shared → Prop} {s : Shared}
theorem lt_pairs {x y : Addr} {a b a' b' : Int} {t u t' u' : Tok} {n m : Nat} {Q : Bool → Shared → Prop} (hx : s.heap.get? x = some (tupOf #[.int a t, .int b u] n)) (hy : s.heap.get? y = some (tupOf #[.int a' t', .int b' u'] m))
    (h : Q (lexB (a, b) (a', b')) s) : wpAny (model prog w) A (keyLt' (tuples' true) (.ref x) (.ref y)) Q E s := by
  refine kat_lt hx rfl hy rfl ?_
  refine kat_cons (wpAny_eqBool_int ?_)
  unfold lexB at h
  by_cases e : a = a'
  · rw [show (a == a') = true by simp [e]]
    rw [if_pos e] at h
    refine kat_yes (kat_cons (wpAny_eqBool_int ?_))
    by_cases e2 : b = b'
    · rw [show (b == b') = true by simp [e2]]
      rw [if_pos e2] at h
      exact kat_yes (kat_nil h)
    · rw [show (b == b') = false by simp [e2]]
      rw [if_neg e2] at h
      exact kat_no (kat_one _ _ (P.lt_int h))
  · rw [show (a == a') = false by simp [e]]
    rw [if_neg e] at h
    exact kat_no (oneLt_int h)
theorem Tups.kat {h : Heap} : ∀ {vs : List Value} {ps : List Pr}, Tups h vs ps → ∃ fs, KatTups h vs fs ∧ fs.length = vs.length ∧ ∀ v ∈ fs, ∃ i t, v = .int i t
  | [], [], _ => ⟨[], .nil, rfl, List.forall_mem_nil _⟩
  | [], _ :: _, t => by have := t.1; simp at this
  | _ :: _, [], t => by have := t.1; simp at this
  | v :: vs, p :: ps, t => by
    obtain ⟨x, t1, u, n, e1, e2⟩ := t.2 0 p rfl
    simp at e1; subst e1
    have t' : Tups h vs ps := ⟨by have := t.1; simpa using this, fun i q e => by
      obtain ⟨x, t', u, n, e1, e2⟩ := t.2 (i + 1) q (by simpa using e)
      exact ⟨x, t', u, n, by simpa using e1, e2⟩⟩
    obtain ⟨fs, k, l, ii⟩ := t'.kat
    exact ⟨.int p.1 t1 :: fs, .cons e2 rfl rfl rfl k, by simp [l], List.forall_mem_cons.mpr ⟨⟨_, _, rfl⟩, ii⟩⟩
theorem kind_pairs {vs : List Value} {ps : List Pr} {Q : SortKind → Shared → Prop} (t : Tups s.heap vs ps) (h2 : 2 ≤ vs.length) (h : Q (tuples' true) s) : wpAny (model prog w) A (keyKind' vs.toArray) Q E s := by
  obtain ⟨fs, k, l, ii⟩ := t.kat
  refine kat_kind (T := .type "int") k (by omega) (fun v hv => ?_) (by rfl) h
  obtain ⟨i, t, rfl⟩ := ii v hv
  exact Looks.now

theorem list_sort_pairs {a : Addr} {vs : List Value} {ps : List Pr} {l : List Nat} {n : Nat} {P : PySem.Fin → Shared → Prop} (ho : s.heap.get? a = some (seqObj "list" vs.toArray n))
    (t : Tups s.heap vs ps) (hl : sortIdx ps = some l) (h64 : vs.length < 64)
    (h : P (.done (.ret .none)) { s with heap := sortedHeap s.heap a vs (l.map fun i => vs.getD i Value.none).toArray }) :
    wpAny (model prog w) A (Builtin.«list.sort» ⟨[.ref a], []⟩) P E s := by
  rw [list_sort_plain]
  have ha : a < s.heap.objs.size := Heap.lt_size ho
  refine wpAny_bind (listItems_at ho rfl ?_)
  refine wpAny_bind (listUpdate_at ho rfl ?_)
  obtain ⟨e1, ho1⟩ : ∃ e1, (s.heap.update a (Obj.mapSeq fun _ => #[])).get? a = some (seqObj "list" #[] e1) := ⟨_, get?_update_seq ho (fun _ => #[])⟩
  refine wpAny_bind (seqEpoch_at ho1 rfl ?_)
  refine wpAny_bind (wpAny_newTuple ?_)
  refine wpAny_bind (wpAny_newList ?_)
  refine wpAny_holding ?_
  have ho6 : (((s.heap.update a (Obj.mapSeq fun _ => #[])).push (seqObj "tuple" vs.toArray 0)).push (seqObj "list" #[] 0)).get? a = some (seqObj "list" #[] e1) := by
    rw [Heap.get?_push_ne _ _ _ (by rw [size_push', Heap.size_update]; exact Nat.ne_of_lt (Nat.lt_succ_of_lt ha)), Heap.get?_push_ne _ _ _ (by rw [Heap.size_update]; exact Nat.ne_of_lt ha)]
    exact ho1
  have t6 : Tups (((s.heap.update a (Obj.mapSeq fun _ => #[])).push (seqObj "tuple" vs.toArray 0)).push (seqObj "list" #[] 0)) vs ps := by
    refine ⟨t.1, fun i p e => ?_⟩
    obtain ⟨x, t1, u, m, q1, q2⟩ := t.2 i p e
    have hx : x ≠ a := fun z => by
      rw [z, ho] at q2
      have := congrArg Obj.cls (Option.some.inj q2)
      simp at this
    refine ⟨x, t1, u, m, q1, Heap.get?_push_of_some _ (Heap.get?_push_of_some _ ?_)⟩
    rw [Heap.get?_update_ne _ _ _ _ hx]; exact q2
  show wpAny (model prog w) A _ P E { s with heap := ((s.heap.update a (Obj.mapSeq fun _ => #[])).push (seqObj "tuple" vs.toArray 0)).push (seqObj "list" #[] 0) }
  dsimp only
  have hsz : vs.toArray.size = vs.length := by simp
  have hps := t.1
  by_cases h2 : vs.toArray.size < 2
  · rw [if_pos h2, if_pos h2]
    refine wpAny_bind (wpAny_pure ?_)
    rw [StateT.run_pure]
    refine wpAny_bind (wpAny_pure ?_)
    dsimp only
    refine wpAny_bind (seqEpoch_at ho6 rfl ?_)
    refine wpAny_bind (listUpdate_at ho6 rfl ?_ (hsz2 := by rw [Array.size_map]; show (pairsOf vs).size ≤ _; rw [pairsOf_size, sizeLine_eq]; omega))
    simp only [bne_self_eq_false, Bool.false_eq_true, if_false]
    refine wpAny_pure ?_
    have el : l = List.range vs.length := by
      unfold sortIdx at hl
      rw [if_pos (by omega), ← hps] at hl
      exact (Option.some.inj hl).symm
    have eo : (arrOf (SortSt.mk' general' (vs.toArray.zip vs.toArray) #[] 7 none)).map (·.2) = (l.map fun i => vs.getD i Value.none).toArray := by
      apply Array.toList_inj.mp
      rw [el]
      show ((vs.toArray.zip vs.toArray).map (·.2)).toList = _
      rw [Array.toList_map, Array.toList_zip]
      apply List.ext_getElem
      · simp
      · intro i h1 h2
        simp at h1
        simp [h1]
    rw [eo]
    exact h
  · rw [if_neg h2, if_neg h2]
    refine wpAny_bind (kind_pairs (s := { s with heap := ((s.heap.update a (Obj.mapSeq fun _ => #[])).push (seqObj "tuple" vs.toArray 0)).push (seqObj "list" #[] 0) }) t6 (by omega) ?_)
    unfold sortIdx at hl
    rw [if_neg (by omega), if_pos (by omega)] at hl
    obtain ⟨p, hp, hl⟩ := Option.bind_eq_some_iff.mp hl
    have hl' : p.toList = l := by
      split at hl
      · exact Option.some.inj hl
      · cases hl
    have hk : (kas_sort vs.length).kasWp (kas_ask prog w A (tuples' true) vs) (fun p' s' => p' = p ∧ s' = { s with heap := ((s.heap.update a (Obj.mapSeq fun _ => #[])).push (seqObj "tuple" vs.toArray 0)).push (seqObj "list" #[] 0) })
        { s with heap := ((s.heap.update a (Obj.mapSeq fun _ => #[])).push (seqObj "tuple" vs.toArray 0)).push (seqObj "list" #[] 0) } := by
      rw [hps]
      refine kas_wp_eval (fun i j C hi hj hC => ?_) _ p hp ⟨rfl, rfl⟩
      obtain ⟨x, t1, u1, m1, q1, q2⟩ := t6.2 i _ (List.getElem?_eq_getElem hi)
      obtain ⟨y, t2, u2, m2, q3, q4⟩ := t6.2 j _ (List.getElem?_eq_getElem hj)
      unfold kas_ask
      rw [show vs.getD i Value.none = .ref x by simp [q1], show vs.getD j Value.none = .ref y by simp [q3]]
      rw [show ps.getD i (0, 0) = ps[i] by simp [hi], show ps.getD j (0, 0) = ps[j] by simp [hj]] at hC
      exact lt_pairs q2 q4 hC
    refine wpAny_bind (wpAny_mono (kat_run (Q := fun st' s' => arrOf st' = p.map (kas_item (vs.toArray.zip vs.toArray)) ∧ failedOf st' = none ∧ p.size = vs.length ∧ s' = { s with heap := ((s.heap.update a (Obj.mapSeq fun _ => #[])).push (seqObj "tuple" vs.toArray 0)).push (seqObj "list" #[] 0) })
      rfl (by omega) h64 (fun p' st' s' a1 a2 a3 a4 => by obtain ⟨rfl, rfl⟩ := a4; exact ⟨a2, a3, a1, rfl⟩) hk) ?_ fun _ _ e => e)
    rintro ⟨⟨⟩, st'⟩ s' ⟨har, hf, hp', rfl⟩
    dsimp only
    have hout := kat_snds rfl har
    rw [hl'] at hout
    refine wpAny_bind (seqEpoch_at ho6 rfl ?_)
    refine wpAny_bind (listUpdate_at ho6 rfl ?_ (hsz2 := by rw [Array.size_map, har, Array.size_map, hp', sizeLine_eq]; omega))
    rw [hf]
    simp only [bne_self_eq_false, Bool.false_eq_true, if_false]
    refine wpAny_pure ?_
    rw [hout]
    exact h

theorem sorted_pairs {l : Addr} {vs : List Value} {ps : List Pr} {ix : List Nat} {Q : Value → Shared → Prop} (hl : s.heap.IsList l vs.toArray) (t : Tups s.heap vs ps) (hi : sortIdx ps = some ix)
    (h64 : vs.length < 64) (h : Q (.ref (s.heap.objs.size + 1)) { s with heap := sortedAll s.heap vs (ix.map fun i => vs.getD i Value.none).toArray }) :
    wpAny (model prog w) A (call (.builtin "sorted") [.ref l]) Q E s := by
  refine Calls.call_function_entry kind_sorted plain_sorted entry_sorted (args_sorted1 _) ?_
  unfold Builtin.«sorted»
  refine wpAny_bind (m := checkCount "sorted" 1 1 _) (wpAny_pure ?_)
  refine wpAny_bind (collect_list hl ?_)
  refine wpAny_bind (wpAny_newList ?_)
  have hsz : ((s.heap.push (seqObj "list" #[] 0)).update s.heap.objs.size (Obj.mapSeq (· ++ vs.toArray))).objs.size = s.heap.objs.size + 1 := by
    rw [Heap.size_update, size_push']
  have hoL : (((s.heap.push (seqObj "list" #[] 0)).update s.heap.objs.size (Obj.mapSeq (· ++ vs.toArray))).push (seqObj "list" vs.toArray 0)).get? (s.heap.objs.size + 1) = some (seqObj "list" vs.toArray 0) := by
    rw [← hsz]; exact Heap.get?_push_size _ rfl
  show wpAny _ _ _ _ _ { s with heap := ((s.heap.push (seqObj "list" #[] 0)).update s.heap.objs.size (Obj.mapSeq (· ++ vs.toArray))).push (seqObj "list" vs.toArray 0) }
  rw [hsz]
  have keep : ∀ b o, s.heap.get? b = some o → (((s.heap.push (seqObj "list" #[] 0)).update s.heap.objs.size (Obj.mapSeq (· ++ vs.toArray))).push (seqObj "list" vs.toArray 0)).get? b = some o := fun b o q => by
    have hlt : b < s.heap.objs.size := Heap.lt_size q
    rw [Heap.get?_push_ne _ _ _ (by rw [hsz]; exact Nat.ne_of_lt (Nat.lt_succ_of_lt hlt)), Heap.get?_update_ne _ _ _ _ (Nat.ne_of_lt hlt), Heap.get?_push_ne _ _ _ (Nat.ne_of_lt hlt)]
    exact q
  refine wpAny_bind (wpAny_holding (wpAny_call_entry slot_list_sort ⟨_, hoL, rfl⟩ entry_list_sort (list_sort_pairs (s := { s with heap := ((s.heap.push (seqObj "list" #[] 0)).update s.heap.objs.size (Obj.mapSeq (· ++ vs.toArray))).push (seqObj "list" vs.toArray 0) }) hoL (t.grow keep) hi h64 ⟨_, rfl, ?_⟩) (args_list_sort _)))
  exact wpAny_pure ⟨_, rfl, h⟩
end
theorem bSorted : (Str.ofString "sorted", Bi.sorted) ∈ biTab := by simp [biTab]
theorem bEnum : (Str.ofString "enumerate", Bi.enumerate) ∈ biTab := by simp [biTab]
theorem sortIdx_lt {ps : List Pr} {l : List Nat} (h : sortIdx ps = some l) : ∀ i ∈ l, i < ps.length := by
  unfold sortIdx at h
  split at h
  · cases h; intro i hi; exact List.mem_range.mp hi
  · split at h
    · obtain ⟨p, _, h⟩ := Option.bind_eq_some_iff.mp h
      split at h
      · rename_i hall
        cases h
        intro i hi
        exact of_decide_eq_true (List.all_eq_true.mp hall i hi)
      · cases h
    · cases h
theorem sortIdx_len {ps : List Pr} {l : List Nat} (h : sortIdx ps = some l) : ps.length < 64 := by
  unfold sortIdx at h
  split at h
  · omega
  · split at h
    · assumption
    · cases h
section
variable {c : Cx} {n : Nat} {Z Z1 : Zs} {O O1 : Str → Option Addr} {ρ ρ' : Rho} {s s1 s0 : Shared} {K : Dat → Rho → Prop} {R : Dat → Prop} {KS : Rho → Prop}

theorem pick_read {vs : List Value} {ps : List Pr} (r : RdA Z vs (pDs ps)) : ∀ {l : List Nat}, (∀ i ∈ l, i < ps.length) → RdA Z (l.map fun i => vs.getD i Value.none) (pDs (l.map fun i => ps.getD i (0, 0)))
  | [], _ => .nil
  | i :: l, h => by
    have hi := h i (.head _)
    obtain ⟨v, hv, rv⟩ := r.get (k := i) (d := pd ps[i]) (by simp [pDs, hi])
    have e1 : vs.getD i Value.none = v := by simp [hv]
    have e2 : ps.getD i (0, 0) = ps[i] := by simp [hi]
    rw [List.map_cons, List.map_cons, e1, e2]
    exact .cons rv (pick_read r fun j hj => h j (.tail _ hj))

theorem Ev.sortedP (ok : c.Ok n) {p pos : Pos} {e : Expr} (hk : c.env.kindOf (Str.ofString "sorted") = some .globalImplicit) (hp : plainE e = true)
    (h : Ev c ρ e fun a ρ1 => ∃ ps qs, a = .list (pDs ps) ∧ sortP ps = some qs ∧ K (.list (pDs qs)) ρ1) : Ev c ρ (.Call (.Name (Str.ofString "sorted") p) [e] [] pos) K := by
  intro Z O s S
  refine Call_Name rfl (bi_read ok S hk bSorted (callWith_bi hp rfl (args_cons (wp_mono (h Z O s S) ?_) (plain_star hp))))
  rintro va s1 ⟨a, ρ1, Z1, O1, ⟨ps, qs, rfl, hs, k1⟩, e1, o1, r1⟩
  refine args_nil ?_
  obtain ⟨y, vs, m, rfl, hy, ry⟩ := r1.lst_inv
  have hg := e1.st.zin _ _ hy
  obtain ⟨l, hl, hq⟩ := Option.map_eq_some_iff.mp hs
  have hn : vs.length = ps.length := by rw [ry.len]; simp
  have h64 := sortIdx_len hl
  refine sorted_pairs (vs := vs) ⟨_, hg, rfl, m, rfl⟩ (Tups.of e1.st.zin ry) hl (by omega) ?_
  obtain ⟨ep, he⟩ := sortedAll_at s1.heap vs (l.map fun i => vs.getD i Value.none).toArray
  have kp : ∀ b o, s1.heap.get? b = some o → (sortedAll s1.heap vs (l.map fun i => vs.getD i Value.none).toArray).get? b = some o := fun b o q => sortedAll_old q
  have rd := pick_read ry (sortIdx_lt hl)
  rw [hq] at rd
  exact ⟨_, ρ1, _, O1, k1, e1.trans (Ends.put (tk := s1.toks) e1.st kp (Heap.get?_none_of_le (Nat.le_succ _)) he), o1.trans (.grow kp), .lst (.inr ⟨rfl, rfl⟩) (rd.mono fun _ _ q => .inl q)⟩

theorem ints_are : ∀ {vs : List Value} {ns : List Int}, RdA Z vs (ns.map Dat.int) → IntsAre vs ns
  | vs, [], r => by rw [RdA.nil_inv r]; exact .nil
  | vs, n :: ns, r => by
    obtain ⟨v, ws, rfl, r1, r2⟩ := RdA.cons_inv r
    obtain ⟨t, rfl⟩ := r1.int_inv
    exact .cons n t (ints_are r2)
theorem ints_rd : ∀ {vs : List Value} {ns : List Int}, IntsAre vs ns → RdA Z vs (ns.map Dat.int)
  | _, _, .nil => .nil
  | _, _, .cons n t r => .cons (.int n t) (ints_rd r)

theorem Ev.sortedI (ok : c.Ok n) {p pos : Pos} {e : Expr} (hk : c.env.kindOf (Str.ofString "sorted") = some .globalImplicit) (hp : plainE e = true)
    (h : Ev c ρ e fun a ρ1 => ∃ ns : List Int, a = .list (ns.map .int) ∧ ns.length < 64 ∧ ∀ ns' : List Int, ns'.Perm ns → ns'.Pairwise (· ≤ ·) → K (.list (ns'.map .int)) ρ1) : Ev c ρ (.Call (.Name (Str.ofString "sorted") p) [e] [] pos) K := by
  intro Z O s S
  refine Call_Name rfl (bi_read ok S hk bSorted (callWith_bi hp rfl (args_cons (wp_mono (h Z O s S) ?_) (plain_star hp))))
  rintro va s1 ⟨a, ρ1, Z1, O1, ⟨ns, rfl, h64, k1⟩, e1, o1, r1⟩
  refine args_nil ?_
  obtain ⟨y, vs, m, rfl, hy, ry⟩ := r1.lst_inv
  have hg := e1.st.zin _ _ hy
  have hn : vs.length = ns.length := by rw [ry.len]; simp
  refine sorted_ints (vs := vs) ⟨_, hg, rfl, m, rfl⟩ (ints_are ry) (by omega) fun out ns' a1 a2 a3 => ?_
  obtain ⟨ep, he⟩ := sortedAll_at s1.heap vs out
  have kp : ∀ b o, s1.heap.get? b = some o → (sortedAll s1.heap vs out).get? b = some o := fun b o q => sortedAll_old q
  refine ⟨_, ρ1, _, O1, k1 ns' a2 a3, e1.trans (Ends.put (tk := s1.toks) (o := listOf out.toList.toArray ep) e1.st kp (Heap.get?_none_of_le (Nat.le_succ _)) (by rw [Array.toArray_toList]; exact he)), o1.trans (.grow kp), .lst (.inr ⟨rfl, rfl⟩) (ints_rd a1)⟩

/-- an own list against the written empty one -/
theorem Te.eqNil (ok : c.Ok n) {x : Str} {q p pos : Pos} {ds : List Dat} {K : Bool → Rho → Prop} (hx : ρ.lookup x = some (.own ds)) (hk : ∀ d ∈ ds, kqdOk 7 d = true) (h : K (decide (ds = [])) ρ) :
    Te c ρ (.Compare (.Name x q) [.Eq] [.List [] p] pos) K := fun Z O _ S =>
  eq_nil_own ok (K := fun b => K b ρ) S hx hk h fun _ _ hb e k => ⟨ρ, Z, O, hb, e, .grow k⟩

/-- for i, x in enumerate(e) -/
theorem Ex.forEnum (ok : c.Ok n) (fn : c.Fn) {i x : Str} {pi px pt q pos qos : Pos} {kt : Nat} {e : Expr} {body : List Stmt} (hi : Put c i) (hx : Put c x) (hk : c.env.kindOf (Str.ofString "enumerate") = some .globalImplicit) (hp : plainE e = true) (inv : List Dat → Nat → Rho)
    (h : Ev c ρ e fun a ρ1 => ∃ ds, a = .list ds ∧ Sub (inv ds 0) ρ1 ∧ (∀ (j : Nat) d, ds[j]? = some d → Exs c (upd (upd (inv ds j) i (.dat (.int j))) x (.dat d)) body (fun ρ2 => Sub (inv ds (j + 1)) ρ2) R) ∧ KS (inv ds ds.length)) :
    Ex c ρ (.For (.Tuple [.Name i pi, .Name x px] kt pt) (.Call (.Name (Str.ofString "enumerate") q) [e] [] qos) body [] pos) KS R := by
  intro Z O s S
  refine wpAny_For (Call_Name rfl (bi_read ok S hk (b := .enumerate) bEnum (callWith_bi hp rfl (args_cons (wp_mono (h Z O s S) ?_) (plain_star hp))))) (by intro _; rfl)
  rintro va s1 ⟨a, ρ1, Z1, O1, ⟨ds, rfl, h0, step, done⟩, e1, o1, r1⟩
  obtain ⟨l, vs, m, rfl, hl, ry⟩ := r1.lst_inv
  have hg := e1.st.zin _ _ hl
  have hll := Heap.lt_size hg
  have hle : l ≠ s1.heap.objs.size + 1 := Nat.ne_of_lt (Nat.lt_succ_of_lt hll)
  have hli : l ≠ s1.heap.objs.size := Nat.ne_of_lt hll
  have hn := ry.len
  refine args_nil (call_enumerate_list (items := vs.toArray) ⟨_, hg, rfl, m, rfl⟩ fun h' hE hI hsz hk' => wpAny_pyIter_enum hE ?_)
  generalize hea : s1.heap.objs.size + 1 = ea at *
  generalize hia : s1.heap.objs.size = ia at *
  have hei : ea ≠ ia := by rw [← hea]; exact Nat.succ_ne_self _
  have fe : s1.heap.get? ea = none := Heap.get?_none_of_le (by omega)
  have fi : s1.heap.get? ia = none := Heap.get?_none_of_le (by omega)
  refine codeAny_forLoop_any (fun k s' => ∃ (j : Nat) (Z' : Zs) (O' : Str → Option Addr) (old : Value), Ends c Z1 O1 s1 Z' O' (inv ds j) s' ∧ IsEnum s'.heap ea ia j old ∧ s'.heap.IsListIter ia l j ∧ (∀ b ∈ [ea, ia], ¬ Own c O' b ∧ (∀ o, ¬ Z' b o) ∧ c.h₀.get? b = none) ∧ j ≤ ds.length ∧ k = ds.length + 1 - j) ?_ (ds.length + 1)
    ⟨0, Z1, O1, .none, (Ends.grow (tk := s1.toks) e1.st hk').weak h0, hE, hI, ?_, Nat.zero_le _, rfl⟩
  rotate_left
  · intro b hb
    rcases List.mem_cons.mp hb with rfl | hb
    · exact fresh_off e1.st fe
    · obtain rfl := List.mem_singleton.mp hb; exact fresh_off e1.st fi
  rintro k s' ⟨j, Z', O', old, ee, hE', hI', off, hj, rfl⟩
  have hwr : ∀ b ∈ [ea, ia], s1.heap.get? b = none := by
    intro b hb
    rcases List.mem_cons.mp hb with rfl | hb
    · exact fe
    · obtain rfl := List.mem_singleton.mp hb; exact fi
  have hl' : s'.heap.IsList l vs.toArray := ⟨_, ee.st.zin _ _ (ee.z _ _ hl), rfl, m, rfl⟩
  by_cases hlt : j < ds.length
  · have hd : ds[j]? = some ds[j] := List.getElem?_eq_getElem hlt
    obtain ⟨v, hv, rv⟩ := ry.get hd
    refine wpAny_pyNext_enum_item hE' hI' hl' (by simpa using hv) hei fun h₁ heo hit₁ ht₁ hz₁ hk₁ => ?_
    refine wpAny_letOwnedTupleGo_enum heo fun h₂ he₂ hs₂ => ?_
    replace hs₂ : Heap.SameBut ea h₁ h₂ := hs₂
    have heH : ea < s'.heap.objs.size := Heap.lt_size hE'
    have ht₂ : h₂.IsTuple s'.heap.objs.size #[.int j s'.toks, v] := ⟨_, (hs₂.2 _ (Nat.ne_of_gt heH)).trans ht₁, rfl, _, rfl⟩
    have hz₂ : h₂.objs.size = s'.heap.objs.size + 1 := hs₂.1.trans hz₁
    have k2 : ∀ b o, b ∉ [ea, ia] → s'.heap.get? b = some o → h₂.get? b = some o := fun b o hb q => by
      have hb1 : b ≠ ea := fun z => hb (by simp [z])
      have hb2 : b ≠ ia := fun z => hb (by simp [z])
      exact (hs₂.2 b hb1).trans (hk₁ b o hb1 hb2 q)
    refine false_to (wpAny_assign_Tuple ok.room.1 ht₂ rfl rfl fun h₃ hx₃ => ?_)
    replace hx₃ : Heap.ExtBut h₂.objs.size h₂ h₃ := hx₃
    have k3 : ∀ b o, h₂.get? b = some o → h₃.get? b = some o := ext_keep hx₃
    have e3 : Ends c Z1 O1 s1 Z' O' (inv ds j) { s' with heap := h₃, toks := s'.toks + 1 } := ee.other (fun b o hb q => k3 b o (k2 b o hb q)) off hwr
    show wpAny _ _ (assignInOrder [PySem.assign (.Name i pi) c.env, PySem.assign (.Name x px) c.env] [.int j s'.toks, v]) _ _ _
    refine wpAny_assignInOrder_more (wpAny_assign_Name (store_dat ok fn e3.st hi (.int _ _) fun s4 e4 => ?_))
    refine wpAny_assignInOrder_more (wpAny_assign_Name (store_dat ok fn e4.st hx (rv.mono ee.z) fun s5 e5 => ?_))
    refine wpAny_assignInOrder_none ?_
    have e35 := e4.trans e5
    have hE3 : IsEnum h₃ ea ia ((j : Int) + 1) v := k3 _ _ he₂
    have hI3 : h₃.IsListIter ia l (j + 1) := by
      obtain ⟨o, ho, r⟩ := hit₁.extBut hs₂.extBut (Ne.symm hei)
      exact ⟨o, k3 _ _ ho, r⟩
    have cp : ((j + 1 : Nat) : Int) = (j : Int) + 1 := by push_cast; rfl
    have mea : ea ∈ [ea, ia] := by simp
    have mia : ia ∈ [ea, ia] := by simp
    have hE5 : IsEnum s5.heap ea ia ((j + 1 : Nat) : Int) v := by rw [cp]; exact e35.stp.keep _ _ hE3 (off _ mea).1
    have hI5 : s5.heap.IsListIter ia l (j + 1) := by
      obtain ⟨o, ho, r⟩ := hI3
      exact ⟨o, e35.stp.keep _ _ ho (off _ mia).1, r⟩
    refine false_to (wp_mono (step j _ hd Z' O' s5 e5.st) ?_)
    intro f s6 q6
    cases f with
    | next =>
      obtain ⟨ρ4, Z4, O4, w, e6⟩ := q6
      refine ⟨ds.length + 1 - (j + 1), by omega, j + 1, Z4, O4, v, (e3.trans (e35.trans e6)).weak w, e6.stp.keep _ _ hE5 (off _ mea).1, ?_, ?_, hlt, rfl⟩
      · obtain ⟨o, ho, r⟩ := hI5
        exact ⟨o, e6.stp.keep _ _ ho (off _ mia).1, r⟩
      · intro b hb
        have live : s5.heap.get? b ≠ none := by
          rcases List.mem_cons.mp hb with rfl | hb
          · rw [hE5]; exact Option.some_ne_none _
          · obtain rfl := List.mem_singleton.mp hb
            obtain ⟨o, ho, _⟩ := hI5
            rw [ho]; exact Option.some_ne_none _
        exact off_stp e6 live (off b hb)
    | ret v' => obtain ⟨d, ρ3, Z3, O3, r, e6, rv'⟩ := q6; exact ⟨d, ρ3, Z3, O3, r, e1.trans (e3.trans (e35.trans e6)), rv'⟩
    | brk => exact q6.elim
    | cont => exact q6.elim
  · have hjn : j = ds.length := by omega
    subst hjn
    refine wpAny_pyNext_enum_end ok.room.1 hE' hI' hl' (by simp [hn]) fun h₁ hx₁ => wpAny_execs_nil ?_
    replace hx₁ : Heap.ExtBut ia s'.heap h₁ := hx₁
    exact ⟨_, Z', O', done, e1.trans (ee.other (tk := s'.toks) (fun b o hb q => hx₁ b o (fun z => hb (by simp [z])) q) off hwr)⟩
end
section
variable {g : GC} {a b l m x z : Int}
theorem look_node {w : Option Int} {x y : T} {f : Dat} : (T.node a l w x y).look z f = if firstBitsI z l = a then
        (if l = 4 then (match w with | none => f | some k => .tuple [pD a l, .int k])
         else if bitI z l = 0 then x.look z (match w with | none => f | some k => .tuple [pD a l, .int k]) else y.look z (match w with | none => f | some k => .tuple [pD a l, .int k]))
        else f := rfl
theorem okTreeLook (hz : 0 ≤ z) (hz' : z < 16) (t : T) (ht : t.Ok) : FnOk g (Str.ofString "tree_look") 2 [t.toD, .int z, .int 4] (t.look z .none) := by
  refine FnOk.intro dTreeLook nTreeLook rfl fun A L ad cd h₀ ok fn => ?_
  refine Exs.cons ?_
  repeat tb_rel
  refine Ex.whileL (fun a : Dat × T => [(Str.ofString "tree", .dat t.toD), (Str.ofString "address", .dat (.int z)), (Str.ofString "bits", .dat (.int 4)), (Str.ofString "found", .dat a.1), (Str.ofString "node", .dat a.2.toD)])
    (fun a => a.2.size) (fun a => a.2.Ok ∧ a.2.look z a.1 = t.look z .none) (.none, t) ?_ ⟨ht, rfl⟩ ?_
  · repeat (first | exact Sub.nil | refine Sub.cons rfl ?_)
  · rintro ⟨f, u⟩ ⟨hu, hf⟩
    cases u with
    | nil =>
      repeat tb_rel
      refine vc_isn0 ?_
      repeat (first | tb_rel | tb_start)
      exact hf
    | node a l w x y =>
      obtain ⟨ha, ha', h0, h4, hx, hy⟩ := hu
      have et : (T.node a l w x y).toD = .tuple [pD a l, wD w, x.toD, y.toD] := rfl
      dsimp only [] at hf ⊢
      rw [look_node] at hf
      rw [et]
      repeat (first | tb_rel | tb_start)
      refine ⟨_, (okFirstBits h0 h4 hz hz').up (by first | decide | omega), ?_⟩
      repeat tb_rel
      by_cases e1 : firstBitsI z l = a
      · rw [if_pos e1] at hf
        refine br_t e1 ?_
        repeat (first | tb_rel | tb_start)
        refine vc_isn_w ?_
        have sz : x.size < (T.node a l w x y).size ∧ y.size < (T.node a l w x y).size ∧ 0 < (T.node a l w x y).size := by simp only [T.size]; omega
        cases w with
        | none =>
          dsimp only [] at hf
          refine br_4 ?_
          repeat (first | tb_rel | tb_start)
          by_cases e2 : l = 4
          · rw [if_pos e2] at hf
            refine br_t' e2 ?_
            repeat tb_rel
            refine ⟨(f, .nil), sz.2.2, ⟨trivial, hf⟩, ?_⟩
            repeat (first | exact Sub.nil | refine Sub.cons rfl ?_)
          · rw [if_neg e2] at hf
            refine br_f' e2 ?_
            repeat tb_rel
            refine ⟨_, (okBitOf (by omega)).up (by first | decide | omega), ?_⟩
            repeat tb_rel
            rcases bit_01 (p := l) hz with h | h
            · rw [h] at hf ⊢
              repeat tb_rel
              refine ⟨(f, x), sz.1, ⟨hx, hf⟩, ?_⟩
              repeat (first | exact Sub.nil | refine Sub.cons rfl ?_)
            · rw [h] at hf ⊢
              repeat tb_rel
              refine ⟨(f, y), sz.2.1, ⟨hy, hf⟩, ?_⟩
              repeat (first | exact Sub.nil | refine Sub.cons rfl ?_)
        | some k =>
          dsimp only [] at hf
          have ew : wD (some k) = .int k := rfl
          rw [ew]
          refine br_2 ?_
          repeat (first | tb_rel | tb_start)
          by_cases e2 : l = 4
          · rw [if_pos e2] at hf
            refine br_t' e2 ?_
            repeat tb_rel
            refine ⟨(.tuple [pD a l, .int k], .nil), sz.2.2, ⟨trivial, hf⟩, ?_⟩
            repeat (first | exact Sub.nil | refine Sub.cons rfl ?_)
          · rw [if_neg e2] at hf
            refine br_f' e2 ?_
            repeat tb_rel
            refine ⟨_, (okBitOf (by omega)).up (by first | decide | omega), ?_⟩
            repeat tb_rel
            rcases bit_01 (p := l) hz with h | h
            · rw [h] at hf ⊢
              repeat tb_rel
              refine ⟨(.tuple [pD a l, .int k], x), sz.1, ⟨hx, hf⟩, ?_⟩
              repeat (first | exact Sub.nil | refine Sub.cons rfl ?_)
            · rw [h] at hf ⊢
              repeat tb_rel
              refine ⟨(.tuple [pD a l, .int k], y), sz.2.1, ⟨hy, hf⟩, ?_⟩
              repeat (first | exact Sub.nil | refine Sub.cons rfl ?_)
      · rw [if_neg e1] at hf
        refine br_f e1 ?_
        repeat (first | tb_rel | tb_start)
        exact hf
end
/-- a run over a list, with states -/
noncomputable def runs {σ α : Type} (f : σ → α → Option σ) : List α → σ → Option σ
  | [], a => some a
  | x :: l, a => (f a x).bind (runs f l)
theorem runs_states {σ α : Type} (f : σ → α → Option σ) : ∀ (l : List α) (a r : σ), runs f l a = some r → ∃ st : Nat → σ, st 0 = a ∧ st l.length = r ∧ ∀ (i : Nat) (x : α), l[i]? = some x → f (st i) x = some (st (i + 1))
  | [], a, r, h => by cases h; exact ⟨fun _ => a, rfl, rfl, fun i x e => by simp at e⟩
  | x :: l, a, r, h => by
    obtain ⟨b, hb, hr⟩ := Option.bind_eq_some_iff.mp h
    obtain ⟨st, h0, h1, h2⟩ := runs_states f l b r hr
    refine ⟨fun | 0 => a | i + 1 => st i, rfl, h1, fun i y e => ?_⟩
    cases i with
    | zero =>
      simp at e; subst e
      show f a x = some (st 0)
      rw [hb, h0]
    | succ i => exact h2 i y (by simpa using e)

noncomputable def onesF : Nat → Int → Int
  | 0, _ => 0
  | f + 1, k => if 0 < k then k.fmod 2 + onesF f (k.fdiv 2) else 0
theorem onesF_le : ∀ (f : Nat) (k : Int), k ≤ 0 → onesF f k = 0
  | 0, _, _ => rfl
  | f + 1, k, h => by unfold onesF; rw [if_neg (by omega)]
theorem onesF_pos {f : Nat} {k : Int} (h : 0 < k) : onesF (f + 1) k = k.fmod 2 + onesF f (k.fdiv 2) := if_pos h
noncomputable def coversC (p q : Pr) : Option Bool := if 0 ≤ p.2 ∧ p.2 ≤ 4 then some (coversB p.1 p.2 q.1 q.2) else none
theorem ok_pd (p : Pr) : kqdOk 7 (pd p) = true := rfl
theorem ok_pDs (ps : List Pr) : ∀ d ∈ pDs ps, kqdOk 7 d = true := fun d h => by
  obtain ⟨p, _, rfl⟩ := List.mem_map.mp h; rfl
section
variable {g : GC} {a b l m x z : Int}
theorem okOnes {k : Int} (h0 : 0 ≤ k) : FnOk g (Str.ofString "_law_ones") 1 [.int k] (.int (onesF k.toNat k)) := by
  refine FnOk.intro dOnes nOnes rfl fun A L ad cd h₀ ok fn => ?_
  refine Exs.cons ?_
  repeat tb_rel
  refine Ex.whileL (fun a : Int × Int => [(Str.ofString "found", .dat (.int a.1)), (Str.ofString "number", .dat (.int a.2))])
    (fun a => a.2.toNat) (fun a => 0 ≤ a.2 ∧ ∃ f : Nat, a.2.toNat ≤ f ∧ a.1 + onesF f a.2 = onesF k.toNat k) (0, k) ?_ ⟨h0, k.toNat, Nat.le_refl _, by simp⟩ ?_
  · repeat (first | exact Sub.nil | refine Sub.cons rfl ?_)
  · rintro ⟨u, v⟩ ⟨hv, f, hf, he⟩
    dsimp only at hv hf he ⊢
    repeat tb_rel
    refine ⟨fun hd => ?_, fun hd => ?_⟩
    · simp only [decide_eq_true_eq] at hd
      obtain ⟨f', rfl⟩ : ∃ f', f = f' + 1 := ⟨f - 1, by omega⟩
      rw [onesF_pos hd] at he
      have e2 : v.fdiv 2 = v / 2 := Int.fdiv_eq_ediv_of_nonneg _ (by decide)
      repeat tb_rel
      refine vb_mod (by decide) ?_
      repeat tb_rel
      refine vb_div (by decide) (by decide) ?_
      repeat tb_rel
      refine ⟨(u + v.fmod 2, v.fdiv 2), ?_, ⟨?_, f', ?_, ?_⟩, ?_⟩
      · show (v.fdiv 2).toNat < v.toNat; omega
      · show 0 ≤ v.fdiv 2; omega
      · show (v.fdiv 2).toNat ≤ f'; omega
      · show u + v.fmod 2 + onesF f' (v.fdiv 2) = _; omega
      · repeat (first | exact Sub.nil | refine Sub.cons rfl ?_)
    · simp only [decide_eq_false_iff_not] at hd
      rw [onesF_le _ _ (by omega)] at he
      repeat tb_rel
      rw [← he]; simp

noncomputable def uncStep (found : List Pr) (p : Pr) : Option (List Pr) :=
  if 60 ≤ found.length then none else
    match found.getLast? with
    | none => some [p]
    | some q => (coversC q p).map fun b => if b = true then found else found ++ [p]
noncomputable def uncO (ps : List Pr) : Option (List Pr) := (sortP ps).bind fun qs => runs uncStep qs []
theorem last_place {ps : List Pr} {q : Pr} (h : ps.getLast? = some q) : place (-1) (pDs ps).length = some (ps.length - 1) ∧ (pDs ps)[ps.length - 1]? = some (pd q) := by
  have hne : ps ≠ [] := fun e => by subst e; cases h
  have hl : 0 < ps.length := List.length_pos_iff.mpr hne
  constructor
  · unfold place
    rw [if_neg (by decide), if_pos (by simp; omega)]
    simp only [List.length_map]
    congr 1; omega
  · rw [List.getLast?_eq_getElem?] at h
    simp [pDs, h]
theorem okUncovered {ps r : List Pr} (hr : uncO ps = some r) : FnOk g (Str.ofString "uncovered") 4 [.list (pDs ps), .int 4] (.list (pDs r)) := by
  obtain ⟨qs, hq, hr⟩ := Option.bind_eq_some_iff.mp hr
  obtain ⟨st, s0, s1, s2⟩ := runs_states _ _ _ _ hr
  refine FnOk.intro dUncovered nUncovered rfl fun A L ad cd h₀ ok fn => ?_
  refine Exs.cons ?_
  repeat tb_rel
  refine Ex.forList (by assumption) (by assumption) (by exact Or.inl rfl) rfl (fun _ i => [(Str.ofString "bits", .dat (.int 4)), (Str.ofString "found", .own (pDs (st i)))]) ?_
  refine Ev.sortedP (by assumption) rfl rfl ?_
  repeat tb_rel
  refine ⟨ps, qs, rfl, hq, pDs qs, rfl, ?_, fun i d hd => ?_, ?_⟩
  · rw [s0]; repeat (first | exact Sub.nil | refine Sub.cons rfl ?_)
  · obtain ⟨p, hp, rfl⟩ : ∃ p, qs[i]? = some p ∧ d = pd p := by
      simp only [pDs, List.getElem?_map, Option.map_eq_some_iff] at hd
      obtain ⟨p, h1, h2⟩ := hd; exact ⟨p, h1, h2.symm⟩
    have hs := s2 i p hp
    generalize st i = found at hs ⊢
    generalize st (i + 1) = next at hs ⊢
    unfold uncStep at hs
    split at hs
    · cases hs
    rename_i hlen
    refine Exs.cons (Ex.ite (Te.or_cons (Te.eqNil (ds := pDs found) (by assumption) rfl (ok_pDs _) ?_)))
    cases hl : found.getLast? with
    | none =>
      have e0 : found = [] := List.getLast?_eq_none_iff.mp hl
      subst e0
      cases hs
      refine br_t' (by rfl) ?_
      refine br_2 ?_
      refine Exs.cons (Ex.append (by assumption) rfl rfl rfl rfl ?_)
      repeat tb_rel
      repeat (first | exact Sub.nil | refine Sub.cons rfl ?_)
    | some q =>
      rw [hl] at hs
      obtain ⟨bb, hb, hn⟩ := Option.map_eq_some_iff.mp hs
      unfold coversC at hb
      split at hb
      · rename_i hq2
        cases hb
        have hne : ¬ pDs found = [] := fun e => by
          have : found = [] := List.map_eq_nil_iff.mp e
          subst this; cases hl
        have lp := last_place hl
        refine br_f' hne ?_
        repeat tb_rel
        refine vi_lst (by simp; omega) lp.1 lp.2 ?_
        repeat tb_rel
        refine ⟨_, okCovers hq2.1 hq2.2, ?_⟩
        repeat tb_rel
        cases hc : coversB q.1 q.2 p.1 p.2 with
        | true =>
          rw [hc] at hn
          simp only [if_true] at hn
          subst hn
          refine ⟨fun h => by simp at h, fun _ => ?_⟩
          repeat (first | tb_rel | tb_start)
          repeat (first | exact Sub.nil | refine Sub.cons rfl ?_)
        | false =>
          rw [hc] at hn
          simp only [Bool.false_eq_true, if_false] at hn
          subst hn
          refine ⟨fun _ => ?_, fun h => by simp at h⟩
          refine br_2 ?_
          refine Exs.cons (Ex.append (by assumption) rfl rfl rfl rfl ?_)
          repeat tb_rel
          refine ⟨by simp; omega, ?_⟩
          repeat tb_rel
          have ea : pDs (found ++ [p]) = pDs found ++ [pd p] := by simp
          rw [ea]
          repeat (first | exact Sub.nil | refine Sub.cons rfl ?_)
      · cases hb
  · have el : st (pDs qs).length = r := by rw [← s1]; simp
    rw [el]
    repeat tb_rel
    rfl
end


noncomputable def parentP (q : Pr) : Pr := (Builtin.bitAnd q.1 (maskI (q.2 - 1)), q.2 - 1)
noncomputable def halvesP (u : Pr) : Pr × Pr := ((u.1, u.2 + 1), (Builtin.bitOr u.1 (1 * 2 ^ (4 - (u.2 + 1)).toNat), u.2 + 1))
noncomputable def aggW : Nat → List Pr → Option (List Pr)
  | 0, _ => none
  | k + 1, found => if found.length ≤ 1 then some found else if 60 ≤ found.length then none else
    match found[found.length - 1]?, found[found.length - 2]? with
    | some q, some p => if 1 ≤ q.2 ∧ q.2 ≤ 4 then (if halvesP (parentP q) = (p, q) then aggW k (found.take (found.length - 2) ++ [parentP q]) else some found) else none
    | _, _ => none
noncomputable def aggStep (found : List Pr) (p : Pr) : Option (List Pr) := if 60 ≤ found.length then none else aggW 20 (found ++ [p])
noncomputable def aggO (ps : List Pr) : Option (List Pr) := (uncO ps).bind fun us => runs aggStep us []
theorem aggW_len {k : Nat} {found r : List Pr} (h : aggW k found = some r) : found.length < 60 := by
  cases k with
  | zero => cases h
  | succ k =>
    unfold aggW at h
    split at h
    · omega
    · split at h
      · cases h
      · omega
theorem neg_place {ps : List Pr} {q : Pr} {j : Nat} (h : ps[ps.length - j]? = some q) (hj : 1 ≤ j) (hl : j ≤ ps.length) : place (-(j : Int)) (pDs ps).length = some (ps.length - j) ∧ (pDs ps)[ps.length - j]? = some (pd q) := by
  constructor
  · unfold place
    rw [if_neg (by omega), if_pos (by simp; omega)]
    simp only [List.length_map]
    congr 1; omega
  · simp [pDs, h]
theorem cut_to {ds : List Dat} {k : Int} (h0 : 0 ≤ k) (h1 : k ≤ ds.length) : cut ds none (some k) = ds.take k.toNat := by
  obtain ⟨k, rfl⟩ := Int.eq_ofNat_of_zero_le h0
  unfold cut
  simp only [Option.elim_none, Option.elim_some, List.drop_zero, Nat.sub_zero]
  rw [clip_nat, Nat.min_eq_left (Int.ofNat_le.mp h1)]
  rfl
theorem parentD_eq {q : Pr} (h : 1 ≤ q.2) : parentD q.1 q.2 = pd (parentP q) := by
  unfold parentD; rw [if_neg (by omega)]; rfl
theorem halvesD_eq {u : Pr} (h : u.2 ≤ 3) : halvesD u.1 u.2 = .tuple [pd (halvesP u).1, pd (halvesP u).2] := by
  unfold halvesD; rw [if_neg (by omega)]; rfl
theorem pd_inj {p q : Pr} (h : pd p = pd q) : p = q := by
  have h1 := Dat.tuple.inj h
  simp only [List.cons.injEq, Dat.int.injEq, and_true] at h1
  exact Prod.ext h1.1 h1.2
section
variable {g : GC}
theorem okAggregated {ps r : List Pr} (hr : aggO ps = some r) : FnOk g (Str.ofString "aggregated") 5 [.list (pDs ps), .int 4] (.list (pDs r)) := by
  obtain ⟨us, hu, hr⟩ := Option.bind_eq_some_iff.mp hr
  obtain ⟨st, s0, s1, s2⟩ := runs_states _ _ _ _ hr
  refine FnOk.intro dAggregated nAggregated rfl fun A L ad cd h₀ ok fn => ?_
  refine Exs.cons ?_
  repeat tb_rel
  refine Ex.forList (by assumption) (by assumption) (by exact Or.inl rfl) rfl (fun _ i => [(Str.ofString "bits", .dat (.int 4)), (Str.ofString "found", .own (pDs (st i)))]) ?_
  repeat tb_rel
  refine ⟨_, okUncovered hu, _, rfl, ?_, fun i d hd => ?_, ?_⟩
  · rw [s0]; repeat (first | exact Sub.nil | refine Sub.cons rfl ?_)
  · obtain ⟨p, hp, rfl⟩ : ∃ p, us[i]? = some p ∧ d = pd p := by
      simp only [pDs, List.getElem?_map, Option.map_eq_some_iff] at hd
      obtain ⟨p, h1, h2⟩ := hd; exact ⟨p, h1, h2.symm⟩
    have hs := s2 i p hp
    generalize st i = found at hs ⊢
    generalize st (i + 1) = next at hs ⊢
    unfold aggStep at hs
    split at hs
    · cases hs
    rename_i hlen
    refine Exs.cons (Ex.append (by assumption) rfl rfl rfl rfl ?_)
    repeat tb_rel
    refine ⟨by simp; omega, ?_⟩
    repeat tb_rel
    have ea : pDs found ++ [pd p] = pDs (found ++ [p]) := by simp
    rw [ea]
    refine Ex.whileL (fun a : Nat × List Pr => [(Str.ofString "bits", .dat (.int 4)), (Str.ofString "found", .own (pDs a.2))]) (fun a => a.1) (fun a => aggW a.1 a.2 = some next) (20, found ++ [p]) ?_ hs ?_
    · repeat (first | exact Sub.nil | refine Sub.cons rfl ?_)
    · rintro ⟨k, fo⟩ hk
      have hl60 := aggW_len hk
      dsimp only at hk hl60 ⊢
      cases k with
      | zero => cases hk
      | succ k =>
        unfold aggW at hk
        repeat tb_rel
        rw [show (pDs fo).length = fo.length by simp]
        by_cases h1 : fo.length ≤ 1
        · rw [if_pos h1] at hk
          cases hk
          refine br_f (by omega) ?_
          refine br_4 ?_
          repeat tb_rel
          repeat (first | exact Sub.nil | refine Sub.cons rfl ?_)
        · rw [if_neg h1, if_neg (by omega)] at hk
          refine br_t (by omega) ?_
          split at hk
          · rename_i q p' hq hp'
            split at hk
            · rename_i hq2
              have pl1 := neg_place hq (Nat.le_refl _) (by omega)
              have pl2 := neg_place hp' (by omega) (by omega)
              repeat tb_rel
              refine vi_lst (by simp; omega) pl1.1 pl1.2 ?_
              repeat tb_rel
              refine ⟨pd (parentP q), by rw [← parentD_eq hq2.1]; exact (okParent (by omega) hq2.2).up (by first | decide | omega), ?_⟩
              repeat tb_rel
              refine ⟨_, by have hh := okHalves (g := g) (a := (parentP q).1) (l := (parentP q).2) (by show q.2 - 1 ≤ 4; omega) (by show 0 ≤ q.2 - 1; omega); rw [halvesD_eq (by show q.2 - 1 ≤ 3; omega)] at hh; exact hh.up (by first | decide | omega), ?_⟩
              repeat tb_rel
              refine vi_lst (by simp; omega) pl2.1 pl2.2 ?_
              repeat tb_rel
              refine vi_lst (by simp; omega) pl1.1 pl1.2 ?_
              repeat tb_rel
              refine vc_eqt rfl rfl fun t ht => ?_
              have ht' : t = true ↔ halvesP (parentP q) = (p', q) := by
                rw [ht]
                constructor
                · intro h
                  have h1 := Dat.tuple.inj h
                  simp only [List.cons.injEq, and_true] at h1
                  exact Prod.ext (pd_inj h1.1) (pd_inj h1.2)
                · intro h; rw [h]
              split at hk
              · rename_i hh
                rw [ht'.mpr hh]
                refine br_1 ?_
                repeat tb_rel
                refine br_2 ?_
                repeat tb_rel
                refine vi_lst (by simp; omega) pl1.1 pl1.2 ?_
                repeat tb_rel
                refine ⟨pd (parentP q), by rw [← parentD_eq hq2.1]; exact (okParent (by omega) hq2.2).up (by first | decide | omega), ?_⟩
                repeat tb_rel
                have ec : cut (pDs fo) none (some (((pDs fo).length : Int) - 2)) = pDs (fo.take (fo.length - 2)) := by
                  rw [cut_to (by simp; omega) (by omega)]
                  show _ = (fo.take (fo.length - 2)).map pd
                  rw [List.map_take]
                  congr 1
                  simp; omega
                rw [ec]
                refine ⟨by simp; omega, ?_⟩
                repeat tb_rel
                refine ⟨by simp; omega, ?_⟩
                have ef : pDs (fo.take (fo.length - 2)) ++ [pd (parentP q)] = pDs (fo.take (fo.length - 2) ++ [parentP q]) := by simp
                rw [ef]
                repeat tb_rel
                refine ⟨(k, fo.take (fo.length - 2) ++ [parentP q]), Nat.lt_succ_self _, hk, ?_⟩
                repeat (first | exact Sub.nil | refine Sub.cons rfl ?_)
              · rename_i hh
                have e : t = false := by cases t with
                  | false => rfl
                  | true => exact absurd (ht'.mp rfl) hh
                rw [e]
                cases hk
                refine br_3 ?_
                refine br_4 ?_
                repeat tb_rel
                repeat (first | exact Sub.nil | refine Sub.cons rfl ?_)
            · cases hk
          · cases hk
  · have el : st (pDs us).length = r := by rw [← s1]; simp
    rw [el]
    repeat tb_rel
    rfl
end
noncomputable def minW (whole : Pr) : Nat → List Pr → Pr → Option (List Pr)
  | 0, _, _ => none
  | k + 1, found, part => if part = whole then some found else if 1 ≤ part.2 ∧ part.2 ≤ 4 ∧ found.length < 60 then
      match [(halvesP (parentP part)).1, (halvesP (parentP part)).2].filter (fun x => decide (x ≠ part)) with
      | [] => none
      | x :: _ => minW whole k (found ++ [x]) (parentP part)
    else none
noncomputable def minO (whole part : Pr) : Option (List Pr) := (minW whole 6 [] part).bind sortP
theorem pd_eq_iff {p q : Pr} : pd p = pd q ↔ p = q := ⟨pd_inj, fun h => by rw [h]⟩
section
variable {g : GC}
open Classical in
theorem okMinus {whole part : Pr} {r : List Pr} (hr : minO whole part = some r) : FnOk g (Str.ofString "minus_prefix") 5 [pd whole, pd part, .int 4] (.list (pDs r)) := by
  obtain ⟨fs, hf, hr⟩ := Option.bind_eq_some_iff.mp hr
  refine FnOk.intro dMinus nMinus rfl fun A L ad cd h₀ ok fn => ?_
  refine Exs.cons ?_
  repeat tb_rel
  refine Ex.whileL (fun a : Nat × List Pr × Pr => [(Str.ofString "bits", .dat (.int 4)), (Str.ofString "whole", .dat (pd whole)), (Str.ofString "part", .dat (pd a.2.2)), (Str.ofString "found", .own (pDs a.2.1))]) (fun a => a.1) (fun a => minW whole a.1 a.2.1 a.2.2 = some fs) (6, [], part) ?_ hf ?_
  · repeat (first | exact Sub.nil | refine Sub.cons rfl ?_)
  · rintro ⟨k, found, pt⟩ hk
    dsimp only at hk ⊢
    cases k with
    | zero => cases hk
    | succ k =>
      unfold minW at hk
      repeat tb_rel
      refine vc_net rfl rfl fun t ht => ?_
      have ht' : t = true ↔ pt = whole := ht.trans pd_eq_iff
      by_cases e : pt = whole
      · rw [if_pos e] at hk
        cases hk
        rw [ht'.mpr e]
        refine br_4 ?_
        repeat tb_rel
        refine Ev.sortedP (by assumption) rfl rfl ?_
        refine Ev.own (by assumption) rfl ?_
        exact ⟨_, _, rfl, hr, rfl⟩
      · rw [if_neg e] at hk
        have et : t = false := by cases t with
          | false => rfl
          | true => exact absurd (ht'.mp rfl) e
        rw [et]
        split at hk
        · rename_i hq
          refine br_2 ?_
          repeat tb_rel
          refine ⟨pd (parentP pt), by rw [← parentD_eq hq.1]; exact (okParent (by omega) hq.2.1).up (by first | decide | omega), ?_⟩
          repeat tb_rel
          refine Ex.append (by assumption) rfl rfl rfl rfl ?_
          repeat tb_rel
          refine Ev.comp (cl := [(Str.ofString "part", L + 1)]) (by assumption) [(Str.ofString "part", pd pt)] ?_ rfl (fun d => decide (d ≠ pd pt)) id ?_
          · exact { clos := by rfl, cell := by decide +kernel, kind := rfl, names := by decide +kernel, hx := by rfl, cls := List.forall_mem_singleton.mpr (by rfl), ap := List.pairwise_singleton _ _, nd := by rfl }
          · repeat tb_rel
            refine ⟨_, by have hh := okHalves (g := g) (a := (parentP pt).1) (l := (parentP pt).2) (by show pt.2 - 1 ≤ 4; omega) (by show 0 ≤ pt.2 - 1; omega); rw [halvesD_eq (by show pt.2 - 1 ≤ 3; omega)] at hh; exact hh.up (by first | decide | omega), ?_⟩
            refine ⟨_, .inr rfl, Nat.le_of_ble_eq_true rfl, ⟨List.forall_mem_singleton.mpr (show Str.ofString "part" ≠ Str.ofString "half" by decide +kernel), List.forall_mem_singleton.mpr (by rfl), List.forall_mem_singleton.mpr ⟨by rfl, by rfl, by rfl⟩⟩, ?_, ?_⟩
            · have ef : ([pd (halvesP (parentP pt)).1, pd (halvesP (parentP pt)).2].filter fun d => decide (d ≠ pd pt)) = ([(halvesP (parentP pt)).1, (halvesP (parentP pt)).2].filter fun x => decide (x ≠ pt)).map pd := by
                rw [show [pd (halvesP (parentP pt)).1, pd (halvesP (parentP pt)).2] = [(halvesP (parentP pt)).1, (halvesP (parentP pt)).2].map pd from rfl, List.filter_map]
                congr 1
                refine List.filter_congr fun x _ => ?_
                simp only [Function.comp_apply, decide_eq_decide]
                exact not_congr pd_eq_iff
              rw [ef]
              have hlen : ([(halvesP (parentP pt)).1, (halvesP (parentP pt)).2].filter fun x => decide (x ≠ pt)).length ≤ 2 := List.length_filter_le _ _
              generalize ([(halvesP (parentP pt)).1, (halvesP (parentP pt)).2].filter fun x => decide (x ≠ pt)) = fl at hk hlen ⊢
              cases fl with
              | nil => cases hk
              | cons x fl =>
                dsimp only at hk
                repeat tb_rel
                refine vi_lst (j := 0) (d := pd x) (by simp at hlen ⊢; omega) (by unfold place; rw [if_pos (by decide), if_pos (by simp)]; rfl) (by rfl) ?_
                refine ⟨_, rfl, ?_, ?_⟩
                · simp; omega
                · repeat tb_rel
                  have ea : pDs found ++ [pd x] = pDs (found ++ [x]) := by simp
                  rw [ea]
                  refine ⟨(k, found ++ [x], parentP pt), Nat.lt_succ_self _, hk, ?_⟩
                  repeat (first | exact Sub.nil | refine Sub.cons rfl ?_)
            · intro d hd C okC
              obtain ⟨q, rfl⟩ : ∃ q, d = pd q := by
                rcases List.mem_cons.mp hd with rfl | hd
                · exact ⟨_, rfl⟩
                · exact ⟨_, List.mem_singleton.mp hd⟩
              refine ⟨?_, fun _ => .inl ⟨_, rfl, rfl⟩⟩
              unfold Tests
              repeat tb_rel
              refine vc_net rfl rfl fun t ht => ?_
              by_cases hq : pd q = pd pt
              · rw [ht.mpr hq]; simp [hq]
              · have : t = false := by cases t with
                  | false => rfl
                  | true => exact absurd (ht.mp rfl) hq
                rw [this]; simp [hq]
        · cases hk
end
abbrev iDs (ns : List Int) : List Dat := ns.map Dat.int
noncomputable def codeStep (st : List Pr × Int) (l : Int) : Option (List Pr × Int) :=
  if 1 ≤ l ∧ l ≤ 4 ∧ st.1.length < 60 then some (if st.2 + 2 ^ (4 - l).toNat ≤ 16 then (st.1 ++ [(st.2, l)], st.2 + 2 ^ (4 - l).toNat) else st) else none
noncomputable def codeO (ls : List Int) : Option (List Pr × Int) := runs codeStep ls ([], 0)
noncomputable def restStep2 (word : Pr) (later : List Pr) (p : Pr) : Option (List Pr) :=
  if 60 ≤ later.length then none else (coversC p word).bind fun b => if b = true then (minO p word).bind fun m => if m.length ≤ 60 then some (later ++ m) else none else some (later ++ [p])
noncomputable def restStep (left : List Pr) (word : Pr) : Option (List Pr) := if 60 ≤ left.length then none else runs (restStep2 word) left []
noncomputable def restO (words : List Pr) : Option (List Pr) := if 60 ≤ words.length then none else runs restStep words [(0, 0)]
theorem pDs_at {qs : List Pr} {i : Nat} {d : Dat} (hd : (pDs qs)[i]? = some d) : ∃ p, qs[i]? = some p ∧ d = pd p := by
  simp only [pDs, List.getElem?_map, Option.map_eq_some_iff] at hd
  obtain ⟨p, h1, h2⟩ := hd
  exact ⟨p, h1, h2.symm⟩
theorem iDs_at {qs : List Int} {i : Nat} {d : Dat} (hd : (iDs qs)[i]? = some d) : ∃ p, qs[i]? = some p ∧ d = .int p := by
  simp only [iDs, List.getElem?_map, Option.map_eq_some_iff] at hd
  obtain ⟨p, h1, h2⟩ := hd
  exact ⟨p, h1, h2.symm⟩
section
variable {g : GC}
theorem okCode {lens ls : List Int} {ws : List Pr} {k : Int} (hp : ls.Perm lens) (hs : ls.Pairwise (· ≤ ·)) (h64 : lens.length < 64) (hr : codeO ls = some (ws, k)) : FnOk g (Str.ofString "_law_code") 1 [.list (iDs lens)] (.tuple [.list (pDs ws), .int k]) := by
  obtain ⟨st, s0, s1, s2⟩ := runs_states _ _ _ _ hr
  refine FnOk.intro dCode nCode rfl fun A L ad cd h₀ ok fn => ?_
  refine Exs.cons ?_
  repeat tb_rel
  refine Ex.forList (by assumption) (by assumption) (by exact Or.inl rfl) rfl (fun _ i => [(Str.ofString "at", .dat (.int (st i).2)), (Str.ofString "found", .own (pDs (st i).1))]) ?_
  refine Ev.sortedI (by assumption) rfl rfl ?_
  repeat tb_rel
  refine ⟨h64, fun ns' a1 a2 => ?_⟩
  have en : ns' = ls := List.Perm.eq_of_pairwise (fun a b _ _ h1 h2 => Int.le_antisymm h1 h2) a2 hs (a1.trans hp.symm)
  subst en
  refine ⟨_, rfl, ?_, fun i d hd => ?_, ?_⟩
  · rw [s0]; repeat (first | exact Sub.nil | refine Sub.cons rfl ?_)
  · obtain ⟨l, hl, rfl⟩ := iDs_at hd
    have h := s2 i l hl
    generalize st i = a at h ⊢
    generalize st (i + 1) = b at h ⊢
    obtain ⟨fo, at'⟩ := a
    unfold codeStep at h
    dsimp only at h ⊢
    split at h
    · rename_i hh
      cases h
      repeat tb_rel
      refine vb_pow (by omega) (by omega) (by decide) ?_
      repeat tb_rel
      by_cases e : at' + 2 ^ (4 - l).toNat ≤ 16
      · rw [if_pos e]
        refine br_t' e ?_
        refine Exs.cons (Ex.append (by assumption) rfl rfl rfl rfl ?_)
        repeat tb_rel
        refine ⟨by simp; omega, ?_⟩
        repeat tb_rel
        refine vb_pow (by omega) (by omega) (by decide) ?_
        repeat tb_rel
        have ea : pDs fo ++ [.tuple [.int at', .int l]] = pDs (fo ++ [(at', l)]) := by simp
        rw [ea]
        repeat (first | exact Sub.nil | refine Sub.cons rfl ?_)
      · rw [if_neg e]
        refine br_f' e ?_
        repeat tb_rel
        repeat (first | exact Sub.nil | refine Sub.cons rfl ?_)
    · cases h
  · have el : st (iDs ns').length = (ws, k) := by rw [← s1]; simp
    rw [el]
    repeat tb_rel
    rfl

theorem okRest {ws r : List Pr} (hr : restO ws = some r) : FnOk g (Str.ofString "_law_rest") 6 [.list (pDs ws)] (.list (pDs r)) := by
  unfold restO at hr
  split at hr
  · cases hr
  rename_i hwl
  obtain ⟨st, s0, s1, s2⟩ := runs_states _ _ _ _ hr
  refine FnOk.intro dRest nRest rfl fun A L ad cd h₀ ok fn => ?_
  refine Exs.cons (Ex.assign (by assumption) (by assumption) rfl (by exact Or.inl rfl) ?_)
  repeat tb_rel
  refine Ex.forList (by assumption) (by assumption) (by exact Or.inl rfl) rfl (fun _ i => [(Str.ofString "left", .dat (.list (pDs (st i))))]) ?_
  repeat tb_rel
  refine ⟨?_, fun i d hd => ?_, ?_⟩
  · rw [s0]; repeat (first | exact Sub.nil | refine Sub.cons rfl ?_)
  · obtain ⟨w, hw, rfl⟩ := pDs_at hd
    have h := s2 i w hw
    generalize st i = a at h ⊢
    generalize st (i + 1) = b at h ⊢
    unfold restStep at h
    split at h
    · cases h
    obtain ⟨su, u0, u1, u2⟩ := runs_states _ _ _ _ h
    refine Exs.cons (Ex.assign (by assumption) (by assumption) rfl (by exact Or.inl rfl) ?_)
    repeat tb_rel
    refine Ex.forList (by assumption) (by assumption) (by exact Or.inl rfl) rfl (fun _ j => [(Str.ofString "word", .dat (pd w)), (Str.ofString "later", .dat (.list (pDs (su j))))]) ?_
    repeat tb_rel
    refine ⟨?_, fun j e he => ?_, ?_⟩
    · rw [u0]; repeat (first | exact Sub.nil | refine Sub.cons rfl ?_)
    · obtain ⟨p, hp, rfl⟩ := pDs_at he
      have h := u2 j p hp
      generalize su j = la at h ⊢
      generalize su (j + 1) = lb at h ⊢
      unfold restStep2 at h
      split at h
      · cases h
      rename_i hla
      obtain ⟨bb, hb, hn⟩ := Option.bind_eq_some_iff.mp h
      unfold coversC at hb
      split at hb
      · rename_i hq2
        cases hb
        repeat tb_rel
        refine ⟨_, (okCovers hq2.1 hq2.2).up (by first | decide | omega), ?_⟩
        repeat tb_rel
        cases hc : coversB p.1 p.2 w.1 w.2 with
        | true =>
          rw [hc] at hn
          simp only [if_true] at hn
          obtain ⟨m, hm, hn⟩ := Option.bind_eq_some_iff.mp hn
          split at hn
          · cases hn
            refine br_2 ?_
            repeat tb_rel
            refine ⟨_, okMinus hm, ?_⟩
            refine vb_cat (by simp; omega) ?_
            repeat tb_rel
            have ea : pDs la ++ pDs m = pDs (la ++ m) := by simp
            rw [ea]
            repeat (first | exact Sub.nil | refine Sub.cons rfl ?_)
          · cases hn
        | false =>
          rw [hc] at hn
          simp only [Bool.false_eq_true, if_false] at hn
          cases hn
          refine br_4 ?_
          repeat tb_rel
          refine vb_cat (by simp; omega) ?_
          repeat tb_rel
          have ea : pDs la ++ [pd p] = pDs (la ++ [p]) := by simp
          rw [ea]
          repeat (first | exact Sub.nil | refine Sub.cons rfl ?_)
      · cases hb
    · have el : su (pDs a).length = b := by rw [← u1]; simp
      rw [el]
      repeat tb_rel
      repeat (first | exact Sub.nil | refine Sub.cons rfl ?_)
  · have el : st (pDs ws).length = r := by rw [← s1]; simp
    rw [el]
    repeat tb_rel
    rfl
end
noncomputable def bitsL (w : Pr) : List Int := (List.range w.2.toNat).map fun i : Nat => (w.1.fdiv (2 ^ (3 - (i : Int)).toNat)).fmod 2
noncomputable def num4 (xs : List Int) : Int := ((xs.take 4 ++ [0, 0, 0]).take 4).foldl (fun n b => 2 * n + b) 0
noncomputable def intOf : Dat → Option Int
  | .int a => some a
  | _ => none
noncomputable def tupOf2 : Dat → Option (List Dat)
  | .tuple l => some l
  | _ => none
noncomputable def pairL (l : List Dat) : Option (Dat × Dat) := if l.length = 2 then some (l.headD .none, (l.drop 1).headD .none) else none
noncomputable def foundOf (d : Dat) : Option (Int × Int × Int) :=
  (tupOf2 d).bind fun l => (pairL l).bind fun p => (tupOf2 p.1).bind fun m => (pairL m).bind fun q => (intOf q.1).bind fun a => (intOf q.2).bind fun b => (intOf p.2).map fun w => (a, b, w)
theorem intOf_eq {d : Dat} {a : Int} (h : intOf d = some a) : d = .int a := by
  cases d <;> cases h; rfl
theorem tupOf2_eq {d : Dat} {l : List Dat} (h : tupOf2 d = some l) : d = .tuple l := by
  cases d <;> cases h; rfl
theorem pairL_eq {l : List Dat} {p : Dat × Dat} (h : pairL l = some p) : l = [p.1, p.2] := by
  unfold pairL at h
  split at h
  · rename_i hl
    obtain ⟨a, b, rfl⟩ := len2 hl
    cases h; rfl
  · cases h
theorem foundOf_eq {d : Dat} {a b w : Int} (h : foundOf d = some (a, b, w)) : d = .tuple [.tuple [.int a, .int b], .int w] := by
  unfold foundOf at h
  obtain ⟨l, h1, h⟩ := Option.bind_eq_some_iff.mp h
  obtain ⟨p, h2, h⟩ := Option.bind_eq_some_iff.mp h
  obtain ⟨m, h3, h⟩ := Option.bind_eq_some_iff.mp h
  obtain ⟨q, h4, h⟩ := Option.bind_eq_some_iff.mp h
  obtain ⟨i, h5, h⟩ := Option.bind_eq_some_iff.mp h
  obtain ⟨j, h6, h⟩ := Option.bind_eq_some_iff.mp h
  obtain ⟨k, h7, h⟩ := Option.map_eq_some_iff.mp h
  cases h
  rw [tupOf2_eq h1, pairL_eq h2, tupOf2_eq h3, pairL_eq h4, intOf_eq h5, intOf_eq h6, intOf_eq h7]
noncomputable def readStep (t : T) (bits : List Int) (found : List Int) (p : Nat) : Option (List Int × Nat) :=
  if 0 ≤ num4 (bits.drop p) ∧ num4 (bits.drop p) < 16 ∧ found.length < 60 then
    (foundOf (t.look (num4 (bits.drop p)) .none)).bind fun q => if 1 ≤ q.2.1 ∧ q.2.1 ≤ 4 then some (found ++ [q.2.2], p + q.2.1.toNat) else none
  else none
noncomputable def readW (t : T) (bits : List Int) : Nat → List Int → Nat → Option (List Int)
  | 0, _, _ => none
  | k + 1, found, p => if p < bits.length then (readStep t bits found p).bind fun q => readW t bits k q.1 q.2 else some found
theorem cut_mid {ds : List Dat} {p : Nat} (h : p < ds.length) : cut ds (some (p : Int)) (some ((p : Int) + 4)) = (ds.drop p).take 4 := by
  unfold cut
  simp only [Option.elim_some]
  rw [clip_nat, Nat.min_eq_left (Nat.le_of_lt h), show clipAt ds.length ((p : Int) + 4) = min (p + 4) ds.length from clip_nat (p + 4)]
  rcases Nat.le_total (p + 4) ds.length with hh | hh
  · rw [Nat.min_eq_left hh, Nat.add_sub_cancel_left]
  · rw [Nat.min_eq_right hh, List.take_of_length_le (Nat.le_of_eq List.length_drop), List.take_of_length_le (by rw [List.length_drop]; exact Nat.sub_le_of_le_add (Nat.add_comm p 4 ▸ hh))]
theorem cut_four {ds : List Dat} : cut ds none (some (4 : Int)) = ds.take 4 := by
  unfold cut
  simp only [Option.elim_none, Option.elim_some, List.drop_zero, Nat.sub_zero]
  rw [show clipAt ds.length (4 : Int) = min 4 ds.length from clip_nat 4]
  rcases Nat.le_total 4 ds.length with hh | hh
  · rw [Nat.min_eq_left hh]
  · rw [Nat.min_eq_right hh, List.take_of_length_le (Nat.le_refl _), List.take_of_length_le hh]
section
variable {g : GC}
open Classical in
theorem okBits {w : Pr} (h0 : 0 ≤ w.2) (h4 : w.2 ≤ 4) : FnOk g (Str.ofString "_law_bits") 1 [pd w] (.list (iDs (bitsL w))) := by
  refine FnOk.intro dBits nBits rfl fun A L ad cd h₀ ok fn => ?_
  refine Exs.cons ?_
  repeat tb_rel
  refine Ev.compRange (cl := [(Str.ofString "word", L + 1)]) (by assumption) [(Str.ofString "word", pd w)] ?_ rfl rfl (fun _ => true) (fun d => match d with | .int i => .int ((w.1.fdiv (2 ^ (3 - i).toNat)).fmod 2) | d => d) ?_
  · exact { clos := by rfl, cell := by decide +kernel, kind := rfl, names := by decide +kernel, hx := by rfl, cls := List.forall_mem_singleton.mpr (by rfl), ap := List.pairwise_singleton _ _, nd := by rfl }
  · repeat tb_rel
    refine ⟨w.2.toNat, by rw [Int.toNat_of_nonneg h0], by omega, ⟨List.forall_mem_singleton.mpr (show Str.ofString "word" ≠ Str.ofString "place" by decide +kernel), List.forall_mem_singleton.mpr (by rfl), List.forall_mem_singleton.mpr ⟨by rfl, by rfl, by rfl⟩⟩, ?_, fun i hi C okC => ⟨rfl, fun _ => .inr ?_⟩⟩
    · rw [List.filter_eq_self.mpr (fun _ _ => rfl), List.map_map]; unfold bitsL iDs; rw [List.map_map]; rfl
    · unfold compRho
      have hp := pow_small (l := 3 - (i : Int)) (by omega) (by omega)
      repeat tb_rel
      refine vb_pow (by omega) (by omega) (by decide) ?_
      refine vb_div (by omega) (by omega) ?_
      repeat tb_rel
      refine vb_mod (by decide) ?_
      exact ⟨_, rfl, rfl⟩

theorem okRead {t : T} (ht : t.Ok) {bits out : List Int} (hl : bits.length ≤ 900) {k : Nat} (hr : readW t bits k [] 0 = some out) : FnOk g (Str.ofString "_law_read") 4 [t.toD, .list (iDs bits)] (.list (iDs out)) := by
  refine FnOk.intro dRead nRead rfl fun A L ad cd h₀ ok fn => ?_
  refine Exs.cons ?_
  repeat tb_rel
  refine Ex.whileL (fun a : Nat × List Int × Nat => [(Str.ofString "tree", .dat t.toD), (Str.ofString "bits", .dat (.list (iDs bits))), (Str.ofString "at", .dat (.int a.2.2)), (Str.ofString "found", .own (iDs a.2.1))]) (fun a => a.1) (fun a => readW t bits a.1 a.2.1 a.2.2 = some out) (k, [], 0) ?_ hr ?_
  · repeat (first | exact Sub.nil | refine Sub.cons rfl ?_)
  · rintro ⟨k, found, p⟩ hk
    dsimp only at hk ⊢
    cases k with
    | zero => cases hk
    | succ k =>
      unfold readW at hk
      repeat tb_rel
      refine vbi_len (by simp; omega) ?_
      repeat tb_rel
      rw [show (iDs bits).length = bits.length by simp]
      by_cases e : p < bits.length
      · rw [if_pos e] at hk
        obtain ⟨⟨fo, p'⟩, hs, hk⟩ := Option.bind_eq_some_iff.mp hk
        dsimp only at hk
        refine br_t' (by omega) ?_
        unfold readStep at hs
        split at hs
        · rename_i hh
          obtain ⟨z0, z1, hfl⟩ := hh
          repeat tb_rel
          refine Ex.forList (by assumption) (by assumption) (by exact Or.inl rfl) rfl (fun ds i => [(Str.ofString "tree", .dat t.toD), (Str.ofString "bits", .dat (.list (iDs bits))), (Str.ofString "at", .dat (.int p)), (Str.ofString "found", .own (iDs found)), (Str.ofString "number", .dat (.int ((((((bits.drop p).take 4 ++ [0, 0, 0]).take 4).take i).foldl (fun n b => 2 * n + b) 0) : Int)))]) ?_
          repeat tb_rel
          rw [cut_mid (by simpa using e)]
          refine ⟨by simp; omega, ?_⟩
          repeat tb_rel
          refine vb_cat (by simp; omega) ?_
          repeat tb_rel
          rw [cut_four]
          have ex : ((List.drop p (iDs bits)).take 4 ++ [Dat.int 0, .int 0, .int 0]).take 4 = iDs (((bits.drop p).take 4 ++ [0, 0, 0]).take 4) := by
            simp [iDs, List.map_take, List.map_drop]
          rw [ex]
          refine ⟨by simp; omega, ?_⟩
          repeat tb_rel
          have hnum : num4 (bits.drop p) = ((((bits.drop p).take 4 ++ [0, 0, 0]).take 4).take (iDs (((bits.drop p).take 4 ++ [0, 0, 0]).take 4)).length).foldl (fun n b => 2 * n + b) 0 := by
            unfold num4
            rw [List.length_map, List.take_length]
          generalize (((bits.drop p).take 4 ++ [0, 0, 0]).take 4) = xs at hnum ⊢
          refine ⟨?_, fun i d hd => ?_, ?_⟩
          · repeat (first | exact Sub.nil | refine Sub.cons rfl ?_)
          · obtain ⟨b, hb, rfl⟩ := iDs_at hd
            repeat tb_rel
            have et : (xs.take (i + 1)).foldl (fun n b => 2 * n + b) (0 : Int) = 2 * (xs.take i).foldl (fun n b => 2 * n + b) (0 : Int) + b := by
              rw [List.take_add_one, hb, List.foldl_append]; rfl
            rw [et]
            repeat (first | exact Sub.nil | refine Sub.cons rfl ?_)
          · rw [← hnum]
            repeat tb_rel
            refine ⟨_, (okTreeLook z0 z1 t ht).up (by first | decide | omega), ?_⟩
            obtain ⟨⟨a, l, w⟩, he, hs⟩ := Option.bind_eq_some_iff.mp hs
            rw [foundOf_eq he]
            dsimp only at hs
            split at hs
            · rename_i hl4
              cases hs
              repeat tb_rel
              refine br_4 ?_
              repeat tb_rel
              refine br_f' (by omega) ?_
              repeat (first | tb_rel | tb_start)
              refine Ex.append (by assumption) rfl rfl rfl rfl ?_
              repeat tb_rel
              refine ⟨by simp; omega, ?_⟩
              repeat tb_rel
              have ea : iDs found ++ [Dat.int w] = iDs (found ++ [w]) := by simp
              rw [ea]
              refine ⟨(k, found ++ [w], p + l.toNat), Nat.lt_succ_self _, hk, ?_⟩
              have ep : ((p + l.toNat : Nat) : Int) = p + l := by omega
              dsimp only
              rw [ep]
              repeat (first | exact Sub.nil | refine Sub.cons rfl ?_)
            · cases hs
        · cases hs
      · rw [if_neg e] at hk
        cases hk
        refine br_f' (by omega) ?_
        repeat tb_rel
        rfl
end
theorem dDraw : DefOk iDraw (S2 "pool" "many") where
  mem := List.getElem_mem _
  nd := by rfl
  bind := fun pm cd doc vs h => by obtain ⟨a, b, rfl⟩ := len2 h; rfl
  nodup := by decide +kernel
  kinds := by decide +kernel
  co := by rfl
  gen := by rfl
  kind := by rfl
  dbg := by decide +kernel
  cells := by decide +kernel
theorem nDraw : iDraw.name = Str.ofString "_law_draw" := by rfl
theorem fDraw : IsFn (Str.ofString "_law_draw") := dDraw.isFn nDraw

/-- a place of a list is given a new value: the object behind -/
theorem setItem_at {prog : Program} {w : World} {A : Around} {E : Value → Shared → Prop} {s : Shared} {l : Addr} {items : Array Value} {n : Nat} {k : Int} {t : Tok} {v : Value} {Q : Unit → Shared → Prop} (ho : s.heap.get? l = some (listOf items n)) (h0 : 0 ≤ k) (hj : k < items.size) (hn : items.size ≤ 1000)
    (hQ : ∀ h' m, h'.get? l = some (listOf (items.setIfInBounds k.toNat v) m) → Heap.SameBut l s.heap h' → Q () { s with heap := h' }) : wpAny (model prog w) A (setItem (.ref l) (.int k t) v) Q E s := by
  have hl : s.heap.IsList l items := ⟨_, ho, rfl, n, rfl⟩
  unfold setItem
  try with_reducible refine wpAny_holding ?_
  first | refine wpAny_bind (wpAny_pure ?_) | skip
  refine wpAny_bind (wpAny_sequenceKey hl.typeIs (by decide) ?_)
  refine wpAny_bind (wpAny_callSpecial?_slot (name := Str.ofString "__setitem__") hl.typeIs slot_list_setitem
    (wpAny_call_entry slot_list_setitem hl.typeIs entry_list_setitem ?_ (args_list_setitem _ _ _)))
  show wpAny _ _ (Builtin.List.listSubscript? (.int k t) >>= _) _ _ s
  refine wpAny_bind (wpAny_listSubscript_int (fitsIndex_of h0 (by omega)) ?_)
  obtain ⟨j, rfl⟩ := Int.eq_ofNat_of_zero_le h0
  have hj : j < items.size := by omega
  have hx' : items[j]? = some items[j] := Array.getElem?_eq_getElem hj
  show wpAny _ _ ((seqItemAt l j >>= fun r => pure (r.map (j, ·))) >>= _) _ _ s
  refine wpAny_bind (wpAny_bind (wpAny_seqItemAt ho rfl (wpAny_pure ?_)))
  rw [hx']
  show wpAny _ _ (setSeqItemAt l j v >>= _) _ _ s
  have q := hQ _ _ (get?_update_seq (c := "list") ho (·.setIfInBounds j v)) (Heap.SameBut.update ..)
  refine wpAny_bind (wpAny_setSeqItemAt ho rfl ?_)
  first
    | exact wpAny_bind (wpAny_pure (wpAny_pure ⟨.none, rfl, wpAny_pure q⟩))
    | exact wpAny_pure ⟨.none, rfl, wpAny_pure q⟩

noncomputable def drawTab : List Int := [3, 2, 0, 3, 2, 4, 1, 0, 2, 3, 1, 0, 2]
noncomputable def absI (a : Int) : Int := if a < 0 then -a else a
noncomputable def drawI (cells : List Int) (spot many : Int) : Int := if spot < cells.length then (absI (cells.getD spot.toNat 0)).fmod many else (drawTab.getD (spot.fmod 13).toNat 0).fmod many

theorem place_in {k : Int} {n : Nat} (h0 : 0 ≤ k) (h1 : k < n) : place k n = some k.toNat := by
  unfold place; rw [if_pos h0, if_pos h1]
noncomputable def DrawPost (s : Shared) (Z : Zs) (a : Addr) (cells : List Int) (spot many : Int) (r : Value) (s' : Shared) : Prop :=
  ∃ h' tk' Z' u0 t' m' t'', s' = { s with heap := h', toks := tk' } ∧ (∀ b o, b ≠ a → s.heap.get? b = some o → h'.get? b = some o) ∧ (∀ b o, Z b o → Z' b o) ∧ (∀ b o, Z' b o → h'.get? b = some o ∧ (Z b o ∨ s.heap.get? b = none)) ∧
    h'.get? a = some (listOf [u0, .int (spot + 1) t'].toArray m') ∧ Rd Z' u0 (.list (iDs cells)) ∧ r = .int (drawI cells spot many) t''
theorem drawTab_at {j : Nat} (h : j < 13) : ([.int 3, .int 2, .int 0, .int 3, .int 2, .int 4, .int 1, .int 0, .int 2, .int 3, .int 1, .int 0, .int 2] : List Dat)[j]? = some (.int (drawTab.getD j 0)) := by
  have : ([.int 3, .int 2, .int 0, .int 3, .int 2, .int 4, .int 1, .int 0, .int 2, .int 3, .int 1, .int 0, .int 2] : List Dat) = drawTab.map Dat.int := rfl
  rw [this, List.getElem?_map]
  have hl : j < drawTab.length := h
  simp [hl]
theorem draw_ok {g : GC} {A : Around} {s : Shared} {Z : Zs} {h₀ : Heap} {a fa : Addr} {v0 : Value} {spot many : Int} {t u : Tok} {m : Nat} {cells : List Int} (room : Room A 1) (go : g.Ok) (G0 : g.Glob h₀)
    (hk : ∀ b o, h₀.get? b = some o → s.heap.get? b = some o) (hsz : h₀.objs.size ≤ s.heap.objs.size) (ha0 : h₀.get? a = none) (hz : ∀ b o, Z b o → s.heap.get? b = some o) (hza : ∀ o, ¬ Z a o)
    (ha : s.heap.get? a = some (listOf #[v0, .int spot t] m)) (rv : Rd Z v0 (.list (iDs cells))) (hc : cells.length ≤ 1000) (h0 : 0 ≤ spot) (hm : 0 < many) (hf : g.mg (Str.ofString "_law_draw") = some (.ref fa)) :
    wpAny (model g.prog g.w) A (call (.ref fa) [.ref a, .int many u]) (DrawPost s Z a cells spot many) (fun _ _ => False) s := by
  have G := G0.keeps hk
  obtain ⟨fa', c', o, pm, doc, _, _, h3, h4, h5, h6⟩ := (G.made iDraw (go.fn iDraw dDraw.mem)).plain dDraw.nd
  have e : fa' = fa := by rw [nDraw, hf] at h3; cases h3; rfl
  rw [e] at h4
  refine wpAny_call ?_
  refine call_cells_ret (by have := room.2.1; omega) h4 h5 G.nolimit h6 (dDraw.bind _ _ _ [.ref a, .int many u] rfl) ?_ (fun h₁ tk F X => ?_) dDraw.co dDraw.gen dDraw.kind
  · intro x hx
    rcases List.mem_cons.mp hx with rfl | hx
    · exact .inl (by rfl)
    · rw [List.mem_singleton.mp hx]; exact .inl (by rfl)
  generalize hA : A.deeper (envOfC iDraw.name iDraw.scope s.heap.objs.size fa (.ref c')) = A'
  have room' : Room A' 0 := hA ▸ room.deeper _
  have ok : (frameOf g iDraw A' s.heap.objs.size fa (.ref c') h₀).Ok 0 := ⟨dDraw.kind, rfl, rfl, G0, go, room', X.apart, dDraw.dbg⟩
  have fn : (frameOf g iDraw A' s.heap.objs.size fa (.ref c') h₀).Fn :=
    ⟨fun n b hb => Heap.get?_none_of_le (Nat.le_trans hsz (Nat.le_of_lt (X.above n b hb))), fun x hx => Option.isSome_iff_exists.mp (cells_has _ _ _ _ (.inl hx))⟩
  have halt : a < s.heap.objs.size := Heap.lt_size ha
  have S : St (frameOf g iDraw A' s.heap.objs.size fa (.ref c') h₀) Z (fun y => if y = Str.ofString "pool" then some a else none) [(Str.ofString "pool", .own [.list (iDs cells), .int spot]), (Str.ofString "many", .dat (.int many))] h₁ := by
    refine ⟨⟨_, _, ⟨F.ns, fun b o q => F.keep b o (hk b o q), Nat.le_trans hsz F.above⟩, X.cell, fun x r hx => ?_⟩, fun b o q => F.keep b o (hz b o q), fun b o q => ?_, fun x b q => ?_, fun x y b q1 q2 => ?_, fun n b hb => ?_⟩
    · by_cases e1 : x = Str.ofString "pool"
      · subst e1
        cases hx
        exact ⟨.ref a, .inl ⟨by rfl, by rfl⟩, a, [v0, .int spot t], m, by simp, rfl, F.keep _ _ ha, .cons rv (.cons (.int _ _) .nil)⟩
      · rw [List.lookup_cons, beq_eq_false_iff_ne.mpr e1] at hx
        by_cases e2 : x = Str.ofString "many"
        · subst e2
          cases hx
          exact ⟨.int many u, .inl ⟨by rfl, by rfl⟩, .int _ _⟩
        · rw [List.lookup_cons, beq_eq_false_iff_ne.mpr e2] at hx
          cases hx
    · have hlt : b < s.heap.objs.size := Heap.lt_size (hz b o q)
      rintro (w | ⟨n, w⟩ | ⟨x, w⟩)
      · exact absurd w (Nat.ne_of_lt hlt)
      · exact absurd (X.above n b w) (Nat.not_lt.mpr (Nat.le_of_lt hlt))
      · dsimp only at w
        split at w
        · cases w; exact hza o q
        · cases w
    · (try dsimp only at q)
      split at q
      · cases q
        exact ⟨Nat.ne_of_lt halt, fun n w => absurd (X.above n _ w) (Nat.not_lt.mpr (Nat.le_of_lt halt)), ha0, by rw [F.keep _ _ ha]; exact Option.some_ne_none _⟩
      · cases q
    · (try dsimp only at q1 q2)
      split at q1
      · split at q2
        · rename_i w1 w2; rw [w1, w2]
        · cases q2
      · cases q1
    · have hnd : ((cellsFrom (s.heap.objs.size + 1) iDraw.scope.names []).map (·.1)).Nodup := cellsFrom_names iDraw.scope.names 0 (s.heap.objs.size + 1) [] [] rfl ▸ dDraw.cells
      exact ⟨Nat.ne_of_gt (X.above n b hb), Cell.some (X.cell n b (lookup_of_mem_nodup hnd hb))⟩
  have key : WP (frameOf g iDraw A' s.heap.objs.size fa (.ref c') h₀) (execs iDraw.body (frameOf g iDraw A' s.heap.objs.size fa (.ref c') h₀).env) (fun f s' => ∃ v, f = .ret v ∧ DrawPost s Z a cells spot many v s') { s with heap := h₁, toks := tk } := by
    have E1 := (Ev.itemOwn (K := fun d ρ' => d = .int spot ∧ ρ' = [(Str.ofString "pool", .own [.list (iDs cells), .int spot]), (Str.ofString "many", .dat (.int many))]) (pos := ⟨90, 11, 90, 18⟩) (p := ⟨90, 11, 90, 15⟩) (slice := .Constant (.int 1) 0 ⟨90, 16, 90, 17⟩) ok (x := Str.ofString "pool") (ρ := [(Str.ofString "pool", .own [.list (iDs cells), .int spot]), (Str.ofString "many", .dat (.int many))]) rfl rfl
      (Ev.intC ⟨1, _, rfl, rfl, vi_lst (j := 1) (Nat.le_of_ble_eq_true rfl) rfl rfl ⟨rfl, rfl⟩⟩)) Z _ { s with heap := h₁, toks := tk } S
    refine wpAny_execs_cons (wpAny_Assign_Name (wp_mono E1 ?_) rfl)
    rintro v s1 ⟨d, ρ1, Z1, O1, ⟨rfl, rfl⟩, e1, x1, r1⟩
    refine store_dat ok fn e1.st (Or.inl rfl) r1 fun s2 e2 => ?_
    have E2 : Ev (frameOf g iDraw A' s.heap.objs.size fa (.ref c') h₀) (upd [(Str.ofString "pool", .own [.list (iDs cells), .int spot]), (Str.ofString "many", .dat (.int many))] (Str.ofString "spot") (.dat (.int spot))) (.BinOp (.Name (Str.ofString "spot") ⟨91, 14, 91, 18⟩) .Add (.Constant (.int 1) 0 ⟨91, 21, 91, 22⟩) ⟨91, 14, 91, 22⟩)
        (fun d ρ' => d = .int (spot + 1) ∧ ρ' = upd [(Str.ofString "pool", .own [.list (iDs cells), .int spot]), (Str.ofString "many", .dat (.int many))] (Str.ofString "spot") (.dat (.int spot))) := by
      repeat tb_rel
      exact ⟨rfl, rfl⟩
    refine wpAny_execs_cons (wpAny_Assign_Subscript (wp_mono (E2 Z1 O1 s2 e2.st) ?_) rfl)
    rintro v s3 ⟨d, ρ3, Z3, O3, ⟨rfl, rfl⟩, e3, x3, r3⟩
    obtain ⟨t3, rfl⟩ := r3.int_inv
    refine name_read ok e3.st (x := Str.ofString "pool") (r := .own [.list (iDs cells), .int spot]) rfl ?_
    rintro va ⟨a', vs, k, q1, rfl, hg, rr⟩
    have q0 := x1.sub _ _ (x3.sub _ _ q1)
    have ea : a' = a := by simpa using q0.symm
    subst ea
    obtain ⟨u0, ws, rfl, ru, rr⟩ := rr.cons_inv
    obtain ⟨u1, ws, rfl, ru1, rr⟩ := rr.cons_inv
    obtain rfl := rr.nil_inv
    refine wpAny_Constant_int (setItem_at hg (by decide) (show (1 : Int) < ((2 : Nat) : Int) by decide) (show 2 ≤ 1000 by decide) fun h5 m5 g5 hs5 => ?_)
    replace g5 : h5.get? a' = some (listOf [u0, .int (spot + 1) t3].toArray m5) := g5
    replace hs5 : Heap.SameBut a' s3.heap h5 := hs5
    have S3 := e3.st
    obtain ⟨m3, cm3, F3, C3, V3⟩ := S3.fr
    obtain ⟨n1, n2, n3, n4⟩ := S3.oav _ _ q1
    have S5 : St (frameOf g iDraw A' s.heap.objs.size fa (.ref c') h₀) (Z3.put a' (listOf [u0, .int (spot + 1) t3].toArray m5)) (fun _ => none) [(Str.ofString "pool", .dat (.list [.list (iDs cells), .int (spot + 1)])), (Str.ofString "many", .dat (.int many)), (Str.ofString "spot", .dat (.int spot))] h5 := by
      refine St.turn (b := a') (m' := m3) (cm' := cm3) S3 hs5 ⟨F3.ns.sameBut hs5 (Ne.symm n1), fun b o q => (hs5.2 b (fun z => by rw [z, n3] at q; cases q)).trans (F3.keep b o q), F3.above⟩ (fun y b q => (C3 y b q).sameBut hs5 (fun z => n2 y (z ▸ mem_of_lookup q))) ?_ ?_ ?_ (fun _ _ q => by cases q) (fun _ _ _ q => by cases q) (by rw [g5]; exact Option.some_ne_none _)
      · intro x r hx
        have ext : ∀ b o, Z3 b o → (Z3.put a' (listOf [u0, .int (spot + 1) t3].toArray m5)) b o := fun _ _ q => .inl q
        by_cases w1 : x = Str.ofString "pool"
        · subst w1
          cases hx
          obtain ⟨w, hw, a2, _, _, q2, rfl, _⟩ := V3 (Str.ofString "pool") (.own [.list (iDs cells), .int spot]) rfl
          have : a2 = a' := by rw [q1] at q2; exact (Option.some.inj q2).symm
          subst this
          exact ⟨_, hw, Rd.lst (.inr ⟨rfl, rfl⟩) (.cons (ru.mono ext) (.cons (.int _ _) .nil))⟩
        · rw [List.lookup_cons, beq_eq_false_iff_ne.mpr w1] at hx
          by_cases w2 : x = Str.ofString "many"
          · subst w2
            cases hx
            obtain ⟨w, hw, hr⟩ := V3 (Str.ofString "many") (.dat (.int many)) rfl
            exact ⟨w, hw, Rd.mono hr ext⟩
          · rw [List.lookup_cons, beq_eq_false_iff_ne.mpr w2] at hx
            by_cases w3 : x = Str.ofString "spot"
            · subst w3
              cases hx
              obtain ⟨w, hw, hr⟩ := V3 (Str.ofString "spot") (.dat (.int spot)) rfl
              exact ⟨w, hw, Rd.mono hr ext⟩
            · rw [List.lookup_cons, beq_eq_false_iff_ne.mpr w3] at hx
              cases hx
      · rintro b o (q | ⟨rfl, rfl⟩)
        · exact (hs5.2 b (fun z => S3.zav b o q (.inr (.inr ⟨_, z ▸ q1⟩)))).trans (S3.zin b o q)
        · exact g5
      · rintro b o (q | ⟨rfl, rfl⟩)
        · rintro (w | ⟨n, w⟩ | ⟨x, w⟩)
          · exact S3.zav b o q (.inl w)
          · exact S3.zav b o q (.inr (.inl ⟨n, w⟩))
          · cases w
        · rintro (w | ⟨n, w⟩ | ⟨x, w⟩)
          · exact n1 w
          · exact n2 n w
          · cases w
    have e5 : Ends (frameOf g iDraw A' s.heap.objs.size fa (.ref c') h₀) Z3 O3 s3 (Z3.put a' (listOf [u0, .int (spot + 1) t3].toArray m5)) (fun _ => none) [(Str.ofString "pool", .dat (.list [.list (iDs cells), .int (spot + 1)])), (Str.ofString "many", .dat (.int many)), (Str.ofString "spot", .dat (.int spot))] { s3 with heap := h5, toks := s3.toks + 1 } := by
      refine ⟨h5, _, rfl, S5, ⟨fun _ _ q => .inl q, ?_, fun b o q hb => (hs5.2 b (fun z => hb (.inr (.inr ⟨_, z ▸ q1⟩)))).trans q, fun _ _ q => by cases q⟩⟩
      rintro b o (q | ⟨rfl, rfl⟩)
      · exact .inl q
      · exact .inr (.inr ⟨_, q1⟩)
    have E5 : Exs (frameOf g iDraw A' s.heap.objs.size fa (.ref c') h₀) [(Str.ofString "pool", .dat (.list [.list (iDs cells), .int (spot + 1)])), (Str.ofString "many", .dat (.int many)), (Str.ofString "spot", .dat (.int spot))] (iDraw.body.drop 2) (fun _ => False) (fun d => d = .int (drawI cells spot many)) := by
      refine Exs.cons ?_
      repeat tb_rel
      refine vbi_len (by simp; omega) ?_
      repeat tb_rel
      rw [show (iDs cells).length = cells.length by simp]
      unfold drawI
      by_cases hlt : spot < cells.length
      · rw [if_pos hlt]
        refine br_t' hlt ?_
        repeat tb_rel
        have hi : (iDs cells)[spot.toNat]? = some (.int (cells.getD spot.toNat 0)) := by
          have : spot.toNat < cells.length := by omega
          simp [iDs, this]
        refine vi_lst (by simp; omega) (by unfold place; rw [if_pos h0, if_pos (by simpa using hlt)]) hi ?_
        repeat tb_rel
        refine vb_mod (by omega) ?_
        repeat tb_rel
        rfl
      · rw [if_neg hlt]
        refine br_f' hlt ?_
        repeat tb_rel
        refine vb_mod (by decide) ?_
        repeat tb_rel
        have hm13 : 0 ≤ spot.fmod 13 ∧ spot.fmod 13 < 13 := by
          rw [Int.fmod_eq_emod_of_nonneg _ (by decide)]; omega
        refine vi_tup (Nat.le_of_ble_eq_true rfl) (place_in hm13.1 (show spot.fmod 13 < ((13 : Nat) : Int) from hm13.2)) (drawTab_at (by omega)) ?_
        repeat tb_rel
        refine vb_mod (by omega) ?_
        repeat tb_rel
        rfl
    have key2 := E5 _ _ _ e5.st
    refine wp_mono key2 ?_
    intro f s6 q
    cases f with
    | next => obtain ⟨_, _, _, q, _⟩ := q; exact q.elim
    | brk => exact q.elim
    | cont => exact q.elim
    | ret v =>
      obtain ⟨d, ρ6, Z6, O6, rfl, e6, r6⟩ := q
      obtain ⟨t6, rfl⟩ := r6.int_inv
      refine ⟨_, rfl, ?_⟩
      have e13 := e1.trans (e2.trans e3)
      have eall := e13.trans (e5.trans e6)
      obtain ⟨h', tk', rfl, S6, P6⟩ := eall
      refine ⟨h', tk', Z3, u0, t3, m5, t6, rfl, fun b o hb q => ?_, e13.z, fun b o q => ⟨?_, ?_⟩, ?_, ru, rfl⟩
      · have hlt : b < s.heap.objs.size := Heap.lt_size q
        refine P6.keep b o (F.keep b o q) ?_
        rintro (w | ⟨n, w⟩ | ⟨x, w⟩)
        · exact absurd w (Nat.ne_of_lt hlt)
        · exact absurd (X.above n b w) (Nat.not_lt.mpr (Nat.le_of_lt hlt))
        · dsimp only at w
          split at w
          · cases w; exact hb rfl
          · cases w
      · exact S6.zin b o (e6.z b o (.inl q))
      · rcases e13.stp.zn b o q with w | w | ⟨x, w⟩
        · exact .inl w
        · right
          cases hq : s.heap.get? b with
          | none => rfl
          | some o2 =>
            have w' : h₁.get? b = none := w
            rw [F.keep b o2 hq] at w'; cases w'
        · (try dsimp only at w)
          split at w
          · cases w; exact absurd (.inr (.inr ⟨_, q1⟩)) (S3.zav _ o q)
          · cases w
      · exact S6.zin a' _ (e6.z _ _ (.inr ⟨rfl, rfl⟩))
  refine wpAny_mono key ?_ fun _ _ x => x
  rintro f s' ⟨v, rfl, hd⟩
  exact hd
section
variable {c : Cx} {n : Nat} {Z Z1 : Zs} {O O1 : Str → Option Addr} {ρ ρ' : Rho} {s s1 s0 : Shared} {K : Dat → Rho → Prop} {R : Dat → Prop} {KS : Rho → Prop}
theorem Ev.draw (ok : c.Ok (n + 1)) {x : Str} {p q pos : Pos} {e : Expr} {cells : List Int} {spot : Int} (hk : c.env.kindOf (Str.ofString "_law_draw") = some .globalImplicit) (hp : plainE e = true) (hx : ρ.lookup x = some (.own [.list (iDs cells), .int spot])) (hc : cells.length ≤ 1000) (h0 : 0 ≤ spot)
    (h : Ev c ρ e fun b ρ1 => ∃ many, b = .int many ∧ 0 < many ∧ ρ1.lookup x = some (.own [.list (iDs cells), .int spot]) ∧ K (.int (drawI cells spot many)) (upd ρ1 x (.own [.list (iDs cells), .int (spot + 1)]))) :
    Ev c ρ (.Call (.Name (Str.ofString "_law_draw") p) [.Name x q, e] [] pos) K := by
  intro Z O s S
  refine Call_Name rfl (fn_read (f := iDraw) ok S hk dDraw.mem dDraw.nd ?_)
  intro fa c' o pm doc hm ho hd
  refine callWith_def hd (args_cons (name_read ok S hx ?_) rfl) rfl
  rintro va ⟨a, vs0, m0, ha, rfl, _, _⟩
  refine args_cons (wp_mono (h Z O s S) ?_) (plain_star hp)
  rintro vb s1 ⟨b, ρ1, Z1, O1, ⟨many, rfl, hm0, hx1, k1⟩, e1, o1, r1⟩
  obtain ⟨u, rfl⟩ := r1.int_inv
  have S1 := e1.st
  obtain ⟨m1, cm1, F1, C1, V1⟩ := S1.fr
  obtain ⟨w, hw, a', vs, m', ha', rfl, hg, rx⟩ := V1 x _ hx1
  have haa : a' = a := Option.some.inj ((o1.sub _ _ ha').symm.trans ha)
  subst haa
  obtain ⟨v0, ws, rfl, rv, rx⟩ := rx.cons_inv
  obtain ⟨v1, ws, rfl, rv1, rx⟩ := rx.cons_inv
  obtain rfl := rx.nil_inv
  obtain ⟨t, rfl⟩ := rv1.int_inv
  obtain ⟨n1, n2, n3, n4⟩ := S1.oav _ _ ha'
  obtain ⟨fa2, _, o0, _, _, _, _, h3', h4', _, _⟩ := (ok.G.made iDraw (ok.go.fn iDraw dDraw.mem)).plain dDraw.nd
  have e2 : fa2 = fa := by rw [hm] at h3'; cases h3'; rfl
  rw [e2] at h4'
  obtain ⟨m2, cm2, F0, _⟩ := S.fr
  have ho1 : s1.heap.get? fa = some o := by
    rw [F1.keep _ _ h4', ← F0.keep _ _ h4', ho]
  refine args_nil ⟨ho1, wpAny_mono (draw_ok (ok.room.down (Nat.le_add_left 1 n)) ok.go ok.G F1.keep (Nat.le_trans F1.above (Nat.le_of_lt F1.ns.lt)) n3 S1.zin (fun o q => S1.zav _ o q (.inr (.inr ⟨_, ha'⟩))) hg rv hc h0 hm0 hm) ?_ fun _ _ x => x⟩
  rintro r s2 ⟨h', tk', Z', u0, t', m3, t'', rfl, kp, z1, z2, ga, ru, rfl⟩
  have live : ∀ b, s1.heap.get? b ≠ none → h'.get? b ≠ none := fun b hb => by
    by_cases hba : b = a'
    · subst hba; rw [ga]; exact Option.some_ne_none _
    · cases hq : s1.heap.get? b with
      | none => exact absurd hq hb
      | some o => rw [kp b o hba hq]; exact Option.some_ne_none _
  have S2 : St c Z' O1 (upd ρ1 x (.own [.list (iDs cells), .int (spot + 1)])) h' := by
    refine ⟨⟨m1, cm1, ⟨F1.ns.at' fun o q => kp _ o (Ne.symm n1) q, fun b o q => kp b o (fun z => by rw [z, n3] at q; cases q) (F1.keep b o q), F1.above⟩, fun y b q => ?_, fun y r q => ?_⟩, fun b o q => (z2 b o q).1, fun b o q => ?_, fun y b q => ?_, S1.oinj, fun y b q => ?_⟩
    · obtain ⟨o, ho, hd⟩ := C1 y b q
      exact ⟨o, kp b o (fun z => n2 y (z ▸ mem_of_lookup q)) ho, hd⟩
    · rw [lookup_upd] at q
      by_cases hy : y = x
      · subst hy
        rw [if_pos rfl] at q; cases q
        exact ⟨_, hw, a', _, _, ha', rfl, ga, .cons ru (.cons (.int _ _) .nil)⟩
      · rw [if_neg hy] at q
        obtain ⟨u, hu, hr⟩ := V1 y r q
        refine ⟨u, hu, ?_⟩
        cases r with
        | dat d => exact Rd.mono hr z1
        | own es =>
          obtain ⟨b, ws, k, q1, q2, q3, q4⟩ := hr
          exact ⟨b, ws, k, q1, q2, kp _ _ (fun z => hy (S1.oinj _ _ _ q1 (z ▸ ha'))) q3, q4.mono z1⟩
    · rcases (z2 b o q).2 with w | w
      · exact S1.zav b o w
      · exact S1.notOwn w
    · obtain ⟨q1, q2, q3, q4⟩ := S1.oav y b q
      exact ⟨q1, q2, q3, live b q4⟩
    · obtain ⟨q1, q2⟩ := S1.call y b q
      exact ⟨q1, live b q2⟩
  refine ⟨_, _, Z', O1, k1, e1.trans ⟨h', tk', rfl, S2, ⟨z1, fun b o q => ?_, fun b o q hb => kp b o (fun z => hb (.inr (.inr ⟨_, z ▸ ha'⟩))) q, fun y b q => .inl ⟨y, q⟩⟩⟩, o1.trans ⟨fun _ _ q => q, fun b o q hb => kp b o (fun z => hb x (z ▸ ha')) q⟩, .int _ _⟩
  rcases (z2 b o q).2 with w | w
  · exact .inl w
  · exact .inr (.inl w)
end
noncomputable def T.okB : T → Bool
  | .nil => true
  | .node a l _ x y => decide (0 ≤ a ∧ a < 16 ∧ 0 ≤ l ∧ l ≤ 4) && x.okB && y.okB
theorem T.ok_of : ∀ {t : T}, t.okB = true → t.Ok
  | .nil, _ => trivial
  | .node a l w x y, h => by
    simp only [T.okB, Bool.and_eq_true, decide_eq_true_eq] at h
    exact ⟨h.1.1.1, h.1.1.2.1, h.1.1.2.2.1, h.1.1.2.2.2, T.ok_of h.1.2, T.ok_of h.2⟩
noncomputable def T.same : T → T → Bool
  | .nil, .nil => true
  | .node a l w x y, .node a' l' w' x' y' => decide (a = a' ∧ l = l' ∧ w = w') && x.same x' && y.same y'
  | _, _ => false
theorem T.same_eq : ∀ {t u : T}, t.same u = true → t = u
  | .nil, .nil, _ => rfl
  | .nil, .node .., h => by cases h
  | .node .., .nil, h => by cases h
  | .node a l w x y, .node a' l' w' x' y', h => by
    simp only [T.same, Bool.and_eq_true, decide_eq_true_eq] at h
    obtain ⟨⟨⟨rfl, rfl, rfl⟩, h1⟩, h2⟩ := h
    rw [T.same_eq h1, T.same_eq h2]
noncomputable def putF (t : T) (p : Pr × Nat) : Option T := if t.okB = true ∧ t.deep ≤ 8 ∧ 0 ≤ p.1.1 ∧ p.1.1 < 16 ∧ 0 ≤ p.1.2 ∧ p.1.2 ≤ 4 then some (t.put p.1.1 p.1.2 p.2) else none
noncomputable def isNoneD : Dat → Bool
  | .none => true
  | _ => false
noncomputable def isFoundD (d : Dat) (w : Pr) (i : Int) : Bool := decide (foundOf d = some (w.1, w.2, i))
theorem found_eq {d : Dat} {w : Pr} {i : Int} (h : isFoundD d w i = true) : d = .tuple [pd w, .int i] := foundOf_eq (of_decide_eq_true h)
noncomputable def wordB (w : Pr) : Bool := decide (0 ≤ w.1 ∧ w.1 < 16 ∧ 1 ≤ w.2 ∧ w.2 ≤ 4 ∧ Builtin.bitAnd w.1 (maskI w.2) = w.1 ∧ Builtin.bitOr w.1 (1 * 2 ^ (4 - w.2).toNat - 1) = w.1 + 2 ^ (4 - w.2).toNat - 1)
noncomputable def apartAll : List Pr → Bool
  | [] => true
  | p :: ps => ps.all (fun w => apartB w.1 w.2 p.1 p.2) && apartAll ps
noncomputable def lookB (t : T) (k : Int) (z : Nat) : Bool := isNoneD (t.look z .none) == decide (k ≤ z)
noncomputable def readB (t : T) (w : Pr) (j : Nat) : Bool := (List.range 16).all fun z => !decide (w.1 ≤ z ∧ (z : Int) < w.1 + 2 ^ (4 - w.2).toNat) || isFoundD (t.look z .none) w j
noncomputable def lawChk (ws : List Pr) (k : Int) : Bool :=
  decide (1 ≤ ws.length ∧ ws.length ≤ 6 ∧ 0 ≤ k ∧ k ≤ 16) && ws.all wordB && apartAll ws &&
  (match restO ws with
   | none => false
   | some r => decide (r.length ≤ 20) && (match aggO ws, aggO r, aggO (ws ++ r) with
     | some a1, some a2, some a3 => decide ((a1.length : Int) = onesF k.toNat k ∧ (a2.length : Int) = onesF (16 - k).toNat (16 - k) ∧ a3 = [(0, 0)])
     | _, _, _ => false)) &&
  (match runs putF ws.zipIdx .nil, runs putF ws.zipIdx.reverse .nil with
   | some t, some u => t.okB && decide (t.deep ≤ 5) && t.same u && decide (t.count = 2 * ws.length - 1) && kqdOk 8 t.toD && (List.range 16).all (lookB t k) && ws.zipIdx.all (fun p => readB t p.1 p.2)
   | _, _ => false)
noncomputable def allS : Nat → Int → List (List Int)
  | 0, _ => [[]]
  | n + 1, lo => [] :: ([1, 2, 3, 4].filter fun x => decide (lo ≤ x)).flatMap fun x => (allS n x).map (x :: ·)
noncomputable def listChk (ls : List Int) : Bool := match ls with | [] => true | _ => match codeO ls with | some (ws, k) => lawChk ws k | none => false
noncomputable def bins : Nat → List (List Int)
  | 0 => [[]]
  | n + 1 => [] :: (bins n).flatMap fun r => [0 :: r, 1 :: r]
theorem bins_mem : ∀ (n : Nat) (r : List Int), r.length ≤ n → (∀ b ∈ r, b = 0 ∨ b = 1) → r ∈ bins n
  | 0, [], _, _ => .head _
  | 0, _ :: _, h, _ => by simp at h
  | n + 1, [], _, _ => .head _
  | n + 1, b :: r, h, k => by
    refine .tail _ (List.mem_flatMap.mpr ⟨r, bins_mem n r (by simpa using h) fun c hc => k c (.tail _ hc), ?_⟩)
    rcases k b (.head _) with rfl | rfl <;> simp
noncomputable def numChk : Bool := (List.range 16).all fun a => [1, 2, 3, 4].all fun l : Int => !wordB ((a : Int), l) || (bins 3).all fun r => decide ((a : Int) ≤ num4 (bitsL ((a : Int), l) ++ r) ∧ num4 (bitsL ((a : Int), l) ++ r) < (a : Int) + 2 ^ (4 - l).toNat ∧ num4 (bitsL ((a : Int), l) ++ r) < 16)
theorem numChk_true : numChk = true := by decide +kernel
noncomputable def BitL (r : List Int) : Prop := ∀ b ∈ r, b = 0 ∨ b = 1
theorem bitsL_len (w : Pr) : (bitsL w).length = w.2.toNat := by simp [bitsL]
theorem bitsL_bin (w : Pr) : BitL (bitsL w) := by
  intro b hb
  obtain ⟨i, _, rfl⟩ := List.mem_map.mp hb
  have := Int.fmod_eq_emod_of_nonneg (w.1.fdiv (2 ^ (3 - (i : Int)).toNat)) (b := 2) (by decide)
  omega
theorem num4_cut {xs r : List Int} (h : 1 ≤ xs.length) : num4 (xs ++ r) = num4 (xs ++ r.take 3) := by
  have e : (xs ++ r).take 4 = (xs ++ r.take 3).take 4 := by
    rw [List.take_append, List.take_append, List.take_take, Nat.min_eq_left (by omega)]
  unfold num4
  rw [e]
theorem num_word {w : Pr} (hw : wordB w = true) {r : List Int} (hr : BitL r) : w.1 ≤ num4 (bitsL w ++ r) ∧ num4 (bitsL w ++ r) < w.1 + 2 ^ (4 - w.2).toNat ∧ num4 (bitsL w ++ r) < 16 := by
  have hw' := hw
  unfold wordB at hw'
  simp only [decide_eq_true_eq] at hw'
  rw [num4_cut (by rw [bitsL_len]; omega)]
  have h := numChk_true
  unfold numChk at h
  rw [List.all_eq_true] at h
  have h1 := h w.1.toNat (List.mem_range.mpr (by omega))
  rw [List.all_eq_true] at h1
  have h2 := h1 w.2 (by simp; omega)
  have e1 : ((w.1.toNat : Nat) : Int) = w.1 := Int.toNat_of_nonneg hw'.1
  rw [e1] at h2
  have e2 : ((w.1, w.2) : Pr) = w := rfl
  rw [e2, hw] at h2
  simp only [Bool.not_true, Bool.false_or] at h2
  rw [List.all_eq_true] at h2
  have h3 := h2 (r.take 3) (bins_mem 3 _ (by simp; omega) fun b hb => hr b (List.mem_of_mem_take hb))
  simpa using h3

noncomputable def flat (ws : List Pr) (js : List Int) : List Int := js.flatMap fun j => bitsL (ws.getD j.toNat (0, 0))
theorem flat_bin (ws : List Pr) (js : List Int) : BitL (flat ws js) := by
  intro b hb
  obtain ⟨j, _, h⟩ := List.mem_flatMap.mp hb
  exact bitsL_bin _ b h
theorem read_row {t : T} {ws : List Pr} (hw : ∀ j w, ws[j]? = some w → wordB w = true ∧ readB t w j = true) : ∀ (js : List Int) (found pre : List Int), (∀ j ∈ js, 0 ≤ j ∧ j < ws.length) → found.length + js.length ≤ 50 →
    readW t (pre ++ flat ws js) (js.length + 1) found pre.length = some (found ++ js)
  | [], found, pre, _, _ => by
    unfold readW
    rw [if_neg (by simp [flat])]
    simp
  | j :: js, found, pre, hj, hl => by
    have hj0 := hj j (.head _)
    have hjl : j.toNat < ws.length := by omega
    have hwj := hw j.toNat ws[j.toNat] (List.getElem?_eq_getElem hjl)
    have ew : ws.getD j.toNat (0, 0) = ws[j.toNat] := by simp [hjl]
    have ef : flat ws (j :: js) = bitsL ws[j.toNat] ++ flat ws js := by
      unfold flat; rw [List.flatMap_cons, ew]
    generalize ws[j.toNat] = w at hwj ef
    have hn := num_word hwj.1 (flat_bin ws js)
    have hwb := hwj.1
    unfold wordB at hwb
    simp only [decide_eq_true_eq] at hwb
    have hlen : (bitsL w).length = w.2.toNat := bitsL_len w
    unfold readW
    rw [if_pos (by rw [ef]; simp; omega)]
    have ed : (pre ++ flat ws (j :: js)).drop pre.length = bitsL w ++ flat ws js := by rw [List.drop_left, ef]
    have hs : readStep t (pre ++ flat ws (j :: js)) found pre.length = some (found ++ [j], pre.length + w.2.toNat) := by
      unfold readStep
      rw [ed, if_pos ⟨by omega, hn.2.2, by simp at hl; omega⟩]
      have hr := hwj.2
      unfold readB at hr
      rw [List.all_eq_true] at hr
      have h1 := hr (num4 (bitsL w ++ flat ws js)).toNat (List.mem_range.mpr (by omega))
      have e1 : (((num4 (bitsL w ++ flat ws js)).toNat : Nat) : Int) = num4 (bitsL w ++ flat ws js) := Int.toNat_of_nonneg (by omega)
      rw [e1, decide_eq_true (show w.1 ≤ num4 (bitsL w ++ flat ws js) ∧ num4 (bitsL w ++ flat ws js) < w.1 + 2 ^ (4 - w.2).toNat from ⟨hn.1, hn.2.1⟩)] at h1
      simp only [Bool.not_true, Bool.false_or] at h1
      have e2 : ((j.toNat : Nat) : Int) = j := Int.toNat_of_nonneg hj0.1
      rw [of_decide_eq_true h1, Option.bind_some, if_pos ⟨hwb.2.2.1, hwb.2.2.2.1⟩, e2]
    rw [hs]
    show readW t (pre ++ flat ws (j :: js)) (js.length + 1) (found ++ [j]) (pre.length + w.2.toNat) = _
    have ih := read_row hw js (found ++ [j]) (pre ++ bitsL w) (fun i hi => hj i (.tail _ hi)) (by simp at hl ⊢; omega)
    rw [ef, ← List.append_assoc]
    rw [List.length_append, hlen] at ih
    rw [ih]
    simp
theorem dLaw : DefOk iLaw (S1 "script") where
  mem := List.getElem_mem _
  nd := by rfl
  bind := fun pm cd doc vs h => by obtain ⟨a, rfl⟩ := len1 h; rfl
  nodup := by decide +kernel
  kinds := by decide +kernel
  co := by rfl
  gen := by rfl
  kind := by rfl
  dbg := by decide +kernel
  cells := by decide +kernel
theorem nLaw : iLaw.name = Str.ofString "law" := by rfl
abbrev poolR (cells : List Int) (spot : Int) : RV := .own [.list (iDs cells), .int spot]
theorem ok_iDs (ps : List Int) : ∀ d ∈ iDs ps, kqdOk 7 d = true := fun d h => by
  obtain ⟨p, _, rfl⟩ := List.mem_map.mp h; rfl
theorem ok8_iDs (ps : List Int) : kqdOk 8 (.list (iDs ps)) = true := by simp [kqdOk]
theorem ok8_pDs (ps : List Pr) : kqdOk 8 (.list (pDs ps)) = true := by simp [kqdOk]
theorem drawI_lt {cells : List Int} {spot n : Int} (hn : 0 < n) : 0 ≤ drawI cells spot n ∧ drawI cells spot n < n := by
  unfold drawI
  split
  · rw [Int.fmod_eq_emod_of_nonneg _ (by omega)]; exact ⟨Int.emod_nonneg _ (by omega), Int.emod_lt_of_pos _ hn⟩
  · rw [Int.fmod_eq_emod_of_nonneg _ (by omega)]; exact ⟨Int.emod_nonneg _ (by omega), Int.emod_lt_of_pos _ hn⟩
/-- draws one behind another -/
noncomputable def drawL (cells : List Int) (spot n : Int) (k : Nat) : List Int := (List.range k).map fun j : Nat => drawI cells (spot + j) n
theorem drawL_succ {cells : List Int} {spot n : Int} {k : Nat} : drawL cells spot n (k + 1) = drawL cells spot n k ++ [drawI cells (spot + k) n] := by
  simp [drawL, List.range_succ]
theorem drawL_len {cells : List Int} {spot n : Int} {k : Nat} : (drawL cells spot n k).length = k := by simp [drawL]
theorem drawL_mem {cells : List Int} {spot n : Int} {k : Nat} (hn : 0 < n) : ∀ j ∈ drawL cells spot n k, 0 ≤ j ∧ j < n := by
  intro j hj
  obtain ⟨i, _, rfl⟩ := List.mem_map.mp hj
  exact drawI_lt hn
theorem flat_snoc {ws : List Pr} {js : List Int} {j : Int} : flat ws (js ++ [j]) = flat ws js ++ bitsL (ws.getD j.toNat (0, 0)) := by simp [flat]
theorem flat_len {ws : List Pr} (hw : ∀ w ∈ ws, wordB w = true) : ∀ (js : List Int), (∀ j ∈ js, 0 ≤ j ∧ j < ws.length) → (flat ws js).length ≤ 4 * js.length
  | [], _ => by simp [flat]
  | j :: js, h => by
    have ih := flat_len hw js fun i hi => h i (.tail _ hi)
    have hj := h j (.head _)
    have hjl : j.toNat < ws.length := by omega
    have hm : wordB ws[j.toNat] = true := hw _ (List.getElem_mem hjl)
    unfold wordB at hm
    simp only [decide_eq_true_eq] at hm
    have : (flat ws (j :: js)).length = ws[j.toNat].2.toNat + (flat ws js).length := by
      unfold flat; rw [List.flatMap_cons, List.length_append, bitsL_len]; simp [hjl]
    rw [this]; simp; omega
theorem pDs_get {ws : List Pr} {j : Nat} {w : Pr} (h : ws[j]? = some w) : (pDs ws)[j]? = some (pd w) := by
  rw [List.getElem?_map, h]; rfl
theorem place_last {n : Nat} : place (-1) (n + 1) = some n := by
  unfold place; rw [if_neg (by decide), if_pos (by omega)]; congr 1; omega
section
variable {g : GC} {A : Around} {L a : Addr} {cd : Value} {h₀ : Heap}
theorem law_row (ok : (frameOf g iLaw A L a cd h₀).Ok 20) (fn : (frameOf g iLaw A L a cd h₀).Fn) {cells : List Int} (hc : cells.length ≤ 14) {ws : List Pr} {t : T} (ht : t.Ok) (h1 : 1 ≤ ws.length) (h6 : ws.length ≤ 6)
    (hw : ∀ j w, ws[j]? = some w → wordB w = true ∧ readB t w j = true) {spot : Int} (hs : 0 ≤ spot) {ρ : Rho} (hρ : Sub [(Str.ofString "pool", poolR cells spot), (Str.ofString "words", .dat (.list (pDs ws))), (Str.ofString "tree", .dat t.toD)] ρ) :
    Exs (frameOf g iLaw A L a cd h₀) ρ (iLaw.body.drop 12) (fun _ => False) (fun d => d = .bool true) := by
  refine Exs.weak ?_ hρ
  have hwm : ∀ w ∈ ws, wordB w = true := fun w hm => by
    obtain ⟨j, hj⟩ := List.getElem?_of_mem hm
    exact (hw j w hj).1
  refine Exs.cons ?_
  repeat tb_rel
  refine Ex.forRange (by assumption) (by assumption) (by exact Or.inl rfl) rfl rfl (fun k i => [(Str.ofString "pool", poolR cells (spot + 1 + i)), (Str.ofString "words", .dat (.list (pDs ws))), (Str.ofString "tree", .dat t.toD),
    (Str.ofString "row", .own (iDs (drawL cells (spot + 1) ws.length i))), (Str.ofString "bits", .dat (.list (iDs (flat ws (drawL cells (spot + 1) ws.length i)))))]) ?_
  refine Ev.draw ok (cells := cells) (spot := spot) rfl rfl rfl (by omega) hs ?_
  repeat tb_rel
  have hd := drawI_lt (cells := cells) (spot := spot) (n := 7) (by decide)
  refine ⟨by decide, rfl, (drawI cells spot 7).toNat, by rw [Int.toNat_of_nonneg hd.1], by omega, ?_, fun i hi => ?_, ?_⟩
  · have e0 : spot + 1 + ((0 : Nat) : Int) = spot + 1 := by omega
    rw [e0]
    repeat (first | exact Sub.nil | refine Sub.cons rfl ?_)
  · have hi6 : i < 7 := by omega
    have hdl : (drawL cells (spot + 1) ws.length i).length = i := drawL_len
    have hjs := drawL_mem (cells := cells) (spot := spot + 1) (k := i) (n := ws.length) (by omega)
    have hj := drawI_lt (cells := cells) (spot := spot + 1 + i) (n := ws.length) (by omega)
    rw [drawL_succ, flat_snoc]
    have hfl := flat_len hwm _ hjs
    generalize drawL cells (spot + 1) ws.length i = js at hdl hjs hfl ⊢
    refine Exs.cons (Ex.append (by assumption) rfl rfl rfl rfl ?_)
    refine Ev.draw ok (cells := cells) (spot := spot + 1 + i) rfl rfl rfl (by omega) (by omega) ?_
    repeat tb_rel
    refine vbi_len (by simp; omega) ?_
    repeat tb_rel
    refine ⟨by simp; omega, rfl, _, rfl, by simp; omega, ?_⟩
    rw [show (pDs ws).length = ws.length by simp]
    generalize drawI cells (spot + 1 + i) ws.length = j at hj ⊢
    have ea : iDs js ++ [Dat.int j] = iDs (js ++ [j]) := by simp
    rw [ea]
    repeat tb_rel
    refine vi_lst (j := js.length) (d := .int j) (by simp; omega) (by rw [show (iDs (js ++ [j])).length = js.length + 1 by simp]; exact place_last) (by simp) ?_
    repeat tb_rel
    have hjl : j.toNat < ws.length := by omega
    have hgw : ws[j.toNat]? = some (ws.getD j.toNat (0, 0)) := by simp [hjl]
    refine vi_lst (j := j.toNat) (d := pd (ws.getD j.toNat (0, 0))) (by simp; omega) (place_in hj.1 (by rw [List.length_map]; exact hj.2)) (pDs_get hgw) ?_
    have hwb := (hw _ _ hgw).1
    unfold wordB at hwb
    simp only [decide_eq_true_eq] at hwb
    repeat tb_rel
    refine ⟨_, (okBits (by omega) (by omega)).up (by first | decide | omega), ?_⟩
    refine vb_cat (by rw [List.length_map, List.length_map, bitsL_len]; omega) ?_
    repeat tb_rel
    have e1 : spot + 1 + ((i + 1 : Nat) : Int) = spot + 1 + i + 1 := by omega
    have e2 : iDs (flat ws js) ++ iDs (bitsL (ws.getD j.toNat (0, 0))) = iDs (flat ws js ++ bitsL (ws.getD j.toNat (0, 0))) := by simp
    rw [e1, e2]
    repeat (first | exact Sub.nil | refine Sub.cons rfl ?_)
  · have hdl : (drawL cells (spot + 1) ws.length (drawI cells spot 7).toNat).length = (drawI cells spot 7).toNat := drawL_len
    have hjs := drawL_mem (cells := cells) (spot := spot + 1) (k := (drawI cells spot 7).toNat) (n := ws.length) (by omega)
    have hfl := flat_len hwm _ hjs
    generalize drawL cells (spot + 1) ws.length (drawI cells spot 7).toNat = js at hdl hjs hfl ⊢
    have hrr := read_row hw js [] [] hjs (by simp; omega)
    repeat tb_rel
    refine ⟨_, (okRead (bits := [] ++ flat ws js) ht (show (flat ws js).length ≤ 900 by omega) hrr).up (by first | decide | omega), ?_⟩
    repeat tb_rel
    refine vc_eql (ok8_iDs _) (ok8_iDs _) fun t ht => ?_
    rw [ht.mpr (by simp)]
end
theorem look_shape (z : Int) : ∀ (t : T) (f : Dat), (f = .none ∨ ∃ ds, f = .tuple ds) → t.look z f = .none ∨ ∃ ds, t.look z f = .tuple ds
  | .nil, f, h => h
  | .node a l w x y, f, h => by
    rw [look_node]
    have h' : ∀ w : Option Int, (match w with | none => f | some k => Dat.tuple [pD a l, .int k] : Dat) = Dat.none ∨ ∃ ds : List Dat, (match w with | none => f | some k => Dat.tuple [pD a l, .int k] : Dat) = Dat.tuple ds := fun w => by
      cases w with
      | none => exact h
      | some k => exact .inr ⟨_, rfl⟩
    split
    · split
      · exact h' w
      · split
        · exact look_shape z x _ (h' w)
        · exact look_shape z y _ (h' w)
    · exact h
theorem vc_is_look {t : T} {z : Int} {KB : Bool → Prop} (k : KB (isNoneD (t.look z .none))) : vCmp .Is (t.look z .none) .none KB := by
  rcases look_shape z t .none (.inl rfl) with h | ⟨ds, h⟩
  · rw [h] at k ⊢; exact k
  · rw [h] at k ⊢; exact k
theorem vc_ne_same {t : T} {KB : Bool → Prop} (hk : kqdOk 8 t.toD = true) (k : KB false) : vCmp .NotEq t.toD t.toD KB := by
  have go : ∀ b : Bool, (b = true ↔ t.toD = t.toD) → KB (!b) := fun b hb => by rw [hb.mpr rfl]; exact k
  cases t with
  | nil => exact ⟨hk, hk, go⟩
  | node a l w x y => exact ⟨hk, hk, go⟩
section
variable {g : GC} {A : Around} {L a : Addr} {cd : Value} {h₀ : Heap}
theorem law_tree (ok : (frameOf g iLaw A L a cd h₀).Ok 20) (fn : (frameOf g iLaw A L a cd h₀).Fn) {cells : List Int} (hc : cells.length ≤ 14) {ws : List Pr} {k : Int} {t : T} (ht : t.okB = true) (hd : t.deep ≤ 5) (h1 : 1 ≤ ws.length) (h6 : ws.length ≤ 6)
    (hp : runs putF ws.zipIdx .nil = some t) (hp' : runs putF ws.zipIdx.reverse .nil = some t) (hcount : t.count = 2 * ws.length - 1) (hkq : kqdOk 8 t.toD = true) (hlook : ∀ z, z < 16 → lookB t k z = true)
    (hw : ∀ j w, ws[j]? = some w → wordB w = true ∧ readB t w j = true) {spot : Int} (hs : 0 ≤ spot) {ρ : Rho} (hρ : Sub [(Str.ofString "pool", poolR cells spot), (Str.ofString "words", .dat (.list (pDs ws))), (Str.ofString "many", .dat (.int k))] ρ) :
    Exs (frameOf g iLaw A L a cd h₀) ρ (iLaw.body.drop 8) (fun _ => False) (fun d => d = .bool true) := by
  refine Exs.weak ?_ hρ
  obtain ⟨st, s0, s1, s2⟩ := runs_states _ _ _ _ hp
  obtain ⟨su, u0, u1, u2⟩ := runs_states _ _ _ _ hp'
  refine Exs.cons ?_
  repeat tb_rel
  refine Ex.forEnum (by assumption) (by assumption) (by exact Or.inl rfl) (by exact Or.inr rfl) rfl rfl (fun _ j => [(Str.ofString "pool", poolR cells spot), (Str.ofString "words", .dat (.list (pDs ws))), (Str.ofString "many", .dat (.int k)), (Str.ofString "tree", .dat (st j).toD), (Str.ofString "turned", .dat (su j).toD)]) ?_
  repeat tb_rel
  refine ⟨?_, fun j d hd => ?_, ?_⟩
  · rw [s0, u0]; repeat (first | exact Sub.nil | refine Sub.cons rfl ?_)
  · obtain ⟨w, hwj, rfl⟩ := pDs_at hd
    have hjl : j < ws.length := (List.getElem?_eq_some_iff.mp hwj).1
    have h := s2 j (w, j) (by rw [List.getElem?_zipIdx, hwj]; simp)
    have hwr : ws[ws.length - 1 - j]? = some ws[ws.length - 1 - j] := List.getElem?_eq_getElem (by omega)
    have h' := u2 j (ws[ws.length - 1 - j], ws.length - 1 - j) (by rw [List.getElem?_reverse (by simpa using hjl), List.getElem?_zipIdx, List.length_zipIdx, hwr]; simp)
    generalize ws[ws.length - 1 - j] = w' at hwr h'
    generalize st j = a1 at h ⊢
    generalize st (j + 1) = a2 at h ⊢
    generalize su j = b1 at h' ⊢
    generalize su (j + 1) = b2 at h' ⊢
    unfold putF at h h'
    split at h
    · rename_i c1
      cases h
      split at h'
      · rename_i c2
        cases h'
        repeat tb_rel
        refine ⟨_, (okTreePut c1.2.2.1 c1.2.2.2.1 c1.2.2.2.2.1 c1.2.2.2.2.2 a1 (T.ok_of c1.1)).up (by first | decide | omega), ?_⟩
        repeat tb_rel
        have e1 : place (-1 - (j : Int)) (pDs ws).length = some (ws.length - 1 - j) := by
          rw [List.length_map]; unfold place
          rw [if_neg (by omega), if_pos (by omega)]; congr 1; omega
        refine vi_lst (by simp; omega) e1 (pDs_get hwr) ?_
        repeat tb_rel
        refine vbi_len (by simp; omega) ?_
        repeat tb_rel
        have e2 : ((pDs ws).length : Int) - 1 - j = ((ws.length - 1 - j : Nat) : Int) := by rw [List.length_map]; omega
        rw [e2]
        refine ⟨_, (okTreePut c2.2.2.1 c2.2.2.2.1 c2.2.2.2.2.1 c2.2.2.2.2.2 b1 (T.ok_of c2.1)).up (by first | decide | omega), ?_⟩
        repeat tb_rel
        repeat (first | exact Sub.nil | refine Sub.cons rfl ?_)
      · cases h'
    · cases h
  · have el : (pDs ws).length = ws.zipIdx.length := by simp
    have el' : (pDs ws).length = ws.zipIdx.reverse.length := by simp
    rw [show st (pDs ws).length = t by rw [el, s1], show su (pDs ws).length = t by rw [el', u1]]
    repeat tb_rel
    refine vc_ne_same hkq ?_
    refine br_4 ?_
    repeat tb_rel
    refine ⟨_, (okNodeCount t).up (by first | decide | omega), ?_⟩
    repeat tb_rel
    refine vbi_len (by simp; omega) ?_
    repeat tb_rel
    refine br_nt' (by rw [hcount, List.length_map]) ?_
    repeat (first | tb_rel | tb_start)
    refine Ev.compRange (cl := [(Str.ofString "tree", L + 3), (Str.ofString "many", L + 1)]) (by assumption) [(Str.ofString "many", .int k), (Str.ofString "tree", t.toD)] ?_ rfl rfl (fun _ => false) id ?_
    · exact { clos := by rfl, cell := by decide +kernel, kind := rfl, names := by decide +kernel, hx := by rfl, cls := List.forall_mem_cons.mpr ⟨by rfl, List.forall_mem_singleton.mpr (by rfl)⟩, ap := List.pairwise_cons.mpr ⟨List.forall_mem_singleton.mpr (fun h => absurd (Nat.add_left_cancel h) (by decide)), List.pairwise_singleton _ _⟩, nd := by rfl }
    · repeat tb_rel
      refine ⟨by decide, ⟨List.forall_mem_cons.mpr ⟨show Str.ofString "many" ≠ Str.ofString "number" by decide +kernel, List.forall_mem_singleton.mpr (show Str.ofString "tree" ≠ Str.ofString "number" by decide +kernel)⟩, List.forall_mem_cons.mpr ⟨by rfl, List.forall_mem_singleton.mpr (by rfl)⟩, List.forall_mem_cons.mpr ⟨⟨by rfl, by rfl, by rfl⟩, List.forall_mem_singleton.mpr ⟨by rfl, by rfl, by rfl⟩⟩⟩, ?_, fun i hi C okC => ⟨?_, fun e => by cases e⟩⟩
      · repeat tb_rel
        refine vc_nel (by rfl) (by rfl) fun b hb => ?_
        rw [hb.mpr (by rfl)]
        refine br_4 ?_
        refine Exs.nil ?_
        exact law_row ok fn hc (T.ok_of ht) h1 h6 hw hs (by repeat (first | exact Sub.nil | refine Sub.cons rfl ?_))
      · have hi' : i < 16 := hi
        unfold Tests compRho
        repeat tb_rel
        refine ⟨_, (okTreeLook (z := (i : Int)) (by omega) (by omega) t (T.ok_of ht)).up (by first | decide | omega), ?_⟩
        repeat tb_rel
        refine vc_is_look ?_
        repeat tb_rel
        have h := hlook i hi'
        unfold lookB at h
        simp only [beq_iff_eq] at h
        rw [h]; simp
end
theorem onesF_bound : ∀ (f : Nat) (k : Int), onesF f k ≤ f
  | 0, _ => by simp [onesF]
  | f + 1, k => by
    have ih := onesF_bound f (k.fdiv 2)
    have := Int.fmod_eq_emod_of_nonneg k (b := 2) (by decide)
    unfold onesF
    split
    · push_cast; omega
    · push_cast; omega
theorem apart_take : ∀ {ws : List Pr}, apartAll ws = true → ∀ {j : Nat} {w p : Pr}, ws[j]? = some w → p ∈ ws.take j → apartB w.1 w.2 p.1 p.2 = true
  | [], _, j, w, p, hw, _ => by simp at hw
  | q :: ws, h, 0, w, p, hw, hp => by simp at hp
  | q :: ws, h, j + 1, w, p, hw, hp => by
    simp only [apartAll, Bool.and_eq_true] at h
    have hw' : ws[j]? = some w := by simpa using hw
    rw [List.take_succ_cons] at hp
    rcases List.mem_cons.mp hp with rfl | hp
    · exact List.all_eq_true.mp h.1 w (List.mem_of_getElem? hw')
    · exact apart_take h.2 hw' hp
section
variable {g : GC} {A : Around} {L a : Addr} {cd : Value} {h₀ : Heap}
theorem law_words (ok : (frameOf g iLaw A L a cd h₀).Ok 20) (fn : (frameOf g iLaw A L a cd h₀).Fn) {cells : List Int} (hc : cells.length ≤ 14) {ws r a1 a2 : List Pr} {k : Int} {t : T} (ht : t.okB = true) (hd : t.deep ≤ 5) (h1 : 1 ≤ ws.length) (h6 : ws.length ≤ 6)
    (hk0 : 0 ≤ k) (hk16 : k ≤ 16) (hap : apartAll ws = true) (hr : restO ws = some r) (hr20 : r.length ≤ 20) (ha1 : aggO ws = some a1) (ha1' : (a1.length : Int) = onesF k.toNat k) (ha2 : aggO r = some a2) (ha2' : (a2.length : Int) = onesF (16 - k).toNat (16 - k)) (ha3 : aggO (ws ++ r) = some [(0, 0)])
    (hp : runs putF ws.zipIdx .nil = some t) (hp' : runs putF ws.zipIdx.reverse .nil = some t) (hcount : t.count = 2 * ws.length - 1) (hkq : kqdOk 8 t.toD = true) (hlook : ∀ z, z < 16 → lookB t k z = true)
    (hw : ∀ j w, ws[j]? = some w → wordB w = true ∧ readB t w j = true) {spot : Int} (hs : 0 ≤ spot) {ρ : Rho} (hρ : Sub [(Str.ofString "pool", poolR cells spot), (Str.ofString "words", .dat (.list (pDs ws))), (Str.ofString "many", .dat (.int k))] ρ) :
    Exs (frameOf g iLaw A L a cd h₀) ρ (iLaw.body.drop 4) (fun _ => False) (fun d => d = .bool true) := by
  refine Exs.weak ?_ hρ
  refine Exs.cons ?_
  refine Ex.forEnum (by assumption) (by assumption) (by exact Or.inl rfl) (by exact Or.inr rfl) rfl rfl (fun _ j => [(Str.ofString "pool", poolR cells spot), (Str.ofString "words", .dat (.list (pDs ws))), (Str.ofString "many", .dat (.int k))]) ?_
  repeat tb_rel
  refine ⟨?_, fun j d hd => ?_, ?_⟩
  · repeat (first | exact Sub.nil | refine Sub.cons rfl ?_)
  · obtain ⟨w, hwj, rfl⟩ := pDs_at hd
    have hjl : j < ws.length := (List.getElem?_eq_some_iff.mp hwj).1
    have hwb := (hw _ _ hwj).1
    unfold wordB at hwb
    simp only [decide_eq_true_eq] at hwb
    obtain ⟨b1, b2, b3, b4, b5, b6⟩ := hwb
    refine Exs.cons ?_
    repeat tb_rel
    refine ⟨_, (okFirstLast (by omega) b4).up (by first | decide | omega), ?_⟩
    repeat tb_rel
    refine ⟨_, (okIsPrefix (by omega) b4 b1 b2).up (by first | decide | omega), ?_⟩
    repeat tb_rel
    rw [decide_eq_true b5]
    refine br_4 ?_
    repeat tb_rel
    refine br_nt' rfl ?_
    repeat tb_rel
    refine vb_pow (by omega) (by omega) (by decide) ?_
    repeat tb_rel
    refine br_nt' b6 ?_
    repeat (first | tb_rel | tb_start)
    refine Ev.comp (cl := [(Str.ofString "word", L + 2)]) (by assumption) [(Str.ofString "word", pd w)] ?_ rfl (fun _ => false) id ?_
    · exact { clos := by rfl, cell := by decide +kernel, kind := rfl, names := by decide +kernel, hx := by rfl, cls := List.forall_mem_singleton.mpr (by rfl), ap := List.pairwise_singleton _ _, nd := by rfl }
    · repeat tb_rel
      have ec : cut (pDs ws) none (some (j : Int)) = pDs (ws.take j) := by
        rw [cut_to (by omega) (by rw [List.length_map]; omega)]
        show _ = (ws.take j).map pd
        rw [List.map_take]; rfl
      rw [ec]
      refine ⟨by simp; omega, _, .inl rfl, by rw [List.length_map, List.length_take]; omega, ⟨List.forall_mem_singleton.mpr (show Str.ofString "word" ≠ Str.ofString "other" by decide +kernel), List.forall_mem_singleton.mpr (by rfl), List.forall_mem_singleton.mpr ⟨by rfl, by rfl, by rfl⟩⟩, ?_, fun d hd C okC => ⟨?_, fun e => by cases e⟩⟩
      · rw [show (pDs (ws.take j)).filter (fun _ => false) = [] by simp]
        repeat tb_rel
        refine vc_nel (by rfl) (by rfl) fun b hb => ?_
        rw [hb.mpr (by rfl)]
        refine br_4 ?_
        repeat tb_rel
        repeat (first | exact Sub.nil | refine Sub.cons rfl ?_)
      · obtain ⟨p, hpm, rfl⟩ := List.mem_map.mp hd
        have hpm' := List.mem_of_mem_take hpm
        obtain ⟨i, hi⟩ := List.getElem?_of_mem hpm'
        have hpb := (hw _ _ hi).1
        unfold wordB at hpb
        simp only [decide_eq_true_eq] at hpb
        unfold Tests compRho
        repeat tb_rel
        refine ⟨_, (okApart (by omega) b4 (by omega) hpb.2.2.2.1).up (by first | decide | omega), ?_⟩
        refine ⟨_, rfl, ?_⟩
        rw [apart_take hap hwj hpm]; rfl
  · repeat tb_rel
    refine ⟨_, (okRest hr).up (by first | decide | omega), ?_⟩
    repeat tb_rel
    refine ⟨_, (okAggregated ha1).up (by first | decide | omega), ?_⟩
    have k1 := onesF_bound k.toNat k
    have k2 := onesF_bound (16 - k).toNat (16 - k)
    repeat tb_rel
    refine vbi_len (by rw [List.length_map]; omega) ?_
    repeat tb_rel
    refine ⟨_, (okOnes hk0).up (by first | decide | omega), ?_⟩
    repeat tb_rel
    refine br_nt' (by rw [List.length_map]; exact ha1') ?_
    repeat tb_rel
    refine ⟨_, (okAggregated ha2).up (by first | decide | omega), ?_⟩
    repeat tb_rel
    refine vbi_len (by rw [List.length_map]; omega) ?_
    repeat tb_rel
    refine ⟨_, (okOnes (by omega)).up (by first | decide | omega), ?_⟩
    repeat tb_rel
    refine br_nt' (by rw [List.length_map]; exact ha2') ?_
    repeat tb_rel
    refine br_4 ?_
    repeat tb_rel
    refine vb_cat (by rw [List.length_map, List.length_map]; omega) ?_
    repeat tb_rel
    have e3 : pDs ws ++ pDs r = pDs (ws ++ r) := by simp
    rw [e3]
    refine ⟨_, (okAggregated ha3).up (by first | decide | omega), ?_⟩
    repeat tb_rel
    refine vc_nel (by rfl) (by rfl) fun b hb => ?_
    rw [hb.mpr (by rfl)]
    refine br_4 ?_
    refine Exs.nil ?_
    exact law_tree ok fn hc ht hd h1 h6 hp hp' hcount hkq hlook hw hs (by repeat (first | exact Sub.nil | refine Sub.cons rfl ?_))
end
theorem allS_mem : ∀ (n : Nat) (lo : Int) (ls : List Int), ls.length ≤ n → ls.Pairwise (· ≤ ·) → (∀ x ∈ ls, lo ≤ x ∧ 1 ≤ x ∧ x ≤ 4) → ls ∈ allS n lo
  | 0, lo, [], _, _, _ => .head _
  | 0, lo, _ :: _, h, _, _ => by simp at h
  | n + 1, lo, [], _, _, _ => .head _
  | n + 1, lo, x :: ls, h, hp, hx => by
    have h1 := hx x (.head _)
    rw [List.pairwise_cons] at hp
    refine .tail _ (List.mem_flatMap.mpr ⟨x, List.mem_filter.mpr ⟨?_, decide_eq_true h1.1⟩, List.mem_map.mpr ⟨ls, allS_mem n x ls (by simpa using h) hp.2 fun y hy => ⟨hp.1 y hy, (hx y (.tail _ hy)).2⟩, rfl⟩⟩)
    simp; omega
noncomputable def chunk (i : Nat) : Bool := (((allS 6 1).drop (15 * i)).take 15).all listChk
theorem good0 : chunk 0 = true := by decide +kernel
theorem good1 : chunk 1 = true := by decide +kernel
theorem good2 : chunk 2 = true := by decide +kernel
theorem good3 : chunk 3 = true := by decide +kernel
theorem good4 : chunk 4 = true := by decide +kernel
theorem good5 : chunk 5 = true := by decide +kernel
theorem good6 : chunk 6 = true := by decide +kernel
theorem good7 : chunk 7 = true := by decide +kernel
theorem good8 : chunk 8 = true := by decide +kernel
theorem good9 : chunk 9 = true := by decide +kernel
theorem good10 : chunk 10 = true := by decide +kernel
theorem good11 : chunk 11 = true := by decide +kernel
theorem good12 : chunk 12 = true := by decide +kernel
theorem good13 : chunk 13 = true := by decide +kernel
theorem chunks {p : List Int → Bool} : ∀ (n : Nat) (l : List (List Int)), l.length ≤ 15 * n → (∀ i, i < n → ((l.drop (15 * i)).take 15).all p = true) → l.all p = true
  | 0, l, h, _ => by
    have : l = [] := List.length_eq_zero_iff.mp (by omega)
    rw [this]; rfl
  | n + 1, l, h, k => by
    have h0 := k 0 (Nat.succ_pos n)
    have h1 := chunks n (l.drop 15) (by rw [List.length_drop]; omega) fun i hi => by
      have := k (i + 1) (Nat.succ_lt_succ hi)
      rw [List.drop_drop]
      rw [show 15 + 15 * i = 15 * (i + 1) by omega]
      exact this
    rw [← List.take_append_drop 15 l, List.all_append, h1]
    simpa using h0
theorem allS_len : (allS 6 1).length = 210 := by decide +kernel
theorem below_succ {P : Nat → Prop} {n : Nat} (h : ∀ i, i < n → P i) (k : P n) : ∀ i, i < n + 1 → P i := fun i hi =>
  (Nat.lt_or_eq_of_le (Nat.le_of_lt_succ hi)).elim (h i) fun e => e ▸ k
theorem allGood : (allS 6 1).all listChk = true :=
  chunks 14 _ (Nat.le_of_eq allS_len) (below_succ (below_succ (below_succ (below_succ (below_succ (below_succ (below_succ (below_succ (below_succ (below_succ (below_succ (below_succ (below_succ (below_succ (fun i h => absurd h (Nat.not_lt_zero i)) good0) good1) good2) good3) good4) good5) good6) good7) good8) good9) good10) good11) good12) good13)
section
variable {g : GC} {A : Around} {L a : Addr} {cd : Value} {h₀ : Heap}
theorem law_from (ok : (frameOf g iLaw A L a cd h₀).Ok 20) (fn : (frameOf g iLaw A L a cd h₀).Fn) {cells : List Int} (hc : cells.length ≤ 14) {ws : List Pr} {k : Int} (hchk : lawChk ws k = true) {spot : Int} (hs : 0 ≤ spot) {ρ : Rho}
    (hρ : Sub [(Str.ofString "pool", poolR cells spot), (Str.ofString "words", .dat (.list (pDs ws))), (Str.ofString "many", .dat (.int k))] ρ) :
    Exs (frameOf g iLaw A L a cd h₀) ρ (iLaw.body.drop 4) (fun _ => False) (fun d => d = .bool true) := by
  unfold lawChk at hchk
  simp only [Bool.and_eq_true, decide_eq_true_eq] at hchk
  obtain ⟨⟨⟨⟨⟨h1, h6, hk0, hk16⟩, hwb⟩, hap⟩, hrest⟩, htree⟩ := hchk
  split at hrest
  · cases hrest
  · rename_i r hr
    simp only [Bool.and_eq_true, decide_eq_true_eq] at hrest
    obtain ⟨hr20, hagg⟩ := hrest
    split at hagg
    · rename_i a1 a2 a3 ha1 ha2 ha3
      simp only [decide_eq_true_eq] at hagg
      obtain ⟨q1, q2, rfl⟩ := hagg
      split at htree
      · rename_i t u hp hp'
        simp only [Bool.and_eq_true, decide_eq_true_eq] at htree
        obtain ⟨⟨⟨⟨⟨⟨ht, hd⟩, hsame⟩, hcount⟩, hkq⟩, hlook⟩, hread⟩ := htree
        have := T.same_eq hsame
        subst this
        refine law_words ok fn hc ht hd h1 h6 hk0 hk16 hap hr hr20 ha1 q1 ha2 q2 ha3 hp hp' hcount hkq (fun z hz => List.all_eq_true.mp hlook z (List.mem_range.mpr hz)) (fun j w hj => ⟨List.all_eq_true.mp hwb w (List.mem_of_getElem? hj), ?_⟩) hs hρ
        exact List.all_eq_true.mp hread (w, j) (List.mem_of_getElem? (i := j) (by rw [List.getElem?_zipIdx, hj]; simp))
      · cases htree
    · cases hagg
theorem law_body (ok : (frameOf g iLaw A L a cd h₀).Ok 20) (fn : (frameOf g iLaw A L a cd h₀).Fn) {cells : List Int} (hc : cells.length ≤ 14) :
    Exs (frameOf g iLaw A L a cd h₀) [(Str.ofString "pool", poolR cells 0)] (iLaw.body.drop 1) (fun _ => False) (fun d => d = .bool true) := by
  refine Exs.cons ?_
  repeat tb_rel
  refine Ex.forRange (by assumption) (by assumption) (by exact Or.inl rfl) rfl rfl (fun k i => [(Str.ofString "pool", poolR cells (1 + i)), (Str.ofString "lengths", .own (iDs ((drawL cells 1 4 i).map (1 + ·))))]) ?_
  refine Ev.bin (Ev.intC ?_)
  refine Ev.draw ok (cells := cells) (spot := 0) rfl rfl rfl (by omega) (by decide) ?_
  repeat tb_rel
  have hd := drawI_lt (cells := cells) (spot := 0) (n := 6) (by decide)
  refine ⟨by decide, rfl, vb_add ⟨(1 + drawI cells 0 6).toNat, by rw [Int.toNat_of_nonneg (by omega)], by omega, ?_, fun i hi => ?_, ?_⟩⟩
  · repeat (first | exact Sub.nil | refine Sub.cons rfl ?_)
  · rw [drawL_succ, List.map_append]
    have hdl : (drawL cells 1 4 i).length = i := drawL_len
    generalize drawL cells 1 4 i = js at hdl ⊢
    refine Exs.cons (Ex.append (by assumption) rfl rfl rfl rfl ?_)
    refine Ev.bin (Ev.intC ?_)
    refine Ev.draw ok (cells := cells) (spot := 1 + i) rfl rfl rfl (by omega) (by omega) ?_
    repeat tb_rel
    refine ⟨by decide, rfl, vb_add ⟨_, rfl, by simp; omega, ?_⟩⟩
    repeat tb_rel
    have e1 : 1 + ((i + 1 : Nat) : Int) = 1 + i + 1 := by omega
    have e2 : iDs (js.map (1 + ·)) ++ [Dat.int (1 + drawI cells (1 + i) 4)] = iDs (js.map (1 + ·) ++ [drawI cells (1 + i) 4].map (1 + ·)) := by simp
    rw [e1, ← e2]
    repeat (first | exact Sub.nil | refine Sub.cons rfl ?_)
  · have hdl : (drawL cells 1 4 (1 + drawI cells 0 6).toNat).length = (1 + drawI cells 0 6).toNat := drawL_len
    have hjs := drawL_mem (cells := cells) (spot := 1) (k := (1 + drawI cells 0 6).toNat) (n := 4) (by decide)
    generalize drawL cells 1 4 (1 + drawI cells 0 6).toNat = js at hdl hjs ⊢
    have hperm : ((js.map (1 + ·)).mergeSort fun a b => decide (a ≤ b)).Perm (js.map (1 + ·)) := List.mergeSort_perm _ _
    have hsort : ((js.map (1 + ·)).mergeSort fun a b => decide (a ≤ b)).Pairwise (· ≤ ·) := by
      have := List.pairwise_mergeSort (le := fun a b : Int => decide (a ≤ b)) (fun a b c h1 h2 => by simp at *; omega) (fun a b => by simp; omega) (js.map (1 + ·))
      exact this.imp fun h => by simpa using h
    generalize ((js.map (1 + ·)).mergeSort fun a b => decide (a ≤ b)) = ls at hperm hsort
    have hlen : ls.length = js.length := by rw [hperm.length_eq, List.length_map]
    have hmem : ls ∈ allS 6 1 := allS_mem 6 1 ls (by omega) hsort fun x hx => by
      obtain ⟨y, hy, rfl⟩ := List.mem_map.mp (hperm.mem_iff.mp hx)
      have := hjs y hy
      omega
    have hgood := List.all_eq_true.mp allGood ls hmem
    cases ls with
    | nil => simp at hlen; omega
    | cons x ls =>
      unfold listChk at hgood
      dsimp only at hgood
      split at hgood
      · rename_i ws k hcode
        repeat tb_rel
        refine ⟨_, (okCode hperm hsort (by rw [List.length_map]; omega) hcode).up (by first | decide | omega), ?_⟩
        refine ⟨_, _, rfl, ?_⟩
        refine law_from ok fn hc hgood (spot := 1 + ((1 + drawI cells 0 6).toNat : Int)) (by omega) ?_
        repeat (first | exact Sub.nil | refine Sub.cons rfl ?_)
      · cases hgood
end
section
variable {c : Cx} {n : Nat} {Z Z1 : Zs} {O O1 : Str → Option Addr} {ρ ρ1 : Rho} {s s1 : Shared} {K : Dat → Rho → Prop}
theorem src_list (ok : c.Ok n) {elt : Expr} {x : Str} {ifs : List Expr} {scope : Scope} {cl : List (Str × Addr)} {cap : List (Str × Dat)} {pd : Dat → Bool} {fd : Dat → Dat} {v : Value} {ds : List Dat} (e1 : Ends c Z O s Z1 O1 ρ1 s1) (o1 : Xp O s O1 s1) (r1 : Rd Z1 v (.list ds))
    (hl : ds.length ≤ 1000) (hcap : CapOk c scope cl x ρ1 cap) (hK : K (.list ((ds.filter pd).map fd)) ρ1)
    (hB : ∀ d ∈ ds, ∀ C, (compOf c scope cl C).Ok n → Tests (compOf c scope cl C) (compRho x d cap) ifs (pd d) ∧ (pd d = true → Elem (compOf c scope cl C) (compRho x d cap) x elt d (fd d))) :
    WP c (pyIter v) (fun it s₂ => CompSrc c n Z O s elt x ifs scope cl cap pd fd K it s₂) s1 := by
  obtain ⟨y, vs, m, rfl, hy, ry⟩ := r1.lst_inv
  have hg := e1.st.zin _ _ hy
  have hn := ry.len
  have hlt := Heap.lt_size hg
  refine wpAny_pyIter_list (items := vs.toArray) ⟨_, hg, rfl, m, rfl⟩ ?_
  have W := Walks.list (prog := c.prog) (w := c.w) ok.room.1 s1.heap.objs.size y (Nat.ne_of_lt hlt) vs.toArray
  refine ⟨_, _, _, _, _, _, ρ1, Z1, O1, s1, _, s1.toks, ds, rfl, rfl, W, ⟨⟨_, Heap.get?_push_size _ rfl, rfl, rfl⟩, _, Heap.get?_push_of_some _ hg, rfl, m, rfl⟩, ?_, by rw [List.size_toArray, hn]; exact hl, e1, o1, fun b o => Heap.get?_push_of_some _, by rw [Heap.size_push]; exact Nat.le_succ _, ?_, by rw [List.size_toArray, hn], fun i v hv => ry.at (by simpa using hv), hcap, hK, hB⟩
  · intro b hb
    rw [Heap.size_push]
    rcases List.mem_cons.mp hb with e | hb
    · rw [e]; exact Nat.lt_succ_self _
    · rw [List.mem_singleton.mp hb]; exact Nat.lt_succ_of_lt hlt
  · intro b hb; rw [List.mem_singleton.mp hb]; exact get_fresh _
end
theorem fLaw : IsFn (Str.ofString "law") := dLaw.isFn nLaw

theorem law_call {g : GC} {A : Around} {s : Shared} {w fa : Addr} {vs : List Value} {ns : List Int} (room : Room A 21) (go : g.Ok) (G : g.Glob s.heap) (hL : s.heap.IsList w vs.toArray) (hI : IntsAre vs ns) (h63 : ns.length ≤ 63) (hf : g.mg (Str.ofString "law") = some (.ref fa)) :
    codeAny (model g.prog g.w) A (.call (.ref fa) ⟨[.ref w], []⟩) (fun res s' => res = .ok (.ret (.bool true)) ∧ ∃ h' tk', s' = { s with heap := h', toks := tk' } ∧ ∀ b o, s.heap.get? b = some o → h'.get? b = some o) s := by
  obtain ⟨fa', c', o, pm, doc, _, _, h3, h4, h5, h6⟩ := (G.made iLaw (go.fn iLaw dLaw.mem)).plain dLaw.nd
  have e : fa' = fa := by rw [nLaw, hf] at h3; cases h3; rfl
  rw [e] at h4
  refine call_cells_ret (by have := room.2.1; omega) h4 h5 G.nolimit h6 (dLaw.bind _ _ _ [.ref w] rfl) ?_ (fun h₁ tk F X => ?_) dLaw.co dLaw.gen dLaw.kind
  · intro x hx
    rw [List.mem_singleton.mp hx]; exact .inl (by rfl)
  generalize hA : A.deeper (envOfC iLaw.name iLaw.scope s.heap.objs.size fa (.ref c')) = A'
  have room' : Room A' 20 := hA ▸ room.deeper _
  have hnd : ((cellsFrom (s.heap.objs.size + 1) iLaw.scope.names []).map (·.1)).Nodup := cellsFrom_names iLaw.scope.names 0 (s.heap.objs.size + 1) [] [] rfl ▸ dLaw.cells
  have ok : (frameOf g iLaw A' s.heap.objs.size fa (.ref c') s.heap).Ok 20 := ⟨dLaw.kind, rfl, rfl, G, go, room', X.apart, dLaw.dbg⟩
  have fn : (frameOf g iLaw A' s.heap.objs.size fa (.ref c') s.heap).Fn :=
    ⟨fun n b hb => Heap.get?_none_of_le (Nat.le_of_lt (X.above n b hb)), fun x hx => Option.isSome_iff_exists.mp (cells_has _ _ _ _ (.inl hx))⟩
  have S : St (frameOf g iLaw A' s.heap.objs.size fa (.ref c') s.heap) (fun _ _ => False) (fun _ => none) [] h₁ :=
    ⟨⟨_, _, F, X.cell, fun x r hx => (by cases hx)⟩, fun _ _ q => q.elim, fun _ _ q => q.elim, fun _ _ q => (by cases q), fun _ _ _ q => (by cases q), fun n b hb => ⟨Nat.ne_of_gt (X.above n b hb), Cell.some (X.cell n b (lookup_of_mem_nodup hnd hb))⟩⟩
  have notOwn : ∀ b, b < s.heap.objs.size → ¬ Own (frameOf g iLaw A' s.heap.objs.size fa (.ref c') s.heap) (fun _ => none) b := by
    rintro b hlt (q | ⟨n, q⟩ | ⟨x, q⟩)
    · exact absurd q (Nat.ne_of_lt hlt)
    · exact absurd (X.above n b q) (Nat.not_lt.mpr (Nat.le_of_lt hlt))
    · cases q
  have key : WP (frameOf g iLaw A' s.heap.objs.size fa (.ref c') s.heap) (execs iLaw.body (frameOf g iLaw A' s.heap.objs.size fa (.ref c') s.heap).env) (fun f s' => f = .ret (.bool true) ∧ ∃ h' tk', s' = { s with heap := h', toks := tk' } ∧ ∀ b o, s.heap.get? b = some o → h'.get? b = some o) { s with heap := h₁, toks := tk } := by
    have hcomp : WP (frameOf g iLaw A' s.heap.objs.size fa (.ref c') s.heap) (eval (.ListComp (.Call (.Name (Str.ofString "int") ⟨130, 13, 130, 16⟩) [.Name (Str.ofString "cell") ⟨130, 17, 130, 21⟩] [] ⟨130, 13, 130, 22⟩)
        [⟨.Name (Str.ofString "cell") ⟨130, 27, 130, 31⟩, .Subscript (.Name (Str.ofString "script") ⟨130, 35, 130, 41⟩) (.Slice none (some (.Constant (.int 14) 0 ⟨130, 43, 130, 45⟩)) none ⟨130, 42, 130, 45⟩) ⟨130, 35, 130, 46⟩, [], 0⟩]
        { kind := .function, names := [(Str.ofString ".0", .local), (Str.ofString "cell", .local), (Str.ofString "int", .globalImplicit)], isGenerator := false, isCoroutine := false } ⟨130, 12, 130, 47⟩) (frameOf g iLaw A' s.heap.objs.size fa (.ref c') s.heap).env)
        (EvR (frameOf g iLaw A' s.heap.objs.size fa (.ref c') s.heap) (fun _ _ => False) (fun _ => none) { s with heap := h₁, toks := tk } (fun d ρ' => d = .list (iDs (ns.take 14)) ∧ ρ' = [])) { s with heap := h₁, toks := tk } := by
      refine comp_at (n := 20) (cl := []) (cap := []) ok { clos := by rfl, cell := by decide +kernel, kind := rfl, names := by decide +kernel, hx := by rfl, cls := List.forall_mem_nil _, ap := .nil, nd := by rfl } rfl (fun _ => true) id ?_
      refine Subscript_ (wpAny_Name (wpAny_loadName_local (name := Str.ofString "script") (v := .ref w) ok.kind (by rfl) F.ns (by rfl) ?_) (by rfl))
      have P1 : Part (frameOf g iLaw A' s.heap.objs.size fa (.ref c') s.heap) [] none (fun lo ρ1 => Part (frameOf g iLaw A' s.heap.objs.size fa (.ref c') s.heap) ρ1 (some (.Constant (.int 14) 0 ⟨130, 43, 130, 45⟩)) (fun hi ρ2 => lo = none ∧ hi = some 14 ∧ ρ2 = [])) := by
        repeat tb_rel
        exact ⟨rfl, rfl, rfl⟩
      refine wpAny_Slice (P1.run (s := { s with heap := h₁, toks := tk }) S ?_)
      intro vl lo s2 ρ2 Z2 O2 pl k2 e2 o2
      refine k2.run e2.st ?_
      rintro vu hi s3 ρ3 Z3 O3 pu ⟨rfl, rfl, rfl⟩ e3 o3
      refine wpAny_pure ?_
      have e23 := e2.trans e3
      have hL3 : s3.heap.IsList w vs.toArray := by
        obtain ⟨ol, hol, hr⟩ := hL
        exact ⟨ol, e23.stp.keep _ _ (F.keep _ _ hol) (notOwn _ (Heap.lt_size hol)), hr⟩
      refine list_cutL e3.st hL3 (ints_rd (Z := Z3) hI) (by rw [List.length_map]; omega) pl pu fun v h' Z' ee kk rd => ?_
      have ec : cut (iDs ns) none (some (14 : Int)) = iDs (ns.take 14) := by
        unfold cut
        simp only [Option.elim_none, Option.elim_some, List.drop_zero, Nat.sub_zero]
        have e2 : clipAt (iDs ns).length (14 : Int) = min 14 (iDs ns).length := by unfold clipAt; rw [if_neg (by omega)]; omega
        rw [e2]
        show _ = (ns.take 14).map Dat.int
        rw [List.map_take]
        by_cases hh : 14 ≤ (iDs ns).length
        · rw [Nat.min_eq_left hh]
        · rw [Nat.min_eq_right (by omega), List.take_of_length_le (Nat.le_refl _), List.take_of_length_le (by show (iDs ns).length ≤ 14; omega)]
      rw [ec] at rd
      refine src_list ok (e23.trans ee) (o2.trans (o3.trans (.grow kk))) rd (by rw [List.length_map, List.length_take]; omega) ⟨List.forall_mem_nil _, List.forall_mem_nil _, List.forall_mem_nil _⟩ ⟨by rw [List.filter_eq_self.mpr (fun _ _ => rfl), List.map_id], rfl⟩ fun d hd C okC => ⟨rfl, fun _ => .inr ?_⟩
      obtain ⟨k, _, rfl⟩ := List.mem_map.mp hd
      unfold compRho
      repeat tb_rel
      rfl
    refine wpAny_execs_cons (wpAny_Assign_Name (List_ (args_cons (wp_mono hcomp ?_) rfl)) rfl)
    rintro v1 s1 ⟨d, ρ1, Z1, O1, ⟨rfl, rfl⟩, e1, x1, r1⟩
    refine args_cons (wpAny_Constant_int (args_nil ?_)) rfl
    refine wpAny_newObj_type ?_ (show 2 ≤ sizeLine by have := sizeLine_ge; omega)
    have e2 := e1.trans (Ends.tok e1.st (s1.toks + 1))
    refine bind_fresh (s := { s1 with toks := s1.toks + 1 }) (vs := [v1, .int 0 s1.toks]) (ds := [.list (iDs (ns.take 14)), .int 0]) ok fn e2.st (Or.inl rfl) (fun b o => Heap.get?_push_of_some _) (get_fresh _) (Heap.get?_push_size _ rfl) (.cons r1 (.cons (.int _ _) .nil)) fun s3 O3 e3 => ?_
    have hb := law_body ok fn (cells := ns.take 14) (by rw [List.length_take]; omega)
    refine wp_mono (hb _ _ s3 e3.st) ?_
    intro f s4 q
    cases f with
    | next => obtain ⟨_, _, _, q, _⟩ := q; exact q.elim
    | brk => exact q.elim
    | cont => exact q.elim
    | ret v =>
      obtain ⟨d, ρ4, Z4, O4, rfl, e4, r4⟩ := q
      obtain rfl := r4.bool_inv
      have eall := e2.trans (e3.trans e4)
      obtain ⟨h', tk', rfl, S6, P6⟩ := eall
      exact ⟨rfl, h', tk', rfl, fun b o q => P6.keep b o (F.keep b o q) (notOwn b (Heap.lt_size q))⟩
  refine wpAny_mono key ?_ fun _ _ x => x
  rintro f s' ⟨rfl, hd⟩
  exact ⟨rfl, hd⟩
theorem biTab_ok : ∀ q ∈ biTab, q.1 ∉ bootMainNames ∧ q.1 ≠ ("__name__" : Str) ∧ bootBuiltins q.1 = some q.2.val := by
  unfold biTab
  refine List.forall_mem_cons.mpr ⟨⟨by decide +kernel, by decide +kernel, by kernel_rfl⟩, ?_⟩
  refine List.forall_mem_cons.mpr ⟨⟨by decide +kernel, by decide +kernel, by kernel_rfl⟩, ?_⟩
  refine List.forall_mem_cons.mpr ⟨⟨by decide +kernel, by decide +kernel, by kernel_rfl⟩, ?_⟩
  refine List.forall_mem_cons.mpr ⟨⟨by decide +kernel, by decide +kernel, by kernel_rfl⟩, ?_⟩
  refine List.forall_mem_cons.mpr ⟨⟨by decide +kernel, by decide +kernel, by kernel_rfl⟩, ?_⟩
  refine List.forall_mem_cons.mpr ⟨⟨by decide +kernel, by decide +kernel, by kernel_rfl⟩, ?_⟩
  exact List.forall_mem_singleton.mpr ⟨by decide +kernel, by decide +kernel, by kernel_rfl⟩
theorem gc_ok {g : GC} {h : Heap} (G : g.Glob h) (hd : g.defs = progDefs) (hn : (biTab.all fun q => !(g.names.contains q.1)) = true) : g.Ok := by
  refine ⟨fun d h => hd ▸ h, fun q hq => ?_⟩
  obtain ⟨h1, h2, h3⟩ := biTab_ok q hq
  have h4 := List.all_eq_true.mp hn q hq
  refine ⟨G.free _ (fun hm => ?_) h1, (G.builtins _ h2).trans h3⟩
  rw [List.contains_iff_mem.mpr hm] at h4
  cases h4
theorem law_goodG {prog : Program} {w : World} {mg mb : Str → Option Value} {defs : List DefItem} {consts : List (Str × PyData)} {names : List Str} {A : Around} {s : Shared} {a fa : Addr} {vs : List Value} {ns : List Int} {c : ClaimW} {cl : Str → Option Addr} {mean : ExcName → Option Value} {args : List WData}
    (GL : Glob 0 mg mb defs consts [] names s.heap) (hd : defs = progDefs) (hn : (biTab.all fun q => !(names.contains q.1)) = true) (room : Room A 21) (hL : s.heap.IsList a vs.toArray) (hI : IntsAre vs ns) (h63 : ns.length ≤ 63) (hf : mg (Str.ofString "law") = some (.ref fa)) (hg : s.gens = #[])
    (hr : ∀ cls, c.raises args cls = false) (hp : c.post args (.bool true) args = true) :
    codeAny (model prog w) A (.call (.ref fa) ⟨[.ref a], []⟩) (GoodW c cl mean args s) s := by
  have G : GC.Glob ⟨prog, w, 0, mg, mb, defs, consts, [], names⟩ s.heap := GL
  refine codeAny_mono (law_call (g := ⟨prog, w, 0, mg, mb, defs, consts, [], names⟩) room (gc_ok G hd hn) G hL hI h63 hf) ?_
  rintro res s' ⟨rfl, h', tk', rfl, kp⟩
  exact ⟨.inl ⟨_, .bool true, [], rfl, hr, .bool true, hp, unshared_nil⟩, kp, rfl, hg⟩
end
end Mine
set_option maxRecDepth 100000 in
set_option maxHeartbeats 8000000 in
theorem PySem.Challenge.cw_sz0107_01_holds : PySem.Challenge.rw_sz0107_01.Holds := by
  (w_on; (refine holds_law (by decide +kernel) fun said => ?_); (o_head Hook.none); (case hw => w_witness2); w_strict (
    intro w s₀ s₁ mg mb G Y fa o pm cd doc dV kV ho hd hcd hD hmg hg args vals as hpre hlay hrd hwl hlo
    clear ho hd hcd hD
    refine Ground.open G ?_
    intro T B D TE TW
    clear T B D TE TW
    wrow_args hpre hlay hrd hwl hlo
    all_goals (
      first | refine callC_kw (enter_call ?_) | refine enter_call ?_ | refine callC_kw (enter_callW ?_) | refine enter_callW ?_
      try refine codeAny_mono ?_ (fun _ _ g => GoodW.toG g)
      have GL := Ground.glob G (by first | k_qdec | decide +kernel) (by first | k_qdec | decide +kernel)
      refine' Mine.law_goodG GL ?zd ?zn ?zroom ?zL ?zI ?zlen hmg hg ?zr ?zp
      (case zL => assumption)
      (case zI => assumption)
      (case zlen => omega)
      (case zroom => first | exact ⟨by rfl, by decide +kernel, by decide +kernel⟩)
      (case zd => first | kernel_rfl)
      (case zn => first | decide +kernel)
      (case zr => first | exact raisesW_false (by wrow_none_raised))
      (case zp => first | wrow_post))))

