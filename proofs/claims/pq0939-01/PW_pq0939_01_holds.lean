import PyProof.Rows.All
import Wide.All
import OpenK.AllK
import Wide.FinOn
import Lean
import PySem.Challenge.RW_pq0939_01
set_option Elab.async false
set_option compiler.extract_closed false
set_option bootstrap.genMatcherCode false
set_option genSizeOf false
set_option tactic.hygienic false
section
namespace Mine
theorem om {x : Nat} : 0 < max 1 x := Nat.lt_of_lt_of_le Nat.one_pos (Nat.le_max_left 1 x)
theorem o1 {n i k : Nat} (h : i < n) (hk : 0 < k) : n - (i + k) < n - i := by omega
theorem o2 {n i k m : Nat} (h : n - i ≤ m + 1) (hk : 0 < k) : n - (i + k) ≤ m := by omega
theorem o3 {n i k m : Nat} (h : m ≤ n - (i + k)) (hi : i < n) (hk : 0 < k) : m + 1 ≤ n - i := by omega
theorem o4 {n i k f : Nat} (h : n - i < f + 1) (hi : i < n) (hk : 0 < k) : n - (i + k) < f := by omega
theorem o5 {n i q f : Nat} (h : n - i < f + 1) (hp : i + 6 ≤ q ∧ q ≤ n) : n - q < f := by omega
theorem o6 {n i q : Nat} (hp : i + 6 ≤ q ∧ q ≤ n) : n - q < n - i := by omega
theorem hidG {P : Prop} (h : ∀ G : Prop, (P → G) → G) : P := h P id
end Mine
set_option hygiene false
local macro_rules | `(tactic| walk_at "op") => `(tactic| first | assumption | with_unfolding_all exact Nat.le_of_ble_eq_true rfl | with_reducible exact Mine.om | exact Int.ofNat_lt.mp (by assumption))
local macro_rules | `(tactic| walk_at "o") => `(tactic| first
  | assumption
  | exact Nat.le_of_ble_eq_true rfl
  | (refine Nat.le_trans ?h1 ?h2; (case h1 => assumption); (case h2 => exact Nat.le_of_ble_eq_true rfl))
  | with_reducible exact Nat.add_sub_cancel_left ..
  | ((with_reducible first | refine Mine.o1 ?_ ?_ | refine Mine.o2 ?_ ?_) <;> walk_at "op"; done)
  | with_reducible first | exact Mine.o3 (by assumption) (by walk_at "op") (by walk_at "op") | exact Mine.o4 (by assumption) (by walk_at "op") (by walk_at "op") | exact Mine.o5 (by assumption) (by assumption) | exact Mine.o6 (by assumption)
  | lia
  | omega)
set_option hygiene true

section
open PySem PySem.W PyProof.Rows PySem.Calls
set_option maxRecDepth 10000
namespace Mine

inductive Dat where
  | none
  | bool (b : Bool)
  | int (i : Int)
  | str (x : Str)
  | bytes (b : Array UInt8)
  | tuple (ds : List Dat)
  | list (ds : List Dat)
  | dictI (p : Program) (w : World) (n : Nat) (g : Int → Option Int)
  | dictS (p : Program) (w : World) (n : Nat) (g : Str → Option Str)

noncomputable def OI : Option Value → Option Int → Prop
  | .none, .none => True
  | some v, some i => ∃ t, v = .int i t
  | _, _ => False
noncomputable def OS : Option Value → Option Str → Prop
  | .none, .none => True
  | some v, some i => ∃ t, v = .str i t
  | _, _ => False
noncomputable def TabI (p : Program) (w : World) (o : Obj) (n : Nat) (g : Int → Option Int) : Prop := ∃ kvs, o.IsDictOf (intKind p w) kvs ∧ kvs.length ≤ n ∧ ∀ k, OI (valueAt kvs k) (g k)
noncomputable def TabS (p : Program) (w : World) (o : Obj) (n : Nat) (g : Str → Option Str) : Prop := ∃ kvs, o.IsDictOf (PySem.strKind p w) kvs ∧ kvs.length ≤ n ∧ ∀ k, OS (valueAt kvs k) (g k)
theorem TabI.ex {p : Program} {w : World} {o : Obj} {n : Nat} {g : Int → Option Int} (x : TabI p w o n g) : o.ExactDict := by obtain ⟨_, ⟨_, _, h, _⟩, _⟩ := x; exact h
theorem TabS.ex {p : Program} {w : World} {o : Obj} {n : Nat} {g : Str → Option Str} (x : TabS p w o n g) : o.ExactDict := by obtain ⟨_, ⟨_, _, h, _⟩, _⟩ := x; exact h

mutual
inductive DatIn (fz : List (Addr × Obj)) : Value → Dat → Prop
  | none : DatIn fz Value.none Dat.none
  | bool (b : Bool) : DatIn fz (Value.bool b) (Dat.bool b)
  | int (i : Int) (t : Tok) : DatIn fz (Value.int i t) (Dat.int i)
  | str (x : Str) (t : Tok) : DatIn fz (Value.str x t) (Dat.str x)
  | bytes (b : Array UInt8) (t : Tok) : DatIn fz (Value.bytes b t) (Dat.bytes b)
  | tuple {a : Addr} {vs : List Value} {n : Nat} {ds : List Dat} : (a, ({ cls := .type "tuple", data := .seq vs.toArray n } : Obj)) ∈ fz → DatAll fz vs ds → DatIn fz (Value.ref a) (Dat.tuple ds)
  | list {a : Addr} {vs : List Value} {n : Nat} {ds : List Dat} : (a, listOf vs.toArray n) ∈ fz → DatAll fz vs ds → DatIn fz (Value.ref a) (Dat.list ds)
  | dictI {a : Addr} {o : Obj} {p : Program} {w : World} {n : Nat} {g : Int → Option Int} : (a, o) ∈ fz → (a == sysModules) = false → TabI p w o n g → DatIn fz (Value.ref a) (Dat.dictI p w n g)
  | dictS {a : Addr} {o : Obj} {p : Program} {w : World} {n : Nat} {g : Str → Option Str} : (a, o) ∈ fz → (a == sysModules) = false → TabS p w o n g → DatIn fz (Value.ref a) (Dat.dictS p w n g)
inductive DatAll (fz : List (Addr × Obj)) : List Value → List Dat → Prop
  | nil : DatAll fz [] []
  | cons {v : Value} {vs : List Value} {d : Dat} {ds : List Dat} : DatIn fz v d → DatAll fz vs ds → DatAll fz (v :: vs) (d :: ds)
end
theorem len1 {α : Type} {vs : List α} (h : vs.length = 1) : ∃ a, vs = [a] := by
  obtain ⟨a, t, rfl⟩ := List.exists_cons_of_length_eq_add_one h
  exact ⟨a, by rw [List.eq_nil_of_length_eq_zero (Nat.succ.inj h)]⟩
theorem len2 {α : Type} {vs : List α} (h : vs.length = 2) : ∃ a b, vs = [a, b] := by
  obtain ⟨a, t, rfl⟩ := List.exists_cons_of_length_eq_add_one h
  obtain ⟨b, rfl⟩ := len1 (Nat.succ.inj h)
  exact ⟨a, b, rfl⟩
theorem len3 {α : Type} {vs : List α} (h : vs.length = 3) : ∃ a b c, vs = [a, b, c] := by
  obtain ⟨a, t, rfl⟩ := List.exists_cons_of_length_eq_add_one h
  obtain ⟨b, c, rfl⟩ := len2 (Nat.succ.inj h)
  exact ⟨a, b, c, rfl⟩
theorem DatIn.mono {fz fz' : List (Addr × Obj)} (hs : ∀ p ∈ fz, p ∈ fz') {v : Value} {d : Dat} (h : DatIn fz v d) : DatIn fz' v d :=
  DatIn.rec (motive_1 := fun v d _ => DatIn fz' v d) (motive_2 := fun vs ds _ => DatAll fz' vs ds) .none .bool .int .str .bytes (fun h _ r => .tuple (hs _ h) r) (fun h _ r => .list (hs _ h) r) (fun h l r => .dictI (hs _ h) l r) (fun h l r => .dictS (hs _ h) l r) .nil (fun _ _ h r => .cons h r) h
theorem DatAll.mono {fz fz' : List (Addr × Obj)} (hs : ∀ p ∈ fz, p ∈ fz') {vs : List Value} {ds : List Dat} (h : DatAll fz vs ds) : DatAll fz' vs ds :=
  DatAll.rec (motive_1 := fun v d _ => DatIn fz' v d) (motive_2 := fun vs ds _ => DatAll fz' vs ds) .none .bool .int .str .bytes (fun h _ r => .tuple (hs _ h) r) (fun h _ r => .list (hs _ h) r) (fun h l r => .dictI (hs _ h) l r) (fun h l r => .dictS (hs _ h) l r) .nil (fun _ _ h r => .cons h r) h
section
variable {fz : List (Addr × Obj)} {v : Value} {d : Dat} {vs ws : List Value} {ds es : List Dat}
theorem DatAll.length (h : DatAll fz vs ds) : vs.length = ds.length := by
  induction vs generalizing ds with
  | nil => cases h; rfl
  | cons v vs ih => cases h with | cons _ r => exact congrArg (· + 1) (ih r)
theorem DatAll.append (h : DatAll fz vs ds) (k : DatAll fz ws es) : DatAll fz (vs ++ ws) (ds ++ es) := by
  induction vs generalizing ds with
  | nil => cases h; exact k
  | cons v vs ih => cases h with | cons h r => exact .cons h (ih r)
theorem DatAll.one (h : DatIn fz v d) : DatAll fz [v] [d] := .cons h .nil
theorem DatAll.get (h : DatAll fz vs ds) {k : Nat} (hk : k < ds.length) : ∃ v, vs[k]? = some v ∧ DatIn fz v (ds[k]'hk) := by
  induction vs generalizing ds k with
  | nil => cases h; exact absurd hk (Nat.not_lt_zero _)
  | cons v vs ih =>
    cases h with
    | cons h r =>
      cases k with
      | zero => exact ⟨v, rfl, h⟩
      | succ k => exact ih r (Nat.lt_of_succ_lt_succ hk)
end
end Mine
end

section
open PySem PySem.W PyProof.Rows PySem.Calls
set_option maxRecDepth 10000
namespace Mine

noncomputable abbrev Led := List (Addr × Obj)
noncomputable def Held (fz : Led) (h : Heap) : Prop := ∀ p ∈ fz, h.get? p.1 = some p.2
noncomputable def Kp (h h' : Heap) : Prop := ∀ b o, h.get? b = some o → h'.get? b = some o
theorem Kp.refl (h : Heap) : Kp h h := fun _ _ e => e
theorem Kp.trans {h h' h'' : Heap} (a : Kp h h') (b : Kp h' h'') : Kp h h'' := fun x o e => b x o (a x o e)
theorem Kp.push (h : Heap) (o : Obj) : Kp h (h.push o) := fun _ _ e => Heap.get?_push_of_some _ e
theorem Kp.none {h h' : Heap} (k : Kp h h') {a : Addr} (e : h'.get? a = none) : h.get? a = none := by
  cases q : h.get? a with
  | none => rfl
  | some o => rw [k _ _ q] at e; cases e

set_option genInjectivity false in
structure DefR where
  name : Str
  params : Arguments
  body : List Stmt
  scope : Scope

set_option genInjectivity false in
structure Gp where
  prog : Program
  w : World
  mg : Str → Option Value
  mb : Str → Option Value
  gfz : Led
  defs : List DefR

structure GlAt (G : Gp) (h : Heap) : Prop where
  g : h.Ns mainGlobals G.mg
  b : h.Ns builtinsNs G.mb
  nolimit : h.NoLimit
  bn : ∀ x : Str, x ≠ "__name__" → G.mb x = bootBuiltins x
  gh : Held G.gfz h
  fns : ∀ (i : Nat) (d : DefR), G.defs[i]? = some d → ∃ a o pm code doc, G.mg d.name = some (.ref a) ∧ h.get? a = some o ∧ o.data = .func (docDef d.name d.params d.body d.scope pm code doc) ∧ h.CodeRec code d.name

theorem GlAt.keeps {G : Gp} {h h' : Heap} (x : GlAt G h) (k : Kp h h') : GlAt G h' where
  g := x.g.keeps k
  b := x.b.keeps k
  nolimit := x.nolimit.keeps k
  bn := x.bn
  gh := fun p hp => k _ _ (x.gh p hp)
  fns := fun i d e => by obtain ⟨a, o, pm, code, doc, h1, h2, h3, h4⟩ := x.fns i d e; exact ⟨a, o, pm, code, doc, h1, k _ _ h2, h3, h4.keeps k⟩

inductive Bd where
  | val (d : Dat)
  | own (d : Dat)
  | tape
  | cells

noncomputable def sEq (a b : Str) : Bool := a.cps.toList == b.cps.toList
theorem sEq_iff {a b : Str} : sEq a b = true ↔ a = b := by
  unfold sEq
  rw [beq_iff_eq]
  refine ⟨fun h => ?_, fun h => by rw [h]⟩
  obtain ⟨⟨x⟩⟩ := a; obtain ⟨⟨y⟩⟩ := b
  simpa using h
noncomputable abbrev Sg := List (Str × Bd)
noncomputable def Sg.get : Sg → Str → Option Bd
  | [], _ => none
  | (y, b) :: r, x => match sEq y x with
    | true => some b
    | false => Sg.get r x
noncomputable def Sg.set : Sg → Str → Bd → Sg
  | [], x, b => [(x, b)]
  | (y, c) :: r, x, b => match sEq y x with
    | true => (y, b) :: r
    | false => (y, c) :: Sg.set r x b
theorem Sg.get_set (σ : Sg) (x y : Str) (b : Bd) : (σ.set x b).get y = if y = x then some b else σ.get y := by
  induction σ with
  | nil =>
    unfold Sg.set
    unfold Sg.get
    by_cases h : y = x
    · subst h; rw [sEq_iff.mpr rfl, if_pos rfl]
    · have : sEq x y = false := by
        cases q : sEq x y with
        | false => rfl
        | true => exact absurd (sEq_iff.mp q).symm h
      rw [this, if_neg h]; rfl
  | cons p r ih =>
    obtain ⟨z, c⟩ := p
    unfold Sg.set
    cases q : sEq z x with
    | true =>
      have := sEq_iff.mp q
      subst this
      show Sg.get ((z, b) :: r) y = if y = z then some b else Sg.get ((z, c) :: r) y
      unfold Sg.get
      by_cases h : y = z
      · subst h; rw [sEq_iff.mpr rfl, if_pos rfl]
      · have : sEq z y = false := by
          cases q : sEq z y with
          | false => rfl
          | true => exact absurd (sEq_iff.mp q).symm h
        rw [this, if_neg h]
    | false =>
      show Sg.get ((z, c) :: Sg.set r x b) y = if y = x then some b else Sg.get ((z, c) :: r) y
      unfold Sg.get
      cases q2 : sEq z y with
      | true =>
        have := sEq_iff.mp q2
        subst this
        have hne : ¬ z = x := fun e => by rw [e, sEq_iff.mpr rfl] at q; cases q
        rw [if_neg hne]
      | false => exact ih
noncomputable def Sg.still : Sg → Bool
  | [] => true
  | (_, .own _) :: _ => false
  | _ :: r => Sg.still r
theorem Sg.still_of {σ : Sg} (h : σ.still = true) {x : Str} {ds : Dat} : σ.get x ≠ some (.own ds) := by
  induction σ with
  | nil => intro e; cases e
  | cons p r ih =>
    obtain ⟨z, c⟩ := p
    intro e
    unfold Sg.get at e
    have hr : Sg.still r = true := by cases c <;> first | exact h | exact absurd (show false = true from h) Bool.false_ne_true
    cases q : sEq z x with
    | true =>
      rw [q] at e
      cases Option.some.inj e
      exact absurd (show false = true from h) Bool.false_ne_true
    | false => rw [q] at e; exact ih hr e

set_option genInjectivity false in
structure St where
  G : Gp
  A : Around
  env : Env
  muts : List Addr
  tp : Option (Addr × Addr)
  tn : Nat
  hot : List Addr
  hotP : Heap → Prop
  fn : Bool
  nh : Bool
  dp : Nat

noncomputable def isVar (env : Env) (x : Str) : Bool := match env.kindOf x with
  | some .local => true
  | some .cell => (env.cells.lookup x).isSome
  | _ => false

noncomputable def TapeAt (h : Heap) (tn : Nat) (ta tc : Addr) : Prop :=
  ta ≠ tc ∧ ∃ (turn seed : Int) (t₁ t₂ : Tok) (vs : List Value) (cs : List Int),
    h.IsList ta #[.ref tc, .int turn t₁, .int seed t₂] ∧ h.IsList tc vs.toArray ∧ IntsAre vs cs ∧ cs.length = tn ∧ tn ≤ 63 ∧ 0 ≤ turn ∧ 0 ≤ seed ∧ ∀ c ∈ cs, 0 ≤ c ∧ c < 10 ^ 60

theorem isl_keep {h h' : Heap} {a : Addr} {vs : Array Value} (x : h.IsList a vs) (k : ∀ o, h.get? a = some o → h'.get? a = some o) : h'.IsList a vs := by
  obtain ⟨o, ho, r⟩ := x
  exact ⟨o, k _ ho, r⟩
theorem isl_in {h : Heap} {a : Addr} {vs : Array Value} (x : h.IsList a vs) : (h.get? a).isSome = true := by
  obtain ⟨o, ho, r⟩ := x
  rw [ho]; rfl
theorem TapeAt.keeps {h h' : Heap} {tn : Nat} {ta tc : Addr} (x : TapeAt h tn ta tc) (k1 : ∀ o, h.get? ta = some o → h'.get? ta = some o) (k2 : ∀ o, h.get? tc = some o → h'.get? tc = some o) : TapeAt h' tn ta tc := by
  refine hidG fun zG zh => ?_
  obtain ⟨ne, turn, seed, t₁, t₂, vs, cs, a, b, r⟩ := x
  refine zh ?_
  clear zh zG
  exact ⟨ne, turn, seed, t₁, t₂, vs, cs, isl_keep a k1, isl_keep b k2, r⟩
theorem TapeAt.in1 {h : Heap} {tn : Nat} {ta tc : Addr} (x : TapeAt h tn ta tc) : (h.get? ta).isSome = true := by
  refine hidG fun zG zh => ?_
  obtain ⟨ne, turn, seed, t₁, t₂, vs, cs, a, b, r⟩ := x
  refine zh ?_
  clear zh zG
  exact isl_in a
theorem TapeAt.in2 {h : Heap} {tn : Nat} {ta tc : Addr} (x : TapeAt h tn ta tc) : (h.get? tc).isSome = true := by
  refine hidG fun zG zh => ?_
  obtain ⟨ne, turn, seed, t₁, t₂, vs, cs, a, b, r⟩ := x
  refine zh ?_
  clear zh zG
  exact isl_in b

structure StOK (S : St) : Prop where
  kind : S.env.scope.kind = .function
  glob : S.env.globals = mainGlobals
  bt : S.env.builtins = builtinsNs
  hL : S.env.locals ∈ S.muts
  inter : interactive S.env = false
  depth : S.A.depth + S.dp < recursionLimit
  units : S.A.units + 3 * S.dp + 50 < cLine
  hand : S.nh = true → S.A.handled = none
  frame : S.fn = true → S.env.frame = some S.env.locals
  apart : S.fn = true → ∀ x c y c', S.env.cells.lookup x = some c → S.env.cells.lookup y = some c' → c = c' → x = y
  localNot : ∀ x, S.env.kindOf x = some .local → ∀ c, S.env.cells.lookup x = some c → False
  cellL : S.fn = true → ∀ x c, S.env.cells.lookup x = some c → c ≠ S.env.locals ∧ c ∈ S.muts
  hotK : ∀ h h', S.hotP h → (∀ b ∈ S.hot, ∀ o, h.get? b = some o → h'.get? b = some o) → S.hotP h'
  tapeK : ∀ ta tc, S.tp = some (ta, tc) → S.hot = [ta, tc] ∧ S.hotP = fun h => TapeAt h S.tn ta tc

structure HotIs (S : St) (h₀ : Heap) (fz : Led) (h : Heap) : Prop where
  p : S.hotP h
  each : ∀ b ∈ S.hot, b ∉ S.muts ∧ h₀.get? b = none ∧ (h.get? b).isSome = true ∧ ∀ p ∈ fz, p.1 ≠ b
theorem HotIs.step {S : St} {h₀ h₀' h h' : Heap} {fz fz' : Led} (x : HotIs S h₀ fz h) (ok : StOK S) (k : ∀ b ∈ S.hot, ∀ o, h.get? b = some o → h'.get? b = some o) (g : ∀ b ∈ S.hot, h₀'.get? b = none)
    (f : ∀ p ∈ fz', p ∈ fz ∨ ∀ b, (h.get? b).isSome = true → p.1 ≠ b) : HotIs S h₀' fz' h' :=
  ⟨ok.hotK _ _ x.p k, fun b hb => by
    refine hidG fun zG zh => ?_
    obtain ⟨e1, e2, e3, e4⟩ := x.each b hb
    refine zh ?_
    clear zh zG
    refine ⟨e1, g b hb, ?_, fun p hp => ?_⟩
    · obtain ⟨o, ho⟩ := Option.isSome_iff_exists.mp e3; rw [k b hb o ho]; rfl
    · rcases f p hp with q | q
      · exact e4 p q
      · exact q b e3⟩

noncomputable def OwnIs (fz : Led) (a : Addr) (o : Obj) : Dat → Prop
  | .list ds => ∃ vs n, o = listOf vs.toArray n ∧ DatAll fz vs ds
  | .dictI p w n g => (a == sysModules) = false ∧ TabI p w o n g
  | .dictS p w n g => (a == sysModules) = false ∧ TabS p w o n g
  | _ => False
theorem OwnIs.mono {fz fz' : Led} {a : Addr} {o : Obj} {d : Dat} (h : OwnIs fz a o d) (hs : ∀ p ∈ fz, p ∈ fz') : OwnIs fz' a o d := by
  cases d with
  | list ds => obtain ⟨vs, n, e, k⟩ := h; exact ⟨vs, n, e, k.mono hs⟩
  | dictI p w n g => exact h
  | dictS p w n g => exact h
  | _ => exact h.elim
theorem OwnIs.frozen {fz : Led} {a : Addr} {o : Obj} {d : Dat} (h : OwnIs fz a o d) : DatIn ((a, o) :: fz) (.ref a) d := by
  cases d with
  | list ds => obtain ⟨vs, n, rfl, k⟩ := h; exact .list (.head _) (k.mono fun p hp => .tail _ hp)
  | dictI p w n g => exact .dictI (.head _) h.1 h.2
  | dictS p w n g => exact .dictS (.head _) h.1 h.2
  | _ => exact h.elim
noncomputable def BdR (S : St) (fz : Led) (h : Heap) (μ : Str → Option Value) (oa : Option Addr) (x : Str) : Bd → Prop
  | .val d => ∃ v, μ x = some v ∧ DatIn fz v d
  | .own d => ∃ a o, oa = some a ∧ μ x = some (.ref a) ∧ h.get? a = some o ∧ OwnIs fz a o d
  | .tape => ∃ ta tc, S.tp = some (ta, tc) ∧ μ x = some (.ref ta)
  | .cells => ∃ ta tc, S.tp = some (ta, tc) ∧ μ x = some (.ref tc)

noncomputable def HandOK (A : Around) (h : Heap) : Prop := A.handled = none ∨ ∃ c o vs, A.handled = some (.ref c) ∧ h.get? c = some o ∧ o.data = .fields vs ∧ vs[2]? = some .none
theorem Kp.handOK {A : Around} {h h' : Heap} (x : HandOK A h) (k : Kp h h') : HandOK A h' := x.imp id fun ⟨c, o, vs, e, ho, hd, h2⟩ => ⟨c, o, vs, e, k _ _ ho, hd, h2⟩

structure RelAt (S : St) (h₀ : Heap) (fz₀ : Led) (σ : Sg) (fz : Led) (h : Heap) (μ : Str → Option Value) (oa : Option Addr) : Prop where
  ok : StOK S
  gl : GlAt S.G h₀
  gz : ∀ p ∈ S.G.gfz, p ∈ fz
  hk : HandOK S.A h₀
  keep : Kp h₀ h
  ns : ∃ m, h.Ns S.env.locals m ∧ ∀ x, S.env.kindOf x = some .local → m x = μ x
  cells : ∀ x c, S.env.cells.lookup x = some c → h.IsCell c (μ x)
  cin : ∀ x c, S.env.cells.lookup x = some c → c ∈ S.muts ∨ (h₀.get? c).isSome = true
  mutsNew : ∀ a ∈ S.muts, h₀.get? a = none
  mutsIn : ∀ a ∈ S.muts, (h.get? a).isSome = true
  mutsFz : ∀ p ∈ fz, p.1 ∉ S.muts
  held : Held fz h
  fzNew : ∀ p ∈ fz, p ∈ fz₀ ∨ h₀.get? p.1 = none
  fz0 : ∀ p ∈ fz₀, p ∈ fz
  dom : ∀ x b, σ.get x = some b → isVar S.env x = true
  bds : ∀ x b, σ.get x = some b → BdR S fz h μ oa x b
  oaOk : ∀ a, oa = some a → a ∉ S.muts ∧ h₀.get? a = none ∧ (∀ p ∈ fz, p.1 ≠ a) ∧ (h.get? a).isSome = true ∧ a ∉ S.hot
  uniq : ∀ x y dx dy, σ.get x = some (.own dx) → σ.get y = some (.own dy) → x = y
  tape : HotIs S h₀ fz h

noncomputable def Rel (S : St) (h₀ : Heap) (fz₀ : Led) (σ : Sg) (fz : Led) (h : Heap) : Prop := ∃ μ oa, RelAt S h₀ fz₀ σ fz h μ oa

section
variable {S : St} {h₀ h h' : Heap} {fz₀ fz fz' : Led} {σ : Sg} {μ : Str → Option Value} {oa : Option Addr}

theorem BdR.mono {x : Str} {b : Bd} (r : BdR S fz h μ oa x b) (hf : ∀ p ∈ fz, p ∈ fz') (ho : ∀ a, oa = some a → ∀ o, h.get? a = some o → h'.get? a = some o) : BdR S fz' h' μ oa x b := by
  cases b with
  | val d => obtain ⟨v, e, k⟩ := r; exact ⟨v, e, k.mono hf⟩
  | own d => obtain ⟨a, o, e1, e2, e3, k⟩ := r; exact ⟨a, o, e1, e2, ho a e1 _ e3, k.mono hf⟩
  | tape => exact r
  | cells => exact r

theorem RelAt.ext (R : RelAt S h₀ fz₀ σ fz h μ oa) (k : Kp h h') (new : Led) (hn : ∀ p ∈ new, h'.get? p.1 = some p.2 ∧ h.get? p.1 = none) : RelAt S h₀ fz₀ σ (new ++ fz) h' μ oa := by
  have hot : ∀ p ∈ new, ∀ a, (h.get? a).isSome = true → p.1 ≠ a := by
    intro p hp a ha e
    rw [← e, (hn p hp).2] at ha; cases ha
  refine { ok := R.ok, gl := R.gl, gz := fun p hp => List.mem_append_right _ (R.gz p hp), hk := R.hk, keep := R.keep.trans k, ns := ?_, cells := fun x c e => (R.cells x c e).keeps k, cin := R.cin, mutsNew := R.mutsNew, mutsIn := ?_, mutsFz := ?_, held := ?_, fzNew := ?_, fz0 := fun p hp => List.mem_append_right _ (R.fz0 p hp), dom := R.dom, bds := ?_, oaOk := ?_, uniq := R.uniq, tape := ?_ }
  · obtain ⟨m, hm, e⟩ := R.ns; exact ⟨m, hm.keeps k, e⟩
  · intro a ha
    have := R.mutsIn a ha
    cases q : h.get? a with
    | none => rw [q] at this; cases this
    | some o => rw [k _ _ q]; rfl
  · intro p hp hm
    rcases List.mem_append.mp hp with hp | hp
    · exact hot p hp _ (R.mutsIn _ hm) rfl
    · exact R.mutsFz p hp hm
  · intro p hp
    rcases List.mem_append.mp hp with hp | hp
    · exact (hn p hp).1
    · exact k _ _ (R.held p hp)
  · intro p hp
    rcases List.mem_append.mp hp with hp | hp
    · exact .inr (R.keep.none (hn p hp).2)
    · exact R.fzNew p hp
  · intro x b e
    exact (R.bds x b e).mono (fun p hp => List.mem_append_right _ hp) fun a _ o ho => k _ _ ho
  · intro a ha
    refine hidG fun zG zh => ?_
    obtain ⟨e1, e2, e3, e4, e5⟩ := R.oaOk a ha
    refine zh ?_
    clear zh zG
    refine ⟨e1, e2, fun p hp => ?_, ?_, e5⟩
    · rcases List.mem_append.mp hp with hp | hp
      · exact hot p hp a e4
      · exact e3 p hp
    · cases q : h.get? a with
      | none => rw [q] at e4; cases e4
      | some o => rw [k _ _ q]; rfl
  · exact R.tape.step R.ok (fun b _ o => k b o) (fun b hb => (R.tape.each b hb).2.1) fun p hp => (List.mem_append.mp hp).elim (fun hp => .inr fun b hb => hot p hp b hb) .inl

theorem Rel.ext (R : Rel S h₀ fz₀ σ fz h) (k : Kp h h') (new : Led) (hn : ∀ p ∈ new, h'.get? p.1 = some p.2 ∧ h.get? p.1 = none) : Rel S h₀ fz₀ σ (new ++ fz) h' :=
  by obtain ⟨μ, oa, r⟩ := R; exact ⟨μ, oa, r.ext k new hn⟩
theorem Rel.grow (R : Rel S h₀ fz₀ σ fz h) (k : Kp h h') : Rel S h₀ fz₀ σ fz h' := by simpa using R.ext k [] (by simp)

structure Back (h : Heap) (fz : Led) (h' : Heap) (fz' : Led) : Prop where
  keep : Kp h h'
  sub : ∀ p ∈ fz, p ∈ fz'
  held : Held fz' h'
  new : ∀ p ∈ fz', p ∈ fz ∨ h.get? p.1 = none

theorem RelAt.back (R : RelAt S h₀ fz₀ σ fz h μ oa) (B : Back h fz h' fz') : RelAt S h₀ fz₀ σ fz' h' μ oa := by
  have hot : ∀ p ∈ fz', p ∉ fz → ∀ a, (h.get? a).isSome = true → p.1 ≠ a := by
    intro p hp hq a ha e
    rcases B.new p hp with h1 | h1
    · exact hq h1
    · rw [← e, h1] at ha; cases ha
  have k := B.keep
  refine { ok := R.ok, gl := R.gl, gz := fun p hp => B.sub _ (R.gz p hp), hk := R.hk, keep := R.keep.trans k, ns := ?_, cells := fun x c e => (R.cells x c e).keeps k, cin := R.cin, mutsNew := R.mutsNew, mutsIn := ?_, mutsFz := ?_, held := B.held, fzNew := ?_, fz0 := fun p hp => B.sub _ (R.fz0 p hp), dom := R.dom, bds := ?_, oaOk := ?_, uniq := R.uniq, tape := ?_ }
  · obtain ⟨m, hm, e⟩ := R.ns; exact ⟨m, hm.keeps k, e⟩
  · intro a ha
    have := R.mutsIn a ha
    cases q : h.get? a with
    | none => rw [q] at this; cases this
    | some o => rw [k _ _ q]; rfl
  · intro p hp hm
    by_cases hq : p ∈ fz
    · exact R.mutsFz p hq hm
    · exact hot p hp hq _ (R.mutsIn _ hm) rfl
  · intro p hp
    rcases B.new p hp with h1 | h1
    · exact R.fzNew p h1
    · exact .inr (R.keep.none h1)
  · intro x b e
    exact (R.bds x b e).mono B.sub fun a _ o ho => k _ _ ho
  · intro a ha
    refine hidG fun zG zh => ?_
    obtain ⟨e1, e2, e3, e4, e5⟩ := R.oaOk a ha
    refine zh ?_
    clear zh zG
    refine ⟨e1, e2, fun p hp => ?_, ?_, e5⟩
    · by_cases hq : p ∈ fz
      · exact e3 p hq
      · exact hot p hp hq a e4
    · cases q : h.get? a with
      | none => rw [q] at e4; cases e4
      | some o => rw [k _ _ q]; rfl
  · refine R.tape.step R.ok (fun b _ o => k b o) (fun b hb => (R.tape.each b hb).2.1) fun p hp => ?_
    by_cases hq : p ∈ fz
    · exact .inl hq
    · exact .inr fun b hb => hot p hp hq b hb
theorem Rel.back (R : Rel S h₀ fz₀ σ fz h) (B : Back h fz h' fz') : Rel S h₀ fz₀ σ fz' h' := by obtain ⟨μ, oa, r⟩ := R; exact ⟨μ, oa, r.back B⟩

set_option genInjectivity false in
structure Gnd where
  h₀ : Heap
  μ : Str → Option Value
  oa : Option Addr
noncomputable def RelE (S : St) (g : Gnd) (fz₀ : Led) (σ : Sg) (fz : Led) (h : Heap) : Prop := RelAt S g.h₀ fz₀ σ fz h g.μ g.oa
theorem RelE.at {g : Gnd} (R : RelE S g fz₀ σ fz h) : RelAt S g.h₀ fz₀ σ fz h g.μ g.oa := R
theorem RelE.rel {g : Gnd} (R : RelE S g fz₀ σ fz h) : Rel S g.h₀ fz₀ σ fz h := ⟨_, _, R⟩
theorem RelE.ext {g : Gnd} (R : RelE S g fz₀ σ fz h) (k : Kp h h') (new : Led) (hn : ∀ p ∈ new, h'.get? p.1 = some p.2 ∧ h.get? p.1 = none) : RelE S g fz₀ σ (new ++ fz) h' := RelAt.ext R k new hn
theorem RelE.grow {g : Gnd} (R : RelE S g fz₀ σ fz h) (k : Kp h h') : RelE S g fz₀ σ fz h' := by simpa using R.ext k [] (by simp)
theorem RelE.back {g : Gnd} (R : RelE S g fz₀ σ fz h) (B : Back h fz h' fz') : RelE S g fz₀ σ fz' h' := RelAt.back R B
end
end Mine
end

section
open PySem PySem.W PyProof.Rows PySem.Calls
set_option maxRecDepth 10000
namespace Mine

noncomputable abbrev St.M (S : St) : Model := model S.G.prog S.G.w

noncomputable abbrev CE (S : St) (σ : Sg) (h₀ : Gnd) (fz₀ fz : Led) (s : Shared) (Q : Dat → Prop) (K : Value → Shared → Prop) : Prop :=
  ∀ (d : Dat) (v : Value) (h' : Heap) (tk' : Nat) (fz' : Led), Q d → (∀ p ∈ fz, p ∈ fz') → RelE S h₀ fz₀ σ fz' h' → DatIn fz' v d → K v { s with heap := h', toks := tk' }

noncomputable def WE (S : St) (σ : Sg) (e : Expr) (Q : Dat → Prop) : Prop :=
  ∀ (h₀ : Gnd) (fz₀ fz : Led) (s : Shared), RelE S h₀ fz₀ σ fz s.heap → ∀ (K : Value → Shared → Prop) (E : Value → Shared → Prop), CE S σ h₀ fz₀ fz s Q K →
    wpAny S.M S.A (eval e S.env) K E s

noncomputable def WT (S : St) (σ : Sg) (e : Expr) (Q : Bool → Prop) : Prop :=
  ∀ (h₀ : Gnd) (fz₀ fz : Led) (s : Shared), RelE S h₀ fz₀ σ fz s.heap → ∀ (K : Bool → Shared → Prop) (E : Value → Shared → Prop),
    (∀ b h' tk' fz', Q b → (∀ p ∈ fz, p ∈ fz') → RelE S h₀ fz₀ σ fz' h' → K b { s with heap := h', toks := tk' }) →
    wpAny S.M S.A (isTrue e S.env (eval e S.env)) K E s

noncomputable def WL (S : St) (σ : Sg) (es : List Expr) (Q : List Dat → Prop) : Prop :=
  ∀ (pos : Pos) (h₀ : Gnd) (fz₀ fz : Led) (s : Shared), RelE S h₀ fz₀ σ fz s.heap → ∀ (K : List Value → Shared → Prop) (E : Value → Shared → Prop),
    (∀ ds vs h' tk' fz', Q ds → (∀ p ∈ fz, p ∈ fz') → RelE S h₀ fz₀ σ fz' h' → DatAll fz' vs ds → K vs { s with heap := h', toks := tk' }) →
    wpAny S.M S.A (spliced (backTo pos (starEach es S.env))) K E s

noncomputable def WV (S : St) (t : List Value → Sem Value) (ds : List Dat) (Q : Dat → Prop) : Prop :=
  ∀ (σ : Sg) (h₀ : Gnd) (fz₀ fz : Led) (s : Shared) (vs : List Value), RelE S h₀ fz₀ σ fz s.heap → DatAll fz vs ds → ∀ (K : Value → Shared → Prop) (E : Value → Shared → Prop), CE S σ h₀ fz₀ fz s Q K →
    wpAny S.M S.A (t vs) K E s
noncomputable def W2 (S : St) (t : Value → Value → Sem Value) (a b : Dat) (Q : Dat → Prop) : Prop :=
  ∀ (σ : Sg) (h₀ : Gnd) (fz₀ fz : Led) (s : Shared) (v u : Value), RelE S h₀ fz₀ σ fz s.heap → DatIn fz v a → DatIn fz u b → ∀ (K : Value → Shared → Prop) (E : Value → Shared → Prop), CE S σ h₀ fz₀ fz s Q K →
    wpAny S.M S.A (t v u) K E s
noncomputable def W1 (S : St) (t : Value → Sem Value) (a : Dat) (Q : Dat → Prop) : Prop :=
  ∀ (σ : Sg) (h₀ : Gnd) (fz₀ fz : Led) (s : Shared) (v : Value), RelE S h₀ fz₀ σ fz s.heap → DatIn fz v a → ∀ (K : Value → Shared → Prop) (E : Value → Shared → Prop), CE S σ h₀ fz₀ fz s Q K →
    wpAny S.M S.A (t v) K E s
noncomputable def WB (S : St) (a : Dat) (Q : Bool → Prop) : Prop :=
  ∀ (σ : Sg) (h₀ : Gnd) (fz₀ fz : Led) (s : Shared) (v : Value), RelE S h₀ fz₀ σ fz s.heap → DatIn fz v a → ∀ (K : Bool → Shared → Prop) (E : Value → Shared → Prop),
    (∀ b h' tk' fz', Q b → (∀ p ∈ fz, p ∈ fz') → RelE S h₀ fz₀ σ fz' h' → K b { s with heap := h', toks := tk' }) →
    wpAny S.M S.A (truthy v) K E s

inductive Imm : Dat → (Tok → Value) → Prop
  | none : Imm .none (fun _ => .none)
  | bool (b : Bool) : Imm (.bool b) (fun _ => .bool b)
  | int (i : Int) : Imm (.int i) (fun t => .int i t)
  | str (x : Str) : Imm (.str x) (fun t => .str x t)
  | bytes (b : Array UInt8) : Imm (.bytes b) (fun t => .bytes b t)
theorem Imm.is {d : Dat} {f : Tok → Value} (i : Imm d f) (fz : Led) (t : Tok) : DatIn fz (f t) d := by cases i <;> constructor

theorem di_none {fz : Led} {v : Value} (h : DatIn fz v .none) : v = .none := by cases h; rfl
theorem di_bool {fz : Led} {v : Value} {b : Bool} (h : DatIn fz v (.bool b)) : v = .bool b := by cases h; rfl
theorem di_int {fz : Led} {v : Value} {i : Int} (h : DatIn fz v (.int i)) : ∃ t, v = .int i t := by cases h; exact ⟨_, rfl⟩
theorem di_str {fz : Led} {v : Value} {x : Str} (h : DatIn fz v (.str x)) : ∃ t, v = .str x t := by cases h; exact ⟨_, rfl⟩
theorem di_bytes {fz : Led} {v : Value} {b : Array UInt8} (h : DatIn fz v (.bytes b)) : ∃ t, v = .bytes b t := by cases h; exact ⟨_, rfl⟩
theorem di_tuple {fz : Led} {v : Value} {ds : List Dat} (h : DatIn fz v (.tuple ds)) : ∃ a vs n, v = .ref a ∧ (a, ({ cls := .type "tuple", data := .seq vs.toArray n } : Obj)) ∈ fz ∧ DatAll fz vs ds := by
  cases h with | tuple h r => exact ⟨_, _, _, rfl, h, r⟩
theorem di_list {fz : Led} {v : Value} {ds : List Dat} (h : DatIn fz v (.list ds)) : ∃ a vs n, v = .ref a ∧ (a, listOf vs.toArray n) ∈ fz ∧ DatAll fz vs ds := by
  cases h with | list h r => exact ⟨_, _, _, rfl, h, r⟩
theorem da_nil {fz : Led} {vs : List Value} (h : DatAll fz vs []) : vs = [] := by cases h; rfl
theorem da_cons {fz : Led} {vs : List Value} {d : Dat} {ds : List Dat} (h : DatAll fz vs (d :: ds)) : ∃ v r, vs = v :: r ∧ DatIn fz v d ∧ DatAll fz r ds := by
  cases h with | cons h r => exact ⟨_, _, rfl, h, r⟩
theorem da_one {fz : Led} {vs : List Value} {d : Dat} (h : DatAll fz vs [d]) : ∃ v, vs = [v] ∧ DatIn fz v d := by
  obtain ⟨v, r, rfl, h1, h2⟩ := da_cons h; exact ⟨v, by rw [da_nil h2], h1⟩
theorem da_two {fz : Led} {vs : List Value} {d e : Dat} (h : DatAll fz vs [d, e]) : ∃ v u, vs = [v, u] ∧ DatIn fz v d ∧ DatIn fz u e := by
  refine hidG fun zG zh => ?_
  obtain ⟨v, r, rfl, h1, h2⟩ := da_cons h
  refine zh ?_
  clear zh zG
  obtain ⟨u, rfl, h3⟩ := da_one h2
  exact ⟨v, u, rfl, h1, h3⟩

section
variable {S : St} {σ : Sg} {Q : Dat → Prop}

theorem CE.imm {h₀ : Gnd} {fz₀ fz : Led} {s : Shared} {K : Value → Shared → Prop} (c : CE S σ h₀ fz₀ fz s Q K) (R : RelE S h₀ fz₀ σ fz s.heap) {d : Dat} {f : Tok → Value} (i : Imm d f) (q : Q d) (t : Tok) (tk : Nat) : K (f t) { s with toks := tk } :=
  c d (f t) s.heap tk fz q (fun _ h => h) R (i.is fz t)
theorem CE.imm0 {h₀ : Gnd} {fz₀ fz : Led} {s : Shared} {K : Value → Shared → Prop} (c : CE S σ h₀ fz₀ fz s Q K) (R : RelE S h₀ fz₀ σ fz s.heap) {d : Dat} {f : Tok → Value} (i : Imm d f) (q : Q d) (t : Tok) : K (f t) s :=
  c d (f t) s.heap s.toks fz q (fun _ h => h) R (i.is fz t)
theorem CE.same {h₀ : Gnd} {fz₀ fz : Led} {s : Shared} {K : Value → Shared → Prop} (c : CE S σ h₀ fz₀ fz s Q K) (R : RelE S h₀ fz₀ σ fz s.heap) {d : Dat} {v : Value} (i : DatIn fz v d) (q : Q d) : K v s :=
  c d v s.heap s.toks fz q (fun _ h => h) R i
theorem CE.push {h₀ : Gnd} {fz₀ fz : Led} {s : Shared} {K : Value → Shared → Prop} (c : CE S σ h₀ fz₀ fz s Q K) (R : RelE S h₀ fz₀ σ fz s.heap) {d : Dat} {o : Obj} (hf : o.isFreed = false) (i : DatIn ((s.heap.objs.size, o) :: fz) (.ref s.heap.objs.size) d) (q : Q d) :
    K (.ref s.heap.objs.size) { s with heap := s.heap.push o } := by
  refine c d _ _ s.toks ((s.heap.objs.size, o) :: fz) q (fun _ h => List.mem_cons_of_mem _ h) ?_ i
  exact R.ext (Kp.push _ _) [(s.heap.objs.size, o)] (by
    intro p hp
    rw [List.mem_singleton.mp hp]
    refine ⟨Heap.get?_push_size _ hf, ?_⟩
    cases q : s.heap.get? s.heap.objs.size with
    | none => rfl
    | some o' => exact absurd (Heap.lt_size q) (Nat.lt_irrefl _))

theorem WE.mono {e : Expr} {Q' : Dat → Prop} (h : WE S σ e Q) (hq : ∀ d, Q d → Q' d) : WE S σ e Q' :=
  fun h₀ fz₀ fz s R K E c => h h₀ fz₀ fz s R K E fun d v h' tk' fz' q => c d v h' tk' fz' (hq d q)
theorem WT.mono {e : Expr} {Q Q' : Bool → Prop} (h : WT S σ e Q) (hq : ∀ d, Q d → Q' d) : WT S σ e Q' :=
  fun h₀ fz₀ fz s R K E c => h h₀ fz₀ fz s R K E fun d h' tk' fz' q => c d h' tk' fz' (hq d q)

-- constants and names
theorem WE_int {i : Int} {k pos} (q : Q (.int i)) : WE S σ (.Constant (.int i) k pos) Q :=
  fun _ _ _ s R _ _ c => wpAny_Constant_int (CE.imm c R (.int i) q s.toks (s.toks + 1))
theorem WE_none {k pos} (q : Q .none) : WE S σ (.Constant .none k pos) Q :=
  fun _ _ _ _ R _ _ c => wpAny_Constant_none (CE.imm0 c R .none q 0)
theorem WE_bool {b : Bool} {k pos} (q : Q (.bool b)) : WE S σ (.Constant (.bool b) k pos) Q :=
  fun _ _ _ _ R _ _ c => wpAny_Constant_bool (CE.imm0 c R (.bool b) q 0)
theorem WE_str {x : Str} {k pos} (q : Q (.str x)) : WE S σ (.Constant (.str x) k pos) Q :=
  fun _ _ _ s R _ _ c => wpAny_Constant_str (CE.imm c R (.str x) q s.toks (s.toks + 1))
theorem WE_bytes {x : List UInt8} {k pos} (q : Q (.bytes x.toArray)) : WE S σ (.Constant (.bytes x) k pos) Q :=
  fun _ _ _ s R _ _ c => PySem.W.Constant_bytes (CE.imm c R (.bytes x.toArray) q s.toks (s.toks + 1))

theorem load_var {h₀ : Heap} {fz₀ fz : Led} {s : Shared} {μ : Str → Option Value} {oa : Option Addr} (R : RelAt S h₀ fz₀ σ fz s.heap μ oa) {x : Str} {b : Bd} {v : Value} (hb : σ.get x = some b) (hv : μ x = some v) {K : Value → Shared → Prop} {E : Value → Shared → Prop} (h : K v s) :
    wpAny S.M S.A (loadName S.env x) K E s := by
  have hd := R.dom x b hb
  unfold isVar at hd
  split at hd
  · rename_i hk
    obtain ⟨m, hm, e⟩ := R.ns
    exact wpAny_loadName_local R.ok.kind hk hm ((e x hk).trans hv) h
  · rename_i hk
    obtain ⟨c, hc⟩ := Option.isSome_iff_exists.mp hd
    exact wpAny_loadName_cell R.ok.kind hk hc (hv ▸ R.cells x c hc) h
  · cases hd

theorem WE_name {x : Str} {pos : Pos} {d : Dat} (hx : σ.get x = some (.val d)) (q : Q d) (hd : (x == ("__debug__" : Str)) = false := by decide) : WE S σ (.Name x pos) Q := by
  intro h₀ fz₀ fz s R K E c
  have r := R.at
  obtain ⟨v, hv, hi⟩ := r.bds x _ hx
  exact wpAny_Name (load_var r hx hv (CE.same c R hi q)) hd

theorem load_glob {h₀ : Gnd} {fz₀ fz : Led} {s : Shared} (R : RelE S h₀ fz₀ σ fz s.heap) {x : Str} {pos : Pos} {v : Value} (hk : S.env.kindOf x = some .globalImplicit) (hv : S.G.mg x = some v) {K : Value → Shared → Prop} {E : Value → Shared → Prop} (h : K v s) (hd : (x == ("__debug__" : Str)) = false := by decide) :
    wpAny S.M S.A (eval (.Name x pos) S.env) K E s := by
  have r := R.at
  exact Name_function_global r.ok.kind hk (loadGlobal_global (r.ok.glob ▸ (r.gl.keeps r.keep).g) hv h) hd
theorem load_boot {h₀ : Gnd} {fz₀ fz : Led} {s : Shared} (R : RelE S h₀ fz₀ σ fz s.heap) {x : Str} {pos : Pos} {v : Value} (hk : S.env.kindOf x = some .globalImplicit) (hm : S.G.mg x = none) (hn : x ≠ "__name__") (hv : bootBuiltins x = some v) {K : Value → Shared → Prop} {E : Value → Shared → Prop} (h : K v s) (hd : (x == ("__debug__" : Str)) = false := by decide) :
    wpAny S.M S.A (eval (.Name x pos) S.env) K E s := by
  have r := R.at
  have gl := r.gl.keeps r.keep
  exact Name_function_global r.ok.kind hk (loadGlobal_builtin (r.ok.glob ▸ gl.g) hm (r.ok.bt ▸ gl.b) ((gl.bn x hn).trans hv) h) hd

theorem WE_glob {x : Str} {pos : Pos} {d : Dat} (hk : S.env.kindOf x = some .globalImplicit) (hv : ∃ v, S.G.mg x = some v ∧ DatIn S.G.gfz v d) (q : Q d) (hd : (x == ("__debug__" : Str)) = false := by decide) : WE S σ (.Name x pos) Q := by
  intro h₀ fz₀ fz s R K E c
  obtain ⟨v, hv, hi⟩ := hv
  have r := R.at
  exact load_glob R hk hv (CE.same c R (hi.mono r.gz) q) hd

-- lists of expressions
theorem WL_nil {Q : List Dat → Prop} (q : Q []) : WL S σ [] Q := fun _ _ _ fz s R _ _ c => wpAny_items_nil (c [] [] s.heap s.toks fz q (fun _ h => h) R .nil)
theorem WL_cons {e : Expr} {rest : List Expr} {Q : List Dat → Prop} (h : WE S σ e fun d => WL S σ rest fun ds => Q (d :: ds))
    (he : ∀ env, starEach (e :: rest) env = (false, eval e env) :: starEach rest env := by intro _; rfl) : WL S σ (e :: rest) Q := by
  intro pos h₀ fz₀ fz s R K E c
  refine wpAny_items_cons (h h₀ fz₀ fz s R _ _ fun d v h' tk' fz' q sub R' hi => ?_) (he S.env)
  refine q pos h₀ fz₀ fz' { s with heap := h', toks := tk' } R' _ _ fun ds vs h'' tk'' fz'' q' sub' R'' hi' => ?_
  exact c (d :: ds) (v :: vs) h'' tk'' fz'' q' (fun p hp => sub' p (sub p hp)) R'' (.cons (hi.mono sub') hi')

-- operators
theorem WE_bin {l r : Expr} {op : Operator} {pos : Pos} (h : WE S σ l fun a => WE S σ r fun b => W2 S (binaryOp op) a b Q) : WE S σ (.BinOp l op r pos) Q := by
  intro h₀ fz₀ fz s R K E c
  refine wpAny_BinOp (h h₀ fz₀ fz s R _ _ fun a v h' tk' fz' q sub R' hi => ?_)
  refine q h₀ fz₀ fz' { s with heap := h', toks := tk' } R' _ _ fun b u h'' tk'' fz'' q' sub' R'' hi' => ?_
  exact q' σ h₀ fz₀ fz'' { s with heap := h'', toks := tk'' } v u R'' (hi.mono sub') hi' _ _ fun d w h3 tk3 fz3 q3 sub3 => c d w h3 tk3 fz3 q3 fun p hp => sub3 p (sub' p (sub p hp))
theorem WE_un {x : Expr} {op : UnaryOp} {pos : Pos} (h : WE S σ x fun a => W1 S (unaryOp op) a Q) : WE S σ (.UnaryOp op x pos) Q := by
  intro h₀ fz₀ fz s R K E c
  refine wpAny_UnaryOp (h h₀ fz₀ fz s R _ _ fun a v h' tk' fz' q sub R' hi => ?_)
  exact q σ h₀ fz₀ fz' { s with heap := h', toks := tk' } v R' hi _ _ fun d w h3 tk3 fz3 q3 sub3 => c d w h3 tk3 fz3 q3 fun p hp => sub3 p (sub p hp)
theorem WE_cmp {l r : Expr} {op : CmpOp} {pos : Pos} (h : WE S σ l fun a => WE S σ r fun b => W2 S (compareOp op) a b Q) (hm : behindInMarks op r = false := by with_unfolding_all rfl) : WE S σ (.Compare l [op] [r] pos) Q := by
  intro h₀ fz₀ fz s R K E c
  refine wpAny_Compare1 (h h₀ fz₀ fz s R _ _ fun a v h' tk' fz' q sub R' hi => ?_) hm
  refine q h₀ fz₀ fz' { s with heap := h', toks := tk' } R' _ _ fun b u h'' tk'' fz'' q' sub' R'' hi' => ?_
  exact q' σ h₀ fz₀ fz'' { s with heap := h'', toks := tk'' } v u R'' (hi.mono sub') hi' _ _ fun d w h3 tk3 fz3 q3 sub3 => c d w h3 tk3 fz3 q3 fun p hp => sub3 p (sub' p (sub p hp))

-- tests
theorem WB_bool {b : Bool} {Q : Bool → Prop} (q : Q b) : WB S (.bool b) Q := by
  intro σ h₀ fz₀ fz s v R hi K E c
  rw [di_bool hi]
  exact wpAny_truthy_bool (c b s.heap s.toks fz q (fun _ h => h) R)
theorem WT_cmp {l r : Expr} {op : CmpOp} {pos : Pos} {Q : Bool → Prop} (h : WE S σ l fun a => WE S σ r fun b => W2 S (compareOp op) a b fun d => WB S d Q) (hm : behindInMarks op r = false := by with_unfolding_all rfl) : WT S σ (.Compare l [op] [r] pos) Q := by
  intro h₀ fz₀ fz s R K E c
  refine wpAny_isTrue_Compare1 (h h₀ fz₀ fz s R _ _ fun a v h' tk' fz' q sub R' hi => ?_) hm
  refine q h₀ fz₀ fz' { s with heap := h', toks := tk' } R' _ _ fun b u h'' tk'' fz'' q' sub' R'' hi' => ?_
  refine q' σ h₀ fz₀ fz'' { s with heap := h'', toks := tk'' } v u R'' (hi.mono sub') hi' _ _ fun d w h3 tk3 fz3 q3 sub3 R3 hi3 => ?_
  exact q3 σ h₀ fz₀ fz3 { s with heap := h3, toks := tk3 } w R3 hi3 _ _ fun b h4 tk4 fz4 q4 sub4 => c b h4 tk4 fz4 q4 fun p hp => sub4 p (sub3 p (sub' p (sub p hp)))
theorem WT_not {x : Expr} {pos : Pos} {Q : Bool → Prop} (h : WT S σ x fun b => Q (!b)) : WT S σ (.UnaryOp .Not x pos) Q := by
  intro h₀ fz₀ fz s R K E c
  exact wpAny_isTrue_Not (h h₀ fz₀ fz s R _ _ fun b h' tk' fz' q sub R' => c (!b) h' tk' fz' q sub R')
theorem WT_val {e : Expr} {Q : Bool → Prop} (h : WE S σ e fun d => WB S d Q) (he : ∀ env whole, isTrue e env whole = (do let v ← whole; standAt e.pos; holding [v] (truthy v)) := by intro _ _; rfl) : WT S σ e Q := by
  intro h₀ fz₀ fz s R K E c
  refine wpAny_isTrue_value (h h₀ fz₀ fz s R _ _ fun a v h' tk' fz' q sub R' hi => ?_) (he _ _)
  exact q σ h₀ fz₀ fz' { s with heap := h', toks := tk' } v R' hi _ _ fun b h4 tk4 fz4 q4 sub4 => c b h4 tk4 fz4 q4 fun p hp => sub4 p (sub p hp)

noncomputable def WA (S : St) (σ : Sg) (op : BoolOp) (es : List Expr) (Q : Bool → Prop) : Prop :=
  ∀ (h₀ : Gnd) (fz₀ fz : Led) (s : Shared), RelE S h₀ fz₀ σ fz s.heap → ∀ (K : Bool → Shared → Prop) (E : Value → Shared → Prop),
    (∀ b h' tk' fz', Q b → (∀ p ∈ fz, p ∈ fz') → RelE S h₀ fz₀ σ fz' h' → K b { s with heap := h', toks := tk' }) →
    wpAny S.M S.A (allTrue op es S.env) K E s
theorem WA_and_nil {Q : Bool → Prop} (q : Q true) : WA S σ .And [] Q := fun _ _ fz s R _ _ c => wpAny_allTrue_And_nil (c true s.heap s.toks fz q (fun _ h => h) R)
theorem WA_or_nil {Q : Bool → Prop} (q : Q false) : WA S σ .Or [] Q := fun _ _ fz s R _ _ c => wpAny_allTrue_Or_nil (c false s.heap s.toks fz q (fun _ h => h) R)
theorem WA_and {x : Expr} {rest : List Expr} {Q : Bool → Prop} (h : WT S σ x fun b => (b = false → Q false) ∧ (b = true → WA S σ .And rest Q)) : WA S σ .And (x :: rest) Q := by
  intro h₀ fz₀ fz s R K E c
  refine wpAny_allTrue_And_cons (h h₀ fz₀ fz s R _ _ fun b h' tk' fz' q sub R' => ?_)
  cases b with
  | false => exact c false h' tk' fz' (q.1 rfl) sub R'
  | true => exact q.2 rfl h₀ fz₀ fz' { s with heap := h', toks := tk' } R' _ _ fun b h4 tk4 fz4 q4 sub4 => c b h4 tk4 fz4 q4 fun p hp => sub4 p (sub p hp)
theorem WA_or {x : Expr} {rest : List Expr} {Q : Bool → Prop} (h : WT S σ x fun b => (b = true → Q true) ∧ (b = false → WA S σ .Or rest Q)) : WA S σ .Or (x :: rest) Q := by
  intro h₀ fz₀ fz s R K E c
  refine wpAny_allTrue_Or_cons (h h₀ fz₀ fz s R _ _ fun b h' tk' fz' q sub R' => ?_)
  cases b with
  | true => exact c true h' tk' fz' (q.1 rfl) sub R'
  | false => exact q.2 rfl h₀ fz₀ fz' { s with heap := h', toks := tk' } R' _ _ fun b h4 tk4 fz4 q4 sub4 => c b h4 tk4 fz4 q4 fun p hp => sub4 p (sub p hp)
theorem WT_bool {op : BoolOp} {es : List Expr} {pos : Pos} {Q : Bool → Prop} (h : WA S σ op es Q) : WT S σ (.BoolOp op es pos) Q :=
  fun h₀ fz₀ fz s R K E c => wpAny_isTrue_BoolOp (h h₀ fz₀ fz s R K E c)

theorem WE_if {t b o : Expr} {pos : Pos} (h : WT S σ t fun c => (c = true → WE S σ b Q) ∧ (c = false → WE S σ o Q)) : WE S σ (.IfExp t b o pos) Q := by
  intro h₀ fz₀ fz s R K E c
  refine wpAny_IfExp (h h₀ fz₀ fz s R _ _ fun y h' tk' fz' q sub R' => ?_)
  cases y with
  | true => exact q.1 rfl h₀ fz₀ fz' { s with heap := h', toks := tk' } R' _ _ fun d w h3 tk3 fz3 q3 sub3 => c d w h3 tk3 fz3 q3 fun p hp => sub3 p (sub p hp)
  | false => exact q.2 rfl h₀ fz₀ fz' { s with heap := h', toks := tk' } R' _ _ fun d w h3 tk3 fz3 q3 sub3 => c d w h3 tk3 fz3 q3 fun p hp => sub3 p (sub p hp)
end
end Mine
end

section
open PySem PySem.W PyProof.Rows PySem.Calls
set_option maxRecDepth 10000
namespace Mine

theorem entry_unchain : entryFor table "proto.unchain" = some Builtin.«proto.unchain» := entryFor_of_tree (by kernel_rfl)
section
variable {prog : Program} {w : World} {A : Around} {E : Value → Shared → Prop} {s : Shared}

theorem unchain_none {e c : Addr} {o : Obj} {vs : Array Value} {Q : Value → Shared → Prop} (ho : s.heap.get? c = some o) (hd : o.data = .fields vs) (h2 : vs[2]? = some .none) (h : Q .none s) :
    wpAny (model prog w) A (runValue (.builtin "proto.unchain" ⟨[.ref e, .ref c, .ref c, .bool false], []⟩)) Q E s := by
  refine wpAny_runValue (codeAny_builtin entry_unchain ?_)
  show wpAny _ _ (field (.ref c) 2 >>= _) _ _ s
  refine wpAny_bind (wpAny_field ho hd h2 ?_)
  show wpAny _ _ (if (Value.none == Value.none) = true then _ else _) _ _ s
  rw [if_pos (show (Value.none == Value.none) = true from rfl)]
  exact wpAny_pure h
theorem raiseNew_ok {α : Type} {e : Addr} {oe : Obj} {ve : Array Value} {Q : α → Shared → Prop} (hh : HandOK A s.heap) (he : s.heap.get? e = some oe) (hd : oe.data = .fields ve) (hz : 2 < ve.size) (hn : ∀ c, A.handled = some (.ref c) → e ≠ c)
    (h : ∀ h', Heap.SameBut e s.heap h' → (∃ oe' ve', h'.get? e = some oe' ∧ oe'.cls = oe.cls ∧ oe'.data = .fields ve') → E (.ref e) { s with heap := h' }) : wpAny (model prog w) A (raiseNew (.ref e) : Sem α) Q E s := by
  unfold raiseNew
  refine wpAny_bind (wpAny_handled ?_)
  rcases hh with hh | ⟨c, o, vs, hh, ho, hdo, h2⟩
  · rw [hh]
    exact wpAny_bind (wpAny_pure (wpAny_throw (h s.heap (Heap.SameBut.refl ..) ⟨oe, ve, he, rfl, hd⟩)))
  · rw [hh]
    have hne : ¬ ((Value.ref c != Value.ref e) = false) := by
      have : e ≠ c := hn c hh
      simp [bne, this.symm]
    dsimp only
    rw [if_pos (by simpa using hne)]
    refine wpAny_bind (wpAny_holding (unchain_none ho hdo h2 ?_))
    unfold updateField
    refine hidG fun zG zh => ?_
    obtain ⟨k, dd, dt, sl⟩ := oe
    refine zh ?_
    clear zh zG
    simp only at hd
    subst hd
    refine wpAny_bind (wpAny_bind (wpAny_load he ?_))
    dsimp only
    rw [if_pos hz]
    refine wpAny_update he (wpAny_throw (h _ (Heap.SameBut.update ..) ?_))
    exact ⟨_, _, Heap.get?_update_self _ he rfl, rfl, rfl⟩

theorem tup_end {it t : Addr} {i : Nat} {items : Array Value} {Q : Option Value → Shared → Prop} (hh : HandOK A s.heap) (hc : ∀ c, A.handled = some (.ref c) → c ≠ it)
    (hit : IsTupIter s.heap it t i) (ht : IsTup s.heap t items) (hx : items[i]? = none)
    (hQ : ∀ h', Heap.ExtBut it s.heap h' → Q none { s with heap := h' }) : wpAny (model prog w) A (pyNext (.ref it)) Q E s := by
  refine hidG fun zG zh => ?_
  obtain ⟨o, ho, hcl, hd⟩ := id hit
  refine zh ?_
  clear zh zG
  refine hidG fun zG zh => ?_
  obtain ⟨ol, hol, _, nl, hdl⟩ := ht
  refine zh ?_
  clear zh zG
  unfold pyNext
  refine wpAny_bind (wpAny_attempt (wpAny_callSpecial?_slot (name := Str.ofString "__next__") hit.typeIs slot_tupleiter_next
    (wpAny_call_entry slot_tupleiter_next hit.typeIs entry_tupleiter_next ?_ (args_tupleiter_next _))))
  show wpAny _ _ (field (.ref it) 0 >>= _) _ _ s
  refine wpAny_bind (wpAny_field ho hd (x := .ref t) rfl ?_)
  show wpAny _ _ (if (Value.ref t == Value.none) = true then _ else _) _ _ s
  rw [if_neg (show ¬ ((Value.ref t == Value.none) = true) from Bool.false_ne_true)]
  show wpAny _ _ (field (.ref it) 1 >>= _) _ _ s
  refine wpAny_bind (wpAny_field ho hd (x := .int i 0) rfl ?_)
  show wpAny _ _ (seqItems? (.ref t) >>= _) _ _ s
  refine wpAny_bind (wpAny_seqItems hol hdl ?_)
  simp only [Int.toNat_natCast, hx]
  refine wpAny_bind (wpAny_rule (wpAny_bind (wpAny_setField ho hd (by simp) ?_)))
  have kb : Heap.ExtBut it s.heap (s.heap.update it (Obj.mapFields fun x => x.setIfInBounds 0 Value.none)) := (Heap.SameBut.update ..).extBut
  generalize s.heap.update it (Obj.mapFields fun x => x.setIfInBounds 0 Value.none) = hu at kb ⊢
  show wpAny _ _ (newExc (.type "StopIteration") [] >>= _) _ _ _
  refine wpAny_bind ?_
  simp only [newExc, newTuple]
  refine wpAny_bind (wpAny_newObj_type ?_ (by size_fits))
  refine wpAny_bind (m := firstArgMember _ _) (wpAny_of_eq (a := Value.none) (by first | rfl | (simp only [firstArgMember]; rfl)) ?_)
  refine wpAny_newObj_type ?_ (by size_fits)
  dsimp only
  generalize hg : (hu.push { cls := .type "tuple", data := .seq ([] : List Value).toArray }) = hv
  have kv : Heap.ExtBut it s.heap hv := by rw [← hg]; exact kb.push _
  refine raiseNew_ok (A := A.in1) ?_ (Heap.get?_push_size _ rfl) rfl (by simp; walk_at "o") ?_ ?_
  · rcases hh with hh | ⟨c, oc, vs, e, hoc, hdc, h2⟩
    · exact .inl hh
    · exact .inr ⟨c, oc, vs, e, Heap.get?_push_of_some _ (kv c oc (hc c e) hoc), hdc, h2⟩
  · intro c e
    rcases hh with hh | ⟨c', oc, vs, e', hoc, hdc, h2⟩
    · rw [show A.in1.handled = A.handled from rfl, hh] at e; cases e
    · rw [show A.in1.handled = A.handled from rfl, e'] at e
      cases e
      have := Heap.lt_size (kv c oc (hc c e') hoc)
      exact (Nat.ne_of_lt this).symm
  · intro h' hs' ⟨oe, ve, hoe, hce, hde⟩
    refine wpAny_bind (wpAny_isInstance (T := "StopIteration") (b := true) ⟨_, hoe, hce⟩ isSubtype_stop ?_)
    refine wpAny_pure (hQ _ fun b ob hb e => hs'.extBut b ob ?_ (Heap.get?_push_of_some _ (kv b ob hb e)))
    have := Heap.lt_size (kv b ob hb e)
    exact Nat.ne_of_lt this

theorem unpack_tup {t : Addr} {items : Array Value} {Q : List Value → Shared → Prop} (hh : HandOK A s.heap) (ht : IsTup s.heap t items)
    (hQ : ∀ h', Kp s.heap h' → Q items.toList { s with heap := h' }) : wpAny (model prog w) A (unpackItems (.ref t) items.size none) Q E s := by
  have hlt : t ≠ s.heap.objs.size := by obtain ⟨o, ho, _⟩ := ht; exact Nat.ne_of_lt (Heap.lt_size ho)
  unfold unpackItems
  refine wpAny_bind ?_
  unfold notIterableAtAll
  refine wpAny_bind (wpAny_specialOf ht.typeIs slot_tuple_iter.lookup ?_)
  refine wpAny_pure ?_
  simp only [Bool.false_eq_true, if_false]
  refine wpAny_bind (wpAny_holding (iter_tuple ht ?_))
  refine wpAny_bind (wpAny_holding (draw_tuple hlt items.size 0 _ _ ⟨_, Heap.get?_push_size _ rfl, rfl, rfl⟩ (ht.push _) (by walk_at "o") fun h₁ hit₁ hs₁ => ?_))
  have hall : List.take items.size (List.drop 0 items.toList) = items.toList := by
    rw [List.drop_zero]; exact List.take_of_length_le (by simp)
  rw [hall, if_neg (by simp)]
  have ht₁ : IsTup h₁ t items := (ht.push _).extBut hs₁.extBut hlt
  have k₁ : ∀ b o, s.heap.get? b = some o → b ≠ s.heap.objs.size := fun b o e => Nat.ne_of_lt (Heap.lt_size e)
  have hh₁ : HandOK A h₁ := Kp.handOK hh fun b o e => hs₁.extBut b o (k₁ b o e) (Heap.get?_push_of_some _ e)
  refine wpAny_bind (wpAny_holding (tup_end hh₁ ?_ hit₁ ht₁ (by simp) fun h₂ he₂ => ?_))
  · intro c e
    rcases hh with hh | ⟨c', oc, vs, e', hoc, hdc, h2⟩
    · rw [hh] at e; cases e
    · rw [e'] at e; cases e; exact k₁ _ _ hoc
  · simp only [Option.isSome_none, Bool.false_eq_true, if_false]
    exact wpAny_pure (hQ h₂ fun b o e => he₂ b o (k₁ b o e) (hs₁.extBut b o (k₁ b o e) (Heap.get?_push_of_some _ e)))
end
end Mine
end

section
open PySem PySem.W PyProof.Rows PySem.Calls
set_option maxRecDepth 10000
namespace Mine

inductive Out where
  | next | brk | cont
  | ret (d : Dat)
noncomputable def OutR (fz : Led) : Flow → Out → Prop
  | .next, .next => True
  | .brk, .brk => True
  | .cont, .cont => True
  | .ret v, .ret d => DatIn fz v d
  | _, _ => False

noncomputable abbrev CS (S : St) (h₀ : Heap) (fz₀ fz : Led) (s : Shared) (Q : Out → Sg → Prop) (K : Flow → Shared → Prop) : Prop :=
  ∀ (o : Out) (σ' : Sg) (f : Flow) (h' : Heap) (tk' : Nat) (fz' : Led), Q o σ' → (∀ p ∈ fz, p ∈ fz') → Rel S h₀ fz₀ σ' fz' h' → OutR fz' f o → K f { s with heap := h', toks := tk' }
noncomputable def WS (S : St) (σ : Sg) (ss : List Stmt) (Q : Out → Sg → Prop) : Prop :=
  ∀ (h₀ : Heap) (fz₀ fz : Led) (s : Shared), Rel S h₀ fz₀ σ fz s.heap → ∀ (K : Flow → Shared → Prop) (E : Value → Shared → Prop), CS S h₀ fz₀ fz s Q K → wpAny S.M S.A (execs ss S.env) K E s
noncomputable def WX (S : St) (σ : Sg) (st : Stmt) (Q : Out → Sg → Prop) : Prop :=
  ∀ (h₀ : Heap) (fz₀ fz : Led) (s : Shared), Rel S h₀ fz₀ σ fz s.heap → ∀ (K : Flow → Shared → Prop) (E : Value → Shared → Prop), CS S h₀ fz₀ fz s Q K → wpAny S.M S.A (exec st S.env) K E s
noncomputable def WG (S : St) (σ : Sg) (t : Expr) (d : Dat) (Q : Sg → Prop) : Prop :=
  ∀ (h₀ : Heap) (fz₀ fz : Led) (s : Shared) (v : Value), Rel S h₀ fz₀ σ fz s.heap → DatIn fz v d → ∀ (K : Unit → Shared → Prop) (E : Value → Shared → Prop),
    (∀ σ' h' tk', Q σ' → Rel S h₀ fz₀ σ' fz h' → K () { s with heap := h', toks := tk' }) → wpAny S.M S.A (assign t S.env v) K E s

section
variable {S : St} {σ : Sg} {Q : Out → Sg → Prop}

theorem WS.mono {ss : List Stmt} {Q' : Out → Sg → Prop} (h : WS S σ ss Q) (hq : ∀ o σ', Q o σ' → Q' o σ') : WS S σ ss Q' :=
  fun h₀ fz₀ fz s R K E c => h h₀ fz₀ fz s R K E fun o σ' f h' tk' fz' q => c o σ' f h' tk' fz' (hq o σ' q)
theorem WX.mono {ss : Stmt} {Q' : Out → Sg → Prop} (h : WX S σ ss Q) (hq : ∀ o σ', Q o σ' → Q' o σ') : WX S σ ss Q' :=
  fun h₀ fz₀ fz s R K E c => h h₀ fz₀ fz s R K E fun o σ' f h' tk' fz' q => c o σ' f h' tk' fz' (hq o σ' q)

theorem WS_nil (q : Q .next σ) : WS S σ [] Q := fun _ _ fz s R _ _ c => wpAny_execs_nil (c .next σ .next s.heap s.toks fz q (fun _ h => h) R trivial)

noncomputable def Then (S : St) (rest : List Stmt) (Q : Out → Sg → Prop) : Out → Sg → Prop
  | .next, σ' => WS S σ' rest Q
  | o, σ' => Q o σ'
theorem WS_cons {st : Stmt} {rest : List Stmt} (h : WX S σ st (Then S rest Q)) : WS S σ (st :: rest) Q := by
  intro h₀ fz₀ fz s R K E c
  refine wpAny_execs_cons (h h₀ fz₀ fz s R _ _ fun o σ' f h' tk' fz' q sub R' ho => ?_)
  have key : ∀ (q : Q o σ'), K f { s with heap := h', toks := tk' } := fun q => c o σ' f h' tk' fz' q sub R' ho
  cases o with
  | next =>
    cases f with
    | next => exact q h₀ fz₀ fz' { s with heap := h', toks := tk' } R' _ _ fun o σ'' f h'' tk'' fz'' q' sub' => c o σ'' f h'' tk'' fz'' q' fun p hp => sub' p (sub p hp)
    | brk => cases ho
    | cont => cases ho
    | ret v => cases ho
  | brk =>
    cases f with
    | brk => exact key q
    | next => cases ho
    | cont => cases ho
    | ret v => cases ho
  | cont =>
    cases f with
    | cont => exact key q
    | next => cases ho
    | brk => cases ho
    | ret v => cases ho
  | ret d =>
    cases f with
    | ret v => exact key q
    | next => cases ho
    | brk => cases ho
    | cont => cases ho

theorem RelAt.mut {h₀ h h' : Heap} {fz₀ fz : Led} {μ μ' : Str → Option Value} {oa : Option Addr} {σ' : Sg} (R : RelAt S h₀ fz₀ σ fz h μ oa) {a : Addr} (ha : a ∈ S.muts) (hs : Heap.ExtBut a h h') (hin : (h'.get? a).isSome = true)
    (ns : ∃ m, h'.Ns S.env.locals m ∧ ∀ x, S.env.kindOf x = some .local → m x = μ' x) (cells : ∀ x c, S.env.cells.lookup x = some c → h'.IsCell c (μ' x))
    (dom : ∀ x b, σ'.get x = some b → isVar S.env x = true) (bds : ∀ x b, σ'.get x = some b → BdR S fz h' μ' oa x b) (uniq : ∀ x y dx dy, σ'.get x = some (.own dx) → σ'.get y = some (.own dy) → x = y) :
    RelAt S h₀ fz₀ σ' fz h' μ' oa := by
  have ne : ∀ b, b ∉ S.muts → b ≠ a := fun b hb e => hb (e ▸ ha)
  refine { ok := R.ok, gl := R.gl, gz := R.gz, hk := R.hk, keep := fun b o e => hs b o ?_ (R.keep b o e), ns := ns, cells := cells, cin := R.cin, mutsNew := R.mutsNew, mutsIn := ?_, mutsFz := R.mutsFz, held := fun p hp => hs _ _ (ne _ (R.mutsFz p hp)) (R.held p hp), fzNew := R.fzNew, fz0 := R.fz0, dom := dom, bds := bds, oaOk := ?_, uniq := uniq, tape := ?_ }
  · rintro rfl; rw [R.mutsNew _ ha] at e; cases e
  · intro b hb
    by_cases e : b = a
    · subst e; exact hin
    · have := R.mutsIn b hb
      obtain ⟨o, ho⟩ := Option.isSome_iff_exists.mp this
      rw [hs b o e ho]; rfl
  · intro b hb
    refine hidG fun zG zh => ?_
    obtain ⟨e1, e2, e3, e4, e5⟩ := R.oaOk b hb
    refine zh ?_
    clear zh zG
    refine ⟨e1, e2, e3, ?_, e5⟩
    obtain ⟨o, ho⟩ := Option.isSome_iff_exists.mp e4
    rw [hs b o (ne _ e1) ho]; rfl
  · exact R.tape.step R.ok (fun b hb o ho => hs b o (ne b (R.tape.each b hb).1) ho) (fun b hb => (R.tape.each b hb).2.1) fun p hp => .inl hp

theorem store_var {h₀ : Heap} {fz₀ fz : Led} {s : Shared} {μ : Str → Option Value} {oa : Option Addr} (R : RelAt S h₀ fz₀ σ fz s.heap μ oa) {x : Str} {v : Value} (hx : isVar S.env x = true) (hf : S.fn = true ∨ S.env.kindOf x = some .local)
    {K : Unit → Shared → Prop} {E : Value → Shared → Prop} {σ' : Sg} (dom : ∀ y b, σ'.get y = some b → isVar S.env y = true) (uniq : ∀ x y dx dy, σ'.get x = some (.own dx) → σ'.get y = some (.own dy) → x = y)
    (bds : ∀ h', (∀ b o, b ∉ S.muts → s.heap.get? b = some o → h'.get? b = some o) → ∀ y b, σ'.get y = some b → BdR S fz h' (fun z => if z = x then some v else μ z) oa y b)
    (h : ∀ h' tk', RelAt S h₀ fz₀ σ' fz h' (fun z => if z = x then some v else μ z) oa → K () { s with heap := h', toks := tk' }) : wpAny S.M S.A (storeName S.env x v) K E s := by
  unfold isVar at hx
  split at hx
  · rename_i hk
    obtain ⟨m, hm, e⟩ := R.ns
    refine wpAny_storeName_local hk hm (fun h' hn hs => h h' _ ?_) (by rw [R.ok.kind]; rfl)
    have ha := R.ok.hL
    have hs' : ∀ b o, b ∉ S.muts → s.heap.get? b = some o → h'.get? b = some o := fun b o hb e => hs.extBut b o (fun q => hb (q ▸ ha)) e
    refine R.mut ha hs.extBut ?_ ⟨_, hn, fun y hy => ?_⟩ (fun y c hc => ?_) dom (bds h' hs') uniq
    · obtain ⟨o, _, _, ho, _⟩ := hn; rw [ho]; rfl
    · show (if y = x then some v else m y) = (if y = x then some v else μ y)
      by_cases q : y = x
      · rw [if_pos q, if_pos q]
      · rw [if_neg q, if_neg q]; exact e y hy
    · have hcell := R.cells y c hc
      have hne : c ≠ S.env.locals := by
        rintro rfl
        obtain ⟨o, ho, hd⟩ := hcell
        refine hidG fun zG zh => ?_
        obtain ⟨o', es, ep, ho', hd', _⟩ := hm
        refine zh ?_
        clear zh zG
        rw [ho] at ho'; cases ho'; rw [hd] at hd'; cases hd'
      have hyx : y ≠ x ∨ y = x := by by_cases q : y = x <;> simp [q]
      rcases hyx with q | q
      · rw [if_neg q]; exact hcell.sameBut hs hne
      · subst q
        exact (R.ok.localNot y hk c hc).elim
  · rename_i hk
    obtain ⟨c, hc⟩ := Option.isSome_iff_exists.mp hx
    rcases hf with hf | hf
    · have hcell := R.cells x c hc
      obtain ⟨hcl, hcm⟩ := R.ok.cellL hf x c hc
      refine wpAny_storeName_cell R.ok.kind hk hc hcell fun h' hv hs => h h' s.toks ?_
      have hs' : ∀ b o, b ∉ S.muts → s.heap.get? b = some o → h'.get? b = some o := fun b o hb e => hs.extBut b o (fun q => hb (q ▸ hcm)) e
      refine R.mut hcm hs.extBut ?_ ?_ (fun y c' hc' => ?_) dom (bds h' hs') uniq
      · obtain ⟨o, ho, _⟩ := hv; rw [ho]; rfl
      · obtain ⟨m, hm, e⟩ := R.ns
        refine ⟨m, hm.sameBut hs (Ne.symm hcl), fun y hy => ?_⟩
        have : y ≠ x := by rintro rfl; rw [hk] at hy; cases hy
        rw [if_neg this]; exact e y hy
      · by_cases q : y = x
        · subst q; rw [hc] at hc'; cases hc'; simpa using hv
        · rw [if_neg q]
          exact (R.cells y c' hc').sameBut hs fun e => q (R.ok.apart hf y c' x c hc' hc e)
    · rw [hk] at hf; cases hf
  · cases hx

theorem store_val {h₀ : Heap} {fz₀ fz : Led} {s : Shared} (R : Rel S h₀ fz₀ σ fz s.heap) {x : Str} {v : Value} {d : Dat} (hi : DatIn fz v d) (hx : isVar S.env x = true) (hf : S.fn = true ∨ S.env.kindOf x = some .local)
    {K : Unit → Shared → Prop} {E : Value → Shared → Prop} (h : ∀ h' tk', Rel S h₀ fz₀ (σ.set x (.val d)) fz h' → K () { s with heap := h', toks := tk' }) : wpAny S.M S.A (storeName S.env x v) K E s := by
  obtain ⟨μ, oa, R⟩ := R
  refine store_var (σ' := σ.set x (.val d)) R hx hf (fun y b e => ?_) (fun y z dy dz ey ez => ?_) (fun h' hs y b e => ?_) fun h' tk' R' => h h' tk' ⟨_, _, R'⟩
  · rw [Sg.get_set] at e
    split at e
    · rename_i q; subst q; exact hx
    · exact R.dom y b e
  · rw [Sg.get_set] at ey ez
    split at ey
    · cases ey
    · split at ez
      · cases ez
      · exact R.uniq y z dy dz ey ez
  · rw [Sg.get_set] at e
    split at e
    · rename_i q
      subst q
      cases e
      exact ⟨v, by simp, hi⟩
    · rename_i q
      have r := R.bds y b e
      have r' : BdR S fz h' μ oa y b := r.mono (fun _ h => h) fun a ha o ho => hs a o (R.oaOk a ha).1 ho
      have hm : (if y = x then some v else μ y) = μ y := if_neg q
      cases b with
      | val d' => obtain ⟨u, e1, e2⟩ := r'; exact ⟨u, by simpa [q] using e1, e2⟩
      | own ds => obtain ⟨a, o, e1, e2, e3⟩ := r'; exact ⟨a, o, e1, by simpa [q] using e2, e3⟩
      | tape => obtain ⟨ta, tc, e1, e2⟩ := r'; exact ⟨ta, tc, e1, by simpa [q] using e2⟩
      | cells => obtain ⟨ta, tc, e1, e2⟩ := r'; exact ⟨ta, tc, e1, by simpa [q] using e2⟩
end
end Mine
end

section
open PySem PySem.W PyProof.Rows PySem.Calls
set_option maxRecDepth 10000
namespace Mine

section
variable {S : St} {σ : Sg} {Q : Out → Sg → Prop}

theorem WX_assign {x : Str} {pos' : Pos} {value : Expr} {pos : Pos} (h : WE S σ value fun d => Q .next (σ.set x (.val d))) (hx : isVar S.env x = true) (hf : S.fn = true)
    (hs : ∀ line env, swapsWith value (some (.Name x pos')) line env = pure false := by intro _ _; rfl) : WX S σ (.Assign [.Name x pos'] value pos) Q := by
  intro h₀ fz₀ fz s ⟨μ, oa, R⟩ K E c
  refine wpAny_Assign_Name (h ⟨h₀, μ, oa⟩ fz₀ fz s R _ _ fun d v h' tk' fz' q sub R' hi => ?_) (hs _ _)
  exact store_val (s := { s with heap := h', toks := tk' }) R'.rel hi hx (.inl hf) fun h'' tk'' R'' => c .next _ .next h'' tk'' fz' q sub R'' trivial
theorem WX_return {e : Expr} {pos : Pos} (h : WE S σ e fun d => Q (.ret d) σ) : WX S σ (.Return (some e) pos) Q := by
  intro h₀ fz₀ fz s ⟨μ, oa, R⟩ K E c
  exact wpAny_Return_some (h ⟨h₀, μ, oa⟩ fz₀ fz s R _ _ fun d v h' tk' fz' q sub R' hi => c (.ret d) σ (.ret v) h' tk' fz' q sub R'.rel hi)
theorem WX_if {t : Expr} {b o : List Stmt} {pos : Pos} (h : WT S σ t fun c => (c = true → WS S σ b Q) ∧ (c = false → WS S σ o Q)) : WX S σ (.If t b o pos) Q := by
  intro h₀ fz₀ fz s ⟨μ, oa, R⟩ K E c
  refine wpAny_If (h ⟨h₀, μ, oa⟩ fz₀ fz s R _ _ fun y h' tk' fz' q sub R' => ?_)
  replace R' := R'.rel
  cases y with
  | true =>
    rw [if_pos rfl]
    exact q.1 rfl h₀ fz₀ fz' { s with heap := h', toks := tk' } R' _ _ fun o σ' f h3 tk3 fz3 q3 sub3 => c o σ' f h3 tk3 fz3 q3 fun p hp => sub3 p (sub p hp)
  | false =>
    rw [if_neg Bool.false_ne_true]
    exact q.2 rfl h₀ fz₀ fz' { s with heap := h', toks := tk' } R' _ _ fun o σ' f h3 tk3 fz3 q3 sub3 => c o σ' f h3 tk3 fz3 q3 fun p hp => sub3 p (sub p hp)
theorem WX_break {pos : Pos} (q : Q .brk σ) : WX S σ (.Break pos) Q := fun _ _ fz s R _ _ c => wpAny_Break (c .brk σ .brk s.heap s.toks fz q (fun _ h => h) R trivial)
noncomputable def Turn (J : Sg → Prop) (Q : Out → Sg → Prop) : Out → Sg → Prop
  | .next, σ' => J σ'
  | .cont, σ' => J σ'
  | .brk, σ' => Q .next σ'
  | .ret d, σ' => Q (.ret d) σ'

theorem WX_while {t : Expr} {body : List Stmt} {pos : Pos} (J : Nat → Sg → Prop) (n : Nat) (h0 : J n σ)
    (ht : ∀ n σ', J n σ' → WT S σ' t fun c => (c = true → WS S σ' body (Turn (fun σ'' => ∃ m, m < n ∧ J m σ'') Q)) ∧ (c = false → Q .next σ')) : WX S σ (.While t body [] pos) Q := by
  intro h₀ fz₀ fz s R K E c
  refine wpAny_While ?_
  refine codeAny_whileLoop (fun n s' => ∃ h' tk' fz' σ', s' = { s with heap := h', toks := tk' } ∧ (∀ p ∈ fz, p ∈ fz') ∧ Rel S h₀ fz₀ σ' fz' h' ∧ J n σ') ?_ n ⟨s.heap, s.toks, fz, σ, rfl, fun _ h => h, R, h0⟩
  intro n s' zq
  refine hidG fun zG zh => ?_
  obtain ⟨h', tk', fz', σ', rfl, sub, ⟨μ', oa', R'⟩, hJ⟩ := zq
  refine zh ?_
  clear zh zG
  refine ht n σ' hJ ⟨h₀, μ', oa'⟩ fz₀ fz' { s with heap := h', toks := tk' } R' _ _ fun y h2 tk2 fz2 q sub2 R2 => ?_
  replace R2 := R2.rel
  cases y with
  | true =>
    rw [if_pos rfl]
    refine q.1 rfl h₀ fz₀ fz2 { s with heap := h2, toks := tk2 } R2 _ _ fun o σ3 f h3 tk3 fz3 q3 sub3 R3 ho => ?_
    have sub' : ∀ p ∈ fz, p ∈ fz3 := fun p hp => sub3 p (sub2 p (sub p hp))
    cases o with
    | next =>
      cases f <;> first | (exact False.elim ho) | skip
      obtain ⟨m, hm, hj⟩ := q3
      exact ⟨m, hm, h3, tk3, fz3, σ3, rfl, sub', R3, hj⟩
    | cont =>
      cases f <;> first | (exact False.elim ho) | skip
      obtain ⟨m, hm, hj⟩ := q3
      exact ⟨m, hm, h3, tk3, fz3, σ3, rfl, sub', R3, hj⟩
    | brk =>
      cases f <;> first | (exact False.elim ho) | skip
      exact c .next σ3 .next h3 tk3 fz3 q3 sub' R3 trivial
    | ret d =>
      cases f <;> first | (exact False.elim ho) | skip
      exact c (.ret d) σ3 _ h3 tk3 fz3 q3 sub' R3 ho
  | false =>
    rw [if_neg Bool.false_ne_true]
    exact wpAny_execs_nil (c .next σ' .next h2 tk2 fz2 (q.2 rfl) (fun p hp => sub2 p (sub p hp)) R2 trivial)

-- targets
theorem WG_name {x : Str} {pos : Pos} {d : Dat} {Q : Sg → Prop} (q : Q (σ.set x (.val d))) (hx : isVar S.env x = true) (hf : S.fn = true ∨ S.env.kindOf x = some .local) : WG S σ (.Name x pos) d Q := by
  intro h₀ fz₀ fz s v R hi K E c
  exact wpAny_assign_Name (store_val R hi hx hf fun h' tk' R' => c _ h' tk' q R')

noncomputable def WGL (S : St) (σ : Sg) (ts : List Expr) (ds : List Dat) (Q : Sg → Prop) : Prop :=
  ∀ (h₀ : Heap) (fz₀ fz : Led) (s : Shared) (vs : List Value), Rel S h₀ fz₀ σ fz s.heap → DatAll fz vs ds → ∀ (K : Unit → Shared → Prop) (E : Value → Shared → Prop),
    (∀ σ' h' tk', Q σ' → Rel S h₀ fz₀ σ' fz h' → K () { s with heap := h', toks := tk' }) → wpAny S.M S.A (assignInOrder ((assignEach ts S.env).map (·.2)) vs) K E s
theorem WGL_nil {Q : Sg → Prop} (q : Q σ) : WGL S σ [] [] Q := by
  intro h₀ fz₀ fz s vs R hi K E c
  exact wpAny_pure (c σ s.heap s.toks q R)
theorem WGL_cons {t : Expr} {ts : List Expr} {d : Dat} {ds : List Dat} {Q : Sg → Prop} (h : WG S σ t d fun σ' => WGL S σ' ts ds Q)
    (ha : ∀ env, assignEach (t :: ts) env = (false, assign t env) :: assignEach ts env := by intro _; rfl) : WGL S σ (t :: ts) (d :: ds) Q := by
  intro h₀ fz₀ fz s vs R hi K E c
  refine hidG fun zG zh => ?_
  obtain ⟨v, r, rfl, h1, h2⟩ := da_cons hi
  refine zh ?_
  clear zh zG
  rw [ha S.env]
  refine assignInOrder_cons (h h₀ fz₀ fz s v R h1 _ _ fun σ' h' tk' q R' => ?_)
  exact q h₀ fz₀ fz { s with heap := h', toks := tk' } r R' h2 _ _ fun σ'' h'' tk'' q' R'' => c σ'' h'' tk'' q' R''

theorem isTup_of {fz : Led} {h : Heap} {a : Addr} {vs : List Value} {n : Nat} (H : Held fz h) (hm : (a, ({ cls := .type "tuple", data := .seq vs.toArray n } : Obj)) ∈ fz) : IsTup h a vs.toArray := ⟨_, H _ hm, rfl, n, rfl⟩
theorem isList_of {fz : Led} {h : Heap} {a : Addr} {vs : List Value} {n : Nat} (H : Held fz h) (hm : (a, listOf vs.toArray n) ∈ fz) : h.IsList a vs.toArray := ⟨_, H _ hm, rfl, n, rfl⟩
theorem Rel.held {h₀ h : Heap} {fz₀ fz : Led} (R : Rel S h₀ fz₀ σ fz h) : Held fz h := by obtain ⟨_, _, r⟩ := R; exact r.held
theorem Rel.ok {h₀ h : Heap} {fz₀ fz : Led} (R : Rel S h₀ fz₀ σ fz h) : StOK S := by obtain ⟨_, _, r⟩ := R; exact r.ok
theorem Rel.hk {h₀ h : Heap} {fz₀ fz : Led} (R : Rel S h₀ fz₀ σ fz h) : HandOK S.A h := by obtain ⟨_, _, r⟩ := R; exact Kp.handOK r.hk r.keep

theorem WG_tuple {es : List Expr} {k : Nat} {pos : Pos} {ds : List Dat} {Q : Sg → Prop} (h : WGL S σ es ds Q)
    (hn : ∀ env, (assignEach es env).length = ds.length := by intro _; rfl) (hstar : ∀ env, (assignEach es env).findIdx? (·.1) = none := by intro _; rfl) : WG S σ (.Tuple es k pos) (.tuple ds) Q := by
  intro h₀ fz₀ fz s v R hi K E c
  refine hidG fun zG zh => ?_
  obtain ⟨a, vs, n, rfl, hm, hall⟩ := di_tuple hi
  refine zh ?_
  clear zh zG
  have ht := isTup_of R.held hm
  rw [assign_Tuple]
  refine wpAny_bind (wpAny_standAt ?_)
  unfold unpack
  have hlen : (assignEach es S.env).length = vs.toArray.size := by rw [hn, List.size_toArray, hall.length]
  rw [hlen, hstar]
  refine wpAny_bind (wpAny_holding (unpack_tup R.hk ht fun h' k => ?_))
  exact h h₀ fz₀ fz { s with heap := h' } vs (R.grow k) hall _ _ fun σ' h'' tk'' q R'' => c σ' h'' tk'' q R''

theorem WX_unpack {es : List Expr} {k : Nat} {tpos : Pos} {value : Expr} {pos : Pos} (h : WE S σ value fun d => WG S σ (.Tuple es k tpos) d fun σ' => Q .next σ')
    (hs : ∀ line env, swapsWithSole [.Tuple es k tpos] value line env = pure false := by intro _ _; rfl) (hw : swappedStores [.Tuple es k tpos] value S.env = pure none := by rfl) : WX S σ (.Assign [.Tuple es k tpos] value pos) Q := by
  intro h₀ fz₀ fz s ⟨μ, oa, R⟩ K E c
  refine Assign_Tuple (h ⟨h₀, μ, oa⟩ fz₀ fz s R _ _ fun d v h' tk' fz' q sub R' hi => ?_) (hs _ _) hw
  exact q h₀ fz₀ fz' { s with heap := h', toks := tk' } v R'.rel hi _ _ fun σ' h'' tk'' q' R'' => c .next σ' .next h'' tk'' fz' q' sub R'' trivial

noncomputable def setRev (σ : Sg) : List (Str × Dat) → Sg
  | [] => σ
  | (x, d) :: r => (setRev σ r).set x (.val d)
theorem store_rev : ∀ (ps : List (Str × Dat)) (vs : List Value) (σ : Sg) (h₀ : Heap) (fz₀ fz : Led) (s : Shared), Rel S h₀ fz₀ σ fz s.heap → DatAll fz vs (ps.map (·.2)) → (∀ p ∈ ps, isVar S.env p.1 = true) → S.fn = true →
    ∀ (K : Unit → Shared → Prop) (E : Value → Shared → Prop), (∀ h' tk', Rel S h₀ fz₀ (ps.foldl (fun σ p => σ.set p.1 (.val p.2)) σ) fz h' → K () { s with heap := h', toks := tk' }) →
    wpAny S.M S.A (assignInOrder ((ps.map (·.1)).map fun n => bindName S.env n) vs) K E s
  | [], vs, σ, h₀, fz₀, fz, s, R, hi, hx, hf, K, E, c => wpAny_pure (c s.heap s.toks R)
  | (x, d) :: ps, vs, σ, h₀, fz₀, fz, s, R, hi, hx, hf, K, E, c => by
    refine hidG fun zG zh => ?_
    obtain ⟨v, r, rfl, h1, h2⟩ := da_cons hi
    refine zh ?_
    clear zh zG
    refine assignInOrder_cons (wpAny_bindName (store_val R h1 (hx _ (.head _)) (.inl hf) fun h' tk' R' => ?_))
    exact store_rev ps r _ h₀ fz₀ fz { s with heap := h', toks := tk' } R' h2 (fun p hp => hx p (.tail _ hp)) hf _ _ fun h'' tk'' R'' => c h'' tk'' R''
theorem da_rev {fz : Led} {vs : List Value} {ds : List Dat} (h : DatAll fz vs ds) : DatAll fz vs.reverse ds.reverse := by
  induction vs generalizing ds with
  | nil => cases h; exact .nil
  | cons v vs ih =>
    cases h with
    | cons h r =>
      rw [List.reverse_cons, List.reverse_cons]
      exact (ih r).append (.one h)

theorem WE_tuple {es : List Expr} {k : Nat} {pos : Pos} {Q : Dat → Prop} (h : WL S σ es fun ds => ds.length ≤ 1000 ∧ Q (.tuple ds)) : WE S σ (.Tuple es k pos) Q := by
  intro h₀ fz₀ fz s R K E c
  refine wpAny_Tuple (h pos h₀ fz₀ fz s R _ _ fun ds vs h' tk' fz' q sub R' hi => ⟨?_, ?_⟩)
  · rw [hi.length, sizeLine_eq]; walk_at "o"
  · refine CE.push (s := { s with heap := h', toks := tk' }) (fz := fz') (fun d v h'' tk'' fz'' q' sub' => c d v h'' tk'' fz'' q' fun p hp => sub' p (sub p hp)) R' rfl ?_ q.2
    exact .tuple (.head _) (hi.mono fun p hp => .tail _ hp)
theorem WE_list {es : List Expr} {pos : Pos} {Q : Dat → Prop} (h : WL S σ es fun ds => ds.length ≤ 1000 ∧ Q (.list ds)) : WE S σ (.List es pos) Q := by
  intro h₀ fz₀ fz s R K E c
  refine wpAny_List (h pos h₀ fz₀ fz s R _ _ fun ds vs h' tk' fz' q sub R' hi => ⟨?_, ?_⟩)
  · rw [hi.length, sizeLine_eq]; walk_at "o"
  · refine CE.push (s := { s with heap := h', toks := tk' }) (fz := fz') (fun d v h'' tk'' fz'' q' sub' => c d v h'' tk'' fz'' q' fun p hp => sub' p (sub p hp)) R' rfl ?_ q.2
    exact .list (.head _) (hi.mono fun p hp => .tail _ hp)

theorem WX_swap {es vs : List Expr} {k k' : Nat} {tpos vpos pos : Pos} {names : List Str} (h : WL S σ vs fun ds => ds.length = names.length ∧ ds.length ≤ 1000 ∧ Q .next ((names.zip ds).reverse.foldl (fun σ p => σ.set p.1 (.val p.2)) σ))
    (hx : ∀ x ∈ names, isVar S.env x = true) (hf : S.fn = true)
    (hs : ∀ line env, swapsWithSole [.Tuple es k tpos] (.Tuple vs k' vpos) line env = pure false := by intro _ _; rfl) (hw : swappedStores [.Tuple es k tpos] (.Tuple vs k' vpos) S.env = pure (some names) := by rfl) : WX S σ (.Assign [.Tuple es k tpos] (.Tuple vs k' vpos) pos) Q := by
  intro h₀ fz₀ fz s ⟨μ, oa, R⟩ K E c
  have ev : WE S σ (.Tuple vs k' vpos) fun d => ∃ ds, d = .tuple ds ∧ ds.length = names.length ∧ Q .next ((names.zip ds).reverse.foldl (fun σ p => σ.set p.1 (.val p.2)) σ) :=
    WE_tuple fun pos h₀ fz₀ fz s R K E c => h pos h₀ fz₀ fz s R K E fun ds vs h' tk' fz' q => c ds vs h' tk' fz' ⟨q.2.1, ds, rfl, q.1, q.2.2⟩
  refine Assign_Tuple_swapped (ev ⟨h₀, μ, oa⟩ fz₀ fz s R _ _ fun d v h' tk' fz' q sub R' hi => ?_) (hs _ _) hw
  replace R' := R'.rel
  refine hidG fun zG zh => ?_
  obtain ⟨ds, rfl, hlen, q⟩ := q
  refine zh ?_
  clear zh zG
  refine hidG fun zG zh => ?_
  obtain ⟨a, ws, n, rfl, hm, hall⟩ := di_tuple hi
  refine zh ?_
  clear zh zG
  have ht := isTup_of R'.held hm
  have e : names.length = ws.toArray.size := by rw [List.size_toArray, hall.length, hlen]
  rw [e]
  refine unpack_tup (s := { s with heap := h', toks := tk' }) R'.hk ht fun h'' k => ?_
  have z1 : (names.zip ds).reverse.map (·.1) = names.reverse := by rw [List.map_reverse, List.map_fst_zip (by walk_at "o")]
  have z2 : (names.zip ds).reverse.map (·.2) = ds.reverse := by rw [List.map_reverse, List.map_snd_zip (by walk_at "o")]
  rw [← z1]
  refine store_rev (names.zip ds).reverse ws.reverse σ h₀ fz₀ fz' { s with heap := h'', toks := tk' } (R'.grow k) (by rw [z2]; exact da_rev hall) (fun p hp => hx _ ?_) hf _ _ fun h3 tk3 R3 => c .next _ .next h3 tk3 fz' q sub R3 trivial
  obtain ⟨x, d⟩ := p
  exact (List.of_mem_zip (List.mem_reverse.mp hp)).1
end
end Mine
end

section
open PySem PySem.W PyProof.Rows PySem.Calls
set_option maxRecDepth 10000
namespace Mine

structure Site (G : Gp) (k : Nat) (nh : Bool) (A : Around) (fz : Led) (h : Heap) : Prop where
  gl : GlAt G h
  gz : ∀ p ∈ G.gfz, p ∈ fz
  held : Held fz h
  hk : HandOK A h
  depth : A.depth + k < recursionLimit
  units : A.units + 3 * k + 50 < cLine
  hand : nh = true → A.handled = none

noncomputable def CallOK (G : Gp) (f : Addr) (k : Nat) (nh : Bool) (ds : List Dat) (Q : Dat → Prop) : Prop :=
  ∀ (A : Around) (fz : Led) (s : Shared) (vs : List Value), Site G k nh A fz s.heap → DatAll fz vs ds → ∀ (K : Value → Shared → Prop) (E : Value → Shared → Prop),
    (∀ d v h' tk' fz', Q d → Back s.heap fz h' fz' → DatIn fz' v d → K v { s with heap := h', toks := tk' }) → wpAny (model G.prog G.w) A (call (.ref f) vs) K E s

noncomputable def Sp (G : Gp) (i k : Nat) (nh : Bool) (ds : List Dat) (Q : Dat → Prop) : Prop :=
  ∀ d f, G.defs[i]? = some d → G.mg d.name = some (.ref f) → CallOK G f k nh ds Q

theorem Sp.mono {G : Gp} {i k : Nat} {nh : Bool} {ds : List Dat} {Q Q' : Dat → Prop} (h : Sp G i k nh ds Q) (hq : ∀ d, Q d → Q' d) : Sp G i k nh ds Q' :=
  fun d f e1 e2 A fz s vs st hi K E c => h d f e1 e2 A fz s vs st hi K E fun d v h' tk' fz' q => c d v h' tk' fz' (hq d q)
theorem Sp.use {G : Gp} {i k : Nat} {nh : Bool} {ds : List Dat} {r : Dat} {Q : Dat → Prop} (h : Sp G i k nh ds (· = r)) (q : Q r) : Sp G i k nh ds Q := h.mono fun d e => e ▸ q

noncomputable def lastB : List (Str × Value) → Option Value → Str → Option Value
  | [], b, _ => b
  | (n, v) :: r, b, x => lastB r (if x = n then some v else b) x
theorem bindL_last (kindOf : Str → Option NameKind) {x : Str} (hx : kindOf x = some .local) : ∀ (binds : List (Str × Value)) (m : Str → Option Value), bindL kindOf binds m x = lastB binds (m x) x
  | [], m => rfl
  | (n, v) :: r, m => by
    unfold bindL
    rw [bindL_last kindOf hx r]
    show lastB r ((if kindOf n = some .local then fun y => if y = n then some v else m y else m) x) x = lastB r (if x = n then some v else m x) x
    congr 1
    by_cases h : x = n
    · subst h; rw [if_pos hx]
    · rw [if_neg h]; split
      · exact if_neg h
      · rfl
theorem bindC_last (kindOf : Str → Option NameKind) {x : Str} (hx : kindOf x ≠ some .local) : ∀ (binds : List (Str × Value)) (m : Str → Option Value), bindC kindOf binds m x = lastB binds (m x) x
  | [], m => rfl
  | (n, v) :: r, m => by
    unfold bindC
    rw [bindC_last kindOf hx r]
    show lastB r ((if kindOf n = some .local then m else fun y => if y = n then some v else m y) x) x = lastB r (if x = n then some v else m x) x
    congr 1
    by_cases h : x = n
    · subst h; rw [if_neg hx]
    · rw [if_neg h]; split
      · rfl
      · exact if_neg h
noncomputable def inS (x : Str) : List Str → Bool
  | [] => false
  | y :: r => sEq y x || inS x r
noncomputable def distinct : List Str → Bool
  | [] => true
  | x :: r => !inS x r && distinct r
theorem inS_iff {x : Str} : ∀ {l : List Str}, inS x l = true ↔ x ∈ l
  | [] => by simp [inS]
  | y :: r => by
    unfold inS
    rw [Bool.or_eq_true, inS_iff, sEq_iff, List.mem_cons]
    exact ⟨fun h => h.imp (fun e => e.symm) id, fun h => h.imp (fun e => e.symm) id⟩
theorem lastB_not {x : Str} {b : Option Value} : ∀ {l : List (Str × Value)}, (∀ p ∈ l, x ≠ p.1) → lastB l b x = b
  | [], _ => rfl
  | (n, v) :: r, h => by
    unfold lastB
    rw [if_neg (h _ (.head _))]
    exact lastB_not fun p hp => h p (.tail _ hp)
theorem distinct_nodup : ∀ {l : List Str}, distinct l = true → l.Nodup
  | [], _ => .nil
  | x :: r, h => by
    unfold distinct at h
    rw [Bool.and_eq_true] at h
    refine List.nodup_cons.mpr ⟨fun hm => ?_, distinct_nodup h.2⟩
    rw [inS_iff.mpr hm] at h
    exact absurd h.1 (by simp)
noncomputable def σ₀ (xs : List Str) (ds : List Dat) : Sg := xs.zip (ds.map Bd.val)
theorem σ₀_get {fz : Led} {x : Str} {b : Bd} : ∀ {xs : List Str} {vs : List Value} {ds : List Dat} {o : Option Value}, distinct xs = true → xs.length = ds.length → DatAll fz vs ds → Sg.get (σ₀ xs ds) x = some b → x ∈ xs ∧ ∃ v d, b = .val d ∧ lastB (xs.zip vs) o x = some v ∧ DatIn fz v d
  | [], vs, ds, o, _, hl, hi, e => by cases e
  | y :: xs, vs, [], o, _, hl, hi, e => by cases hl
  | y :: xs, vs, d :: ds, o, hd, hl, hi, e => by
    refine hidG fun zG zh => ?_
    obtain ⟨v, r, rfl, h1, h2⟩ := da_cons hi
    refine zh ?_
    clear zh zG
    unfold distinct at hd
    rw [Bool.and_eq_true] at hd
    have e' : (match sEq y x with | true => some (Bd.val d) | false => Sg.get (σ₀ xs ds) x) = some b := e
    cases q : sEq y x with
    | true =>
      rw [q] at e'
      have := sEq_iff.mp q
      subst this
      cases Option.some.inj e'
      refine ⟨.head _, v, d, rfl, ?_, h1⟩
      show lastB (xs.zip r) (if y = y then some v else o) y = some v
      rw [if_pos rfl]
      refine lastB_not fun p hp => ?_
      rintro rfl
      obtain ⟨p1, p2⟩ := p
      have := inS_iff.mpr (List.of_mem_zip hp).1
      rw [this] at hd
      exact absurd hd.1 (by simp)
    | false =>
      rw [q] at e'
      refine hidG fun zG zh => ?_
      obtain ⟨hm, v', d', e1, e2, e3⟩ := σ₀_get (o := o) hd.2 (by simpa using hl) h2 e'
      refine zh ?_
      clear zh zG
      refine ⟨.tail _ hm, v', d', e1, ?_, e3⟩
      show lastB (xs.zip r) (if x = y then some v else o) x = some v'
      have : ¬ x = y := fun e => by rw [e, sEq_iff.mpr rfl] at q; cases q
      rw [if_neg this]; exact e2
theorem cells_names {x : Str} {c : Addr} : ∀ {names : List (Str × NameKind)} {n : Nat} {acc : List (Str × Addr)}, (x, c) ∈ cellsFrom n names acc → (x, c) ∈ acc ∨ (x, NameKind.cell) ∈ names
  | [], n, acc, h => .inl h
  | (y, k) :: r, n, acc, h => by
    unfold cellsFrom at h
    split at h
    · rename_i hk
      rcases cells_names h with h | h
      · rcases List.mem_cons.mp h with h | h
        · cases h; exact .inr (by rw [beq_iff_eq.mp hk]; exact .head _)
        · exact .inl h
      · exact .inr (.tail _ h)
    · rcases cells_names h with h | h
      · exact .inl h
      · exact .inr (.tail _ h)

noncomputable def fnSt (G : Gp) (d : DefR) (A : Around) (L a : Addr) (code : Value) (nh : Bool) (dp : Nat) (tp : Option (Addr × Addr)) (tn : Nat := 0) (hot : List Addr := []) (hotP : Heap → Prop := fun _ => True) : St where
  G := G
  A := A.deeper (envOfC d.name d.scope L a code)
  env := envOfC d.name d.scope L a code
  muts := L :: (cellsFrom (L + 1) d.scope.names []).map (·.2)
  tp := tp
  tn := tn
  hot := hot
  hotP := hotP
  fn := true
  nh := nh
  dp := dp
noncomputable def Ret (Q : Dat → Prop) : Out → Sg → Prop
  | .ret d, _ => Q d
  | .next, _ => Q .none
  | _, _ => False

structure Plain (d : DefR) (n : Nat) : Prop where
  bind : ∀ pm code doc vs, vs.length = n → bindArgs (docDef d.name d.params d.body d.scope pm code doc) ⟨vs, []⟩ = pure ((d.params.args.map (·.arg)).zip vs)
  len : (d.params.args.map (·.arg)).length = n
  dist : distinct (d.params.args.map (·.arg)) = true
  kinds : ((d.params.args.map (·.arg)).all fun x => d.scope.names.lookup x == some .local || d.scope.names.lookup x == some .cell) = true
  mix : (d.scope.names.all fun p => p.2 != .cell || d.scope.names.lookup p.1 == some .cell) = true
  nd : distinct ((cellsFrom 0 d.scope.names []).map (·.1)) = true
  co : d.scope.isCoroutine = false
  gen : d.scope.isGenerator = false
  kind : d.scope.kind = .function

theorem enter {G : Gp} {i k : Nat} {nh : Bool} {ds : List Dat} {Q : Dat → Prop} (d : DefR) (hd : G.defs[i]? = some d) (P : Plain d ds.length)
    (hb : ∀ A L a code, WS (fnSt G d A L a code nh k none) (σ₀ (d.params.args.map (·.arg)) ds) d.body (Ret Q)) : Sp G i (k + 1) nh ds Q := by
  intro d' f hd' hf A fz s vs st hi K E c
  rw [hd] at hd'
  cases Option.some.inj hd'
  refine hidG fun zG zh => ?_
  obtain ⟨a, o, pm, code, doc, hm, ho, hdat, hcd⟩ := st.gl.fns i d hd
  refine zh ?_
  clear zh zG
  rw [hm] at hf
  cases hf
  have hlen : vs.length = ds.length := hi.length
  refine wpAny_call (call_cells_ret (by have := st.depth; walk_at "o") ho hdat st.gl.nolimit hcd (P.bind pm code doc vs hlen) (fun x hx => ?_) (fun h₁ tk F X => ?_) P.co P.gen P.kind)
  · have hx1 : x.1 ∈ d.params.args.map (·.arg) := (List.of_mem_zip (a := x.1) (b := x.2) hx).1
    have := List.all_eq_true.mp P.kinds _ hx1
    rcases Bool.or_eq_true_iff.mp this with q | q
    · exact .inl (by simpa using q)
    · have q' : d.scope.names.lookup x.1 = some .cell := by simpa using q
      exact .inr ⟨q', cellsFrom_some _ _ _ (.inl q')⟩
  · let S := fnSt G d A s.heap.objs.size f code nh k none
    let cs := cellsFrom (s.heap.objs.size + 1) d.scope.names []
    let binds := (d.params.args.map (·.arg)).zip vs
    let μ : Str → Option Value := fun x => lastB binds none x
    have hmix : ∀ x c, cs.lookup x = some c → d.scope.names.lookup x = some .cell := fun x c hc => by
      rcases cells_names (mem_of_lookup hc) with h | h
      · cases h
      · have := List.all_eq_true.mp P.mix _ h
        simpa using this
    have fresh : ∀ a, s.heap.objs.size ≤ a → s.heap.get? a = none := fun a ha => by
      cases e : s.heap.get? a with
      | none => rfl
      | some o' => exact absurd (Heap.lt_size e) (Nat.not_lt.mpr ha)
    have cabove : ∀ b ∈ cs.map (·.2), s.heap.objs.size < b := fun b hb => by
      obtain ⟨p, hp, rfl⟩ := List.mem_map.mp hb
      exact X.above p.1 p.2 hp
    have R : Rel S s.heap fz (σ₀ (d.params.args.map (·.arg)) ds) fz h₁ := by
      refine ⟨μ, none, ?_⟩
      refine { ok := ?_, gl := st.gl, gz := st.gz, hk := st.hk, keep := F.keep, ns := ⟨_, F.ns, fun x hx => bindL_last _ hx _ _⟩, cells := fun x c hc => ?_, cin := fun x c hc => .inl (.tail _ (List.mem_map.mpr ⟨(x, c), mem_of_lookup hc, rfl⟩)), mutsNew := ?_, mutsIn := ?_, mutsFz := ?_, held := fun p hp => F.keep _ _ (st.held p hp), fzNew := fun p hp => .inl hp, fz0 := fun p hp => hp, dom := ?_, bds := ?_, oaOk := (fun a e => by cases e), uniq := ?_, tape := ⟨trivial, fun b hb => (nomatch hb)⟩ }
      · refine { kind := P.kind, glob := rfl, bt := rfl, hL := .head _, inter := ?_, depth := ?_, units := ?_, hand := st.hand, frame := fun _ => rfl, apart := fun _ x c y c' hc hc' e => ?_, localNot := fun x hx c hc => ?_, cellL := fun _ x c hc => ⟨?_, ?_⟩, hotK := (fun _ _ _ _ => trivial), tapeK := (fun ta tc e => by cases e) }
        · show (d.scope.kind == .module && _) = false
          rw [P.kind]; rfl
        · show A.depth + 1 + k < _; have := st.depth; walk_at "o"
        · show A.units + 3 + 3 * k + 50 < _; have := st.units; walk_at "o"
        · exact name_of_addr X.apart (mem_of_lookup hc) (e ▸ mem_of_lookup hc')
        · have e1 : d.scope.names.lookup x = some .local := hx
          rw [hmix x c hc] at e1; cases e1
        · exact Nat.ne_of_gt (X.above x c (mem_of_lookup hc))
        · exact .tail _ (List.mem_map.mpr ⟨(x, c), mem_of_lookup hc, rfl⟩)
      · have := X.cell x c hc
        have hk : (envOfC d.name d.scope s.heap.objs.size f code).kindOf x ≠ some .local := by
          show d.scope.names.lookup x ≠ _
          rw [hmix x c hc]; intro q; cases q
        rw [bindC_last _ hk] at this
        exact this
      · intro b hb
        rcases List.mem_cons.mp hb with rfl | hb
        · exact fresh _ (Nat.le_refl _)
        · exact fresh _ (Nat.le_of_lt (cabove b hb))
      · intro b hb
        rcases List.mem_cons.mp hb with rfl | hb
        · obtain ⟨o, _, _, ho, _⟩ := F.ns; rw [ho]; rfl
        · obtain ⟨p, hp, rfl⟩ := List.mem_map.mp hb
          have hnd : (cs.map (·.1)).Nodup := cellsFrom_names d.scope.names 0 (s.heap.objs.size + 1) [] [] rfl ▸ distinct_nodup P.nd
          obtain ⟨o, ho, _⟩ := X.cell p.1 p.2 (lookup_of_mem_nodup hnd hp)
          rw [ho]; rfl
      · intro p hp hm
        have := Heap.lt_size (st.held p hp)
        rcases List.mem_cons.mp hm with e | hm
        · rw [e] at this; exact Nat.lt_irrefl _ this
        · exact Nat.lt_irrefl _ (Nat.lt_trans this (cabove _ hm))
      · intro x b e
        obtain ⟨hx, _⟩ := σ₀_get (o := none) P.dist (by rw [P.len]) hi e
        have := List.all_eq_true.mp P.kinds _ hx
        unfold isVar
        show (match d.scope.names.lookup x with | some .local => true | some .cell => (cs.lookup x).isSome | _ => false) = true
        rcases Bool.or_eq_true_iff.mp this with q | q
        · have q' : d.scope.names.lookup x = some .local := by simpa using q
          rw [q']
        · have q' : d.scope.names.lookup x = some .cell := by simpa using q
          rw [q']
          exact cellsFrom_some _ _ _ (.inl q')
      · intro x b e
        refine hidG fun zG zh => ?_
        obtain ⟨hx, v, d', rfl, e2, e3⟩ := σ₀_get (o := none) P.dist (by rw [P.len]) hi e
        refine zh ?_
        clear zh zG
        exact ⟨v, e2, e3⟩
      · intro x y dx dy e _
        refine hidG fun zG zh => ?_
        obtain ⟨hx, v, d', e', _⟩ := σ₀_get (o := none) P.dist (by rw [P.len]) hi e
        refine zh ?_
        clear zh zG
        cases e'
    refine hb A s.heap.objs.size f code s.heap fz fz { s with heap := h₁, toks := tk } R _ _ fun o σ' fl h' tk' fz' q sub R' ho => ?_
    obtain ⟨μ', oa', R'⟩ := R'
    have B : Back s.heap fz h' fz' := ⟨R'.keep, sub, R'.held, R'.fzNew⟩
    cases o with
    | ret d' => cases fl <;> first | (exact False.elim ho) | exact c d' _ h' tk' fz' q B ho
    | next => cases fl <;> first | (exact False.elim ho) | exact c .none _ h' tk' fz' q B .none
    | brk => exact q.elim
    | cont => exact q.elim
end Mine
end

section
open PySem PySem.W PyProof.Rows PySem.Calls
set_option maxRecDepth 10000
namespace Mine

theorem GlAt.of {S : St} {h₀ h : Heap} {fz₀ fz : Led} {σ : Sg} (R : Rel S h₀ fz₀ σ fz h) : GlAt S.G h := by obtain ⟨_, _, r⟩ := R; exact r.gl.keeps r.keep
theorem Rel.site {S : St} {h₀ h : Heap} {fz₀ fz : Led} {σ : Sg} (R : Rel S h₀ fz₀ σ fz h) {k : Nat} {nh : Bool} (hk : k ≤ S.dp) (hn : nh = true → S.nh = true) : Site S.G k nh S.A fz h := by
  have ok := R.ok
  have gl := GlAt.of R
  have hh := R.hk
  obtain ⟨μ, oa, r⟩ := R
  exact { gl := gl, gz := r.gz, held := r.held, hk := hh, depth := by have := ok.depth; walk_at "o", units := by have := ok.units; walk_at "o", hand := fun e => ok.hand (hn e) }

theorem RelE.site {S : St} {g : Gnd} {h : Heap} {fz₀ fz : Led} {σ : Sg} (R : RelE S g fz₀ σ fz h) {k : Nat} {nh : Bool} (hk : k ≤ S.dp) (hn : nh = true → S.nh = true) : Site S.G k nh S.A fz h := R.rel.site hk hn
theorem RelE.held {S : St} {g : Gnd} {h : Heap} {fz₀ fz : Led} {σ : Sg} (R : RelE S g fz₀ σ fz h) : Held fz h := RelAt.held R
theorem RelE.ok {S : St} {g : Gnd} {h : Heap} {fz₀ fz : Led} {σ : Sg} (R : RelE S g fz₀ σ fz h) : StOK S := RelAt.ok R
theorem RelE.gl {S : St} {g : Gnd} {h : Heap} {fz₀ fz : Led} {σ : Sg} (R : RelE S g fz₀ σ fz h) : GlAt S.G h := GlAt.of R.rel
theorem RelE.hk {S : St} {g : Gnd} {h : Heap} {fz₀ fz : Led} {σ : Sg} (R : RelE S g fz₀ σ fz h) : HandOK S.A h := Rel.hk R.rel

section
variable {S : St} {σ : Sg} {Q : Dat → Prop}

structure May (S : St) (i : Nat) (ds : List Dat) (Q : Dat → Prop) : Prop where
  it : ∃ k nh, Sp S.G i k nh ds Q ∧ k ≤ S.dp ∧ (nh = true → S.nh = true)
theorem May.mk' {i k : Nat} {nh : Bool} {ds : List Dat} {Q : Dat → Prop} {r : Dat} (sp : Sp S.G i k nh ds (· = r)) (q : Q r) (hk : k ≤ S.dp) (hn : nh = true → S.nh = true) : May S i ds Q := ⟨k, nh, sp.use q, hk, hn⟩
theorem May.mk2 {i k : Nat} {nh : Bool} {ds : List Dat} {Q Q' : Dat → Prop} (sp : Sp S.G i k nh ds Q') (q : ∀ d, Q' d → Q d) (hk : k ≤ S.dp) (hn : nh = true → S.nh = true) : May S i ds Q := ⟨k, nh, sp.mono q, hk, hn⟩

theorem WE_def {f : Str} {p pos : Pos} {e : Expr} {es : List Expr} (i : Nat) (d : DefR) (hd : S.G.defs[i]? = some d) (hn : d.name = f) (hk : S.env.kindOf f = some .globalImplicit)
    (h : WL S σ (e :: es) fun ds => May S i ds Q) (he : ∀ env, starEach (e :: es) env = (false, eval e env) :: starEach es env := by intro _; rfl) (hdb : (f == ("__debug__" : Str)) = false := by decide) :
    WE S σ (.Call (.Name f p) (e :: es) [] pos) Q := by
  intro h₀ fz₀ fz s R K E c
  subst hn
  refine hidG fun zG zh => ?_
  obtain ⟨a, o, pm, code, doc, hm, ho, hdat, hcd⟩ := R.gl.fns i d hd
  refine zh ?_
  clear zh zG
  refine Call_ (load_glob R hk hm (callWith_def hdat (h pos h₀ fz₀ fz s R _ _ fun ds vs h' tk' fz' q sub R' hi => ⟨?_, ?_⟩) (he _)) hdb)
  · refine hidG fun zG zh => ?_
    obtain ⟨a', o', pm', code', doc', hm', ho', hdat', hcd'⟩ := R'.gl.fns i d hd
    refine zh ?_
    clear zh zG
    rw [hm] at hm'
    cases hm'
    have r := R.at
    have r' := R'.at
    refine hidG fun zG zh => ?_
    obtain ⟨a3, o3, _, _, _, hm3, ho3, _⟩ := r.gl.fns i d hd
    refine zh ?_
    clear zh zG
    rw [hm] at hm3; cases hm3
    have e1 := r.keep _ _ ho3
    rw [ho] at e1; cases e1
    exact r'.keep _ _ ho3
  · refine hidG fun zG zh => ?_
    obtain ⟨k, nh, sp, hk', hn'⟩ := q.it
    refine zh ?_
    clear zh zG
    refine sp d a hd hm S.A fz' { s with heap := h', toks := tk' } vs (R'.site hk' hn') hi _ _ fun d v h'' tk'' fz'' q' B hi' => ?_
    exact c d v h'' tk'' fz'' q' (fun p hp => B.sub p (sub p hp)) (R'.back B) hi'

theorem WE_def0 {f : Str} {p pos : Pos} (i : Nat) (d : DefR) (hd : S.G.defs[i]? = some d) (hn : d.name = f) (hk : S.env.kindOf f = some .globalImplicit)
    (h : May S i [] Q) (hdb : (f == ("__debug__" : Str)) = false := by decide) : WE S σ (.Call (.Name f p) [] [] pos) Q := by
  intro h₀ fz₀ fz s R K E c
  subst hn
  refine hidG fun zG zh => ?_
  obtain ⟨a, o, pm, code, doc, hm, ho, hdat, hcd⟩ := R.gl.fns i d hd
  refine zh ?_
  clear zh zG
  refine Call_ (load_glob R hk hm (callWith_function (o := o) (args := []) (first := []) (PySem.evalArgs_none ⟨⟨ho, hdat⟩, ?_⟩)) hdb)
  refine hidG fun zG zh => ?_
  obtain ⟨k, nh, sp, hk', hn'⟩ := h.it
  refine zh ?_
  clear zh zG
  refine sp d a hd hm S.A fz s [] (R.site hk' hn') .nil _ _ fun d v h'' tk'' fz'' q' B hi' => ?_
  exact c d v h'' tk'' fz'' q' B.sub (R.back B) hi'

theorem WE_bi {f : Str} {id : String} {p pos : Pos} {e : Expr} {es : List Expr} (hk : S.env.kindOf f = some .globalImplicit) (hm : S.G.mg f = none) (hv : bootBuiltins f = some (.builtin id))
    (h : WL S σ (e :: es) fun ds => WV S (fun vs => call (.builtin id) vs) ds Q) (hn : f ≠ "__name__" := by decide) (he : ∀ env, starEach (e :: es) env = (false, eval e env) :: starEach es env := by intro _; rfl)
    (hp : ∀ pos env, (backTo pos (starEach es env)).any (·.1) = false := by intro _ _; rfl) (hdb : (f == ("__debug__" : Str)) = false := by decide) :
    WE S σ (.Call (.Name f p) (e :: es) [] pos) Q := by
  intro h₀ fz₀ fz s R K E c
  refine Call_ (load_boot R hk hm hn hv (callWith_builtin1 (h pos h₀ fz₀ fz s R _ _ fun ds vs h' tk' fz' q sub R' hi => ?_) (he _) (hp _ _)) hdb)
  exact q σ h₀ fz₀ fz' { s with heap := h', toks := tk' } vs R' hi _ _ fun d w h3 tk3 fz3 q3 sub3 => c d w h3 tk3 fz3 q3 fun p hp => sub3 p (sub p hp)

theorem WE_ty {f : Str} {T : String} {p pos : Pos} {e : Expr} {es : List Expr} (hk : S.env.kindOf f = some .globalImplicit) (hm : S.G.mg f = none) (hv : bootBuiltins f = some (.type T))
    (h : WL S σ (e :: es) fun ds => WV S (fun vs => call (.type T) vs) ds Q) (hn : f ≠ "__name__" := by decide) (he : ∀ env, starEach (e :: es) env = (false, eval e env) :: starEach es env := by intro _; rfl)
    (hp : ∀ pos env, (backTo pos (starEach es env)).any (·.1) = false := by intro _ _; rfl) (hdb : (f == ("__debug__" : Str)) = false := by decide) :
    WE S σ (.Call (.Name f p) (e :: es) [] pos) Q := by
  intro h₀ fz₀ fz s R K E c
  refine Call_ (load_boot R hk hm hn hv ?_ hdb)
  have hs := h pos h₀ fz₀ fz s R (fun vs s' => wpAny S.M S.A (call (.type T) ([] ++ vs)) K E s') E fun ds vs h' tk' fz' q sub R' hi =>
    q σ h₀ fz₀ fz' { s with heap := h', toks := tk' } vs R' hi _ _ fun d w h3 tk3 fz3 q3 sub3 => c d w h3 tk3 fz3 q3 fun p hp => sub3 p (sub p hp)
  rw [he] at hs ⊢
  refine PySem.callWith_type ?_ (evalArgs_plain hs)
  show (false || (backTo pos (starEach es S.env)).any (·.1)) = false
  rw [hp]; rfl

noncomputable def tyD : Dat → String
  | .none => "NoneType"
  | .bool _ => "bool"
  | .int _ => "int"
  | .str _ => "str"
  | .bytes _ => "bytes"
  | .tuple _ => "tuple"
  | .list _ => "list"
  | .dictI _ _ _ _ => "dict"
  | .dictS _ _ _ _ => "dict"
theorem tyD_is {fz : Led} {s : Shared} {v : Value} {d : Dat} (H : Held fz s.heap) (hi : DatIn fz v d) : s.TypeIs v (tyD d) := by
  cases hi with
  | none => rfl
  | bool b => rfl
  | int i t => rfl
  | str x t => rfl
  | bytes b t => rfl
  | tuple h r => exact ⟨_, H _ h, rfl⟩
  | list h r => exact ⟨_, H _ h, rfl⟩
  | dictI h l r => exact ⟨_, H _ h, r.ex.1⟩
  | dictS h l r => exact ⟨_, H _ h, r.ex.1⟩
theorem noDict {fz : Led} {s : Shared} {v : Value} {d : Dat} (H : Held fz s.heap) (hi : DatIn fz v d) : ∀ a, v = .ref a → ∃ ob, s.heap.get? a = some ob ∧ ob.dict = none := by
  intro a e
  cases hi with
  | tuple h r => cases e; exact ⟨_, H _ h, rfl⟩
  | list h r => cases e; exact ⟨_, H _ h, rfl⟩
  | dictI h l r => cases e; exact ⟨_, H _ h, r.ex.2.1⟩
  | dictS h l r => cases e; exact ⟨_, H _ h, r.ex.2.1⟩
  | _ => cases e

theorem WE_meth {o : Expr} {name : Str} {apos pos : Pos} {e : Expr} {es : List Expr} (T id : String) (pa : PlainAttrs T) (slot : Slot T name id) (hty : typeOf (.builtin id) = pure (.type "method_descriptor"))
    (h : WE S σ o fun a => tyD a = T ∧ WL S σ (e :: es) fun ds => WV S (fun vs => call (.builtin id) vs) (a :: ds) Q)
    (hbase : ∀ env whole, attributeBase o name env whole = whole := by intro _ _; rfl)
    (hfew : ∀ env, ((backTo pos (starEach (e :: es) env)).all (fun x => !x.1) && (backToKw pos (keywordEach [] env)).all (fun x => x.1.isSome)
      && decide ((e :: es).length + ([] : List Keyword).length + (if ([] : List Keyword).isEmpty then 0 else 1) < 30)) = true := by intro _; rfl)
    (hline : (apos.endLine == pos.line) = true := by rfl) (he : ∀ env, starEach (e :: es) env = (false, eval e env) :: starEach es env := by intro _; rfl)
    (hp : ∀ pos env, (backTo pos (starEach es env)).any (·.1) = false := by intro _ _; rfl) : WE S σ (.Call (.Attribute o name apos) (e :: es) [] pos) Q := by
  intro h₀ fz₀ fz s R K E c
  refine wpAny_Call_method (hbase _ _) (hfew _) hline pa slot hty (h h₀ fz₀ fz s R _ _ fun a v h' tk' fz' q sub R' hi => ⟨?_, ?_, ?_⟩)
  · rw [← q.1]; exact tyD_is R'.held hi
  · exact noDict (s := { s with heap := h', toks := tk' }) R'.held hi
  · have hs := q.2 pos h₀ fz₀ fz' { s with heap := h', toks := tk' } R' (fun vs s' => wpAny S.M S.A (call (.builtin id) ([v] ++ vs)) K E s') E fun ds vs h2 tk2 fz2 q2 sub2 R2 hi2 =>
      q2 σ h₀ fz₀ fz2 { s with heap := h2, toks := tk2 } (v :: vs) R2 (.cons (hi.mono sub2) hi2) _ _ fun d w h3 tk3 fz3 q3 sub3 => c d w h3 tk3 fz3 q3 fun p hp => sub3 p (sub2 p (sub p hp))
    rw [he] at hs ⊢
    refine callWith_builtin ?_ (evalArgs_plain hs)
    show (false || (backTo pos (starEach es S.env)).any (·.1)) = false
    rw [hp]; rfl
theorem WE_meth0 {o : Expr} {name : Str} {apos pos : Pos} (T id : String) (pa : PlainAttrs T) (slot : Slot T name id) (hty : typeOf (.builtin id) = pure (.type "method_descriptor"))
    (h : WE S σ o fun a => tyD a = T ∧ WV S (fun vs => call (.builtin id) vs) [a] Q)
    (hbase : ∀ env whole, attributeBase o name env whole = whole := by intro _ _; rfl)
    (hline : (apos.endLine == pos.line) = true := by rfl) : WE S σ (.Call (.Attribute o name apos) [] [] pos) Q := by
  intro h₀ fz₀ fz s R K E c
  refine wpAny_Call_method (hbase _ _) rfl hline pa slot hty (h h₀ fz₀ fz s R _ _ fun a v h' tk' fz' q sub R' hi => ⟨?_, ?_, ?_⟩)
  · rw [← q.1]; exact tyD_is R'.held hi
  · exact noDict (s := { s with heap := h', toks := tk' }) R'.held hi
  · refine callWith_builtin rfl (PySem.evalArgs_none ?_)
    exact q.2 σ h₀ fz₀ fz' { s with heap := h', toks := tk' } [v] R' (.one hi) _ _ fun d w h3 tk3 fz3 q3 sub3 => c d w h3 tk3 fz3 q3 fun p hp => sub3 p (sub p hp)
end
end Mine
end

section
open PySem PySem.W PyProof.Rows PySem.Calls
set_option maxRecDepth 10000
namespace Mine

noncomputable def hotOf (S : St) (oa : Option Addr) : List Addr := S.muts ++ oa.toList ++ S.hot

structure Off (S : St) (h₀ : Heap) (fz : Led) (oa : Option Addr) (wr : List Addr) (h : Heap) : Prop where
  base : ∀ b ∈ wr, h₀.get? b = none
  hot : ∀ b ∈ wr, b ∉ hotOf S oa
  fz : ∀ b ∈ wr, ∀ p ∈ fz, p.1 ≠ b
  live : ∀ b ∈ wr, (h.get? b).isSome = true

section
variable {S : St} {h₀ h h' : Heap} {fz₀ fz fz' : Led} {σ : Sg} {μ : Str → Option Value} {oa : Option Addr}

theorem RelAt.hot (R : RelAt S h₀ fz₀ σ fz h μ oa) {b : Addr} (hb : b ∈ hotOf S oa) : h₀.get? b = none ∧ (h.get? b).isSome = true ∧ ∀ p ∈ fz, p.1 ≠ b := by
  unfold hotOf at hb
  rcases List.mem_append.mp hb with hb | hb
  · rcases List.mem_append.mp hb with hb | hb
    · exact ⟨R.mutsNew b hb, R.mutsIn b hb, fun p hp e => R.mutsFz p hp (e ▸ hb)⟩
    · have e : oa = some b := by simpa using hb
      refine hidG fun zG zh => ?_
      obtain ⟨_, e2, e3, e4, _⟩ := R.oaOk b e
      refine zh ?_
      clear zh zG
      exact ⟨e2, e4, e3⟩
  · obtain ⟨_, e2, e3, e4⟩ := R.tape.each b hb; exact ⟨e2, e3, e4⟩
theorem hot_muts {b : Addr} (hb : b ∉ hotOf S oa) : b ∉ S.muts := fun h => hb (List.mem_append_left _ (List.mem_append_left _ h))
theorem hot_oa {b : Addr} (hb : b ∉ hotOf S oa) : oa ≠ some b := fun h => hb (List.mem_append_left _ (List.mem_append_right _ (by rw [h]; exact List.mem_singleton_self _)))
theorem hot_tape {b : Addr} (hb : b ∉ hotOf S oa) : b ∉ S.hot := fun h => hb (List.mem_append_right _ h)

theorem RelAt.off (R : RelAt S h₀ fz₀ σ fz h μ oa) {wr : List Addr} (O : Off S h₀ fz oa wr h) (k : ∀ b o, b ∉ wr → h.get? b = some o → h'.get? b = some o) (new : Led) (hn : ∀ p ∈ new, h'.get? p.1 = some p.2 ∧ h.get? p.1 = none) :
    RelAt S h₀ fz₀ σ (new ++ fz) h' μ oa := by
  have kh : ∀ b o, b ∈ hotOf S oa → h.get? b = some o → h'.get? b = some o := fun b o hb e => k b o (fun hw => O.hot b hw hb) e
  have ki : ∀ b, b ∈ hotOf S oa → (h.get? b).isSome = true → (h'.get? b).isSome = true := fun b hb e => by
    obtain ⟨o, ho⟩ := Option.isSome_iff_exists.mp e
    rw [kh b o hb ho]; rfl
  have k0 : Kp h₀ h' := fun b o e => k b o (fun hw => by rw [O.base b hw] at e; cases e) (R.keep b o e)
  have nh : ∀ p ∈ new, ∀ a, (h.get? a).isSome = true → p.1 ≠ a := by
    intro p hp a ha e
    rw [← e, (hn p hp).2] at ha; cases ha
  have hM : ∀ b ∈ S.muts, b ∈ hotOf S oa := fun b hb => List.mem_append_left _ (List.mem_append_left _ hb)
  have hO : ∀ b, oa = some b → b ∈ hotOf S oa := fun b e => List.mem_append_left _ (List.mem_append_right _ (by rw [e]; exact List.mem_singleton_self _))
  have hT : ∀ b ∈ S.hot, b ∈ hotOf S oa := fun b hb => List.mem_append_right _ hb
  refine { ok := R.ok, gl := R.gl, gz := fun p hp => List.mem_append_right _ (R.gz p hp), hk := R.hk, keep := k0, ns := ?_, cells := fun x c e => ?_, cin := R.cin, mutsNew := R.mutsNew, mutsIn := fun a ha => ki a (hM a ha) (R.mutsIn a ha), mutsFz := ?_, held := ?_, fzNew := ?_, fz0 := fun p hp => List.mem_append_right _ (R.fz0 p hp), dom := R.dom, bds := ?_, oaOk := ?_, uniq := R.uniq, tape := ?_ }
  · refine hidG fun zG zh => ?_
    obtain ⟨m, ⟨o, es, ep, ho, r⟩, e⟩ := R.ns
    refine zh ?_
    clear zh zG
    exact ⟨m, ⟨o, es, ep, kh _ _ (hM _ R.ok.hL) ho, r⟩, e⟩
  · obtain ⟨o, ho, hd⟩ := R.cells x c e
    refine ⟨o, ?_, hd⟩
    rcases R.cin x c e with hc | hc
    · exact kh _ _ (hM _ hc) ho
    · obtain ⟨o', ho'⟩ := Option.isSome_iff_exists.mp hc
      have := R.keep _ _ ho'
      rw [ho] at this; cases this
      exact k0 _ _ ho'
  · intro p hp hm
    rcases List.mem_append.mp hp with hp | hp
    · exact nh p hp _ (R.mutsIn _ hm) rfl
    · exact R.mutsFz p hp hm
  · intro p hp
    rcases List.mem_append.mp hp with hp | hp
    · exact (hn p hp).1
    · exact k _ _ (fun hw => O.fz _ hw p hp rfl) (R.held p hp)
  · intro p hp
    rcases List.mem_append.mp hp with hp | hp
    · exact .inr (R.keep.none (hn p hp).2)
    · exact R.fzNew p hp
  · intro x b e
    exact (R.bds x b e).mono (fun p hp => List.mem_append_right _ hp) fun a ha o ho => kh a o (hO a ha) ho
  · intro a ha
    refine hidG fun zG zh => ?_
    obtain ⟨e1, e2, e3, e4, e5⟩ := R.oaOk a ha
    refine zh ?_
    clear zh zG
    refine ⟨e1, e2, fun p hp => ?_, ki a (hO a ha) e4, e5⟩
    rcases List.mem_append.mp hp with hp | hp
    · exact nh p hp a e4
    · exact e3 p hp
  · exact R.tape.step R.ok (fun b hb o => kh b o (hT b hb)) (fun b hb => (R.tape.each b hb).2.1) fun p hp => (List.mem_append.mp hp).elim (fun hp => .inr fun b hb => nh p hp b hb) .inl

theorem RelAt.anchor (R : RelAt S h₀ fz₀ σ fz h μ oa) : RelAt S (hideAll h (hotOf S oa)) fz σ fz h μ oa := by
  have k0 : Kp h₀ (hideAll h (hotOf S oa)) := fun b o e => hideAll_get _ (R.keep b o e) fun hb => by rw [(R.hot hb).1] at e; cases e
  have hn : ∀ b ∈ hotOf S oa, (hideAll h (hotOf S oa)).get? b = none := fun b hb => hideAll_none _ hb
  refine { ok := R.ok, gl := R.gl.keeps k0, gz := R.gz, hk := Kp.handOK R.hk k0, keep := fun b o e => of_hideAll _ e, ns := R.ns, cells := R.cells, cin := fun x c e => ?_, mutsNew := fun a ha => hn a (List.mem_append_left _ (List.mem_append_left _ ha)), mutsIn := R.mutsIn, mutsFz := R.mutsFz, held := R.held, fzNew := fun p hp => .inl hp, fz0 := fun p hp => hp, dom := R.dom, bds := R.bds, oaOk := ?_, uniq := R.uniq, tape := ?_ }
  · refine (R.cin x c e).imp id fun hc => ?_
    obtain ⟨o, ho⟩ := Option.isSome_iff_exists.mp hc
    rw [k0 _ _ ho]; rfl
  · intro a ha
    refine hidG fun zG zh => ?_
    obtain ⟨e1, e2, e3, e4, e5⟩ := R.oaOk a ha
    refine zh ?_
    clear zh zG
    exact ⟨e1, hn a (List.mem_append_left _ (List.mem_append_right _ (by rw [ha]; exact List.mem_singleton_self _))), e3, e4, e5⟩
  · exact R.tape.step R.ok (fun _ _ _ e => e) (fun b hb => hn b (List.mem_append_right _ hb)) fun p hp => .inl hp

theorem RelAt.base_kp (R : RelAt S h₀ fz₀ σ fz h μ oa) : Kp h₀ (hideAll h (hotOf S oa)) := fun b o e => hideAll_get _ (R.keep b o e) fun hb => by rw [(R.hot hb).1] at e; cases e

theorem RelAt.rebase {h₁ : Heap} {fz₁ : Led} {σ₁ : Sg} {hm : Heap} {μ₁ : Str → Option Value} {oa₁ : Option Addr} (R₁ : RelAt S h₀ fz₀ σ₁ fz₁ hm μ₁ oa₁) (R : RelAt S h₁ fz₁ σ fz h μ oa) (k : Kp h₀ h₁) : RelAt S h₀ fz₀ σ fz h μ oa := by
  refine { ok := R.ok, gl := R₁.gl, gz := R.gz, hk := R₁.hk, keep := k.trans R.keep, ns := R.ns, cells := R.cells, cin := R₁.cin, mutsNew := R₁.mutsNew, mutsIn := R.mutsIn, mutsFz := R.mutsFz, held := R.held, fzNew := fun p hp => ?_, fz0 := fun p hp => R.fz0 p (R₁.fz0 p hp), dom := R.dom, bds := R.bds, oaOk := ?_, uniq := R.uniq, tape := ?_ }
  · rcases R.fzNew p hp with h1 | h1
    · exact R₁.fzNew p h1
    · exact .inr (k.none h1)
  · intro a ha
    refine hidG fun zG zh => ?_
    obtain ⟨e1, e2, e3, e4, e5⟩ := R.oaOk a ha
    refine zh ?_
    clear zh zG
    exact ⟨e1, k.none e2, e3, e4, e5⟩
  · exact R.tape.step R.ok (fun _ _ _ e => e) (fun b hb => k.none (R.tape.each b hb).2.1) fun p hp => .inl hp
end

structure Wk (prog : Program) (w : World) (A : Around) (I : Addr) (wr fp : List Addr) (fz₁ : Led) (ds : List Dat) (At : Nat → Heap → Prop) (t : Expr) : Prop where
  sub : ∀ b ∈ wr, b ∈ fp
  frame : ∀ i h h', At i h → (∀ b ∈ fp, ∀ o, h.get? b = some o → h'.get? b = some o) → At i h'
  item : ∀ (i : Nat) (d : Dat) (s : Shared) (K : Value → Shared → Prop) (E : Value → Shared → Prop), ds[i]? = some d → At i s.heap →
    (∀ (v : Value) (h' : Heap) (tk' : Nat) (new : Led), At (i + 1) h' → (∀ b o, b ∉ wr → s.heap.get? b = some o → h'.get? b = some o) → (∀ b ∈ wr, (h'.get? b).isSome = true) → (∀ p ∈ new, h'.get? p.1 = some p.2 ∧ s.heap.get? p.1 = none) → DatIn (new ++ fz₁) v d →
      K v { s with heap := h', toks := tk' }) →
    wpAny (model prog w) A (pyNext (.ref I)) (fun r s₁ => match r with | none => False | some v => wpAny (model prog w) A (letOwnedTupleGo t (.ref I) v) (fun _ s₂ => K v s₂) E s₁) E s
  done : ∀ (s : Shared) (Q : Option Value → Shared → Prop) (E : Value → Shared → Prop), At ds.length s.heap →
    (∀ h' tk', (∀ b o, b ∉ wr → s.heap.get? b = some o → h'.get? b = some o) → Q none { s with heap := h', toks := tk' }) → wpAny (model prog w) A (pyNext (.ref I)) Q E s
  self : ∀ (i : Nat) (s : Shared) (Q : Value → Shared → Prop) (E : Value → Shared → Prop), At i s.heap → Q (.ref I) s → wpAny (model prog w) A (pyIter (.ref I)) Q E s

noncomputable def WI (S : St) (σ : Sg) (t e : Expr) (Q : List Dat → Prop) : Prop :=
  ∀ (h₀ : Gnd) (fz₀ fz : Led) (s : Shared), RelE S h₀ fz₀ σ fz s.heap → ∀ (K : Value → Shared → Prop) (E : Value → Shared → Prop),
    (∀ (ds : List Dat) (I : Addr) (h₁ h' : Heap) (tk' : Nat) (fz₁ : Led) (wr fp : List Addr) (At : Nat → Heap → Prop), Q ds → (∀ p ∈ fz, p ∈ fz₁) → RelE S h₀ fz₀ σ fz₁ h₁ → Kp h₁ h' → Wk S.G.prog S.G.w S.A I wr fp fz₁ ds At t → At 0 h' →
      (∀ b ∈ wr, h₁.get? b = none ∧ (h'.get? b).isSome = true) → (∀ b ∈ fp, b ∈ wr ∨ ∃ o, (b, o) ∈ fz₁) → K (.ref I) { s with heap := h', toks := tk' }) →
    wpAny S.M S.A (eval e S.env) (fun x s₁ => wpAny S.M S.A (pyIter x) K E s₁) E s

section
variable {S : St} {σ : Sg} {Q : Out → Sg → Prop}

theorem wp_same_none {prog : Program} {w : World} {A : Around} {I : Addr} {s : Shared} {P : Value → Shared → Prop} {Q' : Option Value → Shared → Prop} {E : Value → Shared → Prop}
    (h : wpAny (model prog w) A (pyNext (.ref I)) (fun r s₁ => match r with | none => False | some v => P v s₁) E s) (hq : ∀ v s₁, P v s₁ → Q' (some v) s₁) : wpAny (model prog w) A (pyNext (.ref I)) Q' E s :=
  wpAny_mono h (fun r s₁ h₁ => by cases r with | none => exact h₁.elim | some v => exact hq v s₁ h₁) fun _ _ e => e

theorem WX_for {t iter : Expr} {body : List Stmt} {pos : Pos} (h : WI S σ t iter fun ds => ∃ J : Nat → Sg → Prop, J 0 σ ∧
      (∀ i d σ', ds[i]? = some d → J i σ' → WG S σ' t d fun σ'' => WS S σ'' body (Turn (J (i + 1)) Q)) ∧ ∀ σ', J ds.length σ' → Q .next σ')
    (hs : ∀ env x, foldedSetIterable iter env x = pure x := by intro _ _; rfl) : WX S σ (.For t iter body [] pos) Q := by
  intro h₀ fz₀ fz s ⟨μ₁, oa₁, R⟩ K E c
  refine wpAny_For (h ⟨h₀, μ₁, oa₁⟩ fz₀ fz s R _ _ fun ds I h₁ h' tk' fz₁ wr fp At q sub R₁ k₁ W at0 hwr hfp => ?_) (hs _)
  refine hidG fun zG zh => ?_
  obtain ⟨J, j0, hj, hq⟩ := q
  refine zh ?_
  clear zh zG
  replace R₁ := R₁.at
  have new_wr : ∀ b ∈ wr, ∀ a, (h₁.get? a).isSome = true → a ≠ b := fun b hb a ha e => by rw [e, (hwr b hb).1] at ha; cases ha
  refine codeAny_forLoop_any (fun n s' => ∃ i hh tk fzi σi μi oai, n = ds.length - i ∧ i ≤ ds.length ∧ s' = { s with heap := hh, toks := tk } ∧ (∀ p ∈ fz₁, p ∈ fzi) ∧ RelAt S h₀ fz₀ σi fzi hh μi oai ∧ Off S h₀ fzi oai wr hh ∧ At i hh ∧ J i σi) ?_ ds.length
    ⟨0, h', tk', fz₁, σ, μ₁, oa₁, by simp, Nat.zero_le _, rfl, fun _ h => h, by simpa using R₁.ext k₁ [] (by simp), ?_, at0, j0⟩
  · intro n s' zq
    refine hidG fun zG zh => ?_
    obtain ⟨i, hh, tk, fzi, σi, μi, oai, rfl, hi, rfl, subi, Ri, Oi, ati, ji⟩ := zq
    refine zh ?_
    clear zh zG
    by_cases hlt : i < ds.length
    · have hd : ds[i]? = some ds[i] := by simp [hlt]
      refine wp_same_none (P := fun v s₁ => _) (W.item i ds[i] { s with heap := hh, toks := tk } _ _ hd ati fun v h2 tk2 new at2 k2 live2 hnew hiv => ?_) (fun v s₁ hv => hv)
      have R2 := Ri.off Oi k2 new hnew
      have O2 : Off S h₀ (new ++ fzi) oai wr h2 := { base := Oi.base, hot := Oi.hot, fz := fun b hb p hp => ?_, live := live2 }
      · have hiv' : DatIn (new ++ fzi) v ds[i] := hiv.mono fun p hp => (List.mem_append.mp hp).elim (fun h => List.mem_append_left _ h) fun h => List.mem_append_right _ (subi p h)
        have RA := R2.anchor
        have wrIn : ∀ b ∈ wr, ∀ o, h2.get? b = some o → (hideAll h2 (hotOf S oai)).get? b = some o := fun b hb o e => hideAll_get _ e (Oi.hot b hb)
        refine (hj i ds[i] σi hd ji) _ _ (new ++ fzi) { s with heap := h2, toks := tk2 } v ⟨_, _, RA⟩ hiv' _ _ fun σ3 h3 tk3 q3 R3 => ?_
        refine q3 _ _ (new ++ fzi) { s with heap := h3, toks := tk3 } R3 _ _ fun o σ4 f h4 tk4 fz4 q4 sub4 R4 ho => ?_
        obtain ⟨μ4, oa4, R4⟩ := R4
        have R4' := R2.rebase R4 R2.base_kp
        have sub' : ∀ p ∈ fz, p ∈ fz4 := fun p hp => sub4 p (List.mem_append_right _ (subi p (sub p hp)))
        have ends : J (i + 1) σ4 → ∃ m, m < ds.length - i ∧ ∃ i' hh' tk' fzi' σi' μi' oai', m = ds.length - i' ∧ i' ≤ ds.length ∧ ({ s with heap := h4, toks := tk4 } : Shared) = { s with heap := hh', toks := tk' } ∧ (∀ p ∈ fz₁, p ∈ fzi') ∧ RelAt S h₀ fz₀ σi' fzi' hh' μi' oai' ∧ Off S h₀ fzi' oai' wr hh' ∧ At i' hh' ∧ J i' σi' := by
          intro hJ
          have kwr : ∀ b ∈ wr, ∀ o, h2.get? b = some o → h4.get? b = some o := fun b hb o e => R4.keep b o (wrIn b hb o e)
          have some2 : ∀ b ∈ wr, ((hideAll h2 (hotOf S oai)).get? b).isSome = true := fun b hb => by
            obtain ⟨o, ho⟩ := Option.isSome_iff_exists.mp (live2 b hb)
            rw [wrIn b hb o ho]; rfl
          refine ⟨ds.length - (i + 1), by walk_at "o", i + 1, h4, tk4, fz4, σ4, μ4, oa4, rfl, hlt, rfl, fun p hp => sub4 p (List.mem_append_right _ (subi p hp)), R4', ?_, ?_, hJ⟩
          · refine { base := Oi.base, hot := fun b hb hm => ?_, fz := fun b hb p hp e => ?_, live := fun b hb => ?_ }
            · have := (R4.hot hm).1
              have h2 := some2 b hb
              rw [this] at h2; cases h2
            · rcases R4.fzNew p hp with h5 | h5
              · exact O2.fz b hb p h5 e
              · have h6 := some2 b hb
                rw [← e, h5] at h6; cases h6
            · obtain ⟨o, ho⟩ := Option.isSome_iff_exists.mp (live2 b hb)
              rw [kwr b hb o ho]; rfl
          · refine W.frame _ _ _ at2 fun b hb o e => ?_
            rcases hfp b hb with hb' | ⟨o', ho'⟩
            · exact kwr b hb' o e
            · have e2 := R2.held (b, o') (List.mem_append_right _ (subi _ ho'))
              have e4 := R4.held (b, o') (sub4 _ (List.mem_append_right _ (subi _ ho')))
              dsimp only at e2 e4
              rw [e2] at e; cases e
              exact e4
        cases o with
        | next =>
          cases f <;> first | (exact False.elim ho) | skip
          exact ends q4
        | cont =>
          cases f <;> first | (exact False.elim ho) | skip
          exact ends q4
        | brk =>
          cases f <;> first | (exact False.elim ho) | skip
          exact c .next σ4 .next h4 tk4 fz4 q4 sub' ⟨_, _, R4'⟩ trivial
        | ret d =>
          cases f <;> first | (exact False.elim ho) | skip
          exact c (.ret d) σ4 _ h4 tk4 fz4 q4 sub' ⟨_, _, R4'⟩ ho
      · intro e
        rcases List.mem_append.mp hp with hp | hp
        · have := (hnew p hp).2
          have l := Oi.live b hb
          rw [← e, this] at l; cases l
        · exact Oi.fz b hb p hp e
    · have hin : i = ds.length := by walk_at "o"
      subst hin
      refine W.done { s with heap := hh, toks := tk } _ _ ati fun h2 tk2 k2 => ?_
      have R2 := Ri.off Oi k2 [] (by simp)
      exact wpAny_execs_nil (c .next σi .next h2 tk2 fzi (hq σi ji) (fun p hp => subi p (sub p hp)) ⟨_, _, by simpa using R2⟩ trivial)
  · refine { base := fun b hb => R₁.keep.none (hwr b hb).1, hot := fun b hb hm => new_wr b hb b (R₁.hot hm).2.1 rfl, fz := fun b hb p hp e => ?_, live := fun b hb => (hwr b hb).2 }
    exact new_wr b hb p.1 (by rw [R₁.held p hp]; rfl) e
end
end Mine
end

section
open PySem PySem.W PyProof.Rows PySem.Calls
set_option maxRecDepth 10000
namespace Mine

noncomputable def plainIter (n : String) : Bool := !(["enumerate", "zip", "dict_itemiterator", "dict_reverseitemiterator", "odict_iterator", "itertools.zip_longest", "itertools.pairwise"].contains n)

set_option tactic.hygienic true in
theorem lot_plain {M : Model} {A : Around} {t : Expr} {I : Addr} {v : Value} {s : Shared} {o : Obj} {n : String} (ho : s.heap.get? I = some o) (hc : o.cls = .type n) (hn : plainIter n = true) {K : Unit → Shared → Prop} {E : Value → Shared → Prop} (h : K () s) :
    wpAny M A (letOwnedTupleGo t (.ref I) v) K E s := by
  have key : ∀ (v : Value), wpAny M A (do
      let (.ref r, .ref a) := (Value.ref I, v) | return
      let o ← load r
      match o.cls, o.data with
      | .type n, .fields vs =>
        if ["enumerate", "zip", "dict_itemiterator", "dict_reverseitemiterator", "odict_iterator", "itertools.zip_longest", "itertools.pairwise"].contains n && vs[0]? == some (rawInt a) then
          rule "for.unpacks-the-owned-tuple"
          updateField r 0 .none
      | _, _ => pure () : Sem Unit) K E s := by
    intro v
    cases v <;> first | exact wpAny_pure h | skip
    refine wpAny_bind (wpAny_load ho ?_)
    rw [hc]
    split
    · rename_i n' vs hcls hdat
      cases hcls
      have : (["enumerate", "zip", "dict_itemiterator", "dict_reverseitemiterator", "odict_iterator", "itertools.zip_longest", "itertools.pairwise"].contains n) = false := by
        unfold plainIter at hn
        simpa using hn
      rw [this]
      exact wpAny_pure h
    · exact wpAny_pure h
  cases t <;> first | exact wpAny_pure h | exact key v

theorem Wk.of_walks {prog : Program} {w : World} {A : Around} {I : Addr} {fp wr : List Addr} {n : Nat} {P : Nat → Value → Prop} {At : Nat → Heap → Prop} {fz₁ : Led} {ds : List Dat} (W : Walks prog w A I fp wr n P At) (hn : n = ds.length)
    (hP : ∀ i v, i < ds.length → P i v → ∃ d, ds[i]? = some d ∧ DatIn fz₁ v d) (hl : ∀ i h, At i h → ∀ b ∈ wr, (h.get? b).isSome = true) (hc : ∀ i h, At i h → ∃ o n, h.get? I = some o ∧ o.cls = .type n ∧ plainIter n = true) {t : Expr} : Wk prog w A I wr fp fz₁ ds At t := by
  subst hn
  refine { sub := W.sub, frame := W.frame, item := fun i d s K E hd ha hK => ?_, done := W.done, self := W.self }
  have hi : i < ds.length := by
    rcases Nat.lt_or_ge i ds.length with h | h
    · exact h
    · rw [List.getElem?_eq_none h] at hd; cases hd
  refine W.item i s _ E hi ha fun v h' tk' hp ha' k => ?_
  obtain ⟨d', hd', hv⟩ := hP i v hi hp
  rw [hd] at hd'
  cases hd'
  refine hidG fun zG zh => ?_
  obtain ⟨o, n, ho, hcl, hpl⟩ := hc _ _ ha'
  refine zh ?_
  clear zh zG
  exact lot_plain (s := { s with heap := h', toks := tk' }) ho hcl hpl (hK v h' tk' [] ha' k (hl _ _ ha') (by simp) (by simpa using hv))

theorem get_all {fz : Led} {vs : List Value} {ds : List Dat} (h : DatAll fz vs ds) {i : Nat} {v : Value} (hv : vs.toArray[i]? = some v) : ∃ d, ds[i]? = some d ∧ DatIn fz v d := by
  have hv' : vs[i]? = some v := by simpa using hv
  have hi : i < ds.length := by
    rw [← h.length]
    rcases Nat.lt_or_ge i vs.length with q | q
    · exact q
    · rw [List.getElem?_eq_none q] at hv'; cases hv'
  obtain ⟨u, hu, hd⟩ := h.get hi
  rw [hv'] at hu
  cases hu
  exact ⟨ds[i], by simp [hi], hd⟩

inductive IV : Dat → List Dat → Prop where
  | list (ds : List Dat) : IV (.list ds) ds
  | tuple (ds : List Dat) : IV (.tuple ds) ds
  | bytes (b : Array UInt8) : IV (.bytes b) (b.toList.map fun c => .int (c.toNat : Int))
  | str (x : Str) : IV (.str x) (x.cps.toList.map fun c => .str ⟨#[c]⟩)

section
variable {S : St} {σ : Sg}

theorem WI_val {e : Expr} {Q : List Dat → Prop} (h : WE S σ e fun d => ∃ ds, IV d ds ∧ Q ds) (hn : S.nh = true) {t : Expr} : WI S σ t e Q := by
  intro h₀ fz₀ fz s R K E c
  refine h h₀ fz₀ fz s R _ _ fun d v h₁ tk₁ fz₁ q sub R₁ hi => ?_
  have hh := R₁.ok.hand hn
  obtain ⟨ds, iv, q⟩ := q
  have kp : ∀ o : Obj, Kp h₁ (h₁.push o) := fun o => Kp.push _ _
  have fr : h₁.get? h₁.objs.size = none := by
    cases e : h₁.get? h₁.objs.size with
    | none => rfl
    | some o' => exact absurd (Heap.lt_size e) (Nat.lt_irrefl _)
  have one : ∀ o : Obj, o.isFreed = false → ∀ b ∈ [h₁.objs.size], h₁.get? b = none ∧ ((h₁.push o).get? b).isSome = true := fun o ho b hb => by
    rw [List.mem_singleton.mp hb]
    exact ⟨fr, by rw [Heap.get?_push_size _ ho]; rfl⟩
  cases iv with
  | list =>
    refine hidG fun zG zh => ?_
    obtain ⟨a, vs, n, rfl, hm, hall⟩ := di_list hi
    refine zh ?_
    clear zh zG
    have hl := isList_of R₁.held hm
    have hne : a ≠ h₁.objs.size := by obtain ⟨o, ho, _⟩ := id hl; exact Nat.ne_of_lt (Heap.lt_size ho)
    refine wpAny_pyIter_list (s := { s with heap := h₁, toks := tk₁ }) hl ?_
    refine c ds _ h₁ _ tk₁ fz₁ [h₁.objs.size] [h₁.objs.size, a] _ q sub R₁ (kp _) (Wk.of_walks (Walks.list hh h₁.objs.size a hne vs.toArray) (by rw [List.size_toArray, hall.length]) (fun i v _ hv => get_all hall hv) ?_ ?_) ⟨⟨_, Heap.get?_push_size _ rfl, rfl, rfl⟩, hl.push _⟩ (one _ rfl) ?_
    · rintro i h ⟨⟨o, ho, _⟩, _⟩ b hb
      rw [List.mem_singleton.mp hb, ho]; rfl
    · intro i h zq
      refine hidG fun zG zh => ?_
      obtain ⟨⟨o, ho, hc, _⟩, _⟩ := zq
      refine zh ?_
      clear zh zG
      exact ⟨o, _, ho, hc, by decide⟩
    · intro b hb
      rcases List.mem_cons.mp hb with rfl | hb
      · exact .inl (.head _)
      · rw [List.mem_singleton.mp hb]; exact .inr ⟨_, hm⟩
  | tuple =>
    refine hidG fun zG zh => ?_
    obtain ⟨a, vs, n, rfl, hm, hall⟩ := di_tuple hi
    refine zh ?_
    clear zh zG
    have hl : h₁.IsTuple a vs.toArray := ⟨_, R₁.held _ hm, rfl, n, rfl⟩
    have hne : a ≠ h₁.objs.size := by obtain ⟨o, ho, _⟩ := id hl; exact Nat.ne_of_lt (Heap.lt_size ho)
    refine wpAny_pyIter_tuple (s := { s with heap := h₁, toks := tk₁ }) hl ?_
    refine c ds _ h₁ _ tk₁ fz₁ [h₁.objs.size] [h₁.objs.size, a] _ q sub R₁ (kp _) (Wk.of_walks (Walks.tuple hh h₁.objs.size a hne vs.toArray) (by rw [List.size_toArray, hall.length]) (fun i v _ hv => get_all hall hv) ?_ ?_) ⟨⟨_, Heap.get?_push_size _ rfl, rfl, rfl⟩, hl.push _⟩ (one _ rfl) ?_
    · rintro i h ⟨⟨o, ho, _⟩, _⟩ b hb
      rw [List.mem_singleton.mp hb, ho]; rfl
    · intro i h zq
      refine hidG fun zG zh => ?_
      obtain ⟨⟨o, ho, hc, _⟩, _⟩ := zq
      refine zh ?_
      clear zh zG
      exact ⟨o, _, ho, hc, by decide⟩
    · intro b hb
      rcases List.mem_cons.mp hb with rfl | hb
      · exact .inl (.head _)
      · rw [List.mem_singleton.mp hb]; exact .inr ⟨_, hm⟩
  | bytes b =>
    obtain ⟨t, rfl⟩ := di_bytes hi
    refine PySem.W.KBw.pyIter_bytes (s := { s with heap := h₁, toks := tk₁ }) ?_
    refine c _ _ h₁ _ tk₁ fz₁ [h₁.objs.size] [h₁.objs.size] _ q sub R₁ (kp _) (Wk.of_walks (PySem.W.KBw.walks hh h₁.objs.size b t) (by simp) (fun i v _ hv => ?_) ?_ ?_) ⟨_, Heap.get?_push_size _ rfl, rfl, rfl⟩ (one _ rfl) (fun b hb => .inl hb)
    · refine hidG fun zG zh => ?_
      obtain ⟨x, u, hx, rfl⟩ := hv
      refine zh ?_
      clear zh zG
      exact ⟨.int (x.toNat : Int), by simp [hx], .int _ _⟩
    · rintro i h ⟨o, ho, _⟩ b hb
      rw [List.mem_singleton.mp hb, ho]; rfl
    · intro i h zq
      refine hidG fun zG zh => ?_
      obtain ⟨o, ho, hc, _⟩ := zq
      refine zh ?_
      clear zh zG
      exact ⟨o, _, ho, hc, by decide⟩
  | str x =>
    obtain ⟨t, rfl⟩ := di_str hi
    have hP : ∀ i v, i < (x.cps.toList.map fun c => Dat.str ⟨#[c]⟩).length → SignAt x i v → ∃ d, (x.cps.toList.map fun c => Dat.str ⟨#[c]⟩)[i]? = some d ∧ DatIn fz₁ v d := by
      intro i v _ zq
      refine hidG fun zG zh => ?_
      obtain ⟨y, u, hy, rfl⟩ := zq
      refine zh ?_
      clear zh zG
      exact ⟨.str ⟨#[y]⟩, by simp [hy], .str _ _⟩
    cases ha : x.cps.all (· < 128) with
    | true =>
      refine wpAny_pyIter_ascii (s := { s with heap := h₁, toks := tk₁ }) ha ?_
      refine c _ _ h₁ _ tk₁ fz₁ [h₁.objs.size] [h₁.objs.size] _ q sub R₁ (kp _) (Wk.of_walks (Walks.strAscii hh h₁.objs.size x t) (by simp) hP ?_ ?_) ⟨_, Heap.get?_push_size _ rfl, rfl, rfl⟩ (one _ rfl) (fun b hb => .inl hb)
      · rintro i h ⟨o, ho, _⟩ b hb
        rw [List.mem_singleton.mp hb, ho]; rfl
      · intro i h zq
        refine hidG fun zG zh => ?_
        obtain ⟨o, ho, hc, _⟩ := zq
        refine zh ?_
        clear zh zG
        exact ⟨o, _, ho, hc, by decide⟩
    | false =>
      refine wpAny_pyIter_wide (s := { s with heap := h₁, toks := tk₁ }) ha ?_
      refine c _ _ h₁ _ tk₁ fz₁ [h₁.objs.size] [h₁.objs.size] _ q sub R₁ (kp _) (Wk.of_walks (Walks.strWide hh h₁.objs.size x t) (by simp) hP ?_ ?_) ⟨_, Heap.get?_push_size _ rfl, rfl, rfl⟩ (one _ rfl) (fun b hb => .inl hb)
      · rintro i h ⟨o, ho, _⟩ b hb
        rw [List.mem_singleton.mp hb, ho]; rfl
      · intro i h zq
        refine hidG fun zG zh => ?_
        obtain ⟨o, ho, hc, _⟩ := zq
        refine zh ?_
        clear zh zG
        exact ⟨o, _, ho, hc, by decide⟩

noncomputable def steps (a c : Int) : Nat → List Dat
  | 0 => []
  | n + 1 => .int a :: steps (a + c) c n
theorem steps_length (a c : Int) : ∀ n, (steps a c n).length = n
  | 0 => rfl
  | n + 1 => by unfold steps; rw [List.length_cons, steps_length]
theorem steps_get (c : Int) : ∀ (n i : Nat) (a : Int), i < n → (steps a c n)[i]? = some (.int (a + i * c))
  | 0, i, a, h => absurd h (Nat.not_lt_zero _)
  | n + 1, 0, a, h => by simp [steps]
  | n + 1, i + 1, a, h => by
    unfold steps
    rw [List.getElem?_cons_succ, steps_get c n i (a + c) (Nat.lt_of_succ_lt_succ h)]
    congr 2
    push_cast
    rw [Int.add_mul, Int.one_mul]; walk_at "o"
noncomputable def rangeOK (a b c : Int) (n : Nat) : Prop := Builtin.Range.small a b c = true ∧ Builtin.Range.rangeSize a b c = n

theorem range_iter {h₀ : Gnd} {h₁ : Heap} {fz₀ fz fz₁ : Led} {s : Shared} {tk₁ : Nat} {a b c : Int} {n : Nat} {t u v : Tok} (ok : rangeOK a b c n) (R₁ : RelE S h₀ fz₀ σ fz₁ h₁) (hn : S.nh = true) (sub : ∀ p ∈ fz, p ∈ fz₁) {Q : List Dat → Prop} (q : Q (steps a c n)) {K : Value → Shared → Prop} {E : Value → Shared → Prop} {tg : Expr}
    (k : ∀ (ds : List Dat) (I : Addr) (h₁ h' : Heap) (tk' : Nat) (fz₁ : Led) (wr fp : List Addr) (At : Nat → Heap → Prop), Q ds → (∀ p ∈ fz, p ∈ fz₁) → RelE S h₀ fz₀ σ fz₁ h₁ → Kp h₁ h' → Wk S.G.prog S.G.w S.A I wr fp fz₁ ds At tg → At 0 h' →
      (∀ b ∈ wr, h₁.get? b = none ∧ (h'.get? b).isSome = true) → (∀ b ∈ fp, b ∈ wr ∨ ∃ o, (b, o) ∈ fz₁) → K (.ref I) { s with heap := h', toks := tk' }) :
    wpAny S.M S.A (pyIter (.ref h₁.objs.size)) K E { s with heap := h₁.push { cls := .type "range", data := .fields #[.int a t, .int b u, .int c v] }, toks := tk₁ } := by
  have hh := R₁.ok.hand hn
  refine wpAny_pyIter_range (IsRange.new h₁ a b c t u v) ok.1 ?_
  dsimp only
  rw [ok.2]
  generalize hp : h₁.push { cls := .type "range", data := .fields #[.int a t, .int b u, .int c v] } = h₂
  have k2 : Kp h₁ h₂ := by rw [← hp]; exact Kp.push _ _
  have fr : h₂.get? h₂.objs.size = none := by
    cases e : h₂.get? h₂.objs.size with
    | none => rfl
    | some o' => exact absurd (Heap.lt_size e) (Nat.lt_irrefl _)
  refine k _ _ h₁ _ tk₁ fz₁ [h₂.objs.size] [h₂.objs.size] _ q sub R₁ (k2.trans (Kp.push _ _)) (Wk.of_walks (Walks.range hh h₂.objs.size a c n) (steps_length _ _ _).symm (fun i v hi hv => ?_) ?_ ?_) ?_ (fun b hb => ?_) (fun b hb => .inl hb)
  · obtain ⟨t, rfl⟩ := hv
    rw [steps_length] at hi
    exact ⟨_, steps_get c n i a hi, .int _ _⟩
  · intro i h ha b hb
    rw [List.mem_singleton.mp hb, ha]; rfl
  · intro i h ha
    exact ⟨_, _, ha, rfl, by decide⟩
  · have := Heap.get?_push_size h₂ (o := { cls := .type "range_iterator", data := .fields #[rawInt a, rawInt (n : Int), rawInt c] }) rfl
    simpa using this
  · rw [List.mem_singleton.mp hb]
    exact ⟨k2.none fr, by rw [Heap.get?_push_size _ rfl]; rfl⟩

theorem WI_range1 {f : Str} {p pos : Pos} {e : Expr} {Q : List Dat → Prop} (hk : S.env.kindOf f = some .globalImplicit) (hm : S.G.mg f = none) (hv : bootBuiltins f = some (.type "range")) (hnh : S.nh = true)
    (h : WE S σ e fun d => ∃ a n, d = .int a ∧ rangeOK 0 a 1 n ∧ Q (steps 0 1 n)) (hn : f ≠ "__name__" := by decide) (he : ∀ env, starEach [e] env = (false, eval e env) :: starEach [] env := by intro _; rfl)
    (hdb : (f == ("__debug__" : Str)) = false := by decide) {tg : Expr} : WI S σ tg (.Call (.Name f p) [e] [] pos) Q := by
  intro h₀ fz₀ fz s R K E c
  refine Call_ (load_boot R hk hm hn hv ?_ hdb)
  rw [he]
  refine PySem.callWith_type rfl (evalArgs_plain (spliced_cons (h h₀ fz₀ fz s R _ _ fun d v h' tk' fz' q sub R' hi => spliced_nil ?_)))
  refine hidG fun zG zh => ?_
  obtain ⟨a, n, rfl, ok, q⟩ := q
  refine zh ?_
  clear zh zG
  obtain ⟨t, rfl⟩ := di_int hi
  exact call_range_1 (s := { s with heap := h', toks := tk' }) (range_iter (s := s) ok R' hnh sub q c)
theorem WI_range2 {f : Str} {p pos : Pos} {e e2 : Expr} {Q : List Dat → Prop} (hk : S.env.kindOf f = some .globalImplicit) (hm : S.G.mg f = none) (hv : bootBuiltins f = some (.type "range")) (hnh : S.nh = true)
    (h : WE S σ e fun d => WE S σ e2 fun d2 => ∃ a b n, d = .int a ∧ d2 = .int b ∧ rangeOK a b 1 n ∧ Q (steps a 1 n)) (hn : f ≠ "__name__" := by decide) (he : ∀ env, starEach [e, e2] env = [(false, eval e env), (false, eval e2 env)] := by intro _; rfl)
    (hdb : (f == ("__debug__" : Str)) = false := by decide) {tg : Expr} : WI S σ tg (.Call (.Name f p) [e, e2] [] pos) Q := by
  intro h₀ fz₀ fz s R K E c
  refine Call_ (load_boot R hk hm hn hv ?_ hdb)
  rw [he]
  refine PySem.callWith_type rfl (evalArgs_plain (spliced_cons (h h₀ fz₀ fz s R _ _ fun d v h' tk' fz' q sub R' hi => spliced_cons (q h₀ fz₀ fz' { s with heap := h', toks := tk' } R' _ _ fun d2 v2 h2 tk2 fz2 q2 sub2 R2 hi2 => spliced_nil ?_))))
  refine hidG fun zG zh => ?_
  obtain ⟨a, b, n, rfl, rfl, ok, q⟩ := q2
  refine zh ?_
  clear zh zG
  obtain ⟨t, rfl⟩ := di_int hi
  obtain ⟨t2, rfl⟩ := di_int hi2
  exact call_range_2 (s := { s with heap := h2, toks := tk2 }) (range_iter (s := s) ok R2 hnh (fun p hp => sub2 p (sub p hp)) q c)
theorem WI_range3 {f : Str} {p pos : Pos} {e e2 e3 : Expr} {Q : List Dat → Prop} (hk : S.env.kindOf f = some .globalImplicit) (hm : S.G.mg f = none) (hv : bootBuiltins f = some (.type "range")) (hnh : S.nh = true)
    (h : WE S σ e fun d => WE S σ e2 fun d2 => WE S σ e3 fun d3 => ∃ a b c n, d = .int a ∧ d2 = .int b ∧ d3 = .int c ∧ c ≠ 0 ∧ Builtin.divisionGoesByPylong (b - a) c = false ∧ rangeOK a b c n ∧ Q (steps a c n)) (hn : f ≠ "__name__" := by decide)
    (he : ∀ env, starEach [e, e2, e3] env = [(false, eval e env), (false, eval e2 env), (false, eval e3 env)] := by intro _; rfl)
    (hdb : (f == ("__debug__" : Str)) = false := by decide) {tg : Expr} : WI S σ tg (.Call (.Name f p) [e, e2, e3] [] pos) Q := by
  intro h₀ fz₀ fz s R K E c
  refine Call_ (load_boot R hk hm hn hv ?_ hdb)
  rw [he]
  refine PySem.callWith_type rfl (evalArgs_plain (spliced_cons (h h₀ fz₀ fz s R _ _ fun d v h' tk' fz' q sub R' hi => spliced_cons (q h₀ fz₀ fz' { s with heap := h', toks := tk' } R' _ _ fun d2 v2 h2 tk2 fz2 q2 sub2 R2 hi2 =>
    spliced_cons (q2 h₀ fz₀ fz2 { s with heap := h2, toks := tk2 } R2 _ _ fun d3 v3 h3 tk3 fz3 q3 sub3 R3 hi3 => spliced_nil ?_)))))
  refine hidG fun zG zh => ?_
  obtain ⟨a, b, st, n, rfl, rfl, rfl, hc, hdv, ok, q⟩ := q3
  refine zh ?_
  clear zh zG
  obtain ⟨t, rfl⟩ := di_int hi
  obtain ⟨t2, rfl⟩ := di_int hi2
  obtain ⟨t3, rfl⟩ := di_int hi3
  exact call_range_3 (s := { s with heap := h3, toks := tk3 }) hc (range_iter (s := s) ok R3 hnh (fun p hp => sub3 p (sub2 p (sub p hp))) q c) (.inl hdv)
end
end Mine
end

section
open PySem PySem.W PyProof.Rows PySem.Calls
set_option maxRecDepth 10000
namespace Mine

theorem comp_loop {prog : Program} {w : World} {A : Around} {R : Result → Shared → Prop} {s : Shared} {elt target iter : Expr} {ifs : List Expr} {scope : Scope} {pos : Pos} {it acc : Value} {env : Env} (I : Nat → Shared → Prop)
    (turn : ∀ n s, I n s → wpAny (model prog w) A (pyNext it) (fun r s₁ => match r with
      | none => R (.ok .next) s₁
      | some v => wpAny (model prog w) A (letOwnedTupleGo target it v) (fun _ s₁' => wpAny (model prog w) A (assign target env v) (fun _ s₂ =>
          wpAny (model prog w) A (forIn ifs true fun c r => if r = true then do let ok ← isTrue c env (eval c env); pure (ForInStep.yield ok) else pure (ForInStep.yield r)) (fun ok s₃ =>
            if ok = true then wpAny (model prog w) A (eval elt env) (fun x s₄ =>
              wpAny (model prog w) A (call (.builtin "list.append") [acc, x]) (fun _ s₅ => ∃ m, m < n ∧ I m s₅) (notedBy (model prog w) A env fun e s' => R (.error e) s') s₄) (notedBy (model prog w) A env fun e s' => R (.error e) s') s₃
            else ∃ m, m < n ∧ I m s₃) (notedBy (model prog w) A env fun e s' => R (.error e) s') s₂) (notedBy (model prog w) A env fun e s' => R (.error e) s') s₁') (notedBy (model prog w) A env fun e s' => R (.error e) s') s₁) (notedBy (model prog w) A env fun e s' => R (.error e) s') s)
    (n : Nat) (h : I n s) : codeAny (model prog w) A (.compLoop (.ListComp elt [⟨target, iter, ifs, 0⟩] scope pos) 0 it acc env) R s := by
  refine codeAny_loop rfl I (fun n s hI => ?_) n h
  show wpAny _ A ((compTurn (.ListComp elt [⟨target, iter, ifs, 0⟩] scope pos) 0 it acc env).onRaise (fun x => do noteFrame x env; theTreesLotGoes x)) _ _ s
  refine wpAny_noted ?_
  rw [compTurn_list]
  refine wpAny_bind (wpAny_standAt (wpAny_bind (wpAny_mono (turn n s hI) (fun r s₁ h₁ => ?_) fun _ _ h' => h')))
  cases r with
  | none => exact wpAny_pure h₁
  | some v =>
    refine wpAny_bind (wpAny_mono h₁ (fun _ s₁' h₁' => ?_) fun _ _ h' => h')
    refine wpAny_bind (wpAny_mono h₁' (fun _ s₂ h₂ => wpAny_bind (wpAny_mono h₂ (fun ok s₃ h₃ => ?_) fun _ _ h' => h')) fun _ _ h' => h')
    cases ok with
    | false => exact wpAny_pure ⟨rfl, h₃⟩
    | true =>
      exact wpAny_bind (wpAny_bind (wpAny_mono h₃ (fun x s₄ h₄ => wpAny_bind (wpAny_mono h₄ (fun _ s₅ h₅ => wpAny_pure (wpAny_pure ⟨rfl, h₅⟩)) fun _ _ h' => h')) fun _ _ h' => h'))

noncomputable def clOf (env : Env) : List (Str × NameKind) → List (Str × Addr) → List (Str × Addr)
  | [], cs => cs
  | (n, k) :: r, cs => if k == .free then clOf env r ((n, (env.cells.lookup n).getD 0) :: cs) else clOf env r cs
theorem clOf_mem {env : Env} {x : Str} {c : Addr} : ∀ {names : List (Str × NameKind)} {cs : List (Str × Addr)}, (x, c) ∈ clOf env names cs → (x, c) ∈ cs ∨ ((x, NameKind.free) ∈ names ∧ c = (env.cells.lookup x).getD 0)
  | [], cs, h => .inl h
  | (n, k) :: r, cs, h => by
    unfold clOf at h
    split at h
    · rename_i hk
      rcases clOf_mem h with h | h
      · rcases List.mem_cons.mp h with h | h
        · cases h; exact .inr ⟨by rw [beq_iff_eq.mp hk]; exact .head _, rfl⟩
        · exact .inl h
      · exact .inr ⟨.tail _ h.1, h.2⟩
    · rcases clOf_mem h with h | h
      · exact .inl h
      · exact .inr ⟨.tail _ h.1, h.2⟩
theorem closure_is {env : Env} : ∀ (names : List (Str × NameKind)) (cs : List (Str × Addr)), (∀ p ∈ names, p.2 = .free → (env.cells.lookup p.1).isSome = true) →
    (forIn names cs fun x (r : List (Str × Addr)) => (if (x.2 == NameKind.free) = true then (do let a ← cellOf env x.1; pure (ForInStep.yield ((x.1, a) :: r))) else pure (ForInStep.yield r) : Sem (ForInStep (List (Str × Addr))))) = pure (clOf env names cs)
  | [], cs, _ => rfl
  | (n, k) :: r, cs, h => by
    rw [List.forIn_cons]
    unfold clOf
    by_cases hk : (k == NameKind.free) = true
    · dsimp only
      rw [if_pos hk, if_pos hk]
      obtain ⟨c, hc⟩ := Option.isSome_iff_exists.mp (h _ (.head _) (beq_iff_eq.mp hk))
      have e : cellOf env n = pure c := by unfold cellOf; rw [hc]
      rw [e, hc]
      exact closure_is r ((n, c) :: cs) fun p hp => h p (.tail _ hp)
    · dsimp only
      rw [if_neg hk, if_neg hk]
      exact closure_is r cs fun p hp => h p (.tail _ hp)
theorem closureFor_is {scope : Scope} {env : Env} (h : ∀ p ∈ scope.names, p.2 = .free → (env.cells.lookup p.1).isSome = true) : closureFor scope env = pure (clOf env scope.names []) := by
  unfold closureFor
  exact (bind_pure _).trans (closure_is scope.names [] h)

noncomputable def cSt (S : St) (scope : Scope) (C : Addr) : St where
  G := S.G
  A := S.A
  env := compEnvC scope (clOf S.env scope.names []) C S.env
  muts := [C]
  tp := S.tp
  tn := S.tn
  hot := S.hot
  hotP := S.hotP
  fn := false
  nh := S.nh
  dp := S.dp

noncomputable def freeSg (σ : Sg) : List (Str × NameKind) → Sg
  | [] => []
  | (n, k) :: r => match k with
    | .free => (match Sg.get σ n with
      | some (.val d) => (n, .val d) :: freeSg σ r
      | some .tape => (n, .tape) :: freeSg σ r
      | _ => freeSg σ r)
    | _ => freeSg σ r
theorem freeSg_get {σ : Sg} {x : Str} {b : Bd} : ∀ {names : List (Str × NameKind)}, (freeSg σ names).get x = some b → σ.get x = some b ∧ (x, NameKind.free) ∈ names ∧ ∀ ds, b ≠ .own ds
  | [], h => by cases h
  | (n, k) :: r, h => by
    unfold freeSg at h
    have hr : (freeSg σ r).get x = some b → σ.get x = some b ∧ (x, NameKind.free) ∈ (n, k) :: r ∧ ∀ ds, b ≠ .own ds := fun h => by obtain ⟨a, c, e⟩ := freeSg_get h; exact ⟨a, .tail _ c, e⟩
    have hd : ∀ b', σ.get n = some b' → (∀ ds, b' ≠ .own ds) → k = .free → Sg.get ((n, b') :: freeSg σ r) x = some b → σ.get x = some b ∧ (x, NameKind.free) ∈ (n, k) :: r ∧ ∀ ds, b ≠ .own ds := by
      intro b' e hb hk h
      unfold Sg.get at h
      cases q : sEq n x with
      | true =>
        rw [q] at h
        have := sEq_iff.mp q
        subst this
        cases Option.some.inj h
        exact ⟨e, by rw [hk]; exact .head _, hb⟩
      | false => rw [q] at h; exact hr h
    split at h
    · split at h
      · rename_i e; exact hd _ e (fun ds q => by cases q) rfl h
      · rename_i e; exact hd _ e (fun ds q => by cases q) rfl h
      · exact hr h
    · exact hr h

structure CompOK (S : St) (scope : Scope) : Prop where
  kind : scope.kind = .function
  cell : (scope.names.all fun p => p.2 != .cell) = true
  free : (scope.names.all fun p => p.2 != .free || ((S.env.cells.lookup p.1).isSome && S.env.kindOf p.1 == some .cell)) = true
  dist : distinct (scope.names.map (·.1)) = true

theorem lookup_of_distinct {x : Str} {k : NameKind} : ∀ {l : List (Str × NameKind)}, distinct (l.map (·.1)) = true → (x, k) ∈ l → l.lookup x = some k
  | [], _, h => by cases h
  | (y, k') :: r, hd, h => by
    have hd : (!inS y (r.map (·.1)) && distinct (r.map (·.1))) = true := hd
    rw [Bool.and_eq_true] at hd
    rcases List.mem_cons.mp h with e | h
    · cases e; simp
    · have hm : inS x (r.map (·.1)) = true := inS_iff.mpr (List.mem_map.mpr ⟨(x, k), h, rfl⟩)
      have hne : x ≠ y := by
        intro e
        rw [← e, hm] at hd; exact absurd hd.1 (by simp)
      rw [List.lookup_cons, beq_eq_false_iff_ne.mpr hne]
      exact lookup_of_distinct hd.2 h

theorem relabel_lookup {scope : Scope} {env : Env} {x : Str} : ∀ {names : List (Str × NameKind)} {k : NameKind}, names.lookup x = some k →
    (names.map fun (n, k) => if (k == NameKind.free && env.scope.kind == .function && env.kindOf n == some .cell) then (n, NameKind.cell) else (n, k)).lookup x = some (if (k == NameKind.free && env.scope.kind == .function && env.kindOf x == some .cell) then NameKind.cell else k)
  | [], k, h => by cases h
  | (n, k') :: r, k, h => by
    have ih := @relabel_lookup scope env x r k
    rw [List.lookup_cons] at h
    show List.lookup x ((if (k' == NameKind.free && env.scope.kind == .function && env.kindOf n == some .cell) = true then (n, NameKind.cell) else (n, k')) :: _) = _
    cases hx : x == n with
    | true =>
      rw [hx] at h
      cases h
      have := beq_iff_eq.mp hx
      subst this
      split <;> simp [List.lookup_cons]
    | false =>
      rw [hx] at h
      split
      · rw [List.lookup_cons, hx]; exact ih h
      · rw [List.lookup_cons, hx]; exact ih h

section
variable {S : St} {h₀ h h' : Heap} {fz₀ fz fz' : Led} {σ : Sg} {μ : Str → Option Value} {oa : Option Addr}

theorem RelAt.weak {σ' : Sg} (R : RelAt S h₀ fz₀ σ fz h μ oa) (hs : ∀ x b, σ'.get x = some b → σ.get x = some b) : RelAt S h₀ fz₀ σ' fz h μ oa :=
  { ok := R.ok, gl := R.gl, gz := R.gz, hk := R.hk, keep := R.keep, ns := R.ns, cells := R.cells, cin := R.cin, mutsNew := R.mutsNew, mutsIn := R.mutsIn, mutsFz := R.mutsFz, held := R.held, fzNew := R.fzNew, fz0 := R.fz0,
    dom := fun x b e => R.dom x b (hs x b e), bds := fun x b e => R.bds x b (hs x b e), oaOk := R.oaOk, uniq := fun x y dx dy ex ey => R.uniq x y dx dy (hs _ _ ex) (hs _ _ ey), tape := R.tape }
theorem Rel.weak {σ' : Sg} (R : Rel S h₀ fz₀ σ fz h) (hs : ∀ x b, σ'.get x = some b → σ.get x = some b) : Rel S h₀ fz₀ σ' fz h := by obtain ⟨μ, oa, r⟩ := R; exact ⟨μ, oa, r.weak hs⟩

noncomputable abbrev tapeL (S : St) : List Addr := S.hot

theorem RelAt.backT (R : RelAt S h₀ fz₀ σ fz h μ oa) (k : ∀ b o, b ∉ tapeL S → h.get? b = some o → h'.get? b = some o) (sub : ∀ p ∈ fz, p ∈ fz') (hd : Held fz' h') (new : ∀ p ∈ fz', p ∈ fz ∨ h.get? p.1 = none)
    (ht : S.hotP h') (hl : ∀ b ∈ S.hot, (h'.get? b).isSome = true) : RelAt S h₀ fz₀ σ fz' h' μ oa := by
  have ntM : ∀ b ∈ S.muts, b ∉ tapeL S := fun b hb hm => (R.tape.each b hm).1 hb
  have nt0 : ∀ b o, h₀.get? b = some o → b ∉ tapeL S := fun b o e hm => by rw [(R.tape.each b hm).2.1] at e; cases e
  have hot : ∀ p ∈ fz', p ∉ fz → ∀ a, (h.get? a).isSome = true → p.1 ≠ a := by
    intro p hp hq a ha e
    rcases new p hp with h1 | h1
    · exact hq h1
    · rw [← e, h1] at ha; cases ha
  refine { ok := R.ok, gl := R.gl, gz := fun p hp => sub _ (R.gz p hp), hk := R.hk, keep := fun b o e => k b o (nt0 b o e) (R.keep b o e), ns := ?_, cells := fun x c e => ?_, cin := R.cin, mutsNew := R.mutsNew, mutsIn := ?_, mutsFz := ?_, held := hd, fzNew := ?_, fz0 := fun p hp => sub _ (R.fz0 p hp), dom := R.dom, bds := ?_, oaOk := ?_, uniq := R.uniq, tape := ?_ }
  · refine hidG fun zG zh => ?_
    obtain ⟨m, ⟨o, es, ep, ho, r⟩, e⟩ := R.ns
    refine zh ?_
    clear zh zG
    exact ⟨m, ⟨o, es, ep, k _ _ (ntM _ R.ok.hL) ho, r⟩, e⟩
  · obtain ⟨o, ho, hd⟩ := R.cells x c e
    refine ⟨o, k _ _ ?_ ho, hd⟩
    rcases R.cin x c e with hc | hc
    · exact ntM _ hc
    · obtain ⟨o', ho'⟩ := Option.isSome_iff_exists.mp hc
      exact nt0 _ _ ho'
  · intro a ha
    obtain ⟨o, ho⟩ := Option.isSome_iff_exists.mp (R.mutsIn a ha)
    rw [k _ _ (ntM _ ha) ho]; rfl
  · intro p hp hm
    by_cases hq : p ∈ fz
    · exact R.mutsFz p hq hm
    · exact hot p hp hq _ (R.mutsIn _ hm) rfl
  · intro p hp
    rcases new p hp with h1 | h1
    · exact R.fzNew p h1
    · exact .inr (R.keep.none h1)
  · intro x b e
    exact (R.bds x b e).mono sub fun a ha o ho => k a o (R.oaOk a ha).2.2.2.2 ho
  · intro a ha
    refine hidG fun zG zh => ?_
    obtain ⟨e1, e2, e3, e4, e5⟩ := R.oaOk a ha
    refine zh ?_
    clear zh zG
    refine ⟨e1, e2, fun p hp => ?_, ?_, e5⟩
    · by_cases hq : p ∈ fz
      · exact e3 p hq
      · exact hot p hp hq a e4
    · obtain ⟨o, ho⟩ := Option.isSome_iff_exists.mp e4
      rw [k a o e5 ho]; rfl
  · refine ⟨ht, fun b hb => ?_⟩
    refine hidG fun zG zh => ?_
    obtain ⟨e1, e2, e3, e4⟩ := R.tape.each b hb
    refine zh ?_
    clear zh zG
    refine ⟨e1, e2, hl b hb, fun p hp => ?_⟩
    by_cases hq : p ∈ fz
    · exact e4 p hq
    · exact hot p hp hq b e3
end

noncomputable def WF (S : St) (σ : Sg) (ifs : List Expr) (Q : Bool → Prop) : Prop :=
  ∀ (h₀ : Gnd) (fz₀ fz : Led) (s : Shared), RelE S h₀ fz₀ σ fz s.heap → ∀ (K : Bool → Shared → Prop) (E : Value → Shared → Prop),
    (∀ b h' tk' fz', Q b → (∀ p ∈ fz, p ∈ fz') → RelE S h₀ fz₀ σ fz' h' → K b { s with heap := h', toks := tk' }) →
    wpAny S.M S.A (forIn ifs true fun c r => if r = true then do let ok ← isTrue c S.env (eval c S.env); pure (ForInStep.yield ok) else pure (ForInStep.yield r)) K E s
theorem WF_nil {S : St} {σ : Sg} {Q : Bool → Prop} (q : Q true) : WF S σ [] Q := fun _ _ fz s R _ _ c => wpAny_tests_nil (c true s.heap s.toks fz q (fun _ h => h) R)
theorem WF_one {S : St} {σ : Sg} {e : Expr} {Q : Bool → Prop} (h : WT S σ e Q) : WF S σ [e] Q := fun h₀ fz₀ fz s R K E c => wpAny_tests_one (h h₀ fz₀ fz s R K E c)

noncomputable def Ext (σ σ' : Sg) : Prop := ∀ x b, σ.get x = some b → σ'.get x = some b
theorem Ext.refl (σ : Sg) : Ext σ σ := fun _ _ h => h
theorem Ext.trans {a b c : Sg} (h : Ext a b) (k : Ext b c) : Ext a c := fun x y e => k x y (h x y e)
theorem Ext.set {σ : Sg} {x : Str} {b : Bd} (h : σ.get x = none) : Ext σ (σ.set x b) := fun y c e => by
  rw [Sg.get_set]
  split
  · rename_i q; rw [q, h] at e; cases e
  · exact e
noncomputable def CTurn (S : St) (σ : Sg) (t : Expr) (ifs : List Expr) (elt : Expr) (d : Dat) (yes : Dat → Prop) (no : Prop) : Prop :=
  WG S σ t d fun σ' => Ext σ σ' ∧ WF S σ' ifs fun ok => (ok = true → WE S σ' elt yes) ∧ (ok = false → no)
end Mine
end

section
open PySem PySem.W PyProof.Rows PySem.Calls
set_option maxRecDepth 10000
namespace Mine

theorem clOf_some {env : Env} {x : Str} : ∀ {names : List (Str × NameKind)} {cs : List (Str × Addr)}, (x, NameKind.free) ∈ names ∨ (cs.lookup x).isSome = true → ((clOf env names cs).lookup x).isSome = true
  | [], cs, h => h.elim (fun h => by cases h) id
  | (n, k) :: r, cs, h => by
    unfold clOf
    by_cases hk : (k == NameKind.free) = true
    · rw [if_pos hk]
      refine clOf_some ?_
      by_cases hx : (x == n) = true
      · exact .inr (by rw [List.lookup_cons, hx]; rfl)
      · rcases h with h | h
        · rcases List.mem_cons.mp h with e | h
          · cases e; exact absurd (beq_self_eq_true _) hx
          · exact .inl h
        · exact .inr (by rw [List.lookup_cons]; simpa only [hx] using h)
    · rw [if_neg hk]
      refine clOf_some ?_
      rcases h with h | h
      · rcases List.mem_cons.mp h with e | h
        · cases e; exact absurd rfl hk
        · exact .inl h
      · exact .inr h

section
variable {S : St} {h₀ h h' : Heap} {fz₀ fz fz' : Led} {σ : Sg} {μ : Str → Option Value} {oa : Option Addr}

theorem RelAt.noOwn (R : RelAt S h₀ fz₀ σ fz h μ oa) (hs : ∀ x ds, σ.get x ≠ some (.own ds)) : RelAt S h₀ fz₀ σ fz h μ none :=
  { ok := R.ok, gl := R.gl, gz := R.gz, hk := R.hk, keep := R.keep, ns := R.ns, cells := R.cells, cin := R.cin, mutsNew := R.mutsNew, mutsIn := R.mutsIn, mutsFz := R.mutsFz, held := R.held, fzNew := R.fzNew, fz0 := R.fz0,
    dom := R.dom, bds := (fun x b e => by
      have := R.bds x b e
      cases b with
      | own ds => exact absurd e (hs x ds)
      | val d => exact this
      | tape => exact this
      | cells => exact this), oaOk := (fun a e => by cases e), uniq := R.uniq, tape := R.tape }

theorem tapeL_hot {b : Addr} (hb : b ∈ tapeL S) (oa : Option Addr) : b ∈ hotOf S oa := List.mem_append_right _ hb

theorem comp_core {s : Shared} {h₁ h₂ : Heap} {tk₂ : Nat} {fz₁ : Led} {I : Addr} {wr fp : List Addr} {ds : List Dat} {At : Nat → Heap → Prop} {scope : Scope} {t iter elt : Expr} {ifs : List Expr} {pos : Pos} {E : Value → Shared → Prop}
    (R₁ : RelAt S h₀ fz₀ σ fz₁ h₁ μ oa) (k₁ : Kp h₁ h₂) (W : Wk S.G.prog S.G.w S.A I wr fp fz₁ ds At t) (at0 : At 0 h₂) (hwr : ∀ b ∈ wr, h₁.get? b = none ∧ (h₂.get? b).isSome = true) (hfp : ∀ b ∈ fp, b ∈ wr ∨ ∃ o, (b, o) ∈ fz₁)
    (ok : CompOK S scope) (hfr : S.fn = true) (J : Nat → List Dat → Prop) (j0 : J 0 []) (hds : ds.length ≤ 1000)
    (turn : ∀ C i d outs, ds[i]? = some d → J i outs → CTurn (cSt S scope C) (freeSg σ scope.names) t ifs elt d (fun r => J (i + 1) (outs ++ [r])) (J (i + 1) outs))
    {RR : Value → Addr → Result → Shared → Prop}
    (hRR : ∀ D C h' tk' fz' outs vs n m', J ds.length outs → (∀ p ∈ fz₁, p ∈ fz') → (∀ b o, b ∉ tapeL S → h₁.get? b = some o → h'.get? b = some o) → Held fz' h' → (∀ p ∈ fz', p ∈ fz₁ ∨ h₁.get? p.1 = none) → S.hotP h' → (∀ b ∈ S.hot, (h'.get? b).isSome = true) →
      h'.get? D = some (listOf vs.toArray n) → DatAll fz' vs outs → h₁.get? D = none → h₁.get? C = none → h'.Ns C m' → D ≠ C → (∀ p ∈ fz', p.1 ≠ D ∧ p.1 ≠ C) → RR (.ref D) C (.ok .next) { s with heap := h', toks := tk' }) :
    wpAny S.M S.A (newList []) (fun acc s₃ => wpAny S.M S.A (newFunctionEnv scope S.env.globals (clOf S.env scope.names []) [] S.env.qual none .none (some S.env)) (fun cenv s₄ =>
      codeAny S.M S.A (.compStart (.ListComp elt [⟨t, iter, ifs, 0⟩] scope pos) 0 (.ref I) acc { cenv with scope := relabel scope S.env }) (RR acc cenv.locals) s₄) E s₃) E { s with heap := h₂, toks := tk₂ } := by
  have hfree : ∀ p ∈ scope.names, p.2 = .free → (S.env.cells.lookup p.1).isSome = true ∧ S.env.kindOf p.1 = some .cell := fun p hp e => by
    have := List.all_eq_true.mp ok.free p hp
    rw [e] at this
    simpa using this
  have hcell : ∀ p ∈ scope.names, p.2 ≠ .cell := fun p hp => by simpa using List.all_eq_true.mp ok.cell p hp
  refine wpAny_newObj_type (wpAny_newFunctionEnv hcell (by intro y hy; simp at hy) (fun h₃ hns₃ hsb₃ => ?_) ok.kind)
  dsimp only at hns₃ hsb₃ ⊢
  generalize hH2 : h₂.push { cls := .type "list", dict := none, data := .seq ([] : List Value).toArray } = H2 at hns₃ hsb₃ ⊢
  generalize hD : h₂.objs.size = D
  generalize hC : H2.objs.size = C at hns₃ hsb₃ ⊢
  have hCD : C = D + 1 := by rw [← hC, ← hH2, Heap.size_push, hD]
  have DC : @LT.lt Nat _ D C := hCD ▸ Nat.lt_succ_self D
  have lt2 : ∀ (b : Nat) (o : Obj), h₂.get? b = some o → @LT.lt Nat _ b D := fun b o e => hD ▸ Heap.lt_size e
  have fresh2 : ∀ (a : Nat), @LE.le Nat _ D a → h₂.get? a = none := fun a ha => by
    cases e : h₂.get? a with
    | none => rfl
    | some o' => exact absurd (lt2 a o' e) (Nat.not_lt.mpr ha)
  have k3 : Kp h₂ h₃ := fun b o e => hsb₃.extBut b o (Nat.ne_of_lt (Nat.lt_trans (lt2 b o e) DC)) (Heap.get?_push_of_some _ (hH2 ▸ Heap.get?_push_of_some _ e))
  have hD3 : h₃.get? D = some (listOf ([] : List Value).toArray 0) := hsb₃.extBut D _ (Nat.ne_of_lt DC) (Heap.get?_push_of_some _ (by rw [← hH2, ← hD]; exact Heap.get?_push_size _ rfl))
  have dead1 : ∀ (a : Nat), @LE.le Nat _ D a → h₁.get? a = none := fun a ha => k₁.none (fresh2 a ha)
  have deadC : h₁.get? C = none := dead1 C (Nat.le_of_lt DC)
  have deadD : h₁.get? D = none := dead1 D (Nat.le_refl _)
  have k13 := k₁.trans k3
  -- the ground of the comprehension
  have tp0 : ∀ b o, h₀.get? b = some o → b ∉ tapeL S := fun b o e hm => by rw [(R₁.hot (tapeL_hot hm oa)).1] at e; cases e
  have kg : Kp h₀ (hideAll h₁ (tapeL S)) := fun b o e => hideAll_get _ (R₁.keep b o e) (tp0 b o e)
  have ntM : ∀ b ∈ S.muts, b ∉ tapeL S := fun b hb hm => (R₁.tape.each b hm).1 hb
  have lkc : ∀ x c, (clOf S.env scope.names []).lookup x = some c → S.env.cells.lookup x = some c ∧ (x, NameKind.free) ∈ scope.names := fun x c e => by
    rcases clOf_mem (mem_of_lookup e) with h | ⟨h, e'⟩
    · cases h
    · obtain ⟨c', hc'⟩ := Option.isSome_iff_exists.mp (hfree _ h rfl).1
      dsimp only at hc'
      rw [hc'] at e'
      exact ⟨by rw [hc', e']; rfl, h⟩
  have kindC : ∀ x, (x, NameKind.free) ∈ scope.names → (cSt S scope C).env.kindOf x = some .cell := fun x hx => by
    have e := relabel_lookup (scope := scope) (env := S.env) (lookup_of_distinct ok.dist hx)
    have hk := (hfree _ hx rfl).2
    have e2 : (NameKind.free == NameKind.free && S.env.scope.kind == .function && S.env.kindOf x == some .cell) = true := by rw [R₁.ok.kind, hk]; rfl
    rw [if_pos e2] at e
    exact e
  let Sc := cSt S scope C
  have okc : StOK Sc := { kind := ok.kind, glob := R₁.ok.glob, bt := R₁.ok.bt, hL := .head _, inter := (by show (scope.kind == .module && _) = false; rw [ok.kind]; rfl), depth := R₁.ok.depth, units := R₁.ok.units, hand := R₁.ok.hand, frame := (fun e => by cases e), apart := (fun e => by cases e), localNot := (fun x hx c hc => by
      rw [kindC x (lkc x c hc).2] at hx; cases hx), cellL := (fun e => by cases e), hotK := R₁.ok.hotK, tapeK := R₁.ok.tapeK }
  have fzD : ∀ p ∈ fz₁, @LT.lt Nat _ p.1 D := fun p hp => lt2 _ _ (k₁ _ _ (R₁.held p hp))
  have wrD : ∀ b ∈ wr, @LT.lt Nat _ b D := fun b hb => by
    obtain ⟨o, ho⟩ := Option.isSome_iff_exists.mp (hwr b hb).2
    exact lt2 _ _ ho
  let σc := freeSg σ scope.names
  let μc : Str → Option Value := fun x => if ((clOf S.env scope.names []).lookup x).isSome then μ x else none
  have still : ∀ x dsx, σc.get x ≠ some (.own dsx) := fun x dsx e => (freeSg_get e).2.2 dsx rfl
  have Rc : RelAt Sc (hideAll h₁ (tapeL S)) fz₁ σc fz₁ h₃ μc none := by
    refine { ok := okc, gl := R₁.gl.keeps kg, gz := R₁.gz, hk := Kp.handOK R₁.hk kg, keep := fun b o e => k13 b o (of_hideAll _ e), ns := ⟨_, hns₃, fun x hx => ?_⟩, cells := fun x c hc => ?_, cin := fun x c hc => .inr ?_, mutsNew := fun a ha => ?_, mutsIn := fun a ha => ?_, mutsFz := fun p hp hm => ?_, held := fun p hp => k13 _ _ (R₁.held p hp), fzNew := fun p hp => .inl hp, fz0 := fun p hp => hp, dom := fun x b e => ?_, bds := fun x b e => ?_, oaOk := (fun a e => by cases e), uniq := (fun x y dx dy e _ => absurd e (still x dx)), tape := ?_ }
    · have : ((clOf S.env scope.names []).lookup x).isSome = false := by
        cases q : (clOf S.env scope.names []).lookup x with
        | none => rfl
        | some c => exact (okc.localNot x hx c q).elim
      show ([] : List (Str × Value)).reverse.lookup x = (if ((clOf S.env scope.names []).lookup x).isSome = true then μ x else none)
      rw [this]; rfl
    · have hx := lkc x c hc
      have := (R₁.cells x c hx.1).keeps k13
      show h₃.IsCell c (if ((clOf S.env scope.names []).lookup x).isSome = true then μ x else none)
      have q : ((clOf S.env scope.names []).lookup x).isSome = true := by have e : (clOf S.env scope.names []).lookup x = some c := hc; rw [e]; rfl
      rw [if_pos q]; exact this
    · have hx := lkc x c hc
      obtain ⟨o, ho, _⟩ := R₁.cells x c hx.1
      have : c ∉ tapeL S := by
        rcases R₁.cin x c hx.1 with q | q
        · exact ntM c q
        · obtain ⟨o', ho'⟩ := Option.isSome_iff_exists.mp q; exact tp0 c o' ho'
      rw [hideAll_get _ ho this]; rfl
    · rw [List.mem_singleton.mp ha]
      cases q : (hideAll h₁ (tapeL S)).get? C with
      | none => rfl
      | some o => have := of_hideAll _ q; rw [deadC] at this; cases this
    · rw [List.mem_singleton.mp ha]
      obtain ⟨o, _, _, ho, _⟩ := hns₃; rw [ho]; rfl
    · have := fzD p hp
      have e := List.mem_singleton.mp hm
      exact absurd e (Nat.ne_of_lt (Nat.lt_trans this DC))
    · obtain ⟨_, hx, _⟩ := freeSg_get e
      unfold isVar
      rw [kindC x hx]
      exact clOf_some (.inl hx)
    · obtain ⟨e1, hx, hno⟩ := freeSg_get e
      have q : ((clOf S.env scope.names []).lookup x).isSome = true := clOf_some (.inl hx)
      have hm : μc x = μ x := if_pos q
      have r := R₁.bds x b e1
      cases b with
      | val d => obtain ⟨v, a, b⟩ := r; exact ⟨v, by rw [hm]; exact a, b⟩
      | own ds => exact absurd rfl (hno ds)
      | tape => obtain ⟨ta, tc, a, b⟩ := r; exact ⟨ta, tc, a, by rw [hm]; exact b⟩
      | cells => obtain ⟨ta, tc, e1, e2⟩ := r; exact ⟨ta, tc, e1, by rw [hm]; exact e2⟩
    · refine ⟨R₁.ok.hotK _ _ R₁.tape.p fun b _ o => k13 b o, fun b hb => ?_⟩
      refine hidG fun zG zh => ?_
      obtain ⟨e1, e2, e3, e4⟩ := R₁.tape.each b hb
      refine zh ?_
      clear zh zG
      refine ⟨fun q => ?_, hideAll_none _ hb, ?_, e4⟩
      · rw [List.mem_singleton.mp q, deadC] at e3; cases e3
      · obtain ⟨o, ho⟩ := Option.isSome_iff_exists.mp e3
        rw [k13 _ _ ho]; rfl
  have nh : ∀ b, (h₁.get? b).isSome = false → (hideAll h₁ (tapeL S)).get? b = none := fun b e => by
    cases q : (hideAll h₁ (tapeL S)).get? b with
    | none => rfl
    | some o => rw [of_hideAll _ q] at e; cases e
  have notHot : ∀ b, h₁.get? b = none → b ≠ C → b ∉ hotOf Sc none := fun b e hne hm => by
    unfold hotOf at hm
    rcases List.mem_append.mp hm with hm | hm
    · rcases List.mem_append.mp hm with hm | hm
      · exact hne (List.mem_singleton.mp hm)
      · cases hm
    · have := (R₁.hot (tapeL_hot (S := S) hm oa)).2.1
      rw [e] at this; cases this
  have loop : codeAny S.M S.A (.compLoop (.ListComp elt [⟨t, iter, ifs, 0⟩] scope pos) 0 (.ref I) (.ref D) Sc.env) (RR (.ref D) C) { s with heap := h₃, toks := tk₂ } := by
    refine comp_loop (fun n s' => ∃ i hh tk fzi outs vs k μi, n = ds.length - i ∧ i ≤ ds.length ∧ s' = { s with heap := hh, toks := tk } ∧ (∀ p ∈ fz₁, p ∈ fzi) ∧ RelAt Sc (hideAll h₁ (tapeL S)) fz₁ σc fzi hh μi none ∧ Off Sc (hideAll h₁ (tapeL S)) fzi none (D :: wr) hh ∧ At i hh ∧
      hh.get? D = some (listOf vs.toArray k) ∧ DatAll fzi vs outs ∧ J i outs ∧ outs.length ≤ i) ?_ ds.length
      ⟨0, h₃, tk₂, fz₁, [], [], 0, μc, by simp, Nat.zero_le _, rfl, fun _ h => h, Rc, ?_, W.frame _ _ _ at0 fun b _ o e => k3 b o e, hD3, .nil, j0, Nat.le_refl _⟩
    · intro n s' zq
      refine hidG fun zG zh => ?_
      obtain ⟨i, hh, tk, fzi, outs, vs, k, μi, rfl, hi, rfl, subi, Ri, Oi, ati, hDi, hall, ji, hlen⟩ := zq
      refine zh ?_
      clear zh zG
      by_cases hlt : i < ds.length
      · have hd : ds[i]? = some ds[i] := by simp [hlt]
        have Ow : Off Sc (hideAll h₁ (tapeL S)) fzi none wr hh := { base := fun b hb => Oi.base b (.tail _ hb), hot := fun b hb => Oi.hot b (.tail _ hb), fz := fun b hb => Oi.fz b (.tail _ hb), live := fun b hb => Oi.live b (.tail _ hb) }
        have DnotW : D ∉ wr := fun hm => Nat.lt_irrefl _ (wrD D hm)
        refine wp_same_none (P := fun v s₁ => _) (W.item i ds[i] { s with heap := hh, toks := tk } _ _ hd ati fun v h2 tk2 new at2 k2 live2 hnew hiv => ?_) (fun v s₁ hv => hv)
        have R2 := Ri.off Ow k2 new hnew
        have hD2 := k2 D _ DnotW hDi
        have newNe : ∀ p ∈ new, ∀ b, (hh.get? b).isSome = true → p.1 ≠ b := fun p hp b hb e => by rw [← e, (hnew p hp).2] at hb; cases hb
        have hiv' : DatIn (new ++ fzi) v ds[i] := hiv.mono fun p hp => (List.mem_append.mp hp).elim (fun h => List.mem_append_left _ h) fun h => List.mem_append_right _ (subi p h)
        have RA := R2.anchor
        have inG : ∀ b, b ∈ D :: wr → ∀ o, h2.get? b = some o → (hideAll h2 (hotOf Sc none)).get? b = some o := fun b hb o e => hideAll_get _ e (Oi.hot b hb)
        have live2' : ∀ b ∈ D :: wr, (h2.get? b).isSome = true := fun b hb => by
          rcases List.mem_cons.mp hb with rfl | hb
          · rw [hD2]; rfl
          · exact live2 b hb
        refine (turn C i ds[i] outs hd ji) _ _ (new ++ fzi) { s with heap := h2, toks := tk2 } v ⟨_, _, RA⟩ hiv' _ _ fun σ3 h3 tk3 q3 R3 => ?_
        -- what a turn leaves
        have ends : ∀ (σ4 : Sg) (h4 : Heap) (tk4 : Nat) (fz4 : Led), Ext σc σ4 → (∀ p ∈ new ++ fzi, p ∈ fz4) → Rel Sc (hideAll h2 (hotOf Sc none)) (new ++ fzi) σ4 fz4 h4 →
            ∃ μ4, RelAt Sc (hideAll h₁ (tapeL S)) fz₁ σc fz4 h4 μ4 none ∧ Off Sc (hideAll h₁ (tapeL S)) fz4 none (D :: wr) h4 ∧ At (i + 1) h4 ∧ h4.get? D = some (listOf vs.toArray k) ∧ (∀ p ∈ fz₁, p ∈ fz4) ∧ DatAll fz4 vs outs := by
          rintro σ4 h4 tk4 fz4 hext sub4 ⟨μ4, oa4, R4⟩
          have R4w := (R4.weak hext).noOwn still
          have R4' := R2.rebase R4w R2.base_kp
          have keepG : ∀ b ∈ D :: wr, ∀ o, h2.get? b = some o → h4.get? b = some o := fun b hb o e => R4.keep b o (inG b hb o e)
          refine ⟨μ4, R4', ?_, ?_, keepG D (.head _) _ hD2, fun p hp => sub4 p (List.mem_append_right _ (subi p hp)), hall.mono fun p hp => sub4 p (List.mem_append_right _ hp)⟩
          · refine { base := Oi.base, hot := Oi.hot, fz := fun b hb p hp e => ?_, live := fun b hb => ?_ }
            · rcases R4.fzNew p hp with h5 | h5
              · rcases List.mem_append.mp h5 with h6 | h6
                · exact newNe p h6 b (Oi.live b hb) e
                · exact Oi.fz b hb p h6 e
              · obtain ⟨o, ho⟩ := Option.isSome_iff_exists.mp (live2' b hb)
                have := inG b hb o ho
                rw [← e, h5] at this; cases this
            · obtain ⟨o, ho⟩ := Option.isSome_iff_exists.mp (live2' b hb)
              rw [keepG b hb o ho]; rfl
          · refine W.frame _ _ _ at2 fun b hb o e => ?_
            rcases hfp b hb with hb' | ⟨o', ho'⟩
            · exact keepG b (.tail _ hb') o e
            · have e2 := R2.held (b, o') (List.mem_append_right _ (subi _ ho'))
              have e4 := R4.held (b, o') (sub4 _ (List.mem_append_right _ (subi _ ho')))
              dsimp only at e2 e4
              rw [e2] at e; cases e
              exact e4
        obtain ⟨μ3, oa3, R3⟩ := R3
        refine q3.2 ⟨_, μ3, oa3⟩ _ (new ++ fzi) { s with heap := h3, toks := tk3 } R3 _ _ fun b h4 tk4 fz4 q4 sub4 R4 => ?_
        cases b with
        | false =>
          rw [if_neg Bool.false_ne_true]
          refine hidG fun zG zh => ?_
          obtain ⟨μ4, R4', O4, at4, hD4, sub4', hall4⟩ := ends σ3 h4 tk4 fz4 q3.1 sub4 R4.rel
          refine zh ?_
          clear zh zG
          exact ⟨ds.length - (i + 1), by walk_at "o", i + 1, h4, tk4, fz4, outs, vs, k, μ4, rfl, hlt, rfl, sub4', R4', O4, at4, hD4, hall4, q4.2 rfl, by walk_at "o"⟩
        | true =>
          rw [if_pos rfl]
          refine q4.1 rfl _ _ fz4 { s with heap := h4, toks := tk4 } R4 _ _ fun r x h5 tk5 fz5 q5 sub5 R5 hi5 => ?_
          refine hidG fun zG zh => ?_
          obtain ⟨μ5, R5', O5, at5, hD5, sub5', hall5⟩ := ends σ3 h5 tk5 fz5 q3.1 (fun p hp => sub5 p (sub4 p hp)) R5.rel
          refine zh ?_
          clear zh zG
          have hsz : vs.toArray.size ≤ sizeLine := by rw [List.size_toArray, hall5.length, sizeLine_eq]; walk_at "o"
          refine wpAny_list_append_plain (s := { s with heap := h5, toks := tk5 }) ⟨k, hD5⟩ (fun h6 hl6 hs6 => ?_) hsz
          obtain ⟨k6, e6⟩ := hl6
          have OD : Off Sc (hideAll h₁ (tapeL S)) fz5 none [D] h5 := { base := fun b hb => O5.base b (List.mem_singleton.mp hb ▸ .head _), hot := fun b hb => O5.hot b (List.mem_singleton.mp hb ▸ .head _), fz := fun b hb => O5.fz b (List.mem_singleton.mp hb ▸ .head _), live := fun b hb => O5.live b (List.mem_singleton.mp hb ▸ .head _) }
          have R6 := R5'.off OD (h' := h6) (fun b o hb e => hs6.extBut b o (fun q => hb (q ▸ List.mem_singleton_self _)) e) [] (by simp)
          refine ⟨ds.length - (i + 1), by walk_at "o", i + 1, h6, tk5, fz5, outs ++ [r], vs ++ [x], k6, μ5, rfl, hlt, rfl, sub5', by simpa using R6, ?_, ?_, ?_, hall5.append (.one hi5), q5, by simp; walk_at "o"⟩
          · refine { base := O5.base, hot := O5.hot, fz := O5.fz, live := fun b hb => ?_ }
            rcases List.mem_cons.mp hb with rfl | hb
            · rw [e6]; rfl
            · obtain ⟨o, ho⟩ := Option.isSome_iff_exists.mp (O5.live b (.tail _ hb))
              rw [hs6.extBut b o (fun q => DnotW (q ▸ hb)) ho]; rfl
          · refine W.frame _ _ _ at5 fun b hb o e => hs6.extBut b o (fun q => ?_) e
            rcases hfp b hb with hb' | ⟨o', ho'⟩
            · exact DnotW (q ▸ hb')
            · exact absurd q (Nat.ne_of_lt (fzD _ ho'))
          · rw [e6]; simp
      · have hin : i = ds.length := by walk_at "o"
        subst hin
        have Ow : Off Sc (hideAll h₁ (tapeL S)) fzi none wr hh := { base := fun b hb => Oi.base b (.tail _ hb), hot := fun b hb => Oi.hot b (.tail _ hb), fz := fun b hb => Oi.fz b (.tail _ hb), live := fun b hb => Oi.live b (.tail _ hb) }
        have DnotW : D ∉ wr := fun hm => Nat.lt_irrefl _ (wrD D hm)
        refine W.done { s with heap := hh, toks := tk } _ _ ati fun h2 tk2 k2 => ?_
        have R2 := Ri.off Ow k2 [] (by simp)
        simp only [List.nil_append] at R2
        obtain ⟨m, hm, _⟩ := R2.ns
        refine hRR D C h2 tk2 fzi outs vs k m ji subi (fun b o hb e => R2.keep b o (hideAll_get _ e hb)) R2.held (fun p hp => (R2.fzNew p hp).imp id fun e => ?_) R2.tape.p (fun b hb => (R2.tape.each b hb).2.2.1) (k2 D _ DnotW hDi) hall deadD deadC hm (Nat.ne_of_lt DC) (fun p hp => ⟨Oi.fz D (.head _) p hp, fun e => R2.mutsFz p hp (e ▸ .head _)⟩)
        cases q : h₁.get? p.1 with
        | none => rfl
        | some o =>
          by_cases ht : p.1 ∈ tapeL S
          · exact absurd rfl ((R2.tape.each p.1 ht).2.2.2 p hp)
          · rw [hideAll_get _ q ht] at e; cases e
    · refine { base := fun b hb => ?_, hot := fun b hb => ?_, fz := fun b hb p hp e => ?_, live := fun b hb => ?_ }
      · refine nh b ?_
        rcases List.mem_cons.mp hb with rfl | hb
        · rw [dead1 _ (Nat.le_refl _)]; rfl
        · rw [(hwr b hb).1]; rfl
      · rcases List.mem_cons.mp hb with rfl | hb
        · exact notHot _ (dead1 _ (Nat.le_refl _)) (Nat.ne_of_lt DC)
        · exact notHot _ (hwr b hb).1 (Nat.ne_of_lt (Nat.lt_trans (wrD b hb) DC))
      · rcases List.mem_cons.mp hb with rfl | hb
        · exact absurd e (Nat.ne_of_lt (fzD p hp))
        · have h1 := R₁.held p hp
          rw [e, (hwr b hb).1] at h1; cases h1
      · rcases List.mem_cons.mp hb with rfl | hb
        · rw [hD3]; rfl
        · obtain ⟨o, ho⟩ := Option.isSome_iff_exists.mp (hwr b hb).2
          rw [k3 b o ho]; rfl
  exact codeAny_compStart_list loop (W.self 0 { s with heap := h₃, toks := tk₂ } _ _ (W.frame _ _ _ at0 fun b _ o e => k3 b o e) loop)
end
end Mine
end

section
open PySem PySem.W PyProof.Rows PySem.Calls
set_option maxRecDepth 10000
namespace Mine

section
variable {S : St} {σ : Sg}

theorem comp_names {scope : Scope} (ok : CompOK S scope) : ∀ x ∈ scope.names, x.2 = .local → scope.names.lookup x.1 = some .local := fun x hx e => by
  obtain ⟨n, k⟩ := x
  dsimp only at e
  subst e
  exact lookup_of_distinct ok.dist hx
theorem comp_clos {scope : Scope} (ok : CompOK S scope) : closureFor scope S.env = pure (clOf S.env scope.names []) := closureFor_is fun p hp e => by
  have := List.all_eq_true.mp ok.free p hp
  rw [e] at this
  simp only [bne_self_eq_false, Bool.false_or, Bool.and_eq_true] at this
  exact this.1

theorem comp_back {h₀ h₁ h' h'' : Heap} {fz₀ fz₁ fz' : Led} {μ : Str → Option Value} {oa : Option Addr} {D C : Addr} {vs : List Value} {n : Nat} (R₁ : RelAt S h₀ fz₀ σ fz₁ h₁ μ oa) (sub : ∀ p ∈ fz₁, p ∈ fz')
    (k : ∀ b o, b ∉ tapeL S → h₁.get? b = some o → h'.get? b = some o) (hd : Held fz' h') (new : ∀ p ∈ fz', p ∈ fz₁ ∨ h₁.get? p.1 = none) (ht : S.hotP h') (hl : ∀ b ∈ S.hot, (h'.get? b).isSome = true)
    (hD : h'.get? D = some (listOf vs.toArray n)) (dD : h₁.get? D = none) (dC : h₁.get? C = none) (hne : D ≠ C) (hfz : ∀ p ∈ fz', p.1 ≠ D ∧ p.1 ≠ C) (hs : Heap.ExtBut C h' h'') :
    RelAt S h₀ fz₀ σ ((D, listOf vs.toArray n) :: fz') h'' μ oa := by
  have neC : ∀ b o, h₁.get? b = some o → b ≠ C := fun b o e q => by rw [q, dC] at e; cases e
  refine R₁.backT (fun b o hb e => hs b o (neC b o e) (k b o hb e)) (fun p hp => .tail _ (sub p hp)) (fun p hp => ?_) (fun p hp => ?_) ?_ fun b hb => ?_
  · rcases List.mem_cons.mp hp with rfl | hp
    · exact hs _ _ hne hD
    · exact hs _ _ (hfz p hp).2 (hd p hp)
  · rcases List.mem_cons.mp hp with rfl | hp
    · exact .inr dD
    · exact new p hp
  · refine R₁.ok.hotK _ _ ht fun b hb o e => hs b o ?_ e
    obtain ⟨o, ho⟩ := Option.isSome_iff_exists.mp (R₁.tape.each b hb).2.2.1
    exact neC _ _ ho
  · obtain ⟨o, ho⟩ := Option.isSome_iff_exists.mp (R₁.tape.each b hb).2.2.1
    obtain ⟨o', ho'⟩ := Option.isSome_iff_exists.mp (hl b hb)
    rw [hs b o' (neC _ _ ho) ho']; rfl

noncomputable def CompAsk (S : St) (σ : Sg) (scope : Scope) (t elt : Expr) (ifs : List Expr) (ds : List Dat) (Q : Dat → Prop) : Prop :=
  ds.length ≤ 1000 ∧ ∃ J : Nat → List Dat → Prop, J 0 [] ∧
    (∀ (C : Addr) (i : Nat) (d : Dat) (outs : List Dat), ds[i]? = some d → J i outs → CTurn (cSt S scope C) (freeSg σ scope.names) t ifs elt d (fun r => J (i + 1) (outs ++ [r])) (J (i + 1) outs)) ∧ ∀ outs, J ds.length outs → Q (.list outs)

theorem WE_comp {elt t iter : Expr} {ifs : List Expr} {scope : Scope} {pos : Pos} {Q : Dat → Prop} (ok : CompOK S scope) (hf : S.fn = true) (h : WI S σ t iter fun ds => CompAsk S σ scope t elt ifs ds Q)
    (hs : ∀ env x, foldedSetIterable iter env x = pure x := by intro _ _; rfl) : WE S σ (.ListComp elt [⟨t, iter, ifs, 0⟩] scope pos) Q := by
  intro h₀ fz₀ fz s R K E c
  rw [eval_ListComp]
  refine wpAny_comprehension_free (use := none) rfl (hs _) (comp_clos ok) ok.kind (comp_names ok) (h h₀ fz₀ fz s R _ _ fun ds I h₁ h₂ tk₂ fz₁ wr fp At q sub R₁ k₁ W at0 hwr hfp => ?_)
  refine hidG fun zG zh => ?_
  obtain ⟨hlen, J, j0, hj, hq⟩ := q
  refine zh ?_
  clear zh zG
  replace R₁ := R₁.at
  refine comp_core (RR := fun acc C => compPost S.M S.A E none K acc C) R₁ k₁ W at0 hwr hfp ok hf J j0 hlen hj ?_
  intro D C h' tk' fz' outs vs n m' hJ sub' k hd new ht hl hD hall dD dC hns hne hfz
  refine ⟨m', hns, fun h'' hs'' => ?_⟩
  exact c (.list outs) _ h'' tk' _ (hq outs hJ) (fun p hp => .tail _ (sub' p (sub p hp))) (comp_back R₁ sub' k hd new ht hl hD dD dC hne hfz hs''.extBut) (.list (.head _) (hall.mono fun p hp => .tail _ hp))

theorem WX_assign_comp {elt t iter : Expr} {ifs : List Expr} {scope : Scope} {y : Str} {py pos spos : Pos} {Q : Out → Sg → Prop} (ok : CompOK S scope) (hf : S.fn = true) (hy : S.env.kindOf y = some .local)
    (h : WI S σ t iter fun ds => CompAsk S σ scope t elt ifs ds fun d => Q .next (σ.set y (.val d)))
    (hsw : swapsWith (.ListComp elt [⟨t, iter, ifs, 0⟩] scope pos) (some (.Name y py)) spos.line S.env = pure true := by rfl)
    (hs : ∀ env x, foldedSetIterable iter env x = pure x := by intro _ _; rfl) : WX S σ (.Assign [.Name y py] (.ListComp elt [⟨t, iter, ifs, 0⟩] scope pos) spos) Q := by
  intro h₀ fz₀ fz s ⟨μ, oa, R⟩ K E c
  rw [exec_Assign_Name_used _ _ _ _ hsw]
  refine wpAny_bind (wpAny_standAt (wpAny_bind ?_))
  show wpAny _ _ (do let _ ← comprehension (.ListComp elt [⟨t, iter, ifs, 0⟩] scope pos) scope S.env _ (newList []) false (eval iter S.env) (some (assign (.Name y py) S.env))) _ _ s
  refine wpAny_bind (wpAny_mono (wpAny_comprehension_free (use := some (assign (.Name y py) S.env)) (Q := fun _ s' => K .next s') rfl (hs _) (comp_clos ok) ok.kind (comp_names ok)
    (h ⟨h₀, μ, oa⟩ fz₀ fz s R _ _ fun ds I h₁ h₂ tk₂ fz₁ wr fp At q sub R₁ k₁ W at0 hwr hfp => ?_)) (fun _ s' hq => wpAny_pure (wpAny_pure hq)) fun _ _ e => e)
  refine hidG fun zG zh => ?_
  obtain ⟨hlen, J, j0, hj, hq⟩ := q
  refine zh ?_
  clear zh zG
  replace R₁ := R₁.at
  refine comp_core (RR := fun acc C => compPost S.M S.A E (some (assign (.Name y py) S.env)) (fun _ s' => K .next s') acc C) R₁ k₁ W at0 hwr hfp ok hf J j0 hlen hj ?_
  intro D C h' tk' fz' outs vs n m' hJ sub' k hd new ht hl hD hall dD dC hns hne hfz
  have R' := comp_back R₁ sub' k hd new ht hl hD dD dC hne hfz (fun b o _ e => e)
  have hx : isVar S.env y = true := by unfold isVar; rw [hy]
  have Cnot : C ∉ hotOf S oa := fun hm => by
    have := (R₁.hot hm).2.1
    rw [dC] at this; cases this
  show wpAny _ _ (assign (.Name y py) S.env (.ref D)) _ _ _
  refine wpAny_assign_Name (store_val (s := { s with heap := h', toks := tk' }) ⟨_, _, R'.anchor⟩ (.list (.head _) (hall.mono fun p hp => .tail _ hp)) hx (.inl hf) fun h3 tk3 R3 => ?_)
  obtain ⟨μ3, oa3, R3⟩ := R3
  refine hidG fun zG zh => ?_
  obtain ⟨oC, es, ep, hoC, hdC, hrC⟩ := hns
  refine zh ?_
  clear zh zG
  have hC3 := R3.keep C oC (hideAll_get _ hoC Cnot)
  refine ⟨m', ⟨oC, es, ep, hC3, hdC, hrC⟩, fun h4 hs4 => ?_⟩
  have R3' := R'.rebase R3 R'.base_kp
  have gC : (hideAll h' (hotOf S oa)).get? C = some oC := hideAll_get _ hoC Cnot
  have O3 : Off S h₀ ((D, listOf vs.toArray n) :: fz') oa3 [C] h3 := by
    refine { base := fun b hb => ?_, hot := fun b hb hm => ?_, fz := fun b hb p hp => ?_, live := fun b hb => ?_ }
    · rw [List.mem_singleton.mp hb]; exact R₁.keep.none dC
    · rw [List.mem_singleton.mp hb] at hm
      have := (R3.hot hm).1
      rw [gC] at this; cases this
    · rw [List.mem_singleton.mp hb]
      rcases List.mem_cons.mp hp with rfl | hp
      · exact hne
      · exact (hfz p hp).2
    · rw [List.mem_singleton.mp hb, hC3]; rfl
  have R4 := R3'.off O3 (h' := h4) (fun b o hb e => hs4.extBut b o (fun q => hb (q ▸ List.mem_singleton_self _)) e) [] (by simp)
  exact c .next _ .next h4 tk3 _ (hq outs hJ) (fun p hp => .tail _ (sub' p (sub p hp))) ⟨_, _, R4⟩ trivial

end
end Mine
end

section
open PySem PySem.W PyProof.Rows PySem.Calls
set_option maxRecDepth 10000
namespace Mine

section
variable {S : St} {σ : Sg}

-- chains of two comparisons
theorem WE_chain {l r₁ r₂ : Expr} {op₁ op₂ : CmpOp} {pos : Pos} {Q : Dat → Prop}
    (h : WE S σ l fun a => WE S σ r₁ fun b => W2 S (compareOp op₁) a b fun c => WB S c fun t => (t = false → Q c) ∧ (t = true → WE S σ r₂ fun e => W2 S (compareOp op₂) b e Q))
    (hm : lastMarks [op₁, op₂] [r₁, r₂] = false := by with_unfolding_all rfl) : WE S σ (.Compare l [op₁, op₂] [r₁, r₂] pos) Q := by
  intro h₀ fz₀ fz s R K E c
  refine Compare_chain (h h₀ fz₀ fz s R _ _ fun a v h1 tk1 fz1 q1 sub1 R1 hi1 => chain_link (q1 h₀ fz₀ fz1 { s with heap := h1, toks := tk1 } R1 _ _ fun b u h2 tk2 fz2 q2 sub2 R2 hi2 =>
    q2 σ h₀ fz₀ fz2 { s with heap := h2, toks := tk2 } v u R2 (hi1.mono sub2) hi2 _ _ fun d x h3 tk3 fz3 q3 sub3 R3 hi3 => ?_)) hm
  refine q3 σ h₀ fz₀ fz3 { s with heap := h3, toks := tk3 } x R3 hi3 _ _ fun t h4 tk4 fz4 q4 sub4 R4 => ?_
  have sub : ∀ p ∈ fz, p ∈ fz4 := fun p hp => sub4 p (sub3 p (sub2 p (sub1 p hp)))
  cases t with
  | false => exact c d x h4 tk4 fz4 (q4.1 rfl) sub R4 (hi3.mono sub4)
  | true =>
    rw [if_pos rfl]
    refine chain_last (q4.2 rfl h₀ fz₀ fz4 { s with heap := h4, toks := tk4 } R4 _ _ fun e y h5 tk5 fz5 q5 sub5 R5 hi5 => ?_)
    exact q5 σ h₀ fz₀ fz5 { s with heap := h5, toks := tk5 } u y R5 (hi2.mono fun p hp => sub5 p (sub4 p (sub3 p hp))) hi5 _ _ fun d w h6 tk6 fz6 q6 sub6 => c d w h6 tk6 fz6 q6 fun p hp => sub6 p (sub5 p (sub p hp))
theorem WT_chain {l r₁ r₂ : Expr} {op₁ op₂ : CmpOp} {pos : Pos} {Q : Bool → Prop}
    (h : WE S σ l fun a => WE S σ r₁ fun b => W2 S (compareOp op₁) a b fun c => WB S c fun t => (t = false → Q false) ∧ (t = true → WE S σ r₂ fun e => W2 S (compareOp op₂) b e fun f => WB S f Q))
    (hm : lastMarks [op₁, op₂] [r₁, r₂] = false := by with_unfolding_all rfl) : WT S σ (.Compare l [op₁, op₂] [r₁, r₂] pos) Q := by
  intro h₀ fz₀ fz s R K E c
  refine isTrue_chain (h h₀ fz₀ fz s R _ _ fun a v h1 tk1 fz1 q1 sub1 R1 hi1 => test_link (q1 h₀ fz₀ fz1 { s with heap := h1, toks := tk1 } R1 _ _ fun b u h2 tk2 fz2 q2 sub2 R2 hi2 =>
    q2 σ h₀ fz₀ fz2 { s with heap := h2, toks := tk2 } v u R2 (hi1.mono sub2) hi2 _ _ fun d x h3 tk3 fz3 q3 sub3 R3 hi3 => ?_)) hm
  refine q3 σ h₀ fz₀ fz3 { s with heap := h3, toks := tk3 } x R3 hi3 _ _ fun t h4 tk4 fz4 q4 sub4 R4 => ?_
  have sub : ∀ p ∈ fz, p ∈ fz4 := fun p hp => sub4 p (sub3 p (sub2 p (sub1 p hp)))
  cases t with
  | false => exact c false h4 tk4 fz4 (q4.1 rfl) sub R4
  | true =>
    rw [if_pos rfl]
    refine test_last (q4.2 rfl h₀ fz₀ fz4 { s with heap := h4, toks := tk4 } R4 _ _ fun e y h5 tk5 fz5 q5 sub5 R5 hi5 => ?_)
    refine q5 σ h₀ fz₀ fz5 { s with heap := h5, toks := tk5 } u y R5 (hi2.mono fun p hp => sub5 p (sub4 p (sub3 p hp))) hi5 _ _ fun d w h6 tk6 fz6 q6 sub6 R6 hi6 => ?_
    exact q6 σ h₀ fz₀ fz6 { s with heap := h6, toks := tk6 } w R6 hi6 _ _ fun b h7 tk7 fz7 q7 sub7 => c b h7 tk7 fz7 q7 fun p hp => sub7 p (sub6 p (sub5 p (sub p hp)))

noncomputable def WO (S : St) (σ : Sg) (op : BoolOp) (es : List Expr) (Q : Dat → Prop) : Prop :=
  ∀ (pos : Pos) (h₀ : Gnd) (fz₀ fz : Led) (s : Shared), RelE S h₀ fz₀ σ fz s.heap → ∀ (K : Value → Shared → Prop) (E : Value → Shared → Prop), CE S σ h₀ fz₀ fz s Q K → wpAny S.M S.A (boolOp pos op (evalEach es S.env)) K E s
theorem WO_one {op : BoolOp} {e : Expr} {Q : Dat → Prop} (h : WE S σ e Q) : WO S σ op [e] Q := fun _ h₀ fz₀ fz s R K E c => h h₀ fz₀ fz s R K E c
theorem WO_and {x y : Expr} {rest : List Expr} {Q : Dat → Prop} (h : WE S σ x fun d => WB S d fun t => (t = false → Q d) ∧ (t = true → WO S σ .And (y :: rest) Q)) : WO S σ .And (x :: y :: rest) Q := by
  intro pos h₀ fz₀ fz s R K E c
  show wpAny S.M S.A (do
    let v ← eval x S.env
    standAt pos
    let t ← holding [v] (truthy v)
    match BoolOp.And, t with
    | .And, false | .Or, true => pure v
    | _, _ => boolOp pos .And (evalEach (y :: rest) S.env)) K E s
  refine wpAny_bind (h h₀ fz₀ fz s R _ _ fun d v h1 tk1 fz1 q1 sub1 R1 hi1 => wpAny_bind (wpAny_standAt (wpAny_bind (wpAny_holding (q1 σ h₀ fz₀ fz1 { s with heap := h1, toks := tk1 } v R1 hi1 _ _ fun t h2 tk2 fz2 q2 sub2 R2 => ?_)))))
  cases t with
  | false => exact wpAny_pure (c d v h2 tk2 fz2 (q2.1 rfl) (fun p hp => sub2 p (sub1 p hp)) R2 (hi1.mono sub2))
  | true => exact q2.2 rfl pos h₀ fz₀ fz2 { s with heap := h2, toks := tk2 } R2 _ _ fun d w h3 tk3 fz3 q3 sub3 => c d w h3 tk3 fz3 q3 fun p hp => sub3 p (sub2 p (sub1 p hp))
theorem WO_or {x y : Expr} {rest : List Expr} {Q : Dat → Prop} (h : WE S σ x fun d => WB S d fun t => (t = true → Q d) ∧ (t = false → WO S σ .Or (y :: rest) Q)) : WO S σ .Or (x :: y :: rest) Q := by
  intro pos h₀ fz₀ fz s R K E c
  show wpAny S.M S.A (do
    let v ← eval x S.env
    standAt pos
    let t ← holding [v] (truthy v)
    match BoolOp.Or, t with
    | .And, false | .Or, true => pure v
    | _, _ => boolOp pos .Or (evalEach (y :: rest) S.env)) K E s
  refine wpAny_bind (h h₀ fz₀ fz s R _ _ fun d v h1 tk1 fz1 q1 sub1 R1 hi1 => wpAny_bind (wpAny_standAt (wpAny_bind (wpAny_holding (q1 σ h₀ fz₀ fz1 { s with heap := h1, toks := tk1 } v R1 hi1 _ _ fun t h2 tk2 fz2 q2 sub2 R2 => ?_)))))
  cases t with
  | true => exact wpAny_pure (c d v h2 tk2 fz2 (q2.1 rfl) (fun p hp => sub2 p (sub1 p hp)) R2 (hi1.mono sub2))
  | false => exact q2.2 rfl pos h₀ fz₀ fz2 { s with heap := h2, toks := tk2 } R2 _ _ fun d w h3 tk3 fz3 q3 sub3 => c d w h3 tk3 fz3 q3 fun p hp => sub3 p (sub2 p (sub1 p hp))
theorem WE_bool_op {op : BoolOp} {es : List Expr} {pos : Pos} {Q : Dat → Prop} (h : WO S σ op es Q) : WE S σ (.BoolOp op es pos) Q := fun h₀ fz₀ fz s R K E c => h pos h₀ fz₀ fz s R K E c

-- subscripts
theorem WE_sub {b i : Expr} {pos : Pos} {Q : Dat → Prop} (h : WE S σ b fun d => WE S σ i fun e => W2 S (subscriptTail b i) d e Q) : WE S σ (.Subscript b i pos) Q := by
  intro h₀ fz₀ fz s R K E c
  refine Subscript_ (h h₀ fz₀ fz s R _ _ fun d v h1 tk1 fz1 q1 sub1 R1 hi1 => q1 h₀ fz₀ fz1 { s with heap := h1, toks := tk1 } R1 _ _ fun e u h2 tk2 fz2 q2 sub2 R2 hi2 => ?_)
  exact q2 σ h₀ fz₀ fz2 { s with heap := h2, toks := tk2 } v u R2 (hi1.mono sub2) hi2 _ _ fun d w h3 tk3 fz3 q3 sub3 => c d w h3 tk3 fz3 q3 fun p hp => sub3 p (sub2 p (sub1 p hp))

theorem item_get {h : Heap} {fz : Led} {M : Model} {A : Around} {s : Shared} {a : Addr} {vs : List Value} {k : Int} {t : Tok} {j : Nat} {K : Value → Shared → Prop} {E : Value → Shared → Prop} {prog : Program} {w : World} {x : Value} (hl : s.heap.IsList a vs.toArray) (hlen : vs.length < 2 ^ 62)
    (hj : seqIndex? k vs.length = some j) (hx : vs[j]? = some x) (hk : K x s) : wpAny (model prog w) A (getItem (.ref a) (.int k t)) K E s := by
  by_cases h0 : k < 0
  · have h1 : 0 ≤ k + vs.length := by
      rcases Int.lt_or_le (k + vs.length) 0 with h | h
      · exfalso
        have e : seqIndex? k vs.length = none := by unfold seqIndex?; simp [h0]; walk_at "o"
        rw [e] at hj; cases hj
      · exact h
    have e : seqIndex? k vs.length = some (k + vs.length).toNat := by unfold seqIndex?; simp [h0]; walk_at "o"
    rw [e] at hj
    cases hj
    exact wpAny_getItem_list_neg hl h0 (by simp; walk_at "o") (by walk_at "o") (by simpa using hx) hk
  · have h1 : k < vs.length := by
      rcases Int.lt_or_le k vs.length with h | h
      · exact h
      · exfalso
        have e : seqIndex? k vs.length = none := by unfold seqIndex?; simp [h0]; walk_at "o"
        rw [e] at hj; cases hj
    have e : seqIndex? k vs.length = some k.toNat := by unfold seqIndex?; simp [h0]; walk_at "o"
    rw [e] at hj
    cases hj
    exact wpAny_getItem_list hl (by walk_at "o") (by walk_at "o") (by simpa using hx) hk

theorem W2_list_item {b i : Expr} {ds : List Dat} {k : Int} {j : Nat} {Q : Dat → Prop} {r : Dat} (hlen : ds.length ≤ 100000) (hj : seqIndex? k ds.length = some j) (hr : ds[j]? = some r) (q : Q r)
    (hs : ∀ o u, subscripted i false o u = operate [o, u] (getItem o u) := by intro _ _; with_unfolding_all rfl) : W2 S (subscriptTail b i) (.list ds) (.int k) Q := by
  intro σ h₀ fz₀ fz s v u R hi hu K E c
  refine hidG fun zG zh => ?_
  obtain ⟨a, vs, n, rfl, hm, hall⟩ := di_list hi
  refine zh ?_
  clear zh zG
  obtain ⟨t, rfl⟩ := di_int hu
  have hl := isList_of R.held hm
  have hjl : j < ds.length := by
    rcases Nat.lt_or_ge j ds.length with h | h
    · exact h
    · rw [List.getElem?_eq_none h] at hr; cases hr
  obtain ⟨x, hx, hd⟩ := hall.get hjl
  have e : ds[j] = r := by simpa [hjl] using hr
  rw [e] at hd
  refine tail_any hl.typeIs slot_list_getitem.lookup (item_get (fz := fz) (h := s.heap) (M := S.M) hl (by rw [hall.length]; walk_at "o") (by rw [hall.length]; exact hj) hx (CE.same c R hd q)) (hs _ _)
theorem W2_tuple_item {b i : Expr} {ds : List Dat} {k : Int} {j : Nat} {Q : Dat → Prop} {r : Dat} (hlen : ds.length ≤ 100000) (hj : seqIndex? k ds.length = some j) (hr : ds[j]? = some r) (q : Q r) (hk : -1000000 ≤ k ∧ k ≤ 1000000)
    (hs : ∀ o u, subscripted i false o u = operate [o, u] (getItem o u) := by intro _ _; with_unfolding_all rfl) : W2 S (subscriptTail b i) (.tuple ds) (.int k) Q := by
  intro σ h₀ fz₀ fz s v u R hi hu K E c
  refine hidG fun zG zh => ?_
  obtain ⟨a, vs, n, rfl, hm, hall⟩ := di_tuple hi
  refine zh ?_
  clear zh zG
  obtain ⟨t, rfl⟩ := di_int hu
  have ht := isTup_of R.held hm
  have hjl : j < ds.length := by
    rcases Nat.lt_or_ge j ds.length with h | h
    · exact h
    · rw [List.getElem?_eq_none h] at hr; cases hr
  obtain ⟨x, hx, hd⟩ := hall.get hjl
  have e : ds[j] = r := by simpa [hjl] using hr
  rw [e] at hd
  exact item_tupleT ht (by walk_at "o") (by walk_at "o") (by rw [hall.length]; exact hj) hx (CE.same c R hd q) (hs _ _)
end
end Mine
end

section
open PySem PySem.W PyProof.Rows PySem.Calls
set_option maxRecDepth 10000
namespace Mine

noncomputable def Sg.drop : Sg → Str → Sg
  | [], _ => []
  | (y, b) :: r, x => match sEq y x with
    | true => Sg.drop r x
    | false => (y, b) :: Sg.drop r x
theorem Sg.drop_get {σ : Sg} {x y : Str} {b : Bd} (h : (Sg.drop σ x).get y = some b) : y ≠ x ∧ σ.get y = some b := by
  induction σ with
  | nil => cases h
  | cons p r ih =>
    obtain ⟨z, c⟩ := p
    unfold Sg.drop at h
    cases q : sEq z x with
    | true =>
      rw [q] at h
      obtain ⟨h1, h2⟩ := ih h
      refine ⟨h1, ?_⟩
      unfold Sg.get
      have : sEq z y = false := by
        cases q2 : sEq z y with
        | false => rfl
        | true =>
          have e1 := sEq_iff.mp q
          have e2 := sEq_iff.mp q2
          exact absurd (e2.symm.trans e1) h1
      rw [this]; exact h2
    | false =>
      rw [q] at h
      have h' : (match sEq z y with | true => some c | false => Sg.get (Sg.drop r x) y) = some b := h
      unfold Sg.get
      cases q2 : sEq z y with
      | true =>
        rw [q2] at h'
        have e2 := sEq_iff.mp q2
        refine ⟨fun e => ?_, h'⟩
        rw [e] at e2
        rw [e2, sEq_iff.mpr rfl] at q; cases q
      | false => rw [q2] at h'; exact ih h'
theorem Sg.get_drop {σ : Sg} {x y : Str} (h : y ≠ x) : (Sg.drop σ x).get y = σ.get y := by
  induction σ with
  | nil => rfl
  | cons p r ih =>
    obtain ⟨z, c⟩ := p
    unfold Sg.drop
    cases q : sEq z x with
    | true =>
      have e1 := sEq_iff.mp q
      have : sEq z y = false := by
        cases q2 : sEq z y with
        | false => rfl
        | true => exact absurd ((sEq_iff.mp q2).symm.trans e1) h
      show Sg.get (Sg.drop r x) y = (match sEq z y with | true => some c | false => Sg.get r y)
      rw [this, ih]
    | false =>
      show (match sEq z y with | true => some c | false => Sg.get (Sg.drop r x) y) = (match sEq z y with | true => some c | false => Sg.get r y)
      rw [ih]

section
variable {S : St} {σ : Sg} {h₀ h h' : Heap} {fz₀ fz : Led} {μ : Str → Option Value} {oa : Option Addr}

theorem RelAt.newOwn {a : Addr} (R : RelAt S h₀ fz₀ σ fz h μ oa) (hs : ∀ x ds, σ.get x ≠ some (.own ds)) (ha : a ∉ S.muts ∧ h₀.get? a = none ∧ (∀ p ∈ fz, p.1 ≠ a) ∧ (h.get? a).isSome = true ∧ a ∉ S.hot) : RelAt S h₀ fz₀ σ fz h μ (some a) :=
  { ok := R.ok, gl := R.gl, gz := R.gz, hk := R.hk, keep := R.keep, ns := R.ns, cells := R.cells, cin := R.cin, mutsNew := R.mutsNew, mutsIn := R.mutsIn, mutsFz := R.mutsFz, held := R.held, fzNew := R.fzNew, fz0 := R.fz0,
    dom := R.dom, bds := (fun x b e => by
      have := R.bds x b e
      cases b with
      | own ds => exact absurd e (hs x ds)
      | val d => exact this
      | tape => exact this
      | cells => exact this), oaOk := (fun b e => by cases e; exact ha), uniq := R.uniq, tape := R.tape }

theorem BdR.mu {x : Str} {b : Bd} {μ' : Str → Option Value} (r : BdR S fz h μ oa x b) (e : μ' x = μ x) : BdR S fz h μ' oa x b := by
  cases b with
  | val d' => obtain ⟨u, e1, e2⟩ := r; exact ⟨u, e.trans e1, e2⟩
  | own ds => obtain ⟨a, o, e1, e2, e3⟩ := r; exact ⟨a, o, e1, e.trans e2, e3⟩
  | tape => obtain ⟨ta, tc, e1, e2⟩ := r; exact ⟨ta, tc, e1, e.trans e2⟩
  | cells => obtain ⟨ta, tc, e1, e2⟩ := r; exact ⟨ta, tc, e1, e.trans e2⟩

theorem store_own {s : Shared} {x : Str} {a : Addr} {o : Obj} {ds : Dat} (R : RelAt S h₀ fz₀ σ fz s.heap μ oa) (ha : a ∉ S.muts ∧ h₀.get? a = none ∧ (∀ p ∈ fz, p.1 ≠ a) ∧ (s.heap.get? a).isSome = true ∧ a ∉ S.hot)
    (ho : s.heap.get? a = some o) (hall : OwnIs fz a o ds) (hst : (Sg.drop σ x).still = true) (hx : isVar S.env x = true) (hf : S.fn = true) {K : Unit → Shared → Prop} {E : Value → Shared → Prop}
    (h : ∀ h' tk', Rel S h₀ fz₀ (σ.set x (.own ds)) fz h' → K () { s with heap := h', toks := tk' }) : wpAny S.M S.A (storeName S.env x (.ref a)) K E s := by
  have hs : ∀ y dy, (Sg.drop σ x).get y ≠ some (.own dy) := fun y dy => Sg.still_of hst
  have R1 := (R.weak (σ' := Sg.drop σ x) fun y b e => (Sg.drop_get e).2).newOwn hs ha
  have ho' : ∀ y dy, σ.get y = some (.own dy) → y = x := fun y dy e => by
    by_cases q : y = x
    · exact q
    · exact absurd ((Sg.get_drop q).trans e) (hs y dy)
  refine store_var (σ' := σ.set x (.own ds)) R1 hx (.inl hf) (fun y b e => ?_) (fun y z dy dz ey ez => ?_) (fun h' hs' y b e => ?_) fun h' tk' R' => h h' tk' ⟨_, _, R'⟩
  · rw [Sg.get_set] at e
    split at e
    · rename_i q; subst q; exact hx
    · exact R.dom y b e
  · rw [Sg.get_set] at ey ez
    have e1 : y = x := by
      split at ey
      · assumption
      · exact ho' y dy ey
    have e2 : z = x := by
      split at ez
      · assumption
      · exact ho' z dz ez
    rw [e1, e2]
  · rw [Sg.get_set] at e
    split at e
    · rename_i q
      subst q
      cases e
      exact ⟨a, o, rfl, by simp, hs' a _ ha.1 ho, hall⟩
    · rename_i q
      have r := R1.bds y b ((Sg.get_drop q).trans e)
      refine (r.mono (fun _ h => h) fun b' hb' o ho => ?_).mu (if_neg q)
      cases hb'
      exact hs' _ o ha.1 ho

theorem push_cold {o : Obj} (R : RelAt S h₀ fz₀ σ fz h μ oa) (hf : o.isFreed = false) : RelAt S h₀ fz₀ σ fz (h.push o) μ oa ∧
    (h.objs.size ∉ S.muts ∧ h₀.get? h.objs.size = none ∧ (∀ p ∈ fz, p.1 ≠ h.objs.size) ∧ ((h.push o).get? h.objs.size).isSome = true ∧ h.objs.size ∉ S.hot) := by
  have hn : h.get? h.objs.size = none := by
    cases e : h.get? h.objs.size with
    | none => rfl
    | some o' => exact absurd (Heap.lt_size e) (Nat.lt_irrefl _)
  refine ⟨by simpa using R.ext (Kp.push h o) [] (by simp), fun hm => ?_, R.keep.none hn, fun p hp e => ?_, by rw [Heap.get?_push_size _ hf]; rfl, fun hm => ?_⟩
  · have := R.mutsIn _ hm; rw [hn] at this; cases this
  · have := R.held p hp; rw [e, hn] at this; cases this
  · have := (R.tape.each _ hm).2.2.1; rw [hn] at this; cases this

variable {Q : Out → Sg → Prop}

theorem WX_own {x : Str} {pos' lpos pos : Pos} {es : List Expr} (h : WL S σ es fun ds => ds.length ≤ 1000 ∧ Q .next (σ.set x (.own (.list ds)))) (hst : (Sg.drop σ x).still = true) (hx : isVar S.env x = true) (hf : S.fn = true)
    (hs : ∀ line env, swapsWith (.List es lpos) (some (.Name x pos')) line env = pure false := by intro _ _; rfl) : WX S σ (.Assign [.Name x pos'] (.List es lpos) pos) Q := by
  intro h₀ fz₀ fz s ⟨μ, oa, R⟩ K E c
  refine wpAny_Assign_Name (wpAny_List (h lpos ⟨h₀, μ, oa⟩ fz₀ fz s R _ _ fun ds vs h' tk' fz' q sub R' hi => ⟨?_, ?_⟩)) (hs _ _)
  · rw [hi.length, sizeLine_eq]; walk_at "o"
  · obtain ⟨R2, ha⟩ := push_cold (o := { cls := .type "list", data := .seq vs.toArray }) R'.at rfl
    exact store_own (ds := .list ds) (s := { s with heap := h'.push { cls := .type "list", data := .seq vs.toArray }, toks := tk' }) R2 ha (Heap.get?_push_size _ rfl) ⟨vs, 0, rfl, hi⟩ hst hx hf fun h3 tk3 R3 => c .next _ .next h3 tk3 fz' q.2 sub R3 trivial

theorem RelAt.setOwn {x : Str} {a : Addr} {o : Obj} {ds ds₀ : Dat} (R : RelAt S h₀ fz₀ σ fz h μ oa) (hx : σ.get x = some (.own ds₀)) (ha : oa = some a) (hμ : μ x = some (.ref a)) (hs : Heap.ExtBut a h h') (ho : h'.get? a = some o) (hall : OwnIs fz a o ds) :
    RelAt S h₀ fz₀ (σ.set x (.own ds)) fz h' μ oa := by
  refine hidG fun zG zh => ?_
  obtain ⟨e1, e2, e3, e4, e5⟩ := R.oaOk a ha
  refine zh ?_
  clear zh zG
  have kM : ∀ b ∈ S.muts, b ≠ a := fun b hb e => e1 (e ▸ hb)
  have k0 : ∀ b o, h₀.get? b = some o → b ≠ a := fun b o e q => by rw [q, e2] at e; cases e
  refine { ok := R.ok, gl := R.gl, gz := R.gz, hk := R.hk, keep := fun b o e => hs b o (k0 b o e) (R.keep b o e), ns := ?_, cells := fun y c e => ?_, cin := R.cin, mutsNew := R.mutsNew, mutsIn := fun b hb => ?_, mutsFz := R.mutsFz, held := fun p hp => hs _ _ (e3 p hp) (R.held p hp), fzNew := R.fzNew, fz0 := R.fz0, dom := fun y b e => ?_, bds := fun y b e => ?_, oaOk := fun b hb => ?_, uniq := fun y z dy dz ey ez => ?_, tape := ?_ }
  · refine hidG fun zG zh => ?_
    obtain ⟨m, ⟨o, es, ep, ho, r⟩, e⟩ := R.ns
    refine zh ?_
    clear zh zG
    exact ⟨m, ⟨o, es, ep, hs _ _ (kM _ R.ok.hL) ho, r⟩, e⟩
  · obtain ⟨o, ho, hd⟩ := R.cells y c e
    refine ⟨o, hs _ _ ?_ ho, hd⟩
    rcases R.cin y c e with hc | hc
    · exact kM _ hc
    · obtain ⟨o', ho'⟩ := Option.isSome_iff_exists.mp hc
      exact k0 _ _ ho'
  · obtain ⟨o, ho⟩ := Option.isSome_iff_exists.mp (R.mutsIn b hb)
    rw [hs _ _ (kM b hb) ho]; rfl
  · rw [Sg.get_set] at e
    split at e
    · rename_i q; subst q; exact R.dom y _ hx
    · exact R.dom y b e
  · rw [Sg.get_set] at e
    split at e
    · rename_i q
      subst q
      cases e
      exact ⟨a, o, ha, hμ, ho, hall⟩
    · rename_i q
      have r := R.bds y b e
      cases b with
      | own ds' => exact absurd (R.uniq y x _ _ e hx) q
      | val d => exact r
      | tape => exact r
      | cells => exact r
  · rw [ha] at hb
    cases hb
    exact ⟨e1, e2, e3, by rw [ho]; rfl, e5⟩
  · have key : ∀ w dw, (σ.set x (.own ds)).get w = some (.own dw) → w = x := fun w dw e => by
      rw [Sg.get_set] at e
      split at e
      · assumption
      · exact R.uniq w x _ _ e hx
    rw [key y dy ey, key z dz ez]
  · exact R.tape.step R.ok (fun b hb o => hs b o (fun q => e5 (q ▸ hb))) (fun b hb => (R.tape.each b hb).2.1) fun p hp => .inl hp

theorem WX_append {x : Str} {xp ap cp pos : Pos} {e : Expr} {ds : List Dat} (hx : σ.get x = some (.own (.list ds))) (h : WE S σ e fun d => Q .next (σ.set x (.own (.list (ds ++ [d]))))) (hlen : ds.length ≤ 100000)
    (hdb : (x == ("__debug__" : Str)) = false := by decide) (hline : (ap.endLine == cp.line) = true := by rfl)
    (he : ∀ env, starEach [e] env = (false, eval e env) :: starEach [] env := by intro _; rfl)
    (hfew : ∀ env, ((backTo cp (starEach [e] env)).all (fun x => !x.1) && (backToKw cp (keywordEach [] env)).all (fun x => x.1.isSome)
      && decide ([e].length + ([] : List Keyword).length + (if ([] : List Keyword).isEmpty then 0 else 1) < 30)) = true := by intro _; rfl) :
    WX S σ (.Expr (.Call (.Attribute (.Name x xp) "append" ap) [e] [] cp) pos) Q := by
  intro h₀ fz₀ fz s ⟨μ, oa, R⟩ K E c
  refine wpAny_Expr ?_ R.ok.inter rfl
  refine hidG fun zG zh => ?_
  obtain ⟨a, _, e1, e2, e3, vs, n, rfl, e4⟩ := R.bds x _ hx
  refine zh ?_
  clear zh zG
  refine wpAny_Call_method (T := "list") (id := "list.append") rfl (hfew _) hline F.plainAttrs_list slot_list_append F.type_list_append (wpAny_Name (load_var R hx e2 ⟨⟨_, e3, rfl⟩, fun b hb => by cases hb; exact ⟨_, e3, rfl⟩, ?_⟩) hdb)
  rw [he]
  refine callWith_builtin rfl (evalArgs_plain (spliced_cons (h ⟨h₀, μ, oa⟩ fz₀ fz s R _ _ fun d v h' tk' fz' q sub R' hi => spliced_nil ?_)))
  replace R' := R'.at
  refine hidG fun zG zh => ?_
  obtain ⟨a', _, e1', e2', e3', vs', n', rfl, e4'⟩ := R'.bds x _ hx
  refine zh ?_
  clear zh zG
  dsimp only at e1' e2' e3'
  rw [e2] at e2'
  cases e2'
  refine wpAny_list_append_plain (s := { s with heap := h', toks := tk' }) ⟨n', e3'⟩ (fun h2 hl2 hs2 => ?_) (by rw [List.size_toArray, e4'.length, sizeLine_eq]; walk_at "o")
  obtain ⟨n2, ho2⟩ := hl2
  have R2 := RelAt.setOwn (o := listOf (vs' ++ [v]).toArray n2) (ds := .list (ds ++ [d])) R' hx e1' e2 hs2.extBut (by rw [ho2]; simp) ⟨_, _, rfl, e4'.append (.one hi)⟩
  exact c .next _ .next h2 tk' fz' q sub ⟨_, _, R2⟩ trivial

theorem RelAt.freeze {x : Str} {ds : Dat} (R : RelAt S h₀ fz₀ σ fz h μ oa) (hx : σ.get x = some (.own ds)) : ∃ p, RelAt S h₀ fz₀ (σ.set x (.val ds)) (p :: fz) h μ none := by
  refine hidG fun zG zh => ?_
  obtain ⟨a, o, ha, hμ, ho, hall⟩ := R.bds x _ hx
  refine zh ?_
  clear zh zG
  refine hidG fun zG zh => ?_
  obtain ⟨e1, e2, e3, e4, e5⟩ := R.oaOk a ha
  refine zh ?_
  clear zh zG
  have no : ∀ y dy, (σ.set x (.val ds)).get y ≠ some (.own dy) := fun y dy e => by
    rw [Sg.get_set] at e
    split at e
    · cases e
    · rename_i q; exact q (R.uniq y x _ _ e hx)
  refine ⟨(a, o), { ok := R.ok, gl := R.gl, gz := fun p hp => .tail _ (R.gz p hp), hk := R.hk, keep := R.keep, ns := R.ns, cells := R.cells, cin := R.cin, mutsNew := R.mutsNew, mutsIn := R.mutsIn, mutsFz := fun p hp => ?_, held := fun p hp => ?_, fzNew := fun p hp => ?_, fz0 := fun p hp => .tail _ (R.fz0 p hp), dom := fun y b e => ?_, bds := fun y b e => ?_, oaOk := (fun a e => by cases e), uniq := (fun y z dy dz ey _ => absurd ey (no y dy)), tape := ?_ }⟩
  · rcases List.mem_cons.mp hp with rfl | hp
    · exact e1
    · exact R.mutsFz p hp
  · rcases List.mem_cons.mp hp with rfl | hp
    · exact ho
    · exact R.held p hp
  · rcases List.mem_cons.mp hp with rfl | hp
    · exact .inr e2
    · exact R.fzNew p hp
  · rw [Sg.get_set] at e
    split at e
    · rename_i q; subst q; exact R.dom y _ hx
    · exact R.dom y b e
  · rw [Sg.get_set] at e
    split at e
    · rename_i q
      subst q
      cases e
      exact ⟨.ref a, hμ, hall.frozen⟩
    · rename_i q
      have r := R.bds y b e
      cases b with
      | own ds' => exact absurd (R.uniq y x _ _ e hx) q
      | val d => obtain ⟨v, q1, q2⟩ := r; exact ⟨v, q1, q2.mono fun p hp => .tail _ hp⟩
      | tape => exact r
      | cells => exact r
  · refine ⟨R.tape.p, fun b hb => ?_⟩
    refine hidG fun zG zh => ?_
    obtain ⟨t1, t2, t3, t4⟩ := R.tape.each b hb
    refine zh ?_
    clear zh zG
    refine ⟨t1, t2, t3, fun p hp => ?_⟩
    rcases List.mem_cons.mp hp with rfl | hp
    · intro q
      have e : a = b := q
      exact e5 (by rw [e]; exact hb)
    · exact t4 p hp
theorem WS_freeze {x : Str} {ds : Dat} {ss : List Stmt} (hx : σ.get x = some (.own ds)) (h : WS S (σ.set x (.val ds)) ss Q) : WS S σ ss Q := by
  intro h₀ fz₀ fz s ⟨μ, oa, R⟩ K E c
  obtain ⟨p, R'⟩ := R.freeze hx
  exact h h₀ fz₀ (p :: fz) s ⟨_, _, R'⟩ K E fun o σ' f h' tk' fz' q sub => c o σ' f h' tk' fz' q fun p' hp => sub p' (.tail _ hp)

theorem WE_own_sub {x : Str} {xp pos : Pos} {i : Expr} {ds : List Dat} {Q : Dat → Prop} (hx : σ.get x = some (.own (.list ds))) (h : WE S σ i fun d => ∃ k j r, d = .int k ∧ seqIndex? k ds.length = some j ∧ ds[j]? = some r ∧ Q r) (hlen : ds.length ≤ 100000)
    (hdb : (x == ("__debug__" : Str)) = false := by decide) (hs : ∀ o u, subscripted i false o u = operate [o, u] (getItem o u) := by intro _ _; with_unfolding_all rfl) : WE S σ (.Subscript (.Name x xp) i pos) Q := by
  intro h₀ fz₀ fz s R K E c
  refine hidG fun zG zh => ?_
  obtain ⟨a, _, e1, e2, e3, vs, n, rfl, e4⟩ := R.at.bds x _ hx
  refine zh ?_
  clear zh zG
  refine Subscript_ (wpAny_Name (load_var R.at hx e2 (h h₀ fz₀ fz s R _ _ fun d v h' tk' fz' q sub R' hi => ?_)) hdb)
  refine hidG fun zG zh => ?_
  obtain ⟨k, j, r, rfl, hj, hr, q⟩ := q
  refine zh ?_
  clear zh zG
  obtain ⟨t, rfl⟩ := di_int hi
  refine hidG fun zG zh => ?_
  obtain ⟨a', _, e1', e2', e3', vs', n', rfl, e4'⟩ := R'.at.bds x _ hx
  refine zh ?_
  clear zh zG
  rw [e2] at e2'
  cases e2'
  have hl : h'.IsList a vs'.toArray := ⟨_, e3', rfl, n', rfl⟩
  have hjl : j < ds.length := by
    rcases Nat.lt_or_ge j ds.length with h | h
    · exact h
    · rw [List.getElem?_eq_none h] at hr; cases hr
  obtain ⟨y, hy, hd⟩ := e4'.get hjl
  have e : ds[j] = r := by simpa [hjl] using hr
  rw [e] at hd
  have hl' : ({ s with heap := h', toks := tk' } : Shared).heap.IsList a vs'.toArray := hl
  exact tail_any hl'.typeIs slot_list_getitem.lookup (item_get (fz := fz') (h := h') (M := S.M) hl' (by rw [e4'.length]; walk_at "o") (by rw [e4'.length]; exact hj) hy (c r y h' tk' fz' q sub R' hd)) (hs _ _)

theorem WX_own_add {x : Str} {xp xp' lpos bpos pos : Pos} {es : List Expr} {ds : List Dat} (hx : σ.get x = some (.own (.list ds))) (h : WL S σ es fun ds' => ds'.length ≤ 1000 ∧ Q .next (σ.set x (.own (.list (ds ++ ds'))))) (hlen : ds.length ≤ 1000) (hst : (Sg.drop σ x).still = true) (hv : isVar S.env x = true) (hf : S.fn = true)
    (hdb : (x == ("__debug__" : Str)) = false := by decide) (hs : ∀ line env, swapsWith (.BinOp (.Name x xp) .Add (.List es lpos) bpos) (some (.Name x xp')) line env = pure false := by intro _ _; rfl) :
    WX S σ (.Assign [.Name x xp'] (.BinOp (.Name x xp) .Add (.List es lpos) bpos) pos) Q := by
  intro h₀ fz₀ fz s ⟨μ, oa, R⟩ K E c
  refine hidG fun zG zh => ?_
  obtain ⟨a, _, e1, e2, e3, vs, n, rfl, e4⟩ := R.bds x _ hx
  refine zh ?_
  clear zh zG
  refine wpAny_Assign_Name (wpAny_BinOp (wpAny_Name (load_var R hx e2 (wpAny_List (h lpos ⟨h₀, μ, oa⟩ fz₀ fz s R _ _ fun ds' vs' h' tk' fz' q sub R' hi => ⟨?_, ?_⟩))) hdb)) (hs _ _)
  · rw [hi.length, sizeLine_eq]; walk_at "o"
  · replace R' := R'.at
    refine hidG fun zG zh => ?_
    obtain ⟨a', _, e1', e2', e3', ws, n', rfl, e4'⟩ := R'.bds x _ hx
    refine zh ?_
    clear zh zG
    dsimp only at e1' e2' e3'
    rw [e2] at e2'
    cases e2'
    obtain ⟨R2, ha2⟩ := push_cold (o := { cls := .type "list", data := .seq vs'.toArray }) R' rfl
    have k2 : Kp h' (h'.push { cls := .type "list", data := .seq vs'.toArray }) := Kp.push _ _
    refine P.add_list (s := { s with heap := h'.push { cls := .type "list", data := .seq vs'.toArray }, toks := tk' }) (n := n') (n2 := 0) (k2 _ _ e3') (Heap.get?_push_size _ rfl) ?_ (by rw [List.size_toArray, List.size_toArray, e4'.length, hi.length, sizeLine_eq]; walk_at "o")
    obtain ⟨R3, ha3⟩ := push_cold (o := { cls := .type "list", data := .seq (ws.toArray ++ vs'.toArray) }) R2 rfl
    exact store_own (ds := .list (ds ++ ds')) (s := { s with heap := _, toks := tk' }) (o := listOf (ws ++ vs').toArray 0) R3 ha3 ((Heap.get?_push_size (h'.push { cls := .type "list", data := .seq vs'.toArray }) (o := { cls := .type "list", data := .seq (ws.toArray ++ vs'.toArray) }) rfl).trans (by simp)) ⟨_, _, rfl, e4'.append hi⟩ hst hv hf fun h3 tk3 R4 => c .next _ .next h3 tk3 fz' q.2 sub R4 trivial
end
end Mine
end

section
open PySem PySem.W PyProof.Rows PySem.Calls PySem.SeqAt PySem.MeetsSeq
set_option maxRecDepth 10000
namespace Mine

section
variable {S : St} {σ : Sg} {Q : Dat → Prop}

theorem W2_imm {t : Value → Value → Sem Value} {a b r : Dat} {f g k : Tok → Value} (ia : ∀ fz v, DatIn fz v a → ∃ u, v = f u) (ib : ∀ fz v, DatIn fz v b → ∃ u, v = g u) (ir : Imm r k)
    (h : ∀ (A : Around) (s : Shared) (u w' : Tok) (K E : Value → Shared → Prop), (∀ t' tk', K (k t') { s with toks := tk' }) → wpAny S.M A (t (f u) (g w')) K E s) (q : Q r) : W2 S t a b Q := by
  intro σ h₀ fz₀ fz s v u R hv hu K E c
  obtain ⟨x, rfl⟩ := ia fz v hv
  obtain ⟨y, rfl⟩ := ib fz u hu
  exact h S.A s x y K E fun t' tk' => CE.imm c R ir q t' tk'
theorem W1_imm {t : Value → Sem Value} {a r : Dat} {f k : Tok → Value} (ia : ∀ fz v, DatIn fz v a → ∃ u, v = f u) (ir : Imm r k)
    (h : ∀ (A : Around) (s : Shared) (u : Tok) (K E : Value → Shared → Prop), (∀ t' tk', K (k t') { s with toks := tk' }) → wpAny S.M A (t (f u)) K E s) (q : Q r) : W1 S t a Q := by
  intro σ h₀ fz₀ fz s v R hv K E c
  obtain ⟨x, rfl⟩ := ia fz v hv
  exact h S.A s x K E fun t' tk' => CE.imm c R ir q t' tk'
theorem WV_imm1 {t : List Value → Sem Value} {a r : Dat} {f k : Tok → Value} (ia : ∀ fz v, DatIn fz v a → ∃ u, v = f u) (ir : Imm r k)
    (h : ∀ (A : Around) (s : Shared) (u : Tok) (K E : Value → Shared → Prop), (∀ t' tk', K (k t') { s with toks := tk' }) → wpAny S.M A (t [f u]) K E s) (q : Q r) : WV S t [a] Q := by
  intro σ h₀ fz₀ fz s vs R hv K E c
  obtain ⟨v, rfl, hv1⟩ := da_one hv
  obtain ⟨x, rfl⟩ := ia fz v hv1
  exact h S.A s x K E fun t' tk' => CE.imm c R ir q t' tk'
theorem WV_imm2 {t : List Value → Sem Value} {a b r : Dat} {f g k : Tok → Value} (ia : ∀ fz v, DatIn fz v a → ∃ u, v = f u) (ib : ∀ fz v, DatIn fz v b → ∃ u, v = g u) (ir : Imm r k)
    (h : ∀ (A : Around) (s : Shared) (u w' : Tok) (K E : Value → Shared → Prop), (∀ t' tk', K (k t') { s with toks := tk' }) → wpAny S.M A (t [f u, g w']) K E s) (q : Q r) : WV S t [a, b] Q := by
  intro σ h₀ fz₀ fz s vs R hv K E c
  refine hidG fun zG zh => ?_
  obtain ⟨v, u, rfl, hv1, hu⟩ := da_two hv
  refine zh ?_
  clear zh zG
  obtain ⟨x, rfl⟩ := ia fz v hv1
  obtain ⟨y, rfl⟩ := ib fz u hu
  exact h S.A s x y K E fun t' tk' => CE.imm c R ir q t' tk'

theorem i_int (i : Int) : ∀ fz v, DatIn fz v (.int i) → ∃ u, v = (fun t => Value.int i t) u := fun _ _ h => di_int h
theorem i_str (x : Str) : ∀ fz v, DatIn fz v (.str x) → ∃ u, v = (fun t => Value.str x t) u := fun _ _ h => di_str h
theorem i_bytes (x : Array UInt8) : ∀ fz v, DatIn fz v (.bytes x) → ∃ u, v = (fun t => Value.bytes x t) u := fun _ _ h => di_bytes h
theorem W2_add {a b : Int} (q : Q (.int (a + b))) : W2 S (binaryOp .Add) (.int a) (.int b) Q := W2_imm (i_int a) (i_int b) (.int _) (fun _ _ _ _ _ _ h => PySem.P.add_int (h _ _)) q
theorem W2_sub' {a b : Int} (q : Q (.int (a - b))) : W2 S (binaryOp .Sub) (.int a) (.int b) Q := W2_imm (i_int a) (i_int b) (.int _) (fun _ _ _ _ _ _ h => PySem.P.sub_int (h _ _)) q
theorem W2_mul {a b : Int} (hm : IntMulOk a b) (q : Q (.int (a * b))) : W2 S (binaryOp .Mult) (.int a) (.int b) Q := W2_imm (i_int a) (i_int b) (.int _) (fun _ _ _ _ _ _ h => PySem.P.mul_int (h _ _) hm) q
theorem W2_fdiv {a b : Int} (hb : b ≠ 0) (hs : b.natAbs < 1073741824) (q : Q (.int (a.fdiv b))) : W2 S (binaryOp .FloorDiv) (.int a) (.int b) Q := W2_imm (i_int a) (i_int b) (.int _) (fun _ _ _ _ _ _ h => PyProof.Rows.floordiv_int hb (h _ _) (.inl (PyProof.noPylong_small hs))) q
theorem W2_mod {a b : Int} (hb : b ≠ 0) (q : Q (.int (a.fmod b))) : W2 S (binaryOp .Mod) (.int a) (.int b) Q := W2_imm (i_int a) (i_int b) (.int _) (fun _ _ _ _ _ _ h => PyProof.Rows.mod_int' hb (h _ _)) q
theorem W2_shr {a b : Int} (hb : 0 ≤ b) (q : Q (.int (a.fdiv (2 ^ b.toNat)))) : W2 S (binaryOp .RShift) (.int a) (.int b) Q := W2_imm (i_int a) (i_int b) (.int _) (fun _ _ _ _ _ _ h => PyProof.Rows.rshift_int hb (h _ _)) q
theorem W2_shl {a b : Int} (hb : 0 ≤ b) (hb2 : b ≤ 1000000) (ha : a.natAbs < 2 ^ 64) (q : Q (.int (a * 2 ^ b.toNat))) : W2 S (binaryOp .LShift) (.int a) (.int b) Q := W2_imm (i_int a) (i_int b) (.int _) (fun _ _ _ _ _ _ h => PyProof.Rows.lshift_int_small hb hb2 ha (h _ _)) q
theorem W2_band {a b : Int} (q : Q (.int (Builtin.bitAnd a b))) : W2 S (binaryOp .BitAnd) (.int a) (.int b) Q := W2_imm (i_int a) (i_int b) (.int _) (fun _ _ _ _ _ _ h => PyProof.Rows.and_int (h _ _)) q
theorem W2_eq {a b : Int} (q : Q (.bool (a == b))) : W2 S (compareOp .Eq) (.int a) (.int b) Q := W2_imm (i_int a) (i_int b) (.bool _) (fun _ _ _ _ _ _ h => PySem.P.eq_int (h 0 _)) q
theorem W2_ne {a b : Int} (q : Q (.bool (a != b))) : W2 S (compareOp .NotEq) (.int a) (.int b) Q := W2_imm (i_int a) (i_int b) (.bool _) (fun _ _ _ _ _ _ h => PySem.P.ne_int (h 0 _)) q
theorem W2_lt {a b : Int} (q : Q (.bool (decide (a < b)))) : W2 S (compareOp .Lt) (.int a) (.int b) Q := W2_imm (i_int a) (i_int b) (.bool _) (fun _ _ _ _ _ _ h => PySem.P.lt_int (h 0 _)) q
theorem W2_le {a b : Int} (q : Q (.bool (decide (a ≤ b)))) : W2 S (compareOp .LtE) (.int a) (.int b) Q := W2_imm (i_int a) (i_int b) (.bool _) (fun _ _ _ _ _ _ h => PySem.P.le_int (h 0 _)) q
theorem W2_gt {a b : Int} (q : Q (.bool (decide (a > b)))) : W2 S (compareOp .Gt) (.int a) (.int b) Q := W2_imm (i_int a) (i_int b) (.bool _) (fun _ _ _ _ _ _ h => PySem.P.gt_int (h 0 _)) q
theorem W2_ge {a b : Int} (q : Q (.bool (decide (a ≥ b)))) : W2 S (compareOp .GtE) (.int a) (.int b) Q := W2_imm (i_int a) (i_int b) (.bool _) (fun _ _ _ _ _ _ h => PySem.P.ge_int (h 0 _)) q
-- texts
theorem W2_eqs {a b : Str} (q : Q (.bool (a == b))) : W2 S (compareOp .Eq) (.str a) (.str b) Q := W2_imm (i_str a) (i_str b) (.bool _) (fun _ _ _ _ _ _ h => PyProof.Rows.eq_str (h 0 _)) q
theorem W2_adds {a b : Str} (hz : a.length + b.length ≤ 1000000) (q : Q (.str (a ++ b))) : W2 S (binaryOp .Add) (.str a) (.str b) Q := W2_imm (i_str a) (i_str b) (.str _) (fun _ _ _ _ _ _ h => PyProof.Rows.add_str h (by rw [sizeLine_eq]; walk_at "o")) q
-- bytes
theorem W2_neb {a b : Array UInt8} (q : Q (.bool (a.toList != b.toList))) : W2 S (compareOp .NotEq) (.bytes a) (.bytes b) Q := W2_imm (i_bytes a) (i_bytes b) (.bool _) (fun _ _ _ _ _ _ h => PySem.W.ne_bytes (h 0 _)) q
theorem W2_addb {a b : Array UInt8} (hz : a.size + b.size ≤ 1000000) (q : Q (.bytes (a ++ b))) : W2 S (binaryOp .Add) (.bytes a) (.bytes b) Q := W2_imm (i_bytes a) (i_bytes b) (.bytes _) (fun _ _ _ _ _ _ h => PySem.W.KBy.add_bytes (by walk_at "o") h) q
end
end Mine
end

section
open PySem PySem.W PyProof.Rows PySem.Calls PySem.SeqAt PySem.MeetsSeq
set_option maxRecDepth 10000
namespace Mine

noncomputable def pick {α : Type} (l : List α) (lo hi : Option Int) : List α := (l.drop (lo.elim 0 (clipAt l.length))).take (hi.elim l.length (clipAt l.length) - lo.elim 0 (clipAt l.length))
theorem pick_nn {α : Type} (l : List α) (a b : Nat) : pick l (some (a : Int)) (some (b : Int)) = (l.drop a).take (b - a) := by
  unfold pick
  simp only [Option.elim_some, clipAt_nat]
  by_cases h : a ≤ l.length
  · rw [Nat.min_eq_left h]
    by_cases h2 : b ≤ l.length
    · rw [Nat.min_eq_left h2]
    · rw [Nat.min_eq_right (by walk_at "o"), List.take_of_length_le (by simp), List.take_of_length_le (by simp; walk_at "o")]
  · rw [(Nat.min_eq_right (by walk_at "o") : min a l.length = l.length), List.drop_of_length_le (Nat.le_refl _), List.drop_of_length_le (by walk_at "o" : l.length ≤ a)]
    simp
theorem pick_n {α : Type} (l : List α) (a : Nat) : pick l (some (a : Int)) none = l.drop a := by
  unfold pick
  simp only [Option.elim_some, Option.elim_none, clipAt_nat]
  by_cases h : a ≤ l.length
  · rw [Nat.min_eq_left h, List.take_of_length_le (by simp)]
  · rw [Nat.min_eq_right (by walk_at "o"), List.drop_of_length_le (by walk_at "o"), List.drop_of_length_le (by walk_at "o")]
    simp
theorem pick_o {α : Type} (l : List α) (b : Nat) : pick l none (some (b : Int)) = l.take b := by
  unfold pick
  simp only [Option.elim_some, Option.elim_none, clipAt_nat, List.drop_zero, Nat.sub_zero]
  by_cases h : b ≤ l.length
  · rw [Nat.min_eq_left h]
  · rw [Nat.min_eq_right (by walk_at "o"), List.take_of_length_le (by walk_at "o"), List.take_of_length_le (by walk_at "o")]
section
variable {S : St} {σ : Sg} {Q : Dat → Prop}

noncomputable def WPart (S : St) (σ : Sg) (o : Option Expr) (Q : Option Int → Prop) : Prop := match o with
  | none => Q none
  | some e => WE S σ e fun d => ∃ i, d = .int i ∧ Q (some i)
theorem part_run {o : Option Expr} {Q : Option Int → Prop} (h : WPart S σ o Q) {g : Gnd} {fz₀ fz : Led} {s : Shared} (R : RelE S g fz₀ σ fz s.heap) {K : Value → Shared → Prop} {E : Value → Shared → Prop}
    (c : ∀ p v h' tk' fz', Q p → IsPart v p → (∀ p ∈ fz, p ∈ fz') → RelE S g fz₀ σ fz' h' → K v { s with heap := h', toks := tk' }) : wpAny S.M S.A (evalPart o S.env) K E s := by
  cases o with
  | none => exact wpAny_pure (c none .none s.heap s.toks fz h .none (fun _ h => h) R)
  | some e =>
    refine h g fz₀ fz s R K E fun d v h' tk' fz' q sub R' hi => ?_
    obtain ⟨i, rfl, q⟩ := q
    obtain ⟨t, rfl⟩ := di_int hi
    exact c (some i) _ h' tk' fz' q (.int i t) sub R'
noncomputable def SliceOK (d : Dat) (lo hi : Option Int) (Q : Dat → Prop) : Prop := match d with
  | .bytes b => b.size ≤ 1000000 ∧ Q (.bytes (pick b.toList lo hi).toArray)
  | .list ds => ds.length ≤ 1000000 ∧ Q (.list (pick ds lo hi))
  | _ => False
theorem datAll_pick {fz : Led} {vs : List Value} {ds : List Dat} (h : DatAll fz vs ds) (a b : Nat) : DatAll fz ((vs.drop a).take b) ((ds.drop a).take b) := by
  have hd : ∀ (a : Nat) {vs : List Value} {ds : List Dat}, DatAll fz vs ds → DatAll fz (vs.drop a) (ds.drop a) := by
    intro a
    induction a with
    | zero => intro vs ds h; simpa using h
    | succ a ih =>
      intro vs ds h
      cases h with
      | nil => simpa using DatAll.nil
      | cons h r => simpa using ih r
  have ht : ∀ (b : Nat) {vs : List Value} {ds : List Dat}, DatAll fz vs ds → DatAll fz (vs.take b) (ds.take b) := by
    intro b
    induction b with
    | zero => intro vs ds h; simpa using DatAll.nil
    | succ b ih =>
      intro vs ds h
      cases h with
      | nil => simpa using DatAll.nil
      | cons h r => simpa using DatAll.cons h (ih r)
  exact ht b (hd a h)

theorem WE_slice {value : Expr} {lower upper : Option Expr} {p pos : Pos} (h : WE S σ value fun d => WPart S σ lower fun lo => WPart S σ upper fun hi => SliceOK d lo hi Q) : WE S σ (.Subscript value (.Slice lower upper none p) pos) Q := by
  intro h₀ fz₀ fz s R K E c
  refine Subscript_ (h h₀ fz₀ fz s R _ _ fun d v h1 tk1 fz1 q1 sub1 R1 hi1 => wpAny_Slice (part_run (s := { s with heap := h1, toks := tk1 }) q1 R1 fun lo l h2 tk2 fz2 q2 pl sub2 R2 =>
    part_run (s := { s with heap := h2, toks := tk2 }) q2 R2 fun hi u h3 tk3 fz3 q3 pu sub3 R3 => ?_))
  rw [evalPart_none]
  refine wpAny_pure ?_
  have sub : ∀ p ∈ fz, p ∈ fz3 := fun p hp => sub3 p (sub2 p (sub1 p hp))
  have hi3 := hi1.mono fun p hp => sub3 p (sub2 p hp)
  have R4 := R3.grow (Kp.push h3 { cls := .type "slice", data := .fields #[l, u, .none] })
  cases d with
  | bytes b =>
    obtain ⟨t, rfl⟩ := di_bytes hi3
    refine tail_any (T := "bytes") (typeIs_bytes _ _ _) FB.slot_bytes_getitem.lookup (getItem_meets (typeIs_bytes _ _ _) (by decide) FB.slot_bytes_getitem FB.entry_bytes_getitem (FB.args_bytes_getitem_2 _ _) (PySem.W.KBc.meets_slice2 b t _ pl pu)
      ⟨Heap.IsSliceOf.new h3 l u .none, ?_, fun t' k => ?_⟩) rfl
    · have := PySem.W.KBc.size_picked_le b lo hi
      rw [sizeLine_eq]; have := q3.1; walk_at "o"
    · have e : PySem.W.KBy.picked b lo hi = (pick b.toList lo hi).toArray := by
        rw [PySem.W.KBc.picked_eq]; unfold pick; simp only [Array.length_toList]
      have q' := q3.2
      rw [← e] at q'
      exact c _ _ _ k fz3 q' sub R4 (.bytes _ _)
  | list ds =>
    refine hidG fun zG zh => ?_
    obtain ⟨a, vs, n, rfl, hm, hall⟩ := di_list hi3
    refine zh ?_
    clear zh zG
    have hl := isList_of R4.held hm
    refine tail_any (T := "list") (s := { s with heap := h3.push _, toks := tk3 }) hl.typeIs slot_list_getitem.lookup (wpAny_getItem_list_slice hl (Heap.IsSliceOf.new h3 l u .none) pl pu .none (by simp) ?_ (by rw [List.size_toArray, hall.length, sizeLine_eq]; have := q3.1; walk_at "o")) rfl
    have e : slicePick vs.toArray lo hi none = (pick vs lo hi).toArray := by
      rw [slicePick_plain]; unfold pick; simp
    rw [e]
    refine CE.push (s := { s with heap := h3.push _, toks := tk3 }) (fz := fz3) (fun d v h'' tk'' fz'' q' sub' => c d v h'' tk'' fz'' q' fun p hp => sub' p (sub p hp)) R4 rfl ?_ q3.2
    refine .list (.head _) ((?_ : DatAll fz3 (pick vs lo hi) (pick ds lo hi)).mono fun p hp => .tail _ hp)
    unfold pick
    rw [hall.length]
    exact datAll_pick hall _ _
  | _ => exact q3.elim

-- None
noncomputable def noneD : Dat → Bool
  | .none => true
  | _ => false
theorem W2_is {d : Dat} (q : Q (.bool (noneD d))) : W2 S (compareOp .Is) d .none Q := by
  intro σ h₀ fz₀ fz s v u R hv hu K E c
  rw [di_none hu]
  refine PySem.is_none ?_
  have e : (v == Value.none) = noneD d := by cases hv <;> rfl
  rw [e]
  exact CE.imm0 c R (.bool _) q 0

theorem eqAt_imm {A : Around} {s : Shared} {fz : Led} {d : Dat} {f : Tok → Value} (i : Imm d f) {v u : Value} (hv : DatIn fz v d) (hu : DatIn fz u d) : EqAt A s v u true := by
  cases i with
  | none => rw [di_none hv, di_none hu]; exact EqAt.same _
  | bool b => rw [di_bool hv, di_bool hu]; exact EqAt.same _
  | int i =>
    obtain ⟨t, rfl⟩ := di_int hv
    obtain ⟨t', rfl⟩ := di_int hu
    have := (EqGives.int i i t t').at A s
    simpa using this
  | str x =>
    obtain ⟨t, rfl⟩ := di_str hv
    obtain ⟨t', rfl⟩ := di_str hu
    have := (SeqRoads2.EqGives.str x x t t').at A s
    simpa using this
  | bytes b =>
    obtain ⟨t, rfl⟩ := di_bytes hv
    obtain ⟨t', rfl⟩ := di_bytes hu
    intro prog w E Q h
    exact PySem.W.eqBool_bytes (by simpa using h)

noncomputable def immD : Dat → Bool
  | .tuple _ => false
  | .list _ => false
  | .dictI _ _ _ _ => false
  | .dictS _ _ _ _ => false
  | _ => true
theorem immD_is {d : Dat} (h : immD d = true) : ∃ f, Imm d f := by
  cases d with
  | none => exact ⟨_, .none⟩
  | bool b => exact ⟨_, .bool b⟩
  | int i => exact ⟨_, .int i⟩
  | str x => exact ⟨_, .str x⟩
  | bytes b => exact ⟨_, .bytes b⟩
  | _ => cases h

theorem isTuple_of {fz : Led} {h : Heap} {a : Addr} {vs : List Value} {n : Nat} (H : Held fz h) (hm : (a, ({ cls := .type "tuple", data := .seq vs.toArray n } : Obj)) ∈ fz) : h.IsTuple a vs.toArray := ⟨_, H _ hm, rfl, n, rfl⟩
theorem all_at {fz : Led} {vs us : List Value} {ds : List Dat} (h1 : DatAll fz vs ds) (h2 : DatAll fz us ds) {A : Around} {s : Shared} (he : ∀ d ∈ ds, ∀ v u, DatIn fz v d → DatIn fz u d → EqAt A s v u true) :
    ∀ j (a1 : j < vs.toArray.size) (a2 : j < us.toArray.size), EqAt A s vs.toArray[j] us.toArray[j] true := by
  intro j a1 a2
  have hj : j < ds.length := by rw [← h1.length]; simpa using a1
  obtain ⟨v, e1, d1⟩ := h1.get hj
  obtain ⟨u, e2, d2⟩ := h2.get hj
  have q1 : vs.toArray[j] = v := by simpa [List.getElem?_eq_some_iff] using (List.getElem?_eq_some_iff.mp e1).2
  have q2 : us.toArray[j] = u := by simpa [List.getElem?_eq_some_iff] using (List.getElem?_eq_some_iff.mp e2).2
  rw [q1, q2]
  exact he _ (List.getElem_mem hj) v u d1 d2
theorem range_all (n : Nat) : (List.range n).all (fun _ => true) = true := by simp

theorem rcAt_tup {A : Around} {s : Shared} {fz : Led} (H : Held fz s.heap) {ds : List Dat} (hd : ds.all immD = true) {a b : Addr} (hv : DatIn fz (.ref a) (.tuple ds)) (hu : DatIn fz (.ref b) (.tuple ds)) (hu' : A.units < cLine) : RcAt A s (.ref a) (.ref b) true := by
  refine hidG fun zG zh => ?_
  obtain ⟨a', vs, n, e1, hm, hall⟩ := di_tuple hv
  refine zh ?_
  clear zh zG
  refine hidG fun zG zh => ?_
  obtain ⟨b', us, n', e2, hm', hall'⟩ := di_tuple hu
  refine zh ?_
  clear zh zG
  cases e1; cases e2
  have := RcAt.tuples (A := A) (e := fun _ => true) (isTuple_of H hm) (isTuple_of H hm') hu' (all_at hall hall' fun d hdm v u h1 h2 => by
    obtain ⟨f, i⟩ := immD_is (List.all_eq_true.mp hd d hdm)
    exact eqAt_imm i h1 h2)
  have e : ((List.range (min vs.toArray.size us.toArray.size)).all (fun _ => true) && vs.toArray.size == us.toArray.size) = true := by
    rw [range_all, List.size_toArray, List.size_toArray, hall.length, hall'.length]; simp
  rw [e] at this
  exact this
theorem eqAt_tup {A : Around} {s : Shared} {fz : Led} (H : Held fz s.heap) {ds : List Dat} (hd : ds.all immD = true) {v u : Value} (hv : DatIn fz v (.tuple ds)) (hu : DatIn fz u (.tuple ds)) (hu' : A.units < cLine) : EqAt A s v u true := by
  refine hidG fun zG zh => ?_
  obtain ⟨a, vs, n, rfl, hm, hall⟩ := di_tuple hv
  refine zh ?_
  clear zh zG
  refine hidG fun zG zh => ?_
  obtain ⟨b, us, n', rfl, hm', hall'⟩ := di_tuple hu
  refine zh ?_
  clear zh zG
  by_cases hab : a = b
  · subst hab; exact EqAt.same _
  · exact EqAt.of_refs hab (rcAt_tup H hd hv hu hu')

noncomputable def flatD : Dat → Bool
  | .tuple ds => ds.all immD
  | .list _ => false
  | .dictI _ _ _ _ => false
  | .dictS _ _ _ _ => false
  | _ => true
theorem eqAt_flat {A : Around} {s : Shared} {fz : Led} (H : Held fz s.heap) {d : Dat} (hd : flatD d = true) {v u : Value} (hv : DatIn fz v d) (hu : DatIn fz u d) (hu' : A.units < cLine) : EqAt A s v u true := by
  cases d with
  | tuple ds => exact eqAt_tup H hd hv hu hu'
  | list ds => cases hd
  | dictI _ _ _ _ => cases hd
  | dictS _ _ _ _ => cases hd
  | none => exact eqAt_imm .none hv hu
  | bool b => exact eqAt_imm (.bool b) hv hu
  | int i => exact eqAt_imm (.int i) hv hu
  | str x => exact eqAt_imm (.str x) hv hu
  | bytes b => exact eqAt_imm (.bytes b) hv hu

theorem W2_ne_same {d : Dat} (hd : d = .none ∨ ∃ ds, d = .tuple ds ∧ ds.all immD = true) (q : Q (.bool false)) : W2 S (compareOp .NotEq) d d Q := by
  intro σ h₀ fz₀ fz s v u R hv hu K E c
  have hu' : S.A.units < cLine := by have := R.ok.units; walk_at "o"
  rcases hd with rfl | ⟨ds, rfl, hd⟩
  · rw [di_none hv, di_none hu]
    exact RcNeAt.none_none _ _ _ _ (CE.imm0 c R (.bool false) q 0)
  · refine hidG fun zG zh => ?_
    obtain ⟨a, vs, n, rfl, hm, hall⟩ := di_tuple hv
    refine zh ?_
    clear zh zG
    refine hidG fun zG zh => ?_
    obtain ⟨b, us, n', rfl, hm', hall'⟩ := di_tuple hu
    refine zh ?_
    clear zh zG
    have := RcNeAt.tuples (A := S.A) (e := fun _ => true) (isTuple_of R.held hm) (isTuple_of R.held hm') hu' (all_at hall hall' fun d hdm v u h1 h2 => by
      obtain ⟨f, i⟩ := immD_is (List.all_eq_true.mp hd d hdm)
      exact eqAt_imm i h1 h2)
    refine this _ _ _ _ ?_
    have e : ((List.range (min vs.toArray.size us.toArray.size)).all (fun _ => true) && vs.toArray.size == us.toArray.size) = true := by
      rw [range_all, List.size_toArray, List.size_toArray, hall.length, hall'.length]; simp
    rw [e]
    exact CE.imm0 c R (.bool false) q 0
theorem W2_ne_list_same {ds : List Dat} (hd : ds.all flatD = true) (q : Q (.bool false)) : W2 S (compareOp .NotEq) (.list ds) (.list ds) Q := by
  intro σ h₀ fz₀ fz s v u R hv hu K E c
  have hu' : S.A.units < cLine := by have := R.ok.units; walk_at "o"
  have hu2 : S.A.in1.units < cLine := by have := R.ok.units; show S.A.units + 1 < _; walk_at "o"
  refine hidG fun zG zh => ?_
  obtain ⟨a, vs, n, rfl, hm, hall⟩ := di_list hv
  refine zh ?_
  clear zh zG
  refine hidG fun zG zh => ?_
  obtain ⟨b, us, n', rfl, hm', hall'⟩ := di_list hu
  refine zh ?_
  clear zh zG
  have := RcNeAt.lists (A := S.A) (e := fun _ => true) (isList_of R.held hm) (isList_of R.held hm') (by rw [List.size_toArray, List.size_toArray, hall.length, hall'.length]) hu' (all_at hall hall' fun d hdm v u h1 h2 => eqAt_flat R.held (List.all_eq_true.mp hd d hdm) h1 h2 hu2)
  refine this _ _ _ _ ?_
  rw [range_all]
  exact CE.imm0 c R (.bool false) q 0
theorem W2_eq_nil {ds : List Dat} (q : Q (.bool ds.isEmpty)) : W2 S (compareOp .Eq) (.list ds) (.list []) Q := by
  intro σ h₀ fz₀ fz s v u R hv hu K E c
  have hu' : S.A.units < cLine := by have := R.ok.units; walk_at "o"
  refine hidG fun zG zh => ?_
  obtain ⟨a, vs, n, rfl, hm, hall⟩ := di_list hv
  refine zh ?_
  clear zh zG
  refine hidG fun zG zh => ?_
  obtain ⟨b, us, n', rfl, hm', hall'⟩ := di_list hu
  refine zh ?_
  clear zh zG
  have hus := da_nil hall'
  subst hus
  cases ds with
  | nil =>
    have hvs := da_nil hall
    subst hvs
    exact eq_listAt (e := fun _ => true) (isList_of R.held hm) (isList_of R.held hm') rfl hu' (fun j h1 => by simp at h1) (CE.imm0 c R (.bool true) q 0)
  | cons d r =>
    refine hidG fun zG zh => ?_
    obtain ⟨v, r', rfl, _⟩ := da_cons hall
    refine zh ?_
    clear zh zG
    exact eq_list_lengthsAt (isList_of R.held hm) (isList_of R.held hm') (by simp) hu' (CE.imm0 c R (.bool false) q 0)

noncomputable def sameD : Dat → Dat → Bool
  | .int a, .int b => a == b
  | .str a, .str b => a.cps.toList == b.cps.toList
  | .bytes a, .bytes b => a.toList == b.toList
  | _, _ => false
noncomputable def kindD : Dat → Nat
  | .int _ => 1
  | .str _ => 2
  | .bytes _ => 3
  | _ => 0
set_option tactic.hygienic true in
theorem eqAt_kind {A : Around} {s : Shared} {fz : Led} {d e : Dat} (hk : kindD d = kindD e) (h0 : kindD d ≠ 0) {v u : Value} (hv : DatIn fz v d) (hu : DatIn fz u e) : EqAt A s v u (sameD d e) := by
  cases d <;> first | (exact absurd rfl h0) | skip
  all_goals cases e <;> first | (exact absurd hk (of_decide_eq_true rfl)) | skip
  · obtain ⟨t, rfl⟩ := di_int hv
    obtain ⟨t', rfl⟩ := di_int hu
    exact (EqGives.int _ _ t t').at A s
  · obtain ⟨t, rfl⟩ := di_str hv
    obtain ⟨t', rfl⟩ := di_str hu
    rename_i x y
    exact (SeqRoads2.EqGives.str x y t t').at A s
  · obtain ⟨t, rfl⟩ := di_bytes hv
    obtain ⟨t', rfl⟩ := di_bytes hu
    intro prog w E Q h
    refine PySem.W.eqBool_bytes ?_
    have e : ∀ a b : List UInt8, decide (a = b) = (a == b) := fun a b => by rw [Bool.eq_iff_iff]; simp
    rw [e]; exact h
noncomputable def dv : Value → Dat
  | .int a _ => .int a
  | .str a _ => .str a
  | .bytes a _ => .bytes a
  | _ => .none
theorem dv_ok {fz : Led} {y : Value} {d : Dat} (h : DatIn fz y d) (h0 : kindD d ≠ 0) : dv y = d := by
  cases d <;> first | exact absurd rfl h0 | (cases h; rfl)
theorem all_mem {fz : Led} {y : Value} {vs : List Value} : ∀ {ds : List Dat}, DatAll fz vs ds → y ∈ vs → ∃ d ∈ ds, DatIn fz y d := by
  induction vs with
  | nil => intro _ _ hm; exact absurd hm List.not_mem_nil
  | cons v vs ih =>
    intro ds h hm
    match ds with
    | [] => exact nomatch h
    | d :: r =>
      refine hidG fun zG zh => ?_
      obtain ⟨v', r', e, h1, h2⟩ := da_cons h
      refine zh ?_
      clear zh zG
      cases e
      rcases List.mem_cons.mp hm with rfl | hm
      · exact ⟨d, .head _, h1⟩
      · obtain ⟨d', hd', hi⟩ := ih h2 hm
        exact ⟨d', .tail _ hd', hi⟩
theorem all_any {fz : Led} {x : Dat} {vs : List Value} : ∀ {ds : List Dat}, DatAll fz vs ds → (∀ d ∈ ds, kindD d ≠ 0) → vs.any (fun y => sameD (dv y) x) = ds.any (sameD · x) := by
  induction vs with
  | nil =>
    intro ds h _
    match ds with
    | [] => rfl
    | _ :: _ => exact nomatch h
  | cons v vs ih =>
    intro ds h hk
    match ds with
    | [] => exact nomatch h
    | d :: r =>
      refine hidG fun zG zh => ?_
      obtain ⟨v', r', e, h1, h2⟩ := da_cons h
      refine zh ?_
      clear zh zG
      cases e
      rw [List.any_cons, List.any_cons, ih h2 fun d hd => hk d (.tail _ hd), dv_ok h1 (hk d (.head _))]
theorem any_in {fz : Led} {vs : List Value} {ds : List Dat} {x : Dat} {u : Value} (h : DatAll fz vs ds) (hu : DatIn fz u x) (hk : ∀ d ∈ ds, kindD d = kindD x) (h0 : kindD x ≠ 0) (A : Around) (s : Shared) :
    ∃ e : Value → Bool, (∀ y, y ∈ vs.toArray → EqAt A s y u (e y)) ∧ vs.toArray.any e = ds.any (sameD · x) := by
  refine ⟨fun y => sameD (dv y) x, fun y hy => ?_, ?_⟩
  · obtain ⟨d, hd, hi⟩ := all_mem h (List.mem_toArray.mp hy)
    have h1 : kindD d ≠ 0 := by rw [hk d hd]; exact h0
    show EqAt A s y u (sameD (dv y) x)
    rw [dv_ok hi h1]
    exact eqAt_kind (hk d hd) h1 hi hu
  · rw [← Array.any_toList]
    exact all_any h fun d hd => by rw [hk d hd]; exact h0
theorem W2_in {x : Dat} {ds : List Dat} (hk : ∀ d ∈ ds, kindD d = kindD x) (h0 : kindD x ≠ 0) (q : Q (.bool (ds.any (sameD · x)))) : W2 S (compareOp .In) x (.tuple ds) Q := by
  intro σ h₀ fz₀ fz s v u R hv hu K E c
  refine hidG fun zG zh => ?_
  obtain ⟨a, vs, n, rfl, hm, hall⟩ := di_tuple hu
  refine zh ?_
  clear zh zG
  obtain ⟨e, he, hq⟩ := any_in hall hv hk h0 S.A.in1 s
  refine in_tupleAt e (isTuple_of R.held hm) he ?_
  rw [hq]
  exact CE.imm0 c R (.bool _) q 0
theorem W2_notin {x : Dat} {ds : List Dat} (hk : ∀ d ∈ ds, kindD d = kindD x) (h0 : kindD x ≠ 0) (q : Q (.bool (!ds.any (sameD · x)))) : W2 S (compareOp .NotIn) x (.tuple ds) Q := by
  intro σ h₀ fz₀ fz s v u R hv hu K E c
  refine hidG fun zG zh => ?_
  obtain ⟨a, vs, n, rfl, hm, hall⟩ := di_tuple hu
  refine zh ?_
  clear zh zG
  obtain ⟨e, he, hq⟩ := any_in hall hv hk h0 S.A.in1 s
  refine notIn_tupleAt e (isTuple_of R.held hm) he ?_
  rw [hq]
  exact CE.imm0 c R (.bool _) q 0
theorem W2_in_list {x : Dat} {ds : List Dat} (hk : ∀ d ∈ ds, kindD d = kindD x) (h0 : kindD x ≠ 0) (q : Q (.bool (ds.any (sameD · x)))) : W2 S (compareOp .In) x (.list ds) Q := by
  intro σ h₀ fz₀ fz s v u R hv hu K E c
  refine hidG fun zG zh => ?_
  obtain ⟨a, vs, n, rfl, hm, hall⟩ := di_list hu
  refine zh ?_
  clear zh zG
  obtain ⟨e, he, hq⟩ := any_in hall hv hk h0 S.A.in1 s
  refine in_listAt e (isList_of R.held hm) he ?_
  rw [hq]
  exact CE.imm0 c R (.bool _) q 0
end
end Mine
end

section
open PySem PySem.W PyProof.Rows PySem.Calls PySem.SeqAt PySem.MeetsSeq
set_option maxRecDepth 10000
namespace Mine

section
variable {S : St} {σ : Sg} {Q : Dat → Prop}

theorem WV_grow1 {t : List Value → Sem Value} {a r : Dat} {k : Tok → Value} (ir : Imm r k)
    (h : ∀ (fz : Led) (s : Shared) (v : Value), DatIn fz v a → Held fz s.heap → (S.nh = true → S.A.handled = none) → ∀ (K E : Value → Shared → Prop), (∀ t' h' tk', Kp s.heap h' → K (k t') { s with heap := h', toks := tk' }) → wpAny S.M S.A (t [v]) K E s) (q : Q r) : WV S t [a] Q := by
  intro σ h₀ fz₀ fz s vs R hv K E c
  obtain ⟨v, rfl, hv1⟩ := da_one hv
  exact h fz s v hv1 R.held R.ok.hand K E fun t' h' tk' kp => c r _ h' tk' fz q (fun _ h => h) (R.grow kp) (ir.is fz t')
theorem WV_grow2 {t : List Value → Sem Value} {a b r : Dat} {k : Tok → Value} (ir : Imm r k)
    (h : ∀ (fz : Led) (s : Shared) (v u : Value), DatIn fz v a → DatIn fz u b → Held fz s.heap → (S.nh = true → S.A.handled = none) → ∀ (K E : Value → Shared → Prop), (∀ t' h' tk', Kp s.heap h' → K (k t') { s with heap := h', toks := tk' }) → wpAny S.M S.A (t [v, u]) K E s) (q : Q r) : WV S t [a, b] Q := by
  intro σ h₀ fz₀ fz s vs R hv K E c
  refine hidG fun zG zh => ?_
  obtain ⟨v, u, rfl, hv1, hu⟩ := da_two hv
  refine zh ?_
  clear zh zG
  exact h fz s v u hv1 hu R.held R.ok.hand K E fun t' h' tk' kp => c r _ h' tk' fz q (fun _ h => h) (R.grow kp) (ir.is fz t')

noncomputable def lenD : Dat → Option Nat
  | .list ds => some ds.length
  | .tuple ds => some ds.length
  | .str x => some x.length
  | .bytes b => some b.size
  | _ => none
theorem V_len {d : Dat} {n : Nat} (hd : lenD d = some n) (hn : n ≤ 1000000) (q : Q (.int n)) : WV S (fun vs => call (.builtin "len") vs) [d] Q := by
  refine WV_grow1 (.int n) (fun fz s v hv H _ K E c => ?_) q
  have c' := fun t' tk' => c t' s.heap tk' (Kp.refl _)
  cases d with
  | list ds =>
    refine hidG fun zG zh => ?_
    obtain ⟨a, vs, m, rfl, hm, hall⟩ := di_list hv
    refine zh ?_
    clear zh zG
    have e : n = vs.length := by rw [hall.length]; exact (Option.some.inj hd).symm
    subst e
    exact PyProof.Rows.len_list (isList_of H hm) (by rw [List.size_toArray]; walk_at "o") (c' _ _)
  | tuple ds =>
    refine hidG fun zG zh => ?_
    obtain ⟨a, vs, m, rfl, hm, hall⟩ := di_tuple hv
    refine zh ?_
    clear zh zG
    have e : n = vs.length := by rw [hall.length]; exact (Option.some.inj hd).symm
    subst e
    exact PyProof.Rows.len_tuple (isTup_of H hm) (by rw [List.size_toArray]; walk_at "o") (c' _ _)
  | str x =>
    obtain ⟨t, rfl⟩ := di_str hv
    cases hd
    exact PyProof.Rows.len_str (by walk_at "o") (c' _ _)
  | bytes b =>
    obtain ⟨t, rfl⟩ := di_bytes hv
    cases hd
    exact PySem.W.len_bytes (by walk_at "o") (c' _ _)
  | _ => cases hd

theorem V_chr {i : Int} (h0 : 0 ≤ i) (h1 : i ≤ 0x10FFFF) (q : Q (.str ⟨#[i.toNat]⟩)) : WV S (fun vs => call (.builtin "chr") vs) [.int i] Q :=
  WV_imm1 (i_int i) (.str _) (fun _ _ _ _ _ h => PySem.P.chr_of_int (by simp; walk_at "o") (h _ _)) q
theorem V_ord {n : Nat} (q : Q (.int n)) : WV S (fun vs => call (.builtin "ord") vs) [.str ⟨#[n]⟩] Q :=
  WV_imm1 (i_str _) (.int _) (fun _ _ _ _ _ h => PySem.P.ord_of_char (h _ _)) q
theorem V_abs {i : Int} (q : Q (.int (if i < 0 then -i else i))) : WV S (fun vs => call (.builtin "abs") vs) [.int i] Q :=
  WV_imm1 (i_int i) (.int _) (fun _ _ _ _ _ h => PyProof.Rows.call_abs_int fun _ _ => h _ _) q
theorem V_int {i : Int} (q : Q (.int i)) : WV S (fun vs => call (.type "int") vs) [.int i] Q :=
  WV_imm1 (i_int i) (.int _) (fun _ s u _ _ h => call_int_int (h u s.toks)) q
theorem W1_neg {i : Int} (q : Q (.int (-i))) : W1 S (unaryOp .USub) (.int i) Q :=
  W1_imm (i_int i) (.int _) (fun _ _ _ _ _ h => PyProof.Rows.neg_int (h _ _)) q

-- lists of ints
theorem ints_are {fz : Led} {vs : List Value} {ns : List Int} (h : DatAll fz vs (ns.map .int)) : IntsAre vs ns := by
  induction ns generalizing vs with
  | nil => rw [da_nil h]; exact .nil
  | cons n ns ih =>
    refine hidG fun zG zh => ?_
    obtain ⟨v, r, rfl, h1, h2⟩ := da_cons h
    refine zh ?_
    clear zh zG
    obtain ⟨t, rfl⟩ := di_int h1
    exact .cons n t (ih h2)

noncomputable def byteOf (n : Int) : UInt8 := n.toNat.toUInt8
theorem V_bytes {ns : List Int} (hn : S.nh = true) (hr : ∀ n ∈ ns, 0 ≤ n ∧ n < 256) (hz : ns.length ≤ 1000000) (q : Q (.bytes (ns.map byteOf).toArray)) : WV S (fun vs => call (.type "bytes") vs) [.list (ns.map .int)] Q := by
  refine WV_grow1 (.bytes _) (fun fz s v hv H hh K E c => ?_) q
  refine hidG fun zG zh => ?_
  obtain ⟨a, vs, m, rfl, hm, hall⟩ := di_list hv
  refine zh ?_
  clear zh zG
  have hi := ints_are hall
  refine call_bytes_ints (isList_of H hm) hi hr (by rw [hi.length, sizeLine_eq]; walk_at "o") (hh hn) fun h' t k hk => ?_
  exact c t h' k hk

noncomputable def minI (ns : List Int) (m : Int) : Prop := m ∈ ns ∧ ∀ a ∈ ns, m ≤ a
noncomputable def maxI (ns : List Int) (m : Int) : Prop := m ∈ ns ∧ ∀ a ∈ ns, a ≤ m
theorem minI_uni {ns : List Int} {a b : Int} (h : minI ns a) (h' : minI ns b) : a = b := Int.le_antisymm (h.2 _ h'.1) (h'.2 _ h.1)
theorem maxI_uni {ns : List Int} {a b : Int} (h : maxI ns a) (h' : maxI ns b) : a = b := Int.le_antisymm (h'.2 _ h.1) (h.2 _ h'.1)
theorem V_min {ns : List Int} {m : Int} (hn : S.nh = true) (hm : minI ns m) (q : Q (.int m)) : WV S (fun vs => call (.builtin "min") vs) [.list (ns.map .int)] Q := by
  refine WV_grow1 (.int m) (fun fz s v hv H hh K E c => ?_) q
  refine hidG fun zG zh => ?_
  obtain ⟨a, vs, n, rfl, hm1, hall⟩ := di_list hv
  refine zh ?_
  clear zh zG
  have hi := ints_are hall
  have hl := isList_of H hm1
  obtain ⟨xs, e⟩ := hi.allInts.items
  have hns : ns = xs.toList.map (·.1) := by rw [← hi.numsOf, ← nums_intItems, ← e]
  have hne : 0 < ns.length := List.length_pos_of_mem hm.1
  have hsz : 0 < xs.size := by rw [hns, List.length_map, Array.length_toList] at hne; exact hne
  rw [e] at hl
  refine min_intList (hh hn) hl hsz fun v h' tk hv hk => ?_
  obtain ⟨t, rfl⟩ := intItems_at hv
  obtain ⟨h1, h2⟩ := argBest_lt (numAt xs) (xs.size - 1)
  have e2 : m = numAt xs (argBest (fun i j => decide (numAt xs i < numAt xs j)) (xs.size - 1)) := by
    refine minI_uni hm ⟨?_, fun a ha => ?_⟩
    · rw [hns, numAt_eq]; exact getD_mem (by rw [List.length_map, Array.length_toList]; walk_at "o")
    · rw [hns] at ha
      obtain ⟨j, hj, rfl⟩ := mem_getD ha
      rw [List.length_map, Array.length_toList] at hj
      rw [← numAt_eq]; exact h2 j (by walk_at "o")
  rw [← e2]
  exact c t h' tk hk
theorem V_max {ns : List Int} {m : Int} (hn : S.nh = true) (hm : maxI ns m) (q : Q (.int m)) : WV S (fun vs => call (.builtin "max") vs) [.list (ns.map .int)] Q := by
  refine WV_grow1 (.int m) (fun fz s v hv H hh K E c => ?_) q
  refine hidG fun zG zh => ?_
  obtain ⟨a, vs, n, rfl, hm1, hall⟩ := di_list hv
  refine zh ?_
  clear zh zG
  have hi := ints_are hall
  have hl := isList_of H hm1
  obtain ⟨xs, e⟩ := hi.allInts.items
  have hns : ns = xs.toList.map (·.1) := by rw [← hi.numsOf, ← nums_intItems, ← e]
  have hne : 0 < ns.length := List.length_pos_of_mem hm.1
  have hsz : 0 < xs.size := by rw [hns, List.length_map, Array.length_toList] at hne; exact hne
  rw [e] at hl
  refine max_intList (hh hn) hl hsz fun v h' tk hv hk => ?_
  obtain ⟨t, rfl⟩ := intItems_at hv
  obtain ⟨h1, h2⟩ := argBest_gt (numAt xs) (xs.size - 1)
  have e2 : m = numAt xs (argBest (fun i j => decide (numAt xs i > numAt xs j)) (xs.size - 1)) := by
    refine maxI_uni hm ⟨?_, fun a ha => ?_⟩
    · rw [hns, numAt_eq]; exact getD_mem (by rw [List.length_map, Array.length_toList]; walk_at "o")
    · rw [hns] at ha
      obtain ⟨j, hj, rfl⟩ := mem_getD ha
      rw [List.length_map, Array.length_toList] at hj
      rw [← numAt_eq]; exact h2 j (by walk_at "o")
  rw [← e2]
  exact c t h' tk hk
theorem V_max2 {a b : Int} (hn : S.nh = true) (q : Q (.int (max a b))) : WV S (fun vs => call (.builtin "max") vs) [.int a, .int b] Q := by
  refine WV_grow2 (.int (max a b)) (fun fz s v u hv hu H hh K E c => ?_) q
  obtain ⟨t, rfl⟩ := di_int hv
  obtain ⟨t', rfl⟩ := di_int hu
  refine max_two_ints (hh hn) fun h' tk hk => ?_
  by_cases hba : b > a
  · rw [if_pos hba]; have e : max a b = b := by walk_at "o"
    rw [e] at c; exact c t' h' tk hk
  · rw [if_neg hba]; have e : max a b = a := by walk_at "o"
    rw [e] at c; exact c t h' tk hk

-- an item of bytes
theorem W2_bytes_item {b i : Expr} {l : List UInt8} {k : Int} (hlen : l.length ≤ 1000000) (h0 : 0 ≤ k) (h1 : k < l.length) (q : Q (.int (l.getD k.toNat 0).toNat))
    (hs : ∀ o u, subscripted i false o u = operate [o, u] (getItem o u) := by intro _ _; with_unfolding_all rfl) : W2 S (subscriptTail b i) (.bytes l.toArray) (.int k) Q := by
  intro σ h₀ fz₀ fz s v u R hi hu K E c
  obtain ⟨t', rfl⟩ := di_bytes hi
  obtain ⟨t, rfl⟩ := di_int hu
  exact tail_any (T := "bytes") (typeIs_bytes _ _ _) FB.slot_bytes_getitem.lookup (getItem_bytes (by walk_at "o") h0 h1 (CE.imm c R (.int _) q _ _)) (hs _ _)

theorem W2_addl {a b : List Dat} (hz : a.length + b.length ≤ 1000000) (q : Q (.list (a ++ b))) : W2 S (binaryOp .Add) (.list a) (.list b) Q := by
  intro σ h₀ fz₀ fz s v u R hi hu K E c
  refine hidG fun zG zh => ?_
  obtain ⟨x, vs, n, rfl, hm, hall⟩ := di_list hi
  refine zh ?_
  clear zh zG
  refine hidG fun zG zh => ?_
  obtain ⟨y, us, n', rfl, hm', hall'⟩ := di_list hu
  refine zh ?_
  clear zh zG
  have e : vs.toArray ++ us.toArray = (vs ++ us).toArray := by simp
  have happ : ∀ {vs : List Value} {a : List Dat}, DatAll fz vs a → DatAll fz (vs ++ us) (a ++ b) := by
    intro vs a h
    induction vs generalizing a with
    | nil => cases h; exact hall'
    | cons v vs ih =>
      cases h with
      | cons h1 h2 => exact .cons h1 (ih h2)
  refine PySem.P.add_list (R.held _ hm) (R.held _ hm') ?_ (by rw [List.size_toArray, List.size_toArray, hall.length, hall'.length, sizeLine_eq]; walk_at "o")
  rw [e]
  exact CE.push c R rfl (.list (.head _) ((happ hall).mono fun p hp => .tail _ hp)) q
end
end Mine
end

section
open PySem PySem.W PyProof.Rows PySem.Calls PySem.SeqAt PySem.MeetsSeq
open Builtin Builtin.Str
set_option maxRecDepth 10000
namespace Mine

section
variable {S : St} {σ : Sg} {Q : Dat → Prop}

theorem dat_numbered (fz : Led) (k : Tok) (l : List Str) : DatAll fz (strValues (numbered k l)) (l.map .str) := by
  have key : ∀ (l' : List (Str × Tok)), DatAll fz (strValues l') (l'.map fun p => Dat.str p.1) := by
    intro l'
    induction l' with
    | nil => exact .nil
    | cons p r ih => exact .cons (.str _ _) ih
  have h := key (numbered k l)
  have e : (numbered k l).map (fun p => Dat.str p.1) = l.map .str := by
    rw [show (fun p : Str × Tok => Dat.str p.1) = Dat.str ∘ Prod.fst from rfl, ← List.map_map, numbered_texts]
  rw [e] at h
  exact h
theorem strs_are {fz : Led} {vs : List Value} {xs : List Str} (h : DatAll fz vs (xs.map .str)) : ∃ l : List (Str × Tok), vs = strValues l ∧ l.map (·.1) = xs := by
  induction xs generalizing vs with
  | nil => exact ⟨[], da_nil h, rfl⟩
  | cons x xs ih =>
    refine hidG fun zG zh => ?_
    obtain ⟨v, r, rfl, h1, h2⟩ := da_cons h
    refine zh ?_
    clear zh zG
    obtain ⟨t, rfl⟩ := di_str h1
    obtain ⟨l, rfl, rfl⟩ := ih h2
    exact ⟨(x, t) :: l, rfl, rfl⟩

theorem V_split {x y : Str} (hy : 1 ≤ y.length) (hx : x.length ≤ 1000000) (q : Q (.list ((Txt.split x y).map .str))) : WV S (fun vs => call (.builtin "str.split") vs) [.str x, .str y] Q := by
  intro σ h₀ fz₀ fz s vs R hv K E c
  refine hidG fun zG zh => ?_
  obtain ⟨v, u, rfl, hv1, hu⟩ := da_two hv
  refine zh ?_
  clear zh zG
  obtain ⟨t, rfl⟩ := di_str hv1
  obtain ⟨t', rfl⟩ := di_str hu
  have hy' : (y.length == 0) = false := by simp; walk_at "o"
  have hlen := split_le x y
  have hsz : x.length ≤ sizeLine := by rw [sizeLine_eq]; walk_at "o"
  cases h1 : (decide (x.length < y.length) || decide (strKind x < strKind y))
  · cases hf : (occurrences x y 0 x.length (x.length + 1)).isEmpty
    · have e : Txt.split x y = partsBetween x (occurrences x y 0 x.length (x.length + 1)) y.length := (if_neg (ne_true_of_eq_false h1)).trans (if_neg (ne_true_of_eq_false hf))
      rw [e] at q hlen
      refine call_meets F.slot_str_split (typeIs_str _ _ _) F.entry_str_split (F.args_str_split_2 _ _) (meets_str_split_sep x y t t' h1 hy' hf hsz (by rw [sizeLine_eq]; walk_at "o")) ?_
      show K (.ref s.heap.objs.size) { s with toks := _, heap := s.heap.push { cls := .type "list", data := .seq (strsFrom s.toks (partsBetween x (occurrences x y 0 x.length (x.length + 1)) y.length)).toArray } }
      rw [strsFrom_eq]
      have r := R.ext (Kp.push s.heap { cls := .type "list", data := .seq (strValues (numbered s.toks (partsBetween x (occurrences x y 0 x.length (x.length + 1)) y.length))).toArray }) [(s.heap.objs.size, { cls := .type "list", data := .seq (strValues (numbered s.toks (partsBetween x (occurrences x y 0 x.length (x.length + 1)) y.length))).toArray })] (by
        intro p hp
        rw [List.mem_singleton.mp hp]
        refine ⟨Heap.get?_push_size _ rfl, ?_⟩
        cases q : s.heap.get? s.heap.objs.size with
        | none => rfl
        | some o' => exact absurd (Heap.lt_size q) (Nat.lt_irrefl _))
      exact c _ _ _ _ _ q (fun _ h => .tail _ h) r (.list (.head _) (dat_numbered _ _ _))
    · have e : Txt.split x y = [x] := (if_neg (ne_true_of_eq_false h1)).trans (if_pos hf)
      rw [e] at q
      exact call_meets F.slot_str_split (typeIs_str _ _ _) F.entry_str_split (F.args_str_split_2 _ _) (meets_str_split_not_found x y t t' h1 hy' hf)
        (CE.push c R rfl (.list (.head _) (.cons (.str x t) .nil)) q)
  · have e : Txt.split x y = [x] := if_pos h1
    rw [e] at q
    exact call_meets F.slot_str_split (typeIs_str _ _ _) F.entry_str_split (F.args_str_split_2 _ _) (meets_str_split_cannot_occur x y t t' h1)
      (CE.push c R rfl (.list (.head _) (.cons (.str x t) .nil)) q)

theorem tooLong_no {n : Nat} (h : n ≤ 1000000) : tooLong n = false := by
  unfold tooLong
  rw [sizeLine_eq]
  exact decide_eq_false (by walk_at "o")
theorem V_upper {x : Str} (hz : (Txt.upper x).length ≤ 1000000) (q : Q (.str (Txt.upper x))) : WV S (fun vs => call (.builtin "str.upper") vs) [.str x] Q :=
  WV_imm1 (i_str x) (.str _) (fun _ _ _ _ _ h => SC.upper (tooLong_no hz) (h _ _)) q
theorem V_lower {x : Str} (hz : (Txt.lower x).length ≤ 1000000) (q : Q (.str (Txt.lower x))) : WV S (fun vs => call (.builtin "str.lower") vs) [.str x] Q :=
  WV_imm1 (i_str x) (.str _) (fun _ _ _ _ _ h => SC.lower (tooLong_no hz) (h _ _)) q
theorem V_find {x y : Str} (q : Q (.int (Txt.find x y))) : WV S (fun vs => call (.builtin "str.find") vs) [.str x, .str y] Q :=
  WV_imm2 (i_str x) (i_str y) (.int _) (fun _ _ _ _ _ _ h => SC.find (h _ _)) q
theorem V_join {x : Str} {xs : List Str} (hok : JoinOk x xs = true) (q : Q (.str (Txt.join x xs))) : WV S (fun vs => call (.builtin "str.join") vs) [.str x, .list (xs.map .str)] Q := by
  refine WV_grow2 (.str (Txt.join x xs)) (fun fz s v u hv hu H hh K E c => ?_) q
  obtain ⟨t, rfl⟩ := di_str hv
  refine hidG fun zG zh => ?_
  obtain ⟨a, vs, n, rfl, hm, hall⟩ := di_list hu
  refine zh ?_
  clear zh zG
  obtain ⟨l, rfl, hl⟩ := strs_are hall
  exact SC.join (isList_of H hm) hl hok fun t' k => c t' s.heap k (Kp.refl _)
end
end Mine
end

section
open PySem PySem.W PyProof.Rows PySem.Calls PySem.SeqAt PySem.MeetsSeq
open Builtin
set_option maxRecDepth 100000
namespace Mine
namespace FB
theorem slot_split : Slot "bytes" "split" "bytes.split" :=
  .of (owner := "bytes") (n := "split") (by rw [typeLookup_type, builtinLookup_eq_fast]; kernel_rfl) (by decide +kernel) (by decide +kernel) (by decide +kernel)
    (by first | exact .inl (by decide +kernel) | exact .inr (by decide +kernel)) (by rw [isSubtype_type]; kernel_rfl)
theorem type_split : typeOf (.builtin "bytes.split") = pure (.type "method_descriptor") := by show builtinType _ = _; rw [builtinType_eq_fast]; kernel_rfl
theorem entry_split : entryFor table "bytes.split" = some Builtin.«bytes.split» := entryFor_of_tree (by kernel_rfl)
theorem args_split (a b : Value) : argsOk "bytes.split" ⟨[a, b], []⟩ := by
  unfold argsOk; rw [signature?_of (id := "bytes.split") (n := ['t', 'i', 'l', 'p', 's']) (o := ['s', 'e', 't', 'y', 'b']) (by kernel_rfl) PySem.W.FB.owner_bytes]; kernel_rfl
theorem slot_strip : Slot "bytes" "strip" "bytes.strip" :=
  .of (owner := "bytes") (n := "strip") (by rw [typeLookup_type, builtinLookup_eq_fast]; kernel_rfl) (by decide +kernel) (by decide +kernel) (by decide +kernel)
    (by first | exact .inl (by decide +kernel) | exact .inr (by decide +kernel)) (by rw [isSubtype_type]; kernel_rfl)
theorem type_strip : typeOf (.builtin "bytes.strip") = pure (.type "method_descriptor") := by show builtinType _ = _; rw [builtinType_eq_fast]; kernel_rfl
theorem entry_strip : entryFor table "bytes.strip" = some Builtin.«bytes.strip» := entryFor_of_tree (by kernel_rfl)
theorem args_strip (a b : Value) : argsOk "bytes.strip" ⟨[a, b], []⟩ := by
  unfold argsOk; rw [signature?_of (id := "bytes.strip") (n := ['p', 'i', 'r', 't', 's']) (o := ['s', 'e', 't', 'y', 'b']) (by kernel_rfl) PySem.W.FB.owner_bytes]; kernel_rfl
theorem slot_join : Slot "bytes" "join" "bytes.join" :=
  .of (owner := "bytes") (n := "join") (by rw [typeLookup_type, builtinLookup_eq_fast]; kernel_rfl) (by decide +kernel) (by decide +kernel) (by decide +kernel)
    (by first | exact .inl (by decide +kernel) | exact .inr (by decide +kernel)) (by rw [isSubtype_type]; kernel_rfl)
theorem type_join : typeOf (.builtin "bytes.join") = pure (.type "method_descriptor") := by show builtinType _ = _; rw [builtinType_eq_fast]; kernel_rfl
theorem entry_join : entryFor table "bytes.join" = some Builtin.«bytes.join» := entryFor_of_tree (by kernel_rfl)
theorem args_join (a b : Value) : argsOk "bytes.join" ⟨[a, b], []⟩ := by
  unfold argsOk; rw [signature?_of (id := "bytes.join") (n := ['n', 'i', 'o', 'j']) (o := ['s', 'e', 't', 'y', 'b']) (by kernel_rfl) PySem.W.FB.owner_bytes]; kernel_rfl
theorem slot_replace : Slot "bytes" "replace" "bytes.replace" :=
  .of (owner := "bytes") (n := "replace") (by rw [typeLookup_type, builtinLookup_eq_fast]; kernel_rfl) (by decide +kernel) (by decide +kernel) (by decide +kernel)
    (by first | exact .inl (by decide +kernel) | exact .inr (by decide +kernel)) (by rw [isSubtype_type]; kernel_rfl)
theorem type_replace : typeOf (.builtin "bytes.replace") = pure (.type "method_descriptor") := by show builtinType _ = _; rw [builtinType_eq_fast]; kernel_rfl
theorem entry_replace : entryFor table "bytes.replace" = some Builtin.«bytes.replace» := entryFor_of_tree (by kernel_rfl)
theorem args_replace (a b c : Value) : argsOk "bytes.replace" ⟨[a, b, c], []⟩ := by
  unfold argsOk; rw [signature?_of (id := "bytes.replace") (n := ['e', 'c', 'a', 'l', 'p', 'e', 'r']) (o := ['s', 'e', 't', 'y', 'b']) (by kernel_rfl) PySem.W.FB.owner_bytes]; kernel_rfl
end FB

theorem like_eq {id : String} {b : Array UInt8} {t : Tok} : Bytes.bytesLike id (.bytes b t) = pure b := by
  unfold Bytes.bytesLike
  rw [KBy.buffer_eq]
  rfl
section
variable {M : Model} {A : Around} {E : Value → Shared → Prop} {s : Shared}
theorem wpAny_mkMany {l : List (Array UInt8)} (hz : ∀ b ∈ l, b.size ≤ 1000000) {Q : List Value → Shared → Prop} (h : ∀ vs tk fz, DatAll fz vs (l.map .bytes) → Q vs { s with toks := tk }) : wpAny M A (l.mapM (Bytes.Kind.new .bytes)) Q E s := by
  induction l generalizing s Q with
  | nil => rw [List.mapM_nil]; exact wpAny_pure (h [] s.toks [] .nil)
  | cons b l ih =>
    rw [List.mapM_cons]
    refine wpAny_bind ?_
    show wpAny M A (mkBytes b) _ E s
    refine wpAny_mkBytes ?_ (by rw [sizeLine_eq]; have := hz b (.head _); walk_at "o")
    refine wpAny_bind (ih (fun b hb => hz b (.tail _ hb)) fun vs tk fz hd => ?_)
    exact wpAny_pure (h (.bytes b s.toks :: vs) tk fz (.cons (.bytes _ _) hd))

noncomputable def bSplit (b sep : Array UInt8) : List (Array UInt8) :=
  if ((Bytes.occurrences b sep 0 b.size).take (b.size + 1)).isEmpty then [b] else Bytes.between b sep.size ((Bytes.occurrences b sep 0 b.size).take (b.size + 1))
end
section
variable {S : St} {σ : Sg} {Q : Dat → Prop}
theorem immAll {l : List Dat} {fz fz' : Led} {vs : List Value} (hl : ∀ d ∈ l, immD d = true) (h : DatAll fz vs l) : DatAll fz' vs l := by
  induction l generalizing vs with
  | nil => rw [da_nil h]; exact .nil
  | cons d l ih =>
    refine hidG fun zG zh => ?_
    obtain ⟨v, r, rfl, h1, h2⟩ := da_cons h
    refine zh ?_
    clear zh zG
    refine .cons ?_ (ih (fun d hd => hl d (.tail _ hd)) h2)
    have := hl d (.head _)
    cases d with
    | none => rw [di_none h1]; exact .none
    | bool b => rw [di_bool h1]; exact .bool b
    | int i => obtain ⟨t, rfl⟩ := di_int h1; exact .int i t
    | str x => obtain ⟨t, rfl⟩ := di_str h1; exact .str x t
    | bytes x => obtain ⟨t, rfl⟩ := di_bytes h1; exact .bytes x t
    | _ => cases this

theorem V_bsplit {b sep : Array UInt8} (hs : sep.isEmpty = false) (hb : b.size ≤ 1000000) (hz : ∀ p ∈ bSplit b sep, p.size ≤ 1000000) (hl : (bSplit b sep).length ≤ 1000000) (q : Q (.list ((bSplit b sep).map .bytes))) : WV S (fun vs => call (.builtin "bytes.split") vs) [.bytes b, .bytes sep] Q := by
  intro σ h₀ fz₀ fz s vs R hv K E c
  refine hidG fun zG zh => ?_
  obtain ⟨v, u, rfl, hv1, hu⟩ := da_two hv
  refine zh ?_
  clear zh zG
  obtain ⟨t, rfl⟩ := di_bytes hv1
  obtain ⟨t', rfl⟩ := di_bytes hu
  refine wpAny_call_entry FB.slot_split (typeIs_bytes _ _ _) FB.entry_split ?_ (FB.args_split _ _)
  show wpAny _ _ (Bytes.bindOptional "bytes.split" "split" ["sep", "maxsplit"] [.bytes sep t'] [] >>= _) _ _ _
  refine wpAny_bind (wpAny_of_eq (show Bytes.bindOptional "bytes.split" "split" ["sep", "maxsplit"] [.bytes sep t'] [] = pure [some (.bytes sep t'), none] from rfl) ?_)
  show wpAny _ _ (pure (-1 : Int) >>= _) _ _ _
  refine wpAny_bind (wpAny_pure ?_)
  show wpAny _ _ (pure b >>= _) _ _ _
  refine wpAny_bind (wpAny_pure ?_)
  show wpAny _ _ (Bytes.bytesLike _ (.bytes sep t') >>= _) _ _ _
  refine wpAny_bind (wpAny_of_eq like_eq ?_)
  rw [hs]
  show wpAny _ _ (if ((Bytes.occurrences b sep 0 b.size).take (b.size + 1)).isEmpty = true then _ else _) _ _ _
  cases he : ((Bytes.occurrences b sep 0 b.size).take (b.size + 1)).isEmpty
  · have e : bSplit b sep = Bytes.between b sep.size ((Bytes.occurrences b sep 0 b.size).take (b.size + 1)) := by
      unfold bSplit; rw [he]; rfl
    rw [e] at q hz hl
    rw [if_neg (by simp)]
    refine wpAny_bind (wpAny_mkMany hz fun vs tk fz' hd => ?_)
    have hd := immAll (fz' := (s.heap.objs.size, ({ cls := .type "list", data := .seq vs.toArray 0 } : Obj)) :: fz) (fun d hd => by obtain ⟨x, _, rfl⟩ := List.mem_map.mp hd; rfl) hd
    have hlen := hd.length
    rw [List.length_map] at hlen
    refine wpAny_bind (wpAny_newList (s := { s with toks := tk }) (wpAny_pure ⟨_, rfl, ?_⟩) (by rw [sizeLine_eq, hlen]; walk_at "o"))
    exact CE.push (s := { s with toks := tk }) (fun d v h'' tk'' fz'' q' sub' => c d v h'' tk'' fz'' q' sub') R rfl (.list (.head _) hd) q
  · have e : bSplit b sep = [b] := by unfold bSplit; rw [he]; rfl
    rw [e] at q
    rw [if_pos rfl]
    refine wpAny_bind (wpAny_rule ?_)
    refine wpAny_bind ?_
    show wpAny _ _ (typeOf (.bytes b t) >>= _) _ _ _
    refine wpAny_bind (wpAny_typeOf (typeIs_bytes _ _ _) ?_)
    refine wpAny_pure ?_
    refine wpAny_bind (wpAny_newList (wpAny_pure ⟨_, rfl, ?_⟩) (by rw [sizeLine_eq]; simp))
    exact CE.push c R rfl (.list (.head _) (.cons (.bytes b t) .nil)) q
end
end Mine
end

section
open PySem PySem.W PyProof.Rows PySem.Calls PySem.SeqAt PySem.MeetsSeq
open Builtin
set_option maxRecDepth 100000
namespace Mine
section
variable {S : St} {σ : Sg} {Q : Dat → Prop}

noncomputable def bKept (b set : Array UInt8) : List UInt8 := ((b.toList.dropWhile set.contains).reverse.dropWhile set.contains).reverse
theorem bKept_len (b set : Array UInt8) : (bKept b set).length ≤ b.size := by
  unfold bKept
  rw [List.length_reverse]
  have h1 := (List.dropWhile_sublist set.contains (l := (b.toList.dropWhile set.contains).reverse)).length_le
  have h2 := (List.dropWhile_sublist set.contains (l := b.toList)).length_le
  rw [List.length_reverse] at h1
  simp only [Array.length_toList] at h2
  walk_at "o"
theorem bKept_same (b set : Array UInt8) (h : (bKept b set).length = b.size) : (bKept b set).toArray = b := by
  have h1 := List.dropWhile_sublist set.contains (l := (b.toList.dropWhile set.contains).reverse)
  have h2 := List.dropWhile_sublist set.contains (l := b.toList)
  have l1 := h1.length_le
  have l2 := h2.length_le
  unfold bKept at h ⊢
  rw [List.length_reverse] at h l1
  simp only [Array.length_toList] at l2
  have e1 := h1.eq_of_length (by rw [List.length_reverse]; walk_at "o")
  have e2 := h2.eq_of_length (by simp only [Array.length_toList]; walk_at "o")
  rw [e1, e2, List.reverse_reverse]
theorem V_bstrip {b set : Array UInt8} (hb : b.size ≤ 1000000) (q : Q (.bytes (bKept b set).toArray)) : WV S (fun vs => call (.builtin "bytes.strip") vs) [.bytes b, .bytes set] Q := by
  intro σ h₀ fz₀ fz s vs R hv K E c
  refine hidG fun zG zh => ?_
  obtain ⟨v, u, rfl, hv1, hu⟩ := da_two hv
  refine zh ?_
  clear zh zG
  obtain ⟨t, rfl⟩ := di_bytes hv1
  obtain ⟨t', rfl⟩ := di_bytes hu
  refine wpAny_call_entry FB.slot_strip (typeIs_bytes _ _ _) FB.entry_strip ?_ (FB.args_strip _ _)
  show wpAny _ _ (selfAndSome "bytes.strip" "strip" 0 1 ⟨[.bytes b t, .bytes set t'], []⟩ >>= _) _ _ _
  refine wpAny_bind (wpAny_of_eq (show selfAndSome "bytes.strip" "strip" 0 1 ⟨[.bytes b t, .bytes set t'], []⟩ = pure (.bytes b t, [.bytes set t']) from rfl) ?_)
  refine wpAny_bind (wpAny_bind (wpAny_of_eq KBy.buffer_eq (wpAny_pure (wpAny_bind (wpAny_pure ?_)))))
  show wpAny _ _ (pure b >>= _) _ _ _
  refine wpAny_bind (wpAny_pure ?_)
  show wpAny _ _ (if ((bKept b set).length == b.size) = true then _ else _) _ _ _
  by_cases he : (bKept b set).length = b.size
  · rw [if_pos (by simpa using he)]
    rw [bKept_same b set he] at q
    refine wpAny_bind (wpAny_rule ?_)
    refine wpAny_bind ?_
    show wpAny _ _ (typeOf (.bytes b t) >>= _) _ _ _
    refine wpAny_bind (wpAny_typeOf (typeIs_bytes _ _ _) ?_)
    refine wpAny_pure ?_
    exact wpAny_pure ⟨_, rfl, CE.imm0 c R (.bytes b) q t⟩
  · rw [if_neg (by simpa using he)]
    refine wpAny_bind ?_
    show wpAny _ _ (mkBytes (bKept b set).toArray) _ _ _
    refine wpAny_mkBytes ?_ (by rw [sizeLine_eq, List.size_toArray]; have := bKept_len b set; walk_at "o")
    exact wpAny_pure ⟨_, rfl, CE.imm c R (.bytes _) q _ _⟩

noncomputable def bRep (b old new : Array UInt8) : Array UInt8 :=
  if (Bytes.occurrences b old 0 b.size).isEmpty then b else Bytes.joined new (Bytes.between b old.size (Bytes.occurrences b old 0 b.size))
theorem V_breplace {b old new : Array UInt8} (ho : old.isEmpty = false) (hz : (bRep b old new).size ≤ 1000000) (hn : new.size ≤ 1) (hb : b.size ≤ 1000000) (hl : (Bytes.occurrences b old 0 b.size).length ≤ 1000000) (q : Q (.bytes (bRep b old new))) : WV S (fun vs => call (.builtin "bytes.replace") vs) [.bytes b, .bytes old, .bytes new] Q := by
  intro σ h₀ fz₀ fz s vs R hv K E c
  refine hidG fun zG zh => ?_
  obtain ⟨v, r, rfl, hv1, hr⟩ := da_cons hv
  refine zh ?_
  clear zh zG
  refine hidG fun zG zh => ?_
  obtain ⟨u, w, rfl, hu, hw⟩ := da_two hr
  refine zh ?_
  clear zh zG
  obtain ⟨t, rfl⟩ := di_bytes hv1
  obtain ⟨t', rfl⟩ := di_bytes hu
  obtain ⟨t'', rfl⟩ := di_bytes hw
  refine wpAny_call_entry FB.slot_replace (typeIs_bytes _ _ _) FB.entry_replace ?_ (FB.args_replace _ _ _)
  show wpAny _ _ (selfAndSome "bytes.replace" "replace" 2 3 ⟨[.bytes b t, .bytes old t', .bytes new t''], []⟩ >>= _) _ _ _
  refine wpAny_bind (wpAny_of_eq (show selfAndSome "bytes.replace" "replace" 2 3 ⟨[.bytes b t, .bytes old t', .bytes new t''], []⟩ = pure (.bytes b t, [.bytes old t', .bytes new t'']) from rfl) ?_)
  refine wpAny_bind (wpAny_of_eq like_eq ?_)
  refine wpAny_bind (wpAny_of_eq like_eq ?_)
  show wpAny _ _ (pure (-1 : Int) >>= _) _ _ _
  refine wpAny_bind (wpAny_pure ?_)
  refine wpAny_bind (wpAny_of_eq like_eq ?_)
  refine wpAny_bind (wpAny_of_eq like_eq ?_)
  show wpAny _ _ (pure b >>= _) _ _ _
  refine wpAny_bind (wpAny_pure ?_)
  rw [ho]
  show wpAny _ _ (if ((Bytes.occurrences b old 0 b.size).isEmpty || false) = true then _ else _) _ _ _
  rw [Bool.or_false]
  cases he : (Bytes.occurrences b old 0 b.size).isEmpty
  · have e : bRep b old new = Bytes.joined new (Bytes.between b old.size (Bytes.occurrences b old 0 b.size)) := by unfold bRep; rw [he]; rfl
    rw [e] at q hz
    rw [if_neg (by simp)]
    show wpAny _ _ (if Bytes.tooLong (b.size + (Bytes.occurrences b old 0 b.size).length * new.size) = true then _ else _) _ _ _
    rw [if_neg]
    · refine wpAny_bind ?_
      show wpAny _ _ (mkBytes (Bytes.joined new (Bytes.between b old.size (Bytes.occurrences b old 0 b.size)))) _ _ _
      refine wpAny_mkBytes ?_ (by rw [sizeLine_eq]; walk_at "o")
      exact wpAny_pure ⟨_, rfl, CE.imm c R (.bytes _) q _ _⟩
    · have : Bytes.tooLong (b.size + (Bytes.occurrences b old 0 b.size).length * new.size) = false := by
        unfold Bytes.tooLong
        rw [sizeLine_eq]
        refine decide_eq_false ?_
        have h1 : (Bytes.occurrences b old 0 b.size).length * new.size ≤ (Bytes.occurrences b old 0 b.size).length * 1 := Nat.mul_le_mul_left _ hn
        walk_at "o"
      rw [this]; simp
  · have e : bRep b old new = b := by unfold bRep; rw [he]; rfl
    rw [e] at q
    rw [if_pos rfl]
    refine wpAny_bind (wpAny_rule ?_)
    refine wpAny_bind ?_
    show wpAny _ _ (typeOf (.bytes b t) >>= _) _ _ _
    refine wpAny_bind (wpAny_typeOf (typeIs_bytes _ _ _) ?_)
    refine wpAny_pure ?_
    exact wpAny_pure ⟨_, rfl, CE.imm0 c R (.bytes b) q t⟩
end

theorem bufferF_eq {id : String} {b : Array UInt8} {t : Tok} {f : Bool} : Bytes.buffer? id (.bytes b t) f = pure (some b) := by
  unfold Bytes.buffer?
  rw [KBy.special_eq KBy.look_buffer, KBy.own_buffer, KBy.own_release]
  kernel_rfl
theorem take_eq {id : String} {b : Array UInt8} {t : Tok} {n : Int} : Bytes.takeBufferQuiet? id (.bytes b t) n = pure (some (b, none)) := by
  unfold Bytes.takeBufferQuiet? Bytes.takeBuffer?
  rw [KBy.special_eq KBy.look_buffer, KBy.own_buffer]
  rw [bufferF_eq]
  kernel_rfl
section
variable {M : Model} {A : Around} {E : Value → Shared → Prop} {s : Shared}
theorem wpAny_joinLetGo {l : List Value} {keep : List Value} {Q : Unit → Shared → Prop} (h : Q () s) : wpAny M A (Bytes.joinLetGo (l.map fun v => (v, none)) keep) Q E s := by
  induction l with
  | nil => exact wpAny_pure h
  | cons x r ih =>
    rw [List.map_cons, Bytes.joinLetGo]
    · exact wpAny_bind (wpAny_letGo ih)
    · intro _ h; cases h
end
section
variable {S : St} {σ : Sg} {Q : Dat → Prop}
theorem V_bjoin {bs : List (Array UInt8)} (hz : bs.foldl (fun n b => n + b.size) 0 ≤ 1000000) (q : Q (.bytes (bs.map Array.toList).flatten.toArray)) : WV S (fun vs => call (.builtin "bytes.join") vs) [.bytes #[], .list (bs.map .bytes)] Q := by
  intro σ h₀ fz₀ fz s vs R hv K E c
  refine hidG fun zG zh => ?_
  obtain ⟨v, u, rfl, hv1, hu⟩ := da_two hv
  refine zh ?_
  clear zh zG
  obtain ⟨t, rfl⟩ := di_bytes hv1
  refine hidG fun zG zh => ?_
  obtain ⟨a, vs, n, rfl, hm, hall⟩ := di_list hu
  refine zh ?_
  clear zh zG
  have ho := R.held _ hm
  have hl := isList_of R.held hm
  refine wpAny_call_entry FB.slot_join (typeIs_bytes _ _ _) FB.entry_join ?_ (FB.args_join _ _)
  show wpAny _ _ (selfAndOne "bytes.join" ⟨[.bytes #[] t, .ref a], []⟩ >>= _) _ _ _
  refine wpAny_bind (wpAny_of_eq (show selfAndOne "bytes.join" ⟨[.bytes #[] t, .ref a], []⟩ = pure (.bytes #[] t, .ref a) from rfl) ?_)
  show wpAny _ _ (Bytes.joinItems (.ref a) >>= _) _ _ _
  refine wpAny_bind ?_
  unfold Bytes.joinItems
  refine wpAny_bind (wpAny_typeOf hl.typeIs ?_)
  rw [if_pos (by decide)]
  refine wpAny_pure ?_
  refine wpAny_bind (wpAny_seqItems ho rfl ?_)
  have hbs : ∀ i (hi : i < bs.length), ∃ t, vs[i]? = some (.bytes bs[i] t) := fun i hi => by
    obtain ⟨v, e, d⟩ := hall.get (k := i) (by simpa using hi)
    rw [List.getElem_map] at d
    obtain ⟨t, rfl⟩ := di_bytes d
    exact ⟨t, e⟩
  have hlen : vs.length = bs.length := by simpa using hall.length
  by_cases h1 : bs.length = 1
  · obtain ⟨b, rfl⟩ : ∃ b, bs = [b] := by
      cases bs with
      | nil => cases h1
      | cons b r => cases r with
        | nil => exact ⟨b, rfl⟩
        | cons _ _ => cases h1
    obtain ⟨v, rfl, hv2⟩ := da_one hall
    obtain ⟨t', rfl⟩ := di_bytes hv2
    show wpAny _ _ (typeOf (.bytes b t') >>= _) _ _ _
    refine wpAny_bind (wpAny_typeOf (typeIs_bytes _ _ _) ?_)
    rw [if_pos (by decide)]
    refine wpAny_bind (wpAny_rule ?_)
    have e : (([b] : List (Array UInt8)).map Array.toList).flatten.toArray = b := by simp
    rw [e] at q
    exact wpAny_pure ⟨_, rfl, CE.imm0 c R (.bytes b) q t'⟩
  · have key : ∀ {m : Sem PySem.Fin} {k : Value → Sem PySem.Fin} {Q' : PySem.Fin → Shared → Prop}, wpAny S.M S.A.in1 m Q' E s → wpAny S.M S.A.in1 (match vs.toArray with | #[x] => k x | _ => m) Q' E s := by
      intro m k Q' hm
      have hne : vs.toArray.size ≠ 1 := by rw [List.size_toArray, hlen]; exact h1
      revert hm hne
      generalize vs.toArray = xs
      intro hm hne
      obtain ⟨l⟩ := xs
      rcases l with _ | ⟨v, _ | ⟨u, r⟩⟩
      · exact hm
      · exact absurd rfl hne
      · exact hm
    refine key ?_
    dsimp only
    rw [Std.Legacy.Range.forIn_eq_forIn_range']
    have hsz : vs.toArray.size = bs.length := by rw [List.size_toArray, hlen]
    refine wpAny_bind (wpAny_mono (wpAny_forIn_list _ (fun rest st s' => s' = s ∧ ∃ i, i ≤ bs.length ∧ rest = List.range' i (bs.length - i) ∧ st = ((bs.take i).toArray, (vs.take i).map fun v => (v, none)))
      (fun st s' => s' = s ∧ st = (bs.toArray, vs.map fun v => (v, none))) ?_ ?_ _ _ ?_) (fun st s' h => ?_) fun _ _ e => e)
    · intro i rest st s' zq
      refine hidG fun zG zh => ?_
      obtain ⟨rfl, j, hj, hr, rfl⟩ := zq
      refine zh ?_
      clear zh zG
      have hjl : j < bs.length := by
        have := congrArg List.length hr
        rw [List.length_range'] at this
        simp at this; walk_at "o"
      obtain ⟨k, hk⟩ : ∃ k, bs.length - j = k + 1 := ⟨bs.length - j - 1, by walk_at "o"⟩
      rw [hk, List.range'_succ] at hr
      injection hr with e1 e2
      subst e1
      obtain ⟨t', ht⟩ := hbs i hjl
      refine wpAny_bind (wpAny_seqItems ho rfl ?_)
      dsimp only
      have hx : vs.toArray.getD i Value.none = .bytes bs[i] t' := by
        have := ht
        simp [Array.getD_eq_getD_getElem?, this]
      rw [hx]
      rw [if_neg]
      · refine wpAny_bind (wpAny_holding (wpAny_of_eq take_eq ?_))
        dsimp only
        refine wpAny_bind (wpAny_seqItems ho rfl ?_)
        dsimp only
        rw [if_neg (by simp)]
        refine wpAny_pure ⟨rfl, i + 1, hjl, ?_, ?_⟩
        · rw [e2]; congr 1; walk_at "o"
        · have e3 : bs.take (i + 1) = bs.take i ++ [bs[i]] := by rw [List.take_succ_eq_append_getElem hjl]
          have e4 : vs.take (i + 1) = vs.take i ++ [.bytes bs[i] t'] := by
            have h5 := (List.getElem?_eq_some_iff.mp ht)
            rw [List.take_succ_eq_append_getElem (by walk_at "o"), h5.2]
          rw [e3, e4]
          simp
      · simp only [Bool.or_eq_true, not_or]
        refine ⟨by decide, ?_⟩
        rw [Bool.not_eq_true, List.any_eq_false]
        intro p hp
        obtain ⟨v, hv, rfl⟩ := List.mem_map.mp hp
        obtain ⟨m, hm, e⟩ := List.getElem_of_mem (List.mem_of_mem_take hv)
        obtain ⟨t2, h2⟩ := hbs m (by walk_at "o")
        have := (List.getElem?_eq_some_iff.mp h2).2
        rw [← e, this]
        exact Bool.false_ne_true
    · intro st s' zq
      refine hidG fun zG zh => ?_
      obtain ⟨rfl, j, hj, hr, rfl⟩ := zq
      refine zh ?_
      clear zh zG
      have e : j = bs.length := by
        have := congrArg List.length hr
        rw [List.length_range'] at this
        simp at this; walk_at "o"
      subst e
      exact ⟨rfl, by rw [List.take_length, List.take_of_length_le (by walk_at "o")]⟩
    · refine ⟨rfl, 0, Nat.zero_le _, ?_, ?_⟩
      · show List.range' 0 ((vs.toArray.size - 0 + 1 - 1) / 1) 1 = _
        rw [hsz]; simp
      · simp
    · obtain ⟨rfl, rfl⟩ := h
      show wpAny _ _ (pure #[] >>= _) _ _ _
      refine wpAny_bind (wpAny_pure ?_)
      dsimp only
      have hfold : ∀ (l : List (Array UInt8)) (n : Nat), l.foldl (fun n b => n + b.size) n = n + (l.map Array.toList).flatten.length := by
        intro l
        induction l with
        | nil => intro n; rfl
        | cons b l ih => intro n; rw [List.foldl_cons, ih]; simp; walk_at "o"
      rw [if_neg]
      · refine wpAny_bind ?_
        show wpAny _ _ (mkBytes _) _ _ _
        have ej : Bytes.joined #[] bs = (bs.map Array.toList).flatten.toArray := by
          have key : ∀ (l : List (Array UInt8)) (k : Nat) (out : Array UInt8), (l.zipIdx k).foldl (fun out (p, i) => (if i > 0 then out ++ #[] else out) ++ p) out = out ++ (l.map Array.toList).flatten.toArray := by
            intro l
            induction l with
            | nil => intro k out; simp
            | cons b l ih =>
              intro k out
              rw [List.zipIdx_cons, List.foldl_cons, ih]
              apply Array.toList_inj.mp
              simp
          unfold Bytes.joined
          rw [key]; simp
        rw [show Bytes.joined #[] bs.toArray.toList = Bytes.joined #[] bs from rfl, ej]
        refine wpAny_mkBytes ?_ (by rw [sizeLine_eq, List.size_toArray]; rw [hfold] at hz; walk_at "o")
        refine wpAny_bind (wpAny_holding (wpAny_point ?_))
        refine wpAny_bind (wpAny_joinLetGo ?_)
        exact wpAny_pure ⟨_, rfl, CE.imm c R (.bytes _) q _ _⟩
      · have : Bytes.tooLong (bs.toArray.foldl (fun x1 x2 => x1 + x2.size) (0 * (bs.toArray.size - 1))) = false := by
          unfold Bytes.tooLong
          rw [sizeLine_eq]
          refine decide_eq_false ?_
          rw [Nat.zero_mul, List.foldl_toArray, hfold]
          rw [hfold] at hz
          walk_at "o"
        show ¬ Bytes.tooLong (bs.toArray.foldl (fun x1 x2 => x1 + x2.size) (0 * (bs.toArray.size - 1))) = true
        rw [this]; simp
end
end Mine
end

section
open PySem PySem.W PyProof.Rows PySem.Calls PySem.SeqAt PySem.MeetsSeq
open Builtin
set_option maxRecDepth 100000
namespace Mine

section
variable {prog : Program} {w : World} {A : Around} {E : Value → Shared → Prop} {s : Shared}
theorem keys_list : typeLookup (.type "list") "keys" = pure none := by rw [typeLookup_type, builtinLookup_eq_fast]; kernel_rfl
theorem getKeys_list {a : Addr} {xs : Array Value} {k : Nat} {Q : Option Value → Shared → Prop} (hx : s.heap.get? a = some (listOf xs k)) (hA : A.handled = none) (h : ∀ h' tk, Kp s.heap h' → Q none { s with heap := h', toks := tk }) :
    wpAny (model prog w) A (getAttr? (.ref a) "keys") Q E s := by
  refine hidG fun zG zh => ?_
  obtain ⟨hp, g, d, tk, os⟩ := s
  refine zh ?_
  clear zh zG
  have hT : ∀ tk', (⟨hp, g, d, tk', os⟩ : Shared).TypeIs (.ref a) "list" := fun _ => ⟨_, hx, rfl⟩
  have f1 := sub_AttributeError
  have f3 := F.slot_list_getattribute.lookup
  have f4 := F.slot_list_getattribute.bind (.ref a)
  have f5 := am_list_getattr_none
  unfold getAttr? getAttrBy? getAttrBy
  repeat (any_goals (first | assumption | exact hT _ | ((with_reducible show wpAny _ _ (call (Value.builtin "list.__getattribute__") _ _) _ _ _); refine call_meets F.slot_list_getattribute (hT _) am_entry_list_getattribute (F.args_list_getattribute_2 _ _) (meets_getattribute_miss_list a xs k _ "keys" _ keys_list (by decide +kernel) (by decide)) ⟨hx, hA, fun h' tk' e hx' => ?_⟩) | wp_step))
  obtain ⟨t', u', he⟩ := hx'.there
  show wpAny _ _ (getattributeRaised _ _ _ _ _ _ _) _ _ _
  unfold getattributeRaised
  repeat (any_goals (first | assumption | wp_step))
  exact h _ _ hx'.keeps
end
noncomputable def updI (g : Int → Option Int) (k v : Int) : Int → Option Int := fun x => if x = k then some v else g x
noncomputable def updS (g : Str → Option Str) (k v : Str) : Str → Option Str := fun x => if x = k then some v else g x
noncomputable def tabI (ps : List (Int × Int)) : Int → Option Int := ps.foldl (fun g p => updI g p.1 p.2) (fun _ => none)
theorem tabI_snoc (ps : List (Int × Int)) (p : Int × Int) : tabI (ps ++ [p]) = updI (tabI ps) p.1 p.2 := by unfold tabI; rw [List.foldl_append]; rfl

theorem valueAt_stored {K : Type} [DecidableEq K] (kvs : List (K × Value)) (k : K) (v : Value) (x : K) : valueAt (stored kvs k v) x = if x = k then some v else valueAt kvs x := by
  unfold stored
  split
  · rename_i h
    induction kvs with
    | nil => cases h
    | cons p r ih =>
      obtain ⟨q, u⟩ := p
      unfold valueAt at *
      by_cases hq : q = k
      · subst hq
        by_cases hx : x = q
        · subst hx; simp
        · have hx' : ¬ q = x := fun e => hx e.symm
          rw [if_neg hx]
          simp only [List.map_cons, if_true, List.find?_cons, hx', decide_false]
          have : ∀ r : List (K × Value), (List.find? (fun kv => decide (kv.1 = x)) (r.map fun kv => if kv.1 = q then (kv.1, v) else kv)).map (·.2) = (List.find? (fun kv => decide (kv.1 = x)) r).map (·.2) := by
            intro r
            induction r with
            | nil => rfl
            | cons p r ih =>
              obtain ⟨y, z⟩ := p
              by_cases hy : y = q
              · subst hy; simpa [hx', -List.find?_map] using ih
              · by_cases hyx : y = x
                · subst hyx; simp [hy]
                · simpa [hy, hyx, -List.find?_map] using ih
          exact this r
      · have hr : (r.any fun kv => decide (kv.1 = k)) = true := by simpa [hq] using h
        have := ih hr
        simp only [List.map_cons, hq, if_false, List.find?_cons]
        by_cases hqx : q = x
        · subst hqx; simp [hq]
        · simp only [hqx, decide_false]
          exact this
  · rename_i h
    unfold valueAt
    rw [List.find?_append]
    by_cases hx : x = k
    · subst hx
      rw [if_pos rfl]
      have : List.find? (fun kv => decide (kv.1 = x)) kvs = none := by
        rw [List.find?_eq_none]
        intro p hp hq
        exact h (List.any_eq_true.mpr ⟨p, hp, hq⟩)
      rw [this]; simp
    · rw [if_neg hx]
      have : ¬ k = x := fun e => hx e.symm
      simp [this]

theorem OI.upd {kvs : List (Int × Value)} {g : Int → Option Int} (h : ∀ k, OI (valueAt kvs k) (g k)) (k v : Int) (t : Tok) : ∀ x, OI (valueAt (stored kvs k (.int v t)) x) (updI g k v x) := by
  intro x
  rw [valueAt_stored]
  unfold updI
  by_cases hx : x = k
  · rw [if_pos hx, if_pos hx]; exact ⟨t, rfl⟩
  · rw [if_neg hx, if_neg hx]; exact h x
theorem OS.upd {kvs : List (Str × Value)} {g : Str → Option Str} (h : ∀ k, OS (valueAt kvs k) (g k)) (k v : Str) (t : Tok) : ∀ x, OS (valueAt (stored kvs k (.str v t)) x) (updS g k v x) := by
  intro x
  rw [valueAt_stored]
  unfold updS
  by_cases hx : x = k
  · rw [if_pos hx, if_pos hx]; exact ⟨t, rfl⟩
  · rw [if_neg hx, if_neg hx]; exact h x

namespace FB
theorem entry_upd : entryFor table "dict.update.loop" = some Builtin.«dict.update.loop» := entryFor_of_tree (by kernel_rfl)
theorem plain_upd : plainId "dict.update.loop" = true := by decide +kernel
end FB
noncomputable def pairD (p : Int × Int) : Dat := .tuple [.int p.1, .int p.2]
section
variable {prog : Program} {w : World} {A : Around} {s : Shared}
theorem upd_loop {R : Result → Shared → Prop} {fz : Led} {l I D : Addr} {vs : List Value} {ps : List (Int × Int)} (hh : A.handled = none) (hlI : l ≠ I) (hDI : D ≠ I) (hDl : D ≠ l) (hDf : ∀ p ∈ fz, p.1 ≠ D) (hIf : ∀ p ∈ fz, p.1 ≠ I) (hall : DatAll fz vs (ps.map pairD)) (hz : ps.length ≤ 1000) :
    ∀ (k i : Nat) (s : Shared) (kvs : List (Int × Value)), ps.length - i = k → i ≤ ps.length → s.heap.IsListIter I l i → s.heap.IsList l vs.toArray → Held fz s.heap → s.heap.DictOf (intKind prog w) D kvs → kvs.length ≤ i → (∀ x, OI (valueAt kvs x) (tabI (ps.take i) x)) →
    (∀ h' tk kvs', h'.DictOf (intKind prog w) D kvs' → kvs'.length ≤ ps.length → (∀ x, OI (valueAt kvs' x) (tabI ps x)) → (∀ b o, b ≠ I → b ≠ D → s.heap.get? b = some o → h'.get? b = some o) → R (.ok (.ret .none)) { s with heap := h', toks := tk }) →
    codeAny (model prog w) A (.builtin "dict.update.loop" ⟨[.ref D, .ref I, .int i 0, .none], []⟩) R s := by
  intro k
  induction k with
  | zero =>
    intro i s kvs hk hi hit hl H hD hn ho hR
    have e : i = ps.length := by walk_at "o"
    subst e
    refine codeAny_builtin FB.entry_upd ?_
    rw [Around.under_plainId FB.plain_upd _]
    show wpAny _ A.in1 (pyNext (.ref I) >>= _) _ _ s
    refine wpAny_bind (wpAny_pyNext_list_end hh hit hl (by simp [hall.length]) fun h' he => ?_)
    show wpAny _ _ (Builtin.Dict.addKeywords D [] >>= _) _ _ _
    refine wpAny_bind (wpAny_pure (wpAny_pure ?_))
    rw [List.take_length] at ho
    exact hR h' s.toks kvs (hD.extBut he hDI) hn ho fun b o hb _ e => he b o hb e
  | succ k ih =>
    intro i s kvs hk hi hit hl H hD hn ho hR
    have hlt : i < ps.length := by walk_at "o"
    obtain ⟨v, hx, hv⟩ := hall.get (k := i) (by simpa using hlt)
    rw [List.getElem_map] at hv
    refine hidG fun zG zh => ?_
    obtain ⟨t, us, n, rfl, hm, hus⟩ := di_tuple hv
    refine zh ?_
    clear zh zG
    refine hidG fun zG zh => ?_
    obtain ⟨kv, vv, rfl, hk1, hv1⟩ := da_two hus
    refine zh ?_
    clear zh zG
    obtain ⟨tk1, rfl⟩ := di_int hk1
    obtain ⟨tk2, rfl⟩ := di_int hv1
    refine codeAny_builtin FB.entry_upd ?_
    rw [Around.under_plainId FB.plain_upd _]
    show wpAny _ A.in1 (pyNext (.ref I) >>= _) _ _ s
    refine wpAny_bind (wpAny_pyNext_list_item (x := .ref t) hit hl (by simpa using hx) fun h' hit' hs => ?_)
    have H' : Held fz h' := fun p hp => (hs.2 p.1 (hIf p hp)).trans (H p hp)
    have hD' : h'.DictOf (intKind prog w) D kvs := hD.sameBut hs hDI
    have ht := H' _ hm
    refine wpAny_bind (wpAny_holding ?_)
    refine wpAny_bind (wpAny_tryCatch ?_)
    unfold Builtin.Dict.pairItems
    refine wpAny_bind (wpAny_typeOf (T := "tuple") (s := { s with heap := h' }) ⟨_, ht, rfl⟩ ?_)
    rw [if_pos (by decide)]
    refine wpAny_bind (wpAny_seqItems (s := { s with heap := h' }) ht rfl (wpAny_pure ?_))
    dsimp only [Option.getD_some]
    refine wpAny_holding (wpAny_dictSet_pairs (knd := intKind prog w) (s := { s with heap := h' }) (k := ps[i].1) (by simp [intKind, Value.isInt]) hD' (fun h2 hD2 hs2 => ?_) (by rw [sizeLine_eq]; walk_at "o"))
    refine wpAny_pure ⟨plainId_quiet FB.plain_upd _, ?_⟩
    refine ih (i + 1) { s with heap := h2, toks := s.toks + 1 } _ (by walk_at "o") hlt (hit'.extBut hs2.extBut hDI.symm) ((hl.extBut hs.extBut hlI).extBut hs2.extBut hDl.symm) (fun p hp => (hs2.2 p.1 (hDf p hp)).trans (H' p hp)) hD2 (Nat.le_trans (stored_length_le _ _ _) (by walk_at "o")) ?_ fun h3 tk3 kvs3 hD3 hn3 ho3 hk3 => ?_
    · rw [List.take_succ_eq_append_getElem hlt, tabI_snoc]
      exact OI.upd ho _ _ _
    · exact hR h3 tk3 kvs3 hD3 hn3 ho3 fun b o hb hbD e => hk3 b o hb hbD ((hs2.2 b hbD).trans ((hs.2 b hb).trans e))
end
end Mine
end

section
open PySem PySem.W PyProof.Rows PySem.Calls PySem.SeqAt PySem.MeetsSeq
open Builtin
set_option maxRecDepth 100000
namespace Mine

section
variable {prog : Program} {w : World} {A : Around} {E : Value → Shared → Prop} {s : Shared}
theorem call_dict_pairs {fz : Led} {l : Addr} {vs : List Value} {n : Nat} {ps : List (Int × Int)} {Q : Value → Shared → Prop} (hh : A.handled = none) (hm : (l, listOf vs.toArray n) ∈ fz) (H : Held fz s.heap) (hall : DatAll fz vs (ps.map pairD)) (hz : ps.length ≤ 1000)
    (hQ : ∀ h' tk kvs, h'.DictOf (intKind prog w) s.heap.objs.size kvs → kvs.length ≤ ps.length → (∀ x, OI (valueAt kvs x) (tabI ps x)) → Kp s.heap h' → Q (.ref s.heap.objs.size) { s with heap := h', toks := tk }) :
    wpAny (model prog w) A (call (.type "dict") [.ref l]) Q E s := by
  have ho := H _ hm
  refine callType_codes (Q₁ := fun obj s₁ => obj = .ref s.heap.objs.size ∧ s₁ = { s with heap := s.heap.push { cls := .type "dict", data := .dict #[] } }) PySem.F.kt_called_dict (PySem.F.kt_typeCall_dict_1 _) PySem.F.entry_dict_init (kt_code_dict_new _ ⟨rfl, rfl⟩) ?_
  rintro obj s₁ ⟨rfl, rfl⟩
  have hnew : (s.heap.push { cls := .type "dict", data := .dict #[] }).DictOf (intKind prog w) s.heap.objs.size [] := Heap.DictOf.new s.heap
  refine ⟨hnew.typeIs, PySem.F.args_dict_init_2 _ _, ?_⟩
  unfold Builtin.«dict.__init__»
  refine wpAny_bind ?_
  unfold Builtin.Dict.selfAndRest
  refine wpAny_bind (wpAny_notOrdered_dict hnew.typeIs ?_)
  show wpAny _ _ (pure (s.heap.objs.size, [Value.ref l])) _ _ _
  refine wpAny_pure ?_
  show wpAny _ _ (Builtin.Dict.updateFrom "dict.__init__" s.heap.objs.size (.ref l) [] .none) _ _ _
  unfold Builtin.Dict.updateFrom
  have k1 : Kp s.heap (s.heap.push { cls := .type "dict", data := .dict #[] }) := Kp.push _ _
  refine wpAny_bind (wpAny_typeOf (T := "list") (s := { s with heap := s.heap.push { cls := .type "dict", data := .dict #[] } }) ⟨_, k1 _ _ ho, rfl⟩ ?_)
  rw [if_pos (by decide)]
  refine wpAny_bind (getKeys_list (s := { s with heap := s.heap.push { cls := .type "dict", data := .dict #[] } }) (k1 _ _ ho) hh fun h2 tk2 k2 => ?_)
  dsimp only [Option.isNone_none]
  rw [if_pos rfl]
  refine wpAny_bind (wpAny_rule ?_)
  have hl2 : h2.IsList l vs.toArray := ⟨_, k2 _ _ (k1 _ _ ho), rfl, n, rfl⟩
  refine wpAny_bind (wpAny_pyIter_list (s := { s with heap := h2, toks := tk2 }) hl2 ?_)
  have hlt : l < s.heap.objs.size := Heap.lt_size ho
  have hD2 : (h2.get? s.heap.objs.size).isSome = true := by rw [k2 _ _ (Heap.get?_push_size s.heap (o := { cls := .type "dict", data := .dict #[] }) rfl)]; rfl
  obtain ⟨oD, hoD⟩ := Option.isSome_iff_exists.mp hD2
  have hDlt : s.heap.objs.size < h2.objs.size := Heap.lt_size hoD
  have hlt2 : l < h2.objs.size := Heap.lt_size (k2 _ _ (k1 _ _ ho))
  have k3 : Kp h2 (h2.push { cls := .type "list_iterator", data := .fields #[.ref l, .int 0 0] }) := Kp.push _ _
  refine wpAny_pure ⟨plainId_quiet FB.plain_upd _, ?_⟩
  refine upd_loop (A := A.in1) (fz := fz) (l := l) (I := h2.objs.size) (D := s.heap.objs.size) (vs := vs) (ps := ps) (prog := prog) (w := w) hh (Nat.ne_of_lt hlt2) (Nat.ne_of_lt hDlt) (Nat.ne_of_gt hlt) (fun p hp => Nat.ne_of_lt (Heap.lt_size (H p hp))) (fun p hp => Nat.ne_of_lt (Heap.lt_size (k2 _ _ (k1 _ _ (H p hp))))) hall hz
    ps.length 0 { s with heap := h2.push { cls := .type "list_iterator", data := .fields #[.ref l, .int 0 0] }, toks := tk2 } [] (Nat.sub_zero _) (Nat.zero_le _) ⟨_, Heap.get?_push_size _ rfl, rfl, rfl⟩ (hl2.push _) (fun p hp => k3 _ _ (k2 _ _ (k1 _ _ (H p hp)))) ?_ (Nat.le_refl _) (fun x => trivial) fun h' tk kvs hD hn hoi hk => ?_
  · exact (hnew.extBut (b := h2.objs.size) (fun b o _ e => k2 b o e) (Nat.ne_of_lt hDlt)).push _
  · refine ⟨rfl, hQ h' tk kvs hD hn hoi fun b o e => hk b o (Nat.ne_of_lt (Nat.lt_trans (Heap.lt_size e) hDlt)) (Nat.ne_of_lt (Heap.lt_size e)) (k3 _ _ (k2 _ _ (k1 _ _ e)))⟩

theorem hint_bytes {b : Array UInt8} {t : Tok} {Q : Bool → Shared → Prop} (h : Q false s) : wpAny (model prog w) A (Builtin.List.listLengthHint (.bytes b t)) Q E s := by
  have hT : s.TypeIs (.bytes b t) "bytes" := typeIs_bytes _ _ _
  unfold Builtin.List.listLengthHint
  refine wpAny_bind (wpAny_specialOf hT PySem.W.FB.slot_bytes_len.lookup ?_)
  generalize hid : ("bytes.__len__" : String) = id0
  wp_delta
  rw [show splitId id0 = some ("bytes", "__len__") from by subst hid; decide +kernel]
  subst hid
  refine wpAny_bind (wpAny_isInstance (T := "bytes") (b := true) hT (by rw [isSubtype_type]; kernel_rfl) ?_)
  refine wpAny_ite_split (fun hab => absurd hab (by decide)) (fun _ => ?_)
  refine wpAny_ite_split (fun _ => ?_) (fun hab => absurd (by decide +kernel) hab)
  refine wpAny_bind (wpAny_typeOf hT ?_)
  exact wpAny_pure h
theorem call_list_bytes {b : Array UInt8} {t : Tok} {Q : Value → Shared → Prop} (hh : A.handled = none) (hn : b.size ≤ 1000000)
    (hQ : ∀ h' tk acc c, Kp s.heap h' → h'.get? s.heap.objs.size = some { cls := .type "list", dict := none, data := .seq acc c, slots := #[] } → ItemsOf (fun i v => ∃ c u, b[i]? = some c ∧ v = .int (c.toNat : Int) u) acc b.size → Q (.ref s.heap.objs.size) { s with heap := h', toks := tk }) :
    wpAny (model prog w) A (call (.type "list") [.bytes b t]) Q E s := by
  refine callType_codes (Q₁ := fun obj s₁ => obj = .ref s.heap.objs.size ∧ s₁ = { s with heap := s.heap.push { cls := .type "list", data := .seq #[] } }) PySem.F.called_list (PySem.F.typeCall_list_1 _) PySem.F.entry_list_init
    (code_list_new _ ⟨rfl, rfl⟩) fun obj s₁ h₁ => ?_
  obtain ⟨rfl, rfl⟩ := h₁
  have hS : (s.heap.push { cls := .type "list", data := .seq #[] }).get? s.heap.objs.size = some { cls := .type "list", data := .seq #[] } := Heap.get?_push_size _ rfl
  refine ⟨⟨_, hS, rfl⟩, PySem.F.args_list_init_2 _ _, ?_⟩
  show wpAny _ _ (do let old ← Builtin.List.listItems (.ref s.heap.objs.size); Builtin.List.listUpdate (.ref s.heap.objs.size) (fun _ => #[]); letGo old.toList.reverse; Builtin.List.listExtendWith (.ref s.heap.objs.size) (.bytes b t) .none) _ _ _
  refine wpAny_bind ?_
  unfold Builtin.List.listItems
  refine wpAny_bind (wpAny_seqItems (s := { s with heap := s.heap.push { cls := .type "list", data := .seq #[] } }) hS rfl (wpAny_pure ?_))
  show wpAny _ _ (updateSeq s.heap.objs.size (fun _ => #[]) >>= fun _ => letGo (#[] : Array Value).toList.reverse >>= fun _ => Builtin.List.listExtendWith (.ref s.heap.objs.size) (.bytes b t) .none) _ _ _
  refine wpAny_bind (wpAny_updateSeq (s := { s with heap := s.heap.push { cls := .type "list", data := .seq #[] } }) hS rfl ?_)
  have hS2 := Heap.get?_update_self (Obj.mapSeq (fun _ => (#[] : Array Value))) hS rfl
  generalize hh2 : (s.heap.push { cls := .type "list", data := .seq #[] }).update s.heap.objs.size (Obj.mapSeq (fun _ => (#[] : Array Value))) = h2 at hS2 ⊢
  have k2 : Kp s.heap h2 := fun b o e => by
    rw [← hh2]
    exact (Heap.get?_update_other _ _ (Ne.symm (Nat.ne_of_lt (Heap.lt_size e)))).trans (Heap.get?_push_of_some _ e)
  refine wpAny_bind (wpAny_letGo ?_)
  unfold Builtin.List.listExtendWith
  refine wpAny_bind (wpAny_typeOf (typeIs_bytes _ _ _) ?_)
  have h1 : Builtin.List.listSameRef (.ref s.heap.objs.size) (.bytes b t) = false := rfl
  have e1 : (Value.type "bytes" == Value.type "list") = false := by decide
  have e2 : (Value.type "bytes" == Value.type "tuple") = false := by decide
  simp only [h1, e1, e2, Bool.or_false, Bool.false_eq_true, if_false]
  refine wpAny_bind (PySem.W.KBw.pyIter_bytes (s := { s with heap := h2 }) ?_)
  refine wpAny_bind (wpAny_holding (hint_bytes ?_))
  have hlt : s.heap.objs.size < h2.objs.size := Heap.lt_size hS2
  refine wpAny_ite_split (fun hab => absurd hab (by decide +kernel)) (fun _ => ?_)
  refine wpAny_pure ⟨plainId_quiet PySem.F.plain_extend_loop _, ?_⟩
  have W := PySem.W.KBw.walks (prog := prog) (w := w) (A := A.in1.in1) hh h2.objs.size b t
  refine codeAny_extend_loopS W.toS (by rw [sizeLine_eq]; walk_at "o") s.heap.objs.size (by simp [Nat.ne_of_lt hlt]) .none b.size 0 { s with heap := h2.push { cls := .type "bytes_iterator", data := .fields #[.bytes b t, .int 0 0] } } #[] _ rfl (Nat.zero_le _) ⟨_, Heap.get?_push_size _ rfl, rfl, rfl⟩ (Heap.get?_push_of_some _ hS2) (ItemsOf.nil _) fun s' acc' c' hm hS' hacc => ?_
  rw [Moved.eq_with hm]
  refine ⟨rfl, hQ s'.heap s'.toks acc' c' (fun b o e => hm.heap b o (fun hmem => ?_) (Heap.get?_push_of_some _ (k2 _ _ e))) hS' hacc⟩
  rcases List.mem_cons.mp hmem with e' | hmem
  · exact absurd (Heap.lt_size e) (by rw [e']; exact Nat.lt_irrefl _)
  · have := List.mem_singleton.mp hmem
    exact absurd (Nat.lt_trans (Heap.lt_size e) hlt) (by rw [this]; exact Nat.lt_irrefl _)
end
end Mine
end

section
open PySem PySem.W PyProof.Rows PySem.Calls PySem.SeqAt PySem.MeetsSeq
open Builtin
set_option maxRecDepth 100000
namespace Mine

theorem di_dictI {fz : Led} {v : Value} {p : Program} {w : World} {n : Nat} {g : Int → Option Int} (h : DatIn fz v (.dictI p w n g)) : ∃ a o, v = .ref a ∧ (a, o) ∈ fz ∧ (a == sysModules) = false ∧ TabI p w o n g := by
  cases h with | dictI h l r => exact ⟨_, _, rfl, h, l, r⟩
theorem di_dictS {fz : Led} {v : Value} {p : Program} {w : World} {n : Nat} {g : Str → Option Str} (h : DatIn fz v (.dictS p w n g)) : ∃ a o, v = .ref a ∧ (a, o) ∈ fz ∧ (a == sysModules) = false ∧ TabS p w o n g := by
  cases h with | dictS h l r => exact ⟨_, _, rfl, h, l, r⟩
theorem RelE.low {S : St} {g : Gnd} {h : Heap} {fz₀ fz : Led} {σ : Sg} (R : RelE S g fz₀ σ fz h) : (h.objs.size == sysModules) = false :=
  beq_eq_false_iff_ne.mpr (Nat.ne_of_gt (modules_low R.gl.nolimit))

section
variable {S : St} {σ : Sg}
section
variable {Q : Dat → Prop}
theorem CE.newAt {h₀ : Gnd} {fz₀ fz : Led} {s : Shared} {K : Value → Shared → Prop} (c : CE S σ h₀ fz₀ fz s Q K) (R : RelE S h₀ fz₀ σ fz s.heap) {d : Dat} {o : Obj} {a : Addr} {h' : Heap} {tk : Nat} (k : Kp s.heap h') (hn : s.heap.get? a = none) (ho : h'.get? a = some o) (i : DatIn ((a, o) :: fz) (.ref a) d) (q : Q d) :
    K (.ref a) { s with heap := h', toks := tk } := by
  refine c d _ h' tk ((a, o) :: fz) q (fun _ h => List.mem_cons_of_mem _ h) ?_ i
  exact R.ext k [(a, o)] (by
    intro p hp
    rw [List.mem_singleton.mp hp]
    exact ⟨ho, hn⟩)
theorem get_size (h : Heap) : h.get? h.objs.size = none := by
  cases e : h.get? h.objs.size with
  | none => rfl
  | some o' => exact absurd (Heap.lt_size e) (Nat.lt_irrefl _)

theorem V_listb {b : Array UInt8} (hn : S.nh = true) (hz : b.size ≤ 1000000) (q : Q (.list (b.toList.map fun x => .int (x.toNat : Int)))) : WV S (fun vs => call (.type "list") vs) [.bytes b] Q := by
  intro σ h₀ fz₀ fz s vs R hv K E c
  obtain ⟨v, rfl, hv1⟩ := da_one hv
  obtain ⟨t, rfl⟩ := di_bytes hv1
  refine call_list_bytes (R.ok.hand hn) hz fun h' tk acc n k ho hi => ?_
  have ho' : h'.get? s.heap.objs.size = some (listOf acc.toList.toArray n) := by simpa using ho
  refine CE.newAt c R k (get_size _) ho' (.list (.head _) ?_) q
  have key : ∀ (l : List UInt8) (vs : List Value), vs.length = l.length → (∀ (i : Nat) (v : Value), vs[i]? = some v → ∃ (c : UInt8) (u : Tok), l[i]? = some c ∧ v = .int (c.toNat : Int) u) → ∀ fz, DatAll fz vs (l.map fun x => .int (x.toNat : Int)) := by
    intro l
    induction l with
    | nil => intro vs e _ fz; cases vs with
      | nil => exact .nil
      | cons _ _ => cases e
    | cons c l ih =>
      intro vs e h fz
      cases vs with
      | nil => cases e
      | cons v vs =>
        refine hidG fun zG zh => ?_
        obtain ⟨c', u, e1, rfl⟩ := h 0 v rfl
        refine zh ?_
        clear zh zG
        cases e1
        exact .cons (.int _ _) (ih vs (by simpa using e) (fun i v hv => h (i + 1) v hv) fz)
  refine key b.toList acc.toList (by simpa using hi.1) (fun i v hv => ?_) _
  refine hidG fun zG zh => ?_
  obtain ⟨c', u, e1, e2⟩ := hi.2 i v (by simpa using hv)
  refine zh ?_
  clear zh zG
  exact ⟨c', u, by simpa using e1, e2⟩

theorem V_dict {ps : List (Int × Int)} (hn : S.nh = true) (hz : ps.length ≤ 1000) (q : Q (.dictI S.G.prog S.G.w ps.length (tabI ps))) : WV S (fun vs => call (.type "dict") vs) [.list (ps.map pairD)] Q := by
  intro σ h₀ fz₀ fz s vs R hv K E c
  obtain ⟨v, rfl, hv1⟩ := da_one hv
  refine hidG fun zG zh => ?_
  obtain ⟨a, us, n, rfl, hm, hall⟩ := di_list hv1
  refine zh ?_
  clear zh zG
  refine call_dict_pairs (R.ok.hand hn) hm R.held hall hz fun h' tk kvs hD hk ho kp => ?_
  obtain ⟨o, ho1, hd⟩ := Heap.dictOf_iff.mp hD
  exact CE.newAt c R kp (get_size _) ho1 (.dictI (.head _) R.low ⟨kvs, hd, hk, ho⟩) q

theorem W2_in_dictI {k : Int} {p : Program} {w : World} {n : Nat} {g : Int → Option Int} (hp : p = S.G.prog) (hw : w = S.G.w) (q : Q (.bool (g k).isSome)) : W2 S (compareOp .In) (.int k) (.dictI p w n g) Q := by
  intro σ h₀ fz₀ fz s v u R hv hu K E c
  subst hp hw
  obtain ⟨t, rfl⟩ := di_int hv
  refine hidG fun zG zh => ?_
  obtain ⟨a, o, rfl, hm, hl, kvs, hd, hk, ho⟩ := di_dictI hu
  refine zh ?_
  clear zh zG
  have hD : s.heap.DictOf (intKind S.G.prog S.G.w) a kvs := Heap.dictOf_iff.mpr ⟨o, R.held _ hm, hd⟩
  refine wpAny_in_of (knd := intKind S.G.prog S.G.w) (k := k) (by simp [intKind, Value.isInt]) hl hD.mapOf ?_
  have e : (valueAt kvs k).isSome = (g k).isSome := by
    have := ho k
    cases h1 : valueAt kvs k <;> cases h2 : g k <;> rw [h1, h2] at this <;> first | rfl | exact this.elim
  rw [e]
  exact CE.imm c R (.bool _) q 0 _
theorem W2_sub_dictI {b i : Expr} {k r : Int} {p : Program} {w : World} {n : Nat} {g : Int → Option Int} (hp : p = S.G.prog) (hw : w = S.G.w) (hr : g k = some r) (q : Q (.int r))
    (hs : ∀ o u, subscripted i false o u = operate [o, u] (getItem o u) := by intro _ _; with_unfolding_all rfl) : W2 S (subscriptTail b i) (.dictI p w n g) (.int k) Q := by
  intro σ h₀ fz₀ fz s v u R hv hu K E c
  subst hp hw
  obtain ⟨t, rfl⟩ := di_int hu
  refine hidG fun zG zh => ?_
  obtain ⟨a, o, rfl, hm, hl, kvs, hd, hk, ho⟩ := di_dictI hv
  refine zh ?_
  clear zh zG
  have hD : s.heap.DictOf (intKind S.G.prog S.G.w) a kvs := Heap.dictOf_iff.mpr ⟨o, R.held _ hm, hd⟩
  have h1 := ho k
  rw [hr] at h1
  cases h2 : valueAt kvs k with
  | none => rw [h2] at h1; exact h1.elim
  | some x =>
    rw [h2] at h1
    obtain ⟨t2, rfl⟩ := h1
    exact tail_any hD.typeIs slot_dict_getitem.lookup (wpAny_getItem_of (knd := intKind S.G.prog S.G.w) (k := k) (by simp [intKind, Value.isInt]) hD.mapOf h2 (CE.imm c R (.int r) q _ _)) (hs _ _)
theorem V_getI {k d : Int} {p : Program} {w : World} {n : Nat} {g : Int → Option Int} (hp : p = S.G.prog) (hw : w = S.G.w) (q : Q (.int ((g k).getD d))) : WV S (fun vs => call (.builtin "dict.get") vs) [.dictI p w n g, .int k, .int d] Q := by
  intro σ h₀ fz₀ fz s vs R hv K E c
  subst hp hw
  refine hidG fun zG zh => ?_
  obtain ⟨v, r, rfl, hv1, hr⟩ := da_cons hv
  refine zh ?_
  clear zh zG
  refine hidG fun zG zh => ?_
  obtain ⟨u, x, rfl, hu, hx⟩ := da_two hr
  refine zh ?_
  clear zh zG
  refine hidG fun zG zh => ?_
  obtain ⟨a, o, rfl, hm, hl, kvs, hd, hk, ho⟩ := di_dictI hv1
  refine zh ?_
  clear zh zG
  obtain ⟨t, rfl⟩ := di_int hu
  obtain ⟨t', rfl⟩ := di_int hx
  have hD : s.heap.DictOf (intKind S.G.prog S.G.w) a kvs := Heap.dictOf_iff.mpr ⟨o, R.held _ hm, hd⟩
  refine wpAny_call_entry F.slot_dict_get hD.typeIs F.entry_dict_get ?_ (F.args_dict_get_3 _ _ _)
  show wpAny _ _ (dictGet a (.int k t) >>= _) _ _ s
  refine wpAny_bind (wpAny_dictGet_of (knd := intKind S.G.prog S.G.w) (k := k) (by simp [intKind, Value.isInt]) hD.mapOf ?_)
  have h1 := ho k
  cases h2 : valueAt kvs k with
  | some x =>
    rw [h2] at h1
    cases h3 : g k with
    | none => rw [h3] at h1; exact h1.elim
    | some y =>
      rw [h3] at h1 q
      obtain ⟨t2, rfl⟩ := h1
      exact wpAny_pure ⟨_, rfl, CE.imm c R (.int y) q _ _⟩
  | none =>
    rw [h2] at h1
    cases h3 : g k with
    | some y => rw [h3] at h1; exact h1.elim
    | none =>
      rw [h3] at q
      show wpAny _ _ (Builtin.Dict.missed a (.int k t) >>= _) _ _ _
      exact wpAny_bind (wpAny_missed_other hl (wpAny_pure ⟨_, rfl, CE.imm c R (.int d) q _ _⟩))
theorem V_getS {k d : Str} {p : Program} {w : World} {n : Nat} {g : Str → Option Str} (hp : p = S.G.prog) (hw : w = S.G.w) (q : Q (.str ((g k).getD d))) : WV S (fun vs => call (.builtin "dict.get") vs) [.dictS p w n g, .str k, .str d] Q := by
  intro σ h₀ fz₀ fz s vs R hv K E c
  subst hp hw
  refine hidG fun zG zh => ?_
  obtain ⟨v, r, rfl, hv1, hr⟩ := da_cons hv
  refine zh ?_
  clear zh zG
  refine hidG fun zG zh => ?_
  obtain ⟨u, x, rfl, hu, hx⟩ := da_two hr
  refine zh ?_
  clear zh zG
  refine hidG fun zG zh => ?_
  obtain ⟨a, o, rfl, hm, hl, kvs, hd, hk, ho⟩ := di_dictS hv1
  refine zh ?_
  clear zh zG
  obtain ⟨t, rfl⟩ := di_str hu
  obtain ⟨t', rfl⟩ := di_str hx
  have hD : s.heap.DictOf (PySem.strKind S.G.prog S.G.w) a kvs := Heap.dictOf_iff.mpr ⟨o, R.held _ hm, hd⟩
  refine wpAny_call_entry F.slot_dict_get hD.typeIs F.entry_dict_get ?_ (F.args_dict_get_3 _ _ _)
  show wpAny _ _ (dictGet a (.str k t) >>= _) _ _ s
  refine wpAny_bind (wpAny_dictGet_of (knd := PySem.strKind S.G.prog S.G.w) (k := k) (by simp [PySem.strKind, Value.isStrOf]) hD.mapOf ?_)
  have h1 := ho k
  cases h2 : valueAt kvs k with
  | some x =>
    rw [h2] at h1
    cases h3 : g k with
    | none => rw [h3] at h1; exact h1.elim
    | some y =>
      rw [h3] at h1 q
      obtain ⟨t2, rfl⟩ := h1
      exact wpAny_pure ⟨_, rfl, CE.imm c R (.str y) q _ _⟩
  | none =>
    rw [h2] at h1
    cases h3 : g k with
    | some y => rw [h3] at h1; exact h1.elim
    | none =>
      rw [h3] at q
      show wpAny _ _ (Builtin.Dict.missed a (.str k t) >>= _) _ _ _
      exact wpAny_bind (wpAny_missed_other hl (wpAny_pure ⟨_, rfl, CE.imm c R (.str d) q _ _⟩))

theorem WE_dict1 {i j : Int} {k1 k2 : Nat} {p1 p2 pos : Pos} (q : Q (.dictI S.G.prog S.G.w 1 (updI (fun _ => none) i j))) : WE S σ (.Dict [some (.Constant (.int i) k1 p1)] [.Constant (.int j) k2 p2] pos) Q := by
  intro h₀ fz₀ fz s R K E c
  refine wpAny_Dict_walk (knd := intKind S.G.prog S.G.w) rfl rfl (by simp) (by simp) ?_
  refine pairTrees_cons_walk (wpAny_Constant_int (wpAny_Constant_int (pairTrees_nil_walk ?_)))
  refine ⟨[(i, .int j _)], ⟨by simp [intKind, Value.isInt], rfl, trivial⟩, Heap.DictOf.new _, fun h' hD hs => ?_⟩
  obtain ⟨o, ho, hd⟩ := Heap.dictOf_iff.mp hD
  have kp : Kp s.heap h' := fun b o e => (hs.2 b (Nat.ne_of_lt (Heap.lt_size e))).trans (Heap.get?_push_of_some _ e)
  refine CE.newAt c R kp (get_size _) ho (.dictI (.head _) R.low ⟨_, hd, ?_, fun x => ?_⟩) q
  · exact Nat.le_refl 1
  · have := OI.upd (kvs := []) (g := fun _ => none) (fun _ => trivial) i j (s.toks + 1) x
    exact this
end
variable {Q : Out → Sg → Prop}
theorem WX_ownS {x : Str} {pos' dpos pos : Pos} (h : Q .next (σ.set x (.own (.dictS S.G.prog S.G.w 0 (fun _ => none))))) (hst : (Sg.drop σ x).still = true) (hx : isVar S.env x = true) (hf : S.fn = true)
    (hs : ∀ line env, swapsWith (.Dict [] [] dpos) (some (.Name x pos')) line env = pure false := by intro _ _; rfl) : WX S σ (.Assign [.Name x pos'] (.Dict [] [] dpos) pos) Q := by
  intro h₀ fz₀ fz s ⟨μ, oa, R⟩ K E c
  refine wpAny_Assign_Name (wpAny_Dict_empty ?_) (hs _ _)
  obtain ⟨R2, ha⟩ := push_cold (o := { cls := .type "dict", data := .dict #[] }) R rfl
  have hD : (s.heap.push { cls := .type "dict", data := .dict #[] }).DictOf (PySem.strKind S.G.prog S.G.w) s.heap.objs.size [] := Heap.DictOf.new _
  obtain ⟨o, ho, hd⟩ := Heap.dictOf_iff.mp hD
  have low : (s.heap.objs.size == sysModules) = false := RelE.low (g := ⟨h₀, μ, oa⟩) R
  exact store_own (ds := .dictS S.G.prog S.G.w 0 (fun _ => none)) (s := { s with heap := s.heap.push { cls := .type "dict", data := .dict #[] } }) R2 ha ho ⟨low, [], hd, Nat.le_refl _, fun _ => trivial⟩ hst hx hf fun h3 tk3 R3 => c .next _ .next h3 tk3 fz h (fun _ h => h) R3 trivial
theorem WX_setS {x : Str} {xp pos' pos : Pos} {i e : Expr} {n : Nat} {g : Str → Option Str} (hx : σ.get x = some (.own (.dictS S.G.prog S.G.w n g))) (h : WE S σ e fun d => WE S σ i fun k => ∃ k' d', k = .str k' ∧ d = .str d' ∧ Q .next (σ.set x (.own (.dictS S.G.prog S.G.w (n + 1) (updS g k' d'))))) (hn : n ≤ 1000)
    (hdb : (x == ("__debug__" : Str)) = false := by decide) (hs : ∀ line env, swapsWith e (some (.Subscript (.Name x xp) i pos')) line env = pure false := by intro _ _; rfl) : WX S σ (.Assign [.Subscript (.Name x xp) i pos'] e pos) Q := by
  intro h₀ fz₀ fz s ⟨μ, oa, R⟩ K E c
  refine wpAny_Assign_Subscript (h ⟨h₀, μ, oa⟩ fz₀ fz s R _ _ fun d v h1 tk1 fz1 q1 sub1 R1 hi1 => ?_) (hs _ _)
  refine hidG fun zG zh => ?_
  obtain ⟨a, o, e1, e2, e3, e4⟩ := R1.at.bds x _ hx
  refine zh ?_
  clear zh zG
  refine wpAny_Name (load_var R1.at hx e2 (q1 ⟨h₀, μ, oa⟩ fz₀ fz1 { s with heap := h1, toks := tk1 } R1 _ _ fun k u h2 tk2 fz2 q2 sub2 R2 hi2 => ?_)) hdb
  refine hidG fun zG zh => ?_
  obtain ⟨k', d', rfl, rfl, q⟩ := q2
  refine zh ?_
  clear zh zG
  obtain ⟨t, rfl⟩ := di_str hi1
  obtain ⟨t', rfl⟩ := di_str hi2
  refine hidG fun zG zh => ?_
  obtain ⟨a', o', e1', e2', e3', low, kvs, hd, hk, ho⟩ := R2.at.bds x _ hx
  refine zh ?_
  clear zh zG
  rw [e2] at e2'
  cases e2'
  have hD : h2.DictOf (PySem.strKind S.G.prog S.G.w) a kvs := Heap.dictOf_iff.mpr ⟨o', e3', hd⟩
  refine wpAny_setItem_pairs (knd := PySem.strKind S.G.prog S.G.w) (s := { s with heap := h2, toks := tk2 }) (k := k') (by simp [PySem.strKind, Value.isStrOf]) hD (fun h3 hD3 hs3 => ?_) (by rw [sizeLine_eq]; walk_at "o")
  obtain ⟨o3, ho3, hd3⟩ := Heap.dictOf_iff.mp hD3
  have R3 := RelAt.setOwn (ds := .dictS S.G.prog S.G.w (n + 1) (updS g k' d')) R2.at hx e1' e2 hs3.extBut ho3 ⟨low, _, hd3, Nat.le_trans (stored_length_le _ _ _) (by walk_at "o"), OS.upd ho k' d' t⟩
  exact c .next _ .next h3 (tk2 + 1) fz2 q (fun p hp => sub2 p (sub1 p hp)) ⟨_, _, R3⟩ trivial
end
end Mine
end

section
open PySem PySem.W PyProof.Rows PySem.Calls PySem.SeqAt PySem.MeetsSeq
open Builtin
set_option maxRecDepth 100000
namespace Mine

noncomputable def enumD (ds : List Dat) : List Dat := ds.zipIdx.map fun p => .tuple [.int (p.2 : Int), p.1]
theorem enumD_len (ds : List Dat) : (enumD ds).length = ds.length := by simp [enumD]
theorem enumD_get {ds : List Dat} {i : Nat} {d : Dat} (h : (enumD ds)[i]? = some d) : ∃ x, ds[i]? = some x ∧ d = .tuple [.int (i : Int), x] := by
  unfold enumD at h
  rw [List.getElem?_map, List.getElem?_zipIdx] at h
  cases e : ds[i]? with
  | none => rw [e] at h; cases h
  | some x => rw [e] at h; cases h; exact ⟨x, rfl, by simp⟩

section
variable {S : St} {σ : Sg}
theorem wk_enum {prog : Program} {w : World} {A : Around} {it e : Addr} {fp : List Addr} {n : Nat} {P : Nat → Value → Prop} {At : Nat → Heap → Prop} {fz₁ : Led} {ds : List Dat} {elts : List Expr} {x1 : Nat} {pos : Pos} (D : Draws prog w A.in1 it fp n P At) (hei : e ≠ it) (hef : e ∉ fp) (hif : it ∈ fp) (hn : n = ds.length)
    (hP : ∀ i v, i < n → P i v → ∃ d, ds[i]? = some d ∧ DatIn fz₁ v d) (hit : ∀ i h, At i h → (h.get? it).isSome = true) :
    Wk prog w A e [e, it] (e :: fp) fz₁ (enumD ds) (fun i h => (∃ old, IsEnum h e it i old) ∧ At i h) (.Tuple elts x1 pos) := by
  subst hn
  refine { sub := fun b hb => ?_, frame := fun i h h' hst hk => ?_, item := fun i d s K E hd ha hK => ?_, done := fun s Q E hst hQ => ?_, self := fun i s Q E hst hQ => ?_ }
  · rcases List.mem_cons.mp hb with rfl | hb
    · exact List.mem_cons_self ..
    · rw [List.mem_singleton.mp hb]; exact List.mem_cons_of_mem _ hif
  · obtain ⟨⟨old, he⟩, hs⟩ := hst
    exact ⟨⟨old, hk e (by simp) _ he⟩, D.frame _ _ _ hs fun b hb o x => hk b (List.mem_cons_of_mem _ hb) o x⟩
  · obtain ⟨⟨old, he⟩, hs⟩ := ha
    obtain ⟨x, hx, rfl⟩ := enumD_get hd
    have hi : i < ds.length := by
      rcases Nat.lt_or_ge i ds.length with h | h
      · exact h
      · rw [List.getElem?_eq_none h] at hx; cases hx
    refine wpAny_pyNext_enum_itemD D he hs hi hei hef fun v h' tk hp ho hs' hT hsz hk => ?_
    have helt : e < s.heap.objs.size := Heap.lt_size he
    have hilt : it < s.heap.objs.size := by obtain ⟨_, y⟩ := D.live _ _ hs; exact Heap.lt_size y
    refine wpAny_letOwnedTupleGo_enum (s := { s with heap := h', toks := tk + 1 }) ho fun h2 he2 hs2 => ?_
    obtain ⟨d', hd', hv⟩ := hP i v hi hp
    rw [hx] at hd'
    cases hd'
    have hT2 : h2.get? s.heap.objs.size = some { cls := .type "tuple", data := .seq #[.int i tk, v] } := (hs2.2 _ (Nat.ne_of_gt helt)).trans hT
    have at2 : At (i + 1) h2 := D.frame _ _ _ hs' fun b hb o y => (hs2.2 b fun q => hef (q ▸ hb)).trans y
    refine hK _ h2 (tk + 1) [(s.heap.objs.size, { cls := .type "tuple", data := .seq #[.int i tk, v] })] ⟨⟨v, by simpa using he2⟩, at2⟩ (fun b o hb y => ?_) (fun b hb => ?_) (fun p hp => ?_) ?_
    · exact (hs2.2 b fun e' => hb (by simp [e'])).trans (hk b o (fun e' => hb (by simp [e'])) (fun e' => hb (by simp [e'])) y)
    · rcases List.mem_cons.mp hb with rfl | hb
      · rw [he2]; rfl
      · rw [List.mem_singleton.mp hb]; exact hit _ _ at2
    · rw [List.mem_singleton.mp hp]
      exact ⟨hT2, get_size _⟩
    · exact .tuple (vs := [.int i tk, v]) (.head _) (.cons (.int _ _) (.cons (hv.mono fun p hp => .tail _ hp) .nil))
  · obtain ⟨⟨old, he⟩, hs⟩ := hst
    rw [enumD_len] at hs he
    exact wpAny_pyNext_enum_endD D he hs fun h' hx => hQ h' s.toks fun b o hb y => hx b o (fun e' => hb (by simp [e'])) y
  · obtain ⟨⟨old, he⟩, _⟩ := hst
    exact wpAny_pyIter_enum he hQ

theorem WI_enum {f : Str} {p pos : Pos} {e : Expr} {Q : List Dat → Prop} {elts : List Expr} {x1 : Nat} {tpos : Pos} (hk : S.env.kindOf f = some .globalImplicit) (hm : S.G.mg f = none) (hv : bootBuiltins f = some (.type "enumerate")) (hnh : S.nh = true)
    (h : WE S σ e fun d => (∃ ds, d = .list ds ∧ Q (enumD ds)) ∨ (∃ x : Str, d = .str x ∧ Q (enumD (x.cps.toList.map fun c => .str ⟨#[c]⟩)))) (hn : f ≠ "__name__" := by decide) (he : ∀ env, starEach [e] env = (false, eval e env) :: starEach [] env := by intro _; rfl)
    (hdb : (f == ("__debug__" : Str)) = false := by decide) : WI S σ (.Tuple elts x1 tpos) (.Call (.Name f p) [e] [] pos) Q := by
  intro h₀ fz₀ fz s R K E c
  refine Call_ (load_boot R hk hm hn hv ?_ hdb)
  rw [he]
  refine PySem.callWith_type rfl (evalArgs_plain (spliced_cons (h h₀ fz₀ fz s R _ _ fun d v h1 tk1 fz1 q sub R1 hi => spliced_nil ?_)))
  have hh := R1.ok.hand hnh
  have kp : ∀ {h' : Heap}, (∀ b o, h1.get? b = some o → h'.get? b = some o) → Kp h1 h' := fun k => k
  have fresh : ∀ b, h1.objs.size ≤ b → h1.get? b = none := fun b hb => Heap.get?_none_of_le hb
  rcases q with ⟨ds, rfl, q⟩ | ⟨x, rfl, q⟩
  · refine hidG fun zG zh => ?_
    obtain ⟨a, vs, n, rfl, hm1, hall⟩ := di_list hi
    refine zh ?_
    clear zh zG
    have hl := isList_of R1.held hm1
    have hlt : a < h1.objs.size := by obtain ⟨o, ho, _⟩ := id hl; exact Heap.lt_size ho
    refine call_enumerate_list (s := { s with heap := h1, toks := tk1 }) hl fun h2 he2 hit2 hsz2 k2 => ?_
    refine wpAny_pyIter_enum he2 ?_
    refine c _ _ h1 h2 tk1 fz1 [h1.objs.size + 1, h1.objs.size] ((h1.objs.size + 1) :: [h1.objs.size, a]) _ q sub R1 k2 (wk_enum (Draws.list (A := S.A.in1) hh h1.objs.size a (Nat.ne_of_lt hlt) vs.toArray) (Nat.succ_ne_self _) ?_ (by simp) (by rw [List.size_toArray, hall.length]) (fun i v _ hv => get_all hall hv) ?_) ⟨⟨_, he2⟩, hit2, hl.at fun o e => k2 a o e⟩ ?_ ?_
    · intro hm
      rcases List.mem_cons.mp hm with e | hm
      · exact Nat.succ_ne_self _ e
      · exact Nat.ne_of_gt (Nat.lt_succ_of_lt hlt) (List.mem_singleton.mp hm)
    · intro i h zq
      refine hidG fun zG zh => ?_
      obtain ⟨⟨o, ho, _⟩, _⟩ := zq
      refine zh ?_
      clear zh zG
      rw [ho]; rfl
    · intro b hb
      rcases List.mem_cons.mp hb with rfl | hb
      · exact ⟨fresh _ (Nat.le_succ _), by rw [he2]; rfl⟩
      · rw [List.mem_singleton.mp hb]
        obtain ⟨o, ho, _⟩ := hit2
        exact ⟨fresh _ (Nat.le_refl _), by rw [ho]; rfl⟩
    · intro b hb
      rcases List.mem_cons.mp hb with rfl | hb
      · exact .inl (.head _)
      · rcases List.mem_cons.mp hb with rfl | hb
        · exact .inl (.tail _ (.head _))
        · rw [List.mem_singleton.mp hb]; exact .inr ⟨_, hm1⟩
  · obtain ⟨t, rfl⟩ := di_str hi
    have hP : ∀ i v, i < x.cps.size → (∃ c u, x.cps[i]? = some c ∧ v = Value.str ⟨#[c]⟩ u) → ∃ d, (x.cps.toList.map fun c => Dat.str ⟨#[c]⟩)[i]? = some d ∧ DatIn fz1 v d := by
      intro i v _ zq
      refine hidG fun zG zh => ?_
      obtain ⟨y, u, hy, rfl⟩ := zq
      refine zh ?_
      clear zh zG
      exact ⟨.str ⟨#[y]⟩, by simp [hy], .str _ _⟩
    refine call_enumerate_str (s := { s with heap := h1, toks := tk1 }) fun h2 he2 hit2 hsz2 k2 => ?_
    refine wpAny_pyIter_enum he2 ?_
    have side1 : h1.objs.size + 1 ∉ [h1.objs.size] := fun hm => Nat.succ_ne_self _ (List.mem_singleton.mp hm)
    have fin : ∀ (T : String), h2.IsStrIter h1.objs.size T x t 0 → Draws S.G.prog S.G.w S.A.in1 h1.objs.size [h1.objs.size] x.cps.size (fun i v => ∃ c u, x.cps[i]? = some c ∧ v = Value.str ⟨#[c]⟩ u) (fun i h => h.IsStrIter h1.objs.size T x t i) → K (.ref (h1.objs.size + 1)) { s with heap := h2, toks := tk1 } := fun T hT D => by
      refine c _ _ h1 h2 tk1 fz1 [h1.objs.size + 1, h1.objs.size] ((h1.objs.size + 1) :: [h1.objs.size]) _ q sub R1 k2 (wk_enum D (Nat.succ_ne_self _) side1 (by simp) (by simp) hP ?_) ⟨⟨_, he2⟩, hT⟩ ?_ ?_
      · rintro i h ⟨o, ho, _⟩
        rw [ho]; rfl
      · intro b hb
        rcases List.mem_cons.mp hb with rfl | hb
        · exact ⟨fresh _ (Nat.le_succ _), by rw [he2]; rfl⟩
        · rw [List.mem_singleton.mp hb]
          obtain ⟨o, ho, _⟩ := hit2
          exact ⟨fresh _ (Nat.le_refl _), by rw [ho]; rfl⟩
      · intro b hb
        rcases List.mem_cons.mp hb with rfl | hb
        · exact .inl (.head _)
        · exact .inl (.tail _ hb)
    cases ha : x.cps.all (· < 128)
    · exact fin "str_iterator" (by simpa [strIterType, ha] using hit2) (Draws.strWide (A := S.A.in1) hh h1.objs.size x t)
    · exact fin "str_ascii_iterator" (by simpa [strIterType, ha] using hit2) (Draws.strAscii (A := S.A.in1) hh h1.objs.size x t)
end
end Mine
end

section
open PySem PySem.W PyProof.Rows PySem.Calls PySem.SeqAt PySem.MeetsSeq
set_option maxRecDepth 100000
namespace Mine
theorem Ext.nil {σ : Sg} : Ext [] σ := fun _ _ e => (nomatch e)
theorem Ext.cons {x : Str} {b : Bd} {r σ : Sg} (h : σ.get x = some b) (hr : Ext r σ) : Ext ((x, b) :: r) σ := fun y c e => by
  have e' : (match sEq x y with | true => some b | false => Sg.get r y) = some c := e
  cases q : sEq x y with
  | true => rw [q] at e'; rw [← sEq_iff.mp q]; cases e'; exact h
  | false => rw [q] at e'; exact hr y c e'
noncomputable def vr (x : String) (d : Dat) (r : Sg) : Sg := (Str.ofString x, Bd.val d) :: r
noncomputable def ow (x : String) (d : Dat) (r : Sg) : Sg := (Str.ofString x, Bd.own d) :: r
theorem ext_vr {x : String} {d : Dat} {r σ : Sg} (h : σ.get (Str.ofString x) = some (.val d)) (hr : Ext r σ) : Ext (vr x d r) σ := Ext.cons h hr
theorem ext_ow {x : String} {d : Dat} {r σ : Sg} (h : σ.get (Str.ofString x) = some (.own d)) (hr : Ext r σ) : Ext (ow x d r) σ := Ext.cons h hr
theorem WE_is {S : St} {σ : Sg} {e : Expr} {Q : Dat → Prop} (d : Dat) (h : WE S σ e (· = d)) (q : Q d) : WE S σ e Q := h.mono fun d' e => e ▸ q
section
variable {S : St} {σ : Sg} {Q : Out → Sg → Prop}
noncomputable def Wkn (Q : Out → Sg → Prop) (o : Out) (σ' : Sg) : Prop := ∃ σ₁, Ext σ₁ σ' ∧ Q o σ₁
theorem WS_weak {ss : List Stmt} (h : WS S σ ss (Wkn Q)) : WS S σ ss Q :=
  fun h₀ fz₀ fz s R K E c => h h₀ fz₀ fz s R K E fun o σ' f h' tk' fz' q sub R' ho => by obtain ⟨σ₁, e, q1⟩ := q; exact c o σ₁ f h' tk' fz' q1 sub (R'.weak e) ho
theorem WX_weak {st : Stmt} (h : WX S σ st (Wkn Q)) : WX S σ st Q :=
  fun h₀ fz₀ fz s R K E c => h h₀ fz₀ fz s R K E fun o σ' f h' tk' fz' q sub R' ho => by obtain ⟨σ₁, e, q1⟩ := q; exact c o σ₁ f h' tk' fz' q1 sub (R'.weak e) ho
theorem WS_pre {σ₁ : Sg} {ss : List Stmt} (e : Ext σ₁ σ) (h : WS S σ₁ ss Q) : WS S σ ss Q :=
  fun h₀ fz₀ fz s R K E c => h h₀ fz₀ fz s (R.weak e) K E c
theorem WX_pre {σ₁ : Sg} {st : Stmt} (e : Ext σ₁ σ) (h : WX S σ₁ st Q) : WX S σ st Q :=
  fun h₀ fz₀ fz s R K E c => h h₀ fz₀ fz s (R.weak e) K E c
theorem turn_weak {J : Sg → Prop} {ss : List Stmt} (h : WS S σ ss (Turn (fun σ' => ∃ σ₁, Ext σ₁ σ' ∧ J σ₁) Q)) : WS S σ ss (Turn J Q) :=
  WS_weak (h.mono fun o σ' q => by
    cases o with
    | next => obtain ⟨σ₁, e, j⟩ := q; exact ⟨σ₁, e, j⟩
    | cont => obtain ⟨σ₁, e, j⟩ := q; exact ⟨σ₁, e, j⟩
    | brk => exact ⟨σ', Ext.refl _, q⟩
    | ret d => exact ⟨σ', Ext.refl _, q⟩)
theorem WX_whileX {t : Expr} {body : List Stmt} {pos : Pos} (J : Nat → Sg → Prop) (n : Nat) (σ₁ : Sg) (he : Ext σ₁ σ) (h0 : J n σ₁)
    (ht : ∀ n σ', J n σ' → WT S σ' t fun c => (c = true → WS S σ' body (Turn (fun σ'' => ∃ σ₁, Ext σ₁ σ'' ∧ ∃ m, m < n ∧ J m σ₁) Q)) ∧ (c = false → Q .next σ')) : WX S σ (.While t body [] pos) Q := by
  refine WX_pre he (WX_while J n h0 fun n σ' hj => ?_)
  intro h₀ fz₀ fz s R K E c
  exact ht n σ' hj h₀ fz₀ fz s R K E fun b h' tk' fz' q => c b h' tk' fz' ⟨fun e => turn_weak (q.1 e), q.2⟩
theorem WX_forX {t iter : Expr} {body : List Stmt} {pos : Pos} (h : WI S σ t iter fun ds => ∃ (J : Nat → Sg → Prop) (σ₁ : Sg), Ext σ₁ σ ∧ J 0 σ₁ ∧
      (∀ i d σ', ds[i]? = some d → J i σ' → WG S σ' t d fun σ'' => WS S σ'' body (Turn (fun σ'' => ∃ σ₁, Ext σ₁ σ'' ∧ J (i + 1) σ₁) Q)) ∧ ∀ σ', J ds.length σ' → Q .next σ')
    (hs : ∀ env x, foldedSetIterable iter env x = pure x := by intro _ _; rfl) : WX S σ (.For t iter body [] pos) Q := by
  refine WX_weak (WX_for ?_ hs)
  intro h₀ fz₀ fz s R K E c
  refine h h₀ fz₀ fz s R K E fun ds I h₁ h' tk' fz₁ wr fp At q => c ds I h₁ h' tk' fz₁ wr fp At ?_
  refine hidG fun zG zh => ?_
  obtain ⟨J, σ₁, he, h0, ht, hq⟩ := q
  refine zh ?_
  clear zh zG
  refine ⟨fun i σ' => ∃ σ₁, Ext σ₁ σ' ∧ J i σ₁, ⟨σ₁, he, h0⟩, ?_, fun σ' ⟨σ₂, e, j⟩ => ⟨σ₂, e, hq σ₂ j⟩⟩
  rintro i d σ' hd ⟨σ₂, e2, j2⟩
  intro h₀ fz₀ fz s v R hi K E c
  refine ht i d σ₂ hd j2 h₀ fz₀ fz s v (R.weak e2) hi K E fun σ3 h' tk' q R' => c σ3 h' tk' (q.mono fun o σ4 q4 => ?_) R'
  cases o with
  | next => exact q4
  | cont => exact q4
  | brk => exact ⟨σ4, Ext.refl _, q4⟩
  | ret d => exact ⟨σ4, Ext.refl _, q4⟩
theorem tgHide {t : Expr} {d : Dat} {ss : List Stmt} {J : Sg → Prop} (h : ∀ (J' : Sg → Prop) (Q' : Out → Sg → Prop), (∀ σ, J σ → J' σ) → (∀ o σ, Q o σ → Q' o σ) → WG S σ t d fun σ' => WS S σ' ss (Turn J' Q')) : WG S σ t d fun σ' => WS S σ' ss (Turn J Q) :=
  h J Q (fun _ x => x) fun _ _ x => x
theorem tsHide {ss : List Stmt} {J : Sg → Prop} (h : ∀ (J' : Sg → Prop) (Q' : Out → Sg → Prop), (∀ σ, J σ → J' σ) → (∀ o σ, Q o σ → Q' o σ) → WS S σ ss (Turn J' Q')) : WS S σ ss (Turn J Q) :=
  h J Q (fun _ x => x) fun _ _ x => x
end
end Mine
end

section
open PySem PySem.W PyProof.Rows PySem.Calls
set_option maxRecDepth 10000
namespace Mine

structure SiteH (G : Gp) (k : Nat) (nh : Bool) (A : Around) (fz : Led) (h : Heap) (hot : List Addr) : Prop where
  gl : GlAt G (hideAll h hot)
  gz : ∀ p ∈ G.gfz, p ∈ fz
  held : Held fz h
  hk : HandOK A (hideAll h hot)
  depth : A.depth + k < recursionLimit
  units : A.units + 3 * k + 50 < cLine
  hand : nh = true → A.handled = none
  live : ∀ b ∈ hot, (h.get? b).isSome = true
  fzn : ∀ p ∈ fz, ∀ b ∈ hot, p.1 ≠ b
structure BackH (hot : List Addr) (h : Heap) (fz : Led) (h' : Heap) (fz' : Led) : Prop where
  keep : ∀ b o, b ∉ hot → h.get? b = some o → h'.get? b = some o
  live : ∀ b ∈ hot, (h'.get? b).isSome = true
  sub : ∀ p ∈ fz, p ∈ fz'
  held : Held fz' h'
  new : ∀ p ∈ fz', p ∈ fz ∨ h.get? p.1 = none

theorem enterH {G : Gp} {i k : Nat} {nh : Bool} {Q : Dat → Prop} (d : DefR) (hd : G.defs[i]? = some d) {vs : List Value} (P : Plain d vs.length) {tp : Option (Addr × Addr)} {tn : Nat} {hot : List Addr} {hotP : Heap → Prop} {σ : Sg} {f : Addr}
    (hf : G.mg d.name = some (.ref f)) {A : Around} {fz : Led} {s : Shared} (st : SiteH G (k + 1) nh A fz s.heap hot) (hp : hotP s.heap)
    (hotK : ∀ h h', hotP h → (∀ b ∈ hot, ∀ o, h.get? b = some o → h'.get? b = some o) → hotP h') (tapeK : ∀ ta tc, tp = some (ta, tc) → hot = [ta, tc] ∧ hotP = fun h => TapeAt h tn ta tc)
    (hσ : ∀ x b, σ.get x = some b → x ∈ d.params.args.map (·.arg) ∧ ((∃ e v, b = .val e ∧ lastB ((d.params.args.map (·.arg)).zip vs) none x = some v ∧ DatIn fz v e) ∨ (b = .tape ∧ ∃ ta tc, tp = some (ta, tc) ∧ lastB ((d.params.args.map (·.arg)).zip vs) none x = some (.ref ta))))
    (hb : ∀ L a code, WS (fnSt G d A L a code nh k tp tn hot hotP) σ d.body (Ret Q)) {K : Value → Shared → Prop} {E : Value → Shared → Prop}
    (c : ∀ d v h' tk' fz', Q d → BackH hot s.heap fz h' fz' → hotP h' → DatIn fz' v d → K v { s with heap := h', toks := tk' }) : wpAny (model G.prog G.w) A (call (.ref f) vs) K E s := by
  refine hidG fun zG zh => ?_
  obtain ⟨a, o, pm, code, doc, hm, ho, hdat, hcd⟩ := st.gl.fns i d hd
  refine zh ?_
  clear zh zG
  rw [hm] at hf
  cases hf
  have kg : Kp (hideAll s.heap hot) s.heap := fun b o e => of_hideAll _ e
  refine wpAny_call (call_cells_ret (by have := st.depth; walk_at "o") (kg _ _ ho) hdat (st.gl.nolimit.keeps kg) (hcd.keeps kg) (P.bind pm code doc vs rfl) (fun x hx => ?_) (fun h₁ tk F X => ?_) P.co P.gen P.kind)
  · have hx1 : x.1 ∈ d.params.args.map (·.arg) := (List.of_mem_zip (a := x.1) (b := x.2) hx).1
    have := List.all_eq_true.mp P.kinds _ hx1
    rcases Bool.or_eq_true_iff.mp this with q | q
    · exact .inl (by simpa using q)
    · have q' : d.scope.names.lookup x.1 = some .cell := by simpa using q
      exact .inr ⟨q', cellsFrom_some _ _ _ (.inl q')⟩
  · let S := fnSt G d A s.heap.objs.size f code nh k tp tn hot hotP
    let cs := cellsFrom (s.heap.objs.size + 1) d.scope.names []
    let binds := (d.params.args.map (·.arg)).zip vs
    let μ : Str → Option Value := fun x => lastB binds none x
    have hmix : ∀ x c, cs.lookup x = some c → d.scope.names.lookup x = some .cell := fun x c hc => by
      rcases cells_names (mem_of_lookup hc) with h | h
      · cases h
      · have := List.all_eq_true.mp P.mix _ h
        simpa using this
    have fresh : ∀ a, s.heap.objs.size ≤ a → s.heap.get? a = none := fun a ha => by
      cases e : s.heap.get? a with
      | none => rfl
      | some o' => exact absurd (Heap.lt_size e) (Nat.not_lt.mpr ha)
    have cabove : ∀ b ∈ cs.map (·.2), s.heap.objs.size < b := fun b hb => by
      obtain ⟨p, hp, rfl⟩ := List.mem_map.mp hb
      exact X.above p.1 p.2 hp
    have mnew : ∀ b ∈ S.muts, s.heap.get? b = none := fun b hb => by
      rcases List.mem_cons.mp hb with rfl | hb
      · exact fresh _ (Nat.le_refl _)
      · exact fresh _ (Nat.le_of_lt (cabove b hb))
    have R : Rel S (hideAll s.heap hot) fz σ fz h₁ := by
      refine ⟨μ, none, ?_⟩
      refine { ok := ?_, gl := st.gl, gz := st.gz, hk := st.hk, keep := fun b o e => F.keep _ _ (of_hideAll _ e), ns := ⟨_, F.ns, fun x hx => bindL_last _ hx _ _⟩, cells := fun x c hc => ?_, cin := fun x c hc => .inl (.tail _ (List.mem_map.mpr ⟨(x, c), mem_of_lookup hc, rfl⟩)), mutsNew := fun b hb => kg.none (mnew b hb), mutsIn := ?_, mutsFz := ?_, held := fun p hp => F.keep _ _ (st.held p hp), fzNew := fun p hp => .inl hp, fz0 := fun p hp => hp, dom := ?_, bds := ?_, oaOk := (fun a e => by cases e), uniq := ?_, tape := ?_ }
      · refine { kind := P.kind, glob := rfl, bt := rfl, hL := .head _, inter := ?_, depth := ?_, units := ?_, hand := st.hand, frame := fun _ => rfl, apart := fun _ x c y c' hc hc' e => ?_, localNot := fun x hx c hc => ?_, cellL := fun _ x c hc => ⟨?_, ?_⟩, hotK := hotK, tapeK := tapeK }
        · show (d.scope.kind == .module && _) = false
          rw [P.kind]; rfl
        · show A.depth + 1 + k < _; have := st.depth; walk_at "o"
        · show A.units + 3 + 3 * k + 50 < _; have := st.units; walk_at "o"
        · exact name_of_addr X.apart (mem_of_lookup hc) (e ▸ mem_of_lookup hc')
        · have e1 : d.scope.names.lookup x = some .local := hx
          rw [hmix x c hc] at e1; cases e1
        · exact Nat.ne_of_gt (X.above x c (mem_of_lookup hc))
        · exact .tail _ (List.mem_map.mpr ⟨(x, c), mem_of_lookup hc, rfl⟩)
      · have := X.cell x c hc
        have hk : (envOfC d.name d.scope s.heap.objs.size f code).kindOf x ≠ some .local := by
          show d.scope.names.lookup x ≠ _
          rw [hmix x c hc]; intro q; cases q
        rw [bindC_last _ hk] at this
        exact this
      · intro b hb
        rcases List.mem_cons.mp hb with rfl | hb
        · obtain ⟨o, _, _, ho, _⟩ := F.ns; rw [ho]; rfl
        · obtain ⟨p, hp, rfl⟩ := List.mem_map.mp hb
          have hnd : (cs.map (·.1)).Nodup := cellsFrom_names d.scope.names 0 (s.heap.objs.size + 1) [] [] rfl ▸ distinct_nodup P.nd
          obtain ⟨o, ho, _⟩ := X.cell p.1 p.2 (lookup_of_mem_nodup hnd hp)
          rw [ho]; rfl
      · intro p hp hm
        have := mnew _ hm
        rw [st.held p hp] at this; cases this
      · intro x b e
        obtain ⟨hx, _⟩ := hσ x b e
        have := List.all_eq_true.mp P.kinds _ hx
        unfold isVar
        show (match d.scope.names.lookup x with | some .local => true | some .cell => (cs.lookup x).isSome | _ => false) = true
        rcases Bool.or_eq_true_iff.mp this with q | q
        · have q' : d.scope.names.lookup x = some .local := by simpa using q
          rw [q']
        · have q' : d.scope.names.lookup x = some .cell := by simpa using q
          rw [q']
          exact cellsFrom_some _ _ _ (.inl q')
      · intro x b e
        obtain ⟨hx, ⟨e, v, rfl, e2, e3⟩ | ⟨rfl, ta, tc, e1, e2⟩⟩ := hσ x b e
        · exact ⟨v, e2, e3⟩
        · exact ⟨ta, tc, e1, e2⟩
      · intro x y dx dy e _
        obtain ⟨hx, ⟨e, v, q, _⟩ | ⟨q, _⟩⟩ := hσ x _ e <;> cases q
      · refine ⟨hotK _ _ hp fun b _ o e => F.keep _ _ e, fun b hb => ⟨fun hm => ?_, hideAll_none _ hb, ?_, fun p hp => st.fzn p hp b hb⟩⟩
        · have h1 := mnew b hm
          have h2 := st.live b hb
          rw [h1] at h2; cases h2
        · obtain ⟨o, ho⟩ := Option.isSome_iff_exists.mp (st.live b hb)
          rw [F.keep _ _ ho]; rfl
    refine hb s.heap.objs.size f code _ fz fz { s with heap := h₁, toks := tk } R _ _ fun o σ' fl h' tk' fz' q sub R' ho => ?_
    obtain ⟨μ', oa', R'⟩ := R'
    have B : BackH hot s.heap fz h' fz' := ⟨fun b o hb e => R'.keep _ _ (hideAll_get _ e hb), fun b hb => (R'.tape.each b hb).2.2.1, sub, R'.held, fun p hp => (R'.fzNew p hp).imp id fun e => by
      cases q : s.heap.get? p.1 with
      | none => rfl
      | some o =>
        have z : (hideAll s.heap hot).get? p.1 = some o := hideAll_get _ q (fun hm => (R'.tape.each _ hm).2.2.2 p hp rfl)
        rw [z] at e; cases e⟩
    have HP : hotP h' := R'.tape.p
    cases o with
    | ret d' => cases fl <;> first | (exact False.elim ho) | exact c d' _ h' tk' fz' q B HP ho
    | next => cases fl <;> first | (exact False.elim ho) | exact c .none _ h' tk' fz' q B HP .none
    | brk => exact q.elim
    | cont => exact q.elim

noncomputable def CallT (G : Gp) (f : Addr) (k : Nat) (nh : Bool) (ds : List Dat) (Q : Dat → Prop) : Prop :=
  ∀ (A : Around) (fz : Led) (s : Shared) (vs : List Value) (tn : Nat) (ta tc : Addr), SiteH G k nh A fz s.heap [ta, tc] → TapeAt s.heap tn ta tc → DatAll fz vs ds → ∀ (K : Value → Shared → Prop) (E : Value → Shared → Prop),
    (∀ d v h' tk' fz', Q d → BackH [ta, tc] s.heap fz h' fz' → TapeAt h' tn ta tc → DatIn fz' v d → K v { s with heap := h', toks := tk' }) → wpAny (model G.prog G.w) A (call (.ref f) (.ref ta :: vs)) K E s
noncomputable def SpT (G : Gp) (i k : Nat) (nh : Bool) (ds : List Dat) (Q : Dat → Prop) : Prop :=
  ∀ d f, G.defs[i]? = some d → G.mg d.name = some (.ref f) → CallT G f k nh ds Q
theorem SpT.mono {G : Gp} {i k : Nat} {nh : Bool} {ds : List Dat} {Q Q' : Dat → Prop} (h : SpT G i k nh ds Q) (hq : ∀ d, Q d → Q' d) : SpT G i k nh ds Q' :=
  fun d f e1 e2 A fz s vs tn ta tc st t hi K E c => h d f e1 e2 A fz s vs tn ta tc st t hi K E fun d v h' tk' fz' q => c d v h' tk' fz' (hq d q)
theorem tapeKeep {tn : Nat} {ta tc : Addr} (h h' : Heap) (t : TapeAt h tn ta tc) (k : ∀ b ∈ [ta, tc], ∀ o, h.get? b = some o → h'.get? b = some o) : TapeAt h' tn ta tc :=
  t.keeps (k ta (.head _)) (k tc (.tail _ (.head _)))
theorem enterT {G : Gp} {i k : Nat} {nh : Bool} {ds : List Dat} {Q : Dat → Prop} (d : DefR) (hd : G.defs[i]? = some d) (P : Plain d (ds.length + 1)) (x₀ : Str) (xs : List Str) (hx : d.params.args.map (·.arg) = x₀ :: xs)
    (hb : ∀ A L a code tn ta tc, WS (fnSt G d A L a code nh k (some (ta, tc)) tn [ta, tc] (fun h => TapeAt h tn ta tc)) ((x₀, .tape) :: σ₀ xs ds) d.body (Ret Q)) : SpT G i (k + 1) nh ds Q := by
  intro d' f hd' hf A fz s vs tn ta tc st t hi K E c
  rw [hd] at hd'
  cases Option.some.inj hd'
  have hl : vs.length = ds.length := hi.length
  have P' : Plain d (Value.ref ta :: vs).length := by rw [List.length_cons, hl]; exact P
  have hdist := P.dist
  have hlen := P.len
  rw [hx] at hdist hlen
  have hxl : xs.length = ds.length := by simpa using hlen
  have hd0 : x₀ ∉ xs := (List.nodup_cons.mp (distinct_nodup hdist)).1
  have hd1 : distinct xs = true := by
    unfold distinct at hdist
    exact (Bool.and_eq_true _ _ ▸ hdist).2
  refine enterH d hd P' hf st t tapeKeep (fun ta' tc' e => by cases e; exact ⟨rfl, rfl⟩) (fun x b e => ?_) (fun L a code => hb A L a code tn ta tc) c
  rw [hx]
  have e' : (match sEq x₀ x with | true => some Bd.tape | false => Sg.get (σ₀ xs ds) x) = some b := e
  cases q : sEq x₀ x with
  | true =>
    rw [q] at e'
    have := sEq_iff.mp q
    subst this
    cases Option.some.inj e'
    refine ⟨.head _, .inr ⟨rfl, ta, tc, rfl, ?_⟩⟩
    show lastB (xs.zip vs) (if x₀ = x₀ then some (.ref ta) else none) x₀ = _
    rw [if_pos rfl]
    refine lastB_not fun p hp => ?_
    rintro rfl
    obtain ⟨p1, p2⟩ := p
    exact hd0 (List.of_mem_zip hp).1
  | false =>
    rw [q] at e'
    refine hidG fun zG zh => ?_
    obtain ⟨hm, v', d', e1, e2, e3⟩ := σ₀_get (o := none) hd1 hxl hi e'
    refine zh ?_
    clear zh zG
    refine ⟨.tail _ hm, .inl ⟨d', v', e1, ?_, e3⟩⟩
    show lastB (xs.zip vs) (if x = x₀ then some (.ref ta) else none) x = some v'
    have : ¬ x = x₀ := fun e => by rw [e, sEq_iff.mpr rfl] at q; cases q
    rw [if_neg this]; exact e2

section
variable {S : St} {σ : Sg} {Q : Dat → Prop}
structure MayT (S : St) (i : Nat) (ds : List Dat) (Q : Dat → Prop) : Prop where
  it : ∃ k nh, SpT S.G i k nh ds Q ∧ k ≤ S.dp ∧ (nh = true → S.nh = true)
theorem MayT.mk2 {i k : Nat} {nh : Bool} {ds : List Dat} {Q Q' : Dat → Prop} (sp : SpT S.G i k nh ds Q') (q : ∀ d, Q' d → Q d) (hk : k ≤ S.dp) (hn : nh = true → S.nh = true) : MayT S i ds Q := ⟨k, nh, sp.mono q, hk, hn⟩

theorem RelE.siteH {g : Gnd} {h : Heap} {fz₀ fz : Led} (R : RelE S g fz₀ σ fz h) {k : Nat} {nh : Bool} (hk : k ≤ S.dp) (hn : nh = true → S.nh = true) : SiteH S.G k nh S.A fz h S.hot := by
  have r := R.at
  have ok := r.ok
  have kg : Kp g.h₀ (hideAll h S.hot) := fun b o e => hideAll_get _ (r.keep b o e) fun hm => by rw [(r.tape.each b hm).2.1] at e; cases e
  exact { gl := r.gl.keeps kg, gz := r.gz, held := r.held, hk := Kp.handOK r.hk kg, depth := by have := ok.depth; walk_at "o", units := by have := ok.units; walk_at "o", hand := fun e => ok.hand (hn e), live := fun b hb => (r.tape.each b hb).2.2.1, fzn := fun p hp b hb => (r.tape.each b hb).2.2.2 p hp }
theorem RelE.backH {g : Gnd} {h h' : Heap} {fz₀ fz fz' : Led} (R : RelE S g fz₀ σ fz h) (B : BackH S.hot h fz h' fz') (hp : S.hotP h') : RelE S g fz₀ σ fz' h' :=
  RelAt.backT R.at B.keep B.sub B.held B.new hp B.live

theorem WE_defT {f x : Str} {p xp pos : Pos} {es : List Expr} (hx : σ.get x = some .tape) (i : Nat) (d : DefR) (hd : S.G.defs[i]? = some d) (hn : d.name = f) (hk : S.env.kindOf f = some .globalImplicit)
    (h : WL S σ es fun ds => MayT S i ds Q) (he : ∀ env, starEach (.Name x xp :: es) env = (false, eval (.Name x xp) env) :: starEach es env := by intro _; rfl) (hdb : (f == ("__debug__" : Str)) = false := by decide)
    (hdx : (x == ("__debug__" : Str)) = false := by decide) : WE S σ (.Call (.Name f p) (.Name x xp :: es) [] pos) Q := by
  intro h₀ fz₀ fz s R K E c
  subst hn
  refine hidG fun zG zh => ?_
  obtain ⟨a, o, pm, code, doc, hm, ho, hdat, hcd⟩ := R.gl.fns i d hd
  refine zh ?_
  clear zh zG
  refine hidG fun zG zh => ?_
  obtain ⟨ta, tc, e1, e2⟩ := R.at.bds x _ hx
  refine zh ?_
  clear zh zG
  obtain ⟨eh, ep⟩ := R.at.ok.tapeK ta tc e1
  refine Call_ (load_glob R hk hm (callWith_def hdat (wpAny_items_cons (wpAny_Name (load_var R.at hx e2 ?_) hdx) (he S.env)) (he _)) hdb)
  refine h pos h₀ fz₀ fz s R _ _ fun ds vs h' tk' fz' q sub R' hi => ⟨?_, ?_⟩
  · refine hidG fun zG zh => ?_
    obtain ⟨a', o', pm', code', doc', hm', ho', hdat', hcd'⟩ := R'.gl.fns i d hd
    refine zh ?_
    clear zh zG
    rw [hm] at hm'
    cases hm'
    have r := R.at
    have r' := R'.at
    refine hidG fun zG zh => ?_
    obtain ⟨a3, o3, _, _, _, hm3, ho3, _⟩ := r.gl.fns i d hd
    refine zh ?_
    clear zh zG
    rw [hm] at hm3; cases hm3
    have e1 := r.keep _ _ ho3
    rw [ho] at e1; cases e1
    exact r'.keep _ _ ho3
  · refine hidG fun zG zh => ?_
    obtain ⟨k, nh, sp, hk', hn'⟩ := q.it
    refine zh ?_
    clear zh zG
    have t : TapeAt h' S.tn ta tc := by have := R'.at.tape.p; rw [ep] at this; exact this
    have st := R'.siteH hk' hn'
    rw [eh] at st
    refine sp d a hd hm S.A fz' { s with heap := h', toks := tk' } vs S.tn ta tc st t hi _ _ fun d v h'' tk'' fz'' q' B t' hi' => ?_
    have B' : BackH S.hot h' fz' h'' fz'' := by rw [eh]; exact B
    exact c d v h'' tk'' fz'' q' (fun p hp => B.sub p (sub p hp)) (R'.backH B' (by rw [ep]; exact t')) hi'
end
end Mine
end

section
open PySem PySem.W PyProof.Rows PySem.Calls PySem.SeqAt PySem.MeetsSeq
set_option maxRecDepth 100000
namespace Mine

noncomputable def noDefR : DefR := ⟨"", { posonlyargs := [], args := [], vararg := none, kwonlyargs := [], kw_defaults := [], kwarg := none, defaults := [] }, [], { kind := .function, names := [], isGenerator := false, isCoroutine := false, more := [] }⟩
noncomputable def toR : Stmt → DefR
  | .FunctionDef name args body _ _ _ scope _ _ _ => ⟨name, args, body, scope⟩
  | _ => noDefR
noncomputable def defAt (k : Nat) : DefR := toR (PySem.Challenge.pw_pq0939_01.main.body.getD k (.Pass ⟨0, 0, 0, 0⟩))
noncomputable def defNos : List Nat := [3, 4, 5, 10, 11, 18, 19, 20, 21, 22, 23, 24, 25, 26, 31, 32, 33, 34, 40, 41, 42, 43, 44, 45, 46, 47, 48, 53, 54, 55, 56, 57, 58, 59, 60, 61, 62]
noncomputable def myDefs : List DefR := defNos.map defAt

noncomputable abbrev sD (x : String) : Dat := .str x
structure GOK (G : Gp) : Prop where
  defs : G.defs = myDefs
  prog : G.prog = PySem.Challenge.pw_pq0939_01
  bLen : G.mg "len" = none
  bRange : G.mg "range" = none
  bChr : G.mg "chr" = none
  bOrd : G.mg "ord" = none
  bBytes : G.mg "bytes" = none
  bList : G.mg "list" = none
  bDict : G.mg "dict" = none
  bMin : G.mg "min" = none
  bMax : G.mg "max" = none
  bAbs : G.mg "abs" = none
  bInt : G.mg "int" = none
  bEnum : G.mg "enumerate" = none
  kPad : ∃ v, G.mg "PAD" = some v ∧ DatIn G.gfz v (.int 61)
  kEquals : ∃ v, G.mg "EQUALS" = some v ∧ DatIn G.gfz v (.int 61)
  kBlank : ∃ v, G.mg "BLANK" = some v ∧ DatIn G.gfz v (.int 32)
  kUnder : ∃ v, G.mg "UNDERLINE" = some v ∧ DatIn G.gfz v (.int 95)
  kOpen : ∃ v, G.mg "OPENING" = some v ∧ DatIn G.gfz v (.int 40)
  kClose : ∃ v, G.mg "CLOSING" = some v ∧ DatIn G.gfz v (.int 41)
  kAscii : ∃ v, G.mg "ASCII" = some v ∧ DatIn G.gfz v (sD "us-ascii")
  kLatin : ∃ v, G.mg "LATIN" = some v ∧ DatIn G.gfz v (sD "iso-8859-1")
  kUtf : ∃ v, G.mg "UTF8" = some v ∧ DatIn G.gfz v (sD "utf-8")
  kUnknown : ∃ v, G.mg "UNKNOWN_SIGN" = some v ∧ DatIn G.gfz v (.str ⟨#[65533]⟩)
  kFigures : ∃ v, G.mg "_law_figures" = some v ∧ DatIn G.gfz v (sD "0123456789abcdef")
  kSixty : ∃ v, G.mg "_law_sixty" = some v ∧ DatIn G.gfz v (sD "ABCDEFGHIJKLMNOPQRSTUVWXYZabcdefghijklmnopqrstuvwxyz0123456789+/")
  kSigns : ∃ v, G.mg "SIGNS" = some v ∧ DatIn G.gfz v (.bytes ("ABCDEFGHIJKLMNOPQRSTUVWXYZabcdefghijklmnopqrstuvwxyz0123456789+/".toList.map fun c => c.toNat.toUInt8).toArray)
  kCharsets : ∃ v, G.mg "CHARSETS" = some v ∧ DatIn G.gfz v (.tuple [sD "us-ascii", sD "iso-8859-1", sD "utf-8"])
  kWhite : ∃ v, G.mg "WHITE" = some v ∧ DatIn G.gfz v (.tuple [.int 9, .int 10, .int 13, .int 32])
  kWays : ∃ v, G.mg "WAYS" = some v ∧ DatIn G.gfz v (.tuple [sD "Q", sD "B"])
  kNames : ∃ v, G.mg "_law_names" = some v ∧ DatIn G.gfz v (.tuple [.tuple [sD "us-ascii ascii ansi_x3.4-1968 iso_646.irv:1991 iso-ir-6 iso646-us us cp367 ibm367", sD "us-ascii"],
    .tuple [sD "iso-8859-1 iso_8859-1 iso_8859-1:1987 iso-ir-100 latin1 l1 cp819 ibm819", sD "iso-8859-1"], .tuple [sD "utf-8 utf8", sD "utf-8"]])
end Mine
end

section
open PySem PySem.W PyProof.Rows PySem.Calls PySem.SeqAt PySem.MeetsSeq
set_option maxRecDepth 100000
namespace Mine
noncomputable def bS (k : Bool) : Stmt → List Stmt
  | .If _ b e _ => cond k b e
  | .For _ _ b _ _ => b
  | .While _ b _ _ => b
  | _ => []
theorem yes {A B : Prop} (h : A) : (true = true → A) ∧ (true = false → B) := ⟨fun _ => h, fun e => (nomatch e)⟩
theorem no {A B : Prop} (h : B) : (false = true → A) ∧ (false = false → B) := ⟨fun e => (nomatch e), fun _ => h⟩
theorem yes' {A B : Prop} (h : B) : (true = false → A) ∧ (true = true → B) := ⟨fun e => (nomatch e), fun _ => h⟩
theorem no' {A B : Prop} (h : A) : (false = false → A) ∧ (false = true → B) := ⟨fun _ => h, fun e => (nomatch e)⟩
theorem dec {p : Prop} [Decidable p] {A B : Prop} (h1 : p → A) (h2 : ¬p → B) : (decide p = true → A) ∧ (decide p = false → B) := ⟨fun e => h1 (of_decide_eq_true e), fun e => h2 (of_decide_eq_false e)⟩
theorem dec' {p : Prop} [Decidable p] {A B : Prop} (h1 : p → B) (h2 : ¬p → A) : (decide p = false → A) ∧ (decide p = true → B) := ⟨fun e => h2 (of_decide_eq_false e), fun e => h1 (of_decide_eq_true e)⟩
theorem ieq {a b : Int} {A B : Prop} (h1 : a = b → A) (h2 : a ≠ b → B) : ((a == b) = true → A) ∧ ((a == b) = false → B) := ⟨fun e => h1 (by simpa using e), fun e => h2 (by simpa using e)⟩
theorem ieq' {a b : Int} {A B : Prop} (h1 : a = b → B) (h2 : a ≠ b → A) : ((a == b) = false → A) ∧ ((a == b) = true → B) := ⟨fun e => h2 (by simpa using e), fun e => h1 (by simpa using e)⟩
theorem ine' {a b : Int} {A B : Prop} (h1 : a ≠ b → B) (h2 : a = b → A) : ((a != b) = false → A) ∧ ((a != b) = true → B) := ⟨fun e => h2 (by simpa using e), fun e => h1 (by simpa using e)⟩
theorem then_next {S : St} {rest : List Stmt} {Q : Out → Sg → Prop} {σ : Sg} (h : WS S σ rest Q) : Then S rest Q .next σ := h
theorem then_ret {S : St} {rest : List Stmt} {Q : Out → Sg → Prop} {σ : Sg} {d : Dat} (h : Q (.ret d) σ) : Then S rest Q (.ret d) σ := h
theorem then_brk {S : St} {rest : List Stmt} {Q : Out → Sg → Prop} {σ : Sg} (h : Q .brk σ) : Then S rest Q .brk σ := h
theorem ret_ret {Q : Dat → Prop} {d : Dat} {σ : Sg} (h : Q d) : Ret Q (.ret d) σ := h
theorem ret_next {Q : Dat → Prop} {σ : Sg} (h : Q .none) : Ret Q .next σ := h
theorem turn_next {J : Sg → Prop} {Q : Out → Sg → Prop} {σ : Sg} (h : J σ) : Turn J Q .next σ := h
theorem turn_brk {J : Sg → Prop} {Q : Out → Sg → Prop} {σ : Sg} (h : Q .next σ) : Turn J Q .brk σ := h
theorem turn_ret {J : Sg → Prop} {Q : Out → Sg → Prop} {σ : Sg} {d : Dat} (h : Q (.ret d) σ) : Turn J Q (.ret d) σ := h
theorem wp_some {S : St} {σ : Sg} {e : Expr} {Q : Option Int → Prop} (h : WE S σ e fun d => ∃ i, d = .int i ∧ Q (some i)) : WPart S σ (some e) Q := h
theorem wp_none {S : St} {σ : Sg} {Q : Option Int → Prop} (h : Q none) : WPart S σ none Q := h
theorem ex_int {a : Int} {Q : Int → Prop} (q : Q a) : ∃ i, Dat.int a = .int i ∧ Q i := ⟨a, rfl, q⟩
theorem slice_b {l : List UInt8} {lo hi : Option Int} {Q : Dat → Prop} (hl : l.length ≤ 1000000) (q : Q (.bytes (pick l lo hi).toArray)) : SliceOK (.bytes l.toArray) lo hi Q := ⟨by simpa using hl, q⟩
theorem slice_l {l : List Dat} {lo hi : Option Int} {Q : Dat → Prop} (hl : l.length ≤ 1000000) (q : Q (.list (pick l lo hi))) : SliceOK (.list l) lo hi Q := ⟨hl, q⟩
theorem W2_nebL {S : St} {Q : Dat → Prop} {a b : List UInt8} (q : Q (.bool (decide (a ≠ b)))) : W2 S (compareOp .NotEq) (.bytes a.toArray) (.bytes b.toArray) Q := by
  refine W2_neb ?_
  have e : (a.toArray.toList != b.toArray.toList) = decide (a ≠ b) := by rw [Bool.eq_iff_iff]; simp
  rw [e]; exact q
theorem W2_eqsL {S : St} {Q : Dat → Prop} {a b : Str} (q : Q (.bool (decide (a = b)))) : W2 S (compareOp .Eq) (.str a) (.str b) Q := by
  refine W2_eqs ?_
  have e : (a == b) = decide (a = b) := by rw [Bool.eq_iff_iff]; simp
  rw [e]; exact q
end Mine
end

section
open PySem PySem.W PyProof.Rows PySem.Calls PySem.SeqAt PySem.MeetsSeq
set_option maxRecDepth 10000
namespace Mine
theorem ints_len {vs : List Value} {cs : List Int} (h : IntsAre vs cs) : vs.length = cs.length := by
  induction h with
  | nil => rfl
  | cons n t _ ih => exact congrArg (· + 1) ih
theorem ints_get {vs : List Value} {cs : List Int} (h : IntsAre vs cs) : ∀ {i : Nat} (hi : i < cs.length), ∃ t, vs[i]? = some (.int cs[i] t) := by
  induction h with
  | nil => intro i hi; exact absurd hi (Nat.not_lt_zero _)
  | cons n t _ ih =>
    intro i hi
    cases i with
    | zero => exact ⟨t, rfl⟩
    | succ i => exact ih (Nat.lt_of_succ_lt_succ hi)
theorem ints_set {vs : List Value} {cs : List Int} (h : IntsAre vs cs) : ∀ (i : Nat) (c : Int) (t : Tok), IntsAre (vs.set i (.int c t)) (cs.set i c) := by
  induction h with
  | nil => intro i c t; exact .nil
  | cons n t _ ih =>
    intro i c t'
    cases i with
    | zero => exact .cons c t' (by assumption)
    | succ i => exact .cons n t (ih i c t')
section
variable {S : St} {σ : Sg} {Q : Dat → Prop}

theorem RelE.turn {g : Gnd} {h h' : Heap} {fz₀ fz : Led} {a : Addr} (R : RelE S g fz₀ σ fz h) (ha : a ∈ S.hot) (hs : Heap.ExtBut a h h') (hin : (h'.get? a).isSome = true) (hp : S.hotP h') : RelE S g fz₀ σ fz h' := by
  refine R.backH ⟨fun b o hb e => hs b o (fun q => hb (q ▸ ha)) e, fun b hb => ?_, fun p hp => hp, fun p hp => hs _ _ (fun q => (R.at.tape.each a ha).2.2.2 p hp q) (R.held p hp), fun p hp => .inl hp⟩ hp
  by_cases q : b = a
  · rw [q]; exact hin
  · obtain ⟨o, ho⟩ := Option.isSome_iff_exists.mp (R.at.tape.each b hb).2.2.1
    rw [hs b o q ho]; rfl

theorem tape_of {g : Gnd} {h : Heap} {fz₀ fz : Led} {x : Str} (R : RelE S g fz₀ σ fz h) (hx : σ.get x = some .tape) : ∃ ta tc, S.tp = some (ta, tc) ∧ g.μ x = some (.ref ta) ∧ TapeAt h S.tn ta tc ∧ S.hot = [ta, tc] ∧ S.hotP = fun h => TapeAt h S.tn ta tc := by
  refine hidG fun zG zh => ?_
  obtain ⟨ta, tc, e1, e2⟩ := R.at.bds x _ hx
  refine zh ?_
  clear zh zG
  obtain ⟨e3, e4⟩ := R.at.ok.tapeK ta tc e1
  have := R.at.tape.p
  rw [e4] at this
  exact ⟨ta, tc, e1, e2, this, e3, e4⟩
theorem cells_of {g : Gnd} {h : Heap} {fz₀ fz : Led} {x : Str} (R : RelE S g fz₀ σ fz h) (hx : σ.get x = some .cells) : ∃ ta tc, S.tp = some (ta, tc) ∧ g.μ x = some (.ref tc) ∧ TapeAt h S.tn ta tc ∧ S.hot = [ta, tc] ∧ S.hotP = fun h => TapeAt h S.tn ta tc := by
  refine hidG fun zG zh => ?_
  obtain ⟨ta, tc, e1, e2⟩ := R.at.bds x _ hx
  refine zh ?_
  clear zh zG
  obtain ⟨e3, e4⟩ := R.at.ok.tapeK ta tc e1
  have := R.at.tape.p
  rw [e4] at this
  exact ⟨ta, tc, e1, e2, this, e3, e4⟩

theorem WE_tape_sub {x : Str} {xp cp pos : Pos} {k : Nat} {i : Int} (hx : σ.get x = some .tape) (hi : i = 1 ∨ i = 2) (q : ∀ c : Int, 0 ≤ c → Q (.int c))
    (hdb : (x == ("__debug__" : Str)) = false := by decide) : WE S σ (.Subscript (.Name x xp) (.Constant (.int i) k cp) pos) Q := by
  intro h₀ fz₀ fz s R K E c
  refine hidG fun zG zh => ?_
  obtain ⟨ta, tc, e1, e2, t, e3, e4⟩ := tape_of R hx
  refine zh ?_
  clear zh zG
  refine hidG fun zG zh => ?_
  obtain ⟨ne, turn, seed, t₁, t₂, vs, cs, hl, hl2, hI, hn, hn', p1, p2, hc⟩ := t
  refine zh ?_
  clear zh zG
  refine Subscript_ (wpAny_Name (load_var R.at hx e2 (wpAny_Constant_int ?_)) hdb)
  refine tail_any hl.typeIs slot_list_getitem.lookup ?_ (by with_unfolding_all rfl)
  rcases hi with rfl | rfl
  · exact wpAny_getItem_list (s := { s with toks := s.toks + 1 }) hl (by decide) (by decide) (x := .int turn t₁) rfl (c (.int turn) _ s.heap (s.toks + 1) fz (q _ p1) (fun _ h => h) R (.int _ _))
  · exact wpAny_getItem_list (s := { s with toks := s.toks + 1 }) hl (by decide) (by decide) (x := .int seed t₂) rfl (c (.int seed) _ s.heap (s.toks + 1) fz (q _ p2) (fun _ h => h) R (.int _ _))
theorem WE_len_cells {f x : Str} {p xp pos : Pos} (hx : σ.get x = some .cells) (q : Q (.int S.tn)) (hk : S.env.kindOf f = some .globalImplicit) (hm : S.G.mg f = none) (hv : bootBuiltins f = some (.builtin "len")) (hn : f ≠ "__name__" := by decide)
    (hdb : (x == ("__debug__" : Str)) = false := by decide) (hdf : (f == ("__debug__" : Str)) = false := by decide) : WE S σ (.Call (.Name f p) [.Name x xp] [] pos) Q := by
  intro h₀ fz₀ fz s R K E c
  refine hidG fun zG zh => ?_
  obtain ⟨ta, tc, e1, e2, t, e3, e4⟩ := cells_of R hx
  refine zh ?_
  clear zh zG
  refine hidG fun zG zh => ?_
  obtain ⟨ne, turn, seed, t₁, t₂, vs, cs, hl, hl2, hI, hcn, hn', p1, p2, hc⟩ := t
  refine zh ?_
  clear zh zG
  refine Call_ (load_boot R hk hm hn hv (callWith_builtin1 (wpAny_items_cons (wpAny_Name (load_var R.at hx e2 (wpAny_items_nil ?_)) hdb) rfl) rfl rfl) hdf)
  have hlen : vs.length = S.tn := by rw [← hcn]; exact ints_len hI
  have := PyProof.Rows.len_list (prog := S.G.prog) (w := S.G.w) (A := S.A) (s := s) (E := E) (Q := K) hl2 (by rw [List.size_toArray, hlen]; { omega })
  refine this ?_
  rw [List.size_toArray, hlen]
  exact c (.int S.tn) _ s.heap _ fz q (fun _ h => h) R (.int _ _)
theorem WT_cells {x : Str} {xp lp pos : Pos} {Q : Bool → Prop} (hx : σ.get x = some .cells) (q : Q (decide (S.tn ≠ 0)))
    (hdb : (x == ("__debug__" : Str)) = false := by decide) : WT S σ (.Compare (.Name x xp) [.NotEq] [.List [] lp] pos) Q := by
  intro h₀ fz₀ fz s R K E c
  refine hidG fun zG zh => ?_
  obtain ⟨ta, tc, e1, e2, t, e3, e4⟩ := cells_of R hx
  refine zh ?_
  clear zh zG
  refine wpAny_isTrue_Compare1 (wpAny_Name (load_var R.at hx e2 ?_) hdb) (by with_unfolding_all rfl)
  have ev : WE S σ (.List [] lp) (· = .list []) := WE_list (WL_nil ⟨by simp, rfl⟩)
  refine ev h₀ fz₀ fz s R _ _ fun d v h' tk' fz' qd sub R' hi => ?_
  subst qd
  refine hidG fun zG zh => ?_
  obtain ⟨a, ws, n, rfl, hm, hall⟩ := di_list hi
  refine zh ?_
  clear zh zG
  have hws := da_nil hall
  subst hws
  refine hidG fun zG zh => ?_
  obtain ⟨ta', tc', e1', e2', t', e3', e4'⟩ := cells_of R' hx
  refine zh ?_
  clear zh zG
  rw [e1] at e1'
  cases e1'
  refine hidG fun zG zh => ?_
  obtain ⟨ne, turn, seed, t₁, t₂, vs, cs, hl, hl2, hI, hcn, hn', p1, p2, hc⟩ := t'
  refine zh ?_
  clear zh zG
  have hlen : vs.length = S.tn := by rw [← hcn]; exact ints_len hI
  have hu : S.A.units < cLine := by have := R.ok.units; walk_at "o"
  have hl0 : h'.IsList a #[] := isList_of R'.held hm
  by_cases h0 : S.tn = 0
  · have hvs : vs = [] := List.length_eq_zero_iff.mp (hlen.trans h0)
    subst hvs
    have := RcNeAt.lists (A := S.A) (s := { s with heap := h', toks := tk' }) (e := fun _ => true) hl2 hl0 rfl hu (fun j h1 => by simp at h1)
    refine this _ _ _ _ (wpAny_truthy_bool ?_)
    have e : decide (S.tn ≠ 0) = false := by simp [h0]
    rw [e] at q
    exact c false h' tk' fz' q sub R'
  · have := RcNeAt.lists_lengths (A := S.A) (s := { s with heap := h', toks := tk' }) hl2 hl0 (by simp; intro e; rw [e] at hlen; simp at hlen; walk_at "o") hu
    refine this _ _ _ _ (wpAny_truthy_bool ?_)
    have e : decide (S.tn ≠ 0) = true := by simp [h0]
    rw [e] at q
    exact c true h' tk' fz' q sub R'
theorem WE_cells_sub {x : Str} {xp pos : Pos} {i : Expr} (hx : σ.get x = some .cells) (h : WE S σ i fun d => ∃ k : Int, d = .int k ∧ 0 ≤ k ∧ k < S.tn ∧ ∀ c : Int, 0 ≤ c → c < 10 ^ 60 → Q (.int c))
    (hdb : (x == ("__debug__" : Str)) = false := by decide) (hs : ∀ o u, subscripted i false o u = operate [o, u] (getItem o u) := by intro _ _; with_unfolding_all rfl) : WE S σ (.Subscript (.Name x xp) i pos) Q := by
  intro h₀ fz₀ fz s R K E c
  refine hidG fun zG zh => ?_
  obtain ⟨ta, tc, e1, e2, t, e3, e4⟩ := cells_of R hx
  refine zh ?_
  clear zh zG
  refine Subscript_ (wpAny_Name (load_var R.at hx e2 (h h₀ fz₀ fz s R _ _ fun d v h' tk' fz' q sub R' hi => ?_)) hdb)
  refine hidG fun zG zh => ?_
  obtain ⟨k, rfl, h0, h1, q⟩ := q
  refine zh ?_
  clear zh zG
  obtain ⟨t, rfl⟩ := di_int hi
  refine hidG fun zG zh => ?_
  obtain ⟨ta', tc', e1', e2', t', e3', e4'⟩ := cells_of R' hx
  refine zh ?_
  clear zh zG
  rw [e1] at e1'
  cases e1'
  refine hidG fun zG zh => ?_
  obtain ⟨ne, turn, seed, t₁, t₂, vs, cs, hl, hl2, hI, hcn, hn', p1, p2, hc⟩ := t'
  refine zh ?_
  clear zh zG
  have hlen : vs.length = S.tn := by rw [← hcn]; exact ints_len hI
  obtain ⟨n, rfl⟩ := Int.eq_ofNat_of_zero_le h0
  have hnlt : n < cs.length := by walk_at "o"
  obtain ⟨u, hu⟩ := ints_get hI hnlt
  have hb := hc _ (List.getElem_mem hnlt)
  exact tail_any (s := { s with heap := h', toks := tk' }) hl2.typeIs slot_list_getitem.lookup (wpAny_getItem_list (s := { s with heap := h', toks := tk' }) hl2 (by { omega }) (by { omega }) (by simpa using hu) (c (.int _) _ h' tk' fz' (q _ hb.1 hb.2) sub R' (.int _ _))) (hs _ _)

variable {Q : Out → Sg → Prop}
theorem WX_tape_set {x : Str} {xp cp sp pos : Pos} {k : Nat} {i : Int} {e : Expr} (hx : σ.get x = some .tape) (hi : i = 1 ∨ i = 2) (h : WE S σ e fun d => ∃ c : Int, d = .int c ∧ 0 ≤ c ∧ Q .next σ)
    (hdb : (x == ("__debug__" : Str)) = false := by decide) (hs : ∀ line env, swapsWith e (some (.Subscript (.Name x xp) (.Constant (.int i) k cp) sp)) line env = pure false := by intro _ _; rfl) :
    WX S σ (.Assign [.Subscript (.Name x xp) (.Constant (.int i) k cp) sp] e pos) Q := by
  intro h₀ fz₀ fz s ⟨μ, oa, R⟩ K E c
  refine wpAny_Assign_Subscript (h ⟨h₀, μ, oa⟩ fz₀ fz s R _ _ fun d v h' tk' fz' q sub R' hv => ?_) (hs _ _)
  refine hidG fun zG zh => ?_
  obtain ⟨n, rfl, hn, q⟩ := q
  refine zh ?_
  clear zh zG
  obtain ⟨t, rfl⟩ := di_int hv
  refine hidG fun zG zh => ?_
  obtain ⟨ta, tc, e1, e2, t', e3, e4⟩ := tape_of R' hx
  refine zh ?_
  clear zh zG
  refine hidG fun zG zh => ?_
  obtain ⟨ne, turn, seed, t₁, t₂, vs, cs, hl, hl2, hI, hcn, hn', p1, p2, hc⟩ := t'
  refine zh ?_
  clear zh zG
  refine wpAny_Name (load_var R'.at hx e2 (wpAny_Constant_int ?_)) hdb
  have fin : ∀ h2, (TapeAt h2 S.tn ta tc) → Heap.SameBut ta h' h2 → (h2.get? ta).isSome = true → K .next { s with heap := h2, toks := tk' + 1 } := fun h2 t2 hs2 hin =>
    c .next σ .next h2 (tk' + 1) fz' q sub ⟨_, _, RelE.turn R' (a := ta) (by rw [e3]; exact .head _) hs2.extBut hin (by rw [e4]; exact t2)⟩ trivial
  rcases hi with rfl | rfl
  · refine wpAny_setItem_list (s := { s with heap := h', toks := tk' + 1 }) hl (by decide) (by decide) (by simp) fun h2 hl' hs2 => fin h2 ⟨ne, n, seed, t, t₂, vs, cs, hl', isl_keep hl2 fun o e => hs2.extBut tc o (Ne.symm ne) e, hI, hcn, hn', hn, p2, hc⟩ hs2 (isl_in hl')
  · refine wpAny_setItem_list (s := { s with heap := h', toks := tk' + 1 }) hl (by decide) (by decide) (by simp) fun h2 hl' hs2 => fin h2 ⟨ne, turn, n, t₁, t, vs, cs, hl', isl_keep hl2 fun o e => hs2.extBut tc o (Ne.symm ne) e, hI, hcn, hn', p1, hn, hc⟩ hs2 (isl_in hl')
theorem WX_cells_set {x y : Str} {xp yp sp pos : Pos} {e : Expr} {k : Int} (hx : σ.get x = some .cells) (hy : σ.get y = some (.val (.int k))) (h0 : 0 ≤ k) (h1 : k < S.tn) (h : WE S σ e fun d => ∃ c : Int, d = .int c ∧ 0 ≤ c ∧ c < 10 ^ 60 ∧ Q .next σ)
    (hdb : (x == ("__debug__" : Str)) = false := by decide) (hdy : (y == ("__debug__" : Str)) = false := by decide) (hs : ∀ line env, swapsWith e (some (.Subscript (.Name x xp) (.Name y yp) sp)) line env = pure false := by intro _ _; rfl) :
    WX S σ (.Assign [.Subscript (.Name x xp) (.Name y yp) sp] e pos) Q := by
  intro h₀ fz₀ fz s ⟨μ, oa, R⟩ K E c
  refine wpAny_Assign_Subscript (h ⟨h₀, μ, oa⟩ fz₀ fz s R _ _ fun d v h' tk' fz' q sub R' hv => ?_) (hs _ _)
  refine hidG fun zG zh => ?_
  obtain ⟨n, rfl, hn, hn2, q⟩ := q
  refine zh ?_
  clear zh zG
  obtain ⟨t, rfl⟩ := di_int hv
  refine hidG fun zG zh => ?_
  obtain ⟨ta, tc, e1, e2, t', e3, e4⟩ := cells_of R' hx
  refine zh ?_
  clear zh zG
  refine hidG fun zG zh => ?_
  obtain ⟨ne, turn, seed, t₁, t₂, vs, cs, hl, hl2, hI, hcn, hn', p1, p2, hc⟩ := t'
  refine zh ?_
  clear zh zG
  obtain ⟨w, hw, hwi⟩ := R'.at.bds y _ hy
  obtain ⟨u, rfl⟩ := di_int hwi
  refine wpAny_Name (load_var R'.at hx e2 (wpAny_Name (load_var R'.at hy hw ?_) hdy)) hdb
  have hlen : vs.length = S.tn := by rw [← hcn]; exact ints_len hI
  refine wpAny_setItem_list (s := { s with heap := h', toks := tk' }) hl2 h0 (by walk_at "o") (by rw [List.size_toArray, hlen]; exact h1) fun h2 hl' hs2 => ?_
  have t2 : TapeAt h2 S.tn ta tc := by
    refine ⟨ne, turn, seed, t₁, t₂, vs.set k.toNat (.int n t), cs.set k.toNat n, isl_keep hl fun o e => hs2.extBut ta o ne e, ?_, ints_set hI _ _ _, by rw [List.length_set]; exact hcn, hn', p1, p2, fun c hcm => ?_⟩
    · have e : vs.toArray.setIfInBounds k.toNat (.int n t) = (vs.set k.toNat (.int n t)).toArray := by simp
      rw [e] at hl'; exact hl'
    · rcases List.mem_or_eq_of_mem_set hcm with hm | rfl
      · exact hc c hm
      · exact ⟨hn, hn2⟩
  exact c .next σ .next h2 tk' fz' q sub ⟨_, _, RelE.turn R' (a := tc) (by rw [e3]; exact .tail _ (.head _)) hs2.extBut (isl_in hl') (by rw [e4]; exact t2)⟩ trivial

theorem store_cells {h₀ : Heap} {fz₀ fz : Led} {s : Shared} (R : Rel S h₀ fz₀ σ fz s.heap) {x : Str} {ta tc : Addr} (ht : S.tp = some (ta, tc)) (hx : isVar S.env x = true) (hf : S.fn = true ∨ S.env.kindOf x = some .local)
    {K : Unit → Shared → Prop} {E : Value → Shared → Prop} (h : ∀ h' tk', Rel S h₀ fz₀ (σ.set x .cells) fz h' → K () { s with heap := h', toks := tk' }) : wpAny S.M S.A (storeName S.env x (.ref tc)) K E s := by
  obtain ⟨μ, oa, R⟩ := R
  refine store_var (σ' := σ.set x .cells) R hx hf (fun y b e => ?_) (fun y z dy dz ey ez => ?_) (fun h' hs y b e => ?_) fun h' tk' R' => h h' tk' ⟨_, _, R'⟩
  · rw [Sg.get_set] at e
    split at e
    · rename_i q; subst q; exact hx
    · exact R.dom y b e
  · rw [Sg.get_set] at ey ez
    split at ey
    · cases ey
    · split at ez
      · cases ez
      · exact R.uniq y z dy dz ey ez
  · rw [Sg.get_set] at e
    split at e
    · rename_i q
      subst q
      cases e
      exact ⟨ta, tc, ht, by simp⟩
    · rename_i q
      exact (((R.bds y b e).mono (fun _ h => h) fun a ha o ho => hs a o (R.oaOk a ha).1 ho)).mu (if_neg q)

end
end Mine
end

section
open PySem PySem.W PyProof.Rows PySem.Calls PySem.SeqAt PySem.MeetsSeq
set_option maxRecDepth 10000
namespace Mine
section
variable {S : St} {σ : Sg} {Q : Out → Sg → Prop}
theorem WX_tape_first {x y z : Str} {xp1 xp2 yp zp cp1 cp2 sp1 sp2 tp1 tp2 pos : Pos} {k1 k2 k3 k4 : Nat} (hx : σ.get x = some .tape) (hy : isVar S.env y = true) (hz : isVar S.env z = true) (hf : S.fn = true)
    (q : ∀ c : Int, 0 ≤ c → Q .next ((σ.set z (.val (.int c))).set y .cells)) (hdb : (x == ("__debug__" : Str)) = false := by decide)
    (hs : ∀ line env, swapsWithSole [.Tuple [.Name y yp, .Name z zp] k1 tp1] (.Tuple [.Subscript (.Name x xp1) (.Constant (.int 0) k3 cp1) sp1, .Subscript (.Name x xp2) (.Constant (.int 1) k4 cp2) sp2] k2 tp2) line env = pure false := by intro _ _; rfl)
    (hw : swappedStores [.Tuple [.Name y yp, .Name z zp] k1 tp1] (.Tuple [.Subscript (.Name x xp1) (.Constant (.int 0) k3 cp1) sp1, .Subscript (.Name x xp2) (.Constant (.int 1) k4 cp2) sp2] k2 tp2) S.env = pure (some [y, z]) := by rfl) :
    WX S σ (.Assign [.Tuple [.Name y yp, .Name z zp] k1 tp1] (.Tuple [.Subscript (.Name x xp1) (.Constant (.int 0) k3 cp1) sp1, .Subscript (.Name x xp2) (.Constant (.int 1) k4 cp2) sp2] k2 tp2) pos) Q := by
  intro h₀ fz₀ fz s ⟨μ, oa, R⟩ K E c
  have RE : RelE S ⟨h₀, μ, oa⟩ fz₀ σ fz s.heap := R
  refine hidG fun zG zh => ?_
  obtain ⟨ta, tc, e1, e2, t, e3, e4⟩ := tape_of RE hx
  refine zh ?_
  clear zh zG
  refine hidG fun zG zh => ?_
  obtain ⟨ne, turn, seed, t₁, t₂, vs, cs, hl, hl2, hI, hcn, hn', p1, p2, hc⟩ := t
  refine zh ?_
  clear zh zG
  refine Assign_Tuple_swapped ?_ (hs _ _) hw
  refine wpAny_Tuple (wpAny_items_cons (Subscript_ (wpAny_Name (load_var R hx e2 (wpAny_Constant_int ?_)) hdb)) rfl)
  refine tail_any (s := { s with toks := s.toks + 1 }) hl.typeIs slot_list_getitem.lookup (wpAny_getItem_list (s := { s with toks := s.toks + 1 }) hl (by decide) (by decide) (x := .ref tc) rfl ?_) (by with_unfolding_all rfl)
  refine wpAny_items_cons (Subscript_ (wpAny_Name (load_var (s := { s with toks := s.toks + 1 }) R hx e2 (wpAny_Constant_int ?_)) hdb)) rfl
  refine tail_any (s := { s with toks := s.toks + 1 + 1 }) hl.typeIs slot_list_getitem.lookup (wpAny_getItem_list (s := { s with toks := s.toks + 1 + 1 }) hl (by decide) (by decide) (x := .int turn t₁) rfl ?_) (by with_unfolding_all rfl)
  refine wpAny_items_nil ⟨by size_fits, ?_⟩
  have R1 : RelE S ⟨h₀, μ, oa⟩ fz₀ σ fz (s.heap.push { cls := .type "tuple", data := .seq [Value.ref tc, .int turn t₁].toArray }) := RE.grow (Kp.push _ _)
  have ht : IsTup (s.heap.push { cls := .type "tuple", data := .seq [Value.ref tc, .int turn t₁].toArray }) s.heap.objs.size [Value.ref tc, .int turn t₁].toArray := ⟨_, Heap.get?_push_size _ rfl, rfl, _, rfl⟩
  generalize s.heap.objs.size = a at ht ⊢
  generalize (s.heap.push { cls := .type "tuple", data := .seq [Value.ref tc, .int turn t₁].toArray }) = h1 at R1 ht ⊢
  generalize hvs : [Value.ref tc, .int turn t₁].toArray = us at ht
  have e : [y, z].length = us.size := by rw [← hvs]; rfl
  rw [e]
  refine unpack_tup (s := { s with heap := h1, toks := s.toks + 1 + 1 }) R1.hk ht fun h2 k2 => ?_
  subst hvs
  have R2 := R1.grow k2
  refine assignInOrder_cons (wpAny_bindName (store_val (s := { s with heap := h2, toks := s.toks + 1 + 1 }) R2.rel (.int turn t₁) hz (.inl hf) fun h3 tk3 R3 => ?_))
  refine assignInOrder_cons (wpAny_bindName (store_cells (s := { s with heap := h3, toks := tk3 }) R3 e1 hy (.inl hf) fun h4 tk4 R4 => ?_))
  exact wpAny_pure (c .next _ .next h4 tk4 fz (q turn p1) (fun _ h => h) R4 trivial)
end
end Mine
end

section
open PySem PySem.W PyProof.Rows PySem.Calls PySem.Spec
set_option maxRecDepth 100000
namespace Mine
noncomputable abbrev bnE : List Value := [.type "Exception", .type "BaseException", .type "object"]
section
variable {prog : Program} {w : World} {A : Around} {E : Value → Shared → Prop} {h : Heap} {g : Array GenState} {d : Drawn} {t : Nat} {os : OsState}
variable {nm q : Str} {C P N : Addr} {bs : List Value} {hdct : Bool} {sn : List Str} {sub : List Value} {ab : Bool} {col : Option Bool} {dd : Option Addr} {k0 k1 k2 k3 k5 : Option Value}

theorem has_exc (b : String) : (Value.ref C :: Value.ref P :: bnE).contains (.type b) = bnE.contains (.type b) := by
  rw [List.contains_cons, List.contains_cons]; rfl
theorem xa_check {rest : List Value} {Q : Unit → Shared → Prop} (hC : h.get? C = some (excClassObj nm q C N bs (.ref P :: bnE) hdct sn sub ab col dd k0 k1 k2 k3 k5 "Exception.__new__"))
    (hq : Q () ⟨h, g, d, t, os⟩) {M : Model} : wpAny M A (checkBuiltinCall "Exception.__new__" ⟨.ref C :: rest, []⟩) Q E ⟨h, g, d, t, os⟩ := by
  have Fn := PySem.F.excBase_Exception
  have hcont : (Value.ref C :: Value.ref P :: bnE).contains (.type "Exception") = true := by rw [has_exc]; decide
  have hstar := Fn.noStar
  simp only [checkBuiltinCall, Fn.newKind, Fn.newSplit, Fn.newRow]
  repeat (first | refine wpAny_loadPart_at hC ?_ | (refine wpAny_isSubtype_exc hC ?_; rw [hcont]) | refine wpAny_staticBase_exc hC ?_ | refine wpAny_madeBy_exc hC ?_ | simp only [bne_self_eq_false, Bool.false_eq_true, if_false] | wp_step)
  exact hq
theorem xa_new {R : Result → Shared → Prop} {rest : List Value} (hC : h.get? C = some (excClassObj nm q C N bs (.ref P :: bnE) hdct sn sub ab col dd k0 k1 k2 k3 k5 "Exception.__new__"))
    (hq : R (.ok (.ret (.ref (h.objs.size + 1)))) ⟨(h.push { cls := .type "tuple", data := .seq rest.toArray }).push
      { cls := .ref C, data := .fields #[.ref h.objs.size, .none, .none, .none, .bool false, .none] }, g, d, t, os⟩) (hrest : rest.length ≤ sizeLine) :
    codeAny (model prog w) A (.builtin "Exception.__new__" ⟨.ref C :: rest, []⟩) R ⟨h, g, d, t, os⟩ := by
  have Fn := PySem.F.excBase_Exception
  have hends := Fn.ends
  have hcB : (Value.ref C :: Value.ref P :: bnE).contains (.type "Exception") = true := by rw [has_exc]; decide
  have hcA : (Value.ref C :: Value.ref P :: bnE).contains (.type "AttributeError") = false := by rw [has_exc]; decide
  have hcN : (Value.ref C :: Value.ref P :: bnE).contains (.type "NameError") = false := by rw [has_exc]; decide
  refine codeAny_builtinAt Fn.entry ?_
  unfold Builtin.«BaseException.__new__»
  refine PySem.wpAt_bind ?_
  show PySem.wpAt _ _ _ (stack >>= _) _ _ _
  refine PySem.wpAt_bind (PySem.wpAt_stack fun p below => PySem.wpAt_of_wpAny ?_)
  wp_walk
  refine PySem.wpAt_of_wpAny ?_
  rw [Fn.owner]
  repeat (first | with_reducible refine wpAny_madeHere_exc Fn.canon hC ?_ | with_reducible refine wpAny_loadPart_at hC ?_ | (with_reducible refine wpAny_isSubtype_exc hC ?_; first | rw [hcB] | rw [hcA] | rw [hcN]) | wp_step)
  show R _ _
  rw [Heap.size_push]
  exact hq
theorem xa_type_call {rest : List Value} {fI : Addr} {oI : Obj} {Q : Fin → Shared → Prop} (hC : h.get? C = some (excClassObj nm q C N bs (.ref P :: bnE) hdct sn sub ab col dd k0 k1 k2 k3 k5 "Exception.__new__"))
    (hi : Looks (model prog w) h (typeLookup (.ref C) "__init__") (some (.ref fI))) (hfI : h.get? fI = some oI) (hfc : oI.cls = .type "function")
    (hq : ∀ h' e, Heap.MadeExcOf h h' e (.ref C) rest →
      wpAny (model prog w) A (call (.ref fI) (.ref e :: rest)) (fun r s' => r = .none ∧ Q (.done (.ret (.ref e))) s') E ⟨h', g, d, t, os⟩) (hrest : rest.length ≤ sizeLine) :
    wpAny (model prog w) A (Builtin.«type.__call__» ⟨.ref C :: rest, []⟩) Q E ⟨h, g, d, t, os⟩ := by
  repeat (first | with_reducible refine wpAny_loadPart_at hC ?_ | with_reducible refine wpAny_madeBy_exc hC ?_ | wp_step)
  refine codeAny_call_builtin_code (Code.quiet_builtin _ PySem.F.excBase_Exception.quiet) (xa_check hC ?_)
  refine xa_new hC ?_ hrest
  show wpAny _ _ _ _ _ _
  have hC₁ := Heap.get?_push_of_some { cls := .ref C, data := .fields #[.ref h.objs.size, .none, .none, .none, .bool false, .none] }
    (Heap.get?_push_of_some { cls := .type "tuple", data := .seq rest.toArray } hC)
  have hfI₁ := Heap.get?_push_of_some { cls := .ref C, data := .fields #[.ref h.objs.size, .none, .none, .none, .bool false, .none] }
    (Heap.get?_push_of_some { cls := .type "tuple", data := .seq rest.toArray } hfI)
  have hget : ((h.push { cls := .type "tuple", data := .seq rest.toArray }).push
      { cls := .ref C, data := .fields #[.ref h.objs.size, .none, .none, .none, .bool false, .none] }).get? (h.objs.size + 1) = some
      { cls := .ref C, data := .fields #[.ref h.objs.size, .none, .none, .none, .bool false, .none] } := by heap_get
  have hcC : (Value.ref C :: Value.ref P :: bnE).contains (.ref C) = true := by simp
  unfold isInstance
  repeat (first | with_reducible refine wpAny_loadPart_at hget ?_ | (with_reducible refine wpAny_isSubtype_exc hC₁ ?_; rw [hcC]) | wp_step)
  show wpAny _ _ (typeLookup (.ref C) _) _ _ _
  refine hi _ _ _ _ (fun b o e => Heap.get?_push_of_some _ (Heap.get?_push_of_some _ e)) ?_
  refine wpAny_holding (wpAny_bind ?_)
  unfold bindSpecial
  refine wpAny_bind (wpAny_typeOf (T := "function") ⟨_, hfI₁, hfc⟩ ?_)
  rw [if_pos (by decide)]
  refine wpAny_pure (wpAny_bind (wpAny_mono (hq _ (h.objs.size + 1) ⟨fun b o hb => Heap.get?_push_of_some _ (Heap.get?_push_of_some _ hb), Heap.get?_none_of_le (Nat.le_succ _), h.objs.size, hget, Heap.get?_none_of_le (Nat.le_refl _), ?_⟩) (fun r s' hr => ?_) fun _ _ x => x))
  · exact Heap.get?_push_of_some _ (Heap.get?_push_at rfl rfl)
  · obtain ⟨rfl, hQ⟩ := hr
    wp_walk
    exact hQ
theorem xa_call {rest : List Value} {fI : Addr} {oI : Obj} {Q : Value → Shared → Prop} (hC : h.get? C = some (excClassObj nm q C N bs (.ref P :: bnE) hdct sn sub ab col dd k0 k1 k2 k3 k5 "Exception.__new__"))
    (hi : Looks (model prog w) h (typeLookup (.ref C) "__init__") (some (.ref fI))) (hfI : h.get? fI = some oI) (hfc : oI.cls = .type "function")
    (hq : ∀ h' e, Heap.MadeExcOf h h' e (.ref C) rest →
      wpAny (model prog w) (A.under (.builtin "type.__call__" ⟨.ref C :: rest, []⟩)) (call (.ref fI) (.ref e :: rest)) (fun r s' => r = .none ∧ Q (.ref e) s') E ⟨h', g, d, t, os⟩) (hrest : rest.length ≤ sizeLine) :
    wpAny (model prog w) A (call (.ref C) rest) Q E ⟨h, g, d, t, os⟩ := by
  have f1 := tc_lookup
  have f2 := tc_bind (.ref C)
  have hT : (⟨h, g, d, t, os⟩ : Shared).TypeIs (.ref C) "type" := ⟨_, hC, rfl⟩
  refine wpAny_call (codeAny_of_tree ?_)
  show wpAny _ _ (callAny (.ref C) _) _ _ _
  repeat (any_goals (first | assumption | with_reducible refine wpAny_loadPart_at hC ?_ | wp_step))
  refine ⟨rfl, ?_⟩
  refine codeAny_call_builtin_at (Code.quiet_builtin _ (by decide +kernel)) entry_typeCall (wpAny_check_type_call_sub hC (xa_type_call hC hi hfI hfc (fun h' e hm => ?_) hrest))
  exact hq h' e hm
end
end Mine
end

section
open PySem PySem.W PyProof.Rows PySem.Calls PySem.Spec PySem.Builtin PySem.Builtin.ObjectAttr
set_option maxRecDepth 100000
namespace Mine
section
variable {prog : Program} {w : World} {A : Around} {E : Value → Shared → Prop} {h : Heap} {g : Array GenState} {d : Drawn} {t : Nat} {os : OsState}
variable {nm q : Str} {C P N x : Addr} {bs : List Value} {sn : List Str} {sub : List Value} {ab : Bool} {col : Option Bool} {dd : Option Addr} {k0 k1 k2 k3 k5 : Option Value}
  {mA : Str → Option Value} {name : Str} {v : Value}

theorem xb_check {M : Model} {o : Obj} {nameV : Value} {Q : Unit → Shared → Prop}
    (hC : h.get? C = some (excClassObj nm q C N bs (.ref P :: bnE) true sn sub ab col dd k0 k1 k2 k3 k5 "Exception.__new__")) (hx : h.get? x = some o) (hc : o.cls = .ref C) (hq : Q () ⟨h, g, d, t, os⟩) :
    wpAny M A (checkBuiltinCall "object.__setattr__" ⟨[.ref x, nameV, v], []⟩) Q E ⟨h, g, d, t, os⟩ := by
  have SF := PySem.F.store_Exception
  have hcB : (Value.ref C :: Value.ref P :: bnE).contains (.type "object") = true := by rw [has_exc]; decide
  have ha := SF.args (.ref x) nameV v
  simp only [checkBuiltinCall, SF.kind, SF.split]
  refine wpAny_bind ?_
  · unfold isInstance
    repeat (first | (with_reducible refine wpAny_loadPart_at hx ?_; rw [hc]) | (with_reducible refine wpAny_isSubtype_exc hC ?_; rw [hcB]) | wp_step)
    exact hq
theorem xb_entry {tk : Tok} {Q : Fin → Shared → Prop} {ns : List Str}
    (hC : h.get? C = some (excClassObj nm q C N bs (.ref P :: bnE) true sn sub ab col dd k0 k1 k2 k3 k5 "Exception.__new__")) (hl : Looks (model prog w) h (typeLookup (.ref C) name) none) (I : h.Inst x C mA)
    (hq : ∀ h' tk', h'.Inst x C (fun y => if y = name then some v else mA y) →
      (∀ b o, b ≠ x → (∀ o₀ dx, h.get? x = some o₀ → o₀.dict = some dx → b ≠ dx) → h.get? b = some o → h'.get? b = some o) →
      (∀ o₀, h.get? x = some o₀ → ∃ o₁, h'.get? x = some o₁ ∧ o₁.cls = o₀.cls ∧ o₁.data = o₀.data ∧ ∀ dx, o₁.dict = some dx → o₀.dict = some dx ∨ h.get? dx = none) → Q (.done (.ret .none)) ⟨h', g, d, tk', os⟩) (hw : Within mA ns) (hsz : ns.length ≤ 1000) :
    wpAny (model prog w) A (Builtin.«object.__setattr__» ⟨[.ref x, .str name tk, v], []⟩) Q E ⟨h, g, d, t, os⟩ := by
  refine hidG fun zG zh => ?_
  obtain ⟨o, hx, hc, hnc, hd⟩ := I
  refine zh ?_
  clear zh zG
  have hpass := PySem.F.store_Exception.passes (.ref x)
  unfold Builtin.«object.__setattr__»
  repeat (first | rw [refuse_eq] | (rw [refuseLoop_ref, refuseLoop_ref, hpass]) | (with_reducible refine wpAny_loadPart_at hx ?_; rw [hc]) | with_reducible refine wpAny_mroOf_exc hC ?_ | (with_reducible refine hl.at ?_) | wp_step)
  rcases hd with ⟨hdn, hmA⟩ | ⟨dx, hdx, hne, hns⟩
  ·
    rw [hdn, if_neg (by simp [typeHasDict])]
    split
    · rename_i hcd
      cases hcd
    split
    · rename_i c hcd
      exact absurd hcd (hnc c)
    · have hx₁ : (h.push { cls := .type "dict", data := .dict #[] }).get? x = some o := Heap.get?_push_of_some _ hx
      have hxs : x ≠ h.objs.size := Nat.ne_of_lt (Heap.lt_size hx)
      refine wpAny_bind (wpAny_alloc' ?_)
      refine wpAny_bind (wpAny_update' hx₁ ?_)
      refine wpAny_pure ?_
      have hgd : ((h.push { cls := .type "dict", data := .dict #[] }).update x fun o => { cls := o.cls, dict := some h.objs.size, data := o.data, slots := o.slots }).get? h.objs.size
          = some { cls := .type "dict", data := .dict #[] } :=
        (Heap.get?_update_ne _ _ _ _ hxs.symm).trans (Heap.get?_push_at rfl rfl)
      have hnd : ((h.push { cls := .type "dict", data := .dict #[] }).update x fun o => { cls := o.cls, dict := some h.objs.size, data := o.data, slots := o.slots }).Ns h.objs.size (fun _ => none) :=
        ⟨_, #[], _, hgd, rfl, fun e he => absurd he (by simp), fun _ => rfl⟩
      show wpAny _ _ (storeInDict h.objs.size (.str name tk) name v) _ _ _
      unfold storeInDict newKeyGuard
      refine wpAny_bind (wpAny_pure (wpAny_bind (wpAny_nsSet1 (Heap.Ns1.of_empty hnd) fun h' hn' hs => ?_)))
      refine hidG fun zG zh => ?_
      obtain ⟨oD, esD, epD, hoD, hdD, hcD⟩ := hn'.count (Within.cons name v Within.nil)
      refine zh ?_
      clear zh zG
      refine wpAny_bind (wpAny_lookBehind hoD (by rw [hdD]; exact pastItsLine_dict (Nat.le_trans hcD (by rw [List.length_cons, List.length_nil, sizeLine_eq]; walk_at "o"))) ?_)
      wp_walk
      have hx' : h'.get? x = some { cls := o.cls, dict := some h.objs.size, data := o.data, slots := o.slots } := ?_
      refine hq h' _ ⟨{ cls := o.cls, dict := some h.objs.size, data := o.data, slots := o.slots }, hx', hc, hnc, .inr ⟨h.objs.size, rfl, hxs.symm, ?_⟩⟩ (fun b ob hbx _ hb => ?_)
        (fun o₀ h₀ => by obtain rfl : o = o₀ := Option.some.inj (hx.symm.trans h₀); exact ⟨_, hx', rfl, rfl, fun dx e => .inr (by cases e; exact Heap.get?_none_of_le (Nat.le_refl _))⟩)
      · refine hidG fun zG zh => ?_
        obtain ⟨o', es, ep, e1, e2, e3, eu, e4⟩ := hn'
        refine zh ?_
        clear zh zG
        exact ⟨o', es, ep, e1, e2, e3, eu, fun y => by rw [e4 y]; by_cases hy : y = name <;> simp [hy, hmA]⟩
      · exact (hs.2 b (Nat.ne_of_lt (Heap.lt_size hb))).trans ((Heap.get?_update_ne _ _ _ _ hbx).trans (Heap.get?_push_of_some _ hb))
      · refine (hs.2 x hxs).trans (Heap.get?_update_self _ hx₁ ?_)
        have hfr := (Heap.get?_some_iff.mp hx).2
        refine hidG fun zG zh => ?_
        obtain ⟨oc, od, odt, osl⟩ := o
        refine zh ?_
        clear zh zG
        cases odt <;> first | rfl | exact hfr
  ·
    rw [hdx]
    refine wpAny_pure ?_
    show wpAny _ _ (storeInDict dx (.str name tk) name v) _ _ _
    unfold storeInDict newKeyGuard
    refine wpAny_bind (wpAny_pure (wpAny_bind (wpAny_nsSet1 hns fun h' hn' hs => ?_)))
    refine hidG fun zG zh => ?_
    obtain ⟨oD, esD, epD, hoD, hdD, hcD⟩ := hn'.count (Within.cons name v hw)
    refine zh ?_
    clear zh zG
    refine wpAny_bind (wpAny_lookBehind hoD (by rw [hdD]; exact pastItsLine_dict (Nat.le_trans hcD (by rw [List.length_cons, sizeLine_eq]; walk_at "o"))) ?_)
    wp_walk
    refine hq h' _ ⟨o, (hs.2 x hne.symm).trans hx, hc, hnc, .inr ⟨dx, hdx, hne, hn'⟩⟩ (fun b ob _ hbd hb => ?_)
      (fun o₀ h₀ => ⟨o₀, (hs.2 x hne.symm).trans h₀, rfl, rfl, fun _ e => .inl e⟩)
    exact (hs.2 b (hbd o dx hx hdx)).trans hb
theorem xb_store {Q : Unit → Shared → Prop} {ns : List Str}
    (hC : h.get? C = some (excClassObj nm q C N bs (.ref P :: bnE) true sn sub ab col dd k0 k1 k2 k3 k5 "Exception.__new__")) (hs : Looks (model prog w) h (typeLookup (.ref C) "__setattr__") (some (.builtin "object.__setattr__")))
    (hl : Looks (model prog w) h (typeLookup (.ref C) name) none) (I : h.Inst x C mA)
    (hq : ∀ h' tk', h'.Inst x C (fun y => if y = name then some v else mA y) →
      (∀ b o, b ≠ x → (∀ o₀ dx, h.get? x = some o₀ → o₀.dict = some dx → b ≠ dx) → h.get? b = some o → h'.get? b = some o) →
      (∀ o₀, h.get? x = some o₀ → ∃ o₁, h'.get? x = some o₁ ∧ o₁.cls = o₀.cls ∧ o₁.data = o₀.data ∧ ∀ dx, o₁.dict = some dx → o₀.dict = some dx ∨ h.get? dx = none) → Q () ⟨h', g, d, tk', os⟩) (hw : Within mA ns) (hsz : ns.length ≤ 1000) :
    wpAny (model prog w) A (setAttr (.ref x) name v) Q E ⟨h, g, d, t, os⟩ := by
  refine hidG fun zG zh => ?_
  obtain ⟨o, hx, hc, _⟩ := id I
  refine zh ?_
  clear zh zG
  have f3 := PySem.F.store_Exception.slot.bind (.ref x)
  unfold setAttr callSpecial? specialOf
  repeat (any_goals (first | assumption | (with_reducible refine wpAny_loadPart_at hx ?_; rw [hc]) | (with_reducible refine hs.at ?_) | wp_step))
  refine codeAny_call_builtin PySem.F.store_Exception.slot.plain PySem.F.store_Exception.entry (xb_check hC hx hc (xb_entry hC hl I (fun h' tk' I' hk hsame => ?_) hw hsz))
  repeat (any_goals (first | assumption | wp_step))
  exact hq h' tk' I' hk hsame

-- Exception.__init__
theorem xb_name {M : Model} : Looks M h (opaqueClassAbove (.type "Exception")) none := by
  refine Looks.of_pure ?_
  unfold opaqueClassAbove
  dsimp only
  rw [show Manifest.isStub "Exception" = false by decide +kernel]; rfl
theorem xb_getm {pl : Sem Bool} {Q : Value × List Value → Shared → Prop} (k : ∀ tk, Q (.builtin "Exception.__init__", []) ⟨h, g, d, tk, os⟩) :
    wpAny (model prog w) A (getMethod (.type "Exception") "__init__" pl) Q E ⟨h, g, d, t, os⟩ := by
  have X : Frag.In [] h := fun a o e => by cases e
  have ht : typeOf (.type "Exception") = pure (.type "type") := by first | rfl | kernel_rfl
  have L0 : Looks (model prog w) h (typeOf (.type "Exception")) (.type "type") := Looks.of_pure ht
  have hg : findIn [] (.type "type") "__getattribute__" = some (some (.builtin "type.__getattribute__")) := type_tga
  have e : findCls [] (.type "Exception") (.type "type") "__init__" = some (.val (.builtin "Exception.__init__")) := by kernel_rfl
  unfold getMethod specialOf
  refine wpAny_bind (wpAny_bind (L0.at ((looks_findIn X hg).at ?_)))
  dsimp only
  rw [if_pos canon_tga]
  refine wpAny_bind (wpAny_mono (Q := fun v => Q (v, [])) (E := E) ?_ (fun _ _ z => wpAny_pure z) fun _ _ z => z)
  refine cls_open X xb_name L0 hg (looks_hook X (r := none) (by rfl)) (by show subIn [] _ _ = _; rfl) e ?_
  show wpAny _ _ (pure _) _ _ _
  exact wpAny_pure (wpAny_of_eq (by kernel_rfl) (k _))
end
end Mine
end

section
open PySem PySem.W PyProof.Rows PySem.Calls PySem.Spec PySem.Builtin PySem.Builtin.ObjectAttr
set_option maxRecDepth 100000
namespace Mine
noncomputable abbrev excObj (C t : Addr) (dd : Option Addr) (sl : Array (Option Value)) : Obj := { cls := .ref C, dict := dd, data := .fields #[.ref t, .none, .none, .none, .bool false, .none], slots := sl }
noncomputable def methR (i : Nat) : DefR := match PySem.Challenge.pw_pq0939_01.main.body.getD 7 (.Pass ⟨0, 0, 0, 0⟩) with
  | .ClassDef _ _ _ body .. => toR (body.getD i (.Pass ⟨0, 0, 0, 0⟩))
  | _ => noDefR
noncomputable def initR : DefR := methR 0
structure MimeK (K : Frag) (C P fI : Addr) : Prop where
  cls : ∃ nm q N bs sn sub ab col dd k0 k1 k2 k3 k5, K.lookup C = some (excClassObj nm q C N bs (.ref P :: bnE) true sn sub ab col dd k0 k1 k2 k3 k5 "Exception.__new__")
  init : findIn K (.ref C) "__init__" = some (some (.ref fI))
  fn : ∃ od fd osl, K.lookup fI = some ⟨.type "function", od, .func fd, osl⟩ ∧ fd.params = initR.params ∧ fd.body = .stmts initR.body ∧ fd.scope = initR.scope ∧ fd.globals = mainGlobals ∧ fd.builtins = builtinsNs ∧ fd.closure = [] ∧ codeIn K fd.code fd.qualname = true ∧
    ∀ (a b c : Value) (S : Setting), peek K S (bindArgs fd ⟨[a, b, c], []⟩) = some [(("self" : Str), a), (("what" : Str), b), (("at" : Str), c)]
  set_ : findIn K (.ref C) "__setattr__" = some (some (.builtin "object.__setattr__"))
  what : findIn K (.ref C) "what" = some none
  at_ : findIn K (.ref C) "at" = some none
section
variable {prog : Program} {w : World} {A : Around} {E : Value → Shared → Prop} {h : Heap} {g : Array GenState} {d : Drawn} {t : Nat} {os : OsState}
variable {nm q : Str} {C P N x : Addr} {bs : List Value} {sn : List Str} {sub : List Value} {ab : Bool} {col : Option Bool} {dd : Option Addr} {k0 k1 k2 k3 k5 : Option Value}

theorem xc_check {M : Model} {e : Addr} {oe : Obj} {rest : List Value} {Q : Unit → Shared → Prop}
    (hC : h.get? C = some (excClassObj nm q C N bs (.ref P :: bnE) true sn sub ab col dd k0 k1 k2 k3 k5 "Exception.__new__")) (he : h.get? e = some oe) (hcls : oe.cls = .ref C) (hq : Q () ⟨h, g, d, t, os⟩) :
    wpAny M A (checkBuiltinCall "Exception.__init__" ⟨.ref e :: rest, []⟩) Q E ⟨h, g, d, t, os⟩ := by
  have F := PySem.F.excBase_Exception
  have hcB : (Value.ref C :: Value.ref P :: bnE).contains (.type "Exception") = true := by rw [has_exc]; decide
  have hshort := F.noStar
  simp only [checkBuiltinCall, F.initKind, F.initSplit, F.initRow]
  repeat (first | (with_reducible refine wpAny_loadPart_at he ?_; rw [hcls]) | with_reducible refine wpAny_loadPart_at hC ?_ | (with_reducible refine wpAny_isSubtype_exc hC ?_; rw [hcB]) | wp_step)
  refine wpAny_onRaise ?_
  rw [show ∀ (a b : String) (n : Nat), Bind.check ⟨.positional, "*", "Exception", .self, [⟨"args", .varPos, false⟩]⟩ a b n (List.map (fun x => x.fst) ({ pos := Value.ref e :: rest } : Args).kw) = pure () from
    fun a b n => check_star_args _ _ _ _ _ _]
  exact wpAny_pure hq
theorem xc_einit {e t0 : Addr} {v : Value} {Q : Value → Shared → Prop}
    (hC : h.get? C = some (excClassObj nm q C N bs (.ref P :: bnE) true sn sub ab col dd k0 k1 k2 k3 k5 "Exception.__new__")) (he : h.get? e = some (excObj C t0 none #[]))
    (hq : ∀ h' t1, h'.get? e = some (excObj C t1 none #[]) → (∀ b o, b ≠ e → h.get? b = some o → h'.get? b = some o) → Q .none ⟨h', g, d, t, os⟩) :
    wpAny (model prog w) A (call (.builtin "Exception.__init__") [.ref e, v]) Q E ⟨h, g, d, t, os⟩ := by
  have F := PySem.F.excBase_Exception
  refine wpAny_call (codeAny_call_builtin F.init.plain F.initEntry (xc_check hC he rfl ?_))
  wp_walk
  refine hq _ h.objs.size ?_ fun b o hb ho => ?_
  · rw [Heap.get?_update_self _ (Heap.get?_push_of_some _ he) rfl]
    rfl
  · rw [Heap.get?_update_other _ _ (Ne.symm hb)]
    exact Heap.get?_push_of_some _ ho

theorem codeAny_cellsB {s : Shared} {R : Result → Shared → Prop} {a : Addr} {o : Obj} {fd : FuncData} {body : List Stmt} {vals : List Value} {binds : List (Str × Value)}
    (hroom : A.depth < recursionLimit) (ho : s.heap.get? a = some o) (hdata : o.data = .func fd) (hlim : s.heap.NoLimit) (hcd : s.heap.CodeRec fd.code fd.qualname)
    (hbody : fd.body = .stmts body) (hbind : BindsTo s fd ⟨vals, []⟩ binds) (hclo : fd.closure = [])
    (hkind : ∀ x ∈ binds, fd.scope.names.lookup x.1 = some .local ∨ (fd.scope.names.lookup x.1 = some .cell ∧ ((cellsFrom (s.heap.objs.size + 1) fd.scope.names []).lookup x.1).isSome = true))
    (h : ∀ s₁, InCallC s (callEnvC fd s.heap.objs.size a).locals (bindL (callEnvC fd s.heap.objs.size a).kindOf binds fun _ => none) (callEnvC fd s.heap.objs.size a).cells
        (bindC (callEnvC fd s.heap.objs.size a).kindOf binds fun _ => none) s₁ →
      wpAny (model prog w) (A.deeper (callEnvC fd s.heap.objs.size a)) (execs body (callEnvC fd s.heap.objs.size a)) (fun f s' => R (.ok (.ret (match f with | .ret v => v | _ => .none))) s')
        (fun e s' => wpAny (model prog w) (A.deeper (callEnvC fd s.heap.objs.size a)) (leaving (callEnvC fd s.heap.objs.size a) e) (fun _ s'' => R (.error e) s'') (fun e' s'' => R (.error e') s'') s') s₁)
    (hco : fd.scope.isCoroutine = false := by rfl) (hgen : fd.scope.isGenerator = false := by rfl) (hk : fd.scope.kind = .function := by rfl) :
    codeAny (model prog w) A (.call (.ref a) ⟨vals, []⟩) R s := by
  refine codeAny_call_function hroom ho hdata hco hgen hbody hcd ?_
  rw [hclo]
  refine hbind _ _ _ _ (wpAny_newFunctionEnv_cells hk hkind fun env he s' x => ?_)
  subst he
  exact ⟨hlim.keeps x.toInCall.keep, codeAny_func (h s' x)⟩
theorem loc {M : Model} {s : Shared} {env : Env} {n : Str} {pos : Pos} {m : Str → Option Value} {v : Value} {Q : Value → Shared → Prop} (hk : env.scope.kind = .function) (hl : env.kindOf n = some .local) (hn : s.heap.Ns env.locals m) (hv : m n = some v) (q : Q v s)
    (hd : (n == ("__debug__" : Str)) = false) : wpAny M A (eval (.Name n pos) env) Q E s := wpAny_Name (wpAny_loadName_local hk hl hn hv q) hd
structure Made (h0 h : Heap) (e C : Addr) : Prop where
  keep : Kp h0 h
  new : h0.get? e = none
  obj : ∃ t1 dd sl, h.get? e = some (excObj C t1 dd sl)
theorem xc_run {G : Gp} {K : Frag} {fI e t0 : Addr} {h0 : Heap} {v u : Value} {Q : Value → Shared → Prop} (mk : MimeK K C P fI) (gl : GlAt G h0) (X0 : K.In h0) (hx : G.mg "Exception" = none) (k0 : Kp h0 h) (hn : h0.get? e = none) (he : h.get? e = some (excObj C t0 none #[]))
    (hroom : A.depth < recursionLimit) (hq : ∀ h' tk', Made h0 h' e C → Q .none ⟨h', g, d, tk', os⟩) :
    wpAny (model prog w) A (call (.ref fI) [.ref e, v, u]) Q E ⟨h, g, d, t, os⟩ := by
  refine hidG fun zG zh => ?_
  obtain ⟨nm, q, N, bs, sn, sub, ab, col, dd, y0, y1, y2, y3, y5, hC0⟩ := mk.cls
  refine zh ?_
  clear zh zG
  refine hidG fun zG zh => ?_
  obtain ⟨od, fd, osl, hfn, hp, hb, hs, hgl, hbt, hcl, hcode, hbind⟩ := mk.fn
  refine zh ?_
  clear zh zG
  have X : K.In h := X0.keeps k0
  have gl1 := gl.keeps k0
  have eC : e ≠ C := fun q => by have := X0 _ _ hC0; rw [← q, hn] at this; cases this
  refine wpAny_call (codeAny_cellsB (binds := [(("self" : Str), .ref e), (("what" : Str), v), (("at" : Str), u)]) hroom (X _ _ hfn) rfl gl1.nolimit (codeRec_of X hcode) hb (kp_binds X (hbind _ _ _)) hcl ?_ (fun s₁ Y => ?_) (by rw [hs]; rfl) (by rw [hs]; rfl) (by rw [hs]; rfl))
  · intro x hx
    simp only [List.mem_cons, List.not_mem_nil, or_false] at hx
    rw [hs]
    rcases hx with rfl | rfl | rfl <;> exact .inl rfl
  refine hidG fun zG zh => ?_
  obtain ⟨h1, tk1, rfl, k1⟩ := Y.done
  refine zh ?_
  clear zh zG
  have hns := Y.toInCall.ns
  have hsc : (callEnvC fd h.objs.size fI).scope = initR.scope := hs
  have hkd : (callEnvC fd h.objs.size fI).scope.kind = .function := by rw [hsc]; rfl
  have kO : ∀ x, (callEnvC fd h.objs.size fI).kindOf x = initR.scope.names.lookup x := fun x => by
    show fd.scope.names.lookup x = _; rw [hs]
  have hg : (callEnvC fd h.objs.size fI).globals = mainGlobals := hgl
  have hbi : (callEnvC fd h.objs.size fI).builtins = builtinsNs := hbt
  have hL : (callEnvC fd h.objs.size fI).locals = h.objs.size := rfl
  have hint : interactive (callEnvC fd h.objs.size fI) = false := by
    show ((callEnvC fd h.objs.size fI).scope.kind == .module && _) = false
    rw [hkd]; rfl
  generalize hm : bindL (callEnvC fd h.objs.size fI).kindOf [(("self" : Str), Value.ref e), (("what" : Str), v), (("at" : Str), u)] (fun _ => none) = m at hns
  have hm1 : m "self" = some (.ref e) ∧ m "what" = some v ∧ m "at" = some u := by
    rw [← hm]
    have a1 : (callEnvC fd h.objs.size fI).kindOf "self" = some .local := (kO _).trans rfl
    have a2 : (callEnvC fd h.objs.size fI).kindOf "what" = some .local := (kO _).trans rfl
    have a3 : (callEnvC fd h.objs.size fI).kindOf "at" = some .local := (kO _).trans rfl
    refine ⟨?_, ?_, ?_⟩
    · rw [bindL_last _ a1]; rfl
    · rw [bindL_last _ a2]; rfl
    · rw [bindL_last _ a3]; rfl
  obtain ⟨hm1, hm2, hm3⟩ := hm1
  generalize callEnvC fd h.objs.size fI = env at *
  have kk1 : Kp h0 h1 := k0.trans k1
  have X1 : K.In h1 := X0.keeps kk1
  have he1 := k1 _ _ he
  have hLe : h.objs.size ≠ e := (Nat.ne_of_lt (Heap.lt_size he)).symm
  show wpAny _ _ (execs _ env) _ _ _
  have hbody : initR.body = [initR.body.getD 0 (.Pass ⟨0, 0, 0, 0⟩), initR.body.getD 1 (.Pass ⟨0, 0, 0, 0⟩), initR.body.getD 2 (.Pass ⟨0, 0, 0, 0⟩)] := rfl
  rw [hbody]
  refine wpAny_execs_cons ?_
  refine wpAny_Expr_any ?_ hint rfl
  have hvE : bootBuiltins "Exception" = some (.type "Exception") := by kernel_rfl
  have h0s : ∀ {Q : Value → Shared → Prop} {E : Value → Shared → Prop} {AA : Around}, (∀ h' tk' t1, h'.get? e = some (excObj C t1 none #[]) → (∀ b o, b ≠ e → h1.get? b = some o → h'.get? b = some o) → Q .none ⟨h', g, d, tk', os⟩) →
      ∀ p1 p2 p3 p4 p5, (p2.endLine == p5.line) = true → wpAny (model prog w) AA (eval (.Call (.Attribute (.Name "Exception" p1) "__init__" p2) [.Name "self" p3, .Name "what" p4] [] p5) env) Q E ⟨h1, g, d, tk1, os⟩ := by
    intro Q E AA hq p1 p2 p3 p4 p5 hl
    rw [arm_eval_Call, show attributeBase (.Name "Exception" p1) "__init__" env (eval (.Name "Exception" p1) env) = eval (.Name "Exception" p1) env from rfl]
    refine wpAny_bind (Name_function_global hkd ((kO _).trans rfl) (loadGlobal_builtin (hg ▸ (gl1.keeps k1).g) hx (hbi ▸ (gl1.keeps k1).b) (((gl1.keeps k1).bn "Exception" (by decide)).trans hvE) ?_) (by decide))
    refine wpAny_bind (wpAny_standAt ?_)
    have hpos : methodCallPos true (.Name "Exception" p1) env p2 p5 = pure p5 := by unfold methodCallPos; simp [hl]
    unfold methodCall
    rw [show methodCallForm ([Expr.Name "self" p3, Expr.Name "what" p4].length + ([] : List Keyword).length) (backTo p5 (starEach [.Name "self" p3, .Name "what" p4] env)) (backToKw p5 (keywordEach [] env)) = true from rfl]
    refine wpAny_bind (wpAny_holding (xb_getm fun tk => ?_))
    refine wpAny_bind (wpAny_of_eq hpos ?_)
    refine PyProof.Rows.callWith_builtin1 ?_ rfl rfl
    refine wpAny_items_cons (loc hkd ((kO _).trans rfl) (hL ▸ hns) hm1 ?_ (by decide)) rfl
    refine wpAny_items_cons (loc hkd ((kO _).trans rfl) (hL ▸ hns) hm2 ?_ (by decide)) rfl
    refine wpAny_items_nil ?_
    exact xc_einit (X1 _ _ hC0) he1 fun h' t1 a b => hq h' tk t1 a b
  refine h0s (fun h2 tk2 t1 he2 kb2 => ?_) _ _ _ _ _ rfl
  have k2 : Kp h0 h2 := fun b o hb => kb2 b o (fun q => by rw [q, hn] at hb; cases hb) (kk1 b o hb)
  have hns2 : h2.Ns h.objs.size m := by
    refine hidG fun zG zh => ?_
    obtain ⟨o, es, ep, ho, r⟩ := hL ▸ hns
    refine zh ?_
    clear zh zG
    exact ⟨o, es, ep, kb2 _ _ hLe ho, r⟩
  have X2 : K.In h2 := X0.keeps k2
  refine wpAny_execs_cons ?_
  refine plainObj_wpAny_Assign_Attribute ?_ rfl
  refine loc (s := ⟨h2, g, d, tk2, os⟩) hkd ((kO _).trans rfl) (hL ▸ hns2) hm2 ?_ (by decide)
  refine loc (s := ⟨h2, g, d, tk2, os⟩) hkd ((kO _).trans rfl) (hL ▸ hns2) hm1 ?_ (by decide)
  refine xb_store (mA := fun _ => none) (ns := []) (X2 _ _ hC0) (looks_findIn X2 mk.set_) (looks_findIn X2 mk.what) ⟨_, he2, rfl, fun c q => (by cases q), .inl ⟨rfl, fun _ => rfl⟩⟩ (fun h3 tk3 I3 kb3 o3 => ?_) Within.nil (by decide)
  have kb3' : ∀ b o, b ≠ e → h2.get? b = some o → h3.get? b = some o := fun b o hb ho => kb3 b o hb (fun o₀ dx q1 q2 => by rw [he2] at q1; cases q1; cases q2) ho
  have k3 : Kp h0 h3 := fun b o hb => kb3' b o (fun q => by rw [q, hn] at hb; cases hb) (k2 b o hb)
  refine hidG fun zG zh => ?_
  obtain ⟨oe3, he3, hc3, hd3, hdx3⟩ := o3 _ he2
  refine zh ?_
  clear zh zG
  have hns3 : h3.Ns h.objs.size m := by
    refine hidG fun zG zh => ?_
    obtain ⟨o, es, ep, ho, r⟩ := hns2
    refine zh ?_
    clear zh zG
    exact ⟨o, es, ep, kb3' _ _ hLe ho, r⟩
  have X3 : K.In h3 := X0.keeps k3
  refine wpAny_execs_cons ?_
  refine plainObj_wpAny_Assign_Attribute ?_ rfl
  refine loc (s := ⟨h3, g, d, tk3, os⟩) hkd ((kO _).trans rfl) (hL ▸ hns3) hm3 ?_ (by decide)
  refine loc (s := ⟨h3, g, d, tk3, os⟩) hkd ((kO _).trans rfl) (hL ▸ hns3) hm1 ?_ (by decide)
  refine xb_store (ns := ["what"]) (X3 _ _ hC0) (looks_findIn X3 mk.set_) (looks_findIn X3 mk.at_) I3 (fun h4 tk4 I4 kb4 o4 => ?_) (Within.cons _ _ Within.nil) (by decide)
  have k4 : Kp h0 h4 := fun b o hb => kb4 b o (fun q => by rw [q, hn] at hb; cases hb) (fun o₀ dx q1 q2 q3 => by
    rw [he3] at q1; cases q1
    rcases hdx3 dx q2 with z | z
    · cases z
    · rw [← q3, k2 b o hb] at z; cases z) (k3 b o hb)
  refine hidG fun zG zh => ?_
  obtain ⟨oe4, he4, hc4, hd4, _⟩ := o4 _ he3
  refine zh ?_
  clear zh zG
  refine wpAny_execs_nil ?_
  refine hq h4 tk4 ⟨k4, hn, t1, oe4.dict, oe4.slots, ?_⟩
  rw [he4]
  refine hidG fun zG zh => ?_
  obtain ⟨a1, a2, a3, a4⟩ := oe4
  refine zh ?_
  clear zh zG
  dsimp only at hc4 hd4
  rw [hc3] at hc4
  rw [hd3] at hd4
  subst hc4 hd4
  rfl
end
end Mine
end

section
open PySem PySem.W PyProof.Rows PySem.Calls PySem.Spec
set_option maxRecDepth 100000
namespace Mine
noncomputable def Tr (h base : Heap) (e : Addr) (cls fl : Value) : Prop :=
  ∃ oe vs T oT ts, h.get? e = some oe ∧ (oe.cls = cls ∧ vs[2]? = some Value.none) ∧ oe.data = .fields vs ∧ vs[1]? = some (.ref T) ∧ base.get? T = none ∧ T ≠ e ∧ h.get? T = some oT ∧ oT.data = .fields ts ∧ ts[3]? = some fl
noncomputable def Nt (base : Heap) (l : List Env) (e : Addr) (cls fl : Value) (h h' : Heap) : Prop :=
  base.StaysIn h' ∧ h'.FunFrames base l ∧ Tr h' base e cls fl ∧ h.UpToSlots h'
section
variable {M : Model} {A : Around} {E : Value → Shared → Prop} {s : Shared}
theorem xe_entry {base : Heap} {env : Env} {outer : List Env} {L e : Addr} {oe : Obj} {vs : Array Value} {head : Value} {hadNext : Bool} {Q : Unit → Shared → Prop}
    (hfr : A.frames = some (env :: outer)) (hl : s.heap.FunFrames base (env :: outer)) (hf : env.frame = some L)
    (he : s.heap.get? e = some oe) (hkb : base.StaysIn s.heap) (hen : base.get? e = none) (hd : oe.data = .fields vs) (hsz : 1 < vs.size) (h2 : vs[2]? = some Value.none)
    (h : ∀ h', Nt base (env :: outer) e oe.cls (rawInt L) s.heap h' → Q () { s with heap := h' }) :
    wpAny M A (do let a ← frameOf env; let pl ← entryPlaceOf L hadNext; let b ← EntryCells.newEntry head a .none (rawInt L) .none pl; setField (.ref e) 1 b) Q E s := by
  have hene : e ∉ (env :: outer).filterMap (·.frame) := fun hm => by
    refine hidG fun zG zh => ?_
    obtain ⟨_, o, ho, hnf⟩ := hl.mem hm
    refine zh ?_
    clear zh zG
    rw [he] at ho; injection ho with ho; subst ho; exact hnf vs hd
  refine wpAny_bind (wpAny_frameOf_fun hfr hl hf fun h₁ hs₁ => ?_)
  refine wpAny_bind (wpAny_entryPlaceOf fun pl hpl => ?_)
  unfold EntryCells.newEntry newFields
  refine wpAny_bind (wpAny_newObj_type ?_ (hpl.sizeOk5 _ _ _ _ _))
  have he₁ : h₁.get? e = some oe := (hs₁.2.1 e hene).trans he
  have kb₁ : base.StaysIn h₁ := fun b o hbo => (hs₁.2.1 b fun hm => by rw [(hl.mem hm).1] at hbo; cases hbo).trans (hkb b o hbo)
  have he₂ := Heap.get?_push_of_some (h := h₁) { cls := .type "traceback", dict := none, data := .fields ([head, .ref L, .none, rawInt L, .none] ++ (if pl.isEmpty then List.replicate 6 Value.none else pl)).toArray } he₁
  refine wpAny_setField he₂ hd hsz (h _ ?_)
  have hTe : h₁.objs.size ≠ e := Nat.ne_of_gt (Heap.lt_size he₁)
  have hd₃ := Obj.data_mapFields hd (·.setIfInBounds 1 (Value.ref h₁.objs.size))
  have he₃ := Heap.get?_update_self (Obj.mapFields (·.setIfInBounds 1 (Value.ref h₁.objs.size))) he₂ (Obj.isFreed_of_fields hd₃)
  have hT₃ := (Heap.get?_update_other (h₁.push { cls := .type "traceback", dict := none, data := .fields ([head, .ref L, .none, rawInt L, .none] ++ (if pl.isEmpty then List.replicate 6 Value.none else pl)).toArray })
    (Obj.mapFields (·.setIfInBounds 1 (Value.ref h₁.objs.size))) (Ne.symm hTe)).trans (Heap.get?_push_size h₁ rfl)
  have keep : ∀ b o, b ≠ e → h₁.get? b = some o →
      ((h₁.push { cls := .type "traceback", dict := none, data := .fields ([head, .ref L, .none, rawInt L, .none] ++ (if pl.isEmpty then List.replicate 6 Value.none else pl)).toArray }).update e (Obj.mapFields (·.setIfInBounds 1 (Value.ref h₁.objs.size)))).get? b = some o :=
    fun b o hbe hb => by
      rw [Heap.get?_update_other _ _ (Ne.symm hbe)]
      exact Heap.get?_push_of_some _ hb
  have noRecord : ∀ b o, s.heap.get? b = some o → (∀ vs, o.data ≠ .fields vs) → b ≠ e := fun b o hb hnf q => by
    rw [q, he] at hb; injection hb with hb; subst hb; exact hnf vs hd
  refine ⟨fun b o hbo => keep b o (fun q => by rw [q, hen] at hbo; cases hbo) (kb₁ b o hbo), hl.of_keeps fun b o hb hnf => ?_, ?_, fun b o hb hnf => ?_⟩
  · obtain ⟨sl, hs⟩ := hs₁.2.2 b o hb
    exact ⟨_, keep b _ (noRecord b o hb hnf) hs, rfl⟩
  · exact ⟨_, _, h₁.objs.size, _, _, he₃, ⟨Obj.cls_mapFields _ _, by rw [Array.getElem?_setIfInBounds_ne (by decide)]; exact h2⟩, hd₃, by simp [hsz], kb₁.fresh, hTe, hT₃, rfl, by first | (simp; done) | (rcases hpl with rfl | ⟨_, _, _, _, _, _, _, rfl⟩ <;> simp)⟩
  · obtain ⟨sl, hs⟩ := hs₁.2.2 b o hb
    exact ⟨sl, keep b _ (noRecord b o hb hnf) hs⟩
theorem xe_first {base : Heap} {env : Env} {outer : List Env} {L e : Addr} {oe : Obj} {vs : Array Value} {Q : Unit → Shared → Prop}
    (hfr : A.frames = some (env :: outer)) (hl : s.heap.FunFrames base (env :: outer)) (hf : env.frame = some L)
    (he : s.heap.get? e = some oe) (hkb : base.StaysIn s.heap) (hen : base.get? e = none) (hd : oe.data = .fields vs) (h1 : vs[1]? = some Value.none) (h2 : vs[2]? = some Value.none)
    (h : ∀ h', Nt base (env :: outer) e oe.cls (rawInt L) s.heap h' → Q () { s with heap := h' }) : wpAny M A (noteFrame (.ref e) env) Q E s := by
  unfold noteFrame
  simp only [hf]
  refine wpAny_bind (wpAny_field he hd h1 ?_)
  rw [if_neg (by decide)]
  exact xe_entry hfr hl hf he hkb hen hd (Array.getElem?_eq_some_iff.mp h1).1 h2 h
theorem xe_on {base : Heap} {env : Env} {outer : List Env} {L e : Addr} {cls : Value} {Q : Unit → Shared → Prop}
    (hfr : A.frames = some (env :: outer)) (hl : s.heap.FunFrames base (env :: outer)) (hf : env.frame = some L) (ht : Tr s.heap base e cls .none) (hkb : base.StaysIn s.heap) (hen : base.get? e = none)
    (h : ∀ h', Nt base (env :: outer) e cls (rawInt L) s.heap h' → Q () { s with heap := h' }) : wpAny M A (noteFrame (.ref e) env) Q E s := by
  refine hidG fun zG zh => ?_
  obtain ⟨oe, vs, T, oT, ts, he, ⟨hcls, h0⟩, hd, h1, hnT, hTe, hT, hdT, h3⟩ := ht
  refine zh ?_
  clear zh zG
  subst hcls
  unfold noteFrame
  simp only [hf]
  refine wpAny_bind (wpAny_field he hd h1 ?_)
  rw [if_pos (show (Value.ref T != Value.none) = true from by simp)]
  refine wpAny_bind (wpAny_field hT hdT h3 ?_)
  rw [if_neg (show ¬ ((Value.none == rawInt L) = true) from by simp [rawInt])]
  refine wpAny_bind (wpAny_setField hT hdT (Array.getElem?_eq_some_iff.mp h3).1 ?_)
  have other : ∀ b, b ≠ T → (s.heap.update T (Obj.mapFields (·.setIfInBounds 3 Value.none))).get? b = s.heap.get? b := fun b hb => Heap.get?_update_other _ _ (Ne.symm hb)
  have noRecord : ∀ b o, s.heap.get? b = some o → (∀ vs, o.data ≠ .fields vs) → b ≠ T := fun b o hb hnf q => by
    rw [q, hT] at hb; injection hb with hb; subst hb; exact hnf ts hdT
  refine xe_entry hfr (hl.of_keeps fun b o hb hnf => ⟨o, (other b (noRecord b o hb hnf)).trans hb, rfl⟩) hf ((other e (Ne.symm hTe)).trans he)
    (fun b o hbo => (other b fun q => by rw [q, hnT] at hbo; cases hbo).trans (hkb b o hbo)) hen hd (Array.getElem?_eq_some_iff.mp h1).1 h0
    fun h' ⟨x1, x2, x3, x4⟩ => h h' ⟨x1, x2, x3, fun b o hb hnf => x4 b o ((other b (noRecord b o hb hnf)).trans hb) hnf⟩
theorem xe_fly {base : Heap} {l : List Env} {e : Addr} {cls fl : Value} {f : Option Addr} {Q : Unit → Shared → Prop}
    (hkb : base.StaysIn s.heap) (hl : s.heap.FunFrames base l) (ht : Tr s.heap base e cls fl)
    (h : ∀ h', base.StaysIn h' → h'.FunFrames base l → Tr h' base e cls (f.elim .none fun f => rawInt f) → s.heap.UpToSlots h' → Q () { s with heap := h' }) :
    wpAny M A (setFlight (.ref e) f) Q E s := by
  refine hidG fun zG zh => ?_
  obtain ⟨oe, vs, T, oT, ts, he, hcls, hd, h1, hnT, hTe, hT, hdT, h3⟩ := ht
  refine zh ?_
  clear zh zG
  have hsz3 : 3 < ts.size := (Array.getElem?_eq_some_iff.mp h3).1
  have other : ∀ b, b ≠ T → (s.heap.update T (Obj.mapFields (·.setIfInBounds 3 (f.elim Value.none fun f => rawInt f)))).get? b = s.heap.get? b :=
    fun b hb => Heap.get?_update_other _ _ (Ne.symm hb)
  have noRecord : ∀ b o, s.heap.get? b = some o → (∀ vs, o.data ≠ .fields vs) → b ≠ T := fun b o hb hnf q => by
    rw [q, hT] at hb; injection hb with hb; subst hb; exact hnf ts hdT
  unfold setFlight
  refine wpAny_bind (wpAny_field he hd h1 ?_)
  rw [if_pos (show (Value.ref T != Value.none) = true from by simp)]
  refine wpAny_setField hT hdT hsz3 (h _ (fun b o hbo => (other b fun q => by rw [q, hnT] at hbo; cases hbo).trans (hkb b o hbo))
    (hl.of_keeps fun b o hb hnf => ⟨o, (other b (noRecord b o hb hnf)).trans hb, rfl⟩) ?_ fun b o hb hnf => ⟨o.slots, (other b (noRecord b o hb hnf)).trans hb⟩)
  exact ⟨oe, vs, T, _, _, (other e (Ne.symm hTe)).trans he, hcls, hd, h1, hnT, hTe, Heap.get?_update_self _ hT (Obj.isFreed_of_fields (Obj.data_mapFields hdT _)), Obj.data_mapFields hdT _, by simp [hsz3]⟩
theorem xe_again {base : Heap} {env : Env} {L e : Addr} {cls : Value} {Q : Unit → Shared → Prop} (hf : env.frame = some L) (ht : Tr s.heap base e cls (rawInt L)) (h : Q () s) :
    wpAny M A (noteFrame (.ref e) env) Q E s := by
  refine hidG fun zG zh => ?_
  obtain ⟨oe, vs, T, oT, ts, he, hcls, hd, h1, hnT, hTe, hT, hdT, h3⟩ := ht
  refine zh ?_
  clear zh zG
  unfold noteFrame
  simp only [hf]
  refine wpAny_bind (wpAny_field he hd h1 ?_)
  rw [if_pos (show (Value.ref T != Value.none) = true from by simp)]
  refine wpAny_bind (wpAny_field hT hdT h3 ?_)
  rw [if_pos (show (rawInt L == rawInt L) = true from by simp)]
  exact wpAny_pure h
theorem xe_back {base : Heap} {env : Env} {outer : List Env} {L e : Addr} {cls fl : Value} (hf : env.frame = some L) (hkb : base.StaysIn s.heap) (hl : s.heap.FunFrames base (env :: outer)) (ht : Tr s.heap base e cls fl)
    (h : ∀ h', base.StaysIn h' → h'.FunFrames base (env :: outer) → Tr h' base e cls (rawInt L) → s.heap.UpToSlots h' → E (.ref e) { s with heap := h' }) : cameBackBy M A env E (.ref e) s := by
  have ht' := ht
  refine hidG fun zG zh => ?_
  obtain ⟨oe, vs, T, oT, ts, he, hcls, hd, h1, hnT, hTe, hT, hdT, h3⟩ := ht'
  refine zh ?_
  clear zh zG
  unfold cameBackBy
  refine wpAny_bind (wpAny_field he hd h1 ?_)
  rw [if_neg (show ¬ ((Value.ref T == Value.none) = true) from by simp)]
  rw [hf]
  exact xe_fly hkb hl ht fun h' a b c d => h h' a b c d
end
end Mine
end

section
open PySem PySem.W PyProof.Rows PySem.Calls PySem.Spec
set_option maxRecDepth 100000
namespace Mine
noncomputable def EX (P : Addr → Heap → Prop) (X : Prop) (s : Shared) (E : Value → Shared → Prop) : Prop :=
  ∀ (e : Addr) (h' : Heap) (tk' : Nat), X → P e h' → E (.ref e) { s with heap := h', toks := tk' }
noncomputable def WSE (S : St) (F : Heap → Prop) (P : Heap → Addr → Heap → Prop) (X : Prop) (σ : Sg) (ss : List Stmt) (Q : Out → Sg → Prop) : Prop :=
  ∀ (h₀ : Heap) (fz₀ fz : Led) (s : Shared), F h₀ → Rel S h₀ fz₀ σ fz s.heap → ∀ (K : Flow → Shared → Prop) (E : Value → Shared → Prop), CS S h₀ fz₀ fz s Q K → EX (P h₀) X s E → wpAny S.M S.A (execs ss S.env) K E s
noncomputable def WXE (S : St) (F : Heap → Prop) (P : Heap → Addr → Heap → Prop) (X : Prop) (σ : Sg) (st : Stmt) (Q : Out → Sg → Prop) : Prop :=
  ∀ (h₀ : Heap) (fz₀ fz : Led) (s : Shared), F h₀ → Rel S h₀ fz₀ σ fz s.heap → ∀ (K : Flow → Shared → Prop) (E : Value → Shared → Prop), CS S h₀ fz₀ fz s Q K → EX (P h₀) X s E → wpAny S.M S.A (exec st S.env) K E s
noncomputable def Raw (S : St) (C : Addr) (h₀ : Heap) (e : Addr) (h' : Heap) : Prop := Made h₀ h' e C ∧ ∃ m, h'.Ns S.env.locals m
noncomputable abbrev Ls (fr : List Env) : List Addr := fr.filterMap (·.frame)
noncomputable def FrG (fr : List Env) (h₀ : Heap) : Prop := h₀.FunFrames (hideAll h₀ (Ls fr)) fr
noncomputable def Hld (S : St) (C : Addr) (fr : List Env) (h₀ : Heap) (e : Addr) (h' : Heap) : Prop :=
  (hideAll h₀ (Ls fr)).StaysIn h' ∧ h'.FunFrames (hideAll h₀ (Ls fr)) (S.env :: fr) ∧ Tr h' (hideAll h₀ (Ls fr)) e (.ref C) (rawInt S.env.locals) ∧ h₀.UpToSlots h' ∧ h₀.get? e = none
section
variable {S : St} {C : Addr} {F : Heap → Prop} {P : Heap → Addr → Heap → Prop} {X : Prop} {σ : Sg} {Q : Out → Sg → Prop}
theorem WXE_of {st : Stmt} (h : WX S σ st Q) : WXE S F P X σ st Q := fun h₀ fz₀ fz s _ R K E c _ => h h₀ fz₀ fz s R K E c
theorem WSE_of {ss : List Stmt} (h : WS S σ ss Q) : WSE S F P X σ ss Q := fun h₀ fz₀ fz s _ R K E c _ => h h₀ fz₀ fz s R K E c
noncomputable def ThenE (S : St) (F : Heap → Prop) (P : Heap → Addr → Heap → Prop) (X : Prop) (rest : List Stmt) (Q : Out → Sg → Prop) : Out → Sg → Prop
  | .next, σ' => WSE S F P X σ' rest Q
  | o, σ' => Q o σ'
theorem thenE_next {rest : List Stmt} (h : WSE S F P X σ rest Q) : ThenE S F P X rest Q .next σ := h
theorem WSE_cons {st : Stmt} {rest : List Stmt} (h : WXE S F P X σ st (ThenE S F P X rest Q)) : WSE S F P X σ (st :: rest) Q := by
  intro h₀ fz₀ fz s hF R K E c ex
  refine wpAny_execs_cons (h h₀ fz₀ fz s hF R _ _ (fun o σ' f h' tk' fz' q sub R' ho => ?_) ex)
  have key : ∀ (q : Q o σ'), K f { s with heap := h', toks := tk' } := fun q => c o σ' f h' tk' fz' q sub R' ho
  cases o with
  | next =>
    cases f <;> first | (exact False.elim ho) | skip
    exact q h₀ fz₀ fz' { s with heap := h', toks := tk' } hF R' _ _ (fun o σ'' f h'' tk'' fz'' q' sub' => c o σ'' f h'' tk'' fz'' q' fun p hp => sub' p (sub p hp)) ex
  | brk => cases f <;> first | (exact False.elim ho) | exact key q
  | cont => cases f <;> first | (exact False.elim ho) | exact key q
  | ret d => cases f <;> first | (exact False.elim ho) | exact key q
theorem WXE_if {t : Expr} {b o : List Stmt} {pos : Pos} (h : WT S σ t fun c => (c = true → WSE S F P X σ b Q) ∧ (c = false → WSE S F P X σ o Q)) : WXE S F P X σ (.If t b o pos) Q := by
  intro h₀ fz₀ fz s hF ⟨μ, oa, R⟩ K E c ex
  refine wpAny_If (h ⟨h₀, μ, oa⟩ fz₀ fz s R _ _ fun y h' tk' fz' q sub R' => ?_)
  replace R' := R'.rel
  cases y with
  | true =>
    rw [if_pos rfl]
    exact q.1 rfl h₀ fz₀ fz' { s with heap := h', toks := tk' } hF R' _ _ (fun o σ' f h3 tk3 fz3 q3 sub3 => c o σ' f h3 tk3 fz3 q3 fun p hp => sub3 p (sub p hp)) ex
  | false =>
    rw [if_neg Bool.false_ne_true]
    exact q.2 rfl h₀ fz₀ fz' { s with heap := h', toks := tk' } hF R' _ _ (fun o σ' f h3 tk3 fz3 q3 sub3 => c o σ' f h3 tk3 fz3 q3 fun p hp => sub3 p (sub p hp)) ex
theorem frames_on {fr : List Env} {h₀ h' : Heap} (hF : FrG fr h₀) (k : Kp h₀ h') (hk : S.env.scope.kind = .function) (hf : S.env.frame = some S.env.locals) (hn : h₀.get? S.env.locals = none) (hns : ∃ m, h'.Ns S.env.locals m) : h'.FunFrames (hideAll h₀ (Ls fr)) (S.env :: fr) := by
  refine hidG fun zG zh => ?_
  obtain ⟨m, o, es, ep, ho, hd, _⟩ := hns
  refine zh ?_
  clear zh zG
  refine ⟨by rw [hk]; decide, ⟨_, o, hf, ?_, ho, fun vs q => by rw [hd] at q; cases q⟩, hF.of_keeps fun b o hb _ => ⟨o, k b o hb, rfl⟩⟩
  cases q : (hideAll h₀ (Ls fr)).get? S.env.locals with
  | none => rfl
  | some o' => rw [of_hideAll _ q] at hn; cases hn
theorem WXE_while {fr : List Env} {t : Expr} {body : List Stmt} {pos : Pos} (hfr : S.A.frames = some (S.env :: fr)) (hfn : S.fn = true) (J : Nat → Sg → Prop) (n : Nat) (σ₁ : Sg) (he : Ext σ₁ σ) (h0 : J n σ₁)
    (ht : ∀ n σ', J n σ' → WT S σ' t fun c => (c = true → WSE S (FrG fr) (Raw S C) X σ' body (Turn (fun σ'' => ∃ σ₁, Ext σ₁ σ'' ∧ ∃ m, m < n ∧ J m σ₁) Q)) ∧ (c = false → Q .next σ')) : WXE S (FrG fr) (Hld S C fr) X σ (.While t body [] pos) Q := by
  intro h₀ fz₀ fz s hF R K E c ex
  refine wpAny_While ?_
  have ok := R.ok
  have hn : h₀.get? S.env.locals = none := by obtain ⟨_, _, r⟩ := R; exact r.mutsNew _ ok.hL
  refine codeAny_whileLoop (fun n s' => ∃ h' tk' fz' σ', s' = { s with heap := h', toks := tk' } ∧ (∀ p ∈ fz, p ∈ fz') ∧ Rel S h₀ fz₀ σ' fz' h' ∧ J n σ') ?_ n ⟨s.heap, s.toks, fz, σ₁, rfl, fun _ h => h, R.weak he, h0⟩
  intro n s' zq
  refine hidG fun zG zh => ?_
  obtain ⟨h', tk', fz', σ', rfl, sub, ⟨μ', oa', R'⟩, hJ⟩ := zq
  refine zh ?_
  clear zh zG
  refine ht n σ' hJ ⟨h₀, μ', oa'⟩ fz₀ fz' { s with heap := h', toks := tk' } R' _ _ fun y h2 tk2 fz2 q sub2 R2 => ?_
  replace R2 := R2.rel
  cases y with
  | true =>
    rw [if_pos rfl]
    refine q.1 rfl h₀ fz₀ fz2 { s with heap := h2, toks := tk2 } hF R2 _ _ (fun o σ3 f h3 tk3 fz3 q3 sub3 R3 ho => ?_) (fun e h3 tk3 hX hP => ?_)
    · have sub' : ∀ p ∈ fz, p ∈ fz3 := fun p hp => sub3 p (sub2 p (sub p hp))
      cases o with
      | next =>
        cases f <;> first | (exact False.elim ho) | skip
        refine hidG fun zG zh => ?_
        obtain ⟨σ4, e4, m, hm, hj⟩ := q3
        refine zh ?_
        clear zh zG
        exact ⟨m, hm, h3, tk3, fz3, σ4, rfl, sub', R3.weak e4, hj⟩
      | cont =>
        cases f <;> first | (exact False.elim ho) | skip
        refine hidG fun zG zh => ?_
        obtain ⟨σ4, e4, m, hm, hj⟩ := q3
        refine zh ?_
        clear zh zG
        exact ⟨m, hm, h3, tk3, fz3, σ4, rfl, sub', R3.weak e4, hj⟩
      | brk =>
        cases f <;> first | (exact False.elim ho) | skip
        exact c .next σ3 .next h3 tk3 fz3 q3 sub' R3 trivial
      | ret d =>
        cases f <;> first | (exact False.elim ho) | skip
        exact c (.ret d) σ3 _ h3 tk3 fz3 q3 sub' R3 ho
    · refine hidG fun zG zh => ?_
      obtain ⟨⟨mk, mn, t1, dd, sl, mo⟩, hns⟩ := hP
      refine zh ?_
      clear zh zG
      have st : (hideAll h₀ (Ls fr)).StaysIn h3 := fun b o q => mk b o (of_hideAll _ q)
      have he0 : (hideAll h₀ (Ls fr)).get? e = none := by
        cases q : (hideAll h₀ (Ls fr)).get? e with
        | none => rfl
        | some o' => rw [of_hideAll _ q] at mn; cases mn
      refine xe_first (s := { s with heap := h3, toks := tk3 }) hfr (frames_on hF mk ok.kind (ok.frame hfn) hn hns) (ok.frame hfn) mo st he0 rfl rfl rfl fun h4 N4 => ?_
      refine hidG fun zG zh => ?_
      obtain ⟨n1, n2, n3, n4⟩ := N4
      refine zh ?_
      clear zh zG
      refine xe_back (s := { s with heap := h4, toks := tk3 }) (ok.frame hfn) n1 n2 n3 fun h5 a b cc d => ?_
      exact ex e h5 tk3 hX ⟨a, b, cc, ((Heap.UpToSlots.of_keeps mk).trans n4).trans d, mn⟩
  | false =>
    rw [if_neg Bool.false_ne_true]
    exact wpAny_execs_nil (c .next σ' .next h2 tk2 fz2 (q.2 rfl) (fun p hp => sub2 p (sub p hp)) R2 trivial)
end
-- the raise
section
variable {M : Model} {A : Around} {E : Value → Shared → Prop} {env : Env}
variable {nm q : Str} {C P N : Addr} {bs : List Value} {sn : List Str} {sub : List Value} {ab : Bool} {col : Option Bool} {dd : Option Addr} {k0 k1 k2 k3 k5 : Option Value}
theorem xd_stmt {s : Shared} {x : Sem Value} {Q : Flow → Shared → Prop} (hh : A.handled = none)
    (h : wpAny M A x (fun v s₁ => ∃ e t dx sl, v = .ref e ∧ s₁.heap.get? C = some (excClassObj nm q C N bs (.ref P :: bnE) true sn sub ab col dd k0 k1 k2 k3 k5 "Exception.__new__") ∧
      s₁.heap.get? e = some (excObj C t dx sl) ∧ E (.ref e) s₁) E s) :
    wpAny M A (raiseStmt env (some x) none) Q E s := by
  have hcB : (Value.ref C :: Value.ref P :: bnE).contains (.type "BaseException") = true := by rw [has_exc]; decide
  unfold raiseStmt
  refine wpAny_bind (wpAny_mono h (fun v s₁ h₁ => ?_) fun _ _ x => x)
  refine hidG fun zG zh => ?_
  obtain ⟨e, t, dx, sl, rfl, hC, he, hE⟩ := h₁
  refine zh ?_
  clear zh zG
  refine hidG fun zG zh => ?_
  obtain ⟨hp, g, d, tk, os⟩ := s₁
  refine zh ?_
  clear zh zG
  repeat (first | with_reducible refine wpAny_loadPart_at he ?_ | with_reducible refine wpAny_loadPart_at hC ?_ | (with_reducible refine wpAny_isSubtype_exc hC ?_; rw [hcB]) | wp_step)
  exact wpAny_raiseNew_none hh hE
end

theorem In_of_held {K : Frag} {fz : Led} {h : Heap} (hK : ∀ a o, K.lookup a = some o → (a, o) ∈ fz) (H : Held fz h) : K.In h := fun a o e => H _ (hK a o e)
theorem WXE_raise {S : St} {F : Heap → Prop} {X : Prop} {σ : Sg} {Q : Out → Sg → Prop} {K : Frag} {C P fI : Addr} {np cpos pos : Pos} {a1 a2 : Expr} (mk : MimeK K C P fI) (hK : ∀ a o, K.lookup a = some o → (a, o) ∈ S.G.gfz) (hm : S.G.mg "MimeFault" = some (.ref C))
    (hk : S.env.kindOf "MimeFault" = some .globalImplicit) (hE : S.G.mg "Exception" = none) (hn : S.nh = true) (hdp : 1 ≤ S.dp) (h : WL S σ [a1, a2] fun ds => ds.length = 2 ∧ X)
    (he1 : ∀ env, starEach [a1, a2] env = [(false, eval a1 env), (false, eval a2 env)] := by intro _; rfl) :
    WXE S F (Raw S C) X σ (.Raise (some (.Call (.Name "MimeFault" np) [a1, a2] [] cpos)) none pos) Q := by
  refine hidG fun zG zh => ?_
  obtain ⟨nm, q, N, bs, sn, sub, ab, col, dd, y0, y1, y2, y3, y5, hC0⟩ := id mk.cls
  refine zh ?_
  clear zh zG
  refine hidG fun zG zh => ?_
  obtain ⟨od, fd, osl, hfn, _⟩ := id mk.fn
  refine zh ?_
  clear zh zG
  intro h₀ fz₀ fz s hF R KK E c ex
  obtain ⟨μ, oa, R⟩ := R
  have RE : RelE S ⟨h₀, μ, oa⟩ fz₀ σ fz s.heap := R
  have hh := R.ok.hand hn
  rw [arm_exec_Raise]
  have arg : wpAny S.M S.A (eval (.Name "MimeFault" np) S.env) (fun f s₁ => wpAny S.M S.A (callWith cpos f [] (backTo cpos (starEach [a1, a2] S.env)) (backToKw cpos (keywordEach [] S.env))) (fun v s₁ => ∃ e t dx sl, v = .ref e ∧ s₁.heap.get? C = some (excClassObj nm q C N bs (.ref P :: bnE) true sn sub ab col dd y0 y1 y2 y3 y5 "Exception.__new__") ∧
      s₁.heap.get? e = some (excObj C t dx sl) ∧ E (.ref e) s₁) E s₁) E s := by
    refine load_glob RE hk hm ?_ (by decide)
    have hplain : (backTo cpos (starEach [a1, a2] S.env)).any (·.1) = false := by rw [he1]; rfl
    have h₁ : wpAny S.M S.A (evalArgs (.ref C) true (backTo cpos (starEach [a1, a2] S.env)) []) (fun a s₂ => a.kw = [] ∧ a.pos.length = 2 ∧ X ∧ ∃ fz2, RelE S ⟨h₀, μ, oa⟩ fz₀ σ fz2 s₂.heap ∧ ∃ tk, s₂ = { s with heap := s₂.heap, toks := tk }) E s := by
      have hs := h cpos ⟨h₀, μ, oa⟩ fz₀ fz s RE (fun vs s₂ => (⟨vs, []⟩ : Args).kw = [] ∧ (⟨vs, []⟩ : Args).pos.length = 2 ∧ X ∧ ∃ fz2, RelE S ⟨h₀, μ, oa⟩ fz₀ σ fz2 s₂.heap ∧ ∃ tk, s₂ = { s with heap := s₂.heap, toks := tk }) E
        fun ds vs h2 tk2 fz2 q2 sub2 R2 hi2 => ⟨rfl, hi2.length.trans q2.1, q2.2, fz2, R2, tk2, rfl⟩
      rw [he1] at hs ⊢
      exact evalArgs_plain hs
    unfold callWith
    refine wpAny_bind (wpAny_holding (wpAny_mono h₁ (fun a s₂ h₂ => wpAny_bind (wpAny_standAt ?_)) fun _ _ x => x))
    obtain ⟨apos, akw⟩ := a
    refine hidG fun zG zh => ?_
    obtain ⟨hkw, hlen, hX, fz2, R2, tk2, es2⟩ := h₂
    refine zh ?_
    clear zh zG
    obtain rfl : akw = [] := hkw
    refine hidG fun zG zh => ?_
    obtain ⟨hp, g, d, tk, os⟩ := s₂
    refine zh ?_
    clear zh zG
    cases es2
    have gl2 := R2.gl
    have X2 : K.In hp := In_of_held hK gl2.gh
    have hlen : apos.length = 2 := hlen
    obtain ⟨v1, v2, rfl⟩ := len2 hlen
    rw [hplain]
    refine wpAny_bind (wpAny_keeperOf_exc (X2 _ _ hC0) ?_)
    refine wpAny_bind (xa_call (X2 _ _ hC0) (looks_findIn X2 mk.init) (X2 _ _ hfn) rfl (fun h' e hm => ?_) (by show 2 ≤ sizeLine; rw [sizeLine_eq]; walk_at "o"))
    refine hidG fun zG zh => ?_
    obtain ⟨t, ht, _, _⟩ := hm.there
    refine zh ?_
    clear zh zG
    refine xc_run mk gl2 X2 hE hm.keeps hm.new ht ?_ fun h5 tk5 M5 => ⟨rfl, wpAny_bind (wpAny_holding (wpAny_point (wpAny_pure ?_)))⟩
    · have := R.ok.depth
      have hw : (Code.builtin "type.__call__" ⟨.ref C :: [v1, v2], []⟩).weight = 1 := by kernel_rfl
      show S.A.depth + (Code.builtin "type.__call__" ⟨.ref C :: [v1, v2], []⟩).weight < recursionLimit
      rw [hw]; walk_at "o"
    · refine hidG fun zG zh => ?_
      obtain ⟨kp, nw, t1, dx, sl, ho⟩ := M5
      refine zh ?_
      clear zh zG
      have r2 := R2.at
      refine ⟨e, t1, dx, sl, rfl, kp _ _ (X2 _ _ hC0), ho, ?_⟩
      refine ex e h5 tk5 hX ⟨⟨fun b o hb => kp _ _ (r2.keep b o hb), r2.keep.none nw, t1, dx, sl, ho⟩, ?_⟩
      obtain ⟨m, hns, _⟩ := r2.ns
      exact ⟨m, hns.keeps kp⟩
  exact wpAny_bind (wpAny_standAt (xd_stmt hh (wpAny_bind (wpAny_mono (wpAny_Call_ofName arg) (fun v s₃ h₃ => wpAny_bind (wpAny_standAt (wpAny_pure h₃))) fun _ _ x => x))))
end Mine
end

section
open PySem PySem.W PyProof.Rows PySem.Calls PySem.Spec
set_option maxRecDepth 100000
namespace Mine
theorem enter_rel {G : Gp} {k : Nat} {nh : Bool} {ds : List Dat} (d : DefR) (P : Plain d ds.length) {A : Around} {fz : Led} {s : Shared} {vs : List Value} {f : Addr} {code : Value} {h₁ : Heap} (st : Site G (k + 1) nh A fz s.heap) (hi : DatAll fz vs ds)
    (F : Fr s.heap s.heap.objs.size h₁ (bindL (envOfC d.name d.scope s.heap.objs.size f code).kindOf ((d.params.args.map (·.arg)).zip vs) fun _ => none))
    (X : Cl s.heap.objs.size (cellsFrom (s.heap.objs.size + 1) d.scope.names []) h₁ (bindC (envOfC d.name d.scope s.heap.objs.size f code).kindOf ((d.params.args.map (·.arg)).zip vs) fun _ => none)) :
    Rel (fnSt G d A s.heap.objs.size f code nh k none) s.heap fz (σ₀ (d.params.args.map (·.arg)) ds) fz h₁ := by
  let S := fnSt G d A s.heap.objs.size f code nh k none
  let cs := cellsFrom (s.heap.objs.size + 1) d.scope.names []
  let binds := (d.params.args.map (·.arg)).zip vs
  let μ : Str → Option Value := fun x => lastB binds none x
  have hmix : ∀ x c, cs.lookup x = some c → d.scope.names.lookup x = some .cell := fun x c hc => by
    rcases cells_names (mem_of_lookup hc) with h | h
    · cases h
    · have := List.all_eq_true.mp P.mix _ h
      simpa using this
  have fresh : ∀ a, s.heap.objs.size ≤ a → s.heap.get? a = none := fun a ha => by
    cases e : s.heap.get? a with
    | none => rfl
    | some o' => exact absurd (Heap.lt_size e) (Nat.not_lt.mpr ha)
  have cabove : ∀ b ∈ cs.map (·.2), s.heap.objs.size < b := fun b hb => by
    obtain ⟨p, hp, rfl⟩ := List.mem_map.mp hb
    exact X.above p.1 p.2 hp
  refine ⟨μ, none, ?_⟩
  refine { ok := ?_, gl := st.gl, gz := st.gz, hk := st.hk, keep := F.keep, ns := ⟨_, F.ns, fun x hx => bindL_last _ hx _ _⟩, cells := fun x c hc => ?_, cin := fun x c hc => .inl (.tail _ (List.mem_map.mpr ⟨(x, c), mem_of_lookup hc, rfl⟩)), mutsNew := ?_, mutsIn := ?_, mutsFz := ?_, held := fun p hp => F.keep _ _ (st.held p hp), fzNew := fun p hp => .inl hp, fz0 := fun p hp => hp, dom := ?_, bds := ?_, oaOk := (fun a e => by cases e), uniq := ?_, tape := ⟨trivial, fun b hb => (nomatch hb)⟩ }
  · refine { kind := P.kind, glob := rfl, bt := rfl, hL := .head _, inter := ?_, depth := ?_, units := ?_, hand := st.hand, frame := fun _ => rfl, apart := fun _ x c y c' hc hc' e => ?_, localNot := fun x hx c hc => ?_, cellL := fun _ x c hc => ⟨?_, ?_⟩, hotK := (fun _ _ _ _ => trivial), tapeK := (fun ta tc e => by cases e) }
    · show (d.scope.kind == .module && _) = false
      rw [P.kind]; rfl
    · show A.depth + 1 + k < _; have := st.depth; walk_at "o"
    · show A.units + 3 + 3 * k + 50 < _; have := st.units; walk_at "o"
    · exact name_of_addr X.apart (mem_of_lookup hc) (e ▸ mem_of_lookup hc')
    · have e1 : d.scope.names.lookup x = some .local := hx
      rw [hmix x c hc] at e1; cases e1
    · exact Nat.ne_of_gt (X.above x c (mem_of_lookup hc))
    · exact .tail _ (List.mem_map.mpr ⟨(x, c), mem_of_lookup hc, rfl⟩)
  · have := X.cell x c hc
    have hk : (envOfC d.name d.scope s.heap.objs.size f code).kindOf x ≠ some .local := by
      show d.scope.names.lookup x ≠ _
      rw [hmix x c hc]; intro q; cases q
    rw [bindC_last _ hk] at this
    exact this
  · intro b hb
    rcases List.mem_cons.mp hb with rfl | hb
    · exact fresh _ (Nat.le_refl _)
    · exact fresh _ (Nat.le_of_lt (cabove b hb))
  · intro b hb
    rcases List.mem_cons.mp hb with rfl | hb
    · obtain ⟨o, _, _, ho, _⟩ := F.ns; rw [ho]; rfl
    · obtain ⟨p, hp, rfl⟩ := List.mem_map.mp hb
      have hnd : (cs.map (·.1)).Nodup := cellsFrom_names d.scope.names 0 (s.heap.objs.size + 1) [] [] rfl ▸ distinct_nodup P.nd
      obtain ⟨o, ho, _⟩ := X.cell p.1 p.2 (lookup_of_mem_nodup hnd hp)
      rw [ho]; rfl
  · intro p hp hm
    have := Heap.lt_size (st.held p hp)
    rcases List.mem_cons.mp hm with e | hm
    · rw [e] at this; exact Nat.lt_irrefl _ this
    · exact Nat.lt_irrefl _ (Nat.lt_trans this (cabove _ hm))
  · intro x b e
    obtain ⟨hx, _⟩ := σ₀_get (o := none) P.dist (by rw [P.len]) hi e
    have := List.all_eq_true.mp P.kinds _ hx
    unfold isVar
    show (match d.scope.names.lookup x with | some .local => true | some .cell => (cs.lookup x).isSome | _ => false) = true
    rcases Bool.or_eq_true_iff.mp this with q | q
    · have q' : d.scope.names.lookup x = some .local := by simpa using q
      rw [q']
    · have q' : d.scope.names.lookup x = some .cell := by simpa using q
      rw [q']
      exact cellsFrom_some _ _ _ (.inl q')
  · intro x b e
    refine hidG fun zG zh => ?_
    obtain ⟨hx, v, d', rfl, e2, e3⟩ := σ₀_get (o := none) P.dist (by rw [P.len]) hi e
    refine zh ?_
    clear zh zG
    exact ⟨v, e2, e3⟩
  · intro x y dx dy e _
    refine hidG fun zG zh => ?_
    obtain ⟨hx, v, d', e', _⟩ := σ₀_get (o := none) P.dist (by rw [P.len]) hi e
    refine zh ?_
    clear zh zG
    cases e'
structure Flew (h₀ h' : Heap) (fr : List Env) (e C : Addr) : Prop where
  stays : (hideAll h₀ (Ls fr)).StaysIn h'
  frames : h'.FunFrames (hideAll h₀ (Ls fr)) fr
  tr : Tr h' (hideAll h₀ (Ls fr)) e (.ref C) .none
  slots : h₀.UpToSlots h'
  new : h₀.get? e = none
theorem enterX {G : Gp} {i k : Nat} {nh : Bool} {ds : List Dat} {Q : Dat → Prop} {C : Addr} {X : Prop} (d : DefR) (hd : G.defs[i]? = some d) (P : Plain d ds.length) {fr : List Env}
    (hb : ∀ A L a code, (fnSt G d A L a code nh k none).A.frames = some ((fnSt G d A L a code nh k none).env :: fr) → WSE (fnSt G d A L a code nh k none) (FrG fr) (Hld (fnSt G d A L a code nh k none) C fr) X (σ₀ (d.params.args.map (·.arg)) ds) d.body (Ret Q))
    {f : Addr} (hf : G.mg d.name = some (.ref f)) {A : Around} {fz : Led} {s : Shared} {vs : List Value} (hfr : A.frames = some fr) (hF : FrG fr s.heap) (st : Site G (k + 1) nh A fz s.heap) (hi : DatAll fz vs ds) {K : Value → Shared → Prop} {E : Value → Shared → Prop}
    (c : ∀ d v h' tk' fz', Q d → Back s.heap fz h' fz' → DatIn fz' v d → K v { s with heap := h', toks := tk' })
    (ex : ∀ e h' tk', X → Flew s.heap h' fr e C → E (.ref e) { s with heap := h', toks := tk' }) : wpAny (model G.prog G.w) A (call (.ref f) vs) K E s := by
  refine hidG fun zG zh => ?_
  obtain ⟨a, o, pm, code, doc, hm, ho, hdat, hcd⟩ := st.gl.fns i d hd
  refine zh ?_
  clear zh zG
  rw [hm] at hf
  cases hf
  have hlen : vs.length = ds.length := hi.length
  refine wpAny_call (call_cells (by have := st.depth; walk_at "o") ho hdat st.gl.nolimit hcd (P.bind pm code doc vs hlen) (fun x hx => ?_) (fun h₁ tk F X => ?_) P.co P.gen P.kind)
  · have hx1 : x.1 ∈ d.params.args.map (·.arg) := (List.of_mem_zip (a := x.1) (b := x.2) hx).1
    have := List.all_eq_true.mp P.kinds _ hx1
    rcases Bool.or_eq_true_iff.mp this with q | q
    · exact .inl (by simpa using q)
    · have q' : d.scope.names.lookup x.1 = some .cell := by simpa using q
      exact .inr ⟨q', cellsFrom_some _ _ _ (.inl q')⟩
  · have R := enter_rel (s := s) d P st hi F X
    have hfr' : (fnSt G d A s.heap.objs.size f code nh k none).A.frames = some ((fnSt G d A s.heap.objs.size f code nh k none).env :: fr) := by
      show A.frames.map _ = _
      rw [hfr]; rfl
    refine hb A s.heap.objs.size f code hfr' s.heap fz fz { s with heap := h₁, toks := tk } hF R _ _ (fun o σ' fl h' tk' fz' q sub R' ho => ?_) (fun e h3 tk3 hX hP => ?_)
    · obtain ⟨μ', oa', R'⟩ := R'
      have B : Back s.heap fz h' fz' := ⟨R'.keep, sub, R'.held, R'.fzNew⟩
      cases o with
      | ret d' => cases fl <;> first | (exact False.elim ho) | exact c d' _ h' tk' fz' q B ho
      | next => cases fl <;> first | (exact False.elim ho) | exact c .none _ h' tk' fz' q B .none
      | brk => exact q.elim
      | cont => exact q.elim
    · refine hidG fun zG zh => ?_
      obtain ⟨p1, p2, p3, p4, p5⟩ := hP
      refine zh ?_
      clear zh zG
      unfold leaving
      refine wpAny_bind (xe_again (s := { s with heap := h3, toks := tk3 }) (L := s.heap.objs.size) rfl p3 ?_)
      refine xe_fly (s := { s with heap := h3, toks := tk3 }) p1 p2 p3 fun h4 q1 q2 q3 q4 => ?_
      exact ex e h4 tk3 hX ⟨q1, q2.2.2, q3, p4.trans q4, p5⟩
end Mine
end

section
open PySem PySem.W PyProof.Rows PySem.Calls PySem.Spec
set_option maxRecDepth 100000
namespace Mine
section
variable {S : St} {h₀ h h' : Heap} {fz₀ fz fz' : Led} {σ : Sg} {μ : Str → Option Value} {oa : Option Addr}
theorem RelAt.backF (R : RelAt S h₀ fz₀ σ fz h μ oa) (hfn : S.fn = true) (k : ∀ b o, b ∉ S.env.locals :: S.hot → h.get? b = some o → h'.get? b = some o)
    (hL : ∀ o, h.get? S.env.locals = some o → ∃ sl, h'.get? S.env.locals = some { o with slots := sl }) (sub : ∀ p ∈ fz, p ∈ fz') (hd : Held fz' h') (new : ∀ p ∈ fz', p ∈ fz ∨ h.get? p.1 = none)
    (ht : S.hotP h') (hl : ∀ b ∈ S.hot, (h'.get? b).isSome = true) : RelAt S h₀ fz₀ σ fz' h' μ oa := by
  have ok := R.ok
  have ntM : ∀ b ∈ S.muts, b ≠ S.env.locals → b ∉ S.env.locals :: S.hot := fun b hb hne hm => by
    rcases List.mem_cons.mp hm with e | hm
    · exact hne e
    · exact (R.tape.each b hm).1 hb
  have nt0 : ∀ b o, h₀.get? b = some o → b ∉ S.env.locals :: S.hot := fun b o e hm => by
    rcases List.mem_cons.mp hm with q | hm
    · rw [q, R.mutsNew _ ok.hL] at e; cases e
    · rw [(R.tape.each b hm).2.1] at e; cases e
  have hot : ∀ p ∈ fz', p ∉ fz → ∀ a, (h.get? a).isSome = true → p.1 ≠ a := by
    intro p hp hq a ha e
    rcases new p hp with h1 | h1
    · exact hq h1
    · rw [← e, h1] at ha; cases ha
  refine { ok := ok, gl := R.gl, gz := fun p hp => sub _ (R.gz p hp), hk := R.hk, keep := fun b o e => k b o (nt0 b o e) (R.keep b o e), ns := ?_, cells := fun x c e => ?_, cin := R.cin, mutsNew := R.mutsNew, mutsIn := ?_, mutsFz := ?_, held := hd, fzNew := ?_, fz0 := fun p hp => sub _ (R.fz0 p hp), dom := R.dom, bds := ?_, oaOk := ?_, uniq := R.uniq, tape := ?_ }
  · refine hidG fun zG zh => ?_
    obtain ⟨m, ⟨o, es, ep, ho, hd, r⟩, e⟩ := R.ns
    refine zh ?_
    clear zh zG
    obtain ⟨sl, hs⟩ := hL o ho
    exact ⟨m, ⟨_, es, ep, hs, hd, r⟩, e⟩
  · obtain ⟨o, ho, hd⟩ := R.cells x c e
    refine ⟨o, k _ _ ?_ ho, hd⟩
    rcases R.cin x c e with hc | hc
    · exact ntM _ hc (ok.cellL hfn x c e).1
    · obtain ⟨o', ho'⟩ := Option.isSome_iff_exists.mp hc
      exact nt0 _ _ ho'
  · intro a ha
    obtain ⟨o, ho⟩ := Option.isSome_iff_exists.mp (R.mutsIn a ha)
    by_cases hq : a = S.env.locals
    · subst hq
      obtain ⟨sl, hs⟩ := hL o ho
      rw [hs]; rfl
    · rw [k _ _ (ntM _ ha hq) ho]; rfl
  · intro p hp hm
    by_cases hq : p ∈ fz
    · exact R.mutsFz p hq hm
    · exact hot p hp hq _ (R.mutsIn _ hm) rfl
  · intro p hp
    rcases new p hp with h1 | h1
    · exact R.fzNew p h1
    · exact .inr (R.keep.none h1)
  · intro x b e
    exact (R.bds x b e).mono sub fun a ha o ho => k a o (fun hm => by
      rcases List.mem_cons.mp hm with q | hm
      · exact (R.oaOk a ha).1 (q ▸ ok.hL)
      · exact (R.oaOk a ha).2.2.2.2 hm) ho
  · intro a ha
    refine hidG fun zG zh => ?_
    obtain ⟨e1, e2, e3, e4, e5⟩ := R.oaOk a ha
    refine zh ?_
    clear zh zG
    refine ⟨e1, e2, fun p hp => ?_, ?_, e5⟩
    · by_cases hq : p ∈ fz
      · exact e3 p hq
      · exact hot p hp hq a e4
    · obtain ⟨o, ho⟩ := Option.isSome_iff_exists.mp e4
      rw [k a o (fun hm => by
        rcases List.mem_cons.mp hm with q | hm
        · exact e1 (q ▸ ok.hL)
        · exact e5 hm) ho]; rfl
  · refine ⟨ht, fun b hb => ?_⟩
    refine hidG fun zG zh => ?_
    obtain ⟨e1, e2, e3, e4⟩ := R.tape.each b hb
    refine zh ?_
    clear zh zG
    refine ⟨e1, e2, hl b hb, fun p hp => ?_⟩
    by_cases hq : p ∈ fz
    · exact e4 p hq
    · exact hot p hp hq b e3

noncomputable def FP (fr : List Env) (g : Heap) : Heap → Prop := fun h => ∀ b ∈ Ls fr, ∀ o, g.get? b = some o → ∃ sl, h.get? b = some { o with slots := sl }
theorem FP.keep {fr : List Env} {g : Heap} (h h' : Heap) (p : FP fr g h) (k : ∀ b ∈ Ls fr, ∀ o, h.get? b = some o → h'.get? b = some o) : FP fr g h' := fun b hb o e => by obtain ⟨sl, e1⟩ := p b hb o e; exact ⟨sl, k b hb _ e1⟩
theorem frG_of {fr : List Env} {g h : Heap} (hF : FrG fr g) (hp : FP fr g h) : FrG fr h := by
  have key : ∀ l : List Env, (∀ e ∈ l, e ∈ fr) → g.FunFrames (hideAll g (Ls fr)) l → h.FunFrames (hideAll h (Ls fr)) l := by
    intro l
    induction l with
    | nil => intro _ _; trivial
    | cons e l ih =>
      intro hs zq
      refine hidG fun zG zh => ?_
      obtain ⟨h1, ⟨L, o, hf, _, ho, hd⟩, h3⟩ := zq
      refine zh ?_
      clear zh zG
      have hm : L ∈ Ls fr := List.mem_filterMap.mpr ⟨e, hs e (.head _), hf⟩
      obtain ⟨sl, hq⟩ := hp L hm o ho
      exact ⟨h1, ⟨L, _, hf, hideAll_none _ hm, hq, hd⟩, ih (fun e' he => hs e' (.tail _ he)) h3⟩
  exact key fr (fun _ h => h) hF
structure FrS (S : St) (fr : List Env) (g : Heap) : Prop where
  stack : S.A.frames = some (S.env :: fr)
  fn : S.fn = true
  hot : S.hot = Ls fr
  hotP : S.hotP = FP fr g
  ok : FrG fr g
theorem FrS.now {fr : List Env} {g : Heap} (f : FrS S fr g) (R : RelAt S h₀ fz₀ σ fz h μ oa) : FrG (S.env :: fr) h := by
  have ok := R.ok
  have p := R.tape.p
  rw [f.hotP] at p
  refine hidG fun zG zh => ?_
  obtain ⟨m, ⟨o, es, ep, ho, hd, r⟩, e⟩ := R.ns
  refine zh ?_
  clear zh zG
  have hf := ok.frame f.fn
  have hLs : Ls (S.env :: fr) = S.env.locals :: Ls fr := by show List.filterMap _ _ = _; rw [List.filterMap_cons, hf]
  have F := frG_of f.ok p
  refine ⟨by rw [ok.kind]; decide, ⟨_, o, hf, hideAll_none _ (by rw [hLs]; exact .head _), ho, fun vs q => by rw [hd] at q; cases q⟩, ?_⟩
  have key : ∀ l : List Env, (∀ e ∈ l, e ∈ fr) → h.FunFrames (hideAll h (Ls fr)) l → h.FunFrames (hideAll h (Ls (S.env :: fr))) l := by
    intro l
    induction l with
    | nil => intro _ _; trivial
    | cons e l ih =>
      intro hs zq
      refine hidG fun zG zh => ?_
      obtain ⟨h1, ⟨L, o, hf, _, ho, hd⟩, h3⟩ := zq
      refine zh ?_
      clear zh zG
      have hm : L ∈ Ls (S.env :: fr) := by rw [hLs]; exact .tail _ (List.mem_filterMap.mpr ⟨e, hs e (.head _), hf⟩)
      exact ⟨h1, ⟨L, _, hf, hideAll_none _ hm, ho, hd⟩, ih (fun e' he => hs e' (.tail _ he)) h3⟩
  exact key fr (fun _ h => h) F
theorem FrS.back {fr : List Env} {g : Heap} (f : FrS S fr g) (R : RelAt S h₀ fz₀ σ fz h μ oa) (st : (hideAll h (Ls (S.env :: fr))).StaysIn h') (sl : h.UpToSlots h') : RelAt S h₀ fz₀ σ fz h' μ oa := by
  have ok := R.ok
  have hf := ok.frame f.fn
  have hLs : Ls (S.env :: fr) = S.env.locals :: S.hot := by show List.filterMap _ _ = _; rw [List.filterMap_cons, hf, f.hot]
  have F := (f.now R)
  have k : ∀ b o, b ∉ S.env.locals :: S.hot → h.get? b = some o → h'.get? b = some o := fun b o hb e => st b o (hideAll_get _ e (by rw [hLs]; exact hb))
  have nf : ∀ b ∈ S.env.locals :: S.hot, ∃ o, h.get? b = some o ∧ ∀ vs, o.data ≠ .fields vs := fun b hb => (Heap.FunFrames.mem F (by rw [← hLs] at hb; exact hb)).2
  have p := R.tape.p
  rw [f.hotP] at p
  refine R.backF f.fn k (fun o ho => ?_) (fun _ h => h) (fun q hq => k _ _ (fun hm => ?_) (R.held q hq)) (fun _ hp => .inl hp) ?_ (fun b hb => ?_)
  · obtain ⟨o', ho', hn⟩ := nf _ (.head _)
    rw [ho] at ho'; cases ho'
    exact sl _ _ ho hn
  · rcases List.mem_cons.mp hm with e | hm
    · exact R.mutsFz q hq (e ▸ ok.hL)
    · exact (R.tape.each _ hm).2.2.2 q hq rfl
  · rw [f.hotP]
    intro b hb o e
    obtain ⟨s1, e1⟩ := p b hb o e
    have hb' : b ∈ S.env.locals :: S.hot := .tail _ (by rw [f.hot]; exact hb)
    obtain ⟨o', ho', hn⟩ := nf b hb'
    rw [e1] at ho'; cases ho'
    obtain ⟨s2, e2⟩ := sl _ _ e1 hn
    exact ⟨s2, e2⟩
  · obtain ⟨o, ho, hn⟩ := nf b (.tail _ hb)
    obtain ⟨s1, e1⟩ := sl _ _ ho hn
    rw [e1]; rfl
end
end Mine
end

section
open PySem PySem.W PyProof.Rows PySem.Calls PySem.Spec
set_option maxRecDepth 100000
namespace Mine
noncomputable def UpL (fr : List Env) (h h' : Heap) : Prop := ∀ b ∈ Ls fr, ∀ o, h.get? b = some o → ∃ sl, h'.get? b = some { o with slots := sl }
noncomputable def CallF (G : Gp) (f : Addr) (k : Nat) (nh : Bool) (ds : List Dat) (Q : Dat → Prop) : Prop :=
  ∀ (A : Around) (fz : Led) (s : Shared) (vs : List Value) (fr : List Env), A.frames = some fr → FrG fr s.heap → SiteH G k nh A fz s.heap (Ls fr) → DatAll fz vs ds → ∀ (K : Value → Shared → Prop) (E : Value → Shared → Prop),
    (∀ d v h' tk' fz', Q d → BackH (Ls fr) s.heap fz h' fz' → UpL fr s.heap h' → DatIn fz' v d → K v { s with heap := h', toks := tk' }) → wpAny (model G.prog G.w) A (call (.ref f) vs) K E s
noncomputable def SpF (G : Gp) (i k : Nat) (nh : Bool) (ds : List Dat) (Q : Dat → Prop) : Prop :=
  ∀ d f, G.defs[i]? = some d → G.mg d.name = some (.ref f) → CallF G f k nh ds Q
theorem SpF.mono {G : Gp} {i k : Nat} {nh : Bool} {ds : List Dat} {Q Q' : Dat → Prop} (h : SpF G i k nh ds Q) (hq : ∀ d, Q d → Q' d) : SpF G i k nh ds Q' :=
  fun d f e1 e2 A fz s vs fr a b st hi K E c => h d f e1 e2 A fz s vs fr a b st hi K E fun d v h' tk' fz' q => c d v h' tk' fz' (hq d q)
noncomputable abbrev fSt (G : Gp) (d : DefR) (A : Around) (L a : Addr) (code : Value) (nh : Bool) (k : Nat) (fr : List Env) (g : Heap) : St := fnSt G d A L a code nh k none 0 (Ls fr) (FP fr g)
theorem enterF {G : Gp} {i k : Nat} {nh : Bool} {ds : List Dat} {Q : Dat → Prop} (d : DefR) (hd : G.defs[i]? = some d) (P : Plain d ds.length)
    (hb : ∀ A L a code fr g, FrS (fSt G d A L a code nh k fr g) fr g → WS (fSt G d A L a code nh k fr g) (σ₀ (d.params.args.map (·.arg)) ds) d.body (Ret Q)) : SpF G i (k + 1) nh ds Q := by
  intro d' f hd' hf A fz s vs fr hfr hF st hi K E c
  rw [hd] at hd'
  cases Option.some.inj hd'
  have hlen : vs.length = ds.length := hi.length
  refine enterH d hd (hlen ▸ P) hf st (fun b hb o e => ⟨o.slots, e⟩ : FP fr s.heap s.heap) FP.keep (fun ta tc e => by cases e) (fun x b e => ?_) (fun L a code => hb A L a code fr s.heap ⟨?_, rfl, rfl, rfl, hF⟩) (fun d v h' tk' fz' q B hp hi' => c d v h' tk' fz' q B hp hi')
  · refine hidG fun zG zh => ?_
    obtain ⟨hm, v', d', e1, e2, e3⟩ := σ₀_get (o := none) P.dist (by rw [P.len]) hi e
    refine zh ?_
    clear zh zG
    exact ⟨hm, .inl ⟨d', v', e1, e2, e3⟩⟩
  · show A.frames.map _ = _
    rw [hfr]; rfl
section
variable {S : St} {σ : Sg} {Q : Dat → Prop}
structure MayF (S : St) (i : Nat) (ds : List Dat) (Q : Dat → Prop) : Prop where
  it : ∃ k nh, SpF S.G i k nh ds Q ∧ k ≤ S.dp ∧ (nh = true → S.nh = true)
theorem MayF.mk' {i k : Nat} {nh : Bool} {ds : List Dat} {r : Dat} (sp : SpF S.G i k nh ds (· = r)) (q : Q r) (hk : k ≤ S.dp) (hn : nh = true → S.nh = true) : MayF S i ds Q := ⟨k, nh, sp.mono fun d e => e ▸ q, hk, hn⟩
theorem WE_defF {f : Str} {p pos : Pos} {e : Expr} {es : List Expr} {fr : List Env} {g : Heap} (fs : FrS S fr g) (i : Nat) (d : DefR) (hd : S.G.defs[i]? = some d) (hn : d.name = f) (hk : S.env.kindOf f = some .globalImplicit)
    (h : WL S σ (e :: es) fun ds => MayF S i ds Q) (he : ∀ env, starEach (e :: es) env = (false, eval e env) :: starEach es env := by intro _; rfl) (hdb : (f == ("__debug__" : Str)) = false := by decide) :
    WE S σ (.Call (.Name f p) (e :: es) [] pos) Q := by
  intro h₀ fz₀ fz s R K E c
  subst hn
  refine hidG fun zG zh => ?_
  obtain ⟨a, o, pm, code, doc, hm, ho, hdat, hcd⟩ := R.gl.fns i d hd
  refine zh ?_
  clear zh zG
  refine Call_ (load_glob R hk hm (callWith_def hdat (h pos h₀ fz₀ fz s R _ _ fun ds vs h' tk' fz' q sub R' hi => ⟨?_, ?_⟩) (he _)) hdb)
  · refine hidG fun zG zh => ?_
    obtain ⟨a', o', pm', code', doc', hm', ho', hdat', hcd'⟩ := R'.gl.fns i d hd
    refine zh ?_
    clear zh zG
    rw [hm] at hm'
    cases hm'
    have r := R.at
    have r' := R'.at
    refine hidG fun zG zh => ?_
    obtain ⟨a3, o3, _, _, _, hm3, ho3, _⟩ := r.gl.fns i d hd
    refine zh ?_
    clear zh zG
    rw [hm] at hm3; cases hm3
    have e1 := r.keep _ _ ho3
    rw [ho] at e1; cases e1
    exact r'.keep _ _ ho3
  · refine hidG fun zG zh => ?_
    obtain ⟨k, nh, sp, hk', hn'⟩ := q.it
    refine zh ?_
    clear zh zG
    have r := R'.at
    have ok := r.ok
    have hf := ok.frame fs.fn
    have hLs : Ls (S.env :: fr) = S.env.locals :: S.hot := by show List.filterMap _ _ = _; rw [List.filterMap_cons, hf, fs.hot]
    have hn0 : ∀ b ∈ Ls (S.env :: fr), h₀.h₀.get? b = none := fun b hb => by
      rw [hLs] at hb
      rcases List.mem_cons.mp hb with rfl | hb
      · exact r.mutsNew _ ok.hL
      · exact (r.tape.each b hb).2.1
    have kg : Kp h₀.h₀ (hideAll h' (Ls (S.env :: fr))) := fun b o e => hideAll_get _ (r.keep b o e) fun hm => by rw [hn0 b hm] at e; cases e
    have nf : ∀ p ∈ fz', ∀ b ∈ Ls (S.env :: fr), p.1 ≠ b := fun p hp b hb q => by
      rw [hLs] at hb
      rcases List.mem_cons.mp hb with e | hb
      · exact r.mutsFz p hp (by rw [q, e]; exact ok.hL)
      · exact (r.tape.each b hb).2.2.2 p hp q
    have F := fs.now r
    have st : SiteH S.G k nh S.A fz' h' (Ls (S.env :: fr)) := { gl := r.gl.keeps kg, gz := r.gz, held := r.held, hk := Kp.handOK r.hk kg, depth := (by have := ok.depth; walk_at "o"), units := (by have := ok.units; walk_at "o"), hand := fun e => ok.hand (hn' e), live := fun b hb => (by obtain ⟨_, o, ho, _⟩ := Heap.FunFrames.mem F hb; rw [ho]; rfl), fzn := nf }
    refine sp d a hd hm S.A fz' { s with heap := h', toks := tk' } vs (S.env :: fr) fs.stack F st hi _ _ fun d v h'' tk'' fz'' q' B U hi' => ?_
    have p := r.tape.p
    rw [fs.hotP] at p
    refine c d v h'' tk'' fz'' q' (fun p hp => B.sub p (sub p hp)) (RelAt.backF r fs.fn (fun b o hb e => B.keep b o (by rw [hLs]; exact hb) e) (fun o ho => U _ (by rw [hLs]; exact .head _) o ho) B.sub B.held B.new ?_ fun b hb => B.live b (by rw [hLs]; exact .tail _ hb)) hi'
    rw [fs.hotP]
    intro b hb o e
    obtain ⟨s1, e1⟩ := p b hb o e
    obtain ⟨s2, e2⟩ := U b (by rw [hLs, fs.hot]; exact .tail _ hb) _ e1
    exact ⟨s2, e2⟩
end
end Mine
end

section
open PySem PySem.W PyProof.Rows
set_option maxRecDepth 100000
set_option maxHeartbeats 0
namespace Mine
noncomputable abbrev en (P : Params) (x : Str) (t : Tok) (v : Value) : DictEntry := { hash := PyData.keyHash P x, key := .str x t, val := v }
namespace Hd
noncomputable abbrev pp : Program := PySem.Challenge.pw_pq0939_01
noncomputable def oT (l : List Value) : Obj := { cls := .type "tuple", data := .seq l.toArray }
noncomputable def oF (c : Value) (l : List Value) : Obj := { cls := c, data := .fields l.toArray }
noncomputable def oD (l : List DictEntry) (n : Nat) : Obj := { cls := .type "dict", data := .dict l.toArray n }
noncomputable def oC (n q : Str) (t l : Nat) (a g : Int) (b : Nat) (o : Bool) (x y z : Value) (u : Nat) : Obj :=
  oF (.type "code") [.str n t, .str q (t + 1 : Nat), .str "/claim/cut.py" (t + 2 : Nat), .int l 0, .int a 0, .int 0 0, .int 0 0, .int g 0, .ref b, .bool o, .int 181 0, .ref (b + 1 : Nat), .none, x, y, z, .int u 0, .int l 0, .str "/claim/cut.py" (u + 1 : Nat)]
noncomputable def oR (c l : Nat) (t : Value) : Obj := { cls := .type "frame", slots := #[some (.ref c), some (.ref 3), some (.ref l), none, some t, none, some (.ref 0)] }
noncomputable def nL : List Str → Nat → List Value
  | [], _ => []
  | x :: r, t => .str x t :: nL r (t + 1)
noncomputable def dF (d : DefR) (q : Str) (g : Nat) (df m c : Value) : FuncData := { name := d.name, qualname := q, params := d.params, body := .stmts d.body, scope := d.scope, globals := g, closure := [], defaults := df, kwdefaults := .none, pyModule := m, code := c }
noncomputable def dS (d : DefR) (q : Str) (b t l : Nat) (a : Int) (ls : List Str) (df m : Value) : List Obj :=
  oT [] :: oF .none [] :: match ls with
    | [] => [{ cls := .none, data := .func (dF d q 0 .none .none .none) }, oC d.name q t l a 3 b true .none .none (.ref (b + 2 : Nat)) (t + 3), { cls := .type "function", data := .func (dF d q 3 df m (.ref (b + 3 : Nat))) }]
    | _ => [oT (nL ls (t + 3)), oT [], { cls := .none, data := .func (dF d q 0 .none .none .none) }, oC d.name q t l a 3 b true (.ref (b + 2 : Nat)) (.ref (b + 3 : Nat)) (.ref (b + 4 : Nat)) (t + 3 + ls.length), { cls := .type "function", data := .func (dF d q 3 df m (.ref (b + 5 : Nat))) }]
noncomputable def dP (i b t l : Nat) (a : Int) (ls : List Str) (m : Value) : List Obj := dS (defAt i) (defAt i).name b t l a ls .none m
noncomputable def m1 : Value := .str "postkeep.base64" (nat_lit 187)
noncomputable def m2 : Value := .str "postkeep.errors" (nat_lit 217)
noncomputable def m3 : Value := .str "postkeep.octets" (nat_lit 275)
noncomputable def m4 : Value := .str "postkeep.charsets" (nat_lit 290)
noncomputable def m5 : Value := .str "postkeep.quoted" (nat_lit 385)
noncomputable def m6 : Value := .str "postkeep.words" (nat_lit 426)
noncomputable def m7 : Value := .str "law_pq0939_01" (nat_lit 518)
noncomputable def gE (P : Params) (v : Value) : List DictEntry := en P "__name__" (nat_lit 165) v :: [en P "__doc__" (nat_lit 166) .none, en P "__package__" (nat_lit 167) .none, en P "__loader__" (nat_lit 168) (.builtin "__main__.__loader__#opaque"), en P "__spec__" (nat_lit 169) .none, en P "__annotations__" (nat_lit 170) (.ref (nat_lit 6)), en P "__builtins__" (nat_lit 171) (.ref (nat_lit 4)), en P "__file__" (nat_lit 173) (.str "/claim/cut.py" (nat_lit 172)), en P "__cached__" (nat_lit 174) .none, en P "SIGNS" (nat_lit 190) (.bytes ((List.range' 65 26 ++ List.range' 97 26 ++ List.range' 48 10 ++ [43, 47]).map UInt8.ofNat).toArray (nat_lit 189)), en P "PAD" (nat_lit 192) (.int 61 (nat_lit 191)), en P "worth_table" (nat_lit 198) (.ref (nat_lit 19)), en P "group_octets" (nat_lit 204) (.ref (nat_lit 24)), en P "decoded" (nat_lit 216) (.ref (nat_lit 31)), en P "PostError" (nat_lit 258) (.ref (nat_lit 56)), en P "MimeFault" (nat_lit 274) (.ref (nat_lit 69)), en P "lower_code" (nat_lit 283) (.ref (nat_lit 78)), en P "lower_text" (nat_lit 289) (.ref (nat_lit 83)), en P "ASCII" (nat_lit 293) (.str "us-ascii" (nat_lit 292)), en P "LATIN" (nat_lit 295) (.str "iso-8859-1" (nat_lit 294)), en P "UTF8" (nat_lit 297) (.str "utf-8" (nat_lit 296)), en P "CHARSETS" (nat_lit 298) (.ref (nat_lit 84)), en P "UNKNOWN_SIGN" (nat_lit 301) (.str "�" (nat_lit 300)), en P "charset_names" (nat_lit 309) (.ref (nat_lit 91)), en P "charset_name" (nat_lit 316) (.ref (nat_lit 98)), en P "need_charset" (nat_lit 323) (.ref (nat_lit 105)), en P "follower_span" (nat_lit 330) (.ref (nat_lit 112)), en P "utf8_sign" (nat_lit 344) (.ref (nat_lit 119)), en P "sign_at" (nat_lit 353) (.ref (nat_lit 126)), en P "text_in" (nat_lit 365) (.ref (nat_lit 133)), en P "strict_text" (nat_lit 377) (.ref (nat_lit 140)), en P "guessed_text" (nat_lit 384) (.ref (nat_lit 147)), en P "EQUALS" (nat_lit 388) (.int 61 (nat_lit 387)), en P "BLANK" (nat_lit 390) (.int 32 (nat_lit 389)), en P "UNDERLINE" (nat_lit 392) (.int 95 (nat_lit 391)), en P "hex_worth" (nat_lit 399) (.ref (nat_lit 154)), en P "quoted_at" (nat_lit 409) (.ref (nat_lit 161)), en P "unquoted" (nat_lit 419) (.ref (nat_lit 168)), en P "word_q_decoded" (nat_lit 425) (.ref (nat_lit 173)), en P "WHITE" (nat_lit 432) (.ref (nat_lit 174)), en P "OPENING" (nat_lit 434) (.int 40 (nat_lit 433)), en P "CLOSING" (nat_lit 436) (.int 41 (nat_lit 435)), en P "WAYS" (nat_lit 439) (.ref (nat_lit 175)), en P "is_word_sign" (nat_lit 446) (.ref (nat_lit 182)), en P "part_end" (nat_lit 455) (.ref (nat_lit 189)), en P "word_parts" (nat_lit 461) (.ref (nat_lit 194)), en P "is_apart" (nat_lit 470) (.ref (nat_lit 201)), en P "plain_text" (nat_lit 476) (.ref (nat_lit 206)), en P "word_at" (nat_lit 488) (.ref (nat_lit 213)), en P "pieces_of" (nat_lit 499) (.ref (nat_lit 220)), en P "all_white" (nat_lit 505) (.ref (nat_lit 225)), en P "decoded_words" (nat_lit 517) (.ref (nat_lit 232)), en P "_law_names" (nat_lit 526) (.ref (nat_lit 236)), en P "_law_figures" (nat_lit 528) (.str "0123456789abcdef" (nat_lit 527)), en P "_law_sixty" (nat_lit 530) (.str "ABCDEFGHIJKLMNOPQRSTUVWXYZabcdefghijklmnopqrstuvwxyz0123456789+/" (nat_lit 529)), en P "_law_tape" (nat_lit 536) (.ref (nat_lit 241)), en P "_law_draw" (nat_lit 548) (.ref (nat_lit 248)), en P "_law_gap" (nat_lit 558) (.ref (nat_lit 255)), en P "_law_load" (nat_lit 570) (.ref (nat_lit 262)), en P "_law_word" (nat_lit 576) (.ref (nat_lit 267)), en P "_law_octets" (nat_lit 582) (.ref (nat_lit 272)), en P "_law_marked" (nat_lit 591) (.ref (nat_lit 279)), en P "_law_figured" (nat_lit 597) (.ref (nat_lit 284)), en P "_law_sixes" (nat_lit 603) (.ref (nat_lit 289)), en P "_law_told" (nat_lit 609) (.ref (nat_lit 294)), en P "law" (nat_lit 626) (.ref (nat_lit 301))]
noncomputable def c3 (a b : Nat) (r : List Value) : List Value := .int (.ofNat a) 0 :: .int 0 (nat_lit 0) :: .ref b :: r
noncomputable def cL : List Value := c3 (nat_lit 4) (nat_lit 18) (c3 (nat_lit 6) (nat_lit 23) (c3 (nat_lit 14) (nat_lit 30) (c3 (nat_lit 28) (nat_lit 37) (c3 (nat_lit 37) (nat_lit 65) (c3 (nat_lit 40) (nat_lit 77) (c3 (nat_lit 42) (nat_lit 82) (c3 (nat_lit 50) (nat_lit 90) (c3 (nat_lit 59) (nat_lit 97) (c3 (nat_lit 61) (nat_lit 104) (c3 (nat_lit 64) (nat_lit 111) (c3 (nat_lit 72) (nat_lit 118) (c3 (nat_lit 86) (nat_lit 125) (c3 (nat_lit 92) (nat_lit 132) (c3 (nat_lit 101) (nat_lit 139) (c3 (nat_lit 112) (nat_lit 146) (c3 (nat_lit 121) (nat_lit 153) (c3 (nat_lit 129) (nat_lit 160) (c3 (nat_lit 135) (nat_lit 167) (c3 (nat_lit 147) (nat_lit 172) (c3 (nat_lit 154) (nat_lit 181) (c3 (nat_lit 156) (nat_lit 188) (c3 (nat_lit 161) (nat_lit 193) (c3 (nat_lit 174) (nat_lit 200) (c3 (nat_lit 178) (nat_lit 205) (c3 (nat_lit 180) (nat_lit 212) (c3 (nat_lit 190) (nat_lit 219) (c3 (nat_lit 204) (nat_lit 224) (c3 (nat_lit 206) (nat_lit 231) (c3 (nat_lit 220) (nat_lit 240) (c3 (nat_lit 222) (nat_lit 247) (c3 (nat_lit 233) (nat_lit 254) (c3 (nat_lit 239) (nat_lit 261) (c3 (nat_lit 249) (nat_lit 266) (c3 (nat_lit 257) (nat_lit 271) (c3 (nat_lit 267) (nat_lit 278) (c3 (nat_lit 276) (nat_lit 283) (c3 (nat_lit 286) (nat_lit 288) (c3 (nat_lit 295) (nat_lit 293) (c3 (nat_lit 307) (nat_lit 300) ([]))))))))))))))))))))))))))))))))))))))))
noncomputable def sT (P : Params) : Obj := { cls := .none, data := .dict (#[en P "type.__subclasses__.Exception.0" (nat_lit 255) (.int 56 (nat_lit 0)), en P "type.__subclasses__.Exception.n" (nat_lit 256) (.int 1 (nat_lit 0))]) 2 }
noncomputable def g1 (P : Params) : List Obj :=
  (dP (nat_lit 3) (nat_lit 15) (nat_lit 193) (nat_lit 4) 1 [] m1) ++ ((dP (nat_lit 4) (nat_lit 20) (nat_lit 199) (nat_lit 6) 1 [] m1) ++ ((dP (nat_lit 5) (nat_lit 25) (nat_lit 205) (nat_lit 14) 1 ["data", "worths", "worth_row", "code", "found", "begin"] m1) ++ ([oT [.type "Exception"], oF (.type "builtin_function_or_method") [.builtin "type.__prepare__", .type "type"], oD [en P "__module__" (nat_lit 226) m2, en P "__qualname__" (nat_lit 228) (.str "PostError" (nat_lit 227)), en P "__firstlineno__" (nat_lit 230) (.int 28 (nat_lit 229)), en P "__init__" (nat_lit 241) (.ref (nat_lit 46)), en P "told" (nat_lit 248) (.ref (nat_lit 53)), en P "__static_attributes__" (nat_lit 251) (.ref (nat_lit 54))] 6, oT [], oF .none [.int 30 (nat_lit 0), .int 4 (nat_lit 0), .ref (nat_lit 45), .int 35 (nat_lit 0), .int 4 (nat_lit 0), .ref (nat_lit 52)], oC "PostError" "PostError" 221 28 0 0 35 false .none .none .none 224, oR 37 34 m2, oT [.int (-1) 232]] ++ ((dS (methR 0) "PostError.__init__" 40 233 30 3 ["self", "what", "at"] (.ref (nat_lit 39)) m2) ++ ((dS (methR 1) "PostError.told" 47 242 35 1 ["self"] .none m2) ++ ([oT [.str "at" (nat_lit 249), .str "what" (nat_lit 250)], oD [en P "__module__" (nat_lit 226) m2, en P "__firstlineno__" (nat_lit 230) (.int 28 (nat_lit 229)), en P "__init__" (nat_lit 241) (.ref (nat_lit 46)), en P "told" (nat_lit 248) (.ref (nat_lit 53)), en P "__static_attributes__" (nat_lit 251) (.ref (nat_lit 54)), en P "__weakref__" (nat_lit 253) (.ref (nat_lit 57)), en P "__doc__" (nat_lit 254) .none] 3, { cls := .type "type", data := .cls { name := "PostError", bases := [.type "Exception"], mro := [.ref (nat_lit 56), .type "Exception", .type "BaseException", .type "object"], ns := 55, qualname := "PostError", subclasses := [.ref (nat_lit 69)] }, slots := #[some (.ref (nat_lit 32)), none, some (.str "PostError" (nat_lit 219)), some (.str "PostError" (nat_lit 227)), some (.builtin "Exception.__new__"), some (.bool true)] }, oF (.type "getset_descriptor") [.str "__weakref__" (nat_lit 252), .ref (nat_lit 56), .builtin "ExceptionGroup.__weakref__", .none], oF (.type "super") [.ref (nat_lit 56), .ref (nat_lit 56), .ref (nat_lit 56)], oF (.type "builtin_function_or_method") [.builtin "object.__init_subclass__", .ref (nat_lit 56)], oT [.ref (nat_lit 56)], oF (.type "builtin_function_or_method") [.builtin "type.__prepare__", .type "type"], oD [en P "__module__" (nat_lit 266) m2, en P "__qualname__" (nat_lit 268) (.str "MimeFault" (nat_lit 267)), en P "__firstlineno__" (nat_lit 270) (.int 37 (nat_lit 269)), en P "__static_attributes__" (nat_lit 271) (.ref (nat_lit 67))] 4, oT [], oF .none [], oC "MimeFault" "MimeFault" 261 37 0 0 63 false .none .none .none 264, oR 65 62 m2, oT [], oD [en P "__module__" (nat_lit 266) m2, en P "__firstlineno__" (nat_lit 270) (.int 37 (nat_lit 269)), en P "__static_attributes__" (nat_lit 271) (.ref (nat_lit 67)), en P "__doc__" (nat_lit 272) .none] 2, { cls := .type "type", data := .cls { name := "MimeFault", bases := [.ref (nat_lit 56)], mro := [.ref (nat_lit 69), .ref (nat_lit 56), .type "Exception", .type "BaseException", .type "object"], ns := 68, qualname := "MimeFault" }, slots := #[some (.ref (nat_lit 60)), none, some (.str "MimeFault" (nat_lit 259)), some (.str "MimeFault" (nat_lit 267)), some (.builtin "Exception.__new__"), some (.bool true)] }, oF (.type "super") [.ref (nat_lit 69), .ref (nat_lit 69), .ref (nat_lit 69)], oF (.type "builtin_function_or_method") [.builtin "object.__init_subclass__", .ref (nat_lit 69)]]))))))
noncomputable def g2 (_ : Params) : List Obj :=
  (dP (nat_lit 10) (nat_lit 72) (nat_lit 277) (nat_lit 40) 1 ["code"] m3) ++ ((dP (nat_lit 11) (nat_lit 79) (nat_lit 284) (nat_lit 42) 1 [] m3) ++ ([oT [.str "us-ascii" (nat_lit 292), .str "iso-8859-1" (nat_lit 294), .str "utf-8" (nat_lit 296)]] ++ ((dP (nat_lit 18) (nat_lit 85) (nat_lit 302) (nat_lit 50) 0 ["found", "alias"] m4) ++ ((dP (nat_lit 19) (nat_lit 92) (nat_lit 310) (nat_lit 59) 1 ["text"] m4) ++ ((dP (nat_lit 20) (nat_lit 99) (nat_lit 317) (nat_lit 61) 1 ["charset"] m4) ++ ((dP (nat_lit 21) (nat_lit 106) (nat_lit 324) (nat_lit 64) 1 ["lead"] m4) ++ ((dP (nat_lit 22) (nat_lit 113) (nat_lit 331) (nat_lit 72) 2 ["octets", "at", "lead", "least", "most", "count", "code", "place"] m4) ++ ((dP (nat_lit 23) (nat_lit 120) (nat_lit 345) (nat_lit 86) 3 ["charset", "octets", "at"] m4) ++ ((dP (nat_lit 24) (nat_lit 127) (nat_lit 354) (nat_lit 92) 2 ["charset", "octets", "signs", "at", "code", "length"] m4) ++ ((dP (nat_lit 25) (nat_lit 134) (nat_lit 366) (nat_lit 101) 2 ["charset", "octets", "signs", "at", "code", "length"] m4) ++ ((dP (nat_lit 26) (nat_lit 141) (nat_lit 378) (nat_lit 112) 1 ["octets"] m4) ++ ((dP (nat_lit 31) (nat_lit 148) (nat_lit 393) (nat_lit 121) 1 ["code"] m5) ++ ((dP (nat_lit 32) (nat_lit 155) (nat_lit 400) (nat_lit 129) 2 ["data", "at", "high", "low"] m5) ++ ((dP (nat_lit 33) (nat_lit 162) (nat_lit 410) (nat_lit 135) 1 ["line", "codes", "at", "code"] m5) ++ ((dP (nat_lit 34) (nat_lit 169) (nat_lit 420) (nat_lit 147) 1 [] m5) ++ ([oT [.int 9 (nat_lit 428), .int 10 (nat_lit 429), .int 13 (nat_lit 430), .int 32 (nat_lit 431)]]))))))))))))))))
noncomputable def g3 (_ : Params) : List Obj :=
  [oT [.str "Q" (nat_lit 437), .str "B" (nat_lit 438)]] ++ ((dP (nat_lit 40) (nat_lit 176) (nat_lit 440) (nat_lit 154) 1 ["code"] m6) ++ ((dP (nat_lit 41) (nat_lit 183) (nat_lit 447) (nat_lit 156) 2 ["octets", "at", "here"] m6) ++ ((dP (nat_lit 42) (nat_lit 190) (nat_lit 456) (nat_lit 161) 2 [] m6) ++ ((dP (nat_lit 43) (nat_lit 195) (nat_lit 462) (nat_lit 174) 3 ["octets", "begin", "end"] m6) ++ ((dP (nat_lit 44) (nat_lit 202) (nat_lit 471) (nat_lit 178) 1 [] m6) ++ ((dP (nat_lit 45) (nat_lit 207) (nat_lit 477) (nat_lit 180) 2 ["octets", "at", "found", "charset", "way", "row"] m6) ++ ((dP (nat_lit 46) (nat_lit 214) (nat_lit 489) (nat_lit 190) 1 ["octets", "pieces", "begun", "at", "found"] m6) ++ ((dP (nat_lit 47) (nat_lit 221) (nat_lit 500) (nat_lit 204) 1 [] m6) ++ ((dP (nat_lit 48) (nat_lit 226) (nat_lit 506) (nat_lit 206) 1 ["octets", "pieces", "found", "spot", "is_word", "worth"] m6) ++ ([oT [.str "us-ascii ascii ansi_x3.4-1968 iso_646.irv:1991 iso-ir-6 iso646-us us cp367 ibm367" (nat_lit 520), .str "us-ascii" (nat_lit 521)], oT [.str "iso-8859-1 iso_8859-1 iso_8859-1:1987 iso-ir-100 latin1 l1 cp819 ibm819" (nat_lit 522), .str "iso-8859-1" (nat_lit 523)], oT [.str "utf-8 utf8" (nat_lit 524), .str "utf-8" (nat_lit 525)], oT [.ref (nat_lit 233), .ref (nat_lit 234), .ref (nat_lit 235)]] ++ ((dP (nat_lit 53) (nat_lit 237) (nat_lit 531) (nat_lit 220) 1 [] m7) ++ ((dP (nat_lit 54) (nat_lit 242) (nat_lit 537) (nat_lit 222) 2 ["tape", "many", "cells", "turn", "spot", "left"] m7) ++ ((dP (nat_lit 55) (nat_lit 249) (nat_lit 549) (nat_lit 233) 1 ["tape", "found", "turn", "which"] m7) ++ ((dP (nat_lit 56) (nat_lit 256) (nat_lit 559) (nat_lit 239) 1 ["tape", "found", "turn", "code", "high", "low"] m7) ++ ((dP (nat_lit 57) (nat_lit 263) (nat_lit 571) (nat_lit 249) 1 [] m7) ++ ((dP (nat_lit 58) (nat_lit 268) (nat_lit 577) (nat_lit 257) 1 [] m7) ++ ((dP (nat_lit 59) (nat_lit 273) (nat_lit 583) (nat_lit 267) 2 ["data", "at", "rows"] m7) ++ ((dP (nat_lit 60) (nat_lit 280) (nat_lit 592) (nat_lit 276) 1 [] m7) ++ ((dP (nat_lit 61) (nat_lit 285) (nat_lit 598) (nat_lit 286) 1 [] m7) ++ ((dP (nat_lit 62) (nat_lit 290) (nat_lit 604) (nat_lit 295) 2 [] m7) ++ ((dP (nat_lit 63) (nat_lit 295) (nat_lit 610) (nat_lit 307) 1 ["script", "data", "due", "begun", "at", "place", "told_word", "found", "spot", "is_word", "worth"] m7))))))))))))))))))))))
noncomputable def sL (P : Params) (s g c : Obj) (l : List Obj) : List Obj := boot_o_0 P :: boot_o_1 P :: s :: g :: boot_o_4 P :: boot_o_5 P :: boot_o_6 P :: boot_o_7 P :: boot_o_8 P :: boot_o_9 P :: boot_o_10 P :: oT [] :: c :: oC "<module>" "<module>" 182 1 0 0 11 false .none .none .none 185 :: oR 13 3 (.str "__main__" (nat_lit 164)) :: l
noncomputable def S0 (P : Params) : List Obj := sL P (boot_o_2 P) (boot_o_3 P) (oF .none []) []
noncomputable def S1 (P : Params) : List Obj := sL P (sT P) (oD ((gE P m2).take 16) 16) (oF .none (cL.take 15)) (g1 P)
noncomputable def S2 (P : Params) : List Obj := sL P (sT P) (oD ((gE P m6).take 42) 42) (oF .none (cL.take 60)) (g1 P ++ (g2 P))
noncomputable def S3 (P : Params) : List Obj := sL P (sT P) (oD ((gE P m7).take 66) 66) (oF .none (cL.take 120)) (g1 P ++ (g2 P ++ (g3 P)))
noncomputable def insL : BT → Nat → List Obj → BT
  | t, _, [] => t
  | t, n, o :: r => insL (t.ins n o) (n + 1) r
noncomputable def hp (l : List Obj) : Heap := ⟨l.toArray, {}⟩
noncomputable def sh (l : List Obj) (k : Nat) (os : OsState) : Shared := ⟨hp l, #[], boot_drawn, k, os⟩
noncomputable def st (l : List Obj) (n k : Nat) (os : OsState) : SharedT := ⟨insL .nil 0 l, n, {}, #[], boot_drawn, k, os⟩
noncomputable def eE : Env := { scope := pp.main.scope, locals := mainNs, globals := mainNs, cells := [], code := .ref 13, frame := some 14 }
noncomputable def cE : Code := .body (behindTheImports pp) eE
noncomputable def bd (i k : Nat) : List Stmt := ((behindTheImports pp).drop i).take k
end Hd
noncomputable def kF (P : Params) : Frag := [
  (3, Hd.oD (Hd.gE P (.str "law_pq0939_01" 518)) 66),
  (39, { cls := Value.type "tuple", data := Data.seq #[Value.int (-1) 232] }),
  (45, { cls := Value.type "code", data := Data.fields #[Value.str "__init__" 233, Value.str "PostError.__init__" 234, Value.str "/claim/cut.py" 235, Value.int 30 0, Value.int 3 0, Value.int 0 0, Value.int 0 0, Value.int 3 0, Value.ref 40, Value.bool true, Value.int 181 0, Value.ref 41, Value.none, Value.ref 42, Value.ref 43, Value.ref 44, Value.int 239 0, Value.int 30 0, Value.str "/claim/cut.py" 240] }),
  (46, { cls := Value.type "function", data := Data.func { name := "__init__", qualname := "PostError.__init__", params := initR.params, body := FuncBody.stmts initR.body, scope := initR.scope, globals := 3, closure := [], defaults := Value.ref 39, kwdefaults := Value.none, pyModule := Value.str "postkeep.errors" 217, code := Value.ref 45 } }),
  (55, { cls := Value.type "dict", data := Data.dict #[en P "__module__" 226 (Value.str "postkeep.errors" 217), en P "__firstlineno__" 230 (Value.int 28 229), en P "__init__" 241 (Value.ref 46), en P "told" 248 (Value.ref 53), en P "__static_attributes__" 251 (Value.ref 54), en P "__weakref__" 253 (Value.ref 57), en P "__doc__" 254 (Value.none)] 3 }),
  (56, { cls := Value.type "type", data := Data.cls { name := "PostError", bases := [Value.type "Exception"], mro := [Value.ref 56, Value.type "Exception", Value.type "BaseException", Value.type "object"], ns := 55, qualname := "PostError", subclasses := [Value.ref 69] }, slots := #[some (Value.ref 32), none, some (Value.str "PostError" 219), some (Value.str "PostError" 227), some (Value.builtin "Exception.__new__"), some (Value.bool true)] }),
  (68, { cls := Value.type "dict", data := Data.dict #[en P "__module__" 266 (Value.str "postkeep.errors" 217), en P "__firstlineno__" 270 (Value.int 37 269), en P "__static_attributes__" 271 (Value.ref 67), en P "__doc__" 272 (Value.none)] 2 }),
  (69, { cls := Value.type "type", data := Data.cls { name := "MimeFault", bases := [Value.ref 56], mro := [Value.ref 69, Value.ref 56, Value.type "Exception", Value.type "BaseException", Value.type "object"], ns := 68, qualname := "MimeFault" }, slots := #[some (Value.ref 60), none, some (Value.str "MimeFault" 259), some (Value.str "MimeFault" 267), some (Value.builtin "Exception.__new__"), some (Value.bool true)] }),
  (84, { cls := Value.type "tuple", data := Data.seq #[Value.str "us-ascii" 292, Value.str "iso-8859-1" 294, Value.str "utf-8" 296] }),
  (174, { cls := Value.type "tuple", data := Data.seq #[Value.int 9 428, Value.int 10 429, Value.int 13 430, Value.int 32 431] }),
  (175, { cls := Value.type "tuple", data := Data.seq #[Value.str "Q" 437, Value.str "B" 438] }),
  (233, { cls := Value.type "tuple", data := Data.seq #[Value.str "us-ascii ascii ansi_x3.4-1968 iso_646.irv:1991 iso-ir-6 iso646-us us cp367 ibm367" 520, Value.str "us-ascii" 521] }),
  (234, { cls := Value.type "tuple", data := Data.seq #[Value.str "iso-8859-1 iso_8859-1 iso_8859-1:1987 iso-ir-100 latin1 l1 cp819 ibm819" 522, Value.str "iso-8859-1" 523] }),
  (235, { cls := Value.type "tuple", data := Data.seq #[Value.str "utf-8 utf8" 524, Value.str "utf-8" 525] }),
  (236, { cls := Value.type "tuple", data := Data.seq #[Value.ref 233, Value.ref 234, Value.ref 235] })]
noncomputable def kA : List Addr := [3, 39, 45, 46, 55, 56, 68, 69, 84, 174, 175, 233, 234, 235, 236]
theorem kA_eq (P : Params) : kA = (kF P).map (·.1) := by kernel_rfl
noncomputable def keepL : List Nat := [1, 2, 3, 4, 5, 7, 8, 10, 11, 13, 14, 15, 16, 17, 18, 19, 20, 21, 22, 23, 24, 25, 26, 28, 29, 30, 31, 32, 33, 34, 36, 37, 38, 39, 40, 41, 42, 43, 44, 45, 46, 47, 48, 50, 51, 52, 53, 54, 55, 56, 57, 58, 59, 60, 61, 62, 63]
noncomputable def vw : Program := PySem.W.view PySem.Challenge.pw_pq0939_01 keepL
noncomputable abbrev lo : List Str := ["PostError", "CHARSETS", "UNKNOWN_SIGN"]
end Mine
end

section
open PySem PySem.W PyProof.Rows
set_option maxRecDepth 100000
set_option maxHeartbeats 0
namespace Mine
namespace Hd
theorem open_eq : opening pp = plainProg pp.main.scope.names := by kernel_rfl
theorem fence_eq (s : Shared) : fenceModules? pp s = some s := by kernel_rfl
noncomputable def ann0 : Option Value := some (.ref 6)
theorem size0 (w : World) : ((boot_heap w.params).isNs mainGlobals && (#[] : Array GenState).size == 0, (boot_heap w.params).objs.size, (boot_heap w.params).nsMap mainGlobals "__annotations__") = (true, 11, ann0) := by kernel_rfl
theorem ab0 (P : Params) : absHeap (insL .nil 0 (S0 P)) 15 {} = hp (S0 P) := by kernel_rfl
theorem ab1 (P : Params) : absHeap (insL .nil 0 (S1 P)) 72 {} = hp (S1 P) := by kernel_rfl
theorem ab2 (P : Params) : absHeap (insL .nil 0 (S2 P)) 175 {} = hp (S2 P) := by kernel_rfl
theorem pre0 (w : World) : (fun os => topGo treeTable pp w 11 ann0 12 ⟨boot_heap w.params, #[], boot_drawn, boot_toks, os⟩ (topStub pp)) = fun os => some (sh (S0 w.params) 187 os, ⟨denote treeTable cE, cE, (⟨0, 0, 0, 0⟩ : Pos), [topFrame (⟨0, 0, 0, 0⟩ : Pos)]⟩) := by kernel_rfl
theorem blk0 (w : World) : (fun os => segRun treeTable pp w 11 ann0 1 1 (sh (S0 w.params) 187 os) (blockOf (behindTheImports pp) eE cE (⟨0, 0, 0, 0⟩ : Pos) [topFrame (⟨0, 0, 0, 0⟩ : Pos)])) = fun os => some (.next, sh (S0 w.params) 187 os, cE, (⟨0, 0, 0, 0⟩ : Pos)) := by kernel_rfl
theorem run1 (w : World) : (fun os => (segRunT treeTable pp w 11 ann0 1 604 (st (S0 w.params) 15 187 os) (piecesOf (bd 0 9) eE cE (⟨0, 0, 0, 0⟩ : Pos) [topFrame (⟨0, 0, 0, 0⟩ : Pos)])).map fun r => (r.1, r.2.1.abs, r.2.2)) = fun os => some (.next, sh (S1 w.params) 275 os, cE, (⟨37, 0, 38, 8⟩ : Pos)) := by kernel_rfl
theorem run2 (w : World) : (fun os => (segRunT treeTable pp w 11 ann0 1 612 (st (S1 w.params) 72 275 os) (piecesOf (bd 9 30) eE cE (⟨37, 0, 38, 8⟩ : Pos) [topFrame (⟨0, 0, 0, 0⟩ : Pos)])).map fun r => (r.1, r.2.1.abs, r.2.2)) = fun os => some (.next, sh (S2 w.params) 437 os, cE, (⟨152, 0, 152, 7⟩ : Pos)) := by kernel_rfl
theorem run3 (w : World) : (fun os => (segRunT treeTable pp w 11 ann0 1 658 (st (S2 w.params) 175 437 os) (piecesOf (bd 39 25) eE cE (⟨152, 0, 152, 7⟩ : Pos) [topFrame (⟨0, 0, 0, 0⟩ : Pos)])).map fun r => (r.1, r.2.1.abs, r.2.2)) = fun os => some (.next, sh (S3 w.params) 627 os, cE, (⟨307, 0, 329, 39⟩ : Pos)) := by kernel_rfl
theorem fin0 (w : World) : (fun os => topRun treeTable pp w 11 ann0 2 (sh (S3 w.params) 627 os) ⟨doneF .next, cE, (⟨307, 0, 329, 39⟩ : Pos), [topFrame (⟨0, 0, 0, 0⟩ : Pos)]⟩) = fun os => some (sh (S3 w.params) 627 os) := by kernel_rfl
theorem st_abs {l : List Obj} {n k : Nat} {os : OsState} (e : absHeap (insL .nil 0 l) n {} = hp l) : (st l n k os).abs = sh l k os := congrArg (fun h => (⟨h, #[], boot_drawn, k, os⟩ : Shared)) e
theorem seg_of {l : List Obj} {n k i : Nat} {w : World} {os : OsState} {t : Thread} {x : Flow × Shared × Code × Pos} (e : absHeap (insL .nil 0 l) n {} = hp l) (h : (segRunT treeTable pp w 11 ann0 1 i (st l n k os) t).map (fun r => (r.1, r.2.1.abs, r.2.2)) = some x) : segRun treeTable pp w 11 ann0 1 i (sh l k os) t = some x := by
  obtain ⟨_, hr, q⟩ := Option.map_eq_some_iff.mp h
  exact q ▸ st_abs e ▸ segRun_of hr
theorem body_eq : behindTheImports pp = bd 0 9 ++ (bd 9 30 ++ (bd 39 25 ++ [])) := by kernel_rfl
noncomputable def hF (P : Params) : Heap := hp (S3 P)
theorem topRun0 (w : World) (os : OsState) : topRun treeTable pp w 11 ann0 (12 + (1 + (604 + (612 + (658 + 2))))) ⟨boot_heap w.params, #[], boot_drawn, boot_toks, os⟩ (topStub pp) = some ⟨hF w.params, #[], boot_drawn, 627, os⟩ := by
  refine go_top (congrFun (pre0 w) os) (piece_block (congrFun (blk0 w) os) ?_)
  rw [body_eq]
  exact piece_app (seg_of (ab0 _) (congrFun (run1 w) os)) (piece_app (seg_of (ab1 _) (congrFun (run2 w) os)) (piece_app (seg_of (ab2 _) (congrFun (run3 w) os)) (piece_nil (congrFun (fin0 w) os))))
noncomputable abbrev xT (s : Shared) : Bool := xlAt vw [] s && recOk (RowW.records (OpenRow.toRowW PySem.Challenge.rw_pq0939_01.row)) s
theorem kA1 (w : World) : (fun os => staticsOk (importedModules pp.main.body) (boot_heap w.params) (hF w.params) && namesBound pp (hF w.params) && gensDone ⟨hF w.params, #[], boot_drawn, 627, os⟩ && laidKept (boot_heap w.params) (hF w.params)) = fun _ => true := by kernel_rfl
theorem kA2 (w : World) : (fun os => (seen ((recsOf vw).map (·.name)) (ownsOf vw) [] ⟨hF w.params, #[], boot_drawn, 627, os⟩, (hF w.params).bltView, (hF w.params).keysOk (looseW vw lo) ((recsOf vw).map (·.name)) ((litsOf vw).map (·.1)) ((clssOf vw (looseW vw lo)).map (·.name)) && (hF w.params).accountedOkI (importedModules pp.main.body) && (hF w.params).isNs mainGlobals && (hF w.params).isNs builtinsNs && tablesOk vw (hF w.params) && xT ⟨hF w.params, #[], boot_drawn, 627, os⟩ && (if true then (#[] : Array GenState).size == 0 else !leftWithCleanup #[]))) = fun _ => (expectedOf vw, bltViewBooted, true) := by kernel_rfl
theorem kA3 (w : World) : (fun os => (tabsOk vw ⟨hF w.params, #[], boot_drawn, 627, os⟩, pinSeenD vw (drecsOf vw) ⟨hF w.params, #[], boot_drawn, 627, os⟩, plainSeenE vw (looseW vw lo) ⟨hF w.params, #[], boot_drawn, 627, os⟩, plainSeenD vw lo ⟨hF w.params, #[], boot_drawn, 627, os⟩, wideSeen vw ⟨hF w.params, #[], boot_drawn, 627, os⟩, clsSeenW vw lo ⟨hF w.params, #[], boot_drawn, 627, os⟩)) = fun _ => (true, pinGoodD (drecsOf vw), plainGoodE vw (looseW vw lo), plainGoodD vw lo, wideGood vw, clsGoodW vw lo) := by kernel_rfl
theorem kA4 (w : World) : (fun os => Hook.obs (kHook kF kA kA_eq) ⟨hF w.params, #[], boot_drawn, 627, os⟩) = fun _ => Hook.val (kHook kF kA kA_eq) w := by kernel_rfl
theorem looks4 {α β γ δ ε : Type} {x : Bool} {a a' : α} {b b' : β} {c c' : γ} {t t' : δ} {y y' : ε} (h : x = true) (k : (a, b, c) = (a', b', c')) (m : t = t') (n : y = y') : (x, (a, b, c, t), y) = (true, (a', b', c', t'), y') := by subst h m n; exact congrArg (fun p : α × β × γ => (true, (p.1, p.2.1, p.2.2, t), y)) k
theorem looks0 (w : World) : (fun os => (staticsOk (importedModules pp.main.body) (boot_heap w.params) (hF w.params) && namesBound pp (hF w.params) && gensDone ⟨hF w.params, #[], boot_drawn, 627, os⟩ && laidKept (boot_heap w.params) (hF w.params), openSeen vw lo (importedModules pp.main.body) xT true ⟨hF w.params, #[], boot_drawn, 627, os⟩, Hook.obs (kHook kF kA kA_eq) ⟨hF w.params, #[], boot_drawn, 627, os⟩)) = fun _ => (true, openGood vw lo, Hook.val (kHook kF kA kA_eq) w) :=
  funext fun os => looks4 (congrFun (kA1 w) os) (congrFun (kA2 w) os) (congrFun (kA3 w) os) (congrFun (kA4 w) os)
theorem left0 : LeftO pp vw lo xT (Hook.obs (kHook kF kA kA_eq)) (Hook.val (kHook kF kA kA_eq)) 3868 :=
  LeftO.of_pieces (H₁ := hF) (gs₀ := #[]) (gs₁ := #[]) (boot_open open_eq (by rfl) fence_eq) size0 topRun0 (by rfl) looks0
end Hd
end Mine
end

section
open PySem PySem.W PyProof.Rows
set_option maxRecDepth 100000
set_option maxHeartbeats 0
namespace Mine
theorem left0 : LeftO (OpenRow.toRowW PySem.Challenge.rw_pq0939_01.row).prog vw lo (fun s => xlAt vw [] s && recOk (RowW.records (OpenRow.toRowW PySem.Challenge.rw_pq0939_01.row)) s) (Hook.obs (kHook kF kA kA_eq)) (Hook.val (kHook kF kA kA_eq)) 3868 := Hd.left0
end Mine
end

section
open PySem PySem.W PyProof.Rows PySem.Calls PySem.SeqAt PySem.MeetsSeq
set_option maxRecDepth 100000
namespace Mine
set_option hygiene false
def alts (s : String) (f : Lean.Ident → Lean.MacroM (Lean.TSyntax `Lean.Parser.Tactic.tacticSeq)) : Lean.MacroM (Lean.TSyntax `tactic) := do
  let al ← (s.splitOn " ").toArray.mapM fun n => f (Lean.mkIdent n.toName)
  `(tactic| first $[| $al]*)
local macro_rules | `(tactic| walk_at "kon") => alts "kPad kEquals kBlank kUnder kOpen kClose kAscii kLatin kUtf kUnknown kFigures kSixty kSigns kCharsets kWhite kWays kNames" fun n => `(Lean.Parser.Tactic.tacticSeq| exact $(Lean.mkIdent (`GOK ++ n.getId)) (by assumption))
local macro_rules | `(tactic| walk_at "g1") => alts "WE_int WE_str WE_bytes WE_none WE_bool WE_bin WE_un WE_if WE_bool_op WE_tuple WE_list WE_slice WE_sub WT_not WT_bool WA_and WA_or WA_and_nil WA_or_nil WO_one WO_and WO_or W2_le W2_lt W2_ge W2_gt W2_eq W2_ne W2_add W2_sub' W2_is W2_eqsL W2_nebL wp_some wp_none ex_int W1_neg WB_bool WS_cons WS_nil WX_if WX_return WX_break WL_nil then_next then_ret then_brk ret_ret ret_next turn_next turn_brk turn_ret yes no yes' no'" fun n => `(Lean.Parser.Tactic.tacticSeq| with_reducible refine $n ?_)
local macro_rules | `(tactic| walk_at "g2") => alts "dec dec' ieq ieq' ine'" fun n => `(Lean.Parser.Tactic.tacticSeq| with_reducible refine $n (fun _ => ?_) (fun _ => ?_))
local macro_rules | `(tactic| walk_at "w1") => `(tactic| first
  | ((with_reducible refine (?_ : WE _ _ (.Name _ _) _)); first | refine WE_name rfl ?_ | refine WE_glob rfl (by walk_at "kon") ?_)
  | ((with_reducible refine (?_ : WE _ _ (.Compare _ [_] [_] _) _)); refine WE_cmp ?_)
  | ((with_reducible refine (?_ : WE _ _ (.Compare _ [_, _] [_, _] _) _)); refine WE_chain ?_)
  | ((with_reducible refine (?_ : WE _ _ (.Subscript (.Name _ _) _ _) _)); first | refine WE_own_sub rfl ?_ (by first | (simp; done) | (simp; walk_at "o")) | (with_reducible refine WE_slice ?_) | refine WE_sub (WE_name rfl ?_) | refine WE_sub (WE_glob rfl (by walk_at "kon") ?_))
  | ((with_reducible refine (?_ : WT _ _ (.Compare _ [_] [_] _) _)); refine WT_cmp ?_)
  | ((with_reducible refine (?_ : WT _ _ (.Compare _ [_, _] [_, _] _) _)); refine WT_chain ?_)
  | walk_at "g1"
  | refine W2_mul (IntMulOk.of_left (by decide)) ?_
  | ((with_reducible refine (?_ : WL _ _ (_ :: _) _)); refine WL_cons ?_)
  | walk_at "g2"
  | ((with_reducible refine (?_ : WT _ _ _ _)); refine WT_val ?_))
local macro_rules | `(tactic| walk_at "as") => `(tactic| first | focus ((with_reducible refine WX_assign ?_ ?_ ?_ ?_); rotate_left 1; exact rfl; exact rfl; (intro _ _; rfl)) | refine WX_assign ?_ rfl rfl)
local macro_rules | `(tactic| walk_at "mt") => `(tactic| (rotate_left 1; (intro _ _; rfl); (intro _; rfl); rfl; (intro _; rfl); (intro _ _; rfl)))
local macro_rules | `(tactic| walk_at "m0") => `(tactic| (rotate_left 1; (intro _ _; rfl); rfl))
local macro_rules | `(tactic| walk_at "b1") => alts "len chr ord min max abs" fun n => `(Lean.Parser.Tactic.tacticSeq| refine WE_bi (id := $(Lean.quote n.getId.toString)) rfl ($(Lean.mkIdent (.mkSimple "GOK" ++ .mkSimple ("b" ++ n.getId.toString.capitalize))) (by assumption)) (by kernel_rfl) ?_)
local macro_rules | `(tactic| walk_at "b2") => alts "bytes list dict int" fun n => `(Lean.Parser.Tactic.tacticSeq| refine WE_ty (T := $(Lean.quote n.getId.toString)) rfl ($(Lean.mkIdent (.mkSimple "GOK" ++ .mkSimple ("b" ++ n.getId.toString.capitalize))) (by assumption)) (by kernel_rfl) ?_)
local macro_rules | `(tactic| walk_at "bi") => `(tactic| first | walk_at "b1" | walk_at "b2")
local macro_rules | `(tactic| walk_at "w") => `(tactic| repeat' walk_at "w1")
set_option hygiene true

section
open PySem PySem.W PyProof.Rows PySem.Calls PySem.SeqAt PySem.MeetsSeq
set_option maxRecDepth 100000
theorem dAt {G : Gp} (ok : GOK G) (i n : Nat) (h : defNos[i]? = some n) : G.defs[i]? = some (defAt n) := by rw [ok.defs]; unfold myDefs; rw [List.getElem?_map, h]; rfl
theorem plain1 (n : Nat) (h1 : ((defAt n).params.args.map (·.arg)).length = 1) (hb : ∀ pm code doc v, bindArgs (docDef (defAt n).name (defAt n).params (defAt n).body (defAt n).scope pm code doc) ⟨[v], []⟩ = pure (((defAt n).params.args.map (·.arg)).zip [v]))
    (h2 : distinct ((defAt n).params.args.map (·.arg)) = true) (h3 : (((defAt n).params.args.map (·.arg)).all fun x => (defAt n).scope.names.lookup x == some .local || (defAt n).scope.names.lookup x == some .cell) = true)
    (h4 : ((defAt n).scope.names.all fun p => p.2 != .cell || (defAt n).scope.names.lookup p.1 == some .cell) = true) (h5 : distinct ((cellsFrom 0 (defAt n).scope.names []).map (·.1)) = true) (h6 : (defAt n).scope.isCoroutine = false) (h7 : (defAt n).scope.isGenerator = false) (h8 : (defAt n).scope.kind = .function) : Plain (defAt n) 1 :=
  ⟨fun pm code doc vs h => by obtain ⟨a, rfl⟩ := len1 h; exact hb _ _ _ _, h1, h2, h3, h4, h5, h6, h7, h8⟩
theorem plain2 (n : Nat) (h1 : ((defAt n).params.args.map (·.arg)).length = 2) (hb : ∀ pm code doc v u, bindArgs (docDef (defAt n).name (defAt n).params (defAt n).body (defAt n).scope pm code doc) ⟨[v, u], []⟩ = pure (((defAt n).params.args.map (·.arg)).zip [v, u]))
    (h2 : distinct ((defAt n).params.args.map (·.arg)) = true) (h3 : (((defAt n).params.args.map (·.arg)).all fun x => (defAt n).scope.names.lookup x == some .local || (defAt n).scope.names.lookup x == some .cell) = true)
    (h4 : ((defAt n).scope.names.all fun p => p.2 != .cell || (defAt n).scope.names.lookup p.1 == some .cell) = true) (h5 : distinct ((cellsFrom 0 (defAt n).scope.names []).map (·.1)) = true) (h6 : (defAt n).scope.isCoroutine = false) (h7 : (defAt n).scope.isGenerator = false) (h8 : (defAt n).scope.kind = .function) : Plain (defAt n) 2 :=
  ⟨fun pm code doc vs h => by obtain ⟨a, b, rfl⟩ := len2 h; exact hb _ _ _ _ _, h1, h2, h3, h4, h5, h6, h7, h8⟩
theorem plain3 (n : Nat) (h1 : ((defAt n).params.args.map (·.arg)).length = 3) (hb : ∀ pm code doc v u x, bindArgs (docDef (defAt n).name (defAt n).params (defAt n).body (defAt n).scope pm code doc) ⟨[v, u, x], []⟩ = pure (((defAt n).params.args.map (·.arg)).zip [v, u, x]))
    (h2 : distinct ((defAt n).params.args.map (·.arg)) = true) (h3 : (((defAt n).params.args.map (·.arg)).all fun x => (defAt n).scope.names.lookup x == some .local || (defAt n).scope.names.lookup x == some .cell) = true)
    (h4 : ((defAt n).scope.names.all fun p => p.2 != .cell || (defAt n).scope.names.lookup p.1 == some .cell) = true) (h5 : distinct ((cellsFrom 0 (defAt n).scope.names []).map (·.1)) = true) (h6 : (defAt n).scope.isCoroutine = false) (h7 : (defAt n).scope.isGenerator = false) (h8 : (defAt n).scope.kind = .function) : Plain (defAt n) 3 :=
  ⟨fun pm code doc vs h => by obtain ⟨a, b, c, rfl⟩ := len3 h; exact hb _ _ _ _ _ _, h1, h2, h3, h4, h5, h6, h7, h8⟩

noncomputable def hexW (c : Int) : Int := if 48 ≤ c ∧ c ≤ 57 then c - 48 else if 65 ≤ c ∧ c ≤ 70 then c - 55 else if 97 ≤ c ∧ c ≤ 102 then c - 87 else -1
theorem sp_hex (G : Gp) (ok : GOK G) (nh : Bool) (c : Int) : Sp G 14 1 nh [.int c] (· = .int (hexW c)) := by
  refine enter (defAt 31) (dAt ok 14 31 rfl) (plain1 31 rfl (by intros; rfl) (by rfl) (by rfl) (by rfl) (by rfl) rfl rfl rfl) fun A L a code => ?_
  first | with_reducible refine WS_cons ?_ | refine WS_cons ?_
  walk_at "w"
  all_goals
    show Dat.int _ = Dat.int _
    congr 1
    unfold hexW
    (repeat' split) <;> walk_at "o"

noncomputable def lowC (c : Int) : Int := if 65 ≤ c ∧ c ≤ 90 then c + 32 else c
theorem sp_lower_code (G : Gp) (ok : GOK G) (nh : Bool) (c : Int) : Sp G 3 1 nh [.int c] (· = .int (lowC c)) := by
  refine enter (defAt 10) (dAt ok 3 10 rfl) (plain1 10 rfl (by intros; rfl) (by rfl) (by rfl) (by rfl) (by rfl) rfl rfl rfl) fun A L a code => ?_
  first | with_reducible refine WS_cons ?_ | refine WS_cons ?_
  walk_at "w"
  all_goals
    show Dat.int _ = Dat.int _
    congr 1
    unfold lowC
    (repeat' split) <;> walk_at "o"

noncomputable def isW (c : Int) : Bool := decide (33 ≤ c) && decide (c ≤ 126) && (c != 63)
theorem sp_is_word_sign (G : Gp) (ok : GOK G) (nh : Bool) (c : Int) : Sp G 18 1 nh [.int c] (· = .bool (isW c)) := by
  refine enter (defAt 40) (dAt ok 18 40 rfl) (plain1 40 rfl (by intros; rfl) (by rfl) (by rfl) (by rfl) (by rfl) rfl rfl rfl) fun A L a code => ?_
  first | with_reducible refine WS_cons ?_ | refine WS_cons ?_
  walk_at "w"
  all_goals
    show Dat.bool _ = Dat.bool _
    congr 1
    unfold isW
    first | (exfalso; walk_at "o") | simp [*]

theorem W2_item {S : St} {Q : Dat → Prop} {b i : Expr} {l : List UInt8} {k : Int} (j : Nat) (hk : k = j) (hlen : l.length ≤ 1000000) (h1 : j < l.length) (q : Q (.int (l.getD j 0).toNat))
    (hs : ∀ o u, subscripted i false o u = operate [o, u] (getItem o u) := by intro _ _; with_unfolding_all rfl) : W2 S (subscriptTail b i) (.bytes l.toArray) (.int k) Q := by
  subst hk
  exact W2_bytes_item hlen (by walk_at "o") (by walk_at "o") (by simpa using q) hs
theorem V_lenb {S : St} {Q : Dat → Prop} {l : List UInt8} (hl : l.length ≤ 1000000) (q : Q (.int l.length)) : WV S (fun vs => call (.builtin "len") vs) [.bytes l.toArray] Q :=
  V_len (n := l.length) (by show some l.toArray.size = _; rw [List.size_toArray]) hl q
theorem V_lenl {S : St} {Q : Dat → Prop} {l : List Dat} (hl : l.length ≤ 1000000) (q : Q (.int l.length)) : WV S (fun vs => call (.builtin "len") vs) [.list l] Q :=
  V_len (n := l.length) rfl hl q

noncomputable def qAt (l : List UInt8) (n : Nat) : Int :=
  if l.length ≤ n + 2 then -1 else if 0 ≤ hexW (l.getD (n + 1) 0).toNat ∧ 0 ≤ hexW (l.getD (n + 2) 0).toNat then 16 * hexW (l.getD (n + 1) 0).toNat + hexW (l.getD (n + 2) 0).toNat else -1
theorem sp_quoted_at (G : Gp) (ok : GOK G) (nh : Bool) (l : List UInt8) (hl : l.length ≤ 1000) (n : Nat) : Sp G 15 2 nh [.bytes l.toArray, .int n] (· = .int (qAt l n)) := by
  refine enter (defAt 32) (dAt ok 15 32 rfl) (plain2 32 rfl (by intros; rfl) (by rfl) (by rfl) (by rfl) (by rfl) rfl rfl rfl) fun A L a code => ?_
  first | with_reducible refine WS_cons ?_ | refine WS_cons ?_
  walk_at "w"
  walk_at "bi"
  walk_at "w"
  refine V_lenb (by walk_at "o") ?_
  walk_at "w"
  · show Dat.int _ = Dat.int _
    rw [qAt, if_pos (by walk_at "o")]
  · walk_at "as"
    refine WE_def 14 (defAt 31) (dAt ok 14 31 rfl) rfl rfl ?_
    walk_at "w"
    refine W2_item (n + 1) (by walk_at "o") (by walk_at "o") (by walk_at "o") ?_
    walk_at "w"
    refine May.mk' (sp_hex G ok nh _) ?_ (Nat.le_refl _) id
    walk_at "w"
    walk_at "as"
    refine WE_def 14 (defAt 31) (dAt ok 14 31 rfl) rfl rfl ?_
    walk_at "w"
    refine W2_item (n + 2) (by walk_at "o") (by walk_at "o") (by walk_at "o") ?_
    walk_at "w"
    refine May.mk' (sp_hex G ok nh _) ?_ (Nat.le_refl _) id
    walk_at "w"
    all_goals
      show Dat.int _ = Dat.int _
      congr 1
      unfold qAt
      rw [if_neg (by walk_at "o")]
    · rw [if_pos ⟨by walk_at "o", by walk_at "o"⟩]
    · rw [if_neg (by walk_at "o")]
    · rw [if_neg (by walk_at "o")]
end
section
open PySem PySem.W PyProof.Rows PySem.Calls PySem.SeqAt PySem.MeetsSeq
set_option maxRecDepth 100000
noncomputable def unqC (l : List UInt8) (n : Nat) : Int := if ((l.getD n 0).toNat : Int) = 61 then qAt l n else -1
noncomputable def unq (l : List UInt8) (n : Nat) : List Int :=
  if n < l.length then (if 0 ≤ unqC l n then unqC l n :: unq l (n + 3) else ((l.getD n 0).toNat : Int) :: unq l (n + 1)) else []
termination_by l.length - n
theorem hexW_lt (c : Int) : hexW c ≤ 15 := by unfold hexW; (repeat' split) <;> walk_at "o"
theorem qAt_lt (l : List UInt8) (n : Nat) : qAt l n ≤ 255 := by
  unfold qAt
  have h1 := hexW_lt (l.getD (n + 1) 0).toNat
  have h2 := hexW_lt (l.getD (n + 2) 0).toNat
  (repeat' split) <;> walk_at "o"
theorem unq_rng (l : List UInt8) : ∀ (m n : Nat), l.length - n ≤ m → ∀ c ∈ unq l n, 0 ≤ c ∧ c < 256 := by
  intro m
  induction m with
  | zero =>
    intro n hn c hc
    rw [unq, if_neg (by walk_at "o")] at hc
    cases hc
  | succ m ih =>
    intro n hn c hc
    rw [unq] at hc
    split at hc
    · split at hc
      · rename_i h1 h2
        rcases List.mem_cons.mp hc with rfl | hc
        · refine ⟨h2, ?_⟩
          have := qAt_lt l n
          unfold unqC; split <;> walk_at "o"
        · exact ih (n + 3) (by walk_at "o") c hc
      · rcases List.mem_cons.mp hc with rfl | hc
        · have := (l.getD n 0).toNat_lt
          walk_at "o"
        · exact ih (n + 1) (by walk_at "o") c hc
    · cases hc
theorem unq_len (l : List UInt8) : ∀ (m n : Nat), l.length - n ≤ m → (unq l n).length ≤ l.length - n := by
  intro m
  induction m with
  | zero => intro n hn; rw [unq, if_neg (by walk_at "o")]; simp
  | succ m ih =>
    intro n hn
    rw [unq]
    split
    · split
      · have := ih (n + 3) (by walk_at "o")
        rw [List.length_cons]; walk_at "o"
      · have := ih (n + 1) (by walk_at "o")
        rw [List.length_cons]; walk_at "o"
    · simp
noncomputable def unqB (l : List UInt8) : List UInt8 := (unq l 0).map byteOf
theorem sp_unquoted (G : Gp) (ok : GOK G) (l : List UInt8) (hl : l.length ≤ 1000) : Sp G 16 3 true [.bytes l.toArray] (· = .bytes (unqB l).toArray) := by
  refine enter (defAt 33) (dAt ok 16 33 rfl) (plain1 33 rfl (by intros; rfl) (by rfl) (by rfl) (by rfl) (by rfl) rfl rfl rfl) fun A L a code => ?_
  refine WS_cons (WX_own ?_ rfl rfl rfl)
  walk_at "w"
  refine ⟨by simp, ?_⟩
  walk_at "w"
  walk_at "as"
  walk_at "w"
  refine WX_whileX (fun m σ' => ∃ (n : Nat) (cs : List Int), σ' = vr "line" (.bytes l.toArray) (ow "codes" (.list (cs.map .int)) (vr "at" (.int n) [])) ∧ m = l.length - n ∧ n ≤ l.length + 3 ∧ cs.length ≤ n ∧ cs ++ unq l n = unq l 0) (l.length - 0) _ (Ext.refl _) ⟨0, [], rfl, rfl, by walk_at "o", by simp, rfl⟩ ?_
  intro m σ' zq
  refine hidG fun zG zh => ?_
  obtain ⟨n, cs, rfl, rfl, hn, hcs, he⟩ := zq
  refine zh ?_
  clear zh zG
  have app : ∀ c : Int, cs.map Dat.int ++ [Dat.int c] = (cs ++ [c]).map Dat.int := fun c => by simp
  walk_at "w"
  walk_at "bi"
  walk_at "w"
  refine V_lenb (by walk_at "o") (W2_lt (WB_bool (dec (fun _ => ?_) (fun _ => ?_))))
  · refine tsHide fun zJ zQ zi zk => ?_
    walk_at "w"
    rw [unq, if_pos (by walk_at "o")] at he
    walk_at "as"
    first | with_reducible refine WE_is (.int (unqC l n)) ?_ ?_ | refine WE_is (.int (unqC l n)) ?_ ?_
    · walk_at "w"
      refine W2_item n rfl (by walk_at "o") (by walk_at "o") ?_
      walk_at "w"
      · rename_i h
        refine WE_def 15 (defAt 32) (dAt ok 15 32 rfl) rfl rfl ?_
        walk_at "w"
        refine May.mk' (sp_quoted_at G ok true l hl n) ?_ (Nat.le_refl _) id
        rw [unqC, if_pos h]
      · rename_i h
        rw [unqC, if_neg h]
    · walk_at "w"
      · rename_i h
        rw [if_pos h] at he
        refine WX_append rfl ?_ (by simp; walk_at "o")
        walk_at "w"
        walk_at "as"
        walk_at "w"
        refine zi _ ?_
        refine ⟨vr "line" (.bytes l.toArray) (ow "codes" (.list ((cs ++ [unqC l n]).map .int)) (vr "at" (.int ((n + 3 : Nat) : Int)) [])), ext_vr rfl (ext_ow (by rw [← app]; rfl) (ext_vr rfl Ext.nil)), l.length - (n + 3), by walk_at "o", n + 3, cs ++ [unqC l n], rfl, rfl, by walk_at "o", by simp; walk_at "o", ?_⟩
        rw [← he]; simp
      · rename_i h
        rw [if_neg h] at he
        refine WX_append rfl ?_ (by simp; walk_at "o")
        walk_at "w"
        refine W2_item n rfl (by walk_at "o") (by walk_at "o") ?_
        walk_at "w"
        walk_at "as"
        walk_at "w"
        refine zi _ ?_
        refine ⟨vr "line" (.bytes l.toArray) (ow "codes" (.list ((cs ++ [((l.getD n 0).toNat : Int)]).map .int)) (vr "at" (.int ((n + 1 : Nat) : Int)) [])), ext_vr rfl (ext_ow (by rw [← app]; rfl) (ext_vr rfl Ext.nil)), l.length - (n + 1), by walk_at "o", n + 1, cs ++ [((l.getD n 0).toNat : Int)], rfl, rfl, by walk_at "o", by simp; walk_at "o", ?_⟩
        rw [← he]; simp
  · rw [unq, if_neg (by walk_at "o")] at he
    refine then_next (WS_freeze (x := "codes") rfl ?_)
    walk_at "w"
    walk_at "bi"
    walk_at "w"
    refine V_bytes rfl (ns := cs) (fun c hc => ?_) (by walk_at "o") ?_
    · rw [List.append_nil] at he
      rw [he] at hc
      exact unq_rng l l.length 0 (by walk_at "o") c hc
    · walk_at "w"
      rw [List.append_nil] at he
      rw [he]; rfl
end
section
open PySem PySem.W PyProof.Rows PySem.Calls PySem.SeqAt PySem.MeetsSeq
set_option maxRecDepth 100000
theorem compAsk_gen {S : St} {σ : Sg} {scope : Scope} {t elt : Expr} {ifs : List Expr} {ds : List Dat} {Q : Dat → Prop} {α : Type} (xs : List α) (enc : α → Dat) (p : α → Bool) (f : α → Dat) (hds : ds = xs.map enc) (hl : xs.length ≤ 1000)
    (turn : ∀ (C : Addr) (i : Nat) (x : α), xs[i]? = some x → CTurn (cSt S scope C) (freeSg σ scope.names) t ifs elt (enc x) (fun r => p x = true ∧ r = f x) (p x = false)) (q : Q (.list ((xs.filter p).map f))) : CompAsk S σ scope t elt ifs ds Q := by
  subst hds
  refine ⟨by simpa using hl, fun i outs => outs = ((xs.take i).filter p).map f, rfl, fun C i d outs hd hj => ?_, fun outs ho => ?_⟩
  · rw [List.getElem?_map] at hd
    obtain ⟨x, hx, rfl⟩ := Option.map_eq_some_iff.mp hd
    have ht : xs.take (i + 1) = xs.take i ++ [x] := by rw [List.take_add_one, hx]; rfl
    intro h₀ fz₀ fz s v R hi K E c
    refine turn C i x hx h₀ fz₀ fz s v R hi K E fun σ' h' tk' q' => c σ' h' tk' ⟨q'.1, ?_⟩
    intro h₀ fz₀ fz s R K E c
    refine q'.2 h₀ fz₀ fz s R K E fun b h' tk' fz' q2 => c b h' tk' fz' ⟨fun e => (q2.1 e).mono fun r hr => ?_, fun e => ?_⟩
    · show outs ++ [r] = ((xs.take (i + 1)).filter p).map f
      rw [ht, List.filter_append, List.map_append, hj, hr.2]
      simp [hr.1]
    · show outs = ((xs.take (i + 1)).filter p).map f
      rw [ht, List.filter_append, List.map_append, hj]
      simp [q2.2 e]
  · rw [ho, List.length_map, List.take_length]; exact q
theorem compAsk_map' {S : St} {σ : Sg} {scope : Scope} {t elt : Expr} {ifs : List Expr} {ds : List Dat} {Q : Dat → Prop} {α : Type} (xs : List α) (enc : α → Dat) (f : α → Dat) (hds : ds = xs.map enc) (hl : xs.length ≤ 1000)
    (turn : ∀ (C : Addr) (i : Nat) (x : α), xs[i]? = some x → CTurn (cSt S scope C) (freeSg σ scope.names) t ifs elt (enc x) (fun r => r = f x) False) (q : Q (.list (xs.map f))) : CompAsk S σ scope t elt ifs ds Q := by
  refine compAsk_gen xs enc (fun _ => true) f hds hl (fun C i x hx => ?_) ?_
  · intro h₀ fz₀ fz s v R hi K E c
    refine turn C i x hx h₀ fz₀ fz s v R hi K E fun σ' h' tk' q' => c σ' h' tk' ⟨q'.1, ?_⟩
    intro h₀ fz₀ fz s R K E c
    exact q'.2 h₀ fz₀ fz s R K E fun b h' tk' fz' q2 => c b h' tk' fz' ⟨fun e => (q2.1 e).mono fun r hr => ⟨rfl, hr⟩, fun e => (q2.2 e).elim⟩
  · rw [List.filter_eq_self.mpr (fun _ _ => rfl)]; exact q

noncomputable abbrev encB (c : UInt8) : Dat := .int (c.toNat : Int)
noncomputable def under (c : UInt8) : UInt8 := if c = 95 then 32 else c
theorem u8_eq {c : UInt8} {n : Nat} (hn : n < 256) : ((c.toNat : Int) = n) ↔ c = UInt8.ofNat n := by
  constructor
  · intro h
    have h' : c.toNat = n := by walk_at "o"
    rw [← h']; simp
  · rintro rfl
    simp [UInt8.toNat_ofNat', Nat.mod_eq_of_lt hn]
theorem sp_word_q (G : Gp) (ok : GOK G) (l : List UInt8) (hl : l.length ≤ 1000) : Sp G 17 4 true [.bytes l.toArray] (· = .bytes (unqB (l.map under)).toArray) := by
  refine enter (defAt 34) (dAt ok 17 34 rfl) (plain1 34 rfl (by intros; rfl) (by rfl) (by rfl) (by rfl) (by rfl) rfl rfl rfl) fun A L a code => ?_
  first | with_reducible refine WS_cons ?_ | refine WS_cons ?_
  walk_at "w"
  refine WE_def 16 (defAt 33) (dAt ok 16 33 rfl) rfl rfl ?_
  walk_at "w"
  walk_at "bi"
  walk_at "w"
  refine WE_comp ⟨rfl, by rfl, by rfl, by rfl⟩ rfl (WI_val (WE_name rfl ⟨_, IV.bytes _, compAsk_map' l encB (fun c => .int ((under c).toNat : Int)) rfl hl (fun C i x hx => ?_) ?_⟩) rfl)
  · refine WG_name ⟨Ext.set rfl, WF_nil ⟨fun _ => ?_, fun e => (nomatch e)⟩⟩ rfl (.inr rfl)
    walk_at "w"
    · rename_i h
      have : x = 95 := (u8_eq (by decide)).mp h
      subst this; rfl
    · rename_i h
      have : x ≠ 95 := fun e => h (by rw [e]; rfl)
      unfold under; rw [if_neg this]
  · walk_at "w"
    rw [show (l.map fun c => Dat.int ((under c).toNat : Int)) = (l.map fun c => ((under c).toNat : Int)).map Dat.int by simp]
    refine V_bytes rfl (fun c hc => ?_) (by simp; walk_at "o") ?_
    · obtain ⟨x, _, rfl⟩ := List.mem_map.mp hc
      have := (under x).toNat_lt
      walk_at "o"
    · walk_at "w"
      have e : ((l.map fun c => ((under c).toNat : Int)).map byteOf) = l.map under := by
        rw [List.map_map]
        refine List.map_congr_left fun c _ => ?_
        simp [byteOf]
      rw [e]
      exact May.mk' (sp_unquoted G ok (l.map under) (by simpa using hl)) rfl (Nat.le_refl _) id
end
section
open PySem PySem.W PyProof.Rows PySem.Calls PySem.SeqAt PySem.MeetsSeq
set_option maxRecDepth 100000
noncomputable def peN (l : List UInt8) (n : Nat) : Nat := if n < l.length ∧ isW (l.getD n 0).toNat = true then peN l (n + 1) else n
termination_by l.length - n
noncomputable def partEnd (l : List UInt8) (n : Nat) : Int := if peN l n < l.length ∧ ((l.getD (peN l n) 0).toNat : Int) = 63 then (peN l n : Int) else -1
theorem sp_part_end (G : Gp) (ok : GOK G) (nh : Bool) (l : List UInt8) (hl : l.length ≤ 1000) (n : Nat) (hn : n ≤ 2000) : Sp G 19 2 nh [.bytes l.toArray, .int n] (· = .int (partEnd l n)) := by
  refine enter (defAt 41) (dAt ok 19 41 rfl) (plain2 41 rfl (by intros; rfl) (by rfl) (by rfl) (by rfl) (by rfl) rfl rfl rfl) fun A L a code => ?_
  refine WS_cons (WX_assign ?_ rfl rfl)
  walk_at "w"
  refine WX_whileX (fun m σ' => ∃ i : Nat, σ' = vr "octets" (.bytes l.toArray) (vr "at" (.int n) (vr "here" (.int i) [])) ∧ m = l.length - i ∧ peN l i = peN l n) (l.length - n) _ (Ext.refl _) ⟨n, rfl, rfl, rfl⟩ ?_
  rintro m σ' ⟨i, rfl, rfl, he⟩
  have go : ∀ (S : St), S = fnSt G (defAt 41) A L a code nh 1 none → True := fun _ _ => trivial
  have fin : peN l i = i → Then (fnSt G (defAt 41) A L a code nh 1 none) ((defAt 41).body.drop 2) (Ret (· = .int (partEnd l n))) .next (vr "octets" (.bytes l.toArray) (vr "at" (.int n) (vr "here" (.int i) []))) := by
    intro hi
    first | with_reducible refine then_next (WS_cons (WX_return ?_)) | refine then_next (WS_cons (WX_return ?_))
    walk_at "w"
    walk_at "bi"
    walk_at "w"
    refine V_lenb (by walk_at "o") ?_
    walk_at "w"
    · refine W2_item i rfl (by walk_at "o") (by walk_at "o") ?_
      walk_at "w"
      · rw [partEnd, ← he, hi, if_pos ⟨by walk_at "o", by assumption⟩]
      · rename_i h2
        show Dat.int _ = _
        rw [partEnd, ← he, hi, if_neg (fun h => h2 h.2)]
    · show Dat.int _ = _
      rw [partEnd, ← he, hi, if_neg (by walk_at "o")]
  walk_at "w"
  walk_at "bi"
  walk_at "w"
  refine V_lenb (by walk_at "o") (W2_lt (WB_bool (dec' (fun _ => ?_) (fun _ => ?_))))
  · walk_at "w"
    refine WE_def 18 (defAt 40) (dAt ok 18 40 rfl) rfl rfl ?_
    walk_at "w"
    refine W2_item i rfl (by walk_at "o") (by walk_at "o") ?_
    walk_at "w"
    refine May.mk' (sp_is_word_sign G ok nh _) ?_ (Nat.le_refl _) id
    first | with_reducible refine WB_bool ?_ | refine WB_bool ?_
    have he' := he
    rw [peN] at he'
    cases hw : isW (l.getD i 0).toNat with
    | true =>
      rw [if_pos ⟨by walk_at "o", hw⟩] at he'
      walk_at "w"
      walk_at "as"
      walk_at "w"
      exact ⟨_, Ext.refl _, l.length - (i + 1), by walk_at "o", i + 1, rfl, rfl, he'⟩
    | false =>
      rw [if_neg (fun h => by rw [hw] at h; exact absurd h.2 Bool.false_ne_true)] at he'
      walk_at "w1"
      walk_at "w1"
      exact fin (by rw [he, ← he'])
  · have he' := he
    rw [peN, if_neg (by walk_at "o")] at he'
    exact no (fin (by rw [he, ← he']))
end
section
open PySem PySem.W PyProof.Rows PySem.Calls PySem.SeqAt PySem.MeetsSeq
set_option maxRecDepth 100000
noncomputable def marksOf (l : List UInt8) (n : Nat) : Nat → Option (List Nat)
  | 0 => some [n + 1]
  | i + 1 => match marksOf l n i with
    | none => none
    | some ms => if partEnd l (ms.getD i 0 + 1) < 0 then none else some (ms ++ [(partEnd l (ms.getD i 0 + 1)).toNat])
theorem marks_len {l : List UInt8} {n : Nat} : ∀ {i : Nat} {ms : List Nat}, marksOf l n i = some ms → ms.length = i + 1
  | 0, ms, h => by cases h; rfl
  | i + 1, ms, h => by
    unfold marksOf at h
    cases hq : marksOf l n i with
    | none => rw [hq] at h; cases h
    | some ms' =>
      rw [hq] at h
      dsimp only at h
      split at h
      · cases h
      · cases h
        rw [List.length_append, marks_len hq]; rfl
theorem partEnd_lt (l : List UInt8) (n : Nat) : partEnd l n < (l.length : Int) ∧ -1 ≤ partEnd l n := by
  unfold partEnd
  split
  · walk_at "o"
  · walk_at "o"
theorem marks_le {l : List UInt8} {n : Nat} (hn : n ≤ 1000) (hl : l.length ≤ 1000) : ∀ {i : Nat} {ms : List Nat}, marksOf l n i = some ms → ∀ m ∈ ms, m ≤ 1001
  | 0, ms, h, m, hm => by cases h; rw [List.mem_singleton.mp hm]; walk_at "o"
  | i + 1, ms, h, m, hm => by
    unfold marksOf at h
    cases hq : marksOf l n i with
    | none => rw [hq] at h; cases h
    | some ms' =>
      rw [hq] at h
      dsimp only at h
      split at h
      · cases h
      · cases h
        rcases List.mem_append.mp hm with hm | hm
        · exact marks_le hn hl hq m hm
        · rw [List.mem_singleton.mp hm]
          have := (partEnd_lt l (ms'.getD i 0 + 1)).1
          walk_at "o"
theorem marks_none {l : List UInt8} {n : Nat} : ∀ {i j : Nat}, i ≤ j → marksOf l n i = none → marksOf l n j = none := by
  intro i j hij h
  induction j with
  | zero => rw [Nat.le_zero.mp hij] at h; exact h
  | succ j ih =>
    rcases Nat.lt_or_ge i (j + 1) with h1 | h1
    · unfold marksOf; rw [ih (by walk_at "o")]
    · rw [show i = j + 1 by walk_at "o"] at h; exact h
set_option genInjectivity false in
structure Wp where
  cs : List UInt8
  way : List UInt8
  load : List UInt8
  fin : Nat
noncomputable def wordParts (l : List UInt8) (n : Nat) : Option Wp :=
  if pick l (some (n : Int)) (some ((n : Int) + 2)) = [61, 63] then
    match marksOf l n 3 with
    | none => none
    | some ms => if pick l (some (ms.getD 3 0 : Int)) (some ((ms.getD 3 0 : Int) + 2)) = [63, 61] then
        some ⟨pick l (some ((ms.getD 0 0 : Int) + 1)) (some (ms.getD 1 0 : Int)), pick l (some ((ms.getD 1 0 : Int) + 1)) (some (ms.getD 2 0 : Int)), pick l (some ((ms.getD 2 0 : Int) + 1)) (some (ms.getD 3 0 : Int)), ms.getD 3 0 + 2⟩ else none
  else none
noncomputable def wpD : Option Wp → Dat
  | none => .none
  | some p => .tuple [.bytes p.cs.toArray, .bytes p.way.toArray, .bytes p.load.toArray, .int (p.fin : Int)]
noncomputable abbrev encN (n : Nat) : Dat := .int (n : Int)
theorem seq_last {n : Nat} : seqIndex? (-1) (n + 1) = some n := by
  unfold seqIndex?
  simp
  walk_at "o"
theorem get_map {α : Type} (f : α → Dat) (xs : List α) (i : Nat) (x : α) (h : xs[i]? = some x) : (xs.map f)[i]? = some (f x) := by rw [List.getElem?_map, h]; rfl
theorem getD_at {ms : List Nat} {i : Nat} (h : i < ms.length) : ms[i]? = some (ms.getD i 0) := by
  rw [List.getD_eq_getElem?_getD, List.getElem?_eq_getElem h]; rfl
theorem sp_word_parts (G : Gp) (ok : GOK G) (l : List UInt8) (hl : l.length ≤ 1000) (n : Nat) (hn : n ≤ 1000) : Sp G 20 3 true [.bytes l.toArray, .int n] (· = wpD (wordParts l n)) := by
  refine enter (defAt 42) (dAt ok 20 42 rfl) (plain2 42 rfl (by intros; rfl) (by rfl) (by rfl) (by rfl) (by rfl) rfl rfl rfl) fun A L a code => ?_
  first | with_reducible refine WS_cons ?_ | refine WS_cons ?_
  walk_at "w"
  refine slice_b (by walk_at "o") ?_
  walk_at "w"
  · rename_i h
    rw [wordParts, if_neg h]; rfl
  rename_i h0
  have h0 : pick l (some (n : Int)) (some ((n : Int) + 2)) = [61, 63] := Classical.not_not.mp h0
  refine WX_own ?_ rfl rfl rfl
  walk_at "w"
  refine ⟨by simp, ?_⟩
  walk_at "w"
  refine WX_forX (WI_range1 rfl (GOK.bRange ok) (by kernel_rfl) rfl ?_)
  walk_at "w"
  refine ⟨3, 3, rfl, ⟨by decide, by decide⟩, ?_⟩
  refine ⟨fun i σ' => ∃ ms, marksOf l n i = some ms ∧ σ' = vr "octets" (.bytes l.toArray) (vr "at" (.int n) (ow "marks" (.list (ms.map encN)) [])), _, Ext.refl _, ⟨[n + 1], rfl, rfl⟩, ?_, ?_⟩
  · rintro i d σ' hd ⟨ms, hms, rfl⟩
    have hi : i < 3 := by
      rcases Nat.lt_or_ge i 3 with h | h
      · exact h
      · rw [List.getElem?_eq_none (by simpa [steps] using h)] at hd; cases hd
    have hlen := marks_len hms
    have hle := marks_le hn hl hms
    have hm1 : ms.getD i 0 ≤ 1001 := hle _ (List.mem_of_getElem? (getD_at (by walk_at "o")))
    refine WG_name ?_ rfl (.inl rfl)
    refine WS_cons (WX_append rfl ?_ (by simp; walk_at "o"))
    refine WE_def 19 (defAt 41) (dAt ok 19 41 rfl) rfl rfl ?_
    walk_at "w"
    refine ⟨-1, i, encN (ms.getD i 0), rfl, ?_, get_map encN ms i _ (getD_at (by walk_at "o")), ?_⟩
    · rw [List.length_map, hlen]; exact seq_last
    walk_at "w"
    refine May.mk' (sp_part_end G ok true l hl (ms.getD i 0 + 1) (by walk_at "o")) ?_ (Nat.le_refl _) id
    walk_at "w"
    refine ⟨-1, i + 1, .int (partEnd l (ms.getD i 0 + 1)), rfl, ?_, ?_, ?_⟩
    · simp only [List.length_append, List.length_map, List.length_singleton, hlen]; exact seq_last
    · rw [List.getElem?_append_right (by simp [hlen])]; simp [hlen]
    walk_at "w"
    · rename_i h
      have : marksOf l n (i + 1) = none := by unfold marksOf; rw [hms]; simp only [h, if_true]
      rw [wordParts, if_pos h0, marks_none (by walk_at "o") this]; rfl
    · rename_i h
      have e : ((partEnd l (ms.getD i 0 + 1)).toNat : Int) = partEnd l (ms.getD i 0 + 1) := by walk_at "o"
      have e2 : (ms ++ [(partEnd l (ms.getD i 0 + 1)).toNat]).map encN = ms.map encN ++ [Dat.int (partEnd l (ms.getD i 0 + 1))] := by
        rw [List.map_append, List.map_singleton, encN, e]
      refine ⟨vr "octets" (.bytes l.toArray) (vr "at" (.int n) (ow "marks" (.list ((ms ++ [(partEnd l (ms.getD i 0 + 1)).toNat]).map encN)) [])), ext_vr rfl (ext_vr rfl (ext_ow (by rw [e2]; rfl) Ext.nil)), ms ++ [(partEnd l (ms.getD i 0 + 1)).toNat], ?_, rfl⟩
      unfold marksOf; rw [hms]; simp only [h, if_false]
  · rintro σ' ⟨ms, hms, rfl⟩
    have hlen := marks_len hms
    have hms' : marksOf l n 3 = some ms := hms
    have hlen' : ms.length = 4 := hlen
    have hle := marks_le hn hl hms
    have at_ : ∀ i, i < 4 → ms[i]? = some (ms.getD i 0) := fun i hi => getD_at (by walk_at "o")
    have seq_ : ∀ i : Nat, i < 4 → seqIndex? (i : Int) (ms.map encN).length = some i := fun i hi => by
      rw [List.length_map, hlen']; unfold seqIndex?; simp; walk_at "o"
    refine then_next (WS_cons (WX_assign ?_ rfl rfl))
    walk_at "w"
    refine ⟨3, 3, encN (ms.getD 3 0), rfl, seq_ 3 (by walk_at "o"), get_map encN ms 3 _ (at_ 3 (by walk_at "o")), ?_⟩
    walk_at "w"
    refine ⟨3, 3, encN (ms.getD 3 0), rfl, seq_ 3 (by walk_at "o"), get_map encN ms 3 _ (at_ 3 (by walk_at "o")), ?_⟩
    walk_at "w"
    refine slice_b (by walk_at "o") (WE_bytes (W2_nebL (WB_bool (dec (fun h => ?_) (fun h => ?_)))))
    · walk_at "w"
      rw [wordParts, if_pos h0, hms']; simp only
      rw [if_neg h]; rfl
    have h1 := Classical.not_not.mp h
    refine WS_nil (then_next (WS_freeze (x := "marks") rfl (WS_cons (WX_assign_comp ⟨rfl, by rfl, by rfl, by rfl⟩ rfl rfl (WI_range1 rfl (GOK.bRange ok) (by kernel_rfl) rfl ?_)))))
    walk_at "w"
    refine ⟨3, 3, rfl, ⟨by decide, by decide⟩, compAsk_map' [0, 1, 2] encN (fun i => .bytes (pick l (some ((ms.getD i 0 : Int) + 1)) (some (ms.getD (i + 1) 0 : Int))).toArray) rfl (by simp) (fun C i x hx => ?_) ?_⟩
    · have hx3 : x < 3 := by
        have := List.mem_of_getElem? hx
        simp at this; walk_at "o"
      refine WG_name ⟨Ext.set rfl, WF_nil ⟨fun _ => ?_, fun e => (nomatch e)⟩⟩ rfl (.inr rfl)
      walk_at "w"
      refine W2_list_item (j := x) (r := encN (ms.getD x 0)) (by simp; walk_at "o") (seq_ x (by walk_at "o")) (get_map encN ms x _ (at_ x (by walk_at "o"))) ?_
      walk_at "w"
      refine W2_list_item (j := x + 1) (r := encN (ms.getD (x + 1) 0)) (by simp; walk_at "o") (by have := seq_ (x + 1) (by walk_at "o"); simpa using this) (get_map encN ms (x + 1) _ (at_ (x + 1) (by walk_at "o"))) ?_
      walk_at "w"
      exact slice_b (by walk_at "o") rfl
    · first | with_reducible refine then_next (WS_cons (WX_return ?_)) | refine then_next (WS_cons (WX_return ?_))
      walk_at "w"
      refine W2_list_item (j := 0) (by simp) rfl rfl ?_
      walk_at "w"
      refine W2_list_item (j := 1) (by simp) rfl rfl ?_
      walk_at "w"
      refine W2_list_item (j := 2) (by simp) rfl rfl ?_
      walk_at "w"
      refine ⟨by simp, ?_⟩
      walk_at "w"
      rw [wordParts, if_pos h0, hms']; simp only
      rw [if_pos h1]; rfl
end
section
open PySem PySem.W PyProof.Rows PySem.Calls PySem.SeqAt PySem.MeetsSeq
set_option maxRecDepth 100000
noncomputable def wht (c : UInt8) : Bool := c == 9 || c == 10 || c == 13 || c == 32
noncomputable abbrev whiteD : Dat := .tuple [.int 9, .int 10, .int 13, .int 32]
theorem wht_any (c : UInt8) : ([Dat.int 9, .int 10, .int 13, .int 32].any (sameD · (.int (c.toNat : Int)))) = wht c := by
  have e : ∀ n : Nat, n < 256 → (((n : Int) == (c.toNat : Int)) = (c == UInt8.ofNat n)) := fun n hn => by
    rw [Bool.eq_iff_iff, beq_iff_eq, beq_iff_eq]
    exact ⟨fun h => (u8_eq hn).mp h.symm, fun h => ((u8_eq hn).mpr h).symm⟩
  have e1 := e 9 (by decide); have e2 := e 10 (by decide); have e3 := e 13 (by decide); have e4 := e 32 (by decide)
  show (((9 : Int) == (c.toNat : Int)) || (((10 : Int) == (c.toNat : Int)) || (((13 : Int) == (c.toNat : Int)) || (((32 : Int) == (c.toNat : Int)) || false)))) = wht c
  have e1' : ((9 : Int) == (c.toNat : Int)) = (c == 9) := e1
  have e2' : ((10 : Int) == (c.toNat : Int)) = (c == 10) := e2
  have e3' : ((13 : Int) == (c.toNat : Int)) = (c == 13) := e3
  have e4' : ((32 : Int) == (c.toNat : Int)) = (c == 32) := e4
  rw [e1', e2', e3', e4', Bool.or_false]
  unfold wht
  rw [Bool.or_assoc, Bool.or_assoc]
theorem white_kind (c : Int) : ∀ d ∈ [Dat.int 9, .int 10, .int 13, .int 32], kindD d = kindD (.int c) := by
  intro d hd
  simp only [List.mem_cons, List.not_mem_nil, or_false] at hd
  rcases hd with rfl | rfl | rfl | rfl <;> rfl
theorem W2_white_notin {S : St} {Q : Dat → Prop} {c : UInt8} (q : Q (.bool (!wht c))) : W2 S (compareOp .NotIn) (.int (c.toNat : Int)) whiteD Q :=
  W2_notin (white_kind _) (by simp [kindD]) (by rw [wht_any]; exact q)
theorem W2_white_in {S : St} {Q : Dat → Prop} {c : UInt8} (q : Q (.bool (wht c))) : W2 S (compareOp .In) (.int (c.toNat : Int)) whiteD Q :=
  W2_in (white_kind _) (by simp [kindD]) (by rw [wht_any]; exact q)

noncomputable def isApart (l : List UInt8) (b e : Nat) : Bool :=
  !(decide (0 < b) && !wht (l.getD (b - 1) 0) && decide (((l.getD (b - 1) 0).toNat : Int) ≠ 40)) && (decide (e = l.length) || wht (l.getD e 0) || decide (((l.getD e 0).toNat : Int) = 41))
theorem sp_is_apart (G : Gp) (ok : GOK G) (nh : Bool) (l : List UInt8) (hl : l.length ≤ 1000) (b e : Nat) (hb : b ≤ l.length) (he : e ≤ l.length) : Sp G 21 1 nh [.bytes l.toArray, .int b, .int e] (· = .bool (isApart l b e)) := by
  refine enter (defAt 43) (dAt ok 21 43 rfl) (plain3 43 rfl (by intros; rfl) (by rfl) (by rfl) (by rfl) (by rfl) rfl rfl rfl) fun A L a code => ?_
  have last : ∀ (hg : (decide (0 < b) && !wht (l.getD (b - 1) 0) && decide (((l.getD (b - 1) 0).toNat : Int) ≠ 40)) = false), WS (fnSt G (defAt 43) A L a code nh 0 none) (σ₀ ((defAt 43).params.args.map (·.arg)) [.bytes l.toArray, .int b, .int e]) ((defAt 43).body.drop 1) (Ret (· = .bool (isApart l b e))) := by
    intro hg
    have ha : isApart l b e = (decide (e = l.length) || wht (l.getD e 0) || decide (((l.getD e 0).toNat : Int) = 41)) := by
      unfold isApart; rw [hg]; rfl
    first | with_reducible refine WS_cons (WX_return ?_) | refine WS_cons (WX_return ?_)
    walk_at "w"
    walk_at "bi"
    walk_at "w"
    refine V_lenb (by walk_at "o") (W2_eq (WB_bool (ieq (fun h => ?_) (fun h => ?_))))
    · walk_at "w"
      rw [ha]
      have h' : e = l.length := by walk_at "o"
      simp [h']
    walk_at "w"
    refine W2_item e rfl (by walk_at "o") (by walk_at "o") ?_
    walk_at "w"
    first | with_reducible refine W2_white_in (WB_bool ?_) | refine W2_white_in (WB_bool ?_)
    have he' : decide (e = l.length) = false := decide_eq_false (by walk_at "o")
    cases hw : wht (l.getD e 0) with
    | true =>
      walk_at "w"
      rw [ha, he', hw]; rfl
    | false =>
      walk_at "w"
      refine W2_item e rfl (by walk_at "o") (by walk_at "o") ?_
      walk_at "w"
      rw [ha, he', hw]
      show Dat.bool _ = Dat.bool _
      congr 1
  first | with_reducible refine WS_cons (WX_if (WT_bool (WA_and ?_))) | refine WS_cons (WX_if (WT_bool (WA_and ?_)))
  walk_at "w1"
  walk_at "w1"
  walk_at "w1"
  refine W2_gt (WB_bool (dec' (fun _ => ?_) (fun _ => ?_)))
  · walk_at "w"
    refine W2_item (b - 1) (by walk_at "o") (by walk_at "o") (by walk_at "o") ?_
    walk_at "w"
    first | with_reducible refine W2_white_notin (WB_bool ?_) | refine W2_white_notin (WB_bool ?_)
    have hb' : decide (0 < b) = true := decide_eq_true (by walk_at "o")
    cases hw : wht (l.getD (b - 1) 0) with
    | true =>
      first | with_reducible refine no' (no (WS_nil (then_next (last ?_)))) | refine no' (no (WS_nil (then_next (last ?_))))
      rw [hw]; simp
    | false =>
      refine yes' (WA_and (WT_cmp (WE_sub (WE_name rfl ?_))))
      walk_at "w"
      refine W2_item (b - 1) (by walk_at "o") (by walk_at "o") (by walk_at "o") ?_
      refine WE_glob rfl (by walk_at "kon") (W2_ne (WB_bool (ine' (fun h => ?_) (fun h => ?_))))
      · walk_at "w"
        unfold isApart
        rw [hb', hw, decide_eq_true h]; rfl
      · first | with_reducible refine no (WS_nil (then_next (last ?_))) | refine no (WS_nil (then_next (last ?_)))
        rw [(decide_eq_false (fun hh => hh h) : decide (((l.getD (b - 1) 0).toNat : Int) ≠ 40) = false)]; simp
  · first | with_reducible refine no (WS_nil (then_next (last ?_))) | refine no (WS_nil (then_next (last ?_)))
    rw [decide_eq_false (by walk_at "o" : ¬ 0 < b)]; simp

noncomputable def strB (l : List UInt8) : Str := ⟨(l.map (·.toNat)).toArray⟩
theorem join_singles (l : List Nat) : Txt.join "" (l.map fun c => (⟨#[c]⟩ : Str)) = ⟨l.toArray⟩ := by
  show Builtin.Str.glued "" _ = _
  have e : ∀ (l : List Nat) (acc : Array Nat), (l.map fun c => (⟨#[c]⟩ : Str)).foldl (fun acc p => acc ++ (Str.ofString "").cps ++ p.cps) acc = acc ++ l.toArray := by
    intro l
    induction l with
    | nil => intro acc; simp
    | cons c l ih =>
      intro acc
      rw [List.map_cons, List.foldl_cons, ih]
      apply Array.toList_inj.mp
      have : (Str.ofString "").cps = #[] := by rfl
      simp [this]
  cases l with
  | nil => rfl
  | cons c l =>
    unfold Builtin.Str.glued
    show (⟨List.foldl (fun acc p => acc ++ (Str.ofString "").cps ++ p.cps) #[c] (l.map fun c => (⟨#[c]⟩ : Str))⟩ : Str) = _
    rw [e]
    congr 1
    apply Array.toList_inj.mp
    simp
theorem joinOk_singles (l : List Nat) (h : l.length ≤ 1000) : JoinOk "" (l.map fun c => (⟨#[c]⟩ : Str)) = true := by
  unfold JoinOk
  have e : ∀ (l : List Nat) (n : Nat), (l.map fun c => (⟨#[c]⟩ : Str)).foldl (fun n p => n + p.length + (Str.ofString "").length) n = n + l.length := by
    intro l
    induction l with
    | nil => intro n; rfl
    | cons c l ih =>
      intro n
      rw [List.map_cons, List.foldl_cons, ih]
      have h1 : (Str.ofString "").length = 0 := by rfl
      have h2 : (⟨#[c]⟩ : Str).length = 1 := rfl
      rw [h1, h2]; simp; walk_at "o"
  rw [List.foldl_toArray', e, tooLong_no (by walk_at "o")]
  · rfl
  · rfl
theorem sp_plain_text (G : Gp) (ok : GOK G) (l : List UInt8) (hl : l.length ≤ 1000) : Sp G 22 1 true [.bytes l.toArray] (· = .str (strB l)) := by
  refine enter (defAt 44) (dAt ok 22 44 rfl) (plain1 44 rfl (by intros; rfl) (by rfl) (by rfl) (by rfl) (by rfl) rfl rfl rfl) fun A L a code => ?_
  first | with_reducible refine WS_cons (WX_return ?_) | refine WS_cons (WX_return ?_)
  first | focus ((with_reducible refine WE_meth "str" "str.join" F.plainAttrs_str F.slot_str_join F.type_str_join ?_ ?_ ?_ ?_ ?_ ?_); walk_at "mt") | refine WE_meth "str" "str.join" F.plainAttrs_str F.slot_str_join F.type_str_join ?_
  walk_at "w"
  refine ⟨rfl, ?_⟩
  walk_at "w"
  refine WE_comp ⟨rfl, by rfl, by rfl, by rfl⟩ rfl (WI_val (WE_name rfl ⟨_, IV.bytes _, compAsk_map' l encB (fun c => .str ⟨#[c.toNat]⟩) rfl hl (fun C i x hx => ?_) ?_⟩) rfl)
  · refine WG_name ⟨Ext.set rfl, WF_nil ⟨fun _ => ?_, fun e => (nomatch e)⟩⟩ rfl (.inr rfl)
    walk_at "bi"
    walk_at "w"
    have := x.toNat_lt
    exact V_chr (by walk_at "o") (by walk_at "o") rfl
  · walk_at "w"
    have e : (l.map fun c => Dat.str ⟨#[c.toNat]⟩) = ((l.map (·.toNat)).map fun c => (⟨#[c]⟩ : Str)).map Dat.str := by simp
    rw [e]
    refine V_join (joinOk_singles _ (by simpa using hl)) ?_
    walk_at "w"
    rw [join_singles]; rfl

theorem filt_all (l : List UInt8) : (l.filter (fun c => !wht c)).isEmpty = l.all wht := by
  induction l with
  | nil => rfl
  | cons c l ih =>
    rw [List.filter_cons, List.all_cons]
    cases h : wht c <;> simp [h, ih]
theorem sp_all_white (G : Gp) (ok : GOK G) (l : List UInt8) (hl : l.length ≤ 1000) : Sp G 25 1 true [.bytes l.toArray] (· = .bool (l.all wht)) := by
  refine enter (defAt 47) (dAt ok 25 47 rfl) (plain1 47 rfl (by intros; rfl) (by rfl) (by rfl) (by rfl) (by rfl) rfl rfl rfl) fun A L a code => ?_
  first | with_reducible refine WS_cons (WX_return (WE_cmp ?_)) | refine WS_cons (WX_return (WE_cmp ?_))
  refine WE_comp ⟨rfl, by rfl, by rfl, by rfl⟩ rfl (WI_val (WE_name rfl ⟨_, IV.bytes _, compAsk_gen l encB (fun c => !wht c) encB rfl hl (fun C i x hx => ?_) ?_⟩) rfl)
  · refine WG_name ⟨Ext.set rfl, WF_one ?_⟩ rfl (.inr rfl)
    walk_at "w"
    refine W2_white_notin (WB_bool ⟨fun h => ?_, fun h => h⟩)
    walk_at "w"
    exact ⟨h, rfl⟩
  · walk_at "w"
    refine ⟨by simp, W2_eq_nil ?_⟩
    walk_at "w"
    show Dat.bool _ = Dat.bool _
    congr 1
    rw [List.isEmpty_map]
    exact filt_all l

noncomputable def lowB (c : UInt8) : UInt8 := if 65 ≤ c ∧ c ≤ 90 then c + 32 else c
theorem lowC_B (c : UInt8) : lowC (c.toNat : Int) = ((lowB c).toNat : Int) := by
  unfold lowC lowB
  have h1 : (65 ≤ c ∧ c ≤ 90) ↔ (65 ≤ (c.toNat : Int) ∧ (c.toNat : Int) ≤ 90) := by
    rw [UInt8.le_iff_toNat_le, UInt8.le_iff_toNat_le]
    have e1 : (65 : UInt8).toNat = 65 := rfl
    have e2 : (90 : UInt8).toNat = 90 := rfl
    walk_at "o"
  by_cases h : 65 ≤ c ∧ c ≤ 90
  · rw [if_pos h, if_pos (h1.mp h)]
    have h2 := h1.mp h
    rw [UInt8.toNat_add]
    have e3 : (32 : UInt8).toNat = 32 := rfl
    walk_at "o"
  · rw [if_neg h, if_neg (fun q => h (h1.mpr q))]
theorem sp_lower_text (G : Gp) (ok : GOK G) (l : List UInt8) (hl : l.length ≤ 1000) : Sp G 4 2 true [.str (strB l)] (· = .str (strB (l.map lowB))) := by
  refine enter (defAt 11) (dAt ok 4 11 rfl) (plain1 11 rfl (by intros; rfl) (by rfl) (by rfl) (by rfl) (by rfl) rfl rfl rfl) fun A L a code => ?_
  first | with_reducible refine WS_cons (WX_return ?_) | refine WS_cons (WX_return ?_)
  first | focus ((with_reducible refine WE_meth "str" "str.join" F.plainAttrs_str F.slot_str_join F.type_str_join ?_ ?_ ?_ ?_ ?_ ?_); walk_at "mt") | refine WE_meth "str" "str.join" F.plainAttrs_str F.slot_str_join F.type_str_join ?_
  walk_at "w"
  refine ⟨rfl, ?_⟩
  walk_at "w"
  refine WE_comp ⟨rfl, by rfl, by rfl, by rfl⟩ rfl (WI_val (WE_name rfl ⟨_, IV.str _, compAsk_map' l (fun c => .str ⟨#[c.toNat]⟩) (fun c => .str ⟨#[(lowB c).toNat]⟩) (by simp [strB]) hl (fun C i x hx => ?_) ?_⟩) rfl)
  · refine WG_name ⟨Ext.set rfl, WF_nil ⟨fun _ => ?_, fun e => (nomatch e)⟩⟩ rfl (.inr rfl)
    walk_at "bi"
    walk_at "w"
    refine WE_def 3 (defAt 10) (dAt ok 3 10 rfl) rfl rfl ?_
    walk_at "w"
    walk_at "bi"
    walk_at "w"
    first | with_reducible refine V_ord ?_ | refine V_ord ?_
    walk_at "w"
    refine May.mk' (sp_lower_code G ok true _) ?_ (Nat.le_refl _) id
    walk_at "w"
    rw [lowC_B]
    have := (lowB x).toNat_lt
    exact V_chr (by walk_at "o") (by walk_at "o") rfl
  · walk_at "w"
    have e : (l.map fun c => Dat.str ⟨#[(lowB c).toNat]⟩) = (((l.map lowB).map (·.toNat)).map fun c => (⟨#[c]⟩ : Str)).map Dat.str := by simp
    rw [e]
    refine V_join (joinOk_singles _ (by simpa using hl)) ?_
    walk_at "w"
    rw [join_singles]; rfl
end
section
open PySem PySem.W
set_option maxRecDepth 100000
noncomputable def splA (c : UInt8) (acc : List UInt8) : List UInt8 → List (List UInt8)
  | [] => [acc]
  | x :: r => if x = c then acc :: splA c [] r else splA c (acc ++ [x]) r
noncomputable def spl (c : UInt8) (l : List UInt8) : List (List UInt8) := splA c [] l
noncomputable def idxs (c : UInt8) (k : Nat) : List UInt8 → List Nat
  | [] => []
  | x :: r => if x = c then k :: idxs c (k + 1) r else idxs c (k + 1) r
theorem idxs_len (c : UInt8) : ∀ (l : List UInt8) (k : Nat), (idxs c k l).length ≤ l.length
  | [], _ => Nat.le_refl _
  | x :: r, k => by
    unfold idxs
    have := idxs_len c r (k + 1)
    split
    · rw [List.length_cons, List.length_cons]; walk_at "o"
    · rw [List.length_cons]; walk_at "o"
theorem ext_one (l : List UInt8) (k : Nat) (x c : UInt8) (r : List UInt8) (h : l.drop k = x :: r) : (l.toArray.extract k (k + 1) == (#[c] : Array UInt8)) = decide (x = c) := by
  have e : l.toArray.extract k (k + 1) = #[x] := by
    apply Array.toList_inj.mp
    rw [Array.toList_extract]
    show List.extract l k (k + 1) = [x]
    rw [List.extract_eq_take_drop, h]
    simp
  rw [e, Bool.eq_iff_iff]
  simp
theorem occ_eq (c : UInt8) (l : List UInt8) : Builtin.Bytes.occurrences l.toArray #[c] 0 l.length = idxs c 0 l := by
  unfold Builtin.Bytes.occurrences
  have key : ∀ (r : List UInt8) (k : Nat) (acc : List Nat) (f : Nat), l.drop k = r → f ≤ k →
      ((List.range' k r.length).foldl (fun (acc : List Nat × Nat) (i : Nat) => if (decide (i ≥ acc.2) && l.toArray.extract i (i + (#[c] : Array UInt8).size) == #[c]) = true then (i :: acc.1, i + (#[c] : Array UInt8).size) else acc) (acc, f)).1 = (idxs c k r).reverse ++ acc := by
    intro r
    induction r with
    | nil => intro k acc f _ _; rfl
    | cons x r ih =>
      intro k acc f hd hf
      have hd' : l.drop (k + 1) = r := by rw [← List.drop_drop, hd]; rfl
      rw [List.length_cons, List.range'_succ, List.foldl_cons]
      have e1 : (#[c] : Array UInt8).size = 1 := rfl
      rw [e1]
      dsimp only
      rw [decide_eq_true (show k ≥ f from hf), Bool.true_and, ext_one l k x c r hd]
      unfold idxs
      by_cases hx : x = c
      · rw [if_pos (decide_eq_true hx), if_pos hx, List.reverse_cons, List.append_assoc]
        exact ih (k + 1) (k :: acc) (k + 1) hd' (Nat.le_refl _)
      · rw [if_neg (by simp [hx]), if_neg hx]
        exact ih (k + 1) acc f hd' (by walk_at "o")
  have e2 : ((List.range (l.length + 1 - (0 + (#[c] : Array UInt8).size))).map (· + 0)) = List.range' 0 l.length := by
    have : l.length + 1 - (0 + (#[c] : Array UInt8).size) = l.length := by show l.length + 1 - (0 + 1) = _; walk_at "o"
    rw [this, List.range_eq_range']; simp
  rw [e2]
  have := key l 0 [] 0 rfl (Nat.le_refl _)
  rw [List.append_nil] at this
  exact (congrArg List.reverse this).trans (List.reverse_reverse _)
theorem between_eq (c : UInt8) (l : List UInt8) : Builtin.Bytes.between l.toArray 1 (idxs c 0 l) = (spl c l).map List.toArray := by
  unfold Builtin.Bytes.between
  have key : ∀ (r : List UInt8) (k last : Nat) (parts : Array (Array UInt8)), l.drop k = r → last ≤ k → k ≤ l.length →
      ∀ (res : Array (Array UInt8) × Nat), (idxs c k r).foldl (fun (x : Array (Array UInt8) × Nat) p => (x.1.push (l.toArray.extract x.2 p), p + 1)) (parts, last) = res →
        (res.1.push (l.toArray.extract res.2 l.toArray.size)).toList = parts.toList ++ (splA c ((l.take k).drop last) r).map List.toArray := by
    intro r
    induction r with
    | nil =>
      intro k last parts hd hk hkl res hres
      have hkl' : k = l.length := by
        have := congrArg List.length hd
        simp at this; walk_at "o"
      cases hres
      subst hkl'
      rw [Array.toList_push, List.take_length]
      show parts.toList ++ [l.toArray.extract last l.toArray.size] = parts.toList ++ [(l.drop last).toArray]
      congr 2
      apply Array.toList_inj.mp
      simp
      exact List.take_of_length_le (by simp)
    | cons x r ih =>
      intro k last parts hd hk hkl res hres
      have hd' : l.drop (k + 1) = r := by rw [← List.drop_drop, hd]; rfl
      have hlt : k < l.length := by
        have := congrArg List.length hd
        simp at this; walk_at "o"
      have hx : l[k] = x := by
        have := List.getElem_cons_drop (as := l) (i := k) hlt
        rw [hd] at this
        exact (List.cons.inj this).1
      unfold idxs at hres
      unfold splA
      by_cases hc : x = c
      · rw [if_pos hc, List.foldl_cons] at hres
        rw [if_pos hc]
        have := ih (k + 1) (k + 1) (parts.push (l.toArray.extract last k)) hd' (Nat.le_refl _) hlt res hres
        rw [this, Array.toList_push, List.map_cons, List.append_assoc]
        congr 1
        show [l.toArray.extract last k] ++ _ = _
        have e1 : l.toArray.extract last k = ((l.take k).drop last).toArray := by
          apply Array.toList_inj.mp
          rw [Array.toList_extract]
          show List.extract l last k = _
          rw [List.extract_eq_take_drop, List.drop_take]
        have e2 : (l.take (k + 1)).drop (k + 1) = [] := by
          apply List.drop_of_length_le; simp; walk_at "o"
        rw [e1, e2]; rfl
      · rw [if_neg hc] at hres
        rw [if_neg hc]
        have := ih (k + 1) last parts hd' (by walk_at "o") hlt res hres
        rw [this]
        congr 3
        rw [List.take_succ_eq_append_getElem hlt, hx, List.drop_append_of_le_length (by simp; walk_at "o")]
  have := key l 0 0 #[] rfl (Nat.le_refl _) (Nat.zero_le _) _ rfl
  simpa [spl] using this
theorem bSplit_eq (c : UInt8) (l : List UInt8) : bSplit l.toArray #[c] = (spl c l).map List.toArray := by
  unfold bSplit
  have e : Builtin.Bytes.occurrences l.toArray #[c] 0 l.toArray.size = idxs c 0 l := occ_eq c l
  have e1 : (#[c] : Array UInt8).size = 1 := rfl
  rw [e, e1, List.take_of_length_le (Nat.le_succ_of_le (by simpa using idxs_len c l 0))]
  split
  · rename_i h
    rw [← between_eq]
    have h' : idxs c 0 l = [] := by simpa using h
    rw [h']
    show [l.toArray] = [l.toArray.extract 0 l.toArray.size]
    congr 1
    apply Array.toList_inj.mp
    simp
  · exact between_eq c l
theorem spl_len (c : UInt8) : ∀ (l acc : List UInt8), (splA c acc l).length ≤ l.length + 1
  | [], _ => Nat.le_refl _
  | x :: r, acc => by
    unfold splA
    split
    · have := spl_len c r []
      rw [List.length_cons, List.length_cons]; walk_at "o"
    · have := spl_len c r (acc ++ [x])
      rw [List.length_cons]; walk_at "o"
theorem spl_mem (c : UInt8) : ∀ (l acc : List UInt8), ∀ p ∈ splA c acc l, p.length ≤ acc.length + l.length
  | [], acc, p, h => by rw [List.mem_singleton.mp h]; simp
  | x :: r, acc, p, h => by
    unfold splA at h
    split at h
    · rcases List.mem_cons.mp h with rfl | h
      · walk_at "o"
      · have := spl_mem c r [] p h
        rw [List.length_cons]; simp at this; walk_at "o"
    · have := spl_mem c r (acc ++ [x]) p h
      rw [List.length_cons]; simp at this; walk_at "o"
end
section
open PySem PySem.W PyProof.Rows PySem.Calls PySem.SeqAt PySem.MeetsSeq
set_option maxRecDepth 100000
theorem W2_addbL {S : St} {Q : Dat → Prop} {a b : List UInt8} (hz : a.length + b.length ≤ 1000000) (q : Q (.bytes (a ++ b).toArray)) : W2 S (binaryOp .Add) (.bytes a.toArray) (.bytes b.toArray) Q := by
  refine W2_addb (by simpa using hz) ?_
  have e : a.toArray ++ b.toArray = (a ++ b).toArray := by simp
  rw [e]; exact q
theorem V_splitB {S : St} {Q : Dat → Prop} {l : List UInt8} {c : UInt8} (hl : l.length ≤ 1000) (q : Q (.list ((spl c l).map fun r => .bytes r.toArray))) : WV S (fun vs => call (.builtin "bytes.split") vs) [.bytes l.toArray, .bytes [c].toArray] Q := by
  have hb := bSplit_eq c l
  refine V_bsplit (sep := #[c]) rfl (by simp; walk_at "o") (fun p hp => ?_) ?_ ?_
  · rw [hb] at hp
    obtain ⟨r, hr, rfl⟩ := List.mem_map.mp hp
    have := spl_mem c l [] r hr
    simp at this ⊢; walk_at "o"
  · rw [hb, List.length_map]
    have := spl_len c l []
    unfold spl; walk_at "o"
  · rw [hb, List.map_map]; exact q
theorem exMin (ns : List Int) (a : Int) : ∃ m, minI (a :: ns) m := by
  induction ns generalizing a with
  | nil => exact ⟨a, .head _, fun b hb => by rw [List.mem_singleton.mp hb]; exact Int.le_refl _⟩
  | cons b ns ih =>
    obtain ⟨m, h1, h2⟩ := ih (min a b)
    refine ⟨m, ?_, fun c hc => ?_⟩
    · rcases List.mem_cons.mp h1 with rfl | h1
      · by_cases h : a ≤ b
        · rw [Int.min_eq_left h]; exact .head _
        · rw [Int.min_eq_right (by walk_at "o")]; exact .tail _ (.head _)
      · exact .tail _ (.tail _ h1)
    · have h3 := h2 _ (.head _)
      rcases List.mem_cons.mp hc with rfl | hc
      · exact Int.le_trans h3 (Int.min_le_left _ _)
      · rcases List.mem_cons.mp hc with rfl | hc
        · exact Int.le_trans h3 (Int.min_le_right _ _)
        · exact h2 _ (.tail _ hc)
theorem exMax (ns : List Int) (a : Int) : ∃ m, maxI (a :: ns) m := by
  induction ns generalizing a with
  | nil => exact ⟨a, .head _, fun b hb => by rw [List.mem_singleton.mp hb]; exact Int.le_refl _⟩
  | cons b ns ih =>
    obtain ⟨m, h1, h2⟩ := ih (max a b)
    refine ⟨m, ?_, fun c hc => ?_⟩
    · rcases List.mem_cons.mp h1 with rfl | h1
      · by_cases h : a ≤ b
        · rw [Int.max_eq_right h]; exact .tail _ (.head _)
        · rw [Int.max_eq_left (by walk_at "o")]; exact .head _
      · exact .tail _ (.tail _ h1)
    · have h3 := h2 _ (.head _)
      rcases List.mem_cons.mp hc with rfl | hc
      · exact Int.le_trans (Int.le_max_left _ _) h3
      · rcases List.mem_cons.mp hc with rfl | hc
        · exact Int.le_trans (Int.le_max_right _ _) h3
        · exact h2 _ (.tail _ hc)
noncomputable def inSigns (c : UInt8) : Bool := decide (33 ≤ c.toNat) && decide (c.toNat ≤ 126)
noncomputable def lawMarked (l : List UInt8) (n : Nat) : Option Wp :=
  if pick l (some (n : Int)) (some ((n : Int) + 2)) = [61, 63] then
    let rows := spl 63 (l.drop (n + 2))
    if rows.length < 4 then none else
    if (rows.getD 3 []).take 1 = [61] then
      if (rows.getD 0 [] ++ rows.getD 1 [] ++ rows.getD 2 []).all inSigns then some ⟨rows.getD 0 [], rows.getD 1 [], rows.getD 2 [], n + 6 + (rows.getD 0 []).length + (rows.getD 1 []).length + (rows.getD 2 []).length⟩ else none
    else none
  else none
theorem sp_law_marked (G : Gp) (ok : GOK G) (l : List UInt8) (hl : l.length ≤ 1000) (n : Nat) (hn : n ≤ 1000) : Sp G 33 1 true [.bytes l.toArray, .int n] (· = wpD (lawMarked l n)) := by
  refine enter (defAt 59) (dAt ok 33 59 rfl) (plain2 59 rfl (by intros; rfl) (by rfl) (by rfl) (by rfl) (by rfl) rfl rfl rfl) fun A L a code => ?_
  first | with_reducible refine WS_cons ?_ | refine WS_cons ?_
  walk_at "w"
  refine slice_b (by walk_at "o") ?_
  walk_at "w"
  · rename_i h
    rw [lawMarked, if_neg h]; rfl
  rename_i h0
  have h0 : pick l (some (n : Int)) (some ((n : Int) + 2)) = [61, 63] := Classical.not_not.mp h0
  walk_at "as"
  first | focus ((with_reducible refine WE_meth "bytes" "bytes.split" PySem.W.FB.plainAttrs_bytes FB.slot_split FB.type_split ?_ ?_ ?_ ?_ ?_ ?_); walk_at "mt") | refine WE_meth "bytes" "bytes.split" PySem.W.FB.plainAttrs_bytes FB.slot_split FB.type_split ?_
  walk_at "w"
  refine slice_b (by walk_at "o") ⟨rfl, ?_⟩
  walk_at "w"
  have ed : pick l (some ((n : Int) + 2)) none = l.drop (n + 2) := pick_n l (n + 2)
  rw [ed]
  generalize hr : l.drop (n + 2) = r
  have hrl : r.length ≤ 1000 := by rw [← hr]; simp; walk_at "o"
  refine V_splitB (c := 63) hrl ?_
  have hrows : ∀ q, q ∈ spl 63 r → q.length ≤ 1000 := fun q hq => by have := spl_mem 63 r [] q hq; simp at this; walk_at "o"
  have hrn := spl_len 63 r []
  have hm : lawMarked l n = (let rows := spl 63 r
    if rows.length < 4 then none else
    if (rows.getD 3 []).take 1 = [61] then
      if (rows.getD 0 [] ++ rows.getD 1 [] ++ rows.getD 2 []).all inSigns then some ⟨rows.getD 0 [], rows.getD 1 [], rows.getD 2 [], n + 6 + (rows.getD 0 []).length + (rows.getD 1 []).length + (rows.getD 2 []).length⟩ else none
    else none) := by rw [lawMarked, if_pos h0, hr]
  have hrn' : (spl 63 r).length ≤ 1001 := by unfold spl; walk_at "o"
  generalize spl 63 r = rows at *
  dsimp only at hm
  have row : ∀ i, i < rows.length → (rows.map fun r => Dat.bytes r.toArray)[i]? = some (.bytes (rows.getD i []).toArray) := fun i hi => by
    rw [List.getElem?_map, List.getElem?_eq_getElem hi, List.getD_eq_getElem?_getD, List.getElem?_eq_getElem hi]; rfl
  have rlen : ∀ i, i < rows.length → (rows.getD i []).length ≤ 1000 := fun i hi => by
    refine hrows _ ?_
    rw [List.getD_eq_getElem?_getD, List.getElem?_eq_getElem hi]
    exact List.getElem_mem hi
  walk_at "w"
  walk_at "bi"
  walk_at "w"
  refine V_lenl (by simp; walk_at "o") ?_
  rw [List.length_map]
  refine WE_int (W2_lt (WB_bool (dec (fun h => ?_) (fun h => ?_))))
  · walk_at "w"
    rw [hm, if_pos (by walk_at "o")]; rfl
  rw [if_neg (by walk_at "o")] at hm
  have seq_ : ∀ i : Nat, i < 4 → seqIndex? (i : Int) (rows.map fun r => Dat.bytes r.toArray).length = some i := fun i hi => by
    rw [List.length_map]; unfold seqIndex?; simp; walk_at "o"
  walk_at "w"
  refine W2_list_item (j := 3) (by simp; walk_at "o") (seq_ 3 (by walk_at "o")) (row 3 (by walk_at "o")) ?_
  walk_at "w"
  refine slice_b (by have := rlen 3 (by walk_at "o"); walk_at "o") ?_
  rw [show pick (rows.getD 3 []) none (some 1) = (rows.getD 3 []).take 1 from pick_o _ 1]
  walk_at "w"
  · rename_i h2
    rw [if_neg h2] at hm
    rw [hm]; rfl
  rename_i h2
  rw [if_pos (Classical.not_not.mp h2)] at hm
  have l0 := rlen 0 (by walk_at "o")
  have l1 := rlen 1 (by walk_at "o")
  have l2 := rlen 2 (by walk_at "o")
  generalize hcat : rows.getD 0 [] ++ rows.getD 1 [] ++ rows.getD 2 [] = t at hm
  have htl : t.length ≤ 3000 := by rw [← hcat]; simp only [List.length_append]; walk_at "o"
  obtain ⟨mn, hmn⟩ := exMin (t.map fun c => (c.toNat : Int)) 33
  obtain ⟨mx, hmx⟩ := exMax (t.map fun c => (c.toNat : Int)) 33
  have eints : [Dat.int 33] ++ (t.toArray.toList.map fun x => Dat.int (x.toNat : Int)) = (33 :: t.map fun c => (c.toNat : Int)).map Dat.int := by simp
  walk_at "bi"
  walk_at "w"
  refine ⟨by simp, ?_⟩
  walk_at "bi"
  walk_at "w"
  refine W2_list_item (j := 0) (by simp; walk_at "o") (seq_ 0 (by walk_at "o")) (row 0 (by walk_at "o")) ?_
  walk_at "w"
  refine W2_list_item (j := 1) (by simp; walk_at "o") (seq_ 1 (by walk_at "o")) (row 1 (by walk_at "o")) ?_
  refine W2_addbL (by walk_at "o") ?_
  walk_at "w"
  refine W2_list_item (j := 2) (by simp; walk_at "o") (seq_ 2 (by walk_at "o")) (row 2 (by walk_at "o")) ?_
  refine W2_addbL (by simp only [List.length_append]; walk_at "o") ?_
  rw [hcat]
  walk_at "w"
  refine V_listb rfl (by simp; walk_at "o") (W2_addl (by simp; walk_at "o") ?_)
  walk_at "w"
  rw [eints]
  refine V_min rfl hmn ?_
  walk_at "w"
  · rename_i hlt
    have : t.all inSigns = false := by
      rcases List.mem_cons.mp hmn.1 with e | e
      · walk_at "o"
      · obtain ⟨c, hc, e⟩ := List.mem_map.mp e
        rw [List.all_eq_false]
        exact ⟨c, hc, by unfold inSigns; simp; walk_at "o"⟩
    rw [this] at hm
    rw [hm]; rfl
  rename_i hge
  walk_at "bi"
  walk_at "w"
  refine ⟨by simp, ?_⟩
  walk_at "bi"
  walk_at "w"
  refine W2_list_item (j := 0) (by simp; walk_at "o") (seq_ 0 (by walk_at "o")) (row 0 (by walk_at "o")) ?_
  walk_at "w"
  refine W2_list_item (j := 1) (by simp; walk_at "o") (seq_ 1 (by walk_at "o")) (row 1 (by walk_at "o")) ?_
  refine W2_addbL (by walk_at "o") ?_
  walk_at "w"
  refine W2_list_item (j := 2) (by simp; walk_at "o") (seq_ 2 (by walk_at "o")) (row 2 (by walk_at "o")) ?_
  refine W2_addbL (by simp only [List.length_append]; walk_at "o") ?_
  rw [hcat]
  walk_at "w"
  refine V_listb rfl (by simp; walk_at "o") (W2_addl (by simp; walk_at "o") ?_)
  walk_at "w"
  rw [eints]
  refine V_max rfl hmx ?_
  walk_at "w"
  · rename_i hlt
    have : t.all inSigns = false := by
      rcases List.mem_cons.mp hmx.1 with e | e
      · walk_at "o"
      · obtain ⟨c, hc, e⟩ := List.mem_map.mp e
        rw [List.all_eq_false]
        exact ⟨c, hc, by unfold inSigns; simp; walk_at "o"⟩
    rw [this] at hm
    rw [hm]; rfl
  rename_i hle
  have hall : t.all inSigns = true := by
    rw [List.all_eq_true]
    intro c hc
    have h1 := hmn.2 _ (List.mem_cons_of_mem _ (List.mem_map_of_mem (f := fun c : UInt8 => (c.toNat : Int)) hc))
    have h2 := hmx.2 _ (List.mem_cons_of_mem _ (List.mem_map_of_mem (f := fun c : UInt8 => (c.toNat : Int)) hc))
    unfold inSigns
    simp; walk_at "o"
  rw [if_pos hall] at hm
  refine W2_list_item (j := 0) (by simp; walk_at "o") (seq_ 0 (by walk_at "o")) (row 0 (by walk_at "o")) ?_
  walk_at "w"
  refine W2_list_item (j := 1) (by simp; walk_at "o") (seq_ 1 (by walk_at "o")) (row 1 (by walk_at "o")) ?_
  walk_at "w"
  refine W2_list_item (j := 2) (by simp; walk_at "o") (seq_ 2 (by walk_at "o")) (row 2 (by walk_at "o")) ?_
  walk_at "w"
  walk_at "bi"
  walk_at "w"
  refine W2_list_item (j := 0) (by simp; walk_at "o") (seq_ 0 (by walk_at "o")) (row 0 (by walk_at "o")) ?_
  walk_at "w"
  refine V_lenb (by walk_at "o") ?_
  walk_at "w"
  walk_at "bi"
  walk_at "w"
  refine W2_list_item (j := 1) (by simp; walk_at "o") (seq_ 1 (by walk_at "o")) (row 1 (by walk_at "o")) ?_
  walk_at "w"
  refine V_lenb (by walk_at "o") ?_
  walk_at "w"
  walk_at "bi"
  walk_at "w"
  refine W2_list_item (j := 2) (by simp; walk_at "o") (seq_ 2 (by walk_at "o")) (row 2 (by walk_at "o")) ?_
  walk_at "w"
  refine V_lenb (by walk_at "o") ?_
  walk_at "w"
  refine ⟨by simp, ?_⟩
  walk_at "w"
  rw [hm]
  show Dat.tuple _ = Dat.tuple _
  simp
end
section
open PySem PySem.W PyProof.Rows PySem.Calls PySem.SeqAt PySem.MeetsSeq
set_option maxRecDepth 100000
theorem sp_draw (G : Gp) (ok : GOK G) (nh : Bool) (m : Int) (h0 : 0 < m) (h1 : m ≤ 65536) : SpT G 28 1 nh [.int m] (fun d => ∃ c : Int, d = .int c ∧ 0 ≤ c ∧ c < m) := by
  refine enterT (defAt 54) (dAt ok 28 54 rfl) (plain2 54 rfl (by intros; rfl) (by rfl) (by rfl) (by rfl) (by rfl) rfl rfl rfl) "tape" ["many"] rfl fun A L a code tn ta tc => ?_
  refine WS_cons (WX_tape_first rfl rfl rfl rfl fun t ht => ?_)
  refine then_next (WS_cons (WX_tape_set rfl (.inl rfl) (WE_bin (WE_name rfl (WE_int (W2_add ?_))))))
  refine ⟨t + 1, rfl, by walk_at "o", then_next (WS_cons ?_)⟩
  have last : ∀ σ, Ext [("tape", .tape), ("many", .val (.int m)), ("turn", .val (.int t))] σ → WS (fnSt G (defAt 54) A L a code nh 0 (some (ta, tc)) tn [ta, tc] fun h => TapeAt h tn ta tc) σ ((defAt 54).body.drop 3) (Ret fun d => ∃ c : Int, d = .int c ∧ 0 ≤ c ∧ c < m) := by
    intro σ e
    refine WS_pre e (WS_cons (WX_tape_set rfl (.inr rfl) ?_))
    refine WE_bin (WE_bin (WE_bin (WE_bin (WE_tape_sub rfl (.inr rfl) fun c hc => WE_int (W2_mul (IntMulOk.of_right (by decide)) ?_)))))
    refine WE_bin (WE_name rfl (WE_int (W2_mul (IntMulOk.of_right (by decide)) (W2_add (WE_int (W2_add (WE_int (W2_mod (by decide) ?_))))))))
    refine ⟨_, rfl, Int.fmod_nonneg_of_pos _ (by decide), then_next (WS_cons (WX_return ?_))⟩
    refine WE_bin (WE_bin (WE_tape_sub rfl (.inr rfl) fun c hc => WE_int (W2_fdiv (by decide) (by decide) (WE_name rfl (W2_mod (by walk_at "o") ?_)))))
    exact ⟨_, rfl, Int.fmod_nonneg_of_pos _ h0, Int.fmod_lt_of_pos _ h0⟩
  refine WX_if (WT_cells rfl ⟨fun hne => ?_, fun _ => WS_nil (then_next (last _ (Ext.cons rfl (Ext.cons rfl (Ext.cons rfl Ext.nil)))))⟩)
  have hn : tn ≠ 0 := of_decide_eq_true hne
  have hp : (0 : Int) < tn := by walk_at "o"
  refine WS_cons (WX_assign (WE_bin (WE_name rfl (WE_len_cells rfl ?_ rfl (GOK.bLen (by assumption)) (by kernel_rfl)))) rfl rfl)
  refine W2_mod (by show (tn : Int) ≠ 0; walk_at "o") (then_next (WS_cons (WX_assign (WE_cells_sub rfl (WE_name rfl ?_)) rfl rfl)))
  refine ⟨_, rfl, Int.fmod_nonneg_of_pos _ hp, Int.fmod_lt_of_pos _ hp, fun c hc hc2 => then_next (WS_cons ?_)⟩
  have go : WS (fnSt G (defAt 54) A L a code nh 0 (some (ta, tc)) tn [ta, tc] fun h => TapeAt h tn ta tc) [("tape", .tape), ("many", .val (.int m)), ("cells", .cells), ("left", .val (.int c)), ("spot", .val (.int (t.fmod tn)))]
      (bS true ((bS true ((defAt 54).body.getD 2 (.Pass ⟨0, 0, 0, 0⟩))).getD 2 (.Pass ⟨0, 0, 0, 0⟩))) (Ret fun d => ∃ c : Int, d = .int c ∧ 0 ≤ c ∧ c < m) := by
    refine WS_cons (WX_cells_set rfl rfl (Int.fmod_nonneg_of_pos _ hp) (Int.fmod_lt_of_pos _ hp) (WE_bin (WE_name rfl (WE_name rfl (W2_fdiv (by walk_at "o") (by walk_at "o") ?_)))))
    refine ⟨_, rfl, Int.fdiv_nonneg hc (by walk_at "o"), ?_, then_next (WS_cons (WX_return (WE_bin (WE_name rfl (WE_name rfl (W2_mod (by walk_at "o") ?_))))))⟩
    · rw [Int.fdiv_eq_ediv_of_nonneg _ (by walk_at "o")]
      exact Int.lt_of_le_of_lt (Int.ediv_le_self _ hc) hc2
    · exact ⟨_, rfl, Int.fmod_nonneg_of_pos _ h0, Int.fmod_lt_of_pos _ h0⟩
  have go' : ∀ σ, Ext [("tape", .tape), ("many", .val (.int m)), ("cells", .cells), ("left", .val (.int c)), ("spot", .val (.int (t.fmod tn)))] σ → WS (fnSt G (defAt 54) A L a code nh 0 (some (ta, tc)) tn [ta, tc] fun h => TapeAt h tn ta tc) σ
      (bS true ((bS true ((defAt 54).body.getD 2 (.Pass ⟨0, 0, 0, 0⟩))).getD 2 (.Pass ⟨0, 0, 0, 0⟩))) (Then (fnSt G (defAt 54) A L a code nh 0 (some (ta, tc)) tn [ta, tc] fun h => TapeAt h tn ta tc) [] (Then (fnSt G (defAt 54) A L a code nh 0 (some (ta, tc)) tn [ta, tc] fun h => TapeAt h tn ta tc) ((defAt 54).body.drop 3) (Ret fun d => ∃ c : Int, d = .int c ∧ 0 ≤ c ∧ c < m))) := by
    intro σ e
    refine (WS_pre e go).mono fun o σ' q => ?_
    cases o with
    | ret d => exact q
    | next => obtain ⟨c, hc, _⟩ := q; cases hc
    | brk => exact q.elim
    | cont => exact q.elim
  refine WX_if (WT_bool (WA_or (WT_cmp (WE_name rfl (WE_len_cells rfl ?_ rfl (GOK.bLen (by assumption)) (by kernel_rfl))))))
  refine W2_lt (WB_bool (dec (fun _ => ?_) (fun _ => ?_)))
  · refine yes (go' _ (Ext.cons rfl (Ext.cons rfl (Ext.cons rfl (Ext.cons rfl (Ext.cons rfl Ext.nil))))))
  · refine WA_or (WT_cmp (WE_name rfl (WE_int (W2_gt (WB_bool (dec (fun _ => ?_) (fun _ => ?_)))))))
    · exact yes (go' _ (Ext.cons rfl (Ext.cons rfl (Ext.cons rfl (Ext.cons rfl (Ext.cons rfl Ext.nil))))))
    · exact WA_or_nil (no (WS_nil (then_next (WS_nil (then_next (last _ (Ext.cons rfl (Ext.cons rfl (Ext.cons rfl Ext.nil)))))))))
end
section
open PySem PySem.W PyProof.Rows PySem.Calls PySem.SeqAt PySem.MeetsSeq
set_option maxRecDepth 100000
theorem fitsL (i : Int) (h : -1000000000 ≤ i) (h2 : i ≤ 1000000000) : Builtin.Range.rangeFitsLong i = true := by
  unfold Builtin.Range.rangeFitsLong
  simp; walk_at "o"
theorem rangeOf (a b c : Int) (n : Nat) (e : Builtin.Range.rangeSize a b c = n) (h1 : -1000000 ≤ a ∧ a ≤ 1000000) (h2 : -1000000 ≤ b ∧ b ≤ 1000000) (h3 : -1000 ≤ c ∧ c ≤ 1000) (hn : n ≤ 1000000) : rangeOK a b c n := by
  refine ⟨?_, e⟩
  unfold Builtin.Range.small
  rw [e, fitsL a (by walk_at "o") (by walk_at "o"), fitsL b (by walk_at "o") (by walk_at "o"), fitsL c (by walk_at "o") (by walk_at "o"), fitsL n (by walk_at "o") (by walk_at "o"), fitsL (b + (c - 1)) (by walk_at "o") (by walk_at "o"), fitsL (b + (c + 1)) (by walk_at "o") (by walk_at "o")]
  simp
theorem range_up (a b : Nat) (h : b ≤ 100000) (ha : a ≤ 100000) : rangeOK a b 1 (b - a) := by
  refine rangeOf _ _ _ _ ?_ (by walk_at "o") (by walk_at "o") (by walk_at "o") (by walk_at "o")
  unfold Builtin.Range.rangeSize
  rw [if_pos (by decide)]
  split <;> walk_at "o"
theorem range1 (n : Nat) (h : n ≤ 100000) : rangeOK 0 (n : Int) 1 n := by
  have := range_up 0 n h (by walk_at "o")
  simpa using this
theorem steps_bound {a c : Int} {n i : Nat} {d : Dat} (h : (steps a c n)[i]? = some d) : i < n := by
  rcases Nat.lt_or_ge i n with q | q
  · exact q
  · rw [List.getElem?_eq_none (by rw [steps_length]; exact q)] at h; cases h
theorem steps_val {a c : Int} {n i : Nat} {d : Dat} (h : (steps a c n)[i]? = some d) : d = .int (a + i * c) := by
  rw [steps_get c n i a (steps_bound h)] at h
  exact (Option.some.inj h).symm
theorem WE_draw {S : St} {σ : Sg} {Q : Dat → Prop} {p xp cp pos : Pos} {k : Nat} {m : Int} {x : Str} (ok : GOK S.G) (hx : σ.get x = some .tape) (h0 : 0 < m) (h1 : m ≤ 65536) (hd : 1 ≤ S.dp) (hk : S.env.kindOf "_law_draw" = some .globalImplicit)
    (q : ∀ c : Nat, (c : Int) < m → Q (.int (c : Int))) (hdx : (x == ("__debug__" : Str)) = false := by decide) : WE S σ (.Call (.Name "_law_draw" p) [.Name x xp, .Constant (.int m) k cp] [] pos) Q := by
  refine WE_defT hx 28 (defAt 54) (dAt ok 28 54 rfl) rfl hk ?_ (by intro _; rfl) (by decide) hdx
  first | with_reducible refine WL_cons (WE_int (WL_nil ?_)) | refine WL_cons (WE_int (WL_nil ?_))
  refine MayT.mk2 (sp_draw S.G ok false m h0 h1) (fun d hd => ?_) hd (fun e => by cases e)
  obtain ⟨c, rfl, c0, c1⟩ := hd
  obtain ⟨n, rfl⟩ := Int.eq_ofNat_of_zero_le c0
  exact q n c1
theorem bytes_one {S : St} {Q : Dat → Prop} {c : Nat} (hn : S.nh = true) (hc : c < 256) (q : Q (.bytes [UInt8.ofNat c].toArray)) : WV S (fun vs => call (.type "bytes") vs) [.list [.int (c : Int)]] Q := by
  refine V_bytes (ns := [(c : Int)]) hn (fun n hm => ?_) (by simp) ?_
  · rw [List.mem_singleton.mp hm]; walk_at "o"
  · simpa [byteOf] using q
theorem sp_gap (G : Gp) (ok : GOK G) : SpT G 29 2 true [] (fun d => ∃ l : List UInt8, d = .bytes l.toArray ∧ l.length ≤ 2) := by
  refine enterT (defAt 55) (dAt ok 29 55 rfl) (plain1 55 rfl (by intros; rfl) (by rfl) (by rfl) (by rfl) (by rfl) rfl rfl rfl) "tape" [] rfl fun A L a code tn ta tc => ?_
  refine WS_cons (WX_assign ?_ rfl rfl)
  walk_at "w"
  refine WX_forX (WI_range1 rfl (GOK.bRange ok) (by kernel_rfl) rfl (WE_draw ok rfl (by decide) (by decide) (Nat.le_refl _) rfl fun c hc => ⟨c, c, rfl, range1 c (by walk_at "o"), ?_⟩))
  refine ⟨fun i σ' => ∃ l : List UInt8, l.length ≤ i ∧ σ' = (Str.ofString "tape", .tape) :: vr "found" (.bytes l.toArray) [], _, Ext.refl _, ⟨[], by simp, rfl⟩, ?_, ?_⟩
  · rintro i d σ' hd ⟨l, hl, rfl⟩
    have hi := steps_bound hd
    refine WG_name ?_ rfl (.inl rfl)
    refine WS_cons (WX_assign (WE_draw ok rfl (by decide) (by decide) (Nat.le_refl _) rfl fun w hw => ?_) rfl rfl)
    refine then_next (WS_cons (WX_assign (WE_bin (WE_name rfl (WE_if ?_))) rfl rfl))
    have fin : ∀ r : List UInt8, r.length ≤ 1 → W2 (fnSt G (defAt 55) A L a code true 1 (some (ta, tc)) tn [ta, tc] fun h => TapeAt h tn ta tc) (binaryOp .Add) (.bytes l.toArray) (.bytes r.toArray)
        fun d' => (Then (fnSt G (defAt 55) A L a code true 1 (some (ta, tc)) tn [ta, tc] fun h => TapeAt h tn ta tc) [] (Turn (fun σ'' => ∃ σ₁, Ext σ₁ σ'' ∧ ∃ l : List UInt8, l.length ≤ i + 1 ∧ σ₁ = (Str.ofString "tape", .tape) :: vr "found" (.bytes l.toArray) [])
          (Then (fnSt G (defAt 55) A L a code true 1 (some (ta, tc)) tn [ta, tc] fun h => TapeAt h tn ta tc) ((defAt 55).body.drop 2) (Ret fun d => ∃ l : List UInt8, d = .bytes l.toArray ∧ l.length ≤ 2)))) .next
          (Sg.set (Sg.set (Sg.set ((Str.ofString "tape", .tape) :: vr "found" (.bytes l.toArray) []) (Str.ofString "turn") (.val d)) (Str.ofString "which") (.val (.int (w : Int)))) (Str.ofString "found") (.val d')) := by
      intro r hr
      refine W2_addbL (by walk_at "o") (then_next (WS_nil (turn_next ⟨(Str.ofString "tape", .tape) :: vr "found" (.bytes (l ++ r).toArray) [], Ext.cons rfl (ext_vr rfl Ext.nil), l ++ r, by simp; walk_at "o", rfl⟩)))
    walk_at "w"
    · refine slice_b (by simp) (fin _ ?_)
      rw [show ((w : Int) + 1) = ((w + 1 : Nat) : Int) by simp, pick_nn]
      simp; walk_at "o"
    · walk_at "bi"
      refine WL_cons (WE_list (WL_cons (WE_draw ok rfl (by decide) (by decide) (Nat.le_refl _) rfl fun w hw => WL_nil ⟨by simp, WL_nil ?_⟩)))
      exact bytes_one rfl (by walk_at "o") (fin _ (by simp))
  · rintro σ' ⟨l, hl, rfl⟩
    rw [steps_length] at hl
    refine then_next (WS_cons (WX_return (WE_name rfl ?_)))
    exact ⟨l, rfl, by walk_at "o"⟩
end
section
open PySem PySem.W PyProof.Rows PySem.Calls PySem.SeqAt PySem.MeetsSeq
set_option maxRecDepth 100000
noncomputable abbrev tSt (G : Gp) (n : Nat) (A : Around) (L a : Addr) (code : Value) (k tn : Nat) (ta tc : Addr) : St := fnSt G (defAt n) A L a code true k (some (ta, tc)) tn [ta, tc] (fun h => TapeAt h tn ta tc)
noncomputable abbrev tpB (r : Sg) : Sg := (Str.ofString "tape", .tape) :: r
theorem bytes_two {S : St} {Q : Dat → Prop} {c e : UInt8} (hn : S.nh = true) (q : Q (.bytes [c, e].toArray)) : WV S (fun vs => call (.type "bytes") vs) [.list [.int (c.toNat : Int), .int (e.toNat : Int)]] Q := by
  refine V_bytes (ns := [(c.toNat : Int), (e.toNat : Int)]) hn (fun n hm => ?_) (by simp) ?_
  · have h1 := c.toNat_lt
    have h2 := e.toNat_lt
    rcases List.mem_cons.mp hm with rfl | hm
    · walk_at "o"
    · rw [List.mem_singleton.mp hm]; walk_at "o"
  · simpa [byteOf] using q
theorem sp_load (G : Gp) (ok : GOK G) : SpT G 30 2 true [] (fun d => ∃ l : List UInt8, d = .bytes l.toArray ∧ l.length ≤ 12) := by
  refine enterT (defAt 56) (dAt ok 30 56 rfl) (plain1 56 rfl (by intros; rfl) (by rfl) (by rfl) (by rfl) (by rfl) rfl rfl rfl) "tape" [] rfl fun A L a code tn ta tc => ?_
  refine WS_cons (WX_assign ?_ rfl rfl)
  walk_at "w"
  refine WX_forX (WI_range1 rfl (GOK.bRange ok) (by kernel_rfl) rfl (WE_draw ok rfl (by decide) (by decide) (Nat.le_refl _) rfl fun c hc => ⟨c, c, rfl, range1 c (by walk_at "o"), ?_⟩))
  refine ⟨fun i σ' => ∃ l : List UInt8, l.length ≤ 3 * i ∧ σ' = tpB (vr "found" (.bytes l.toArray) []), _, Ext.refl _, ⟨[], by simp, rfl⟩, ?_, ?_⟩
  · rintro i d σ' hd ⟨l, hl, rfl⟩
    have hi := steps_bound hd
    refine WG_name ?_ rfl (.inl rfl)
    have fin : ∀ (r : List UInt8) (σ : Sg), r.length ≤ 3 → σ.get (Str.ofString "tape") = some .tape → σ.get (Str.ofString "found") = some (.val (.bytes (l ++ r).toArray)) →
        (Then (tSt G 56 A L a code 1 tn ta tc) [] (Turn (fun σ'' => ∃ σ₁, Ext σ₁ σ'' ∧ ∃ l : List UInt8, l.length ≤ 3 * (i + 1) ∧ σ₁ = tpB (vr "found" (.bytes l.toArray) []))
          (Then (tSt G 56 A L a code 1 tn ta tc) ((defAt 56).body.drop 2) (Ret fun d => ∃ l : List UInt8, d = .bytes l.toArray ∧ l.length ≤ 12)))) .next σ := by
      intro r σ hr e1 e2
      exact then_next (WS_nil (turn_next ⟨tpB (vr "found" (.bytes (l ++ r).toArray) []), Ext.cons e1 (ext_vr e2 Ext.nil), l ++ r, by simp; walk_at "o", rfl⟩))
    refine WS_cons (WX_if (WT_cmp (WE_draw ok rfl (by decide) (by decide) (Nat.le_refl _) rfl fun w hw => ?_)))
    refine WE_int (W2_eq (WB_bool ⟨fun _ => ?_, fun _ => ?_⟩))
    · refine WS_cons (WX_assign (WE_bin (WE_int (WE_draw ok rfl (by decide) (by decide) (Nat.le_refl _) rfl fun w hw => ?_))) rfl rfl)
      refine W2_add (then_next (WS_cons (WX_assign (WE_bin (WE_name rfl ?_)) rfl rfl)))
      walk_at "bi"
      first | with_reducible refine WL_cons (WE_list (WL_cons (WE_if ?_))) | refine WL_cons (WE_list (WL_cons (WE_if ?_)))
      walk_at "w"
      · refine ⟨by simp, ?_⟩
        walk_at "w"
        rw [show ((33 : Int) + w + 1) = ((34 + w : Nat) : Int) by walk_at "o"]
        exact bytes_one rfl (by walk_at "o") (W2_addbL (by simp; walk_at "o") (then_next (WS_nil (fin _ _ (by simp) rfl rfl))))
      · refine ⟨by simp, ?_⟩
        walk_at "w"
        rw [show ((33 : Int) + w) = ((33 + w : Nat) : Int) by walk_at "o"]
        exact bytes_one rfl (by walk_at "o") (W2_addbL (by simp; walk_at "o") (then_next (WS_nil (fin _ _ (by simp) rfl rfl))))
    · refine WS_cons (WX_swap (names := ["high", "low"]) (WL_cons (WE_draw ok rfl (by decide) (by decide) (Nat.le_refl _) rfl fun w hw => WL_cons (WE_draw ok rfl (by decide) (by decide) (Nat.le_refl _) rfl fun u hu => WL_nil ⟨rfl, by simp, ?_⟩))) (by intro x hx; simp at hx; rcases hx with rfl | rfl <;> rfl) rfl)
      refine then_next (WS_cons (WX_assign (WE_bin (WE_bin (WE_name rfl (WE_bytes (W2_addbL (by simp; walk_at "o") ?_))))) rfl rfl))
      walk_at "bi"
      refine WL_cons (WE_list (WL_cons (WE_sub (WE_bytes (WE_name rfl (W2_item w rfl (by simp) (by simp; walk_at "o") ?_))))))
      refine WL_cons (WE_sub (WE_bytes (WE_name rfl (W2_item u rfl (by simp) (by simp; walk_at "o") (WL_nil ⟨by simp, WL_nil ?_⟩)))))
      refine bytes_two rfl (W2_addbL (by simp; walk_at "o") (then_next (WS_nil ?_)))
      rw [List.append_assoc]
      exact fin _ _ (by simp) rfl rfl
  · rintro σ' ⟨l, hl, rfl⟩
    rw [steps_length] at hl
    refine then_next (WS_cons (WX_return (WE_name rfl ?_)))
    exact ⟨l, rfl, by walk_at "o"⟩
end
section
open PySem PySem.W PyProof.Rows PySem.Calls PySem.SeqAt PySem.MeetsSeq
set_option maxRecDepth 100000
noncomputable abbrev encN' (n : Nat) : Dat := .int (n : Int)
theorem steps_range (n : Nat) : steps 0 1 n = (List.range n).map encN := by
  apply List.ext_getElem?
  intro i
  rcases Nat.lt_or_ge i n with h | h
  · rw [steps_get 1 n i 0 h, List.getElem?_map, List.getElem?_range h]
    simp
  · rw [List.getElem?_eq_none (by rw [steps_length]; exact h), List.getElem?_eq_none (by simp; exact h)]
noncomputable def wPairs (l : List UInt8) : List (Int × Int) := (List.range l.length).map fun i => (((l.getD i 0).toNat : Int), (i : Int))
theorem sp_worth_table (G : Gp) (ok : GOK G) (l : List UInt8) (hl : l.length ≤ 1000) : Sp G 0 1 true [.bytes l.toArray] (· = .dictI G.prog G.w l.length (tabI (wPairs l))) := by
  refine enter (defAt 3) (dAt ok 0 3 rfl) (plain1 3 rfl (by intros; rfl) (by rfl) (by rfl) (by rfl) (by rfl) rfl rfl rfl) fun A L a code => ?_
  first | with_reducible refine WS_cons (WX_return ?_) | refine WS_cons (WX_return ?_)
  walk_at "bi"
  refine WL_cons (WE_comp ⟨rfl, by rfl, by rfl, by rfl⟩ rfl (WI_range1 rfl (GOK.bRange ok) (by kernel_rfl) rfl ?_))
  walk_at "bi"
  walk_at "w"
  refine V_lenb (by walk_at "o") ⟨l.length, l.length, rfl, range1 _ (by walk_at "o"), ?_⟩
  refine compAsk_map' (List.range l.length) encN (fun i => pairD (((l.getD i 0).toNat : Int), (i : Int))) (steps_range _) (by simp; walk_at "o") (fun C i x hx => ?_) ?_
  · have hx' : x < l.length := List.mem_range.mp (List.mem_of_getElem? hx)
    refine WG_name ⟨Ext.set rfl, WF_nil ⟨fun _ => ?_, fun e => (nomatch e)⟩⟩ rfl (.inr rfl)
    walk_at "w"
    refine W2_item x rfl (by walk_at "o") hx' ?_
    walk_at "w"
    exact ⟨by simp, rfl⟩
  · walk_at "w"
    have e : ((List.range l.length).map fun i => pairD (((l.getD i 0).toNat : Int), (i : Int))) = (wPairs l).map pairD := by
      unfold wPairs; rw [List.map_map]; rfl
    rw [e]
    have hlen : (wPairs l).length = l.length := by simp [wPairs]
    refine V_dict rfl (by walk_at "o") ?_
    rw [hlen]; exact rfl

noncomputable def gTot (ws : List Int) : Int := ws.foldl (fun t w => 64 * t + w) 0
noncomputable def beB (t : Int) (m : Nat) : List UInt8 := (List.range m).map fun p => byteOf (Builtin.bitAnd (t.fdiv (2 ^ (8 * (m - 1 - p)))) 255)
theorem beB_len (t : Int) (m : Nat) : (beB t m).length = m := by simp [beB]
noncomputable def gOct (ws : List Int) : List UInt8 := beB ((gTot ws).fdiv (2 ^ (6 * ws.length - 8 * (ws.length - 1)))) (ws.length - 1)
theorem band255 (x : Int) : 0 ≤ Builtin.bitAnd x 255 ∧ Builtin.bitAnd x 255 < 256 := by
  rw [bitAnd_m8]; walk_at "o"
theorem steps_down (n : Nat) : steps ((n : Int) - 1) (-1) n = (List.range n).map fun p => encN (n - 1 - p) := by
  apply List.ext_getElem?
  intro i
  rcases Nat.lt_or_ge i n with h | h
  · rw [steps_get (-1) n i _ h, List.getElem?_map, List.getElem?_range h]
    show some (Dat.int _) = some (Dat.int _)
    congr 2
    walk_at "o"
  · rw [List.getElem?_eq_none (by rw [steps_length]; exact h), List.getElem?_eq_none (by simp; exact h)]
theorem sp_group (G : Gp) (ok : GOK G) (ws : List Int) (h1 : 2 ≤ ws.length) (h2 : ws.length ≤ 4) (hw : ∀ w ∈ ws, 0 ≤ w ∧ w < 64) : Sp G 1 1 true [.list (ws.map .int)] (fun d => ∃ r, d = .tuple [.bytes (gOct ws).toArray, .int r]) := by
  refine enter (defAt 4) (dAt ok 1 4 rfl) (plain1 4 rfl (by intros; rfl) (by rfl) (by rfl) (by rfl) (by rfl) rfl rfl rfl) fun A L a code => ?_
  refine WS_cons (WX_assign ?_ rfl rfl)
  walk_at "w"
  refine WX_forX (WI_val (WE_name rfl ⟨_, IV.list _, fun i σ' => σ' = vr "worth_row" (.list (ws.map .int)) (vr "total" (.int (gTot (ws.take i))) []), _, Ext.refl _, rfl, ?_, ?_⟩) rfl)
  · rintro i d σ' hd rfl
    rw [List.getElem?_map] at hd
    obtain ⟨w, hw', rfl⟩ := Option.map_eq_some_iff.mp hd
    refine WG_name ?_ rfl (.inl rfl)
    refine WS_cons (WX_assign ?_ rfl rfl)
    walk_at "w"
    refine ⟨_, ext_vr rfl (ext_vr ?_ Ext.nil), rfl⟩
    have e : gTot (ws.take (i + 1)) = 64 * gTot (ws.take i) + w := by
      rw [List.take_add_one, hw']
      unfold gTot
      rw [List.foldl_append]; rfl
    rw [e]; rfl
  · rintro σ' rfl
    rw [List.length_map, List.take_length]
    refine then_next (WS_cons (WX_assign ?_ rfl rfl))
    walk_at "w"
    walk_at "bi"
    walk_at "w"
    refine V_lenl (by simp; walk_at "o") ?_
    rw [List.length_map]
    walk_at "w"
    walk_at "as"
    walk_at "w"
    walk_at "bi"
    walk_at "w"
    refine V_lenl (by simp; walk_at "o") ?_
    rw [List.length_map]
    walk_at "w"
    walk_at "as"
    walk_at "w"
    have hc : ((ws.length : Int) - 1) = ((ws.length - 1 : Nat) : Int) := by walk_at "o"
    rw [hc]
    have hsp : 6 * (ws.length : Int) - 8 * ((ws.length - 1 : Nat) : Int) = ((6 * ws.length - 8 * (ws.length - 1) : Nat) : Int) := by walk_at "o"
    rw [hsp]
    refine W2_shr (by { omega }) ?_
    walk_at "w"
    rw [Int.toNat_natCast]
    walk_at "bi"
    refine WL_cons (WE_comp ⟨rfl, by rfl, by rfl, by rfl⟩ rfl (WI_range3 rfl (GOK.bRange ok) (by kernel_rfl) rfl ?_))
    walk_at "w"
    refine ⟨((ws.length - 1 : Nat) : Int) - 1, -1, -1, ws.length - 1, rfl, rfl, rfl, by decide, PyProof.noPylong_small (by decide), ?_, ?_⟩
    · refine rangeOf _ _ _ _ ?_ (by walk_at "o") (by walk_at "o") (by walk_at "o") (by walk_at "o")
      unfold Builtin.Range.rangeSize
      rw [if_neg (by decide), show (- -1 : Int) = 1 from rfl, Int.ediv_one]
      split <;> walk_at "o"
    · rw [steps_down]
      refine compAsk_map' (List.range (ws.length - 1)) (fun p => encN (ws.length - 1 - 1 - p)) (fun p => .int (Builtin.bitAnd (((gTot ws).fdiv (2 ^ (6 * ws.length - 8 * (ws.length - 1)))).fdiv (2 ^ (8 * (ws.length - 1 - 1 - p)))) 255)) rfl (by simp; walk_at "o") (fun C i x hx => ?_) ?_
      · refine WG_name ⟨Ext.set rfl, WF_nil ⟨fun _ => ?_, fun e => (nomatch e)⟩⟩ rfl (.inr rfl)
        walk_at "w"
        have e8 : (8 : Int) * ((ws.length - 1 - 1 - x : Nat) : Int) = ((8 * (ws.length - 1 - 1 - x) : Nat) : Int) := by walk_at "o"
        rw [e8]
        refine W2_shr (by { omega }) ?_
        rw [Int.toNat_natCast]
        walk_at "w"
        exact W2_band rfl
      · walk_at "w"
        have e : ((List.range (ws.length - 1)).map fun p => Dat.int (Builtin.bitAnd (((gTot ws).fdiv (2 ^ (6 * ws.length - 8 * (ws.length - 1)))).fdiv (2 ^ (8 * (ws.length - 1 - 1 - p)))) 255))
          = (((List.range (ws.length - 1)).map fun p => Builtin.bitAnd (((gTot ws).fdiv (2 ^ (6 * ws.length - 8 * (ws.length - 1)))).fdiv (2 ^ (8 * (ws.length - 1 - 1 - p)))) 255)).map Dat.int := by simp
        rw [e]
        refine V_bytes rfl (fun c hc => ?_) (by simp; walk_at "o") ?_
        · obtain ⟨p, _, rfl⟩ := List.mem_map.mp hc
          exact band255 _
        · walk_at "w"
          refine W2_shl (by walk_at "o") (by walk_at "o") (by decide) ?_
          walk_at "w"
          first | with_reducible refine W2_band ?_ | refine W2_band ?_
          walk_at "w"
          refine ⟨by simp, ?_⟩
          rw [List.map_map]
          exact ⟨_, rfl⟩
end
section
open PySem PySem.W PyProof.Rows PySem.Calls PySem.SeqAt PySem.MeetsSeq
set_option maxRecDepth 100000
noncomputable abbrev sigB : List UInt8 := "ABCDEFGHIJKLMNOPQRSTUVWXYZabcdefghijklmnopqrstuvwxyz0123456789+/".toList.map fun c => c.toNat.toUInt8
noncomputable def w64 (c : UInt8) : Option Int := tabI (wPairs sigB) (c.toNat : Int)
noncomputable def wRow : List UInt8 → List Int
  | [] => []
  | c :: r => if c = 61 then [] else match w64 c with
    | some v => v :: wRow r
    | none => wRow r
theorem wRow_cons (c : UInt8) (r : List UInt8) : wRow (c :: r) = if c = 61 then [] else match w64 c with
    | some v => v :: wRow r
    | none => wRow r := rfl
theorem tabI_some {ps : List (Int × Int)} {k v : Int} (h : tabI ps k = some v) : (k, v) ∈ ps := by
  revert v
  have key : ∀ (ps : List (Int × Int)) (g : Int → Option Int) (v : Int), ps.foldl (fun g p => updI g p.1 p.2) g k = some v → (k, v) ∈ ps ∨ g k = some v := by
    intro ps
    induction ps with
    | nil => intro g v h; exact .inr h
    | cons p ps ih =>
      intro g v h
      rcases ih _ v h with h1 | h1
      · exact .inl (.tail _ h1)
      · have h1 : (if k = p.1 then some p.2 else g k) = some v := h1
        split at h1
        · rename_i e
          cases h1
          rw [e]; exact .inl (.head _)
        · exact .inr h1
  intro v h
  rcases key ps _ v h with h1 | h1
  · exact h1
  · cases h1
theorem w64_rng {c : UInt8} {v : Int} (h : w64 c = some v) : 0 ≤ v ∧ v < 64 := by
  have hm := tabI_some h
  unfold wPairs at hm
  obtain ⟨i, hi, e⟩ := List.mem_map.mp hm
  have hl : sigB.length = 64 := by decide +kernel
  have := List.mem_range.mp hi
  simp only [Prod.mk.injEq] at e
  walk_at "o"
theorem wRow_rng : ∀ {l : List UInt8}, ∀ v ∈ wRow l, 0 ≤ v ∧ v < 64
  | [], v, h => by cases h
  | c :: r, v, h => by
    unfold wRow at h
    split at h
    · cases h
    · split at h
      · rename_i e
        rcases List.mem_cons.mp h with rfl | h
        · exact w64_rng e
        · exact wRow_rng v h
      · exact wRow_rng v h
theorem wRow_len : ∀ (l : List UInt8), (wRow l).length ≤ l.length
  | [] => Nat.le_refl _
  | c :: r => by
    unfold wRow
    have := wRow_len r
    split
    · simp
    · split
      · rw [List.length_cons, List.length_cons]; walk_at "o"
      · rw [List.length_cons]; walk_at "o"
noncomputable def grps (ws : List Int) (b : Nat) : List (List UInt8) :=
  if b < ws.length then (if 1 < ws.length - b then gOct ((ws.drop b).take 4) :: grps ws (b + 4) else grps ws (b + 4)) else []
termination_by ws.length - b
noncomputable def decB (l : List UInt8) : List UInt8 := (grps (wRow l) 0).flatten
theorem gOct_len (ws : List Int) : (gOct ws).length ≤ ws.length := by unfold gOct; rw [beB_len]; walk_at "o"
theorem grps_len (ws : List Int) : ∀ (m b : Nat), ws.length - b ≤ m → (grps ws b).length ≤ ws.length - b ∧ ∀ g ∈ grps ws b, g.length ≤ 4 := by
  intro m
  induction m with
  | zero =>
    intro b hb
    rw [grps, if_neg (by walk_at "o")]
    exact ⟨by simp, fun g hg => (nomatch hg)⟩
  | succ m ih =>
    intro b hb
    rw [grps]
    split
    · have := ih (b + 4) (by walk_at "o")
      split
      · refine ⟨by rw [List.length_cons]; walk_at "o", fun g hg => ?_⟩
        rcases List.mem_cons.mp hg with rfl | hg
        · have := gOct_len ((ws.drop b).take 4)
          have h2 : ((ws.drop b).take 4).length ≤ 4 := by simp; walk_at "o"
          walk_at "o"
        · exact this.2 g hg
      · exact ⟨by walk_at "o", this.2⟩
    · exact ⟨by simp, fun g hg => (nomatch hg)⟩
theorem fold_size (bs : List (List UInt8)) (h : ∀ g ∈ bs, g.length ≤ 4) : ∀ n, (bs.map List.toArray).foldl (fun n b => n + b.size) n ≤ n + 4 * bs.length := by
  induction bs with
  | nil => intro n; simp
  | cons g bs ih =>
    intro n
    rw [List.map_cons, List.foldl_cons]
    have h1 := ih (fun g hg => h g (.tail _ hg)) (n + g.toArray.size)
    have h2 := h g (.head _)
    rw [List.length_cons]
    simp only [List.size_toArray] at h1 ⊢
    walk_at "o"
theorem steps4 (m : Nat) {i : Nat} {d : Dat} (h : (steps 0 4 m)[i]? = some d) : i < m ∧ d = .int ((4 * i : Nat) : Int) := by
  refine ⟨steps_bound h, ?_⟩
  rw [steps_val h]; congr 1; walk_at "o"
set_option maxHeartbeats 2000000 in
theorem sp_decoded (G : Gp) (ok : GOK G) (l : List UInt8) (hl : l.length ≤ 1000) : Sp G 2 2 true [.bytes l.toArray] (· = .bytes (decB l).toArray) := by
  refine enter (defAt 5) (dAt ok 2 5 rfl) (plain1 5 rfl (by intros; rfl) (by rfl) (by rfl) (by rfl) (by rfl) rfl rfl rfl) fun A L a code => ?_
  have hs : sigB.length = 64 := by decide +kernel
  refine WS_cons (WX_assign ?_ rfl rfl)
  refine WE_def 0 (defAt 3) (dAt ok 0 3 rfl) rfl rfl ?_
  walk_at "w"
  refine May.mk' (sp_worth_table G ok sigB (by walk_at "o")) ?_ (Nat.le_refl _) id
  refine then_next (WS_cons (WX_own ?_ rfl rfl rfl))
  walk_at "w"
  refine ⟨by simp, ?_⟩
  have fin : ∀ σ, Ext (ow "worth_row" (.list ((wRow l).map .int)) []) σ → WS (fnSt G (defAt 5) A L a code true 1 none) σ ((defAt 5).body.drop 3) (Ret (· = .bytes (decB l).toArray)) := by
    intro σ e
    refine WS_pre e (WS_freeze (x := "worth_row") rfl (WS_cons (WX_own ?_ rfl rfl rfl)))
    walk_at "w"
    refine ⟨by simp, then_next (WS_cons ?_)⟩
    have hwl := wRow_len l
    generalize hw : wRow l = ws at hwl
    have hrng : ∀ v ∈ ws, 0 ≤ v ∧ v < 64 := by rw [← hw]; exact wRow_rng
    refine WX_forX (WI_range3 rfl (GOK.bRange ok) (by kernel_rfl) rfl ?_)
    walk_at "w"
    walk_at "bi"
    walk_at "w"
    refine V_lenl (by simp; walk_at "o") ?_
    rw [List.length_map]
    walk_at "w"
    refine ⟨0, ws.length, 4, (ws.length + 3) / 4, rfl, rfl, rfl, by decide, PyProof.noPylong_small (by decide), ?_, ?_⟩
    · refine rangeOf _ _ _ _ ?_ (by walk_at "o") (by walk_at "o") (by walk_at "o") (by walk_at "o")
      unfold Builtin.Range.rangeSize
      rw [if_pos (by decide)]
      split <;> walk_at "o"
    refine ⟨fun i σ' => ∃ gs : List (List UInt8), gs ++ grps ws (4 * i) = grps ws 0 ∧ gs.length ≤ i ∧ σ' = vr "worth_row" (.list (ws.map .int)) (ow "found" (.list (gs.map fun g => .bytes g.toArray)) []), _, Ext.cons rfl (Ext.cons rfl Ext.nil), ⟨[], rfl, Nat.le_refl _, rfl⟩, ?_, ?_⟩
    · rintro i d σ' hd ⟨gs, hg, hgl, rfl⟩
      obtain ⟨hi, rfl⟩ := steps4 _ hd
      refine WG_name ?_ rfl (.inl rfl)
      first | with_reducible refine WS_cons (WX_if ?_) | refine WS_cons (WX_if ?_)
      walk_at "w"
      walk_at "bi"
      walk_at "w"
      refine V_lenl (by simp; walk_at "o") ?_
      rw [List.length_map]
      rw [grps, if_pos (by walk_at "o")] at hg
      walk_at "w"
      · rename_i hb
        rw [if_pos (by walk_at "o")] at hg
        refine WX_append rfl ?_ (by simp; walk_at "o")
        first | with_reducible refine WE_sub ?_ | refine WE_sub ?_
        refine WE_def 1 (defAt 4) (dAt ok 1 4 rfl) rfl rfl ?_
        walk_at "w"
        refine slice_l (by simp; walk_at "o") ?_
        rw [show (((4 * i : Nat) : Int) + 4) = ((4 * i + 4 : Nat) : Int) by walk_at "o", pick_nn]
        walk_at "w"
        have em : ((ws.map Dat.int).drop (4 * i)).take (4 * i + 4 - 4 * i) = ((ws.drop (4 * i)).take 4).map Dat.int := by
          rw [show 4 * i + 4 - 4 * i = 4 by walk_at "o", List.map_take, List.map_drop]
        rw [em]
        have hgl4 : ((ws.drop (4 * i)).take 4).length = min 4 (ws.length - 4 * i) := by simp
        refine May.mk2 (sp_group G ok _ (by walk_at "o") (by walk_at "o") (fun w hw => hrng w (List.mem_of_mem_drop (List.mem_of_mem_take hw)))) (fun d hd => ?_) (Nat.le_refl _) id
        obtain ⟨r, rfl⟩ := hd
        walk_at "w"
        refine W2_tuple_item (j := 0) (by simp) rfl rfl ?_ (by decide)
        refine then_next (WS_nil (then_next (WS_nil (turn_next ⟨vr "worth_row" (.list (ws.map .int)) (ow "found" (.list ((gs ++ [gOct ((ws.drop (4 * i)).take 4)]).map fun g => .bytes g.toArray)) []), ext_vr rfl (ext_ow ?_ Ext.nil), _, ?_, ?_, rfl⟩))))
        · rw [List.map_append]; rfl
        · rw [List.append_assoc]; exact hg
        · simp; walk_at "o"
      · rw [if_neg (by walk_at "o")] at hg
        exact ⟨_, Ext.cons rfl (Ext.cons rfl Ext.nil), gs, hg, by walk_at "o", rfl⟩
    · rintro σ' ⟨gs, hg, hgl, rfl⟩
      rw [steps_length] at hg hgl
      rw [grps, if_neg (by walk_at "o"), List.append_nil] at hg
      have hgb := (grps_len ws ws.length 0 (by walk_at "o"))
      rw [← hg] at hgb
      refine then_next (WS_freeze (x := "found") rfl (WS_cons (WX_return ?_)))
      first | focus ((with_reducible refine WE_meth "bytes" "bytes.join" PySem.W.FB.plainAttrs_bytes FB.slot_join FB.type_join ?_ ?_ ?_ ?_ ?_ ?_); walk_at "mt") | refine WE_meth "bytes" "bytes.join" PySem.W.FB.plainAttrs_bytes FB.slot_join FB.type_join ?_
      walk_at "w"
      refine ⟨rfl, ?_⟩
      walk_at "w"
      have em : (gs.map fun g => Dat.bytes g.toArray) = (gs.map List.toArray).map Dat.bytes := by simp
      rw [em]
      first | with_reducible refine V_bjoin ?_ ?_ | refine V_bjoin ?_ ?_
      · have := fold_size gs hgb.2 0
        walk_at "o"
      · show Dat.bytes _ = Dat.bytes _
        unfold decB
        rw [hw, ← hg]
        congr 2
        rw [List.map_map]
        simp [Function.comp_def]
  first | with_reducible refine then_next (WS_cons ?_) | refine then_next (WS_cons ?_)
  refine WX_forX (WI_val (WE_name rfl ⟨_, IV.bytes _, fun i σ' => ∃ ws : List Int, ws ++ wRow (l.drop i) = wRow l ∧ ws.length ≤ i ∧ σ' = vr "worths" (.dictI G.prog G.w sigB.length (tabI (wPairs sigB))) (ow "worth_row" (.list (ws.map .int)) []), _, Ext.cons rfl (Ext.cons rfl Ext.nil), ⟨[], rfl, Nat.le_refl _, rfl⟩, ?_, ?_⟩) rfl)
  · rintro i d σ' hd ⟨ws, hw, hwl, rfl⟩
    have hi : i < l.length := by
      rcases Nat.lt_or_ge i l.length with h | h
      · exact h
      · rw [List.getElem?_eq_none (by simpa using h)] at hd; cases hd
    have hdc : d = .int ((l[i]'hi).toNat : Int) := by
      rw [List.getElem?_map] at hd
      simp [hi] at hd
      exact hd.symm
    subst hdc
    rw [List.drop_eq_getElem_cons hi] at hw
    generalize l[i]'hi = c at hw
    rw [wRow_cons] at hw
    refine WG_name ?_ rfl (.inl rfl)
    first | with_reducible refine WS_cons (WX_if (WT_cmp ?_)) | refine WS_cons (WX_if (WT_cmp ?_))
    refine WE_name rfl (WE_glob rfl (by walk_at "kon") (W2_eq (WB_bool (ieq (fun h => ?_) (fun h => ?_)))))
    · have hc : c = 61 := (u8_eq (by decide)).mp h
      rw [if_pos hc, List.append_nil] at hw
      subst hw
      first | with_reducible refine WS_cons (WX_break (then_brk (then_brk (turn_brk ?_)))) | refine WS_cons (WX_break (then_brk (then_brk (turn_brk ?_))))
      exact then_next (fin _ (Ext.cons rfl Ext.nil))
    · walk_at "w"
      have hc : ¬ c = 61 := fun e => h (by rw [e]; rfl)
      rw [if_neg hc] at hw
      refine W2_in_dictI rfl rfl (WB_bool ?_)
      cases hv : w64 c with
      | none =>
        rw [hv] at hw
        have hv' : tabI (wPairs sigB) (c.toNat : Int) = none := hv
        rw [hv']
        refine no (WS_nil (then_next (WS_nil (turn_next ⟨_, Ext.cons rfl (Ext.cons rfl Ext.nil), ws, hw, by walk_at "o", rfl⟩))))
      | some v =>
        rw [hv] at hw
        have hv' : tabI (wPairs sigB) (c.toNat : Int) = some v := hv
        rw [hv']
        refine yes (WS_cons (WX_append rfl ?_ (by simp; walk_at "o")))
        walk_at "w"
        refine W2_sub_dictI rfl rfl hv' ?_
        refine then_next (WS_nil (then_next (WS_nil (turn_next ⟨vr "worths" (.dictI G.prog G.w sigB.length (tabI (wPairs sigB))) (ow "worth_row" (.list ((ws ++ [v]).map .int)) []), ext_vr rfl (ext_ow ?_ Ext.nil), ws ++ [v], ?_, ?_, rfl⟩))))
        · rw [List.map_append]; rfl
        · rw [List.append_assoc]; exact hw
        · simp; walk_at "o"
  · rintro σ' ⟨ws, hw, hwl, rfl⟩
    have e : l.drop ((l.toArray.toList.map fun c => Dat.int (c.toNat : Int)).length) = [] := List.drop_eq_nil_of_le (by simp)
    rw [e] at hw
    have hw' : ws = wRow l := by rw [← hw]; simp [wRow]
    subst hw'
    exact then_next (fin _ (Ext.cons rfl Ext.nil))
end
section
open PySem PySem.W PyProof.Rows PySem.Calls PySem.SeqAt PySem.MeetsSeq
set_option maxRecDepth 100000
theorem plain0 (n : Nat) (h1 : ((defAt n).params.args.map (·.arg)).length = 0) (hb : ∀ pm code doc, bindArgs (docDef (defAt n).name (defAt n).params (defAt n).body (defAt n).scope pm code doc) ⟨[], []⟩ = pure (((defAt n).params.args.map (·.arg)).zip []))
    (h2 : distinct ((defAt n).params.args.map (·.arg)) = true) (h3 : (((defAt n).params.args.map (·.arg)).all fun x => (defAt n).scope.names.lookup x == some .local || (defAt n).scope.names.lookup x == some .cell) = true)
    (h4 : ((defAt n).scope.names.all fun p => p.2 != .cell || (defAt n).scope.names.lookup p.1 == some .cell) = true) (h5 : distinct ((cellsFrom 0 (defAt n).scope.names []).map (·.1)) = true) (h6 : (defAt n).scope.isCoroutine = false) (h7 : (defAt n).scope.isGenerator = false) (h8 : (defAt n).scope.kind = .function) : Plain (defAt n) 0 :=
  ⟨fun pm code doc vs h => by rw [List.length_eq_zero_iff.mp h]; exact hb _ _ _, h1, h2, h3, h4, h5, h6, h7, h8⟩
noncomputable def putAll (g : Str → Option Str) (as : List Str) (c : Str) : Str → Option Str := as.foldl (fun g a => updS g a c) g
noncomputable def as1 : List Str := ["us-ascii", "ascii", "ansi_x3.4-1968", "iso_646.irv:1991", "iso-ir-6", "iso646-us", "us", "cp367", "ibm367"]
noncomputable def as2 : List Str := ["iso-8859-1", "iso_8859-1", "iso_8859-1:1987", "iso-ir-100", "latin1", "l1", "cp819", "ibm819"]
noncomputable def as3 : List Str := ["utf-8", "utf8"]
noncomputable def csTab : Str → Option Str := putAll (putAll (putAll (fun _ => none) as1 "us-ascii") as2 "iso-8859-1") as3 "utf-8"
noncomputable def csName (x : Str) : Str := (csTab x).getD ""
theorem putAll_snoc (g : Str → Option Str) (as : List Str) (c a : Str) : putAll g (as ++ [a]) c = updS (putAll g as c) a c := by unfold putAll; rw [List.foldl_append]; rfl
theorem alias_loop {S : St} {Q : Out → Sg → Prop} {fr : Expr} {pos pos' p1 p2 p3 p4 p5 : Pos} {es : List Expr} {k1 : Nat} (as : List Str) (c : Str) (n : Nat) (g : Str → Option Str) (hn : S.nh = true) (hf : S.fn = true) (hv : isVar S.env "alias" = true)
    (hes : WE S (ow "found" (.dictS S.G.prog S.G.w n g) []) (.Tuple es k1 p1) (· = .tuple (as.map .str))) (hn2 : n + as.length ≤ 1000)
    (hc : ∀ σ Q', Q' (.str c) → WE S σ fr Q')
    (hs : ∀ env x, foldedSetIterable (.Tuple es k1 p1) env x = pure x) (hsw : ∀ line env, swapsWith fr (some (.Subscript (.Name "found" p2) (.Name "alias" p3) p4)) line env = pure false)
    (q : Q .next (ow "found" (.dictS S.G.prog S.G.w (n + as.length) (putAll g as c)) [])) :
    WX S (ow "found" (.dictS S.G.prog S.G.w n g) []) (.For (.Name "alias" pos') (.Tuple es k1 p1) [.Assign [.Subscript (.Name "found" p2) (.Name "alias" p3) p4] fr p5] [] pos) Q := by
  refine WX_forX (WI_val (WE_is _ hes ⟨_, IV.tuple _, fun i σ' => σ' = ow "found" (.dictS S.G.prog S.G.w (n + i) (putAll g (as.take i) c)) [], _, Ext.refl _, rfl, ?_, ?_⟩) hn) hs
  · rintro i d σ' hd rfl
    rw [List.getElem?_map] at hd
    obtain ⟨a, ha, rfl⟩ := Option.map_eq_some_iff.mp hd
    have hi : i < as.length := by
      rcases Nat.lt_or_ge i as.length with h | h
      · exact h
      · rw [List.getElem?_eq_none h] at ha; cases ha
    refine WG_name ?_ hv (.inl hf)
    refine WS_cons (WX_setS rfl (hc _ _ (WE_name rfl ⟨a, c, rfl, rfl, ?_⟩)) (by walk_at "o") (hs := hsw))
    refine then_next (WS_nil (turn_next ⟨ow "found" (.dictS S.G.prog S.G.w (n + (i + 1)) (putAll g (as.take (i + 1)) c)) [], ext_ow ?_ Ext.nil, rfl⟩))
    rw [List.take_add_one, ha]
    show Sg.get _ _ = some (Bd.own (.dictS S.G.prog S.G.w (n + (i + 1)) (putAll g (as.take i ++ [a]) c)))
    rw [putAll_snoc]; rfl
  · rintro σ' rfl
    rw [List.length_map, List.take_length]
    exact q
set_option maxHeartbeats 2000000 in
theorem sp_charset_names (G : Gp) (ok : GOK G) : Sp G 5 1 true [] (· = .dictS G.prog G.w 19 csTab) := by
  refine enter (defAt 18) (dAt ok 5 18 rfl) (plain0 18 rfl (by intros; rfl) (by rfl) (by rfl) (by rfl) (by rfl) rfl rfl rfl) fun A L a code => ?_
  refine WS_cons (WX_ownS ?_ rfl rfl rfl)
  with_reducible refine then_next ?_
  with_reducible refine WS_pre (σ₁ := ow "found" (.dictS G.prog G.w 0 fun _ => none) []) ?ext ?_
  case ext => exact ext_ow rfl Ext.nil
  with_reducible refine WS_cons ?_
  refine alias_loop as1 "us-ascii" 0 (fun _ => none) rfl rfl rfl ?_ (by decide) (fun σ Q' q => WE_glob rfl (GOK.kAscii ok) q) (by intro _ _; rfl) (by intro _ _; rfl) ?_
  · walk_at "w"
    exact ⟨by decide, rfl⟩
  with_reducible refine then_next ?_
  with_reducible refine WS_cons ?_
  refine alias_loop as2 "iso-8859-1" 9 _ rfl rfl rfl ?_ (by decide) (fun σ Q' q => WE_glob rfl (GOK.kLatin ok) q) (by intro _ _; rfl) (by intro _ _; rfl) ?_
  · walk_at "w"
    exact ⟨by decide, rfl⟩
  with_reducible refine then_next ?_
  with_reducible refine WS_cons ?_
  refine alias_loop as3 "utf-8" 17 _ rfl rfl rfl ?_ (by decide) (fun σ Q' q => WE_glob rfl (GOK.kUtf ok) q) (by intro _ _; rfl) (by intro _ _; rfl) ?_
  · walk_at "w"
    exact ⟨by decide, rfl⟩
  refine then_next (WS_freeze (x := "found") rfl (WS_cons (WX_return (WE_name rfl rfl))))
theorem sp_charset_name (G : Gp) (ok : GOK G) (l : List UInt8) (hl : l.length ≤ 1000) : Sp G 6 3 true [.str (strB l)] (· = .str (csName (strB (l.map lowB)))) := by
  refine enter (defAt 19) (dAt ok 6 19 rfl) (plain1 19 rfl (by intros; rfl) (by rfl) (by rfl) (by rfl) (by rfl) rfl rfl rfl) fun A L a code => ?_
  first | with_reducible refine WS_cons (WX_return ?_) | refine WS_cons (WX_return ?_)
  first | focus ((with_reducible refine WE_meth "dict" "dict.get" F.plainAttrs_dict F.slot_dict_get F.type_dict_get ?_ ?_ ?_ ?_ ?_ ?_); walk_at "mt") | refine WE_meth "dict" "dict.get" F.plainAttrs_dict F.slot_dict_get F.type_dict_get ?_
  refine WE_def0 5 (defAt 18) (dAt ok 5 18 rfl) rfl rfl ?_
  refine May.mk' (sp_charset_names G ok) ?_ (show 1 ≤ 2 by decide) id
  refine ⟨rfl, ?_⟩
  first | with_reducible refine WL_cons ?_ | refine WL_cons ?_
  refine WE_def 4 (defAt 11) (dAt ok 4 11 rfl) rfl rfl ?_
  walk_at "w"
  refine May.mk' (sp_lower_text G ok l hl) ?_ (Nat.le_refl _) id
  walk_at "w"
  exact V_getS rfl rfl rfl
end
section
open PySem PySem.W PyProof.Rows PySem.Calls PySem.SeqAt PySem.MeetsSeq
set_option maxRecDepth 100000
theorem WX_expr {S : St} {σ : Sg} {Q : Out → Sg → Prop} {e : Expr} {pos : Pos} (h : WE S σ e fun _ => Q .next σ) (hs : ∀ line env, swapsWith e none line env = pure false := by intro _ _; rfl) : WX S σ (.Expr e pos) Q := by
  intro h₀ fz₀ fz s ⟨μ, oa, R⟩ K E c
  exact wpAny_Expr_any (h ⟨h₀, μ, oa⟩ fz₀ fz s R _ _ fun d v h' tk' fz' q sub R' hi => c .next σ .next h' tk' fz' q sub R'.rel trivial) R.ok.inter (hs _ _)
noncomputable def csOK (cs : Str) : Prop := cs = "us-ascii" ∨ cs = "iso-8859-1" ∨ cs = "utf-8"
theorem sp_need (G : Gp) (ok : GOK G) (nh : Bool) (cs : Str) (h : csOK cs) : Sp G 7 1 nh [.str cs] (· = .none) := by
  refine enter (defAt 20) (dAt ok 7 20 rfl) (plain1 20 rfl (by intros; rfl) (by rfl) (by rfl) (by rfl) (by rfl) rfl rfl rfl) fun A L a code => ?_
  refine WS_cons (WX_if (WT_cmp (WE_name rfl (WE_glob rfl (by walk_at "kon") (W2_notin ?_ (by simp [kindD]) (WB_bool ?_))))))
  · intro d hd
    simp only [List.mem_cons, List.not_mem_nil, or_false] at hd
    rcases hd with rfl | rfl | rfl <;> rfl
  · have e : (!([sD "us-ascii", sD "iso-8859-1", sD "utf-8"].any (sameD · (.str cs)))) = false := by
      rcases h with rfl | rfl | rfl <;> rfl
    rw [e]
    exact no (WS_nil (then_next (WS_nil (ret_next rfl))))
noncomputable def fspan (c : Int) : Int × Int × Nat :=
  if 194 ≤ c ∧ c ≤ 223 then (128, 191, 1) else if 224 ≤ c ∧ c ≤ 239 then (if c = 224 then 160 else 128, if c = 237 then 159 else 191, 2)
  else if 240 ≤ c ∧ c ≤ 244 then (if c = 240 then 144 else 128, if c = 244 then 143 else 191, 3) else (0, 0, 0)
theorem get1 (i j k d : Int) : ((updI (fun _ => none) i j) k).getD d = if k = i then j else d := by
  unfold updI
  split <;> rfl
theorem WT_rng {S : St} {σ : Sg} {Q : Bool → Prop} {x : Str} {lo hi c : Int} {k1 k2 : Nat} {p1 p2 p3 pos : Pos} (hx : σ.get x = some (.val (.int c))) (q1 : lo ≤ c ∧ c ≤ hi → Q true) (q2 : ¬(lo ≤ c ∧ c ≤ hi) → Q false)
    (hd : (x == ("__debug__" : Str)) = false := by decide) : WT S σ (.Compare (.Constant (.int lo) k1 p1) [.LtE, .LtE] [.Name x p2, .Constant (.int hi) k2 p3] pos) Q := by
  refine WT_chain (WE_int (WE_name hx (W2_le (WB_bool ⟨fun h => q2 fun h' => ?_, fun h => WE_int (W2_le (WB_bool ?_))⟩)) hd))
  · exact absurd h'.1 (of_decide_eq_false h)
  · have h1 := of_decide_eq_true h
    by_cases h2 : c ≤ hi
    · rw [decide_eq_true h2]; exact q1 ⟨h1, h2⟩
    · rw [decide_eq_false h2]; exact q2 fun h' => h2 h'.2
theorem WL_call {S : St} {σ : Sg} {f : Expr} {as : List Expr} {ks : List Keyword} {p : Pos} {rest : List Expr} {Q : List Dat → Prop} (h : WE S σ (.Call f as ks p) fun d => WL S σ rest fun ds => Q (d :: ds)) : WL S σ (.Call f as ks p :: rest) Q :=
  WL_cons h (by intro _; rfl)
theorem WE_dget {S : St} {σ : Sg} {Q : Dat → Prop} {i j c d : Int} {k1 k2 k3 : Nat} {p1 p2 p3 p4 p5 ap pos : Pos} {x : Str} (hx : σ.get x = some (.val (.int c))) (q : Q (.int (if c = i then j else d))) (hline : (ap.endLine == pos.line) = true)
    (hd : (x == ("__debug__" : Str)) = false := by decide) :
    WE S σ (.Call (.Attribute (.Dict [some (.Constant (.int i) k1 p1)] [.Constant (.int j) k2 p2] p3) "get" ap) [.Name x p4, .Constant (.int d) k3 p5] [] pos) Q := by
  with_reducible refine WE_meth "dict" "dict.get" F.plainAttrs_dict F.slot_dict_get F.type_dict_get ?m (hbase := ?a) (hfew := ?b) (hline := hline) (he := ?c) (hp := ?d)
  case a => intro _ _; rfl
  case b => intro _; rfl
  case c => intro _; rfl
  case d => intro _ _; rfl
  case m =>
  with_reducible refine WE_dict1 ?_
  refine ⟨rfl, ?_⟩
  first | with_reducible refine WL_cons ?_ | refine WL_cons ?_
  first | with_reducible refine WE_name hx ?_ hd | refine WE_name hx ?_ hd
  first | with_reducible refine WL_cons ?_ | refine WL_cons ?_
  first | with_reducible refine WE_int ?_ | refine WE_int ?_
  first | with_reducible refine WL_nil ?_ | refine WL_nil ?_
  refine V_getI rfl rfl ?_
  rw [get1]; exact q
theorem sp_follower (G : Gp) (ok : GOK G) (nh : Bool) (c : Int) : Sp G 8 1 nh [.int c] (· = .tuple [.int (fspan c).1, .int (fspan c).2.1, .int (fspan c).2.2]) := by
  refine enter (defAt 21) (dAt ok 8 21 rfl) (plain1 21 rfl (by intros; rfl) (by rfl) (by rfl) (by rfl) (by rfl) rfl rfl rfl) fun A L a code => ?_
  first | with_reducible refine WS_cons ?_ | refine WS_cons ?_
  first | with_reducible refine WX_if ?_ | refine WX_if ?_
  refine WT_rng rfl (fun h1 => ?_) (fun h1 => ?_)
  · first | with_reducible refine yes ?_ | refine yes ?_
    first | with_reducible refine WS_cons ?_ | refine WS_cons ?_
    first | with_reducible refine WX_return ?_ | refine WX_return ?_
    first | with_reducible refine WE_tuple ?_ | refine WE_tuple ?_
    first | with_reducible refine WL_cons ?_ | refine WL_cons ?_
    first | with_reducible refine WE_int ?_ | refine WE_int ?_
    first | with_reducible refine WL_cons ?_ | refine WL_cons ?_
    first | with_reducible refine WE_int ?_ | refine WE_int ?_
    first | with_reducible refine WL_cons ?_ | refine WL_cons ?_
    first | with_reducible refine WE_int ?_ | refine WE_int ?_
    first | with_reducible refine WL_nil ?_ | refine WL_nil ?_
    refine ⟨by simp, ?_⟩
    show Dat.tuple _ = Dat.tuple _
    rw [show fspan c = (128, 191, 1) by unfold fspan; rw [if_pos h1]]; rfl
  first | with_reducible refine no ?_ | refine no ?_
  first | with_reducible refine WS_nil ?_ | refine WS_nil ?_
  first | with_reducible refine then_next ?_ | refine then_next ?_
  first | with_reducible refine WS_cons ?_ | refine WS_cons ?_
  first | with_reducible refine WX_if ?_ | refine WX_if ?_
  refine WT_rng rfl (fun h2 => ?_) (fun h2 => ?_)
  · first | with_reducible refine yes ?_ | refine yes ?_
    first | with_reducible refine WS_cons ?_ | refine WS_cons ?_
    first | with_reducible refine WX_return ?_ | refine WX_return ?_
    first | with_reducible refine WE_tuple ?_ | refine WE_tuple ?_
    first | with_reducible refine WL_call ?_ | refine WL_call ?_
    with_reducible refine WE_dget (c := c) ?a ?b ?c ?d
    case a => exact rfl
    case c => exact rfl
    case d => decide
    case b =>
    first | with_reducible refine WL_call ?_ | refine WL_call ?_
    with_reducible refine WE_dget (c := c) ?a ?b ?c ?d
    case a => exact rfl
    case c => exact rfl
    case d => decide
    case b =>
    first | with_reducible refine WL_cons ?_ | refine WL_cons ?_
    first | with_reducible refine WE_int ?_ | refine WE_int ?_
    first | with_reducible refine WL_nil ?_ | refine WL_nil ?_
    refine ⟨by simp, ?_⟩
    show Dat.tuple _ = Dat.tuple _
    rw [show fspan c = (if c = 224 then 160 else 128, if c = 237 then 159 else 191, 2) by unfold fspan; rw [if_neg h1, if_pos h2]]; rfl
  first | with_reducible refine no ?_ | refine no ?_
  first | with_reducible refine WS_nil ?_ | refine WS_nil ?_
  first | with_reducible refine then_next ?_ | refine then_next ?_
  first | with_reducible refine WS_cons ?_ | refine WS_cons ?_
  first | with_reducible refine WX_if ?_ | refine WX_if ?_
  refine WT_rng rfl (fun h3 => ?_) (fun h3 => ?_)
  · first | with_reducible refine yes ?_ | refine yes ?_
    first | with_reducible refine WS_cons ?_ | refine WS_cons ?_
    first | with_reducible refine WX_return ?_ | refine WX_return ?_
    first | with_reducible refine WE_tuple ?_ | refine WE_tuple ?_
    first | with_reducible refine WL_call ?_ | refine WL_call ?_
    with_reducible refine WE_dget (c := c) ?a ?b ?c ?d
    case a => exact rfl
    case c => exact rfl
    case d => decide
    case b =>
    first | with_reducible refine WL_call ?_ | refine WL_call ?_
    with_reducible refine WE_dget (c := c) ?a ?b ?c ?d
    case a => exact rfl
    case c => exact rfl
    case d => decide
    case b =>
    first | with_reducible refine WL_cons ?_ | refine WL_cons ?_
    first | with_reducible refine WE_int ?_ | refine WE_int ?_
    first | with_reducible refine WL_nil ?_ | refine WL_nil ?_
    refine ⟨by simp, ?_⟩
    show Dat.tuple _ = Dat.tuple _
    rw [show fspan c = (if c = 240 then 144 else 128, if c = 244 then 143 else 191, 3) by unfold fspan; rw [if_neg h1, if_neg h2, if_pos h3]]; rfl
  first | with_reducible refine no ?_ | refine no ?_
  first | with_reducible refine WS_nil ?_ | refine WS_nil ?_
  first | with_reducible refine then_next ?_ | refine then_next ?_
  first | with_reducible refine WS_cons ?_ | refine WS_cons ?_
  first | with_reducible refine WX_return ?_ | refine WX_return ?_
  first | with_reducible refine WE_tuple ?_ | refine WE_tuple ?_
  first | with_reducible refine WL_cons ?_ | refine WL_cons ?_
  first | with_reducible refine WE_int ?_ | refine WE_int ?_
  first | with_reducible refine WL_cons ?_ | refine WL_cons ?_
  first | with_reducible refine WE_int ?_ | refine WE_int ?_
  first | with_reducible refine WL_cons ?_ | refine WL_cons ?_
  first | with_reducible refine WE_int ?_ | refine WE_int ?_
  first | with_reducible refine WL_nil ?_ | refine WL_nil ?_
  refine ⟨by simp, ?_⟩
  show Dat.tuple _ = Dat.tuple _
  rw [show fspan c = (0, 0, 0) by unfold fspan; rw [if_neg h1, if_neg h2, if_neg h3]]; rfl
end
section
open PySem PySem.W PyProof.Rows PySem.Calls PySem.SeqAt PySem.MeetsSeq
set_option maxRecDepth 100000
noncomputable def u8go (l : List UInt8) (n : Nat) : Nat → Nat → Int → Int → Int → Int × Int
  | 0, place, _, _, code => (code, (place : Int))
  | r + 1, place, least, most, code =>
    if l.length ≤ n + place then (-1, (place : Int)) else
    if least ≤ ((l.getD (n + place) 0).toNat : Int) ∧ ((l.getD (n + place) 0).toNat : Int) ≤ most then u8go l n r (place + 1) 128 191 (code * 64 + ((l.getD (n + place) 0).toNat : Int).fmod 64) else (-1, (place : Int))
noncomputable def u8lead (c : Int) : Int := c.fmod ((64 : Int).fdiv (2 ^ (fspan c).2.2))
noncomputable def u8sign (l : List UInt8) (n : Nat) : Int × Int :=
  if ((l.getD n 0).toNat : Int) < 128 then (((l.getD n 0).toNat : Int), 1) else
  if (fspan (l.getD n 0).toNat).2.2 = 0 then (-1, 1) else
  u8go l n (fspan (l.getD n 0).toNat).2.2 1 (fspan (l.getD n 0).toNat).1 (fspan (l.getD n 0).toNat).2.1 (u8lead (l.getD n 0).toNat)
theorem fspan_le (c : Int) : (fspan c).2.2 ≤ 3 := by
  unfold fspan
  split
  · show 1 ≤ 3; decide
  · split
    · show 2 ≤ 3; decide
    · split
      · show 3 ≤ 3; decide
      · show 0 ≤ 3; decide
theorem fm64 (x : Int) : x.fmod 64 = x % 64 := Int.fmod_eq_emod_of_nonneg _ (by decide)
theorem go_le (l : List UInt8) (n : Nat) : ∀ (r place : Nat) (lo hi code : Int), 0 ≤ code → (code + 1) * 64 ^ r ≤ 1114112 → 1 ≤ place → place + r ≤ 4 →
    -1 ≤ (u8go l n r place lo hi code).1 ∧ (u8go l n r place lo hi code).1 ≤ 1114111 ∧ 1 ≤ (u8go l n r place lo hi code).2 ∧ (u8go l n r place lo hi code).2 ≤ 4 := by
  intro r
  induction r with
  | zero =>
    intro place lo hi code h0 h1 h2 h3
    rw [Int.pow_zero, Int.mul_one] at h1
    exact ⟨Int.le_trans (by decide) h0, Int.le_of_lt_add_one (Int.lt_of_lt_of_le (Int.lt_succ code) h1), Int.ofNat_le.mpr h2, Int.ofNat_le.mpr h3⟩
  | succ r ih =>
    intro place lo hi code h0 h1 h2 h3
    have bad : -1 ≤ ((-1, (place : Int)) : Int × Int).1 ∧ ((-1, (place : Int)) : Int × Int).1 ≤ 1114111 ∧ 1 ≤ ((-1, (place : Int)) : Int × Int).2 ∧ ((-1, (place : Int)) : Int × Int).2 ≤ 4 :=
      ⟨(show (-1 : Int) ≤ -1 by decide), (show (-1 : Int) ≤ 1114111 by decide), Int.ofNat_le.mpr h2, Int.ofNat_le.mpr (Nat.le_trans (Nat.le_add_right place (r + 1)) h3)⟩
    unfold u8go
    split
    · exact bad
    split
    · generalize ((l.getD (n + place) 0).toNat : Int) = d
      rw [fm64]
      have p : (0 : Int) < 64 ^ r := Int.pow_pos (by decide)
      have b1 : 0 ≤ d % 64 := Int.emod_nonneg d (by decide)
      have b2 : d % 64 < 64 := Int.emod_lt_of_pos d (by decide)
      refine ih _ _ _ _ (Int.add_nonneg (Int.mul_nonneg h0 (by decide)) b1) (Int.le_trans (Int.mul_le_mul_of_nonneg_right (show code * 64 + d % 64 + 1 ≤ (code + 1) * 64 by walk_at "o") (Int.le_of_lt p)) ?_) (Nat.le_succ_of_le h2) (by rw [Nat.add_right_comm]; exact h3)
      rw [Int.mul_assoc, Int.mul_comm 64, ← Int.pow_succ]; exact h1
    · exact bad
theorem u8sign_le (l : List UInt8) (n : Nat) : -1 ≤ (u8sign l n).1 ∧ (u8sign l n).1 ≤ 1114111 ∧ 1 ≤ (u8sign l n).2 ∧ (u8sign l n).2 ≤ 4 := by
  unfold u8sign
  generalize (l.getD n 0).toNat = c
  split
  · dsimp only; walk_at "o"
  split
  · exact ⟨by decide, by decide, by decide, by decide⟩
  rename_i hz
  have hL : u8lead c = (c : Int).fmod ((64 : Int).fdiv (2 ^ (fspan c).2.2)) := rfl
  unfold fspan at hz hL ⊢
  by_cases a1 : 194 ≤ (c : Int) ∧ (c : Int) ≤ 223
  · rw [if_pos a1] at hL ⊢
    rw [hL, show (c : Int).fmod ((64 : Int).fdiv (2 ^ (128, 191, 1).2.2)) = (c : Int) % 32 from Int.fmod_eq_emod_of_nonneg (b := 32) _ (by decide)]
    exact go_le l n 1 1 _ _ _ (by walk_at "o") (by walk_at "o") (by decide) (by decide)
  rw [if_neg a1] at hz hL ⊢
  by_cases a2 : 224 ≤ (c : Int) ∧ (c : Int) ≤ 239
  · rw [if_pos a2] at hL ⊢
    rw [hL, show (c : Int).fmod ((64 : Int).fdiv (2 ^ ((if (c : Int) = 224 then 160 else 128, if (c : Int) = 237 then 159 else 191, 2) : Int × Int × Nat).2.2)) = (c : Int) % 16 from (show (c : Int).fmod (Int.fdiv 64 (2 ^ 2)) = (c : Int) % 16 from Int.fmod_eq_emod_of_nonneg (b := 16) _ (by decide))]
    exact go_le l n 2 1 _ _ _ (by walk_at "o") (by walk_at "o") (by decide) (by decide)
  rw [if_neg a2] at hz hL ⊢
  by_cases a3 : 240 ≤ (c : Int) ∧ (c : Int) ≤ 244
  · rw [if_pos a3] at hL ⊢
    rw [hL, show (c : Int).fmod ((64 : Int).fdiv (2 ^ ((if (c : Int) = 240 then 144 else 128, if (c : Int) = 244 then 143 else 191, 3) : Int × Int × Nat).2.2)) = (c : Int) % 8 from (show (c : Int).fmod (Int.fdiv 64 (2 ^ 3)) = (c : Int) % 8 from Int.fmod_eq_emod_of_nonneg (b := 8) _ (by decide))]
    by_cases q : (c : Int) = 244
    · rw [q]
      have g : -1 ≤ (u8go l n 3 1 128 143 4).1 ∧ (u8go l n 3 1 128 143 4).1 ≤ 1114111 ∧ 1 ≤ (u8go l n 3 1 128 143 4).2 ∧ (u8go l n 3 1 128 143 4).2 ≤ 4 := by
        unfold u8go
        split
        · exact ⟨by decide, by decide, by decide, by decide⟩
        split
        · rename_i _ hd
          rw [fm64]
          generalize ((l.getD (n + 1) 0).toNat : Int) = d at hd ⊢
          exact go_le l n 2 2 _ _ (4 * 64 + d % 64) (by walk_at "o") (by walk_at "o") (by decide) (by decide)
        · exact ⟨by decide, by decide, by decide, by decide⟩
      exact g
    · exact go_le l n 3 1 _ _ _ (by walk_at "o") (by walk_at "o") (by decide) (by decide)
  · rw [if_neg a3] at hz
    exact absurd rfl hz
theorem sp_utf8_sign (G : Gp) (ok : GOK G) (l : List UInt8) (hl : l.length ≤ 1000) (n : Nat) (hn : n < l.length) : Sp G 9 2 true [.bytes l.toArray, .int n] (· = .tuple [.int (u8sign l n).1, .int (u8sign l n).2]) := by
  refine enter (defAt 22) (dAt ok 9 22 rfl) (plain2 22 rfl (by intros; rfl) (by rfl) (by rfl) (by rfl) (by rfl) rfl rfl rfl) fun A L a code => ?_
  refine WS_cons (WX_assign ?_ rfl rfl)
  walk_at "w"
  refine W2_item n rfl (by walk_at "o") hn ?_
  generalize hc : (l.getD n 0).toNat = c
  walk_at "w"
  · rename_i h
    refine ⟨by simp, ?_⟩
    walk_at "w"
    show Dat.tuple _ = Dat.tuple _
    unfold u8sign
    rw [hc, if_pos h]
  rename_i hlt
  first | with_reducible refine WX_unpack ?_ | refine WX_unpack ?_
  refine WE_def 8 (defAt 21) (dAt ok 8 21 rfl) rfl rfl ?_
  walk_at "w"
  refine May.mk' (sp_follower G ok true _) ?_ (show 1 ≤ 1 by decide) id
  refine WG_tuple (WGL_cons (WG_name (WGL_cons (WG_name (WGL_cons (WG_name (WGL_nil ?_) rfl (.inl rfl))) rfl (.inl rfl))) rfl (.inl rfl)))
  have hle := fspan_le c
  walk_at "w"
  · rename_i h
    refine ⟨by simp, ?_⟩
    walk_at "w"
    show Dat.tuple _ = Dat.tuple _
    unfold u8sign
    rw [hc, if_neg hlt, if_pos (by walk_at "o")]
  rename_i hz
  have hsign : u8sign l n = u8go l n (fspan c).2.2 1 (fspan c).1 (fspan c).2.1 (u8lead c) := by
    unfold u8sign
    rw [hc, if_neg hlt, if_neg (by walk_at "o")]
  walk_at "as"
  walk_at "w"
  refine W2_shr (by { omega }) ?_
  rw [Int.toNat_natCast]
  first | with_reducible refine W2_mod ?_ ?_ | refine W2_mod ?_ ?_
  · have : (fspan c).2.2 = 1 ∨ (fspan c).2.2 = 2 ∨ (fspan c).2.2 = 3 := by walk_at "o"
    rcases this with e | e | e <;> rw [e] <;> decide
  change Then _ _ _ _ (Sg.set _ _ (.val (.int (u8lead c))))
  first | with_reducible refine then_next (WS_cons ?_) | refine then_next (WS_cons ?_)
  refine WX_forX (WI_range2 rfl (GOK.bRange ok) (by kernel_rfl) rfl ?_)
  walk_at "w"
  refine ⟨1, ((fspan c).2.2 : Int) + 1, (fspan c).2.2, rfl, rfl, ?_, ?_⟩
  · refine rangeOf _ _ _ _ ?_ (by walk_at "o") (by walk_at "o") (by walk_at "o") (by walk_at "o")
    unfold Builtin.Range.rangeSize
    rw [if_pos (by decide)]
    split <;> walk_at "o"
  refine ⟨fun i σ' => ∃ lo hi code : Int, u8go l n ((fspan c).2.2 - i) (1 + i) lo hi code = u8sign l n ∧ σ' = vr "octets" (.bytes l.toArray) (vr "at" (.int n) (vr "count" (.int (fspan c).2.2) (vr "least" (.int lo) (vr "most" (.int hi) (vr "code" (.int code) []))))),
    _, ext_vr rfl (ext_vr rfl (ext_vr rfl (ext_vr rfl (ext_vr rfl (ext_vr rfl Ext.nil))))), ⟨(fspan c).1, (fspan c).2.1, u8lead c, hsign.symm, rfl⟩, ?_, ?_⟩
  · rintro i d σ' hd ⟨lo, hi, code, hg, rfl⟩
    have hi' := steps_bound hd
    have hd' := steps_val hd
    subst hd'
    rw [show (1 : Int) + i * 1 = ((1 + i : Nat) : Int) by walk_at "o"]
    rw [show (fspan c).2.2 - i = ((fspan c).2.2 - (i + 1)) + 1 by walk_at "o"] at hg
    unfold u8go at hg
    refine WG_name ?_ rfl (.inl rfl)
    have bad : (-1, ((1 + i : Nat) : Int)) = u8sign l n → (Ret (· = Dat.tuple [.int (u8sign l n).1, .int (u8sign l n).2])) (.ret (.tuple [.int (-1), .int ((1 + i : Nat) : Int)])) (vr "octets" (.bytes l.toArray) []) := by
      intro e
      show Dat.tuple _ = Dat.tuple _
      rw [← e]
    walk_at "w"
    walk_at "bi"
    walk_at "w"
    refine V_lenb (by walk_at "o") (W2_ge (WB_bool (dec (fun h => ?_) (fun h => ?_))))
    · rw [if_pos (by walk_at "o")] at hg
      walk_at "w"
      refine ⟨by simp, ?_⟩
      exact bad hg
    · rw [if_neg (by walk_at "o")] at hg
      refine WA_or ?_
      first | with_reducible refine WT_not ?_ | refine WT_not ?_
      first | with_reducible refine WT_chain ?_ | refine WT_chain ?_
      refine WE_name rfl ?_
      first | with_reducible refine WE_sub ?_ | refine WE_sub ?_
      refine WE_name rfl ?_
      first | with_reducible refine WE_bin ?_ | refine WE_bin ?_
      refine WE_name rfl ?_
      refine WE_name rfl ?_
      first | with_reducible refine W2_add ?_ | refine W2_add ?_
      refine W2_item (n + (1 + i)) (by walk_at "o") (by walk_at "o") (by walk_at "o") ?_
      generalize he : (l.getD (n + (1 + i)) 0).toNat = e at hg ⊢
      first | with_reducible refine W2_le ?_ | refine W2_le ?_
      first | with_reducible refine WB_bool ?_ | refine WB_bool ?_
      refine dec' (fun h1 => ?_) (fun h1 => ?_)
      · refine WE_name rfl ?_
        first | with_reducible refine W2_le ?_ | refine W2_le ?_
        first | with_reducible refine WB_bool ?_ | refine WB_bool ?_
        by_cases h2 : (e : Int) ≤ hi
        · rw [if_pos ⟨h1, h2⟩] at hg
          rw [decide_eq_true h2]
          first | with_reducible refine no ?_ | refine no ?_
          refine WA_or_nil ?_
          first | with_reducible refine no ?_ | refine no ?_
          first | with_reducible refine WS_nil ?_ | refine WS_nil ?_
          first | with_reducible refine then_next ?_ | refine then_next ?_
          first | with_reducible refine WS_cons ?_ | refine WS_cons ?_
          walk_at "as"
          first | with_reducible refine WE_bin ?_ | refine WE_bin ?_
          first | with_reducible refine WE_bin ?_ | refine WE_bin ?_
          refine WE_name rfl ?_
          first | with_reducible refine WE_int ?_ | refine WE_int ?_
          refine W2_mul (IntMulOk.of_right (by decide)) ?_
          first | with_reducible refine WE_bin ?_ | refine WE_bin ?_
          first | with_reducible refine WE_sub ?_ | refine WE_sub ?_
          refine WE_name rfl ?_
          first | with_reducible refine WE_bin ?_ | refine WE_bin ?_
          refine WE_name rfl ?_
          refine WE_name rfl ?_
          first | with_reducible refine W2_add ?_ | refine W2_add ?_
          refine W2_item (n + (1 + i)) (by walk_at "o") (by walk_at "o") (by walk_at "o") ?_
          rw [he]
          first | with_reducible refine WE_int ?_ | refine WE_int ?_
          refine W2_mod (by decide) ?_
          first | with_reducible refine W2_add ?_ | refine W2_add ?_
          first | with_reducible refine then_next ?_ | refine then_next ?_
          first | with_reducible refine WS_cons ?_ | refine WS_cons ?_
          first | with_reducible refine WX_unpack ?_ | refine WX_unpack ?_
          first | with_reducible refine WE_tuple ?_ | refine WE_tuple ?_
          first | with_reducible refine WL_cons ?_ | refine WL_cons ?_
          first | with_reducible refine WE_int ?_ | refine WE_int ?_
          first | with_reducible refine WL_cons ?_ | refine WL_cons ?_
          first | with_reducible refine WE_int ?_ | refine WE_int ?_
          first | with_reducible refine WL_nil ?_ | refine WL_nil ?_
          refine ⟨by simp, ?_⟩
          refine WG_tuple (WGL_cons (WG_name (WGL_cons (WG_name (WGL_nil ?_) rfl (.inl rfl))) rfl (.inl rfl)))
          first | with_reducible refine then_next ?_ | refine then_next ?_
          first | with_reducible refine WS_nil ?_ | refine WS_nil ?_
          refine turn_next ⟨_, ext_vr rfl (ext_vr rfl (ext_vr rfl (ext_vr rfl (ext_vr rfl (ext_vr rfl Ext.nil))))), 128, 191, _, ?_, rfl⟩
          rw [show 1 + (i + 1) = 1 + i + 1 by walk_at "o"]
          exact hg
        · rw [if_neg (fun q => h2 q.2)] at hg
          rw [decide_eq_false h2]
          first | with_reducible refine yes ?_ | refine yes ?_
          first | with_reducible refine yes ?_ | refine yes ?_
          walk_at "w"
          refine ⟨by simp, ?_⟩
          exact bad hg
      · rw [if_neg (fun q => h1 q.1)] at hg
        first | with_reducible refine yes ?_ | refine yes ?_
        first | with_reducible refine yes ?_ | refine yes ?_
        walk_at "w"
        refine ⟨by simp, ?_⟩
        exact bad hg
  · rintro σ' ⟨lo, hi, code, hg, rfl⟩
    rw [steps_length] at hg
    rw [Nat.sub_self] at hg
    unfold u8go at hg
    first | with_reducible refine then_next (WS_cons (WX_return ?_)) | refine then_next (WS_cons (WX_return ?_))
    walk_at "w"
    refine ⟨by simp, ?_⟩
    walk_at "w"
    show Dat.tuple _ = Dat.tuple _
    rw [← hg]
    simp; walk_at "o"
end
section
open PySem PySem.W PyProof.Rows PySem.Calls PySem.SeqAt PySem.MeetsSeq
set_option maxRecDepth 100000
noncomputable def signAt (cs : Str) (l : List UInt8) (n : Nat) : Int × Int :=
  if cs = "utf-8" then u8sign l n else if cs = "us-ascii" ∧ ((l.getD n 0).toNat : Int) > 127 then (-1, 1) else (((l.getD n 0).toNat : Int), 1)
theorem signAt_le (cs : Str) (l : List UInt8) (n : Nat) : -1 ≤ (signAt cs l n).1 ∧ (signAt cs l n).1 ≤ 1114111 ∧ 1 ≤ (signAt cs l n).2 ∧ (signAt cs l n).2 ≤ 4 := by
  have hb := (l.getD n 0).toNat_lt
  unfold signAt
  split
  · exact u8sign_le l n
  · split
    · dsimp only; walk_at "o"
    · dsimp only; walk_at "o"
theorem sp_sign_at (G : Gp) (ok : GOK G) (nh : Bool) (cs : Str) (hnh : cs = "utf-8" → nh = true) (l : List UInt8) (hl : l.length ≤ 1000) (n : Nat) (hn : n < l.length) : Sp G 10 3 nh [.str cs, .bytes l.toArray, .int n] (· = .tuple [.int (signAt cs l n).1, .int (signAt cs l n).2]) := by
  refine enter (defAt 23) (dAt ok 10 23 rfl) (plain3 23 rfl (by intros; rfl) (by rfl) (by rfl) (by rfl) (by rfl) rfl rfl rfl) fun A L a code => ?_
  first | with_reducible refine WS_cons ?_ | refine WS_cons ?_
  first | with_reducible refine WX_if (WT_cmp ?_) | refine WX_if (WT_cmp ?_)
  refine WE_name rfl ?_
  refine WE_glob rfl (by walk_at "kon") ?_
  first | with_reducible refine W2_eqsL ?_ | refine W2_eqsL ?_
  first | with_reducible refine WB_bool ?_ | refine WB_bool ?_
  refine dec (fun h => ?_) (fun h => ?_)
  · first | with_reducible refine WS_cons ?_ | refine WS_cons ?_
    first | with_reducible refine WX_return ?_ | refine WX_return ?_
    refine WE_def 9 (defAt 22) (dAt ok 9 22 rfl) rfl rfl ?_
    walk_at "w"
    refine May.mk' (sp_utf8_sign G ok l hl n hn) ?_ (Nat.le_refl _) (fun _ => hnh h)
    show Dat.tuple _ = Dat.tuple _
    unfold signAt
    rw [if_pos h]
  first | with_reducible refine WS_nil ?_ | refine WS_nil ?_
  first | with_reducible refine then_next ?_ | refine then_next ?_
  have last : ¬(cs = "us-ascii" ∧ ((l.getD n 0).toNat : Int) > 127) → WS (fnSt G (defAt 23) A L a code nh 2 none) (σ₀ ((defAt 23).params.args.map (·.arg)) [.str cs, .bytes l.toArray, .int n]) ((defAt 23).body.drop 2) (Ret (· = .tuple [.int (signAt cs l n).1, .int (signAt cs l n).2])) := by
    intro h2
    first | with_reducible refine WS_cons ?_ | refine WS_cons ?_
    first | with_reducible refine WX_return ?_ | refine WX_return ?_
    walk_at "w"
    refine W2_item n rfl (by walk_at "o") hn ?_
    walk_at "w"
    refine ⟨by simp, ?_⟩
    show Dat.tuple _ = Dat.tuple _
    unfold signAt
    rw [if_neg h, if_neg h2]
  first | with_reducible refine WS_cons ?_ | refine WS_cons ?_
  first | with_reducible refine WX_if (WT_bool ?_) | refine WX_if (WT_bool ?_)
  refine WA_and (WT_cmp ?_)
  refine WE_name rfl ?_
  refine WE_glob rfl (by walk_at "kon") ?_
  first | with_reducible refine W2_eqsL ?_ | refine W2_eqsL ?_
  first | with_reducible refine WB_bool ?_ | refine WB_bool ?_
  refine dec' (fun h1 => ?_) (fun h1 => ?_)
  · refine WA_and (WT_cmp ?_)
    walk_at "w"
    refine W2_item n rfl (by walk_at "o") hn ?_
    first | with_reducible refine WE_int ?_ | refine WE_int ?_
    first | with_reducible refine W2_gt ?_ | refine W2_gt ?_
    first | with_reducible refine WB_bool ?_ | refine WB_bool ?_
    refine dec' (fun h2 => ?_) (fun h2 => ?_)
    · walk_at "w"
      refine ⟨by simp, ?_⟩
      show Dat.tuple _ = Dat.tuple _
      unfold signAt
      rw [if_neg h, if_pos ⟨h1, h2⟩]
    · first | with_reducible refine no ?_ | refine no ?_
      first | with_reducible refine WS_nil ?_ | refine WS_nil ?_
      exact then_next (last fun q => h2 q.2)
  · first | with_reducible refine no ?_ | refine no ?_
    first | with_reducible refine WS_nil ?_ | refine WS_nil ?_
    exact then_next (last fun q => h1 q.1)
noncomputable def txt (cs : Str) (l : List UInt8) (n : Nat) : List Nat :=
  if n < l.length then (if 0 ≤ (signAt cs l n).1 then (signAt cs l n).1.toNat else 65533) :: txt cs l (n + max 1 (signAt cs l n).2.toNat) else []
termination_by l.length - n
theorem WE_strjoin {S : St} {σ : Sg} {Q : Dat → Prop} {k : Nat} {p ap pos : Pos} {e : Expr} (h : WE S σ e fun d => WV S (fun vs => call (.builtin "str.join") vs) [.str "", d] Q) (hline : (ap.endLine == pos.line) = true)
    (he : ∀ env, starEach [e] env = (false, eval e env) :: starEach [] env) : WE S σ (.Call (.Attribute (.Constant (.str "") k p) "join" ap) [e] [] pos) Q := by
  with_reducible refine WE_meth "str" "str.join" F.plainAttrs_str F.slot_str_join F.type_str_join ?m (hbase := ?a) (hfew := ?b) (hline := hline) (he := he) (hp := ?d)
  case a => intro _ _; rfl
  case b => intro env; rw [he]; rfl
  case d => intro _ _; rfl
  case m =>
  first | with_reducible refine WE_str ?_ | refine WE_str ?_
  refine ⟨rfl, ?_⟩
  first | with_reducible refine WL_cons ?_ he | refine WL_cons ?_ he
  exact h.mono fun d hd => WL_nil hd
theorem sp_text_in (G : Gp) (ok : GOK G) (nh : Bool) (cs : Str) (hcs : csOK cs) (hnh : cs = "utf-8" → nh = true) (l : List UInt8) (hl : l.length ≤ 990) : Sp G 11 4 nh [.str cs, .bytes l.toArray] (· = .str ⟨(txt cs l 0).toArray⟩) := by
  refine enter (defAt 24) (dAt ok 11 24 rfl) (plain2 24 rfl (by intros; rfl) (by rfl) (by rfl) (by rfl) (by rfl) rfl rfl rfl) fun A L a code => ?_
  first | with_reducible refine WS_cons ?_ | refine WS_cons ?_
  first | with_reducible refine WX_expr ?_ | refine WX_expr ?_
  refine WE_def 7 (defAt 20) (dAt ok 7 20 rfl) rfl rfl ?_
  walk_at "w"
  refine May.mk' (sp_need G ok nh cs hcs) ?_ (show 1 ≤ 3 by decide) id
  first | with_reducible refine then_next ?_ | refine then_next ?_
  refine WS_cons (WX_own ?_ rfl rfl rfl)
  walk_at "w"
  refine ⟨by simp, ?_⟩
  walk_at "w"
  walk_at "as"
  walk_at "w"
  refine WX_whileX (fun m σ' => ∃ (n : Nat) (ts : List Nat), σ' = vr "charset" (.str cs) (vr "octets" (.bytes l.toArray) (ow "signs" (.list (ts.map fun c => .str ⟨#[c]⟩)) (vr "at" (.int n) []))) ∧ m = l.length - n ∧ n ≤ l.length + 4 ∧ ts.length ≤ n ∧ ts ++ txt cs l n = txt cs l 0) (l.length - 0) _ (Ext.refl _) ⟨0, [], rfl, rfl, by walk_at "o", by simp, rfl⟩ ?_
  intro m σ' zq
  refine hidG fun zG zh => ?_
  obtain ⟨n, ts, rfl, rfl, hn, hts, he⟩ := zq
  refine zh ?_
  clear zh zG
  walk_at "w"
  walk_at "bi"
  walk_at "w"
  refine V_lenb (by walk_at "o") (W2_lt (WB_bool (dec (fun h => ?_) (fun h => ?_))))
  · have hle := signAt_le cs l n
    rw [txt, if_pos (by walk_at "o")] at he
    refine tsHide fun zJ zQ zi zk => ?_
    first | with_reducible refine WS_cons ?_ | refine WS_cons ?_
    first | with_reducible refine WX_unpack ?_ | refine WX_unpack ?_
    refine WE_def 10 (defAt 23) (dAt ok 10 23 rfl) rfl rfl ?_
    walk_at "w"
    refine May.mk' (sp_sign_at G ok nh cs hnh l (by walk_at "o") n (by walk_at "o")) ?_ (Nat.le_refl _) id
    refine WG_tuple (WGL_cons (WG_name (WGL_cons (WG_name (WGL_nil ?_) rfl (.inl rfl))) rfl (.inl rfl)))
    generalize hsg : signAt cs l n = sg at *
    obtain ⟨c, k⟩ := sg
    dsimp only at *
    first | with_reducible refine then_next ?_ | refine then_next ?_
    first | with_reducible refine WS_cons ?_ | refine WS_cons ?_
    refine WX_append rfl ?_ (by simp; walk_at "o")
    have fin : ∀ r : Nat, (if 0 ≤ c then c.toNat else 65533) = r → (Then (fnSt G (defAt 24) A L a code nh 3 none) ((bS true ((defAt 24).body.getD 3 (.Pass ⟨0, 0, 0, 0⟩))).drop 2) (Turn zJ zQ)) .next
        (Sg.set (Sg.set (Sg.set (vr "charset" (.str cs) (vr "octets" (.bytes l.toArray) (ow "signs" (.list (ts.map fun c => .str ⟨#[c]⟩)) (vr "at" (.int n) [])))) "code" (.val (.int c))) "length" (.val (.int k))) "signs" (.own (.list ((ts.map fun c => .str ⟨#[c]⟩) ++ [.str ⟨#[r]⟩])))) := by
      intro r hr
      first | with_reducible refine then_next ?_ | refine then_next ?_
      first | with_reducible refine WS_cons ?_ | refine WS_cons ?_
      walk_at "as"
      walk_at "w"
      rw [hr] at he
      rw [show (n : Int) + k = ((n + max 1 k.toNat : Nat) : Int) by walk_at "o"]
      refine zi _ ?_
      refine ⟨vr "charset" (.str cs) (vr "octets" (.bytes l.toArray) (ow "signs" (.list ((ts ++ [r]).map fun c => .str ⟨#[c]⟩)) (vr "at" (.int (n + max 1 k.toNat : Nat)) []))), ext_vr rfl (ext_vr rfl (ext_ow ?_ (ext_vr rfl Ext.nil))), l.length - (n + max 1 k.toNat), by walk_at "o", n + max 1 k.toNat, ts ++ [r], rfl, rfl, by walk_at "o", by simp; walk_at "o", ?_⟩
      · rw [List.map_append]; rfl
      · rw [← he]; simp
    first | with_reducible refine WE_if ?_ | refine WE_if ?_
    first | with_reducible refine WT_cmp ?_ | refine WT_cmp ?_
    refine WE_name rfl ?_
    first | with_reducible refine WE_int ?_ | refine WE_int ?_
    first | with_reducible refine W2_ge ?_ | refine W2_ge ?_
    first | with_reducible refine WB_bool ?_ | refine WB_bool ?_
    refine dec (fun hc => ?_) (fun hc => ?_)
    · walk_at "bi"
      walk_at "w"
      exact V_chr hc (by walk_at "o") (fin _ (if_pos hc))
    · refine WE_glob rfl (by walk_at "kon") ?_
      exact fin 65533 (if_neg hc)
  · rw [txt, if_neg (by walk_at "o"), List.append_nil] at he
    refine then_next (WS_freeze (x := "signs") rfl (WS_cons ?_))
    first | with_reducible refine WX_return ?_ | refine WX_return ?_
    with_reducible refine WE_strjoin ?a ?b ?c
    case b => exact rfl
    case c => intro _; rfl
    case a =>
    refine WE_name rfl ?_
    have e : (ts.map fun c => Dat.str ⟨#[c]⟩) = (ts.map fun c => (⟨#[c]⟩ : Str)).map Dat.str := by simp
    rw [e]
    refine V_join (joinOk_singles _ (by walk_at "o")) ?_
    walk_at "w"
    rw [join_singles, he]
end
section
open PySem PySem.W PyProof.Rows PySem.Calls PySem.SeqAt PySem.MeetsSeq
set_option maxRecDepth 100000
structure GX (G : Gp) (K : Frag) (C P fI : Addr) : Prop where
  mime : MimeK K C P fI
  sub : ∀ a o, K.lookup a = some o → (a, o) ∈ G.gfz
  name : G.mg "MimeFault" = some (.ref C)
  exc : G.mg "Exception" = none
noncomputable def sTxt (l : List UInt8) (n : Nat) : Option (List Nat) :=
  if n < l.length then (if (u8sign l n).1 < 0 then none else (sTxt l (n + max 1 (u8sign l n).2.toNat)).map ((u8sign l n).1.toNat :: ·)) else some []
termination_by l.length - n
theorem strict_body (G : Gp) (ok : GOK G) {KK : Frag} {C P fI : Addr} (gx : GX G KK C P fI) (l : List UInt8) (hl : l.length ≤ 990) (fr : List Env) (A : Around) (L a : Addr) (code : Value)
    (hfr : (fnSt G (defAt 25) A L a code true 4 none).A.frames = some ((fnSt G (defAt 25) A L a code true 4 none).env :: fr)) :
    WSE (fnSt G (defAt 25) A L a code true 4 none) (FrG fr) (Hld (fnSt G (defAt 25) A L a code true 4 none) C fr) (sTxt l 0 = none) (σ₀ ((defAt 25).params.args.map (·.arg)) [.str "utf-8", .bytes l.toArray]) (defAt 25).body (Ret fun d => ∃ ts, sTxt l 0 = some ts ∧ d = .str ⟨ts.toArray⟩) := by
  refine WSE_cons (WXE_of ?_)
  first | with_reducible refine WX_expr ?_ | refine WX_expr ?_
  refine WE_def 7 (defAt 20) (dAt ok 7 20 rfl) rfl rfl ?_
  walk_at "w"
  refine May.mk' (sp_need G ok true "utf-8" (.inr (.inr rfl))) ?_ (show 1 ≤ 4 by decide) id
  refine thenE_next (WSE_cons (WXE_of ?_))
  refine WX_own ?_ rfl rfl rfl
  refine WL_nil ⟨by simp, ?_⟩
  refine thenE_next (WSE_cons (WXE_of ?_))
  walk_at "as"
  first | with_reducible refine WE_int ?_ | refine WE_int ?_
  refine thenE_next (WSE_cons ?_)
  refine WXE_while hfr rfl (fun m σ' => ∃ (n : Nat) (ts : List Nat), σ' = vr "charset" (.str "utf-8") (vr "octets" (.bytes l.toArray) (ow "signs" (.list (ts.map fun c => .str ⟨#[c]⟩)) (vr "at" (.int n) []))) ∧ m = l.length - n ∧ n ≤ l.length + 4 ∧ ts.length ≤ n ∧ sTxt l 0 = (sTxt l n).map (ts ++ ·)) (l.length - 0)
    (vr "charset" (.str "utf-8") (vr "octets" (.bytes l.toArray) (ow "signs" (.list []) (vr "at" (.int (0 : Nat)) [])))) (ext_vr rfl (ext_vr rfl (ext_ow rfl (ext_vr rfl Ext.nil)))) ⟨0, [], rfl, rfl, by walk_at "o", by simp, by simp⟩ ?_
  intro m σ' zq
  refine hidG fun zG zh => ?_
  obtain ⟨n, ts, rfl, rfl, hn, hts, he⟩ := zq
  refine zh ?_
  clear zh zG
  walk_at "w"
  walk_at "bi"
  walk_at "w"
  refine V_lenb (by walk_at "o") (W2_lt (WB_bool (dec (fun h => ?_) (fun h => ?_))))
  · have hle := u8sign_le l n
    rw [sTxt.eq_1 l n, if_pos (by walk_at "o")] at he
    refine WSE_cons (WXE_of ?_)
    first | with_reducible refine WX_unpack ?_ | refine WX_unpack ?_
    refine WE_def 10 (defAt 23) (dAt ok 10 23 rfl) rfl rfl ?_
    walk_at "w"
    refine May.mk' (sp_sign_at G ok true "utf-8" (fun _ => rfl) l (by walk_at "o") n (by walk_at "o")) ?_ (show 3 ≤ 4 by decide) id
    have hsa : signAt "utf-8" l n = u8sign l n := by unfold signAt; rw [if_pos rfl]
    rw [hsa]
    refine WG_tuple (WGL_cons (WG_name (WGL_cons (WG_name (WGL_nil ?_) rfl (.inl rfl))) rfl (.inl rfl)))
    generalize hsg : u8sign l n = sg at *
    obtain ⟨c, k⟩ := sg
    dsimp only at *
    refine thenE_next (WSE_cons ?_)
    refine WXE_if (WT_cmp ?_)
    refine WE_name rfl ?_
    first | with_reducible refine WE_int ?_ | refine WE_int ?_
    first | with_reducible refine W2_lt ?_ | refine W2_lt ?_
    first | with_reducible refine WB_bool ?_ | refine WB_bool ?_
    refine dec (fun hc => ?_) (fun hc => ?_)
    · rw [if_pos hc] at he
      refine WSE_cons ?_
      refine WXE_raise gx.mime gx.sub gx.name rfl gx.exc rfl (show 1 ≤ 4 by decide) ?_
      first | with_reducible refine WL_cons ?_ | refine WL_cons ?_
      first | with_reducible refine WE_bin ?_ | refine WE_bin ?_
      first | with_reducible refine WE_str ?_ | refine WE_str ?_
      refine WE_name rfl ?_
      refine W2_adds (by decide) ?_
      first | with_reducible refine WL_cons ?_ | refine WL_cons ?_
      refine WE_name rfl ?_
      refine WL_nil ⟨rfl, ?_⟩
      rw [he]; rfl
    · rw [if_neg hc] at he
      refine WSE_of ?_
      first | with_reducible refine WS_nil ?_ | refine WS_nil ?_
      refine thenE_next (WSE_of ?_)
      first | with_reducible refine WS_cons ?_ | refine WS_cons ?_
      refine WX_append rfl ?_ (by simp; walk_at "o")
      walk_at "bi"
      first | with_reducible refine WL_cons ?_ | refine WL_cons ?_
      refine WE_name rfl ?_
      first | with_reducible refine WL_nil ?_ | refine WL_nil ?_
      refine V_chr (by walk_at "o") (by walk_at "o") ?_
      first | with_reducible refine then_next ?_ | refine then_next ?_
      first | with_reducible refine WS_cons ?_ | refine WS_cons ?_
      walk_at "as"
      walk_at "w"
      rw [show (n : Int) + k = ((n + max 1 k.toNat : Nat) : Int) by walk_at "o"]
      refine ⟨vr "charset" (.str "utf-8") (vr "octets" (.bytes l.toArray) (ow "signs" (.list ((ts ++ [c.toNat]).map fun c => .str ⟨#[c]⟩)) (vr "at" (.int (n + max 1 k.toNat : Nat)) []))), ext_vr rfl (ext_vr rfl (ext_ow ?_ (ext_vr rfl Ext.nil))), l.length - (n + max 1 k.toNat), by walk_at "o", n + max 1 k.toNat, ts ++ [c.toNat], rfl, rfl, by walk_at "o", by simp; walk_at "o", ?_⟩
      · rw [List.map_append]; rfl
      · rw [he, Option.map_map]
        congr 1
        funext x
        simp
  · rw [sTxt.eq_1 l n, if_neg (by walk_at "o")] at he
    refine thenE_next (WSE_of ?_)
    refine WS_freeze (x := "signs") rfl (WS_cons ?_)
    first | with_reducible refine WX_return ?_ | refine WX_return ?_
    with_reducible refine WE_strjoin ?a ?b ?c
    case b => exact rfl
    case c => intro _; rfl
    case a =>
    refine WE_name rfl ?_
    have e : (ts.map fun c => Dat.str ⟨#[c]⟩) = (ts.map fun c => (⟨#[c]⟩ : Str)).map Dat.str := by simp
    rw [e]
    refine V_join (joinOk_singles _ (by walk_at "o")) ?_
    refine ⟨ts, by rw [he]; simp, ?_⟩
    rw [join_singles]
end
section
open PySem PySem.W PyProof.Rows PySem.Calls PySem.SeqAt PySem.MeetsSeq
set_option maxRecDepth 100000
theorem caughtRel {S : St} {h₀ h : Heap} {fz₀ fz : Led} {σ : Sg} {μ : Str → Option Value} {oa : Option Addr} {base : Heap} {e : Addr} {cls fl : Value} (R : RelAt S h₀ fz₀ σ fz h μ oa) (tr : Tr h base e cls fl) (he : e ∉ hotOf S oa) :
    RelAt { S with A := S.A.mark (some (.ref e)), nh := false } (hideAll h (hotOf S oa)) fz σ fz h μ oa := by
  have R' := R.anchor
  have ok := R.ok
  refine hidG fun zG zh => ?_
  obtain ⟨oe, vs, T, oT, ts, ho, hc, hd, _⟩ := tr
  refine zh ?_
  clear zh zG
  exact { ok := { kind := ok.kind, glob := ok.glob, bt := ok.bt, hL := ok.hL, inter := ok.inter, depth := ok.depth, units := ok.units, hand := (fun q => by cases q), frame := ok.frame, apart := ok.apart, localNot := ok.localNot, cellL := ok.cellL, hotK := ok.hotK, tapeK := ok.tapeK }, gl := R'.gl, gz := R'.gz, hk := .inr ⟨e, oe, vs, rfl, hideAll_get _ ho he, hd, hc.2⟩, keep := R'.keep, ns := R'.ns, cells := R'.cells, cin := R'.cin, mutsNew := R'.mutsNew, mutsIn := R'.mutsIn, mutsFz := R'.mutsFz, held := R'.held, fzNew := R'.fzNew, fz0 := R'.fz0, dom := R'.dom, bds := R'.bds, oaOk := R'.oaOk, uniq := R'.uniq, tape := ⟨R'.tape.p, R'.tape.each⟩ }
theorem uncaughtRel {S : St} {h₀ h : Heap} {fz₀ fz : Led} {σ : Sg} {μ : Str → Option Value} {oa : Option Addr} {x : Value} (ok : StOK S) (hn : S.nh = true) (R' : RelAt { S with A := S.A.mark (some x), nh := false } h₀ fz₀ σ fz h μ oa) : RelAt S h₀ fz₀ σ fz h μ oa :=
  { ok := ok, gl := R'.gl, gz := R'.gz, hk := .inl (ok.hand hn), keep := R'.keep, ns := R'.ns, cells := R'.cells, cin := R'.cin, mutsNew := R'.mutsNew, mutsIn := R'.mutsIn, mutsFz := R'.mutsFz, held := R'.held, fzNew := R'.fzNew, fz0 := R'.fz0, dom := R'.dom, bds := R'.bds, oaOk := R'.oaOk, uniq := R'.uniq, tape := ⟨R'.tape.p, R'.tape.each⟩ }
theorem WX_guess {S : St} {σ : Sg} {Q : Out → Sg → Prop} {fr : List Env} {g : Heap} {KK : Frag} {C P fI : Addr} (fs : FrS S fr g) (ok : GOK S.G) (gx : GX S.G KK C P fI) (hnh : S.nh = true) (hdp : 5 ≤ S.dp) (l : List UInt8) (hl : l.length ≤ 990)
    {e1 e2 : Expr} {p1 p2 p3 p4 p5 p6 : Pos} {b₀ : Stmt} {suite : List Stmt} (hkS : S.env.kindOf "strict_text" = some .globalImplicit) (hkM : S.env.kindOf "MimeFault" = some .globalImplicit)
    (ha : WL S σ [e1, e2] (· = [.str "utf-8", .bytes l.toArray])) (he : ∀ env, starEach [e1, e2] env = (false, eval e1 env) :: starEach [e2] env)
    (h1 : ∀ ts, sTxt l 0 = some ts → Q (.ret (.str ⟨ts.toArray⟩)) σ)
    (h2 : sTxt l 0 = none → ∀ x, WS { S with A := S.A.mark (some x), nh := false } σ (b₀ :: suite) Q) :
    WX S σ (.Try [.Return (some (.Call (.Name "strict_text" p1) [e1, e2] [] p2)) p3] [.ExceptHandler (some (.Name "MimeFault" p4)) none (b₀ :: suite) p5] [] [] p6) Q := by
  intro h₀ fz₀ fz s ⟨μ, oa, R⟩ K E c
  have RE : RelE S ⟨h₀, μ, oa⟩ fz₀ σ fz s.heap := R
  refine hidG fun zG zh => ?_
  obtain ⟨a, o, pm, code, doc, hm, ho, hdat, hcd⟩ := RE.gl.fns 12 _ (dAt ok 12 25 rfl)
  refine zh ?_
  clear zh zG
  refine wpAny_Try_except ?_
  refine wpAny_execs_cons ?_
  refine wpAny_Return_some ?_
  refine Call_ (load_glob RE hkS hm (callWith_def hdat (ha p2 ⟨h₀, μ, oa⟩ fz₀ fz s RE _ _ fun ds vs h' tk' fz' q sub R' hi => ⟨?_, ?_⟩) (he _)) (by decide))
  · refine hidG fun zG zh => ?_
    obtain ⟨a', o', pm', code', doc', hm', ho', hdat', hcd'⟩ := R'.gl.fns 12 _ (dAt ok 12 25 rfl)
    refine zh ?_
    clear zh zG
    rw [hm] at hm'
    cases hm'
    have r := RE.at
    have r' := R'.at
    refine hidG fun zG zh => ?_
    obtain ⟨a3, o3, _, _, _, hm3, ho3, _⟩ := r.gl.fns 12 _ (dAt ok 12 25 rfl)
    refine zh ?_
    clear zh zG
    rw [hm] at hm3; cases hm3
    have e1 := r.keep _ _ ho3
    rw [ho] at e1; cases e1
    exact r'.keep _ _ ho3
  subst q
  refine enterX (ds := [.str "utf-8", .bytes l.toArray]) (X := sTxt l 0 = none) (Q := fun d => ∃ ts, sTxt l 0 = some ts ∧ d = .str ⟨ts.toArray⟩) (C := C) (s := { s with heap := h', toks := tk' }) (defAt 25) (dAt ok 12 25 rfl) (plain2 25 rfl (by intros; rfl) (by rfl) (by rfl) (by rfl) (by rfl) rfl rfl rfl) (fr := S.env :: fr) (fun A L a code hfr => strict_body S.G ok gx l hl (S.env :: fr) A L a code hfr) hm fs.stack (fs.now R'.at) (R'.site hdp (fun _ => hnh)) hi ?_ ?_
  · rintro d v h2 tk2 fz2 ⟨ts, e, rfl⟩ B hi'
    exact c (.ret _) σ (.ret v) h2 tk2 fz2 (h1 ts e) (fun p hp => B.sub p (sub p hp)) (R'.back B).rel hi'
  · intro e h3 tk3 hX FL
    have hen : (hideAll h' (Ls (S.env :: fr))).get? e = none := by
      cases q : (hideAll h' (Ls (S.env :: fr))).get? e with
      | none => rfl
      | some o' => have := of_hideAll _ q; rw [FL.new] at this; cases this
    have hf := R.ok.frame fs.fn
    have hot : e ∉ hotOf S oa := fun hm => by
      have := (R'.at.hot hm).2.1
      rw [FL.new] at this; cases this
    refine xe_on (s := { s with heap := h3, toks := tk3 }) fs.stack FL.frames hf FL.tr FL.stays hen fun h4 N4 => ?_
    obtain ⟨n1, n2, n3, n4⟩ := N4
    refine xe_fly (s := { s with heap := h4, toks := tk3 }) n1 n2 n3 fun h5 a5 b5 c5 d5 => ?_
    have sl5 := (FL.slots.trans n4).trans d5
    have R5 := fs.back R'.at a5 sl5
    have C5 := caughtRel R5 c5 hot
    refine hidG fun zG zh => ?_
    obtain ⟨nm, q, N, bs, sn, sub', ab, col, dd, y0, y1, y2, y3, y5, hC0⟩ := id gx.mime.cls
    refine zh ?_
    clear zh zG
    have X5 : Frag.In KK h5 := In_of_held gx.sub (GlAt.gh (R5.gl.keeps R5.keep))
    have hbase : (Value.ref P :: bnE).contains (.type "BaseException") = true := by rw [List.contains_cons]; rfl
    refine wpAny_handleBy_cons (codeAny_handlers_test ?_) (by intro q; cases q)
    refine load_glob (S := { S with A := S.A.mark (some (.ref e)), nh := false }) (h₀ := ⟨hideAll h5 (hotOf S oa), μ, oa⟩) (s := { s with heap := h5, toks := tk3 }) C5 hkM gx.name ?_ (by decide)
    refine hidG fun zG zh => ?_
    obtain ⟨oe, vs', T, oT, ts, ho5, hc5, _⟩ := id c5
    refine zh ?_
    clear zh zG
    refine wpAny_excMatches_sub_self (X5 _ _ hC0) ho5 hc5.1 hbase ?_
    refine codeAny_handlers_suite ?_
    refine xe_fly (s := { s with heap := h5, toks := tk3 }) a5 b5 c5 fun h6 a6 b6 c6 d6 => ?_
    have R6 := fs.back R'.at a6 (sl5.trans d6)
    have C6 := caughtRel R6 c6 hot
    refine h2 hX (.ref e) (hideAll h6 (hotOf S oa)) fz' fz' { s with heap := h6, toks := tk3 } ⟨μ, oa, C6⟩ _ _ fun o σ' f h7 tk7 fz7 q7 sub7 R7 ho7 => ?_
    obtain ⟨μ7, oa7, R7⟩ := R7
    exact c o σ' f h7 tk7 fz7 q7 (fun p hp => sub7 p (sub p hp)) ⟨μ7, oa7, R6.rebase (uncaughtRel R.ok hnh R7) R6.base_kp⟩ ho7
noncomputable def guessed (l : List UInt8) : List Nat := match sTxt l 0 with
  | some ts => ts
  | none => txt "iso-8859-1" l 0
theorem sp_guessed (G : Gp) (ok : GOK G) {KK : Frag} {C P fI : Addr} (gx : GX G KK C P fI) (l : List UInt8) (hl : l.length ≤ 990) : SpF G 13 6 true [.bytes l.toArray] (· = .str ⟨(guessed l).toArray⟩) := by
  refine enterF (defAt 26) (dAt ok 13 26 rfl) (plain1 26 rfl (by intros; rfl) (by rfl) (by rfl) (by rfl) (by rfl) rfl rfl rfl) fun A L a code fr g fs => ?_
  first | with_reducible refine WS_cons ?_ | refine WS_cons ?_
  refine WX_guess fs ok gx rfl (Nat.le_refl _) l hl rfl rfl ?_ (by intro _; rfl) (fun ts e => ?_) (fun e x => ?_)
  · first | with_reducible refine WL_cons ?_ | refine WL_cons ?_
    refine WE_glob rfl (GOK.kUtf ok) ?_
    first | with_reducible refine WL_cons ?_ | refine WL_cons ?_
    refine WE_name rfl ?_
    exact WL_nil rfl
  · show Dat.str _ = Dat.str _
    unfold guessed
    rw [e]
  · first | with_reducible refine WS_cons ?_ | refine WS_cons ?_
    first | with_reducible refine WX_return ?_ | refine WX_return ?_
    refine WE_def 11 (defAt 24) (dAt ok 11 24 rfl) rfl rfl ?_
    first | with_reducible refine WL_cons ?_ | refine WL_cons ?_
    refine WE_glob rfl (GOK.kLatin ok) ?_
    first | with_reducible refine WL_cons ?_ | refine WL_cons ?_
    refine WE_name rfl ?_
    first | with_reducible refine WL_nil ?_ | refine WL_nil ?_
    refine May.mk' (sp_text_in G ok false "iso-8859-1" (.inr (.inl rfl)) (fun q => absurd q (by decide)) l hl) ?_ (show 4 ≤ 5 by decide) (fun q => (nomatch q))
    show Dat.str _ = Dat.str _
    unfold guessed
    rw [e]
end
section
open PySem PySem.W PyProof.Rows PySem.Calls
set_option maxRecDepth 100000
theorem up_tab : ∀ c, c < 128 → Unicode.upperOf c = [if 97 ≤ c ∧ c ≤ 122 then c - 32 else c] := by decide +kernel
theorem low_tab : ∀ c, c < 128 → Unicode.lowerOf c = [if 65 ≤ c ∧ c ≤ 90 then c + 32 else c] := by decide +kernel
end
section
open PySem PySem.W PyProof.Rows PySem.Calls
set_option maxRecDepth 100000
noncomputable def wsB (c : UInt8) : Bool := isW (c.toNat : Int)
noncomputable def stepW (r : List UInt8) : Option (List UInt8 × List UInt8) := match r.dropWhile wsB with
  | c :: t => if c = 63 then some (r.takeWhile wsB, t) else none
  | [] => none
noncomputable def stepL (r : List UInt8) : Option (List UInt8 × List UInt8) := match r.dropWhile (· != 63) with
  | _ :: t => some (r.takeWhile (· != 63), t)
  | [] => none
theorem wsB_eq (c : UInt8) : wsB c = (inSigns c && c != 63) := by
  unfold wsB isW inSigns
  have h : ((c.toNat : Int) != 63) = (c != 63) := by
    rw [Bool.eq_iff_iff, bne_iff_ne, bne_iff_ne]
    exact not_congr (u8_eq (n := 63) (by decide))
  rw [h]
  congr 1
  rw [Bool.eq_iff_iff]
  simp only [Bool.and_eq_true, decide_eq_true_eq]
  walk_at "o"
theorem step_eq (r : List UInt8) : stepW r = (stepL r).bind fun p => if p.1.all inSigns then some p else none := by
  induction r with
  | nil => rfl
  | cons c r ih =>
    by_cases h63 : c = 63
    · subst h63
      have e1 : wsB 63 = false := by rw [wsB_eq]; simp
      unfold stepW stepL
      simp [List.dropWhile_cons, List.takeWhile_cons, e1]
    · have e63 : (c != 63) = true := by simpa using h63
      have eL : stepL (c :: r) = (stepL r).map fun p => (c :: p.1, p.2) := by
        unfold stepL
        rw [List.dropWhile_cons, e63, List.takeWhile_cons, e63]
        simp only [if_true]
        cases r.dropWhile (· != 63) <;> rfl
      cases hs : inSigns c with
      | true =>
        have e1 : wsB c = true := by rw [wsB_eq, hs, e63]; rfl
        have eW : stepW (c :: r) = (stepW r).map fun p => (c :: p.1, p.2) := by
          unfold stepW
          rw [List.dropWhile_cons, e1, List.takeWhile_cons, e1]
          simp only [if_true]
          cases r.dropWhile wsB with
          | nil => rfl
          | cons d t =>
            dsimp only
            split <;> rfl
        rw [eW, eL, ih]
        cases stepL r with
        | none => rfl
        | some p =>
          simp only [Option.map_some, Option.bind_some, List.all_cons, hs, Bool.true_and]
          split <;> rfl
      | false =>
        have e1 : wsB c = false := by rw [wsB_eq, hs]; rfl
        have eW : stepW (c :: r) = none := by
          unfold stepW
          rw [List.dropWhile_cons, e1]
          simp [h63]
        rw [eW, eL]
        cases stepL r with
        | none => rfl
        | some p => simp [hs]
theorem spl_cons (r : List UInt8) : spl 63 r = match stepL r with
    | some (w, t) => w :: spl 63 t
    | none => [r] := by
  have key : ∀ (r acc : List UInt8), splA 63 acc r = match stepL r with
      | some (w, t) => (acc ++ w) :: spl 63 t
      | none => [acc ++ r] := by
    intro r
    induction r with
    | nil => intro acc; simp [splA, stepL]
    | cons c r ih =>
      intro acc
      unfold splA
      by_cases h63 : c = 63
      · subst h63
        rw [if_pos rfl]
        simp [stepL, List.dropWhile_cons, List.takeWhile_cons, spl]
      · have e63 : (c != 63) = true := by simpa using h63
        have eL : stepL (c :: r) = (stepL r).map fun p => (c :: p.1, p.2) := by
          unfold stepL
          rw [List.dropWhile_cons, e63, List.takeWhile_cons, e63]
          simp only [if_true]
          cases r.dropWhile (· != 63) <;> rfl
        rw [if_neg h63, ih, eL]
        cases stepL r with
        | none => simp
        | some p => simp
  have := key r []
  unfold spl
  rw [this]
  cases stepL r <;> rfl
theorem step_at {l : List UInt8} {a : Nat} {w t : List UInt8} (h : stepW (l.drop a) = some (w, t)) : partEnd l a = ((a + w.length : Nat) : Int) ∧ l.drop (a + w.length + 1) = t ∧ (l.drop a).take w.length = w ∧ a + w.length < l.length ∧ l.drop (a + w.length) = 63 :: t := by
  have gen : ∀ (r : List UInt8) (a : Nat) (w t : List UInt8), l.drop a = r → stepW r = some (w, t) → peN l a = a + w.length ∧ l.drop (a + w.length) = 63 :: t ∧ r.take w.length = w := by
    intro r
    induction r with
    | nil => intro a w t _ h; cases h
    | cons c r ih =>
      intro a w t hd h
      have hlt : a < l.length := by
        rcases Nat.lt_or_ge a l.length with q | q
        · exact q
        · rw [List.drop_eq_nil_of_le q] at hd; cases hd
      have hc : l.getD a 0 = c := by
        have := List.getElem_cons_drop (as := l) (i := a) hlt
        rw [hd] at this
        rw [List.getD_eq_getElem?_getD, List.getElem?_eq_getElem hlt]
        exact (List.cons.inj this).1
      have hd' : l.drop (a + 1) = r := by rw [← List.drop_drop, hd]; rfl
      unfold stepW at h
      rw [List.dropWhile_cons] at h
      cases hw : wsB c with
      | true =>
        rw [hw, List.takeWhile_cons, hw] at h
        simp only [if_true] at h
        cases hr : r.dropWhile wsB with
        | nil => rw [hr] at h; cases h
        | cons d t' =>
          rw [hr] at h
          dsimp only at h
          split at h
          · rename_i hd63
            cases h
            have hs : stepW r = some (r.takeWhile wsB, t) := by unfold stepW; rw [hr]; dsimp only; rw [if_pos hd63]
            obtain ⟨i1, i2, i3⟩ := ih (a + 1) _ _ hd' hs
            refine ⟨?_, ?_, ?_⟩
            · rw [peN, if_pos ⟨hlt, by rw [hc]; exact hw⟩, i1, List.length_cons]; walk_at "o"
            · rw [List.length_cons, show a + ((r.takeWhile wsB).length + 1) = a + 1 + (r.takeWhile wsB).length by walk_at "o"]; exact i2
            · rw [List.length_cons, List.take_succ_cons, i3]
          · cases h
      | false =>
        rw [hw] at h
        simp only [Bool.false_eq_true, if_false] at h
        split at h
        · rename_i h63
          rw [List.takeWhile_cons, hw] at h
          simp only [Bool.false_eq_true, if_false] at h
          cases h
          refine ⟨?_, ?_, rfl⟩
          · rw [peN, if_neg (fun q => by rw [hc] at q; have q2 : wsB c = true := q.2; rw [hw] at q2; cases q2)]; rfl
          · rw [List.length_nil, Nat.add_zero, hd, h63]
        · cases h
  obtain ⟨g1, g2, g3⟩ := gen _ a w t rfl h
  have hlt : a + w.length < l.length := by
    rcases Nat.lt_or_ge (a + w.length) l.length with q | q
    · exact q
    · rw [List.drop_eq_nil_of_le q] at g2; cases g2
  refine ⟨?_, ?_, g3, hlt, g2⟩
  · unfold partEnd
    rw [g1, if_pos]
    refine ⟨hlt, ?_⟩
    have : l.getD (a + w.length) 0 = 63 := by
      have := List.getElem_cons_drop (as := l) (i := a + w.length) hlt
      rw [g2] at this
      rw [List.getD_eq_getElem?_getD, List.getElem?_eq_getElem hlt]
      exact (List.cons.inj this).1
    rw [this]; rfl
  · rw [← List.drop_drop, g2]; rfl
theorem step_none {l : List UInt8} {a : Nat} (h : stepW (l.drop a) = none) : partEnd l a < 0 := by
  have gen : ∀ (r : List UInt8) (a : Nat), l.drop a = r → stepW r = none → ¬(peN l a < l.length ∧ ((l.getD (peN l a) 0).toNat : Int) = 63) := by
    intro r
    induction r with
    | nil =>
      intro a hd _ q
      have hge : l.length ≤ a := List.drop_eq_nil_iff.mp hd
      rw [peN, if_neg (by walk_at "o")] at q
      walk_at "o"
    | cons c r ih =>
      intro a hd h
      have hlt : a < l.length := by
        rcases Nat.lt_or_ge a l.length with q | q
        · exact q
        · rw [List.drop_eq_nil_of_le q] at hd; cases hd
      have hc : l.getD a 0 = c := by
        have := List.getElem_cons_drop (as := l) (i := a) hlt
        rw [hd] at this
        rw [List.getD_eq_getElem?_getD, List.getElem?_eq_getElem hlt]
        exact (List.cons.inj this).1
      have hd' : l.drop (a + 1) = r := by rw [← List.drop_drop, hd]; rfl
      unfold stepW at h
      rw [List.dropWhile_cons] at h
      cases hw : wsB c with
      | true =>
        rw [hw, List.takeWhile_cons, hw] at h
        simp only [if_true] at h
        have hs : stepW r = none := by
          unfold stepW
          cases hr : r.dropWhile wsB with
          | nil => rfl
          | cons d t' =>
            rw [hr] at h
            dsimp only at h ⊢
            split at h
            · cases h
            · rename_i q; rw [if_neg q]
        rw [peN, if_pos ⟨hlt, by rw [hc]; exact hw⟩]
        exact ih (a + 1) hd' hs
      | false =>
        rw [hw] at h
        simp only [Bool.false_eq_true, if_false] at h
        rw [peN, if_neg (fun q => by rw [hc] at q; have q2 : wsB c = true := q.2; rw [hw] at q2; cases q2)]
        intro q
        rw [hc] at q
        have : c = 63 := (u8_eq (n := 63) (by decide)).mp q.2
        rw [if_pos this] at h
        cases h
  unfold partEnd
  rw [if_neg (gen _ a rfl h)]
  decide
noncomputable def coreP (l : List UInt8) (n : Nat) : Option Wp :=
  if pick l (some (n : Int)) (some ((n : Int) + 2)) = [61, 63] then
    (stepW (l.drop (n + 2))).bind fun a => (stepW a.2).bind fun b => (stepW b.2).bind fun c =>
      if c.2.take 1 = [61] then some ⟨a.1, b.1, c.1, n + 6 + a.1.length + b.1.length + c.1.length⟩ else none
  else none
theorem wordParts_core (l : List UInt8) (n : Nat) : wordParts l n = coreP l n := by
  unfold wordParts coreP
  by_cases h0 : pick l (some (n : Int)) (some ((n : Int) + 2)) = [61, 63]
  case neg => rw [if_neg h0, if_neg h0]
  rw [if_pos h0, if_pos h0]
  have m0 : marksOf l n 0 = some [n + 1] := rfl
  cases e1 : stepW (l.drop (n + 2)) with
  | none =>
    have : marksOf l n 1 = none := by
      unfold marksOf; rw [m0]; dsimp only
      rw [if_pos (by simpa using step_none (a := n + 2) e1)]
    rw [marks_none (by walk_at "o") this]; rfl
  | some p =>
    obtain ⟨a, r1⟩ := p
    obtain ⟨a1, a2, a3, a4, a5⟩ := step_at e1
    have m1 : marksOf l n 1 = some [n + 1, n + 2 + a.length] := by
      unfold marksOf; rw [m0]; dsimp only
      have e : partEnd l ([n + 1].getD 0 0 + 1) = ((n + 2 + a.length : Nat) : Int) := a1
      rw [e, if_neg (by walk_at "o"), Int.toNat_natCast]; rfl
    rw [Option.bind_some]
    dsimp only
    cases e2 : stepW r1 with
    | none =>
      have : marksOf l n 2 = none := by
        unfold marksOf; rw [m1]; dsimp only
        have e : partEnd l ([n + 1, n + 2 + a.length].getD 1 0 + 1) < 0 := step_none (a := n + 2 + a.length + 1) (by rw [a2]; exact e2)
        rw [if_pos e]
      rw [marks_none (by walk_at "o") this]; rfl
    | some p =>
      obtain ⟨b, r2⟩ := p
      rw [← a2] at e2
      obtain ⟨b1, b2, b3, b4, b5⟩ := step_at e2
      have m2 : marksOf l n 2 = some [n + 1, n + 2 + a.length, n + 2 + a.length + 1 + b.length] := by
        unfold marksOf; rw [m1]; dsimp only
        have e : partEnd l ([n + 1, n + 2 + a.length].getD 1 0 + 1) = ((n + 2 + a.length + 1 + b.length : Nat) : Int) := b1
        rw [e, if_neg (by walk_at "o"), Int.toNat_natCast]; rfl
      rw [Option.bind_some]
      dsimp only
      cases e3 : stepW r2 with
      | none =>
        have : marksOf l n 3 = none := by
          unfold marksOf; rw [m2]; dsimp only
          have e : partEnd l ([n + 1, n + 2 + a.length, n + 2 + a.length + 1 + b.length].getD 2 0 + 1) < 0 := step_none (a := n + 2 + a.length + 1 + b.length + 1) (by rw [b2]; exact e3)
          rw [if_pos e]
        rw [this]; rfl
      | some p =>
        obtain ⟨c, r3⟩ := p
        rw [← b2] at e3
        obtain ⟨c1, c2, c3, c4, c5⟩ := step_at e3
        have m3 : marksOf l n 3 = some [n + 1, n + 2 + a.length, n + 2 + a.length + 1 + b.length, n + 2 + a.length + 1 + b.length + 1 + c.length] := by
          unfold marksOf; rw [m2]; dsimp only
          have e : partEnd l ([n + 1, n + 2 + a.length, n + 2 + a.length + 1 + b.length].getD 2 0 + 1) = ((n + 2 + a.length + 1 + b.length + 1 + c.length : Nat) : Int) := c1
          rw [e, if_neg (by walk_at "o"), Int.toNat_natCast]; rfl
        rw [m3, Option.bind_some]
        dsimp only
        have g0 : [n + 1, n + 2 + a.length, n + 2 + a.length + 1 + b.length, n + 2 + a.length + 1 + b.length + 1 + c.length].getD 0 0 = n + 1 := rfl
        have g1 : [n + 1, n + 2 + a.length, n + 2 + a.length + 1 + b.length, n + 2 + a.length + 1 + b.length + 1 + c.length].getD 1 0 = n + 2 + a.length := rfl
        have g2 : [n + 1, n + 2 + a.length, n + 2 + a.length + 1 + b.length, n + 2 + a.length + 1 + b.length + 1 + c.length].getD 2 0 = n + 2 + a.length + 1 + b.length := rfl
        have g3 : [n + 1, n + 2 + a.length, n + 2 + a.length + 1 + b.length, n + 2 + a.length + 1 + b.length + 1 + c.length].getD 3 0 = n + 2 + a.length + 1 + b.length + 1 + c.length := rfl
        rw [g0, g1, g2, g3]
        have k3 : pick l (some ((n + 2 + a.length + 1 + b.length + 1 + c.length : Nat) : Int)) (some (((n + 2 + a.length + 1 + b.length + 1 + c.length : Nat) : Int) + 2)) = 63 :: r3.take 1 := by
          rw [show (((n + 2 + a.length + 1 + b.length + 1 + c.length : Nat) : Int) + 2) = ((n + 2 + a.length + 1 + b.length + 1 + c.length + 2 : Nat) : Int) by walk_at "o", pick_nn, c5]
          rw [show n + 2 + a.length + 1 + b.length + 1 + c.length + 2 - (n + 2 + a.length + 1 + b.length + 1 + c.length) = 2 by walk_at "o"]
          rfl
        have q0 : pick l (some (((n + 1 : Nat) : Int) + 1)) (some ((n + 2 + a.length : Nat) : Int)) = a := by
          rw [show (((n + 1 : Nat) : Int) + 1) = ((n + 2 : Nat) : Int) by walk_at "o", pick_nn, show n + 2 + a.length - (n + 2) = a.length by walk_at "o"]
          exact a3
        have q1 : pick l (some (((n + 2 + a.length : Nat) : Int) + 1)) (some ((n + 2 + a.length + 1 + b.length : Nat) : Int)) = b := by
          rw [show (((n + 2 + a.length : Nat) : Int) + 1) = ((n + 2 + a.length + 1 : Nat) : Int) by walk_at "o", pick_nn, show n + 2 + a.length + 1 + b.length - (n + 2 + a.length + 1) = b.length by walk_at "o"]
          exact b3
        have q2 : pick l (some (((n + 2 + a.length + 1 + b.length : Nat) : Int) + 1)) (some ((n + 2 + a.length + 1 + b.length + 1 + c.length : Nat) : Int)) = c := by
          rw [show (((n + 2 + a.length + 1 + b.length : Nat) : Int) + 1) = ((n + 2 + a.length + 1 + b.length + 1 : Nat) : Int) by walk_at "o", pick_nn, show n + 2 + a.length + 1 + b.length + 1 + c.length - (n + 2 + a.length + 1 + b.length + 1) = c.length by walk_at "o"]
          exact c3
        rw [k3, q0, q1, q2]
        by_cases hr : r3.take 1 = [61]
        · rw [if_pos (by rw [hr]), if_pos hr]
          congr 2
          walk_at "o"
        · rw [if_neg (fun q => hr (List.cons.inj q).2), if_neg hr]
theorem lawMarked_core (l : List UInt8) (n : Nat) : lawMarked l n = coreP l n := by
  unfold lawMarked coreP
  by_cases h0 : pick l (some (n : Int)) (some ((n : Int) + 2)) = [61, 63]
  case neg => rw [if_neg h0, if_neg h0]
  rw [if_pos h0, if_pos h0]
  dsimp only
  generalize l.drop (n + 2) = r
  rw [step_eq]
  cases e1 : stepL r with
  | none =>
    have hs : spl 63 r = [r] := by rw [spl_cons, e1]
    rw [hs]; simp
  | some p =>
    obtain ⟨a, r1⟩ := p
    have hs1 : spl 63 r = a :: spl 63 r1 := by rw [spl_cons, e1]
    cases e2 : stepL r1 with
    | none =>
      have hs : spl 63 r = [a, r1] := by rw [hs1, spl_cons r1, e2]
      rw [hs, if_pos (by simp)]
      simp only [Option.bind_some]
      cases a.all inSigns with
      | true =>
        rw [if_pos rfl, Option.bind_some]
        dsimp only
        rw [step_eq, e2]; simp
      | false => simp
    | some p =>
      obtain ⟨b, r2⟩ := p
      have hs2 : spl 63 r = a :: b :: spl 63 r2 := by rw [hs1, spl_cons r1, e2]
      cases e3 : stepL r2 with
      | none =>
        have hs : spl 63 r = [a, b, r2] := by rw [hs2, spl_cons r2, e3]
        rw [hs, if_pos (by simp)]
        simp only [Option.bind_some]
        cases a.all inSigns with
        | true =>
          rw [if_pos rfl, Option.bind_some]
          dsimp only
          rw [step_eq, e2]
          simp only [Option.bind_some]
          cases b.all inSigns with
          | true =>
            rw [if_pos rfl, Option.bind_some]
            dsimp only
            rw [step_eq, e3]; simp
          | false => simp
        | false => simp
      | some p =>
        obtain ⟨c, r3⟩ := p
        have hs3 : spl 63 r = a :: b :: c :: spl 63 r3 := by rw [hs2, spl_cons r2, e3]
        have hsp : ∃ x y, spl 63 r3 = x :: y ∧ x.take 1 = (if r3.take 1 = [63] then [] else r3.take 1) := by
          cases r3 with
          | nil => exact ⟨[], [], rfl, rfl⟩
          | cons d r =>
            rw [spl_cons]
            unfold stepL
            by_cases hd : d = 63
            · subst hd
              refine ⟨[], spl 63 r, ?_, by simp⟩
              simp [List.dropWhile_cons, List.takeWhile_cons]
            · have hd' : (d != 63) = true := by simpa using hd
              rw [List.dropWhile_cons, hd', List.takeWhile_cons, hd']
              simp only [if_true]
              cases r.dropWhile (· != 63) with
              | nil => exact ⟨_, _, rfl, by simp [hd]⟩
              | cons _ t => exact ⟨_, _, rfl, by simp [hd]⟩
        obtain ⟨x, y, hx, hx1⟩ := hsp
        rw [hx] at hs3
        rw [hs3]
        rw [if_neg (by simp)]
        have g0 : (a :: b :: c :: x :: y).getD 0 [] = a := rfl
        have g1 : (a :: b :: c :: x :: y).getD 1 [] = b := rfl
        have g2 : (a :: b :: c :: x :: y).getD 2 [] = c := rfl
        have g3 : (a :: b :: c :: x :: y).getD 3 [] = x := rfl
        rw [g0, g1, g2, g3, hx1]
        have hx2 : ((if r3.take 1 = [63] then [] else r3.take 1) = [61]) ↔ r3.take 1 = [61] := by
          by_cases q : r3.take 1 = [63]
          · rw [if_pos q, q]; simp
          · rw [if_neg q]
        simp only [Option.bind_some]
        rw [List.all_append, List.all_append]
        cases ha : a.all inSigns with
        | false => simp
        | true =>
          simp only [if_true, Option.bind_some]
          rw [step_eq, e2]
          simp only [Option.bind_some]
          cases hb : b.all inSigns with
          | false => simp
          | true =>
            simp only [if_true, Option.bind_some]
            rw [step_eq, e3]
            simp only [Option.bind_some]
            cases hc : c.all inSigns with
            | false => simp
            | true =>
              simp only [if_true, Option.bind_some, Bool.and_self]
              by_cases q : r3.take 1 = [61]
              · rw [if_pos (hx2.mpr q), if_pos q]
              · rw [if_neg (fun z => q (hx2.mp z)), if_neg q]
theorem parts_same (l : List UInt8) (n : Nat) : wordParts l n = lawMarked l n := by rw [wordParts_core, lawMarked_core]
end
section
open PySem PySem.W PyProof.Rows PySem.Calls Builtin Builtin.Str PySem.StrLaws
set_option maxRecDepth 100000
theorem strB_cps (l : List UInt8) : (strB l).cps.toList = l.map (·.toNat) := rfl
theorem strB_len (l : List UInt8) : (strB l).length = l.length := by simp [strB, Str.length]
theorem strB_inj {l m : List UInt8} (h : strB l = strB m) : l = m := by
  have := congrArg (fun s : Str => s.cps.toList) h
  simp only [strB_cps] at this
  exact (List.map_inj_right (fun a b e => UInt8.toNat_inj.mp e)).mp this
theorem placed_map {x : Str} {f : Nat → Nat → List Nat} {g : Nat → Nat} (h : ∀ i c, x.cps[i]? = some c → f i c = [g c]) : placed x f = x.cps.map g := by
  unfold placed
  apply Array.toList_inj.mp
  obtain ⟨⟨l⟩⟩ := x
  have key : ∀ (l : List Nat) (f : Nat → Nat → List Nat), (∀ i c, l[i]? = some c → f i c = [g c]) → (l.mapIdx fun i c => f i c).flatten = l.map g := by
    intro l
    induction l with
    | nil => intro f _; rfl
    | cons c l ih =>
      intro f h
      rw [List.mapIdx_cons, List.flatten_cons, h 0 c rfl, ih (fun i c => f (i + 1) c) fun i c e => h (i + 1) c (by simpa using e)]
      rfl
  have := key l f (fun i c e => h i c (by simpa using e))
  simp only [Array.toList_flatten, Array.toList_map, Array.toList_mapIdx]
  rw [← this]
  congr 1
  apply List.ext_getElem?
  intro i
  simp [List.getElem?_mapIdx, Option.map_map, Function.comp_def]
noncomputable def upB (c : UInt8) : UInt8 := if 97 ≤ c ∧ c ≤ 122 then c - 32 else c
theorem all8 {P : UInt8 → Prop} (h : ∀ n, n < 256 → P (UInt8.ofNat n)) (c : UInt8) : P c := by
  have := h c.toNat c.toNat_lt
  rwa [UInt8.ofNat_toNat] at this
theorem upB_nat : ∀ c : UInt8, (if 97 ≤ c.toNat ∧ c.toNat ≤ 122 then c.toNat - 32 else c.toNat) = (upB c).toNat := all8 (by decide +kernel)
theorem lowB_nat : ∀ c : UInt8, (if 65 ≤ c.toNat ∧ c.toNat ≤ 90 then c.toNat + 32 else c.toNat) = (lowB c).toNat := all8 (by decide +kernel)
theorem kind_B (l : List UInt8) : Str.strKind (strB l) = 1 := by
  unfold Str.strKind
  rw [if_pos]
  rw [← Array.all_toList, strB_cps, List.all_map, List.all_eq_true]
  intro c _
  exact decide_eq_true c.toNat_lt
theorem takeW_all {l : List UInt8} {p : UInt8 → Bool} (h : ∀ c ∈ l, p c = true) : l.takeWhile p = l := by
  induction l with
  | nil => rfl
  | cons c l ih => rw [List.takeWhile_cons, h c (.head _), if_pos rfl, ih fun d hd => h d (.tail _ hd)]
theorem upper_B {l : List UInt8} (h : ∀ c ∈ l, c.toNat < 128) : Txt.upper (strB l) = strB (l.map upB) := by
  unfold Txt.upper
  rw [placed_map (g := fun c => if 97 ≤ c ∧ c ≤ 122 then c - 32 else c) fun i c e => up_tab c ?_]
  · apply Str.ext'
    apply Array.toList_inj.mp
    simp only [Array.toList_map, strB_cps, List.map_map]
    exact List.map_congr_left fun c _ => upB_nat c
  · have : c ∈ (strB l).cps.toList := by
      rw [← Array.getElem?_toList] at e
      exact List.mem_of_getElem? e
    rw [strB_cps] at this
    obtain ⟨d, hd, rfl⟩ := List.mem_map.mp this
    exact h d hd
theorem lower_B {l : List UInt8} (h : ∀ c ∈ l, c.toNat < 128) : Txt.lower (strB l) = strB (l.map lowB) := by
  unfold Txt.lower
  rw [placed_map (g := fun c => if 65 ≤ c ∧ c ≤ 90 then c + 32 else c) fun i c e => ?_]
  · apply Str.ext'
    apply Array.toList_inj.mp
    simp only [Array.toList_map, strB_cps, List.map_map]
    exact List.map_congr_left fun c _ => lowB_nat c
  · have hc : c < 128 := by
      have : c ∈ (strB l).cps.toList := by
        rw [← Array.getElem?_toList] at e
        exact List.mem_of_getElem? e
      rw [strB_cps] at this
      obtain ⟨d, hd, rfl⟩ := List.mem_map.mp this
      exact h d hd
    unfold Unicode.lowerAt
    rw [e]
    dsimp only
    have : (c == 0x3A3 && Unicode.endsWord (strB l).cps i) = false := by
      rw [show (c == 0x3A3) = false from by simp; walk_at "o"]; rfl
    rw [this]
    exact low_tab c hc
theorem sub_B (l : List UInt8) (a b : Nat) : strSub (strB l) a b = strB ((l.drop a).take (b - a)) := by
  apply Str.ext'
  apply Array.toList_inj.mp
  rw [strSub_toList, strB_cps, strB_cps, List.map_take, List.map_drop]
theorem at_one (l : List UInt8) (c : UInt8) (i : Nat) : At (strB l) ⟨#[c.toNat]⟩ (strB l).length i ↔ l[i]? = some c := by
  unfold At
  rw [subAt_one, strB_cps, List.getElem?_map, Option.map_eq_some_iff]
  constructor
  · rintro ⟨d, h, e⟩; rw [h, UInt8.toNat_inj.mp e]
  · intro h; exact ⟨c, h, rfl⟩
theorem takeW (l : List UInt8) (c : UInt8) (i : Nat) (h : l[i]? = some c) (hn : ∀ k, k < i → l[k]? ≠ some c) : l.take i = l.takeWhile (· != c) := by
  induction l generalizing i with
  | nil => cases h
  | cons d l ih =>
    cases i with
    | zero =>
      cases h
      simp
    | succ i =>
      have hd : d ≠ c := fun e => hn 0 (by walk_at "o") (by rw [e]; rfl)
      rw [List.take_succ_cons, List.takeWhile_cons, if_pos (by simpa using hd), ih i (by simpa using h) fun k hk => by
        have := hn (k + 1) (by walk_at "o")
        simpa using this]
theorem split_head (l : List UInt8) : (Txt.split (strB l) ⟨#[42]⟩)[0]? = some (strB (l.takeWhile (· != 42))) := by
  have whole : (∀ i : Nat, l[i]? ≠ some 42) → l.takeWhile (· != 42) = l := by
    intro h
    refine takeW_all ?_
    intro c hc
    obtain ⟨i, hi⟩ := List.mem_iff_getElem?.mp hc
    have := h i
    rw [hi] at this
    simpa using this
  have hat : ∀ i, At (strB l) ⟨#[42]⟩ (strB l).length i ↔ l[i]? = some 42 := at_one l 42
  unfold Txt.split
  split
  · rename_i h
    rw [whole]
    · rfl
    · intro i hi
      have : At (strB l) ⟨#[42]⟩ (strB l).length i := (hat i).mpr hi
      rcases Bool.or_eq_true_iff.mp h with q | q
      · have q := of_decide_eq_true q
        have := this.1
        walk_at "o"
      · have q : Str.strKind (strB l) < Str.strKind ⟨#[42]⟩ := of_decide_eq_true q
        have k2 : Str.strKind (⟨#[42]⟩ : Str) = 1 := kind_B [42]
        rw [kind_B, k2] at q
        exact absurd q (by decide)
  · rcases occ_head (strB l) ⟨#[42]⟩ ((strB l).length + 1) (by walk_at "o") with ⟨h0, hn⟩ | ⟨i, r, h0, ha, hn⟩
    · rw [h0]
      rw [whole fun i hi => hn i ((hat i).mpr hi)]; rfl
    · rw [h0]
      rw [if_neg (by simp), partsBetween_eq]
      show some (strSub (strB l) 0 i) = _
      rw [sub_B, Nat.sub_zero, List.drop_zero, takeW l 42 i ((hat i).mp ha) fun k hk e => hn k hk ((hat k).mpr e)]
end
section
open PySem PySem.W PyProof.Rows PySem.Calls PySem.SeqAt PySem.MeetsSeq
set_option maxRecDepth 100000
set_option tactic.hygienic true in
theorem stepW_app {r w t : List UInt8} (h : stepW r = some (w, t)) : r = w ++ 63 :: t ∧ w.all inSigns = true := by
  have h2 := h
  rw [step_eq] at h2
  have ha : w.all inSigns = true := by
    cases e : stepL r with
    | none => rw [e] at h2; cases h2
    | some p =>
      rw [e, Option.bind_some] at h2
      split at h2
      · rename_i q; cases h2; exact q
      · cases h2
  refine ⟨?_, ha⟩
  unfold stepW at h
  split at h
  · rename_i c t' hd
    split at h
    · rename_i hc
      cases h
      have := List.takeWhile_append_dropWhile (p := wsB) (l := r)
      rw [hd, hc] at this
      exact this.symm
    · cases h
  · cases h
theorem wp_facts {l : List UInt8} {n : Nat} {p : Wp} (h : wordParts l n = some p) : p.cs.all inSigns = true ∧ p.way.all inSigns = true ∧ p.load.all inSigns = true ∧ p.fin ≤ l.length ∧ n + 6 + p.cs.length + p.way.length + p.load.length = p.fin := by
  rw [wordParts_core] at h
  unfold coreP at h
  by_cases h0 : pick l (some (n : Int)) (some ((n : Int) + 2)) = [61, 63]
  case neg => rw [if_neg h0] at h; cases h
  rw [if_pos h0] at h
  cases e1 : stepW (l.drop (n + 2)) with
  | none => rw [e1] at h; cases h
  | some a =>
    obtain ⟨a, r1⟩ := a
    rw [e1, Option.bind_some] at h
    dsimp only at h
    cases e2 : stepW r1 with
    | none => rw [e2] at h; cases h
    | some b =>
      obtain ⟨b, r2⟩ := b
      rw [e2, Option.bind_some] at h
      dsimp only at h
      cases e3 : stepW r2 with
      | none => rw [e3] at h; cases h
      | some c =>
        obtain ⟨c, r3⟩ := c
        rw [e3, Option.bind_some] at h
        dsimp only at h
        by_cases hr : r3.take 1 = [61]
        case neg => rw [if_neg hr] at h; cases h
        rw [if_pos hr] at h
        cases h
        obtain ⟨a1, a2⟩ := stepW_app e1
        obtain ⟨b1, b2⟩ := stepW_app e2
        obtain ⟨c1, c2⟩ := stepW_app e3
        refine ⟨a2, b2, c2, ?_, rfl⟩
        have l1 := congrArg List.length a1
        have l2 := congrArg List.length b1
        have l3 := congrArg List.length c1
        have l4 := congrArg List.length hr
        simp only [List.length_append, List.length_cons, List.length_drop, List.length_take, List.length_nil] at l1 l2 l3 l4
        dsimp only
        walk_at "o"
theorem signs_lt {l : List UInt8} (h : l.all inSigns = true) : ∀ c ∈ l, c.toNat < 128 := fun c hc => by
  have := List.all_eq_true.mp h c hc
  unfold inSigns at this
  simp at this; walk_at "o"
theorem putAll_get (as : List Str) (c : Str) : ∀ (g : Str → Option Str) (x : Str), putAll g as c x = if x ∈ as then some c else g x := by
  induction as with
  | nil => intro g x; simp [putAll]
  | cons a as ih =>
    intro g x
    show putAll (updS g a c) as c x = _
    rw [ih]
    unfold updS
    by_cases h1 : x ∈ as
    · rw [if_pos h1, if_pos (.tail _ h1)]
    · rw [if_neg h1]
      by_cases h2 : x = a
      · rw [if_pos h2, if_pos (by rw [h2]; exact .head _)]
      · rw [if_neg h2, if_neg (by intro q; rcases List.mem_cons.mp q with e | e; exact h2 e; exact h1 e)]
theorem csName_ok (x : Str) : csName x = "" ∨ csOK (csName x) := by
  unfold csName csTab
  rw [putAll_get]
  split
  · exact .inr (.inr (.inr rfl))
  · rw [putAll_get]
    split
    · exact .inr (.inr (.inl rfl))
    · rw [putAll_get]
      split
      · exact .inr (.inl rfl)
      · exact .inl rfl
noncomputable abbrev upOf (w : List UInt8) : Str := strB (w.map upB)
noncomputable def rowOf (p : Wp) : List UInt8 := if upOf p.way = "Q" then unqB (p.load.map under) else decB p.load
noncomputable def wordOf (p : Wp) : Option (List Nat × Nat) :=
  let cs := csName (strB ((p.cs.takeWhile (· != 42)).map lowB))
  if cs = "" ∨ ¬(upOf p.way = "Q" ∨ upOf p.way = "B") then none else some (txt cs (rowOf p) 0, p.fin)
noncomputable def wordAt (l : List UInt8) (n : Nat) : Option (List Nat × Nat) := match wordParts l n with
  | none => none
  | some p => if isApart l n p.fin = true then wordOf p else none
noncomputable def wtD : Option (List Nat × Nat) → Dat
  | none => .none
  | some p => .tuple [.str ⟨p.1.toArray⟩, .int (p.2 : Int)]
theorem unqB_len (l : List UInt8) : (unqB l).length ≤ l.length := by
  unfold unqB; rw [List.length_map]
  have := unq_len l l.length 0 (by walk_at "o")
  walk_at "o"
theorem flat_len (gs : List (List UInt8)) (h : ∀ g ∈ gs, g.length ≤ 4) : gs.flatten.length ≤ 4 * gs.length := by
  induction gs with
  | nil => simp
  | cons g gs ih =>
    have h1 := ih fun x hx => h x (.tail _ hx)
    have h2 := h g (.head _)
    simp only [List.flatten_cons, List.length_append, List.length_cons]
    walk_at "o"
theorem decB_len (l : List UInt8) : (decB l).length ≤ 4 * l.length := by
  unfold decB
  have h1 := wRow_len l
  have h2 := grps_len (wRow l) (wRow l).length 0 (by walk_at "o")
  have h3 := flat_len (grps (wRow l) 0) h2.2
  walk_at "o"
theorem rowOf_len (p : Wp) : (rowOf p).length ≤ 4 * p.load.length := by
  unfold rowOf
  split
  · have := unqB_len (p.load.map under)
    simp only [List.length_map] at this
    walk_at "o"
  · exact decB_len _
theorem ways_kind (x : Str) : ∀ d ∈ [sD "Q", sD "B"], kindD d = kindD (.str x) := by
  intro d hd
  simp only [List.mem_cons, List.not_mem_nil, or_false] at hd
  rcases hd with rfl | rfl <;> rfl
theorem ways_any (x : Str) : ([sD "Q", sD "B"].any (sameD · (.str x))) = decide (x = "Q" ∨ x = "B") := by
  have e : ∀ y : Str, sameD (.str y) (.str x) = decide (x = y) := fun y => by
    show (y.cps.toList == x.cps.toList) = _
    rw [Bool.eq_iff_iff, beq_iff_eq, decide_eq_true_eq, Array.toList_inj]
    obtain ⟨y⟩ := y
    obtain ⟨x⟩ := x
    simp [eq_comm]
  show (sameD (.str "Q") (.str x) || (sameD (.str "B") (.str x) || false)) = _
  rw [e, e, Bool.or_false]
  by_cases h1 : x = "Q"
  · simp [h1]
  · by_cases h2 : x = "B" <;> simp [h1, h2]
end
section
open PySem PySem.W PyProof.Rows PySem.Calls PySem.SeqAt PySem.MeetsSeq
set_option maxRecDepth 100000
theorem W2_ways_notin {S : St} {Q : Dat → Prop} {x : Str} (q : Q (.bool (!decide (x = "Q" ∨ x = "B")))) : W2 S (compareOp .NotIn) (.str x) (.tuple [sD "Q", sD "B"]) Q :=
  W2_notin (ways_kind _) (by simp [kindD]) (by rw [ways_any]; exact q)
set_option maxHeartbeats 1000000 in
theorem sp_word_at (G : Gp) (ok : GOK G) (l : List UInt8) (hl : l.length ≤ 200) (n : Nat) (hn : n ≤ l.length) : Sp G 23 5 true [.bytes l.toArray, .int n] (· = wtD (wordAt l n)) := by
  refine enter (defAt 45) (dAt ok 23 45 rfl) (plain2 45 rfl (by intros; rfl) (by rfl) (by rfl) (by rfl) (by rfl) rfl rfl rfl) fun A L a code => ?_
  first | with_reducible refine WS_cons ?_ | refine WS_cons ?_
  walk_at "as"
  refine WE_def 20 (defAt 42) (dAt ok 20 42 rfl) rfl rfl ?_
  walk_at "w"
  refine May.mk' (sp_word_parts G ok l (by walk_at "o") n (by walk_at "o")) ?_ (show 3 ≤ 4 by decide) id
  first | with_reducible refine then_next ?_ | refine then_next ?_
  cases hp : wordParts l n with
  | none =>
    have hw : wordAt l n = none := by unfold wordAt; rw [hp]
    rw [hw]
    show WS _ (Sg.set _ _ (.val .none)) _ _
    first | with_reducible refine WS_cons ?_ | refine WS_cons ?_
    first | with_reducible refine WX_if (WT_bool (WA_or (WT_cmp ?_))) | refine WX_if (WT_bool (WA_or (WT_cmp ?_)))
    refine WE_name rfl ?_
    first | with_reducible refine WE_none ?_ | refine WE_none ?_
    first | with_reducible refine W2_is ?_ | refine W2_is ?_
    first | with_reducible refine WB_bool ?_ | refine WB_bool ?_
    first | with_reducible refine yes ?_ | refine yes ?_
    first | with_reducible refine yes ?_ | refine yes ?_
    walk_at "w"
    rfl
  | some p =>
    obtain ⟨f1, f2, f3, f4, f5⟩ := wp_facts hp
    have hw : wordAt l n = if isApart l n p.fin = true then wordOf p else none := by unfold wordAt; rw [hp]
    rw [hw]
    show WS _ (Sg.set _ _ (.val (.tuple [.bytes p.cs.toArray, .bytes p.way.toArray, .bytes p.load.toArray, .int (p.fin : Int)]))) _ _
    first | with_reducible refine WS_cons ?_ | refine WS_cons ?_
    first | with_reducible refine WX_if (WT_bool (WA_or (WT_cmp ?_))) | refine WX_if (WT_bool (WA_or (WT_cmp ?_)))
    refine WE_name rfl ?_
    first | with_reducible refine WE_none ?_ | refine WE_none ?_
    first | with_reducible refine W2_is ?_ | refine W2_is ?_
    first | with_reducible refine WB_bool ?_ | refine WB_bool ?_
    first | with_reducible refine no ?_ | refine no ?_
    refine WA_or ?_
    first | with_reducible refine WT_not ?_ | refine WT_not ?_
    first | with_reducible refine WT_val ?_ | refine WT_val ?_
    refine WE_def 21 (defAt 43) (dAt ok 21 43 rfl) rfl rfl ?_
    walk_at "w"
    refine W2_tuple_item (j := 3) (by simp) rfl rfl ?_ (by decide)
    first | with_reducible refine WL_nil ?_ | refine WL_nil ?_
    refine May.mk' (sp_is_apart G ok true l (by walk_at "o") n p.fin hn f4) ?_ (show 1 ≤ 4 by decide) id
    first | with_reducible refine WB_bool ?_ | refine WB_bool ?_
    cases hap : isApart l n p.fin with
    | false =>
      first | with_reducible refine yes ?_ | refine yes ?_
      first | with_reducible refine yes ?_ | refine yes ?_
      walk_at "w"
      rfl
    | true =>
      rw [if_pos rfl]
      first | with_reducible refine no ?_ | refine no ?_
      refine WA_or_nil ?_
      first | with_reducible refine no ?_ | refine no ?_
      first | with_reducible refine WS_nil ?_ | refine WS_nil ?_
      first | with_reducible refine then_next ?_ | refine then_next ?_
      first | with_reducible refine WS_cons ?_ | refine WS_cons ?_
      walk_at "as"
      refine WE_def 6 (defAt 19) (dAt ok 6 19 rfl) rfl rfl ?_
      first | with_reducible refine WL_cons ?_ | refine WL_cons ?_
      first | with_reducible refine WE_sub ?_ | refine WE_sub ?_
      first | focus ((with_reducible refine WE_meth "str" "str.split" F.plainAttrs_str F.slot_str_split F.type_str_split ?_ ?_ ?_ ?_ ?_ ?_); walk_at "mt") | refine WE_meth "str" "str.split" F.plainAttrs_str F.slot_str_split F.type_str_split ?_
      refine WE_def 22 (defAt 44) (dAt ok 22 44 rfl) rfl rfl ?_
      first | with_reducible refine WL_cons ?_ | refine WL_cons ?_
      first | with_reducible refine WE_sub ?_ | refine WE_sub ?_
      refine WE_name rfl ?_
      first | with_reducible refine WE_int ?_ | refine WE_int ?_
      refine W2_tuple_item (j := 0) (by simp) rfl rfl ?_ (by decide)
      first | with_reducible refine WL_nil ?_ | refine WL_nil ?_
      refine May.mk' (sp_plain_text G ok p.cs (by walk_at "o")) ?_ (show 1 ≤ 4 by decide) id
      refine ⟨rfl, ?_⟩
      first | with_reducible refine WL_cons ?_ | refine WL_cons ?_
      first | with_reducible refine WE_str ?_ | refine WE_str ?_
      first | with_reducible refine WL_nil ?_ | refine WL_nil ?_
      have hsz : (strB p.cs).length ≤ 1000 := by rw [strB_len]; walk_at "o"
      refine V_split (by decide) (by walk_at "o") ?_
      first | with_reducible refine WE_int ?_ | refine WE_int ?_
      have hsl := PyProof.Rows.split_le (strB p.cs) "*"
      have hh : (Txt.split (strB p.cs) "*")[0]? = some (strB (p.cs.takeWhile (· != 42))) := split_head p.cs
      refine W2_list_item (j := 0) (r := .str (strB (p.cs.takeWhile (· != 42)))) ?_ ?_ ?_ ?_
      · rw [List.length_map]; walk_at "o"
      · have : 0 < (Txt.split (strB p.cs) "*").length := by
          rcases Nat.eq_zero_or_pos (Txt.split (strB p.cs) "*").length with q | q
          · rw [List.length_eq_zero_iff.mp q] at hh; cases hh
          · exact q
        rw [List.length_map]; exact StrLaws.seqIndex_nonneg (by decide) (by walk_at "o")
      · rw [List.getElem?_map, hh]; rfl
      first | with_reducible refine WL_nil ?_ | refine WL_nil ?_
      have htw : (p.cs.takeWhile (· != 42)).length ≤ p.cs.length := (List.takeWhile_sublist _).length_le
      refine May.mk' (sp_charset_name G ok _ (by walk_at "o")) ?_ (show 3 ≤ 4 by decide) id
      first | with_reducible refine then_next ?_ | refine then_next ?_
      first | with_reducible refine WS_cons ?_ | refine WS_cons ?_
      walk_at "as"
      first | focus ((with_reducible refine WE_meth0 "str" "str.upper" F.plainAttrs_str F.slot_str_upper F.type_str_upper ?_ ?_ ?_); walk_at "m0") | refine WE_meth0 "str" "str.upper" F.plainAttrs_str F.slot_str_upper F.type_str_upper ?_
      refine WE_def 22 (defAt 44) (dAt ok 22 44 rfl) rfl rfl ?_
      first | with_reducible refine WL_cons ?_ | refine WL_cons ?_
      first | with_reducible refine WE_sub ?_ | refine WE_sub ?_
      refine WE_name rfl ?_
      first | with_reducible refine WE_int ?_ | refine WE_int ?_
      refine W2_tuple_item (j := 1) (by simp) rfl rfl ?_ (by decide)
      first | with_reducible refine WL_nil ?_ | refine WL_nil ?_
      refine May.mk' (sp_plain_text G ok p.way (by walk_at "o")) ?_ (show 1 ≤ 4 by decide) id
      refine ⟨rfl, ?_⟩
      have hup : Txt.upper (strB p.way) = upOf p.way := upper_B (signs_lt f2)
      refine V_upper (by rw [hup, strB_len, List.length_map]; walk_at "o") ?_
      rw [hup]
      first | with_reducible refine then_next ?_ | refine then_next ?_
      have hwo : wordOf p = if csName (strB ((p.cs.takeWhile (· != 42)).map lowB)) = "" ∨ ¬(upOf p.way = "Q" ∨ upOf p.way = "B") then none else some (txt (csName (strB ((p.cs.takeWhile (· != 42)).map lowB))) (rowOf p) 0, p.fin) := rfl
      rw [hwo]
      have hcs := csName_ok (strB ((p.cs.takeWhile (· != 42)).map lowB))
      generalize csName (strB ((p.cs.takeWhile (· != 42)).map lowB)) = cs at hcs
      have hrl := rowOf_len p
      have hro : rowOf p = if upOf p.way = "Q" then unqB (p.load.map under) else decB p.load := rfl
      generalize rowOf p = row at hrl hro
      generalize upOf p.way = up at hro
      first | with_reducible refine WS_cons ?_ | refine WS_cons ?_
      first | with_reducible refine WX_if (WT_bool (WA_or (WT_cmp ?_))) | refine WX_if (WT_bool (WA_or (WT_cmp ?_)))
      refine WE_name rfl ?_
      first | with_reducible refine WE_str ?_ | refine WE_str ?_
      first | with_reducible refine W2_eqsL ?_ | refine W2_eqsL ?_
      first | with_reducible refine WB_bool ?_ | refine WB_bool ?_
      refine dec (fun h1 => ?_) (fun h1 => ?_)
      · first | with_reducible refine yes ?_ | refine yes ?_
        walk_at "w"
        rw [if_pos (.inl h1)]; rfl
      refine WA_or (WT_cmp ?_)
      refine WE_name rfl ?_
      refine WE_glob rfl (by walk_at "kon") ?_
      first | with_reducible refine W2_ways_notin ?_ | refine W2_ways_notin ?_
      first | with_reducible refine WB_bool ?_ | refine WB_bool ?_
      by_cases h2 : up = "Q" ∨ up = "B"
      case neg =>
        rw [decide_eq_false h2, if_pos (.inr h2)]
        first | with_reducible refine yes ?_ | refine yes ?_
        first | with_reducible refine yes ?_ | refine yes ?_
        walk_at "w"
        rfl
      rw [decide_eq_true h2, if_neg (fun q => q.elim h1 fun q => q h2)]
      first | with_reducible refine no ?_ | refine no ?_
      refine WA_or_nil ?_
      first | with_reducible refine no ?_ | refine no ?_
      first | with_reducible refine WS_nil ?_ | refine WS_nil ?_
      first | with_reducible refine then_next ?_ | refine then_next ?_
      first | with_reducible refine WS_cons ?_ | refine WS_cons ?_
      walk_at "as"
      first | with_reducible refine WE_is (.bytes row.toArray) ?_ ?_ | refine WE_is (.bytes row.toArray) ?_ ?_
      · first | with_reducible refine WE_if (WT_cmp ?_) | refine WE_if (WT_cmp ?_)
        refine WE_name rfl ?_
        first | with_reducible refine WE_str ?_ | refine WE_str ?_
        first | with_reducible refine W2_eqsL ?_ | refine W2_eqsL ?_
        first | with_reducible refine WB_bool ?_ | refine WB_bool ?_
        refine dec (fun h3 => ?_) (fun h3 => ?_)
        · refine WE_def 17 (defAt 34) (dAt ok 17 34 rfl) rfl rfl ?_
          first | with_reducible refine WL_cons ?_ | refine WL_cons ?_
          first | with_reducible refine WE_sub ?_ | refine WE_sub ?_
          refine WE_name rfl ?_
          first | with_reducible refine WE_int ?_ | refine WE_int ?_
          refine W2_tuple_item (j := 2) (by simp) rfl rfl ?_ (by decide)
          first | with_reducible refine WL_nil ?_ | refine WL_nil ?_
          refine May.mk' (sp_word_q G ok p.load (by walk_at "o")) ?_ (show 4 ≤ 4 by decide) id
          rw [hro, if_pos h3]
        · refine WE_def 2 (defAt 5) (dAt ok 2 5 rfl) rfl rfl ?_
          first | with_reducible refine WL_cons ?_ | refine WL_cons ?_
          first | with_reducible refine WE_sub ?_ | refine WE_sub ?_
          refine WE_name rfl ?_
          first | with_reducible refine WE_int ?_ | refine WE_int ?_
          refine W2_tuple_item (j := 2) (by simp) rfl rfl ?_ (by decide)
          first | with_reducible refine WL_nil ?_ | refine WL_nil ?_
          refine May.mk' (sp_decoded G ok p.load (by walk_at "o")) ?_ (show 2 ≤ 4 by decide) id
          rw [hro, if_neg h3]
      · first | with_reducible refine then_next ?_ | refine then_next ?_
        first | with_reducible refine WS_cons ?_ | refine WS_cons ?_
        first | with_reducible refine WX_return ?_ | refine WX_return ?_
        first | with_reducible refine WE_tuple ?_ | refine WE_tuple ?_
        first | with_reducible refine WL_call ?_ | refine WL_call ?_
        refine WE_def 11 (defAt 24) (dAt ok 11 24 rfl) rfl rfl ?_
        first | with_reducible refine WL_cons ?_ | refine WL_cons ?_
        refine WE_name rfl ?_
        first | with_reducible refine WL_cons ?_ | refine WL_cons ?_
        refine WE_name rfl ?_
        first | with_reducible refine WL_nil ?_ | refine WL_nil ?_
        refine May.mk' (sp_text_in G ok true cs (hcs.resolve_left h1) (fun _ => rfl) row (by walk_at "o")) ?_ (show 4 ≤ 4 by decide) id
        first | with_reducible refine WL_cons ?_ | refine WL_cons ?_
        first | with_reducible refine WE_sub ?_ | refine WE_sub ?_
        refine WE_name rfl ?_
        first | with_reducible refine WE_int ?_ | refine WE_int ?_
        refine W2_tuple_item (j := 3) (by simp) rfl rfl ?_ (by decide)
        refine WL_nil ⟨by simp, ?_⟩
        rfl
end
section
open PySem PySem.W PyProof.Rows PySem.Calls PySem.SeqAt PySem.MeetsSeq
set_option maxRecDepth 100000
inductive Pc where
  | gap (b : List UInt8)
  | word (t : List Nat)
noncomputable def pcD : Pc → Dat
  | .gap b => .tuple [.bool false, .bytes b.toArray]
  | .word t => .tuple [.bool true, .str ⟨t.toArray⟩]
noncomputable def wat (l : List UInt8) (n : Nat) : Option (List Nat × Nat) := if ((l.getD n 0).toNat : Int) = 61 then wordAt l n else none
noncomputable def pcs (l : List UInt8) : Nat → Nat → Nat → List Pc
  | 0, b, _ => [.gap (l.drop b)]
  | f + 1, b, a => if a < l.length then (match wat l a with
      | none => pcs l f b (a + 1)
      | some p => .gap ((l.drop b).take (a - b)) :: .word p.1 :: pcs l f p.2 p.2) else [.gap (l.drop b)]
noncomputable def piecesOf (l : List UInt8) : List Pc := pcs l (l.length + 1) 0 0
theorem wat_le {l : List UInt8} {n : Nat} {p : List Nat × Nat} (h : wat l n = some p) : n + 6 ≤ p.2 ∧ p.2 ≤ l.length := by
  unfold wat at h
  split at h
  · unfold wordAt at h
    cases hw : wordParts l n with
    | none => rw [hw] at h; cases h
    | some q =>
      rw [hw] at h
      dsimp only at h
      split at h
      · unfold wordOf at h
        dsimp only at h
        split at h
        · cases h
        · cases h
          have := wp_facts hw
          dsimp only
          walk_at "o"
      · cases h
  · cases h
theorem sp_pieces_of (G : Gp) (ok : GOK G) (l : List UInt8) (hl : l.length ≤ 200) : Sp G 24 6 true [.bytes l.toArray] (· = .list ((piecesOf l).map pcD)) := by
  refine enter (defAt 46) (dAt ok 24 46 rfl) (plain1 46 rfl (by intros; rfl) (by rfl) (by rfl) (by rfl) (by rfl) rfl rfl rfl) fun A L a code => ?_
  refine WS_cons (WX_own ?_ rfl rfl rfl)
  refine WL_nil ⟨by simp, ?_⟩
  first | with_reducible refine then_next ?_ | refine then_next ?_
  first | with_reducible refine WS_cons ?_ | refine WS_cons ?_
  walk_at "as"
  first | with_reducible refine WE_int ?_ | refine WE_int ?_
  first | with_reducible refine then_next ?_ | refine then_next ?_
  first | with_reducible refine WS_cons ?_ | refine WS_cons ?_
  walk_at "as"
  first | with_reducible refine WE_int ?_ | refine WE_int ?_
  first | with_reducible refine then_next ?_ | refine then_next ?_
  first | with_reducible refine WS_cons ?_ | refine WS_cons ?_
  refine WX_whileX (fun m σ' => ∃ (n b f : Nat) (ps : List Pc), σ' = vr "octets" (.bytes l.toArray) (ow "pieces" (.list (ps.map pcD)) (vr "begun" (.int b) (vr "at" (.int n) []))) ∧ m = l.length - n ∧ b ≤ n ∧ n ≤ l.length ∧ ps.length ≤ 2 * n ∧ l.length - n < f ∧ ps ++ pcs l f b n = piecesOf l) (l.length - 0)
    (vr "octets" (.bytes l.toArray) (ow "pieces" (.list []) (vr "begun" (.int (0 : Nat)) (vr "at" (.int (0 : Nat)) [])))) (ext_vr rfl (ext_ow rfl (ext_vr rfl (ext_vr rfl Ext.nil)))) ⟨0, 0, l.length + 1, [], rfl, rfl, by walk_at "o", by walk_at "o", by simp, by walk_at "o", rfl⟩ ?_
  intro m σ' zq
  refine hidG fun zG zh => ?_
  obtain ⟨n, b, f, ps, rfl, rfl, hb, hn, hps, hf, he⟩ := zq
  refine zh ?_
  clear zh zG
  walk_at "w"
  walk_at "bi"
  walk_at "w"
  obtain ⟨f, rfl⟩ : ∃ g, f = g + 1 := ⟨f - 1, by walk_at "o"⟩
  unfold pcs at he
  refine V_lenb (by walk_at "o") (W2_lt (WB_bool (dec (fun h => ?_) (fun h => ?_))))
  · rw [if_pos (by walk_at "o")] at he
    refine tsHide fun zJ zQ zi zk => ?_
    first | with_reducible refine WS_cons ?_ | refine WS_cons ?_
    have hwt : ∀ d : Dat, d = wtD (wat l n) → d = wtD (wat l n) := fun _ h => h
    walk_at "as"
    first | with_reducible refine WE_is (wtD (wat l n)) ?_ ?_ | refine WE_is (wtD (wat l n)) ?_ ?_
    · first | with_reducible refine WE_if (WT_cmp ?_) | refine WE_if (WT_cmp ?_)
      first | with_reducible refine WE_sub ?_ | refine WE_sub ?_
      refine WE_name rfl ?_
      refine WE_name rfl ?_
      refine W2_item n rfl (by walk_at "o") (by walk_at "o") ?_
      first | with_reducible refine WE_int ?_ | refine WE_int ?_
      first | with_reducible refine W2_eq ?_ | refine W2_eq ?_
      first | with_reducible refine WB_bool ?_ | refine WB_bool ?_
      refine ieq (fun h2 => ?_) (fun h2 => ?_)
      · refine WE_def 23 (defAt 45) (dAt ok 23 45 rfl) rfl rfl ?_
        first | with_reducible refine WL_cons ?_ | refine WL_cons ?_
        refine WE_name rfl ?_
        first | with_reducible refine WL_cons ?_ | refine WL_cons ?_
        refine WE_name rfl ?_
        first | with_reducible refine WL_nil ?_ | refine WL_nil ?_
        refine May.mk' (sp_word_at G ok l hl n hn) ?_ (Nat.le_refl _) id
        unfold wat; rw [if_pos h2]
      · first | with_reducible refine WE_none ?_ | refine WE_none ?_
        unfold wat; rw [if_neg h2]; rfl
    · first | with_reducible refine then_next ?_ | refine then_next ?_
      cases hw : wat l n with
      | none =>
        rw [hw] at he
        show WS _ (Sg.set _ _ (.val .none)) _ _
        first | with_reducible refine WS_cons ?_ | refine WS_cons ?_
        first | with_reducible refine WX_if (WT_cmp ?_) | refine WX_if (WT_cmp ?_)
        refine WE_name rfl ?_
        first | with_reducible refine WE_none ?_ | refine WE_none ?_
        first | with_reducible refine W2_is ?_ | refine W2_is ?_
        first | with_reducible refine WB_bool ?_ | refine WB_bool ?_
        first | with_reducible refine yes ?_ | refine yes ?_
        first | with_reducible refine WS_cons ?_ | refine WS_cons ?_
        walk_at "as"
        walk_at "w"
        refine zi _ ?_
        exact ⟨vr "octets" (.bytes l.toArray) (ow "pieces" (.list (ps.map pcD)) (vr "begun" (.int b) (vr "at" (.int ((n + 1 : Nat) : Int)) []))), ext_vr rfl (ext_ow rfl (ext_vr rfl (ext_vr rfl Ext.nil))), l.length - (n + 1), by walk_at "o", n + 1, b, f, ps, rfl, rfl, by walk_at "o", by walk_at "o", by walk_at "o", by walk_at "o", he⟩
      | some p =>
        rw [hw] at he
        have hle := wat_le hw
        dsimp only at he
        show WS _ (Sg.set _ _ (.val (.tuple [.str ⟨p.1.toArray⟩, .int (p.2 : Int)]))) _ _
        first | with_reducible refine WS_cons ?_ | refine WS_cons ?_
        first | with_reducible refine WX_if (WT_cmp ?_) | refine WX_if (WT_cmp ?_)
        refine WE_name rfl ?_
        first | with_reducible refine WE_none ?_ | refine WE_none ?_
        first | with_reducible refine W2_is ?_ | refine W2_is ?_
        first | with_reducible refine WB_bool ?_ | refine WB_bool ?_
        first | with_reducible refine no ?_ | refine no ?_
        first | with_reducible refine WS_cons ?_ | refine WS_cons ?_
        refine WX_append rfl ?_ (by simp; walk_at "o")
        first | with_reducible refine WE_tuple ?_ | refine WE_tuple ?_
        first | with_reducible refine WL_cons ?_ | refine WL_cons ?_
        first | with_reducible refine WE_bool ?_ | refine WE_bool ?_
        first | with_reducible refine WL_cons ?_ | refine WL_cons ?_
        first | with_reducible refine WE_slice ?_ | refine WE_slice ?_
        refine WE_name rfl ?_
        refine wp_some ?_
        refine WE_name rfl ?_
        refine ex_int ?_
        refine wp_some ?_
        refine WE_name rfl ?_
        refine ex_int ?_
        refine slice_b (by walk_at "o") ?_
        rw [pick_nn]
        refine WL_nil ⟨by simp, ?_⟩
        first | with_reducible refine then_next ?_ | refine then_next ?_
        first | with_reducible refine WS_cons ?_ | refine WS_cons ?_
        refine WX_append rfl ?_ (by simp; walk_at "o")
        first | with_reducible refine WE_tuple ?_ | refine WE_tuple ?_
        first | with_reducible refine WL_cons ?_ | refine WL_cons ?_
        first | with_reducible refine WE_bool ?_ | refine WE_bool ?_
        first | with_reducible refine WL_cons ?_ | refine WL_cons ?_
        first | with_reducible refine WE_sub ?_ | refine WE_sub ?_
        refine WE_name rfl ?_
        first | with_reducible refine WE_int ?_ | refine WE_int ?_
        refine W2_tuple_item (j := 0) (by simp) rfl rfl ?_ (by decide)
        refine WL_nil ⟨by simp, ?_⟩
        first | with_reducible refine then_next ?_ | refine then_next ?_
        first | with_reducible refine WS_cons ?_ | refine WS_cons ?_
        walk_at "as"
        first | with_reducible refine WE_sub ?_ | refine WE_sub ?_
        refine WE_name rfl ?_
        first | with_reducible refine WE_int ?_ | refine WE_int ?_
        refine W2_tuple_item (j := 1) (by simp) rfl rfl ?_ (by decide)
        first | with_reducible refine then_next ?_ | refine then_next ?_
        first | with_reducible refine WS_cons ?_ | refine WS_cons ?_
        walk_at "as"
        refine WE_name rfl ?_
        first | with_reducible refine then_next ?_ | refine then_next ?_
        first | with_reducible refine WS_nil ?_ | refine WS_nil ?_
        first | with_reducible refine then_next ?_ | refine then_next ?_
        first | with_reducible refine WS_nil ?_ | refine WS_nil ?_
        refine turn_next (zi _ ⟨vr "octets" (.bytes l.toArray) (ow "pieces" (.list ((ps ++ [Pc.gap ((l.drop b).take (n - b)), Pc.word p.1]).map pcD)) (vr "begun" (.int (p.2 : Int)) (vr "at" (.int (p.2 : Int)) []))), ext_vr rfl (ext_ow ?_ (ext_vr rfl (ext_vr rfl Ext.nil))), l.length - p.2, by walk_at "o", p.2, p.2, f, ps ++ [Pc.gap ((l.drop b).take (n - b)), Pc.word p.1], rfl, rfl, by walk_at "o", by walk_at "o", by simp; walk_at "o", by walk_at "o", ?_⟩)
        · rw [List.map_append]
          show Sg.get _ _ = some (Bd.own (.list (ps.map pcD ++ [pcD (.gap ((l.drop b).take (n - b))), pcD (.word p.1)])))
          rw [show ps.map pcD ++ [pcD (.gap ((l.drop b).take (n - b))), pcD (.word p.1)] = (ps.map pcD ++ [pcD (.gap ((l.drop b).take (n - b)))]) ++ [pcD (.word p.1)] by simp]
          rfl
        · rw [← he]; simp
  · rw [if_neg (by walk_at "o")] at he
    first | with_reducible refine then_next ?_ | refine then_next ?_
    refine WS_freeze (x := "pieces") rfl ?_
    first | with_reducible refine WS_cons ?_ | refine WS_cons ?_
    first | with_reducible refine WX_return ?_ | refine WX_return ?_
    first | with_reducible refine WE_bin ?_ | refine WE_bin ?_
    refine WE_name rfl ?_
    first | with_reducible refine WE_list ?_ | refine WE_list ?_
    first | with_reducible refine WL_cons ?_ | refine WL_cons ?_
    first | with_reducible refine WE_tuple ?_ | refine WE_tuple ?_
    first | with_reducible refine WL_cons ?_ | refine WL_cons ?_
    first | with_reducible refine WE_bool ?_ | refine WE_bool ?_
    first | with_reducible refine WL_cons ?_ | refine WL_cons ?_
    first | with_reducible refine WE_slice ?_ | refine WE_slice ?_
    refine WE_name rfl ?_
    refine wp_some ?_
    refine WE_name rfl ?_
    refine ex_int ?_
    refine wp_none ?_
    refine slice_b (by walk_at "o") ?_
    rw [pick_n]
    refine WL_nil ⟨by simp, ?_⟩
    refine WL_nil ⟨by simp, ?_⟩
    refine W2_addl (by simp; walk_at "o") ?_
    show Dat.list _ = Dat.list _
    rw [← he, List.map_append]; rfl
end
section
open PySem PySem.W PyProof.Rows PySem.Calls PySem.SeqAt PySem.MeetsSeq
set_option maxRecDepth 100000
noncomputable def outT (n i : Nat) : Pc → List (List Nat)
  | .word t => [t]
  | .gap b => if 0 < i ∧ i + 1 < n ∧ b.all wht = true then [] else [guessed b]
noncomputable def dwL (n : Nat) : Nat → List Pc → List (List Nat)
  | _, [] => []
  | i, p :: r => outT n i p ++ dwL n (i + 1) r
theorem outT_gap (n i : Nat) (b : List UInt8) : outT n i (.gap b) = if 0 < i ∧ i + 1 < n ∧ b.all wht = true then [] else [guessed b] := rfl
theorem dwL_cons (n i : Nat) (p : Pc) (r : List Pc) : dwL n i (p :: r) = outT n i p ++ dwL n (i + 1) r := rfl
noncomputable def dwText (ps : List Pc) : List Nat := (dwL ps.length 0 ps).flatten
theorem txt_len (cs : Str) (l : List UInt8) : ∀ (m n : Nat), l.length - n ≤ m → (txt cs l n).length ≤ l.length - n := by
  intro m
  induction m with
  | zero => intro n hn; rw [txt, if_neg (by walk_at "o")]; simp
  | succ m ih =>
    intro n hn
    rw [txt]
    split
    · have := ih (n + max 1 (signAt cs l n).2.toNat) (by walk_at "o")
      rw [List.length_cons]; walk_at "o"
    · simp
theorem sTxt_len (l : List UInt8) : ∀ (m n : Nat), l.length - n ≤ m → ∀ ts, sTxt l n = some ts → ts.length ≤ l.length - n := by
  intro m
  induction m with
  | zero => intro n hn ts h; rw [sTxt, if_neg (by walk_at "o")] at h; cases h; simp
  | succ m ih =>
    intro n hn ts h
    rw [sTxt] at h
    split at h
    · split at h
      · cases h
      · obtain ⟨t, ht, rfl⟩ := Option.map_eq_some_iff.mp h
        have := ih (n + max 1 (u8sign l n).2.toNat) (by walk_at "o") t ht
        rw [List.length_cons]; walk_at "o"
    · cases h; simp
set_option tactic.hygienic true in
theorem guessed_len (l : List UInt8) : (guessed l).length ≤ l.length := by
  unfold guessed
  split
  · rename_i ts h
    have := sTxt_len l l.length 0 (by walk_at "o") ts h
    walk_at "o"
  · have := txt_len "iso-8859-1" l l.length 0 (by walk_at "o")
    walk_at "o"
noncomputable def PcOK (n : Nat) : Pc → Prop
  | .gap b => b.length ≤ n
  | .word t => t.length ≤ 4 * n
theorem wat_len {l : List UInt8} {n : Nat} {p : List Nat × Nat} (h : wat l n = some p) : p.1.length ≤ 4 * l.length := by
  unfold wat at h
  split at h
  · unfold wordAt at h
    cases hw : wordParts l n with
    | none => rw [hw] at h; cases h
    | some q =>
      rw [hw] at h
      dsimp only at h
      split at h
      · unfold wordOf at h
        dsimp only at h
        split at h
        · cases h
        · cases h
          have h1 := wp_facts hw
          have h2 := rowOf_len q
          have h3 := txt_len (csName (strB ((q.cs.takeWhile (· != 42)).map lowB))) (rowOf q) (rowOf q).length 0 (by walk_at "o")
          dsimp only
          walk_at "o"
      · cases h
  · cases h
theorem pcs_ok (l : List UInt8) : ∀ (f b a : Nat), (∀ p ∈ pcs l f b a, PcOK l.length p) ∧ (pcs l f b a).length ≤ 2 * (l.length - a) + 1 := by
  intro f
  induction f with
  | zero =>
    intro b a
    refine ⟨fun p hp => ?_, by simp [pcs]⟩
    rw [List.mem_singleton.mp hp]
    show (l.drop b).length ≤ _
    simp
  | succ f ih =>
    intro b a
    unfold pcs
    split
    · cases hw : wat l a with
      | none =>
        dsimp only
        have := ih b (a + 1)
        exact ⟨this.1, by walk_at "o"⟩
      | some p =>
        dsimp only
        have h1 := ih p.2 p.2
        have h2 := wat_le hw
        have h3 := wat_len hw
        refine ⟨fun q hq => ?_, by simp only [List.length_cons]; walk_at "o"⟩
        rcases List.mem_cons.mp hq with rfl | hq
        · show ((l.drop b).take (a - b)).length ≤ _
          simp; walk_at "o"
        · rcases List.mem_cons.mp hq with rfl | hq
          · exact h3
          · exact h1.1 q hq
    · refine ⟨fun p hp => ?_, by simp⟩
      rw [List.mem_singleton.mp hp]
      show (l.drop b).length ≤ _
      simp
theorem join_texts (ts : List (List Nat)) : Txt.join "" (ts.map fun t => (⟨t.toArray⟩ : Str)) = ⟨ts.flatten.toArray⟩ := by
  show Builtin.Str.glued "" _ = _
  have e : ∀ (ts : List (List Nat)) (acc : Array Nat), (ts.map fun t => (⟨t.toArray⟩ : Str)).foldl (fun acc p => acc ++ (Str.ofString "").cps ++ p.cps) acc = acc ++ ts.flatten.toArray := by
    intro ts
    induction ts with
    | nil => intro acc; simp
    | cons t ts ih =>
      intro acc
      rw [List.map_cons, List.foldl_cons, ih]
      apply Array.toList_inj.mp
      have : (Str.ofString "").cps = #[] := by rfl
      simp [this]
  cases ts with
  | nil => rfl
  | cons t ts =>
    unfold Builtin.Str.glued
    show (⟨List.foldl (fun acc p => acc ++ (Str.ofString "").cps ++ p.cps) t.toArray (ts.map fun t => (⟨t.toArray⟩ : Str))⟩ : Str) = _
    rw [e]
    congr 1
    apply Array.toList_inj.mp
    simp
theorem joinOk_texts (ts : List (List Nat)) (B : Nat) (h : ∀ t ∈ ts, t.length ≤ B) (hb : ts.length * B ≤ 1000000) : JoinOk "" (ts.map fun t => (⟨t.toArray⟩ : Str)) = true := by
  unfold JoinOk
  have h1 : (Str.ofString "").length = 0 := by rfl
  have e : ∀ (ts : List (List Nat)) (n : Nat), (∀ t ∈ ts, t.length ≤ B) → (ts.map fun t => (⟨t.toArray⟩ : Str)).foldl (fun n p => n + p.length + (Str.ofString "").length) n ≤ n + ts.length * B := by
    intro ts
    induction ts with
    | nil => intro n _; simp
    | cons t ts ih =>
      intro n h
      rw [List.map_cons, List.foldl_cons]
      have h2 := ih (n + (⟨t.toArray⟩ : Str).length + (Str.ofString "").length) fun x hx => h x (.tail _ hx)
      have h3 := h t (.head _)
      have h4 : (⟨t.toArray⟩ : Str).length = t.length := by simp [Str.length]
      rw [h4, h1] at h2 ⊢
      rw [List.length_cons, Nat.succ_mul]
      walk_at "o"
  rw [List.foldl_toArray', tooLong_no]
  · rfl
  · have := e ts 0 h
    walk_at "o"
  · rfl
theorem outT_len (n i m : Nat) (p : Pc) (h : PcOK m p) : (outT n i p).length ≤ 1 ∧ ∀ t ∈ outT n i p, t.length ≤ 4 * m := by
  cases p with
  | word t => exact ⟨Nat.le_refl _, fun x hx => by rw [List.mem_singleton.mp hx]; exact h⟩
  | gap b =>
    show (if 0 < i ∧ i + 1 < n ∧ b.all wht = true then [] else [guessed b] : List (List Nat)).length ≤ 1 ∧ ∀ t ∈ (if 0 < i ∧ i + 1 < n ∧ b.all wht = true then [] else [guessed b] : List (List Nat)), t.length ≤ 4 * m
    by_cases q : 0 < i ∧ i + 1 < n ∧ b.all wht = true
    · rw [if_pos q]
      exact ⟨Nat.zero_le _, fun x hx => (nomatch hx)⟩
    · rw [if_neg q]
      refine ⟨Nat.le_refl _, fun x hx => ?_⟩
      rw [List.mem_singleton.mp hx]
      have h1 : b.length ≤ m := h
      have := guessed_len b
      walk_at "o"
theorem dwL_len (n m : Nat) : ∀ (ps : List Pc) (i : Nat), (∀ p ∈ ps, PcOK m p) → (dwL n i ps).length ≤ ps.length ∧ ∀ t ∈ dwL n i ps, t.length ≤ 4 * m
  | [], _, _ => ⟨Nat.le_refl _, fun x hx => (nomatch hx)⟩
  | p :: r, i, h => by
    have h1 := outT_len n i m p (h p (.head _))
    have h2 := dwL_len n m r (i + 1) fun x hx => h x (.tail _ hx)
    unfold dwL
    refine ⟨by rw [List.length_append, List.length_cons]; walk_at "o", fun t ht => ?_⟩
    rcases List.mem_append.mp ht with ht | ht
    · exact h1.2 t ht
    · exact h2.2 t ht
theorem sp_decoded_words (G : Gp) (ok : GOK G) {KK : Frag} {C P fI : Addr} (gx : GX G KK C P fI) (l : List UInt8) (hl : l.length ≤ 200) : SpF G 26 8 true [.bytes l.toArray] (· = .str ⟨(dwText (piecesOf l)).toArray⟩) := by
  refine enterF (defAt 48) (dAt ok 26 48 rfl) (plain1 48 rfl (by intros; rfl) (by rfl) (by rfl) (by rfl) (by rfl) rfl rfl rfl) fun A L a code fr g fs => ?_
  first | with_reducible refine WS_cons ?_ | refine WS_cons ?_
  walk_at "as"
  refine WE_def 24 (defAt 46) (dAt ok 24 46 rfl) rfl rfl ?_
  first | with_reducible refine WL_cons ?_ | refine WL_cons ?_
  refine WE_name rfl ?_
  first | with_reducible refine WL_nil ?_ | refine WL_nil ?_
  refine May.mk' (sp_pieces_of G ok l hl) ?_ (show 6 ≤ 7 by decide) id
  have hok := pcs_ok l (l.length + 1) 0 0
  change (∀ p ∈ piecesOf l, PcOK l.length p) ∧ (piecesOf l).length ≤ _ at hok
  generalize piecesOf l = ps at hok
  obtain ⟨hp, hpl⟩ := hok
  first | with_reducible refine then_next ?_ | refine then_next ?_
  refine WS_cons (WX_own ?_ rfl rfl rfl)
  refine WL_nil ⟨by simp, ?_⟩
  first | with_reducible refine then_next ?_ | refine then_next ?_
  first | with_reducible refine WS_cons ?_ | refine WS_cons ?_
  refine WX_forX (WI_range1 rfl (GOK.bRange ok) (by kernel_rfl) rfl ?_)
  walk_at "bi"
  first | with_reducible refine WL_cons ?_ | refine WL_cons ?_
  refine WE_name rfl ?_
  first | with_reducible refine WL_nil ?_ | refine WL_nil ?_
  refine V_lenl (by simp; walk_at "o") ?_
  rw [List.length_map]
  refine ⟨ps.length, ps.length, rfl, range1 _ (by walk_at "o"), ?_⟩
  refine ⟨fun i σ' => ∃ ts : List (List Nat), ts ++ dwL ps.length i (ps.drop i) = dwL ps.length 0 ps ∧ ts.length ≤ i ∧ σ' = vr "pieces" (.list (ps.map pcD)) (ow "found" (.list (ts.map fun t => .str ⟨t.toArray⟩)) []), _, ext_vr rfl (ext_ow rfl Ext.nil), ⟨[], rfl, Nat.le_refl _, rfl⟩, ?_, ?_⟩
  · rintro i d σ' hd ⟨ts, ht, htl, rfl⟩
    refine tgHide fun zJ zQ zi zk => ?_
    have hi := steps_bound hd
    have hdv := steps_val hd
    subst hdv
    rw [show (0 : Int) + i * 1 = (i : Int) by walk_at "o"]
    rw [List.drop_eq_getElem_cons hi] at ht
    have hpi : ps[i]? = some ps[i] := List.getElem?_eq_getElem hi
    have hpo := hp ps[i] (List.getElem_mem hi)
    generalize ps[i] = pc at hpi ht hpo
    rw [dwL_cons] at ht
    refine WG_name ?_ rfl (.inl rfl)
    first | with_reducible refine WS_cons ?_ | refine WS_cons ?_
    first | with_reducible refine WX_unpack ?_ | refine WX_unpack ?_
    first | with_reducible refine WE_sub ?_ | refine WE_sub ?_
    refine WE_name rfl ?_
    refine WE_name rfl ?_
    refine W2_list_item (j := i) (r := pcD pc) (by simp; walk_at "o") (by rw [List.length_map]; exact StrLaws.seqIndex_nonneg (by walk_at "o") (by walk_at "o")) (get_map pcD ps i pc hpi) ?_
    cases pc with
    | word t =>
      refine WG_tuple (WGL_cons (WG_name (WGL_cons (WG_name (WGL_nil ?_) rfl (.inl rfl))) rfl (.inl rfl)))
      first | with_reducible refine then_next ?_ | refine then_next ?_
      first | with_reducible refine WS_cons ?_ | refine WS_cons ?_
      first | with_reducible refine WX_if (WT_val ?_) | refine WX_if (WT_val ?_)
      refine WE_name rfl ?_
      first | with_reducible refine WB_bool ?_ | refine WB_bool ?_
      first | with_reducible refine yes ?_ | refine yes ?_
      first | with_reducible refine WS_cons ?_ | refine WS_cons ?_
      refine WX_append rfl ?_ (by simp; walk_at "o")
      refine WE_name rfl ?_
      first | with_reducible refine then_next ?_ | refine then_next ?_
      first | with_reducible refine WS_nil ?_ | refine WS_nil ?_
      first | with_reducible refine then_next ?_ | refine then_next ?_
      first | with_reducible refine WS_nil ?_ | refine WS_nil ?_
      refine turn_next (zi _ ⟨vr "pieces" (.list (ps.map pcD)) (ow "found" (.list ((ts ++ [t]).map fun t => .str ⟨t.toArray⟩)) []), ext_vr rfl (ext_ow ?_ Ext.nil), ts ++ [t], ?_, by simp; walk_at "o", rfl⟩)
      · rw [List.map_append]; rfl
      · rw [← ht]; simp [outT]
    | gap b =>
      have hbl : b.length ≤ l.length := hpo
      have keep : outT ps.length i (.gap b) = [guessed b] → WS (fSt G (defAt 48) A L a code true 7 fr g) (Sg.set (Sg.set (Sg.set (vr "pieces" (.list (ps.map pcD)) (ow "found" (.list (ts.map fun t => .str ⟨t.toArray⟩)) [])) "spot" (.val (.int (i : Int)))) "is_word" (.val (.bool false))) "worth" (.val (.bytes b.toArray)))
          (bS true ((bS false ((bS true ((defAt 48).body.getD 2 (.Pass ⟨0, 0, 0, 0⟩))).getD 1 (.Pass ⟨0, 0, 0, 0⟩))).getD 0 (.Pass ⟨0, 0, 0, 0⟩)))
          (Then (fSt G (defAt 48) A L a code true 7 fr g) [] (Then (fSt G (defAt 48) A L a code true 7 fr g) [] (Turn zJ zQ))) := by
        intro ho
        first | with_reducible refine WS_cons ?_ | refine WS_cons ?_
        refine WX_append rfl ?_ (by simp; walk_at "o")
        refine WE_defF fs 13 (defAt 26) (dAt ok 13 26 rfl) rfl rfl ?_
        first | with_reducible refine WL_cons ?_ | refine WL_cons ?_
        refine WE_name rfl ?_
        first | with_reducible refine WL_nil ?_ | refine WL_nil ?_
        refine MayF.mk' (sp_guessed G ok gx b (by walk_at "o")) ?_ (show 6 ≤ 7 by decide) id
        first | with_reducible refine then_next ?_ | refine then_next ?_
        first | with_reducible refine WS_nil ?_ | refine WS_nil ?_
        first | with_reducible refine then_next ?_ | refine then_next ?_
        first | with_reducible refine WS_nil ?_ | refine WS_nil ?_
        first | with_reducible refine then_next ?_ | refine then_next ?_
        first | with_reducible refine WS_nil ?_ | refine WS_nil ?_
        refine turn_next (zi _ ⟨vr "pieces" (.list (ps.map pcD)) (ow "found" (.list ((ts ++ [guessed b]).map fun t => .str ⟨t.toArray⟩)) []), ext_vr rfl (ext_ow ?_ Ext.nil), ts ++ [guessed b], ?_, by simp; walk_at "o", rfl⟩)
        · rw [List.map_append]; rfl
        · rw [← ht, ho]; simp
      refine WG_tuple (WGL_cons (WG_name (WGL_cons (WG_name (WGL_nil ?_) rfl (.inl rfl))) rfl (.inl rfl)))
      first | with_reducible refine then_next ?_ | refine then_next ?_
      first | with_reducible refine WS_cons ?_ | refine WS_cons ?_
      first | with_reducible refine WX_if (WT_val ?_) | refine WX_if (WT_val ?_)
      refine WE_name rfl ?_
      first | with_reducible refine WB_bool ?_ | refine WB_bool ?_
      first | with_reducible refine no ?_ | refine no ?_
      first | with_reducible refine WS_cons ?_ | refine WS_cons ?_
      first | with_reducible refine WX_if (WT_not ?_) | refine WX_if (WT_not ?_)
      first | with_reducible refine WT_bool (WA_and ?_) | refine WT_bool (WA_and ?_)
      first | with_reducible refine WT_chain ?_ | refine WT_chain ?_
      first | with_reducible refine WE_int ?_ | refine WE_int ?_
      refine WE_name rfl ?_
      first | with_reducible refine W2_lt ?_ | refine W2_lt ?_
      first | with_reducible refine WB_bool ?_ | refine WB_bool ?_
      refine dec' (fun h1 => ?_) (fun h1 => ?_)
      · first | with_reducible refine WE_bin ?_ | refine WE_bin ?_
        walk_at "bi"
        first | with_reducible refine WL_cons ?_ | refine WL_cons ?_
        refine WE_name rfl ?_
        first | with_reducible refine WL_nil ?_ | refine WL_nil ?_
        refine V_lenl (by simp; walk_at "o") ?_
        rw [List.length_map]
        first | with_reducible refine WE_int ?_ | refine WE_int ?_
        first | with_reducible refine W2_sub' ?_ | refine W2_sub' ?_
        first | with_reducible refine W2_lt ?_ | refine W2_lt ?_
        first | with_reducible refine WB_bool ?_ | refine WB_bool ?_
        refine dec' (fun h2 => ?_) (fun h2 => ?_)
        · refine WA_and (WT_val ?_)
          refine WE_def 25 (defAt 47) (dAt ok 25 47 rfl) rfl rfl ?_
          first | with_reducible refine WL_cons ?_ | refine WL_cons ?_
          refine WE_name rfl ?_
          first | with_reducible refine WL_nil ?_ | refine WL_nil ?_
          refine May.mk' (sp_all_white G ok b (by walk_at "o")) ?_ (show 1 ≤ 7 by decide) id
          first | with_reducible refine WB_bool ?_ | refine WB_bool ?_
          cases hw : b.all wht with
          | true =>
            first | with_reducible refine yes' ?_ | refine yes' ?_
            refine WA_and_nil ?_
            first | with_reducible refine no ?_ | refine no ?_
            first | with_reducible refine WS_nil ?_ | refine WS_nil ?_
            first | with_reducible refine then_next ?_ | refine then_next ?_
            first | with_reducible refine WS_nil ?_ | refine WS_nil ?_
            first | with_reducible refine then_next ?_ | refine then_next ?_
            first | with_reducible refine WS_nil ?_ | refine WS_nil ?_
            refine turn_next (zi _ ⟨_, Ext.cons rfl (Ext.cons rfl Ext.nil), ts, ?_, by walk_at "o", rfl⟩)
            rw [← ht, outT_gap, if_pos ⟨by walk_at "o", by walk_at "o", hw⟩]; rfl
          | false =>
            first | with_reducible refine no' ?_ | refine no' ?_
            first | with_reducible refine yes ?_ | refine yes ?_
            exact keep (by rw [outT_gap, if_neg (fun q => by rw [hw] at q; exact absurd q.2.2 Bool.false_ne_true)])
        · first | with_reducible refine yes ?_ | refine yes ?_
          exact keep (by rw [outT_gap, if_neg (by walk_at "o")])
      · first | with_reducible refine no' ?_ | refine no' ?_
        first | with_reducible refine yes ?_ | refine yes ?_
        exact keep (by rw [outT_gap, if_neg (by walk_at "o")])
  · rintro σ' ⟨ts, ht, htl, rfl⟩
    rw [steps_length, List.drop_length] at ht
    have ht' : ts = dwL ps.length 0 ps := by rw [← ht]; simp [dwL]
    have hb := dwL_len ps.length l.length ps 0 hp
    first | with_reducible refine then_next ?_ | refine then_next ?_
    refine WS_freeze (x := "found") rfl ?_
    first | with_reducible refine WS_cons ?_ | refine WS_cons ?_
    first | with_reducible refine WX_return ?_ | refine WX_return ?_
    with_reducible refine WE_strjoin ?j1 ?j2 ?j3
    case j2 => exact rfl
    case j3 => intro _; rfl
    case j1 =>
    refine WE_name rfl ?_
    have e : (ts.map fun t => Dat.str ⟨t.toArray⟩) = (ts.map fun t => (⟨t.toArray⟩ : Str)).map Dat.str := by simp
    rw [e]
    rw [← ht'] at hb
    first | with_reducible refine V_join (joinOk_texts ts (4 * l.length) hb.2 ?_) ?_ | refine V_join (joinOk_texts ts (4 * l.length) hb.2 ?_) ?_
    · have h1 : ts.length ≤ 401 := by walk_at "o"
      calc ts.length * (4 * l.length) ≤ 401 * 800 := Nat.mul_le_mul h1 (by walk_at "o")
        _ ≤ 1000000 := by decide
    · rw [join_texts]
      show Dat.str _ = Dat.str _
      unfold dwText
      rw [ht']
end
section
open PySem PySem.W PyProof.Rows PySem.Calls Builtin Builtin.Str PySem.StrLaws
set_option maxRecDepth 100000
noncomputable def figsS : Str := "0123456789abcdef"
theorem fig_tab : ∀ n, n < 128 → Txt.find figsS ⟨#[n]⟩ = if 48 ≤ n ∧ n ≤ 57 then (n : Int) - 48 else if 97 ≤ n ∧ n ≤ 102 then (n : Int) - 87 else -1 := by decide +kernel
theorem fig_low : ∀ c : UInt8, c.toNat < 128 → Txt.find figsS ⟨#[(lowB c).toNat]⟩ = hexW c.toNat := by
  intro c hc
  rw [fig_tab _ (by have := lowB_nat c; split at this <;> walk_at "o"), ← lowB_nat c]
  unfold hexW
  (repeat' split) <;> walk_at "o"
noncomputable def figRow (r : List UInt8) : List UInt8 := match r with
  | a :: b :: t => if 0 ≤ hexW a.toNat ∧ 0 ≤ hexW b.toNat then byteOf (16 * hexW a.toNat + hexW b.toNat) :: t else 61 :: r
  | _ => 61 :: r
noncomputable def uq : List UInt8 → List UInt8
  | [] => []
  | [c] => [c]
  | [c, d] => [c, d]
  | c :: a :: b :: t => if c = 61 ∧ 0 ≤ hexW a.toNat ∧ 0 ≤ hexW b.toNat then byteOf (16 * hexW a.toNat + hexW b.toNat) :: uq t else c :: uq (a :: b :: t)
theorem splA_acc (c : UInt8) : ∀ (l acc : List UInt8), ∃ h t, spl c l = h :: t ∧ splA c acc l = (acc ++ h) :: t
  | [], acc => ⟨[], [], rfl, by simp [splA]⟩
  | x :: r, acc => by
    by_cases hx : x = c
    · refine ⟨[], splA c [] r, ?_, ?_⟩
      · show splA c [] (x :: r) = _
        rw [splA.eq_2, if_pos hx]
      · rw [splA.eq_2, if_pos hx, List.append_nil]
    · obtain ⟨h, t, e1, e2⟩ := splA_acc c r ([] ++ [x])
      obtain ⟨h', t', e1', e2'⟩ := splA_acc c r (acc ++ [x])
      rw [e1] at e1'
      cases e1'
      refine ⟨x :: h, t, ?_, ?_⟩
      · unfold spl splA; rw [if_neg hx, e2]; rfl
      · rw [splA, if_neg hx, e2']; simp
theorem spl_hit (c : UInt8) (r : List UInt8) : spl c (c :: r) = [] :: spl c r := by unfold spl; rw [splA, if_pos rfl]
theorem spl_miss {c x : UInt8} (hx : x ≠ c) {r h : List UInt8} {t : List (List UInt8)} (e : spl c r = h :: t) : spl c (x :: r) = (x :: h) :: t := by
  obtain ⟨h', t', e1, e2⟩ := splA_acc c r ([] ++ [x])
  rw [e] at e1
  cases e1
  unfold spl
  rw [splA, if_neg hx, e2]; rfl
theorem spl_ne (c : UInt8) (l : List UInt8) : ∃ h t, spl c l = h :: t := by obtain ⟨h, t, e, _⟩ := splA_acc c l []; exact ⟨h, t, e⟩
theorem spl_pre (c : UInt8) : ∀ (l h : List UInt8) (t : List (List UInt8)), spl c l = h :: t → ∃ r, l = h ++ r
  | [], h, t, e => by cases e; exact ⟨[], rfl⟩
  | x :: r, h, t, e => by
    by_cases hx : x = c
    · rw [hx, spl_hit] at e
      cases e
      exact ⟨_, rfl⟩
    · obtain ⟨h', t', e'⟩ := spl_ne c r
      rw [spl_miss hx e'] at e
      cases e
      obtain ⟨s, hs⟩ := spl_pre c r h' _ e'
      exact ⟨s, by rw [hs]; rfl⟩
theorem uq_miss {c : UInt8} (hc : c ≠ 61) : ∀ r, uq (c :: r) = c :: uq r
  | [] => rfl
  | [_] => rfl
  | a :: b :: t => by rw [uq, if_neg (fun q => hc q.1)]
theorem hex61 : hexW (61 : UInt8).toNat = -1 := by decide
theorem uq_rows : ∀ (n : Nat) (l : List UInt8), l.length ≤ n → ∀ h t, spl 61 l = h :: t → uq l = h ++ (t.map figRow).flatten := by
  intro n
  induction n with
  | zero =>
    intro l hl h t e
    rw [List.length_eq_zero_iff.mp (Nat.le_zero.mp hl)] at e ⊢
    cases e; rfl
  | succ n ih =>
    intro l hl h t e
    cases l with
    | nil => cases e; rfl
    | cons c r =>
      have hlr : r.length ≤ n := by simpa using hl
      by_cases hc : c = 61
      · subst hc
        rw [spl_hit] at e
        cases e
        obtain ⟨h, t, e⟩ := spl_ne 61 r
        rw [e, List.map_cons, List.flatten_cons, List.nil_append]
        obtain ⟨s, hs⟩ := spl_pre 61 r h t e
        have other : figRow h = 61 :: h → uq (61 :: r) = 61 :: uq r → uq (61 :: r) = figRow h ++ (t.map figRow).flatten := by
          intro e1 e2
          rw [e2, e1, ih r hlr h t e]; rfl
        rcases r with _ | ⟨a, _ | ⟨b, t'⟩⟩
        · exact other (by cases e; rfl) rfl
        · refine other ?_ rfl
          by_cases ha : a = 61
          · rw [ha, spl_hit] at e; cases e; rfl
          · rw [spl_miss ha (r := []) rfl] at e; cases e; rfl
        · by_cases hh : 0 ≤ hexW a.toNat ∧ 0 ≤ hexW b.toNat
          · have ha : a ≠ 61 := fun q => by rw [q, hex61] at hh; walk_at "o"
            have hb : b ≠ 61 := fun q => by rw [q, hex61] at hh; walk_at "o"
            obtain ⟨h', t'', e'⟩ := spl_ne 61 t'
            rw [spl_miss ha (spl_miss hb e')] at e
            cases e
            rw [uq, if_pos ⟨rfl, hh⟩, ih t' (by simp at hlr; walk_at "o") h' _ e']
            show _ = figRow (a :: b :: h') ++ _
            rw [figRow, if_pos hh]; rfl
          · refine other ?_ ?_
            · rcases h with _ | ⟨a', _ | ⟨b', h'⟩⟩
              · rfl
              · rfl
              · cases hs
                show (if _ then _ else _) = _
                rw [if_neg hh]
            · rw [uq, if_neg (fun q => hh q.2)]
      · obtain ⟨h', t', e'⟩ := spl_ne 61 r
        rw [spl_miss hc e'] at e
        cases e
        rw [uq_miss hc, ih r hlr h' _ e']; rfl
theorem unq_uq (l : List UInt8) : ∀ (m n : Nat), l.length - n ≤ m → (unq l n).map byteOf = uq (l.drop n) := by
  have b8 : ∀ c : UInt8, byteOf (c.toNat : Int) = c := fun c => by simp [byteOf]
  intro m
  induction m with
  | zero =>
    intro n hn
    rw [unq, if_neg (by walk_at "o"), List.drop_eq_nil_of_le (by walk_at "o")]; rfl
  | succ m ih =>
    intro n hn
    by_cases hlt : n < l.length
    case neg => rw [unq, if_neg hlt, List.drop_eq_nil_of_le (by walk_at "o")]; rfl
    have at_ : ∀ i, (h : i < l.length) → l.getD i 0 = l[i] := fun i h => by rw [List.getD_eq_getElem?_getD, List.getElem?_eq_getElem h]; rfl
    rw [unq, if_pos hlt, List.drop_eq_getElem_cons hlt]
    have i1 := ih (n + 1) (by walk_at "o")
    have one : unqC l n < 0 → uq (l[n] :: l.drop (n + 1)) = l[n] :: uq (l.drop (n + 1)) → ((if 0 ≤ unqC l n then unqC l n :: unq l (n + 3) else ((l.getD n 0).toNat : Int) :: unq l (n + 1)).map byteOf) = uq (l[n] :: l.drop (n + 1)) := by
      intro h1 h2
      rw [if_neg (by walk_at "o"), List.map_cons, i1, h2, at_ n hlt, b8]
    by_cases hc : l[n] = 61
    case neg =>
      refine one ?_ (uq_miss hc _)
      unfold unqC
      have q' : ¬ (l[n].toNat : Int) = 61 := fun q => hc ((u8_eq (n := 61) (by decide)).mp q)
      rw [at_ n hlt, if_neg q']
      decide
    have hq : unqC l n = qAt l n := by
      unfold unqC
      rw [at_ n hlt, hc, if_pos (by rfl)]
    by_cases h1 : n + 1 < l.length
    case neg =>
      refine one ?_ (by rw [List.drop_eq_nil_of_le (by walk_at "o")]; rfl)
      rw [hq, qAt, if_pos (by walk_at "o")]; decide
    by_cases h2 : n + 2 < l.length
    case neg =>
      refine one ?_ (by rw [List.drop_eq_getElem_cons h1, List.drop_eq_nil_of_le (by walk_at "o")]; rfl)
      rw [hq, qAt, if_pos (by walk_at "o")]; decide
    have hd : l.drop (n + 1) = l[n + 1] :: l[n + 2] :: l.drop (n + 3) := by rw [List.drop_eq_getElem_cons h1, List.drop_eq_getElem_cons h2]
    by_cases hh : 0 ≤ hexW l[n + 1].toNat ∧ 0 ≤ hexW l[n + 2].toNat
    · have hv : qAt l n = 16 * hexW l[n + 1].toNat + hexW l[n + 2].toNat := by
        rw [qAt, if_neg (by walk_at "o"), at_ _ h1, at_ _ h2, if_pos hh]
      rw [hq, hv, if_pos (by walk_at "o"), List.map_cons, ih (n + 3) (by walk_at "o"), hd, hc, uq, if_pos ⟨rfl, hh⟩]
    · refine one ?_ ?_
      · rw [hq, qAt, if_neg (by walk_at "o"), at_ _ h1, at_ _ h2, if_neg hh]; decide
      · rw [hd, uq, if_neg (fun q => hh q.2)]
noncomputable def lawFig (l : List UInt8) : List UInt8 := (spl 61 (l.map under)).head?.getD [] ++ (((spl 61 (l.map under)).tail).map figRow).flatten
theorem lawFig_eq (l : List UInt8) : lawFig l = unqB (l.map under) := by
  obtain ⟨h, t, e⟩ := spl_ne 61 (l.map under)
  unfold lawFig unqB
  rw [unq_uq _ _ 0 (Nat.le_refl _), List.drop_zero, uq_rows _ _ (Nat.le_refl _) h t e, e]; rfl
end
section
open PySem PySem.W PyProof.Rows PySem.Calls Builtin Builtin.Str PySem.StrLaws
set_option maxRecDepth 100000
noncomputable def sixtyS : Str := "ABCDEFGHIJKLMNOPQRSTUVWXYZabcdefghijklmnopqrstuvwxyz0123456789+/"
noncomputable def sixC (n : Nat) : Option Int := if 65 ≤ n ∧ n ≤ 90 then some ((n : Int) - 65) else if 97 ≤ n ∧ n ≤ 122 then some ((n : Int) - 71) else if 48 ≤ n ∧ n ≤ 57 then some ((n : Int) + 4) else if n = 43 then some 62 else if n = 47 then some 63 else none
theorem find1 (x : Str) (n : Nat) : Txt.find x ⟨#[n]⟩ = match x.cps.toList.findIdx? (· == n) with | some i => (i : Int) | none => -1 := by
  have hat : ∀ i, At x ⟨#[n]⟩ x.length i ↔ x.cps.toList[i]? = some n := fun i => subAt_one x n i
  unfold Txt.find
  rcases occ_head x ⟨#[n]⟩ 1 (Nat.le_refl _) with ⟨h0, hn⟩ | ⟨i, r, h0, ha, hn⟩
  · rw [h0]
    have : x.cps.toList.findIdx? (· == n) = none := by
      rw [List.findIdx?_eq_none_iff]
      intro c hc
      obtain ⟨i, hi⟩ := List.mem_iff_getElem?.mp hc
      have := fun q => hn i ((hat i).mpr q)
      rw [hi] at this
      simpa using this
    rw [this]
  · rw [h0]
    have : x.cps.toList.findIdx? (· == n) = some i := by
      rw [List.findIdx?_eq_some_iff_getElem]
      obtain ⟨h1, h2⟩ := List.getElem?_eq_some_iff.mp ((hat i).mp ha)
      refine ⟨h1, by simpa using h2, fun j hj => ?_⟩
      have := fun q => hn j hj ((hat j).mpr q)
      rw [List.getElem?_eq_getElem (by walk_at "o")] at this
      simpa using this
    rw [this]
theorem six_tab : ∀ n, n < 256 → (match sixtyS.cps.toList.findIdx? (· == n) with | some i => (i : Int) | none => -1) = (sixC n).getD (-1) := by decide +kernel
theorem six_find (n : Nat) (h : n < 256) : Txt.find sixtyS ⟨#[n]⟩ = (sixC n).getD (-1) := by rw [find1, six_tab n h]
theorem w64_tab : ∀ n, n < 256 → w64 (UInt8.ofNat n) = sixC n := by decide +kernel
theorem six_w64 (c : UInt8) : Txt.find sixtyS ⟨#[c.toNat]⟩ = (w64 c).getD (-1) := by
  rw [six_find _ c.toNat_lt]
  have := w64_tab c.toNat c.toNat_lt
  rw [UInt8.ofNat_toNat] at this
  rw [this]
theorem fdiv2 (t : Int) (e : Nat) : t.fdiv (2 ^ e) = t / 2 ^ e := Int.fdiv_eq_ediv_of_nonneg _ (Int.le_of_lt (Int.pow_pos (by decide)))
theorem pow_pos2 (e : Nat) : (0 : Int) < 2 ^ e := Int.pow_pos (by decide)
theorem beB_app (G u : Int) (p q : Nat) (h0 : 0 ≤ u) (h1 : u < 2 ^ (8 * q)) : beB (G * 2 ^ (8 * q) + u) (p + q) = beB G p ++ beB u q := by
  unfold beB
  rw [List.range_add, List.map_append, List.map_map]
  congr 1
  · refine List.map_congr_left fun j hj => ?_
    have hj := List.mem_range.mp hj
    rw [fdiv2, fdiv2, show 8 * (p + q - 1 - j) = 8 * q + 8 * (p - 1 - j) by walk_at "o", Int.pow_add, ← Int.ediv_ediv_of_nonneg (Int.le_of_lt (pow_pos2 _))]
    have : (G * 2 ^ (8 * q) + u) / 2 ^ (8 * q) = G := by
      rw [Int.add_comm, Int.add_mul_ediv_right _ _ (Int.ne_of_gt (pow_pos2 _)), Int.ediv_eq_zero_of_lt h0 h1, Int.zero_add]
    rw [this]
  · refine List.map_congr_left fun j hj => ?_
    have hj := List.mem_range.mp hj
    show byteOf _ = byteOf _
    rw [fdiv2, fdiv2, bitAnd_m8, bitAnd_m8, show p + q - 1 - (p + j) = q - 1 - j by walk_at "o"]
    have e : (2 : Int) ^ (8 * q) = 2 ^ (8 * j) * 256 * 2 ^ (8 * (q - 1 - j)) := by
      rw [show (256 : Int) = 2 ^ 8 from rfl, ← Int.pow_add, ← Int.pow_add]
      congr 1; walk_at "o"
    rw [e, ← Int.mul_assoc, Int.add_comm, Int.add_mul_ediv_right _ _ (Int.ne_of_gt (pow_pos2 _)), ← Int.mul_assoc, Int.add_mul_emod_self_right]
theorem gTot_foldl (ws : List Int) : ∀ t : Int, ws.foldl (fun t w => 64 * t + w) t = t * 2 ^ (6 * ws.length) + gTot ws := by
  induction ws with
  | nil => intro t; simp [gTot]
  | cons w ws ih =>
    intro t
    unfold gTot
    rw [List.foldl_cons, List.foldl_cons, ih, ih (64 * 0 + w), List.length_cons, show 6 * (ws.length + 1) = 6 + 6 * ws.length by walk_at "o", Int.pow_add]
    generalize (2 : Int) ^ (6 * ws.length) = M
    rw [show (2 : Int) ^ 6 = 64 from rfl, Int.add_mul, ← Int.mul_assoc, Int.mul_comm 64 t]
    rw [show (64 * 0 + w) = w by walk_at "o"]
    walk_at "o"
theorem gTot_rng (ws : List Int) (h : ∀ w ∈ ws, 0 ≤ w ∧ w < 64) : 0 ≤ gTot ws ∧ gTot ws < 2 ^ (6 * ws.length) := by
  induction ws with
  | nil => exact ⟨by decide, by decide⟩
  | cons w ws ih =>
    obtain ⟨i0, i1⟩ := ih fun x hx => h x (.tail _ hx)
    obtain ⟨w0, w1⟩ := h w (.head _)
    have e : gTot (w :: ws) = w * 2 ^ (6 * ws.length) + gTot ws := by
      show ws.foldl _ (64 * 0 + w) = _
      rw [gTot_foldl, show (64 * 0 + w) = w by walk_at "o"]
    rw [e, List.length_cons, show 6 * (ws.length + 1) = 6 + 6 * ws.length by walk_at "o", Int.pow_add]
    have hp := pow_pos2 (6 * ws.length)
    generalize (2 : Int) ^ (6 * ws.length) = M at *
    rw [show (2 : Int) ^ 6 = 64 from rfl]
    refine ⟨Int.add_nonneg (Int.mul_nonneg w0 (Int.le_of_lt hp)) i0, ?_⟩
    have : w * M ≤ 63 * M := Int.mul_le_mul_of_nonneg_right (by walk_at "o") (Int.le_of_lt hp)
    walk_at "o"
noncomputable def sixAll (ws : List Int) : List UInt8 := beB ((gTot ws).fdiv (2 ^ (6 * ws.length - 8 * (6 * ws.length / 8)))) (6 * ws.length / 8)
theorem grps_drop (ws : List Int) : ∀ (m b : Nat), ws.length - b ≤ m → grps ws b = grps (ws.drop b) 0 := by
  have key : ∀ (m b k : Nat), ws.length - (b + k) ≤ m → grps ws (b + k) = grps (ws.drop b) k := by
    intro m
    induction m with
    | zero =>
      intro b k h
      rw [grps, if_neg (by walk_at "o"), grps, if_neg (by simp; walk_at "o")]
    | succ m ih =>
      intro b k h
      rw [grps, grps.eq_1 (ws.drop b) k]
      have hl : (ws.drop b).length = ws.length - b := by simp
      by_cases h1 : b + k < ws.length
      · rw [if_pos h1, if_pos (show k < (ws.drop b).length by walk_at "o"), List.drop_drop, hl, show ws.length - (b + k) = ws.length - b - k by walk_at "o", show b + k + 4 = b + (k + 4) by walk_at "o", ih b (k + 4) (by walk_at "o")]
      · rw [if_neg h1, if_neg (by walk_at "o")]
  intro m b h
  exact key m b 0 h
theorem sixAll_grps : ∀ (n : Nat) (ws : List Int), ws.length ≤ n → (∀ w ∈ ws, 0 ≤ w ∧ w < 64) → (grps ws 0).flatten = sixAll ws := by
  intro n
  induction n with
  | zero =>
    intro ws hl _
    rw [List.length_eq_zero_iff.mp (Nat.le_zero.mp hl)]
    rw [grps]; rfl
  | succ n ih =>
    intro ws hl h
    match ws, hl, h with
    | [], _, _ => rw [grps]; rfl
    | [a], _, _ =>
      rw [grps, if_pos (by simp), if_neg (by simp), grps, if_neg (by simp)]
      simp [sixAll, beB]
    | [a, b], _, _ =>
      rw [grps, if_pos (by simp), if_pos (by simp), grps, if_neg (by simp)]
      simp [gOct, sixAll]
    | [a, b, c], _, _ =>
      rw [grps, if_pos (by simp), if_pos (by simp), grps, if_neg (by simp)]
      simp [gOct, sixAll]
    | a :: b :: c :: d :: r, hl, h =>
      rw [grps, if_pos (by simp), if_pos (by simp), grps_drop _ (r.length) (0 + 4) (by simp)]
      have hr : ∀ w ∈ r, 0 ≤ w ∧ w < 64 := fun w hw => h w (.tail _ (.tail _ (.tail _ (.tail _ hw))))
      show (gOct [a, b, c, d] :: grps r 0).flatten = _
      rw [List.flatten_cons, ih r (by simp at hl; walk_at "o") hr]
      have e1 : gTot (a :: b :: c :: d :: r) = gTot [a, b, c, d] * 2 ^ (6 * r.length) + gTot r := by
        show r.foldl _ (gTot [a, b, c, d]) = _
        exact gTot_foldl r _
      obtain ⟨t0, t1⟩ := gTot_rng r hr
      have e2 : gOct [a, b, c, d] = beB (gTot [a, b, c, d]) 3 := by
        show beB ((gTot [a, b, c, d]).fdiv (2 ^ 0)) 3 = _
        rw [Int.pow_zero, Int.fdiv_one]
      rw [e2]
      unfold sixAll
      rw [e1, show (a :: b :: c :: d :: r).length = r.length + 4 by rfl]
      generalize gTot [a, b, c, d] = G
      generalize gTot r = t at *
      generalize r.length = k at *
      obtain ⟨mm, hm⟩ : ∃ mm, mm = 6 * k / 8 := ⟨_, rfl⟩
      rw [show 6 * (k + 4) / 8 = 3 + mm by walk_at "o", show 6 * (k + 4) - 8 * (3 + mm) = 6 * k - 8 * mm by walk_at "o", ← hm]
      obtain ⟨s, hs⟩ : ∃ s, s = 6 * k - 8 * mm := ⟨_, rfl⟩
      rw [← hs, fdiv2, fdiv2]
      have hk : 6 * k = 8 * mm + s := by walk_at "o"
      rw [hk, Int.pow_add] at t1 ⊢
      have e3 : (G * (2 ^ (8 * mm) * 2 ^ s) + t) / 2 ^ s = G * 2 ^ (8 * mm) + t / 2 ^ s := by
        rw [← Int.mul_assoc, Int.add_comm, Int.add_mul_ediv_right _ _ (Int.ne_of_gt (pow_pos2 _)), Int.add_comm]
      rw [e3, beB_app]
      · exact Int.ediv_nonneg t0 (Int.le_of_lt (pow_pos2 _))
      · exact Int.ediv_lt_of_lt_mul (pow_pos2 _) t1
noncomputable def lawSix (l : List UInt8) : List UInt8 := sixAll ((l.takeWhile (· != 61)).filterMap w64)
theorem wRow_filter : ∀ l : List UInt8, wRow l = (l.takeWhile (· != 61)).filterMap w64
  | [] => rfl
  | c :: r => by
    rw [wRow_cons]
    by_cases hc : c = 61
    · rw [if_pos hc, hc]; rfl
    · rw [if_neg hc, List.takeWhile_cons, if_pos (by simpa using hc), List.filterMap_cons, wRow_filter r]
      cases w64 c <;> rfl
theorem lawSix_eq (l : List UInt8) : lawSix l = decB l := by
  unfold lawSix decB
  rw [← wRow_filter, sixAll_grps _ _ (Nat.le_refl _) wRow_rng]
end
section
open PySem PySem.W PyProof.Rows PySem.Calls Builtin Builtin.Str PySem.StrLaws
set_option maxRecDepth 100000
theorem spl_head {c : UInt8} : ∀ {l h : List UInt8} {t : List (List UInt8)}, spl c l = h :: t → h = l.takeWhile (· != c)
  | [], _, _, e => by cases e; rfl
  | x :: r, h, t, e => by
    by_cases hx : x = c
    · rw [hx, spl_hit] at e
      cases e
      rw [hx]; simp
    · obtain ⟨h', t', e'⟩ := spl_ne c r
      rw [spl_miss hx e'] at e
      cases e
      rw [List.takeWhile_cons, if_pos (by simpa using hx), ← spl_head e']
theorem joined_eq (h : List UInt8) (t : List (List UInt8)) : (Builtin.Bytes.joined #[32] ((h :: t).map List.toArray)).toList = h ++ (t.map (32 :: ·)).flatten := by
  unfold Builtin.Bytes.joined
  have key : ∀ (t : List (List UInt8)) (k : Nat) (acc : Array UInt8), 0 < k → (((t.map List.toArray).zipIdx k).foldl (fun out x => match x with | (p, i) => (if i > 0 then out ++ #[32] else out) ++ p) acc).toList = acc.toList ++ (t.map (32 :: ·)).flatten := by
    intro t
    induction t with
    | nil => intro k acc _; simp
    | cons p t ih =>
      intro k acc hk
      rw [List.map_cons, List.zipIdx_cons, List.foldl_cons, ih (k + 1) _ (by walk_at "o")]
      dsimp only
      rw [if_pos hk]
      simp
  rw [List.map_cons, List.zipIdx_cons, List.foldl_cons, key t 1 _ (by decide)]
  simp
theorem under_rows : ∀ {l h : List UInt8} {t : List (List UInt8)}, spl 95 l = h :: t → l.map under = h ++ (t.map (32 :: ·)).flatten
  | [], _, _, e => by cases e; rfl
  | x :: r, h, t, e => by
    obtain ⟨h', t', e'⟩ := spl_ne 95 r
    have ih := under_rows e'
    by_cases hx : x = 95
    · rw [hx, spl_hit, e'] at e
      cases e
      rw [List.map_cons, ih, hx]; rfl
    · rw [spl_miss hx e'] at e
      cases e
      rw [List.map_cons, ih]
      unfold under
      rw [if_neg hx]; rfl
theorem bRep_under (l : List UInt8) : bRep l.toArray #[95] #[32] = (l.map under).toArray := by
  unfold bRep
  have e : Builtin.Bytes.occurrences l.toArray #[95] 0 l.toArray.size = idxs 95 0 l := occ_eq 95 l
  have e1 : (#[95] : Array UInt8).size = 1 := rfl
  rw [e, e1, between_eq]
  obtain ⟨h, t, hs⟩ := spl_ne 95 l
  have hu := under_rows hs
  split
  · rename_i hem
    have hem' : idxs 95 0 l = [] := by simpa using hem
    have hb := between_eq 95 l
    rw [hem', hs] at hb
    have hb' : [l.toArray.extract 0 l.toArray.size] = (h :: t).map List.toArray := hb
    cases t with
    | cons _ _ => simp at hb'
    | nil =>
      rw [hu]
      simp at hb'
      simp [← hb']
  · apply Array.toList_inj.mp
    rw [hs, joined_eq, hu]
-- the names of the charsets
noncomputable def nmRows : List (Str × Str) := [("us-ascii ascii ansi_x3.4-1968 iso_646.irv:1991 iso-ir-6 iso646-us us cp367 ibm367", "us-ascii"), ("iso-8859-1 iso_8859-1 iso_8859-1:1987 iso-ir-100 latin1 l1 cp819 ibm819", "iso-8859-1"), ("utf-8 utf8", "utf-8")]
theorem split1 : Txt.split "us-ascii ascii ansi_x3.4-1968 iso_646.irv:1991 iso-ir-6 iso646-us us cp367 ibm367" " " = as1 := by decide +kernel
theorem split2 : Txt.split "iso-8859-1 iso_8859-1 iso_8859-1:1987 iso-ir-100 latin1 l1 cp819 ibm819" " " = as2 := by decide +kernel
theorem split3 : Txt.split "utf-8 utf8" " " = as3 := by decide +kernel
noncomputable def knownOf (x : Str) : List Str := (nmRows.filter fun r => decide (x ∈ Txt.split r.1 " ")).map (·.2)
theorem known_eq (x : Str) : (knownOf x).head?.getD "" = csName x ∧ (knownOf x = [] ↔ csName x = "") := by
  have hc : csName x = if x ∈ as3 then Str.ofString "utf-8" else if x ∈ as2 then Str.ofString "iso-8859-1" else if x ∈ as1 then Str.ofString "us-ascii" else Str.ofString "" := by
    unfold csName csTab
    rw [putAll_get, putAll_get, putAll_get]
    (repeat' split) <;> rfl
  have hk : knownOf x = (if x ∈ as1 then [(Str.ofString "us-ascii")] else []) ++ (if x ∈ as2 then [(Str.ofString "iso-8859-1")] else []) ++ (if x ∈ as3 then [(Str.ofString "utf-8")] else []) := by
    unfold knownOf nmRows
    rw [List.filter_cons, List.filter_cons, List.filter_cons, List.filter_nil]
    dsimp only
    rw [split1, split2, split3]
    by_cases h1 : x ∈ as1 <;> by_cases h2 : x ∈ as2 <;> by_cases h3 : x ∈ as3 <;> simp [h1, h2, h3]
  have d12 : ∀ y ∈ as1, y ∉ as2 := by decide +kernel
  have d13 : ∀ y ∈ as1, y ∉ as3 := by decide +kernel
  have d23 : ∀ y ∈ as2, y ∉ as3 := by decide +kernel
  rw [hk, hc]
  by_cases h1 : x ∈ as1
  · simp only [if_pos h1, if_neg (d12 x h1), if_neg (d13 x h1)]
    exact ⟨rfl, by decide⟩
  · by_cases h2 : x ∈ as2
    · simp only [if_neg h1, if_pos h2, if_neg (d23 x h2)]
      exact ⟨rfl, by decide⟩
    · by_cases h3 : x ∈ as3
      · simp only [if_neg h1, if_neg h2, if_pos h3]
        exact ⟨rfl, by decide⟩
      · simp only [if_neg h1, if_neg h2, if_neg h3]
        exact ⟨rfl, by decide⟩
end
section
open PySem PySem.W PyProof.Rows PySem.Calls PySem.SeqAt PySem.MeetsSeq
set_option maxRecDepth 100000
theorem under_lt {l : List UInt8} (h : ∀ c ∈ l, c.toNat < 128) : ∀ c ∈ l.map under, c.toNat < 128 := fun c hc => by
  obtain ⟨d, hd, rfl⟩ := List.mem_map.mp hc
  have := h d hd
  unfold under
  split
  · decide
  · exact this
theorem spl_row {c : UInt8} : ∀ (l acc : List UInt8), ∀ r ∈ splA c acc l, ∀ x ∈ r, x ∈ acc ∨ x ∈ l
  | [], acc, r, hr, x, hx => by rw [List.mem_singleton.mp hr] at hx; exact .inl hx
  | y :: l, acc, r, hr, x, hx => by
    rw [splA.eq_2] at hr
    split at hr
    · rcases List.mem_cons.mp hr with rfl | hr
      · exact .inl hx
      · rcases spl_row l [] r hr x hx with h | h
        · cases h
        · exact .inr (.tail _ h)
    · rcases spl_row l _ r hr x hx with h | h
      · rcases List.mem_append.mp h with h | h
        · exact .inl h
        · rw [List.mem_singleton.mp h]; exact .inr (.head _)
      · exact .inr (.tail _ h)
theorem minI_two (a b : Int) : minI [a, b] (min a b) := by
  refine ⟨?_, fun c hc => ?_⟩
  · by_cases h : a ≤ b
    · rw [Int.min_eq_left h]; exact .head _
    · rw [Int.min_eq_right (by walk_at "o")]; exact .tail _ (.head _)
  · simp only [List.mem_cons, List.not_mem_nil, or_false] at hc
    rcases hc with rfl | rfl <;> walk_at "o"
theorem hexW_rng (c : Int) : -1 ≤ hexW c ∧ hexW c ≤ 15 := by unfold hexW; (repeat' split) <;> walk_at "o"
theorem figRow_len (r : List UInt8) : (figRow r).length ≤ r.length + 1 := by
  unfold figRow
  split
  · split
    · simp
    · simp
  · simp
theorem figRows_len (B : Nat) : ∀ rs : List (List UInt8), (∀ r ∈ rs, r.length ≤ B) → ((rs.map figRow).flatten).length ≤ rs.length * (B + 1)
  | [], _ => Nat.zero_le _
  | r :: rs, h => by
    have h1 := figRows_len B rs fun x hx => h x (.tail _ hx)
    have h2 := figRow_len r
    have h3 := h r (.head _)
    rw [List.map_cons, List.flatten_cons, List.length_append, List.length_cons, Nat.succ_mul]
    walk_at "o"
theorem figRow_two (a b : UInt8) (t : List UInt8) : figRow (a :: b :: t) = if 0 ≤ hexW a.toNat ∧ 0 ≤ hexW b.toNat then byteOf (16 * hexW a.toNat + hexW b.toNat) :: t else 61 :: a :: b :: t := rfl
set_option maxHeartbeats 1000000 in
theorem sp_figured (G : Gp) (ok : GOK G) (l : List UInt8) (hl : l.length ≤ 300) (ha : ∀ c ∈ l, c.toNat < 128) : Sp G 34 1 true [.bytes l.toArray] (· = .bytes (unqB (l.map under)).toArray) := by
  refine enter (defAt 60) (dAt ok 34 60 rfl) (plain1 60 rfl (by intros; rfl) (by rfl) (by rfl) (by rfl) (by rfl) rfl rfl rfl) fun A L a code => ?_
  have hua := under_lt ha
  have hul : (l.map under).length ≤ 300 := by simpa using hl
  rw [← lawFig_eq]
  unfold lawFig
  have hrep := bRep_under l
  generalize l.map under = m at *
  have hmem := fun r hr => spl_mem 61 m [] r hr
  have hrow : ∀ r ∈ spl 61 m, ∀ c ∈ r, c.toNat < 128 := fun r hr c hc => by
    rcases spl_row m [] r hr c hc with h | h
    · cases h
    · exact hua c h
  obtain ⟨h, t, hs⟩ := spl_ne 61 m
  have hlen := spl_len 61 m []
  change (spl 61 m).length ≤ _ at hlen
  change ∀ r, r ∈ spl 61 m → _ at hmem
  rw [hs] at hlen hmem hrow ⊢
  simp only [List.length_cons, List.head?_cons, Option.getD_some, List.tail_cons, List.length_nil, Nat.zero_add] at hlen hmem ⊢
  first | with_reducible refine WS_cons ?_ | refine WS_cons ?_
  walk_at "as"
  first | focus ((with_reducible refine WE_meth "bytes" "bytes.split" PySem.W.FB.plainAttrs_bytes FB.slot_split FB.type_split ?_ ?_ ?_ ?_ ?_ ?_); walk_at "mt") | refine WE_meth "bytes" "bytes.split" PySem.W.FB.plainAttrs_bytes FB.slot_split FB.type_split ?_
  first | focus ((with_reducible refine WE_meth "bytes" "bytes.replace" PySem.W.FB.plainAttrs_bytes FB.slot_replace FB.type_replace ?_ ?_ ?_ ?_ ?_ ?_); walk_at "mt") | refine WE_meth "bytes" "bytes.replace" PySem.W.FB.plainAttrs_bytes FB.slot_replace FB.type_replace ?_
  refine WE_name rfl ?_
  refine ⟨rfl, ?_⟩
  first | with_reducible refine WL_cons ?_ | refine WL_cons ?_
  first | with_reducible refine WE_bytes ?_ | refine WE_bytes ?_
  first | with_reducible refine WL_cons ?_ | refine WL_cons ?_
  first | with_reducible refine WE_bytes ?_ | refine WE_bytes ?_
  first | with_reducible refine WL_nil ?_ | refine WL_nil ?_
  refine V_breplace rfl (by show (bRep l.toArray #[95] #[32]).size ≤ _; rw [hrep]; simp; walk_at "o") (by decide) (by simp; walk_at "o") ?_ ?_
  · show (Builtin.Bytes.occurrences l.toArray #[95] 0 l.length).length ≤ _
    rw [occ_eq 95 l]
    have := idxs_len 95 l 0
    walk_at "o"
  show tyD (.bytes (bRep l.toArray #[95] #[32])) = _ ∧ _
  rw [hrep]
  refine ⟨rfl, ?_⟩
  first | with_reducible refine WL_cons ?_ | refine WL_cons ?_
  first | with_reducible refine WE_bytes ?_ | refine WE_bytes ?_
  first | with_reducible refine WL_nil ?_ | refine WL_nil ?_
  refine V_splitB (c := 61) (by walk_at "o") ?_
  rw [hs]
  first | with_reducible refine then_next ?_ | refine then_next ?_
  first | with_reducible refine WS_cons ?_ | refine WS_cons ?_
  walk_at "as"
  first | with_reducible refine WE_sub ?_ | refine WE_sub ?_
  refine WE_name rfl ?_
  first | with_reducible refine WE_int ?_ | refine WE_int ?_
  refine W2_list_item (j := 0) (r := .bytes h.toArray) (by simp; walk_at "o") (StrLaws.seqIndex_nonneg (by decide) (by simp)) rfl ?_
  first | with_reducible refine then_next ?_ | refine then_next ?_
  first | with_reducible refine WS_cons ?_ | refine WS_cons ?_
  refine WX_forX (WI_val (WE_slice ?_) rfl)
  refine WE_name rfl ?_
  refine wp_some ?_
  first | with_reducible refine WE_int ?_ | refine WE_int ?_
  refine ex_int ?_
  refine wp_none ?_
  refine slice_l (by simp; walk_at "o") ?_
  rw [show pick ((h :: t).map fun r => Dat.bytes r.toArray) (some 1) none = t.map fun r => Dat.bytes r.toArray from pick_n _ 1]
  refine ⟨_, IV.list _, ?_⟩
  have hfl : ∀ i, (((t.take i).map figRow).flatten).length ≤ 2 * (301 * 301) := by
    intro i
    have h1 := figRows_len 300 (t.take i) fun r hr => by
      have := hmem r (.tail _ (List.mem_of_mem_take hr))
      walk_at "o"
    have h2 : (t.take i).length ≤ 301 := by simp; walk_at "o"
    have h3 : (t.take i).length * 301 ≤ 301 * 301 := Nat.mul_le_mul_right _ h2
    walk_at "o"
  refine ⟨fun i σ' => σ' = vr "found" (.bytes (h ++ ((t.take i).map figRow).flatten).toArray) [], _, ext_vr ?_ Ext.nil, rfl, ?_, ?_⟩
  · show _ = some (Bd.val (.bytes (h ++ [].flatten).toArray))
    rw [List.flatten_nil, List.append_nil]; rfl
  · rintro i d σ' hd rfl
    rw [List.getElem?_map] at hd
    obtain ⟨row, hr, rfl⟩ := Option.map_eq_some_iff.mp hd
    have hrm : row ∈ h :: t := .tail _ (List.mem_of_getElem? hr)
    have hrl := hmem row hrm
    have hra := hrow row hrm
    have hti : (t.take (i + 1)).map figRow = (t.take i).map figRow ++ [figRow row] := by rw [List.take_add_one, hr]; simp
    have hf := hfl i
    have hh : h.length ≤ 300 := by have := hmem h (.head _); walk_at "o"
    generalize hacc : h ++ ((t.take i).map figRow).flatten = acc
    have hal : acc.length ≤ 2 * (301 * 301) + 300 := by rw [← hacc, List.length_append]; walk_at "o"
    have fin : ∀ (new : List UInt8) (σ : Sg), new = acc ++ figRow row → σ.get (Str.ofString "found") = some (.val (.bytes new.toArray)) → Turn (fun σ'' => ∃ σ₁, Ext σ₁ σ'' ∧ σ₁ = vr "found" (.bytes (h ++ ((t.take (i + 1)).map figRow).flatten).toArray) [])
        (Then (fnSt G (defAt 60) A L a code true 0 none) ((defAt 60).body.drop 3) (Ret (· = .bytes (h ++ (t.map figRow).flatten).toArray))) .next σ := by
      intro new σ e1 e2
      refine ⟨_, ext_vr (d := .bytes (h ++ ((t.take (i + 1)).map figRow).flatten).toArray) ?_ Ext.nil, rfl⟩
      rw [e2, e1, hti, List.flatten_append, ← hacc]; simp
    refine WG_name ?_ rfl (.inl rfl)
    first | with_reducible refine WS_cons ?_ | refine WS_cons ?_
    refine WX_assign_comp ⟨rfl, by rfl, by rfl, by rfl⟩ rfl rfl (WI_val (WE_slice ?_) rfl)
    refine WE_name rfl ?_
    refine wp_none ?_
    refine wp_some ?_
    first | with_reducible refine WE_int ?_ | refine WE_int ?_
    refine ex_int ?_
    refine slice_b (by walk_at "o") ?_
    rw [show pick row none (some 2) = row.take 2 from pick_o row 2]
    refine ⟨_, IV.bytes _, compAsk_map' (row.take 2) encB (fun c => .int (hexW c.toNat)) rfl (by simp; walk_at "o") (fun C j x hx => ?_) ?_⟩
    · have hxa := hra x (List.mem_of_mem_take (List.mem_of_getElem? hx))
      refine WG_name ⟨Ext.set rfl, WF_nil ⟨fun _ => ?_, fun e => (nomatch e)⟩⟩ rfl (.inr rfl)
      first | focus ((with_reducible refine WE_meth "str" "str.find" F.plainAttrs_str F.slot_str_find F.type_str_find ?_ ?_ ?_ ?_ ?_ ?_); walk_at "mt") | refine WE_meth "str" "str.find" F.plainAttrs_str F.slot_str_find F.type_str_find ?_
      refine WE_glob rfl (by walk_at "kon") ?_
      refine ⟨rfl, ?_⟩
      first | with_reducible refine WL_call ?_ | refine WL_call ?_
      first | focus ((with_reducible refine WE_meth0 "str" "str.lower" F.plainAttrs_str F.slot_str_lower F.type_str_lower ?_ ?_ ?_); walk_at "m0") | refine WE_meth0 "str" "str.lower" F.plainAttrs_str F.slot_str_lower F.type_str_lower ?_
      walk_at "bi"
      first | with_reducible refine WL_cons ?_ | refine WL_cons ?_
      refine WE_name rfl ?_
      first | with_reducible refine WL_nil ?_ | refine WL_nil ?_
      refine V_chr (by walk_at "o") (by walk_at "o") ?_
      refine ⟨rfl, ?_⟩
      have hlo : Txt.lower (strB [x]) = strB [lowB x] := lower_B (l := [x]) (fun c hc => by rw [List.mem_singleton.mp hc]; exact hxa)
      show WV _ _ [.str (strB [x])] _
      refine V_lower (by rw [hlo, strB_len]; simp) ?_
      rw [hlo]
      first | with_reducible refine WL_nil ?_ | refine WL_nil ?_
      first | with_reducible refine V_find ?_ | refine V_find ?_
      show Dat.int (Txt.find figsS ⟨#[(lowB x).toNat]⟩) = _
      rw [fig_low x hxa]
    · first | with_reducible refine then_next ?_ | refine then_next ?_
      first | with_reducible refine WS_cons ?_ | refine WS_cons ?_
      first | with_reducible refine WX_if (WT_bool (WA_and (WT_cmp ?_))) | refine WX_if (WT_bool (WA_and (WT_cmp ?_)))
      walk_at "bi"
      first | with_reducible refine WL_cons ?_ | refine WL_cons ?_
      refine WE_name rfl ?_
      first | with_reducible refine WL_nil ?_ | refine WL_nil ?_
      refine V_lenl (by simp; walk_at "o") ?_
      rw [List.length_map]
      first | with_reducible refine WE_int ?_ | refine WE_int ?_
      first | with_reducible refine W2_eq ?_ | refine W2_eq ?_
      first | with_reducible refine WB_bool ?_ | refine WB_bool ?_
      rcases row with _ | ⟨a, _ | ⟨b, t'⟩⟩
      · rw [show (((List.take 2 ([] : List UInt8)).length : Int) == 2) = false from rfl]
        first | with_reducible refine no' ?_ | refine no' ?_
        first | with_reducible refine no ?_ | refine no ?_
        first | with_reducible refine WS_cons ?_ | refine WS_cons ?_
        walk_at "as"
        first | with_reducible refine WE_bin ?_ | refine WE_bin ?_
        first | with_reducible refine WE_bin ?_ | refine WE_bin ?_
        refine WE_name rfl ?_
        first | with_reducible refine WE_bytes ?_ | refine WE_bytes ?_
        refine W2_addbL (by simp; walk_at "o") ?_
        refine WE_name rfl ?_
        refine W2_addbL (by simp at hrl ⊢; walk_at "o") ?_
        first | with_reducible refine then_next ?_ | refine then_next ?_
        first | with_reducible refine WS_nil ?_ | refine WS_nil ?_
        first | with_reducible refine then_next ?_ | refine then_next ?_
        first | with_reducible refine WS_nil ?_ | refine WS_nil ?_
        refine fin _ _ ?_ rfl
        simp [figRow]
      · rw [show (((List.take 2 [a]).length : Int) == 2) = false from rfl]
        first | with_reducible refine no' ?_ | refine no' ?_
        first | with_reducible refine no ?_ | refine no ?_
        first | with_reducible refine WS_cons ?_ | refine WS_cons ?_
        walk_at "as"
        first | with_reducible refine WE_bin ?_ | refine WE_bin ?_
        first | with_reducible refine WE_bin ?_ | refine WE_bin ?_
        refine WE_name rfl ?_
        first | with_reducible refine WE_bytes ?_ | refine WE_bytes ?_
        refine W2_addbL (by simp; walk_at "o") ?_
        refine WE_name rfl ?_
        refine W2_addbL (by simp at hrl ⊢; walk_at "o") ?_
        first | with_reducible refine then_next ?_ | refine then_next ?_
        first | with_reducible refine WS_nil ?_ | refine WS_nil ?_
        first | with_reducible refine then_next ?_ | refine then_next ?_
        first | with_reducible refine WS_nil ?_ | refine WS_nil ?_
        refine fin _ _ ?_ rfl
        simp [figRow]
      · have e2 : List.take 2 (a :: b :: t') = [a, b] := rfl
        rw [e2]
        have ra := hexW_rng a.toNat
        have rb := hexW_rng b.toNat
        first | with_reducible refine yes' ?_ | refine yes' ?_
        refine WA_and (WT_cmp ?_)
        walk_at "bi"
        first | with_reducible refine WL_cons ?_ | refine WL_cons ?_
        refine WE_name rfl ?_
        first | with_reducible refine WL_nil ?_ | refine WL_nil ?_
        show WV _ _ [.list ([hexW a.toNat, hexW b.toNat].map .int)] _
        refine V_min rfl (minI_two _ _) ?_
        first | with_reducible refine WE_int ?_ | refine WE_int ?_
        first | with_reducible refine W2_ge ?_ | refine W2_ge ?_
        first | with_reducible refine WB_bool ?_ | refine WB_bool ?_
        by_cases hh : 0 ≤ hexW a.toNat ∧ 0 ≤ hexW b.toNat
        · rw [decide_eq_true (show min (hexW a.toNat) (hexW b.toNat) ≥ 0 by walk_at "o")]
          first | with_reducible refine yes' ?_ | refine yes' ?_
          refine WA_and_nil ?_
          first | with_reducible refine yes ?_ | refine yes ?_
          first | with_reducible refine WS_cons ?_ | refine WS_cons ?_
          walk_at "as"
          first | with_reducible refine WE_bin ?_ | refine WE_bin ?_
          first | with_reducible refine WE_bin ?_ | refine WE_bin ?_
          refine WE_name rfl ?_
          walk_at "bi"
          first | with_reducible refine WL_cons ?_ | refine WL_cons ?_
          first | with_reducible refine WE_list ?_ | refine WE_list ?_
          first | with_reducible refine WL_cons ?_ | refine WL_cons ?_
          first | with_reducible refine WE_bin ?_ | refine WE_bin ?_
          first | with_reducible refine WE_bin ?_ | refine WE_bin ?_
          first | with_reducible refine WE_int ?_ | refine WE_int ?_
          first | with_reducible refine WE_sub ?_ | refine WE_sub ?_
          refine WE_name rfl ?_
          first | with_reducible refine WE_int ?_ | refine WE_int ?_
          refine W2_list_item (j := 0) (r := .int (hexW a.toNat)) (by simp) rfl rfl ?_
          refine W2_mul (IntMulOk.of_left (by decide)) ?_
          first | with_reducible refine WE_sub ?_ | refine WE_sub ?_
          refine WE_name rfl ?_
          first | with_reducible refine WE_int ?_ | refine WE_int ?_
          refine W2_list_item (j := 1) (r := .int (hexW b.toNat)) (by simp) rfl rfl ?_
          first | with_reducible refine W2_add ?_ | refine W2_add ?_
          refine WL_nil ⟨by simp, ?_⟩
          first | with_reducible refine WL_nil ?_ | refine WL_nil ?_
          refine V_bytes (ns := [16 * hexW a.toNat + hexW b.toNat]) rfl (fun n hn => by rw [List.mem_singleton.mp hn]; walk_at "o") (by simp) ?_
          refine W2_addbL (by simp; walk_at "o") ?_
          first | with_reducible refine WE_slice ?_ | refine WE_slice ?_
          refine WE_name rfl ?_
          refine wp_some ?_
          first | with_reducible refine WE_int ?_ | refine WE_int ?_
          refine ex_int ?_
          refine wp_none ?_
          refine slice_b (by walk_at "o") ?_
          rw [show pick (a :: b :: t') (some 2) none = t' from pick_n (a :: b :: t') 2]
          refine W2_addbL (by simp at hrl ⊢; walk_at "o") ?_
          first | with_reducible refine then_next ?_ | refine then_next ?_
          first | with_reducible refine WS_nil ?_ | refine WS_nil ?_
          first | with_reducible refine then_next ?_ | refine then_next ?_
          first | with_reducible refine WS_nil ?_ | refine WS_nil ?_
          refine fin _ _ ?_ rfl
          rw [figRow_two, if_pos hh]; simp
        · rw [decide_eq_false (show ¬ min (hexW a.toNat) (hexW b.toNat) ≥ 0 by walk_at "o")]
          first | with_reducible refine no' ?_ | refine no' ?_
          first | with_reducible refine no ?_ | refine no ?_
          first | with_reducible refine WS_cons ?_ | refine WS_cons ?_
          walk_at "as"
          first | with_reducible refine WE_bin ?_ | refine WE_bin ?_
          first | with_reducible refine WE_bin ?_ | refine WE_bin ?_
          refine WE_name rfl ?_
          first | with_reducible refine WE_bytes ?_ | refine WE_bytes ?_
          refine W2_addbL (by simp; walk_at "o") ?_
          refine WE_name rfl ?_
          refine W2_addbL (by simp at hrl ⊢; walk_at "o") ?_
          first | with_reducible refine then_next ?_ | refine then_next ?_
          first | with_reducible refine WS_nil ?_ | refine WS_nil ?_
          first | with_reducible refine then_next ?_ | refine then_next ?_
          first | with_reducible refine WS_nil ?_ | refine WS_nil ?_
          refine fin _ _ ?_ rfl
          rw [figRow_two, if_neg hh]; simp
  · rintro σ' rfl
    rw [List.length_map, List.take_length]
    first | with_reducible refine then_next ?_ | refine then_next ?_
    first | with_reducible refine WS_cons ?_ | refine WS_cons ?_
    first | with_reducible refine WX_return ?_ | refine WX_return ?_
    refine WE_name rfl ?_
    rfl
end
section
open PySem PySem.W PyProof.Rows PySem.Calls PySem.SeqAt PySem.MeetsSeq
set_option maxRecDepth 100000
theorem sp_sixes (G : Gp) (ok : GOK G) (l : List UInt8) (hl : l.length ≤ 300) : Sp G 35 1 true [.bytes l.toArray] (· = .bytes (decB l).toArray) := by
  refine enter (defAt 61) (dAt ok 35 61 rfl) (plain1 61 rfl (by intros; rfl) (by rfl) (by rfl) (by rfl) (by rfl) rfl rfl rfl) fun A L a code => ?_
  rw [← lawSix_eq]
  unfold lawSix
  obtain ⟨h, t, hs⟩ := spl_ne 61 l
  have hh := spl_head hs
  have hhl : h.length ≤ 300 := by have := spl_mem 61 l [] h (by show h ∈ spl 61 l; rw [hs]; exact .head _); simp at this; walk_at "o"
  have htl : t.length ≤ 301 := by have := spl_len 61 l []; change (spl 61 l).length ≤ _ at this; rw [hs] at this; simp at this; walk_at "o"
  rw [← hh]
  first | with_reducible refine WS_cons ?_ | refine WS_cons ?_
  first | with_reducible refine WX_unpack ?_ | refine WX_unpack ?_
  first | with_reducible refine WE_tuple ?_ | refine WE_tuple ?_
  first | with_reducible refine WL_cons ?_ | refine WL_cons ?_
  first | with_reducible refine WE_int ?_ | refine WE_int ?_
  first | with_reducible refine WL_cons ?_ | refine WL_cons ?_
  first | with_reducible refine WE_int ?_ | refine WE_int ?_
  refine WL_nil ⟨by simp, ?_⟩
  refine WG_tuple (WGL_cons (WG_name (WGL_cons (WG_name (WGL_nil ?_) rfl (.inl rfl))) rfl (.inl rfl)))
  first | with_reducible refine then_next ?_ | refine then_next ?_
  first | with_reducible refine WS_cons ?_ | refine WS_cons ?_
  refine WX_forX (WI_val (WE_sub ?_) rfl)
  first | focus ((with_reducible refine WE_meth "bytes" "bytes.split" PySem.W.FB.plainAttrs_bytes FB.slot_split FB.type_split ?_ ?_ ?_ ?_ ?_ ?_); walk_at "mt") | refine WE_meth "bytes" "bytes.split" PySem.W.FB.plainAttrs_bytes FB.slot_split FB.type_split ?_
  refine WE_name rfl ?_
  refine ⟨rfl, ?_⟩
  first | with_reducible refine WL_cons ?_ | refine WL_cons ?_
  first | with_reducible refine WE_bytes ?_ | refine WE_bytes ?_
  first | with_reducible refine WL_nil ?_ | refine WL_nil ?_
  refine V_splitB (c := 61) (by walk_at "o") ?_
  rw [hs]
  first | with_reducible refine WE_int ?_ | refine WE_int ?_
  refine W2_list_item (j := 0) (r := .bytes h.toArray) (by simp; walk_at "o") (StrLaws.seqIndex_nonneg (by decide) (by simp)) rfl ?_
  refine ⟨_, IV.bytes _, ?_⟩
  refine ⟨fun i σ' => σ' = vr "total" (.int (gTot ((h.take i).filterMap w64))) (vr "count" (.int ((h.take i).filterMap w64).length) []), _, ext_vr rfl (ext_vr rfl Ext.nil), rfl, ?_, ?_⟩
  · rintro i d σ' hd rfl
    rw [List.getElem?_map] at hd
    obtain ⟨c, hc, rfl⟩ := Option.map_eq_some_iff.mp hd
    have hc : h[i]? = some c := hc
    have hn := c.toNat_lt
    have ht : (h.take (i + 1)).filterMap w64 = (h.take i).filterMap w64 ++ (w64 c).toList := by
      rw [List.take_add_one, hc, List.filterMap_append]
      cases hw : w64 c <;> simp [List.filterMap_cons, hw]
    refine WG_name ?_ rfl (.inl rfl)
    first | with_reducible refine WS_cons ?_ | refine WS_cons ?_
    walk_at "as"
    first | focus ((with_reducible refine WE_meth "str" "str.find" F.plainAttrs_str F.slot_str_find F.type_str_find ?_ ?_ ?_ ?_ ?_ ?_); walk_at "mt") | refine WE_meth "str" "str.find" F.plainAttrs_str F.slot_str_find F.type_str_find ?_
    refine WE_glob rfl (by walk_at "kon") ?_
    refine ⟨rfl, ?_⟩
    first | with_reducible refine WL_call ?_ | refine WL_call ?_
    walk_at "bi"
    first | with_reducible refine WL_cons ?_ | refine WL_cons ?_
    refine WE_name rfl ?_
    first | with_reducible refine WL_nil ?_ | refine WL_nil ?_
    refine V_chr (by walk_at "o") (by walk_at "o") ?_
    first | with_reducible refine WL_nil ?_ | refine WL_nil ?_
    first | with_reducible refine V_find ?_ | refine V_find ?_
    have hf : Txt.find sixtyS ⟨#[((c.toNat : Int)).toNat]⟩ = (w64 c).getD (-1) := six_w64 c
    change Then _ _ _ _ (Sg.set _ _ (.val (.int (Txt.find sixtyS ⟨#[((c.toNat : Int)).toNat]⟩))))
    rw [hf]
    first | with_reducible refine then_next ?_ | refine then_next ?_
    first | with_reducible refine WS_cons ?_ | refine WS_cons ?_
    first | with_reducible refine WX_if (WT_cmp ?_) | refine WX_if (WT_cmp ?_)
    refine WE_name rfl ?_
    first | with_reducible refine WE_int ?_ | refine WE_int ?_
    first | with_reducible refine W2_ge ?_ | refine W2_ge ?_
    first | with_reducible refine WB_bool ?_ | refine WB_bool ?_
    cases hw : w64 c with
    | none =>
      rw [hw] at ht
      rw [show decide ((none : Option Int).getD (-1) ≥ 0) = false from rfl]
      first | with_reducible refine no ?_ | refine no ?_
      first | with_reducible refine WS_nil ?_ | refine WS_nil ?_
      first | with_reducible refine then_next ?_ | refine then_next ?_
      first | with_reducible refine WS_nil ?_ | refine WS_nil ?_
      refine turn_next ⟨_, ext_vr (d := .int (gTot ((h.take (i + 1)).filterMap w64))) ?_ (ext_vr (d := .int ((h.take (i + 1)).filterMap w64).length) ?_ Ext.nil), rfl⟩
      · rw [ht]; simp; rfl
      · rw [ht]; simp; rfl
    | some v =>
      rw [hw] at ht
      have hv := w64_rng hw
      rw [show decide ((some v).getD (-1) ≥ 0) = true from decide_eq_true hv.1]
      first | with_reducible refine yes ?_ | refine yes ?_
      first | with_reducible refine WS_cons ?_ | refine WS_cons ?_
      first | with_reducible refine WX_unpack ?_ | refine WX_unpack ?_
      first | with_reducible refine WE_tuple ?_ | refine WE_tuple ?_
      first | with_reducible refine WL_cons ?_ | refine WL_cons ?_
      first | with_reducible refine WE_bin ?_ | refine WE_bin ?_
      first | with_reducible refine WE_bin ?_ | refine WE_bin ?_
      first | with_reducible refine WE_int ?_ | refine WE_int ?_
      refine WE_name rfl ?_
      refine W2_mul (IntMulOk.of_left (by decide)) ?_
      refine WE_name rfl ?_
      first | with_reducible refine W2_add ?_ | refine W2_add ?_
      first | with_reducible refine WL_cons ?_ | refine WL_cons ?_
      first | with_reducible refine WE_bin ?_ | refine WE_bin ?_
      refine WE_name rfl ?_
      first | with_reducible refine WE_int ?_ | refine WE_int ?_
      first | with_reducible refine W2_add ?_ | refine W2_add ?_
      refine WL_nil ⟨by simp, ?_⟩
      refine WG_tuple (WGL_cons (WG_name (WGL_cons (WG_name (WGL_nil ?_) rfl (.inl rfl))) rfl (.inl rfl)))
      first | with_reducible refine then_next ?_ | refine then_next ?_
      first | with_reducible refine WS_nil ?_ | refine WS_nil ?_
      first | with_reducible refine then_next ?_ | refine then_next ?_
      first | with_reducible refine WS_nil ?_ | refine WS_nil ?_
      refine turn_next ⟨_, ext_vr (d := .int (gTot ((h.take (i + 1)).filterMap w64))) ?_ (ext_vr (d := .int ((h.take (i + 1)).filterMap w64).length) ?_ Ext.nil), rfl⟩
      · rw [ht]
        have e : gTot ((h.take i).filterMap w64 ++ (some v).toList) = 64 * gTot ((h.take i).filterMap w64) + v := by
          unfold gTot; rw [List.foldl_append]; rfl
        rw [e]; rfl
      · rw [ht]
        have e : ((((h.take i).filterMap w64 ++ (some v).toList).length : Nat) : Int) = (((h.take i).filterMap w64).length : Int) + 1 := by simp
        rw [e]; rfl
  · rintro σ' rfl
    have e : h.take ((h.toArray.toList.map fun c => Dat.int (c.toNat : Int)).length) = h := List.take_of_length_le (by simp)
    rw [e]
    have hwl : (h.filterMap w64).length ≤ 300 := Nat.le_trans (List.length_filterMap_le _ _) hhl
    generalize h.filterMap w64 = ws at hwl
    unfold sixAll
    obtain ⟨mm, hm⟩ : ∃ mm, mm = 6 * ws.length / 8 := ⟨_, rfl⟩
    rw [← hm]
    first | with_reducible refine then_next ?_ | refine then_next ?_
    first | with_reducible refine WS_cons ?_ | refine WS_cons ?_
    walk_at "as"
    first | with_reducible refine WE_bin ?_ | refine WE_bin ?_
    first | with_reducible refine WE_bin ?_ | refine WE_bin ?_
    first | with_reducible refine WE_int ?_ | refine WE_int ?_
    refine WE_name rfl ?_
    refine W2_mul (IntMulOk.of_left (by decide)) ?_
    first | with_reducible refine WE_int ?_ | refine WE_int ?_
    refine W2_fdiv (by decide) (by decide) ?_
    have e1 : Int.fdiv (6 * (ws.length : Int)) 8 = (mm : Int) := by
      rw [Int.fdiv_eq_ediv_of_nonneg _ (by decide)]; walk_at "o"
    rw [e1]
    first | with_reducible refine then_next ?_ | refine then_next ?_
    first | with_reducible refine WS_cons ?_ | refine WS_cons ?_
    walk_at "as"
    first | with_reducible refine WE_bin ?_ | refine WE_bin ?_
    refine WE_name rfl ?_
    first | with_reducible refine WE_bin ?_ | refine WE_bin ?_
    first | with_reducible refine WE_bin ?_ | refine WE_bin ?_
    first | with_reducible refine WE_int ?_ | refine WE_int ?_
    refine WE_name rfl ?_
    refine W2_mul (IntMulOk.of_left (by decide)) ?_
    first | with_reducible refine WE_bin ?_ | refine WE_bin ?_
    first | with_reducible refine WE_int ?_ | refine WE_int ?_
    refine WE_name rfl ?_
    refine W2_mul (IntMulOk.of_left (by decide)) ?_
    first | with_reducible refine W2_sub' ?_ | refine W2_sub' ?_
    rw [show 6 * (ws.length : Int) - 8 * (mm : Int) = ((6 * ws.length - 8 * mm : Nat) : Int) by walk_at "o"]
    refine W2_shr (by { omega }) ?_
    rw [Int.toNat_natCast]
    generalize (gTot ws).fdiv (2 ^ (6 * ws.length - 8 * mm)) = T
    first | with_reducible refine then_next ?_ | refine then_next ?_
    first | with_reducible refine WS_cons ?_ | refine WS_cons ?_
    first | with_reducible refine WX_return ?_ | refine WX_return ?_
    walk_at "bi"
    first | with_reducible refine WL_cons ?_ | refine WL_cons ?_
    refine WE_comp ⟨rfl, by rfl, by rfl, by rfl⟩ rfl (WI_range1 rfl (GOK.bRange ok) (by kernel_rfl) rfl ?_)
    refine WE_name rfl ?_
    refine ⟨mm, mm, rfl, range1 mm (by walk_at "o"), ?_⟩
    refine compAsk_map' (List.range mm) encN (fun p => .int (Builtin.bitAnd (T.fdiv (2 ^ (8 * (mm - 1 - p)))) 255)) (steps_range _) (by simp; walk_at "o") (fun C i x hx => ?_) ?_
    · have hx' : x < mm := List.mem_range.mp (List.mem_of_getElem? hx)
      refine WG_name ⟨Ext.set rfl, WF_nil ⟨fun _ => ?_, fun e => (nomatch e)⟩⟩ rfl (.inr rfl)
      first | with_reducible refine WE_bin ?_ | refine WE_bin ?_
      first | with_reducible refine WE_bin ?_ | refine WE_bin ?_
      refine WE_name rfl ?_
      first | with_reducible refine WE_bin ?_ | refine WE_bin ?_
      first | with_reducible refine WE_int ?_ | refine WE_int ?_
      first | with_reducible refine WE_bin ?_ | refine WE_bin ?_
      first | with_reducible refine WE_bin ?_ | refine WE_bin ?_
      refine WE_name rfl ?_
      first | with_reducible refine WE_int ?_ | refine WE_int ?_
      first | with_reducible refine W2_sub' ?_ | refine W2_sub' ?_
      refine WE_name rfl ?_
      first | with_reducible refine W2_sub' ?_ | refine W2_sub' ?_
      refine W2_mul (IntMulOk.of_left (by decide)) ?_
      rw [show 8 * ((mm : Int) - 1 - (x : Int)) = ((8 * (mm - 1 - x) : Nat) : Int) by walk_at "o"]
      refine W2_shr (by { omega }) ?_
      rw [Int.toNat_natCast]
      first | with_reducible refine WE_int ?_ | refine WE_int ?_
      exact W2_band rfl
    · first | with_reducible refine WL_nil ?_ | refine WL_nil ?_
      have e : ((List.range mm).map fun p => Dat.int (Builtin.bitAnd (T.fdiv (2 ^ (8 * (mm - 1 - p)))) 255)) = (((List.range mm).map fun p => Builtin.bitAnd (T.fdiv (2 ^ (8 * (mm - 1 - p)))) 255)).map Dat.int := by simp
      rw [e]
      refine V_bytes rfl (fun c hc => ?_) (by simp; walk_at "o") ?_
      · obtain ⟨p, _, rfl⟩ := List.mem_map.mp hc
        exact band255 _
      · show Dat.bytes _ = Dat.bytes _
        rw [List.map_map]; rfl
end
section
open PySem PySem.W PyProof.Rows PySem.Calls PySem.SeqAt PySem.MeetsSeq
set_option maxRecDepth 100000
theorem upB_Q : ∀ c : UInt8, upB c = 81 ↔ (c = 81 ∨ c = 113) := all8 (by decide +kernel)
theorem upB_B : ∀ c : UInt8, upB c = 66 ↔ (c = 66 ∨ c = 98) := all8 (by decide +kernel)
theorem up_one {w : List UInt8} {x : UInt8} : upOf w = strB [x] ↔ ∃ c, w = [c] ∧ upB c = x := by
  constructor
  · intro h
    have h := strB_inj h
    rcases w with _ | ⟨c, _ | ⟨d, r⟩⟩
    · cases h
    · exact ⟨c, rfl, by simpa using h⟩
    · simp at h
  · rintro ⟨c, rfl, h⟩
    show strB [upB c] = _
    rw [h]
theorem up_Q (w : List UInt8) : upOf w = "Q" ↔ (w = [81] ∨ w = [113]) := by
  rw [show ("Q" : Str) = strB [81] from rfl, up_one]
  constructor
  · rintro ⟨c, rfl, h⟩
    rcases (upB_Q c).mp h with rfl | rfl
    · exact .inl rfl
    · exact .inr rfl
  · rintro (rfl | rfl)
    · exact ⟨81, rfl, by decide⟩
    · exact ⟨113, rfl, by decide⟩
theorem up_B (w : List UInt8) : upOf w = "B" ↔ (w = [66] ∨ w = [98]) := by
  rw [show ("B" : Str) = strB [66] from rfl, up_one]
  constructor
  · rintro ⟨c, rfl, h⟩
    rcases (upB_B c).mp h with rfl | rfl
    · exact .inl rfl
    · exact .inr rfl
  · rintro (rfl | rfl)
    · exact ⟨66, rfl, by decide⟩
    · exact ⟨98, rfl, by decide⟩
theorem same_b (x y : List UInt8) : sameD (.bytes x.toArray) (.bytes y.toArray) = decide (y = x) := by
  show (x.toArray.toList == y.toArray.toList) = _
  rw [Bool.eq_iff_iff, beq_iff_eq, decide_eq_true_eq]
  exact ⟨fun h => h.symm, fun h => h.symm⟩
theorem kinds_b (ys : List (List UInt8)) (x : List UInt8) : ∀ d ∈ ys.map fun y => Dat.bytes y.toArray, kindD d = kindD (.bytes x.toArray) := by
  intro d hd
  obtain ⟨y, _, rfl⟩ := List.mem_map.mp hd
  rfl
theorem any_b (ys : List (List UInt8)) (x : List UInt8) : ((ys.map fun y => Dat.bytes y.toArray).any (sameD · (.bytes x.toArray))) = decide (x ∈ ys) := by
  rw [List.any_map, Bool.eq_iff_iff, List.any_eq_true, decide_eq_true_eq]
  constructor
  · rintro ⟨y, hy, h⟩
    have h : sameD (.bytes y.toArray) (.bytes x.toArray) = true := h
    rw [same_b, decide_eq_true_eq] at h
    rw [h]; exact hy
  · intro h
    refine ⟨x, h, ?_⟩
    show sameD (.bytes x.toArray) (.bytes x.toArray) = true
    rw [same_b]; simp
theorem W2_notin_b {S : St} {Q : Dat → Prop} {x : List UInt8} (ys : List (List UInt8)) {ds : List Dat} (e : ds = ys.map fun y => Dat.bytes y.toArray) (q : Q (.bool (!decide (x ∈ ys)))) : W2 S (compareOp .NotIn) (.bytes x.toArray) (.tuple ds) Q := by
  subst e
  exact W2_notin (kinds_b ys x) (by simp [kindD]) (by rw [any_b]; exact q)
theorem W2_in_b {S : St} {Q : Dat → Prop} {x : List UInt8} (ys : List (List UInt8)) {ds : List Dat} (e : ds = ys.map fun y => Dat.bytes y.toArray) (q : Q (.bool (decide (x ∈ ys)))) : W2 S (compareOp .In) (.bytes x.toArray) (.tuple ds) Q := by
  subst e
  exact W2_in (kinds_b ys x) (by simp [kindD]) (by rw [any_b]; exact q)
noncomputable def preS (l : List UInt8) (n : Nat) : List UInt8 := if n = 0 then [] else [l.getD (n - 1) 0]
noncomputable def postS (l : List UInt8) (e : Nat) : List UInt8 := if e = l.length then [] else [l.getD e 0]
theorem pre_pick (l : List UInt8) (n : Nat) (hn : n ≤ l.length) : pick l (some (max ((n : Int) - 1) 0)) (some (n : Int)) = preS l n := by
  rw [show max ((n : Int) - 1) 0 = ((n - 1 : Nat) : Int) by walk_at "o", pick_nn]
  unfold preS
  by_cases h : n = 0
  · rw [if_pos h, h]; simp
  · rw [if_neg h, show n - (n - 1) = 1 by walk_at "o", List.drop_eq_getElem_cons (show n - 1 < l.length by walk_at "o"), List.getD_eq_getElem?_getD, List.getElem?_eq_getElem (show n - 1 < l.length by walk_at "o")]
    rfl
theorem post_pick (l : List UInt8) (e : Nat) (he : e ≤ l.length) : pick l (some (e : Int)) (some ((e : Int) + 1)) = postS l e := by
  rw [show (e : Int) + 1 = ((e + 1 : Nat) : Int) by walk_at "o", pick_nn]
  unfold postS
  by_cases h : e = l.length
  · rw [if_pos h, h]; simp
  · rw [if_neg h, show e + 1 - e = 1 by walk_at "o", List.drop_eq_getElem_cons (show e < l.length by walk_at "o"), List.getD_eq_getElem?_getD, List.getElem?_eq_getElem (show e < l.length by walk_at "o")]
    rfl
theorem apart_law (l : List UInt8) (b e : Nat) : isApart l b e = (decide (preS l b ∈ [[], [9], [10], [13], [32], [40]]) && decide (postS l e ∈ [[], [9], [10], [13], [32], [41]])) := by
  have h40 : ∀ c : UInt8, ((c.toNat : Int) = 40) ↔ c = 40 := fun c => u8_eq (n := 40) (by decide)
  have h41 : ∀ c : UInt8, ((c.toNat : Int) = 41) ↔ c = 41 := fun c => u8_eq (n := 41) (by decide)
  unfold isApart
  congr 1
  · unfold preS
    by_cases hb : b = 0
    · rw [if_pos hb, hb]; simp
    · rw [if_neg hb]
      generalize l.getD (b - 1) 0 = c
      have e0 : decide (0 < b) = true := decide_eq_true (by walk_at "o")
      have e1 : decide ((c.toNat : Int) ≠ 40) = !decide (c = 40) := by
        by_cases q : c = 40
        · simp [q]
        · have q' : ¬ (c.toNat : Int) = 40 := fun z => q ((h40 c).mp z)
          rw [decide_eq_true q', decide_eq_false q]; rfl
      rw [e0, e1]
      unfold wht
      rw [Bool.eq_iff_iff]
      simp
      constructor
      · rintro ((((h | h) | h) | h) | h)
        · exact .inl h
        · exact .inr (.inl h)
        · exact .inr (.inr (.inl h))
        · exact .inr (.inr (.inr (.inl h)))
        · exact .inr (.inr (.inr (.inr h)))
      · rintro (rfl | rfl | rfl | rfl | rfl) <;> simp
  · unfold postS
    by_cases he : e = l.length
    · rw [if_pos he, he]; simp
    · rw [if_neg he]
      generalize l.getD e 0 = c
      have e1 : decide ((c.toNat : Int) = 41) = decide (c = 41) := by
        by_cases q : c = 41
        · simp [q]
        · have q' : ¬ (c.toNat : Int) = 41 := fun z => q ((h41 c).mp z)
          rw [decide_eq_false q', decide_eq_false q]
      rw [decide_eq_false he, e1]
      unfold wht
      rw [Bool.eq_iff_iff]
      simp
      constructor
      · rintro ((((h | h) | h) | h) | h)
        · exact .inl h
        · exact .inr (.inl h)
        · exact .inr (.inr (.inl h))
        · exact .inr (.inr (.inr (.inl h)))
        · exact .inr (.inr (.inr (.inr h)))
      · rintro (h | h | h | h | h)
        · exact .inl (.inl (.inl (.inl h)))
        · exact .inl (.inl (.inl (.inr h)))
        · exact .inl (.inl (.inr h))
        · exact .inl (.inr h)
        · exact .inr h
end
section
open PySem PySem.W PyProof.Rows PySem.Calls PySem.SeqAt PySem.MeetsSeq
set_option maxRecDepth 100000
set_option maxHeartbeats 1000000 in
theorem sp_law_told (G : Gp) (ok : GOK G) (l : List UInt8) (hl : l.length ≤ 200) (n : Nat) (hn : n ≤ l.length) : Sp G 36 5 true [.bytes l.toArray, .int n] (· = wtD (wordAt l n)) := by
  refine enter (defAt 62) (dAt ok 36 62 rfl) (plain2 62 rfl (by intros; rfl) (by rfl) (by rfl) (by rfl) (by rfl) rfl rfl rfl) fun A L a code => ?_
  first | with_reducible refine WS_cons ?_ | refine WS_cons ?_
  walk_at "as"
  refine WE_def 33 (defAt 59) (dAt ok 33 59 rfl) rfl rfl ?_
  walk_at "w"
  refine May.mk' (sp_law_marked G ok l (by walk_at "o") n (by walk_at "o")) ?_ (show 1 ≤ 4 by decide) id
  rw [← parts_same]
  first | with_reducible refine then_next ?_ | refine then_next ?_
  first | with_reducible refine WS_cons ?_ | refine WS_cons ?_
  cases hp : wordParts l n with
  | none =>
    have hw : wordAt l n = none := by unfold wordAt; rw [hp]
    rw [hw]
    show WX _ (Sg.set _ _ (.val .none)) _ _
    first | with_reducible refine WX_if (WT_cmp ?_) | refine WX_if (WT_cmp ?_)
    refine WE_name rfl ?_
    first | with_reducible refine WE_none ?_ | refine WE_none ?_
    first | with_reducible refine W2_is ?_ | refine W2_is ?_
    first | with_reducible refine WB_bool ?_ | refine WB_bool ?_
    first | with_reducible refine yes ?_ | refine yes ?_
    walk_at "w"
    rfl
  | some p =>
    obtain ⟨f1, f2, f3, f4, f5⟩ := wp_facts hp
    have hw : wordAt l n = if isApart l n p.fin = true then wordOf p else none := by unfold wordAt; rw [hp]
    rw [hw, apart_law]
    show WX _ (Sg.set _ _ (.val (.tuple [.bytes p.cs.toArray, .bytes p.way.toArray, .bytes p.load.toArray, .int (p.fin : Int)]))) _ _
    first | with_reducible refine WX_if (WT_cmp ?_) | refine WX_if (WT_cmp ?_)
    refine WE_name rfl ?_
    first | with_reducible refine WE_none ?_ | refine WE_none ?_
    first | with_reducible refine W2_is ?_ | refine W2_is ?_
    first | with_reducible refine WB_bool ?_ | refine WB_bool ?_
    first | with_reducible refine no ?_ | refine no ?_
    first | with_reducible refine WS_nil ?_ | refine WS_nil ?_
    first | with_reducible refine then_next ?_ | refine then_next ?_
    first | with_reducible refine WS_cons ?_ | refine WS_cons ?_
    first | with_reducible refine WX_unpack ?_ | refine WX_unpack ?_
    refine WE_name rfl ?_
    refine WG_tuple (WGL_cons (WG_name (WGL_cons (WG_name (WGL_cons (WG_name (WGL_cons (WG_name (WGL_nil ?_) rfl (.inl rfl))) rfl (.inl rfl))) rfl (.inl rfl))) rfl (.inl rfl)))
    first | with_reducible refine then_next ?_ | refine then_next ?_
    first | with_reducible refine WS_cons ?_ | refine WS_cons ?_
    first | with_reducible refine WX_if (WT_bool (WA_or (WT_cmp ?_))) | refine WX_if (WT_bool (WA_or (WT_cmp ?_)))
    first | with_reducible refine WE_slice ?_ | refine WE_slice ?_
    refine WE_name rfl ?_
    refine wp_some ?_
    walk_at "bi"
    first | with_reducible refine WL_cons ?_ | refine WL_cons ?_
    first | with_reducible refine WE_bin ?_ | refine WE_bin ?_
    refine WE_name rfl ?_
    first | with_reducible refine WE_int ?_ | refine WE_int ?_
    first | with_reducible refine W2_sub' ?_ | refine W2_sub' ?_
    first | with_reducible refine WL_cons ?_ | refine WL_cons ?_
    first | with_reducible refine WE_int ?_ | refine WE_int ?_
    first | with_reducible refine WL_nil ?_ | refine WL_nil ?_
    refine V_max2 rfl ?_
    refine ex_int ?_
    refine wp_some ?_
    refine WE_name rfl ?_
    refine ex_int ?_
    refine slice_b (by walk_at "o") ?_
    rw [pre_pick l n hn]
    refine WE_is (.tuple ([[], [9], [10], [13], [32], [40]].map fun y => Dat.bytes y.toArray)) ?_ ?_
    · walk_at "w"
      exact ⟨by simp, rfl⟩
    refine W2_notin_b _ rfl ?_
    first | with_reducible refine WB_bool ?_ | refine WB_bool ?_
    cases hpre : decide (preS l n ∈ [[], [9], [10], [13], [32], [40]]) with
    | false =>
      first | with_reducible refine yes ?_ | refine yes ?_
      first | with_reducible refine yes ?_ | refine yes ?_
      walk_at "w"
      rfl
    | true =>
    rw [Bool.true_and]
    first | with_reducible refine no ?_ | refine no ?_
    refine WA_or (WT_cmp ?_)
    first | with_reducible refine WE_slice ?_ | refine WE_slice ?_
    refine WE_name rfl ?_
    refine wp_some ?_
    refine WE_name rfl ?_
    refine ex_int ?_
    refine wp_some ?_
    first | with_reducible refine WE_bin ?_ | refine WE_bin ?_
    refine WE_name rfl ?_
    first | with_reducible refine WE_int ?_ | refine WE_int ?_
    first | with_reducible refine W2_add ?_ | refine W2_add ?_
    refine ex_int ?_
    refine slice_b (by walk_at "o") ?_
    rw [post_pick l p.fin f4]
    refine WE_is (.tuple ([[], [9], [10], [13], [32], [41]].map fun y => Dat.bytes y.toArray)) ?_ ?_
    · walk_at "w"
      exact ⟨by simp, rfl⟩
    refine W2_notin_b _ rfl ?_
    first | with_reducible refine WB_bool ?_ | refine WB_bool ?_
    cases hpost : decide (postS l p.fin ∈ [[], [9], [10], [13], [32], [41]]) with
    | false =>
      first | with_reducible refine yes ?_ | refine yes ?_
      first | with_reducible refine yes ?_ | refine yes ?_
      walk_at "w"
      rfl
    | true =>
    rw [if_pos rfl]
    first | with_reducible refine no ?_ | refine no ?_
    refine WA_or_nil ?_
    first | with_reducible refine no ?_ | refine no ?_
    first | with_reducible refine WS_nil ?_ | refine WS_nil ?_
    first | with_reducible refine then_next ?_ | refine then_next ?_
    first | with_reducible refine WS_cons ?_ | refine WS_cons ?_
    walk_at "as"
    first | with_reducible refine WE_is (.str (strB ((p.cs.takeWhile (· != 42)).map lowB))) ?_ ?_ | refine WE_is (.str (strB ((p.cs.takeWhile (· != 42)).map lowB))) ?_ ?_
    · obtain ⟨h, t, hs⟩ := spl_ne 42 p.cs
      have hh := spl_head hs
      rw [← hh]
      have hhl : h.length ≤ p.cs.length := by rw [hh]; exact (List.takeWhile_sublist _).length_le
      have hha : ∀ c ∈ h, c.toNat < 128 := fun c hc => signs_lt f1 c (by rw [hh] at hc; exact (List.takeWhile_sublist _).mem hc)
      have htl : t.length ≤ 300 := by have := spl_len 42 p.cs []; change (spl 42 p.cs).length ≤ _ at this; rw [hs] at this; simp at this; walk_at "o"
      first | focus ((with_reducible refine WE_meth0 "str" "str.lower" F.plainAttrs_str F.slot_str_lower F.type_str_lower ?_ ?_ ?_); walk_at "m0") | refine WE_meth0 "str" "str.lower" F.plainAttrs_str F.slot_str_lower F.type_str_lower ?_
      first | focus ((with_reducible refine WE_meth "str" "str.join" F.plainAttrs_str F.slot_str_join F.type_str_join ?_ ?_ ?_ ?_ ?_ ?_); walk_at "mt") | refine WE_meth "str" "str.join" F.plainAttrs_str F.slot_str_join F.type_str_join ?_
      first | with_reducible refine WE_str ?_ | refine WE_str ?_
      refine ⟨rfl, ?_⟩
      first | with_reducible refine WL_cons ?_ | refine WL_cons ?_
      refine WE_comp ⟨rfl, by rfl, by rfl, by rfl⟩ rfl (WI_val (WE_sub ?_) rfl)
      first | focus ((with_reducible refine WE_meth "bytes" "bytes.split" PySem.W.FB.plainAttrs_bytes FB.slot_split FB.type_split ?_ ?_ ?_ ?_ ?_ ?_); walk_at "mt") | refine WE_meth "bytes" "bytes.split" PySem.W.FB.plainAttrs_bytes FB.slot_split FB.type_split ?_
      refine WE_name rfl ?_
      refine ⟨rfl, ?_⟩
      first | with_reducible refine WL_cons ?_ | refine WL_cons ?_
      first | with_reducible refine WE_bytes ?_ | refine WE_bytes ?_
      first | with_reducible refine WL_nil ?_ | refine WL_nil ?_
      refine V_splitB (c := 42) (by walk_at "o") ?_
      rw [hs]
      first | with_reducible refine WE_int ?_ | refine WE_int ?_
      refine W2_list_item (j := 0) (r := .bytes h.toArray) (by simp; walk_at "o") (StrLaws.seqIndex_nonneg (by decide) (by simp)) rfl ?_
      refine ⟨_, IV.bytes _, compAsk_map' h encB (fun c => .str ⟨#[c.toNat]⟩) rfl (by walk_at "o") (fun C i x hx => ?_) ?_⟩
      · refine WG_name ⟨Ext.set rfl, WF_nil ⟨fun _ => ?_, fun e => (nomatch e)⟩⟩ rfl (.inr rfl)
        walk_at "bi"
        first | with_reducible refine WL_cons ?_ | refine WL_cons ?_
        refine WE_name rfl ?_
        first | with_reducible refine WL_nil ?_ | refine WL_nil ?_
        have := x.toNat_lt
        exact V_chr (by walk_at "o") (by walk_at "o") rfl
      · first | with_reducible refine WL_nil ?_ | refine WL_nil ?_
        have e : (h.map fun c => Dat.str ⟨#[c.toNat]⟩) = ((h.map (·.toNat)).map fun c => (⟨#[c]⟩ : Str)).map Dat.str := by simp
        rw [e]
        refine V_join (joinOk_singles _ (by simp; walk_at "o")) ?_
        refine ⟨rfl, ?_⟩
        rw [join_singles]
        have hlo : Txt.lower (strB h) = strB (h.map lowB) := lower_B hha
        show WV _ _ [.str (strB h)] _
        refine V_lower (by rw [hlo, strB_len, List.length_map]; walk_at "o") ?_
        rw [hlo]
    first | with_reducible refine then_next ?_ | refine then_next ?_
    have hwo : wordOf p = if csName (strB ((p.cs.takeWhile (· != 42)).map lowB)) = "" ∨ ¬(upOf p.way = "Q" ∨ upOf p.way = "B") then none else some (txt (csName (strB ((p.cs.takeWhile (· != 42)).map lowB))) (rowOf p) 0, p.fin) := rfl
    rw [hwo]
    generalize strB ((p.cs.takeWhile (· != 42)).map lowB) = small
    have hrl := rowOf_len p
    have hro : rowOf p = if upOf p.way = "Q" then unqB (p.load.map under) else decB p.load := rfl
    generalize rowOf p = row at hrl hro
    first | with_reducible refine WS_cons ?_ | refine WS_cons ?_
    refine WX_assign_comp ⟨rfl, by rfl, by rfl, by rfl⟩ rfl rfl (WI_val (WE_glob rfl (by walk_at "kon") ?_) rfl)
    refine ⟨_, IV.tuple _, compAsk_gen nmRows (fun r => .tuple [.str r.1, .str r.2]) (fun r => decide (small ∈ Txt.split r.1 " ")) (fun r => .str r.2) rfl (by decide) (fun C i x hx => ?_) ?_⟩
    · have hx2 : x ∈ nmRows := List.mem_of_getElem? hx
      have hxl : (x.1).length ≤ 1000 := by
        have : ∀ r ∈ nmRows, r.1.length ≤ 1000 := by decide +kernel
        exact this x hx2
      refine WG_tuple (WGL_cons (WG_name (WGL_cons (WG_name (WGL_nil ⟨?_, WF_one ?_⟩) rfl (.inr rfl))) rfl (.inr rfl)))
      · exact Ext.trans (Ext.set rfl) (Ext.set rfl)
      · first | with_reducible refine WT_cmp ?_ | refine WT_cmp ?_
        refine WE_name rfl ?_
        first | focus ((with_reducible refine WE_meth "str" "str.split" F.plainAttrs_str F.slot_str_split F.type_str_split ?_ ?_ ?_ ?_ ?_ ?_); walk_at "mt") | refine WE_meth "str" "str.split" F.plainAttrs_str F.slot_str_split F.type_str_split ?_
        refine WE_name rfl ?_
        refine ⟨rfl, ?_⟩
        first | with_reducible refine WL_cons ?_ | refine WL_cons ?_
        first | with_reducible refine WE_str ?_ | refine WE_str ?_
        first | with_reducible refine WL_nil ?_ | refine WL_nil ?_
        refine V_split (by decide) (by walk_at "o") ?_
        refine W2_in_list ?_ (by simp [kindD]) ?_
        · intro d hd
          obtain ⟨y, _, rfl⟩ := List.mem_map.mp hd
          rfl
        · have e : (((Txt.split x.1 " ").map Dat.str).any (sameD · (.str small))) = decide (small ∈ Txt.split x.1 " ") := by
            rw [List.any_map, Bool.eq_iff_iff, List.any_eq_true, decide_eq_true_eq]
            have same : ∀ y : Str, sameD (.str y) (.str small) = true ↔ small = y := fun y => by
              show (y.cps.toList == small.cps.toList) = true ↔ _
              rw [beq_iff_eq, Array.toList_inj]
              exact ⟨fun h => (Str.ext' h).symm, fun h => by rw [h]⟩
            constructor
            · rintro ⟨y, hy, h⟩
              rw [(same y).mp h]; exact hy
            · intro h
              exact ⟨small, h, (same small).mpr rfl⟩
          rw [e]
          refine WB_bool ⟨fun h => ?_, fun h => h⟩
          refine WE_name rfl ?_
          exact ⟨h, rfl⟩
    · have hk := known_eq small
      change Then _ _ _ _ (Sg.set _ _ (.val (.list ((nmRows.filter fun r => decide (small ∈ Txt.split r.1 " ")).map fun r => Dat.str r.2))))
      rw [show ((nmRows.filter fun r => decide (small ∈ Txt.split r.1 " ")).map fun r => Dat.str r.2) = (knownOf small).map Dat.str from by unfold knownOf; rw [List.map_map]; rfl]
      have hkl : (knownOf small).length ≤ 3 := by
        unfold knownOf
        rw [List.length_map]
        exact List.length_filter_le _ _
      have hcs := csName_ok small
      generalize knownOf small = known at hk hkl
      generalize csName small = cs at hk hcs
      first | with_reducible refine then_next ?_ | refine then_next ?_
      first | with_reducible refine WS_cons ?_ | refine WS_cons ?_
      first | with_reducible refine WX_if (WT_bool (WA_or (WT_cmp ?_))) | refine WX_if (WT_bool (WA_or (WT_cmp ?_)))
      refine WE_name rfl ?_
      first | with_reducible refine WE_list ?_ | refine WE_list ?_
      refine WL_nil ⟨by simp, ?_⟩
      first | with_reducible refine W2_eq_nil ?_ | refine W2_eq_nil ?_
      first | with_reducible refine WB_bool ?_ | refine WB_bool ?_
      rw [List.isEmpty_map]
      cases known with
      | nil =>
        have hc0 : cs = "" := hk.2.mp rfl
        first | with_reducible refine yes ?_ | refine yes ?_
        first | with_reducible refine yes ?_ | refine yes ?_
        walk_at "w"
        rw [if_pos (.inl hc0)]; rfl
      | cons k0 kr =>
        have hc1 : ¬ cs = "" := fun q => by have := hk.2.mpr q; cases this
        have hk0 : k0 = cs := hk.1
        subst hk0
        first | with_reducible refine no ?_ | refine no ?_
        refine WA_or (WT_cmp ?_)
        refine WE_name rfl ?_
        refine WE_is (.tuple ([[81], [113], [66], [98]].map fun y => Dat.bytes y.toArray)) ?_ ?_
        · walk_at "w"
          exact ⟨by simp, rfl⟩
        refine W2_notin_b _ rfl ?_
        first | with_reducible refine WB_bool ?_ | refine WB_bool ?_
        by_cases hQ : p.way = [81] ∨ p.way = [113]
        · have uQ := (up_Q p.way).mpr hQ
          rw [if_neg (fun q => q.elim hc1 fun q => q (.inl uQ))]
          rw [if_pos uQ] at hro
          rw [decide_eq_true (show p.way ∈ [[81], [113], [66], [98]] by rcases hQ with h | h <;> rw [h] <;> simp)]
          first | with_reducible refine no ?_ | refine no ?_
          refine WA_or_nil ?_
          first | with_reducible refine no ?_ | refine no ?_
          first | with_reducible refine WS_nil ?_ | refine WS_nil ?_
          first | with_reducible refine then_next ?_ | refine then_next ?_
          first | with_reducible refine WS_cons ?_ | refine WS_cons ?_
          first | with_reducible refine WX_return ?_ | refine WX_return ?_
          first | with_reducible refine WE_tuple ?_ | refine WE_tuple ?_
          first | with_reducible refine WL_call ?_ | refine WL_call ?_
          refine WE_def 11 (defAt 24) (dAt ok 11 24 rfl) rfl rfl ?_
          first | with_reducible refine WL_cons ?_ | refine WL_cons ?_
          first | with_reducible refine WE_sub ?_ | refine WE_sub ?_
          refine WE_name rfl ?_
          first | with_reducible refine WE_int ?_ | refine WE_int ?_
          refine W2_list_item (j := 0) (r := .str k0) (by simp; simp at hkl; walk_at "o") (StrLaws.seqIndex_nonneg (by decide) (by simp)) rfl ?_
          first | with_reducible refine WL_cons ?_ | refine WL_cons ?_
          first | with_reducible refine WE_if (WT_cmp ?_) | refine WE_if (WT_cmp ?_)
          refine WE_name rfl ?_
          refine WE_is (.tuple ([[81], [113]].map fun y => Dat.bytes y.toArray)) ?_ ?_
          · walk_at "w"
            exact ⟨by simp, rfl⟩
          refine W2_in_b _ rfl ?_
          first | with_reducible refine WB_bool ?_ | refine WB_bool ?_
          rw [decide_eq_true (show p.way ∈ [[81], [113]] by rcases hQ with h | h <;> rw [h] <;> simp)]
          first | with_reducible refine yes ?_ | refine yes ?_
          refine WE_def 34 (defAt 60) (dAt ok 34 60 rfl) rfl rfl ?_
          first | with_reducible refine WL_cons ?_ | refine WL_cons ?_
          refine WE_name rfl ?_
          first | with_reducible refine WL_nil ?_ | refine WL_nil ?_
          refine May.mk' (sp_figured G ok p.load (by walk_at "o") (signs_lt f3)) ?_ (show 1 ≤ 4 by decide) id
          first | with_reducible refine WL_nil ?_ | refine WL_nil ?_
          rw [← hro]
          refine May.mk' (sp_text_in G ok true k0 (hcs.resolve_left hc1) (fun _ => rfl) row (by walk_at "o")) ?_ (show 4 ≤ 4 by decide) id
          first | with_reducible refine WL_cons ?_ | refine WL_cons ?_
          refine WE_name rfl ?_
          refine WL_nil ⟨by simp, ?_⟩
          rfl
        · have uQ : ¬ upOf p.way = "Q" := fun q => hQ ((up_Q p.way).mp q)
          rw [if_neg uQ] at hro
          by_cases hB : p.way = [66] ∨ p.way = [98]
          · have uB := (up_B p.way).mpr hB
            rw [if_neg (fun q => q.elim hc1 fun q => q (.inr uB))]
            rw [decide_eq_true (show p.way ∈ [[81], [113], [66], [98]] by rcases hB with h | h <;> rw [h] <;> simp)]
            first | with_reducible refine no ?_ | refine no ?_
            refine WA_or_nil ?_
            first | with_reducible refine no ?_ | refine no ?_
            first | with_reducible refine WS_nil ?_ | refine WS_nil ?_
            first | with_reducible refine then_next ?_ | refine then_next ?_
            first | with_reducible refine WS_cons ?_ | refine WS_cons ?_
            first | with_reducible refine WX_return ?_ | refine WX_return ?_
            first | with_reducible refine WE_tuple ?_ | refine WE_tuple ?_
            first | with_reducible refine WL_call ?_ | refine WL_call ?_
            refine WE_def 11 (defAt 24) (dAt ok 11 24 rfl) rfl rfl ?_
            first | with_reducible refine WL_cons ?_ | refine WL_cons ?_
            first | with_reducible refine WE_sub ?_ | refine WE_sub ?_
            refine WE_name rfl ?_
            first | with_reducible refine WE_int ?_ | refine WE_int ?_
            refine W2_list_item (j := 0) (r := .str k0) (by simp; simp at hkl; walk_at "o") (StrLaws.seqIndex_nonneg (by decide) (by simp)) rfl ?_
            first | with_reducible refine WL_cons ?_ | refine WL_cons ?_
            first | with_reducible refine WE_if (WT_cmp ?_) | refine WE_if (WT_cmp ?_)
            refine WE_name rfl ?_
            refine WE_is (.tuple ([[81], [113]].map fun y => Dat.bytes y.toArray)) ?_ ?_
            · walk_at "w"
              exact ⟨by simp, rfl⟩
            refine W2_in_b _ rfl ?_
            first | with_reducible refine WB_bool ?_ | refine WB_bool ?_
            rw [decide_eq_false (show ¬ p.way ∈ [[81], [113]] by intro q; simp at q; exact hQ q)]
            first | with_reducible refine no ?_ | refine no ?_
            refine WE_def 35 (defAt 61) (dAt ok 35 61 rfl) rfl rfl ?_
            first | with_reducible refine WL_cons ?_ | refine WL_cons ?_
            refine WE_name rfl ?_
            first | with_reducible refine WL_nil ?_ | refine WL_nil ?_
            refine May.mk' (sp_sixes G ok p.load (by walk_at "o")) ?_ (show 1 ≤ 4 by decide) id
            first | with_reducible refine WL_nil ?_ | refine WL_nil ?_
            rw [← hro]
            refine May.mk' (sp_text_in G ok true k0 (hcs.resolve_left hc1) (fun _ => rfl) row (by walk_at "o")) ?_ (show 4 ≤ 4 by decide) id
            first | with_reducible refine WL_cons ?_ | refine WL_cons ?_
            refine WE_name rfl ?_
            refine WL_nil ⟨by simp, ?_⟩
            rfl
          · have uB : ¬ upOf p.way = "B" := fun q => hB ((up_B p.way).mp q)
            rw [if_pos (.inr fun q => q.elim uQ uB)]
            rw [decide_eq_false (show ¬ p.way ∈ [[81], [113], [66], [98]] by
              intro q
              simp at q
              rcases q with q | q | q | q
              · exact hQ (.inl q)
              · exact hQ (.inr q)
              · exact hB (.inl q)
              · exact hB (.inr q))]
            first | with_reducible refine yes ?_ | refine yes ?_
            first | with_reducible refine yes ?_ | refine yes ?_
            walk_at "w"
            rfl
end
section
open PySem PySem.W PyProof.Rows PySem.Calls PySem.SeqAt PySem.MeetsSeq
set_option maxRecDepth 100000
theorem W2_addsB {S : St} {Q : Dat → Prop} {a b : List UInt8} (hz : a.length + b.length ≤ 1000) (q : Q (.str (strB (a ++ b)))) : W2 S (binaryOp .Add) (.str (strB a)) (.str (strB b)) Q := by
  refine W2_adds (by rw [strB_len, strB_len]; walk_at "o") ?_
  have e : strB a ++ strB b = strB (a ++ b) := by
    apply Str.ext'
    apply Array.toList_inj.mp
    rw [Str.cps_append, Array.toList_append, strB_cps, strB_cps, strB_cps, List.map_append]
  rw [e]; exact q
noncomputable def Asc (k : Nat) (m : List UInt8) : Prop := m.length ≤ k ∧ ∀ c ∈ m, c.toNat < 128
noncomputable def ascS (k : Nat) (x : Str) : Bool := decide (x.cps.toList.length ≤ k) && x.cps.toList.all (· < 128)
theorem asc_of {k : Nat} {x : Str} (h : ascS k x = true) : ∃ m, x = strB m ∧ Asc k m := by
  unfold ascS at h
  rw [Bool.and_eq_true, decide_eq_true_eq, List.all_eq_true] at h
  refine ⟨x.cps.toList.map UInt8.ofNat, ?_, by simpa using h.1, fun c hc => ?_⟩
  · apply Str.ext'
    apply Array.toList_inj.mp
    rw [strB_cps, List.map_map]
    conv => lhs; rw [← List.map_id x.cps.toList]
    refine List.map_congr_left fun c hc => ?_
    have := h.2 c hc
    simp at this
    simp [UInt8.toNat_ofNat']
    walk_at "o"
  · obtain ⟨d, hd, rfl⟩ := List.mem_map.mp hc
    have := h.2 d hd
    simp at this
    simp [UInt8.toNat_ofNat']
    walk_at "o"
theorem tup_pick {S : St} {Q : Dat → Prop} {b i : Expr} (xs : List Str) {ds : List Dat} {c : Nat} (e : ds = xs.map .str) (hl : xs.length ≤ 100) (hc : c < xs.length) {k : Nat} (ha : ∀ x ∈ xs, ascS k x = true) (q : ∀ m, Asc k m → Q (.str (strB m)))
    (hs : ∀ o u, subscripted i false o u = operate [o, u] (getItem o u) := by intro _ _; with_unfolding_all rfl) : W2 S (subscriptTail b i) (.tuple ds) (.int (c : Int)) Q := by
  subst e
  obtain ⟨m, hm, ham⟩ := asc_of (ha _ (List.getElem_mem hc))
  refine W2_tuple_item (j := c) (r := .str xs[c]) (by simp; walk_at "o") (by rw [List.length_map]; exact StrLaws.seqIndex_nonneg (by walk_at "o") (by walk_at "o")) (by rw [List.getElem?_map, List.getElem?_eq_getElem hc]; rfl) ?_ (by walk_at "o") (hs := hs)
  rw [hm]; exact q m ham
theorem list_pick {S : St} {Q : Dat → Prop} {b i : Expr} (xs : List Str) {ds : List Dat} {c : Nat} (e : ds = xs.map .str) (hl : xs.length ≤ 100) (hc : c < xs.length) {k : Nat} (ha : ∀ x ∈ xs, ascS k x = true) (q : ∀ m, Asc k m → Q (.str (strB m)))
    (hs : ∀ o u, subscripted i false o u = operate [o, u] (getItem o u) := by intro _ _; with_unfolding_all rfl) : W2 S (subscriptTail b i) (.list ds) (.int (c : Int)) Q := by
  subst e
  obtain ⟨m, hm, ham⟩ := asc_of (ha _ (List.getElem_mem hc))
  refine W2_list_item (j := c) (r := .str xs[c]) (by simp; walk_at "o") (by rw [List.length_map]; exact StrLaws.seqIndex_nonneg (by walk_at "o") (by walk_at "o")) (by rw [List.getElem?_map, List.getElem?_eq_getElem hc]; rfl) ?_ (hs := hs)
  rw [hm]; exact q m ham
theorem WE_drawE {S : St} {σ : Sg} {Q : Dat → Prop} {p xp pos : Pos} {x : Str} {e : Expr} (ok : GOK S.G) (hx : σ.get x = some .tape) (hd : 1 ≤ S.dp) (hk : S.env.kindOf "_law_draw" = some .globalImplicit)
    (h : WE S σ e fun d => ∃ m : Int, d = .int m ∧ 0 < m ∧ m ≤ 65536 ∧ ∀ c : Nat, (c : Int) < m → Q (.int (c : Int))) (he : ∀ env, starEach [.Name x xp, e] env = (false, eval (.Name x xp) env) :: starEach [e] env) (he2 : ∀ env, starEach [e] env = (false, eval e env) :: starEach [] env) (hdx : (x == ("__debug__" : Str)) = false := by decide) :
    WE S σ (.Call (.Name "_law_draw" p) [.Name x xp, e] [] pos) Q := by
  refine WE_defT hx 28 (defAt 54) (dAt ok 28 54 rfl) rfl hk ?_ he (by decide) hdx
  refine WL_cons (h.mono fun d hd' => WL_nil ?_) he2
  obtain ⟨m, rfl, h0, h1, q⟩ := hd'
  refine MayT.mk2 (sp_draw S.G ok false m h0 h1) (fun d hd => ?_) hd (fun e => by cases e)
  obtain ⟨c, rfl, c0, c1⟩ := hd
  obtain ⟨n, rfl⟩ := Int.eq_ofNat_of_zero_le c0
  exact q n c1
theorem upB_lt : ∀ c : UInt8, c.toNat < 128 → (upB c).toNat < 128 := all8 (by decide +kernel)
noncomputable def bitOf (g : Int) (i : Nat) : Bool := Builtin.bitAnd (g.fdiv (2 ^ i)) 1 == 1
noncomputable def raised (g : Int) (m : List UInt8) : List UInt8 := m.zipIdx.map fun p => if bitOf g p.2 = true then upB p.1 else p.1
theorem raised_asc {k : Nat} {g : Int} {m : List UInt8} (h : Asc k m) : Asc k (raised g m) := by
  refine ⟨by simpa [raised] using h.1, fun c hc => ?_⟩
  obtain ⟨p, hp, rfl⟩ := List.mem_map.mp hc
  have hm : p.1 ∈ m := (List.mem_zipIdx' hp).2 ▸ List.getElem_mem _
  have := h.2 _ hm
  split
  · exact upB_lt _ this
  · exact this
theorem nm_rows : ∀ r ∈ nmRows, ∃ xs, Txt.split r.1 " " = xs ∧ 1 ≤ xs.length ∧ xs.length ≤ 9 ∧ ∀ x ∈ xs, ascS 16 x = true := by
  intro r hr
  simp only [nmRows, List.mem_cons, List.not_mem_nil, or_false] at hr
  rcases hr with rfl | rfl | rfl
  · exact ⟨as1, split1, by decide, by decide, by decide +kernel⟩
  · exact ⟨as2, split2, by decide, by decide, by decide +kernel⟩
  · exact ⟨as3, split3, by decide, by decide, by decide +kernel⟩
end
section
open PySem PySem.W PyProof.Rows PySem.Calls PySem.SeqAt PySem.MeetsSeq
set_option maxRecDepth 100000
theorem raised_cons (g : Int) (m : List UInt8) : (raised g m).map (·.toNat) = m.zipIdx.map fun p => (if bitOf g p.2 = true then upB p.1 else p.1).toNat := by unfold raised; rw [List.map_map]; rfl
set_option maxHeartbeats 1000000 in
theorem sp_word (G : Gp) (ok : GOK G) : SpT G 31 3 true [] (fun d => ∃ l : List UInt8, d = .bytes l.toArray ∧ 1 ≤ l.length ∧ l.length ≤ 38) := by
  refine enterT (defAt 57) (dAt ok 31 57 rfl) (plain1 57 rfl (by intros; rfl) (by rfl) (by rfl) (by rfl) (by rfl) rfl rfl rfl) "tape" [] rfl fun A L a code tn ta tc => ?_
  first | with_reducible refine WS_cons ?_ | refine WS_cons ?_
  walk_at "as"
  first | focus ((with_reducible refine WE_meth "str" "str.split" F.plainAttrs_str F.slot_str_split F.type_str_split ?_ ?_ ?_ ?_ ?_ ?_); walk_at "mt") | refine WE_meth "str" "str.split" F.plainAttrs_str F.slot_str_split F.type_str_split ?_
  first | with_reducible refine WE_sub ?_ | refine WE_sub ?_
  first | with_reducible refine WE_sub ?_ | refine WE_sub ?_
  refine WE_glob rfl (by walk_at "kon") ?_
  refine WE_draw ok rfl (by decide) (by decide) (show 1 ≤ 2 by decide) rfl fun c hc => ?_
  have hc3 : c < nmRows.length := by show c < 3; walk_at "o"
  obtain ⟨xs, hxs, hx1, hx9, hxa⟩ := nm_rows nmRows[c] (List.getElem_mem hc3)
  refine W2_tuple_item (j := c) (r := .tuple [.str nmRows[c].1, .str nmRows[c].2]) (by simp) (StrLaws.seqIndex_nonneg (by walk_at "o") (by simp; walk_at "o")) ?_ ?_ (by walk_at "o")
  · show (nmRows.map fun r => Dat.tuple [.str r.1, .str r.2])[c]? = _
    rw [List.getElem?_map, List.getElem?_eq_getElem hc3]; rfl
  first | with_reducible refine WE_int ?_ | refine WE_int ?_
  refine W2_tuple_item (j := 0) (by simp) rfl rfl ?_ (by decide)
  refine ⟨rfl, ?_⟩
  first | with_reducible refine WL_cons ?_ | refine WL_cons ?_
  first | with_reducible refine WE_str ?_ | refine WE_str ?_
  first | with_reducible refine WL_nil ?_ | refine WL_nil ?_
  have hrl : (nmRows[c].1).length ≤ 1000 := by
    have : ∀ r ∈ nmRows, r.1.length ≤ 1000 := by decide +kernel
    exact this _ (List.getElem_mem hc3)
  refine V_split (by decide) (by walk_at "o") ?_
  rw [hxs]
  first | with_reducible refine then_next ?_ | refine then_next ?_
  first | with_reducible refine WS_cons ?_ | refine WS_cons ?_
  first | with_reducible refine WX_unpack (WE_tuple ?_) | refine WX_unpack (WE_tuple ?_)
  first | with_reducible refine WL_cons ?_ | refine WL_cons ?_
  first | with_reducible refine WE_sub ?_ | refine WE_sub ?_
  refine WE_name rfl ?_
  refine WE_drawE ok rfl (show 1 ≤ 2 by decide) rfl ?_ (by intro _; rfl) (by intro _; rfl)
  walk_at "bi"
  first | with_reducible refine WL_cons ?_ | refine WL_cons ?_
  refine WE_name rfl ?_
  first | with_reducible refine WL_nil ?_ | refine WL_nil ?_
  refine V_lenl (by simp; walk_at "o") ?_
  rw [List.length_map]
  refine ⟨xs.length, rfl, by walk_at "o", by walk_at "o", fun i hi => ?_⟩
  refine list_pick xs rfl (by walk_at "o") (by walk_at "o") hxa fun m hm => ?_
  first | with_reducible refine WL_call ?_ | refine WL_call ?_
  refine WE_draw ok rfl (by decide) (by decide) (show 1 ≤ 2 by decide) rfl fun g hg => ?_
  refine WL_nil ⟨by simp, ?_⟩
  refine WG_tuple (WGL_cons (WG_name (WGL_cons (WG_name (WGL_nil ?_) rfl (.inl rfl))) rfl (.inl rfl)))
  first | with_reducible refine then_next ?_ | refine then_next ?_
  first | with_reducible refine WS_cons ?_ | refine WS_cons ?_
  walk_at "as"
  first | with_reducible refine WE_sub ?_ | refine WE_sub ?_
  first | with_reducible refine WE_tuple ?_ | refine WE_tuple ?_
  first | with_reducible refine WL_cons ?_ | refine WL_cons ?_
  first | with_reducible refine WE_str ?_ | refine WE_str ?_
  first | with_reducible refine WL_cons ?_ | refine WL_cons ?_
  first | with_reducible refine WE_str ?_ | refine WE_str ?_
  first | with_reducible refine WL_cons ?_ | refine WL_cons ?_
  first | with_reducible refine WE_str ?_ | refine WE_str ?_
  first | with_reducible refine WL_cons ?_ | refine WL_cons ?_
  first | with_reducible refine WE_str ?_ | refine WE_str ?_
  first | with_reducible refine WL_cons ?_ | refine WL_cons ?_
  first | with_reducible refine WE_str ?_ | refine WE_str ?_
  refine WL_nil ⟨by simp, ?_⟩
  refine WE_draw ok rfl (by decide) (by decide) (show 1 ≤ 2 by decide) rfl fun c2 hc2 => ?_
  refine tup_pick (k := 3) ["", "", "*en", "*", "*x*"] rfl (by simp) (by simp; walk_at "o") (by decide) fun t ht => ?_
  first | with_reducible refine then_next ?_ | refine then_next ?_
  first | with_reducible refine WS_cons ?_ | refine WS_cons ?_
  walk_at "as"
  first | with_reducible refine WE_sub ?_ | refine WE_sub ?_
  first | with_reducible refine WE_tuple ?_ | refine WE_tuple ?_
  first | with_reducible refine WL_cons ?_ | refine WL_cons ?_
  first | with_reducible refine WE_str ?_ | refine WE_str ?_
  first | with_reducible refine WL_cons ?_ | refine WL_cons ?_
  first | with_reducible refine WE_str ?_ | refine WE_str ?_
  first | with_reducible refine WL_cons ?_ | refine WL_cons ?_
  first | with_reducible refine WE_str ?_ | refine WE_str ?_
  first | with_reducible refine WL_cons ?_ | refine WL_cons ?_
  first | with_reducible refine WE_str ?_ | refine WE_str ?_
  first | with_reducible refine WL_cons ?_ | refine WL_cons ?_
  first | with_reducible refine WE_str ?_ | refine WE_str ?_
  first | with_reducible refine WL_cons ?_ | refine WL_cons ?_
  first | with_reducible refine WE_str ?_ | refine WE_str ?_
  first | with_reducible refine WL_cons ?_ | refine WL_cons ?_
  first | with_reducible refine WE_str ?_ | refine WE_str ?_
  first | with_reducible refine WL_cons ?_ | refine WL_cons ?_
  first | with_reducible refine WE_str ?_ | refine WE_str ?_
  refine WL_nil ⟨by simp, ?_⟩
  refine WE_draw ok rfl (by decide) (by decide) (show 1 ≤ 2 by decide) rfl fun c3 hc3 => ?_
  refine tup_pick (k := 1) ["Q", "B", "q", "b", "Q", "B", "R", ""] rfl (by simp) (by simp; walk_at "o") (by decide) fun w hw => ?_
  first | with_reducible refine then_next ?_ | refine then_next ?_
  first | with_reducible refine WS_cons ?_ | refine WS_cons ?_
  refine WX_assign_comp ⟨rfl, by rfl, by rfl, by rfl⟩ rfl rfl (WI_enum rfl (GOK.bEnum ok) (by kernel_rfl) rfl (WE_name rfl (.inr ⟨strB m, rfl, ?_⟩)))
  refine compAsk_map' m.zipIdx (fun p => .tuple [.int (p.2 : Int), .str ⟨#[p.1.toNat]⟩]) (fun p => .str ⟨#[(if bitOf g p.2 = true then upB p.1 else p.1).toNat]⟩) ?_ ?_ (fun C i x hx => ?_) ?_
  · simp only [enumD, strB_cps, List.map_map, List.zipIdx_map]
    rfl
  · have := hm.1
    simp; walk_at "o"
  · have hx8 : x.1.toNat < 128 := hm.2 _ ((List.mem_zipIdx' (List.mem_of_getElem? hx)).2 ▸ List.getElem_mem _)
    refine WG_tuple (WGL_cons (WG_name (WGL_cons (WG_name (WGL_nil ⟨?_, WF_nil ⟨fun _ => ?_, fun e => (nomatch e)⟩⟩) rfl (.inr rfl))) rfl (.inr rfl)))
    · exact Ext.trans (Ext.set rfl) (Ext.set rfl)
    · first | with_reducible refine WE_if (WT_cmp ?_) | refine WE_if (WT_cmp ?_)
      first | with_reducible refine WE_bin ?_ | refine WE_bin ?_
      first | with_reducible refine WE_bin ?_ | refine WE_bin ?_
      refine WE_name rfl ?_
      refine WE_name rfl ?_
      refine W2_shr (by { omega }) ?_
      first | with_reducible refine WE_int ?_ | refine WE_int ?_
      first | with_reducible refine W2_band ?_ | refine W2_band ?_
      first | with_reducible refine WE_int ?_ | refine WE_int ?_
      first | with_reducible refine W2_eq ?_ | refine W2_eq ?_
      first | with_reducible refine WB_bool ?_ | refine WB_bool ?_
      have hb : bitOf g x.2 = (Builtin.bitAnd ((g : Int).fdiv (2 ^ (x.2 : Int).toNat)) 1 == 1) := rfl
      rw [← hb]
      cases hbit : bitOf g x.2 with
      | true =>
        first | with_reducible refine yes ?_ | refine yes ?_
        first | focus ((with_reducible refine WE_meth0 "str" "str.upper" F.plainAttrs_str F.slot_str_upper F.type_str_upper ?_ ?_ ?_); walk_at "m0") | refine WE_meth0 "str" "str.upper" F.plainAttrs_str F.slot_str_upper F.type_str_upper ?_
        refine WE_name rfl ?_
        refine ⟨rfl, ?_⟩
        have hup : Txt.upper ⟨#[x.1.toNat]⟩ = strB [upB x.1] := by
          have := upper_B (l := [x.1]) (fun c hc => by rw [List.mem_singleton.mp hc]; exact hx8)
          exact this
        refine V_upper (by rw [hup, strB_len]; show 1 ≤ 1000000; decide) ?_
        rw [hup]; rfl
      | false =>
        first | with_reducible refine no ?_ | refine no ?_
        refine WE_name rfl ?_
        rfl
  · have e : (m.zipIdx.map fun p => Dat.str ⟨#[(if bitOf g p.2 = true then upB p.1 else p.1).toNat]⟩) = (((raised g m).map (·.toNat)).map fun c => (⟨#[c]⟩ : Str)).map Dat.str := by
      rw [raised_cons]; simp
    rw [e]
    have hr := raised_asc (g := g) hm
    generalize raised g m = r at hr
    first | with_reducible refine then_next ?_ | refine then_next ?_
    first | with_reducible refine WS_cons ?_ | refine WS_cons ?_
    walk_at "as"
    first | with_reducible refine WE_is (.str (strB ([61, 63] ++ r ++ t ++ [63] ++ w ++ [63]))) ?_ ?_ | refine WE_is (.str (strB ([61, 63] ++ r ++ t ++ [63] ++ w ++ [63]))) ?_ ?_
    · first | with_reducible refine WE_bin ?_ | refine WE_bin ?_
      first | with_reducible refine WE_bin ?_ | refine WE_bin ?_
      first | with_reducible refine WE_bin ?_ | refine WE_bin ?_
      first | with_reducible refine WE_bin ?_ | refine WE_bin ?_
      first | with_reducible refine WE_bin ?_ | refine WE_bin ?_
      refine WE_is (.str (strB [61, 63])) (WE_str rfl) ?_
      first | focus ((with_reducible refine WE_meth "str" "str.join" F.plainAttrs_str F.slot_str_join F.type_str_join ?_ ?_ ?_ ?_ ?_ ?_); walk_at "mt") | refine WE_meth "str" "str.join" F.plainAttrs_str F.slot_str_join F.type_str_join ?_
      first | with_reducible refine WE_str ?_ | refine WE_str ?_
      refine ⟨rfl, ?_⟩
      first | with_reducible refine WL_cons ?_ | refine WL_cons ?_
      refine WE_name rfl ?_
      first | with_reducible refine WL_nil ?_ | refine WL_nil ?_
      have h1 := hr.1
      have h2 := ht.1
      have h3 := hw.1
      refine V_join (joinOk_singles _ (by simp; walk_at "o")) ?_
      rw [join_singles]
      refine W2_addsB (b := r) (by simp; walk_at "o") ?_
      refine WE_name rfl ?_
      refine W2_addsB (by simp; walk_at "o") ?_
      refine WE_is (.str (strB [63])) (WE_str rfl) ?_
      refine W2_addsB (by simp; walk_at "o") ?_
      refine WE_name rfl ?_
      refine W2_addsB (by simp; walk_at "o") ?_
      refine WE_is (.str (strB [63])) (WE_str rfl) ?_
      refine W2_addsB (by simp; walk_at "o") ?_
      rfl
    have hlen : ([61, 63] ++ r ++ t ++ [63] ++ w ++ [63] : List UInt8).length ≤ 24 := by
      have h1 := hr.1
      have h2 := ht.1
      have h3 := hw.1
      simp; walk_at "o"
    generalize ([61, 63] ++ r ++ t ++ [63] ++ w ++ [63] : List UInt8) = hd at hlen
    first | with_reducible refine then_next ?_ | refine then_next ?_
    first | with_reducible refine WS_cons ?_ | refine WS_cons ?_
    first | with_reducible refine WX_return ?_ | refine WX_return ?_
    first | with_reducible refine WE_bin ?_ | refine WE_bin ?_
    first | with_reducible refine WE_bin ?_ | refine WE_bin ?_
    walk_at "bi"
    first | with_reducible refine WL_cons ?_ | refine WL_cons ?_
    refine WE_comp ⟨rfl, by rfl, by rfl, by rfl⟩ rfl (WI_val (WE_name rfl ⟨_, IV.str _, compAsk_map' hd (fun c => .str ⟨#[c.toNat]⟩) encB (by simp [strB]) (by walk_at "o") (fun C i x hx => ?_) ?_⟩) rfl)
    · refine WG_name ⟨Ext.set rfl, WF_nil ⟨fun _ => ?_, fun e => (nomatch e)⟩⟩ rfl (.inr rfl)
      walk_at "bi"
      first | with_reducible refine WL_cons ?_ | refine WL_cons ?_
      refine WE_name rfl ?_
      first | with_reducible refine WL_nil ?_ | refine WL_nil ?_
      exact V_ord rfl
    · first | with_reducible refine WL_nil ?_ | refine WL_nil ?_
      have e2 : hd.map encB = (hd.map fun c => ((c.toNat : Nat) : Int)).map Dat.int := by simp
      rw [e2]
      refine V_bytes rfl (fun n hn => ?_) (by simp; walk_at "o") ?_
      · obtain ⟨c, _, rfl⟩ := List.mem_map.mp hn
        have := c.toNat_lt
        walk_at "o"
      have e3 : (hd.map fun c => ((c.toNat : Nat) : Int)).map byteOf = hd := by
        rw [List.map_map]
        conv => rhs; rw [← List.map_id hd]
        refine List.map_congr_left fun c _ => ?_
        simp [byteOf]
      rw [e3]
      refine WE_defT rfl 30 (defAt 56) (dAt ok 30 56 rfl) rfl rfl ?_
      first | with_reducible refine WL_nil ?_ | refine WL_nil ?_
      refine MayT.mk2 (sp_load G ok) (fun d hd2 => ?_) (show 2 ≤ 2 by decide) id
      obtain ⟨l, rfl, hl⟩ := hd2
      refine W2_addbL (by walk_at "o") ?_
      first | with_reducible refine WE_bytes ?_ | refine WE_bytes ?_
      refine W2_addbL (by simp; walk_at "o") ?_
      exact ⟨_, rfl, by simp; walk_at "o", by simp; walk_at "o"⟩
end
section
open PySem PySem.W PyProof.Rows PySem.Calls PySem.SeqAt PySem.MeetsSeq
set_option maxRecDepth 100000
noncomputable def encP (p : Nat × Nat) : Dat := .tuple [.int (p.1 : Int), .int (p.2 : Int)]
noncomputable abbrev OctQ (d : Dat) : Prop := ∃ l : List UInt8, d = .bytes l.toArray ∧ l.length ≤ 82
set_option maxHeartbeats 1000000 in
theorem sp_octets (G : Gp) (ok : GOK G) : SpT G 32 4 true [] (fun d => ∃ l : List UInt8, d = .bytes l.toArray ∧ l.length ≤ 82) := by
  refine enterT (defAt 58) (dAt ok 32 58 rfl) (plain1 58 rfl (by intros; rfl) (by rfl) (by rfl) (by rfl) (by rfl) rfl rfl rfl) "tape" [] rfl fun A L a code tn ta tc => ?_
  first | with_reducible refine WS_cons ?_ | refine WS_cons ?_
  refine WX_assign_comp ⟨rfl, by rfl, by rfl, by rfl⟩ rfl rfl (WI_range1 rfl (GOK.bRange ok) (by kernel_rfl) rfl (WE_draw ok rfl (by decide) (by decide) (show 1 ≤ 3 by decide) rfl fun c hc => ⟨c, c, rfl, range1 c (by walk_at "o"), ?_⟩))
  refine ⟨by rw [steps_length]; walk_at "o", fun i outs => ∃ ps : List (Nat × Nat), outs = ps.map encP ∧ ∀ p ∈ ps, p.1 < 96 ∧ p.2 < 256, ⟨[], rfl, by simp⟩, ?_, ?_⟩
  · rintro C i d outs hd ⟨ps, rfl, hps⟩
    refine WG_name ⟨Ext.set rfl, WF_nil ⟨fun _ => ?_, fun e => (nomatch e)⟩⟩ rfl (.inr rfl)
    first | with_reducible refine WE_tuple ?_ | refine WE_tuple ?_
    first | with_reducible refine WL_call ?_ | refine WL_call ?_
    refine WE_draw ok rfl (by decide) (by decide) (show 1 ≤ 3 by decide) rfl fun x hx => ?_
    first | with_reducible refine WL_call ?_ | refine WL_call ?_
    refine WE_draw ok rfl (by decide) (by decide) (show 1 ≤ 3 by decide) rfl fun y hy => ?_
    refine WL_nil ⟨by simp, ?_⟩
    refine ⟨ps ++ [(x, y)], by rw [List.map_append]; rfl, fun p hp => ?_⟩
    rcases List.mem_append.mp hp with hp | hp
    · exact hps p hp
    · rw [List.mem_singleton.mp hp]; exact ⟨by walk_at "o", by walk_at "o"⟩
  · rintro outs ⟨ps, rfl, hps⟩
    first | with_reducible refine then_next ?_ | refine then_next ?_
    first | with_reducible refine WS_cons ?_ | refine WS_cons ?_
    walk_at "as"
    refine WE_defT rfl 29 (defAt 55) (dAt ok 29 55 rfl) rfl rfl ?_
    first | with_reducible refine WL_nil ?_ | refine WL_nil ?_
    refine MayT.mk2 (sp_gap G ok) (fun d hd => ?_) (show 2 ≤ 3 by decide) id
    obtain ⟨l0, rfl, hl0⟩ := hd
    first | with_reducible refine then_next ?_ | refine then_next ?_
    first | with_reducible refine WS_cons ?_ | refine WS_cons ?_
    refine WX_forX (WI_range1 rfl (GOK.bRange ok) (by kernel_rfl) rfl ?_)
    first | with_reducible refine WE_bin ?_ | refine WE_bin ?_
    first | with_reducible refine WE_int ?_ | refine WE_int ?_
    refine WE_draw ok rfl (by decide) (by decide) (show 1 ≤ 3 by decide) rfl fun c2 hc2 => ?_
    first | with_reducible refine W2_add ?_ | refine W2_add ?_
    refine ⟨1 + c2, 1 + c2, rfl, ?_, ?_⟩
    · have := range1 (1 + c2) (by walk_at "o")
      simpa using this
    refine ⟨fun i σ' => ∃ l : List UInt8, l.length ≤ 2 + 40 * i ∧ (1 ≤ i → 1 ≤ l.length) ∧ σ' = tpB (vr "spoils" (.list (ps.map encP)) (vr "data" (.bytes l.toArray) [])), _, Ext.cons rfl (ext_vr rfl (ext_vr rfl Ext.nil)), ⟨l0, by walk_at "o", fun h => absurd h (by decide), rfl⟩, ?_, ?_⟩
    · rintro i d σ' hd ⟨l, hl, hl1, rfl⟩
      refine tgHide fun zJ zQ zi zk => ?_
      have hi := steps_bound hd
      refine WG_name ?_ rfl (.inl rfl)
      first | with_reducible refine WS_cons ?_ | refine WS_cons ?_
      walk_at "as"
      first | with_reducible refine WE_bin ?_ | refine WE_bin ?_
      refine WE_name rfl ?_
      refine WE_defT rfl 31 (defAt 57) (dAt ok 31 57 rfl) rfl rfl ?_
      first | with_reducible refine WL_nil ?_ | refine WL_nil ?_
      refine MayT.mk2 (sp_word G ok) (fun d hd => ?_) (show 3 ≤ 3 by decide) id
      obtain ⟨w, rfl, hw1, hw2⟩ := hd
      refine W2_addbL (by walk_at "o") ?_
      first | with_reducible refine then_next ?_ | refine then_next ?_
      first | with_reducible refine WS_cons ?_ | refine WS_cons ?_
      walk_at "as"
      first | with_reducible refine WE_bin ?_ | refine WE_bin ?_
      refine WE_name rfl ?_
      refine WE_defT rfl 29 (defAt 55) (dAt ok 29 55 rfl) rfl rfl ?_
      first | with_reducible refine WL_nil ?_ | refine WL_nil ?_
      refine MayT.mk2 (sp_gap G ok) (fun d hd => ?_) (show 2 ≤ 3 by decide) id
      obtain ⟨g, rfl, hg⟩ := hd
      refine W2_addbL (by simp; walk_at "o") ?_
      first | with_reducible refine then_next ?_ | refine then_next ?_
      first | with_reducible refine WS_nil ?_ | refine WS_nil ?_
      exact turn_next (zi _ ⟨tpB (vr "spoils" (.list (ps.map encP)) (vr "data" (.bytes (l ++ w ++ g).toArray) [])), Ext.cons rfl (ext_vr rfl (ext_vr rfl Ext.nil)), l ++ w ++ g, by simp; walk_at "o", fun _ => by simp; walk_at "o", rfl⟩)
    · rintro σ' ⟨l, hl, hl1, rfl⟩
      rw [steps_length] at hl hl1
      have hl1 := hl1 (by walk_at "o")
      have hl2 : l.length ≤ 82 := by walk_at "o"
      first | with_reducible refine then_next ?_ | refine then_next ?_
      first | with_reducible refine WS_cons ?_ | refine WS_cons ?_
      refine WX_forX (WI_val (WE_name rfl ⟨_, IV.list _, ?_⟩) rfl)
      refine ⟨fun i σ' => ∃ l : List UInt8, 1 ≤ l.length ∧ l.length ≤ 82 ∧ σ' = vr "data" (.bytes l.toArray) [], _, ext_vr rfl Ext.nil, ⟨l, hl1, hl2, rfl⟩, ?_, ?_⟩
      · rintro i d σ' hd ⟨l, hl1, hl2, rfl⟩
        refine tgHide fun zJ zQ zi zk => ?_
        rw [List.getElem?_map] at hd
        obtain ⟨p, hp, rfl⟩ := Option.map_eq_some_iff.mp hd
        obtain ⟨hp1, hp2⟩ := hps p (List.mem_of_getElem? hp)
        refine WG_tuple (WGL_cons (WG_name (WGL_cons (WG_name (WGL_nil ?_) rfl (.inl rfl))) rfl (.inl rfl)))
        first | with_reducible refine WS_cons ?_ | refine WS_cons ?_
        walk_at "as"
        first | with_reducible refine WE_bin ?_ | refine WE_bin ?_
        refine WE_name rfl ?_
        walk_at "bi"
        first | with_reducible refine WL_cons ?_ | refine WL_cons ?_
        refine WE_name rfl ?_
        first | with_reducible refine WL_nil ?_ | refine WL_nil ?_
        refine V_lenb (by walk_at "o") ?_
        refine W2_mod (by walk_at "o") ?_
        have hm : (p.1 : Int).fmod l.length = ((p.1 % l.length : Nat) : Int) := by
          rw [Int.fmod_eq_emod_of_nonneg _ (by walk_at "o")]; rfl
        rw [hm]
        have hlt : p.1 % l.length < l.length := Nat.mod_lt _ (by walk_at "o")
        generalize p.1 % l.length = k at hlt
        first | with_reducible refine then_next ?_ | refine then_next ?_
        first | with_reducible refine WS_cons ?_ | refine WS_cons ?_
        walk_at "as"
        first | with_reducible refine WE_bin ?_ | refine WE_bin ?_
        first | with_reducible refine WE_bin ?_ | refine WE_bin ?_
        first | with_reducible refine WE_slice ?_ | refine WE_slice ?_
        refine WE_name rfl ?_
        refine wp_none ?_
        refine wp_some ?_
        refine WE_name rfl ?_
        refine ex_int ?_
        refine slice_b (by walk_at "o") ?_
        rw [pick_o]
        walk_at "bi"
        first | with_reducible refine WL_cons ?_ | refine WL_cons ?_
        first | with_reducible refine WE_list ?_ | refine WE_list ?_
        first | with_reducible refine WL_cons ?_ | refine WL_cons ?_
        refine WE_name rfl ?_
        refine WL_nil ⟨by simp, ?_⟩
        first | with_reducible refine WL_nil ?_ | refine WL_nil ?_
        refine bytes_one rfl hp2 ?_
        refine W2_addbL (by simp; walk_at "o") ?_
        first | with_reducible refine WE_slice ?_ | refine WE_slice ?_
        refine WE_name rfl ?_
        refine wp_some ?_
        first | with_reducible refine WE_bin ?_ | refine WE_bin ?_
        refine WE_name rfl ?_
        first | with_reducible refine WE_int ?_ | refine WE_int ?_
        first | with_reducible refine W2_add ?_ | refine W2_add ?_
        refine ex_int ?_
        refine wp_none ?_
        refine slice_b (by walk_at "o") ?_
        rw [show ((k : Int) + 1) = ((k + 1 : Nat) : Int) by simp, pick_n]
        refine W2_addbL (by simp; walk_at "o") ?_
        first | with_reducible refine then_next ?_ | refine then_next ?_
        first | with_reducible refine WS_nil ?_ | refine WS_nil ?_
        exact turn_next (zi _ ⟨_, ext_vr rfl Ext.nil, _, by simp; walk_at "o", by simp; walk_at "o", rfl⟩)
      · rintro σ' ⟨l, hl1, hl2, rfl⟩
        first | with_reducible refine then_next ?_ | refine then_next ?_
        first | with_reducible refine WS_cons ?_ | refine WS_cons ?_
        first | with_reducible refine WX_return ?_ | refine WX_return ?_
        refine WE_name rfl ?_
        exact ⟨l, rfl, hl2⟩
end
section
open PySem PySem.W PyProof.Rows PySem.Calls PySem.SeqAt PySem.MeetsSeq
set_option maxRecDepth 100000
theorem enterV {G : Gp} {i k : Nat} {nh : Bool} (d : DefR) (hd : G.defs[i]? = some d) {vs : List Value} (P : Plain d vs.length) {f : Addr} (hf : G.mg d.name = some (.ref f)) {A : Around} {fz : Led} {s : Shared} (st : Site G (k + 1) nh A fz s.heap) {K : Value → Shared → Prop} {E : Value → Shared → Prop}
    (hb : ∀ L a code h₁ tk, RelAt (fnSt G d A L a code nh k none) s.heap fz [] fz h₁ (fun x => lastB ((d.params.args.map (·.arg)).zip vs) none x) none →
      wpAny (fnSt G d A L a code nh k none).M (fnSt G d A L a code nh k none).A (execs d.body (fnSt G d A L a code nh k none).env) (fun fl s' => K (match fl with | .ret v => v | _ => .none) s') (fun _ _ => False) { s with heap := h₁, toks := tk }) :
    wpAny (model G.prog G.w) A (call (.ref f) vs) K E s := by
  refine hidG fun zG zh => ?_
  obtain ⟨a, o, pm, code, doc, hm, ho, hdat, hcd⟩ := st.gl.fns i d hd
  refine zh ?_
  clear zh zG
  rw [hm] at hf
  cases hf
  refine wpAny_call (call_cells_ret (by have := st.depth; walk_at "o") ho hdat (st.gl.nolimit) hcd (P.bind pm code doc vs rfl) (fun x hx => ?_) (fun h₁ tk F X => ?_) P.co P.gen P.kind)
  · have hx1 : x.1 ∈ d.params.args.map (·.arg) := (List.of_mem_zip (a := x.1) (b := x.2) hx).1
    have := List.all_eq_true.mp P.kinds _ hx1
    rcases Bool.or_eq_true_iff.mp this with q | q
    · exact .inl (by simpa using q)
    · have q' : d.scope.names.lookup x.1 = some .cell := by simpa using q
      exact .inr ⟨q', cellsFrom_some _ _ _ (.inl q')⟩
  · let S := fnSt G d A s.heap.objs.size f code nh k none
    let cs := cellsFrom (s.heap.objs.size + 1) d.scope.names []
    let binds := (d.params.args.map (·.arg)).zip vs
    let μ : Str → Option Value := fun x => lastB binds none x
    have hmix : ∀ x c, cs.lookup x = some c → d.scope.names.lookup x = some .cell := fun x c hc => by
      rcases cells_names (mem_of_lookup hc) with h | h
      · cases h
      · have := List.all_eq_true.mp P.mix _ h
        simpa using this
    have fresh : ∀ a, s.heap.objs.size ≤ a → s.heap.get? a = none := fun a ha => by
      cases e : s.heap.get? a with
      | none => rfl
      | some o' => exact absurd (Heap.lt_size e) (Nat.not_lt.mpr ha)
    have cabove : ∀ b ∈ cs.map (·.2), s.heap.objs.size < b := fun b hb => by
      obtain ⟨p, hp, rfl⟩ := List.mem_map.mp hb
      exact X.above p.1 p.2 hp
    refine hb s.heap.objs.size f code h₁ tk ?_
    refine { ok := ?_, gl := st.gl, gz := st.gz, hk := st.hk, keep := F.keep, ns := ⟨_, F.ns, fun x hx => bindL_last _ hx _ _⟩, cells := fun x c hc => ?_, cin := fun x c hc => .inl (.tail _ (List.mem_map.mpr ⟨(x, c), mem_of_lookup hc, rfl⟩)), mutsNew := ?_, mutsIn := ?_, mutsFz := ?_, held := fun p hp => F.keep _ _ (st.held p hp), fzNew := fun p hp => .inl hp, fz0 := fun p hp => hp, dom := (fun x b e => by cases e), bds := (fun x b e => by cases e), oaOk := (fun a e => by cases e), uniq := (fun x y dx dy e _ => by cases e), tape := ⟨trivial, fun b hb => (nomatch hb)⟩ }
    · refine { kind := P.kind, glob := rfl, bt := rfl, hL := .head _, inter := ?_, depth := ?_, units := ?_, hand := st.hand, frame := fun _ => rfl, apart := fun _ x c y c' hc hc' e => ?_, localNot := fun x hx c hc => ?_, cellL := fun _ x c hc => ⟨?_, ?_⟩, hotK := (fun _ _ _ _ => trivial), tapeK := (fun ta tc e => by cases e) }
      · show (d.scope.kind == .module && _) = false
        rw [P.kind]; rfl
      · show A.depth + 1 + k < _; have := st.depth; walk_at "o"
      · show A.units + 3 + 3 * k + 50 < _; have := st.units; walk_at "o"
      · exact name_of_addr X.apart (mem_of_lookup hc) (e ▸ mem_of_lookup hc')
      · have e1 : d.scope.names.lookup x = some .local := hx
        rw [hmix x c hc] at e1; cases e1
      · exact Nat.ne_of_gt (X.above x c (mem_of_lookup hc))
      · exact .tail _ (List.mem_map.mpr ⟨(x, c), mem_of_lookup hc, rfl⟩)
    · have := X.cell x c hc
      have hk : (envOfC d.name d.scope s.heap.objs.size f code).kindOf x ≠ some .local := by
        show d.scope.names.lookup x ≠ _
        rw [hmix x c hc]; intro q; cases q
      rw [bindC_last _ hk] at this
      exact this
    · intro b hb
      rcases List.mem_cons.mp hb with rfl | hb
      · exact fresh _ (Nat.le_refl _)
      · exact fresh _ (Nat.le_of_lt (cabove b hb))
    · intro b hb
      rcases List.mem_cons.mp hb with rfl | hb
      · obtain ⟨o, _, _, ho, _⟩ := F.ns; rw [ho]; rfl
      · obtain ⟨p, hp, rfl⟩ := List.mem_map.mp hb
        have hnd : (cs.map (·.1)).Nodup := cellsFrom_names d.scope.names 0 (s.heap.objs.size + 1) [] [] rfl ▸ distinct_nodup P.nd
        obtain ⟨o, ho, _⟩ := X.cell p.1 p.2 (lookup_of_mem_nodup hnd hp)
        rw [ho]; rfl
    · intro p hp hm
      have := Heap.lt_size (st.held p hp)
      rcases List.mem_cons.mp hm with e | hm
      · rw [e] at this; exact Nat.lt_irrefl _ this
      · exact Nat.lt_irrefl _ (Nat.lt_trans this (cabove _ hm))

theorem comp_at {S : St} {σ : Sg} {elt t iter : Expr} {ifs : List Expr} {scope : Scope} {pos : Pos} {Q : Dat → Prop} {h₀ : Gnd} {fz₀ fz : Led} {s : Shared} (ok : CompOK S scope) (hf : S.fn = true)
    (h : ∀ (K : Value → Shared → Prop) (E : Value → Shared → Prop),
      (∀ (ds : List Dat) (I : Addr) (h₁ h' : Heap) (tk' : Nat) (fz₁ : Led) (wr fp : List Addr) (At : Nat → Heap → Prop), CompAsk S σ scope t elt ifs ds Q → (∀ p ∈ fz, p ∈ fz₁) → RelE S h₀ fz₀ σ fz₁ h₁ → Kp h₁ h' → Wk S.G.prog S.G.w S.A I wr fp fz₁ ds At t → At 0 h' →
        (∀ b ∈ wr, h₁.get? b = none ∧ (h'.get? b).isSome = true) → (∀ b ∈ fp, b ∈ wr ∨ ∃ o, (b, o) ∈ fz₁) → K (.ref I) { s with heap := h', toks := tk' }) →
      wpAny S.M S.A (eval iter S.env) (fun x s₁ => wpAny S.M S.A (pyIter x) K E s₁) E s)
    {K : Value → Shared → Prop} {E : Value → Shared → Prop}
    (c : ∀ (d : Dat) (D : Addr) (h' : Heap) (tk' : Nat) (fz' : Led), Q d → (∀ p ∈ fz, p ∈ fz') → RelE S h₀ fz₀ σ fz' h' → DatIn fz' (.ref D) d → h₀.h₀.get? D = none → K (.ref D) { s with heap := h', toks := tk' })
    (hs : ∀ env x, foldedSetIterable iter env x = pure x := by intro _ _; rfl) : wpAny S.M S.A (eval (.ListComp elt [⟨t, iter, ifs, 0⟩] scope pos) S.env) K E s := by
  rw [eval_ListComp]
  refine wpAny_comprehension_free (use := none) rfl (hs _) (comp_clos ok) ok.kind (comp_names ok) (h _ _ fun ds I h₁ h₂ tk₂ fz₁ wr fp At q sub R₁ k₁ W at0 hwr hfp => ?_)
  obtain ⟨hlen, J, j0, hj, hq⟩ := q
  replace R₁ := R₁.at
  refine comp_core (RR := fun acc C => compPost S.M S.A E none K acc C) R₁ k₁ W at0 hwr hfp ok hf J j0 hlen hj ?_
  intro D C h' tk' fz' outs vs n m' hJ sub' k hd new ht hl hD hall dD dC hns hne hfz
  refine ⟨m', hns, fun h'' hs'' => ?_⟩
  exact c (.list outs) D h'' tk' _ (hq outs hJ) (fun p hp => .tail _ (sub' p (sub p hp))) (comp_back R₁ sub' k hd new ht hl hD dD dC hne hfz hs''.extBut) (.list (.head _) (hall.mono fun p hp => .tail _ hp)) (R₁.keep.none dD)

theorem W2_pow60 {S : St} {Q : Dat → Prop} (q : Q (.int (10 ^ 60))) : W2 S (binaryOp .Pow) (.int 10) (.int 60) Q :=
  W2_imm (i_int 10) (i_int 60) (.int _) (fun _ _ _ _ _ _ h => PyProof.Rows.pow_int_small (by decide) (by decide) (by decide) (h _ _)) q
theorem ints_dat {fz : Led} {vs : List Value} {cs : List Int} (h : IntsAre vs cs) : DatAll fz vs (cs.map .int) := by
  induction h with
  | nil => exact .nil
  | cons n t _ ih => exact .cons (.int n t) ih
theorem iter_list_at {S : St} {σ : Sg} {t : Expr} {h₀ : Gnd} {fz₀ fz fz₁ : Led} {s : Shared} {h₁ : Heap} {tk₁ : Nat} {v : Value} {ds : List Dat} {Q : List Dat → Prop} (R₁ : RelE S h₀ fz₀ σ fz₁ h₁) (hn : S.nh = true) (hi : DatIn fz₁ v (.list ds)) (sub : ∀ p ∈ fz, p ∈ fz₁) (q : Q ds) {K : Value → Shared → Prop} {E : Value → Shared → Prop}
    (c : ∀ (ds : List Dat) (I : Addr) (h₁ h' : Heap) (tk' : Nat) (fz₁ : Led) (wr fp : List Addr) (At : Nat → Heap → Prop), Q ds → (∀ p ∈ fz, p ∈ fz₁) → RelE S h₀ fz₀ σ fz₁ h₁ → Kp h₁ h' → Wk S.G.prog S.G.w S.A I wr fp fz₁ ds At t → At 0 h' →
        (∀ b ∈ wr, h₁.get? b = none ∧ (h'.get? b).isSome = true) → (∀ b ∈ fp, b ∈ wr ∨ ∃ o, (b, o) ∈ fz₁) → K (.ref I) { s with heap := h', toks := tk' }) :
    wpAny S.M S.A (pyIter v) K E { s with heap := h₁, toks := tk₁ } := by
  have hh := R₁.ok.hand hn
  have fr : h₁.get? h₁.objs.size = none := by
    cases e : h₁.get? h₁.objs.size with
    | none => rfl
    | some o' => exact absurd (Heap.lt_size e) (Nat.lt_irrefl _)
  refine hidG fun zG zh => ?_
  obtain ⟨a, vs, n, rfl, hm, hall⟩ := di_list hi
  refine zh ?_
  clear zh zG
  have hl := isList_of R₁.held hm
  have hne : a ≠ h₁.objs.size := by obtain ⟨o, ho, _⟩ := id hl; exact Nat.ne_of_lt (Heap.lt_size ho)
  refine wpAny_pyIter_list (s := { s with heap := h₁, toks := tk₁ }) hl ?_
  refine c ds _ h₁ _ tk₁ fz₁ [h₁.objs.size] [h₁.objs.size, a] _ q sub R₁ (Kp.push _ _) (Wk.of_walks (Walks.list hh h₁.objs.size a hne vs.toArray) (by rw [List.size_toArray, hall.length]) (fun i v _ hv => get_all hall hv) ?_ ?_) ⟨⟨_, Heap.get?_push_size _ rfl, rfl, rfl⟩, hl.push _⟩ (fun b hb => ?_) ?_
  · rintro i h ⟨⟨o, ho, _⟩, _⟩ b hb
    rw [List.mem_singleton.mp hb, ho]; rfl
  · rintro i h ⟨⟨o, ho, hc, _⟩, _⟩
    exact ⟨o, _, ho, hc, by decide⟩
  · rw [List.mem_singleton.mp hb]
    exact ⟨fr, by rw [Heap.get?_push_size _ rfl]; rfl⟩
  · intro b hb
    rcases List.mem_cons.mp hb with rfl | hb
    · exact .inl (.head _)
    · rw [List.mem_singleton.mp hb]; exact .inr ⟨_, hm⟩
theorem script_slice {S : St} {σ : Sg} {h₀ : Gnd} {fz₀ fz : Led} {s : Shared} (R : RelE S h₀ fz₀ σ fz s.heap) {x : Str} {xp p pos cp : Pos} {kk : Nat} {sa : Addr} {vs : List Value} {cs : List Int} (hk : S.env.kindOf x = some .local) (hμ : h₀.μ x = some (.ref sa)) (hl : h₀.h₀.IsList sa vs.toArray) (hI : IntsAre vs cs) (hlen : cs.length ≤ 63)
    {K : Value → Shared → Prop} {E : Value → Shared → Prop} (c : CE S σ h₀ fz₀ fz s (· = .list ((cs.take 40).map .int)) K) (hdb : (x == ("__debug__" : Str)) = false := by decide) :
    wpAny S.M S.A (eval (.Subscript (.Name x xp) (.Slice none (some (.Constant (.int 40) kk cp)) none p) pos) S.env) K E s := by
  obtain ⟨m, hm, e⟩ := R.at.ns
  refine Subscript_ (wpAny_Name (wpAny_loadName_local R.ok.kind hk hm ((e x hk).trans hμ) ?_) hdb)
  refine wpAny_Slice (part_run (S := S) (σ := σ) (o := none) (Q := (· = none)) rfl R fun lo l h2 tk2 fz2 q2 pl sub2 R2 => ?_)
  subst q2
  refine part_run (s := { s with heap := h2, toks := tk2 }) (o := some (.Constant (.int 40) kk cp)) (Q := (· = some 40)) (WE_int ⟨40, rfl, rfl⟩) R2 fun hi u h3 tk3 fz3 q3 pu sub3 R3 => ?_
  subst q3
  rw [evalPart_none]
  refine wpAny_pure ?_
  have R4 := R3.grow (Kp.push h3 { cls := .type "slice", data := .fields #[l, u, .none] })
  have hl4 : (h3.push { cls := .type "slice", data := .fields #[l, u, .none] }).IsList sa vs.toArray := isl_keep hl fun o e => R4.at.keep _ _ e
  have hvl : vs.length = cs.length := ints_len hI
  refine tail_any (T := "list") (s := { s with heap := h3.push _, toks := tk3 }) hl4.typeIs slot_list_getitem.lookup (wpAny_getItem_list_slice hl4 (Heap.IsSliceOf.new h3 l u .none) pl pu .none (by simp) ?_ (by rw [List.size_toArray, sizeLine_eq]; walk_at "o")) rfl
  have e2 : slicePick vs.toArray none (some 40) none = (vs.take 40).toArray := by
    rw [slicePick_plain]
    have := pick_o vs 40
    unfold pick at this
    simp only [Option.elim] at this ⊢
    simpa using this
  rw [e2]
  refine CE.push (s := { s with heap := h3.push _, toks := tk3 }) (fz := fz3) (fun d v h'' tk'' fz'' q' sub' => c d v h'' tk'' fz'' q' fun p hp => sub' p (sub3 p (sub2 p hp))) R4 rfl ?_ rfl
  refine .list (.head _) ?_
  have hp : ∀ fz' : Led, DatAll fz' (vs.take 40) ((cs.take 40).map .int) := fun fz' => by
    have := datAll_pick (fz := fz') (ints_dat hI) 0 40
    rw [List.drop_zero, List.drop_zero, ← List.map_take] at this
    exact this
  exact hp _
theorem tape_made {G : Gp} (ok : GOK G) {f : Addr} (hf : G.mg "_law_tape" = some (.ref f)) {A : Around} {fz : Led} {s : Shared} (st : Site G 1 true A fz s.heap) {sa : Addr} {vs : List Value} {cs : List Int} (hl : s.heap.IsList sa vs.toArray) (hI : IntsAre vs cs) (hlen : cs.length ≤ 63)
    {K : Value → Shared → Prop} {E : Value → Shared → Prop}
    (c : ∀ h' tk' ta tc tn, Kp s.heap h' → TapeAt h' tn ta tc → s.heap.get? ta = none → s.heap.get? tc = none → K (.ref ta) { s with heap := h', toks := tk' }) :
    wpAny (model G.prog G.w) A (call (.ref f) [.ref sa]) K E s := by
  have P : Plain (defAt 53) [Value.ref sa].length := plain1 53 rfl (by intros; rfl) (by rfl) (by rfl) (by rfl) (by rfl) rfl rfl rfl
  refine enterV (vs := [.ref sa]) (defAt 53) (dAt ok 27 53 rfl) P hf st fun L a code h₁ tk R => ?_
  have hμ : (fun x => lastB (((defAt 53).params.args.map (·.arg)).zip [Value.ref sa]) none x) (Str.ofString "script") = some (Value.ref sa) := rfl
  generalize (fun x => lastB (((defAt 53).params.args.map (·.arg)).zip [Value.ref sa]) none x) = μ at R hμ
  have RE : RelE (fnSt G (defAt 53) A L a code true 0 none) ⟨s.heap, μ, none⟩ fz [] fz h₁ := R
  have hvl : vs.length = cs.length := ints_len hI
  refine wpAny_execs_cons (wpAny_Return_some ?_)
  refine wpAny_List ?_
  refine wpAny_items_cons ?_ rfl
  refine comp_at (h₀ := ⟨s.heap, μ, none⟩) (fz₀ := fz) (S := fnSt G (defAt 53) A L a code true 0 none) (σ := []) (Q := fun d => ∃ rs : List Int, d = .list (rs.map .int) ∧ rs.length ≤ 40 ∧ ∀ c ∈ rs, 0 ≤ c ∧ c < 10 ^ 60) (s := { s with heap := h₁, toks := tk }) (fz := fz) ⟨rfl, by rfl, by rfl, by rfl⟩ rfl (fun K' E' cc => ?_) (fun d D h2 tk2 fz2 q2 sub2 R2 hi2 hD => ?_)
  · refine script_slice (s := { s with heap := h₁, toks := tk }) RE rfl hμ hl hI hlen fun d v h3 tk3 fz3 q3 sub3 R3 hi3 => ?_
    subst q3
    refine iter_list_at R3 rfl hi3 sub3 ?_ cc
    refine compAsk_map' (cs.take 40) .int (fun c => .int ((if c < 0 then -c else c).fmod (10 ^ 60))) rfl (by simp; walk_at "o") (fun C i x hx => ?_) ?_
    · refine WG_name ⟨Ext.set rfl, WF_nil ⟨fun _ => ?_, fun e => (nomatch e)⟩⟩ rfl (.inr rfl)
      first | with_reducible refine WE_bin ?_ | refine WE_bin ?_
      walk_at "bi"
      first | with_reducible refine WL_call ?_ | refine WL_call ?_
      walk_at "bi"
      first | with_reducible refine WL_cons ?_ | refine WL_cons ?_
      refine WE_name rfl ?_
      first | with_reducible refine WL_nil ?_ | refine WL_nil ?_
      first | with_reducible refine V_int ?_ | refine V_int ?_
      first | with_reducible refine WL_nil ?_ | refine WL_nil ?_
      first | with_reducible refine V_abs ?_ | refine V_abs ?_
      first | with_reducible refine WE_bin ?_ | refine WE_bin ?_
      first | with_reducible refine WE_int ?_ | refine WE_int ?_
      first | with_reducible refine WE_int ?_ | refine WE_int ?_
      first | with_reducible refine W2_pow60 ?_ | refine W2_pow60 ?_
      exact W2_mod (by decide) rfl
    · refine ⟨(cs.take 40).map fun c => (if c < 0 then -c else c).fmod (10 ^ 60), by rw [List.map_map]; rfl, by simp; walk_at "o", fun c hc => ?_⟩
      obtain ⟨y, _, rfl⟩ := List.mem_map.mp hc
      exact ⟨Int.fmod_nonneg_of_pos _ (by decide), Int.fmod_lt_of_pos _ (by decide)⟩
  · obtain ⟨rs, rfl, hr1, hr2⟩ := q2
    refine hidG fun zG zh => ?_
    obtain ⟨D', ws, n, hDe, hDm, hDall⟩ := di_list hi2
    refine zh ?_
    clear zh zG
    cases hDe
    refine wpAny_items_cons (wpAny_Constant_int ?_) rfl
    refine wpAny_items_cons ?_ rfl
    refine wpAny_BinOp (wpAny_Constant_int ?_)
    have R3 : RelE (fnSt G (defAt 53) A L a code true 0 none) ⟨s.heap, μ, none⟩ fz [] fz2 h2 := R2
    obtain ⟨m, hm, e⟩ := R3.at.ns
    have hl3 : h2.IsList sa vs.toArray := isl_keep hl fun o e => R3.at.keep _ _ e
    refine Call_ (load_boot (v := .builtin "len") (s := { s with heap := h2, toks := tk2 + 1 + 1 }) R3 rfl (GOK.bLen ok) (by decide) (by kernel_rfl) (callWith_builtin1 (wpAny_items_cons (wpAny_Name (wpAny_loadName_local R3.ok.kind rfl hm ((e _ rfl).trans hμ) (wpAny_items_nil ?_)) (by decide)) rfl) rfl rfl) (by decide))
    refine PyProof.Rows.len_list (s := { s with heap := h2, toks := tk2 + 1 + 1 }) hl3 (by rw [List.size_toArray]; walk_at "o") ?_
    refine PySem.P.add_int ?_
    refine wpAny_items_nil ⟨by size_fits, ?_⟩
    rw [List.size_toArray]
    have hin : h2.get? D = some (listOf ws.toArray n) := R3.held _ hDm
    refine c _ _ h2.objs.size D rs.length (R3.at.keep.trans (Kp.push _ _)) ?_ (R3.at.keep.none (get_size h2)) hD
    refine ⟨?_, 0, 11 + vs.length, _, _, ws, rs, ⟨_, Heap.get?_push_size _ rfl, rfl, _, rfl⟩, ⟨_, Heap.get?_push_of_some _ hin, rfl, _, rfl⟩, ints_are hDall, rfl, by walk_at "o", by walk_at "o", by walk_at "o", hr2⟩
    intro q
    have := Heap.lt_size hin
    rw [← q] at this
    exact Nat.lt_irrefl _ this
end
section
open PySem PySem.W PyProof.Rows PySem.Calls PySem.SeqAt PySem.MeetsSeq
set_option maxRecDepth 100000
theorem store_loc {S : St} {σ : Sg} {h₀ : Heap} {fz₀ fz : Led} {s : Shared} {μ : Str → Option Value} {oa : Option Addr} (R : RelAt S h₀ fz₀ σ fz s.heap μ oa) {x : Str} {v : Value} {d : Dat} (hi : DatIn fz v d) (hk : S.env.kindOf x = some .local)
    {K : Unit → Shared → Prop} {E : Value → Shared → Prop}
    (h : ∀ h' tk' μ', RelAt S h₀ fz₀ (σ.set x (.val d)) fz h' μ' oa → (∀ b o, b ∉ S.muts → s.heap.get? b = some o → h'.get? b = some o) → K () { s with heap := h', toks := tk' }) : wpAny S.M S.A (storeName S.env x v) K E s := by
  obtain ⟨m, hm, e⟩ := R.ns
  have hx : isVar S.env x = true := by unfold isVar; rw [hk]
  refine wpAny_storeName_local hk hm (fun h' hn hs => ?_) (by rw [R.ok.kind]; rfl)
  have ha := R.ok.hL
  have hs' : ∀ b o, b ∉ S.muts → s.heap.get? b = some o → h'.get? b = some o := fun b o hb e => hs.extBut b o (fun q => hb (q ▸ ha)) e
  refine h h' _ (fun z => if z = x then some v else μ z) ?_ hs'
  refine R.mut ha hs.extBut ?_ ⟨_, hn, fun y hy => ?_⟩ (fun y c hc => ?_) (fun y b e => ?_) (fun y b e => ?_) (fun y z dy dz ey ez => ?_)
  · obtain ⟨o, _, _, ho, _⟩ := hn; rw [ho]; rfl
  · show (if y = x then some v else m y) = (if y = x then some v else μ y)
    by_cases q : y = x
    · rw [if_pos q, if_pos q]
    · rw [if_neg q, if_neg q]; exact e y hy
  · have hcell := R.cells y c hc
    have hne : c ≠ S.env.locals := by
      rintro rfl
      obtain ⟨o, ho, hd⟩ := hcell
      refine hidG fun zG zh => ?_
      obtain ⟨o', es, ep, ho', hd', _⟩ := hm
      refine zh ?_
      clear zh zG
      rw [ho] at ho'; cases ho'; rw [hd] at hd'; cases hd'
    by_cases q : y = x
    · subst q
      exact (R.ok.localNot y hk c hc).elim
    · rw [if_neg q]; exact hcell.sameBut hs hne
  · rw [Sg.get_set] at e
    split at e
    · rename_i q; subst q; exact hx
    · exact R.dom y b e
  · rw [Sg.get_set] at e
    split at e
    · rename_i q
      subst q
      cases e
      exact ⟨v, by simp, hi⟩
    · rename_i q
      have r := R.bds y b e
      exact (r.mono (fun _ h => h) fun a ha o ho => hs' a o (R.oaOk a ha).1 ho).mu (if_neg q)
  · rw [Sg.get_set] at ey ez
    split at ey
    · cases ey
    · split at ez
      · cases ez
      · exact R.uniq y z dy dz ey ez
theorem WX_own3 {S : St} {σ : Sg} {Q : Out → Sg → Prop} {x y z : Str} {xp yp zp lp cp1 cp2 tp1 tp2 pos : Pos} {k1 k2 k3 k4 : Nat} (hx : S.env.kindOf x = some .local) (hy : S.env.kindOf y = some .local) (hz : S.env.kindOf z = some .local) (hf : S.fn = true)
    (hst : (Sg.drop ((σ.set z (.val (.int 0))).set y (.val (.int 0))) x).still = true) (q : Q .next (((σ.set z (.val (.int 0))).set y (.val (.int 0))).set x (.own (.list []))))
    (hs : ∀ line env, swapsWithSole [.Tuple [.Name x xp, .Name y yp, .Name z zp] k1 tp1] (.Tuple [.List [] lp, .Constant (.int 0) k3 cp1, .Constant (.int 0) k4 cp2] k2 tp2) line env = pure false := by intro _ _; rfl)
    (hw : swappedStores [.Tuple [.Name x xp, .Name y yp, .Name z zp] k1 tp1] (.Tuple [.List [] lp, .Constant (.int 0) k3 cp1, .Constant (.int 0) k4 cp2] k2 tp2) S.env = pure (some [x, y, z]) := by rfl) :
    WX S σ (.Assign [.Tuple [.Name x xp, .Name y yp, .Name z zp] k1 tp1] (.Tuple [.List [] lp, .Constant (.int 0) k3 cp1, .Constant (.int 0) k4 cp2] k2 tp2) pos) Q := by
  intro h₀ fz₀ fz s ⟨μ, oa, R⟩ K E c
  refine Assign_Tuple_swapped ?_ (hs _ _) hw
  refine wpAny_Tuple (wpAny_items_cons (wpAny_List (wpAny_items_nil ⟨by size_fits, ?_⟩)) rfl)
  refine hidG fun zG zh => ?_
  obtain ⟨R1, a1, a2, a3, a4, a5⟩ := push_cold (o := { cls := .type "list", data := .seq ([] : List Value).toArray }) R rfl
  refine zh ?_
  clear zh zG
  have g1 : (s.heap.push { cls := .type "list", data := .seq ([] : List Value).toArray }).get? s.heap.objs.size = some (listOf ([] : List Value).toArray 0) := Heap.get?_push_size _ rfl
  generalize (s.heap.push { cls := .type "list", data := .seq ([] : List Value).toArray }) = h1 at R1 g1 a4 ⊢
  generalize s.heap.objs.size = D at g1 a1 a2 a3 a4 a5 ⊢
  refine wpAny_items_cons (wpAny_Constant_int ?_) rfl
  refine wpAny_items_cons (wpAny_Constant_int ?_) rfl
  refine wpAny_items_nil ⟨by size_fits, ?_⟩
  dsimp only
  generalize hvs : [Value.ref D, Value.int 0 s.toks, Value.int 0 (s.toks + 1)].toArray = us
  obtain ⟨R2, -⟩ := push_cold (o := { cls := .type "tuple", data := .seq us }) R1 rfl
  have g2 := Heap.get?_push_of_some { cls := .type "tuple", data := .seq us } g1
  have ht : IsTup (h1.push { cls := .type "tuple", data := .seq us }) h1.objs.size us := ⟨_, Heap.get?_push_size _ rfl, rfl, _, rfl⟩
  generalize h1.objs.size = T at ht ⊢
  generalize (h1.push { cls := .type "tuple", data := .seq us }) = h2 at R2 g2 ht ⊢
  have e : [x, y, z].length = us.size := by rw [← hvs]; rfl
  rw [e]
  have RE2 : RelE S ⟨h₀, μ, oa⟩ fz₀ σ fz h2 := R2
  refine unpack_tup (s := { s with heap := h2, toks := s.toks + 1 + 1 }) RE2.hk ht fun h3 k3 => ?_
  have R3 : RelAt S h₀ fz₀ σ fz h3 μ oa := RE2.grow k3
  have g3 := k3 _ _ g2
  subst hvs
  refine assignInOrder_cons (wpAny_bindName (store_loc (s := { s with heap := h3, toks := s.toks + 1 + 1 }) R3 (.int 0 (s.toks + 1)) hz fun h4 tk4 μ4 R4 k4 => ?_))
  have g4 := k4 _ _ a1 g3
  refine assignInOrder_cons (wpAny_bindName (store_loc (s := { s with heap := h4, toks := tk4 }) R4 (.int 0 s.toks) hy fun h5 tk5 μ5 R5 k5 => ?_))
  have g5 := k5 _ _ a1 g4
  have hxv : isVar S.env x = true := by unfold isVar; rw [hx]
  refine assignInOrder_cons (wpAny_bindName (store_own (s := { s with heap := h5, toks := tk5 }) (ds := .list []) R5 ⟨a1, a2, a3, by rw [g5]; rfl, a5⟩ g5 ⟨[], 0, rfl, .nil⟩ hst hxv hf fun h6 tk6 R6 => ?_))
  exact wpAny_pure (c .next _ .next h6 tk6 fz q (fun _ h => h) R6 trivial)

theorem wordParts_open {l : List UInt8} {n : Nat} {p : Wp} (h : wordParts l n = some p) : n < l.length ∧ ((l.getD n 0).toNat : Int) = 61 := by
  unfold wordParts at h
  split at h
  · rename_i e
    rw [show ((n : Int) + 2) = ((n + 2 : Nat) : Int) by simp, pick_nn] at e
    have hlen : ((l.drop n).take (n + 2 - n)).length = 2 := by rw [e]; rfl
    rw [List.length_take, List.length_drop] at hlen
    have hn : n < l.length := by walk_at "o"
    refine ⟨hn, ?_⟩
    rw [List.drop_eq_getElem_cons hn, show n + 2 - n = 1 + 1 by walk_at "o", List.take_succ_cons] at e
    have e1 := (List.cons.inj e).1
    rw [List.getD_eq_getElem?_getD, List.getElem?_eq_getElem hn, e1]; rfl
  · cases h
theorem wordAt_wat (l : List UInt8) (n : Nat) (hn : n < l.length) : wat l n = wordAt l n := by
  unfold wat
  split
  · rfl
  · rename_i h
    unfold wordAt
    cases hp : wordParts l n with
    | none => rfl
    | some p => exact absurd (wordParts_open hp).2 h
theorem wordAt_end (l : List UInt8) (n : Nat) (hn : ¬ n < l.length) : wordAt l n = none := by
  unfold wordAt
  cases hp : wordParts l n with
  | none => rfl
  | some p => exact absurd (wordParts_open hp).1 hn
theorem pcs_end (l : List UInt8) (f b n : Nat) (hn : ¬ n < l.length) : pcs l f b n = [.gap (l.drop b)] := by
  cases f with
  | zero => rfl
  | succ f => unfold pcs; rw [if_neg hn]
noncomputable abbrev wsB4 : List UInt8 := [9, 10, 13, 32]
theorem wsB4_mem : ∀ c : UInt8, wsB4.toArray.contains c = wht c := all8 (by decide +kernel)
theorem takeW_mem {p : UInt8 → Bool} : ∀ {l : List UInt8} {c : UInt8}, c ∈ l.takeWhile p → p c = true
  | a :: l, c, h => by
    rw [List.takeWhile_cons] at h
    split at h
    · rename_i ha
      rcases List.mem_cons.mp h with rfl | h
      · exact ha
      · exact takeW_mem h
    · cases h
theorem kept_white (w : List UInt8) : (bKept w.toArray wsB4.toArray = []) ↔ w.all wht = true := by
  unfold bKept
  rw [List.reverse_eq_nil_iff]
  have e : (wsB4.toArray.contains) = wht := funext wsB4_mem
  rw [e]
  have key : ∀ l : List UInt8, l.dropWhile wht = [] ↔ l.all wht = true := fun l => by
    induction l with
    | nil => simp
    | cons a l ih =>
      rw [List.dropWhile_cons]
      by_cases h : wht a = true
      · rw [if_pos h, ih]; simp [h]
      · rw [if_neg h]; simp [h]
  rw [key, List.all_reverse]
  constructor
  · intro h
    have h2 := (List.takeWhile_append_dropWhile (p := wht) (l := w))
    rw [← h2, List.all_append, h, Bool.and_true]
    rw [List.all_eq_true]
    intro c hc
    exact takeW_mem hc
  · intro h
    have : w.dropWhile wht = [] := (key w).mpr h
    rw [this]; rfl
end
section
open PySem PySem.W PyProof.Rows PySem.Calls PySem.SeqAt PySem.MeetsSeq
set_option maxRecDepth 100000
noncomputable abbrev lawD : DefR := defAt 63
noncomputable abbrev lSt (G : Gp) (L a : Addr) (code : Value) (g : Heap) : St := fSt G lawD callerA L a code true 8 [] g
theorem outT_word (n i : Nat) (t : List Nat) : outT n i (.word t) = [t] := rfl
theorem W2_addsN {S : St} {Q : Dat → Prop} {a b : List Nat} (hz : a.length + b.length ≤ 1000000) (q : Q (.str ⟨(a ++ b).toArray⟩)) : W2 S (binaryOp .Add) (.str ⟨a.toArray⟩) (.str ⟨b.toArray⟩) Q := by
  first | with_reducible refine W2_adds ?_ ?_ | refine W2_adds ?_ ?_
  · show (Array.size _) + (Array.size _) ≤ _
    simpa using hz
  · have e : (⟨a.toArray⟩ : Str) ++ ⟨b.toArray⟩ = ⟨(a ++ b).toArray⟩ := by
      apply Str.ext'
      apply Array.toList_inj.mp
      rw [Str.cps_append]; simp
    rw [e]; exact q
theorem pcD_flat (ps : List Pc) : (ps.map pcD).all flatD = true := by
  rw [List.all_eq_true]
  intro d hd
  obtain ⟨p, _, rfl⟩ := List.mem_map.mp hd
  cases p <;> rfl
theorem wpD_ok (p : Option Wp) : wpD p = .none ∨ ∃ ds, wpD p = .tuple ds ∧ ds.all immD = true := by
  cases p with
  | none => exact .inl rfl
  | some p => exact .inr ⟨_, rfl, rfl⟩
theorem wtD_ok (p : Option (List Nat × Nat)) : wtD p = .none ∨ ∃ ds, wtD p = .tuple ds ∧ ds.all immD = true := by
  cases p with
  | none => exact .inl rfl
  | some p => exact .inr ⟨_, rfl, rfl⟩
set_option maxHeartbeats 2000000 in
theorem law_rest (G : Gp) (ok : GOK G) {KK : Frag} {C P fI : Addr} (gx : GX G KK C P fI) (l : List UInt8) (hl : l.length ≤ 82) {L a : Addr} {code : Value} {g : Heap} (fs : FrS (lSt G L a code g) [] g) :
    WS (lSt G L a code g) [("data", .val (.bytes l.toArray))] (lawD.body.drop 1) (Ret (· = .bool true)) := by
  first | with_reducible refine WS_cons ?_ | refine WS_cons ?_
  refine WX_own3 rfl rfl rfl rfl rfl ?_
  first | with_reducible refine then_next ?_ | refine then_next ?_
  first | with_reducible refine WS_cons ?_ | refine WS_cons ?_
  refine WX_forX (WI_range1 rfl (GOK.bRange ok) (by kernel_rfl) rfl ?_)
  first | with_reducible refine WE_bin ?_ | refine WE_bin ?_
  walk_at "bi"
  first | with_reducible refine WL_cons ?_ | refine WL_cons ?_
  refine WE_name rfl ?_
  first | with_reducible refine WL_nil ?_ | refine WL_nil ?_
  refine V_lenb (by walk_at "o") ?_
  first | with_reducible refine WE_int ?_ | refine WE_int ?_
  first | with_reducible refine W2_add ?_ | refine W2_add ?_
  refine ⟨(l.length : Int) + 1, l.length + 1, rfl, by simpa using range1 (l.length + 1) (by walk_at "o"), ?_⟩
  refine ⟨fun i σ' => ∃ (n b f : Nat) (ps : List Pc), σ' = vr "data" (.bytes l.toArray) (ow "due" (.list (ps.map pcD)) (vr "begun" (.int (b : Int)) (vr "at" (.int (n : Int)) []))) ∧ i ≤ n ∧ b ≤ n ∧ n ≤ l.length + 1 ∧ l.length - n < f ∧ ps.length ≤ 2 * n ∧ ps ++ pcs l f b n = piecesOf l,
    vr "data" (.bytes l.toArray) (ow "due" (.list []) (vr "begun" (.int ((0 : Nat) : Int)) (vr "at" (.int ((0 : Nat) : Int)) []))), ext_vr rfl (ext_ow rfl (ext_vr rfl (ext_vr rfl Ext.nil))), ⟨0, 0, l.length + 1, [], rfl, by walk_at "o", by walk_at "o", by walk_at "o", by walk_at "o", by simp, rfl⟩, ?_, ?_⟩
  · intro i d σ' hd zq
    refine hidG fun zG zh => ?_
    obtain ⟨n, b, f, ps, rfl, hin, hb, hn, hf, hps, he⟩ := zq
    refine zh ?_
    clear zh zG
    refine tgHide fun zJ zQ zi zk => ?_
    have hi := steps_bound hd
    have hdv := steps_val hd
    subst hdv
    rw [show (0 : Int) + i * 1 = (i : Int) by walk_at "o"]
    refine WG_name ?_ rfl (.inl rfl)
    first | with_reducible refine WS_cons ?_ | refine WS_cons ?_
    walk_at "as"
    refine WE_def 36 (defAt 62) (dAt ok 36 62 rfl) rfl rfl ?_
    first | with_reducible refine WL_cons ?_ | refine WL_cons ?_
    refine WE_name rfl ?_
    first | with_reducible refine WL_cons ?_ | refine WL_cons ?_
    refine WE_name rfl ?_
    first | with_reducible refine WL_nil ?_ | refine WL_nil ?_
    refine May.mk' (sp_law_told G ok l (by walk_at "o") i (by walk_at "o")) ?_ (show 5 ≤ 8 by decide) id
    first | with_reducible refine then_next ?_ | refine then_next ?_
    first | with_reducible refine WS_cons ?_ | refine WS_cons ?_
    first | with_reducible refine WX_if (WT_bool (WA_or (WT_cmp ?_))) | refine WX_if (WT_bool (WA_or (WT_cmp ?_)))
    refine WE_def 20 (defAt 42) (dAt ok 20 42 rfl) rfl rfl ?_
    first | with_reducible refine WL_cons ?_ | refine WL_cons ?_
    refine WE_name rfl ?_
    first | with_reducible refine WL_cons ?_ | refine WL_cons ?_
    refine WE_name rfl ?_
    first | with_reducible refine WL_nil ?_ | refine WL_nil ?_
    refine May.mk' (sp_word_parts G ok l (by walk_at "o") i (by walk_at "o")) ?_ (show 3 ≤ 8 by decide) id
    refine WE_def 33 (defAt 59) (dAt ok 33 59 rfl) rfl rfl ?_
    first | with_reducible refine WL_cons ?_ | refine WL_cons ?_
    refine WE_name rfl ?_
    first | with_reducible refine WL_cons ?_ | refine WL_cons ?_
    refine WE_name rfl ?_
    first | with_reducible refine WL_nil ?_ | refine WL_nil ?_
    refine May.mk' (sp_law_marked G ok l (by walk_at "o") i (by walk_at "o")) ?_ (show 1 ≤ 8 by decide) id
    rw [← parts_same]
    first | with_reducible refine W2_ne_same (wpD_ok _) ?_ | refine W2_ne_same (wpD_ok _) ?_
    first | with_reducible refine WB_bool ?_ | refine WB_bool ?_
    first | with_reducible refine no ?_ | refine no ?_
    refine WA_or (WT_cmp ?_)
    refine WE_def 23 (defAt 45) (dAt ok 23 45 rfl) rfl rfl ?_
    first | with_reducible refine WL_cons ?_ | refine WL_cons ?_
    refine WE_name rfl ?_
    first | with_reducible refine WL_cons ?_ | refine WL_cons ?_
    refine WE_name rfl ?_
    first | with_reducible refine WL_nil ?_ | refine WL_nil ?_
    refine May.mk' (sp_word_at G ok l (by walk_at "o") i (by walk_at "o")) ?_ (show 5 ≤ 8 by decide) id
    refine WE_name rfl ?_
    first | with_reducible refine W2_ne_same (wtD_ok _) ?_ | refine W2_ne_same (wtD_ok _) ?_
    first | with_reducible refine WB_bool ?_ | refine WB_bool ?_
    first | with_reducible refine no ?_ | refine no ?_
    refine WA_or_nil ?_
    first | with_reducible refine no ?_ | refine no ?_
    first | with_reducible refine WS_nil ?_ | refine WS_nil ?_
    first | with_reducible refine then_next ?_ | refine then_next ?_
    first | with_reducible refine WS_cons ?_ | refine WS_cons ?_
    first | with_reducible refine WX_if (WT_cmp ?_) | refine WX_if (WT_cmp ?_)
    refine WE_name rfl ?_
    refine WE_name rfl ?_
    first | with_reducible refine W2_eq ?_ | refine W2_eq ?_
    first | with_reducible refine WB_bool ?_ | refine WB_bool ?_
    refine ieq (fun hne => ?_) (fun hne => ?_)
    · have hin' : i = n := by walk_at "o"
      subst hin'
      obtain ⟨f, rfl⟩ : ∃ g, f = g + 1 := ⟨f - 1, by walk_at "o"⟩
      cases hw : wordAt l i with
      | none =>
        show WS _ (Sg.set _ _ (.val .none)) _ _
        first | with_reducible refine WS_cons ?_ | refine WS_cons ?_
        first | with_reducible refine WX_if (WT_cmp ?_) | refine WX_if (WT_cmp ?_)
        refine WE_name rfl ?_
        first | with_reducible refine WE_none ?_ | refine WE_none ?_
        first | with_reducible refine W2_is ?_ | refine W2_is ?_
        first | with_reducible refine WB_bool ?_ | refine WB_bool ?_
        first | with_reducible refine yes ?_ | refine yes ?_
        first | with_reducible refine WS_cons ?_ | refine WS_cons ?_
        walk_at "as"
        first | with_reducible refine WE_bin ?_ | refine WE_bin ?_
        refine WE_name rfl ?_
        first | with_reducible refine WE_int ?_ | refine WE_int ?_
        first | with_reducible refine W2_add ?_ | refine W2_add ?_
        first | with_reducible refine then_next ?_ | refine then_next ?_
        first | with_reducible refine WS_nil ?_ | refine WS_nil ?_
        first | with_reducible refine then_next ?_ | refine then_next ?_
        first | with_reducible refine WS_nil ?_ | refine WS_nil ?_
        first | with_reducible refine then_next ?_ | refine then_next ?_
        first | with_reducible refine WS_nil ?_ | refine WS_nil ?_
        by_cases hlt : i < l.length
        · have hf1 : pcs l (f + 1) b i = pcs l f b (i + 1) := by
            conv => lhs; unfold pcs
            rw [if_pos hlt, wordAt_wat l i hlt, hw]
          refine turn_next (zi _ ⟨vr "data" (.bytes l.toArray) (ow "due" (.list (ps.map pcD)) (vr "begun" (.int (b : Int)) (vr "at" (.int ((i + 1 : Nat) : Int)) []))), ext_vr rfl (ext_ow rfl (ext_vr rfl (ext_vr rfl Ext.nil))), i + 1, b, f, ps, rfl, by walk_at "o", by walk_at "o", by walk_at "o", by walk_at "o", by walk_at "o", ?_⟩)
          rw [← he, hf1]
        · refine turn_next (zi _ ⟨vr "data" (.bytes l.toArray) (ow "due" (.list (ps.map pcD)) (vr "begun" (.int (b : Int)) (vr "at" (.int ((i + 1 : Nat) : Int)) []))), ext_vr rfl (ext_ow rfl (ext_vr rfl (ext_vr rfl Ext.nil))), i + 1, b, f + 1, ps, rfl, by walk_at "o", by walk_at "o", by walk_at "o", by walk_at "o", by walk_at "o", ?_⟩)
          rw [← he, pcs_end l _ b i hlt, pcs_end l _ b (i + 1) (by walk_at "o")]
      | some p =>
        have hlt : i < l.length := by
          rcases Nat.lt_or_ge i l.length with q | q
          · exact q
          · rw [wordAt_end l i (by walk_at "o")] at hw; cases hw
        have hwt : wat l i = some p := by rw [wordAt_wat l i hlt, hw]
        have hle := wat_le hwt
        have hf1 : pcs l (f + 1) b i = .gap ((l.drop b).take (i - b)) :: .word p.1 :: pcs l f p.2 p.2 := by
          conv => lhs; unfold pcs
          rw [if_pos hlt, hwt]
        rw [hf1] at he
        show WS _ (Sg.set _ _ (.val (.tuple [.str ⟨p.1.toArray⟩, .int (p.2 : Int)]))) _ _
        first | with_reducible refine WS_cons ?_ | refine WS_cons ?_
        first | with_reducible refine WX_if (WT_cmp ?_) | refine WX_if (WT_cmp ?_)
        refine WE_name rfl ?_
        first | with_reducible refine WE_none ?_ | refine WE_none ?_
        first | with_reducible refine W2_is ?_ | refine W2_is ?_
        first | with_reducible refine WB_bool ?_ | refine WB_bool ?_
        first | with_reducible refine no ?_ | refine no ?_
        first | with_reducible refine WS_cons ?_ | refine WS_cons ?_
        refine WX_own_add rfl ?_ (by simp; walk_at "o") rfl rfl rfl
        first | with_reducible refine WL_cons ?_ | refine WL_cons ?_
        first | with_reducible refine WE_tuple ?_ | refine WE_tuple ?_
        first | with_reducible refine WL_cons ?_ | refine WL_cons ?_
        first | with_reducible refine WE_bool ?_ | refine WE_bool ?_
        first | with_reducible refine WL_cons ?_ | refine WL_cons ?_
        first | with_reducible refine WE_slice ?_ | refine WE_slice ?_
        refine WE_name rfl ?_
        refine wp_some ?_
        refine WE_name rfl ?_
        refine ex_int ?_
        refine wp_some ?_
        refine WE_name rfl ?_
        refine ex_int ?_
        refine slice_b (by walk_at "o") ?_
        rw [pick_nn]
        refine WL_nil ⟨by simp, ?_⟩
        first | with_reducible refine WL_cons ?_ | refine WL_cons ?_
        first | with_reducible refine WE_tuple ?_ | refine WE_tuple ?_
        first | with_reducible refine WL_cons ?_ | refine WL_cons ?_
        first | with_reducible refine WE_bool ?_ | refine WE_bool ?_
        first | with_reducible refine WL_cons ?_ | refine WL_cons ?_
        first | with_reducible refine WE_sub ?_ | refine WE_sub ?_
        refine WE_name rfl ?_
        first | with_reducible refine WE_int ?_ | refine WE_int ?_
        refine W2_tuple_item (j := 0) (by simp) rfl rfl ?_ (by decide)
        refine WL_nil ⟨by simp, ?_⟩
        refine WL_nil ⟨by simp, ?_⟩
        first | with_reducible refine then_next ?_ | refine then_next ?_
        first | with_reducible refine WS_cons ?_ | refine WS_cons ?_
        refine WX_swap (names := ["begun", "at"]) ?_ (by intro x hx; simp at hx; rcases hx with rfl | rfl <;> rfl) rfl
        first | with_reducible refine WL_cons ?_ | refine WL_cons ?_
        first | with_reducible refine WE_sub ?_ | refine WE_sub ?_
        refine WE_name rfl ?_
        first | with_reducible refine WE_int ?_ | refine WE_int ?_
        refine W2_tuple_item (j := 1) (by simp) rfl rfl ?_ (by decide)
        first | with_reducible refine WL_cons ?_ | refine WL_cons ?_
        first | with_reducible refine WE_sub ?_ | refine WE_sub ?_
        refine WE_name rfl ?_
        first | with_reducible refine WE_int ?_ | refine WE_int ?_
        refine W2_tuple_item (j := 1) (by simp) rfl rfl ?_ (by decide)
        refine WL_nil ⟨rfl, by simp, ?_⟩
        first | with_reducible refine then_next ?_ | refine then_next ?_
        first | with_reducible refine WS_nil ?_ | refine WS_nil ?_
        first | with_reducible refine then_next ?_ | refine then_next ?_
        first | with_reducible refine WS_nil ?_ | refine WS_nil ?_
        first | with_reducible refine then_next ?_ | refine then_next ?_
        first | with_reducible refine WS_nil ?_ | refine WS_nil ?_
        refine turn_next (zi _ ⟨vr "data" (.bytes l.toArray) (ow "due" (.list ((ps ++ [Pc.gap ((l.drop b).take (i - b)), Pc.word p.1]).map pcD)) (vr "begun" (.int (p.2 : Int)) (vr "at" (.int (p.2 : Int)) []))), ext_vr rfl (ext_ow ?_ (ext_vr rfl (ext_vr rfl Ext.nil))), p.2, p.2, f, ps ++ [Pc.gap ((l.drop b).take (i - b)), Pc.word p.1], rfl, by walk_at "o", by walk_at "o", by walk_at "o", by walk_at "o", by simp; walk_at "o", ?_⟩)
        · rw [List.map_append]; rfl
        · rw [← he]; simp
    · first | with_reducible refine WS_nil ?_ | refine WS_nil ?_
      first | with_reducible refine then_next ?_ | refine then_next ?_
      first | with_reducible refine WS_nil ?_ | refine WS_nil ?_
      exact turn_next (zi _ ⟨vr "data" (.bytes l.toArray) (ow "due" (.list (ps.map pcD)) (vr "begun" (.int (b : Int)) (vr "at" (.int (n : Int)) []))), ext_vr rfl (ext_ow rfl (ext_vr rfl (ext_vr rfl Ext.nil))), n, b, f, ps, rfl, by walk_at "o", by walk_at "o", by walk_at "o", by walk_at "o", by walk_at "o", he⟩)
  · intro σ' zq
    refine hidG fun zG zh => ?_
    obtain ⟨n, b, f, ps, rfl, hin, hb, hn, hf, hps, he⟩ := zq
    refine zh ?_
    clear zh zG
    rw [steps_length] at hin
    rw [pcs_end l f b n (by walk_at "o")] at he
    first | with_reducible refine then_next ?_ | refine then_next ?_
    first | with_reducible refine WS_cons ?_ | refine WS_cons ?_
    refine WX_append rfl ?_ (by simp; walk_at "o")
    first | with_reducible refine WE_tuple ?_ | refine WE_tuple ?_
    first | with_reducible refine WL_cons ?_ | refine WL_cons ?_
    first | with_reducible refine WE_bool ?_ | refine WE_bool ?_
    first | with_reducible refine WL_cons ?_ | refine WL_cons ?_
    first | with_reducible refine WE_slice ?_ | refine WE_slice ?_
    refine WE_name rfl ?_
    refine wp_some ?_
    refine WE_name rfl ?_
    refine ex_int ?_
    refine wp_none ?_
    refine slice_b (by walk_at "o") ?_
    rw [pick_n]
    refine WL_nil ⟨by simp, ?_⟩
    first | with_reducible refine then_next ?_ | refine then_next ?_
    have hdue : (ps.map pcD) ++ [Dat.tuple [.bool false, .bytes (l.drop b).toArray]] = (piecesOf l).map pcD := by
      rw [← he, List.map_append]; rfl
    rw [hdue]
    have hok := pcs_ok l (l.length + 1) 0 0
    change (∀ p ∈ piecesOf l, PcOK l.length p) ∧ (piecesOf l).length ≤ _ at hok
    refine WS_freeze (x := "due") rfl ?_
    first | with_reducible refine WS_cons ?_ | refine WS_cons ?_
    first | with_reducible refine WX_if (WT_cmp ?_) | refine WX_if (WT_cmp ?_)
    refine WE_def 24 (defAt 46) (dAt ok 24 46 rfl) rfl rfl ?_
    first | with_reducible refine WL_cons ?_ | refine WL_cons ?_
    refine WE_name rfl ?_
    first | with_reducible refine WL_nil ?_ | refine WL_nil ?_
    refine May.mk' (sp_pieces_of G ok l (by walk_at "o")) ?_ (show 6 ≤ 8 by decide) id
    refine WE_name rfl ?_
    first | with_reducible refine W2_ne_list_same (pcD_flat _) ?_ | refine W2_ne_list_same (pcD_flat _) ?_
    first | with_reducible refine WB_bool ?_ | refine WB_bool ?_
    first | with_reducible refine no ?_ | refine no ?_
    first | with_reducible refine WS_nil ?_ | refine WS_nil ?_
    first | with_reducible refine then_next ?_ | refine then_next ?_
    have hdw : dwText (piecesOf l) = (dwL (piecesOf l).length 0 (piecesOf l)).flatten := rfl
    have sdw := sp_decoded_words G ok gx l (by walk_at "o")
    rw [hdw] at sdw
    generalize piecesOf l = qs at hok sdw ⊢
    obtain ⟨hp, hpl⟩ := hok
    first | with_reducible refine WS_cons ?_ | refine WS_cons ?_
    walk_at "as"
    refine WE_is (.str ⟨([] : List Nat).toArray⟩) (WE_str rfl) ?_
    first | with_reducible refine then_next ?_ | refine then_next ?_
    first | with_reducible refine WS_cons ?_ | refine WS_cons ?_
    refine WX_forX (WI_enum rfl (GOK.bEnum ok) (by kernel_rfl) rfl (WE_name rfl (.inl ⟨_, rfl, ?_⟩)))
    refine ⟨fun i σ' => ∃ ts : List Nat, ts ++ (dwL qs.length i (qs.drop i)).flatten = (dwL qs.length 0 qs).flatten ∧ ts.length ≤ i * 400 ∧ σ' = vr "data" (.bytes l.toArray) (vr "due" (.list (qs.map pcD)) (vr "found" (.str ⟨ts.toArray⟩) [])), _, ext_vr rfl (ext_vr rfl (ext_vr rfl Ext.nil)), ⟨[], rfl, Nat.zero_le _, rfl⟩, ?_, ?_⟩
    · rintro i d σ' hd ⟨ts, ht, htl, rfl⟩
      refine tgHide fun zJ zQ zi zk => ?_
      obtain ⟨x, hx, rfl⟩ := enumD_get hd
      rw [List.getElem?_map] at hx
      obtain ⟨pc, hpi, rfl⟩ := Option.map_eq_some_iff.mp hx
      have hi : i < qs.length := by
        rcases Nat.lt_or_ge i qs.length with q | q
        · exact q
        · rw [List.getElem?_eq_none q] at hpi; cases hpi
      have hpo := hp pc (List.mem_of_getElem? hpi)
      have hpc : qs[i] = pc := by rw [List.getElem?_eq_getElem hi] at hpi; exact Option.some.inj hpi
      rw [List.drop_eq_getElem_cons hi, hpc, dwL_cons] at ht
      cases pc with
      | word t =>
        have htw : t.length ≤ 4 * l.length := hpo
        refine WG_tuple (WGL_cons (WG_name (WGL_cons (WG_tuple (WGL_cons (WG_name (WGL_cons (WG_name (WGL_nil (WGL_nil ?_)) rfl (.inl rfl))) rfl (.inl rfl)))) ) rfl (.inl rfl)))
        first | with_reducible refine WS_cons ?_ | refine WS_cons ?_
        first | with_reducible refine WX_if (WT_val ?_) | refine WX_if (WT_val ?_)
        refine WE_name rfl ?_
        first | with_reducible refine WB_bool ?_ | refine WB_bool ?_
        first | with_reducible refine yes ?_ | refine yes ?_
        first | with_reducible refine WS_cons ?_ | refine WS_cons ?_
        walk_at "as"
        first | with_reducible refine WE_bin ?_ | refine WE_bin ?_
        refine WE_name rfl ?_
        refine WE_name rfl ?_
        refine W2_addsN (by walk_at "o") ?_
        first | with_reducible refine then_next ?_ | refine then_next ?_
        first | with_reducible refine WS_nil ?_ | refine WS_nil ?_
        first | with_reducible refine then_next ?_ | refine then_next ?_
        first | with_reducible refine WS_nil ?_ | refine WS_nil ?_
        refine turn_next (zi _ ⟨_, ext_vr rfl (ext_vr rfl (ext_vr rfl Ext.nil)), ts ++ t, ?_, by rw [List.length_append]; walk_at "o", rfl⟩)
        rw [← ht, outT_word]; simp
      | gap w =>
        have hwl : w.length ≤ l.length := hpo
        have hgl := guessed_len w
        have keep : outT qs.length i (.gap w) = [guessed w] → WS (lSt G L a code g) (Sg.set (Sg.set (Sg.set (vr "data" (.bytes l.toArray) (vr "due" (.list (qs.map pcD)) (vr "found" (.str ⟨ts.toArray⟩) []))) "spot" (.val (.int (i : Int)))) "is_word" (.val (.bool false))) "worth" (.val (.bytes w.toArray)))
            (bS true ((bS false ((bS true (lawD.body.getD 6 (.Pass ⟨0, 0, 0, 0⟩))).getD 0 (.Pass ⟨0, 0, 0, 0⟩))).getD 0 (.Pass ⟨0, 0, 0, 0⟩)))
            (Then (lSt G L a code g) [] (Then (lSt G L a code g) [] (Turn zJ zQ))) := by
          intro ho
          first | with_reducible refine WS_cons ?_ | refine WS_cons ?_
          walk_at "as"
          first | with_reducible refine WE_bin ?_ | refine WE_bin ?_
          refine WE_name rfl ?_
          refine WE_defF fs 13 (defAt 26) (dAt ok 13 26 rfl) rfl rfl ?_
          first | with_reducible refine WL_cons ?_ | refine WL_cons ?_
          refine WE_name rfl ?_
          first | with_reducible refine WL_nil ?_ | refine WL_nil ?_
          refine MayF.mk' (sp_guessed G ok gx w (by walk_at "o")) ?_ (show 6 ≤ 8 by decide) id
          refine W2_addsN (by walk_at "o") ?_
          first | with_reducible refine then_next ?_ | refine then_next ?_
          first | with_reducible refine WS_nil ?_ | refine WS_nil ?_
          first | with_reducible refine then_next ?_ | refine then_next ?_
          first | with_reducible refine WS_nil ?_ | refine WS_nil ?_
          first | with_reducible refine then_next ?_ | refine then_next ?_
          first | with_reducible refine WS_nil ?_ | refine WS_nil ?_
          refine turn_next (zi _ ⟨_, ext_vr rfl (ext_vr rfl (ext_vr rfl Ext.nil)), ts ++ guessed w, ?_, by rw [List.length_append]; walk_at "o", rfl⟩)
          rw [← ht, ho]; simp
        refine WG_tuple (WGL_cons (WG_name (WGL_cons (WG_tuple (WGL_cons (WG_name (WGL_cons (WG_name (WGL_nil (WGL_nil ?_)) rfl (.inl rfl))) rfl (.inl rfl)))) ) rfl (.inl rfl)))
        first | with_reducible refine WS_cons ?_ | refine WS_cons ?_
        first | with_reducible refine WX_if (WT_val ?_) | refine WX_if (WT_val ?_)
        refine WE_name rfl ?_
        first | with_reducible refine WB_bool ?_ | refine WB_bool ?_
        first | with_reducible refine no ?_ | refine no ?_
        first | with_reducible refine WS_cons ?_ | refine WS_cons ?_
        first | with_reducible refine WX_if (WT_bool (WA_or (WT_cmp ?_))) | refine WX_if (WT_bool (WA_or (WT_cmp ?_)))
        refine WE_name rfl ?_
        first | with_reducible refine WE_tuple ?_ | refine WE_tuple ?_
        first | with_reducible refine WL_cons ?_ | refine WL_cons ?_
        first | with_reducible refine WE_int ?_ | refine WE_int ?_
        first | with_reducible refine WL_cons ?_ | refine WL_cons ?_
        first | with_reducible refine WE_bin ?_ | refine WE_bin ?_
        walk_at "bi"
        first | with_reducible refine WL_cons ?_ | refine WL_cons ?_
        refine WE_name rfl ?_
        first | with_reducible refine WL_nil ?_ | refine WL_nil ?_
        refine V_lenl (by simp; walk_at "o") ?_
        rw [List.length_map]
        first | with_reducible refine WE_int ?_ | refine WE_int ?_
        first | with_reducible refine W2_sub' ?_ | refine W2_sub' ?_
        refine WL_nil ⟨by simp, ?_⟩
        refine W2_in (by intro d hd; simp at hd; rcases hd with rfl | rfl <;> rfl) (show kindD (.int 0) ≠ 0 by decide) ?_
        have hany : ([Dat.int 0, .int ((qs.length : Int) - 1)].any (sameD · (.int (i : Int)))) = decide (i = 0 ∨ i + 1 = qs.length) := by
          rw [Bool.eq_iff_iff, decide_eq_true_eq]
          simp only [List.any_cons, List.any_nil, Bool.or_false, Bool.or_eq_true]
          have s1 : ∀ j : Int, sameD (.int j) (.int (i : Int)) = true ↔ j = (i : Int) := fun j => by
            show (j == (i : Int)) = true ↔ _
            simp
          rw [s1, s1]
          walk_at "o"
        rw [hany]
        first | with_reducible refine WB_bool ?_ | refine WB_bool ?_
        refine dec (fun h1 => ?_) (fun h1 => ?_)
        · first | with_reducible refine yes ?_ | refine yes ?_
          exact keep (by rw [outT_gap, if_neg (by walk_at "o")])
        · refine WA_or (WT_cmp ?_)
          first | focus ((with_reducible refine WE_meth "bytes" "bytes.strip" PySem.W.FB.plainAttrs_bytes FB.slot_strip FB.type_strip ?_ ?_ ?_ ?_ ?_ ?_); walk_at "mt") | refine WE_meth "bytes" "bytes.strip" PySem.W.FB.plainAttrs_bytes FB.slot_strip FB.type_strip ?_
          refine WE_name rfl ?_
          refine ⟨rfl, ?_⟩
          first | with_reducible refine WL_cons ?_ | refine WL_cons ?_
          first | with_reducible refine WE_bytes ?_ | refine WE_bytes ?_
          first | with_reducible refine WL_nil ?_ | refine WL_nil ?_
          refine V_bstrip (by simp; walk_at "o") ?_
          first | with_reducible refine WE_bytes ?_ | refine WE_bytes ?_
          first | with_reducible refine W2_nebL ?_ | refine W2_nebL ?_
          first | with_reducible refine WB_bool ?_ | refine WB_bool ?_
          have hkw := kept_white w
          refine dec (fun h2 => ?_) (fun h2 => ?_)
          · first | with_reducible refine yes ?_ | refine yes ?_
            exact keep (by rw [outT_gap, if_neg (fun q => h2 (hkw.mpr q.2.2))])
          · have hall : w.all wht = true := hkw.mp (Classical.byContradiction h2)
            refine WA_or_nil ?_
            first | with_reducible refine no ?_ | refine no ?_
            first | with_reducible refine WS_nil ?_ | refine WS_nil ?_
            first | with_reducible refine then_next ?_ | refine then_next ?_
            first | with_reducible refine WS_nil ?_ | refine WS_nil ?_
            first | with_reducible refine then_next ?_ | refine then_next ?_
            first | with_reducible refine WS_nil ?_ | refine WS_nil ?_
            refine turn_next (zi _ ⟨_, ext_vr rfl (ext_vr rfl (ext_vr rfl Ext.nil)), ts, ?_, by walk_at "o", rfl⟩)
            rw [← ht, outT_gap, if_pos ⟨by walk_at "o", by walk_at "o", hall⟩]; rfl
    · rintro σ' ⟨ts, ht, htl, rfl⟩
      rw [enumD_len, List.length_map, List.drop_length] at ht
      have ht' : ts = (dwL qs.length 0 qs).flatten := by rw [← ht]; simp [dwL]
      first | with_reducible refine then_next ?_ | refine then_next ?_
      first | with_reducible refine WS_cons ?_ | refine WS_cons ?_
      first | with_reducible refine WX_return ?_ | refine WX_return ?_
      first | with_reducible refine WE_cmp ?_ | refine WE_cmp ?_
      refine WE_defF fs 26 (defAt 48) (dAt ok 26 48 rfl) rfl rfl ?_
      first | with_reducible refine WL_cons ?_ | refine WL_cons ?_
      refine WE_name rfl ?_
      first | with_reducible refine WL_nil ?_ | refine WL_nil ?_
      refine MayF.mk' sdw ?_ (show 8 ≤ 8 by decide) id
      refine WE_name rfl ?_
      first | with_reducible refine W2_eqsL ?_ | refine W2_eqsL ?_
      rw [ht']
      show Dat.bool (decide _) = Dat.bool true
      rw [decide_eq_true rfl]
end
section
open PySem PySem.W PyProof.Rows PySem.Calls PySem.SeqAt PySem.MeetsSeq
set_option maxRecDepth 100000
theorem law_run (G : Gp) (ok : GOK G) {KK : Frag} {C P fI : Addr} (gx : GX G KK C P fI) {L a : Addr} {code : Value} {g : Heap} (fs : FrS (lSt G L a code g) [] g)
    {h₀ : Heap} {fz₀ fz : Led} {s : Shared} {μ : Str → Option Value} (R : RelAt (lSt G L a code g) h₀ fz₀ [] fz s.heap μ none) {sa : Addr} {vs : List Value} {cs : List Int} (hμ : μ (Str.ofString "script") = some (.ref sa)) (hl : s.heap.IsList sa vs.toArray) (hI : IntsAre vs cs) (hlen : cs.length ≤ 63)
    {K : Flow → Shared → Prop} {E : Value → Shared → Prop} (c : ∀ h' tk' m', Kp h₀ h' → h'.Ns L m' → K (.ret (.bool true)) { s with heap := h', toks := tk' }) : wpAny (lSt G L a code g).M (lSt G L a code g).A (execs lawD.body (lSt G L a code g).env) K E s := by
  have RE : RelE (lSt G L a code g) ⟨h₀, μ, none⟩ fz₀ [] fz s.heap := R
  refine hidG fun zG zh => ?_
  obtain ⟨fo, oo, _, _, _, hmo, hoo, hdo, _⟩ := RE.gl.fns 32 (defAt 58) (dAt ok 32 58 rfl)
  refine zh ?_
  clear zh zG
  refine hidG fun zG zh => ?_
  obtain ⟨ft, ot, _, _, _, hmt, hot, hdt, _⟩ := RE.gl.fns 27 (defAt 53) (dAt ok 27 53 rfl)
  refine zh ?_
  clear zh zG
  obtain ⟨m, hm, e⟩ := R.ns
  refine wpAny_execs_cons (wpAny_Assign_Name ?_ (by rfl))
  refine Call_ (load_glob RE rfl hmo (callWith_def hdo (wpAny_items_cons (Call_ (load_glob RE rfl hmt (callWith_def hdt (wpAny_items_cons (wpAny_Name (wpAny_loadName_local R.ok.kind rfl hm ((e _ rfl).trans hμ) ?_) (by decide)) rfl) (by rfl)) (by decide))) rfl) (by rfl)) (by decide))
  refine wpAny_items_nil ⟨hot, ?_⟩
  refine tape_made ok hmt (RE.site (k := 1) (nh := true) (show 1 ≤ 8 by decide) id) hl hI hlen fun h1 tk1 ta tc tn k1 t n1 n2 => ?_
  refine wpAny_items_nil ⟨k1 _ _ hoo, ?_⟩
  have R1 : RelE (lSt G L a code g) ⟨h₀, μ, none⟩ fz₀ [] fz h1 := RE.grow k1
  have nin : ∀ b o, s.heap.get? b = some o → b ∉ [ta, tc] := fun b o e hm => by
    rcases List.mem_cons.mp hm with q | hm
    · rw [q, n1] at e; cases e
    · rw [List.mem_singleton.mp hm, n2] at e; cases e
  have kg : Kp h₀ (hideAll h1 [ta, tc]) := fun b o e => hideAll_get _ (k1 _ _ (R.keep b o e)) (nin b o (R.keep b o e))
  have st : SiteH G 4 true (lSt G L a code g).A fz h1 [ta, tc] :=
    { gl := R.gl.keeps kg, gz := R.gz, held := R1.held, hk := Kp.handOK R.hk kg, depth := (by have := R.ok.depth; change _ + 8 < _ at this; walk_at "o"), units := (by have := R.ok.units; change _ + 3 * 8 + 50 < _ at this; walk_at "o"), hand := fun _ => R.ok.hand rfl,
      live := (fun b hb => by
        rcases List.mem_cons.mp hb with rfl | hb
        · exact t.in1
        · rw [List.mem_singleton.mp hb]; exact t.in2),
      fzn := fun p hp b hb q => nin p.1 p.2 (R.held p hp) (q ▸ hb) }
  refine sp_octets G ok (defAt 58) fo (dAt ok 32 58 rfl) hmo (lSt G L a code g).A fz { s with heap := h1, toks := tk1 } [] tn ta tc st t .nil _ _ fun d v h2 tk2 fz2 q B t2 hi => ?_
  obtain ⟨l, rfl, hl82⟩ := q
  have B' : Back s.heap fz h2 fz2 := ⟨fun b o e => B.keep b o (nin b o e) (k1 b o e), B.sub, B.held, fun p hp => (B.new p hp).imp id fun e => k1.none e⟩
  have R2 : RelE (lSt G L a code g) ⟨h₀, μ, none⟩ fz₀ [] fz2 h2 := RE.back B'
  refine store_val (S := lSt G L a code g) (σ := []) (s := { s with heap := h2, toks := tk2 }) R2.rel hi rfl (.inl rfl) fun h3 tk3 R3 => ?_
  refine law_rest G ok gx l hl82 fs h₀ fz₀ fz2 { s with heap := h3, toks := tk3 } R3 _ _ fun o σ' f h' tk' fz' q sub R' ho => ?_
  cases o with
  | ret d =>
    cases f with
    | ret v =>
      have hq : d = .bool true := q
      subst hq
      have hv : v = .bool true := di_bool ho
      subst hv
      obtain ⟨μ', oa', R'⟩ := R'
      obtain ⟨m', hm', _⟩ := R'.ns
      exact c h' tk' m' R'.keep hm'
    | next => exact ho.elim
    | brk => exact ho.elim
    | cont => exact ho.elim
  | next => exact (nomatch (show Dat.none = Dat.bool true from q))
  | brk => exact q.elim
  | cont => exact q.elim
end
section
open PySem PySem.W PyProof.Rows
set_option maxRecDepth 100000
set_option maxHeartbeats 0
theorem kA_nd : kA.Nodup := by decide +kernel
theorem recs_eq : (recsOf vw).map (fun d => (⟨d.name, d.params, d.body, d.scope⟩ : DefR)) = myDefs ++ [lawD] := by kernel_rfl
theorem prog_eq : PySem.Challenge.rw_pq0939_01.row.prog = PySem.Challenge.pw_pq0939_01 := by kernel_rfl

noncomputable def esOf (P : Params) : Array DictEntry := match (kF P).lookup 3 with
  | some o => (match o.data with | .dict es _ => es | _ => #[])
  | none => #[]
theorem esOf_some (P : Params) : ((kF P).lookup 3).isSome = true := by kernel_rfl
noncomputable def findS (x : Str) : List DictEntry → Option Value
  | [] => none
  | e :: r => match e.key with
    | .str s _ => (match sEq s x with
      | true => some e.val
      | false => findS x r)
    | _ => findS x r
theorem findS_eq (x : Str) (es : Array DictEntry) : nsFind es x = findS x es.toList := by
  obtain ⟨l⟩ := es
  show (Array.find? _ _).map _ = _
  rw [List.find?_toArray]
  show (l.find? _).map _ = findS x l
  induction l with
  | nil => rfl
  | cons e r ih =>
    rw [List.find?_cons]
    unfold findS
    cases hk : e.key with
    | str s t =>
      have hb : (Value.str s t).isStr x = sEq s x := by
        show (s == x) = sEq s x
        rw [Bool.eq_iff_iff, sEq_iff, beq_iff_eq]
      show Option.map (fun x => x.val) (match (Value.str s t).isStr x with | true => some e | false => List.find? (fun e => (fun n (v : Value) => v.isStr n) x e.key) r) = match sEq s x with | true => some e.val | false => findS x r
      rw [hb]
      cases sEq s x with
      | true => rfl
      | false => exact ih
    | _ => exact ih
theorem mg_of {P : Params} {h : Heap} {mg : Str → Option Value} (KX : (kF P).In h) (g : h.Ns mainGlobals mg) {x : Str} {v : Option Value} (e : findS x (esOf P).toList = v) : mg x = v := by
  refine hidG fun zG zh => ?_
  obtain ⟨o, es, ep, ho, hd, _, hn⟩ := g
  refine zh ?_
  clear zh zG
  obtain ⟨o', h3⟩ := Option.isSome_iff_exists.mp (esOf_some P)
  have h4 := KX 3 o' h3
  have ho' : h.get? 3 = some o := ho
  rw [h4] at ho'
  cases ho'
  have : esOf P = es := by unfold esOf; rw [h3]; dsimp only; rw [hd]
  rw [← hn, ← this, findS_eq]; exact e
theorem mime_ok (P : Params) : MimeK (kF P) 69 56 46 where
  cls := ⟨_, _, _, _, _, _, _, _, _, _, _, _, _, _, rfl⟩
  init := by kernel_rfl
  fn := ⟨_, _, _, rfl, rfl, rfl, rfl, rfl, rfl, rfl, by kernel_rfl, fun a b c S => by kernel_rfl⟩
  set_ := by kernel_rfl
  what := by kernel_rfl
  at_ := by kernel_rfl
theorem held_K {P : Params} {h : Heap} (KX : (kF P).In h) : Held (kF P) h := by
  have key : ∀ (K : Frag), (K.map (·.1)).Nodup → ∀ p ∈ K, K.lookup p.1 = some p.2 := by
    intro K
    induction K with
    | nil => intro _ p hp; cases hp
    | cons q K ih =>
      intro hn p hp
      rw [List.map_cons, List.nodup_cons] at hn
      rcases List.mem_cons.mp hp with rfl | hp
      · simp [List.lookup]
      · have hne : p.1 ≠ q.1 := fun e => hn.1 (e ▸ List.mem_map.mpr ⟨p, hp, rfl⟩)
        have := ih hn.2 p hp
        simp [List.lookup, beq_false_of_ne hne, this]
  intro p hp
  exact KX p.1 p.2 (key _ (by rw [← kA_eq]; exact kA_nd) p hp)


theorem mem_lk {K : Frag} {a : Addr} {o : Obj} (e : K.lookup a = some o) : (a, o) ∈ K := by
  induction K with
  | nil => cases e
  | cons p r ih =>
    obtain ⟨b, q⟩ := p
    rw [List.lookup_cons] at e
    cases h : a == b with
    | true =>
      rw [h] at e
      cases Option.some.inj e
      have hb : a = b := beq_iff_eq.mp h
      subst hb
      exact List.mem_cons_self
    | false => rw [h] at e; exact List.mem_cons_of_mem _ (ih e)
theorem fbLen {w : World} {mg : Str → Option Value} {h : Heap} (KX : (kF w.params).In h) (g : h.Ns mainGlobals mg) : mg "len" = none := mg_of KX g (by kernel_rfl)
theorem fbRange {w : World} {mg : Str → Option Value} {h : Heap} (KX : (kF w.params).In h) (g : h.Ns mainGlobals mg) : mg "range" = none := mg_of KX g (by kernel_rfl)
theorem fbChr {w : World} {mg : Str → Option Value} {h : Heap} (KX : (kF w.params).In h) (g : h.Ns mainGlobals mg) : mg "chr" = none := mg_of KX g (by kernel_rfl)
theorem fbOrd {w : World} {mg : Str → Option Value} {h : Heap} (KX : (kF w.params).In h) (g : h.Ns mainGlobals mg) : mg "ord" = none := mg_of KX g (by kernel_rfl)
theorem fbBytes {w : World} {mg : Str → Option Value} {h : Heap} (KX : (kF w.params).In h) (g : h.Ns mainGlobals mg) : mg "bytes" = none := mg_of KX g (by kernel_rfl)
theorem fbList {w : World} {mg : Str → Option Value} {h : Heap} (KX : (kF w.params).In h) (g : h.Ns mainGlobals mg) : mg "list" = none := mg_of KX g (by kernel_rfl)
theorem fbDict {w : World} {mg : Str → Option Value} {h : Heap} (KX : (kF w.params).In h) (g : h.Ns mainGlobals mg) : mg "dict" = none := mg_of KX g (by kernel_rfl)
theorem fbMin {w : World} {mg : Str → Option Value} {h : Heap} (KX : (kF w.params).In h) (g : h.Ns mainGlobals mg) : mg "min" = none := mg_of KX g (by kernel_rfl)
theorem fbMax {w : World} {mg : Str → Option Value} {h : Heap} (KX : (kF w.params).In h) (g : h.Ns mainGlobals mg) : mg "max" = none := mg_of KX g (by kernel_rfl)
theorem fbAbs {w : World} {mg : Str → Option Value} {h : Heap} (KX : (kF w.params).In h) (g : h.Ns mainGlobals mg) : mg "abs" = none := mg_of KX g (by kernel_rfl)
theorem fbInt {w : World} {mg : Str → Option Value} {h : Heap} (KX : (kF w.params).In h) (g : h.Ns mainGlobals mg) : mg "int" = none := mg_of KX g (by kernel_rfl)
theorem fbEnum {w : World} {mg : Str → Option Value} {h : Heap} (KX : (kF w.params).In h) (g : h.Ns mainGlobals mg) : mg "enumerate" = none := mg_of KX g (by kernel_rfl)
theorem fkPad {w : World} {mg : Str → Option Value} {h : Heap} (KX : (kF w.params).In h) (g : h.Ns mainGlobals mg) : mg "PAD" = some (.int 61 191) := mg_of KX g (by kernel_rfl)
theorem fkEquals {w : World} {mg : Str → Option Value} {h : Heap} (KX : (kF w.params).In h) (g : h.Ns mainGlobals mg) : mg "EQUALS" = some (.int 61 387) := mg_of KX g (by kernel_rfl)
theorem fkBlank {w : World} {mg : Str → Option Value} {h : Heap} (KX : (kF w.params).In h) (g : h.Ns mainGlobals mg) : mg "BLANK" = some (.int 32 389) := mg_of KX g (by kernel_rfl)
theorem fkUnder {w : World} {mg : Str → Option Value} {h : Heap} (KX : (kF w.params).In h) (g : h.Ns mainGlobals mg) : mg "UNDERLINE" = some (.int 95 391) := mg_of KX g (by kernel_rfl)
theorem fkOpen {w : World} {mg : Str → Option Value} {h : Heap} (KX : (kF w.params).In h) (g : h.Ns mainGlobals mg) : mg "OPENING" = some (.int 40 433) := mg_of KX g (by kernel_rfl)
theorem fkClose {w : World} {mg : Str → Option Value} {h : Heap} (KX : (kF w.params).In h) (g : h.Ns mainGlobals mg) : mg "CLOSING" = some (.int 41 435) := mg_of KX g (by kernel_rfl)
theorem fkAscii {w : World} {mg : Str → Option Value} {h : Heap} (KX : (kF w.params).In h) (g : h.Ns mainGlobals mg) : mg "ASCII" = some (.str "us-ascii" 292) := mg_of KX g (by kernel_rfl)
theorem fkLatin {w : World} {mg : Str → Option Value} {h : Heap} (KX : (kF w.params).In h) (g : h.Ns mainGlobals mg) : mg "LATIN" = some (.str "iso-8859-1" 294) := mg_of KX g (by kernel_rfl)
theorem fkUtf {w : World} {mg : Str → Option Value} {h : Heap} (KX : (kF w.params).In h) (g : h.Ns mainGlobals mg) : mg "UTF8" = some (.str "utf-8" 296) := mg_of KX g (by kernel_rfl)
theorem fkUnknown {w : World} {mg : Str → Option Value} {h : Heap} (KX : (kF w.params).In h) (g : h.Ns mainGlobals mg) : mg "UNKNOWN_SIGN" = some (.str ⟨#[65533]⟩ 300) := mg_of KX g (by kernel_rfl)
theorem fkFigures {w : World} {mg : Str → Option Value} {h : Heap} (KX : (kF w.params).In h) (g : h.Ns mainGlobals mg) : mg "_law_figures" = some (.str "0123456789abcdef" 527) := mg_of KX g (by kernel_rfl)
theorem fkSixty {w : World} {mg : Str → Option Value} {h : Heap} (KX : (kF w.params).In h) (g : h.Ns mainGlobals mg) : mg "_law_sixty" = some (.str "ABCDEFGHIJKLMNOPQRSTUVWXYZabcdefghijklmnopqrstuvwxyz0123456789+/" 529) := mg_of KX g (by kernel_rfl)
theorem fkSigns {w : World} {mg : Str → Option Value} {h : Heap} (KX : (kF w.params).In h) (g : h.Ns mainGlobals mg) : mg "SIGNS" = some (.bytes ("ABCDEFGHIJKLMNOPQRSTUVWXYZabcdefghijklmnopqrstuvwxyz0123456789+/".toList.map fun c => c.toNat.toUInt8).toArray 189) := mg_of KX g (by kernel_rfl)
theorem fkCharsets {w : World} {mg : Str → Option Value} {h : Heap} (KX : (kF w.params).In h) (g : h.Ns mainGlobals mg) : mg "CHARSETS" = some (.ref 84) := mg_of KX g (by kernel_rfl)
theorem fkWhite {w : World} {mg : Str → Option Value} {h : Heap} (KX : (kF w.params).In h) (g : h.Ns mainGlobals mg) : mg "WHITE" = some (.ref 174) := mg_of KX g (by kernel_rfl)
theorem fkWays {w : World} {mg : Str → Option Value} {h : Heap} (KX : (kF w.params).In h) (g : h.Ns mainGlobals mg) : mg "WAYS" = some (.ref 175) := mg_of KX g (by kernel_rfl)
theorem fkNames {w : World} {mg : Str → Option Value} {h : Heap} (KX : (kF w.params).In h) (g : h.Ns mainGlobals mg) : mg "_law_names" = some (.ref 236) := mg_of KX g (by kernel_rfl)
theorem tup84 (P : Params) : (((84 : Addr), ({ cls := .type "tuple", data := .seq ([.str "us-ascii" 292, .str "iso-8859-1" 294, .str "utf-8" 296] : List Value).toArray 0 } : Obj)) : Addr × Obj) ∈ kF P := mem_lk (by kernel_rfl)
theorem tup174 (P : Params) : (((174 : Addr), ({ cls := .type "tuple", data := .seq ([.int 9 428, .int 10 429, .int 13 430, .int 32 431] : List Value).toArray 0 } : Obj)) : Addr × Obj) ∈ kF P := mem_lk (by kernel_rfl)
theorem tup175 (P : Params) : (((175 : Addr), ({ cls := .type "tuple", data := .seq ([.str "Q" 437, .str "B" 438] : List Value).toArray 0 } : Obj)) : Addr × Obj) ∈ kF P := mem_lk (by kernel_rfl)
theorem tup233 (P : Params) : (((233 : Addr), ({ cls := .type "tuple", data := .seq ([.str "us-ascii ascii ansi_x3.4-1968 iso_646.irv:1991 iso-ir-6 iso646-us us cp367 ibm367" 520, .str "us-ascii" 521] : List Value).toArray 0 } : Obj)) : Addr × Obj) ∈ kF P := mem_lk (by kernel_rfl)
theorem tup234 (P : Params) : (((234 : Addr), ({ cls := .type "tuple", data := .seq ([.str "iso-8859-1 iso_8859-1 iso_8859-1:1987 iso-ir-100 latin1 l1 cp819 ibm819" 522, .str "iso-8859-1" 523] : List Value).toArray 0 } : Obj)) : Addr × Obj) ∈ kF P := mem_lk (by kernel_rfl)
theorem tup235 (P : Params) : (((235 : Addr), ({ cls := .type "tuple", data := .seq ([.str "utf-8 utf8" 524, .str "utf-8" 525] : List Value).toArray 0 } : Obj)) : Addr × Obj) ∈ kF P := mem_lk (by kernel_rfl)
theorem tup236 (P : Params) : (((236 : Addr), ({ cls := .type "tuple", data := .seq ([.ref 233, .ref 234, .ref 235] : List Value).toArray 0 } : Obj)) : Addr × Obj) ∈ kF P := mem_lk (by kernel_rfl)
noncomputable def theG (w : World) (mg mb : Str → Option Value) : Gp := ⟨PySem.Challenge.pw_pq0939_01, w, mg, mb, kF w.params, myDefs⟩
theorem gok {w : World} {mg mb : Str → Option Value} {h : Heap} (KX : (kF w.params).In h) (g : h.Ns mainGlobals mg) : GOK (theG w mg mb) where
  defs := rfl
  prog := rfl
  bLen := fbLen KX g
  bRange := fbRange KX g
  bChr := fbChr KX g
  bOrd := fbOrd KX g
  bBytes := fbBytes KX g
  bList := fbList KX g
  bDict := fbDict KX g
  bMin := fbMin KX g
  bMax := fbMax KX g
  bAbs := fbAbs KX g
  bInt := fbInt KX g
  bEnum := fbEnum KX g
  kPad := ⟨_, fkPad KX g, .int _ _⟩
  kEquals := ⟨_, fkEquals KX g, .int _ _⟩
  kBlank := ⟨_, fkBlank KX g, .int _ _⟩
  kUnder := ⟨_, fkUnder KX g, .int _ _⟩
  kOpen := ⟨_, fkOpen KX g, .int _ _⟩
  kClose := ⟨_, fkClose KX g, .int _ _⟩
  kAscii := ⟨_, fkAscii KX g, .str _ _⟩
  kLatin := ⟨_, fkLatin KX g, .str _ _⟩
  kUtf := ⟨_, fkUtf KX g, .str _ _⟩
  kUnknown := ⟨_, fkUnknown KX g, .str _ _⟩
  kFigures := ⟨_, fkFigures KX g, .str _ _⟩
  kSixty := ⟨_, fkSixty KX g, .str _ _⟩
  kSigns := ⟨_, fkSigns KX g, .bytes _ _⟩
  kCharsets := ⟨_, fkCharsets KX g, .tuple (tup84 _) (.cons (.str _ _) (.cons (.str _ _) (.cons (.str _ _) .nil)))⟩
  kWhite := ⟨_, fkWhite KX g, .tuple (tup174 _) (.cons (.int _ _) (.cons (.int _ _) (.cons (.int _ _) (.cons (.int _ _) .nil))))⟩
  kWays := ⟨_, fkWays KX g, .tuple (tup175 _) (.cons (.str _ _) (.cons (.str _ _) .nil))⟩
  kNames := ⟨_, fkNames KX g, .tuple (tup236 _) (.cons (.tuple (tup233 _) (.cons (.str _ _) (.cons (.str _ _) .nil))) (.cons (.tuple (tup234 _) (.cons (.str _ _) (.cons (.str _ _) .nil))) (.cons (.tuple (tup235 _) (.cons (.str _ _) (.cons (.str _ _) .nil))) .nil)))⟩
theorem fMime {w : World} {mg : Str → Option Value} {h : Heap} (KX : (kF w.params).In h) (g : h.Ns mainGlobals mg) : mg "MimeFault" = some (.ref 69) := mg_of KX g (by kernel_rfl)
theorem fExc {w : World} {mg : Str → Option Value} {h : Heap} (KX : (kF w.params).In h) (g : h.Ns mainGlobals mg) : mg "Exception" = none := mg_of KX g (by kernel_rfl)
theorem gx_ok {w : World} {mg mb : Str → Option Value} {h : Heap} (KX : (kF w.params).In h) (g : h.Ns mainGlobals mg) : GX (theG w mg mb) (kF w.params) 69 56 46 where
  mime := mime_ok _
  sub := fun a o e => mem_lk e
  name := fMime KX g
  exc := fExc KX g

theorem glat {w : World} {loose : List Str} {mean : ExcName → Option Value} {mg mb : Str → Option Value} {h : Heap} (T : Top vw loose mean mg mb h) (KX : (kF w.params).In h) : GlAt (theG w mg mb) h where
  g := T.g
  b := T.b
  nolimit := T.nolimit
  bn := T.builtins
  gh := held_K KX
  fns := by
    intro i d hi
    have hm : d ∈ (recsOf vw).map (fun d => (⟨d.name, d.params, d.body, d.scope⟩ : DefR)) := by
      rw [recs_eq]; exact List.mem_append_left _ (List.mem_of_getElem? hi)
    obtain ⟨r, hr, rfl⟩ := List.mem_map.mp hm
    exact T.fn r hr
theorem join {w : World} {loose : List Str} {mean : ExcName → Option Value} {mg mb : Str → Option Value} {s₁ : Shared} (T : Top vw loose mean mg mb s₁.heap) (KX : (kF w.params).In s₁.heap)
    {sa fa : Addr} {code : Value} {vs : List Value} {cs : List Int} (hL : s₁.heap.IsList sa vs.toArray) (hI : IntsAre vs cs) (hlen : cs.length ≤ 63) {h₁ : Heap} {tk : Nat} {μ : Str → Option Value} (hμ : μ (Str.ofString "script") = some (.ref sa))
    (F : Fr s₁.heap s₁.heap.objs.size h₁ μ) {K : Flow → Shared → Prop} {E : Value → Shared → Prop} (c : ∀ h' tk' m', Fr s₁.heap s₁.heap.objs.size h' m' → K (.ret (.bool true)) { s₁ with heap := h', toks := tk' }) :
    wpAny (model PySem.Challenge.pw_pq0939_01 w) (callerA.deeper (envOf lawD.name lawD.scope s₁.heap.objs.size fa code)) (execs lawD.body (envOf lawD.name lawD.scope s₁.heap.objs.size fa code)) K E { s₁ with heap := h₁, toks := tk } := by
  have gl : GlAt (theG w mg mb) s₁.heap := glat T KX
  have fs : FrS (lSt (theG w mg mb) s₁.heap.objs.size fa code s₁.heap) [] s₁.heap := ⟨rfl, rfl, rfl, rfl, trivial⟩
  have R : RelAt (lSt (theG w mg mb) s₁.heap.objs.size fa code s₁.heap) s₁.heap (kF w.params) [] (kF w.params) h₁ μ none := by
    refine { ok := ?_, gl := gl, gz := fun p hp => hp, hk := .inl rfl, keep := F.keep, ns := ⟨μ, F.ns, fun x _ => rfl⟩, cells := (fun x c hc => by cases hc), cin := (fun x c hc => by cases hc), mutsNew := ?_, mutsIn := ?_, mutsFz := ?_, held := fun p hp => F.keep _ _ (gl.gh p hp), fzNew := fun p hp => .inl hp, fz0 := fun p hp => hp, dom := (fun x b e => by cases e), bds := (fun x b e => by cases e), oaOk := (fun a e => by cases e), uniq := (fun x y dx dy e _ => by cases e), tape := ⟨fun b hb => (nomatch hb), fun b hb => (nomatch hb)⟩ }
    · refine { kind := rfl, glob := rfl, bt := rfl, hL := .head _, inter := rfl, depth := ?_, units := ?_, hand := fun _ => rfl, frame := fun _ => rfl, apart := (fun _ x c y c' hc => by cases hc), localNot := (fun x hx c hc => by cases hc), cellL := (fun _ x c hc => by cases hc), hotK := FP.keep, tapeK := (fun ta tc e => by cases e) }
      · show callerA.depth + 1 + 8 < recursionLimit
        decide
      · show callerA.units + 3 + 3 * 8 + 50 < cLine
        decide
    · intro b hb
      rw [List.mem_singleton.mp hb]
      exact get_size _
    · intro b hb
      rw [List.mem_singleton.mp hb]
      obtain ⟨o, _, _, ho, _⟩ := F.ns
      rw [ho]; rfl
    · intro p hp hm
      have := Heap.lt_size (gl.gh p hp)
      rw [List.mem_singleton.mp hm] at this
      exact Nat.lt_irrefl _ this
  have hL1 : h₁.IsList sa vs.toArray := isl_keep hL fun o e => F.keep _ _ e
  exact law_run (theG w mg mb) (gok KX T.g) (gx_ok KX T.g) fs (s := { s₁ with heap := h₁, toks := tk }) R hμ hL1 hI hlen fun h' tk' m' k n => c h' tk' m' ⟨n, k, Nat.le_refl _⟩
theorem andI {a b : Bool} (h : a = true) (k : b = true) : (a && b) = true := by rw [h, k]; rfl
theorem said0 : PySem.Challenge.rw_pq0939_01.wellSaid = true := by
  delta OpenLaw.wellSaid
  repeat' with_reducible refine andI ?_ ?_
  all_goals try (delta OpenRow.wellSaid OpenRow.partSaid; repeat' with_reducible refine andI ?_ ?_)
  all_goals try (delta looksOpen; repeat' with_reducible refine andI ?_ ?_)
  all_goals decide +kernel
end
end Mine
end
end

open PySem PySem.W PyProof.Rows
local macro_rules | `(tactic| k_qdec) => `(tactic| decide +kernel)
set_option maxRecDepth 100000 in
set_option maxHeartbeats 8000000 in
theorem PySem.Challenge.cw_pq0939_01_holds : PySem.Challenge.rw_pq0939_01.Holds := by
  w_on
  refine holds_law Mine.said0 fun said => ?_
  refine holds_open (q := Mine.vw) (loose := Mine.lo) (XP := XL Mine.vw []) (YP := Hook.says (kHook Mine.kF Mine.kA Mine.kA_eq)) Mine.left0 (Hook.of (kHook Mine.kF Mine.kA Mine.kA_eq)) (Hook.keeps (kHook Mine.kF Mine.kA Mine.kA_eq)) (fun s e => xl_of s (Bool.and_eq_true_iff.mp e).1) XL.keeps (by rfl) (by rfl) (by rfl) (fun s e => recFacts_of (Bool.and_eq_true_iff.mp e).2) (by rfl) (by first | assumption | decide +kernel) (by decide +kernel) ⟨rfl, rfl, rfl, rfl, rfl, by decide +kernel⟩ ?hw ?hc
  case hw => w_witness2
  w_strict (
  k_go0
  all_goals (try k_fold)
  refine Mine.join (by assumption) (by assumption) (by assumption) (by assumption) ?hlen ?hmu (by assumption) ?hjc
  case hlen => omega
  case hmu => rfl
  case hjc =>
    intro h' tk' m' F'
    dsimp only
    refine goodW_bool F' (by assumption) (raisesW_false ?_) ?_
    · wrow_none_raised
    · wrow_post)

