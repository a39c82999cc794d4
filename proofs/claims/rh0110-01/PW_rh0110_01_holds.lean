import PyProof.Rows.All
import Wide.All
import OpenK.AllK
import Wide.FinOn
import Lean
import PySem.Challenge.RW_rh0110_01
open PySem PySem.W PySem.Calls PyProof.Rows PyProof.V PySem.Spec
set_option Elab.async false
set_option maxRecDepth 100000
set_option autoImplicit false
set_option maxHeartbeats 8000000
set_option linter.all false
set_option compiler.extract_closed false
namespace Mine
section

/-- values without a place: tuples by value, changing objects by number -/
inductive V where
  | none
  | bool (b : Bool)
  | int (i : Int)
  | str (x : Str)
  | tup (l : List V)
  | ref (i : Nat)
  | obj (v : Value)

/-- changing objects -/
inductive O where
  | list (l : List V)
  | dI (l : List (Int × V))
  | dS (l : List (Str × V))
  | dT (l : List (List Int × V))
  | inst (c : Addr) (at_ : List (Str × V))

noncomputable abbrev Led := List (Addr × Obj)
noncomputable abbrev tupOf (vs : List Value) (n : Nat) : Obj := { cls := .type "tuple", data := .seq vs.toArray n }
noncomputable abbrev lstOf (vs : List Value) (n : Nat) : Obj := { cls := .type "list", data := .seq vs.toArray n }

mutual
inductive VR (ρ : List Addr) (imm : Led) : V → Value → Prop
  | none : VR ρ imm .none .none
  | bool (b : Bool) : VR ρ imm (.bool b) (.bool b)
  | int (i : Int) (t : Tok) : VR ρ imm (.int i) (.int i t)
  | str (x : Str) (t : Tok) : VR ρ imm (.str x) (.str x t)
  | tup {a : Addr} {vs : List Value} {n : Nat} {l : List V} : (a, tupOf vs n) ∈ imm → VRs ρ imm l vs → VR ρ imm (.tup l) (.ref a)
  | ref {i : Nat} {a : Addr} : ρ[i]? = some a → VR ρ imm (.ref i) (.ref a)
  | obj (v : Value) : VR ρ imm (.obj v) v
inductive VRs (ρ : List Addr) (imm : Led) : List V → List Value → Prop
  | nil : VRs ρ imm [] []
  | cons {v : V} {l : List V} {r : Value} {rs : List Value} : VR ρ imm v r → VRs ρ imm l rs → VRs ρ imm (v :: l) (r :: rs)
end

theorem VR.intI {ρ : List Addr} {imm : Led} {i : Int} {r : Value} (h : VR ρ imm (.int i) r) : ∃ t, Value.int i t = r := by cases h; exact ⟨_, rfl⟩
theorem VR.strI {ρ : List Addr} {imm : Led} {x : Str} {r : Value} (h : VR ρ imm (.str x) r) : ∃ t, Value.str x t = r := by cases h; exact ⟨_, rfl⟩
theorem VR.boolI {ρ : List Addr} {imm : Led} {b : Bool} {r : Value} (h : VR ρ imm (.bool b) r) : Value.bool b = r := by cases h; rfl
theorem VR.noneI {ρ : List Addr} {imm : Led} {r : Value} (h : VR ρ imm .none r) : Value.none = r := by cases h; rfl
theorem VR.objI {ρ : List Addr} {imm : Led} {v r : Value} (h : VR ρ imm (.obj v) r) : v = r := by cases h; rfl
theorem VR.refI {ρ : List Addr} {imm : Led} {i : Nat} {r : Value} (h : VR ρ imm (.ref i) r) : ∃ a, ρ[i]? = some a ∧ Value.ref a = r := by cases h with | ref e => exact ⟨_, e, rfl⟩
theorem VR.tupI {ρ : List Addr} {imm : Led} {l : List V} {r : Value} (h : VR ρ imm (.tup l) r) : ∃ a vs n, (a, tupOf vs n) ∈ imm ∧ VRs ρ imm l vs ∧ Value.ref a = r := by cases h with | tup m k => exact ⟨_, _, _, m, k, rfl⟩
theorem VRs.consI {ρ : List Addr} {imm : Led} {v : V} {l : List V} {rs : List Value} (h : VRs ρ imm (v :: l) rs) : ∃ r rs', VR ρ imm v r ∧ VRs ρ imm l rs' ∧ r :: rs' = rs := by cases h with | cons a b => exact ⟨_, _, a, b, rfl⟩
theorem VRs.nilI {ρ : List Addr} {imm : Led} {rs : List Value} (h : VRs ρ imm [] rs) : [] = rs := by cases h; rfl

structure Ext (ρ ρ' : List Addr) (imm imm' : Led) : Prop where
  a : ∀ (i : Nat) (x : Addr), ρ[i]? = some x → ρ'[i]? = some x
  b : ∀ p ∈ imm, p ∈ imm'
theorem Ext.refl (ρ : List Addr) (imm : Led) : Ext ρ ρ imm imm := ⟨fun _ _ h => h, fun _ h => h⟩
theorem Ext.trans {ρ ρ' ρ'' : List Addr} {imm imm' imm'' : Led} (x : Ext ρ ρ' imm imm') (y : Ext ρ' ρ'' imm' imm'') : Ext ρ ρ'' imm imm'' :=
  ⟨fun i a h => y.a i a (x.a i a h), fun p h => y.b p (x.b p h)⟩

section
variable {ρ ρ' : List Addr} {imm imm' : Led}
mutual
theorem VR.mono (x : Ext ρ ρ' imm imm') : ∀ {v : V} {r : Value}, VR ρ imm v r → VR ρ' imm' v r
  | _, _, .none => .none
  | _, _, .bool b => .bool b
  | _, _, .int i t => .int i t
  | _, _, .str y t => .str y t
  | _, _, .tup h k => .tup (x.b _ h) (VRs.mono x k)
  | _, _, .ref h => .ref (x.a _ _ h)
  | _, _, .obj v => .obj v
theorem VRs.mono (x : Ext ρ ρ' imm imm') : ∀ {l : List V} {rs : List Value}, VRs ρ imm l rs → VRs ρ' imm' l rs
  | _, _, .nil => .nil
  | _, _, .cons h k => .cons (VR.mono x h) (VRs.mono x k)
end
theorem VRs.length {l : List V} {rs : List Value} (h : VRs ρ imm l rs) : rs.length = l.length := by
  induction l generalizing rs with
  | nil => cases h; rfl
  | cons v l ih => obtain ⟨_, _, _, k, rfl⟩ := VRs.consI h; simp [ih k]
theorem VRs.append {l l' : List V} {rs rs' : List Value} (h : VRs ρ imm l rs) (k : VRs ρ imm l' rs') : VRs ρ imm (l ++ l') (rs ++ rs') := by
  induction l generalizing rs with
  | nil => cases h; exact k
  | cons v l ih => obtain ⟨_, _, a, b, rfl⟩ := VRs.consI h; exact .cons a (ih b)
theorem VRs.get {l : List V} {rs : List Value} (h : VRs ρ imm l rs) {i : Nat} {v : V} (e : l[i]? = some v) : ∃ r, rs[i]? = some r ∧ VR ρ imm v r := by
  induction l generalizing rs i with
  | nil => simp at e
  | cons w l ih =>
    cases h with
    | cons a b =>
      cases i with
      | zero => simp at e; subst e; exact ⟨_, rfl, a⟩
      | succ i => simpa using ih b (by simpa using e)
theorem VRs.get' {l : List V} {rs : List Value} (h : VRs ρ imm l rs) {i : Nat} {r : Value} (e : rs[i]? = some r) : ∃ v, l[i]? = some v ∧ VR ρ imm v r := by
  induction l generalizing rs i with
  | nil => cases h; simp at e
  | cons w l ih =>
    cases h with
    | cons a b =>
      cases i with
      | zero => simp at e; subst e; exact ⟨_, rfl, a⟩
      | succ i => simpa using ih b (by simpa using e)
theorem VRs.set {l : List V} {rs : List Value} (h : VRs ρ imm l rs) (i : Nat) {v : V} {r : Value} (x : VR ρ imm v r) : VRs ρ imm (l.set i v) (rs.set i r) := by
  induction l generalizing rs i with
  | nil => cases h; exact .nil
  | cons w l ih =>
    cases h with
    | cons a b =>
      cases i with
      | zero => exact .cons x b
      | succ i => exact .cons a (ih b i)
theorem VRs.take {l : List V} {rs : List Value} (h : VRs ρ imm l rs) (i : Nat) : VRs ρ imm (l.take i) (rs.take i) := by
  induction l generalizing rs i with
  | nil => cases h; simp; exact .nil
  | cons w l ih =>
    cases h with
    | cons a b =>
      cases i with
      | zero => simp; exact .nil
      | succ i => simp; exact .cons a (ih b i)
theorem VRs.drop {l : List V} {rs : List Value} (h : VRs ρ imm l rs) (i : Nat) : VRs ρ imm (l.drop i) (rs.drop i) := by
  induction l generalizing rs i with
  | nil => cases h; simp; exact .nil
  | cons w l ih =>
    cases h with
    | cons a b =>
      cases i with
      | zero => simp; exact .cons a b
      | succ i => simp; exact ih b i
theorem VRs.eraseIdx {l : List V} {rs : List Value} (h : VRs ρ imm l rs) (i : Nat) : VRs ρ imm (l.eraseIdx i) (rs.eraseIdx i) := by
  induction l generalizing rs i with
  | nil => cases h; simp; exact .nil
  | cons w l ih =>
    cases h with
    | cons a b =>
      cases i with
      | zero => simpa using b
      | succ i => simpa using VRs.cons a (ih b i)
end


end

/-- what is frozen of the heap when the law is called, and the text's own view -/
class HasK where
  heap : Params → Frag
  view : Program
  seer : ∀ {mean : ExcName → Option Value} {mg mb : Str → Option Value} {h : Heap}, Top view (looseW view [Str.ofString "VOID", Str.ofString "Store"]) mean mg mb h → h.NoSeer

section
variable [HasK]
noncomputable abbrev pR : Program := PySem.Challenge.rw_rh0110_01.row.prog
noncomputable abbrev iK (w : World) := intKind pR w
noncomputable abbrev sK (w : World) := strKind pR w
noncomputable abbrev tK (w : World) := tupleKind (intKind pR w)

inductive Ents (ρ : List Addr) (imm : Led) : List (Str × V) → List DictEntry → Prop
  | nil : Ents ρ imm [] []
  | cons {x : Str} {v : V} {l : List (Str × V)} {e : DictEntry} {es : List DictEntry} {t : Tok} : e.key = .str x t → VR ρ imm v e.val → Ents ρ imm l es → Ents ρ imm ((x, v) :: l) (e :: es)

noncomputable def OR (w : World) (ρ : List Addr) (imm : Led) : O → Addr → Led → Prop
  | .list l, a, es => ∃ vs n, es = [(a, lstOf vs n)] ∧ VRs ρ imm l vs
  | .dI l, a, es => ∃ o kvs, es = [(a, o)] ∧ (a == sysModules) = false ∧ o.IsDictOf (iK w) kvs ∧ kvs.map (·.1) = l.map (·.1) ∧ VRs ρ imm (l.map (·.2)) (kvs.map (·.2))
  | .dS l, a, es => ∃ o kvs, es = [(a, o)] ∧ (a == sysModules) = false ∧ o.IsDictOf (sK w) kvs ∧ kvs.map (·.1) = l.map (·.1) ∧ VRs ρ imm (l.map (·.2)) (kvs.map (·.2))
  | .dT l, a, es => ∃ (o : Obj) (ds : Array DictEntry) (ep : Nat) (xs : List (List Int × Addr × Value)), es = [(a, o)] ∧ (a == sysModules) = false ∧ o.ExactDict ∧ o.data = .dict ds ep ∧ ds.toList = xs.map (entryOfKey (tK w)) ∧ (∀ x ∈ xs, ∃ vs n, (x.2.1, tupOf vs n) ∈ imm ∧ ItemsAre (iK w) x.1 vs) ∧ (xs.map (·.1)).Nodup ∧
      xs.map (·.1) = l.map (·.1) ∧ VRs ρ imm (l.map (·.2)) (xs.map (·.2.2))
  | .inst c l, a, es => ∃ d ds n, es = [(a, instObj c d), (d, dictOf ds n)] ∧ Ents ρ imm l ds

section
variable {w : World} {ρ ρ' : List Addr} {imm imm' : Led}
omit [HasK] in
theorem Ents.mono (x : Ext ρ ρ' imm imm') {l : List (Str × V)} {es : List DictEntry} (h : Ents ρ imm l es) : Ents ρ' imm' l es := by
  induction h with
  | nil => exact .nil
  | cons a b _ ih => exact .cons a (b.mono x) ih
omit [HasK] in
theorem OR.mono (x : Ext ρ ρ' imm imm') {o : O} {a : Addr} {es : Led} (h : OR w ρ imm o a es) : OR w ρ' imm' o a es := by
  cases o with
  | list l => obtain ⟨vs, n, e, h⟩ := h; exact ⟨vs, n, e, h.mono x⟩
  | dI l => obtain ⟨o, kvs, e, h0, h1, h2, h3⟩ := h; exact ⟨o, kvs, e, h0, h1, h2, h3.mono x⟩
  | dS l => obtain ⟨o, kvs, e, h0, h1, h2, h3⟩ := h; exact ⟨o, kvs, e, h0, h1, h2, h3.mono x⟩
  | dT l =>
    obtain ⟨o, ds, ep, xs, e, h0, h1, h2, h3, h4, h5, h6, h7⟩ := h
    exact ⟨o, ds, ep, xs, e, h0, h1, h2, h3, fun y hy => let ⟨vs, n, a, b⟩ := h4 y hy; ⟨vs, n, x.b _ a, b⟩, h5, h6, h7.mono x⟩
  | inst c l => obtain ⟨d, ds, n, e, h⟩ := h; exact ⟨d, ds, n, e, h.mono x⟩
end

inductive LedR (w : World) (ρ : List Addr) (imm : Led) : List O → List Addr → List Led → Prop
  | nil : LedR w ρ imm [] [] []
  | cons {o : O} {os : List O} {a : Addr} {as : List Addr} {es : Led} {ess : List Led} : OR w ρ imm o a es → LedR w ρ imm os as ess → LedR w ρ imm (o :: os) (a :: as) (es :: ess)
section
variable {w : World} {ρ ρ' : List Addr} {imm imm' : Led}
omit [HasK] in
theorem LedR.mono (x : Ext ρ ρ' imm imm') {os : List O} {as : List Addr} {ess : List Led} (h : LedR w ρ imm os as ess) : LedR w ρ' imm' os as ess := by
  induction h with
  | nil => exact .nil
  | cons a _ ih => exact .cons (a.mono x) ih
omit [HasK] in
theorem LedR.len {os : List O} {as : List Addr} {ess : List Led} (h : LedR w ρ imm os as ess) : as.length = os.length ∧ ess.length = os.length := by
  induction h with
  | nil => exact ⟨rfl, rfl⟩
  | cons a _ ih => simp [ih]
omit [HasK] in
theorem LedR.snoc {os : List O} {as : List Addr} {ess : List Led} (h : LedR w ρ imm os as ess) {o : O} {a : Addr} {es : Led} (k : OR w ρ imm o a es) : LedR w ρ imm (os ++ [o]) (as ++ [a]) (ess ++ [es]) := by
  induction h with
  | nil => exact .cons k .nil
  | cons a _ ih => exact .cons a ih
omit [HasK] in
theorem LedR.at {os : List O} {as : List Addr} {ess : List Led} (h : LedR w ρ imm os as ess) {i : Nat} {o : O} (e : os[i]? = some o) :
    ∃ a es pre post, as[i]? = some a ∧ ess = pre ++ es :: post ∧ OR w ρ imm o a es ∧ ∀ o' es', OR w ρ imm o' a es' → LedR w ρ imm (os.set i o') as (pre ++ es' :: post) := by
  induction h generalizing i with
  | nil => simp at e
  | @cons o₁ os a as es ess k h ih =>
    cases i with
    | zero =>
      simp at e; subst e
      exact ⟨a, es, [], ess, rfl, rfl, k, fun o' es' k' => .cons k' h⟩
    | succ i =>
      obtain ⟨a', es', pre, post, h1, h2, h3, h4⟩ := ih (by simpa using e)
      exact ⟨a', es', es :: pre, post, by simpa using h1, by rw [h2]; rfl, h3, fun o' es'' k' => .cons k (h4 o' es'' k')⟩
end

structure Sep (mu out imm : Led) : Prop where
  nd : (mu.map (·.1)).Nodup
  off : ∀ p ∈ mu, ∀ q ∈ out ++ imm, p.1 ≠ q.1
  oi : ∀ p ∈ out, ∀ q ∈ imm, p.1 ≠ q.1

/-- where a frame's (or a comprehension's) own names lie -/
noncomputable def LocOk (env : Env) (L : Addr) (m mE : Str → Option Value) (out : Led) : Prop :=
  (env.locals = L ∧ mE = m) ∨ ∃ o, (env.locals, o) ∈ out ∧ PyProof.Rows.LCg.NsObj o mE

noncomputable abbrev KF (w : World) : Frag := HasK.heap w.params

noncomputable def NameOk (w : World) (env : Env) (mE : Str → Option Value) (cells out : Led) (ρ : List Addr) (imm : Led) (x : Str) (v : V) : Prop :=
  (x == ("__debug__" : Str)) = false ∧
  ((env.kindOf x = some .local ∧ ∃ r, mE x = some r ∧ VR ρ imm v r) ∨
   (env.kindOf x = some .cell ∧ ∃ c o r, env.cells.lookup x = some c ∧ (c, o) ∈ cells ++ out ∧ o.data = .cell (some r) ∧ VR ρ imm v r) ∨
   (env.kindOf x = some .free ∧ (x == ("__classdict__" : Str)) = false ∧ ∃ c o r, env.cells.lookup x = some c ∧ (c, o) ∈ cells ++ out ∧ o.data = .cell (some r) ∧ VR ρ imm v r) ∨
   (env.kindOf x = some .globalImplicit ∧ ((∃ r, nsIn (HasK.heap w.params) mainGlobals x = some (some r) ∧ VR ρ imm v r) ∨
      (nsIn (HasK.heap w.params) mainGlobals x = some none ∧ x ≠ "__name__" ∧ ∃ r, bootBuiltins x = some r ∧ VR ρ imm v r))))

/-- the cells of a frame: each name its own -/
structure CellsOk (env : Env) (cells : Led) : Prop where
  inj : ∀ x y c, env.cells.lookup x = some c → env.cells.lookup y = some c → c ∈ cells.map (·.1) → x = y
  cell : ∀ x, env.kindOf x = some .cell → ∃ c o v₀, env.cells.lookup x = some c ∧ (c, o) ∈ cells ∧ o.data = .cell v₀

structure StI (w : World) (env : Env) (h₀ : Heap) (L : Addr) (h : Heap) (ρ : List Addr) (hp : List O) (out imm : Led) (fr : Str → Option V) (m mE : Str → Option Value) (led : List Led) (cells : Led) : Prop where
  F : Fr h₀ L h m
  N : News h₀ L h (led.flatten ++ cells ++ (out ++ imm))
  R : LedR w ρ imm hp ρ led
  S : Sep (led.flatten ++ cells) out imm
  l : LocOk env L m mE out
  g : env.globals = mainGlobals
  bi : env.builtins = builtinsNs
  k : env.scope.kind = .function
  c : env.func = none ∨ CellsOk env cells
  f : ∀ x v, fr x = some v → NameOk w env mE cells out ρ imm x v

noncomputable def St (w : World) (env : Env) (h₀ : Heap) (L : Addr) (h : Heap) (ρ : List Addr) (hp : List O) (out imm : Led) (fr : Str → Option V) : Prop :=
  ∃ m mE led cells, StI w env h₀ L h ρ hp out imm fr m mE led cells

theorem St.elim {w : World} {env : Env} {h₀ h : Heap} {L : Addr} {ρ : List Addr} {hp : List O} {out imm : Led} {fr : Str → Option V} {motive : Prop} (S : St w env h₀ L h ρ hp out imm fr)
    (k : ∀ m mE led cells, StI w env h₀ L h ρ hp out imm fr m mE led cells → motive) : motive := let ⟨m, mE, led, cells, I⟩ := S; k m mE led cells I


section
variable {w : World} {env : Env} {h₀ h h' : Heap} {L : Addr} {ρ : List Addr} {hp : List O} {out imm : Led} {fr : Str → Option V} {m mE : Str → Option Value} {led : List Led} {cells : Led}

theorem NameOk.mono {ρ' : List Addr} {imm' : Led} (x : Ext ρ ρ' imm imm') {y : Str} {v : V} (k : NameOk w env mE cells out ρ imm y v) : NameOk w env mE cells out ρ' imm' y v := by
  obtain ⟨a, b⟩ := k
  refine ⟨a, ?_⟩
  rcases b with ⟨b, r, h1, h2⟩ | ⟨b, c, o, r, h1, h2, h3, h4⟩ | ⟨b, b2, c, o, r, h1, h2, h3, h4⟩ | ⟨b, ⟨r, h1, h2⟩ | ⟨h1, h2, r, h3, h4⟩⟩
  · exact .inl ⟨b, r, h1, h2.mono x⟩
  · exact .inr (.inl ⟨b, c, o, r, h1, h2, h3, h4.mono x⟩)
  · exact .inr (.inr (.inl ⟨b, b2, c, o, r, h1, h2, h3, h4.mono x⟩))
  · exact .inr (.inr (.inr ⟨b, .inl ⟨r, h1, h2.mono x⟩⟩))
  · exact .inr (.inr (.inr ⟨b, .inr ⟨h1, h2, r, h3, h4.mono x⟩⟩))

theorem StI.grow (S : StI w env h₀ L h ρ hp out imm fr m mE led cells) (up : ∀ b o, h.get? b = some o → h'.get? b = some o) : StI w env h₀ L h' ρ hp out imm fr m mE led cells :=
  { S with F := S.F.keeps up, N := S.N.grown up }
theorem St.grow (S : St w env h₀ L h ρ hp out imm fr) (up : ∀ b o, h.get? b = some o → h'.get? b = some o) : St w env h₀ L h' ρ hp out imm fr :=
  let ⟨_, _, _, _, S⟩ := S; ⟨_, _, _, _, S.grow up⟩

theorem StI.fresh (S : StI w env h₀ L h ρ hp out imm fr m mE led cells) {a : Addr} (e : h.get? a = none) : a ≠ L ∧ h₀.get? a = none ∧ ∀ p ∈ led.flatten ++ cells ++ (out ++ imm), p.1 ≠ a := by
  refine ⟨?_, ?_, ?_⟩
  · rintro rfl
    obtain ⟨o, _, _, h1, _⟩ := S.F.ns
    rw [h1] at e; cases e
  · cases q : h₀.get? a with
    | none => rfl
    | some o => rw [S.F.keep _ _ q] at e; cases e
  · rintro p hp rfl
    rw [(S.N p hp).1] at e; cases e

/-- one more unchanging tuple -/
theorem St.tup (S : St w env h₀ L h ρ hp out imm fr) (up : ∀ b o, h.get? b = some o → h'.get? b = some o) {a : Addr} {vs : List Value} {n : Nat} (e : h.get? a = none) (e' : h'.get? a = some (tupOf vs n)) :
    St w env h₀ L h' ρ hp out ((a, tupOf vs n) :: imm) fr ∧ Ext ρ ρ imm ((a, tupOf vs n) :: imm) := by
  refine St.elim S fun m mE led cells S => ?_
  have x : Ext ρ ρ imm ((a, tupOf vs n) :: imm) := ⟨fun _ _ h => h, fun p h => .tail _ h⟩
  obtain ⟨f1, f2, f3⟩ := S.fresh e
  refine ⟨⟨m, mE, led, cells, S.F.keeps up, ?_, S.R.mono x, ⟨S.S.nd, ?_, ?_⟩, S.l, S.g, S.bi, S.k, S.c, fun y v hy => (S.f y v hy).mono x⟩, x⟩
  · intro p hp
    have z := S.N.grown up
    simp only [List.mem_append, List.mem_cons] at hp
    rcases hp with hp | hp | rfl | hp
    · exact z p (by simp only [List.mem_append]; exact .inl hp)
    · exact z p (by simp only [List.mem_append]; exact .inr (.inl hp))
    · exact ⟨e', f1, f2⟩
    · exact z p (by simp only [List.mem_append]; exact .inr (.inr hp))
  · intro p hp q hq
    simp only [List.mem_append, List.mem_cons] at hq
    rcases hq with hq | rfl | hq
    · exact S.S.off p hp q (by simp [hq])
    · exact f3 p (by simp only [List.mem_append] at hp ⊢; exact .inl hp)
    · exact S.S.off p hp q (by simp [hq])
  · intro p hp q hq
    rcases List.mem_cons.mp hq with rfl | hq
    · exact f3 p (by simp only [List.mem_append]; exact .inr (.inl hp))
    · exact S.S.oi p hp q hq

/-- one more changing object -/
theorem St.new (S : St w env h₀ L h ρ hp out imm fr) (up : ∀ b o, h.get? b = some o → h'.get? b = some o) {o : O} {a : Addr} {es : Led} (k : OR w ρ imm o a es)
    (e : ∀ p ∈ es, h.get? p.1 = none ∧ h'.get? p.1 = some p.2) (nd : (es.map (·.1)).Nodup) :
    St w env h₀ L h' (ρ ++ [a]) (hp ++ [o]) out imm fr ∧ Ext ρ (ρ ++ [a]) imm imm := by
  refine St.elim S fun m mE led cells S => ?_
  have x : Ext ρ (ρ ++ [a]) imm imm := ⟨fun i y h => by
    rw [List.getElem?_append_left (List.getElem?_eq_some_iff.mp h).1]; exact h, fun p h => h⟩
  refine ⟨⟨m, mE, led ++ [es], cells, S.F.keeps up, ?_, (S.R.mono x).snoc (k.mono x), ⟨?_, ?_, S.S.oi⟩, S.l, S.g, S.bi, S.k, S.c, fun y v hy => (S.f y v hy).mono x⟩, x⟩
  · intro p hp
    have z := S.N.grown up
    simp only [List.flatten_append, List.flatten_cons, List.flatten_nil, List.append_nil, List.mem_append] at hp
    rcases hp with ((hp | hp) | hp) | hp
    · exact z p (by simp only [List.mem_append]; exact .inl (.inl hp))
    · obtain ⟨f1, f2, _⟩ := S.fresh (e p hp).1
      exact ⟨(e p hp).2, f1, f2⟩
    · exact z p (by simp only [List.mem_append]; exact .inl (.inr hp))
    · exact z p (by simp only [List.mem_append]; exact .inr hp)
  · have nd0 := S.S.nd
    simp only [List.flatten_append, List.flatten_cons, List.flatten_nil, List.append_nil, List.map_append, List.nodup_append, List.mem_append, List.mem_map] at nd0 ⊢
    refine ⟨⟨nd0.1, nd, ?_⟩, nd0.2.1, ?_⟩
    · rintro _ ⟨p, hp, rfl⟩ _ ⟨q, hq, rfl⟩
      exact (S.fresh (e q hq).1).2.2 p (by simp only [List.mem_append]; exact .inl (.inl hp))
    · rintro _ (⟨p, hp, rfl⟩ | ⟨q, hq, rfl⟩) _ ⟨r, hr, rfl⟩
      · exact nd0.2.2 _ ⟨p, hp, rfl⟩ _ ⟨r, hr, rfl⟩
      · exact Ne.symm ((S.fresh (e q hq).1).2.2 r (by simp only [List.mem_append]; exact .inl (.inr hr)))
  · intro p hp q hq
    simp only [List.flatten_append, List.flatten_cons, List.flatten_nil, List.append_nil, List.mem_append] at hp
    rcases hp with (hp | hp) | hp
    · exact S.S.off p (by simp only [List.mem_append]; exact .inl hp) q hq
    · exact Ne.symm ((S.fresh (e p hp).1).2.2 q (by simp only [List.mem_append] at hq ⊢; exact .inr hq))
    · exact S.S.off p (by simp only [List.mem_append]; exact .inr hp) q hq

/-- an object as it lies, and what a change of it gives -/
theorem St.upd (S : St w env h₀ L h ρ hp out imm fr) {i : Nat} {o : O} (hi : hp[i]? = some o) :
    ∃ a es, ρ[i]? = some a ∧ OR w ρ imm o a es ∧ (∀ p ∈ es, h.get? p.1 = some p.2) ∧ (∀ p ∈ es, ∀ q ∈ imm, p.1 ≠ q.1) ∧
      ∀ {h' : Heap} {o' : O} {es' : Led} {b : Addr}, OR w ρ imm o' a es' → es'.map (·.1) = es.map (·.1) → b ∈ es.map (·.1) → Heap.SameBut b h h' → (∀ p ∈ es', h'.get? p.1 = some p.2) →
        St w env h₀ L h' ρ (hp.set i o') out imm fr := by
  refine St.elim S fun m mE led cells S => ?_
  obtain ⟨a, es, pre, post, h1, rfl, h3, h4⟩ := S.R.at hi
  have mem : ∀ p ∈ es, p ∈ (pre ++ es :: post).flatten ++ cells ++ (out ++ imm) := fun p hp => by
    simp only [List.flatten_append, List.flatten_cons, List.mem_append]
    exact .inl (.inl (.inr (.inl hp)))
  refine ⟨a, es, h1, h3, fun p hp => (S.N p (mem p hp)).1, fun p hp q hq => S.S.off p (by simp only [List.flatten_append, List.flatten_cons, List.mem_append]; exact .inl (.inr (.inl hp))) q (by simp [hq]), ?_⟩
  intro h' o' es' b k ea hb hs he
  obtain ⟨p₀, hp₀, rfl⟩ := List.mem_map.mp hb
  have N₀ := S.N p₀ (mem p₀ hp₀)
  have same : ∀ q, q ∈ (pre ++ es :: post).flatten ++ cells ++ (out ++ imm) → q.1 ≠ p₀.1 → h'.get? q.1 = some q.2 := fun q hq hne => (hs.2 q.1 hne).trans (S.N q hq).1
  have nd0 := S.S.nd
  have mm : ((pre ++ es' :: post).flatten ++ cells).map (·.1) = ((pre ++ es :: post).flatten ++ cells).map (·.1) := by
    simp only [List.flatten_append, List.flatten_cons, List.map_append, ea]
  -- an address of es stands nowhere else
  have apart : ∀ q, q ∈ pre.flatten ∨ q ∈ post.flatten ∨ q ∈ cells → q.1 ≠ p₀.1 := by
    intro q hq
    simp only [List.flatten_append, List.flatten_cons, List.map_append, List.nodup_append, List.mem_append, List.mem_map] at nd0
    obtain ⟨⟨n1, ⟨n2, n3, n4⟩, n5⟩, n6, n7⟩ := nd0
    rcases hq with hq | hq | hq
    · exact n5 _ ⟨q, hq, rfl⟩ _ (.inl ⟨p₀, hp₀, rfl⟩)
    · exact Ne.symm (n4 _ ⟨p₀, hp₀, rfl⟩ _ ⟨q, hq, rfl⟩)
    · exact Ne.symm (n7 _ (.inr (.inl ⟨p₀, hp₀, rfl⟩)) _ ⟨q, hq, rfl⟩)
  refine ⟨m, mE, pre ++ es' :: post, cells, ⟨S.F.ns.sameBut hs (Ne.symm N₀.2.1), fun c oc q => (hs.2 c (fun z => ?_)).trans (S.F.keep c oc q), S.F.above⟩, ?_, h4 o' es' k, ⟨by rw [mm]; exact nd0, ?_, S.S.oi⟩, S.l, S.g, S.bi, S.k, S.c, S.f⟩
  · have := N₀.2.2; rw [← z, q] at this; cases this
  · intro p hp
    simp only [List.flatten_append, List.flatten_cons, List.mem_append] at hp
    have rest : ∀ q, (q ∈ pre.flatten ∨ q ∈ post.flatten ∨ q ∈ cells ∨ q ∈ out ∨ q ∈ imm) → q ∈ (pre ++ es :: post).flatten ++ cells ++ (out ++ imm) := fun q hq => by
      simp only [List.flatten_append, List.flatten_cons, List.mem_append]
      rcases hq with hq | hq | hq | hq | hq <;> simp [hq]
    have go : ∀ q, (q ∈ pre.flatten ∨ q ∈ post.flatten ∨ q ∈ cells ∨ q ∈ out ∨ q ∈ imm) → q.1 ≠ p₀.1 → h'.get? q.1 = some q.2 ∧ q.1 ≠ L ∧ h₀.get? q.1 = none := fun q hq hne => ⟨same q (rest q hq) hne, (S.N q (rest q hq)).2⟩
    have off : ∀ q, q ∈ out ∨ q ∈ imm → q.1 ≠ p₀.1 := fun q hq => Ne.symm (S.S.off p₀ (by simp only [List.flatten_append, List.flatten_cons, List.mem_append]; exact .inl (.inr (.inl hp₀))) q (by simpa using hq))
    rcases hp with ((hp | hp | hp) | hp) | hp | hp
    · exact go p (.inl hp) (apart p (.inl hp))
    · have : p.1 ∈ es.map (·.1) := ea ▸ List.mem_map.mpr ⟨p, hp, rfl⟩
      obtain ⟨q, hq, e⟩ := List.mem_map.mp this
      exact ⟨he p hp, e ▸ (S.N q (mem q hq)).2⟩
    · exact go p (.inr (.inl hp)) (apart p (.inr (.inl hp)))
    · exact go p (.inr (.inr (.inl hp))) (apart p (.inr (.inr hp)))
    · exact go p (.inr (.inr (.inr (.inl hp)))) (off p (.inl hp))
    · exact go p (.inr (.inr (.inr (.inr hp)))) (off p (.inr hp))
  · intro p hp q hq
    have : p.1 ∈ ((pre ++ es :: post).flatten ++ cells).map (·.1) := mm ▸ List.mem_map.mpr ⟨p, hp, rfl⟩
    obtain ⟨p', hp', e⟩ := List.mem_map.mp this
    exact e ▸ S.S.off p' hp' q hq
end

end

section
variable [HasK]
noncomputable abbrev TopR := Top HasK.view (looseW HasK.view [Str.ofString "VOID", Str.ofString "Store"])

inductive Fl where
  | nx
  | ct
  | rt (v : V)

inductive FR (ρ : List Addr) (imm : Led) : Fl → Flow → Prop
  | nx : FR ρ imm .nx .next
  | ct : FR ρ imm .ct .cont
  | rt {v : V} {r : Value} : VR ρ imm v r → FR ρ imm (.rt v) (.ret r)

theorem FR.nxI {ρ : List Addr} {imm : Led} {f : Flow} (h : FR ρ imm .nx f) : Flow.next = f := by cases h; rfl
/-- where the running frame's names lie: here, or (in a comprehension) below -/
noncomputable def FrAt (h₀ : Heap) (L : Addr) (base : Heap) (env0 : Env) : Prop := env0.frame = some L ∨ ∃ L₀ m₀, env0.frame = some L₀ ∧ h₀.Ns L₀ m₀ ∧ base.get? L₀ = none
structure Own (env : Env) (L : Addr) : Prop where
  loc : env.locals = L
  fn : env.func ≠ none

structure Cx (w : World) (A : Around) (h₀ : Heap) (L : Addr) : Prop where
  ex : ∃ (env0 : Env) (mean : ExcName → Option Value) (mg mb : Str → Option Value) (base : Heap) (outer : List Env) (A₀ : Around),
    Below A₀ base outer h₀ ∧ TopR mean mg mb h₀ ∧ A.frames = some (env0 :: outer) ∧ FrAt h₀ L base env0 ∧ env0.scope.kind = .function
  X : (HasK.heap w.params).In h₀
  hh : A.handled = none
  sr : ∃ (env : Env) (l : List Env), A.frames = some (env :: l) ∧ env.scope.isGenerator = false ∧ env.scope.isCoroutine = false ∧ env.builtins = builtinsNs ∧ env.globals = mainGlobals
structure Room (d : Nat) (A : Around) : Prop where
  dp : A.depth + d + 110 < recursionLimit
  un : A.units + 8 * d + 80 < cLine

theorem Cx.elim {w : World} {A : Around} {h₀ : Heap} {L : Addr} {motive : Prop} (C : Cx w A h₀ L)
    (k : ∀ (env0 : Env) (mean : ExcName → Option Value) (mg mb : Str → Option Value) (base : Heap) (outer : List Env) (A₀ : Around), Below A₀ base outer h₀ → TopR mean mg mb h₀ → A.frames = some (env0 :: outer) → FrAt h₀ L base env0 → env0.scope.kind = .function → motive) : motive :=
  let ⟨_, _, _, _, _, _, _, B, T, hA, hf, hke⟩ := C.ex; k _ _ _ _ _ _ _ B T hA hf hke
theorem Cx.room {w : World} {A : Around} {h₀ h : Heap} {L : Addr} (C : Cx w A h₀ L) {d : Nat} (R : Room d A) (k : ∀ b o, h₀.get? b = some o → h.get? b = some o) {s : Shared} (e : s.heap = h) : PylongRoom (model pR w) A s := by
  subst e
  refine C.elim fun env0 mean mg mb base outer A₀ B T hA hf hke => ?_
  obtain ⟨env, l, h1, h2, h3, h4, h5⟩ := C.sr
  exact PylongRoom.of (T.nolimit.keeps k) (by have := R.dp; show A.depth + 100 < recursionLimit; (first | lia | omega)) (SeerAt.of ((HasK.seer T).keeps k) rfl h1 h2 h3 h4 h5)
noncomputable abbrev Fal : Value → Shared → Prop := fun _ _ => False

/-- a value handed back -/
noncomputable def PV (w : World) (env : Env) (h₀ : Heap) (L : Addr) (out : Led) (fr : Str → Option V) (ρ : List Addr) (imm : Led) (s : Shared) (v : V) (hp' : List O) (r : Value) (s' : Shared) : Prop :=
  ∃ ρ' imm' h' tk', s' = { s with heap := h', toks := tk' } ∧ St w env h₀ L h' ρ' hp' out imm' fr ∧ Ext ρ ρ' imm imm' ∧ VR ρ' imm' v r
noncomputable def PVs (w : World) (env : Env) (h₀ : Heap) (L : Addr) (out : Led) (fr : Str → Option V) (ρ : List Addr) (imm : Led) (s : Shared) (l : List V) (hp' : List O) (rs : List Value) (s' : Shared) : Prop :=
  ∃ ρ' imm' h' tk', s' = { s with heap := h', toks := tk' } ∧ St w env h₀ L h' ρ' hp' out imm' fr ∧ Ext ρ ρ' imm imm' ∧ VRs ρ' imm' l rs
noncomputable def PB (w : World) (env : Env) (h₀ : Heap) (L : Addr) (out : Led) (fr : Str → Option V) (ρ : List Addr) (imm : Led) (s : Shared) (b : Bool) (hp' : List O) (r : Bool) (s' : Shared) : Prop :=
  ∃ ρ' imm' h' tk', s' = { s with heap := h', toks := tk' } ∧ St w env h₀ L h' ρ' hp' out imm' fr ∧ Ext ρ ρ' imm imm' ∧ r = b
noncomputable def PF (w : World) (env : Env) (h₀ : Heap) (L : Addr) (out : Led) (ρ : List Addr) (imm : Led) (s : Shared) (fl : Fl) (fr' : Str → Option V) (hp' : List O) (f : Flow) (s' : Shared) : Prop :=
  ∃ ρ' imm' h' tk', s' = { s with heap := h', toks := tk' } ∧ St w env h₀ L h' ρ' hp' out imm' fr' ∧ Ext ρ ρ' imm imm' ∧ FR ρ' imm' fl f

inductive Tk where
  | e (e : Expr) (fr : Str → Option V) (hp : List O)
  | es (es : List Expr) (fr : Str → Option V) (hp : List O)
  | t (e : Expr) (fr : Str → Option V) (hp : List O)
  | s (sc : Scope) (st : Stmt) (fr : Str → Option V) (hp : List O)
  | ss (sc : Scope) (l : List Stmt) (fr : Str → Option V) (hp : List O)
  | call (f : Value) (args : List V) (hp : List O)
  | code (f : Value) (args : List V) (hp : List O)
inductive Rs where
  | v (v : V) (hp : List O)
  | vs (l : List V) (hp : List O)
  | b (b : Bool) (hp : List O)
  | f (f : Fl) (fr : Str → Option V) (hp : List O)

/-- the model does what the rule says -/
noncomputable def SndD (d : Nat) : Tk → Rs → Prop
  | .e e fr hp, .v v hp' => ∀ (w : World) (A : Around) (env : Env) (h₀ : Heap) (L : Addr) (out : Led) (ρ : List Addr) (imm : Led) (s : Shared), Cx w A h₀ L → Room d A → St w env h₀ L s.heap ρ hp out imm fr →
      wpAny (model pR w) A (eval e env) (PV w env h₀ L out fr ρ imm s v hp') Fal s
  | .es es fr hp, .vs l hp' => (∀ e ∈ es, isStarred e = false) ∧ ∀ (w : World) (A : Around) (env : Env) (h₀ : Heap) (L : Addr) (out : Led) (ρ : List Addr) (imm : Led) (s : Shared) (pos : Pos), Cx w A h₀ L → Room d A → St w env h₀ L s.heap ρ hp out imm fr →
      wpAny (model pR w) A (spliced (backTo pos (starEach es env))) (PVs w env h₀ L out fr ρ imm s l hp') Fal s
  | .t e fr hp, .b b hp' => ∀ (w : World) (A : Around) (env : Env) (h₀ : Heap) (L : Addr) (out : Led) (ρ : List Addr) (imm : Led) (s : Shared), Cx w A h₀ L → Room d A → St w env h₀ L s.heap ρ hp out imm fr →
      wpAny (model pR w) A (isTrue e env (eval e env)) (PB w env h₀ L out fr ρ imm s b hp') Fal s
  | .s sc st fr hp, .f fl fr' hp' => ∀ (w : World) (A : Around) (env : Env) (h₀ : Heap) (L : Addr) (out : Led) (ρ : List Addr) (imm : Led) (s : Shared), Cx w A h₀ L → Room d A → Own env L → env.scope = sc → St w env h₀ L s.heap ρ hp out imm fr →
      wpAny (model pR w) A (exec st env) (PF w env h₀ L out ρ imm s fl fr' hp') Fal s
  | .ss sc l fr hp, .f fl fr' hp' => ∀ (w : World) (A : Around) (env : Env) (h₀ : Heap) (L : Addr) (out : Led) (ρ : List Addr) (imm : Led) (s : Shared), Cx w A h₀ L → Room d A → Own env L → env.scope = sc → St w env h₀ L s.heap ρ hp out imm fr →
      wpAny (model pR w) A (execs l env) (PF w env h₀ L out ρ imm s fl fr' hp') Fal s
  | .call f args hp, .v v hp' => ∀ (w : World) (A : Around) (env : Env) (h₀ : Heap) (L : Addr) (out : Led) (ρ : List Addr) (imm : Led) (s : Shared) (fr : Str → Option V) (rs : List Value), Cx w A h₀ L → Room d A → St w env h₀ L s.heap ρ hp out imm fr → VRs ρ imm args rs →
      wpAny (model pR w) A (call f rs) (PV w env h₀ L out fr ρ imm s v hp') Fal s
  | .code f args hp, .v v hp' => ∀ (w : World) (A : Around) (env : Env) (h₀ : Heap) (L : Addr) (out : Led) (ρ : List Addr) (imm : Led) (s : Shared) (fr : Str → Option V) (rs : List Value), Cx w A h₀ L → Room d A → St w env h₀ L s.heap ρ hp out imm fr → VRs ρ imm args rs →
      codeAny (model pR w) A (.call f ⟨rs, []⟩) (fun r s' => match r with | .ok (.ret x) => PV w env h₀ L out fr ρ imm s v hp' x s' | .ok _ => False | .error e => Fal e s') s
  | _, _ => True
/-- the same, closed to unfolding -/
structure Snd (d : Nat) (t : Tk) (r : Rs) : Prop where
  go : SndD d t r

section
variable {w : World} {A : Around} {env : Env} {h₀ : Heap} {L : Addr} {out : Led} {ρ ρ₁ : List Addr} {imm imm₁ : Led} {s s₁ : Shared} {fr : Str → Option V} {hp hp' : List O}

theorem PV.of {v : V} {r : Value} {h' : Heap} {tk' : Nat} (S : St w env h₀ L h' ρ₁ hp' out imm₁ fr) (x : Ext ρ ρ₁ imm imm₁) (k : VR ρ₁ imm₁ v r) : PV w env h₀ L out fr ρ imm s v hp' r { s with heap := h', toks := tk' } := ⟨ρ₁, imm₁, h', tk', rfl, S, x, k⟩
theorem PB.of {b : Bool} {h' : Heap} {tk' : Nat} (S : St w env h₀ L h' ρ₁ hp' out imm₁ fr) (x : Ext ρ ρ₁ imm imm₁) : PB w env h₀ L out fr ρ imm s b hp' b { s with heap := h', toks := tk' } := ⟨ρ₁, imm₁, h', tk', rfl, S, x, rfl⟩
theorem PF.of {fl : Fl} {f : Flow} {fr' : Str → Option V} {h' : Heap} {tk' : Nat} (S : St w env h₀ L h' ρ₁ hp' out imm₁ fr') (x : Ext ρ ρ₁ imm imm₁) (k : FR ρ₁ imm₁ fl f) : PF w env h₀ L out ρ imm s fl fr' hp' f { s with heap := h', toks := tk' } := ⟨ρ₁, imm₁, h', tk', rfl, S, x, k⟩
/-- steps, each followed by the rest -/
theorem wmV {c : Sem Value} {v : V} {Q : Value → Shared → Prop} {E : Value → Shared → Prop} (q : wpAny (model pR w) A c (PV w env h₀ L out fr ρ imm s v hp') Fal s₁)
    (k : ∀ r ρ' imm' h' tk', St w env h₀ L h' ρ' hp' out imm' fr → Ext ρ ρ' imm imm' → VR ρ' imm' v r → Q r { s with heap := h', toks := tk' }) : wpAny (model pR w) A c Q E s₁ :=
  wpAny_mono q (fun r s' q => by obtain ⟨ρ', imm', h', tk', rfl, S, x, z⟩ := q; exact k r ρ' imm' h' tk' S x z) fun _ _ x => x.elim
theorem wmS {c : Sem (List Value)} {v : List V} {Q : List Value → Shared → Prop} {E : Value → Shared → Prop} (q : wpAny (model pR w) A c (PVs w env h₀ L out fr ρ imm s v hp') Fal s₁)
    (k : ∀ r ρ' imm' h' tk', St w env h₀ L h' ρ' hp' out imm' fr → Ext ρ ρ' imm imm' → VRs ρ' imm' v r → Q r { s with heap := h', toks := tk' }) : wpAny (model pR w) A c Q E s₁ :=
  wpAny_mono q (fun r s' q => by obtain ⟨ρ', imm', h', tk', rfl, S, x, z⟩ := q; exact k r ρ' imm' h' tk' S x z) fun _ _ x => x.elim
theorem wmF {c : Sem Flow} {v : Fl} {fr' : Str → Option V} {Q : Flow → Shared → Prop} {E : Value → Shared → Prop} (q : wpAny (model pR w) A c (PF w env h₀ L out ρ imm s v fr' hp') Fal s₁)
    (k : ∀ r ρ' imm' h' tk', St w env h₀ L h' ρ' hp' out imm' fr' → Ext ρ ρ' imm imm' → FR ρ' imm' v r → Q r { s with heap := h', toks := tk' }) : wpAny (model pR w) A c Q E s₁ :=
  wpAny_mono q (fun r s' q => by obtain ⟨ρ', imm', h', tk', rfl, S, x, z⟩ := q; exact k r ρ' imm' h' tk' S x z) fun _ _ x => x.elim
theorem wmB {c : Sem Bool} {v : Bool} {Q : Bool → Shared → Prop} {E : Value → Shared → Prop} (q : wpAny (model pR w) A c (PB w env h₀ L out fr ρ imm s v hp') Fal s₁)
    (k : ∀ ρ' imm' h' tk', St w env h₀ L h' ρ' hp' out imm' fr → Ext ρ ρ' imm imm' → Q v { s with heap := h', toks := tk' }) : wpAny (model pR w) A c Q E s₁ :=
  wpAny_mono q (fun r s' q => by obtain ⟨ρ', imm', h', tk', rfl, S, x, rfl⟩ := q; exact k ρ' imm' h' tk' S x) fun _ _ x => x.elim
/-- one step more behind others -/
theorem PV.trans {v : V} {r : Value} {h : Heap} {tk : Nat} {s' : Shared} (x : Ext ρ ρ₁ imm imm₁) (p : PV w env h₀ L out fr ρ₁ imm₁ { s with heap := h, toks := tk } v hp' r s') : PV w env h₀ L out fr ρ imm s v hp' r s' := by
  obtain ⟨ρ', imm', h', tk', rfl, S, y, k⟩ := p
  exact ⟨ρ', imm', h', tk', rfl, S, x.trans y, k⟩
theorem PVs.trans {v : List V} {r : List Value} {h : Heap} {tk : Nat} {s' : Shared} (x : Ext ρ ρ₁ imm imm₁) (p : PVs w env h₀ L out fr ρ₁ imm₁ { s with heap := h, toks := tk } v hp' r s') : PVs w env h₀ L out fr ρ imm s v hp' r s' := by
  obtain ⟨ρ', imm', h', tk', rfl, S, y, k⟩ := p
  exact ⟨ρ', imm', h', tk', rfl, S, x.trans y, k⟩
theorem PB.trans {v : Bool} {r : Bool} {h : Heap} {tk : Nat} {s' : Shared} (x : Ext ρ ρ₁ imm imm₁) (p : PB w env h₀ L out fr ρ₁ imm₁ { s with heap := h, toks := tk } v hp' r s') : PB w env h₀ L out fr ρ imm s v hp' r s' := by
  obtain ⟨ρ', imm', h', tk', rfl, S, y, k⟩ := p
  exact ⟨ρ', imm', h', tk', rfl, S, x.trans y, k⟩
theorem PF.trans {fl : Fl} {f : Flow} {fr' : Str → Option V} {h : Heap} {tk : Nat} {s' : Shared} (x : Ext ρ ρ₁ imm imm₁) (p : PF w env h₀ L out ρ₁ imm₁ { s with heap := h, toks := tk } fl fr' hp' f s') : PF w env h₀ L out ρ imm s fl fr' hp' f s' := by
  obtain ⟨ρ', imm', h', tk', rfl, S, y, k⟩ := p
  exact ⟨ρ', imm', h', tk', rfl, S, x.trans y, k⟩
end

section
variable {d : Nat} {fr : Str → Option V} {hp hp₁ hp₂ : List O}

theorem snd_name {x : Str} {p : Pos} {v : V} (h : fr x = some v) : Snd d (.e (.Name x p) fr hp) (.v v hp) := by
  refine ⟨?_⟩
  intro w A env h₀ L out ρ imm s C R S
  have S' := S
  refine St.elim S fun m mE led cells I => ?_
  obtain ⟨hd, k⟩ := I.f x v h
  refine C.elim fun env0 mean mg mb base outer A₀ B T hA hf hke => ?_
  have X := C.X
  have cellAt : ∀ c o r, (c, o) ∈ cells ++ out → o.data = .cell (some r) → s.heap.IsCell c (some r) := fun c o r hm hd => ⟨o, (I.N (c, o) (by simp only [List.mem_append] at hm ⊢; rcases hm with h | h <;> simp [h])).1, hd⟩
  rcases k with ⟨b, r, h1, h2⟩ | ⟨b, c, o, r, h1, h2, h3, h4⟩ | ⟨b, b2, c, o, r, h1, h2, h3, h4⟩ | ⟨b, ⟨r, h1, h2⟩ | ⟨h1, h2, r, h3, h4⟩⟩
  · refine wpAny_Name (wpAny_loadName_local (m := mE) I.k b ?_ h1 (.of S' (.refl _ _) h2)) hd
    rcases I.l with ⟨e1, e2⟩ | ⟨o, e1, e2⟩
    · rw [e1, e2]; exact I.F.ns
    · exact e2.ns (I.N _ (by simp only [List.mem_append]; exact .inr (.inl e1))).1
  · exact wpAny_Name (wpAny_loadName_cell I.k b h1 (cellAt c o r h2 h3) (.of S' (.refl _ _) h4)) hd
  · exact wpAny_Name (wpAny_loadName_free I.k b h1 (cellAt c o r h2 h3) (.of S' (.refl _ _) h4) b2) hd
  · have g : s.heap.Ns env.globals mg := by rw [I.g]; exact T.g.keeps I.F.keep
    exact Name_function_global I.k b (loadGlobal_global g (mg_of X T.g h1) (.of S' (.refl _ _) h2)) hd
  · have g : s.heap.Ns env.globals mg := by rw [I.g]; exact T.g.keeps I.F.keep
    have bb : s.heap.Ns env.builtins mb := by rw [I.bi]; exact T.b.keeps I.F.keep
    exact Name_function_global I.k b (loadGlobal_builtin g (mg_none_of X T.g h1) bb ((T.builtins x h2).trans h3) (.of S' (.refl _ _) h4)) hd

theorem snd_cint {i : Int} {k : Nat} {p : Pos} : Snd d (.e (.Constant (.int i) k p) fr hp) (.v (.int i) hp) := by
  refine ⟨?_⟩
  intro w A env h₀ L out ρ imm s C R S
  exact wpAny_Constant_int (.of S (.refl _ _) (.int _ _))
theorem snd_cstr {x : Str} {k : Nat} {p : Pos} : Snd d (.e (.Constant (.str x) k p) fr hp) (.v (.str x) hp) := by
  refine ⟨?_⟩
  intro w A env h₀ L out ρ imm s C R S
  exact fun Γ p hΓ => PV.of S (.refl _ _) (.str _ _)
theorem snd_cbool {b : Bool} {k : Nat} {p : Pos} : Snd d (.e (.Constant (.bool b) k p) fr hp) (.v (.bool b) hp) := by
  refine ⟨?_⟩
  intro w A env h₀ L out ρ imm s C R S
  exact fun Γ p hΓ => PV.of (tk' := s.toks) S (.refl _ _) (.bool _)
theorem snd_cnone {k : Nat} {p : Pos} : Snd d (.e (.Constant .none k p) fr hp) (.v .none hp) := by
  refine ⟨?_⟩
  intro w A env h₀ L out ρ imm s C R S
  exact fun Γ p hΓ => PV.of (tk' := s.toks) S (.refl _ _) .none
end

end

section
variable [HasK]
omit [HasK] in
theorem star_cons {e : Expr} (h : isStarred e = false) (rest : List Expr) (env : Env) : starEach (e :: rest) env = (false, eval e env) :: starEach rest env := by
  cases e <;> first | rfl | simp [isStarred] at h
omit [HasK] in
theorem star_any : ∀ {es : List Expr} (pos : Pos) (env : Env), (∀ e ∈ es, isStarred e = false) → (backTo pos (starEach es env)).any (·.1) = false
  | [], _, _, _ => rfl
  | e :: es, pos, env, h => by
    rw [star_cons (h e (.head _))]
    have ih := star_any pos env fun e' h' => h e' (.tail _ h')
    simp only [backTo, List.map_cons, List.any_cons, Bool.false_or] at ih ⊢
    exact ih
section
variable {w : World} {env : Env} {h₀ h h' : Heap} {L : Addr} {ρ : List Addr} {hp : List O} {out imm : Led} {fr : Str → Option V}
/-- a list as it lies -/
theorem St.lst (S : St w env h₀ L h ρ hp out imm fr) {i : Nat} {l : List V} (hi : hp[i]? = some (.list l)) :
    ∃ a vs n, ρ[i]? = some a ∧ h.get? a = some (lstOf vs n) ∧ VRs ρ imm l vs ∧
      ∀ {h' : Heap} {l' : List V} {vs' : List Value} {n' : Nat}, VRs ρ imm l' vs' → Heap.SameBut a h h' → h'.get? a = some (lstOf vs' n') → St w env h₀ L h' ρ (hp.set i (.list l')) out imm fr := by
  obtain ⟨a, es, h1, h2, h3, _, h4⟩ := S.upd hi
  obtain ⟨vs, n, rfl, k⟩ := h2
  refine ⟨a, vs, n, h1, h3 _ (.head _), k, fun {h' l' vs' n'} k' hs hg => h4 (es' := [(a, lstOf vs' n')]) ⟨vs', n', rfl, k'⟩ rfl (.head _) hs fun p hp => ?_⟩
  cases List.mem_singleton.mp hp
  exact hg
omit [HasK] in
theorem isList_of {a : Addr} {vs : List Value} {n : Nat} (e : h.get? a = some (lstOf vs n)) : h.IsList a vs.toArray := ⟨_, e, rfl, n, rfl⟩
theorem St.tupAt (S : St w env h₀ L h ρ hp out imm fr) {a : Addr} {vs : List Value} {n : Nat} (hm : (a, tupOf vs n) ∈ imm) : h.get? a = some (tupOf vs n) := by
  refine St.elim S fun m mE led cells I => ?_
  exact (I.N _ (by simp only [List.mem_append]; exact .inr (.inr hm))).1
omit [HasK] in
theorem find_of {l : List (Str × V)} {ds : List DictEntry} (k : Ents ρ imm l ds) {x : Str} {v : V} (e : l.lookup x = some v) : ∃ d, ds.find? (·.key.isStr x) = some d ∧ VR ρ imm v d.val := by
  induction k with
  | nil => cases e
  | @cons y u l d ds t h1 h2 _ ih =>
    by_cases q : x = y
    · subst q
      simp only [List.lookup_cons, beq_self_eq_true, Option.some.injEq] at e
      subst e
      refine ⟨d, ?_, h2⟩
      rw [List.find?_cons_of_pos]
      rw [h1]; simp [Value.isStr]
    · have q1 : (x == y) = false := by simpa using q
      have q2 : (y == x) = false := by simpa using fun z => q z.symm
      rw [List.lookup_cons, q1] at e
      obtain ⟨f, a, b⟩ := ih e
      refine ⟨f, ?_, b⟩
      rw [List.find?_cons_of_neg]
      · exact a
      · rw [h1]; simp [Value.isStr, q2]
omit [HasK] in
theorem getL_of {l : List (Str × V)} {ds : List DictEntry} (k : Ents ρ imm l ds) {x : Str} {v : V} (e : l.lookup x = some v) : ∃ r, getL x ds = some (some r) ∧ VR ρ imm v r := by
  obtain ⟨f, a, b⟩ := find_of k e
  exact ⟨f.val, by unfold getL; rw [a], b⟩
omit [HasK] in
theorem getL_none {l : List (Str × V)} {ds : List DictEntry} (k : Ents ρ imm l ds) {x : Str} (e : l.lookup x = none) : getL x ds = some none := by
  have : ∀ d ∈ ds, d.key.isStr x = false ∧ d.refKey = false := by
    induction k with
    | nil => intro d hd; cases hd
    | @cons y u l d ds t h1 h2 _ ih =>
      have q : (x == y) = false := by
        cases q : x == y with
        | false => rfl
        | true => rw [List.lookup_cons, q] at e; cases e
      rw [List.lookup_cons, q] at e
      intro d' hd'
      rcases List.mem_cons.mp hd' with rfl | hd'
      · have q2 : (y == x) = false := by
          have : x ≠ y := by simpa using q
          simpa using fun z => this z.symm
        exact ⟨by simp [h1, Value.isStr, q2], by simp [DictEntry.refKey, h1]⟩
      · exact ih e d' hd'
  unfold getL
  rw [List.find?_eq_none.mpr fun d hd => by simp [(this d hd).1]]
  have : ds.any (·.refKey) = false := by
    rw [List.any_eq_false]
    exact fun d hd => by simp [(this d hd).2]
  simp [this]
/-- an object as it lies -/
theorem St.ins (S : St w env h₀ L h ρ hp out imm fr) {i : Nat} {c : Addr} {l : List (Str × V)} (hi : hp[i]? = some (.inst c l)) :
    ∃ a d ds n m, ρ[i]? = some a ∧ Fr h₀ L h m ∧ W.InstAt h a (instObj c d) c (some (dictOf ds n)) ∧ Ents ρ imm l ds := by
  obtain ⟨a, es, h1, h2, h3, _, h4⟩ := S.upd hi
  obtain ⟨d, ds, n, rfl, k⟩ := h2
  refine St.elim S fun m mE led cells I => ?_
  exact ⟨a, d, ds, n, m, h1, I.F, ⟨h3 _ (.head _), rfl, rfl, h3 _ (.tail _ (.head _))⟩, k⟩
end

noncomputable def AttrOk (c : Addr) (x : Str) : Prop := ∀ w : World, plainGet (HasK.heap w.params) c x = true ∧ hasDictIn (HasK.heap w.params) c = true ∧ ∃ attr, findIn (HasK.heap w.params) (.ref c) x = some attr ∧ noGet (HasK.heap w.params) attr = true
noncomputable def MethOk (c : Addr) (x : Str) (f : Addr) : Prop := ∀ w : World, plainGet (HasK.heap w.params) c x = true ∧ findIn (HasK.heap w.params) (.ref c) x = some (some (.ref f)) ∧ isFn (HasK.heap w.params) (.ref f) = true ∧ keepIn (HasK.heap w.params) (.ref f) = true
noncomputable def hdV : V → Bool
  | .obj v => handedIn v
  | _ => true
omit [HasK] in
theorem handed_of {ρ : List Addr} {imm : Led} {v : V} {r : Value} (k : VR ρ imm v r) (h : hdV v = true) : handedIn r = true := by
  cases k <;> first | rfl | exact h

section
variable {d : Nat} {fr : Str → Option V} {hp hp₁ hp₂ hp₃ : List O}
theorem snd_nil : Snd d (.es [] fr hp) (.vs [] hp) :=
  ⟨fun _ h => (nomatch h), fun w A env h₀ L out ρ imm s pos C R S => spliced_none ⟨ρ, imm, _, s.toks, rfl, S, .refl _ _, .nil⟩⟩
theorem snd_cons {e : Expr} {es : List Expr} {v : V} {l : List V} (hs : isStarred e = false) (h1 : Snd d (.e e fr hp) (.v v hp₁)) (h2 : Snd d (.es es fr hp₁) (.vs l hp₂)) : Snd d (.es (e :: es) fr hp) (.vs (v :: l) hp₂) := by
  refine ⟨fun e' he' => ?_, ?_⟩
  · rcases List.mem_cons.mp he' with rfl | he'
    · exact hs
    · exact h2.go.1 e' he'
  intro w A env h₀ L out ρ imm s pos C R S
  first | refine spliced_more (wmV (h1.go w A env h₀ L out ρ imm s C R S) fun r ρ' imm' h' tk' S' x k => ?_) (star_cons hs es env) | refine spliced_more (wmF (h1.go w A env h₀ L out ρ imm s C R S) fun r ρ' imm' h' tk' S' x k => ?_) (star_cons hs es env) | refine spliced_more (wmS (h1.go w A env h₀ L out ρ imm s C R S) fun r ρ' imm' h' tk' S' x k => ?_) (star_cons hs es env)
  first | refine wmV (h2.go.2 w A env h₀ L out ρ' imm' _ pos C R S') fun rs ρ'' imm'' h'' tk'' S'' y ks => ?_ | refine wmF (h2.go.2 w A env h₀ L out ρ' imm' _ pos C R S') fun rs ρ'' imm'' h'' tk'' S'' y ks => ?_ | refine wmS (h2.go.2 w A env h₀ L out ρ' imm' _ pos C R S') fun rs ρ'' imm'' h'' tk'' S'' y ks => ?_
  exact ⟨ρ'', imm'', h'', tk'', rfl, S'', x.trans y, .cons (k.mono y) ks⟩
theorem snd_tup {es : List Expr} {k : Nat} {p : Pos} {l : List V} (h : Snd d (.es es fr hp) (.vs l hp₁)) (hz : l.length ≤ 1000) : Snd d (.e (.Tuple es k p) fr hp) (.v (.tup l) hp₁) := by
  refine ⟨?_⟩
  intro w A env h₀ L out ρ imm s C R S
  first | refine Tuple_ (wmV (h.go.2 w A env h₀ L out ρ imm s p C R S) fun rs ρ' imm' h' tk' S' x ks => ?_) | refine Tuple_ (wmF (h.go.2 w A env h₀ L out ρ imm s p C R S) fun rs ρ' imm' h' tk' S' x ks => ?_) | refine Tuple_ (wmS (h.go.2 w A env h₀ L out ρ imm s p C R S) fun rs ρ' imm' h' tk' S' x ks => ?_)
  refine wpAny_newTuple ?_ (by rw [ks.length]; rw [sizeLine_eq]; (first | lia | omega))
  obtain ⟨S'', y⟩ := S'.tup (h' := h'.push (tupOf rs 0)) (fun b o e => Heap.get?_push_of_some _ e) (Heap.get?_none_of_le (Nat.le_refl _)) (Heap.get?_push_size _ rfl)
  exact .of S'' (x.trans y) (.tup (.head _) (ks.mono y))
theorem snd_list {es : List Expr} {p : Pos} {l : List V} (h : Snd d (.es es fr hp) (.vs l hp₁)) (hz : l.length ≤ 1000) : Snd d (.e (.List es p) fr hp) (.v (.ref hp₁.length) (hp₁ ++ [.list l])) := by
  refine ⟨?_⟩
  intro w A env h₀ L out ρ imm s C R S
  first | refine List_ (wmV (h.go.2 w A env h₀ L out ρ imm s p C R S) fun rs ρ' imm' h' tk' S' x ks => ?_) | refine List_ (wmF (h.go.2 w A env h₀ L out ρ imm s p C R S) fun rs ρ' imm' h' tk' S' x ks => ?_) | refine List_ (wmS (h.go.2 w A env h₀ L out ρ imm s p C R S) fun rs ρ' imm' h' tk' S' x ks => ?_)
  have hl : ρ'.length = hp₁.length := by refine St.elim S' fun m mE led cells I => ?_; exact I.R.len.1
  unfold newList
  refine wpAny_newObj_type ?_ (by show rs.toArray.size ≤ sizeLine; rw [List.size_toArray, ks.length, sizeLine_eq]; (first | lia | omega))
  obtain ⟨S'', y⟩ := S'.new (h' := h'.push (lstOf rs 0)) (fun b o e => Heap.get?_push_of_some _ e) (o := .list l) (a := h'.objs.size) (es := [(h'.objs.size, lstOf rs 0)]) ⟨rs, 0, rfl, ks⟩
    (fun p hp => by cases List.mem_singleton.mp hp; exact ⟨Heap.get?_none_of_le (Nat.le_refl _), Heap.get?_push_size _ rfl⟩) (by simp)
  exact .of S'' (x.trans y) (.ref (by rw [List.getElem?_append_right (by (first | lia | omega))]; simp [hl]))
theorem snd_attr {o : Expr} {x : Str} {p : Pos} {i : Nat} {c : Addr} {l : List (Str × V)} {v : V} (h : Snd d (.e o fr hp) (.v (.ref i) hp₁)) (hi : hp₁[i]? = some (.inst c l)) (hx : l.lookup x = some v) (ok : AttrOk c x) (hv : hdV v = true)
    (hs : ∀ env : Env, eval (o.Attribute x p) env = (do let o' ← eval o env; standAt p.atName; let r ← holding [o'] (getAttr o' x true); letTemporaryGo o o' r; pure r)) :
    Snd d (.e (.Attribute o x p) fr hp) (.v v hp₁) := by
  refine ⟨?_⟩
  intro w A env h₀ L out ρ imm s C R S
  first | refine Attribute_any_ (wmV (h.go w A env h₀ L out ρ imm s C R S) fun r ρ' imm' h' tk' S' y k => ?_) (hs env) | refine Attribute_any_ (wmF (h.go w A env h₀ L out ρ imm s C R S) fun r ρ' imm' h' tk' S' y k => ?_) (hs env) | refine Attribute_any_ (wmS (h.go w A env h₀ L out ρ imm s C R S) fun r ρ' imm' h' tk' S' y k => ?_) (hs env)
  obtain ⟨a, dd, ds, n, m, e1, F, I, E⟩ := S'.ins hi
  obtain ⟨_, e2, rfl⟩ := VR.refI k
  rw [e1] at e2; cases e2
  obtain ⟨r, g1, g2⟩ := getL_of E hx
  obtain ⟨o1, o2, attr, o3, o4⟩ := ok w
  exact get_own (s := { s with heap := h', toks := tk' }) F C.X I o1 o2 o3 o4 g1 (handed_of g2 hv) (.of S' y g2)
end

end

section
variable [HasK]
/-- values that are mere data -/
noncomputable def pv : Nat → V → Bool
  | _, .none => true
  | _, .int _ => true
  | _, .str x => PyData.strOk x
  | n + 1, .tup l => l.all (pv n)
  | _, _ => false
mutual
noncomputable def toD : V → Dat
  | .none => .none
  | .bool b => .bool b
  | .int i => .int i
  | .str x => .str x
  | .tup l => .tuple (toDs l)
  | .ref _ => .none
  | .obj _ => .none
noncomputable def toDs : List V → List Dat
  | [] => []
  | v :: l => toD v :: toDs l
end
omit [HasK] in
theorem toDs_eq : ∀ l : List V, toDs l = l.map toD
  | [] => rfl
  | v :: l => by rw [toDs, toDs_eq l]; rfl
omit [HasK] in
theorem pv_ok : ∀ (n : Nat) (v : V), pv n v = true → kqdOk n (toD v) = true := by
  intro n
  induction n with
  | zero => intro v h; cases v <;> simp_all [pv, toD, kqdOk]
  | succ n ih =>
    intro v h
    cases v with
    | tup l =>
      simp only [pv, List.all_eq_true] at h
      simp only [toD, toDs_eq, kqdOk, List.all_map, List.all_eq_true]
      exact fun x hx => ih x (h x hx)
    | _ => simp_all [pv, toD, kqdOk]
omit [HasK] in
theorem pv_inj : ∀ (n k : Nat) (v u : V), pv n v = true → pv k u = true → toD v = toD u → v = u := by
  intro n
  induction n with
  | zero => intro k v u h1 h2 e; cases v <;> cases u <;> cases k <;> simp_all [pv, toD]
  | succ n ih =>
    intro k v u h1 h2 e
    cases v with
    | tup l =>
      cases u with
      | tup l' =>
        cases k with
        | zero => simp [pv] at h2
        | succ k =>
          simp only [toD, Dat.tuple.injEq, toDs_eq] at e
          simp only [pv, List.all_eq_true] at h1 h2
          congr 1
          induction l generalizing l' with
          | nil => cases l' with | nil => rfl | cons a b => simp at e
          | cons a b hi =>
            cases l' with
            | nil => simp at e
            | cons a' b' =>
              simp only [List.map_cons, List.cons.injEq] at e
              rw [ih k a a' (h1 _ (.head _)) (h2 _ (.head _)) e.1, hi b' e.2 (fun x hx => h1 x (.tail _ hx)) (fun x hx => h2 x (.tail _ hx))]
      | _ => cases k <;> simp_all [pv, toD]
    | _ => cases u <;> cases k <;> simp_all [pv, toD]
section
variable {ρ : List Addr} {imm : Led}
omit [HasK] in
theorem dat_of : ∀ (n : Nat) {v : V} {r : Value}, pv n v = true → VR ρ imm v r → DatIn imm r (toD v) := by
  intro n
  induction n with
  | zero =>
    intro v r h k
    cases k <;> first | (simp [pv] at h; done) | exact .none | exact .int _ _ | exact .str _ _
  | succ n ih =>
    intro v r h k
    cases k with
    | @tup a vs m l hm ks =>
      simp only [pv, List.all_eq_true] at h
      rw [toD]
      refine .tuple hm ?_
      clear hm
      induction l generalizing vs with
      | nil => (first | obtain ⟨_, rfl⟩ := VR.intI ks | obtain rfl := VR.objI ks | obtain rfl := VR.boolI ks | obtain ⟨_, rfl⟩ := VR.strI ks | obtain rfl := VR.noneI ks | obtain rfl := VRs.nilI ks | obtain rfl := FR.nxI ks | cases ks); exact .nil
      | cons x l hi => obtain ⟨_, _, k1, k2, rfl⟩ := VRs.consI ks; rw [toDs]; exact .cons (ih (h x (.head _)) k1) (hi k2 fun y hy => h y (.tail _ hy))
    | none => exact .none
    | int => exact .int _ _
    | str => exact .str _ _
    | _ => simp [pv] at h
end
section
variable {w : World} {env : Env} {h₀ h h' : Heap} {L : Addr} {ρ : List Addr} {hp : List O} {out imm : Led} {fr : Str → Option V}
theorem St.reads (S : St w env h₀ L h ρ hp out imm fr) {v : V} {r : Value} {n : Nat} (p : pv n v = true) (k : VR ρ imm v r) : ∃ as, Reads h r (kqdP (toD v)) as := by
  refine St.elim S fun m mE led cells I => ?_
  exact kqd_in (h₀ := h₀) (L := L) (fun q hq => I.N q (by simp only [List.mem_append]; exact .inr (.inr hq))) n (dat_of n p k) (pv_ok n v p)
omit [HasK] in
theorem eqv_of {v u : V} {n k : Nat} (p : pv n v = true) (q : pv k u = true) {b : Bool} (hb : b = true ↔ v = u) : PyData.eqv (kqdP (toD v)) (kqdP (toD u)) = b := by
  have e := kqd_eqv n (toD v) (toD u) k (pv_ok n v p) (pv_ok k u q)
  cases b with
  | true => exact e.mpr (by rw [hb.mp rfl])
  | false =>
    refine Bool.eq_false_iff.mpr fun z => ?_
    have := pv_inj n k v u p q (e.mp z)
    exact absurd (hb.mpr this) (by decide)
omit [HasK] in
theorem shaped_of {v : V} {n : Nat} (p : pv n v = true) (hn : n ≤ 60) : SeqAt.shaped (kqdP (toD v)) = true := by
  have l := kqd_lay n (toD v) (pv_ok n v p)
  unfold SeqAt.shaped
  rw [l.1, Bool.true_and]
  exact decide_eq_true (Nat.le_trans l.2 (Nat.le_trans hn (by decide)))
end

omit [HasK] in
/-- what a comparison says -/
theorem any20 : ∀ (ds : List Dat) (d : Dat), (∀ e ∈ ds, kqdOk 20 e = true) → kqdOk 20 d = true → ((kqdPs ds).any (fun y => PyData.eqv y (kqdP d)) = true ↔ d ∈ ds)
  | [], d, _, _ => by simp [kqdPs]
  | e :: ds, d, h, hd => by
    have q := any20 ds d (fun x hx => h x (.tail _ hx)) hd
    have q1 := kqd_eqv 20 e d 20 (h e (.head _)) hd
    simp only [kqdPs, List.any_cons, Bool.or_eq_true, q, q1, List.mem_cons]
    exact ⟨fun x => x.imp Eq.symm id, fun x => x.imp Eq.symm id⟩
omit [HasK] in
theorem layL20 {ds : List Dat} (h : ∀ d ∈ ds, kqdOk 20 d = true) : PyData.canLayAll0 (kqdPs ds) = true ∧ PyData.depthAll (kqdPs ds) ≤ 21 := by
  have l := kqd_lay 21 (.list ds) (by simpa [kqdOk] using h)
  rw [kqdP] at l
  simp only [PyData.canLay0, PyData.depth] at l
  have l2 := l.2
  exact ⟨l.1, by (first | lia | omega)⟩
inductive Cmp : List O → CmpOp → V → V → Bool → Prop
  | eqI (hp : List O) (a b : Int) : Cmp hp .Eq (.int a) (.int b) (a == b)
  | neI (hp : List O) (a b : Int) : Cmp hp .NotEq (.int a) (.int b) (a != b)
  | ltI (hp : List O) (a b : Int) : Cmp hp .Lt (.int a) (.int b) (decide (a < b))
  | gtI (hp : List O) (a b : Int) : Cmp hp .Gt (.int a) (.int b) (decide (b < a))
  | leI (hp : List O) (a b : Int) : Cmp hp .LtE (.int a) (.int b) (decide (a ≤ b))
  | geI (hp : List O) (a b : Int) : Cmp hp .GtE (.int a) (.int b) (decide (b ≤ a))
  | eqS (hp : List O) (a b : Str) : Cmp hp .Eq (.str a) (.str b) (a == b)
  | eqT {hp : List O} {a c : V} {b : Bool} : pv 40 a = true → pv 40 c = true → (b = true ↔ a = c) → Cmp hp .Eq a c b
  | neT {hp : List O} {a c : V} {b : Bool} : pv 40 a = true → pv 40 c = true → (b = true ↔ a = c) → Cmp hp .NotEq a c (!b)
  | inD {hp : List O} {k : Int} {i : Nat} {l : List (Int × V)} : hp[i]? = some (.dI l) → Cmp hp .In (.int k) (.ref i) (l.lookup k).isSome
  | niD {hp : List O} {k : Int} {i : Nat} {l : List (Int × V)} : hp[i]? = some (.dI l) → Cmp hp .NotIn (.int k) (.ref i) (!(l.lookup k).isSome)
  | isN {hp : List O} {l : List V} : Cmp hp .Is (.tup l) .none false
  | inL {hp : List O} {v : V} {i : Nat} {l : List V} {b : Bool} : hp[i]? = some (.list l) → (∀ u ∈ l, pv 20 u = true) → pv 20 v = true → (b = true ↔ v ∈ l) → Cmp hp .In v (.ref i) b
  | niL {hp : List O} {v : V} {i : Nat} {l : List V} {b : Bool} : hp[i]? = some (.list l) → (∀ u ∈ l, pv 20 u = true) → pv 20 v = true → (b = true ↔ v ∈ l) → Cmp hp .NotIn v (.ref i) (!b)

section
variable {w : World} {A : Around} {env : Env} {h₀ h h' : Heap} {L : Addr} {ρ : List Addr} {hp : List O} {out imm : Led} {fr : Str → Option V} {s : Shared} {d : Nat}
theorem St.dctI (S : St w env h₀ L h ρ hp out imm fr) {i : Nat} {l : List (Int × V)} (hi : hp[i]? = some (.dI l)) :
    ∃ a kvs, ρ[i]? = some a ∧ (a == sysModules) = false ∧ h.DictOf (iK w) a kvs ∧ kvs.map (·.1) = l.map (·.1) ∧ VRs ρ imm (l.map (·.2)) (kvs.map (·.2)) ∧
      ∀ {h' : Heap} {l' : List (Int × V)} {kvs' : List (Int × Value)}, kvs'.map (·.1) = l'.map (·.1) → VRs ρ imm (l'.map (·.2)) (kvs'.map (·.2)) → Heap.SameBut a h h' → h'.DictOf (iK w) a kvs' → St w env h₀ L h' ρ (hp.set i (.dI l')) out imm fr := by
  obtain ⟨a, es, h1, h2, h3, _, h4⟩ := S.upd hi
  obtain ⟨o, kvs, rfl, h0, k1, k2, k3⟩ := h2
  refine ⟨a, kvs, h1, h0, Heap.dictOf_iff.mpr ⟨o, h3 _ (.head _), k1⟩, k2, k3, fun {h' l' kvs'} e1 e2 hs hd => ?_⟩
  obtain ⟨o', g1, g2⟩ := Heap.dictOf_iff.mp hd
  exact h4 (es' := [(a, o')]) ⟨o', kvs', rfl, h0, g2, e1, e2⟩ rfl (.head _) hs fun p hp => by cases List.mem_singleton.mp hp; exact g1
theorem St.dctS (S : St w env h₀ L h ρ hp out imm fr) {i : Nat} {l : List (Str × V)} (hi : hp[i]? = some (.dS l)) :
    ∃ a kvs, ρ[i]? = some a ∧ (a == sysModules) = false ∧ h.DictOf (sK w) a kvs ∧ kvs.map (·.1) = l.map (·.1) ∧ VRs ρ imm (l.map (·.2)) (kvs.map (·.2)) ∧
      ∀ {h' : Heap} {l' : List (Str × V)} {kvs' : List (Str × Value)}, kvs'.map (·.1) = l'.map (·.1) → VRs ρ imm (l'.map (·.2)) (kvs'.map (·.2)) → Heap.SameBut a h h' → h'.DictOf (sK w) a kvs' → St w env h₀ L h' ρ (hp.set i (.dS l')) out imm fr := by
  obtain ⟨a, es, h1, h2, h3, _, h4⟩ := S.upd hi
  obtain ⟨o, kvs, rfl, h0, k1, k2, k3⟩ := h2
  refine ⟨a, kvs, h1, h0, Heap.dictOf_iff.mpr ⟨o, h3 _ (.head _), k1⟩, k2, k3, fun {h' l' kvs'} e1 e2 hs hd => ?_⟩
  obtain ⟨o', g1, g2⟩ := Heap.dictOf_iff.mp hd
  exact h4 (es' := [(a, o')]) ⟨o', kvs', rfl, h0, g2, e1, e2⟩ rfl (.head _) hs fun p hp => by cases List.mem_singleton.mp hp; exact g1
omit [HasK] in
theorem at_of {K : Type} [DecidableEq K] {l : List (K × V)} {kvs : List (K × Value)} (e : kvs.map (·.1) = l.map (·.1)) (k : VRs ρ imm (l.map (·.2)) (kvs.map (·.2))) (x : K) :
    (valueAt kvs x).isSome = (l.lookup x).isSome ∧ ∀ v, l.lookup x = some v → ∃ r, valueAt kvs x = some r ∧ VR ρ imm v r := by
  induction l generalizing kvs with
  | nil => cases kvs with | nil => exact ⟨rfl, fun v h => by cases h⟩ | cons a b => simp at e
  | cons p l ih =>
    cases kvs with
    | nil => simp at e
    | cons q kvs =>
      obtain ⟨y, u⟩ := p
      obtain ⟨y', u'⟩ := q
      simp only [List.map_cons, List.cons.injEq] at e k
      obtain ⟨e1, e2⟩ := e
      subst e1
      cases k with | cons k1 k2 =>
      obtain ⟨i1, i2⟩ := ih e2 k2
      unfold valueAt at i1 i2 ⊢
      by_cases q : y' = x
      · subst q
        simp only [List.find?_cons, decide_true, Option.map_some, List.lookup_cons, beq_self_eq_true, Option.isSome_some, true_and]
        rintro v ⟨⟩
        exact ⟨_, rfl, k1⟩
      · have q' : (x == y') = false := by simpa using fun z => q z.symm
        simp only [List.find?_cons, q, decide_false, List.lookup_cons, q']
        exact ⟨i1, i2⟩
theorem St.readsL (S : St w env h₀ L h ρ hp out imm fr) {i : Nat} {l : List V} (hi : hp[i]? = some (.list l)) (p : ∀ u ∈ l, pv 20 u = true) : ∃ a as, ρ[i]? = some a ∧ Reads h (.ref a) (.list (kqdPs (toDs l))) as := by
  obtain ⟨a, vs, n, h1, h2, h3, _⟩ := S.lst hi
  refine St.elim S fun m mE led cells I => ?_
  have D : DatAll imm vs (toDs l) := by
    clear h2 hi h1
    induction l generalizing vs with
    | nil => cases h3; exact .nil
    | cons x l ih => obtain ⟨_, _, k1, k2, rfl⟩ := VRs.consI h3; rw [toDs]; exact .cons (dat_of 20 (p x (.head _)) k1) (ih (fun u hu => p u (.tail _ hu)) _ k2)
  obtain ⟨as, r⟩ := kqd_all (h₀ := h₀) (L := L) (fun q hq => I.N q (by simp only [List.mem_append]; exact .inr (.inr hq))) 20 D (fun e he => by
    rw [toDs_eq] at he
    obtain ⟨u, hu, rfl⟩ := List.mem_map.mp he
    exact pv_ok 20 u (p u hu))
  exact ⟨a, _, h1, reads_list_at (o := lstOf vs n) h2 rfl rfl (by simpa using r)⟩
omit [HasK] in
theorem any_of {l : List V} {v : V} {b : Bool} (p : ∀ u ∈ l, pv 20 u = true) (q : pv 20 v = true) (hb : b = true ↔ v ∈ l) : ((kqdPs (toDs l)).any fun y => PyData.eqv y (kqdP (toD v))) = b := by
  have e := any20 (toDs l) (toD v) (fun e he => by
    rw [toDs_eq] at he
    obtain ⟨u, hu, rfl⟩ := List.mem_map.mp he
    exact pv_ok 20 u (p u hu)) (pv_ok 20 v q)
  have m : toD v ∈ toDs l ↔ v ∈ l := by
    rw [toDs_eq, List.mem_map]
    exact ⟨fun ⟨u, hu, eq⟩ => pv_inj 20 20 u v (p u hu) q eq ▸ hu, fun hv => ⟨v, hv, rfl⟩⟩
  cases b with
  | true => exact e.mpr (m.mpr (hb.mp rfl))
  | false =>
    refine Bool.eq_false_iff.mpr fun z => ?_
    exact absurd (hb.mpr (m.mp (e.mp z))) (by decide)

theorem cmp_snd {op : CmpOp} {a c : V} {b : Bool} (k : Cmp hp op a c b) (R : Room d A) (S : St w env h₀ L s.heap ρ hp out imm fr) {ra rc : Value} (ka : VR ρ imm a ra) (kc : VR ρ imm c rc) :
    wpAny (model pR w) A (compareOp op ra rc) (fun r s' => r = .bool b ∧ ∃ tk', s' = { s with toks := tk' }) Fal s := by
  have u64 : A.units + 64 < cLine := by have := R.un; (first | lia | omega)
  cases k with
  | eqI x y => (first | obtain ⟨_, rfl⟩ := VR.intI ka | obtain rfl := VR.objI ka | obtain rfl := VR.boolI ka | obtain ⟨_, rfl⟩ := VR.strI ka | obtain rfl := VR.noneI ka | obtain rfl := VRs.nilI ka | obtain rfl := FR.nxI ka | cases ka); (first | obtain ⟨_, rfl⟩ := VR.intI kc | obtain rfl := VR.objI kc | obtain rfl := VR.boolI kc | obtain ⟨_, rfl⟩ := VR.strI kc | obtain rfl := VR.noneI kc | obtain rfl := VRs.nilI kc | obtain rfl := FR.nxI kc | cases kc); exact eq_int ⟨rfl, _, rfl⟩
  | neI x y => (first | obtain ⟨_, rfl⟩ := VR.intI ka | obtain rfl := VR.objI ka | obtain rfl := VR.boolI ka | obtain ⟨_, rfl⟩ := VR.strI ka | obtain rfl := VR.noneI ka | obtain rfl := VRs.nilI ka | obtain rfl := FR.nxI ka | cases ka); (first | obtain ⟨_, rfl⟩ := VR.intI kc | obtain rfl := VR.objI kc | obtain rfl := VR.boolI kc | obtain ⟨_, rfl⟩ := VR.strI kc | obtain rfl := VR.noneI kc | obtain rfl := VRs.nilI kc | obtain rfl := FR.nxI kc | cases kc); exact ne_int ⟨rfl, _, rfl⟩
  | ltI x y => (first | obtain ⟨_, rfl⟩ := VR.intI ka | obtain rfl := VR.objI ka | obtain rfl := VR.boolI ka | obtain ⟨_, rfl⟩ := VR.strI ka | obtain rfl := VR.noneI ka | obtain rfl := VRs.nilI ka | obtain rfl := FR.nxI ka | cases ka); (first | obtain ⟨_, rfl⟩ := VR.intI kc | obtain rfl := VR.objI kc | obtain rfl := VR.boolI kc | obtain ⟨_, rfl⟩ := VR.strI kc | obtain rfl := VR.noneI kc | obtain rfl := VRs.nilI kc | obtain rfl := FR.nxI kc | cases kc); exact lt_int ⟨rfl, _, rfl⟩
  | gtI x y => (first | obtain ⟨_, rfl⟩ := VR.intI ka | obtain rfl := VR.objI ka | obtain rfl := VR.boolI ka | obtain ⟨_, rfl⟩ := VR.strI ka | obtain rfl := VR.noneI ka | obtain rfl := VRs.nilI ka | obtain rfl := FR.nxI ka | cases ka); (first | obtain ⟨_, rfl⟩ := VR.intI kc | obtain rfl := VR.objI kc | obtain rfl := VR.boolI kc | obtain ⟨_, rfl⟩ := VR.strI kc | obtain rfl := VR.noneI kc | obtain rfl := VRs.nilI kc | obtain rfl := FR.nxI kc | cases kc); exact gt_int ⟨rfl, _, rfl⟩
  | leI x y => (first | obtain ⟨_, rfl⟩ := VR.intI ka | obtain rfl := VR.objI ka | obtain rfl := VR.boolI ka | obtain ⟨_, rfl⟩ := VR.strI ka | obtain rfl := VR.noneI ka | obtain rfl := VRs.nilI ka | obtain rfl := FR.nxI ka | cases ka); (first | obtain ⟨_, rfl⟩ := VR.intI kc | obtain rfl := VR.objI kc | obtain rfl := VR.boolI kc | obtain ⟨_, rfl⟩ := VR.strI kc | obtain rfl := VR.noneI kc | obtain rfl := VRs.nilI kc | obtain rfl := FR.nxI kc | cases kc); exact le_int ⟨rfl, _, rfl⟩
  | geI x y => (first | obtain ⟨_, rfl⟩ := VR.intI ka | obtain rfl := VR.objI ka | obtain rfl := VR.boolI ka | obtain ⟨_, rfl⟩ := VR.strI ka | obtain rfl := VR.noneI ka | obtain rfl := VRs.nilI ka | obtain rfl := FR.nxI ka | cases ka); (first | obtain ⟨_, rfl⟩ := VR.intI kc | obtain rfl := VR.objI kc | obtain rfl := VR.boolI kc | obtain ⟨_, rfl⟩ := VR.strI kc | obtain rfl := VR.noneI kc | obtain rfl := VRs.nilI kc | obtain rfl := FR.nxI kc | cases kc); exact ge_int ⟨rfl, _, rfl⟩
  | eqS x y => (first | obtain ⟨_, rfl⟩ := VR.intI ka | obtain rfl := VR.objI ka | obtain rfl := VR.boolI ka | obtain ⟨_, rfl⟩ := VR.strI ka | obtain rfl := VR.noneI ka | obtain rfl := VRs.nilI ka | obtain rfl := FR.nxI ka | cases ka); (first | obtain ⟨_, rfl⟩ := VR.intI kc | obtain rfl := VR.objI kc | obtain rfl := VR.boolI kc | obtain ⟨_, rfl⟩ := VR.strI kc | obtain rfl := VR.noneI kc | obtain rfl := VRs.nilI kc | obtain rfl := FR.nxI kc | cases kc); exact eq_str ⟨rfl, _, rfl⟩
  | eqT p q hb =>
    obtain ⟨as, r1⟩ := S.reads p ka
    obtain ⟨bs, r2⟩ := S.reads q kc
    exact eq_dataH r1 r2 (shaped_of p (by decide)) (shaped_of q (by decide)) u64 (by rw [eqv_of p q hb]; exact ⟨rfl, _, rfl⟩)
  | neT p q hb =>
    obtain ⟨as, r1⟩ := S.reads p ka
    obtain ⟨bs, r2⟩ := S.reads q kc
    exact ne_dataH r1 r2 (shaped_of p (by decide)) (shaped_of q (by decide)) u64 (by rw [eqv_of p q hb]; exact ⟨rfl, _, rfl⟩)
  | inD hi =>
    obtain ⟨x, kvs, h1, h0, hd, e1, e2, _⟩ := S.dctI hi
    (first | obtain ⟨_, rfl⟩ := VR.intI ka | obtain rfl := VR.objI ka | obtain rfl := VR.boolI ka | obtain ⟨_, rfl⟩ := VR.strI ka | obtain rfl := VR.noneI ka | obtain rfl := VRs.nilI ka | obtain rfl := FR.nxI ka | cases ka); obtain ⟨_, e3, rfl⟩ := VR.refI kc
    rw [h1] at e3; cases e3
    exact wpAny_in_of (intKind_is _ _ _ _) h0 hd.mapOf (by rw [(at_of e1 e2 _).1]; exact ⟨rfl, _, rfl⟩)
  | niD hi =>
    obtain ⟨x, kvs, h1, h0, hd, e1, e2, _⟩ := S.dctI hi
    (first | obtain ⟨_, rfl⟩ := VR.intI ka | obtain rfl := VR.objI ka | obtain rfl := VR.boolI ka | obtain ⟨_, rfl⟩ := VR.strI ka | obtain rfl := VR.noneI ka | obtain rfl := VRs.nilI ka | obtain rfl := FR.nxI ka | cases ka); obtain ⟨_, e3, rfl⟩ := VR.refI kc
    rw [h1] at e3; cases e3
    exact wpAny_notIn_of (intKind_is _ _ _ _) h0 hd.mapOf (by rw [(at_of e1 e2 _).1]; exact ⟨rfl, _, rfl⟩)
  | isN => (first | obtain ⟨_, rfl⟩ := VR.intI ka | obtain rfl := VR.objI ka | obtain rfl := VR.boolI ka | obtain ⟨_, rfl⟩ := VR.strI ka | obtain rfl := VR.noneI ka | obtain rfl := VRs.nilI ka | obtain rfl := FR.nxI ka | cases ka); (first | obtain ⟨_, rfl⟩ := VR.intI kc | obtain rfl := VR.objI kc | obtain rfl := VR.boolI kc | obtain ⟨_, rfl⟩ := VR.strI kc | obtain rfl := VR.noneI kc | obtain rfl := VRs.nilI kc | obtain rfl := FR.nxI kc | cases kc); exact wpAny_is_other rfl (by simp) ⟨rfl, _, rfl⟩
  | inL hi p q hb =>
    obtain ⟨x, as, h1, r1⟩ := S.readsL hi p
    obtain ⟨bs, r2⟩ := S.reads q ka
    obtain ⟨_, e3, rfl⟩ := VR.refI kc
    rw [h1] at e3; cases e3
    refine SeqAt.in_list_reads r1 r2 (layL20 (fun e he => ?_)).1 (kqd_lay 20 _ (pv_ok 20 _ q)).1 (by have := (kqd_lay 20 _ (pv_ok 20 _ q)).2; (first | lia | omega)) (by rw [any_of p q hb]; exact ⟨rfl, _, rfl⟩)
    rw [toDs_eq] at he
    obtain ⟨u, hu, rfl⟩ := List.mem_map.mp he
    exact pv_ok 20 u (p u hu)
  | niL hi p q hb =>
    obtain ⟨x, as, h1, r1⟩ := S.readsL hi p
    obtain ⟨bs, r2⟩ := S.reads q ka
    obtain ⟨_, e3, rfl⟩ := VR.refI kc
    rw [h1] at e3; cases e3
    refine SeqAt.notIn_list_reads r1 r2 (layL20 (fun e he => ?_)).1 (kqd_lay 20 _ (pv_ok 20 _ q)).1 (by have := (kqd_lay 20 _ (pv_ok 20 _ q)).2; (first | lia | omega)) (by rw [any_of p q hb]; exact ⟨rfl, _, rfl⟩)
    rw [toDs_eq] at he
    obtain ⟨u, hu, rfl⟩ := List.mem_map.mp he
    exact pv_ok 20 u (p u hu)
end
omit [HasK] in
theorem cmp_as {hp : List O} {op : CmpOp} {a c : V} {b b' : Bool} (k : Cmp hp op a c b) (e : b = b') : Cmp hp op a c b' := e ▸ k

end

section
variable [HasK]
noncomputable def isSl : Expr → Bool
  | .Slice .. => true
  | _ => false
omit [HasK] in
theorem sub_plain {sl : Expr} (h : isSl sl = false) (o i : Value) : subscripted sl false o i = operate [o, i] (getItem o i) := by
  cases sl <;> first | rfl | simp [isSl] at h
/-- tests that are no comparison, no «and», no «not» -/
noncomputable def plT : Expr → Bool
  | .Name .. => true
  | .Subscript .. => true
  | .Call .. => true
  | .Constant .. => true
  | _ => false
section
variable {d : Nat} {fr : Str → Option V} {hp hp₁ hp₂ hp₃ : List O}
theorem snd_ecmp {l r : Expr} {op : CmpOp} {p : Pos} {a c : V} {b : Bool} (h1 : Snd d (.e l fr hp) (.v a hp₁)) (h2 : Snd d (.e r fr hp₁) (.v c hp₂)) (k : Cmp hp₂ op a c b) (hm : behindInMarks op r = false) :
    Snd d (.e (.Compare l [op] [r] p) fr hp) (.v (.bool b) hp₂) := by
  refine ⟨?_⟩
  intro w A env h₀ L out ρ imm s C R S
  first | refine wpAny_Compare1 (wmV (h1.go w A env h₀ L out ρ imm s C R S) fun ra ρ' imm' h' tk' S' x ka => ?_) hm | refine wpAny_Compare1 (wmF (h1.go w A env h₀ L out ρ imm s C R S) fun ra ρ' imm' h' tk' S' x ka => ?_) hm | refine wpAny_Compare1 (wmS (h1.go w A env h₀ L out ρ imm s C R S) fun ra ρ' imm' h' tk' S' x ka => ?_) hm
  first | refine wmV (h2.go w A env h₀ L out ρ' imm' _ C R S') fun rc ρ'' imm'' h'' tk'' S'' y kc => ?_ | refine wmF (h2.go w A env h₀ L out ρ' imm' _ C R S') fun rc ρ'' imm'' h'' tk'' S'' y kc => ?_ | refine wmS (h2.go w A env h₀ L out ρ' imm' _ C R S') fun rc ρ'' imm'' h'' tk'' S'' y kc => ?_
  refine wpAny_mono (cmp_snd k R S'' (ka.mono y) kc) (fun rb s₃ q => ?_) fun _ _ x => x
  obtain ⟨rfl, tk₃, rfl⟩ := q
  exact .of S'' (x.trans y) (.bool _)
theorem snd_tcmp {l r : Expr} {op : CmpOp} {p : Pos} {a c : V} {b : Bool} (h1 : Snd d (.e l fr hp) (.v a hp₁)) (h2 : Snd d (.e r fr hp₁) (.v c hp₂)) (k : Cmp hp₂ op a c b) (hm : behindInMarks op r = false) :
    Snd d (.t (.Compare l [op] [r] p) fr hp) (.b b hp₂) := by
  refine ⟨?_⟩
  intro w A env h₀ L out ρ imm s C R S
  first | refine wpAny_isTrue_Compare1 (wmV (h1.go w A env h₀ L out ρ imm s C R S) fun ra ρ' imm' h' tk' S' x ka => ?_) hm | refine wpAny_isTrue_Compare1 (wmF (h1.go w A env h₀ L out ρ imm s C R S) fun ra ρ' imm' h' tk' S' x ka => ?_) hm | refine wpAny_isTrue_Compare1 (wmS (h1.go w A env h₀ L out ρ imm s C R S) fun ra ρ' imm' h' tk' S' x ka => ?_) hm
  first | refine wmV (h2.go w A env h₀ L out ρ' imm' _ C R S') fun rc ρ'' imm'' h'' tk'' S'' y kc => ?_ | refine wmF (h2.go w A env h₀ L out ρ' imm' _ C R S') fun rc ρ'' imm'' h'' tk'' S'' y kc => ?_ | refine wmS (h2.go w A env h₀ L out ρ' imm' _ C R S') fun rc ρ'' imm'' h'' tk'' S'' y kc => ?_
  refine wpAny_mono (cmp_snd k R S'' (ka.mono y) kc) (fun rb s₃ q => ?_) fun _ _ x => x
  obtain ⟨rfl, tk₃, rfl⟩ := q
  exact wpAny_truthy_bool (.of S'' (x.trans y))
theorem snd_tpl {e : Expr} {b : Bool} (h : Snd d (.e e fr hp) (.v (.bool b) hp₁)) (hp' : plT e = true) : Snd d (.t e fr hp) (.b b hp₁) := by
  refine ⟨?_⟩
  intro w A env h₀ L out ρ imm s C R S
  first | refine isTrue_plain (wmV (h.go w A env h₀ L out ρ imm s C R S) fun ra ρ' imm' h' tk' S' x ka => ?_) (by cases e <;> first | rfl | simp [plT] at hp') | refine isTrue_plain (wmF (h.go w A env h₀ L out ρ imm s C R S) fun ra ρ' imm' h' tk' S' x ka => ?_) (by cases e <;> first | rfl | simp [plT] at hp') | refine isTrue_plain (wmS (h.go w A env h₀ L out ρ imm s C R S) fun ra ρ' imm' h' tk' S' x ka => ?_) (by cases e <;> first | rfl | simp [plT] at hp')
  (first | obtain ⟨_, rfl⟩ := VR.intI ka | obtain rfl := VR.objI ka | obtain rfl := VR.boolI ka | obtain ⟨_, rfl⟩ := VR.strI ka | obtain rfl := VR.noneI ka | obtain rfl := VRs.nilI ka | obtain rfl := FR.nxI ka | cases ka)
  exact wpAny_truthy_bool (.of S' x)
theorem snd_tand0 {p : Pos} : Snd d (.t (.BoolOp .And [] p) fr hp) (.b true hp) := by
  refine ⟨?_⟩
  intro w A env h₀ L out ρ imm s C R S
  exact isTrue_and_nil (PB.of (tk' := s.toks) S (.refl _ _))
theorem snd_tandF {e : Expr} {es : List Expr} {p : Pos} (h : Snd d (.t e fr hp) (.b false hp₁)) : Snd d (.t (.BoolOp .And (e :: es) p) fr hp) (.b false hp₁) := by
  refine ⟨?_⟩
  intro w A env h₀ L out ρ imm s C R S
  refine isTrue_and (wmB (h.go w A env h₀ L out ρ imm s C R S) fun ρ' imm' h' tk' S' x => ?_)
  simp only [Bool.false_eq_true, if_false]
  exact .of S' x
theorem snd_tandT {e : Expr} {es : List Expr} {p : Pos} {b : Bool} (h : Snd d (.t e fr hp) (.b true hp₁)) (h2 : Snd d (.t (.BoolOp .And es p) fr hp₁) (.b b hp₂)) : Snd d (.t (.BoolOp .And (e :: es) p) fr hp) (.b b hp₂) := by
  refine ⟨?_⟩
  intro w A env h₀ L out ρ imm s C R S
  refine isTrue_and (wmB (h.go w A env h₀ L out ρ imm s C R S) fun ρ' imm' h' tk' S' x => ?_)
  simp only [if_true]
  exact wpAny_mono (h2.go w A env h₀ L out ρ' imm' _ C R S') (fun _ _ q => q.trans x) fun _ _ x => x
theorem snd_tor0 {p : Pos} : Snd d (.t (.BoolOp .Or [] p) fr hp) (.b false hp) := by
  refine ⟨?_⟩
  intro w A env h₀ L out ρ imm s C R S
  exact isTrue_or_nil (PB.of (tk' := s.toks) S (.refl _ _))
theorem snd_torT {e : Expr} {es : List Expr} {p : Pos} (h : Snd d (.t e fr hp) (.b true hp₁)) : Snd d (.t (.BoolOp .Or (e :: es) p) fr hp) (.b true hp₁) := by
  refine ⟨?_⟩
  intro w A env h₀ L out ρ imm s C R S
  refine isTrue_or (wmB (h.go w A env h₀ L out ρ imm s C R S) fun ρ' imm' h' tk' S' x => ?_)
  simp only [if_true]
  exact .of S' x
theorem snd_torF {e : Expr} {es : List Expr} {p : Pos} {b : Bool} (h : Snd d (.t e fr hp) (.b false hp₁)) (h2 : Snd d (.t (.BoolOp .Or es p) fr hp₁) (.b b hp₂)) : Snd d (.t (.BoolOp .Or (e :: es) p) fr hp) (.b b hp₂) := by
  refine ⟨?_⟩
  intro w A env h₀ L out ρ imm s C R S
  refine isTrue_or (wmB (h.go w A env h₀ L out ρ imm s C R S) fun ρ' imm' h' tk' S' x => ?_)
  simp only [Bool.false_eq_true, if_false]
  exact wpAny_mono (h2.go w A env h₀ L out ρ' imm' _ C R S') (fun _ _ q => q.trans x) fun _ _ x => x
theorem snd_eor1 {e : Expr} {p : Pos} {v : V} (h : Snd d (.e e fr hp) (.v v hp₁)) : Snd d (.e (.BoolOp .Or [e] p) fr hp) (.v v hp₁) := by
  refine ⟨?_⟩
  intro w A env h₀ L out ρ imm s C R S
  exact BoolOp_one (h.go w A env h₀ L out ρ imm s C R S)
theorem snd_eorT {e e' : Expr} {es : List Expr} {p : Pos} (h : Snd d (.e e fr hp) (.v (.bool true) hp₁)) : Snd d (.e (.BoolOp .Or (e :: e' :: es) p) fr hp) (.v (.bool true) hp₁) := by
  refine ⟨?_⟩
  intro w A env h₀ L out ρ imm s C R S
  first | refine BoolOp_or (wmV (h.go w A env h₀ L out ρ imm s C R S) fun ra ρ' imm' h' tk' S' x k => ?_) | refine BoolOp_or (wmF (h.go w A env h₀ L out ρ imm s C R S) fun ra ρ' imm' h' tk' S' x k => ?_) | refine BoolOp_or (wmS (h.go w A env h₀ L out ρ imm s C R S) fun ra ρ' imm' h' tk' S' x k => ?_)
  (first | obtain ⟨_, rfl⟩ := VR.intI k | obtain rfl := VR.objI k | obtain rfl := VR.boolI k | obtain ⟨_, rfl⟩ := VR.strI k | obtain rfl := VR.noneI k | obtain rfl := VRs.nilI k | obtain rfl := FR.nxI k | cases k)
  refine wpAny_truthy_bool ?_
  simp only [if_true]
  exact .of S' x (.bool _)
theorem snd_eorF {e e' : Expr} {es : List Expr} {p : Pos} {v : V} (h : Snd d (.e e fr hp) (.v (.bool false) hp₁)) (h2 : Snd d (.e (.BoolOp .Or (e' :: es) p) fr hp₁) (.v v hp₂)) : Snd d (.e (.BoolOp .Or (e :: e' :: es) p) fr hp) (.v v hp₂) := by
  refine ⟨?_⟩
  intro w A env h₀ L out ρ imm s C R S
  first | refine BoolOp_or (wmV (h.go w A env h₀ L out ρ imm s C R S) fun ra ρ' imm' h' tk' S' x k => ?_) | refine BoolOp_or (wmF (h.go w A env h₀ L out ρ imm s C R S) fun ra ρ' imm' h' tk' S' x k => ?_) | refine BoolOp_or (wmS (h.go w A env h₀ L out ρ imm s C R S) fun ra ρ' imm' h' tk' S' x k => ?_)
  (first | obtain ⟨_, rfl⟩ := VR.intI k | obtain rfl := VR.objI k | obtain rfl := VR.boolI k | obtain ⟨_, rfl⟩ := VR.strI k | obtain rfl := VR.noneI k | obtain rfl := VRs.nilI k | obtain rfl := FR.nxI k | cases k)
  refine wpAny_truthy_bool ?_
  simp only [Bool.false_eq_true, if_false]
  exact wpAny_mono (h2.go w A env h₀ L out ρ' imm' _ C R S') (fun _ _ q => q.trans x) fun _ _ x => x

theorem snd_neg {i : Int} {e : Expr} {p : Pos} (h : Snd d (.e e fr hp) (.v (.int i) hp₁)) : Snd d (.e (.UnaryOp .USub e p) fr hp) (.v (.int (-i)) hp₁) := by
  refine ⟨?_⟩
  intro w A env h₀ L out ρ imm s C R S
  first | refine UnaryOp_ (wmV (h.go w A env h₀ L out ρ imm s C R S) fun ra ρ' imm' h' tk' S' x k => ?_) | refine UnaryOp_ (wmF (h.go w A env h₀ L out ρ imm s C R S) fun ra ρ' imm' h' tk' S' x k => ?_) | refine UnaryOp_ (wmS (h.go w A env h₀ L out ρ imm s C R S) fun ra ρ' imm' h' tk' S' x k => ?_)
  (first | obtain ⟨_, rfl⟩ := VR.intI k | obtain rfl := VR.objI k | obtain rfl := VR.boolI k | obtain ⟨_, rfl⟩ := VR.strI k | obtain rfl := VR.noneI k | obtain rfl := VRs.nilI k | obtain rfl := FR.nxI k | cases k)
  exact neg_int (.of S' x (.int _ _))

/-- sums and the like of two ints -/
inductive Ari : Operator → Int → Int → Int → Prop
  | add (a b : Int) : Ari .Add a b (a + b)
  | sub (a b : Int) : Ari .Sub a b (a - b)
  | mod (a b : Int) : b ≠ 0 → Ari .Mod a b (a.fmod b)
theorem snd_bin {l r : Expr} {op : Operator} {p : Pos} {a b c : Int} (h1 : Snd d (.e l fr hp) (.v (.int a) hp₁)) (h2 : Snd d (.e r fr hp₁) (.v (.int b) hp₂)) (k : Ari op a b c) : Snd d (.e (.BinOp l op r p) fr hp) (.v (.int c) hp₂) := by
  refine ⟨?_⟩
  intro w A env h₀ L out ρ imm s C R S
  first | refine wpAny_BinOp (wmV (h1.go w A env h₀ L out ρ imm s C R S) fun ra ρ' imm' h' tk' S' x ka => ?_) | refine wpAny_BinOp (wmF (h1.go w A env h₀ L out ρ imm s C R S) fun ra ρ' imm' h' tk' S' x ka => ?_) | refine wpAny_BinOp (wmS (h1.go w A env h₀ L out ρ imm s C R S) fun ra ρ' imm' h' tk' S' x ka => ?_)
  first | refine wmV (h2.go w A env h₀ L out ρ' imm' _ C R S') fun rc ρ'' imm'' h'' tk'' S'' y kc => ?_ | refine wmF (h2.go w A env h₀ L out ρ' imm' _ C R S') fun rc ρ'' imm'' h'' tk'' S'' y kc => ?_ | refine wmS (h2.go w A env h₀ L out ρ' imm' _ C R S') fun rc ρ'' imm'' h'' tk'' S'' y kc => ?_
  (first | obtain ⟨_, rfl⟩ := VR.intI ka | obtain rfl := VR.objI ka | obtain rfl := VR.boolI ka | obtain ⟨_, rfl⟩ := VR.strI ka | obtain rfl := VR.noneI ka | obtain rfl := VRs.nilI ka | obtain rfl := FR.nxI ka | cases ka); (first | obtain ⟨_, rfl⟩ := VR.intI kc | obtain rfl := VR.objI kc | obtain rfl := VR.boolI kc | obtain ⟨_, rfl⟩ := VR.strI kc | obtain rfl := VR.noneI kc | obtain rfl := VRs.nilI kc | obtain rfl := FR.nxI kc | cases kc)
  cases k with
  | add => exact add_int (.of S'' (x.trans y) (.int _ _))
  | sub => exact sub_int (.of S'' (x.trans y) (.int _ _))
  | mod _ _ hb => exact mod_int' hb (.of S'' (x.trans y) (.int _ _))

theorem snd_subL {o sl : Expr} {p : Pos} {i : Nat} {k : Int} {l : List V} {v : V} (h1 : Snd d (.e o fr hp) (.v (.ref i) hp₁)) (h2 : Snd d (.e sl fr hp₁) (.v (.int k) hp₂)) (hi : hp₂[i]? = some (.list l)) (h0 : 0 ≤ k) (hf : k < 2 ^ 63) (hx : l[k.toNat]? = some v) (hs : isSl sl = false) :
    Snd d (.e (.Subscript o sl p) fr hp) (.v v hp₂) := by
  refine ⟨?_⟩
  intro w A env h₀ L out ρ imm s C R S
  first | refine Subscript_ (wmV (h1.go w A env h₀ L out ρ imm s C R S) fun ra ρ' imm' h' tk' S' x ka => ?_) | refine Subscript_ (wmF (h1.go w A env h₀ L out ρ imm s C R S) fun ra ρ' imm' h' tk' S' x ka => ?_) | refine Subscript_ (wmS (h1.go w A env h₀ L out ρ imm s C R S) fun ra ρ' imm' h' tk' S' x ka => ?_)
  first | refine wmV (h2.go w A env h₀ L out ρ' imm' _ C R S') fun rc ρ'' imm'' h'' tk'' S'' y kc => ?_ | refine wmF (h2.go w A env h₀ L out ρ' imm' _ C R S') fun rc ρ'' imm'' h'' tk'' S'' y kc => ?_ | refine wmS (h2.go w A env h₀ L out ρ' imm' _ C R S') fun rc ρ'' imm'' h'' tk'' S'' y kc => ?_
  obtain ⟨a, vs, n, e1, e2, e3, _⟩ := S''.lst hi
  obtain ⟨r, g1, g2⟩ := e3.get hx
  obtain ⟨_, e4, rfl⟩ := VR.refI ka
  have := y.a _ _ e4
  rw [e1] at this; cases this
  (first | obtain ⟨_, rfl⟩ := VR.intI kc | obtain rfl := VR.objI kc | obtain rfl := VR.boolI kc | obtain ⟨_, rfl⟩ := VR.strI kc | obtain rfl := VR.noneI kc | obtain rfl := VRs.nilI kc | obtain rfl := FR.nxI kc | cases kc)
  have hl : ({ s with heap := h'', toks := tk'' } : Shared).heap.IsList a vs.toArray := isList_of e2
  exact tail_any hl.typeIs slot_list_getitem.lookup (wpAny_getItem_list hl h0 hf (by simpa using g1) (.of S'' (x.trans y) g2)) (sub_plain hs _ _)
theorem snd_subT {o sl : Expr} {p : Pos} {k : Int} {l : List V} {v : V} (h1 : Snd d (.e o fr hp) (.v (.tup l) hp₁)) (h2 : Snd d (.e sl fr hp₁) (.v (.int k) hp₂)) (h0 : 0 ≤ k) (hf : k < 2 ^ 63) (hx : l[k.toNat]? = some v) (hs : isSl sl = false) :
    Snd d (.e (.Subscript o sl p) fr hp) (.v v hp₂) := by
  refine ⟨?_⟩
  intro w A env h₀ L out ρ imm s C R S
  first | refine Subscript_ (wmV (h1.go w A env h₀ L out ρ imm s C R S) fun ra ρ' imm' h' tk' S' x ka => ?_) | refine Subscript_ (wmF (h1.go w A env h₀ L out ρ imm s C R S) fun ra ρ' imm' h' tk' S' x ka => ?_) | refine Subscript_ (wmS (h1.go w A env h₀ L out ρ imm s C R S) fun ra ρ' imm' h' tk' S' x ka => ?_)
  first | refine wmV (h2.go w A env h₀ L out ρ' imm' _ C R S') fun rc ρ'' imm'' h'' tk'' S'' y kc => ?_ | refine wmF (h2.go w A env h₀ L out ρ' imm' _ C R S') fun rc ρ'' imm'' h'' tk'' S'' y kc => ?_ | refine wmS (h2.go w A env h₀ L out ρ' imm' _ C R S') fun rc ρ'' imm'' h'' tk'' S'' y kc => ?_
  (first | obtain ⟨_, rfl⟩ := VR.intI kc | obtain rfl := VR.objI kc | obtain rfl := VR.boolI kc | obtain ⟨_, rfl⟩ := VR.strI kc | obtain rfl := VR.noneI kc | obtain rfl := VRs.nilI kc | obtain rfl := FR.nxI kc | cases kc)
  obtain ⟨a, vs, n, e4, e5, rfl⟩ := VR.tupI ka
  have e6 := S''.tupAt (y.b _ e4)
  obtain ⟨r, g1, g2⟩ := (e5.mono y).get hx
  have ht : IsTup h'' a vs.toArray := ⟨_, e6, rfl, n, rfl⟩
  have hlt := (List.getElem?_eq_some_iff.mp g1).1
  refine item_tupleT (j := k.toNat) ht (by (first | lia | omega)) hf ?_ g1 (.of S'' (x.trans y) g2) (sub_plain hs _ _)
  unfold seqIndex?
  have e : ((k.toNat : Nat) : Int) = k := Int.toNat_of_nonneg h0
  split <;> simp_all <;> (first | lia | omega)
theorem snd_subD {o sl : Expr} {p : Pos} {i : Nat} {k : Int} {l : List (Int × V)} {v : V} (h1 : Snd d (.e o fr hp) (.v (.ref i) hp₁)) (h2 : Snd d (.e sl fr hp₁) (.v (.int k) hp₂)) (hi : hp₂[i]? = some (.dI l)) (hx : l.lookup k = some v) (hs : isSl sl = false) :
    Snd d (.e (.Subscript o sl p) fr hp) (.v v hp₂) := by
  refine ⟨?_⟩
  intro w A env h₀ L out ρ imm s C R S
  first | refine Subscript_ (wmV (h1.go w A env h₀ L out ρ imm s C R S) fun ra ρ' imm' h' tk' S' x ka => ?_) | refine Subscript_ (wmF (h1.go w A env h₀ L out ρ imm s C R S) fun ra ρ' imm' h' tk' S' x ka => ?_) | refine Subscript_ (wmS (h1.go w A env h₀ L out ρ imm s C R S) fun ra ρ' imm' h' tk' S' x ka => ?_)
  first | refine wmV (h2.go w A env h₀ L out ρ' imm' _ C R S') fun rc ρ'' imm'' h'' tk'' S'' y kc => ?_ | refine wmF (h2.go w A env h₀ L out ρ' imm' _ C R S') fun rc ρ'' imm'' h'' tk'' S'' y kc => ?_ | refine wmS (h2.go w A env h₀ L out ρ' imm' _ C R S') fun rc ρ'' imm'' h'' tk'' S'' y kc => ?_
  obtain ⟨a, kvs, e1, e0, e2, e3, e4, _⟩ := S''.dctI hi
  obtain ⟨r, g1, g2⟩ := (at_of e3 e4 k).2 v hx
  obtain ⟨_, e5, rfl⟩ := VR.refI ka
  have := y.a _ _ e5
  rw [e1] at this; cases this
  (first | obtain ⟨_, rfl⟩ := VR.intI kc | obtain rfl := VR.objI kc | obtain rfl := VR.boolI kc | obtain ⟨_, rfl⟩ := VR.strI kc | obtain rfl := VR.noneI kc | obtain rfl := VRs.nilI kc | obtain rfl := FR.nxI kc | cases kc)
  have hm : ({ s with heap := h'', toks := tk'' } : Shared).heap.MapOf (iK w) a (valueAt kvs) := e2.mapOf
  exact tail_any hm.typeIs slot_dict_getitem.lookup (wpAny_getItem_of (intKind_is _ _ _ _) hm g1 (.of S'' (x.trans y) g2)) (sub_plain hs _ _)
end

end

section
variable [HasK]
/-- a frame as a list of names -/
noncomputable abbrev lk (l : List (Str × V)) : Str → Option V := fun y => l.lookup y

omit [HasK] in
theorem mem_of_lk {α : Type} {x : Str} {v : α} : ∀ {l : List (Str × α)}, l.lookup x = some v → (x, v) ∈ l
  | (y, u) :: l, e => by
    rw [List.lookup_cons] at e
    by_cases q : x = y
    · subst q; simp only [beq_self_eq_true, Option.some.injEq] at e; subst e; exact .head _
    · have q' : (x == y) = false := by simpa using q
      rw [q'] at e; exact .tail _ (mem_of_lk e)

omit [HasK] in
theorem lookup_of_mem_nodupV {α : Type} : ∀ {cs : List (Str × α)} {n : Str} {c : α}, (cs.map (·.1)).Nodup → (n, c) ∈ cs → cs.lookup n = some c
  | (n', c') :: cs, n, c, hnd, hm => by
    rw [List.map_cons, List.nodup_cons] at hnd
    rcases List.mem_cons.mp hm with e | hm
    · cases e; simp
    · have hne : n ≠ n' := fun e => hnd.1 (e ▸ List.mem_map.mpr ⟨(n, c), hm, rfl⟩)
      rw [List.lookup_cons, beq_eq_false_iff_ne.mpr hne]
      exact lookup_of_mem_nodupV hnd.2 hm

/-- a name of the text's own or of the builtins -/
noncomputable def GOk (x : Str) (v : V) : Prop := (x == ("__debug__" : Str)) = false ∧ ∀ w : World,
  (∃ r, nsIn (HasK.heap w.params) mainGlobals x = some (some r) ∧ VR [] [] v r) ∨ (nsIn (HasK.heap w.params) mainGlobals x = some none ∧ x ≠ "__name__" ∧ ∃ r, bootBuiltins x = some r ∧ VR [] [] v r)

omit [HasK] in
theorem Ext.nil {ρ : List Addr} {imm : Led} : Ext [] ρ [] imm := ⟨fun i x h => by simp at h, fun _ h => nomatch h⟩

section
variable {prog : Program} {w : World} {A₀ A : Around} {s : Shared} {base h₀ : Heap} {outer : List Env} {L : Addr} {m : Str → Option Value} {env : Env} {news : List (Addr × Obj)}
  {R : Result → Shared → Prop}
omit [HasK] in
theorem FrAt.none {B : Below A₀ base outer h₀} {h : Heap} (F : Fr h₀ L h m) (hf : FrAt h₀ L base env) : ∃ L₀, env.frame = some L₀ ∧ base.get? L₀ = none ∧ (∃ m₀, h.Ns L₀ m₀) ∧ (L₀ = L ∨ ∃ o, h₀.get? L₀ = some o) := by
  rcases hf with hf | ⟨L₀, m₀, h1, h2, h3⟩
  · refine ⟨L, hf, ?_, ⟨_, F.ns⟩, .inl rfl⟩
    cases hq : base.get? L with
    | none => rfl
    | some o => exact absurd (Nat.lt_of_lt_of_le (Heap.lt_size (B.stays L o hq)) F.above) (Nat.lt_irrefl _)
  · obtain ⟨o, es, ep, e1, e2⟩ := h2
    exact ⟨L₀, h1, h3, ⟨m₀, o, es, ep, F.keep _ _ e1, e2⟩, .inr ⟨o, e1⟩⟩
omit [HasK] in
/-- the ground for a call or a comprehension: what is not in the ledger stays -/
theorem groundY (B : Below A₀ base outer h₀) (F : Fr h₀ L s.heap m) (N : News h₀ L s.heap news) (hA : A.frames = some (env :: outer)) (hf : FrAt h₀ L base env) (hke : env.scope.kind = .function) :
    Fr h₀ L (hideAll s.heap (news.map (·.1))) m ∧ Below A base (env :: outer) (hideAll s.heap (news.map (·.1))) ∧ h₀.StaysIn (hideAll s.heap (news.map (·.1))) ∧
      (∀ h' L' m' nw, Fr (hideAll s.heap (news.map (·.1))) L' h' m' → News (hideAll s.heap (news.map (·.1))) L' h' nw → Fr h₀ L h' m ∧ News h₀ L h' nw) ∧
      Below A₀ base outer (hideAll s.heap (news.map (·.1))) ∧ FrAt (hideAll s.heap (news.map (·.1))) s.heap.objs.size base env := by
  have nm : ∀ b o, h₀.get? b = some o → b ∉ news.map (·.1) := fun b o e q => by
    obtain ⟨p, hp, rfl⟩ := List.mem_map.mp q
    rw [(N p hp).2.2] at e; cases e
  have st : h₀.StaysIn (hideAll s.heap (news.map (·.1))) := fun b o e => hideAll_get _ (F.keep b o e) (nm b o e)
  obtain ⟨oL, es, ep, hL, hLd, hLk, hLf⟩ := F.ns
  have nL : L ∉ news.map (·.1) := fun q => by
    obtain ⟨p, hp, e⟩ := List.mem_map.mp q
    exact (N p hp).2.1 e
  have hLg := hideAll_get (news.map (·.1)) hL nL
  obtain ⟨L₀, f1, f2, ⟨m₀, f3⟩, f4⟩ := FrAt.none (B := B) F hf
  have n₀ : L₀ ∉ news.map (·.1) := by
    rcases f4 with rfl | ⟨o, f4⟩
    · exact nL
    · exact nm _ _ f4
  have g₀ : (hideAll s.heap (news.map (·.1))).Ns L₀ m₀ := by
    obtain ⟨o, es', ep', e1, e2⟩ := f3
    exact ⟨o, es', ep', hideAll_get _ e1 n₀, e2⟩
  have B₁ : Below A₀ base outer (hideAll s.heap (news.map (·.1))) := ⟨B.stack, fun b o e => st b o (B.stays b o e), B.frames.of_keeps fun b o e _ => ⟨o, st b o e, rfl⟩⟩
  refine ⟨⟨⟨oL, es, ep, hLg, hLd, hLk, hLf⟩, st, F.above⟩, ⟨hA, fun b o e => st b o (B.stays b o e), ?_⟩, st, fun h' L' m' nw F' N' => ⟨⟨⟨oL, es, ep, F'.keep L oL hLg, hLd, hLk, hLf⟩, fun b o e => F'.keep b o (st b o e), F.above⟩, fun p hp => ⟨(N' p hp).1, fun q => ?_, ?_⟩⟩, B₁, .inr ⟨L₀, m₀, f1, g₀, f2⟩⟩
  · exact .cons (by rw [hke]; decide) f1 g₀ f2 B₁.frames
  · have := (N' p hp).2.2; rw [q, hLg] at this; cases this
  · cases q : h₀.get? p.1 with
    | none => rfl
    | some o => have := (N' p hp).2.2; rw [st _ _ q] at this; cases this
variable {name qual : Str} {params : Arguments} {body : List Stmt} {scope : Scope} {cl : List (Str × Addr)} {dV kV doc pm cdv ct : Value} {an : Option Addr} {fo : Obj} {f : Addr} {args : Args} {binds : List (Str × Value)}
omit [HasK] in
theorem callY_plain (B : Below A₀ base outer h₀) (F : Fr h₀ L s.heap m) (N : News h₀ L s.heap news) (hlim : h₀.NoLimit) (hA : A.frames = some (env :: outer)) (hf : FrAt h₀ L base env) (hke : env.scope.kind = .function)
    (ho : s.heap.get? f = some fo) (hd : fo.data = .func (fnX name qual params body scope cl dV kV doc pm an cdv ct)) (hcd : s.heap.CodeRec cdv qual) (hroom : A.depth < recursionLimit)
    (hbind : BindsTo s (fnX name qual params body scope cl dV kV doc pm an cdv ct) args binds) (hloc : ∀ y ∈ binds, scope.names.lookup y.1 = some .local)
    (h : ∀ g L' h₁, Fr h₀ L g m → Fr g L' h₁ (fun y => binds.reverse.lookup y) → News g L' h₁ news → Below A base (env :: outer) g → h₀.StaysIn g → (∀ p ∈ news, p.1 < L') →
      wpAny (model prog w) (A.deeper (envX qual scope L' f cdv cl)) (execs body (envX qual scope L' f cdv cl))
        (fun fl s' => LeaveK h₀ L m g R (match fl with | .ret v => v | _ => .none) s')
        (fun e s' => wpAny (model prog w) (A.deeper (envX qual scope L' f cdv cl)) (leaving (envX qual scope L' f cdv cl) e) (fun _ s'' => R (.error e) s'') (fun e' s'' => R (.error e') s'') s')
        { s with heap := h₁, toks := s.toks + binds.length })
    (hcell : ∀ x ∈ scope.names, x.2 ≠ .cell) (hco : scope.isCoroutine = false := by rfl) (hgen : scope.isGenerator = false := by rfl) (hk : scope.kind = .function := by rfl) : codeAny (model prog w) A (.call (.ref f) args) R s := by
  obtain ⟨FG, BG, st, lv, _⟩ := groundY B F N hA hf hke
  refine codeAny_call_def (fd := fnX name qual params body scope cl dV kV doc pm an cdv ct) (body := body) (binds := binds) hroom ho hd (hlim.keeps F.keep) hcd rfl hbind hcell hloc (fun h₁ hns hk₁ => ?_) hco hgen hk
  refine wpAny_mono (h _ s.heap.objs.size h₁ FG ⟨hns, fun b o e => hk₁ b o (of_hideAll _ e), Nat.le_of_eq (hideAll_size _ _)⟩
    (fun p hp => ⟨hk₁ _ _ (N p hp).1, Nat.ne_of_lt (Heap.lt_size (N p hp).1), hideAll_none _ (List.mem_map_of_mem hp)⟩) BG st (fun p hp => Heap.lt_size (N p hp).1)) (fun fl s' hl => ?_) fun _ _ y => y
  obtain ⟨L', m', nw, F', N', k⟩ := hl
  obtain ⟨F₁, N₁⟩ := lv _ L' m' nw F' N'
  exact k F₁ N₁
end
structure FnAt (f : Addr) (ps : List Str) (ds : List V) (body : List Stmt) (scope : Scope) : Prop where
  at_ : ∀ w : World, ∃ (name qual : Str) (params : Arguments) (dV kV doc pm cdv ct oc : Value) (an od : Option Addr) (osl : Array (Option Value)),
    (HasK.heap w.params).lookup f = some ⟨oc, od, .func (fnOf name qual params body scope dV kV doc pm an cdv ct), osl⟩ ∧ codeIn (HasK.heap w.params) cdv qual = true ∧
    ∀ (s : Shared) (rs : List Value), (HasK.heap w.params).In s.heap → rs.length + ds.length = ps.length → ∃ rds, VRs [] [] ds rds ∧ BindsTo s (fnOf name qual params body scope dV kV doc pm an cdv ct) ⟨rs, []⟩ (ps.zip (rs ++ rds))
  nd : ps.Nodup
  loc : (ps.all fun p => scope.names.lookup p == some .local && !(p == ("__debug__" : Str))) = true
  cell : (scope.names.all fun x => match x.2 with | .cell => false | _ => true) = true
  co : scope.isCoroutine = false
  gen : scope.isGenerator = false
  kind : scope.kind = .function

omit [HasK] in
theorem zip_at {ρ : List Addr} {imm : Led} {ps : List Str} {l : List V} {rs : List Value} (k : VRs ρ imm l rs) {x : Str} {v : V} (e : (x, v) ∈ ps.zip l) : ∃ r, (x, r) ∈ ps.zip rs ∧ VR ρ imm v r := by
  induction ps generalizing l rs with
  | nil => simp at e
  | cons p ps ih =>
    cases k with
    | nil => simp at e
    | cons a b =>
      simp only [List.zip_cons_cons, List.mem_cons] at e ⊢
      rcases e with e | e
      · cases e; exact ⟨_, .inl rfl, a⟩
      · obtain ⟨r, h1, h2⟩ := ih b e
        exact ⟨r, .inr h1, h2⟩
omit [HasK] in
theorem zip_fst {α : Type} : ∀ {ps : List Str} {l : List α}, ps.length = l.length → (ps.zip l).map (·.1) = ps
  | [], _, _ => rfl
  | p :: ps, [], h => by simp at h
  | p :: ps, a :: l, h => by simp only [List.zip_cons_cons, List.map_cons]; rw [zip_fst (by simpa using h)]

section
variable {d : Nat} {fr : Str → Option V} {hp hp' hp₁ hp₂ hp₃ : List O}
/-- what a body gives back -/
inductive Back : Fl → V → Prop
  | nx : Back .nx .none
  | rt (v : V) : Back (.rt v) v

theorem snd_code {f : Addr} {ps : List Str} {ds args : List V} {body : List Stmt} {scope : Scope} {gl : List (Str × V)} {fr' : Str → Option V} {fl : Fl} {v : V}
    (H : FnAt f ps ds body scope) (hn : args.length + ds.length = ps.length) (hg : ∀ p ∈ gl, GOk p.1 p.2) (hg2 : (gl.all fun p => scope.names.lookup p.1 == some .globalImplicit) = true)
    (h : Snd d (.ss scope body (lk (ps.zip (args ++ ds) ++ gl)) hp) (.f fl fr' hp')) (hb : Back fl v) : Snd (d + 1) (.code (.ref f) args hp) (.v v hp') := by
  refine ⟨?_⟩
  intro w A env h₀ L out ρ imm s fr₀ rs C R S ks
  refine St.elim S fun m mE led cells I => ?_
  refine C.elim fun env0 mean mg mb base outer A₀ B T hA hf hke => ?_
  obtain ⟨name, qual, params, dV, kV, doc, pm, cdv, ct, oc, an, od, osl, e1, e2, e3⟩ := H.at_ w
  obtain ⟨rds, kd, hbind⟩ := e3 s rs (C.X.keeps I.F.keep) (by rw [ks.length]; exact hn)
  have kall : VRs ρ imm (args ++ ds) (rs ++ rds) := ks.append (kd.mono .nil)
  have dpp : A.depth < recursionLimit := by have := R.dp; (first | lia | omega)
  refine callY_plain (cl := []) B I.F I.N T.nolimit hA hf hke ((C.X.keeps I.F.keep) _ _ e1) rfl (codeRec_of (C.X.keeps I.F.keep) e2) dpp hbind (fun y hy => ?_) ?_ (fun x hx => ?_) H.co H.gen H.kind
  · have := List.all_eq_true.mp H.loc y.1 (by
      obtain ⟨y1, y2⟩ := y
      exact (List.of_mem_zip hy).1)
    simp only [Bool.and_eq_true, beq_iff_eq] at this
    exact this.1
  · intro g L' h₁ FG F' N' B' st ab
    have C' : Cx w (A.deeper (envX qual scope L' f cdv [])) g L' := ⟨⟨envX qual scope L' f cdv [], mean, mg, mb, base, env0 :: outer, A, B', T.keeps st, Around.frames_deeper hA, .inl rfl, H.kind⟩, C.X.keeps st, C.hh, ⟨_, _, Around.frames_deeper hA, H.gen, H.co, rfl, rfl⟩⟩
    have R' : Room d (A.deeper (envX qual scope L' f cdv [])) := ⟨by have := R.dp; show A.depth + 1 + d + 110 < _; (first | lia | omega), by have := R.un; show A.units + 3 + 8 * d + 80 < _; (first | lia | omega)⟩
    have hlen : ps.length = (rs ++ rds).length := by rw [kall.length, List.length_append]; exact hn.symm
    have S' : St w (envX qual scope L' f cdv []) g L' h₁ ρ hp (cells ++ out) imm (lk (ps.zip (args ++ ds) ++ gl)) := by
      refine ⟨fun y => (ps.zip (rs ++ rds)).reverse.lookup y, fun y => (ps.zip (rs ++ rds)).reverse.lookup y, led, [], F', ?_, I.R, ⟨?_, ?_, ?_⟩, .inl ⟨rfl, rfl⟩, rfl, rfl, H.kind, .inr ⟨fun x y c _ _ q => (nomatch q), fun x q => ?_⟩, fun x v hx => ?_⟩
      · intro p hp'
        refine N' p ?_
        simp only [List.mem_append] at hp' ⊢
        rcases hp' with (hp' | hp') | (hp' | hp') | hp'
        · simp [hp']
        · cases hp'
        · simp [hp']
        · simp [hp']
        · simp [hp']
      · have := I.S.nd
        simp only [List.map_append, List.nodup_append] at this
        simpa using this.1
      · intro p hp' q hq
        simp only [List.append_nil] at hp'
        simp only [List.mem_append] at hq
        rcases hq with (hq | hq) | hq
        · have := I.S.nd
          simp only [List.map_append, List.nodup_append, List.mem_map] at this
          exact this.2.2 _ ⟨p, hp', rfl⟩ _ ⟨q, hq, rfl⟩
        · exact I.S.off p (by simp [hp']) q (by simp [hq])
        · exact I.S.off p (by simp [hp']) q (by simp [hq])
      · intro p hp' q hq
        rcases List.mem_append.mp hp' with hp' | hp'
        · exact I.S.off p (by simp [hp']) q (by simp [hq])
        · exact I.S.oi p hp' q hq
      · have := List.all_eq_true.mp H.cell _ (mem_of_lk q)
        cases this
      · have hm := mem_of_lk hx
        rcases List.mem_append.mp hm with hm | hm
        · obtain ⟨r, h1, h2⟩ := zip_at kall hm
          have := List.all_eq_true.mp H.loc x (List.of_mem_zip hm).1
          simp only [Bool.and_eq_true, beq_iff_eq, Bool.not_eq_true'] at this
          refine ⟨this.2, .inl ⟨this.1, r, ?_, h2⟩⟩
          refine lookup_of_mem_nodupV ?_ (List.mem_reverse.mpr h1)
          rw [List.map_reverse, zip_fst hlen]
          exact (List.reverse_perm ps).nodup_iff.mpr H.nd
        · obtain ⟨a1, a2⟩ := hg _ hm
          have := List.all_eq_true.mp hg2 _ hm
          simp only [beq_iff_eq] at this
          refine ⟨a1, .inr (.inr (.inr ⟨this, ?_⟩))⟩
          rcases a2 w with ⟨r, b1, b2⟩ | ⟨b1, b2, r, b3, b4⟩
          · exact .inl ⟨r, b1, b2.mono .nil⟩
          · exact .inr ⟨b1, b2, r, b3, b4.mono .nil⟩
    first | refine wmV (h.go w _ (envX qual scope L' f cdv []) g L' (cells ++ out) ρ imm _ C' R' ⟨rfl, nofun⟩ rfl S') fun fl' ρ' imm' h' tk' S'' x k => ?_ | refine wmF (h.go w _ (envX qual scope L' f cdv []) g L' (cells ++ out) ρ imm _ C' R' ⟨rfl, nofun⟩ rfl S') fun fl' ρ' imm' h' tk' S'' x k => ?_ | refine wmS (h.go w _ (envX qual scope L' f cdv []) g L' (cells ++ out) ρ imm _ C' R' ⟨rfl, nofun⟩ rfl S') fun fl' ρ' imm' h' tk' S'' x k => ?_
    refine St.elim S'' fun m2 mE2 led2 cells2 I2 => ?_
    refine ⟨L', m2, led2.flatten ++ cells ++ (out ++ imm'), I2.F, ?_, fun F₃ N₃ => ?_⟩
    · intro p hp'
      refine I2.N p ?_
      simp only [List.mem_append] at hp' ⊢
      rcases hp' with (hp' | hp') | hp' | hp' <;> simp [hp']
    · refine PV.of (ρ₁ := ρ') (imm₁ := imm') ⟨m, mE, led2, cells, F₃, N₃, I2.R, ⟨?_, ?_, ?_⟩, I.l, I.g, I.bi, I.k, I.c, fun y u hy => (I.f y u hy).mono x⟩ x ?_
      · have n1 := I2.S.nd
        have n2 := I.S.nd
        simp only [List.map_append, List.nodup_append, List.mem_map] at n1 n2 ⊢
        refine ⟨n1.1, n2.2.1, ?_⟩
        rintro _ ⟨p, hp', rfl⟩ _ ⟨q, hq, rfl⟩
        exact I2.S.off p (by simp [hp']) q (by simp [hq])
      · intro p hp' q hq
        rcases List.mem_append.mp hp' with hp' | hp'
        · rcases List.mem_append.mp hq with hq | hq
          · exact I2.S.off p (by simp [hp']) q (by simp [hq])
          · exact I2.S.off p (by simp [hp']) q (by simp [hq])
        · rcases List.mem_append.mp hq with hq | hq
          · exact I.S.off p (by simp [hp']) q (by simp [hq])
          · exact I2.S.oi p (by simp [hp']) q hq
      · intro p hp' q hq
        exact I2.S.oi p (by simp [hp']) q hq
      · cases k with
        | nx => cases hb; exact .none
        | ct => cases hb
        | rt k => cases hb; exact k
  · have := List.all_eq_true.mp H.cell x hx
    intro q
    rw [q] at this
    cases this
theorem snd_ofCode {f : Value} {args : List V} {v : V} (h : Snd d (.code f args hp) (.v v hp')) : Snd d (.call f args hp) (.v v hp') :=
  ⟨fun w A env h₀ L out ρ imm s fr rs C R S ks => wpAny_call (h.go w A env h₀ L out ρ imm s fr rs C R S ks)⟩
theorem snd_call {f : Addr} {ps : List Str} {ds args : List V} {body : List Stmt} {scope : Scope} {gl : List (Str × V)} {fr' : Str → Option V} {fl : Fl} {v : V}
    (H : FnAt f ps ds body scope) (hn : args.length + ds.length = ps.length) (hg : ∀ p ∈ gl, GOk p.1 p.2) (hg2 : (gl.all fun p => scope.names.lookup p.1 == some .globalImplicit) = true)
    (h : Snd d (.ss scope body (lk (ps.zip (args ++ ds) ++ gl)) hp) (.f fl fr' hp')) (hb : Back fl v) : Snd (d + 1) (.call (.ref f) args hp) (.v v hp') := snd_ofCode (snd_code H hn hg hg2 h hb)
end

end

section
variable [HasK]
section
variable {w : World} {A : Around} {env : Env} {h₀ : Heap} {L : Addr} {out : Led} {ρ : List Addr} {imm : Led} {s : Shared} {l : List (Str × V)} {hp : List O}

omit [HasK] in
theorem kinds_ne {sc : Scope} (h : sc.kind = .function) {L : Addr} {env : Env} (he : env.scope = sc) : (env.scope.kind == .class || (env.scope.kind == .module && env.locals != mainGlobals)) = false := by rw [he, h]; rfl

/-- a name set -/
theorem St.setN0 (S : St w env h₀ L s.heap ρ hp out imm (lk l)) (hL : env.locals = L) {x : Str} {v : V} {r : Value} (k : VR ρ imm v r) (hx : env.kindOf x = some .local ∨ (env.kindOf x = some .cell ∧ env.func ≠ none)) (hd : (x == ("__debug__" : Str)) = false) :
    wpAny (model pR w) A (storeName env x r) (fun _ s' => ∃ h' tk', s' = { s with heap := h', toks := tk' } ∧ St w env h₀ L h' ρ hp out imm (lk ((x, v) :: l))) Fal s := by
  refine St.elim S fun m mE led cells I => ?_
  have hmE : mE = m := by
    rcases I.l with ⟨_, e⟩ | ⟨o, e1, _⟩
    · exact e
    · exact absurd hL (I.N _ (by simp only [List.mem_append]; exact .inr (.inl e1))).2.1
  subst hmE
  have look : ∀ y u, lk ((x, v) :: l) y = some u → (y = x ∧ u = v) ∨ (y ≠ x ∧ lk l y = some u) := fun y u e => by
    simp only [lk, List.lookup_cons] at e
    by_cases q : y = x
    · subst q; simp only [beq_self_eq_true, Option.some.injEq] at e; exact .inl ⟨rfl, e.symm⟩
    · have q' : (y == x) = false := by simpa using q
      rw [q'] at e; exact .inr ⟨q, e⟩
  rcases hx with hx | hx
  · refine wpAny_storeName_local (m := mE) hx (by rw [hL]; exact I.F.ns) (fun h' hn hs => ?_) (by rw [I.k]; rfl)
    rw [hL] at hn hs
    refine ⟨h', _, rfl, fun y => if y = x then some r else mE y, fun y => if y = x then some r else mE y, led, cells, I.F.set hn hs, I.N.set hs, I.R, I.S, .inl ⟨hL, rfl⟩, I.g, I.bi, I.k, I.c, fun y u e => ?_⟩
    rcases look y u e with ⟨rfl, rfl⟩ | ⟨q, e⟩
    · exact ⟨hd, .inl ⟨hx, r, by simp, k⟩⟩
    · obtain ⟨a, b⟩ := I.f y u e
      refine ⟨a, ?_⟩
      rcases b with ⟨b, r', h1, h2⟩ | b
      · exact .inl ⟨b, r', by simp [q, h1], h2⟩
      · exact .inr b
  · obtain ⟨hx, hfn⟩ := hx
    have Ic : CellsOk env cells := I.c.resolve_left hfn
    obtain ⟨c, o, v₀, h1, h2, h3⟩ := Ic.cell x hx
    have hc : (c, o) ∈ led.flatten ++ cells ++ (out ++ imm) := by simp only [List.mem_append]; exact .inl (.inr h2)
    refine wpAny_storeName_cell I.k hx h1 ⟨o, (I.N _ hc).1, h3⟩ fun h' hv hs => ?_
    obtain ⟨o', g1, g2⟩ := hv
    let cells' := cells.map fun p => if p.1 = c then (c, o') else p
    have keys : cells'.map (·.1) = cells.map (·.1) := by
      simp only [cells', List.map_map]
      refine List.map_congr_left fun p _ => ?_
      simp only [Function.comp_apply]
      split
      · rename_i e; exact e.symm
      · rfl
    have cL : c ≠ L := (I.N _ hc).2.1
    have off : ∀ p, p ∈ led.flatten ∨ p ∈ out ∨ p ∈ imm → p.1 ≠ c := by
      intro p hp'
      have nd := I.S.nd
      simp only [List.map_append, List.nodup_append, List.mem_map] at nd
      rcases hp' with hp' | hp' | hp'
      · exact nd.2.2 _ ⟨p, hp', rfl⟩ _ ⟨_, h2, rfl⟩
      · exact Ne.symm (I.S.off (c, o) (by simp [h2]) p (by simp [hp']))
      · exact Ne.symm (I.S.off (c, o) (by simp [h2]) p (by simp [hp']))
    have mem' : (c, o') ∈ cells' := List.mem_map.mpr ⟨(c, o), h2, by simp⟩
    have keepC : ∀ p ∈ cells, p.1 ≠ c → p ∈ cells' := fun p hp' q => List.mem_map.mpr ⟨p, hp', by simp [q]⟩
    have cc : c ∈ cells.map (·.1) := List.mem_map.mpr ⟨_, h2, rfl⟩
    refine ⟨h', s.toks, rfl, mE, mE, led, cells', ⟨I.F.ns.sameBut hs (Ne.symm cL), fun b ob q => (hs.2 b fun z => ?_).trans (I.F.keep b ob q), I.F.above⟩, ?_, I.R, ⟨?_, ?_, I.S.oi⟩, .inl ⟨hL, rfl⟩, I.g, I.bi, I.k, .inr ⟨?_, ?_⟩, fun y u e => ?_⟩
    · have := (I.N _ hc).2.2; rw [← z, q] at this; cases this
    · have go : ∀ p, p ∈ led.flatten ++ cells ++ (out ++ imm) → p.1 ≠ c → h'.get? p.1 = some p.2 ∧ p.1 ≠ L ∧ h₀.get? p.1 = none := fun p hp' q => ⟨(hs.2 p.1 q).trans (I.N p hp').1, (I.N p hp').2⟩
      intro p hp'
      simp only [List.mem_append] at hp'
      rcases hp' with (hp' | hp') | hp' | hp'
      · exact go p (by simp only [List.mem_append]; exact .inl (.inl hp')) (off p (.inl hp'))
      · obtain ⟨p', q1, q2⟩ := List.mem_map.mp hp'
        by_cases q : p'.1 = c
        · simp only [q, if_true] at q2; subst q2
          exact ⟨g1, (I.N _ hc).2⟩
        · simp only [q, if_false] at q2; subst q2
          exact go p' (by simp only [List.mem_append]; exact .inl (.inr q1)) q
      · exact go p (by simp only [List.mem_append]; exact .inr (.inl hp')) (off p (.inr (.inl hp')))
      · exact go p (by simp only [List.mem_append]; exact .inr (.inr hp')) (off p (.inr (.inr hp')))
    · rw [List.map_append, keys, ← List.map_append]; exact I.S.nd
    · intro p hp' q hq
      have : p.1 ∈ (led.flatten ++ cells).map (·.1) := by rw [List.map_append, ← keys, ← List.map_append]; exact List.mem_map.mpr ⟨p, hp', rfl⟩
      obtain ⟨p', hp'', e⟩ := List.mem_map.mp this
      exact e ▸ I.S.off p' hp'' q hq
    · intro y z d e1 e2 e3
      exact Ic.inj y z d e1 e2 (keys ▸ e3)
    · intro y hy
      obtain ⟨c1, o1, v1, k1, k2, k3⟩ := Ic.cell y hy
      by_cases q : c1 = c
      · subst q; exact ⟨c1, o', some r, k1, mem', g2⟩
      · exact ⟨c1, o1, v1, k1, keepC _ k2 q, k3⟩
    · rcases look y u e with ⟨rfl, rfl⟩ | ⟨q, e⟩
      · exact ⟨hd, .inr (.inl ⟨hx, c, o', r, h1, by simp [mem'], g2, k⟩)⟩
      · have keepA : ∀ c1 o1, env.cells.lookup y = some c1 → (c1, o1) ∈ cells ++ out → (c1, o1) ∈ cells' ++ out := fun c1 o1 z1 z2 => by
          rcases List.mem_append.mp z2 with z2 | z2
          · refine List.mem_append.mpr (.inl (keepC _ z2 fun z3 => q ?_))
            simp only at z3; subst z3
            exact Ic.inj y x c1 z1 h1 cc
          · exact List.mem_append.mpr (.inr z2)
        obtain ⟨a, b⟩ := I.f y u e
        refine ⟨a, ?_⟩
        rcases b with b | ⟨b, c1, o1, r1, z1, z2, z3, z4⟩ | ⟨b, b2, c1, o1, r1, z1, z2, z3, z4⟩ | b
        · exact .inl b
        · exact .inr (.inl ⟨b, c1, o1, r1, z1, keepA c1 o1 z1 z2, z3, z4⟩)
        · exact .inr (.inr (.inl ⟨b, b2, c1, o1, r1, z1, keepA c1 o1 z1 z2, z3, z4⟩))
        · exact .inr (.inr (.inr b))

theorem St.setN (S : St w env h₀ L s.heap ρ hp out imm (lk l)) (hL : Own env L) {x : Str} {v : V} {r : Value} (k : VR ρ imm v r) (hx : env.kindOf x = some .local ∨ env.kindOf x = some .cell) (hd : (x == ("__debug__" : Str)) = false) :
    wpAny (model pR w) A (storeName env x r) (fun _ s' => ∃ h' tk', s' = { s with heap := h', toks := tk' } ∧ St w env h₀ L h' ρ hp out imm (lk ((x, v) :: l))) Fal s :=
  S.setN0 hL.loc k (hx.imp id fun q => ⟨q, hL.fn⟩) hd

theorem St.weak {fr fr' : Str → Option V} (S : St w env h₀ L s.heap ρ hp out imm fr) (h : ∀ x v, fr' x = some v → fr x = some v) : St w env h₀ L s.heap ρ hp out imm fr' :=
  let ⟨m, mE, led, cells, I⟩ := S; ⟨m, mE, led, cells, { I with f := fun x v e => I.f x v (h x v e) }⟩
end

section
variable {d : Nat} {sc : Scope} {fr fr' fr₁ fr₂ : Str → Option V} {l l' : List (Str × V)} {hp hp₁ hp₂ hp₃ : List O} {fl : Fl}
theorem snd_weak {st : Stmt} (h : Snd d (.s sc st fr hp) (.f fl fr₁ hp₁)) (q : ∀ x v, fr₂ x = some v → fr₁ x = some v) : Snd d (.s sc st fr hp) (.f fl fr₂ hp₁) := by
  refine ⟨?_⟩
  intro w A env h₀ L out ρ imm s C R hL hsc S
  first | refine wmV (h.go w A env h₀ L out ρ imm s C R hL hsc S) fun f ρ' imm' h' tk' S' x k => ?_ | refine wmF (h.go w A env h₀ L out ρ imm s C R hL hsc S) fun f ρ' imm' h' tk' S' x k => ?_ | refine wmS (h.go w A env h₀ L out ρ imm s C R hL hsc S) fun f ρ' imm' h' tk' S' x k => ?_
  exact ⟨ρ', imm', h', tk', rfl, S'.weak (s := { s with heap := h' }) q, x, k⟩
theorem snd_weakB {st : List Stmt} (h : Snd d (.ss sc st fr hp) (.f fl fr₁ hp₁)) (q : ∀ x v, fr₂ x = some v → fr₁ x = some v) : Snd d (.ss sc st fr hp) (.f fl fr₂ hp₁) := by
  refine ⟨?_⟩
  intro w A env h₀ L out ρ imm s C R hL hsc S
  first | refine wmV (h.go w A env h₀ L out ρ imm s C R hL hsc S) fun f ρ' imm' h' tk' S' x k => ?_ | refine wmF (h.go w A env h₀ L out ρ imm s C R hL hsc S) fun f ρ' imm' h' tk' S' x k => ?_ | refine wmS (h.go w A env h₀ L out ρ imm s C R hL hsc S) fun f ρ' imm' h' tk' S' x k => ?_
  exact ⟨ρ', imm', h', tk', rfl, S'.weak (s := { s with heap := h' }) q, x, k⟩
theorem snd_weakI {st : List Stmt} (h : Snd d (.ss sc st fr₁ hp) (.f fl fr₂ hp₁)) (q : ∀ x v, fr₁ x = some v → fr x = some v) : Snd d (.ss sc st fr hp) (.f fl fr₂ hp₁) := by
  refine ⟨?_⟩
  intro w A env h₀ L out ρ imm s C R hL hsc S
  exact h.go w A env h₀ L out ρ imm s C R hL hsc (S.weak q)
theorem snd_end : Snd d (.ss sc [] fr hp) (.f .nx fr hp) := by
  refine ⟨?_⟩
  intro w A env h₀ L out ρ imm s C R hL hsc S
  exact wpAny_execs_nil (PF.of (tk' := s.toks) S (.refl _ _) .nx)
theorem snd_seq {st : Stmt} {rest : List Stmt} (h1 : Snd d (.s sc st fr hp) (.f .nx fr₁ hp₁)) (h2 : Snd d (.ss sc rest fr₁ hp₁) (.f fl fr₂ hp₂)) : Snd d (.ss sc (st :: rest) fr hp) (.f fl fr₂ hp₂) := by
  refine ⟨?_⟩
  intro w A env h₀ L out ρ imm s C R hL hsc S
  first | refine wpAny_execs_cons (wmV (h1.go w A env h₀ L out ρ imm s C R hL hsc S) fun f ρ' imm' h' tk' S' x k => ?_) | refine wpAny_execs_cons (wmF (h1.go w A env h₀ L out ρ imm s C R hL hsc S) fun f ρ' imm' h' tk' S' x k => ?_) | refine wpAny_execs_cons (wmS (h1.go w A env h₀ L out ρ imm s C R hL hsc S) fun f ρ' imm' h' tk' S' x k => ?_)
  (first | obtain ⟨_, rfl⟩ := VR.intI k | obtain rfl := VR.objI k | obtain rfl := VR.boolI k | obtain ⟨_, rfl⟩ := VR.strI k | obtain rfl := VR.noneI k | obtain rfl := VRs.nilI k | obtain rfl := FR.nxI k | cases k)
  exact wpAny_mono (h2.go w A env h₀ L out ρ' imm' _ C R hL hsc S') (fun _ _ q => q.trans x) fun _ _ x => x
theorem snd_stop {st : Stmt} {rest : List Stmt} (h1 : Snd d (.s sc st fr hp) (.f fl fr₁ hp₁)) (hf : fl ≠ .nx) : Snd d (.ss sc (st :: rest) fr hp) (.f fl fr₁ hp₁) := by
  refine ⟨?_⟩
  intro w A env h₀ L out ρ imm s C R hL hsc S
  first | refine wpAny_execs_cons (wmV (h1.go w A env h₀ L out ρ imm s C R hL hsc S) fun f ρ' imm' h' tk' S' x k => ?_) | refine wpAny_execs_cons (wmF (h1.go w A env h₀ L out ρ imm s C R hL hsc S) fun f ρ' imm' h' tk' S' x k => ?_) | refine wpAny_execs_cons (wmS (h1.go w A env h₀ L out ρ imm s C R hL hsc S) fun f ρ' imm' h' tk' S' x k => ?_)
  cases k with
  | nx => exact absurd rfl hf
  | ct => exact ⟨ρ', imm', h', tk', rfl, S', x, .ct⟩
  | rt k => exact ⟨ρ', imm', h', tk', rfl, S', x, .rt k⟩
theorem snd_expr {e : Expr} {p : Pos} {v : V} (h : Snd d (.e e fr hp) (.v v hp₁)) (hs : ∀ env, swapsWith e none p.line env = pure false) : Snd d (.s sc (.Expr e p) fr hp) (.f .nx fr hp₁) := by
  refine ⟨?_⟩
  intro w A env h₀ L out ρ imm s C R hL hsc S
  have hk : env.scope.kind = .function := S.choose_spec.choose_spec.choose_spec.choose_spec.k
  first | refine wpAny_Expr_any (wmV (h.go w A env h₀ L out ρ imm s C R S) fun r ρ' imm' h' tk' S' x k => ?_) (by unfold interactive; rw [hk]; rfl) (hs env) | refine wpAny_Expr_any (wmF (h.go w A env h₀ L out ρ imm s C R S) fun r ρ' imm' h' tk' S' x k => ?_) (by unfold interactive; rw [hk]; rfl) (hs env) | refine wpAny_Expr_any (wmS (h.go w A env h₀ L out ρ imm s C R S) fun r ρ' imm' h' tk' S' x k => ?_) (by unfold interactive; rw [hk]; rfl) (hs env)
  exact ⟨ρ', imm', h', tk', rfl, S', x, .nx⟩
theorem snd_asg {e : Expr} {x : Str} {px p : Pos} {v : V} (h : Snd d (.e e (lk l) hp) (.v v hp₁)) (hx : sc.names.lookup x = some .local ∨ sc.names.lookup x = some .cell) (hd : (x == ("__debug__" : Str)) = false)
    (hs : ∀ env, swapsWith e (some (.Name x px)) p.line env = pure false) : Snd d (.s sc (.Assign [.Name x px] e p) (lk l) hp) (.f .nx (lk ((x, v) :: l)) hp₁) := by
  refine ⟨?_⟩
  intro w A env h₀ L out ρ imm s C R hL hsc S
  first | refine wpAny_Assign_Name (wmV (h.go w A env h₀ L out ρ imm s C R S) fun r ρ' imm' h' tk' S' x k => ?_) (hs env) | refine wpAny_Assign_Name (wmF (h.go w A env h₀ L out ρ imm s C R S) fun r ρ' imm' h' tk' S' x k => ?_) (hs env) | refine wpAny_Assign_Name (wmS (h.go w A env h₀ L out ρ imm s C R S) fun r ρ' imm' h' tk' S' x k => ?_) (hs env)
  refine wpAny_mono (S'.setN (s := { s with heap := h', toks := tk' }) hL k (by unfold Env.kindOf; rw [hsc]; exact hx) hd) (fun _ s₂ q => ?_) fun _ _ x => x
  obtain ⟨h'', tk'', rfl, S''⟩ := q
  exact ⟨ρ', imm', h'', tk'', rfl, S'', x, .nx⟩
theorem snd_if {t : Expr} {b₁ b₂ : List Stmt} {p : Pos} {b : Bool} (h : Snd d (.t t fr hp) (.b b hp₁)) (h1 : b = true → Snd d (.ss sc b₁ fr hp₁) (.f fl fr₂ hp₂)) (h2 : b = false → Snd d (.ss sc b₂ fr hp₁) (.f fl fr₂ hp₂)) : Snd d (.s sc (.If t b₁ b₂ p) fr hp) (.f fl fr₂ hp₂) := by
  refine ⟨?_⟩
  intro w A env h₀ L out ρ imm s C R hL hsc S
  refine wpAny_If (wmB (h.go w A env h₀ L out ρ imm s C R S) fun ρ' imm' h' tk' S' x => ?_)
  cases b with
  | true => simp only [if_true]; exact wpAny_mono ((h1 rfl).go w A env h₀ L out ρ' imm' _ C R hL hsc S') (fun _ _ q => q.trans x) fun _ _ x => x
  | false => simp only [Bool.false_eq_true, if_false]; exact wpAny_mono ((h2 rfl).go w A env h₀ L out ρ' imm' _ C R hL hsc S') (fun _ _ q => q.trans x) fun _ _ x => x
theorem snd_ifT {t : Expr} {b₁ b₂ : List Stmt} {p : Pos} (h : Snd d (.t t fr hp) (.b true hp₁)) (h1 : Snd d (.ss sc b₁ fr hp₁) (.f fl fr₂ hp₂)) : Snd d (.s sc (.If t b₁ b₂ p) fr hp) (.f fl fr₂ hp₂) := snd_if h (fun _ => h1) (fun q => nomatch q)
theorem snd_ifF {t : Expr} {b₁ b₂ : List Stmt} {p : Pos} (h : Snd d (.t t fr hp) (.b false hp₁)) (h1 : Snd d (.ss sc b₂ fr hp₁) (.f fl fr₂ hp₂)) : Snd d (.s sc (.If t b₁ b₂ p) fr hp) (.f fl fr₂ hp₂) := snd_if h (fun q => nomatch q) (fun _ => h1)
theorem snd_ret {e : Expr} {p : Pos} {v : V} (h : Snd d (.e e fr hp) (.v v hp₁)) : Snd d (.s sc (.Return (some e) p) fr hp) (.f (.rt v) fr hp₁) := by
  refine ⟨?_⟩
  intro w A env h₀ L out ρ imm s C R hL hsc S
  first | refine wpAny_Return_some (wmV (h.go w A env h₀ L out ρ imm s C R S) fun r ρ' imm' h' tk' S' x k => ?_) | refine wpAny_Return_some (wmF (h.go w A env h₀ L out ρ imm s C R S) fun r ρ' imm' h' tk' S' x k => ?_) | refine wpAny_Return_some (wmS (h.go w A env h₀ L out ρ imm s C R S) fun r ρ' imm' h' tk' S' x k => ?_)
  exact ⟨ρ', imm', h', tk', rfl, S', x, .rt k⟩
theorem snd_ret0 {p : Pos} : Snd d (.s sc (.Return none p) fr hp) (.f (.rt .none) fr hp) := by
  refine ⟨?_⟩
  intro w A env h₀ L out ρ imm s C R hL hsc S
  exact wpAny_Return_none (PF.of (tk' := s.toks) S (.refl _ _) (.rt .none))
theorem snd_cont {p : Pos} : Snd d (.s sc (.Continue p) fr hp) (.f .ct fr hp) := by
  refine ⟨?_⟩
  intro w A env h₀ L out ρ imm s C R hL hsc S
  exact wpAny_Continue (PF.of (tk' := s.toks) S (.refl _ _) .ct)

/-- the turns of a «while» -/
inductive Whl (d : Nat) (sc : Scope) (t : Expr) (b : List Stmt) : Nat → (Str → Option V) → List O → Fl → (Str → Option V) → List O → Prop
  | stop {fr : Str → Option V} {hp hp₁ : List O} : Snd d (.t t fr hp) (.b false hp₁) → Whl d sc t b 0 fr hp .nx fr hp₁
  | turn {n : Nat} {fr fr₂ fr₃ : Str → Option V} {hp hp₁ hp₂ hp₃ : List O} {fl fl' : Fl} : Snd d (.t t fr hp) (.b true hp₁) → Snd d (.ss sc b fr hp₁) (.f fl fr₂ hp₂) → (fl = .nx ∨ fl = .ct) → Whl d sc t b n fr₂ hp₂ fl' fr₃ hp₃ → Whl d sc t b (n + 1) fr hp fl' fr₃ hp₃
  | ret {fr fr₂ : Str → Option V} {hp hp₁ hp₂ : List O} {v : V} : Snd d (.t t fr hp) (.b true hp₁) → Snd d (.ss sc b fr hp₁) (.f (.rt v) fr₂ hp₂) → Whl d sc t b 0 fr hp (.rt v) fr₂ hp₂

/-- between two turns -/
noncomputable def WInv (w : World) (env : Env) (h₀ : Heap) (L : Addr) (out : Led) (ρ : List Addr) (imm : Led) (s : Shared) (d : Nat) (sc : Scope) (t : Expr) (b : List Stmt) (fl : Fl) (fr₂ : Str → Option V) (hp₂ : List O) (n : Nat) (s' : Shared) : Prop :=
  ∃ fr₁ hp₁ ρ₁ imm₁ h₁ tk₁, s' = { s with heap := h₁, toks := tk₁ } ∧ St w env h₀ L h₁ ρ₁ hp₁ out imm₁ fr₁ ∧ Ext ρ ρ₁ imm imm₁ ∧ Whl d sc t b n fr₁ hp₁ fl fr₂ hp₂
section
variable {w : World} {env : Env} {h₀ h₁ : Heap} {L : Addr} {out : Led} {ρ ρ₁ : List Addr} {imm imm₁ : Led} {s s' : Shared} {t : Expr} {b : List Stmt} {n tk₁ : Nat} {fr₁ : Str → Option V}
theorem WInv.of (S : St w env h₀ L h₁ ρ₁ hp₁ out imm₁ fr₁) (x : Ext ρ ρ₁ imm imm₁) (W : Whl d sc t b n fr₁ hp₁ fl fr₂ hp₂) : WInv w env h₀ L out ρ imm s d sc t b fl fr₂ hp₂ n { s with heap := h₁, toks := tk₁ } := ⟨_, _, _, _, _, _, rfl, S, x, W⟩
@[elab_as_elim] theorem WInv.elim {motive : Shared → Prop} (q : WInv w env h₀ L out ρ imm s d sc t b fl fr₂ hp₂ n s')
    (k : ∀ fr₁ hp₁ ρ₁ imm₁ h₁ tk₁, St w env h₀ L h₁ ρ₁ hp₁ out imm₁ fr₁ → Ext ρ ρ₁ imm imm₁ → Whl d sc t b n fr₁ hp₁ fl fr₂ hp₂ → motive { s with heap := h₁, toks := tk₁ }) : motive s' := by
  obtain ⟨_, _, _, _, _, _, rfl, S, x, W⟩ := q; exact k _ _ _ _ _ _ S x W
end
theorem snd_while {t : Expr} {b : List Stmt} {p : Pos} {n : Nat} (h : Whl d sc t b n fr hp fl fr₂ hp₂) : Snd d (.s sc (.While t b [] p) fr hp) (.f fl fr₂ hp₂) := by
  refine ⟨?_⟩
  intro w A env h₀ L out ρ imm s C R hL hsc S
  refine wpAny_While (codeAny_whileLoop (WInv w env h₀ L out ρ imm s d sc t b fl fr₂ hp₂) ?_ n (WInv.of (h₁ := s.heap) (tk₁ := s.toks) S (.refl _ _) h))
  intro n s' q
  refine WInv.elim q fun fr₁ hp₁ ρ₁ imm₁ h₁ tk₁ S₁ x₁ W => ?_
  cases W with
  | stop h1 =>
    refine wmB (h1.go w A env h₀ L out ρ₁ imm₁ _ C R S₁) fun ρ' imm' h' tk' S' x => ?_
    exact wpAny_execs_nil ⟨ρ', imm', h', tk', rfl, S', x₁.trans x, .nx⟩
  | turn h1 h2 hf W =>
    refine wmB (h1.go w A env h₀ L out ρ₁ imm₁ _ C R S₁) fun ρ' imm' h' tk' S' x => ?_
    refine wmF (h2.go w A env h₀ L out ρ' imm' _ C R hL hsc S') fun r ρ'' imm'' h'' tk'' S'' y k => ?_
    have z := fun (s₀ : Shared) (tk : Nat) => WInv.of (s := s₀) (tk₁ := tk) S'' ((x₁.trans x).trans y) W
    cases k with
    | nx => exact ⟨_, Nat.lt_succ_self _, z _ _⟩
    | ct => exact ⟨_, Nat.lt_succ_self _, z _ _⟩
    | rt k => rcases hf with hf | hf <;> cases hf
  | ret h1 h2 =>
    refine wmB (h1.go w A env h₀ L out ρ₁ imm₁ _ C R S₁) fun ρ' imm' h' tk' S' x => ?_
    refine wmF (h2.go w A env h₀ L out ρ' imm' _ C R hL hsc S') fun r ρ'' imm'' h'' tk'' S'' y k => ?_
    cases k with
    | rt k => exact ⟨ρ'', imm'', h'', tk'', rfl, S'', (x₁.trans x).trans y, .rt k⟩

/-- the same, the number of turns not told -/
noncomputable def WhlE (d : Nat) (sc : Scope) (t : Expr) (b : List Stmt) (fr : Str → Option V) (hp : List O) (fl : Fl) (fr' : Str → Option V) (hp' : List O) : Prop := ∃ n, Whl d sc t b n fr hp fl fr' hp'
noncomputable abbrev nofr : Str → Option V := fun _ => none
theorem snd_whileE {t : Expr} {b : List Stmt} {p : Pos} (h : WhlE d sc t b fr hp fl fr₂ hp₂) : Snd d (.s sc (.While t b [] p) fr hp) (.f fl fr₂ hp₂) := let ⟨_, h⟩ := h; snd_while h
theorem whl_turn {t : Expr} {b : List Stmt} (h1 : Snd d (.t t fr hp) (.b true hp₁)) (h2 : Snd d (.ss sc b fr hp₁) (.f fl fr₁ hp₂)) (hf : fl = .nx ∨ fl = .ct) {fl' : Fl} (q : ∀ x v, fr₂ x = some v → fr₁ x = some v) (h3 : WhlE d sc t b fr₂ hp₂ fl' fr' hp₃) : WhlE d sc t b fr hp fl' fr' hp₃ :=
  let ⟨n, h3⟩ := h3; ⟨n + 1, .turn h1 (snd_weakB h2 q) hf h3⟩
theorem whl_ret {t : Expr} {b : List Stmt} {v : V} (h1 : Snd d (.t t fr hp) (.b true hp₁)) (h2 : Snd d (.ss sc b fr hp₁) (.f (.rt v) fr₁ hp₂)) : WhlE d sc t b fr hp (.rt v) nofr hp₂ :=
  ⟨0, .ret h1 (snd_weakB h2 fun x v q => nomatch q)⟩
theorem whl_stop {t : Expr} {b : List Stmt} (h1 : Snd d (.t t fr hp) (.b false hp₁)) : WhlE d sc t b fr hp .nx fr hp₁ := ⟨0, .stop h1⟩
omit [HasK] in
theorem sub_nil {fr : Str → Option V} : ∀ x v, lk [] x = some v → fr x = some v := fun _ _ q => nomatch q
omit [HasK] in
theorem sub_cons {fr : Str → Option V} {y : Str} {u : V} {l : List (Str × V)} (h : fr y = some u) (k : ∀ x v, lk l x = some v → fr x = some v) : ∀ x v, lk ((y, u) :: l) x = some v → fr x = some v := fun x v q => by
  simp only [lk, List.lookup_cons] at q
  by_cases z : x = y
  · subst z; simp only [beq_self_eq_true, Option.some.injEq] at q; exact q ▸ h
  · have z' : (x == y) = false := by simpa using z
    rw [z'] at q; exact k x v q
omit [HasK] in
/-- what stands in a frame, told at one look -/
theorem sub_all {fr : Str → Option V} : ∀ {l : List (Str × V)}, (l.map fun p => fr p.1) = (l.map fun p => some p.2) → ∀ x v, lk l x = some v → fr x = some v
  | [], _ => sub_nil
  | (_, _) :: _, h => sub_cons (List.cons.inj h).1 (sub_all (List.cons.inj h).2)
theorem snd_weakN {st : List Stmt} (h : Snd d (.ss sc st fr hp) (.f fl fr₁ hp₁)) : Snd d (.ss sc st fr hp) (.f fl nofr hp₁) := snd_weakB h fun x v q => nomatch q
end

end

section
variable [HasK]
section
variable {w : World} {A : Around} {env : Env} {h₀ h : Heap} {L : Addr} {out : Led} {ρ : List Addr} {imm : Led} {s : Shared} {hp : List O} {fr : Str → Option V}
theorem St.inK (S : St w env h₀ L h ρ hp out imm fr) {A : Around} (C : Cx w A h₀ L) : (HasK.heap w.params).In h := let ⟨_, _, _, _, I⟩ := S; C.X.keeps I.F.keep
end
section
variable {d : Nat} {fr : Str → Option V} {hp hp₁ hp₂ hp₃ : List O}

/-- who may be called without a frame to be kept -/
noncomputable def Kept (f : Value) : Prop := (∃ id, f = .builtin id) ∨ (∃ T, f = .type T) ∨ ∀ w : World, keepIn (HasK.heap w.params) f = true

/-- arguments, then a call -/
theorem withK {w : World} {A : Around} {env : Env} {h₀ : Heap} {L : Addr} {out : Led} {ρ : List Addr} {imm : Led} {s : Shared} {pos : Pos} {f : Value} {first : List Value} {vf l : List V} {e : Expr} {es : List Expr} {v : V} (C : Cx w A h₀ L) (R : Room d A) (S : St w env h₀ L s.heap ρ hp out imm fr) (hk : Kept f) (hT : (∃ T, f = .type T) → first = [])
    (kf : VRs ρ imm vf first) (h1 : Snd d (.es (e :: es) fr hp) (.vs l hp₁)) (h2 : Snd d (.call f (vf ++ l) hp₁) (.v v hp₂)) : wpAny (model pR w) A (callWith pos f first (backTo pos (starEach (e :: es) env)) []) (PV w env h₀ L out fr ρ imm s v hp₂) Fal s := by
  have go := h1.go.2 w A env h₀ L out ρ imm s pos C R S
  have fin : ∀ rs s₁, PVs w env h₀ L out fr ρ imm s l hp₁ rs s₁ → (HasK.heap w.params).In s₁.heap ∧ wpAny (model pR w) A (call f (first ++ rs)) (PV w env h₀ L out fr ρ imm s v hp₂) Fal s₁ := fun rs s₁ p => by
    obtain ⟨ρ', imm', h', tk', rfl, S', x, ks⟩ := p
    exact ⟨S'.inK C, wpAny_mono (h2.go w A env h₀ L out ρ' imm' _ fr (first ++ rs) C R S' ((kf.mono x).append ks)) (fun _ _ q => q.trans x) fun _ _ x => x⟩
  have sc := star_cons (h1.go.1 e (.head _)) es env
  have sa := star_any pos env fun e' h' => h1.go.1 e' (.tail _ h')
  rcases hk with ⟨id, rfl⟩ | ⟨T, rfl⟩ | hk
  · exact callWith_method1 (wpAny_mono go (fun rs s₁ p => (fin rs s₁ p).2) fun _ _ x => x) sc sa
  · cases hT ⟨T, rfl⟩
    exact PyProof.Rows.callWith_type1 (wpAny_mono go (fun rs s₁ p => (fin rs s₁ p).2) fun _ _ x => x) sc sa
  · exact callWith_K C.X (hk w) (wpAny_mono go (fun rs s₁ p => fin rs s₁ p) fun _ _ x => x) sc sa
theorem withK0 {w : World} {A : Around} {env : Env} {h₀ : Heap} {L : Addr} {out : Led} {ρ : List Addr} {imm : Led} {s : Shared} {pos : Pos} {f : Value} {first : List Value} {vf : List V} {v : V} (C : Cx w A h₀ L) (R : Room d A) (S : St w env h₀ L s.heap ρ hp out imm fr) (hk : Kept f) (hT : (∃ T, f = .type T) → first = [])
    (kf : VRs ρ imm vf first) (h2 : Snd d (.call f vf hp) (.v v hp₂)) : wpAny (model pR w) A (callWith pos f first (backTo pos (starEach [] env)) []) (PV w env h₀ L out fr ρ imm s v hp₂) Fal s := by
  have go := h2.go w A env h₀ L out ρ imm s fr first C R S kf
  rcases hk with ⟨id, rfl⟩ | ⟨T, rfl⟩ | hk
  · exact callWith_method0 go
  · cases hT ⟨T, rfl⟩
    exact PyProof.Rows.callWith_type0 go
  · exact callWith_K0 (S.inK C) (hk w) (by rw [List.append_nil]; exact go)

theorem snd_ecall {x : Str} {px p : Pos} {f : Value} {e : Expr} {es : List Expr} {l : List V} {v : V} (hx : fr x = some (.obj f)) (hk : Kept f) (h1 : Snd d (.es (e :: es) fr hp) (.vs l hp₁)) (h2 : Snd d (.call f l hp₁) (.v v hp₂)) :
    Snd d (.e (.Call (.Name x px) (e :: es) [] p) fr hp) (.v v hp₂) := by
  refine ⟨?_⟩
  intro w A env h₀ L out ρ imm s C R S
  first | refine Call_ (wmV ((snd_name (d := d) hx).go w A env h₀ L out ρ imm s C R S) fun r ρ' imm' h' tk' S' x k => ?_) | refine Call_ (wmF ((snd_name (d := d) hx).go w A env h₀ L out ρ imm s C R S) fun r ρ' imm' h' tk' S' x k => ?_) | refine Call_ (wmS ((snd_name (d := d) hx).go w A env h₀ L out ρ imm s C R S) fun r ρ' imm' h' tk' S' x k => ?_)
  (first | obtain ⟨_, rfl⟩ := VR.intI k | obtain rfl := VR.objI k | obtain rfl := VR.boolI k | obtain ⟨_, rfl⟩ := VR.strI k | obtain rfl := VR.noneI k | obtain rfl := VRs.nilI k | obtain rfl := FR.nxI k | cases k)
  exact wpAny_mono (withK (vf := []) C R S' hk (fun _ => rfl) .nil h1 h2) (fun _ _ q => q.trans x) fun _ _ x => x
theorem snd_ecall0 {x : Str} {px p : Pos} {f : Value} {v : V} (hx : fr x = some (.obj f)) (hk : Kept f) (h2 : Snd d (.call f [] hp) (.v v hp₂)) :
    Snd d (.e (.Call (.Name x px) [] [] p) fr hp) (.v v hp₂) := by
  refine ⟨?_⟩
  intro w A env h₀ L out ρ imm s C R S
  first | refine Call_ (wmV ((snd_name (d := d) hx).go w A env h₀ L out ρ imm s C R S) fun r ρ' imm' h' tk' S' x k => ?_) | refine Call_ (wmF ((snd_name (d := d) hx).go w A env h₀ L out ρ imm s C R S) fun r ρ' imm' h' tk' S' x k => ?_) | refine Call_ (wmS ((snd_name (d := d) hx).go w A env h₀ L out ρ imm s C R S) fun r ρ' imm' h' tk' S' x k => ?_)
  (first | obtain ⟨_, rfl⟩ := VR.intI k | obtain rfl := VR.objI k | obtain rfl := VR.boolI k | obtain ⟨_, rfl⟩ := VR.strI k | obtain rfl := VR.noneI k | obtain rfl := VRs.nilI k | obtain rfl := FR.nxI k | cases k)
  exact wpAny_mono (withK0 (vf := []) C R S' hk (fun _ => rfl) .nil h2) (fun _ _ q => q.trans x) fun _ _ x => x

/-- what a name after a dot gives -/
inductive Meth (hp : List O) : Nat → Str → Value → Prop
  | own {i : Nat} {c f : Addr} {l : List (Str × V)} {x : Str} : hp[i]? = some (.inst c l) → l.lookup x = none → MethOk c x f → Meth hp i x (.ref f)
  | lst {i : Nat} {l : List V} {x : Str} {id : String} : hp[i]? = some (.list l) → Slot "list" x id → typeOf (.builtin id) = pure (.type "method_descriptor") → Meth hp i x (.builtin id)
  | dS {i : Nat} {l : List (Str × V)} {x : Str} {id : String} : hp[i]? = some (.dS l) → Slot "dict" x id → typeOf (.builtin id) = pure (.type "method_descriptor") → Meth hp i x (.builtin id)
  | dT {i : Nat} {l : List (List Int × V)} {x : Str} {id : String} : hp[i]? = some (.dT l) → Slot "dict" x id → typeOf (.builtin id) = pure (.type "method_descriptor") → Meth hp i x (.builtin id)
theorem Meth.kept {i : Nat} {x : Str} {f : Value} (m : Meth hp i x f) : Kept f := by
  cases m with
  | own _ _ o => exact .inr (.inr fun w => (o w).2.2.2)
  | _ => exact .inl ⟨_, rfl⟩
theorem Meth.noT {i : Nat} {x : Str} {f : Value} (m : Meth hp i x f) {α : Prop} (q : ∃ T, f = .type T) : α := by
  obtain ⟨T, rfl⟩ := q
  cases m

theorem getM {w : World} {A : Around} {env : Env} {h₀ : Heap} {L : Addr} {out : Led} {ρ : List Addr} {imm : Led} {s : Shared} {i : Nat} {x : Str} {f : Value} {a : Addr} {pl : Sem Bool} (C : Cx w A h₀ L) (S : St w env h₀ L s.heap ρ hp out imm fr) (m : Meth hp i x f) (e : ρ[i]? = some a) {Q : Value × List Value → Shared → Prop} {E : Value → Shared → Prop} (h : Q (f, [.ref a]) s) :
    wpAny (model pR w) A (getMethod (.ref a) x pl) Q E s := by
  cases m with
  | own hi hl ok =>
    obtain ⟨a', d', ds, n, m, e1, F, I, E⟩ := S.ins hi
    rw [e] at e1; cases e1
    obtain ⟨o1, o2, o3, o4⟩ := ok w
    exact method_inst F C.X I o1 o2 o3 (getL_none E hl) h
  | lst hi sl ty =>
    obtain ⟨a', vs, n, e1, e2, _⟩ := S.lst hi
    rw [e] at e1; cases e1
    exact getMethod_builtin ⟨_, e2, rfl⟩ PySem.F.plainAttrs_list sl ty (fun a e => by cases e; exact ⟨_, e2, rfl⟩) h
  | dS hi sl ty =>
    obtain ⟨a', kvs, e1, e0, e2, _⟩ := S.dctS hi
    rw [e] at e1; cases e1
    exact getMethod_builtin e2.typeIs PySem.F.plainAttrs_dict sl ty e2.mapOf.noDict h
  | dT hi sl ty =>
    obtain ⟨a', es, h1, h2, h3, _⟩ := S.upd hi
    rw [e] at h1; cases h1
    obtain ⟨o, ds, ep, xs, rfl, _, h5, _⟩ := h2
    have ho := h3 _ (.head _)
    exact getMethod_builtin ⟨o, ho, h5.1⟩ PySem.F.plainAttrs_dict sl ty (fun a e => by cases e; exact ⟨_, ho, h5.2.1⟩) h

theorem snd_mcall {o : Expr} {x : Str} {ap p : Pos} {f : Value} {e : Expr} {es : List Expr} {l : List V} {v : V} {i : Nat} (h0 : Snd d (.e o fr hp) (.v (.ref i) hp₁)) (hm : Meth hp₁ i x f) (h1 : Snd d (.es (e :: es) fr hp₁) (.vs l hp₂)) (h2 : Snd d (.call f (.ref i :: l) hp₂) (.v v hp₃))
    (he : ∀ env : Env, ∃ pl : Sem Bool, eval (.Call (.Attribute o x ap) (e :: es) [] p) env = (do let ov ← eval o env; standAt ap.atName; let (f, first) ← holding [ov] (getMethod ov x pl); callWith p f first (backTo p (starEach (e :: es) env)) [])) :
    Snd d (.e (.Call (.Attribute o x ap) (e :: es) [] p) fr hp) (.v v hp₃) := by
  refine ⟨?_⟩
  intro w A env h₀ L out ρ imm s C R S
  obtain ⟨pl, he⟩ := he env
  first | refine MethodCall_ (wmV (h0.go w A env h₀ L out ρ imm s C R S) fun r ρ' imm' h' tk' S' x k => ?_) he | refine MethodCall_ (wmF (h0.go w A env h₀ L out ρ imm s C R S) fun r ρ' imm' h' tk' S' x k => ?_) he | refine MethodCall_ (wmS (h0.go w A env h₀ L out ρ imm s C R S) fun r ρ' imm' h' tk' S' x k => ?_) he
  obtain ⟨_, e1, rfl⟩ := VR.refI k
  refine getM C S' hm e1 ?_
  exact wpAny_mono (withK (vf := [.ref i]) C R S' hm.kept hm.noT (.cons (.ref e1) .nil) h1 h2) (fun _ _ q => q.trans x) fun _ _ x => x
theorem snd_mcall0 {o : Expr} {x : Str} {ap p : Pos} {f : Value} {v : V} {i : Nat} (h0 : Snd d (.e o fr hp) (.v (.ref i) hp₁)) (hm : Meth hp₁ i x f) (h2 : Snd d (.call f [.ref i] hp₁) (.v v hp₃))
    (he : ∀ env : Env, ∃ pl : Sem Bool, eval (.Call (.Attribute o x ap) [] [] p) env = (do let ov ← eval o env; standAt ap.atName; let (f, first) ← holding [ov] (getMethod ov x pl); callWith p f first (backTo p (starEach [] env)) [])) :
    Snd d (.e (.Call (.Attribute o x ap) [] [] p) fr hp) (.v v hp₃) := by
  refine ⟨?_⟩
  intro w A env h₀ L out ρ imm s C R S
  obtain ⟨pl, he⟩ := he env
  first | refine MethodCall_ (wmV (h0.go w A env h₀ L out ρ imm s C R S) fun r ρ' imm' h' tk' S' x k => ?_) he | refine MethodCall_ (wmF (h0.go w A env h₀ L out ρ imm s C R S) fun r ρ' imm' h' tk' S' x k => ?_) he | refine MethodCall_ (wmS (h0.go w A env h₀ L out ρ imm s C R S) fun r ρ' imm' h' tk' S' x k => ?_) he
  obtain ⟨_, e1, rfl⟩ := VR.refI k
  refine getM C S' hm e1 ?_
  exact wpAny_mono (withK0 (vf := [.ref i]) C R S' hm.kept hm.noT (.cons (.ref e1) .nil) h2) (fun _ _ q => q.trans x) fun _ _ x => x
end

end

section
variable [HasK]
open PySem.MeetsSeq PySem.SeqAt PySem.AutoSeq1 in
omit [HasK] in
theorem rem_loop (l : Addr) (items : Array Value) (n : Nat) (x : Value) (e : Nat → Bool) (j : Nat) (hj : j < items.size) (hit : e j = true) (hno : ∀ m, m < j → e m = false) (hs1 : items.size ≤ sizeLine) (k : Nat) :
    ∀ i : Nat, j - i = k → i ≤ j → Meets (Builtin.«list.remove.loop» ⟨[.ref l, x, rawInt i], []⟩)
      (fun A R s => s.heap.get? l = some { cls := .type "list", dict := none, data := .seq items n, slots := #[] } ∧ (∀ m (hm : m < items.size), EqAt A.in1 s items[m] x (e m)) ∧ R (.ok (.ret .none)) { s with heap := s.heap.update l (Obj.mapSeq fun xs => xs.eraseIdxIfInBounds j) }) := by
  induction k with
  | zero =>
    intro i hk hij prog w A R s h
    obtain ⟨hp, g, d, tk, os⟩ := s; obtain ⟨hl, he, h⟩ := h
    have hij' : i = j := by (first | lia | omega)
    subst hij'
    wp_walk using wpAny_loadPart' hl
    have hi : items[((i : Nat) : Int).toNat]? = some items[i] := by simp [hj]
    rw [hi]
    refine wpAny_bind (he _ hj prog w _ _ ?_)
    rw [hit]
    have hz' : (items.eraseIdxIfInBounds i).size ≤ sizeLine + 1 := Nat.le_trans (size_erased items _) (Nat.le_succ_of_le hs1)
    wp_walk using (wpAny_updateSeq hl rfl (hz := hs1) (_hz' := hz')), wpAny_loadPart' hl
    simpa using h
  | succ k ih =>
    intro i hk hij prog w A R s h
    obtain ⟨hp, g, d, tk, os⟩ := s; obtain ⟨hl, he, h⟩ := h
    have hlt : i < items.size := by (first | lia | omega)
    wp_walk using wpAny_loadPart' hl
    have hi : items[((i : Nat) : Int).toNat]? = some items[i] := by simp [hlt]
    have hc : ((i : Int) + 1) = ((i + 1 : Nat) : Int) := by push_cast; rfl
    rw [hi]
    refine wpAny_bind (he _ hlt prog w _ _ ?_)
    rw [hno i (by (first | lia | omega))]
    wp_walk
    rw [hc]
    exact ⟨plainId_quiet plain_remove_loop _, codeAny_builtin entry_remove_loop (by
      rw [Around.under_plainId plain_remove_loop _]
      exact ih (i + 1) (by (first | lia | omega)) (by (first | lia | omega)) prog w A R _ ⟨hl, he, h⟩)⟩
open PySem.MeetsSeq PySem.SeqAt PySem.AutoSeq1 in
omit [HasK] in
theorem rem_list (l : Addr) (items : Array Value) (n : Nat) (x : Value) (e : Nat → Bool) (j : Nat) (hj : j < items.size) (hit : e j = true) (hno : ∀ m, m < j → e m = false) (hs1 : items.size ≤ sizeLine) :
    Meets (Builtin.«list.remove» ⟨[.ref l, x], []⟩)
      (fun A R s => s.heap.get? l = some { cls := .type "list", dict := none, data := .seq items n, slots := #[] } ∧ (∀ m (hm : m < items.size), EqAt A.in1 s items[m] x (e m)) ∧ R (.ok (.ret .none)) { s with heap := s.heap.update l (Obj.mapSeq fun xs => xs.eraseIdxIfInBounds j) }) := by
  intro prog w A R s h
  obtain ⟨hp, g, d, tk, os⟩ := s; obtain ⟨hl, he, h⟩ := h
  wp_walk using wpAny_loadPart' hl
  exact ⟨plainId_quiet plain_remove_loop _, codeAny_builtin entry_remove_loop (by
    rw [Around.under_plainId plain_remove_loop _]
    exact rem_loop l items n x e j hj hit hno hs1 _ 0 rfl (Nat.zero_le _) prog w A R _ ⟨hl, he, h⟩)⟩

section
variable {ρ : List Addr} {imm : Led}
omit [HasK] in
theorem VRs.one {v : V} {rs : List Value} (h : VRs ρ imm [v] rs) : ∃ r, rs = [r] ∧ VR ρ imm v r := by
  obtain ⟨_, _, a, b, rfl⟩ := VRs.consI h; cases b; exact ⟨_, rfl, a⟩
omit [HasK] in
theorem VRs.two {v u : V} {rs : List Value} (h : VRs ρ imm [v, u] rs) : ∃ r q, rs = [r, q] ∧ VR ρ imm v r ∧ VR ρ imm u q := by
  obtain ⟨_, _, a, b, rfl⟩ := VRs.consI h; obtain ⟨r, rfl, k⟩ := b.one; exact ⟨_, _, rfl, a, k⟩
omit [HasK] in
theorem VRs.three {v u z : V} {rs : List Value} (h : VRs ρ imm [v, u, z] rs) : ∃ r q t, rs = [r, q, t] ∧ VR ρ imm v r ∧ VR ρ imm u q ∧ VR ρ imm z t := by
  obtain ⟨_, _, a, b, rfl⟩ := VRs.consI h; obtain ⟨r, q, rfl, k1, k2⟩ := b.two; exact ⟨_, _, _, rfl, a, k1, k2⟩
omit [HasK] in
theorem VR.refA {i : Nat} {r : Value} (h : VR ρ imm (.ref i) r) : ∃ a, r = .ref a ∧ ρ[i]? = some a := by
  obtain ⟨_, e, rfl⟩ := VR.refI h; exact ⟨_, rfl, e⟩
omit [HasK] in
theorem VR.intA {i : Int} {r : Value} (h : VR ρ imm (.int i) r) : ∃ t, r = .int i t := by
  cases h; exact ⟨_, rfl⟩
omit [HasK] in
theorem VR.strA {x : Str} {r : Value} (h : VR ρ imm (.str x) r) : ∃ t, r = .str x t := by
  cases h; exact ⟨_, rfl⟩
end
/-- a dict with one key set -/
noncomputable def setD {K : Type} [DecidableEq K] (l : List (K × V)) (k : K) (v : V) : List (K × V) :=
  if l.any (fun p => decide (p.1 = k)) then l.map (fun p => if p.1 = k then (p.1, v) else p) else l ++ [(k, v)]
section
variable {ρ : List Addr} {imm : Led}
omit [HasK] in
theorem any_keys {K : Type} [DecidableEq K] {l : List (K × V)} {kvs : List (K × Value)} (e : kvs.map (·.1) = l.map (·.1)) (k : K) : (kvs.any fun kv => decide (kv.1 = k)) = l.any fun p => decide (p.1 = k) := by
  have h1 : (kvs.any fun kv => decide (kv.1 = k)) = (kvs.map (·.1)).any fun x => decide (x = k) := by rw [List.any_map]; rfl
  have h2 : (l.any fun kv => decide (kv.1 = k)) = (l.map (·.1)).any fun x => decide (x = k) := by rw [List.any_map]; rfl
  rw [h1, h2, e]
omit [HasK] in
theorem stored_of {K : Type} [DecidableEq K] {l : List (K × V)} {kvs : List (K × Value)} (e : kvs.map (·.1) = l.map (·.1)) (h : VRs ρ imm (l.map (·.2)) (kvs.map (·.2))) (k : K) {v : V} {r : Value} (kv : VR ρ imm v r) :
    (stored kvs k r).map (·.1) = (setD l k v).map (·.1) ∧ VRs ρ imm ((setD l k v).map (·.2)) ((stored kvs k r).map (·.2)) := by
  unfold stored setD
  rw [any_keys e k]
  split
  · rename_i z0
    clear z0
    induction l generalizing kvs with
    | nil => cases kvs with | nil => exact ⟨rfl, .nil⟩ | cons => simp at e
    | cons p l ih =>
      cases kvs with
      | nil => simp at e
      | cons q kvs =>
        simp only [List.map_cons, List.cons.injEq] at e h
        cases h with | cons h1 h2 =>
        obtain ⟨i1, i2⟩ := ih e.2 h2
        obtain ⟨p1, p2⟩ := p
        obtain ⟨q1, q2⟩ := q
        obtain ⟨e1, e2⟩ := e
        simp only at e1 h1; subst e1
        by_cases z : q1 = k
        · simp only [List.map_cons, z, if_true, i1, true_and]
          exact .cons kv i2
        · simp only [List.map_cons, z, if_false, i1, true_and]
          exact .cons h1 i2
  · simp only [List.map_append, List.map_cons, List.map_nil, e, true_and]
    exact h.append (.cons kv .nil)
end

section
variable {w : World} {A : Around} {env : Env} {h₀ h h' : Heap} {L : Addr} {ρ : List Addr} {hp : List O} {out imm : Led} {fr : Str → Option V} {s : Shared}
theorem isKey {ks : List Int} {vs : List Value} {n : Nat} {a : Addr} (S : St w env h₀ L h ρ hp out imm fr) (hm : (a, tupOf vs n) ∈ imm) (k : PySem.ItemsAre (iK w) ks vs) : (tK w).is h ks a := ⟨tupOf vs n, vs.toArray, n, S.tupAt hm, rfl, rfl, k⟩
omit [HasK] in
theorem items_of {l : List Int} {rs : List Value} (k : VRs ρ imm (l.map .int) rs) : PySem.ItemsAre (iK w) l rs := by
  induction l generalizing rs with
  | nil => (first | obtain ⟨_, rfl⟩ := VR.intI k | obtain rfl := VR.objI k | obtain rfl := VR.boolI k | obtain ⟨_, rfl⟩ := VR.strI k | obtain rfl := VR.noneI k | obtain rfl := VRs.nilI k | obtain rfl := FR.nxI k | cases k); exact .nil
  | cons a l ih =>
    obtain ⟨_, _, k1, k2, rfl⟩ := VRs.consI k
    (first | obtain ⟨_, rfl⟩ := VR.intI k1 | obtain rfl := VR.objI k1 | obtain rfl := VR.boolI k1 | obtain ⟨_, rfl⟩ := VR.strI k1 | obtain rfl := VR.noneI k1 | obtain rfl := VRs.nilI k1 | obtain rfl := FR.nxI k1 | cases k1)
    exact .cons (intKind_is _ _ _ _) (ih k2)
theorem St.dctT (S : St w env h₀ L h ρ hp out imm fr) {i : Nat} {l : List (List Int × V)} (hi : hp[i]? = some (.dT l)) :
    ∃ a xs, ρ[i]? = some a ∧ (a == sysModules) = false ∧ h.DictOfH (tK w) a xs ∧ (∀ x ∈ xs, ∃ vs n, (x.2.1, tupOf vs n) ∈ imm ∧ PySem.ItemsAre (iK w) x.1 vs) ∧ xs.map (·.1) = l.map (·.1) ∧ VRs ρ imm (l.map (·.2)) (xs.map (·.2.2)) ∧
      ∀ {h' : Heap} {l' : List (List Int × V)} {xs' : List (List Int × Addr × Value)}, (∀ x ∈ xs', ∃ vs n, (x.2.1, tupOf vs n) ∈ imm ∧ PySem.ItemsAre (iK w) x.1 vs) → xs'.map (·.1) = l'.map (·.1) → VRs ρ imm (l'.map (·.2)) (xs'.map (·.2.2)) → Heap.SameBut a h h' → h'.DictOfH (tK w) a xs' →
        St w env h₀ L h' ρ (hp.set i (.dT l')) out imm fr := by
  obtain ⟨a, es, h1, h2, h3, _, h4⟩ := S.upd hi
  obtain ⟨o, ds, ep, xs, rfl, h0, k1, k2, k3, k4, k5, k6, k7⟩ := h2
  refine ⟨a, xs, h1, h0, ⟨o, ds, ep, h3 _ (.head _), k1, k2, k3, fun x hx => ?_, k5⟩, k4, k6, k7, fun {h' l' xs'} e0 e1 e2 hs hd => ?_⟩
  · obtain ⟨vs, n, z1, z2⟩ := k4 x hx
    exact isKey S z1 z2
  · obtain ⟨o', ds', ep', g1, g2, g3, g4, g5, g6⟩ := hd
    exact h4 (es' := [(a, o')]) ⟨o', ds', ep', xs', rfl, h0, g2, g3, g4, e0, g6, e1, e2⟩ rfl (.head _) hs fun p hp => by cases List.mem_singleton.mp hp; exact g1
omit [HasK] in
theorem lookup_dec (x : List Int) : ∀ l : List (List Int × V), @List.lookup (List Int) V instBEqOfDecidableEq x l = l.lookup x
  | [] => rfl
  | (y, u) :: l => by
    simp only [List.lookup_cons]
    rw [lookup_dec x l]
    by_cases q : x = y
    · subst q; simp
    · have a : (@BEq.beq _ (@instBEqOfDecidableEq (List Int) _) x y) = false := by simpa using q
      have b : (x == y) = false := by simpa using q
      rw [a, b]
omit [HasK] in
theorem atKey_of {l : List (List Int × V)} {xs : List (List Int × Addr × Value)} (e : xs.map (·.1) = l.map (·.1)) (k : VRs ρ imm (l.map (·.2)) (xs.map (·.2.2))) (x : List Int) :
    ((atKey xs x).map (·.2)).isSome = (l.lookup x).isSome ∧ ∀ v, l.lookup x = some v → ∃ r, (atKey xs x).map (·.2) = some r ∧ VR ρ imm v r := by
  have e' : (kvsOf xs).map (·.1) = l.map (·.1) := by rw [← e]; simp [kvsOf]
  have k' : VRs ρ imm (l.map (·.2)) ((kvsOf xs).map (·.2)) := by
    have : (kvsOf xs).map (·.2) = xs.map (·.2.2) := by simp [kvsOf]
    rw [this]; exact k
  have := at_of e' k' x
  rw [valueAt_kvsOf, lookup_dec] at this
  exact this
end

section
variable {d : Nat} {fr : Str → Option V} {hp hp₁ hp₂ hp₃ : List O}
theorem sndb_lenL {i : Nat} {l : List V} (hi : hp[i]? = some (.list l)) (hz : l.length < 2 ^ 40) : Snd d (.call (.builtin "len") [.ref i] hp) (.v (.int l.length) hp) := by
  refine ⟨?_⟩
  intro w A env h₀ L out ρ imm s fr rs C R S ks
  obtain ⟨r, rfl, k⟩ := ks.one
  obtain ⟨a, rfl, e⟩ := k.refA
  obtain ⟨a, vs, n, e1, e2, e3, _⟩ := S.lst hi
  rw [e] at e1; cases e1
  have hl : s.heap.IsList a vs.toArray := isList_of e2
  have hsz : vs.toArray.size = l.length := by rw [List.size_toArray, e3.length]
  refine PyProof.Rows.len_list hl (by (first | lia | omega)) ?_
  rw [hsz]
  exact PV.of S (.refl _ _) (.int _ _)
theorem sndb_lenD {i : Nat} {l : List (Int × V)} (hi : hp[i]? = some (.dI l)) (hz : l.length < 2 ^ 40) : Snd d (.call (.builtin "len") [.ref i] hp) (.v (.int l.length) hp) := by
  refine ⟨?_⟩
  intro w A env h₀ L out ρ imm s fr rs C R S ks
  obtain ⟨r, rfl, k⟩ := ks.one
  obtain ⟨a, rfl, e⟩ := k.refA
  obtain ⟨a, kvs, e1, e0, e2, e3, e4, _⟩ := S.dctI hi
  rw [e] at e1; cases e1
  have hl : kvs.length = l.length := by have := congrArg List.length e3; simpa using this
  refine call_len_dict e0 e2 (by (first | lia | omega)) ?_
  rw [hl]
  exact PV.of S (.refl _ _) (.int _ _)
theorem sndb_append {i : Nat} {l : List V} {v : V} (hi : hp[i]? = some (.list l)) (hz : l.length < 2 ^ 20) : Snd d (.call (.builtin "list.append") [.ref i, v] hp) (.v .none (hp.set i (.list (l ++ [v])))) := by
  refine ⟨?_⟩
  intro w A env h₀ L out ρ imm s fr rs C R S ks
  obtain ⟨r, q, rfl, k, kv⟩ := ks.two
  obtain ⟨a, rfl, e⟩ := k.refA
  obtain ⟨a, vs, n, e1, e2, e3, up⟩ := S.lst hi
  rw [e] at e1; cases e1
  refine append_at e2 (fun h' hs hg => ?_) (by rw [List.size_toArray, e3.length, sizeLine_eq]; (first | lia | omega))
  rw [List.push_toArray] at hg
  exact PV.of (tk' := s.toks) (up (e3.append (.cons kv .nil)) hs hg) (.refl _ _) .none
omit [HasK] in
theorem erase_end (vs : List Value) (k : Nat) (h : vs.length = k + 1) : vs.toArray.eraseIdxIfInBounds k = (vs.take k).toArray := by
  have hk : k < vs.toArray.size := by rw [List.size_toArray]; (first | lia | omega)
  unfold Array.eraseIdxIfInBounds
  rw [dif_pos hk]
  apply Array.toList_inj.mp
  rw [Array.toList_eraseIdx]
  show vs.eraseIdx k = vs.take k
  rw [List.eraseIdx_eq_take_drop_succ, ← h, List.drop_length, List.append_nil]
theorem sndb_pop {i : Nat} {l : List V} {v : V} (hi : hp[i]? = some (.list (l ++ [v]))) (hz : l.length < 2 ^ 20) : Snd d (.call (.builtin "list.pop") [.ref i] hp) (.v v (hp.set i (.list l))) := by
  refine ⟨?_⟩
  intro w A env h₀ L out ρ imm s fr rs C R S ks
  obtain ⟨r, rfl, k⟩ := ks.one
  obtain ⟨a, rfl, e⟩ := k.refA
  obtain ⟨a, vs, n, e1, e2, e3, up⟩ := S.lst hi
  rw [e] at e1; cases e1
  have hlen := e3.length
  simp only [List.length_append, List.length_cons, List.length_nil] at hlen
  obtain ⟨r, g1, g2⟩ := e3.get (i := l.length) (v := v) (by simp)
  have hk : vs.toArray.size - 1 = l.length := by rw [List.size_toArray, hlen]; rfl
  refine call_meets PySem.F.slot_list_pop ⟨_, e2, rfl⟩ PySem.F.entry_list_pop (PySem.F.args_list_pop_1 _) (PySem.MeetsSeq.list_pop_last a _ n r (by rw [hk]; simpa using g1) (by rw [List.size_toArray, hlen, sizeLine_eq]; (first | lia | omega))) ⟨e2, ?_⟩
  have hv : VRs ρ imm l (vs.take l.length) := by have := e3.take l.length; simpa using this
  have q := PySem.IsL.update e2 fun xs => xs.eraseIdxIfInBounds (vs.toArray.size - 1)
  rw [hk, erase_end vs _ hlen, if_neg (by simp [hlen])] at q
  rw [hk]
  exact PV.of (tk' := s.toks) (up hv (Heap.SameBut.update ..) q) (.refl _ _) g2
theorem sndb_remove {i j : Nat} {l : List V} {v : V} (hi : hp[i]? = some (.list l)) (hz : l.length < 2 ^ 20) (hp8 : ∀ u ∈ l, pv 20 u = true) (hv8 : pv 20 v = true) (hj : l[j]? = some v) (hno : ∀ m, m < j → l[m]? ≠ some v) :
    Snd d (.call (.builtin "list.remove") [.ref i, v] hp) (.v .none (hp.set i (.list (l.eraseIdx j)))) := by
  refine ⟨?_⟩
  intro w A env h₀ L out ρ imm s fr rs C R S ks
  obtain ⟨r, q, rfl, k, kv⟩ := ks.two
  obtain ⟨a, rfl, e⟩ := k.refA
  obtain ⟨a, vs, n, e1, e2, e3, up⟩ := S.lst hi
  rw [e] at e1; cases e1
  have hlen := e3.length
  have hjl : j < l.length := (List.getElem?_eq_some_iff.mp hj).1
  obtain ⟨bs, r2⟩ := S.reads hv8 kv
  classical
  refine call_meets PySem.F.slot_list_remove ⟨_, e2, rfl⟩ PySem.F.entry_list_remove (PySem.F.args_list_remove_2 _ _)
    (rem_list a vs.toArray n q (fun m => decide (l[m]? = some v)) j (by rw [List.size_toArray, hlen]; exact hjl) (by simp [hj]) (fun m hm => by simp [hno m hm]) (by rw [List.size_toArray, hlen, sizeLine_eq]; (first | lia | omega))) ⟨e2, fun m hm => ?_, ?_⟩
  · have hml : m < vs.length := by simpa using hm
    obtain ⟨u, g1, g2⟩ := e3.get' (i := m) (r := vs[m]) (by simp [hml])
    have hu := hp8 u (List.mem_of_getElem? g1)
    obtain ⟨as, r1⟩ := S.reads hu g2
    have ev := eqv_of hu hv8 (b := decide (l[m]? = some v)) (by rw [g1]; simp)
    show SeqAt.EqAt A.in1 s vs[m] q _
    rw [← ev]
    have sa := kqd_lay 20 (toD u) (pv_ok 20 u hu)
    have sb := kqd_lay 20 (toD v) (pv_ok 20 v hv8)
    exact PySem.SeqAt.eqAt_reads _ _ _ _ _ _ _ _ r1 r2 sa.1 sb.1 (by have := R.un; have := sa.2; show A.in1.units + min _ _ < cLine; rw [Around.in1_units]; (first | lia | omega))
  · have q := PySem.IsL.update e2 fun xs => xs.eraseIdxIfInBounds j
    have ei : vs.toArray.eraseIdxIfInBounds j = (vs.eraseIdx j).toArray := by
      have hk : j < vs.toArray.size := by rw [List.size_toArray]; (first | lia | omega)
      unfold Array.eraseIdxIfInBounds
      rw [dif_pos hk]
      apply Array.toList_inj.mp
      rw [Array.toList_eraseIdx]
    rw [ei, if_neg (by rw [List.size_toArray, List.length_eraseIdx]; simp [hlen, hjl]; (first | lia | omega))] at q
    exact PV.of (tk' := s.toks) (up (e3.eraseIdx j) (Heap.SameBut.update ..) q) (.refl _ _) .none
theorem sndb_abs {i : Int} : Snd d (.call (.builtin "abs") [.int i] hp) (.v (.int (if i < 0 then -i else i)) hp) := by
  refine ⟨?_⟩
  intro w A env h₀ L out ρ imm s fr rs C R S ks
  obtain ⟨r, rfl, k⟩ := ks.one
  obtain ⟨t, rfl⟩ := k.intA
  exact call_abs_int fun u tk => PV.of S (.refl _ _) (.int _ _)
theorem sndb_int {i : Int} : Snd d (.call (.type "int") [.int i] hp) (.v (.int i) hp) := by
  refine ⟨?_⟩
  intro w A env h₀ L out ρ imm s fr rs C R S ks
  obtain ⟨r, rfl, k⟩ := ks.one
  obtain ⟨t, rfl⟩ := k.intA
  exact call_int_int (PV.of (tk' := s.toks) S (.refl _ _) (.int _ _))
theorem sndb_tuple {i : Nat} {l : List V} (hi : hp[i]? = some (.list l)) (hz : l.length < 2 ^ 20) : Snd d (.call (.type "tuple") [.ref i] hp) (.v (.tup l) hp) := by
  refine ⟨?_⟩
  intro w A env h₀ L out ρ imm s fr rs C R S ks
  obtain ⟨r, rfl, k⟩ := ks.one
  obtain ⟨a, rfl, e⟩ := k.refA
  obtain ⟨a, vs, n, e1, e2, e3, _⟩ := S.lst hi
  rw [e] at e1; cases e1
  refine call_tuple_list (isList_of e2) (fun h' hk => ?_) (by rw [List.size_toArray, e3.length, sizeLine_eq]; (first | lia | omega))
  obtain ⟨S', y⟩ := (S.grow hk).tup (h' := h'.push (tupOf vs 0)) (fun b o e => Heap.get?_push_of_some _ e) (Heap.get?_none_of_le (Nat.le_refl _)) (Heap.get?_push_size _ rfl)
  exact PV.of (tk' := s.toks) S' y (.tup (.head _) (e3.mono y))
theorem sndb_index {i j : Nat} {l : List Int} {v : Int} (hi : hp[i]? = some (.list (l.map .int))) (hz : l.length < 2 ^ 20) (hj : l[j]? = some v) (hno : ∀ m, m < j → l[m]? ≠ some v) :
    Snd d (.call (.builtin "list.index") [.ref i, .int v] hp) (.v (.int j) hp) := by
  refine ⟨?_⟩
  intro w A env h₀ L out ρ imm s fr rs C R S ks
  obtain ⟨r, q, rfl, k, kv⟩ := ks.two
  obtain ⟨a, rfl, e⟩ := k.refA
  obtain ⟨t, rfl⟩ := kv.intA
  obtain ⟨a, vs, n, e1, e2, e3, up⟩ := S.lst hi
  rw [e] at e1; cases e1
  have hlen := e3.length
  rw [List.length_map] at hlen
  have hjl : j < l.length := (List.getElem?_eq_some_iff.mp hj).1
  have allI : ∀ m (hm : m < vs.length), ∃ u t', l[m]? = some u ∧ vs[m] = .int u t' := fun m hm => by
    obtain ⟨u, g1, g2⟩ := e3.get' (i := m) (r := vs[m]) (by simp [hm])
    rw [List.getElem?_map] at g1
    obtain ⟨u', g3, rfl⟩ := Option.map_eq_some_iff.mp g1
    obtain ⟨t', g4⟩ := g2.intA
    exact ⟨u', t', g3, g4⟩
  refine call_meets PySem.F.slot_list_index ⟨_, e2, rfl⟩ PySem.F.entry_list_index (PySem.F.args_list_index_2 _ _)
    (PySem.MeetsSeq.list_index a vs.toArray n (.int v t) (isInt v) (fun y hy => ?_) j (by rw [List.size_toArray, hlen]; exact hjl) (by (first | lia | omega)) ?_ (fun m hm hlt => ?_)) ⟨e2, PV.of S (.refl _ _) (.int _ _)⟩
  · obtain ⟨m, hm, rfl⟩ := List.mem_iff_getElem.mp (show y ∈ vs by simpa using hy)
    obtain ⟨u, t', _, g⟩ := allI m hm
    rw [g]
    exact PySem.MeetsSeq.EqGives.int u v t' t
  · obtain ⟨u, t', g1, g⟩ := allI j (by (first | lia | omega))
    show isInt v vs[j] = true
    rw [g]
    rw [g1] at hj; cases hj
    simp [isInt]
  · obtain ⟨u, t', g1, g⟩ := allI m (by simpa using hm)
    show isInt v vs[m] = false
    rw [g]
    have : u ≠ v := fun z => hno m hlt (z ▸ g1)
    simp [isInt, this]
theorem sndb_getS {i : Nat} {l : List (Str × V)} {k : Str} {v : V} (hi : hp[i]? = some (.dS l)) : Snd d (.call (.builtin "dict.get") [.ref i, .str k, v] hp) (.v ((l.lookup k).getD v) hp) := by
  refine ⟨?_⟩
  intro w A env h₀ L out ρ imm s fr rs C R S ks
  obtain ⟨r, q, z, rfl, k1, k2, k3⟩ := ks.three
  obtain ⟨a, rfl, e⟩ := k1.refA
  obtain ⟨t, rfl⟩ := k2.strA
  obtain ⟨a, kvs, e1, e0, e2, e3, e4, _⟩ := S.dctS hi
  rw [e] at e1; cases e1
  refine call_meetsIn PySem.F.slot_dict_get e2.typeIs PySem.F.entry_dict_get (PySem.F.args_dict_get_3 _ _ _) (meets_dict_get_default (sK w) a (strKind_is _ _ _ _) e0 _) ⟨_, e2.mapOf, ?_⟩
  obtain ⟨a1, a2⟩ := at_of e3 e4 k
  cases q : l.lookup k with
  | none =>
    rw [q] at a1
    have : valueAt kvs k = none := by simpa using a1
    rw [this]
    exact PV.of S (.refl _ _) k3
  | some u =>
    obtain ⟨r, g1, g2⟩ := a2 u q
    rw [g1]
    exact PV.of S (.refl _ _) g2
theorem sndb_getT {i : Nat} {l : List (List Int × V)} {k : List Int} {v : V} (hi : hp[i]? = some (.dT l)) : Snd d (.call (.builtin "dict.get") [.ref i, .tup (k.map .int), v] hp) (.v ((l.lookup k).getD v) hp) := by
  refine ⟨?_⟩
  intro w A env h₀ L out ρ imm s fr rs C R S ks
  obtain ⟨r, q, z, rfl, k1, k2, k3⟩ := ks.three
  obtain ⟨a, rfl, e⟩ := k1.refA
  obtain ⟨a, xs, e1, e0, e2, e5, e3, e4, _⟩ := S.dctT hi
  rw [e] at e1; cases e1
  obtain ⟨_, _, _, hm, ki, rfl⟩ := VR.tupI k2
  refine call_meetsIn PySem.F.slot_dict_get e2.typeIs PySem.F.entry_dict_get (PySem.F.args_dict_get_3 _ _ _) (meetsH_dict_get_default (tK w) _ _ e0 _) ⟨?_, k, xs, isKey S hm (items_of ki), e2, ?_⟩
  · show A.in1.units < cLine
    have := R.un
    rw [Around.in1_units]; (first | lia | omega)
  obtain ⟨a1, a2⟩ := atKey_of e3 e4 k
  cases q : l.lookup k with
  | none =>
    rw [q] at a1
    have : (atKey xs k).map (·.2) = none := by simpa using a1
    rw [this]
    exact PV.of S (.refl _ _) k3
  | some u =>
    obtain ⟨r, g1, g2⟩ := a2 u q
    rw [g1]
    exact PV.of S (.refl _ _) g2
end

end

section
variable [HasK]
/-- attributes with one set -/
noncomputable def setA (x : Str) (v : V) : List (Str × V) → List (Str × V)
  | [] => [(x, v)]
  | (y, u) :: r => if y == x then (y, v) :: r else (y, u) :: setA x v r
omit [HasK] in
theorem Upd.ofSplit {d : Addr} {o o' : Obj} : ∀ {P Q : Led}, (∀ p ∈ P, p.1 ≠ d) → (∀ p ∈ Q, p.1 ≠ d) → Upd d o o' (P ++ (d, o) :: Q) (P ++ (d, o') :: Q)
  | [], _, _, h => .head h
  | p :: P, _, h, k => .tail (h p (.head _)) (Upd.ofSplit (fun q hq => h q (.tail _ hq)) k)
section
variable {ρ : List Addr} {imm : Led}
omit [HasK] in
theorem ents_put {l : List (Str × V)} {ds : List DictEntry} (k : Ents ρ imm l ds) {x : Str} {v : V} {r : Value} (kv : VR ρ imm v r) (h : Int) (t : Tok) : Ents ρ imm (setA x v l) (putL x h (.str x t) r ds) := by
  induction k with
  | nil => exact .cons rfl kv .nil
  | @cons y u l d ds t' h1 h2 h3 ih =>
    unfold setA putL
    rw [h1]
    by_cases q : y = x
    · subst q
      simp only [beq_self_eq_true, if_true, Value.isStr]
      exact .cons (e := ⟨d.hash, .str y t', r⟩) rfl kv h3
    · have q' : (y == x) = false := by simpa using q
      simp only [q', Value.isStr, Bool.false_eq_true, if_false]
      exact .cons h1 h2 ih
omit [HasK] in
theorem putL_len (x : Str) (h : Int) (k v : Value) : ∀ ds : List DictEntry, (putL x h k v ds).length ≤ ds.length + 1
  | [] => Nat.le_refl _
  | e :: r => by
    unfold putL
    split
    · simp
    · have := putL_len x h k v r
      simp only [List.length_cons]; (first | lia | omega)
omit [HasK] in
theorem Ents.len {l : List (Str × V)} {ds : List DictEntry} (k : Ents ρ imm l ds) : ds.length = l.length := by
  induction k with
  | nil => rfl
  | cons _ _ _ ih => simp [ih]
omit [HasK] in
theorem getL_some {l : List (Str × V)} {ds : List DictEntry} (k : Ents ρ imm l ds) (x : Str) : (getL x ds).isSome = true := by
  cases q : l.lookup x with
  | none => rw [getL_none k q]; rfl
  | some v => obtain ⟨r, g, _⟩ := getL_of k q; rw [g]; rfl
end
noncomputable def SetOk (c : Addr) (x : Str) : Prop := ∀ w : World, findIn (HasK.heap w.params) (.ref c) "__setattr__" = some (some (.builtin "object.__setattr__")) ∧ plainOver (HasK.heap w.params) c = true ∧ takerIn (HasK.heap w.params) c x = some none ∧ hasDictIn (HasK.heap w.params) c = true
section
variable {w : World} {A : Around} {env : Env} {h₀ : Heap} {L : Addr} {out : Led} {ρ : List Addr} {imm : Led} {s : Shared} {hp : List O} {fr : Str → Option V}
theorem St.setAttr (C : Cx w A h₀ L) (S : St w env h₀ L s.heap ρ hp out imm fr) {i : Nat} {c a : Addr} {l : List (Str × V)} (hi : hp[i]? = some (.inst c l)) (ha : ρ[i]? = some a) {x : Str} {v : V} {r : Value} (kv : VR ρ imm v r) (ok : SetOk c x) (hz : l.length < 900) :
    wpAny (model pR w) A (setAttr (.ref a) x r) (fun _ s' => ∃ h' tk', s' = { s with heap := h', toks := tk' } ∧ St w env h₀ L h' ρ (hp.set i (.inst c (setA x v l))) out imm fr) Fal s := by
  refine St.elim S fun m mE led cells I => ?_
  obtain ⟨a', es, pre, post, h1, rfl, h3, h4⟩ := I.R.at hi
  rw [ha] at h1; cases h1
  obtain ⟨d, ds, n, rfl, E⟩ := h3
  obtain ⟨o1, o2, o3, o4⟩ := ok w
  have e1 : ∀ od : Obj, (pre ++ [(a, instObj c d), (d, od)] :: post).flatten ++ cells ++ (out ++ imm) = (pre.flatten ++ [(a, instObj c d)]) ++ (d, od) :: (post.flatten ++ cells ++ (out ++ imm)) := fun od => by
    simp [List.flatten_append, List.append_assoc]
  have N := I.N
  rw [e1] at N
  have nd := I.S.nd
  have md : (d, dictOf ds n) ∈ (pre ++ [(a, instObj c d), (d, dictOf ds n)] :: post).flatten ++ cells := by simp
  simp only [List.flatten_append, List.flatten_cons, List.map_append, List.map_cons, List.map_nil, List.nodup_append, List.mem_append, List.mem_map] at nd
  obtain ⟨⟨n1, ⟨n2, n3, n4⟩, n5⟩, n6, n7⟩ := nd
  have hP : ∀ p ∈ pre.flatten ++ [(a, instObj c d)], p.1 ≠ d := by
    intro p hp'
    rcases List.mem_append.mp hp' with hp' | hp'
    · exact n5 _ ⟨p, hp', rfl⟩ _ (.inl (by simp))
    · cases List.mem_singleton.mp hp'
      simp only [List.nodup_cons, List.mem_cons, List.not_mem_nil, or_false] at n2
      exact n2.1
  have hQ : ∀ p ∈ post.flatten ++ cells ++ (out ++ imm), p.1 ≠ d := by
    intro p hp'
    rcases List.mem_append.mp hp' with hp' | hp'
    · rcases List.mem_append.mp hp' with hp' | hp'
      · exact Ne.symm (n4 _ (by simp) _ ⟨p, hp', rfl⟩)
      · exact Ne.symm (n7 _ (.inr (.inl (by simp))) _ ⟨p, hp', rfl⟩)
    · exact Ne.symm (I.S.off _ md p hp')
  have N1 := (N (a, instObj c d) (by simp)).1
  have N2 := (N (d, dictOf ds n) (by simp)).1
  refine PySem.W.set_dict (ox := instObj c d) (dx := d) (es := ds) (n := n) (es' := putL x (PyData.keyHash w.params x) (.str x (s.toks + 1)) r ds) (n' := putN x ds n) I.F C.X N ⟨N1, rfl, rfl, N2⟩ rfl o1 o2 o3 o4 (getL_some E x) rfl (Upd.ofSplit hP hQ)
    (by have := putL_len x (PyData.keyHash w.params x) (.str x (s.toks + 1)) r ds; have := E.len; (first | lia | omega)) (fun h' F' N' => ?_)
  have E' := ents_put E (x := x) kv (PyData.keyHash w.params x) (s.toks + 1)
  refine ⟨h', s.toks + 2, rfl, m, mE, pre ++ [(a, instObj c d), (d, dictOf (putL x (PyData.keyHash w.params x) (.str x (s.toks + 1)) r ds) (putN x ds n))] :: post, cells, F', ?_, h4 (.inst c (setA x v l)) _ ⟨d, _, _, rfl, E'⟩, ⟨?_, ?_, I.S.oi⟩, I.l, I.g, I.bi, I.k, I.c, I.f⟩
  · rw [e1]; exact N'
  · have := I.S.nd
    simp only [List.flatten_append, List.flatten_cons, List.map_append, List.map_cons, List.map_nil] at this ⊢
    exact this
  · intro p hp' q hq
    have : p.1 ∈ ((pre ++ [(a, instObj c d), (d, dictOf ds n)] :: post).flatten ++ cells).map (·.1) := by
      have := List.mem_map_of_mem (f := fun q : Addr × Obj => q.1) hp'
      simp only [List.flatten_append, List.flatten_cons, List.map_append, List.map_cons, List.map_nil] at this ⊢
      exact this
    obtain ⟨p', hp'', e⟩ := List.mem_map.mp this
    exact e ▸ I.S.off p' hp'' q hq
end

section
variable {d : Nat} {sc : Scope} {fr fr' fr₁ fr₂ : Str → Option V} {l l' : List (Str × V)} {hp hp' hp₁ hp₂ hp₃ : List O} {fl : Fl}
theorem snd_setattr {o e : Expr} {x : Str} {po p : Pos} {v : V} {i : Nat} {c : Addr} {l : List (Str × V)} (h1 : Snd d (.e e fr hp) (.v v hp₁)) (h2 : Snd d (.e o fr hp₁) (.v (.ref i) hp₂)) (hi : hp₂[i]? = some (.inst c l)) (ok : SetOk c x) (hz : l.length < 900)
    (hs : ∀ env, swapsWith e (some (.Attribute o x po)) p.line env = pure false) : Snd d (.s sc (.Assign [.Attribute o x po] e p) fr hp) (.f .nx fr (hp₂.set i (.inst c (setA x v l)))) := by
  refine ⟨?_⟩
  intro w A env h₀ L out ρ imm s C R hL hsc S
  first | refine plainObj_wpAny_Assign_Attribute (wmV (h1.go w A env h₀ L out ρ imm s C R S) fun r ρ' imm' h' tk' S' x k => ?_) (hs env) | refine plainObj_wpAny_Assign_Attribute (wmF (h1.go w A env h₀ L out ρ imm s C R S) fun r ρ' imm' h' tk' S' x k => ?_) (hs env) | refine plainObj_wpAny_Assign_Attribute (wmS (h1.go w A env h₀ L out ρ imm s C R S) fun r ρ' imm' h' tk' S' x k => ?_) (hs env)
  first | refine wmV (h2.go w A env h₀ L out ρ' imm' _ C R S') fun r ρ'' imm'' h'' tk'' S'' y k2 => ?_ | refine wmF (h2.go w A env h₀ L out ρ' imm' _ C R S') fun r ρ'' imm'' h'' tk'' S'' y k2 => ?_ | refine wmS (h2.go w A env h₀ L out ρ' imm' _ C R S') fun r ρ'' imm'' h'' tk'' S'' y k2 => ?_
  obtain ⟨a, rfl, ea⟩ := k2.refA
  refine wpAny_mono (S''.setAttr (s := { s with heap := h'', toks := tk'' }) C hi ea (k.mono y) ok hz) (fun _ s' p => ?_) fun _ _ x => x
  obtain ⟨h3, tk3, rfl, S3⟩ := p
  exact ⟨ρ'', imm'', h3, tk3, rfl, S3, x.trans y, .nx⟩

noncomputable def ClsOk (c f : Addr) : Prop := ∀ w : World, makesIn (HasK.heap w.params) c = true ∧ findIn (HasK.heap w.params) (.ref c) "__init__" = some (some (.ref f)) ∧ isFn (HasK.heap w.params) (.ref f) = true
omit [HasK] in
theorem tc_weight (a : Addr) (rest : List Value) (kw : List (Str × Value)) : (Code.builtin "type.__call__" ⟨.ref a :: rest, kw⟩).weight = 1 := by kernel_rfl
omit [HasK] in
theorem tc_units (a : Addr) (rest : List Value) (kw : List (Str × Value)) : (Code.builtin "type.__call__" ⟨.ref a :: rest, kw⟩).cUnits = 1 := by kernel_rfl
omit [HasK] in
theorem tc_envs (a : Addr) (rest : List Value) (kw : List (Str × Value)) : (Code.builtin "type.__call__" ⟨.ref a :: rest, kw⟩).envs = [] := by kernel_rfl

theorem snd_cls {c f : Addr} {args : List V} (ok : ClsOk c f) (h : Snd d (.code (.ref f) (.ref hp.length :: args) (hp ++ [.inst c []])) (.v .none hp')) : Snd (d + 1) (.call (.ref c) args hp) (.v (.ref hp.length) hp') := by
  refine ⟨?_⟩
  intro w A env h₀ L out ρ imm s fr rs C R S ks
  obtain ⟨o1, o2, o3⟩ := ok w
  refine St.elim S fun m mE led cells I => ?_
  refine C.elim fun env0 mean mg mb base outer A₀ B T hA hf hke => ?_
  refine call_cls I.F C.X I.N o1 o2 o3 fun x dx h' F' N' lt1 lt2 => ?_
  have hl : ρ.length = hp.length := I.R.len.1
  have xx : Ext ρ (ρ ++ [x]) imm imm := ⟨fun i y h => by
    rw [List.getElem?_append_left (List.getElem?_eq_some_iff.mp h).1]; exact h, fun p h => h⟩
  have fresh : ∀ p ∈ led.flatten ++ cells ++ (out ++ imm), p.1 ≠ x ∧ p.1 ≠ dx := fun p hp' => ⟨Nat.ne_of_lt (Nat.lt_trans (lt1 p hp') lt2), Nat.ne_of_lt (lt1 p hp')⟩
  have S' : St w env h₀ L h' (ρ ++ [x]) (hp ++ [.inst c []]) out imm fr := by
    refine ⟨m, mE, led ++ [[(x, instObj c dx), (dx, dictOf [] 0)]], cells, F', ?_, (I.R.mono xx).snoc ⟨dx, [], 0, rfl, .nil⟩, ⟨?_, ?_, I.S.oi⟩, I.l, I.g, I.bi, I.k, I.c, fun y v hy => (I.f y v hy).mono xx⟩
    · intro p hp'
      refine N' p ?_
      simp only [List.flatten_append, List.flatten_cons, List.flatten_nil, List.append_nil, List.mem_append, List.mem_cons, List.not_mem_nil, or_false] at hp' ⊢
      rcases hp' with ((hp' | hp' | hp') | hp') | hp' <;> simp [hp']
    · have nd := I.S.nd
      simp only [List.flatten_append, List.flatten_cons, List.flatten_nil, List.append_nil, List.map_append, List.nodup_append, List.mem_append, List.mem_map] at nd ⊢
      refine ⟨⟨nd.1, by simpa using Nat.ne_of_gt lt2, ?_⟩, nd.2.1, ?_⟩
      · rintro _ ⟨p, hp', rfl⟩ _ ⟨q, hq, rfl⟩
        have := fresh p (by simp only [List.mem_append]; exact .inl (.inl hp'))
        simp only [List.mem_cons, List.not_mem_nil, or_false] at hq
        rcases hq with rfl | rfl
        · exact this.1
        · exact this.2
      · rintro _ (⟨p, hp', rfl⟩ | ⟨q, hq, rfl⟩) _ ⟨r, hr, rfl⟩
        · exact nd.2.2 _ ⟨p, hp', rfl⟩ _ ⟨r, hr, rfl⟩
        · have := fresh r (by simp only [List.mem_append]; exact .inl (.inr hr))
          simp only [List.mem_cons, List.not_mem_nil, or_false] at hq
          rcases hq with rfl | rfl
          · exact Ne.symm this.1
          · exact Ne.symm this.2
    · intro p hp' q hq
      have fq := fresh q (by simp only [List.mem_append] at hq ⊢; exact .inr hq)
      simp only [List.flatten_append, List.flatten_cons, List.flatten_nil, List.append_nil, List.mem_append, List.mem_cons, List.not_mem_nil, or_false] at hp'
      rcases hp' with (hp' | rfl | rfl) | hp'
      · exact I.S.off p (by simp only [List.mem_append]; exact .inl hp') q hq
      · exact Ne.symm fq.1
      · exact Ne.symm fq.2
      · exact I.S.off p (by simp only [List.mem_append]; exact .inr hp') q hq
  have C' : Cx w (A.under (.builtin "type.__call__" ⟨.ref c :: rs, []⟩)) h₀ L := by
    obtain ⟨env1, l1, q1, q2⟩ := C.sr
    refine ⟨⟨env0, mean, mg, mb, base, outer, A₀, B, T, ?_, hf, hke⟩, C.X, C.hh, ⟨env1, l1, ?_, q2⟩⟩
    · show pushEnvs (Code.builtin "type.__call__" ⟨.ref c :: rs, []⟩).envs A.frames = some (env0 :: outer)
      rw [tc_envs]; exact hA
    · show pushEnvs (Code.builtin "type.__call__" ⟨.ref c :: rs, []⟩).envs A.frames = some (env1 :: l1)
      rw [tc_envs]; exact q1
  have R' : Room d (A.under (.builtin "type.__call__" ⟨.ref c :: rs, []⟩)) := by
    refine ⟨?_, ?_⟩
    · show A.depth + (Code.builtin "type.__call__" ⟨.ref c :: rs, []⟩).weight + d + 110 < recursionLimit
      rw [tc_weight]; have := R.dp; (first | lia | omega)
    · show A.units + (Code.builtin "type.__call__" ⟨.ref c :: rs, []⟩).cUnits + 8 * d + 80 < cLine
      rw [tc_units]; have := R.un; (first | lia | omega)
  have kx : VR (ρ ++ [x]) imm (.ref hp.length) (.ref x) := .ref (by rw [List.getElem?_append_right (by (first | lia | omega))]; simp [hl])
  refine codeAny_mono (h.go w _ env h₀ L out (ρ ++ [x]) imm _ fr (.ref x :: rs) C' R' S' (.cons kx (ks.mono xx))) fun r s' q => ?_
  cases r with
  | error e => exact q.elim
  | ok f' =>
    cases f' with
    | ret v =>
      obtain ⟨ρ', imm', h2, tk2, rfl, S2, y, k⟩ := q
      (first | obtain ⟨_, rfl⟩ := VR.intI k | obtain rfl := VR.objI k | obtain rfl := VR.boolI k | obtain ⟨_, rfl⟩ := VR.strI k | obtain rfl := VR.noneI k | obtain rfl := VRs.nilI k | obtain rfl := FR.nxI k | cases k)
      exact ⟨rfl, PV.of S2 (xx.trans y) (kx.mono y)⟩
    | _ => exact q.elim
end

end

section
variable [HasK]
section
variable {w : World} {A : Around} {env : Env} {h₀ h h' : Heap} {L I : Addr} {o o' : Obj} {out : Led} {ρ : List Addr} {imm : Led} {s : Shared} {hp : List O} {fr : Str → Option V}
theorem NameOk.outMap {mE : Str → Option Value} {cells out out' : Led} {x : Str} {v : V} (k : NameOk w env mE cells out ρ imm x v) (h : ∀ c ob r, (c, ob) ∈ out → ob.data = .cell (some r) → (c, ob) ∈ out') : NameOk w env mE cells out' ρ imm x v := by
  obtain ⟨a, b⟩ := k
  refine ⟨a, ?_⟩
  have go : ∀ c ob r, (c, ob) ∈ cells ++ out → ob.data = .cell (some r) → (c, ob) ∈ cells ++ out' := fun c ob r hm hd => by
    rcases List.mem_append.mp hm with hm | hm
    · exact List.mem_append.mpr (.inl hm)
    · exact List.mem_append.mpr (.inr (h c ob r hm hd))
  rcases b with b | ⟨b, c1, o1, r1, z1, z2, z3, z4⟩ | ⟨b, b2, c1, o1, r1, z1, z2, z3, z4⟩ | b
  · exact .inl b
  · exact .inr (.inl ⟨b, c1, o1, r1, z1, go _ _ _ z2 z3, z3, z4⟩)
  · exact .inr (.inr (.inl ⟨b, b2, c1, o1, r1, z1, go _ _ _ z2 z3, z3, z4⟩))
  · exact .inr (.inr (.inr b))

/-- one more object kept by the loop itself -/
theorem St.outNew (S : St w env h₀ L h ρ hp out imm fr) (hL : env.locals = L) (up : ∀ b ob, h.get? b = some ob → h'.get? b = some ob) (e : h.get? I = none) (e' : h'.get? I = some o) :
    St w env h₀ L h' ρ hp ((I, o) :: out) imm fr ∧ ∀ p ∈ out, p.1 ≠ I := by
  refine St.elim S fun m mE led cells S => ?_
  obtain ⟨f1, f2, f3⟩ := S.fresh e
  have S := S.grow up
  refine ⟨⟨m, mE, led, cells, S.F, ?_, S.R, ⟨S.S.nd, ?_, ?_⟩, ?_, S.g, S.bi, S.k, S.c, fun x v q => (S.f x v q).outMap fun c ob r hm _ => .tail _ hm⟩, fun p hp' => f3 p (by simp only [List.mem_append]; exact .inr (.inl hp'))⟩
  · intro p hp'
    simp only [List.mem_append, List.mem_cons] at hp'
    rcases hp' with hp' | (rfl | hp') | hp'
    · exact S.N p (by simp only [List.mem_append]; exact .inl hp')
    · exact ⟨e', f1, f2⟩
    · exact S.N p (by simp only [List.mem_append]; exact .inr (.inl hp'))
    · exact S.N p (by simp only [List.mem_append]; exact .inr (.inr hp'))
  · intro p hp' q hq
    simp only [List.mem_append, List.mem_cons] at hq
    rcases hq with (rfl | hq) | hq
    · exact f3 p (by simp only [List.mem_append] at hp' ⊢; exact .inl hp')
    · exact S.S.off p hp' q (by simp [hq])
    · exact S.S.off p hp' q (by simp [hq])
  · intro p hp' q hq
    rcases List.mem_cons.mp hp' with rfl | hp'
    · exact Ne.symm (f3 q (by simp only [List.mem_append]; exact .inr (.inr hq)))
    · exact S.S.oi p hp' q hq
  · rcases S.l with l | ⟨o₁, l1, l2⟩
    · exact .inl l
    · exact .inr ⟨o₁, .tail _ l1, l2⟩

theorem St.outStep (S : St w env h₀ L h ρ hp ((I, o) :: out) imm fr) (hL : env.locals = L) (hI : ∀ p ∈ out, p.1 ≠ I) (nc : ∀ v, o.data ≠ .cell v) (up : ∀ b ob, b ≠ I → h.get? b = some ob → h'.get? b = some ob) (e' : h'.get? I = some o') :
    St w env h₀ L h' ρ hp ((I, o') :: out) imm fr := by
  refine St.elim S fun m mE led cells S => ?_
  have mI : (I, o) ∈ led.flatten ++ cells ++ ((I, o) :: out ++ imm) := by simp
  have NI := S.N _ mI
  have old : ∀ b ob, h₀.get? b = some ob → b ≠ I := fun b ob q z => by rw [z, NI.2.2] at q; cases q
  refine ⟨m, mE, led, cells, ⟨S.F.ns.at' fun ob q => up _ ob (Ne.symm NI.2.1) q, fun b ob q => up b ob (old b ob q) (S.F.keep b ob q), S.F.above⟩, ?_, S.R, ⟨S.S.nd, ?_, ?_⟩, ?_, S.g, S.bi, S.k, S.c, fun x v q => (S.f x v q).outMap fun c ob r hm hd => ?_⟩
  · have go : ∀ p, p ∈ led.flatten ++ cells ++ ((I, o) :: out ++ imm) → p.1 ≠ I → h'.get? p.1 = some p.2 ∧ p.1 ≠ L ∧ h₀.get? p.1 = none := fun p hp' q => ⟨up _ _ q (S.N p hp').1, (S.N p hp').2⟩
    intro p hp'
    simp only [List.mem_append, List.mem_cons] at hp'
    rcases hp' with (hp' | hp') | (rfl | hp') | hp'
    · exact go p (by simp only [List.mem_append]; exact .inl (.inl hp')) (S.S.off p (by simp only [List.mem_append]; exact .inl hp') (I, o) (by simp))
    · exact go p (by simp only [List.mem_append]; exact .inl (.inr hp')) (S.S.off p (by simp only [List.mem_append]; exact .inr hp') (I, o) (by simp))
    · exact ⟨e', NI.2⟩
    · exact go p (by simp [hp']) (hI p hp')
    · exact go p (by simp [hp']) (Ne.symm (S.S.oi (I, o) (.head _) p hp'))
  · intro p hp' q hq
    simp only [List.cons_append, List.mem_cons] at hq
    rcases hq with rfl | hq
    · exact S.S.off p hp' (I, o) (by simp)
    · exact S.S.off p hp' q (by simp only [List.cons_append, List.mem_cons]; exact .inr hq)
  · intro p hp' q hq
    rcases List.mem_cons.mp hp' with rfl | hp'
    · exact S.S.oi (I, o) (.head _) q hq
    · exact S.S.oi p (.tail _ hp') q hq
  · rcases S.l with l | ⟨o₁, l1, l2⟩
    · exact .inl l
    · exact absurd hL (S.N _ (by simp only [List.mem_append]; exact .inr (.inl l1))).2.1
  · rcases List.mem_cons.mp hm with z | hm
    · cases z; exact absurd hd (nc _)
    · exact .tail _ hm
theorem St.outDrop (S : St w env h₀ L h ρ hp ((I, o) :: out) imm fr) (hL : env.locals = L) (hI : ∀ p ∈ out, p.1 ≠ I) (nc : ∀ v, o.data ≠ .cell v) (up : ∀ b ob, b ≠ I → h.get? b = some ob → h'.get? b = some ob) :
    St w env h₀ L h' ρ hp out imm fr := by
  refine St.elim S fun m mE led cells S => ?_
  have mI : (I, o) ∈ led.flatten ++ cells ++ ((I, o) :: out ++ imm) := by simp
  have NI := S.N _ mI
  have old : ∀ b ob, h₀.get? b = some ob → b ≠ I := fun b ob q z => by rw [z, NI.2.2] at q; cases q
  refine ⟨m, mE, led, cells, ⟨S.F.ns.at' fun ob q => up _ ob (Ne.symm NI.2.1) q, fun b ob q => up b ob (old b ob q) (S.F.keep b ob q), S.F.above⟩, ?_, S.R, ⟨S.S.nd, fun p hp' q hq => S.S.off p hp' q (by simp only [List.cons_append, List.mem_cons]; exact .inr hq), fun p hp' q hq => S.S.oi p (.tail _ hp') q hq⟩, ?_, S.g, S.bi, S.k, S.c, fun x v q => (S.f x v q).outMap fun c ob r hm hd => ?_⟩
  · have go : ∀ p, p ∈ led.flatten ++ cells ++ ((I, o) :: out ++ imm) → p.1 ≠ I → h'.get? p.1 = some p.2 ∧ p.1 ≠ L ∧ h₀.get? p.1 = none := fun p hp' q => ⟨up _ _ q (S.N p hp').1, (S.N p hp').2⟩
    intro p hp'
    simp only [List.mem_append] at hp'
    rcases hp' with (hp' | hp') | hp' | hp'
    · exact go p (by simp only [List.mem_append]; exact .inl (.inl hp')) (S.S.off p (by simp only [List.mem_append]; exact .inl hp') (I, o) (by simp))
    · exact go p (by simp only [List.mem_append]; exact .inl (.inr hp')) (S.S.off p (by simp only [List.mem_append]; exact .inr hp') (I, o) (by simp))
    · exact go p (by simp [hp']) (hI p hp')
    · exact go p (by simp [hp']) (Ne.symm (S.S.oi (I, o) (.head _) p hp'))
  · rcases S.l with l | ⟨o₁, l1, l2⟩
    · exact .inl l
    · exact absurd hL (S.N _ (by simp only [List.mem_append]; exact .inr (.inl l1))).2.1
  · rcases List.mem_cons.mp hm with z | hm
    · cases z; exact absurd hd (nc _)
    · exact hm
theorem St.keepsImm (S : St w env h₀ L h ρ hp out imm fr) {p : Addr × Obj} (hp' : p ∈ imm) : h.get? p.1 = some p.2 := by
  refine St.elim S fun m mE led cells I => ?_
  exact (I.N p (by simp only [List.mem_append]; exact .inr (.inr hp'))).1
theorem St.keepsOut (S : St w env h₀ L h ρ hp out imm fr) {p : Addr × Obj} (hp' : p ∈ out) : h.get? p.1 = some p.2 := by
  refine St.elim S fun m mE led cells I => ?_
  exact (I.N p (by simp only [List.mem_append]; exact .inr (.inl hp'))).1
end

/-- the turns of a «for» over what is known ahead -/
inductive Lps (d : Nat) (sc : Scope) (x : Str) (b : List Stmt) : List V → List (Str × V) → List O → Fl → List (Str × V) → List O → Prop
  | done {l : List (Str × V)} {hp : List O} : Lps d sc x b [] l hp .nx l hp
  | turn {v : V} {vs : List V} {l l₂ l₃ : List (Str × V)} {hp hp₂ hp₃ : List O} {fl fl' : Fl} : Snd d (.ss sc b (lk ((x, v) :: l)) hp) (.f fl (lk l₂) hp₂) → (fl = .nx ∨ fl = .ct) → Lps d sc x b vs l₂ hp₂ fl' l₃ hp₃ → Lps d sc x b (v :: vs) l hp fl' l₃ hp₃
  | ret {v u : V} {vs : List V} {l l₂ : List (Str × V)} {hp hp₂ : List O} : Snd d (.ss sc b (lk ((x, v) :: l)) hp) (.f (.rt u) (lk l₂) hp₂) → Lps d sc x b (v :: vs) l hp (.rt u) l₂ hp₂

section
variable {w : World} {A : Around} {env : Env} {h₀ : Heap} {L I : Addr} {o : Obj} {out : Led} {ρ : List Addr} {imm : Led} {s : Shared} {d : Nat} {sc : Scope} {x : Str} {b : List Stmt} {l l' : List (Str × V)} {hp hp' : List O} {fl : Fl}
/-- between two turns -/
noncomputable def LInv (w : World) (env : Env) (h₀ : Heap) (L I : Addr) (out : Led) (ρ : List Addr) (imm : Led) (s : Shared) (d : Nat) (sc : Scope) (x : Str) (b : List Stmt) (Stt : Nat → Heap → Prop) (xs : List V) (fl : Fl) (l' : List (Str × V)) (hp' : List O) (k : Nat) (s' : Shared) : Prop :=
  ∃ i l₁ hp₁ ρ₁ imm₁ h₁ tk₁ o₁, s' = { s with heap := h₁, toks := tk₁ } ∧ St w env h₀ L h₁ ρ₁ hp₁ ((I, o₁) :: out) imm₁ (lk l₁) ∧ Ext ρ ρ₁ imm imm₁ ∧ Stt i h₁ ∧ Lps d sc x b (xs.drop i) l₁ hp₁ fl l' hp' ∧ i ≤ xs.length ∧ k = xs.length - i
theorem LInv.of {Stt : Nat → Heap → Prop} {xs : List V} {i tk₁ : Nat} {l₁ : List (Str × V)} {hp₁ : List O} {ρ₁ : List Addr} {imm₁ : Led} {h₁ : Heap} {o₁ : Obj} (S : St w env h₀ L h₁ ρ₁ hp₁ ((I, o₁) :: out) imm₁ (lk l₁)) (e : Ext ρ ρ₁ imm imm₁) (st : Stt i h₁) (p : Lps d sc x b (xs.drop i) l₁ hp₁ fl l' hp') (q : i ≤ xs.length) :
    LInv w env h₀ L I out ρ imm s d sc x b Stt xs fl l' hp' (xs.length - i) { s with heap := h₁, toks := tk₁ } := ⟨_, _, _, _, _, _, _, _, rfl, S, e, st, p, q, rfl⟩
@[elab_as_elim] theorem LInv.elim {Stt : Nat → Heap → Prop} {xs : List V} {k : Nat} {s' : Shared} {motive : Nat → Shared → Prop} (q : LInv w env h₀ L I out ρ imm s d sc x b Stt xs fl l' hp' k s')
    (f : ∀ i l₁ hp₁ ρ₁ imm₁ h₁ tk₁ o₁, St w env h₀ L h₁ ρ₁ hp₁ ((I, o₁) :: out) imm₁ (lk l₁) → Ext ρ ρ₁ imm imm₁ → Stt i h₁ → Lps d sc x b (xs.drop i) l₁ hp₁ fl l' hp' → i ≤ xs.length → motive (xs.length - i) { s with heap := h₁, toks := tk₁ }) : motive k s' := by
  obtain ⟨_, _, _, _, _, _, _, _, rfl, a, b, c, d, e, rfl⟩ := q; exact f _ _ _ _ _ _ _ _ a b c d e
theorem loopM {px : Pos} {fp : List Addr} {P : Nat → Value → Prop} {Stt : Nat → Heap → Prop} {xs : List V} (W : Walks pR w A I fp [I] xs.length P Stt) (live : ∀ i h, Stt i h → ∃ o, h.get? I = some o ∧ ∀ v, o.data ≠ .cell v) (fpOk : ∀ b ∈ fp, b = I ∨ ∃ o, (b, o) ∈ imm)
    (hP : ∀ i v, P i v → ∃ u, xs[i]? = some u ∧ VR ρ imm u v) (C : Cx w A h₀ L) (R : Room d A) (hL : Own env L) (hsc : env.scope = sc) (kx : sc.names.lookup x = some .local ∨ sc.names.lookup x = some .cell) (hd : (x == ("__debug__" : Str)) = false)
    (S : St w env h₀ L s.heap ρ hp ((I, o) :: out) imm (lk l)) (hI : ∀ p ∈ out, p.1 ≠ I) (st : Stt 0 s.heap) (Lp : Lps d sc x b xs l hp fl l' hp') {E : Value → Shared → Prop} :
    codeAny (model pR w) A (.forLoop (.Name x px) (.ref I) b [] env) (fun r s' => match r with | .ok f => PF w env h₀ L out ρ imm s fl (lk l') hp' f s' | .error e => E e s') s := by
  refine codeAny_forLoop (LInv w env h₀ L I out ρ imm s d sc x b Stt xs fl l' hp') ?_ xs.length (LInv.of (h₁ := s.heap) (tk₁ := s.toks) (i := 0) S (.refl _ _) st Lp (Nat.zero_le _))
  intro k s' q
  refine LInv.elim q fun i l₁ hp₁ ρ₁ imm₁ h₁ tk₁ o₁ S₁ x₁ st₁ Lp₁ hi => ?_
  obtain ⟨oI, g1, nc⟩ := live i h₁ st₁
  have eo : o₁ = oI := Option.some.inj ((S₁.keepsOut (p := (I, o₁)) (.head _)).symm.trans g1)
  subst eo
  by_cases hlt : i < xs.length
  · rw [List.drop_eq_getElem_cons hlt] at Lp₁
    refine W.item i _ _ _ hlt st₁ fun v h₂ tk₂ hp2 st₂ keep => ?_
    obtain ⟨u, u1, u2⟩ := hP i v hp2
    have eu : xs[i] = u := Option.some.inj ((List.getElem?_eq_getElem hlt).symm.trans u1)
    rw [eu] at Lp₁
    obtain ⟨o₂, g2, nc2⟩ := live _ _ st₂
    have S₂ := S₁.outStep hL.loc hI nc (fun b ob q e => keep b ob (fun z => q (List.mem_singleton.mp z)) e) g2
    refine wpAny_assign_Name (wpAny_mono (S₂.setN (A := A) (s := { s with heap := h₂, toks := tk₂ }) hL (u2.mono x₁) (by unfold Env.kindOf; rw [hsc]; exact kx) hd) (fun _ s₃ q => ?_) fun _ _ x => x.elim)
    obtain ⟨h₃, tk₃, rfl, S₃⟩ := q
    have kst : ∀ {j : Nat} {ha hb : Heap} {ρa ρb : List Addr} {pa pb : List O} {ia ib : Led} {fa fb : Str → Option V}, St w env h₀ L ha ρa pa ((I, o₂) :: out) ia fa → St w env h₀ L hb ρb pb ((I, o₂) :: out) ib fb → (∀ p ∈ imm, p ∈ ia) → (∀ p ∈ imm, p ∈ ib) → Stt j ha → Stt j hb := fun Sa Sb ka kb z => W.frame _ _ _ z fun b hb ob e => by
      rcases fpOk b hb with rfl | ⟨ob', hm⟩
      · exact (Sb.keepsOut (p := (b, o₂)) (.head _)).trans ((Sa.keepsOut (p := (b, o₂)) (.head _)).symm.trans e)
      · exact (Sb.keepsImm (kb _ hm)).trans ((Sa.keepsImm (ka _ hm)).symm.trans e)
    have st₃ : Stt (i + 1) h₃ := kst S₂ S₃ x₁.b x₁.b st₂
    have fin : ∀ {fl₁ : Fl} {l₂ : List (Str × V)} {hp₂ : List O} {Q : Flow → Shared → Prop} {E : Value → Shared → Prop}, Snd d (.ss sc b (lk ((x, u) :: l₁)) hp₁) (.f fl₁ (lk l₂) hp₂) →
        (∀ f ρ₂ imm₂ h₄ tk₄, St w env h₀ L h₄ ρ₂ hp₂ ((I, o₂) :: out) imm₂ (lk l₂) → Ext ρ ρ₂ imm imm₂ → Stt (i + 1) h₄ → FR ρ₂ imm₂ fl₁ f → Q f { s with heap := h₄, toks := tk₄ }) → wpAny (model pR w) A (execs b env) Q E { s with heap := h₃, toks := tk₃ } := fun hb k =>
      wmF (hb.go w A env h₀ L _ ρ₁ imm₁ _ C R hL hsc S₃) fun f ρ₂ imm₂ h₄ tk₄ S₄ x₂ z => k f ρ₂ imm₂ h₄ tk₄ S₄ (x₁.trans x₂) (kst S₃ S₄ x₁.b (fun p hp => x₂.b p (x₁.b p hp)) st₃) z
    cases Lp₁ with
    | turn hb hf Lp₂ =>
      refine fin hb fun f ρ₂ imm₂ h₄ tk₄ S₄ x₂ st₄ k => ?_
      have this := fun (s₀ : Shared) (tk : Nat) => LInv.of (s := s₀) (tk₁ := tk) S₄ x₂ st₄ Lp₂ hlt
      have lt : xs.length - (i + 1) < xs.length - i := Nat.sub_succ_lt_self _ _ hlt
      cases k with
      | nx => exact ⟨_, lt, this _ _⟩
      | ct => exact ⟨_, lt, this _ _⟩
      | rt k => rcases hf with hf | hf <;> cases hf
    | ret hb =>
      refine fin hb fun f ρ₂ imm₂ h₄ tk₄ S₄ x₂ st₄ k => ?_
      cases k with
      | rt k => exact ⟨ρ₂, imm₂, h₄, tk₄, rfl, S₄.outDrop hL.loc hI nc2 (fun b ob _ e => e), x₂, .rt k⟩
  · have hin : i = xs.length := Nat.le_antisymm hi (Nat.le_of_not_lt hlt)
    subst hin
    rw [List.drop_length] at Lp₁
    cases Lp₁
    refine W.done _ _ _ st₁ fun h₂ tk₂ keep => wpAny_execs_nil ?_
    exact ⟨ρ₁, imm₁, h₂, tk₂, rfl, S₁.outDrop hL.loc hI nc fun b ob q e => keep b ob (fun z => q (List.mem_singleton.mp z)) e, x₁, .nx⟩
end

end

section
variable [HasK]
section
variable {w : World} {A : Around} {env : Env} {h₀ h h' : Heap} {L I : Addr} {o o' : Obj} {out : Led} {ρ : List Addr} {imm : Led} {s : Shared} {hp : List O} {fr : Str → Option V}
theorem St.re (S : St w env h₀ L h ρ hp out imm fr) : ∃ m news, Fr h₀ L h m ∧ News h₀ L h news ∧ ∀ h', Fr h₀ L h' m → News h₀ L h' news → St w env h₀ L h' ρ hp out imm fr :=
  let ⟨m, mE, led, cells, I⟩ := S; ⟨m, _, I.F, I.N, fun _ F N => ⟨m, mE, led, cells, { I with F := F, N := N }⟩⟩
end

/-- the three forms of «range» -/
inductive Rng : List Int → Int → Int → Int → Prop
  | one (b : Int) : Rng [b] 0 b 1
  | two (a b : Int) : Rng [a, b] a b 1
  | three (a b c : Int) : c ≠ 0 → Builtin.divisionGoesByPylong (b - a) c = false → Rng [a, b, c] a b c
noncomputable def rngL (a c : Int) (n : Nat) : List V := (List.range n).map fun (i : Nat) => .int (a + (i : Int) * c)

section
variable {d : Nat} {sc : Scope} {fr fr' fr₁ fr₂ : Str → Option V} {l l' l₂ : List (Str × V)} {hp hp' hp₁ hp₂ hp₃ : List O} {fl : Fl}

theorem callRange {w : World} {A : Around} {s : Shared} {is : List Int} {a b c : Int} {ρ : List Addr} {imm : Led} {rs : List Value} (k : Rng is a b c) (ks : VRs ρ imm (is.map .int) rs) {Q : Value → Shared → Prop} {E : Value → Shared → Prop}
    (h : ∀ r h' tk' t u v, (∀ b o, s.heap.get? b = some o → h'.get? b = some o) → IsRange h' r a b c t u v → Q (.ref r) { s with heap := h', toks := tk' }) : wpAny (model pR w) A (call (.type "range") rs) Q E s := by
  cases k with
  | one =>
    obtain ⟨r, rfl, k1⟩ := ks.one
    obtain ⟨t, rfl⟩ := k1.intA
    exact call_range_1 (h _ _ _ _ _ _ (fun b o e => Heap.get?_push_of_some _ e) (Heap.get?_push_size _ rfl))
  | two =>
    obtain ⟨r, q, rfl, k1, k2⟩ := ks.two
    obtain ⟨t, rfl⟩ := k1.intA
    obtain ⟨u, rfl⟩ := k2.intA
    exact call_range_2 (h _ _ _ _ _ _ (fun b o e => Heap.get?_push_of_some _ e) (Heap.get?_push_size _ rfl))
  | three _ _ _ hc hd =>
    obtain ⟨r, q, z, rfl, k1, k2, k3⟩ := ks.three
    obtain ⟨t, rfl⟩ := k1.intA
    obtain ⟨u, rfl⟩ := k2.intA
    obtain ⟨v, rfl⟩ := k3.intA
    exact call_range_3 hc (h _ _ _ _ _ _ (fun b o e => Heap.get?_push_of_some _ e) (Heap.get?_push_size _ rfl)) (.inl hd)

theorem snd_forR {x y : Str} {px py pc p : Pos} {e : Expr} {es : List Expr} {body : List Stmt} {vs : List V} (is : List Int) {a b c : Int} {n : Nat} (hx : lk l y = some (.obj (.type "range"))) (h1 : Snd d (.es (e :: es) (lk l) hp) (.vs vs hp₁)) (hv : vs = is.map .int) (k : Rng is a b c)
    (hn : Builtin.Range.rangeSize a b c = n) (hsm : Builtin.Range.small a b c = true) (kx : sc.names.lookup x = some .local ∨ sc.names.lookup x = some .cell) (hd : (x == ("__debug__" : Str)) = false) (Lp : Lps d sc x body (rngL a c n) l hp₁ fl l' hp')
    (hs : ∀ env v, foldedSetIterable (.Call (.Name y py) (e :: es) [] pc) env v = pure v) : Snd d (.s sc (.For (.Name x px) (.Call (.Name y py) (e :: es) [] pc) body [] p) (lk l) hp) (.f fl (lk l') hp') := by
  subst hv
  refine ⟨?_⟩
  intro w A env h₀ L out ρ imm s C R hL hsc S
  first | refine wpAny_For (Call_ (wmV ((snd_name (d := d) hx).go w A env h₀ L out ρ imm s C R S) fun r ρ₁ imm₁ h₁ tk₁ S₁ x₁ k₁ => ?_)) (hs env) | refine wpAny_For (Call_ (wmF ((snd_name (d := d) hx).go w A env h₀ L out ρ imm s C R S) fun r ρ₁ imm₁ h₁ tk₁ S₁ x₁ k₁ => ?_)) (hs env) | refine wpAny_For (Call_ (wmS ((snd_name (d := d) hx).go w A env h₀ L out ρ imm s C R S) fun r ρ₁ imm₁ h₁ tk₁ S₁ x₁ k₁ => ?_)) (hs env)
  (first | obtain ⟨_, rfl⟩ := VR.intI k₁ | obtain rfl := VR.objI k₁ | obtain rfl := VR.boolI k₁ | obtain ⟨_, rfl⟩ := VR.strI k₁ | obtain rfl := VR.noneI k₁ | obtain rfl := VRs.nilI k₁ | obtain rfl := FR.nxI k₁ | cases k₁)
  first | refine PyProof.Rows.callWith_type1 (wmV (h1.go.2 w A env h₀ L out ρ₁ imm₁ _ pc C R S₁) fun rs ρ₂ imm₂ h₂ tk₂ S₂ x₂ k₂ => ?_) (star_cons (h1.go.1 e (.head _)) es env) (star_any pc env fun e' h' => h1.go.1 e' (.tail _ h')) | refine PyProof.Rows.callWith_type1 (wmF (h1.go.2 w A env h₀ L out ρ₁ imm₁ _ pc C R S₁) fun rs ρ₂ imm₂ h₂ tk₂ S₂ x₂ k₂ => ?_) (star_cons (h1.go.1 e (.head _)) es env) (star_any pc env fun e' h' => h1.go.1 e' (.tail _ h')) | refine PyProof.Rows.callWith_type1 (wmS (h1.go.2 w A env h₀ L out ρ₁ imm₁ _ pc C R S₁) fun rs ρ₂ imm₂ h₂ tk₂ S₂ x₂ k₂ => ?_) (star_cons (h1.go.1 e (.head _)) es env) (star_any pc env fun e' h' => h1.go.1 e' (.tail _ h'))
  refine callRange k k₂ fun r h₃ tk₃ t u v up ir => ?_
  have S₃ := S₂.grow up
  refine wpAny_pyIter_range (s := { s with heap := h₃, toks := tk₃ }) ir hsm ?_
  rw [hn]
  obtain ⟨S₄, hI⟩ := S₃.outNew (h' := h₃.push { cls := .type "range_iterator", data := .fields #[rawInt a, rawInt n, rawInt c] }) hL.loc (fun b o e => Heap.get?_push_of_some _ e) (I := h₃.objs.size) (Heap.get?_none_of_le (Nat.le_refl _)) (Heap.get?_push_size _ rfl)
  have W : Walks pR w A h₃.objs.size [h₃.objs.size] [h₃.objs.size] (rngL a c n).length (fun i v => ∃ t, v = .int (a + i * c) t ∧ i < n) (fun i h => IsRangeIter h h₃.objs.size (a + (i : Nat) * c) ((n : Int) - (i : Nat)) c) := by
    have W := Walks.range (prog := pR) (w := w) (A := A) C.hh h₃.objs.size a c n
    have e : (rngL a c n).length = n := by simp [rngL]
    rw [e]
    exact ⟨W.sub, W.frame, fun i s Q E hi st hQ => W.item i s Q E hi st fun v h' tk p => hQ v h' tk (by obtain ⟨t, q⟩ := p; exact ⟨t, q, hi⟩), W.done, W.self⟩
  refine codeAny_mono (loopM W (fun i h q => ⟨_, q, fun v z => by cases z⟩) (fun b hb => .inl (by simpa using hb)) (fun i v q => ?_) C R hL hsc kx hd S₄ hI ?_ Lp (E := fun e s' => cameBackBy (model pR w) A env Fal e s')) fun r s' q => ?_
  · obtain ⟨t, rfl, hi⟩ := q
    exact ⟨.int (a + i * c), by simp [rngL, hi], .int _ _⟩
  · show IsRangeIter _ _ (a + ((0 : Nat) : Int) * c) ((n : Int) - ((0 : Nat) : Int)) c
    have e1 : a + ((0 : Nat) : Int) * c = a := by simp
    have e2 : (n : Int) - ((0 : Nat) : Int) = n := by simp
    rw [e1, e2]
    exact Heap.get?_push_size _ rfl
  · cases r with
    | ok f =>
      obtain ⟨ρ', imm', h', tk', rfl, S', x', kf⟩ := q
      exact ⟨ρ', imm', h', tk', rfl, S', (x₁.trans x₂).trans x', kf⟩
    | error e => exact q

theorem snd_forT {x : Str} {px p : Pos} {e : Expr} {body : List Stmt} {xs : List V} (h1 : Snd d (.e e (lk l) hp) (.v (.tup xs) hp₁)) (kx : sc.names.lookup x = some .local ∨ sc.names.lookup x = some .cell) (hd : (x == ("__debug__" : Str)) = false) (Lp : Lps d sc x body xs l hp₁ fl l' hp')
    (hs : ∀ env v, foldedSetIterable e env v = pure v) : Snd d (.s sc (.For (.Name x px) e body [] p) (lk l) hp) (.f fl (lk l') hp') := by
  refine ⟨?_⟩
  intro w A env h₀ L out ρ imm s C R hL hsc S
  first | refine wpAny_For (wmV (h1.go w A env h₀ L out ρ imm s C R S) fun r ρ₁ imm₁ h₁ tk₁ S₁ x₁ k₁ => ?_) (hs env) | refine wpAny_For (wmF (h1.go w A env h₀ L out ρ imm s C R S) fun r ρ₁ imm₁ h₁ tk₁ S₁ x₁ k₁ => ?_) (hs env) | refine wpAny_For (wmS (h1.go w A env h₀ L out ρ imm s C R S) fun r ρ₁ imm₁ h₁ tk₁ S₁ x₁ k₁ => ?_) (hs env)
  obtain ⟨a, vs, n, hm, ks, rfl⟩ := VR.tupI k₁
  have ha := S₁.tupAt hm
  have ht : h₁.IsTuple a vs.toArray := ⟨_, ha, rfl, n, rfl⟩
  refine wpAny_pyIter_tuple (s := { s with heap := h₁, toks := tk₁ }) ht ?_
  have fr : h₁.get? h₁.objs.size = none := Heap.get?_none_of_le (Nat.le_refl _)
  have hne : a ≠ h₁.objs.size := fun z => by rw [← z, ha] at fr; cases fr
  obtain ⟨S₄, hI⟩ := S₁.outNew (h' := h₁.push { cls := .type "tuple_iterator", data := .fields #[.ref a, .int 0 0] }) hL.loc (fun b o e => Heap.get?_push_of_some _ e) (I := h₁.objs.size) fr (Heap.get?_push_size _ rfl)
  have W : Walks pR w A h₁.objs.size [h₁.objs.size, a] [h₁.objs.size] xs.length (fun i v => vs.toArray[i]? = some v) (fun i h => h.IsTupleIter h₁.objs.size a i ∧ h.IsTuple a vs.toArray) := by
    have W := Walks.tuple (prog := pR) (w := w) (A := A) C.hh h₁.objs.size a hne vs.toArray
    have e : vs.toArray.size = xs.length := by rw [List.size_toArray, ks.length]
    rwa [e] at W
  refine codeAny_mono (loopM W (fun i h q => ?_) (fun b hb => ?_) (fun i v q => ?_) C R hL hsc kx hd S₄ hI ?_ Lp (E := fun e s' => cameBackBy (model pR w) A env Fal e s')) fun r s' q => ?_
  · obtain ⟨ob, g1, g2, g3⟩ := q.1
    exact ⟨ob, g1, fun v z => by rw [g3] at z; cases z⟩
  · simp only [List.mem_cons, List.not_mem_nil, or_false] at hb
    rcases hb with hb | rfl
    · exact .inl hb
    · exact .inr ⟨_, hm⟩
  · obtain ⟨u, g1, g2⟩ := ks.get' (i := i) (r := v) (by simpa using q)
    exact ⟨u, g1, g2⟩
  · exact ⟨⟨_, Heap.get?_push_size _ rfl, rfl, rfl⟩, ⟨_, Heap.get?_push_of_some _ ha, rfl, n, rfl⟩⟩
  · cases r with
    | ok f =>
      obtain ⟨ρ', imm', h', tk', rfl, S', x', kf⟩ := q
      exact ⟨ρ', imm', h', tk', rfl, S', x₁.trans x', kf⟩
    | error e => exact q

end
section
variable {w : World} {A : Around} {env : Env} {h₀ : Heap} {L : Addr} {out : Led} {ρ : List Addr} {imm : Led} {s : Shared} {hp : List O} {fr : Str → Option V}
/-- one changing object set -/
noncomputable def SetTo (w : World) (env : Env) (h₀ : Heap) (L : Addr) (out : Led) (fr : Str → Option V) (ρ : List Addr) (imm : Led) (s : Shared) (hp' : List O) (s' : Shared) : Prop :=
  ∃ h' tk', s' = { s with heap := h', toks := tk' } ∧ St w env h₀ L h' ρ hp' out imm fr
theorem St.setL (S : St w env h₀ L s.heap ρ hp out imm fr) {a : Nat} {b : Addr} {l : List V} (ha : hp[a]? = some (.list l)) (ea : ρ[a]? = some b) {k : Int} {t : Tok} {v : V} {r : Value} (kv : VR ρ imm v r) (h0 : 0 ≤ k) (hf : k < 2 ^ 63) (hk : k < l.length) :
    wpAny (model pR w) A (setItem (.ref b) (.int k t) r) (fun _ => SetTo w env h₀ L out fr ρ imm s (hp.set a (.list (l.set k.toNat v)))) Fal s := by
  obtain ⟨b', vs, n, e1, e2, e3, up⟩ := S.lst ha
  rw [ea] at e1; cases e1
  refine ki_setAt (n := n) e2 h0 hf (by rw [List.size_toArray, e3.length]; exact hk) ?_
  have q := PySem.IsL.update e2 fun xs => xs.setIfInBounds k.toNat r
  have ei : vs.toArray.setIfInBounds k.toNat r = (vs.set k.toNat r).toArray := by simp
  rw [ei, if_pos (by simp)] at q
  exact ⟨_, s.toks, rfl, up (e3.set k.toNat kv) (Heap.SameBut.update ..) q⟩
theorem St.setDI (S : St w env h₀ L s.heap ρ hp out imm fr) {a : Nat} {b : Addr} {l : List (Int × V)} (ha : hp[a]? = some (.dI l)) (ea : ρ[a]? = some b) {k : Int} {t : Tok} {v : V} {r : Value} (kv : VR ρ imm v r) (hz : l.length < 2 ^ 20) :
    wpAny (model pR w) A (setItem (.ref b) (.int k t) r) (fun _ => SetTo w env h₀ L out fr ρ imm s (hp.set a (.dI (setD l k v)))) Fal s := by
  obtain ⟨b', kvs, e1, e0, e2, e3, e4, up⟩ := S.dctI ha
  rw [ea] at e1; cases e1
  obtain ⟨g1, g2⟩ := stored_of e3 e4 k kv
  have hl : kvs.length = l.length := by have := congrArg List.length e3; simpa using this
  exact wpAny_setItem_pairs (knd := iK w) (intKind_is _ _ _ _) e2 (fun h' hd hs => ⟨h', _, rfl, up g1 g2 hs hd⟩) (by rw [hl, sizeLine_eq]; (first | lia | omega))
theorem St.setDS (S : St w env h₀ L s.heap ρ hp out imm fr) {a : Nat} {b : Addr} {l : List (Str × V)} (ha : hp[a]? = some (.dS l)) (ea : ρ[a]? = some b) {k : Str} {t : Tok} {v : V} {r : Value} (kv : VR ρ imm v r) (hz : l.length < 2 ^ 20) :
    wpAny (model pR w) A (setItem (.ref b) (.str k t) r) (fun _ => SetTo w env h₀ L out fr ρ imm s (hp.set a (.dS (setD l k v)))) Fal s := by
  obtain ⟨b', kvs, e1, e0, e2, e3, e4, up⟩ := S.dctS ha
  rw [ea] at e1; cases e1
  obtain ⟨g1, g2⟩ := stored_of e3 e4 k kv
  have hl : kvs.length = l.length := by have := congrArg List.length e3; simpa using this
  exact wpAny_setItem_pairs (knd := sK w) (strKind_is _ _ _ _) e2 (fun h' hd hs => ⟨h', _, rfl, up g1 g2 hs hd⟩) (by rw [hl, sizeLine_eq]; (first | lia | omega))
theorem St.setDT (S : St w env h₀ L s.heap ρ hp out imm fr) {d : Nat} (R : Room d A) {a : Nat} {b : Addr} {l : List (List Int × V)} (ha : hp[a]? = some (.dT l)) (ea : ρ[a]? = some b) {k : List Int} {q : Value} {v : V} {r : Value} (kk : VR ρ imm (.tup (k.map .int)) q) (kv : VR ρ imm v r) (hz : l.length < 2 ^ 20) (hn : l.lookup k = none) :
    wpAny (model pR w) A (setItem (.ref b) q r) (fun _ => SetTo w env h₀ L out fr ρ imm s (hp.set a (.dT (l ++ [(k, v)])))) Fal s := by
  obtain ⟨b', xs, e1, e0, e2, e5, e3, e4, up⟩ := S.dctT ha
  rw [ea] at e1; cases e1
  obtain ⟨c, vs, n, hm, ki, rfl⟩ := VR.tupI kk
  have hnone : atKey xs k = none := by
    have := (atKey_of e3 e4 k).1
    rw [hn] at this
    simpa using this
  have hl : xs.length = l.length := by have := congrArg List.length e3; simpa using this
  refine wpAny_setItem_heap (knd := tK w) (k := k) (by show A.in1.units < cLine; have := R.un; rw [Around.in1_units]; (first | lia | omega)) (isKey S hm (items_of ki)) e2 (fun h' hd hs => ?_) (by rw [hl, sizeLine_eq]; (first | lia | omega))
  rw [storedH_new hnone] at hd
  refine ⟨h', _, rfl, up (fun x hx => ?_) (by simp [e3]) (by simpa using e4.append (.cons kv .nil)) hs hd⟩
  rcases List.mem_append.mp hx with hx | hx
  · exact e5 x hx
  · cases List.mem_singleton.mp hx
    exact ⟨vs, n, hm, items_of ki⟩
end

/-- what setting an item changes -/
inductive SetI (hp : List O) : V → V → V → List O → Prop
  | lst {a : Nat} {k : Int} {l : List V} {v : V} : hp[a]? = some (.list l) → 0 ≤ k → k < l.length → l.length < 2 ^ 20 → SetI hp (.ref a) (.int k) v (hp.set a (.list (l.set k.toNat v)))
  | dI {a : Nat} {k : Int} {l : List (Int × V)} {v : V} : hp[a]? = some (.dI l) → l.length < 2 ^ 20 → SetI hp (.ref a) (.int k) v (hp.set a (.dI (setD l k v)))
  | dS {a : Nat} {k : Str} {l : List (Str × V)} {v : V} : hp[a]? = some (.dS l) → l.length < 2 ^ 20 → SetI hp (.ref a) (.str k) v (hp.set a (.dS (setD l k v)))
  | dT {a : Nat} {k : List Int} {l : List (List Int × V)} {v : V} : hp[a]? = some (.dT l) → l.length < 2 ^ 20 → l.lookup k = none → SetI hp (.ref a) (.tup (k.map .int)) v (hp.set a (.dT (l ++ [(k, v)])))
section
variable {w : World} {A : Around} {env : Env} {h₀ : Heap} {L : Addr} {out : Led} {ρ : List Addr} {imm : Led} {s : Shared} {hp hp' : List O} {fr : Str → Option V}
theorem St.setI (S : St w env h₀ L s.heap ρ hp out imm fr) {d : Nat} (R : Room d A) {o k v : V} {ro rk r : Value} (x : SetI hp o k v hp') (ko : VR ρ imm o ro) (kk : VR ρ imm k rk) (kv : VR ρ imm v r) :
    wpAny (model pR w) A (setItem ro rk r) (fun _ => SetTo w env h₀ L out fr ρ imm s hp') Fal s := by
  cases x with
  | lst ha h0 h1 h2 =>
    obtain ⟨b, rfl, eb⟩ := ko.refA
    obtain ⟨t, rfl⟩ := kk.intA
    exact S.setL ha eb kv h0 (by (first | lia | omega)) h1
  | dI ha h2 =>
    obtain ⟨b, rfl, eb⟩ := ko.refA
    obtain ⟨t, rfl⟩ := kk.intA
    exact S.setDI ha eb kv h2
  | dS ha h2 =>
    obtain ⟨b, rfl, eb⟩ := ko.refA
    obtain ⟨t, rfl⟩ := kk.strA
    exact S.setDS ha eb kv h2
  | dT ha h2 hn =>
    obtain ⟨b, rfl, eb⟩ := ko.refA
    exact S.setDT R ha eb kk kv h2 hn
end
section
variable {d : Nat} {sc : Scope} {fr fr' fr₁ fr₂ : Str → Option V} {l l' l₂ : List (Str × V)} {hp hp' hp₁ hp₂ hp₃ hp₄ : List O} {fl : Fl}
theorem snd_setitem {o i e : Expr} {po p : Pos} {v a k : V} (h1 : Snd d (.e e fr hp) (.v v hp₁)) (h2 : Snd d (.e o fr hp₁) (.v a hp₂)) (h3 : Snd d (.e i fr hp₂) (.v k hp₃)) (x : SetI hp₃ a k v hp₄)
    (hs : ∀ env, swapsWith e (some (.Subscript o i po)) p.line env = pure false) : Snd d (.s sc (.Assign [.Subscript o i po] e p) fr hp) (.f .nx fr hp₄) := by
  refine ⟨?_⟩
  intro w A env h₀ L out ρ imm s C R hL hsc S
  first | refine wpAny_Assign_Subscript (wmV (h1.go w A env h₀ L out ρ imm s C R S) fun r ρ₁ imm₁ h₁ tk₁ S₁ x₁ k₁ => ?_) (hs env) | refine wpAny_Assign_Subscript (wmF (h1.go w A env h₀ L out ρ imm s C R S) fun r ρ₁ imm₁ h₁ tk₁ S₁ x₁ k₁ => ?_) (hs env) | refine wpAny_Assign_Subscript (wmS (h1.go w A env h₀ L out ρ imm s C R S) fun r ρ₁ imm₁ h₁ tk₁ S₁ x₁ k₁ => ?_) (hs env)
  first | refine wmV (h2.go w A env h₀ L out ρ₁ imm₁ _ C R S₁) fun r ρ₂ imm₂ h₂ tk₂ S₂ x₂ k₂ => ?_ | refine wmF (h2.go w A env h₀ L out ρ₁ imm₁ _ C R S₁) fun r ρ₂ imm₂ h₂ tk₂ S₂ x₂ k₂ => ?_ | refine wmS (h2.go w A env h₀ L out ρ₁ imm₁ _ C R S₁) fun r ρ₂ imm₂ h₂ tk₂ S₂ x₂ k₂ => ?_
  first | refine wmV (h3.go w A env h₀ L out ρ₂ imm₂ _ C R S₂) fun r ρ₃ imm₃ h₃ tk₃ S₃ x₃ k₃ => ?_ | refine wmF (h3.go w A env h₀ L out ρ₂ imm₂ _ C R S₂) fun r ρ₃ imm₃ h₃ tk₃ S₃ x₃ k₃ => ?_ | refine wmS (h3.go w A env h₀ L out ρ₂ imm₂ _ C R S₂) fun r ρ₃ imm₃ h₃ tk₃ S₃ x₃ k₃ => ?_
  refine wpAny_mono (S₃.setI (s := { s with heap := h₃, toks := tk₃ }) R x (k₂.mono x₃) k₃ (k₁.mono (x₂.trans x₃))) (fun _ s₁ q => ?_) fun _ _ x => x
  obtain ⟨h₄, tk₄, rfl, S₄⟩ := q
  exact ⟨ρ₃, imm₃, h₄, tk₄, rfl, S₄, (x₁.trans x₂).trans x₃, .nx⟩

/-- sums and the like in place -/
inductive ArI : Operator → Int → Int → Int → Prop
  | add (a b : Int) : ArI .Add a b (a + b)
  | div (a b : Int) : b ≠ 0 → ArI .FloorDiv a b (a.fdiv b)
omit [HasK] in
theorem inplaceI {w : World} {A : Around} {s : Shared} {op : Operator} {a b c : Int} {t u : Tok} (k : ArI op a b c) (pr : PylongRoom (model pR w) A s) {Q : Value → Shared → Prop} {E : Value → Shared → Prop} (h : ∀ t' tk', Q (.int c t') { s with toks := tk' }) : wpAny (model pR w) A (inplaceOp op (.int a t) (.int b u)) Q E s := by
  cases k with
  | add => exact iadd_int (h _ _)
  | div _ _ hb => exact ifloordiv_int hb (h _ _) (.inr pr)
theorem snd_augsub {o i e : Expr} {tp p : Pos} {op : Operator} {a : Nat} {k x y z : Int} {l l' : List V} (h1 : Snd d (.e o fr hp) (.v (.ref a) hp₁)) (h2 : Snd d (.e i fr hp₁) (.v (.int k) hp₂)) (ha : hp₂[a]? = some (.list l)) (h0 : 0 ≤ k) (hk : k < l.length) (hz : l.length < 2 ^ 20) (hx : l[k.toNat]? = some (.int x))
    (h3 : Snd d (.e e fr hp₂) (.v (.int y) hp₃)) (ar : ArI op x y z) (ha3 : hp₃[a]? = some (.list l')) (hk3 : k < l'.length) (hz3 : l'.length < 2 ^ 20)
    (hi : ∀ ov iv new, augStore i ov iv new = (do holding [new, ov, iv] (setItem ov iv new); release [new, ov, iv] []; pure .next)) : Snd d (.s sc (.AugAssign (.Subscript o i tp) op e p) fr hp) (.f .nx fr (hp₃.set a (.list (l'.set k.toNat (.int z))))) := by
  refine ⟨?_⟩
  intro w A env h₀ L out ρ imm s C R hL hsc S
  first | refine wpAny_AugAssign_SubscriptAny (wmV (h1.go w A env h₀ L out ρ imm s C R S) fun r ρ₁ imm₁ h₁ tk₁ S₁ x₁ k₁ => ?_) hi | refine wpAny_AugAssign_SubscriptAny (wmF (h1.go w A env h₀ L out ρ imm s C R S) fun r ρ₁ imm₁ h₁ tk₁ S₁ x₁ k₁ => ?_) hi | refine wpAny_AugAssign_SubscriptAny (wmS (h1.go w A env h₀ L out ρ imm s C R S) fun r ρ₁ imm₁ h₁ tk₁ S₁ x₁ k₁ => ?_) hi
  first | refine wmV (h2.go w A env h₀ L out ρ₁ imm₁ _ C R S₁) fun r ρ₂ imm₂ h₂ tk₂ S₂ x₂ k₂ => ?_ | refine wmF (h2.go w A env h₀ L out ρ₁ imm₁ _ C R S₁) fun r ρ₂ imm₂ h₂ tk₂ S₂ x₂ k₂ => ?_ | refine wmS (h2.go w A env h₀ L out ρ₁ imm₁ _ C R S₁) fun r ρ₂ imm₂ h₂ tk₂ S₂ x₂ k₂ => ?_
  obtain ⟨b, rfl, eb⟩ := k₁.refA
  obtain ⟨t, rfl⟩ := k₂.intA
  obtain ⟨b', vs, n, e1, e2, e3, _⟩ := S₂.lst ha
  have eb2 := x₂.a _ _ eb
  rw [e1] at eb2; cases eb2
  obtain ⟨r, g1, g2⟩ := e3.get hx
  obtain ⟨t', rfl⟩ := g2.intA
  refine wpAny_getItem_list (s := { s with heap := h₂, toks := tk₂ }) (isList_of e2) h0 (by (first | lia | omega)) (by simpa using g1) ?_
  first | refine wmV (h3.go w A env h₀ L out ρ₂ imm₂ _ C R S₂) fun r ρ₃ imm₃ h₃ tk₃ S₃ x₃ k₃ => ?_ | refine wmF (h3.go w A env h₀ L out ρ₂ imm₂ _ C R S₂) fun r ρ₃ imm₃ h₃ tk₃ S₃ x₃ k₃ => ?_ | refine wmS (h3.go w A env h₀ L out ρ₂ imm₂ _ C R S₂) fun r ρ₃ imm₃ h₃ tk₃ S₃ x₃ k₃ => ?_
  obtain ⟨t3, rfl⟩ := k₃.intA
  refine inplaceI ar (C.room (s := { s with heap := h₃, toks := tk₃ }) R S₃.choose_spec.choose_spec.choose_spec.choose_spec.F.keep rfl) fun t4 tk4 => ?_
  refine wpAny_mono (S₃.setL (s := { s with heap := h₃, toks := tk4 }) ha3 (x₃.a _ _ e1) (v := .int z) (.int z t4) h0 (by (first | lia | omega)) hk3) (fun _ s₁ q => ?_) fun _ _ x => x
  obtain ⟨h₄, tk₄, rfl, S₄⟩ := q
  exact ⟨ρ₃, imm₃, h₄, tk₄, rfl, S₄, (x₁.trans x₂).trans x₃, .nx⟩
theorem snd_augname {x : Str} {px p : Pos} {e : Expr} {op : Operator} {a b c : Int} (hx : lk l x = some (.int a)) (h1 : Snd d (.e e (lk l) hp) (.v (.int b) hp₁)) (ar : ArI op a b c) (kx : sc.names.lookup x = some .local) (hd : (x == ("__debug__" : Str)) = false) :
    Snd d (.s sc (.AugAssign (.Name x px) op e p) (lk l) hp) (.f .nx (lk ((x, .int c) :: l)) hp₁) := by
  refine ⟨?_⟩
  intro w A env h₀ L out ρ imm s C R hL hsc S
  refine wpAny_AugAssign_Name ?_
  have kl : env.kindOf x = some .local := by unfold Env.kindOf; rw [hsc]; exact kx
  have S' := S
  refine St.elim S fun m mE led cells I => ?_
  obtain ⟨_, nk⟩ := I.f x _ hx
  have hmE : mE = m := by
    rcases I.l with ⟨_, e⟩ | ⟨o, e1, _⟩
    · exact e
    · exact absurd hL.loc (I.N _ (by simp only [List.mem_append]; exact .inr (.inl e1))).2.1
  subst hmE
  rcases nk with ⟨_, r, g1, g2⟩ | ⟨q, _⟩ | ⟨q, _⟩ | ⟨q, _⟩
  · obtain ⟨t, rfl⟩ := g2.intA
    refine wpAny_loadName_local (m := mE) I.k kl (by rw [hL.loc]; exact I.F.ns) g1 ?_
    first | refine wmV (h1.go w A env h₀ L out ρ imm s C R S') fun r ρ₁ imm₁ h₁ tk₁ S₁ x₁ k₁ => ?_ | refine wmF (h1.go w A env h₀ L out ρ imm s C R S') fun r ρ₁ imm₁ h₁ tk₁ S₁ x₁ k₁ => ?_ | refine wmS (h1.go w A env h₀ L out ρ imm s C R S') fun r ρ₁ imm₁ h₁ tk₁ S₁ x₁ k₁ => ?_
    obtain ⟨t1, rfl⟩ := k₁.intA
    refine inplaceI ar (C.room (s := { s with heap := h₁, toks := tk₁ }) R S₁.choose_spec.choose_spec.choose_spec.choose_spec.F.keep rfl) fun t4 tk4 => ?_
    refine wpAny_mono (S₁.setN (A := A) (s := { s with heap := h₁, toks := tk4 }) hL (v := .int c) (.int c t4) (.inl kl) hd) (fun _ s₂ q => ?_) fun _ _ x => x
    obtain ⟨h'', tk'', rfl, S''⟩ := q
    exact ⟨ρ₁, imm₁, h'', tk'', rfl, S'', x₁, .nx⟩
  all_goals (rw [kl] at q; cases q)

theorem snd_unpack2 {x y : Str} {px py tp p : Pos} {k : Nat} {e : Expr} {v u : V} (h1 : Snd d (.e e (lk l) hp) (.v (.tup [v, u]) hp₁)) (kx : sc.names.lookup x = some .local ∨ sc.names.lookup x = some .cell) (hdx : (x == ("__debug__" : Str)) = false)
    (ky : sc.names.lookup y = some .local ∨ sc.names.lookup y = some .cell) (hdy : (y == ("__debug__" : Str)) = false)
    (hs : ∀ env, swapsWithSole [.Tuple [.Name x px, .Name y py] k tp] e p.line env = pure false) (hw : ∀ env, swappedStores [.Tuple [.Name x px, .Name y py] k tp] e env = pure none) :
    Snd d (.s sc (.Assign [.Tuple [.Name x px, .Name y py] k tp] e p) (lk l) hp) (.f .nx (lk ((y, u) :: (x, v) :: l)) hp₁) := by
  refine ⟨?_⟩
  intro w A env h₀ L out ρ imm s C R hL hsc S
  first | refine Assign_Tuple (wmV (h1.go w A env h₀ L out ρ imm s C R S) fun r ρ₁ imm₁ h₁ tk₁ S₁ x₁ k₁ => ?_) (hs env) (hw env) | refine Assign_Tuple (wmF (h1.go w A env h₀ L out ρ imm s C R S) fun r ρ₁ imm₁ h₁ tk₁ S₁ x₁ k₁ => ?_) (hs env) (hw env) | refine Assign_Tuple (wmS (h1.go w A env h₀ L out ρ imm s C R S) fun r ρ₁ imm₁ h₁ tk₁ S₁ x₁ k₁ => ?_) (hs env) (hw env)
  obtain ⟨a, vs, n, hm, ks, rfl⟩ := VR.tupI k₁
  obtain ⟨r1, r2, rfl, kv, ku⟩ := ks.two
  obtain ⟨m, news, F, N, re⟩ := S₁.re
  refine unpackN_ (s := { s with heap := h₁, toks := tk₁ }) (items := [r1, r2].toArray) F N ⟨_, S₁.tupAt hm, rfl, n, rfl⟩ C.hh rfl rfl fun h₂ F₂ N₂ => ?_
  have S₂ := re h₂ F₂ N₂
  refine assignInOrder_cons (wpAny_assign_Name (wpAny_mono (S₂.setN (A := A) (s := { s with heap := h₂, toks := tk₁ }) hL kv (by unfold Env.kindOf; rw [hsc]; exact kx) hdx) (fun _ s₂ q => ?_) fun _ _ x => x))
  obtain ⟨h₃, tk₃, rfl, S₃⟩ := q
  refine assignInOrder_cons (wpAny_assign_Name (wpAny_mono (S₃.setN (A := A) (s := { s with heap := h₃, toks := tk₃ }) hL ku (by unfold Env.kindOf; rw [hsc]; exact ky) hdy) (fun _ s₂ q => ?_) fun _ _ x => x))
  obtain ⟨h₄, tk₄, rfl, S₄⟩ := q
  exact assignInOrder_nil ⟨ρ₁, imm₁, h₄, tk₄, rfl, S₄, x₁, .nx⟩
end
/-- what a subscript gives -/
inductive SubI (hp : List O) : V → V → V → Prop
  | lst {i : Nat} {k : Int} {l : List V} {v : V} : hp[i]? = some (.list l) → 0 ≤ k → k < 2 ^ 63 → l[k.toNat]? = some v → SubI hp (.ref i) (.int k) v
  | tup {k : Int} {l : List V} {v : V} : 0 ≤ k → k < 2 ^ 63 → l[k.toNat]? = some v → SubI hp (.tup l) (.int k) v
  | dI {i : Nat} {k : Int} {l : List (Int × V)} {v : V} : hp[i]? = some (.dI l) → l.lookup k = some v → SubI hp (.ref i) (.int k) v
theorem snd_sub {d : Nat} {fr : Str → Option V} {hp hp₁ hp₂ : List O} {o sl : Expr} {p : Pos} {a k v : V} (h1 : Snd d (.e o fr hp) (.v a hp₁)) (h2 : Snd d (.e sl fr hp₁) (.v k hp₂)) (x : SubI hp₂ a k v) (hs : isSl sl = false) :
    Snd d (.e (.Subscript o sl p) fr hp) (.v v hp₂) := by
  cases x with
  | lst a b c e => exact snd_subL h1 h2 a b c e hs
  | tup a b c => exact snd_subT h1 h2 a b c hs
  | dI a b => exact snd_subD h1 h2 a b hs

end

section
variable [HasK]
omit [HasK] in
theorem lookup_relabel {env : Env} (hk : env.scope.kind = .function) : ∀ {names : List (Str × NameKind)} {y : Str}, names.lookup y = some .free → env.kindOf y = some .cell →
    (names.map fun (n, k) => if (k == NameKind.free && env.scope.kind == .function && env.kindOf n == some .cell) then (n, NameKind.cell) else (n, k)).lookup y = some .cell
  | [], _, h, _ => by simp at h
  | (n, k) :: r, y, h, hc => by
    have ih := @lookup_relabel env hk r y
    show List.lookup y ((if (k == NameKind.free && env.scope.kind == .function && env.kindOf n == some .cell) = true then (n, NameKind.cell) else (n, k)) :: _) = _
    cases hy : y == n with
    | true =>
      have e : y = n := by simpa using hy
      subst e
      simp only [List.lookup_cons, hy] at h
      cases h
      rw [hk, hc]
      simp
    | false =>
      simp only [List.lookup_cons, hy] at h
      split
      · simp only [List.lookup_cons, hy]; exact ih h hc
      · simp only [List.lookup_cons, hy]; exact ih h hc
omit [HasK] in
theorem lookup_relabel_glob {env : Env} : ∀ {names : List (Str × NameKind)} {y : Str}, names.lookup y = some .globalImplicit →
    (names.map fun (n, k) => if (k == NameKind.free && env.scope.kind == .function && env.kindOf n == some .cell) then (n, NameKind.cell) else (n, k)).lookup y = some .globalImplicit
  | [], _, h => by simp at h
  | (n, k) :: r, y, h => by
    have ih := @lookup_relabel_glob env r y
    show List.lookup y ((if (k == NameKind.free && env.scope.kind == .function && env.kindOf n == some .cell) = true then (n, NameKind.cell) else (n, k)) :: _) = _
    cases hy : y == n with
    | true =>
      simp only [List.lookup_cons, hy] at h
      cases h
      simp [List.lookup_cons, hy]
    | false =>
      simp only [List.lookup_cons, hy] at h
      split
      · simp only [List.lookup_cons, hy]; exact ih h
      · simp only [List.lookup_cons, hy]; exact ih h

/-- the turns of a list comprehension; its list grows at place i -/
inductive Cps (d : Nat) (i : Nat) (x : Str) (ct : Option Expr) (elt : Expr) (gl : List (Str × V)) : List V → List O → List O → Prop
  | done {hp : List O} : Cps d i x ct elt gl [] hp hp
  | no {c : Expr} {v : V} {vs : List V} {hp hp₁ hp₃ : List O} : ct = some c → Snd d (.t c (lk ((x, v) :: gl)) hp) (.b false hp₁) → Cps d i x ct elt gl vs hp₁ hp₃ → Cps d i x ct elt gl (v :: vs) hp hp₃
  | yes {v u : V} {vs ys : List V} {hp hp₁ hp₂ hp₃ : List O} : (∀ c, ct = some c → Snd d (.t c (lk ((x, v) :: gl)) hp) (.b true hp₁)) → (ct = none → hp₁ = hp) → Snd d (.e elt (lk ((x, v) :: gl)) hp₁) (.v u hp₂) → hp₂[i]? = some (.list ys) → ys.length < 2 ^ 20 →
      Cps d i x ct elt gl vs (hp₂.set i (.list (ys ++ [u]))) hp₃ → Cps d i x ct elt gl (v :: vs) hp hp₃

section
variable {w : World} {A : Around} {env : Env} {h₀ : Heap} {L It : Addr} {oI : Obj} {out : Led} {ρ : List Addr} {imm : Led} {s : Shared} {d : Nat} {x : Str} {hp hp' : List O} {fr : Str → Option V}
theorem St.drop1 (s : Shared) {hp : List O} {gl : List (Str × V)} {u : V} (hxg : gl.lookup x = none) {ha : Heap} (Sa : St w env h₀ L ha ρ hp out imm (lk ((x, u) :: gl))) : St w env h₀ L ha ρ hp out imm (lk gl) :=
  St.weak (s := { s with heap := ha }) Sa fun y v hy => by
    show List.lookup y ((x, u) :: gl) = some v
    rw [List.lookup_cons]
    cases q : y == x with
    | false => exact hy
    | true =>
      have : y = x := by simpa using q
      subst this
      rw [show lk gl y = gl.lookup y from rfl, hxg] at hy; cases hy
/-- between two turns -/
noncomputable def CInv (w : World) (env : Env) (h₀ : Heap) (L It : Addr) (out : Led) (ρ : List Addr) (imm : Led) (s : Shared) (d : Nat) (j : Nat) (x : Str) (ct : Option Expr) (elt : Expr) (gl : List (Str × V)) (Stt : Nat → Heap → Prop) (xs : List V) (hp' : List O) (k : Nat) (s' : Shared) : Prop :=
  ∃ i hp₁ ρ₁ imm₁ h₁ tk₁ o₁, s' = { s with heap := h₁, toks := tk₁ } ∧ St w env h₀ L h₁ ρ₁ hp₁ ((It, o₁) :: out) imm₁ (lk gl) ∧ Ext ρ ρ₁ imm imm₁ ∧ Stt i h₁ ∧ Cps d j x ct elt gl (xs.drop i) hp₁ hp' ∧ i ≤ xs.length ∧ k = xs.length - i
theorem CInv.of {j : Nat} {ct : Option Expr} {elt : Expr} {gl : List (Str × V)} {Stt : Nat → Heap → Prop} {xs : List V} {i tk₁ : Nat} {hp₁ : List O} {ρ₁ : List Addr} {imm₁ : Led} {h₁ : Heap} {o₁ : Obj} (S : St w env h₀ L h₁ ρ₁ hp₁ ((It, o₁) :: out) imm₁ (lk gl)) (e : Ext ρ ρ₁ imm imm₁) (st : Stt i h₁) (p : Cps d j x ct elt gl (xs.drop i) hp₁ hp') (q : i ≤ xs.length) :
    CInv w env h₀ L It out ρ imm s d j x ct elt gl Stt xs hp' (xs.length - i) { s with heap := h₁, toks := tk₁ } := ⟨_, _, _, _, _, _, _, rfl, S, e, st, p, q, rfl⟩
@[elab_as_elim] theorem CInv.elim {j : Nat} {ct : Option Expr} {elt : Expr} {gl : List (Str × V)} {Stt : Nat → Heap → Prop} {xs : List V} {k : Nat} {s' : Shared} {motive : Nat → Shared → Prop} (q : CInv w env h₀ L It out ρ imm s d j x ct elt gl Stt xs hp' k s')
    (f : ∀ i hp₁ ρ₁ imm₁ h₁ tk₁ o₁, St w env h₀ L h₁ ρ₁ hp₁ ((It, o₁) :: out) imm₁ (lk gl) → Ext ρ ρ₁ imm imm₁ → Stt i h₁ → Cps d j x ct elt gl (xs.drop i) hp₁ hp' → i ≤ xs.length → motive (xs.length - i) { s with heap := h₁, toks := tk₁ }) : motive k s' := by
  obtain ⟨_, _, _, _, _, _, _, rfl, a, b, c, d, e, rfl⟩ := q; exact f _ _ _ _ _ _ _ a b c d e
theorem compLoop {elt iter : Expr} {px : Pos} {ct : Option Expr} {scope : Scope} {pos : Pos} {xs : List V} {fp : List Addr} {P : Nat → Value → Prop} {Stt : Nat → Heap → Prop} {gl : List (Str × V)} {j : Nat} {D : Addr}
    (W : Walks pR w A It fp [It] xs.length P Stt) (live : ∀ i h, Stt i h → ∃ o, h.get? It = some o ∧ ∀ v, o.data ≠ .cell v) (fpOk : ∀ b ∈ fp, b = It ∨ ∃ o, (b, o) ∈ imm) (hP : ∀ i v, P i v → ∃ u, xs[i]? = some u ∧ VR ρ imm u v)
    (C : Cx w A h₀ L) (R : Room d A) (hL : env.locals = L) (hx : env.kindOf x = some .local) (hxd : (x == ("__debug__" : Str)) = false) (hxg : gl.lookup x = none)
    (S : St w env h₀ L s.heap ρ hp ((It, oI) :: out) imm (lk gl)) (hI : ∀ p ∈ out, p.1 ≠ It) (st : Stt 0 s.heap) (hD : ρ[j]? = some D)
    (Cp : Cps d j x ct elt gl xs hp hp') {RR : Result → Shared → Prop}
    (fin : ∀ ρ₁ imm₁ h₁ tk₁, St w env h₀ L h₁ ρ₁ hp' out imm₁ (lk gl) → Ext ρ ρ₁ imm imm₁ → RR (.ok .next) { s with heap := h₁, toks := tk₁ }) :
    codeAny (model pR w) A (.compLoop (.ListComp elt [⟨.Name x px, iter, ct.toList, 0⟩] scope pos) 0 (.ref It) (.ref D) env) RR s := by
  refine codeAny_compLoop_tests (CInv w env h₀ L It out ρ imm s d j x ct elt gl Stt xs hp') ?_ xs.length (CInv.of (h₁ := s.heap) (tk₁ := s.toks) (i := 0) S (.refl _ _) st Cp (Nat.zero_le _))
  intro k s' q
  refine CInv.elim q fun i hp₁ ρ₁ imm₁ h₂ tk₁ o₁ S₃ x₃ st₃ Cp₃ hi => ?_
  obtain ⟨oI₂, g1, nc⟩ := live i h₂ st₃
  have eo : o₁ = oI₂ := Option.some.inj ((S₃.keepsOut (p := (It, o₁)) (.head _)).symm.trans g1)
  subst eo
  by_cases hlt : i < xs.length
  · rw [List.drop_eq_getElem_cons hlt] at Cp₃
    refine W.item i _ _ _ hlt st₃ fun v h₃ tk₃ hp2 st₄ keep => ?_
    obtain ⟨u, u1, u2⟩ := hP i v hp2
    have eu : xs[i] = u := Option.some.inj ((List.getElem?_eq_getElem hlt).symm.trans u1)
    rw [eu] at Cp₃
    obtain ⟨o₂, g2, nc2⟩ := live _ _ st₄
    have S₄ := S₃.outStep hL hI nc (fun b ob q e => keep b ob (fun z => q (List.mem_singleton.mp z)) e) g2
    refine wpAny_assign_Name (wpAny_mono (S₄.setN0 (A := A) (s := { s with heap := h₃, toks := tk₃ }) hL (u2.mono x₃) (.inl hx) hxd) (fun _ s₃ q => ?_) fun _ _ x => x.elim)
    obtain ⟨h₄, tk₄, rfl, S₅⟩ := q
    have kst : ∀ {ja : Nat} {ha hb : Heap} {ρa ρb : List Addr} {pa pb : List O} {ia ib : Led} {fa fb : Str → Option V}, St w env h₀ L ha ρa pa ((It, o₂) :: out) ia fa → St w env h₀ L hb ρb pb ((It, o₂) :: out) ib fb → (∀ p ∈ imm, p ∈ ia) → (∀ p ∈ imm, p ∈ ib) → Stt ja ha → Stt ja hb := fun Sa Sb ka kb z => W.frame _ _ _ z fun b hb ob e => by
      rcases fpOk b hb with rfl | ⟨ob', hm⟩
      · exact (Sb.keepsOut (p := (b, o₂)) (.head _)).trans ((Sa.keepsOut (p := (b, o₂)) (.head _)).symm.trans e)
      · exact (Sb.keepsImm (kb _ hm)).trans ((Sa.keepsImm (ka _ hm)).symm.trans e)
    have st₅ : Stt (i + 1) h₄ := kst S₄ S₅ x₃.b x₃.b st₄
    have nxt : ∀ {ha : Heap} {ρa : List Addr} {hpa : List O} {ia : Led} {tka : Nat}, St w env h₀ L ha ρa hpa ((It, o₂) :: out) ia (lk ((x, u) :: gl)) → Ext ρ ρa imm ia → Cps d j x ct elt gl (xs.drop (i + 1)) hpa hp' →
        ∃ m, m < xs.length - i ∧ CInv w env h₀ L It out ρ imm s d j x ct elt gl Stt xs hp' m { s with heap := ha, toks := tka } :=
      fun {ha ρa hpa ia tka} Sa xa ca => ⟨_, Nat.sub_succ_lt_self _ _ hlt, .of (Sa.drop1 s hxg) xa (kst S₅ Sa x₃.b xa.b st₅) ca hlt⟩
    cases Cp₃ with
    | @no c _ _ _ hp₂ _ hc ht Cp₄ =>
      subst hc
      refine wpAny_tests_one (wmB (ht.go w A _ h₀ _ _ ρ₁ imm₁ _ C R S₅) fun ρ₂ imm₂ h₅ tk₅ S₆ x₆ => ?_)
      exact nxt S₆ (x₃.trans x₆) Cp₄
    | @yes _ u' _ ys _ hp₂ hp₃ _ hc hn he hy hz Cp₄ =>
      have fin : ∀ {ρ₂ : List Addr} {imm₂ : Led} {h₅ : Heap} {tk₅ : Nat} {E' : Value → Shared → Prop}, St w env h₀ L h₅ ρ₂ hp₂ ((It, o₂) :: out) imm₂ (lk ((x, u) :: gl)) → Ext ρ ρ₂ imm imm₂ →
          wpAny (model pR w) A (eval elt env) (fun xv s₄ => wpAny (model pR w) A (call (.builtin "list.append") [.ref D, xv]) (fun _ s₅ => ∃ m, m < xs.length - i ∧ CInv w env h₀ L It out ρ imm s d j x ct elt gl Stt xs hp' m s₅) E' s₄) E' { s with heap := h₅, toks := tk₅ } := by
        intro ρ₂ imm₂ h₅ tk₅ E' S₆ x₆
        refine wmV (he.go w A _ h₀ _ _ ρ₂ imm₂ _ C R S₆) fun r ρ₃ imm₃ h₆ tk₆ S₇ x₇ kr => ?_
        have x₈ := x₆.trans x₇
        refine wmV ((sndb_append (d := d) hy hz).go w A _ h₀ _ _ ρ₃ imm₃ _ _ [.ref D, r] C R S₇ (.cons (.ref (x₈.a _ _ hD)) (.cons kr .nil))) fun r ρ₄ imm₄ h₇ tk₇ S₈ x₉ _ => ?_
        exact nxt S₈ (x₈.trans x₉) Cp₄
      cases ct with
      | none =>
        cases hn rfl
        refine wpAny_pure ?_
        exact fin S₅ x₃
      | some c =>
        refine wpAny_tests_one (wmB ((hc c rfl).go w A _ h₀ _ _ ρ₁ imm₁ _ C R S₅) fun ρ₂ imm₂ h₅ tk₅ S₆ x₆ => ?_)
        exact fin S₆ (x₃.trans x₆)
  · have hin : i = xs.length := Nat.le_antisymm hi (Nat.le_of_not_lt hlt)
    subst hin
    rw [List.drop_length] at Cp₃
    cases Cp₃
    refine W.done _ _ _ st₃ fun h₃ tk₃ keep => ?_
    exact fin _ _ _ _ (S₃.outDrop hL hI nc (h' := h₃) fun b ob q e => keep b ob (fun z => q (List.mem_singleton.mp z)) e) x₃
theorem compM {elt iter : Expr} {px : Pos} {ct : Option Expr} {ifs : List Expr} {scope : Scope} {pos : Pos} {cl : List (Str × Addr)} {xs : List V} {fp : List Addr} {P : Nat → Value → Prop} {Stt : Nat → Heap → Prop} {gl : List (Str × V)} {E : Value → Shared → Prop}
    (W : Walks pR w A It fp [It] xs.length P Stt) (live : ∀ i h, Stt i h → ∃ o, h.get? It = some o ∧ ∀ v, o.data ≠ .cell v) (fpOk : ∀ b ∈ fp, b = It ∨ ∃ o, (b, o) ∈ imm) (hP : ∀ i v, P i v → ∃ u, xs[i]? = some u ∧ VR ρ imm u v)
    (C : Cx w A h₀ L) (R : Room d A) (hL : env.locals = L) (hif : ifs = ct.toList)
    (hkind : scope.kind = .function) (hcell : ∀ y ∈ scope.names, y.2 ≠ .cell) (hx : scope.names.lookup x = some .local) (hxd : (x == ("__debug__" : Str)) = false) (hxg : gl.lookup x = none)
    (hcl : ∀ y c, scope.names.lookup y = some .free → env.cells.lookup y = some c → cl.lookup y = some c)
    (hgl : ∀ p ∈ gl, (fr p.1 = some p.2 ∧ scope.names.lookup p.1 = some .free ∧ env.kindOf p.1 = some .cell) ∨ (scope.names.lookup p.1 = some .globalImplicit ∧ GOk p.1 p.2))
    (S : St w env h₀ L s.heap ρ hp ((It, oI) :: out) imm fr) (hI : ∀ p ∈ out, p.1 ≠ It) (st : Stt 0 s.heap)
    (Cp : Cps d hp.length x ct elt gl xs (hp ++ [.list []]) hp')
    {RR : Value → Addr → Result → Shared → Prop}
    (hRR : ∀ acc Cc ρ' imm' h' tk' oC m', VR ρ' imm' (.ref hp.length) acc → St w env h₀ L h' ρ' hp' ((Cc, oC) :: out) imm' fr → PyProof.Rows.LCg.NsObj oC m' → Ext ρ ρ' imm imm' → (∀ p ∈ out, p.1 ≠ Cc) → RR acc Cc (.ok .next) { s with heap := h', toks := tk' }) :
    wpAny (model pR w) A (newList []) (fun acc s₃ => wpAny (model pR w) A (newFunctionEnv scope env.globals cl [] env.qual none .none (some env)) (fun cenv s₄ =>
      codeAny (model pR w) A (.compStart (.ListComp elt [⟨.Name x px, iter, ifs, 0⟩] scope pos) 0 (.ref It) acc { cenv with scope := relabel scope env }) (RR acc cenv.locals) s₄) E s₃) E s := by
  subst hif
  have hl : ρ.length = hp.length := by refine St.elim S fun m mE led cells I => ?_; exact I.R.len.1
  obtain ⟨oI', gI, ncI⟩ := live _ _ st
  have eI : oI = oI' := by
    have := S.keepsOut (p := (It, oI)) (.head _)
    rw [gI] at this; exact (Option.some.inj this).symm
  subst eI
  refine wpAny_newObj_type (wpAny_newFunctionEnv hcell (by intro y hy; simp at hy) (fun h₁ hns₁ hsb₁ => ?_) hkind)
  obtain ⟨S₁, x₁⟩ := S.new (h' := s.heap.push (lstOf [] 0)) (fun b o e => Heap.get?_push_of_some _ e) (o := .list []) (a := s.heap.objs.size) (es := [(s.heap.objs.size, lstOf [] 0)]) ⟨[], 0, rfl, .nil⟩
    (fun p hp => by cases List.mem_singleton.mp hp; exact ⟨Heap.get?_none_of_le (Nat.le_refl _), Heap.get?_push_size _ rfl⟩) (by simp)
  have st₁ : Stt 0 (s.heap.push (lstOf [] 0)) := W.frame _ _ _ st fun b _ o e => Heap.get?_push_of_some _ e
  dsimp only at hns₁ hsb₁ ⊢
  have hsb₂ : Heap.SameBut (s.heap.push (lstOf [] 0)).objs.size ((s.heap.push (lstOf [] 0)).push { cls := .type (if (some env).isSome then "dict" else "frame"), data := .dict #[] }) h₁ := hsb₁
  have hns₂ : h₁.Ns (s.heap.push (lstOf [] 0)).objs.size (fun x => ([] : List (Str × Value)).reverse.lookup x) := hns₁
  clear hsb₁ hns₁
  show codeAny (model pR w) A (.compStart (.ListComp elt [⟨.Name x px, iter, ct.toList, 0⟩] scope pos) 0 (.ref It) (.ref s.heap.objs.size) (compEnvC scope cl (s.heap.push (lstOf [] 0)).objs.size env)) (RR (.ref s.heap.objs.size) (s.heap.push (lstOf [] 0)).objs.size) { s with heap := h₁, toks := s.toks + 0 }
  generalize s.heap.push (lstOf [] 0) = H2 at S₁ st₁ hsb₂ hns₂ ⊢
  refine St.elim S₁ fun m mE led cells I => ?_
  refine C.elim fun env0 mean mg mb base outer A₀ B T hA hf hke => ?_
  obtain ⟨FG, BG, stay, lv, B₁, fa⟩ := groundY (s := { s with heap := H2 }) B I.F I.N hA hf hke
  have hgs : (hideAll H2 ((led.flatten ++ cells ++ (((It, oI) :: out) ++ imm)).map (·.1))).objs.size = H2.objs.size := hideAll_size _ _
  have hgn : ∀ p ∈ led.flatten ++ cells ++ (((It, oI) :: out) ++ imm), (hideAll H2 ((led.flatten ++ cells ++ (((It, oI) :: out) ++ imm)).map (·.1))).get? p.1 = none := fun p hp => hideAll_none _ (List.mem_map_of_mem hp)
  have hgo : ∀ b o, (hideAll H2 ((led.flatten ++ cells ++ (((It, oI) :: out) ++ imm)).map (·.1))).get? b = some o → H2.get? b = some o := fun b o e => of_hideAll _ e
  dsimp only at FG BG stay lv B₁ fa
  generalize hideAll H2 ((led.flatten ++ cells ++ (((It, oI) :: out) ++ imm)).map (·.1)) = g at FG BG stay lv B₁ fa hgs hgn hgo
  have Cx' : Cx w A g H2.objs.size := ⟨⟨env0, mean, mg, mb, base, outer, A₀, B₁, T.keeps stay, hA, fa, hke⟩, C.X.keeps stay, C.hh, C.sr⟩
  have old : ∀ b o, H2.get? b = some o → h₁.get? b = some o := fun b o e => hsb₂.extBut b o (Nat.ne_of_lt (Heap.lt_size e)) (Heap.get?_push_of_some _ e)
  have S₂ : St w (compEnvC scope cl H2.objs.size env) g H2.objs.size h₁ (ρ ++ [s.heap.objs.size]) (hp ++ [.list []]) ((It, oI) :: (cells ++ out)) imm (lk gl) := by
    refine ⟨_, _, led, [], ⟨hns₂, fun b o e => old b o (hgo b o e), Nat.le_of_eq hgs⟩, ?_, I.R, ⟨?_, ?_, ?_⟩, .inl ⟨rfl, rfl⟩, I.g, I.bi, by simp [compEnvC, relabel, hkind], .inl rfl, ?_⟩
    · intro p hp'
      have hm : p ∈ led.flatten ++ cells ++ (((It, oI) :: out) ++ imm) := by
        simp only [List.mem_append, List.mem_cons, List.append_nil] at hp' ⊢
        rcases hp' with hp' | (hp' | hp' | hp') | hp' <;> simp [hp']
      exact ⟨old _ _ (I.N p hm).1, Nat.ne_of_lt (Heap.lt_size (I.N p hm).1), hgn p hm⟩
    · have := I.S.nd
      simp only [List.map_append, List.nodup_append] at this
      simpa using this.1
    · intro p hp' q hq
      simp only [List.append_nil] at hp'
      simp only [List.mem_append, List.mem_cons] at hq
      rcases hq with (hq | hq | hq) | hq
      · exact I.S.off p (by simp [hp']) q (by simp [hq])
      · have := I.S.nd
        simp only [List.map_append, List.nodup_append, List.mem_map] at this
        exact this.2.2 _ ⟨p, hp', rfl⟩ _ ⟨q, hq, rfl⟩
      · exact I.S.off p (by simp [hp']) q (by simp [hq])
      · exact I.S.off p (by simp [hp']) q (by simp [hq])
    · intro p hp' q hq
      rcases List.mem_cons.mp hp' with hp' | hp'
      · exact I.S.oi p (by simp [hp']) q hq
      rcases List.mem_append.mp hp' with hp' | hp'
      · exact I.S.off p (by simp [hp']) q (by simp [hq])
      · exact I.S.oi p (by simp [hp']) q hq
    · intro y v hy
      rcases hgl _ (mem_of_lk hy) with ⟨a1, a2, a3⟩ | ⟨a1, a2, a3⟩
      · obtain ⟨b1, b2⟩ := I.f y v a1
        refine ⟨b1, .inr (.inl ⟨lookup_relabel I.k a2 a3, ?_⟩)⟩
        rcases b2 with ⟨b, _⟩ | ⟨b, c, o, r, h1, h2, h3, h4⟩ | ⟨b, _⟩ | ⟨b, _⟩
        · rw [a3] at b; cases b
        · refine ⟨c, o, r, hcl _ _ a2 h1, ?_, h3, h4⟩
          simp only [List.nil_append, List.mem_append, List.mem_cons] at h2 ⊢
          rcases h2 with h2 | h2 | h2 <;> simp [h2]
        · rw [a3] at b; cases b
        · rw [a3] at b; cases b
      · refine ⟨a2, .inr (.inr (.inr ⟨lookup_relabel_glob a1, ?_⟩))⟩
        rcases a3 w with ⟨r, b1, b2⟩ | ⟨b1, b2, r, b3, b4⟩
        · exact .inl ⟨r, b1, b2.mono .nil⟩
        · exact .inr ⟨b1, b2, r, b3, b4.mono .nil⟩
  have hI' : ∀ p ∈ cells ++ out, p.1 ≠ It := fun p hp' => by
    rcases List.mem_append.mp hp' with hp' | hp'
    · exact I.S.off p (by simp [hp']) (It, oI) (by simp)
    · exact hI p hp'
  have st₂ : Stt 0 h₁ := W.frame _ _ _ st₁ fun b _ o e => old b o e
  have hLlt : L < H2.objs.size := by rw [← hgs]; exact FG.ns.lt
  have hCnone : ∀ o, h₀.get? H2.objs.size = some o → False := fun o e => by
    have := Heap.lt_size (stay _ _ e)
    rw [hgs] at this; exact Nat.lt_irrefl _ this
  have loop : ∀ tk₀ : Nat, codeAny (model pR w) A (.compLoop (.ListComp elt [⟨.Name x px, iter, ct.toList, 0⟩] scope pos) 0 (.ref It) (.ref s.heap.objs.size) (compEnvC scope cl H2.objs.size env)) (RR (.ref s.heap.objs.size) H2.objs.size) { s with heap := h₁, toks := tk₀ } := by
    intro tk₀
    have hD : (ρ ++ [s.heap.objs.size])[hp.length]? = some s.heap.objs.size := by rw [← hl]; exact List.getElem?_concat_length
    refine compLoop (s := { s with heap := h₁, toks := tk₀ }) W live fpOk (fun i v q => let ⟨u, a, b⟩ := hP i v q; ⟨u, a, b.mono x₁⟩) Cx' R rfl (by exact lookup_relabel_local hx) hxd hxg S₂ hI' st₂ hD Cp fun ρ₁ imm₁ h₃ tk₃ S₄ x₃ => ?_
    refine St.elim S₄ fun m2 mE2 led2 cells2 I2 => ?_
    obtain ⟨oC, eC, nC⟩ := PyProof.Rows.LCg.ns_obj I2.F.ns
    obtain ⟨F₃, N₃⟩ := lv h₃ _ m2 _ I2.F I2.N
    have nb : ∀ p ∈ led2.flatten ++ cells2 ++ ((cells ++ out) ++ imm₁), p.1 ≠ H2.objs.size := fun p hp => (I2.N p hp).2.1
    refine hRR _ _ ρ₁ imm₁ h₃ tk₃ oC m2 (.ref (x₃.a _ _ hD)) ?_ nC (x₁.trans x₃) (fun p hp => nb p (by simp [hp]))
    refine ⟨m, mE, led2, cells, F₃, ?_, I2.R, ⟨?_, ?_, ?_⟩, ?_, I.g, I.bi, I.k, I.c, fun y u hy => ((I.f y u hy).outMap fun c ob r hm hd => ?_).mono x₃⟩
    · intro p hp'
      simp only [List.mem_append, List.mem_cons] at hp'
      rcases hp' with (hp' | hp') | (rfl | hp') | hp'
      · exact N₃ p (by simp [hp'])
      · exact N₃ p (by simp [hp'])
      · refine ⟨eC, Nat.ne_of_gt hLlt, ?_⟩
        cases q : h₀.get? H2.objs.size with
        | none => rfl
        | some o => exact (hCnone o q).elim
      · exact N₃ p (by simp [hp'])
      · exact N₃ p (by simp [hp'])
    · have n1 := I2.S.nd
      have n2 := I.S.nd
      simp only [List.map_append, List.nodup_append, List.mem_map] at n1 n2 ⊢
      refine ⟨n1.1, n2.2.1, ?_⟩
      rintro _ ⟨p, hp', rfl⟩ _ ⟨q, hq, rfl⟩
      exact I2.S.off p (by simp [hp']) q (by simp [hq])
    · intro p hp' q hq
      simp only [List.mem_append, List.mem_cons] at hp' hq
      rcases hq with (rfl | hq) | hq
      · rcases hp' with hp' | hp'
        · exact nb p (by simp [hp'])
        · exact nb p (by simp [hp'])
      · rcases hp' with hp' | hp'
        · exact I2.S.off p (by simp [hp']) q (by simp [hq])
        · exact I.S.off p (by simp [hp']) q (by simp [hq])
      · rcases hp' with hp' | hp'
        · exact I2.S.off p (by simp [hp']) q (by simp [hq])
        · exact I2.S.oi p (by simp [hp']) q hq
    · intro p hp' q hq
      rcases List.mem_cons.mp hp' with rfl | hp'
      · exact Ne.symm (nb q (by simp [hq]))
      · exact I2.S.oi p (by simp [hp']) q hq
    · rcases I.l with l | ⟨o₁, l1, l2⟩
      · exact .inl l
      · exact absurd hL (I.N _ (by simp only [List.mem_append]; exact .inr (.inl l1))).2.1
    · rcases List.mem_cons.mp hm with z | hm
      · cases z; exact absurd hd (ncI _)
      · exact .tail _ hm
  exact codeAny_compStart_list (loop _) (W.self 0 _ _ _ st₂ (loop _))
end

end

section
variable [HasK]
noncomputable def clBody (env : Env) (x : Str × NameKind) (r : List (Str × Addr)) : Sem (ForInStep (List (Str × Addr))) :=
  if x.2 == .free then do let c ← cellOf env x.1; pure (ForInStep.yield ((x.1, c) :: r)) else pure (ForInStep.yield r)
omit [HasK] in
theorem closureFor_eq (scope : Scope) (env : Env) : closureFor scope env = (forIn scope.names [] (clBody env) >>= fun r => pure r) := by
  have e : clBody env = fun x r => match x with | (name, kind) => (if kind == .free then do let c ← cellOf env name; pure (ForInStep.yield ((name, c) :: r)) else pure (ForInStep.yield r)) := by
    funext x r
    obtain ⟨n, k⟩ := x
    rfl
  rw [e]
  rfl
omit [HasK] in
theorem closure_go (env : Env) : ∀ (names : List (Str × NameKind)) (acc : List (Str × Addr)), (∀ y ∈ names, y.2 = .free → ∃ c, env.cells.lookup y.1 = some c) →
    ∃ cl, forIn names acc (clBody env) = (pure cl : Sem _) ∧ (∀ p ∈ cl, p ∈ acc ∨ env.cells.lookup p.1 = some p.2) ∧ (∀ p ∈ acc, p ∈ cl) ∧ ∀ y, (y, NameKind.free) ∈ names → ∃ c, (y, c) ∈ cl
  | [], acc, _ => ⟨acc, rfl, fun p hp => .inl hp, fun p hp => hp, fun y h => (nomatch h)⟩
  | (n, k) :: r, acc, h => by
    by_cases q : k = .free
    · subst q
      obtain ⟨c, hc⟩ := h _ (.head _) rfl
      obtain ⟨cl, e, a, b, f⟩ := closure_go env r ((n, c) :: acc) fun y hy => h y (.tail _ hy)
      have hco : cellOf env n = pure c := by unfold cellOf; rw [hc]
      refine ⟨cl, ?_, fun p hp => ?_, fun p hp => b p (.tail _ hp), fun y hy => ?_⟩
      · rw [List.forIn_cons]
        show ((if (NameKind.free == NameKind.free) = true then do let c ← cellOf env n; pure (ForInStep.yield ((n, c) :: acc)) else pure (ForInStep.yield acc)) >>= _) = _
        rw [if_pos (by decide), hco]
        exact e
      · rcases a p hp with a | a
        · rcases List.mem_cons.mp a with rfl | a
          · exact .inr hc
          · exact .inl a
        · exact .inr a
      · rcases List.mem_cons.mp hy with e | hy
        · cases e; exact ⟨c, b _ (.head _)⟩
        · exact f y hy
    · obtain ⟨cl, e, a, b, f⟩ := closure_go env r acc fun y hy => h y (.tail _ hy)
      refine ⟨cl, ?_, a, b, fun y hy => ?_⟩
      · rw [List.forIn_cons]
        show ((if (k == NameKind.free) = true then do let c ← cellOf env n; pure (ForInStep.yield ((n, c) :: acc)) else pure (ForInStep.yield acc)) >>= _) = _
        rw [if_neg (by cases k <;> first | exact absurd rfl q | decide)]
        exact e
      · rcases List.mem_cons.mp hy with e | hy
        · cases e; exact absurd rfl q
        · exact f y hy
omit [HasK] in
theorem closure_of {env : Env} {scope : Scope} (h : ∀ y ∈ scope.names, y.2 = .free → ∃ c, env.cells.lookup y.1 = some c) :
    ∃ cl, closureFor scope env = pure cl ∧ ∀ y c, scope.names.lookup y = some .free → env.cells.lookup y = some c → cl.lookup y = some c := by
  obtain ⟨cl, e, a, _, f⟩ := closure_go env scope.names [] h
  refine ⟨cl, ?_, fun y c h1 h2 => ?_⟩
  · rw [closureFor_eq, e]; rfl
  · obtain ⟨c', hc⟩ := f y (mem_of_lk h1)
    have : ∀ (l : List (Str × Addr)) (c' : Addr), (y, c') ∈ l → ∃ c'', l.lookup y = some c'' := by
      intro l
      induction l with
      | nil => intro _ h; cases h
      | cons p l ih =>
        intro c' h
        obtain ⟨n, k⟩ := p
        rw [List.lookup_cons]
        cases q : y == n with
        | true => exact ⟨k, rfl⟩
        | false =>
          rcases List.mem_cons.mp h with e | h
          · cases e; simp at q
          · exact ih _ h
    obtain ⟨c'', e''⟩ := this _ _ hc
    rcases a _ (mem_of_lk e'') with a | a
    · cases a
    · rw [h2] at a; cases a; exact e''

/-- what a comprehension goes over -/
noncomputable def Src (d : Nat) (iter : Expr) (fr : Str → Option V) (hp : List O) (xs : List V) (hp₁ : List O) : Prop :=
  ∀ (w : World) (A : Around) (env : Env) (h₀ : Heap) (L : Addr) (out : Led) (ρ : List Addr) (imm : Led) (s : Shared), Cx w A h₀ L → Room d A → env.locals = L → St w env h₀ L s.heap ρ hp out imm fr →
    wpAny (model pR w) A (eval iter env) (fun xv s₁ => wpAny (model pR w) A (pyIter xv) (fun it s₂ => ∃ It oI ρ' imm' fp P Stt h' tk', it = .ref It ∧ s₂ = { s with heap := h', toks := tk' } ∧ Walks pR w A It fp [It] xs.length P Stt ∧ (∀ i h, Stt i h → ∃ o, h.get? It = some o ∧ ∀ v, o.data ≠ .cell v) ∧
      (∀ b ∈ fp, b = It ∨ ∃ o, (b, o) ∈ imm') ∧ (∀ i v, P i v → ∃ u, xs[i]? = some u ∧ VR ρ' imm' u v) ∧ St w env h₀ L h' ρ' hp₁ ((It, oI) :: out) imm' fr ∧ (∀ p ∈ out, p.1 ≠ It) ∧ Stt 0 h' ∧ Ext ρ ρ' imm imm') Fal s₁) Fal s

section
variable {d : Nat} {fr : Str → Option V} {hp hp₁ hp₂ : List O}
theorem src_range {y : Str} {py pc : Pos} {e : Expr} {es : List Expr} {vs : List V} (is : List Int) {a b c : Int} {n : Nat} (hx : fr y = some (.obj (.type "range"))) (h1 : Snd d (.es (e :: es) fr hp) (.vs vs hp₁)) (hv : vs = is.map .int) (k : Rng is a b c)
    (hn : Builtin.Range.rangeSize a b c = n) (hsm : Builtin.Range.small a b c = true) : Src d (.Call (.Name y py) (e :: es) [] pc) fr hp (rngL a c n) hp₁ := by
  subst hv
  intro w A env h₀ L out ρ imm s C R hL S
  first | refine Call_ (wmV ((snd_name (d := d) hx).go w A env h₀ L out ρ imm s C R S) fun r ρ₁ imm₁ h₁ tk₁ S₁ x₁ k₁ => ?_) | refine Call_ (wmF ((snd_name (d := d) hx).go w A env h₀ L out ρ imm s C R S) fun r ρ₁ imm₁ h₁ tk₁ S₁ x₁ k₁ => ?_) | refine Call_ (wmS ((snd_name (d := d) hx).go w A env h₀ L out ρ imm s C R S) fun r ρ₁ imm₁ h₁ tk₁ S₁ x₁ k₁ => ?_)
  (first | obtain ⟨_, rfl⟩ := VR.intI k₁ | obtain rfl := VR.objI k₁ | obtain rfl := VR.boolI k₁ | obtain ⟨_, rfl⟩ := VR.strI k₁ | obtain rfl := VR.noneI k₁ | obtain rfl := VRs.nilI k₁ | obtain rfl := FR.nxI k₁ | cases k₁)
  first | refine PyProof.Rows.callWith_type1 (wmV (h1.go.2 w A env h₀ L out ρ₁ imm₁ _ pc C R S₁) fun rs ρ₂ imm₂ h₂ tk₂ S₂ x₂ k₂ => ?_) (star_cons (h1.go.1 e (.head _)) es env) (star_any pc env fun e' h' => h1.go.1 e' (.tail _ h')) | refine PyProof.Rows.callWith_type1 (wmF (h1.go.2 w A env h₀ L out ρ₁ imm₁ _ pc C R S₁) fun rs ρ₂ imm₂ h₂ tk₂ S₂ x₂ k₂ => ?_) (star_cons (h1.go.1 e (.head _)) es env) (star_any pc env fun e' h' => h1.go.1 e' (.tail _ h')) | refine PyProof.Rows.callWith_type1 (wmS (h1.go.2 w A env h₀ L out ρ₁ imm₁ _ pc C R S₁) fun rs ρ₂ imm₂ h₂ tk₂ S₂ x₂ k₂ => ?_) (star_cons (h1.go.1 e (.head _)) es env) (star_any pc env fun e' h' => h1.go.1 e' (.tail _ h'))
  refine callRange k k₂ fun r h₃ tk₃ t u v up ir => ?_
  have S₃ := S₂.grow up
  refine wpAny_pyIter_range (s := { s with heap := h₃, toks := tk₃ }) ir hsm ?_
  rw [hn]
  obtain ⟨S₄, hI⟩ := S₃.outNew (h' := h₃.push { cls := .type "range_iterator", data := .fields #[rawInt a, rawInt n, rawInt c] }) hL (fun b o e => Heap.get?_push_of_some _ e) (I := h₃.objs.size) (Heap.get?_none_of_le (Nat.le_refl _)) (Heap.get?_push_size _ rfl)
  have W : Walks pR w A h₃.objs.size [h₃.objs.size] [h₃.objs.size] (rngL a c n).length (fun i v => ∃ t, v = .int (a + i * c) t ∧ i < n) (fun i h => IsRangeIter h h₃.objs.size (a + (i : Nat) * c) ((n : Int) - (i : Nat)) c) := by
    have W := Walks.range (prog := pR) (w := w) (A := A) C.hh h₃.objs.size a c n
    have e : (rngL a c n).length = n := by simp [rngL]
    rw [e]
    exact ⟨W.sub, W.frame, fun i s Q E hi st hQ => W.item i s Q E hi st fun v h' tk p => hQ v h' tk (by obtain ⟨t, q⟩ := p; exact ⟨t, q, hi⟩), W.done, W.self⟩
  refine ⟨_, _, ρ₂, imm₂, _, _, _, _, tk₃, rfl, rfl, W, fun i h q => ⟨_, q, fun v z => by cases z⟩, fun b hb => .inl (by simpa using hb), fun i v q => ?_, S₄, hI, ?_, x₁.trans x₂⟩
  · obtain ⟨t, rfl, hi⟩ := q
    exact ⟨.int (a + i * c), by simp [rngL, hi], .int _ _⟩
  · show IsRangeIter _ _ (a + ((0 : Nat) : Int) * c) ((n : Int) - ((0 : Nat) : Int)) c
    have e1 : a + ((0 : Nat) : Int) * c = a := by simp
    have e2 : (n : Int) - ((0 : Nat) : Int) = n := by simp
    rw [e1, e2]
    exact Heap.get?_push_size _ rfl
theorem src_tup {iter : Expr} {xs : List V} (h1 : Snd d (.e iter fr hp) (.v (.tup xs) hp₁)) : Src d iter fr hp xs hp₁ := by
  intro w A env h₀ L out ρ imm s C R hL S
  first | refine wmV (h1.go w A env h₀ L out ρ imm s C R S) fun r ρ₁ imm₁ h₁ tk₁ S₁ x₁ k₁ => ?_ | refine wmF (h1.go w A env h₀ L out ρ imm s C R S) fun r ρ₁ imm₁ h₁ tk₁ S₁ x₁ k₁ => ?_ | refine wmS (h1.go w A env h₀ L out ρ imm s C R S) fun r ρ₁ imm₁ h₁ tk₁ S₁ x₁ k₁ => ?_
  obtain ⟨a, vs, n, hm, ks, rfl⟩ := VR.tupI k₁
  have ha := S₁.tupAt hm
  have ht : h₁.IsTuple a vs.toArray := ⟨_, ha, rfl, n, rfl⟩
  refine wpAny_pyIter_tuple (s := { s with heap := h₁, toks := tk₁ }) ht ?_
  have fr : h₁.get? h₁.objs.size = none := Heap.get?_none_of_le (Nat.le_refl _)
  have hne : a ≠ h₁.objs.size := fun z => by rw [← z, ha] at fr; cases fr
  obtain ⟨S₄, hI⟩ := S₁.outNew (h' := h₁.push { cls := .type "tuple_iterator", data := .fields #[.ref a, .int 0 0] }) hL (fun b o e => Heap.get?_push_of_some _ e) (I := h₁.objs.size) fr (Heap.get?_push_size _ rfl)
  have W : Walks pR w A h₁.objs.size [h₁.objs.size, a] [h₁.objs.size] xs.length (fun i v => vs.toArray[i]? = some v) (fun i h => h.IsTupleIter h₁.objs.size a i ∧ h.IsTuple a vs.toArray) := by
    have W := Walks.tuple (prog := pR) (w := w) (A := A) C.hh h₁.objs.size a hne vs.toArray
    have e : vs.toArray.size = xs.length := by rw [List.size_toArray, ks.length]
    rwa [e] at W
  refine ⟨_, _, ρ₁, imm₁, _, _, _, _, tk₁, rfl, rfl, W, fun i h q => ?_, fun b hb => ?_, fun i v q => ?_, S₄, hI, ?_, x₁⟩
  · obtain ⟨ob, g1, g2, g3⟩ := q.1
    exact ⟨ob, g1, fun v z => by rw [g3] at z; cases z⟩
  · simp only [List.mem_cons, List.not_mem_nil, or_false] at hb
    rcases hb with hb | rfl
    · exact .inl hb
    · exact .inr ⟨_, hm⟩
  · obtain ⟨u, g1, g2⟩ := ks.get' (i := i) (r := v) (by simpa using q)
    exact ⟨u, g1, g2⟩
  · exact ⟨⟨_, Heap.get?_push_size _ rfl, rfl, rfl⟩, ⟨_, Heap.get?_push_of_some _ ha, rfl, n, rfl⟩⟩
end

/-- the names of a comprehension against those of its function -/
structure CompOk (sc scope : Scope) (x : Str) (fr : Str → Option V) (gl : List (Str × V)) : Prop where
  kind : scope.kind = .function
  cell : ∀ y ∈ scope.names, y.2 ≠ .cell
  loc : ∀ y ∈ scope.names, y.2 = .local → scope.names.lookup y.1 = some .local
  free : ∀ y ∈ scope.names, y.2 = .free → sc.names.lookup y.1 = some .cell
  var : scope.names.lookup x = some .local
  xd : (x == ("__debug__" : Str)) = false
  xg : gl.lookup x = none
  gl : ∀ p ∈ gl, (fr p.1 = some p.2 ∧ scope.names.lookup p.1 = some .free ∧ sc.names.lookup p.1 = some .cell) ∨ (scope.names.lookup p.1 = some .globalImplicit ∧ GOk p.1 p.2)

section
variable {w : World} {A : Around} {env : Env} {h₀ : Heap} {L : Addr} {out : Led} {ρ : List Addr} {imm : Led} {s : Shared} {d : Nat} {x y : Str} {sc scope : Scope} {hp hp₁ hp₂ : List O} {fr : Str → Option V} {l gl : List (Str × V)} {xs : List V} {elt iter : Expr} {px py pos spos : Pos} {ct : Option Expr} {ifs : List Expr}
theorem CompOk.cl (K : CompOk sc scope x fr gl) (hsc : env.scope = sc) (hL : Own env L) {h : Heap} (S : St w env h₀ L h ρ hp out imm fr) :
    ∃ cl, closureFor scope env = pure cl ∧ ∀ y c, scope.names.lookup y = some .free → env.cells.lookup y = some c → cl.lookup y = some c := by
  refine St.elim S fun m mE led cells I => ?_
  refine closure_of fun y hy hf => ?_
  obtain ⟨c, o, v₀, h1, _⟩ := (I.c.resolve_left hL.fn).cell y.1 (by unfold Env.kindOf; rw [hsc]; exact K.free y hy hf)
  exact ⟨c, h1⟩
/-- a list comprehension as a value -/
theorem comp_at (K : CompOk sc scope x fr gl) (hsrc : Src d iter fr hp xs hp₁) (hif : ifs = ct.toList) (Cp : Cps d hp₁.length x ct elt gl xs (hp₁ ++ [.list []]) hp₂) (hs : ∀ env v, foldedSetIterable iter env v = pure v)
    (C : Cx w A h₀ L) (R : Room d A) (hL : Own env L) (hsc : env.scope = sc) (S : St w env h₀ L s.heap ρ hp out imm fr) :
    wpAny (model pR w) A (eval (.ListComp elt [⟨.Name x px, iter, ifs, 0⟩] scope pos) env) (PV w env h₀ L out fr ρ imm s (.ref hp₁.length) hp₂) Fal s := by
  obtain ⟨cl, hcl, hcl2⟩ := K.cl hsc hL S
  rw [eval_ListComp]
  refine wpAny_comprehension_free (use := none) rfl (hs env) hcl K.kind K.loc (wpAny_mono (hsrc w A env h₀ L out ρ imm s C R hL.loc S) (fun xv s₁ h₁ => wpAny_mono h₁ (fun it s₂ q => ?_) fun _ _ e => e) fun _ _ e => e)
  obtain ⟨It, oI, ρ', imm', fp, P, Stt, h', tk', rfl, rfl, W, live, fpOk, hP, S', hI, st, x'⟩ := q
  refine compM (s := { s with heap := h', toks := tk' }) W live fpOk hP C R hL.loc hif K.kind K.cell K.var K.xd K.xg hcl2 (fun p hp => ?_) S' hI st Cp (RR := fun acc C => compPost (model pR w) A Fal none _ acc C) ?_
  · rcases K.gl p hp with ⟨a, b, c⟩ | b
    · exact .inl ⟨a, b, by unfold Env.kindOf; rw [hsc]; exact c⟩
    · exact .inr b
  · intro acc Cc ρ₂ imm₂ h₂ tk₂ oC m' kv S₂ nC x₂ hC
    have eC := S₂.keepsOut (p := (Cc, oC)) (.head _)
    refine ⟨m', nC.ns eC, fun h₃ hs₃ => ?_⟩
    have nc : ∀ v, oC.data ≠ .cell v := fun v z => by obtain ⟨es, ep, e, _⟩ := nC; rw [e] at z; cases z
    exact PV.of (S₂.outDrop (h' := h₃) hL.loc hC nc fun b ob q e => hs₃.extBut b ob q e) (x'.trans x₂) kv
theorem snd_asgC (K : CompOk sc scope x (lk l) gl) (hsrc : Src d iter (lk l) hp xs hp₁) (hif : ifs = ct.toList) (Cp : Cps d hp₁.length x ct elt gl xs (hp₁ ++ [.list []]) hp₂) (hs : ∀ env v, foldedSetIterable iter env v = pure v)
    (hy : sc.names.lookup y = some .local) (hyd : (y == ("__debug__" : Str)) = false)
    (hw : (py.line == pos.line && !(scope.names.any fun x => match x with | (n, k) => n == y && (k == .local || k == .cell))) = true) :
    Snd d (.s sc (.Assign [.Name y py] (.ListComp elt [⟨.Name x px, iter, ifs, 0⟩] scope pos) spos) (lk l) hp) (.f .nx (lk ((y, .ref hp₁.length) :: l)) hp₂) := by
  refine ⟨?_⟩
  intro w A env h₀ L out ρ imm s C R hL hsc S
  obtain ⟨cl, hcl, hcl2⟩ := K.cl hsc hL S
  have hsw : swapsWith (.ListComp elt [⟨.Name x px, iter, ifs, 0⟩] scope pos) (some (.Name y py)) spos.line env = pure true := by
    refine St.elim S fun m mE led cells I => ?_
    have e1 : env.blockKind = .function := by unfold Env.blockKind; rw [I.k]; rfl
    have e2 : env.kindOf y = some .local := by unfold Env.kindOf; rw [hsc]; exact hy
    show (pure (env.blockKind == .function && env.kindOf y == some .local && py.line == pos.line && !(scope.names.any fun x => match x with | (n, k) => n == y && (k == .local || k == .cell))) : Sem Bool) = pure true
    rw [e1, e2, Bool.and_assoc, hw]
    rfl
  rw [exec_Assign_Name_used _ _ _ _ hsw]
  refine wpAny_bind (wpAny_standAt (wpAny_bind ?_))
  show wpAny _ A (do let _ ← comprehension (.ListComp elt [⟨.Name x px, iter, ifs, 0⟩] scope pos) scope env _ (newList []) false (eval iter env) (some (assign (.Name y py) env))) _ _ s
  refine wpAny_bind (wpAny_mono (wpAny_comprehension_free (E := Fal) (use := some (assign (.Name y py) env)) (Q := fun _ s' => PF w env h₀ L out ρ imm s .nx (lk ((y, .ref hp₁.length) :: l)) hp₂ .next s') rfl (hs env) hcl K.kind K.loc
    (wpAny_mono (hsrc w A env h₀ L out ρ imm s C R hL.loc S) (fun xv s₁ h₁ => wpAny_mono h₁ (fun it s₂ q => ?_) fun _ _ e => e) fun _ _ e => e)) (fun _ s' hq => wpAny_pure (wpAny_pure hq)) fun _ _ e => e)
  obtain ⟨It, oI, ρ', imm', fp, P, Stt, h', tk', rfl, rfl, W, live, fpOk, hP, S', hI, st, x'⟩ := q
  refine compM (s := { s with heap := h', toks := tk' }) W live fpOk hP C R hL.loc hif K.kind K.cell K.var K.xd K.xg hcl2 (fun p hp => ?_) S' hI st Cp (RR := fun acc C => compPost (model pR w) A Fal (some (assign (.Name y py) env)) _ acc C) ?_
  · rcases K.gl p hp with ⟨a, b, c⟩ | b
    · exact .inl ⟨a, b, by unfold Env.kindOf; rw [hsc]; exact c⟩
    · exact .inr b
  · intro acc Cc ρ₂ imm₂ h₂ tk₂ oC m' kv S₂ nC x₂ hC
    have nc : ∀ v, oC.data ≠ .cell v := fun v z => by obtain ⟨es, ep, e, _⟩ := nC; rw [e] at z; cases z
    show wpAny _ A (assign (.Name y py) env acc) _ _ _
    refine wpAny_assign_Name (wpAny_mono (S₂.setN (A := A) (s := { s with heap := h₂, toks := tk₂ }) hL kv (.inl (by unfold Env.kindOf; rw [hsc]; exact hy)) hyd) (fun _ s₃ q => ?_) fun _ _ x => x)
    obtain ⟨h₃, tk₃, rfl, S₃⟩ := q
    have eC := S₃.keepsOut (p := (Cc, oC)) (.head _)
    refine ⟨m', nC.ns eC, fun h₄ hs₄ => ?_⟩
    exact PF.of (S₃.outDrop (h' := h₄) hL.loc hC nc fun b ob q e => hs₄.extBut b ob q e) (x'.trans x₂) .nx
end

end

section
variable [HasK]
omit [HasK] in
theorem cf_nodup : ∀ (names : List (Str × NameKind)) (n : Nat) (acc : List (Str × Addr)), (acc.map (·.2)).Nodup → (∀ p ∈ acc, p.2 < n) → ((cellsFrom n names acc).map (·.2)).Nodup
  | [], _, _, h, _ => h
  | (y, k) :: r, n, acc, h, hn => by
    unfold cellsFrom
    split
    · refine cf_nodup r (n + 1) ((y, n) :: acc) ?_ fun p hp => ?_
      · rw [List.map_cons, List.nodup_cons]
        refine ⟨fun q => ?_, h⟩
        obtain ⟨p, hp, e⟩ := List.mem_map.mp q
        exact absurd (hn p hp) (by rw [e]; exact Nat.lt_irrefl _)
      · rcases List.mem_cons.mp hp with rfl | hp
        · exact Nat.lt_succ_self _
        · exact Nat.lt_succ_of_lt (hn p hp)
    · exact cf_nodup r n acc h hn
omit [HasK] in
theorem cf_above : ∀ (names : List (Str × NameKind)) (n : Nat) (acc : List (Str × Addr)), ∀ p ∈ cellsFrom n names acc, p ∈ acc ∨ n ≤ p.2
  | [], _, _, p, h => .inl h
  | (y, k) :: r, n, acc, p, h => by
    unfold cellsFrom at h
    split at h
    · rcases cf_above r (n + 1) ((y, n) :: acc) p h with h | h
      · rcases List.mem_cons.mp h with rfl | h
        · exact .inr (Nat.le_refl _)
        · exact .inl h
      · exact .inr (Nat.le_of_succ_le h)
    · exact cf_above r n acc p h
omit [HasK] in
theorem cells_addr {cm : Str → Option Value} {cs : List (Str × Addr)} {cells : Led} (h : CellsAre cm cs cells) : cells.map (·.1) = cs.map (·.2) := by
  induction h with
  | nil => rfl
  | cons _ _ ih => simp [ih]
omit [HasK] in
theorem cells_at {cm : Str → Option Value} {cs : List (Str × Addr)} {cells : Led} (h : CellsAre cm cs cells) {x : Str} {c : Addr} (e : cs.lookup x = some c) : ∃ o, (c, o) ∈ cells ∧ o.data = .cell (cm x) := by
  induction h with
  | nil => cases e
  | @cons n c' o cs cells hd _ ih =>
    rw [List.lookup_cons] at e
    cases q : x == n with
    | true =>
      rw [q] at e; cases e
      have : x = n := by simpa using q
      subst this
      exact ⟨o, .head _, hd⟩
    | false =>
      rw [q] at e
      obtain ⟨o', h1, h2⟩ := ih e
      exact ⟨o', .tail _ h1, h2⟩
omit [HasK] in
theorem bindL_of {ko : Str → Option NameKind} {x : Str} : ∀ {bs : List (Str × Value)} {m : Str → Option Value}, x ∉ bs.map (·.1) → bindL ko bs m x = m x
  | [], _, _ => rfl
  | (n, v) :: r, m, h => by
    simp only [List.map_cons, List.mem_cons, not_or] at h
    unfold bindL
    rw [bindL_of h.2]
    split
    · simp [h.1]
    · rfl
omit [HasK] in
theorem bindL_at {ko : Str → Option NameKind} {x : Str} {v : Value} (hk : ko x = some .local) : ∀ {bs : List (Str × Value)} {m : Str → Option Value}, (bs.map (·.1)).Nodup → (x, v) ∈ bs → bindL ko bs m x = some v
  | (n, u) :: r, m, hn, h => by
    rw [List.map_cons, List.nodup_cons] at hn
    unfold bindL
    rcases List.mem_cons.mp h with e | h
    · cases e
      rw [bindL_of hn.1, if_pos hk]
      simp
    · exact bindL_at hk hn.2 h
omit [HasK] in
theorem bindC_of {ko : Str → Option NameKind} {x : Str} : ∀ {bs : List (Str × Value)} {m : Str → Option Value}, x ∉ bs.map (·.1) → bindC ko bs m x = m x
  | [], _, _ => rfl
  | (n, v) :: r, m, h => by
    simp only [List.map_cons, List.mem_cons, not_or] at h
    unfold bindC
    rw [bindC_of h.2]
    split
    · rfl
    · simp [h.1]
omit [HasK] in
theorem bindC_at {ko : Str → Option NameKind} {x : Str} {v : Value} (hk : ko x = some .cell) : ∀ {bs : List (Str × Value)} {m : Str → Option Value}, (bs.map (·.1)).Nodup → (x, v) ∈ bs → bindC ko bs m x = some v
  | (n, u) :: r, m, hn, h => by
    rw [List.map_cons, List.nodup_cons] at hn
    unfold bindC
    rcases List.mem_cons.mp h with e | h
    · cases e
      rw [bindC_of hn.1, if_neg (by rw [hk]; decide)]
      simp
    · exact bindC_at hk hn.2 h

section
variable {prog : Program} {w : World} {A₀ A : Around} {s : Shared} {base h₀ : Heap} {outer : List Env} {L : Addr} {m : Str → Option Value} {env : Env} {news : List (Addr × Obj)}
  {R : Result → Shared → Prop} {name qual : Str} {params : Arguments} {body : List Stmt} {scope : Scope} {dV kV doc pm cdv ct : Value} {an : Option Addr} {fo : Obj} {f : Addr} {args : Args} {binds : List (Str × Value)}
omit [HasK] in
theorem callY_cells (B : Below A₀ base outer h₀) (F : Fr h₀ L s.heap m) (N : News h₀ L s.heap news) (hlim : h₀.NoLimit) (hA : A.frames = some (env :: outer)) (hf : FrAt h₀ L base env) (hke : env.scope.kind = .function)
    (ho : s.heap.get? f = some fo) (hd : fo.data = .func (fnX name qual params body scope [] dV kV doc pm an cdv ct)) (hcd : s.heap.CodeRec cdv qual) (hroom : A.depth < recursionLimit)
    (hbind : BindsTo s (fnX name qual params body scope [] dV kV doc pm an cdv ct) args binds)
    (hkind : ∀ n, ∀ x ∈ binds, scope.names.lookup x.1 = some .local ∨ (scope.names.lookup x.1 = some .cell ∧ ((cellsFrom n scope.names []).lookup x.1).isSome = true))
    (hnd : ((cellsFrom 0 scope.names []).map (·.1)).Nodup)
    (h : ∀ g L' h₁ tk cells, Fr h₀ L g m → Fr g L' h₁ (bindL (envOfC qual scope L' f cdv).kindOf binds fun _ => none) → News g L' h₁ (cells ++ news) →
      CellsAre (bindC (envOfC qual scope L' f cdv).kindOf binds fun _ => none) (cellsFrom (L' + 1) scope.names []) cells → Below A base (env :: outer) g → h₀.StaysIn g → (∀ p ∈ news, p.1 < L') →
      wpAny (model prog w) (A.deeper (envOfC qual scope L' f cdv)) (execs body (envOfC qual scope L' f cdv))
        (fun fl s' => LeaveK h₀ L m g R (match fl with | .ret v => v | _ => .none) s')
        (fun e s' => wpAny (model prog w) (A.deeper (envOfC qual scope L' f cdv)) (leaving (envOfC qual scope L' f cdv) e) (fun _ s'' => R (.error e) s'') (fun e' s'' => R (.error e') s'') s')
        { s with heap := h₁, toks := tk })
    (hco : scope.isCoroutine = false := by rfl) (hgen : scope.isGenerator = false := by rfl) (hk : scope.kind = .function := by rfl) : codeAny (model prog w) A (.call (.ref f) args) R s := by
  obtain ⟨FG, BG, st, lv, _⟩ := groundY B F N hA hf hke
  refine codeAny_call_function hroom ho hd hco hgen rfl hcd (hbind _ _ _ _ ?_)
  refine wpAny_newFunctionEnv_cells hk (hkind _) fun env' he s' x => ?_
  subst he
  refine ⟨(hlim.keeps F.keep).keeps x.toInCall.keep, codeAny_func ?_⟩
  obtain ⟨h₁, tk, rfl, _⟩ := x.done
  have hk₁ := x.toInCall.keep
  obtain ⟨cells, NC, Y⟩ := Cl.news (h₀ := s.heap) (Nat.le_refl _) fun n c hm => ⟨x.cell n c (lookup_of_mem_nodup (cellsFrom_names scope.names 0 (s.heap.objs.size + 1) [] [] rfl ▸ hnd) hm), x.above n c hm⟩
  refine wpAny_mono (h _ s.heap.objs.size h₁ tk cells FG ⟨x.toInCall.ns, fun b o e => hk₁ b o (of_hideAll _ e), Nat.le_of_eq (hideAll_size _ _)⟩ (fun p hp => ?_) Y BG st (fun p hp => Heap.lt_size (N p hp).1)) (fun fl s' hl => ?_) fun _ _ y => y
  · rcases List.mem_append.mp hp with hp | hp
    · refine ⟨(NC p hp).1, (NC p hp).2.1, ?_⟩
      cases q : (hideAll s.heap (news.map (·.1))).get? p.1 with
      | none => rfl
      | some o => have := of_hideAll _ q; rw [(NC p hp).2.2] at this; cases this
    · exact ⟨hk₁ _ _ (N p hp).1, Nat.ne_of_lt (Heap.lt_size (N p hp).1), hideAll_none _ (List.mem_map_of_mem hp)⟩
  · obtain ⟨L', m', nw, F', N', k⟩ := hl
    obtain ⟨F₁, N₁⟩ := lv _ L' m' nw F' N'
    exact k F₁ N₁
end

/-- a function whose names are partly captured -/
structure FnAtC (f : Addr) (ps : List Str) (ds : List V) (body : List Stmt) (scope : Scope) : Prop where
  at_ : ∀ w : World, ∃ (name qual : Str) (params : Arguments) (dV kV doc pm cdv ct oc : Value) (an od : Option Addr) (osl : Array (Option Value)),
    (HasK.heap w.params).lookup f = some ⟨oc, od, .func (fnOf name qual params body scope dV kV doc pm an cdv ct), osl⟩ ∧ codeIn (HasK.heap w.params) cdv qual = true ∧
    ∀ (s : Shared) (rs : List Value), (HasK.heap w.params).In s.heap → rs.length + ds.length = ps.length → ∃ rds, VRs [] [] ds rds ∧ BindsTo s (fnOf name qual params body scope dV kV doc pm an cdv ct) ⟨rs, []⟩ (ps.zip (rs ++ rds))
  nd : ps.Nodup
  loc : (ps.all fun p => (scope.names.lookup p == some .local || scope.names.lookup p == some .cell) && !(p == ("__debug__" : Str))) = true
  ndc : ((cellsFrom 0 scope.names []).map (·.1)).Nodup
  co : scope.isCoroutine = false
  gen : scope.isGenerator = false
  kind : scope.kind = .function

/-- the frame of such a function at its start -/
theorem enterC {w : World} {scope : Scope} {ps : List Str} {l : List V} {rs : List Value} {gl : List (Str × V)} {qual : Str} {f : Addr} {cdv : Value} {g h₁ : Heap} {L' : Addr} {ρ : List Addr} {hp : List O} {led : List Led} {cells own out imm : Led}
    (nd : ps.Nodup) (loc : (ps.all fun p => (scope.names.lookup p == some .local || scope.names.lookup p == some .cell) && !(p == ("__debug__" : Str))) = true) (ndc : ((cellsFrom 0 scope.names []).map (·.1)).Nodup) (kind : scope.kind = .function)
    (hg : ∀ p ∈ gl, GOk p.1 p.2) (hg2 : (gl.all fun p => scope.names.lookup p.1 == some .globalImplicit) = true) (kall : VRs ρ imm l rs) (hlen : ps.length = rs.length)
    (F' : Fr g L' h₁ (bindL (envOfC qual scope L' f cdv).kindOf (ps.zip rs) fun _ => none)) (N' : News g L' h₁ (own ++ (led.flatten ++ cells ++ (out ++ imm)))) (Y : CellsAre (bindC (envOfC qual scope L' f cdv).kindOf (ps.zip rs) fun _ => none) (cellsFrom (L' + 1) scope.names []) own)
    (lt : ∀ p ∈ led.flatten ++ cells ++ (out ++ imm), p.1 < L') (RL : LedR w ρ imm hp ρ led) (Sp : Sep (led.flatten ++ cells) out imm) :
    St w (envOfC qual scope L' f cdv) g L' h₁ ρ hp (cells ++ out) imm (lk (ps.zip l ++ gl)) := by
  have hnd : ((cellsFrom (L' + 1) scope.names []).map (·.1)).Nodup := cellsFrom_names scope.names 0 (L' + 1) [] [] rfl ▸ ndc
  have hnd2 : ((cellsFrom (L' + 1) scope.names []).map (·.2)).Nodup := cf_nodup scope.names (L' + 1) [] List.nodup_nil fun p hp => nomatch hp
  have gt : ∀ p ∈ own, L' < p.1 := fun p hp => by
    have : p.1 ∈ (cellsFrom (L' + 1) scope.names []).map (·.2) := cells_addr Y ▸ List.mem_map.mpr ⟨p, hp, rfl⟩
    obtain ⟨q, hq, e⟩ := List.mem_map.mp this
    rcases cf_above scope.names (L' + 1) [] q hq with h | h
    · cases h
    · rw [← e]; exact h
  have apart : ∀ p ∈ own, ∀ q ∈ led.flatten ++ cells ++ (out ++ imm), p.1 ≠ q.1 := fun p hp q hq => Nat.ne_of_gt (Nat.lt_trans (lt q hq) (gt p hp))
  refine ⟨_, _, led, own, F', ?_, RL, ⟨?_, ?_, ?_⟩, .inl ⟨rfl, rfl⟩, rfl, rfl, kind, .inr ⟨fun x y c e1 e2 _ => ?_, fun x q => ?_⟩, fun x v hx => ?_⟩
  · intro p hp'
    refine N' p ?_
    simp only [List.mem_append] at hp' ⊢
    rcases hp' with (hp' | hp') | (hp' | hp') | hp' <;> simp [hp']
  · have nd1 := Sp.nd
    simp only [List.map_append, List.nodup_append, List.mem_map] at nd1 ⊢
    refine ⟨nd1.1, cells_addr Y ▸ hnd2, ?_⟩
    rintro _ ⟨p, hp', rfl⟩ _ ⟨q, hq, rfl⟩
    exact Ne.symm (apart q hq p (by simp [hp']))
  · intro p hp' q hq
    simp only [List.mem_append] at hp' hq
    rcases hp' with hp' | hp'
    · rcases hq with (hq | hq) | hq
      · have := Sp.nd
        simp only [List.map_append, List.nodup_append, List.mem_map] at this
        exact this.2.2 _ ⟨p, hp', rfl⟩ _ ⟨q, hq, rfl⟩
      · exact Sp.off p (by simp [hp']) q (by simp [hq])
      · exact Sp.off p (by simp [hp']) q (by simp [hq])
    · exact apart p hp' q (by simp only [List.mem_append]; rcases hq with (hq | hq) | hq <;> simp [hq])
  · intro p hp' q hq
    rcases List.mem_append.mp hp' with hp' | hp'
    · exact Sp.off p (by simp [hp']) q (by simp [hq])
    · exact Sp.oi p hp' q hq
  · have m1 := mem_of_lk (l := cellsFrom (L' + 1) scope.names []) e1
    have m2 := mem_of_lk (l := cellsFrom (L' + 1) scope.names []) e2
    have : ∀ (cs : List (Str × Addr)), (cs.map (·.2)).Nodup → (x, c) ∈ cs → (y, c) ∈ cs → x = y := by
      intro cs
      induction cs with
      | nil => intro _ h; cases h
      | cons p cs ih =>
        intro hn h1 h2
        rw [List.map_cons, List.nodup_cons] at hn
        rcases List.mem_cons.mp h1 with a1 | a1 <;> rcases List.mem_cons.mp h2 with a2 | a2
        · rw [← a1] at a2; cases a2; rfl
        · exact (hn.1 (List.mem_map.mpr ⟨(y, c), a2, by rw [← a1]⟩)).elim
        · exact (hn.1 (List.mem_map.mpr ⟨(x, c), a1, by rw [← a2]⟩)).elim
        · exact ih hn.2 a1 a2
    exact this _ hnd2 m1 m2
  · have hs := cellsFrom_some (x := x) scope.names (L' + 1) [] (.inl q)
    obtain ⟨c, hc⟩ := Option.isSome_iff_exists.mp hs
    obtain ⟨o, h1, h2⟩ := cells_at Y hc
    exact ⟨c, o, _, hc, h1, h2⟩
  · have hm := mem_of_lk hx
    rcases List.mem_append.mp hm with hm | hm
    · obtain ⟨r, h1, h2⟩ := zip_at kall hm
      have := List.all_eq_true.mp loc x (List.of_mem_zip hm).1
      simp only [Bool.and_eq_true, Bool.or_eq_true, beq_iff_eq, Bool.not_eq_true'] at this
      have ndz : ((ps.zip rs).map (·.1)).Nodup := by rw [zip_fst hlen]; exact nd
      refine ⟨this.2, ?_⟩
      rcases this.1 with k | k
      · exact .inl ⟨k, r, bindL_at (ko := (envOfC qual scope L' f cdv).kindOf) k ndz h1, h2⟩
      · obtain ⟨c, hc⟩ := Option.isSome_iff_exists.mp (cellsFrom_some (x := x) scope.names (L' + 1) [] (.inl k))
        obtain ⟨o, g1, g2⟩ := cells_at Y hc
        rw [bindC_at (ko := (envOfC qual scope L' f cdv).kindOf) k ndz h1] at g2
        exact .inr (.inl ⟨k, c, o, r, hc, by simp [g1], g2, h2⟩)
    · obtain ⟨a1, a2⟩ := hg _ hm
      have := List.all_eq_true.mp hg2 _ hm
      simp only [beq_iff_eq] at this
      refine ⟨a1, .inr (.inr (.inr ⟨this, ?_⟩))⟩
      rcases a2 w with ⟨r, b1, b2⟩ | ⟨b1, b2, r, b3, b4⟩
      · exact .inl ⟨r, b1, b2.mono .nil⟩
      · exact .inr ⟨b1, b2, r, b3, b4.mono .nil⟩

section
variable {d : Nat} {fr : Str → Option V} {hp hp' hp₁ hp₂ hp₃ : List O}
theorem snd_callC {f : Addr} {ps : List Str} {ds args : List V} {body : List Stmt} {scope : Scope} {gl : List (Str × V)} {fr' : Str → Option V} {fl : Fl} {v : V}
    (H : FnAtC f ps ds body scope) (hn : args.length + ds.length = ps.length) (hg : ∀ p ∈ gl, GOk p.1 p.2) (hg2 : (gl.all fun p => scope.names.lookup p.1 == some .globalImplicit) = true)
    (h : Snd d (.ss scope body (lk (ps.zip (args ++ ds) ++ gl)) hp) (.f fl fr' hp')) (hb : Back fl v) : Snd (d + 1) (.call (.ref f) args hp) (.v v hp') := by
  refine snd_ofCode ⟨?_⟩
  intro w A env h₀ L out ρ imm s fr₀ rs C R S ks
  refine St.elim S fun m mE led cells I => ?_
  refine C.elim fun env0 mean mg mb base outer A₀ B T hA hf hke => ?_
  obtain ⟨name, qual, params, dV, kV, doc, pm, cdv, ct, oc, an, od, osl, e1, e2, e3⟩ := H.at_ w
  obtain ⟨rds, kd, hbind⟩ := e3 s rs (C.X.keeps I.F.keep) (by rw [ks.length]; exact hn)
  have kall : VRs ρ imm (args ++ ds) (rs ++ rds) := ks.append (kd.mono .nil)
  have dpp : A.depth < recursionLimit := by have := R.dp; (first | lia | omega)
  refine callY_cells B I.F I.N T.nolimit hA hf hke ((C.X.keeps I.F.keep) _ _ e1) rfl (codeRec_of (C.X.keeps I.F.keep) e2) dpp hbind (kindsX (List.all_eq_true.mpr fun y hy => ?_)) H.ndc ?_ H.co H.gen H.kind
  · have := List.all_eq_true.mp H.loc y.1 (by
      obtain ⟨y1, y2⟩ := y
      exact (List.of_mem_zip hy).1)
    simp only [Bool.and_eq_true] at this
    exact this.1
  · intro g L' h₁ tk own FG F' N' Y B' st ab
    have C' : Cx w (A.deeper (envOfC qual scope L' f cdv)) g L' := ⟨⟨envOfC qual scope L' f cdv, mean, mg, mb, base, env0 :: outer, A, B', T.keeps st, Around.frames_deeper hA, .inl rfl, H.kind⟩, C.X.keeps st, C.hh, ⟨_, _, Around.frames_deeper hA, H.gen, H.co, rfl, rfl⟩⟩
    have R' : Room d (A.deeper (envOfC qual scope L' f cdv)) := ⟨by have := R.dp; show A.depth + 1 + d + 110 < _; (first | lia | omega), by have := R.un; show A.units + 3 + 8 * d + 80 < _; (first | lia | omega)⟩
    have hlen : ps.length = (rs ++ rds).length := by rw [kall.length, List.length_append]; exact hn.symm
    have S' := enterC (w := w) (gl := gl) H.nd H.loc H.ndc H.kind hg hg2 kall hlen F' N' Y ab I.R I.S
    first | refine wmV (h.go w _ (envOfC qual scope L' f cdv) g L' (cells ++ out) ρ imm _ C' R' ⟨rfl, nofun⟩ rfl S') fun fl' ρ' imm' h' tk' S'' x k => ?_ | refine wmF (h.go w _ (envOfC qual scope L' f cdv) g L' (cells ++ out) ρ imm _ C' R' ⟨rfl, nofun⟩ rfl S') fun fl' ρ' imm' h' tk' S'' x k => ?_ | refine wmS (h.go w _ (envOfC qual scope L' f cdv) g L' (cells ++ out) ρ imm _ C' R' ⟨rfl, nofun⟩ rfl S') fun fl' ρ' imm' h' tk' S'' x k => ?_
    refine St.elim S'' fun m2 mE2 led2 cells2 I2 => ?_
    refine ⟨L', m2, led2.flatten ++ cells ++ (out ++ imm'), I2.F, ?_, fun F₃ N₃ => ?_⟩
    · intro p hp'
      refine I2.N p ?_
      simp only [List.mem_append] at hp' ⊢
      rcases hp' with (hp' | hp') | hp' | hp' <;> simp [hp']
    · refine PV.of (ρ₁ := ρ') (imm₁ := imm') ⟨m, mE, led2, cells, F₃, N₃, I2.R, ⟨?_, ?_, ?_⟩, I.l, I.g, I.bi, I.k, I.c, fun y u hy => (I.f y u hy).mono x⟩ x ?_
      · have n1 := I2.S.nd
        have n2 := I.S.nd
        simp only [List.map_append, List.nodup_append, List.mem_map] at n1 n2 ⊢
        refine ⟨n1.1, n2.2.1, ?_⟩
        rintro _ ⟨p, hp', rfl⟩ _ ⟨q, hq, rfl⟩
        exact I2.S.off p (by simp [hp']) q (by simp [hq])
      · intro p hp' q hq
        rcases List.mem_append.mp hp' with hp' | hp'
        · rcases List.mem_append.mp hq with hq | hq
          · exact I2.S.off p (by simp [hp']) q (by simp [hq])
          · exact I2.S.off p (by simp [hp']) q (by simp [hq])
        · rcases List.mem_append.mp hq with hq | hq
          · exact I.S.off p (by simp [hp']) q (by simp [hq])
          · exact I2.S.oi p (by simp [hp']) q hq
      · intro p hp' q hq
        exact I2.S.oi p (by simp [hp']) q hq
      · cases k with
        | nx => cases hb; exact .none
        | ct => cases hb
        | rt k => cases hb; exact k
end

end

section
variable [HasK]
omit [HasK] in
theorem Room.up {d d' : Nat} {A : Around} (R : Room d' A) (h : d ≤ d') : Room d A := ⟨by have := R.dp; (first | lia | omega), by have := R.un; (first | lia | omega)⟩
theorem Snd.up {d d' : Nat} {t : Tk} {r : Rs} (h : Snd d t r) (hd : d ≤ d') : Snd d' t r := by
  obtain ⟨h⟩ := h
  refine ⟨?_⟩
  cases t <;> cases r <;> first | trivial | skip
  · exact fun w A env h₀ L out ρ imm s C R => h w A env h₀ L out ρ imm s C (R.up hd)
  · exact ⟨h.1, fun w A env h₀ L out ρ imm s pos C R => h.2 w A env h₀ L out ρ imm s pos C (R.up hd)⟩
  · exact fun w A env h₀ L out ρ imm s C R => h w A env h₀ L out ρ imm s C (R.up hd)
  · exact fun w A env h₀ L out ρ imm s C R => h w A env h₀ L out ρ imm s C (R.up hd)
  · exact fun w A env h₀ L out ρ imm s C R => h w A env h₀ L out ρ imm s C (R.up hd)
  · exact fun w A env h₀ L out ρ imm s fr rs C R => h w A env h₀ L out ρ imm s fr rs C (R.up hd)
  · exact fun w A env h₀ L out ρ imm s fr rs C R => h w A env h₀ L out ρ imm s fr rs C (R.up hd)

/-- the same in one frame's own names -/
noncomputable def EAt (env : Env) (d : Nat) (e : Expr) (fr : Str → Option V) (hp : List O) (v : V) (hp' : List O) : Prop :=
  ∀ (w : World) (A : Around) (h₀ : Heap) (L : Addr) (out : Led) (ρ : List Addr) (imm : Led) (s : Shared), Cx w A h₀ L → Room d A → Own env L → St w env h₀ L s.heap ρ hp out imm fr →
    wpAny (model pR w) A (eval e env) (PV w env h₀ L out fr ρ imm s v hp') Fal s
noncomputable def EsAt (env : Env) (d : Nat) (es : List Expr) (fr : Str → Option V) (hp : List O) (l : List V) (hp' : List O) : Prop :=
  ∀ (w : World) (A : Around) (h₀ : Heap) (L : Addr) (out : Led) (ρ : List Addr) (imm : Led) (s : Shared) (pos : Pos), Cx w A h₀ L → Room d A → Own env L → St w env h₀ L s.heap ρ hp out imm fr →
    wpAny (model pR w) A (spliced (backTo pos (starEach es env))) (PVs w env h₀ L out fr ρ imm s l hp') Fal s
section
variable {env : Env} {d : Nat} {fr : Str → Option V} {hp hp₁ hp₂ hp₃ : List O} {sc : Scope}
theorem EAt.of {e : Expr} {v : V} (h : Snd d (.e e fr hp) (.v v hp₁)) : EAt env d e fr hp v hp₁ := fun w A h₀ L out ρ imm s C R _ S => h.go w A env h₀ L out ρ imm s C R S
theorem EsAt.nil : EsAt env d [] fr hp [] hp := fun w A h₀ L out ρ imm s pos C R _ S => spliced_none ⟨ρ, imm, _, s.toks, rfl, S, .refl _ _, .nil⟩
theorem EsAt.cons {e : Expr} {es : List Expr} {v : V} {l : List V} (hs : isStarred e = false) (h1 : EAt env d e fr hp v hp₁) (h2 : EsAt env d es fr hp₁ l hp₂) : EsAt env d (e :: es) fr hp (v :: l) hp₂ := by
  intro w A h₀ L out ρ imm s pos C R hL S
  first | refine spliced_more (wmV (h1 w A h₀ L out ρ imm s C R hL S) fun r ρ' imm' h' tk' S' x k => ?_) (star_cons hs es env) | refine spliced_more (wmF (h1 w A h₀ L out ρ imm s C R hL S) fun r ρ' imm' h' tk' S' x k => ?_) (star_cons hs es env) | refine spliced_more (wmS (h1 w A h₀ L out ρ imm s C R hL S) fun r ρ' imm' h' tk' S' x k => ?_) (star_cons hs es env)
  first | refine wmV (h2 w A h₀ L out ρ' imm' _ pos C R hL S') fun rs ρ'' imm'' h'' tk'' S'' y ks => ?_ | refine wmF (h2 w A h₀ L out ρ' imm' _ pos C R hL S') fun rs ρ'' imm'' h'' tk'' S'' y ks => ?_ | refine wmS (h2 w A h₀ L out ρ' imm' _ pos C R hL S') fun rs ρ'' imm'' h'' tk'' S'' y ks => ?_
  exact ⟨ρ'', imm'', h'', tk'', rfl, S'', x.trans y, .cons (k.mono y) ks⟩
theorem EAt.tup {es : List Expr} {k : Nat} {p : Pos} {l : List V} (h : EsAt env d es fr hp l hp₁) (hz : l.length ≤ 1000) : EAt env d (.Tuple es k p) fr hp (.tup l) hp₁ := by
  intro w A h₀ L out ρ imm s C R hL S
  first | refine Tuple_ (wmV (h w A h₀ L out ρ imm s p C R hL S) fun rs ρ' imm' h' tk' S' x ks => ?_) | refine Tuple_ (wmF (h w A h₀ L out ρ imm s p C R hL S) fun rs ρ' imm' h' tk' S' x ks => ?_) | refine Tuple_ (wmS (h w A h₀ L out ρ imm s p C R hL S) fun rs ρ' imm' h' tk' S' x ks => ?_)
  refine wpAny_newTuple ?_ (by rw [ks.length]; rw [sizeLine_eq]; (first | lia | omega))
  obtain ⟨S'', y⟩ := S'.tup (h' := h'.push (tupOf rs 0)) (fun b o e => Heap.get?_push_of_some _ e) (Heap.get?_none_of_le (Nat.le_refl _)) (Heap.get?_push_size _ rfl)
  exact .of S'' (x.trans y) (.tup (.head _) (ks.mono y))
theorem EAt.call {x : Str} {px p : Pos} {T : String} {e : Expr} {u v : V} (hx : fr x = some (.obj (.type T))) (hs : isStarred e = false) (h1 : EAt env d e fr hp u hp₁) (h2 : Snd d (.call (.type T) [u] hp₁) (.v v hp₂)) : EAt env d (.Call (.Name x px) [e] [] p) fr hp v hp₂ := by
  intro w A h₀ L out ρ imm s C R hL S
  first | refine Call_ (wmV ((snd_name (d := d) hx).go w A env h₀ L out ρ imm s C R S) fun r ρ₁ imm₁ h₁ tk₁ S₁ x₁ k₁ => ?_) | refine Call_ (wmF ((snd_name (d := d) hx).go w A env h₀ L out ρ imm s C R S) fun r ρ₁ imm₁ h₁ tk₁ S₁ x₁ k₁ => ?_) | refine Call_ (wmS ((snd_name (d := d) hx).go w A env h₀ L out ρ imm s C R S) fun r ρ₁ imm₁ h₁ tk₁ S₁ x₁ k₁ => ?_)
  (first | obtain ⟨_, rfl⟩ := VR.intI k₁ | obtain rfl := VR.objI k₁ | obtain rfl := VR.boolI k₁ | obtain ⟨_, rfl⟩ := VR.strI k₁ | obtain rfl := VR.noneI k₁ | obtain rfl := VRs.nilI k₁ | obtain rfl := FR.nxI k₁ | cases k₁)
  first | refine PyProof.Rows.callWith_type1 (wmV (EsAt.cons hs h1 EsAt.nil w A h₀ L out ρ₁ imm₁ _ p C R hL S₁) fun rs ρ₂ imm₂ h₂ tk₂ S₂ x₂ k₂ => ?_) (star_cons hs [] env) (star_any p env fun e' h' => nomatch h') | refine PyProof.Rows.callWith_type1 (wmF (EsAt.cons hs h1 EsAt.nil w A h₀ L out ρ₁ imm₁ _ p C R hL S₁) fun rs ρ₂ imm₂ h₂ tk₂ S₂ x₂ k₂ => ?_) (star_cons hs [] env) (star_any p env fun e' h' => nomatch h') | refine PyProof.Rows.callWith_type1 (wmS (EsAt.cons hs h1 EsAt.nil w A h₀ L out ρ₁ imm₁ _ p C R hL S₁) fun rs ρ₂ imm₂ h₂ tk₂ S₂ x₂ k₂ => ?_) (star_cons hs [] env) (star_any p env fun e' h' => nomatch h')
  exact wpAny_mono (h2.go w A env h₀ L out ρ₂ imm₂ _ fr rs C R S₂ k₂) (fun _ _ q => q.trans (x₁.trans x₂)) fun _ _ x => x
theorem EAt.comp {x : Str} {scope : Scope} {gl : List (Str × V)} {xs : List V} {elt iter : Expr} {px pos : Pos} {ct : Option Expr} {ifs : List Expr} (K : CompOk sc scope x fr gl) (hsrc : Src d iter fr hp xs hp₁) (hif : ifs = ct.toList) (Cp : Cps d hp₁.length x ct elt gl xs (hp₁ ++ [.list []]) hp₂) (hs : ∀ env v, foldedSetIterable iter env v = pure v)
    (hsc : env.scope = sc) : EAt env d (.ListComp elt [⟨.Name x px, iter, ifs, 0⟩] scope pos) fr hp (.ref hp₁.length) hp₂ :=
  fun w A h₀ L out ρ imm s C R hL S => comp_at K hsrc hif Cp hs C R hL hsc S
theorem snd_retE {e : Expr} {p : Pos} {v : V} (h : ∀ env, env.scope = sc → EAt env d e fr hp v hp₁) : Snd d (.s sc (.Return (some e) p) fr hp) (.f (.rt v) fr hp₁) := by
  refine ⟨?_⟩
  intro w A env h₀ L out ρ imm s C R hL hsc S
  first | refine wpAny_Return_some (wmV (h env hsc w A h₀ L out ρ imm s C R hL S) fun r ρ' imm' h' tk' S' x k => ?_) | refine wpAny_Return_some (wmF (h env hsc w A h₀ L out ρ imm s C R hL S) fun r ρ' imm' h' tk' S' x k => ?_) | refine wpAny_Return_some (wmS (h env hsc w A h₀ L out ρ imm s C R hL S) fun r ρ' imm' h' tk' S' x k => ?_)
  exact ⟨ρ', imm', h', tk', rfl, S', x, .rt k⟩
end

end

noncomputable def at_ (l : List Stmt) (n : Nat) : Stmt := l.getD n (.Pass default)
noncomputable def bodyF : Stmt → List Stmt
  | .FunctionDef _ _ b _ _ _ _ _ _ _ => b
  | _ => []
noncomputable def scopeF : Stmt → Scope
  | .FunctionDef _ _ _ _ _ _ s _ _ _ => s
  | _ => { kind := .function, names := [], isGenerator := false, isCoroutine := false }
noncomputable def clsB : Stmt → List Stmt
  | .ClassDef _ _ _ b _ _ _ _ _ _ _ => b
  | _ => []
/-- where the functions stand in the text -/
noncomputable def fnP : List (Addr × Nat × Option Nat) := ((60, 9, none) : Addr × Nat × Option Nat) ::
  ((67, 10, none) : Addr × Nat × Option Nat) ::
  ((81, 11, some 0) : Addr × Nat × Option Nat) ::
  ((88, 11, some 1) : Addr × Nat × Option Nat) ::
  ((102, 11, some 3) : Addr × Nat × Option Nat) ::
  ((109, 11, some 4) : Addr × Nat × Option Nat) ::
  ((123, 11, some 6) : Addr × Nat × Option Nat) ::
  ((195, 27, some 0) : Addr × Nat × Option Nat) ::
  ((202, 27, some 1) : Addr × Nat × Option Nat) ::
  ((209, 27, some 2) : Addr × Nat × Option Nat) ::
  ((230, 27, some 5) : Addr × Nat × Option Nat) ::
  ((244, 27, some 7) : Addr × Nat × Option Nat) ::
  ((258, 27, some 9) : Addr × Nat × Option Nat) ::
  ((279, 27, some 12) : Addr × Nat × Option Nat) ::
  ((286, 27, some 13) : Addr × Nat × Option Nat) ::
  ((293, 27, some 14) : Addr × Nat × Option Nat) ::
  ((300, 27, some 15) : Addr × Nat × Option Nat) ::
  ((307, 27, some 16) : Addr × Nat × Option Nat) ::
  ((371, 28, some 4) : Addr × Nat × Option Nat) ::
  ((378, 28, some 5) : Addr × Nat × Option Nat) ::
  ((390, 30, none) : Addr × Nat × Option Nat) ::
  ((397, 31, none) : Addr × Nat × Option Nat) ::
  ((404, 32, none) : Addr × Nat × Option Nat) ::
  ((411, 33, none) : Addr × Nat × Option Nat) ::
  ((418, 34, none) : Addr × Nat × Option Nat) ::
  ((425, 35, none) : Addr × Nat × Option Nat) ::
  ((432, 36, none) : Addr × Nat × Option Nat) ::
  ((439, 37, none) : Addr × Nat × Option Nat) ::
  ((446, 38, none) : Addr × Nat × Option Nat) ::
  ((453, 39, none) : Addr × Nat × Option Nat) ::
  ((460, 40, none) : Addr × Nat × Option Nat) ::
  ((467, 41, none) : Addr × Nat × Option Nat) ::
  ((474, 42, none) : Addr × Nat × Option Nat) ::
  ((481, 43, none) : Addr × Nat × Option Nat) ::
  ((488, 44, none) : Addr × Nat × Option Nat) ::
  ((495, 45, none) : Addr × Nat × Option Nat) ::
  ((502, 46, none) : Addr × Nat × Option Nat) ::
  ((517, 50, some 0) : Addr × Nat × Option Nat) ::
  ((524, 50, some 1) : Addr × Nat × Option Nat) ::
  ((531, 50, some 2) : Addr × Nat × Option Nat) ::
  ((573, 50, some 8) : Addr × Nat × Option Nat) ::
  ((580, 50, some 9) : Addr × Nat × Option Nat) ::
  ((671, 52, none) : Addr × Nat × Option Nat) ::
  ((676, 53, none) : Addr × Nat × Option Nat) ::
  ((681, 54, none) : Addr × Nat × Option Nat) :: []
noncomputable def fnS (f : Addr) : Stmt := match fnP.lookup f with
  | some (i, none) => at_ pR.main.body i
  | some (i, some j) => at_ (clsB (at_ pR.main.body i)) j
  | none => .Pass default
noncomputable def fnL : List (Addr × List Str) := ((60, []) : Addr × List Str) ::
  ((67, []) : Addr × List Str) ::
  ((81, ["self"]) : Addr × List Str) ::
  ((88, ["self", "text"]) : Addr × List Str) ::
  ((102, ["self", "atom", "arity"]) : Addr × List Str) ::
  ((109, ["self", "text", "arity"]) : Addr × List Str) ::
  ((123, ["self", "functor"]) : Addr × List Str) ::
  ((195, ["self", "symbols", "max_heap"]) : Addr × List Str) ::
  ((202, ["self", "cell"]) : Addr × List Str) ::
  ((209, ["self"]) : Addr × List Str) ::
  ((230, ["self", "cell"]) : Addr × List Str) ::
  ((244, ["self", "cell", "value"]) : Addr × List Str) ::
  ((258, ["self", "cell"]) : Addr × List Str) ::
  ((279, ["self", "i", "value"]) : Addr × List Str) ::
  ((286, ["self", "cell"]) : Addr × List Str) ::
  ((293, ["self", "cell"]) : Addr × List Str) ::
  ((300, ["self", "cell"]) : Addr × List Str) ::
  ((307, ["self", "cell"]) : Addr × List Str) ::
  ((371, ["self", "cell", "sizes"]) : Addr × List Str) ::
  ((378, ["self", "cell", "table"]) : Addr × List Str) ::
  ((390, ["m", "number"]) : Addr × List Str) ::
  ((397, ["m", "operand"]) : Addr × List Str) ::
  ((404, ["m", "operand", "cell"]) : Addr × List Str) ::
  ((411, ["m", "operand"]) : Addr × List Str) ::
  ((418, ["m", "count"]) : Addr × List Str) ::
  ((425, ["m", "ins"]) : Addr × List Str) ::
  ((432, ["m", "ins"]) : Addr × List Str) ::
  ((439, ["m", "ins"]) : Addr × List Str) ::
  ((446, ["m", "ins"]) : Addr × List Str) ::
  ((453, ["m", "ins"]) : Addr × List Str) ::
  ((460, ["m", "ins"]) : Addr × List Str) ::
  ((467, ["m", "ins"]) : Addr × List Str) ::
  ((474, ["m", "ins"]) : Addr × List Str) ::
  ((481, ["m", "ins"]) : Addr × List Str) ::
  ((488, ["m", "ins"]) : Addr × List Str) ::
  ((495, ["m", "ins"]) : Addr × List Str) ::
  ((502, ["m", "ins"]) : Addr × List Str) ::
  ((524, ["self"]) : Addr × List Str) ::
  ((531, ["self", "number", "cell"]) : Addr × List Str) ::
  ((573, ["self"]) : Addr × List Str) ::
  ((580, ["self", "size"]) : Addr × List Str) ::
  ((671, ["urn", "faces"]) : Addr × List Str) :: []
noncomputable def aoL : List (Addr × Str) := ((154, "texts") : Addr × Str) ::
  ((154, "atom_numbers") : Addr × Str) ::
  ((154, "functors") : Addr × Str) ::
  ((154, "functor_numbers") : Addr × Str) ::
  ((381, "symbols") : Addr × Str) ::
  ((381, "max_heap") : Addr × Str) ::
  ((381, "heap") : Addr × Str) ::
  ((381, "stack") : Addr × Str) ::
  ((381, "trail") : Addr × Str) ::
  ((381, "hb") : Addr × Str) ::
  ((381, "bb") : Addr × Str) ::
  ((660, "symbols") : Addr × Str) ::
  ((660, "code") : Addr × Str) ::
  ((660, "max_heap") : Addr × Str) ::
  ((660, "occurs") : Addr × Str) ::
  ((660, "max_bits") : Addr × Str) ::
  ((660, "store") : Addr × Str) ::
  ((660, "x") : Addr × Str) ::
  ((660, "p") : Addr × Str) ::
  ((660, "cp") : Addr × Str) ::
  ((660, "e") : Addr × Str) ::
  ((660, "b") : Addr × Str) ::
  ((660, "b0") : Addr × Str) ::
  ((660, "mode") : Addr × Str) ::
  ((660, "s") : Addr × Str) ::
  ((660, "guard") : Addr × Str) ::
  ((660, "roots") : Addr × Str) ::
  ((660, "bags") : Addr × Str) ::
  ((660, "collect_wanted") : Addr × Str) :: []
noncomputable def moL : List ((Addr × Str) × Addr) := (((154, "atom"), 88) : (Addr × Str) × Addr) ::
  (((154, "functor"), 102) : (Addr × Str) × Addr) ::
  (((154, "func"), 109) : (Addr × Str) × Addr) ::
  (((154, "arity"), 123) : (Addr × Str) × Addr) ::
  (((381, "push"), 202) : (Addr × Str) × Addr) ::
  (((381, "new_var"), 209) : (Addr × Str) × Addr) ::
  (((381, "deref"), 230) : (Addr × Str) × Addr) ::
  (((381, "bind"), 244) : (Addr × Str) × Addr) ::
  (((381, "globalise"), 258) : (Addr × Str) × Addr) ::
  (((381, "stack_put"), 279) : (Addr × Str) × Addr) ::
  (((381, "is_compound"), 286) : (Addr × Str) × Addr) ::
  (((381, "functor_of"), 293) : (Addr × Str) × Addr) ::
  (((381, "width"), 300) : (Addr × Str) × Addr) ::
  (((381, "base"), 307) : (Addr × Str) × Addr) ::
  (((381, "whole_size"), 371) : (Addr × Str) × Addr) ::
  (((381, "take_term"), 378) : (Addr × Str) × Addr) ::
  (((660, "reset"), 524) : (Addr × Str) × Addr) ::
  (((660, "set_x"), 531) : (Addr × Str) × Addr) ::
  (((660, "top"), 573) : (Addr × Str) × Addr) ::
  (((660, "push_environment"), 580) : (Addr × Str) × Addr) :: []
noncomputable def coL : List (Addr × Addr) := [(154, 81), (381, 195), (660, 517)]
noncomputable def kpL : List Addr := [60, 67, 88, 102, 109, 123, 154, 202, 209, 230, 244, 258, 279, 286, 293, 300, 307, 371, 378, 381, 390, 397, 404, 411, 418, 425, 432, 439, 446, 453, 460, 467, 474, 481, 488, 495, 502, 524, 531, 573, 580, 660, 671, 676]
noncomputable def giL : List (Str × Int) := (("REF", 0) : Str × Int) ::
  (("SRF", 1) : Str × Int) ::
  (("STR", 2) : Str × Int) ::
  (("LIS", 3) : Str × Int) ::
  (("CON", 4) : Str × Int) ::
  (("INT", 5) : Str × Int) ::
  (("FUN", 6) : Str × Int) ::
  (("VISIT", 0) : Str × Int) ::
  (("BUILD", 1) : Str × Int) ::
  (("F_DOT", 0) : Str × Int) ::
  (("A_NIL", 0) : Str × Int) ::
  (("F_CALL1", 24) : Str × Int) ::
  (("EXTRA", 8) : Str × Int) :: []
noncomputable def grL : List (Str × Addr) := (("VOID", 180) : Str × Addr) ::
  (("Symbols", 154) : Str × Addr) ::
  (("Store", 381) : Str × Addr) ::
  (("Areas", 660) : Str × Addr) ::
  (("fixed_atoms", 60) : Str × Addr) ::
  (("fixed_functors", 67) : Str × Addr) ::
  (("slot_index", 390) : Str × Addr) ::
  (("read", 397) : Str × Addr) ::
  (("write", 404) : Str × Addr) ::
  (("push_local", 411) : Str × Addr) ::
  (("push_variables", 418) : Str × Addr) ::
  (("put_variable", 425) : Str × Addr) ::
  (("put_void", 432) : Str × Addr) ::
  (("put_value", 439) : Str × Addr) ::
  (("put_unsafe_value", 446) : Str × Addr) ::
  (("put_constant", 453) : Str × Addr) ::
  (("put_list", 460) : Str × Addr) ::
  (("put_structure", 467) : Str × Addr) ::
  (("set_variable", 474) : Str × Addr) ::
  (("set_value", 481) : Str × Addr) ::
  (("set_local_value", 488) : Str × Addr) ::
  (("set_constant", 495) : Str × Addr) ::
  (("set_void", 502) : Str × Addr) ::
  (("_law_pick", 671) : Str × Addr) ::
  (("_law_counted", 676) : Str × Addr) :: []
/-- what the frozen heap holds -/
class HasF [HasK] : Prop where
  ao : ∀ c x, (c, x) ∈ aoL → AttrOk c x
  mo : ∀ c x f, moL.lookup (c, x) = some f → MethOk c x f
  so : ∀ c x, (c, x) ∈ aoL → SetOk c x
  co : ∀ c f, (c, f) ∈ coL → ClsOk c f
  kp : ∀ f, f ∈ kpL → ∀ w : World, keepIn (HasK.heap w.params) (.ref f) = true
  gi : ∀ x i, (x, i) ∈ giL → GOk x (.int i)
  gr : ∀ x f, (x, f) ∈ grL → GOk x (.obj (.ref f))
  gREAD : GOk "READ" (.str "read")
  glen : GOk "len" (.obj (.builtin "len"))
  grange : GOk "range" (.obj (.type "range"))
  gabs : GOk "abs" (.obj (.builtin "abs"))
  gint : GOk "int" (.obj (.type "int"))
  gtuple : GOk "tuple" (.obj (.type "tuple"))
  fn : ∀ f ps, (f, ps) ∈ fnL → FnAt f ps [] (bodyF (fnS f)) (scopeF (fnS f))
  fM : FnAt 517 ["self", "symbols", "code", "max_heap", "occurs", "max_bits"] [.int 100000, .bool true, .int 4096] (bodyF (fnS 517)) (scopeF (fnS 517))
  fC : FnAtC 676 ["tree", "seen"] [] (bodyF (fnS 676)) (scopeF (fnS 676))
  fL : FnAtC 681 ["script"] [] (bodyF (fnS 681)) (scopeF (fnS 681))


section
variable [HasK] [HasF]
omit [HasK] [HasF] in
theorem len1 {p : Str} {rs : List Value} (h : rs.length + ([] : List V).length = [p].length) : ∃ a, rs = [a] := by
  match rs, h with
  | [a], _ => exact ⟨a, rfl⟩
omit [HasK] [HasF] in
theorem len2 {p q : Str} {rs : List Value} (h : rs.length + ([] : List V).length = [p, q].length) : ∃ a b, rs = [a, b] := by
  match rs, h with
  | [a, b], _ => exact ⟨a, b, rfl⟩
omit [HasK] [HasF] in
theorem len3 {p q r : Str} {rs : List Value} (h : rs.length + ([] : List V).length = [p, q, r].length) : ∃ a b c, rs = [a, b, c] := by
  match rs, h with
  | [a, b, c], _ => exact ⟨a, b, c, rfl⟩
omit [HasF] in
theorem snd_ifT' {d : Nat} {sc : Scope} {fr fr₂ : Str → Option V} {hp hp₁ hp₂ : List O} {fl : Fl} {t : Expr} {b₁ b₂ : List Stmt} {p : Pos} {b : Bool} (h : Snd d (.t t fr hp) (.b b hp₁)) (hb : b = true) (h1 : Snd d (.ss sc b₁ fr hp₁) (.f fl fr₂ hp₂)) : Snd d (.s sc (.If t b₁ b₂ p) fr hp) (.f fl fr₂ hp₂) := by subst hb; exact snd_ifT h h1
omit [HasF] in
theorem snd_ifF' {d : Nat} {sc : Scope} {fr fr₂ : Str → Option V} {hp hp₁ hp₂ : List O} {fl : Fl} {t : Expr} {b₁ b₂ : List Stmt} {p : Pos} {b : Bool} (h : Snd d (.t t fr hp) (.b b hp₁)) (hb : b = false) (h1 : Snd d (.ss sc b₂ fr hp₁) (.f fl fr₂ hp₂)) : Snd d (.s sc (.If t b₁ b₂ p) fr hp) (.f fl fr₂ hp₂) := by subst hb; exact snd_ifF h h1

theorem g_REF : GOk "REF" (.int 0) := HasF.gi _ _ (by decide)
theorem g_SRF : GOk "SRF" (.int 1) := HasF.gi _ _ (by decide)
theorem g_STR : GOk "STR" (.int 2) := HasF.gi _ _ (by decide)
theorem g_LIS : GOk "LIS" (.int 3) := HasF.gi _ _ (by decide)
theorem g_CON : GOk "CON" (.int 4) := HasF.gi _ _ (by decide)
theorem g_INT : GOk "INT" (.int 5) := HasF.gi _ _ (by decide)
theorem g_FUN : GOk "FUN" (.int 6) := HasF.gi _ _ (by decide)
theorem g_VISIT : GOk "VISIT" (.int 0) := HasF.gi _ _ (by decide)
theorem g_BUILD : GOk "BUILD" (.int 1) := HasF.gi _ _ (by decide)
theorem g_F_DOT : GOk "F_DOT" (.int 0) := HasF.gi _ _ (by decide)
theorem g_A_NIL : GOk "A_NIL" (.int 0) := HasF.gi _ _ (by decide)
theorem g_F_CALL1 : GOk "F_CALL1" (.int 24) := HasF.gi _ _ (by decide)
theorem g_EXTRA : GOk "EXTRA" (.int 8) := HasF.gi _ _ (by decide)
theorem g_READ : GOk "READ" (.str "read") := HasF.gREAD
theorem g_VOID : GOk "VOID" (.obj (.ref 180)) := (HasF.gr _ _ (by decide))
theorem g_len : GOk "len" (.obj (.builtin "len")) := HasF.glen
theorem g_range : GOk "range" (.obj (.type "range")) := HasF.grange
theorem g_abs : GOk "abs" (.obj (.builtin "abs")) := HasF.gabs
theorem g_int : GOk "int" (.obj (.type "int")) := HasF.gint
theorem g_tuple : GOk "tuple" (.obj (.type "tuple")) := HasF.gtuple

/-- the book ahead of all else -/
noncomputable abbrev HpB (o0 o1 : O) (T : List V) (At : List (Str × V)) (F : List V) (Fn : List (List Int × V)) (rest : List O) : List O :=
  o0 :: o1 :: .inst 154 [("texts", .ref 3), ("atom_numbers", .ref 4), ("functors", .ref 5), ("functor_numbers", .ref 6)] :: .list T :: .dS At :: .list F :: .dT Fn :: rest
/-- the book and the machine -/
noncomputable abbrev Hp (o0 o1 : O) (T : List V) (At : List (Str × V)) (F : List V) (Fn : List (List Int × V)) (o7 : O) (C K X : List V) (e : Int) (rest : List O) : List O :=
  HpB o0 o1 T At F Fn (o7 ::
  .inst 660 [("symbols", .ref 2), ("code", .ref 7), ("max_heap", .int 100000), ("occurs", .bool true), ("max_bits", .int 4096), ("store", .ref 9), ("x", .ref 13), ("p", .int 0), ("cp", .int 1), ("e", .int e), ("b", .int (-1)), ("b0", .int (-1)), ("mode", .str "read"), ("s", .int 0), ("guard", .obj (.ref 180)), ("roots", .ref 14), ("bags", .ref 15), ("collect_wanted", .bool false)] ::
  .inst 381 [("symbols", .ref 2), ("max_heap", .int 100000), ("heap", .ref 10), ("stack", .ref 11), ("trail", .ref 12), ("hb", .int 0), ("bb", .int 0)] ::
  .list C :: .list K :: .list [] :: .list X :: rest)
noncomputable abbrev REFc (i : Int) : V := .tup [.int 0, .int i]
omit [HasF] in
theorem gl_cons {p : Str × V} {l : List (Str × V)} (h : GOk p.1 p.2) (k : ∀ p ∈ l, GOk p.1 p.2) : ∀ q ∈ p :: l, GOk q.1 q.2 := fun q hq => by
  rcases List.mem_cons.mp hq with rfl | hq
  · exact h
  · exact k q hq
omit [HasF] in
theorem gl_nil : ∀ q ∈ ([] : List (Str × V)), GOk q.1 q.2 := fun q hq => nomatch hq


end

local macro_rules | `(tactic| walk_at "m ao") => `(tactic| exact HasF.ao _ _ (by decide))
local macro_rules | `(tactic| walk_at "m mo") => `(tactic| first | exact HasF.mo _ _ _ rfl | exact HasF.so _ _ (by decide))
local macro_rules | `(tactic| walk_at "m fn1") => `(tactic| exact HasF.fn _ _ (by decide))
local macro_rules | `(tactic| walk_at "m fn2") => `(tactic| exact HasF.fn _ _ (by decide))
local macro_rules | `(tactic| walk_at "m fn3") => `(tactic| exact HasF.fn _ _ (by decide))
local macro_rules | `(tactic| walk_at "m es") => `(tactic| first | apply snd_nil | (apply snd_cons; rfl; walk_at "m e"; walk_at "m es"))
local macro_rules | `(tactic| walk_at "m lt") => `(tactic| first | assumption | (first | lia | omega) | decide | (simp <;> done) | (simp; (first | lia | omega)))
local macro_rules | `(tactic| walk_at "m kept") => `(tactic| first | exact .inl ⟨_, rfl⟩ | exact .inr (.inl ⟨_, rfl⟩) | exact .inr (.inr (HasF.kp _ (by decide))))
local macro_rules | `(tactic| walk_at "m meth") => `(tactic| first
  | exact Meth.lst rfl PySem.F.slot_list_append PySem.F.type_list_append
  | exact Meth.lst rfl PySem.F.slot_list_pop PySem.F.type_list_pop
  | exact Meth.dS rfl PySem.F.slot_dict_get PySem.F.type_dict_get
  | exact Meth.dT rfl PySem.F.slot_dict_get PySem.F.type_dict_get
  | (apply Meth.own; rfl; rfl; walk_at "m mo"))
local macro_rules | `(tactic| walk_at "m call") => `(tactic| first
  | (apply sndb_lenL; rfl; walk_at "m lt")
  | (apply sndb_append; rfl; walk_at "m lt")
  | (apply sndb_getS; rfl)
  | (apply sndb_getT; rfl))
local macro_rules | `(tactic| walk_at "m sub") => `(tactic| first
  | exact .tup (by decide) (by decide) rfl
  | (apply SubI.lst; rfl; walk_at "m lt"; walk_at "m lt"; first | rfl | assumption)
  | (apply SubI.dI; rfl; first | rfl | assumption))
local macro_rules | `(tactic| walk_at "m e") => `(tactic| first
  | (apply snd_name; rfl)
  | apply snd_cint | apply snd_cstr | apply snd_cbool | apply snd_cnone
  | (apply snd_attr; walk_at "m e"; rfl; rfl; walk_at "m ao"; rfl; exact fun _ => rfl)
  | (apply snd_bin; walk_at "m e"; walk_at "m e"; first | exact .add _ _ | exact .sub _ _ | exact .mod _ _ (by walk_at "m lt"))
  | (apply snd_neg; walk_at "m e")
  | (apply snd_tup; walk_at "m es"; exact Nat.le_of_ble_eq_true rfl)
  | (apply snd_list; walk_at "m es"; exact Nat.le_of_ble_eq_true rfl)
  | (apply snd_sub; walk_at "m e"; walk_at "m e"; walk_at "m sub"; rfl)
  | (apply snd_ecall; rfl; walk_at "m kept"; walk_at "m es"; walk_at "m call")
  | (apply snd_ecall0; rfl; walk_at "m kept"; walk_at "m call")
  | (apply snd_mcall; walk_at "m e"; walk_at "m meth"; walk_at "m es"; walk_at "m call"; exact fun _ => ⟨_, rfl⟩)
  | (apply snd_mcall0; walk_at "m e"; walk_at "m meth"; walk_at "m call"; exact fun _ => ⟨_, rfl⟩)
  | (apply snd_ecmp; walk_at "m e"; walk_at "m e"; walk_at "m cmp"; rfl))
local macro_rules | `(tactic| walk_at "m cmp") => `(tactic| first | exact .eqI _ _ _ | exact .ltI _ _ _ | exact .gtI _ _ _ | exact .leI _ _ _ | exact .geI _ _ _ | exact .neI _ _ _ | exact .eqS _ _ _)
local macro_rules | `(tactic| walk_at "m t") => `(tactic| first
  | (apply snd_tcmp; walk_at "m e"; walk_at "m e"; walk_at "m cmp"; rfl)
  | (apply snd_tpl; walk_at "m e"; rfl))
local macro_rules | `(tactic| walk_at "m s") => `(tactic| first
  | (apply snd_expr; walk_at "m e"; exact fun _ => rfl)
  | (apply snd_asg; walk_at "m e"; exact .inl rfl; rfl; exact fun _ => rfl)
  | (apply snd_setattr; walk_at "m e"; walk_at "m e"; rfl; walk_at "m mo"; exact Nat.le_of_ble_eq_true rfl; exact fun _ => rfl)
  | apply snd_cont)
local macro_rules | `(tactic| walk_at "m ss") => `(tactic| first
  | apply snd_end
  | (apply snd_stop; apply snd_ret; walk_at "m e"; exact fun h => nomatch h)
  | (apply snd_stop; apply snd_ret0; exact fun h => nomatch h)
  | (apply snd_seq; walk_at "m s"))
local macro_rules | `(tactic| walk_at "m dec") => `(tactic| first | assumption | (simp <;> done) | (simp; (first | lia | omega)) | (simp [*] <;> done) | rfl)
local macro_rules | `(tactic| walk_at "m ifF") => `(tactic| (apply snd_seq; apply snd_ifF'; walk_at "m t"; walk_at "m dec"))
local macro_rules | `(tactic| walk_at "m ifT") => `(tactic| (apply snd_seq; apply snd_ifT'; walk_at "m t"; walk_at "m dec"))
local macro_rules | `(tactic| walk_at "m ifFs") => `(tactic| (apply snd_stop; apply snd_ifF'; walk_at "m t"; walk_at "m dec"))
local macro_rules | `(tactic| walk_at "m ifTs") => `(tactic| (apply snd_stop; apply snd_ifT'; walk_at "m t"; walk_at "m dec"))
local macro_rules | `(tactic| walk_at "m wk") => `(tactic| exact sub_all rfl)
local macro_rules | `(tactic| walk_at "m seti") => `(tactic| first | (apply SetI.lst; rfl; walk_at "m lt"; walk_at "m lt"; walk_at "m lt") | (apply SetI.dI; rfl; walk_at "m lt") | (apply SetI.dS; rfl; walk_at "m lt"))
local macro_rules | `(tactic| walk_at "m s") => `(tactic| (apply snd_setitem; walk_at "m e"; walk_at "m e"; walk_at "m e"; walk_at "m seti"; exact fun _ => rfl))
local macro_rules | `(tactic| walk_at "m rng") => `(tactic| first | exact .one _ | exact .two _ _)

section
variable [HasK] [HasF]
section
variable {d : Nat} {o0 o1 o7 : O} {T F C K X : List V} {At : List (Str × V)} {Fn : List (List Int × V)} {e : Int} {rest : List O}
theorem sp_slot {j : Int} : Snd (d + 1) (.call (.ref 390) [.ref 8, .int j] (Hp o0 o1 T At F Fn o7 C K X e rest)) (.v (.int (e + 1 + j)) (Hp o0 o1 T At F Fn o7 C K X e rest)) := by
  apply snd_call (ps := ["m", "number"]) (ds := []) (gl := [])
  case H => walk_at "m fn2"
  case hn => rfl
  case hg => exact gl_nil
  case hg2 => rfl
  case h => walk_at "m ss"
  case hb => constructor
theorem sp_push {c : V} (hz : C.length < 10000) : Snd (d + 1) (.call (.ref 202) [.ref 9, c] (Hp o0 o1 T At F Fn o7 C K X e rest)) (.v (.int C.length) (Hp o0 o1 T At F Fn o7 (C ++ [c]) K X e rest)) := by
  apply snd_call (ps := ["self", "cell"]) (ds := []) (gl := [("len", .obj (.builtin "len"))])
  case H => walk_at "m fn2"
  case hn => rfl
  case hg => exact gl_cons g_len gl_nil
  case hg2 => rfl
  case h =>
    walk_at "m ss"
    walk_at "m ifF"
    walk_at "m ss"
    walk_at "m ss"
    walk_at "m ss"
  case hb => constructor
local macro_rules | `(tactic| walk_at "m call") => `(tactic| first | (apply sp_push; walk_at "m lt") | apply sp_slot)
theorem sp_newvar (hz : C.length < 10000) : Snd (d + 2) (.call (.ref 209) [.ref 9] (Hp o0 o1 T At F Fn o7 C K X e rest)) (.v (REFc C.length) (Hp o0 o1 T At F Fn o7 (C ++ [REFc C.length]) K X e rest)) := by
  apply snd_call (ps := ["self"]) (ds := []) (gl := [("len", .obj (.builtin "len")), ("REF", .int 0)])
  case H => walk_at "m fn1"
  case hn => rfl
  case hg => exact gl_cons g_len (gl_cons g_REF gl_nil)
  case hg2 => rfl
  case h =>
    walk_at "m ss"
    walk_at "m ss"
    walk_at "m ss"
  case hb => constructor
end

end

section
variable [HasK] [HasF]
noncomputable abbrev cel (t a : Int) : V := .tup [.int t, .int a]
omit [HasK] [HasF] in
theorem pv_cel (t a : Int) : pv 40 (cel t a) = true := rfl
omit [HasK] [HasF] in
theorem cel_eq {t a t' a' : Int} : cel t a = cel t' a' ↔ t = t' ∧ a = a' := by simp
/-- where a cell leads -/
inductive Der (C K : List V) : Int → Int → Int → Int → Prop
  | rs {a : Int} : 0 ≤ a → a < 2 ^ 60 → C[a.toNat]? = some (cel 0 a) → Der C K 0 a 0 a
  | rn {a t' a' r s : Int} : 0 ≤ a → a < 2 ^ 60 → C[a.toNat]? = some (cel t' a') → ¬ (t' = 0 ∧ a' = a) → Der C K t' a' r s → Der C K 0 a r s
  | ss {a : Int} : 0 ≤ a → a < 2 ^ 60 → K[a.toNat]? = some (cel 1 a) → Der C K 1 a 1 a
  | sn {a t' a' r s : Int} : 0 ≤ a → a < 2 ^ 60 → K[a.toNat]? = some (cel t' a') → ¬ (t' = 1 ∧ a' = a) → Der C K t' a' r s → Der C K 1 a r s
  | v {t a : Int} : t ≠ 0 → t ≠ 1 → Der C K t a t a
section
variable {d : Nat} {o0 o1 o7 : O} {T F C K X : List V} {At : List (Str × V)} {Fn : List (List Int × V)} {e : Int} {rest : List O}
theorem sp_deref {t a r s : Int} (h : Der C K t a r s) : Snd (d + 1) (.call (.ref 230) [.ref 9, cel t a] (Hp o0 o1 T At F Fn o7 C K X e rest)) (.v (cel r s) (Hp o0 o1 T At F Fn o7 C K X e rest)) := by
  apply snd_call (ps := ["self", "cell"]) (ds := []) (gl := [("REF", .int 0), ("SRF", .int 1)]) (fl := .rt (cel r s)) (fr' := nofr)
  case H => walk_at "m fn2"
  case hn => rfl
  case hg => exact gl_cons g_REF (gl_cons g_SRF gl_nil)
  case hg2 => rfl
  case hb => constructor
  case h =>
    apply snd_weakI (fr₁ := lk [("cell", cel t a), ("self", .ref 9), ("REF", .int 0), ("SRF", .int 1)])
    · apply snd_stop
      · apply snd_whileE
        induction h with
        | rs h0 h1 h2 =>
          apply whl_ret
          · walk_at "m t"
          · walk_at "m ss"
            walk_at "m ifT"
            walk_at "m ss"
            walk_at "m ss"
            apply snd_stop
            apply snd_ifT'
            · apply snd_tcmp
              walk_at "m e"
              walk_at "m e"
              exact .eqT (b := true) rfl rfl (by simp)
              rfl
            · rfl
            · walk_at "m ss"
            · exact fun h => nomatch h
        | rn h0 h1 h2 h3 _ ih =>
          apply whl_turn (h3 := ih)
          · walk_at "m t"
          · walk_at "m ss"
            walk_at "m ifT"
            walk_at "m ss"
            walk_at "m ss"
            apply snd_seq
            apply snd_ifF'
            · apply snd_tcmp
              walk_at "m e"
              walk_at "m e"
              exact .eqT (b := false) rfl rfl (by simp; (first | lia | omega))
              rfl
            · rfl
            · walk_at "m ss"
            walk_at "m ss"
            walk_at "m ss"
          · exact .inl rfl
          · walk_at "m wk"
        | ss h0 h1 h2 =>
          apply whl_ret
          · walk_at "m t"
          · walk_at "m ss"
            walk_at "m ifF"
            walk_at "m ifT"
            walk_at "m ss"
            walk_at "m ss"
            walk_at "m ss"
            apply snd_stop
            apply snd_ifT'
            · apply snd_tcmp
              walk_at "m e"
              walk_at "m e"
              exact .eqT (b := true) rfl rfl (by simp)
              rfl
            · rfl
            · walk_at "m ss"
            · exact fun h => nomatch h
        | sn h0 h1 h2 h3 _ ih =>
          apply whl_turn (h3 := ih)
          · walk_at "m t"
          · walk_at "m ss"
            walk_at "m ifF"
            walk_at "m ifT"
            walk_at "m ss"
            walk_at "m ss"
            walk_at "m ss"
            apply snd_seq
            apply snd_ifF'
            · apply snd_tcmp
              walk_at "m e"
              walk_at "m e"
              exact .eqT (b := false) rfl rfl (by simp; (first | lia | omega))
              rfl
            · rfl
            · walk_at "m ss"
            walk_at "m ss"
            walk_at "m ss"
          · exact .inl rfl
          · walk_at "m wk"
        | v h0 h1 =>
          apply whl_ret
          · walk_at "m t"
          · walk_at "m ss"
            walk_at "m ifFs"
            walk_at "m ifFs"
            walk_at "m ss"
            exact fun h => nomatch h
            exact fun h => nomatch h
      · exact fun h => nomatch h
    · walk_at "m wk"

local macro_rules | `(tactic| walk_at "m call") => `(tactic| first | (apply sp_push; walk_at "m lt") | (apply sp_newvar; walk_at "m lt") | apply sp_slot | (apply sp_deref; assumption))
theorem sp_bindS {a : Int} {v : V} (h0 : 0 ≤ a) (h1 : a < K.length) (h2 : K.length < 1000) : Snd (d + 1) (.call (.ref 244) [.ref 9, cel 1 a, v] (Hp o0 o1 T At F Fn o7 C K X e rest)) (.v .none (Hp o0 o1 T At F Fn o7 C (K.set a.toNat v) X e rest)) := by
  apply snd_call (ps := ["self", "cell", "value"]) (ds := []) (gl := [("REF", .int 0)])
  case H => walk_at "m fn3"
  case hn => rfl
  case hg => exact gl_cons g_REF gl_nil
  case hg2 => rfl
  case h =>
    walk_at "m ss"
    walk_at "m ifF"
    walk_at "m ss"
    walk_at "m ifF"
    walk_at "m ss"
    walk_at "m ss"
    walk_at "m ss"
  case hb => constructor
theorem sp_globV {t a r s : Int} (h : Der C K t a r s) (hr : r ≠ 1) : Snd (d + 3) (.call (.ref 258) [.ref 9, cel t a] (Hp o0 o1 T At F Fn o7 C K X e rest)) (.v (cel r s) (Hp o0 o1 T At F Fn o7 C K X e rest)) := by
  apply snd_call (ps := ["self", "cell"]) (ds := []) (gl := [("SRF", .int 1)])
  case H => walk_at "m fn2"
  case hn => rfl
  case hg => exact gl_cons g_SRF gl_nil
  case hg2 => rfl
  case h =>
    walk_at "m ss"
    walk_at "m ifF"
    walk_at "m ss"
    walk_at "m ss"
  case hb => constructor
theorem sp_globS {t a s : Int} (h : Der C K t a 1 s) (h0 : 0 ≤ s) (h1 : s < K.length) (h2 : K.length < 1000) (hz : C.length < 10000) : Snd (d + 3) (.call (.ref 258) [.ref 9, cel t a] (Hp o0 o1 T At F Fn o7 C K X e rest)) (.v (cel 0 C.length) (Hp o0 o1 T At F Fn o7 (C ++ [cel 0 C.length]) (K.set s.toNat (cel 0 C.length)) X e rest)) := by
  apply snd_call (ps := ["self", "cell"]) (ds := []) (gl := [("SRF", .int 1)])
  case H => walk_at "m fn2"
  case hn => rfl
  case hg => exact gl_cons g_SRF gl_nil
  case hg2 => rfl
  case h =>
    walk_at "m ss"
    apply snd_stop
    apply snd_ifT'
    walk_at "m t"
    walk_at "m dec"
    walk_at "m ss"
    apply snd_seq
    apply snd_expr
    apply snd_mcall
    walk_at "m e"
    walk_at "m meth"
    walk_at "m es"
    exact sp_bindS h0 h1 h2
    exact fun _ => ⟨_, rfl⟩
    exact fun _ => rfl
    walk_at "m ss"
    exact fun h => nomatch h
  case hb => constructor
theorem sp_sputS {i : Int} {v : V} (h0 : 0 ≤ i) (h1 : i < K.length) (h2 : K.length < 1000) : Snd (d + 1) (.call (.ref 279) [.ref 9, .int i, v] (Hp o0 o1 T At F Fn o7 C K X e rest)) (.v .none (Hp o0 o1 T At F Fn o7 C (K.set i.toNat v) X e rest)) := by
  apply snd_call (ps := ["self", "i", "value"]) (ds := []) (gl := [("len", .obj (.builtin "len")), ("VOID", .obj (.ref 180))])
  case H => walk_at "m fn3"
  case hn => rfl
  case hg => exact gl_cons g_len (gl_cons g_VOID gl_nil)
  case hg2 => rfl
  case h =>
    walk_at "m ss"
    walk_at "m ifTs"
    walk_at "m ss"
    walk_at "m ss"
    exact fun h => nomatch h
  case hb => constructor
theorem sp_sputA {v : V} (h2 : K.length < 1000) : Snd (d + 1) (.call (.ref 279) [.ref 9, .int K.length, v] (Hp o0 o1 T At F Fn o7 C K X e rest)) (.v .none (Hp o0 o1 T At F Fn o7 C (K ++ [v]) X e rest)) := by
  apply snd_call (ps := ["self", "i", "value"]) (ds := []) (gl := [("len", .obj (.builtin "len")), ("VOID", .obj (.ref 180))])
  case H => walk_at "m fn3"
  case hn => rfl
  case hg => exact gl_cons g_len (gl_cons g_VOID gl_nil)
  case hg2 => rfl
  case h =>
    walk_at "m ss"
    walk_at "m ifF"
    walk_at "m ss"
    apply snd_seq
    · apply snd_whileE
      apply whl_stop
      apply snd_tcmp
      walk_at "m e"
      walk_at "m e"
      exact cmp_as (.ltI _ _ _) (by simp)
      rfl
    walk_at "m ss"
    walk_at "m ss"
  case hb => constructor
end

end

section
variable [HasK] [HasF]
local macro_rules | `(tactic| walk_at "m call") => `(tactic| first | (apply sp_push; walk_at "m lt") | (apply sp_newvar; walk_at "m lt") | apply sp_slot | (apply sp_deref; assumption))
noncomputable abbrev VD : V := .obj (.ref 180)
noncomputable def padX (X : List V) (n : Nat) : List V := X ++ List.replicate (n + 1 - X.length) VD
omit [HasK] [HasF] in
theorem padX_stop {X : List V} {n : Nat} (h : n + 1 - X.length = 0) : padX X n = X := by simp [padX, h]
omit [HasK] [HasF] in
theorem padX_turn {X : List V} {n k : Nat} (h : n + 1 - X.length = k + 1) : padX (X ++ [VD]) n = padX X n := by
  unfold padX
  rw [List.length_append, h]
  have : n + 1 - (X.length + [VD].length) = k := by simp; (first | lia | omega)
  rw [this, List.replicate_succ]; simp
section
variable {d : Nat} {o0 o1 o7 : O} {T F C K X : List V} {At : List (Str × V)} {Fn : List (List Int × V)} {e : Int} {rest : List O}
theorem sp_setx {n : Nat} {c : V} (hn : n < 10) (hX : X.length ≤ 10) : Snd (d + 1) (.call (.ref 531) [.ref 8, .int n, c] (Hp o0 o1 T At F Fn o7 C K X e rest)) (.v .none (Hp o0 o1 T At F Fn o7 C K ((padX X n).set n c) e rest)) := by
  apply snd_call (ps := ["self", "number", "cell"]) (ds := []) (gl := [("len", .obj (.builtin "len")), ("VOID", .obj (.ref 180))])
  case H => walk_at "m fn3"
  case hn => rfl
  case hg => exact gl_cons g_len (gl_cons g_VOID gl_nil)
  case hg2 => rfl
  case hb => constructor
  case h =>
    apply snd_seq (fr₁ := lk [("self", .ref 8), ("number", .int n), ("cell", c), ("len", .obj (.builtin "len")), ("VOID", .obj (.ref 180))]) (hp₁ := Hp o0 o1 T At F Fn o7 C K (padX X n) e rest)
    · apply snd_whileE
      induction hk : n + 1 - X.length generalizing X with
      | zero =>
        rw [padX_stop hk]
        apply whl_stop
        apply snd_tcmp
        walk_at "m e"
        walk_at "m e"
        exact cmp_as (.leI _ _ _) (by simp; (first | lia | omega))
        rfl
      | succ k ih =>
        have := ih (X := X ++ [VD]) (by simp; (first | lia | omega)) (by simp; (first | lia | omega))
        rw [padX_turn hk] at this
        apply whl_turn (h3 := this)
        · apply snd_tcmp
          walk_at "m e"
          walk_at "m e"
          exact cmp_as (.leI _ _ _) (by simp; (first | lia | omega))
          rfl
        · walk_at "m ss"
          walk_at "m ss"
        · exact .inl rfl
        · exact fun _ _ h => h
    · have hl : (padX X n).length ≤ 11 := by simp [padX]; (first | lia | omega)
      have hl2 : n < (padX X n).length := by simp [padX]; (first | lia | omega)
      walk_at "m ss"
      walk_at "m ss"
/-- the six places -/
noncomputable def opd (k : Nat) : V := if k < 3 then .tup [.str "x", .int (k + 1 : Nat)] else .tup [.str "y", .int (k - 2 : Nat)]
noncomputable def getR (K X : List V) (k : Nat) : Option V := if k < 3 then X[k + 1]? else K[k - 1]?
noncomputable def rK (K : List V) (k : Nat) (v : V) : List V := if k < 3 then K else K.set (k - 1) v
noncomputable def rX (X : List V) (k : Nat) (v : V) : List V := if k < 3 then (padX X (k + 1)).set (k + 1) v else X
theorem sp_read {k : Nat} {v : V} (hk : k < 6) (h : getR K X k = some v) : Snd (d + 2) (.call (.ref 397) [.ref 8, opd k] (Hp o0 o1 T At F Fn o7 C K X 0 rest)) (.v v (Hp o0 o1 T At F Fn o7 C K X 0 rest)) := by
  apply snd_call (ps := ["m", "operand"]) (ds := []) (gl := [("slot_index", .obj (.ref 390))]) (fr' := nofr)
  case H => walk_at "m fn2"
  case hn => rfl
  case hg => exact gl_cons (HasF.gr _ _ (by decide)) gl_nil
  case hg2 => rfl
  case hb => constructor
  case h =>
    unfold opd
    unfold getR at h
    by_cases q : k < 3
    · rw [if_pos q] at h ⊢
      apply snd_weakN
      walk_at "m ifTs"
      walk_at "m ss"
      exact fun h => nomatch h
    · rw [if_neg q] at h ⊢
      apply snd_weakN
      walk_at "m ifF"
      walk_at "m ss"
      apply snd_stop
      apply snd_ret
      apply snd_sub
      walk_at "m e"
      walk_at "m e"
      apply SubI.lst
      rfl
      (first | lia | omega)
      (first | lia | omega)
      rw [show ((0 : Int) + 1 + ((k - 2 : Nat) : Int)).toNat = k - 1 by (first | lia | omega)]
      exact h
      rfl
      exact fun h => nomatch h

theorem sp_write {k : Nat} {c : V} (hk : k < 6) (hK : K.length = 5) (hX : X.length ≤ 10) : Snd (d + 2) (.call (.ref 404) [.ref 8, opd k, c] (Hp o0 o1 T At F Fn o7 C K X 0 rest)) (.v .none (Hp o0 o1 T At F Fn o7 C (rK K k c) (rX X k c) 0 rest)) := by
  apply snd_call (ps := ["m", "operand", "cell"]) (ds := []) (gl := [("slot_index", .obj (.ref 390))]) (fr' := nofr) (fl := if k < 3 then .rt .none else .nx)
  case H => walk_at "m fn3"
  case hn => rfl
  case hg => exact gl_cons (HasF.gr _ _ (by decide)) gl_nil
  case hg2 => rfl
  case hb => split <;> constructor
  case h =>
    unfold opd rK rX
    by_cases q : k < 3
    · simp only [if_pos q]
      apply snd_weakN
      walk_at "m ifTs"
      · apply snd_seq
        · apply snd_expr
          apply snd_mcall
          walk_at "m e"
          walk_at "m meth"
          walk_at "m es"
          exact sp_setx (by (first | lia | omega)) hX
          exact fun _ => ⟨_, rfl⟩
          exact fun _ => rfl
        walk_at "m ss"
      exact fun h => nomatch h
    · simp only [if_neg q]
      apply snd_weakN
      walk_at "m ifF"
      walk_at "m ss"
      walk_at "m ss"
      walk_at "m ifF"
      walk_at "m ss"
      apply snd_seq
      · apply snd_expr
        apply snd_mcall
        walk_at "m e"
        walk_at "m meth"
        walk_at "m es"
        · have := sp_sputS (d := d) (o0 := o0) (o1 := o1) (T := T) (At := At) (F := F) (Fn := Fn) (o7 := o7) (C := C) (K := K) (X := X) (e := 0) (rest := rest) (i := 0 + 1 + ((k - 2 : Nat) : Int)) (v := c) (by (first | lia | omega)) (by (first | lia | omega)) (by (first | lia | omega))
          rw [show ((0 : Int) + 1 + ((k - 2 : Nat) : Int)).toNat = k - 1 by (first | lia | omega)] at this
          exact this
        exact fun _ => ⟨_, rfl⟩
        exact fun _ => rfl
      walk_at "m ss"
end

end

section
variable [HasK] [HasF]
local macro_rules | `(tactic| walk_at "m call") => `(tactic| first
  | (apply sp_push; walk_at "m lt") | (apply sp_newvar; walk_at "m lt") | apply sp_slot | (apply sp_deref; assumption) | (apply sp_read; assumption; assumption) | (apply sp_write; assumption; assumption; assumption))
omit [HasF] in
theorem g_fn {x : Str} {f : Addr} (h0 : (x == ("__debug__" : Str)) = false) (h : ∀ w : World, nsIn (HasK.heap w.params) mainGlobals x = some (some (.ref f))) : GOk x (.obj (.ref f)) := ⟨h0, fun w => .inl ⟨_, h w, .obj _⟩⟩
theorem g_write : GOk "write" (.obj (.ref 404)) := HasF.gr _ _ (by decide)
theorem g_read : GOk "read" (.obj (.ref 397)) := HasF.gr _ _ (by decide)
theorem g_slot : GOk "slot_index" (.obj (.ref 390)) := HasF.gr _ _ (by decide)
theorem g_plocal : GOk "push_local" (.obj (.ref 411)) := HasF.gr _ _ (by decide)
theorem g_pvars : GOk "push_variables" (.obj (.ref 418)) := HasF.gr _ _ (by decide)
omit [HasK] [HasF] in
theorem opd_x {k : Nat} (q : k < 3) : opd k = .tup [.str "x", .int (k + 1 : Nat)] := if_pos q
omit [HasK] [HasF] in
theorem opd_y {k : Nat} (q : ¬ k < 3) : opd k = .tup [.str "y", .int (k - 2 : Nat)] := if_neg q
section
variable {d : Nat} {o0 o1 o7 : O} {T F C K X : List V} {At : List (Str × V)} {Fn : List (List Int × V)} {e : Int} {rest : List O}
theorem sp_putval {k g : Nat} {s : V} {v : V} (hk : k < 6) (hg : g < 6) (h : getR K X k = some v) (hK : K.length = 5) (hX : X.length ≤ 10) :
    Snd (d + 4) (.call (.ref 439) [.ref 8, .tup [s, opd k, opd g]] (Hp o0 o1 T At F Fn o7 C K X 0 rest)) (.v (.bool true) (Hp o0 o1 T At F Fn o7 C (rK K g v) (rX X g v) 0 rest)) := by
  apply snd_call (ps := ["m", "ins"]) (ds := []) (gl := [("write", .obj (.ref 404)), ("read", .obj (.ref 397))])
  case H => walk_at "m fn2"
  case hn => rfl
  case hg => exact gl_cons g_write (gl_cons g_read gl_nil)
  case hg2 => rfl
  case hb => constructor
  case h =>
    walk_at "m ss"
    walk_at "m ss"
theorem sp_putunsV {k g : Nat} {s : V} {t a r b : Int} (hk : k < 6) (hg : g < 6) (h : getR K X k = some (cel t a)) (hd : Der C K t a r b) (hr : r ≠ 1) (hK : K.length = 5) (hX : X.length ≤ 10) :
    Snd (d + 5) (.call (.ref 446) [.ref 8, .tup [s, opd k, opd g]] (Hp o0 o1 T At F Fn o7 C K X 0 rest)) (.v (.bool true) (Hp o0 o1 T At F Fn o7 C (rK K g (cel r b)) (rX X g (cel r b)) 0 rest)) := by
  apply snd_call (ps := ["m", "ins"]) (ds := []) (gl := [("write", .obj (.ref 404)), ("read", .obj (.ref 397))])
  case H => walk_at "m fn2"
  case hn => rfl
  case hg => exact gl_cons g_write (gl_cons g_read gl_nil)
  case hg2 => rfl
  case hb => constructor
  case h =>
    apply snd_seq
    · apply snd_expr
      apply snd_ecall
      rfl
      walk_at "m kept"
      · apply snd_cons
        rfl
        walk_at "m e"
        apply snd_cons
        rfl
        walk_at "m e"
        apply snd_cons
        rfl
        · apply snd_mcall
          walk_at "m e"
          walk_at "m meth"
          walk_at "m es"
          exact sp_globV hd hr
          exact fun _ => ⟨_, rfl⟩
        apply snd_nil
      walk_at "m call"
      exact fun _ => rfl
    walk_at "m ss"
theorem sp_putunsS {k g : Nat} {s : V} {t a b : Int} (hk : k < 6) (hg : g < 6) (h : getR K X k = some (cel t a)) (hd : Der C K t a 1 b) (h0 : 0 ≤ b) (h1 : b < K.length) (hz : C.length < 10000) (hK : K.length = 5) (hX : X.length ≤ 10) :
    Snd (d + 5) (.call (.ref 446) [.ref 8, .tup [s, opd k, opd g]] (Hp o0 o1 T At F Fn o7 C K X 0 rest)) (.v (.bool true) (Hp o0 o1 T At F Fn o7 (C ++ [cel 0 C.length]) (rK (K.set b.toNat (cel 0 C.length)) g (cel 0 C.length)) (rX X g (cel 0 C.length)) 0 rest)) := by
  apply snd_call (ps := ["m", "ins"]) (ds := []) (gl := [("write", .obj (.ref 404)), ("read", .obj (.ref 397))])
  case H => walk_at "m fn2"
  case hn => rfl
  case hg => exact gl_cons g_write (gl_cons g_read gl_nil)
  case hg2 => rfl
  case hb => constructor
  case h =>
    have hK' : (K.set b.toNat (cel 0 C.length)).length = 5 := by simp [hK]
    apply snd_seq
    · apply snd_expr
      apply snd_ecall
      rfl
      walk_at "m kept"
      · apply snd_cons
        rfl
        walk_at "m e"
        apply snd_cons
        rfl
        walk_at "m e"
        apply snd_cons
        rfl
        · apply snd_mcall
          walk_at "m e"
          walk_at "m meth"
          walk_at "m es"
          exact sp_globS hd h0 h1 (by (first | lia | omega)) hz
          exact fun _ => ⟨_, rfl⟩
        apply snd_nil
      walk_at "m call"
      exact fun _ => rfl
    walk_at "m ss"
theorem sp_putcon {g : Nat} {s c : V} (hg : g < 6) (hK : K.length = 5) (hX : X.length ≤ 10) :
    Snd (d + 4) (.call (.ref 453) [.ref 8, .tup [s, c, opd g]] (Hp o0 o1 T At F Fn o7 C K X 0 rest)) (.v (.bool true) (Hp o0 o1 T At F Fn o7 C (rK K g c) (rX X g c) 0 rest)) := by
  apply snd_call (ps := ["m", "ins"]) (ds := []) (gl := [("write", .obj (.ref 404))])
  case H => walk_at "m fn2"
  case hn => rfl
  case hg => exact gl_cons g_write gl_nil
  case hg2 => rfl
  case hb => constructor
  case h =>
    walk_at "m ss"
    walk_at "m ss"
theorem sp_putlist {g : Nat} {s : V} (hg : g < 6) (hK : K.length = 5) (hX : X.length ≤ 10) (hz : C.length < 10000) :
    Snd (d + 4) (.call (.ref 460) [.ref 8, .tup [s, opd g]] (Hp o0 o1 T At F Fn o7 C K X 0 rest)) (.v (.bool true) (Hp o0 o1 T At F Fn o7 C (rK K g (cel 3 C.length)) (rX X g (cel 3 C.length)) 0 rest)) := by
  apply snd_call (ps := ["m", "ins"]) (ds := []) (gl := [("write", .obj (.ref 404)), ("LIS", .int 3), ("len", .obj (.builtin "len"))])
  case H => walk_at "m fn2"
  case hn => rfl
  case hg => exact gl_cons g_write (gl_cons g_LIS (gl_cons g_len gl_nil))
  case hg2 => rfl
  case hb => constructor
  case h =>
    walk_at "m ss"
    walk_at "m ss"
theorem sp_putstr {g : Nat} {s : V} {f : Int} (hg : g < 6) (hK : K.length = 5) (hX : X.length ≤ 10) (hz : C.length < 10000) :
    Snd (d + 4) (.call (.ref 467) [.ref 8, .tup [s, .int f, opd g]] (Hp o0 o1 T At F Fn o7 C K X 0 rest)) (.v (.bool true) (Hp o0 o1 T At F Fn o7 (C ++ [cel 6 f]) (rK K g (cel 2 C.length)) (rX X g (cel 2 C.length)) 0 rest)) := by
  apply snd_call (ps := ["m", "ins"]) (ds := []) (gl := [("write", .obj (.ref 404)), ("FUN", .int 6), ("STR", .int 2)])
  case H => walk_at "m fn2"
  case hn => rfl
  case hg => exact gl_cons g_write (gl_cons g_FUN (gl_cons g_STR gl_nil))
  case hg2 => rfl
  case hb => constructor
  case h =>
    walk_at "m ss"
    walk_at "m ss"
    walk_at "m ss"
theorem sp_putvoid {g : Nat} {s : V} (hg : g < 6) (hK : K.length = 5) (hX : X.length ≤ 10) (hz : C.length < 10000) :
    Snd (d + 4) (.call (.ref 432) [.ref 8, .tup [s, opd g]] (Hp o0 o1 T At F Fn o7 C K X 0 rest)) (.v (.bool true) (Hp o0 o1 T At F Fn o7 (C ++ [cel 0 C.length]) (rK K g (cel 0 C.length)) (rX X g (cel 0 C.length)) 0 rest)) := by
  apply snd_call (ps := ["m", "ins"]) (ds := []) (gl := [("write", .obj (.ref 404))])
  case H => walk_at "m fn2"
  case hn => rfl
  case hg => exact gl_cons g_write gl_nil
  case hg2 => rfl
  case hb => constructor
  case h =>
    walk_at "m ss"
    walk_at "m ss"
theorem sp_setvar {g : Nat} {s : V} (hg : g < 6) (hK : K.length = 5) (hX : X.length ≤ 10) (hz : C.length < 10000) :
    Snd (d + 4) (.call (.ref 474) [.ref 8, .tup [s, opd g]] (Hp o0 o1 T At F Fn o7 C K X 0 rest)) (.v (.bool true) (Hp o0 o1 T At F Fn o7 (C ++ [cel 0 C.length]) (rK K g (cel 0 C.length)) (rX X g (cel 0 C.length)) 0 rest)) := by
  apply snd_call (ps := ["m", "ins"]) (ds := []) (gl := [("write", .obj (.ref 404))])
  case H => walk_at "m fn2"
  case hn => rfl
  case hg => exact gl_cons g_write gl_nil
  case hg2 => rfl
  case hb => constructor
  case h =>
    walk_at "m ss"
    walk_at "m ss"
theorem sp_setval {k : Nat} {s v : V} (hk : k < 6) (h : getR K X k = some v) (hz : C.length < 10000) :
    Snd (d + 4) (.call (.ref 481) [.ref 8, .tup [s, opd k]] (Hp o0 o1 T At F Fn o7 C K X 0 rest)) (.v (.bool true) (Hp o0 o1 T At F Fn o7 (C ++ [v]) K X 0 rest)) := by
  apply snd_call (ps := ["m", "ins"]) (ds := []) (gl := [("read", .obj (.ref 397))])
  case H => walk_at "m fn2"
  case hn => rfl
  case hg => exact gl_cons g_read gl_nil
  case hg2 => rfl
  case hb => constructor
  case h =>
    walk_at "m ss"
    walk_at "m ss"
theorem sp_setcon {s c : V} (hz : C.length < 10000) :
    Snd (d + 4) (.call (.ref 495) [.ref 8, .tup [s, c]] (Hp o0 o1 T At F Fn o7 C K X 0 rest)) (.v (.bool true) (Hp o0 o1 T At F Fn o7 (C ++ [c]) K X 0 rest)) := by
  apply snd_call (ps := ["m", "ins"]) (ds := []) (gl := [])
  case H => walk_at "m fn2"
  case hn => rfl
  case hg => exact gl_nil
  case hg2 => rfl
  case hb => constructor
  case h =>
    walk_at "m ss"
    walk_at "m ss"
end

end

section
variable [HasK] [HasF]
local macro_rules | `(tactic| walk_at "m call") => `(tactic| first
  | (apply sp_push; walk_at "m lt") | (apply sp_newvar; walk_at "m lt") | apply sp_slot | (apply sp_deref; assumption) | (apply sp_read; assumption; assumption) | (apply sp_write; assumption; assumption; assumption))
section
variable {d : Nat} {o0 o1 o7 : O} {T F C K X : List V} {At : List (Str × V)} {Fn : List (List Int × V)} {e : Int} {rest : List O}
omit [HasK] [HasF] in
theorem rK_len {K : List V} {k : Nat} {v : V} : (rK K k v).length = K.length := by unfold rK; split <;> simp
omit [HasK] [HasF] in
theorem rX_len {X : List V} {k : Nat} {v : V} (h : X.length ≤ 4) : (rX X k v).length ≤ 4 := by
  unfold rX
  split
  · simp [padX]; (first | lia | omega)
  · exact h
theorem sp_putvarX {k g : Nat} {s : V} (hk3 : k < 3) (hg : g < 6) (hK : K.length = 5) (hX : X.length ≤ 4) (hz : C.length < 10000) :
    Snd (d + 4) (.call (.ref 425) [.ref 8, .tup [s, opd k, opd g]] (Hp o0 o1 T At F Fn o7 C K X 0 rest)) (.v (.bool true)
      (Hp o0 o1 T At F Fn o7 (C ++ [cel 0 C.length]) (rK (rK K k (cel 0 C.length)) g (cel 0 C.length)) (rX (rX X k (cel 0 C.length)) g (cel 0 C.length)) 0 rest)) := by
  have e1 := opd_x hk3
  have hk : k < 6 := by (first | lia | omega)
  have hX1 : X.length ≤ 10 := by (first | lia | omega)
  have hK2 : (rK K k (cel 0 C.length)).length = 5 := by rw [rK_len]; exact hK
  have hX2 : (rX X k (cel 0 C.length)).length ≤ 10 := by have := rX_len (k := k) (v := cel 0 C.length) hX; (first | lia | omega)
  apply snd_call (ps := ["m", "ins"]) (ds := []) (gl := [("write", .obj (.ref 404)), ("SRF", .int 1), ("slot_index", .obj (.ref 390))])
  case H => walk_at "m fn2"
  case hn => rfl
  case hg => exact gl_cons g_write (gl_cons g_SRF (gl_cons g_slot gl_nil))
  case hg2 => rfl
  case hb => constructor
  case h =>
    walk_at "m ss"
    apply snd_seq
    · apply snd_ifT'
      · apply snd_tcmp
        · apply snd_sub
          apply snd_name
          rfl
          walk_at "m e"
          rw [e1]
          walk_at "m sub"
          rfl
        walk_at "m e"
        walk_at "m cmp"
        rfl
      · rfl
      walk_at "m ss"
      walk_at "m ss"
    walk_at "m ss"
    walk_at "m ss"
    walk_at "m ss"
theorem sp_putvarY {k g : Nat} {s : V} (hk3 : ¬ k < 3) (hk : k < 6) (hg : g < 6) (hK : K.length = 5) (hX : X.length ≤ 4) :
    Snd (d + 4) (.call (.ref 425) [.ref 8, .tup [s, opd k, opd g]] (Hp o0 o1 T At F Fn o7 C K X 0 rest)) (.v (.bool true)
      (Hp o0 o1 T At F Fn o7 C (rK (rK K k (cel 1 (k - 1 : Nat))) g (cel 1 (k - 1 : Nat))) (rX (rX X k (cel 1 (k - 1 : Nat))) g (cel 1 (k - 1 : Nat))) 0 rest)) := by
  have e1 := opd_y hk3
  have hX1 : X.length ≤ 10 := by (first | lia | omega)
  have hK2 : (rK K k (cel 1 (k - 1 : Nat))).length = 5 := by rw [rK_len]; exact hK
  have hX2 : (rX X k (cel 1 (k - 1 : Nat))).length ≤ 10 := by have := rX_len (k := k) (v := cel 1 (k - 1 : Nat)) hX; (first | lia | omega)
  apply snd_call (ps := ["m", "ins"]) (ds := []) (gl := [("write", .obj (.ref 404)), ("SRF", .int 1), ("slot_index", .obj (.ref 390))])
  case H => walk_at "m fn2"
  case hn => rfl
  case hg => exact gl_cons g_write (gl_cons g_SRF (gl_cons g_slot gl_nil))
  case hg2 => rfl
  case hb => constructor
  case h =>
    walk_at "m ss"
    apply snd_seq (fr₁ := lk [("cell", cel 1 (k - 1 : Nat)), ("operand", opd k), ("m", .ref 8), ("ins", .tup [s, opd k, opd g]), ("write", .obj (.ref 404))]) (hp₁ := Hp o0 o1 T At F Fn o7 C K X 0 rest)
    · apply snd_ifF'
      · apply snd_tcmp
        · apply snd_sub
          apply snd_name
          rfl
          walk_at "m e"
          rw [e1]
          walk_at "m sub"
          rfl
        walk_at "m e"
        walk_at "m cmp"
        rfl
      · rfl
      · apply snd_weakB
        · apply snd_seq
          · apply snd_asg
            · apply snd_tup
              · apply snd_cons
                rfl
                walk_at "m e"
                apply snd_cons
                rfl
                · apply snd_ecall
                  rfl
                  walk_at "m kept"
                  · apply snd_cons
                    rfl
                    walk_at "m e"
                    apply snd_cons
                    rfl
                    · apply snd_sub
                      walk_at "m e"
                      walk_at "m e"
                      rw [e1]
                      walk_at "m sub"
                      rfl
                    apply snd_nil
                  walk_at "m call"
                apply snd_nil
              exact Nat.le_of_ble_eq_true rfl
            exact .inl rfl
            rfl
            exact fun _ => rfl
          walk_at "m ss"
        · apply sub_cons
          · show some (V.tup [V.int 1, V.int (0 + 1 + ((k - 2 : Nat) : Int))]) = some (cel 1 (k - 1 : Nat))
            rw [show (0 : Int) + 1 + ((k - 2 : Nat) : Int) = ((k - 1 : Nat) : Int) by (first | lia | omega)]
          walk_at "m wk"
    walk_at "m ss"
    walk_at "m ss"
    walk_at "m ss"
theorem sp_pvars (hz : C.length < 10000) : Snd (d + 3) (.call (.ref 418) [.ref 8, .int 1] (Hp o0 o1 T At F Fn o7 C K X e rest)) (.v .none (Hp o0 o1 T At F Fn o7 (C ++ [cel 0 C.length]) K X e rest)) := by
  apply snd_call (ps := ["m", "count"]) (ds := []) (gl := [("range", .obj (.type "range"))])
  case H => walk_at "m fn2"
  case hn => rfl
  case hg => exact gl_cons g_range gl_nil
  case hg2 => rfl
  case hb => constructor
  case h =>
    apply snd_seq
    · apply snd_forR [1]
      rfl
      walk_at "m es"
      rfl
      walk_at "m rng"
      rfl
      rfl
      exact .inl rfl
      rfl
      · apply Lps.turn
        walk_at "m ss"
        walk_at "m ss"
        exact .inl rfl
        exact Lps.done
      exact fun _ _ => rfl
    walk_at "m ss"
local macro_rules | `(tactic| walk_at "m call") => `(tactic| first | (apply sp_pvars; walk_at "m lt"))
theorem sp_setvoid {s : V} (hz : C.length < 10000) :
    Snd (d + 4) (.call (.ref 502) [.ref 8, .tup [s, .int 1]] (Hp o0 o1 T At F Fn o7 C K X 0 rest)) (.v (.bool true) (Hp o0 o1 T At F Fn o7 (C ++ [cel 0 C.length]) K X 0 rest)) := by
  apply snd_call (ps := ["m", "ins"]) (ds := []) (gl := [("push_variables", .obj (.ref 418))])
  case H => walk_at "m fn2"
  case hn => rfl
  case hg => exact gl_cons g_pvars gl_nil
  case hg2 => rfl
  case hb => constructor
  case h =>
    walk_at "m ss"
    walk_at "m ss"
end

end

section
variable [HasK] [HasF]
local macro_rules | `(tactic| walk_at "m call") => `(tactic| first
  | (apply sp_push; walk_at "m lt") | (apply sp_newvar; walk_at "m lt") | apply sp_slot | (apply sp_deref; assumption) | (apply sp_read; assumption; assumption) | (apply sp_write; assumption; assumption; assumption) | (apply sp_setx; walk_at "m lt"; walk_at "m lt"))
section
variable {d : Nat} {o0 o1 o7 : O} {T F C K X : List V} {At : List (Str × V)} {Fn : List (List Int × V)} {e : Int} {rest : List O}
omit [HasK] [HasF] in
theorem rX_y {X : List V} {k : Nat} {v : V} (q : ¬ k < 3) : rX X k v = X := if_neg q
omit [HasK] [HasF] in
theorem rX_x {X : List V} {k : Nat} {v : V} (q : k < 3) : rX X k v = (padX X (k + 1)).set (k + 1) v := if_pos q
theorem sp_plocV {k : Nat} {t a r b : Int} (hk : k < 6) (h : getR K X k = some (cel t a)) (hd : Der C K t a r b) (hr : r ≠ 1) (hX : X.length ≤ 10) (hz : C.length < 10000) :
    Snd (d + 4) (.call (.ref 411) [.ref 8, opd k] (Hp o0 o1 T At F Fn o7 C K X 0 rest)) (.v .none (Hp o0 o1 T At F Fn o7 (C ++ [cel r b]) K (rX X k (cel r b)) 0 rest)) := by
  apply snd_call (ps := ["m", "operand"]) (ds := []) (gl := [("read", .obj (.ref 397)), ("SRF", .int 1)]) (fr' := nofr) (fl := .nx)
  case H => walk_at "m fn2"
  case hn => rfl
  case hg => exact gl_cons g_read (gl_cons g_SRF gl_nil)
  case hg2 => rfl
  case hb => constructor
  case h =>
    apply snd_weakN
    walk_at "m ss"
    walk_at "m ifF"
    walk_at "m ss"
    walk_at "m ss"
    apply snd_seq (fr₁ := nofr) (hp₁ := Hp o0 o1 T At F Fn o7 (C ++ [cel r b]) K (rX X k (cel r b)) 0 rest)
    · by_cases q : k < 3
      · rw [rX_x q]
        apply snd_ifT'
        · apply snd_tcmp
          · apply snd_sub
            apply snd_name
            rfl
            walk_at "m e"
            rw [opd_x q]
            walk_at "m sub"
            rfl
          walk_at "m e"
          walk_at "m cmp"
          rfl
        · rfl
        · apply snd_weakN
          apply snd_seq
          · apply snd_expr
            apply snd_mcall
            walk_at "m e"
            walk_at "m meth"
            · apply snd_cons
              rfl
              · apply snd_sub
                walk_at "m e"
                walk_at "m e"
                rw [opd_x q]
                walk_at "m sub"
                rfl
              walk_at "m es"
            exact sp_setx (by (first | lia | omega)) hX
            exact fun _ => ⟨_, rfl⟩
            exact fun _ => rfl
          walk_at "m ss"
      · rw [rX_y q]
        apply snd_ifF'
        · apply snd_tcmp
          · apply snd_sub
            apply snd_name
            rfl
            walk_at "m e"
            rw [opd_y q]
            walk_at "m sub"
            rfl
          walk_at "m e"
          walk_at "m cmp"
          rfl
        · rfl
        · apply snd_weakN
          walk_at "m ss"
    walk_at "m ss"
theorem sp_plocS {k : Nat} {t a b : Int} (hk : k < 6) (h : getR K X k = some (cel t a)) (hd : Der C K t a 1 b) (h0 : 0 ≤ b) (h1 : b < K.length) (hK : K.length = 5) (hX : X.length ≤ 10) (hz : C.length < 10000) :
    Snd (d + 4) (.call (.ref 411) [.ref 8, opd k] (Hp o0 o1 T At F Fn o7 C K X 0 rest)) (.v .none (Hp o0 o1 T At F Fn o7 (C ++ [cel 0 C.length]) (K.set b.toNat (cel 0 C.length)) (rX X k (cel 0 C.length)) 0 rest)) := by
  apply snd_call (ps := ["m", "operand"]) (ds := []) (gl := [("read", .obj (.ref 397)), ("SRF", .int 1)]) (fr' := nofr) (fl := .nx)
  case H => walk_at "m fn2"
  case hn => rfl
  case hg => exact gl_cons g_read (gl_cons g_SRF gl_nil)
  case hg2 => rfl
  case hb => constructor
  case h =>
    apply snd_weakN
    walk_at "m ss"
    apply snd_seq
    · apply snd_ifT'
      walk_at "m t"
      walk_at "m dec"
      walk_at "m ss"
      apply snd_seq
      · apply snd_expr
        apply snd_mcall
        walk_at "m e"
        walk_at "m meth"
        walk_at "m es"
        exact sp_bindS h0 h1 (by (first | lia | omega))
        exact fun _ => ⟨_, rfl⟩
        exact fun _ => rfl
      walk_at "m ss"
      walk_at "m ss"
    apply snd_seq (fr₁ := nofr) (hp₁ := Hp o0 o1 T At F Fn o7 (C ++ [cel 0 C.length]) (K.set b.toNat (cel 0 C.length)) (rX X k (cel 0 C.length)) 0 rest)
    · by_cases q : k < 3
      · rw [rX_x q]
        apply snd_ifT'
        · apply snd_tcmp
          · apply snd_sub
            apply snd_name
            rfl
            walk_at "m e"
            rw [opd_x q]
            walk_at "m sub"
            rfl
          walk_at "m e"
          walk_at "m cmp"
          rfl
        · rfl
        · apply snd_weakN
          apply snd_seq
          · apply snd_expr
            apply snd_mcall
            walk_at "m e"
            walk_at "m meth"
            · apply snd_cons
              rfl
              · apply snd_sub
                walk_at "m e"
                walk_at "m e"
                rw [opd_x q]
                walk_at "m sub"
                rfl
              walk_at "m es"
            exact sp_setx (by (first | lia | omega)) hX
            exact fun _ => ⟨_, rfl⟩
            exact fun _ => rfl
          walk_at "m ss"
      · rw [rX_y q]
        apply snd_ifF'
        · apply snd_tcmp
          · apply snd_sub
            apply snd_name
            rfl
            walk_at "m e"
            rw [opd_y q]
            walk_at "m sub"
            rfl
          walk_at "m e"
          walk_at "m cmp"
          rfl
        · rfl
        · apply snd_weakN
          walk_at "m ss"
    walk_at "m ss"
theorem sp_setlocV {k : Nat} {s : V} {t a r b : Int} (hk : k < 6) (h : getR K X k = some (cel t a)) (hd : Der C K t a r b) (hr : r ≠ 1) (hX : X.length ≤ 10) (hz : C.length < 10000) :
    Snd (d + 5) (.call (.ref 488) [.ref 8, .tup [s, opd k]] (Hp o0 o1 T At F Fn o7 C K X 0 rest)) (.v (.bool true) (Hp o0 o1 T At F Fn o7 (C ++ [cel r b]) K (rX X k (cel r b)) 0 rest)) := by
  apply snd_call (ps := ["m", "ins"]) (ds := []) (gl := [("push_local", .obj (.ref 411))])
  case H => walk_at "m fn2"
  case hn => rfl
  case hg => exact gl_cons g_plocal gl_nil
  case hg2 => rfl
  case hb => constructor
  case h =>
    apply snd_seq
    · apply snd_expr
      apply snd_ecall
      rfl
      walk_at "m kept"
      walk_at "m es"
      exact sp_plocV hk h hd hr hX hz
      exact fun _ => rfl
    walk_at "m ss"
theorem sp_setlocS {k : Nat} {s : V} {t a b : Int} (hk : k < 6) (h : getR K X k = some (cel t a)) (hd : Der C K t a 1 b) (h0 : 0 ≤ b) (h1 : b < K.length) (hK : K.length = 5) (hX : X.length ≤ 10) (hz : C.length < 10000) :
    Snd (d + 5) (.call (.ref 488) [.ref 8, .tup [s, opd k]] (Hp o0 o1 T At F Fn o7 C K X 0 rest)) (.v (.bool true) (Hp o0 o1 T At F Fn o7 (C ++ [cel 0 C.length]) (K.set b.toNat (cel 0 C.length)) (rX X k (cel 0 C.length)) 0 rest)) := by
  apply snd_call (ps := ["m", "ins"]) (ds := []) (gl := [("push_local", .obj (.ref 411))])
  case H => walk_at "m fn2"
  case hn => rfl
  case hg => exact gl_cons g_plocal gl_nil
  case hg2 => rfl
  case hb => constructor
  case h =>
    apply snd_seq
    · apply snd_expr
      apply snd_ecall
      rfl
      walk_at "m kept"
      walk_at "m es"
      exact sp_plocS hk h hd h0 h1 hK hX hz
      exact fun _ => rfl
    walk_at "m ss"
end

end

section
variable [HasK] [HasF]
/-- a book of symbols -/
structure Bk where
  T : List Str
  A : List (Str × Nat)
  F : List (Int × Int)
  N : List (List Int × Nat)
noncomputable def vN (n : Nat) : V := .int n
noncomputable def bT (b : Bk) : List V := b.T.map .str
noncomputable def bA (b : Bk) : List (Str × V) := b.A.map fun p => (p.1, vN p.2)
noncomputable def bF (b : Bk) : List V := b.F.map fun p => .tup [.int p.1, .int p.2]
noncomputable def bN (b : Bk) : List (List Int × V) := b.N.map fun p => (p.1, vN p.2)
noncomputable abbrev HB (o0 o1 : O) (b : Bk) (rest : List O) : List O := HpB o0 o1 (bT b) (bA b) (bF b) (bN b) rest
noncomputable def atomB (b : Bk) (t : Str) : Bk × Nat := match b.A.lookup t with
  | some n => (b, n)
  | none => ({ b with T := b.T ++ [t], A := b.A ++ [(t, b.T.length)] }, b.T.length)
noncomputable def functorB (b : Bk) (a n : Int) : Bk × Nat := match b.N.lookup [a, n] with
  | some k => (b, k)
  | none => ({ b with F := b.F ++ [(a, n)], N := b.N ++ [([a, n], b.F.length)] }, b.F.length)
noncomputable def funcB (b : Bk) (t : Str) (n : Int) : Bk × Nat := functorB (atomB b t).1 (atomB b t).2 n
omit [HasK] [HasF] in
theorem look_map {K : Type} [BEq K] {α β : Type} (f : α → β) (k : K) : ∀ l : List (K × α), (l.map fun p => (p.1, f p.2)).lookup k = (l.lookup k).map f
  | [] => rfl
  | (y, a) :: l => by
    simp only [List.map_cons, List.lookup_cons]
    rw [look_map f k l]
    split <;> rfl
omit [HasK] [HasF] in
theorem setD_new {l : List (Str × V)} {k : Str} {v : V} (h : l.lookup k = none) : setD l k v = l ++ [(k, v)] := by
  unfold setD
  rw [if_neg]
  simp only [List.any_eq_true, not_exists, not_and, decide_eq_true_eq]
  intro p hp e
  have := List.lookup_eq_none_iff.mp h p hp
  rw [e] at this
  simp at this
section
variable {d : Nat} {o0 o1 : O} {b : Bk} {rest : List O}
theorem sp_atom {t : Str} (hz : b.T.length < 1000) (hz2 : b.A.length < 1000) : Snd (d + 1) (.call (.ref 88) [.ref 2, .str t] (HB o0 o1 b rest)) (.v (.int (atomB b t).2) (HB o0 o1 (atomB b t).1 rest)) := by
  have e1 : (bA b).lookup t = (b.A.lookup t).map vN := look_map vN t b.A
  unfold atomB
  cases q : b.A.lookup t with
  | some n =>
    rw [q] at e1
    apply snd_call (ps := ["self", "text"]) (ds := []) (gl := [])
    case H => walk_at "m fn2"
    case hn => rfl
    case hg => exact gl_nil
    case hg2 => rfl
    case hb => constructor
    case h =>
      apply snd_seq
      · apply snd_asg (v := vN n)
        · apply snd_mcall
          walk_at "m e"
          walk_at "m meth"
          walk_at "m es"
          have := @sndb_getS _ d (HB o0 o1 b rest) 4 (bA b) t (.int (-1)) rfl
          rw [e1] at this
          exact this
          exact fun _ => ⟨_, rfl⟩
        exact .inl rfl
        rfl
        exact fun _ => rfl
      apply snd_stop
      · apply snd_ifT'
        · walk_at "m t"
        · walk_at "m dec"
        walk_at "m ss"
      · exact fun h => nomatch h
  | none =>
    rw [q] at e1
    apply snd_call (ps := ["self", "text"]) (ds := []) (gl := [("len", .obj (.builtin "len"))])
    case H => walk_at "m fn2"
    case hn => rfl
    case hg => exact gl_cons g_len gl_nil
    case hg2 => rfl
    case hb => constructor
    case h =>
      have l1 : (bT b).length < 1048576 := by simp [bT]; (first | lia | omega)
      have l2 : (bA b).length < 1048576 := by simp [bA]; (first | lia | omega)
      have l3 : (bT b).length = b.T.length := by simp [bT]
      apply snd_seq
      · apply snd_asg (v := .int (-1))
        · apply snd_mcall
          walk_at "m e"
          walk_at "m meth"
          walk_at "m es"
          have := @sndb_getS _ d (HB o0 o1 b rest) 4 (bA b) t (.int (-1)) rfl
          rw [e1] at this
          exact this
          exact fun _ => ⟨_, rfl⟩
        exact .inl rfl
        rfl
        exact fun _ => rfl
      walk_at "m ifF"
      walk_at "m ss"
      walk_at "m ss"
      walk_at "m ss"
      walk_at "m ss"
      rw [l3]
      have e2 : bT { b with T := b.T ++ [t], A := b.A ++ [(t, b.T.length)] } = bT b ++ [.str t] := by simp [bT]
      have e3 : bA { b with T := b.T ++ [t], A := b.A ++ [(t, b.T.length)] } = setD (bA b) t (.int b.T.length) := by rw [setD_new e1]; simp [bA, vN]
      show Snd _ _ (.f _ _ (HpB o0 o1 (bT _) (bA _) (bF b) (bN b) rest))
      rw [e2, e3]
      walk_at "m ss"
end

end

section
variable [HasK] [HasF]
section
variable {d : Nat} {o0 o1 : O} {b : Bk} {rest : List O}
theorem sp_functor {a n : Int} (hz : b.F.length < 1000) (hz2 : b.N.length < 1000) : Snd (d + 1) (.call (.ref 102) [.ref 2, .int a, .int n] (HB o0 o1 b rest)) (.v (.int (functorB b a n).2) (HB o0 o1 (functorB b a n).1 rest)) := by
  have e1 : (bN b).lookup [a, n] = (b.N.lookup [a, n]).map vN := look_map vN [a, n] b.N
  unfold functorB
  cases q : b.N.lookup [a, n] with
  | some k =>
    rw [q] at e1
    apply snd_call (ps := ["self", "atom", "arity"]) (ds := []) (gl := [])
    case H => walk_at "m fn3"
    case hn => rfl
    case hg => exact gl_nil
    case hg2 => rfl
    case hb => constructor
    case h =>
      walk_at "m ss"
      apply snd_seq
      · apply snd_asg (v := vN k)
        · apply snd_mcall
          walk_at "m e"
          walk_at "m meth"
          walk_at "m es"
          have := @sndb_getT _ d (HB o0 o1 b rest) 6 (bN b) [a, n] (.int (-1)) rfl
          rw [e1] at this
          exact this
          exact fun _ => ⟨_, rfl⟩
        exact .inl rfl
        rfl
        exact fun _ => rfl
      apply snd_stop
      · apply snd_ifT'
        · walk_at "m t"
        · walk_at "m dec"
        walk_at "m ss"
      · exact fun h => nomatch h
  | none =>
    rw [q] at e1
    apply snd_call (ps := ["self", "atom", "arity"]) (ds := []) (gl := [("len", .obj (.builtin "len"))])
    case H => walk_at "m fn3"
    case hn => rfl
    case hg => exact gl_cons g_len gl_nil
    case hg2 => rfl
    case hb => constructor
    case h =>
      have l1 : (bF b).length < 1048576 := by simp [bF]; (first | lia | omega)
      have l2 : (bN b).length < 1048576 := by simp [bN]; (first | lia | omega)
      have l3 : (bF b).length = b.F.length := by simp [bF]
      walk_at "m ss"
      apply snd_seq
      · apply snd_asg (v := .int (-1))
        · apply snd_mcall
          walk_at "m e"
          walk_at "m meth"
          walk_at "m es"
          have := @sndb_getT _ d (HB o0 o1 b rest) 6 (bN b) [a, n] (.int (-1)) rfl
          rw [e1] at this
          exact this
          exact fun _ => ⟨_, rfl⟩
        exact .inl rfl
        rfl
        exact fun _ => rfl
      walk_at "m ifF"
      walk_at "m ss"
      walk_at "m ss"
      walk_at "m ss"
      apply snd_seq
      · apply snd_setitem
        walk_at "m e"
        walk_at "m e"
        walk_at "m e"
        exact SetI.dT (k := [a, n]) rfl l2 e1
        exact fun _ => rfl
      rw [l3]
      have e2 : bF { b with F := b.F ++ [(a, n)], N := b.N ++ [([a, n], b.F.length)] } = bF b ++ [.tup [.int a, .int n]] := by simp [bF]
      have e3 : bN { b with F := b.F ++ [(a, n)], N := b.N ++ [([a, n], b.F.length)] } = bN b ++ [([a, n], .int b.F.length)] := by simp [bN, vN]
      show Snd _ _ (.f _ _ (HpB o0 o1 (bT b) (bA b) (bF _) (bN _) rest))
      rw [e2, e3]
      walk_at "m ss"
omit [HasK] [HasF] in
theorem atomB_len (b : Bk) (t : Str) : (atomB b t).1.T.length ≤ b.T.length + 1 ∧ (atomB b t).1.A.length ≤ b.A.length + 1 ∧ (atomB b t).1.F = b.F ∧ (atomB b t).1.N = b.N := by
  unfold atomB; split <;> simp
omit [HasK] [HasF] in
theorem functorB_len (b : Bk) (a n : Int) : (functorB b a n).1.F.length ≤ b.F.length + 1 ∧ (functorB b a n).1.N.length ≤ b.N.length + 1 ∧ (functorB b a n).1.T = b.T ∧ (functorB b a n).1.A = b.A := by
  unfold functorB; split <;> simp
theorem sp_func {t : Str} {n : Int} (h1 : b.T.length < 1000) (h2 : b.A.length < 1000) (h3 : b.F.length < 1000) (h4 : b.N.length < 1000) :
    Snd (d + 2) (.call (.ref 109) [.ref 2, .str t, .int n] (HB o0 o1 b rest)) (.v (.int (funcB b t n).2) (HB o0 o1 (funcB b t n).1 rest)) := by
  obtain ⟨_, _, e1, e2⟩ := atomB_len b t
  apply snd_call (ps := ["self", "text", "arity"]) (ds := []) (gl := [])
  case H => walk_at "m fn3"
  case hn => rfl
  case hg => exact gl_nil
  case hg2 => rfl
  case hb => constructor
  case h =>
    apply snd_stop
    · apply snd_ret
      apply snd_mcall
      walk_at "m e"
      walk_at "m meth"
      · apply snd_cons
        rfl
        · apply snd_mcall
          walk_at "m e"
          walk_at "m meth"
          walk_at "m es"
          exact sp_atom h1 h2
          exact fun _ => ⟨_, rfl⟩
        walk_at "m es"
      exact sp_functor (by rw [e1]; exact h3) (by rw [e2]; exact h4)
      exact fun _ => ⟨_, rfl⟩
    · exact fun h => nomatch h
theorem sp_arity {f : Nat} {a n : Int} (h : b.F[f]? = some (a, n)) (hf : f < 1000) : Snd (d + 1) (.call (.ref 123) [.ref 2, .int f] (HB o0 o1 b rest)) (.v (.int n) (HB o0 o1 b rest)) := by
  have e : (bF b)[((f : Nat) : Int).toNat]? = some (.tup [.int a, .int n]) := by simp [bF, h]
  apply snd_call (ps := ["self", "functor"]) (ds := []) (gl := [])
  case H => walk_at "m fn2"
  case hn => rfl
  case hg => exact gl_nil
  case hg2 => rfl
  case hb => constructor
  case h =>
    apply snd_stop
    · apply snd_ret
      apply snd_sub
      · apply snd_sub
        walk_at "m e"
        walk_at "m e"
        exact SubI.lst rfl (by (first | lia | omega)) (by (first | lia | omega)) e
        rfl
      walk_at "m e"
      walk_at "m sub"
      rfl
    · exact fun h => nomatch h
end

end

section
variable [HasK] [HasF]
inductive EmptyD : O → Prop
  | i : EmptyD (.dI [])
  | s : EmptyD (.dS [])
  | t : EmptyD (.dT [])
section
variable {d : Nat} {fr : Str → Option V} {hp : List O}
omit [HasF] in
theorem snd_dict0 {p : Pos} (o : O) (ho : EmptyD o) : Snd d (.e (.Dict [] [] p) fr hp) (.v (.ref hp.length) (hp ++ [o])) := by
  refine ⟨?_⟩
  intro w A env h₀ L out ρ imm s C R S
  obtain ⟨env0, mean, mg, mb, base, outer, A₀, B, T, hA, hf, hke⟩ := C.ex
  have S' := S
  obtain ⟨m, mE, led, cells, I⟩ := S
  have hl : ρ.length = hp.length := I.R.len.1
  have lo : (s.heap.objs.size == sysModules) = false := I.F.notModules (modules_low T.nolimit)
  refine wpAny_Dict_empty ?_
  have k : OR w ρ imm o s.heap.objs.size [(s.heap.objs.size, { cls := .type "dict", data := .dict #[] })] := by
    have isI : ({ cls := .type "dict", data := .dict #[] } : Obj).IsDictOf (iK w) [] := by
      obtain ⟨o, ho, hd⟩ := Heap.dictOf_iff.mp (Heap.DictOf.new (knd := iK w) s.heap)
      rw [Heap.get?_push_size _ rfl] at ho
      exact (Option.some.inj ho) ▸ hd
    have isS : ({ cls := .type "dict", data := .dict #[] } : Obj).IsDictOf (sK w) [] := by
      obtain ⟨o, ho, hd⟩ := Heap.dictOf_iff.mp (Heap.DictOf.new (knd := sK w) s.heap)
      rw [Heap.get?_push_size _ rfl] at ho
      exact (Option.some.inj ho) ▸ hd
    cases ho with
    | i => exact ⟨_, [], rfl, lo, isI, rfl, .nil⟩
    | s => exact ⟨_, [], rfl, lo, isS, rfl, .nil⟩
    | t => exact ⟨_, #[], 0, [], rfl, lo, ⟨rfl, rfl, rfl⟩, rfl, rfl, fun x hx => (nomatch hx), List.nodup_nil, rfl, .nil⟩
  obtain ⟨S'', y⟩ := S'.new (h' := s.heap.push { cls := .type "dict", data := .dict #[] }) (fun b o e => Heap.get?_push_of_some _ e) k
    (fun p hp => by cases List.mem_singleton.mp hp; exact ⟨Heap.get?_none_of_le (Nat.le_refl _), Heap.get?_push_size _ rfl⟩) (by simp)
  exact PV.of (tk' := s.toks) S'' y (.ref (by rw [List.getElem?_append_right (by (first | lia | omega))]; simp [hl]))
end
noncomputable def strsOf (l : List V) : List Str := l.filterMap fun v => match v with | .str x => some x | _ => none
noncomputable def prsOf (l : List V) : List (Str × Int) := l.filterMap fun v => match v with | .tup [.str x, .int i] => some (x, i) | _ => none
noncomputable def atomsB (b : Bk) (l : List Str) : Bk := l.foldl (fun b t => (atomB b t).1) b
noncomputable def funcsB (b : Bk) (l : List (Str × Int)) : Bk := l.foldl (fun b p => (funcB b p.1 p.2).1) b
noncomputable def b00 : Bk := ⟨[], [], [], []⟩
/-- what is asked of a book behind its making: the law's two functors -/
structure BkOk (b : Bk) (b1 b2 : Bk) (fh fg : Nat) : Prop where
  l1 : b.T.length < 900 ∧ b.A.length < 900 ∧ b.F.length < 900 ∧ b.N.length < 900
  e1 : funcB b "h" 2 = (b1, fh)
  e2 : funcB b1 "g" 1 = (b2, fg)
  e3 : funcB b2 "h" 2 = (b2, fh)
  e4 : funcB b2 "g" 1 = (b2, fg)
  a0 : (b2.F[0]?).map (·.2) = some 2
  a1 : (b2.F[fh]?).map (·.2) = some 2
  a2 : (b2.F[fg]?).map (·.2) = some 1
  n1 : (fh != 0 && fg != 0 && Nat.blt fh 900 && Nat.blt fg 900 && fh != fg) = true
  l2 : b2.T.length < 900 ∧ b2.A.length < 900 ∧ b2.F.length < 900 ∧ b2.N.length < 900
omit [HasK] [HasF] in
theorem mkT {S : V → Prop} {xs : List V} (h : S (.tup xs)) (e : xs = (strsOf xs).map .str) : S (.tup ((strsOf xs).map .str)) := e ▸ h
omit [HasK] [HasF] in
theorem mkP {S : V → Prop} {xs : List V} (h : S (.tup xs)) (e : xs = (prsOf xs).map fun p => .tup [.str p.1, .int p.2]) : S (.tup ((prsOf xs).map fun p => .tup [.str p.1, .int p.2])) := e ▸ h
theorem sp_books : ∃ (ts : List Str) (ps : List (Str × Int)), (∀ d hp, Snd (d + 1) (.call (.ref 60) [] hp) (.v (.tup (ts.map .str)) hp)) ∧ (∀ d hp, Snd (d + 1) (.call (.ref 67) [] hp) (.v (.tup (ps.map fun p => .tup [.str p.1, .int p.2])) hp)) ∧
    ts.length ≤ 40 ∧ ps.length ≤ 40 ∧ ∃ b1 b2 fh fg, BkOk (funcsB (atomsB b00 ts) ps) b1 b2 fh fg := by
  apply Exists.intro
  apply Exists.intro
  apply And.intro
  · apply mkT (S := fun v => ∀ d hp, Snd (d + 1) (.call (.ref 60) [] hp) (.v v hp))
    · intro d hp
      apply snd_call (ps := []) (ds := []) (gl := [])
      case H => exact HasF.fn _ _ (by decide)
      case hn => rfl
      case hg => exact gl_nil
      case hg2 => rfl
      case hb => constructor
      case h => walk_at "m ss"
    · rfl
  apply And.intro
  · apply mkP (S := fun v => ∀ d hp, Snd (d + 1) (.call (.ref 67) [] hp) (.v v hp))
    · intro d hp
      apply snd_call (ps := []) (ds := []) (gl := [])
      case H => exact HasF.fn _ _ (by decide)
      case hn => rfl
      case hg => exact gl_nil
      case hg2 => rfl
      case hb => constructor
      case h => walk_at "m ss"
    · rfl
  refine ⟨Nat.le_of_ble_eq_true rfl, Nat.le_of_ble_eq_true rfl, _, _, _, _, ⟨⟨Nat.le_of_ble_eq_true (by kernel_rfl), Nat.le_of_ble_eq_true (by kernel_rfl), Nat.le_of_ble_eq_true (by kernel_rfl), Nat.le_of_ble_eq_true (by kernel_rfl)⟩, rfl, rfl, ?_, ?_, ?_, ?_, ?_, ?_, ⟨Nat.le_of_ble_eq_true (by kernel_rfl), Nat.le_of_ble_eq_true (by kernel_rfl), Nat.le_of_ble_eq_true (by kernel_rfl), Nat.le_of_ble_eq_true (by kernel_rfl)⟩⟩⟩
  all_goals kernel_rfl

end

section
variable [HasK] [HasF]
section
variable {d : Nat} {o0 o1 : O} {b : Bk} {rest : List O}
omit [HasK] [HasF] in
theorem atomsB_len (ts : List Str) (b : Bk) : (atomsB b ts).T.length ≤ b.T.length + ts.length ∧ (atomsB b ts).A.length ≤ b.A.length + ts.length ∧ (atomsB b ts).F = b.F ∧ (atomsB b ts).N = b.N := by
  induction ts generalizing b with
  | nil => simp [atomsB]
  | cons t ts ih =>
    obtain ⟨a1, a2, a3, a4⟩ := atomB_len b t
    obtain ⟨i1, i2, i3, i4⟩ := ih (atomB b t).1
    simp only [atomsB, List.foldl_cons, List.length_cons] at i1 i2 i3 i4 ⊢
    exact ⟨by (first | lia | omega), by (first | lia | omega), i3.trans a3, i4.trans a4⟩
omit [HasK] [HasF] in
theorem funcB_len (b : Bk) (t : Str) (n : Int) : (funcB b t n).1.T.length ≤ b.T.length + 1 ∧ (funcB b t n).1.A.length ≤ b.A.length + 1 ∧ (funcB b t n).1.F.length ≤ b.F.length + 1 ∧ (funcB b t n).1.N.length ≤ b.N.length + 1 := by
  obtain ⟨a1, a2, a3, a4⟩ := atomB_len b t
  obtain ⟨f1, f2, f3, f4⟩ := functorB_len (atomB b t).1 (atomB b t).2 n
  unfold funcB
  rw [f3, f4]
  rw [a3] at f1
  rw [a4] at f2
  exact ⟨a1, a2, f1, f2⟩
theorem sp_init : ∃ b b1 b2 fh fg, BkOk b b1 b2 fh fg ∧ Snd (d + 4) (.code (.ref 81) [.ref 2] [o0, o1, .inst 154 []]) (.v .none (HB o0 o1 b [])) := by
  obtain ⟨ts, ps, hT, hP, l1, l2, b1, b2, fh, fg, ok⟩ := sp_books
  refine ⟨_, b1, b2, fh, fg, ok, ?_⟩
  apply snd_code (ps := ["self"]) (ds := []) (gl := [("fixed_atoms", .obj (.ref 60)), ("fixed_functors", .obj (.ref 67))]) (fr' := nofr) (fl := .nx)
  case H => walk_at "m fn1"
  case hn => rfl
  case hg => exact gl_cons (HasF.gr _ _ (by decide)) (gl_cons (HasF.gr _ _ (by decide)) gl_nil)
  case hg2 => rfl
  case hb => constructor
  case h =>
    apply snd_weakN (fr₁ := lk [("self", .ref 2), ("fixed_atoms", .obj (.ref 60)), ("fixed_functors", .obj (.ref 67))])
    walk_at "m ss"
    apply snd_seq
    · apply snd_setattr
      exact snd_dict0 (.dS []) .s
      walk_at "m e"
      rfl
      walk_at "m mo"
      exact Nat.le_of_ble_eq_true rfl
      exact fun _ => rfl
    walk_at "m ss"
    apply snd_seq
    · apply snd_setattr
      exact snd_dict0 (.dT []) .t
      walk_at "m e"
      rfl
      walk_at "m mo"
      exact Nat.le_of_ble_eq_true rfl
      exact fun _ => rfl
    apply snd_seq (fr₁ := lk [("self", .ref 2), ("fixed_atoms", .obj (.ref 60)), ("fixed_functors", .obj (.ref 67))]) (hp₁ := HB o0 o1 (atomsB b00 ts) [])
    · apply snd_forT
      · apply snd_ecall0
        rfl
        walk_at "m kept"
        exact hT _ _
      exact .inl rfl
      rfl
      · have hb0 : b00.T.length + ts.length ≤ 100 ∧ b00.A.length + ts.length ≤ 100 := by simp [b00]; (first | lia | omega)
        show Lps _ _ _ _ _ _ (HB o0 o1 b00 []) _ _ _
        generalize b00 = b0 at hb0 ⊢
        clear hT ok l1
        induction ts generalizing b0 with
        | nil => exact Lps.done
        | cons t ts ih =>
          obtain ⟨a1, a2, a3, a4⟩ := atomB_len b0 t
          simp only [List.length_cons] at hb0
          rw [List.map_cons]
          apply Lps.turn (hp₂ := HB o0 o1 (atomB b0 t).1 []) (l₂ := [("self", .ref 2), ("fixed_atoms", .obj (.ref 60)), ("fixed_functors", .obj (.ref 67))])
          · apply snd_weakB
            · apply snd_seq
              · apply snd_expr
                apply snd_mcall
                walk_at "m e"
                walk_at "m meth"
                walk_at "m es"
                exact sp_atom (by (first | lia | omega)) (by (first | lia | omega))
                exact fun _ => ⟨_, rfl⟩
                exact fun _ => rfl
              walk_at "m ss"
            · walk_at "m wk"
          · exact .inl rfl
          · exact ih (atomB b0 t).1 ⟨by (first | lia | omega), by (first | lia | omega)⟩
      exact fun _ _ => rfl
    apply snd_seq (fr₁ := lk [("self", .ref 2), ("fixed_atoms", .obj (.ref 60)), ("fixed_functors", .obj (.ref 67))]) (hp₁ := HB o0 o1 (funcsB (atomsB b00 ts) ps) [])
    · apply snd_forT
      · apply snd_ecall0
        rfl
        walk_at "m kept"
        exact hP _ _
      exact .inl rfl
      rfl
      · obtain ⟨q1, q2, q3, q4⟩ := atomsB_len ts b00
        have hb0 : (atomsB b00 ts).T.length + ps.length ≤ 200 ∧ (atomsB b00 ts).A.length + ps.length ≤ 200 ∧ (atomsB b00 ts).F.length + ps.length ≤ 200 ∧ (atomsB b00 ts).N.length + ps.length ≤ 200 := by
          rw [q3, q4]; simp [b00] at q1 q2 ⊢; (first | lia | omega)
        clear q1 q2 q3 q4
        generalize atomsB b00 ts = b0 at hb0 ⊢
        clear hP ok l2
        induction ps generalizing b0 with
        | nil => exact Lps.done
        | cons t ps ih =>
          obtain ⟨a1, a2, a3, a4⟩ := funcB_len b0 t.1 t.2
          simp only [List.length_cons] at hb0
          rw [List.map_cons]
          apply Lps.turn (hp₂ := HB o0 o1 (funcB b0 t.1 t.2).1 []) (l₂ := [("self", .ref 2), ("fixed_atoms", .obj (.ref 60)), ("fixed_functors", .obj (.ref 67))])
          · apply snd_weakB
            · apply snd_seq
              · apply snd_expr
                apply snd_mcall
                walk_at "m e"
                walk_at "m meth"
                walk_at "m es"
                exact sp_func (by (first | lia | omega)) (by (first | lia | omega)) (by (first | lia | omega)) (by (first | lia | omega))
                exact fun _ => ⟨_, rfl⟩
                exact fun _ => rfl
              walk_at "m ss"
            · walk_at "m wk"
          · exact .inl rfl
          · exact ih (funcB b0 t.1 t.2).1 ⟨by (first | lia | omega), by (first | lia | omega), by (first | lia | omega), by (first | lia | omega)⟩
      exact fun _ _ => rfl
    apply snd_end
end

end

section
variable [HasK] [HasF]
omit [HasK] [HasF] in
theorem len33 {p q r s t u : Str} {a b c : V} {rs : List Value} (h : rs.length + [a, b, c].length = [p, q, r, s, t, u].length) : ∃ a b c, rs = [a, b, c] := by
  match rs, h with
  | [a, b, c], _ => exact ⟨a, b, c, rfl⟩
section
variable {d : Nat} {o0 o1 o7 : O} {b : Bk} {rest : List O}
theorem sp_cinit {l : List (Str × V)} : Snd (d + 1) (.code (.ref 195) [.ref 9, .ref 2, .int 100000] (HB o0 o1 b [o7, .inst 660 l, .inst 381 []]))
    (.v .none (HB o0 o1 b [o7, .inst 660 l, .inst 381 [("symbols", .ref 2), ("max_heap", .int 100000), ("heap", .ref 10), ("stack", .ref 11), ("trail", .ref 12), ("hb", .int 0), ("bb", .int 0)], .list [], .list [], .list []])) := by
  apply snd_code (ps := ["self", "symbols", "max_heap"]) (ds := []) (gl := [])
  case H => exact HasF.fn _ _ (by decide)
  case hn => rfl
  case hg => exact gl_nil
  case hg2 => rfl
  case hb => constructor
  case h =>
    walk_at "m ss"
    walk_at "m ss"
    walk_at "m ss"
    walk_at "m ss"
    walk_at "m ss"
    walk_at "m ss"
    walk_at "m ss"
    walk_at "m ss"

omit [HasF] in
theorem snd_as {t : Tk} {fl : Fl} {fr : Str → Option V} {hp₁ hp₂ : List O} (h : Snd d t (.f fl fr hp₁)) (e : hp₁ = hp₂) : Snd d t (.f fl fr hp₂) := e ▸ h
/-- the attributes that the machine has in the end -/
noncomputable abbrev mAtt (e : Int) : List (Str × V) := [("symbols", .ref 2), ("code", .ref 7), ("max_heap", .int 100000), ("occurs", .bool true), ("max_bits", .int 4096), ("store", .ref 9), ("x", .ref 13), ("p", .int 0), ("cp", .int 0), ("e", .int e), ("b", .int (-1)), ("b0", .int (-1)), ("mode", .str "read"), ("s", .int 0), ("guard", .obj (.ref 180)), ("roots", .ref 14), ("bags", .ref 15), ("collect_wanted", .bool false)]
theorem sp_reset : Snd (d + 3) (.call (.ref 524) [.ref 8] (HB o0 o1 b [o7, .inst 660 [("symbols", .ref 2), ("code", .ref 7), ("max_heap", .int 100000), ("occurs", .bool true), ("max_bits", .int 4096)]]))
    (.v .none (HB o0 o1 b [o7, .inst 660 (mAtt (-1)), .inst 381 [("symbols", .ref 2), ("max_heap", .int 100000), ("heap", .ref 10), ("stack", .ref 11), ("trail", .ref 12), ("hb", .int 0), ("bb", .int 0)], .list [], .list [], .list [], .list [.obj (.ref 180)], .list [], .dI []])) := by
  apply snd_call (ps := ["self"]) (ds := []) (gl := [("Store", .obj (.ref 381)), ("VOID", .obj (.ref 180)), ("READ", .str "read")])
  case H => walk_at "m fn1"
  case hn => rfl
  case hg => exact gl_cons (HasF.gr _ _ (by decide)) (gl_cons g_VOID (gl_cons g_READ gl_nil))
  case hg2 => rfl
  case hb => constructor
  case h =>
    apply snd_seq (hp₁ := HB o0 o1 b [o7, .inst 660 [("symbols", .ref 2), ("code", .ref 7), ("max_heap", .int 100000), ("occurs", .bool true), ("max_bits", .int 4096), ("store", .ref 9)], .inst 381 [("symbols", .ref 2), ("max_heap", .int 100000), ("heap", .ref 10), ("stack", .ref 11), ("trail", .ref 12), ("hb", .int 0), ("bb", .int 0)], .list [], .list [], .list []])
    · apply snd_as
      apply snd_setattr
      · apply snd_ecall
        rfl
        walk_at "m kept"
        walk_at "m es"
        apply snd_cls (f := 195)
        exact HasF.co _ _ (by decide)
        exact sp_cinit
      walk_at "m e"
      rfl
      walk_at "m mo"
      exact Nat.le_of_ble_eq_true rfl
      exact fun _ => rfl
      rfl
    apply snd_seq (hp₁ := HB o0 o1 b [o7, .inst 660 [("symbols", .ref 2), ("code", .ref 7), ("max_heap", .int 100000), ("occurs", .bool true), ("max_bits", .int 4096), ("store", .ref 9), ("x", .ref 13)], .inst 381 [("symbols", .ref 2), ("max_heap", .int 100000), ("heap", .ref 10), ("stack", .ref 11), ("trail", .ref 12), ("hb", .int 0), ("bb", .int 0)], .list [], .list [], .list [], .list [.obj (.ref 180)]])
    · apply snd_as
      walk_at "m s"
      rfl
    apply snd_seq (hp₁ := HB o0 o1 b [o7, .inst 660 [("symbols", .ref 2), ("code", .ref 7), ("max_heap", .int 100000), ("occurs", .bool true), ("max_bits", .int 4096), ("store", .ref 9), ("x", .ref 13), ("p", .int 0)], .inst 381 [("symbols", .ref 2), ("max_heap", .int 100000), ("heap", .ref 10), ("stack", .ref 11), ("trail", .ref 12), ("hb", .int 0), ("bb", .int 0)], .list [], .list [], .list [], .list [.obj (.ref 180)]])
    · apply snd_as
      walk_at "m s"
      rfl
    apply snd_seq (hp₁ := HB o0 o1 b [o7, .inst 660 [("symbols", .ref 2), ("code", .ref 7), ("max_heap", .int 100000), ("occurs", .bool true), ("max_bits", .int 4096), ("store", .ref 9), ("x", .ref 13), ("p", .int 0), ("cp", .int 0)], .inst 381 [("symbols", .ref 2), ("max_heap", .int 100000), ("heap", .ref 10), ("stack", .ref 11), ("trail", .ref 12), ("hb", .int 0), ("bb", .int 0)], .list [], .list [], .list [], .list [.obj (.ref 180)]])
    · apply snd_as
      walk_at "m s"
      rfl
    apply snd_seq (hp₁ := HB o0 o1 b [o7, .inst 660 [("symbols", .ref 2), ("code", .ref 7), ("max_heap", .int 100000), ("occurs", .bool true), ("max_bits", .int 4096), ("store", .ref 9), ("x", .ref 13), ("p", .int 0), ("cp", .int 0), ("e", .int (-1))], .inst 381 [("symbols", .ref 2), ("max_heap", .int 100000), ("heap", .ref 10), ("stack", .ref 11), ("trail", .ref 12), ("hb", .int 0), ("bb", .int 0)], .list [], .list [], .list [], .list [.obj (.ref 180)]])
    · apply snd_as
      walk_at "m s"
      rfl
    apply snd_seq (hp₁ := HB o0 o1 b [o7, .inst 660 [("symbols", .ref 2), ("code", .ref 7), ("max_heap", .int 100000), ("occurs", .bool true), ("max_bits", .int 4096), ("store", .ref 9), ("x", .ref 13), ("p", .int 0), ("cp", .int 0), ("e", .int (-1)), ("b", .int (-1))], .inst 381 [("symbols", .ref 2), ("max_heap", .int 100000), ("heap", .ref 10), ("stack", .ref 11), ("trail", .ref 12), ("hb", .int 0), ("bb", .int 0)], .list [], .list [], .list [], .list [.obj (.ref 180)]])
    · apply snd_as
      walk_at "m s"
      rfl
    apply snd_seq (hp₁ := HB o0 o1 b [o7, .inst 660 [("symbols", .ref 2), ("code", .ref 7), ("max_heap", .int 100000), ("occurs", .bool true), ("max_bits", .int 4096), ("store", .ref 9), ("x", .ref 13), ("p", .int 0), ("cp", .int 0), ("e", .int (-1)), ("b", .int (-1)), ("b0", .int (-1))], .inst 381 [("symbols", .ref 2), ("max_heap", .int 100000), ("heap", .ref 10), ("stack", .ref 11), ("trail", .ref 12), ("hb", .int 0), ("bb", .int 0)], .list [], .list [], .list [], .list [.obj (.ref 180)]])
    · apply snd_as
      walk_at "m s"
      rfl
    apply snd_seq (hp₁ := HB o0 o1 b [o7, .inst 660 [("symbols", .ref 2), ("code", .ref 7), ("max_heap", .int 100000), ("occurs", .bool true), ("max_bits", .int 4096), ("store", .ref 9), ("x", .ref 13), ("p", .int 0), ("cp", .int 0), ("e", .int (-1)), ("b", .int (-1)), ("b0", .int (-1)), ("mode", .str "read")], .inst 381 [("symbols", .ref 2), ("max_heap", .int 100000), ("heap", .ref 10), ("stack", .ref 11), ("trail", .ref 12), ("hb", .int 0), ("bb", .int 0)], .list [], .list [], .list [], .list [.obj (.ref 180)]])
    · apply snd_as
      walk_at "m s"
      rfl
    apply snd_seq (hp₁ := HB o0 o1 b [o7, .inst 660 [("symbols", .ref 2), ("code", .ref 7), ("max_heap", .int 100000), ("occurs", .bool true), ("max_bits", .int 4096), ("store", .ref 9), ("x", .ref 13), ("p", .int 0), ("cp", .int 0), ("e", .int (-1)), ("b", .int (-1)), ("b0", .int (-1)), ("mode", .str "read"), ("s", .int 0)], .inst 381 [("symbols", .ref 2), ("max_heap", .int 100000), ("heap", .ref 10), ("stack", .ref 11), ("trail", .ref 12), ("hb", .int 0), ("bb", .int 0)], .list [], .list [], .list [], .list [.obj (.ref 180)]])
    · apply snd_as
      walk_at "m s"
      rfl
    apply snd_seq (hp₁ := HB o0 o1 b [o7, .inst 660 [("symbols", .ref 2), ("code", .ref 7), ("max_heap", .int 100000), ("occurs", .bool true), ("max_bits", .int 4096), ("store", .ref 9), ("x", .ref 13), ("p", .int 0), ("cp", .int 0), ("e", .int (-1)), ("b", .int (-1)), ("b0", .int (-1)), ("mode", .str "read"), ("s", .int 0), ("guard", .obj (.ref 180))], .inst 381 [("symbols", .ref 2), ("max_heap", .int 100000), ("heap", .ref 10), ("stack", .ref 11), ("trail", .ref 12), ("hb", .int 0), ("bb", .int 0)], .list [], .list [], .list [], .list [.obj (.ref 180)]])
    · apply snd_as
      walk_at "m s"
      rfl
    apply snd_seq (hp₁ := HB o0 o1 b [o7, .inst 660 [("symbols", .ref 2), ("code", .ref 7), ("max_heap", .int 100000), ("occurs", .bool true), ("max_bits", .int 4096), ("store", .ref 9), ("x", .ref 13), ("p", .int 0), ("cp", .int 0), ("e", .int (-1)), ("b", .int (-1)), ("b0", .int (-1)), ("mode", .str "read"), ("s", .int 0), ("guard", .obj (.ref 180)), ("roots", .ref 14)], .inst 381 [("symbols", .ref 2), ("max_heap", .int 100000), ("heap", .ref 10), ("stack", .ref 11), ("trail", .ref 12), ("hb", .int 0), ("bb", .int 0)], .list [], .list [], .list [], .list [.obj (.ref 180)], .list []])
    · apply snd_as
      walk_at "m s"
      rfl
    apply snd_seq (hp₁ := HB o0 o1 b [o7, .inst 660 [("symbols", .ref 2), ("code", .ref 7), ("max_heap", .int 100000), ("occurs", .bool true), ("max_bits", .int 4096), ("store", .ref 9), ("x", .ref 13), ("p", .int 0), ("cp", .int 0), ("e", .int (-1)), ("b", .int (-1)), ("b0", .int (-1)), ("mode", .str "read"), ("s", .int 0), ("guard", .obj (.ref 180)), ("roots", .ref 14), ("bags", .ref 15)], .inst 381 [("symbols", .ref 2), ("max_heap", .int 100000), ("heap", .ref 10), ("stack", .ref 11), ("trail", .ref 12), ("hb", .int 0), ("bb", .int 0)], .list [], .list [], .list [], .list [.obj (.ref 180)], .list [], .dI []])
    · apply snd_as
      apply snd_setattr
      exact snd_dict0 (.dI []) .i
      walk_at "m e"
      rfl
      walk_at "m mo"
      exact Nat.le_of_ble_eq_true rfl
      exact fun _ => rfl
      rfl
    apply snd_seq (hp₁ := HB o0 o1 b [o7, .inst 660 [("symbols", .ref 2), ("code", .ref 7), ("max_heap", .int 100000), ("occurs", .bool true), ("max_bits", .int 4096), ("store", .ref 9), ("x", .ref 13), ("p", .int 0), ("cp", .int 0), ("e", .int (-1)), ("b", .int (-1)), ("b0", .int (-1)), ("mode", .str "read"), ("s", .int 0), ("guard", .obj (.ref 180)), ("roots", .ref 14), ("bags", .ref 15), ("collect_wanted", .bool false)], .inst 381 [("symbols", .ref 2), ("max_heap", .int 100000), ("heap", .ref 10), ("stack", .ref 11), ("trail", .ref 12), ("hb", .int 0), ("bb", .int 0)], .list [], .list [], .list [], .list [.obj (.ref 180)], .list [], .dI []])
    · apply snd_as
      walk_at "m s"
      rfl
    walk_at "m ss"
end

end

section
variable [HasK] [HasF]
omit [HasK] [HasF] in
theorem len333 {p q r s t u : Str} {a b c : V} {rs : List Value} (h : rs.length + [a, b, c].length = [p, q, r, s, t, u].length) : ∃ a b c, rs = [a, b, c] := by
  match rs, h with
  | [a, b, c], _ => exact ⟨a, b, c, rfl⟩
section
variable {d : Nat} {o0 o1 o7 : O} {b : Bk} {T F C K X : List V} {At : List (Str × V)} {Fn : List (List Int × V)} {rest : List O}
theorem sp_minit : Snd (d + 4) (.code (.ref 517) [.ref 8, .ref 2, .ref 7] (HB o0 o1 b [o7, .inst 660 []]))
    (.v .none (HB o0 o1 b [o7, .inst 660 (mAtt (-1)), .inst 381 [("symbols", .ref 2), ("max_heap", .int 100000), ("heap", .ref 10), ("stack", .ref 11), ("trail", .ref 12), ("hb", .int 0), ("bb", .int 0)], .list [], .list [], .list [], .list [.obj (.ref 180)], .list [], .dI []])) := by
  apply snd_code (ps := ["self", "symbols", "code", "max_heap", "occurs", "max_bits"]) (ds := [.int 100000, .bool true, .int 4096]) (gl := [])
  case H => exact HasF.fM
  case hn => rfl
  case hg => exact gl_nil
  case hg2 => rfl
  case hb => constructor
  case h =>
    walk_at "m ss"
    walk_at "m ss"
    walk_at "m ss"
    walk_at "m ss"
    walk_at "m ss"
    apply snd_seq
    · apply snd_expr
      apply snd_mcall0
      walk_at "m e"
      walk_at "m meth"
      exact sp_reset
      exact fun _ => ⟨_, rfl⟩
      exact fun _ => rfl
    walk_at "m ss"
theorem sp_top : Snd (d + 1) (.call (.ref 573) [.ref 8] (Hp o0 o1 T At F Fn o7 C K X (-1) rest)) (.v (.int 0) (Hp o0 o1 T At F Fn o7 C K X (-1) rest)) := by
  apply snd_call (ps := ["self"]) (ds := []) (gl := [])
  case H => walk_at "m fn1"
  case hn => rfl
  case hg => exact gl_nil
  case hg2 => rfl
  case hb => constructor
  case h =>
    walk_at "m ifF"
    walk_at "m ss"
    walk_at "m ifF"
    walk_at "m ss"
    walk_at "m ss"
/-- the stack behind the environment's making -/
noncomputable abbrev K0 : List V := [.int (-1), .int 1, .obj (.ref 180), .obj (.ref 180), .obj (.ref 180)]
theorem sp_penv : Snd (d + 3) (.call (.ref 580) [.ref 8, .int 3] (Hp o0 o1 T At F Fn o7 C [] X (-1) rest)) (.v .none (Hp o0 o1 T At F Fn o7 C K0 X 0 rest)) := by
  apply snd_call (ps := ["self", "size"]) (ds := []) (gl := [("range", .obj (.type "range")), ("VOID", .obj (.ref 180))]) (fr' := nofr) (fl := .nx)
  case H => walk_at "m fn2"
  case hn => rfl
  case hg => exact gl_cons g_range (gl_cons g_VOID gl_nil)
  case hg2 => rfl
  case hb => constructor
  case h =>
    apply snd_weakN
    apply snd_seq
    · apply snd_asg
      · apply snd_mcall0
        walk_at "m e"
        walk_at "m meth"
        exact sp_top
        exact fun _ => ⟨_, rfl⟩
      exact .inl rfl
      rfl
      exact fun _ => rfl
    walk_at "m ss"
    apply snd_seq (hp₁ := Hp o0 o1 T At F Fn o7 C [.int (-1)] X (-1) rest)
    · apply snd_expr
      apply snd_mcall
      walk_at "m e"
      walk_at "m meth"
      walk_at "m es"
      exact sp_sputA (K := []) (by simp)
      exact fun _ => ⟨_, rfl⟩
      exact fun _ => rfl
    apply snd_seq (hp₁ := Hp o0 o1 T At F Fn o7 C [.int (-1), .int 1] X (-1) rest)
    · apply snd_expr
      apply snd_mcall
      walk_at "m e"
      walk_at "m meth"
      walk_at "m es"
      exact sp_sputA (K := [.int (-1)]) (by simp)
      exact fun _ => ⟨_, rfl⟩
      exact fun _ => rfl
    apply snd_seq (hp₁ := Hp o0 o1 T At F Fn o7 C K0 X (-1) rest)
    · apply snd_forR [3]
      rfl
      walk_at "m es"
      rfl
      walk_at "m rng"
      rfl
      rfl
      exact .inl rfl
      rfl
      · apply Lps.turn (hp₂ := Hp o0 o1 T At F Fn o7 C [.int (-1), .int 1, .obj (.ref 180)] X (-1) rest)
        · apply snd_seq
          · apply snd_expr
            apply snd_mcall
            walk_at "m e"
            walk_at "m meth"
            walk_at "m es"
            exact sp_sputA (K := [.int (-1), .int 1]) (by simp)
            exact fun _ => ⟨_, rfl⟩
            exact fun _ => rfl
          walk_at "m ss"
        exact .inl rfl
        apply Lps.turn (hp₂ := Hp o0 o1 T At F Fn o7 C [.int (-1), .int 1, .obj (.ref 180), .obj (.ref 180)] X (-1) rest)
        · apply snd_seq
          · apply snd_expr
            apply snd_mcall
            walk_at "m e"
            walk_at "m meth"
            walk_at "m es"
            exact sp_sputA (K := [.int (-1), .int 1, .obj (.ref 180)]) (by simp)
            exact fun _ => ⟨_, rfl⟩
            exact fun _ => rfl
          walk_at "m ss"
        exact .inl rfl
        apply Lps.turn (hp₂ := Hp o0 o1 T At F Fn o7 C K0 X (-1) rest)
        · apply snd_seq
          · apply snd_expr
            apply snd_mcall
            walk_at "m e"
            walk_at "m meth"
            walk_at "m es"
            exact sp_sputA (K := [.int (-1), .int 1, .obj (.ref 180), .obj (.ref 180)]) (by simp)
            exact fun _ => ⟨_, rfl⟩
            exact fun _ => rfl
          walk_at "m ss"
        exact .inl rfl
        exact Lps.done
      exact fun _ _ => rfl
    apply snd_seq (hp₁ := Hp o0 o1 T At F Fn o7 C K0 X 0 rest)
    · apply snd_as
      walk_at "m s"
      rfl
    walk_at "m ss"
end

end

section
variable [HasK] [HasF]
/-- one draw: the number drawn from, how many are drawn -/
noncomputable def pickU (sc : List Int) (u : Int) (p : Nat) : Int × Nat := match sc[p]? with
  | some i => if u = 0 then (if i < 0 then -i else i, p + 1) else (u, p)
  | none => (u, p)
noncomputable def urnL (u : Int) (p : Nat) : List V := [.int u, .ref 0, .int p]
local macro_rules | `(tactic| walk_at "m call") => `(tactic| first | apply sndb_abs | apply sndb_int)
section
variable {d : Nat} {rest : List O}
theorem sp_pick {sc : List Int} {u n : Int} {p : Nat} (hn : n ≠ 0) (hs : sc.length ≤ 100) (hp : p ≤ sc.length) : Snd (d + 1) (.call (.ref 671) [.ref 1, .int n] (.list (sc.map .int) :: .list (urnL u p) :: rest))
    (.v (.int ((pickU sc u p).1.fmod n)) (.list (sc.map .int) :: .list (urnL ((pickU sc u p).1.fdiv n) (pickU sc u p).2) :: rest)) := by
  apply snd_call (ps := ["urn", "faces"]) (ds := []) (gl := [("len", .obj (.builtin "len")), ("abs", .obj (.builtin "abs")), ("int", .obj (.type "int"))]) (fr' := nofr) (fl := .rt (.int ((pickU sc u p).1.fmod n)))
  case H => walk_at "m fn2"
  case hn => rfl
  case hg => exact gl_cons g_len (gl_cons g_abs (gl_cons g_int gl_nil))
  case hg2 => rfl
  case hb => constructor
  case h =>
    have hl : (sc.map V.int).length = sc.length := by simp
    apply snd_seq (fr₁ := lk [("urn", .ref 1), ("faces", .int n)]) (hp₁ := .list (sc.map .int) :: .list (urnL (pickU sc u p).1 (pickU sc u p).2) :: rest)
    · by_cases q : u = 0
      · by_cases q2 : p < sc.length
        · have e : pickU sc u p = (if sc[p] < 0 then -sc[p] else sc[p], p + 1) := by simp [pickU, q2, q]
          rw [e]
          apply snd_ifT'
          · apply snd_tandT
            · apply snd_tcmp
              walk_at "m e"
              walk_at "m e"
              exact cmp_as (b' := true) (.eqI _ _ _) (by simp [q])
              rfl
            · apply snd_tandT
              · apply snd_tcmp
                walk_at "m e"
                · apply snd_ecall
                  rfl
                  walk_at "m kept"
                  walk_at "m es"
                  apply sndb_lenL
                  rfl
                  (first | lia | omega)
                exact cmp_as (b' := true) (.ltI _ _ _) (by simp; (first | lia | omega))
                rfl
              · exact snd_tand0
          · rfl
          · apply snd_weakB
            · apply snd_seq (hp₁ := .list (sc.map .int) :: .list (urnL (if sc[p] < 0 then -sc[p] else sc[p]) p) :: rest)
              · apply snd_as
                · apply snd_setitem
                  · apply snd_ecall
                    rfl
                    walk_at "m kept"
                    · apply snd_cons
                      rfl
                      · apply snd_ecall
                        rfl
                        walk_at "m kept"
                        · apply snd_cons
                          rfl
                          · apply snd_sub
                            walk_at "m e"
                            walk_at "m e"
                            exact SubI.lst (v := .int sc[p]) rfl (by (first | lia | omega)) (by (first | lia | omega)) (by simp [q2])
                            rfl
                          apply snd_nil
                        apply sndb_int
                      apply snd_nil
                    apply sndb_abs
                  walk_at "m e"
                  walk_at "m e"
                  exact SetI.lst rfl (by decide) (by decide : (0 : Int) < 3) (by decide : 3 < 2 ^ 20)
                  exact fun _ => rfl
                · rfl
              apply snd_seq (hp₁ := .list (sc.map .int) :: .list (urnL (if sc[p] < 0 then -sc[p] else sc[p]) (p + 1)) :: rest)
              · apply snd_as
                · apply snd_augsub
                  walk_at "m e"
                  walk_at "m e"
                  rfl
                  decide
                  exact (by decide : (2 : Int) < 3)
                  exact (by decide : 3 < 2 ^ 20)
                  rfl
                  walk_at "m e"
                  exact .add _ _
                  rfl
                  exact (by decide : (2 : Int) < 3)
                  exact (by decide : 3 < 2 ^ 20)
                  exact fun _ _ _ => rfl
                · rfl
              walk_at "m ss"
            · walk_at "m wk"
        · have e : pickU sc u p = (u, p) := by simp [pickU, List.getElem?_eq_none (by (first | lia | omega) : sc.length ≤ p)]
          rw [e]
          apply snd_ifF'
          · apply snd_tandT
            · apply snd_tcmp
              walk_at "m e"
              walk_at "m e"
              exact cmp_as (b' := true) (.eqI _ _ _) (by simp [q])
              rfl
            · apply snd_tandF
              · apply snd_tcmp
                walk_at "m e"
                · apply snd_ecall
                  rfl
                  walk_at "m kept"
                  walk_at "m es"
                  apply sndb_lenL
                  rfl
                  (first | lia | omega)
                exact cmp_as (b' := false) (.ltI _ _ _) (by simp; (first | lia | omega))
                rfl
          · rfl
          · apply snd_weakB
            · walk_at "m ss"
            · walk_at "m wk"
      · have e : pickU sc u p = (u, p) := by unfold pickU; split <;> simp [q]
        rw [e]
        apply snd_ifF'
        · apply snd_tandF
          · apply snd_tcmp
            walk_at "m e"
            walk_at "m e"
            exact cmp_as (b' := false) (.eqI _ _ _) (by simp [q])
            rfl
        · rfl
        · apply snd_weakB
          · walk_at "m ss"
          · walk_at "m wk"
    generalize (pickU sc u p).1 = u'
    generalize (pickU sc u p).2 = p'
    apply snd_weakN
    walk_at "m ss"
    apply snd_seq (hp₁ := .list (sc.map .int) :: .list (urnL (u'.fdiv n) p') :: rest)
    · apply snd_as
      · apply snd_augsub
        walk_at "m e"
        walk_at "m e"
        rfl
        decide
        exact (by decide : (0 : Int) < 3)
        exact (by decide : 3 < 2 ^ 20)
        rfl
        walk_at "m e"
        exact .div _ _ hn
        rfl
        exact (by decide : (0 : Int) < 3)
        exact (by decide : 3 < 2 ^ 20)
        exact fun _ _ _ => rfl
      · rfl
    walk_at "m ss"
end

end

section
variable [HasK] [HasF]
/-- heap with a book and the machine -/
noncomputable abbrev HM (o0 o1 : O) (b : Bk) (o7 : O) (C K X : List V) (rest : List O) : List O := Hp o0 o1 (bT b) (bA b) (bF b) (bN b) o7 C K X 0 rest
section
variable {d : Nat} {o0 o1 o7 : O} {b : Bk} {C K X : List V} {rest : List O}
theorem sp_isc2 {a : Int} : Snd (d + 1) (.call (.ref 286) [.ref 9, cel 2 a] (HM o0 o1 b o7 C K X rest)) (.v (.bool true) (HM o0 o1 b o7 C K X rest)) := by
  apply snd_call (ps := ["self", "cell"]) (ds := []) (gl := [("STR", .int 2), ("LIS", .int 3)])
  case H => walk_at "m fn2"
  case hn => rfl
  case hg => exact gl_cons g_STR (gl_cons g_LIS gl_nil)
  case hg2 => rfl
  case hb => constructor
  case h =>
    apply snd_stop
    · apply snd_ret
      apply snd_eorT
      walk_at "m e"
    · exact fun h => nomatch h
theorem sp_isc3 {a : Int} : Snd (d + 1) (.call (.ref 286) [.ref 9, cel 3 a] (HM o0 o1 b o7 C K X rest)) (.v (.bool true) (HM o0 o1 b o7 C K X rest)) := by
  apply snd_call (ps := ["self", "cell"]) (ds := []) (gl := [("STR", .int 2), ("LIS", .int 3)])
  case H => walk_at "m fn2"
  case hn => rfl
  case hg => exact gl_cons g_STR (gl_cons g_LIS gl_nil)
  case hg2 => rfl
  case hb => constructor
  case h =>
    apply snd_stop
    · apply snd_ret
      apply snd_eorF
      walk_at "m e"
      apply snd_eor1
      walk_at "m e"
    · exact fun h => nomatch h
theorem sp_isc0 {t a : Int} (h2 : t ≠ 2) (h3 : t ≠ 3) : Snd (d + 1) (.call (.ref 286) [.ref 9, cel t a] (HM o0 o1 b o7 C K X rest)) (.v (.bool false) (HM o0 o1 b o7 C K X rest)) := by
  apply snd_call (ps := ["self", "cell"]) (ds := []) (gl := [("STR", .int 2), ("LIS", .int 3)])
  case H => walk_at "m fn2"
  case hn => rfl
  case hg => exact gl_cons g_STR (gl_cons g_LIS gl_nil)
  case hg2 => rfl
  case hb => constructor
  case h =>
    apply snd_stop
    · apply snd_ret
      apply snd_eorF
      · apply snd_ecmp
        walk_at "m e"
        walk_at "m e"
        exact cmp_as (.eqI _ _ _) (by simp [h2])
        rfl
      apply snd_eor1
      apply snd_ecmp
      walk_at "m e"
      walk_at "m e"
      exact cmp_as (.eqI _ _ _) (by simp [h3])
      rfl
    · exact fun h => nomatch h
theorem sp_fun2 {a f : Int} {g : Int} (h0 : 0 ≤ a) (h1 : a < 2 ^ 60) (h : C[a.toNat]? = some (cel g f)) : Snd (d + 1) (.call (.ref 293) [.ref 9, cel 2 a] (HM o0 o1 b o7 C K X rest)) (.v (.int f) (HM o0 o1 b o7 C K X rest)) := by
  apply snd_call (ps := ["self", "cell"]) (ds := []) (gl := [("STR", .int 2), ("LIS", .int 3)])
  case H => walk_at "m fn2"
  case hn => rfl
  case hg => exact gl_cons g_STR (gl_cons g_LIS gl_nil)
  case hg2 => rfl
  case hb => constructor
  case h =>
    walk_at "m ss"
    walk_at "m ifTs"
    walk_at "m ss"
    exact fun h => nomatch h
theorem sp_fun3 {a : Int} : Snd (d + 1) (.call (.ref 293) [.ref 9, cel 3 a] (HM o0 o1 b o7 C K X rest)) (.v (.int 0) (HM o0 o1 b o7 C K X rest)) := by
  apply snd_call (ps := ["self", "cell"]) (ds := []) (gl := [("STR", .int 2), ("LIS", .int 3), ("F_DOT", .int 0)])
  case H => walk_at "m fn2"
  case hn => rfl
  case hg => exact gl_cons g_STR (gl_cons g_LIS (gl_cons g_F_DOT gl_nil))
  case hg2 => rfl
  case hb => constructor
  case h =>
    walk_at "m ss"
    walk_at "m ifF"
    walk_at "m ss"
    walk_at "m ifTs"
    walk_at "m ss"
    exact fun h => nomatch h
theorem sp_wid3 {a : Int} : Snd (d + 1) (.call (.ref 300) [.ref 9, cel 3 a] (HM o0 o1 b o7 C K X rest)) (.v (.int 2) (HM o0 o1 b o7 C K X rest)) := by
  apply snd_call (ps := ["self", "cell"]) (ds := []) (gl := [("STR", .int 2), ("LIS", .int 3)])
  case H => walk_at "m fn2"
  case hn => rfl
  case hg => exact gl_cons g_STR (gl_cons g_LIS gl_nil)
  case hg2 => rfl
  case hb => constructor
  case h =>
    walk_at "m ss"
    walk_at "m ifTs"
    walk_at "m ss"
    exact fun h => nomatch h
theorem sp_wid2 {a x n : Int} {f : Nat} {g : Int} (h0 : 0 ≤ a) (h1 : a < 2 ^ 60) (h : C[a.toNat]? = some (cel g f)) (hf : b.F[f]? = some (x, n)) (hf2 : f < 1000) : Snd (d + 2) (.call (.ref 300) [.ref 9, cel 2 a] (HM o0 o1 b o7 C K X rest)) (.v (.int n) (HM o0 o1 b o7 C K X rest)) := by
  apply snd_call (ps := ["self", "cell"]) (ds := []) (gl := [("STR", .int 2), ("LIS", .int 3)])
  case H => walk_at "m fn2"
  case hn => rfl
  case hg => exact gl_cons g_STR (gl_cons g_LIS gl_nil)
  case hg2 => rfl
  case hb => constructor
  case h =>
    walk_at "m ss"
    walk_at "m ifF"
    walk_at "m ss"
    apply snd_stop
    · apply snd_ifT'
      · walk_at "m t"
      · rfl
      · apply snd_stop
        · apply snd_ret
          apply snd_mcall
          walk_at "m e"
          walk_at "m meth"
          walk_at "m es"
          exact sp_arity hf hf2
          exact fun _ => ⟨_, rfl⟩
        · exact fun h => nomatch h
    · exact fun h => nomatch h
theorem sp_bas3 {a : Int} : Snd (d + 1) (.call (.ref 307) [.ref 9, cel 3 a] (HM o0 o1 b o7 C K X rest)) (.v (.int a) (HM o0 o1 b o7 C K X rest)) := by
  apply snd_call (ps := ["self", "cell"]) (ds := []) (gl := [("LIS", .int 3)])
  case H => walk_at "m fn2"
  case hn => rfl
  case hg => exact gl_cons g_LIS gl_nil
  case hg2 => rfl
  case hb => constructor
  case h =>
    walk_at "m ifTs"
    walk_at "m ss"
    exact fun h => nomatch h
theorem sp_bas2 {a : Int} : Snd (d + 1) (.call (.ref 307) [.ref 9, cel 2 a] (HM o0 o1 b o7 C K X rest)) (.v (.int (a + 1)) (HM o0 o1 b o7 C K X rest)) := by
  apply snd_call (ps := ["self", "cell"]) (ds := []) (gl := [("LIS", .int 3)])
  case H => walk_at "m fn2"
  case hn => rfl
  case hg => exact gl_cons g_LIS gl_nil
  case hg2 => rfl
  case hb => constructor
  case h =>
    walk_at "m ifF"
    walk_at "m ss"
    walk_at "m ss"
end

end

section
variable [HasK] [HasF]
section
variable {w : World} {A : Around} {env : Env} {h₀ h : Heap} {L : Addr} {out : Led} {ρ : List Addr} {imm : Led} {hp : List O} {fr : Str → Option V}
omit [HasF] in
/-- one more list, told by its place in the ledger -/
theorem St.newRe (S : St w env h₀ L h ρ hp out imm fr) : ∃ m news, Fr h₀ L h m ∧ News h₀ L h news ∧ ∀ (h' : Heap) (a : Addr) (l : List V) (vs : List Value) (n : Nat), h.get? a = none → Fr h₀ L h' m → News h₀ L h' ((a, lstOf vs n) :: news) → VRs ρ imm l vs →
    St w env h₀ L h' (ρ ++ [a]) (hp ++ [.list l]) out imm fr ∧ Ext ρ (ρ ++ [a]) imm imm ∧ (ρ ++ [a])[hp.length]? = some a := by
  obtain ⟨m, mE, led, cells, I⟩ := S
  refine ⟨m, _, I.F, I.N, fun h' a l vs n e F' N' k => ?_⟩
  have hl : ρ.length = hp.length := I.R.len.1
  have x : Ext ρ (ρ ++ [a]) imm imm := ⟨fun i y h => by
    rw [List.getElem?_append_left (List.getElem?_eq_some_iff.mp h).1]; exact h, fun p h => h⟩
  obtain ⟨f1, f2, f3⟩ := I.fresh e
  refine ⟨⟨m, mE, led ++ [[(a, lstOf vs n)]], cells, F', ?_, (I.R.mono x).snoc ⟨vs, n, rfl, k.mono x⟩, ⟨?_, ?_, I.S.oi⟩, I.l, I.g, I.bi, I.k, I.c, fun y v hy => (I.f y v hy).mono x⟩, x, by rw [List.getElem?_append_right (by (first | lia | omega))]; simp [hl]⟩
  · intro p hp'
    refine N' p ?_
    simp only [List.flatten_append, List.flatten_cons, List.flatten_nil, List.append_nil, List.mem_append, List.mem_cons, List.not_mem_nil, or_false] at hp' ⊢
    rcases hp' with ((hp' | hp') | hp') | hp' <;> simp [hp']
  · have nd := I.S.nd
    simp only [List.flatten_append, List.flatten_cons, List.flatten_nil, List.append_nil, List.map_append, List.nodup_append, List.mem_append, List.mem_map] at nd ⊢
    refine ⟨⟨nd.1, by simp, ?_⟩, nd.2.1, ?_⟩
    · rintro _ ⟨p, hp', rfl⟩ _ ⟨q, hq, rfl⟩
      cases List.mem_singleton.mp hq
      exact f3 p (by simp only [List.mem_append]; exact .inl (.inl hp'))
    · rintro _ (⟨p, hp', rfl⟩ | ⟨q, hq, rfl⟩) _ ⟨r, hr, rfl⟩
      · exact nd.2.2 _ ⟨p, hp', rfl⟩ _ ⟨r, hr, rfl⟩
      · cases List.mem_singleton.mp hq
        exact Ne.symm (f3 r (by simp only [List.mem_append]; exact .inl (.inr hr)))
  · intro p hp' q hq
    simp only [List.flatten_append, List.flatten_cons, List.flatten_nil, List.append_nil, List.mem_append, List.mem_cons, List.not_mem_nil, or_false] at hp'
    rcases hp' with (hp' | rfl) | hp'
    · exact I.S.off p (by simp only [List.mem_append]; exact .inl hp') q hq
    · exact Ne.symm (f3 q (by simp only [List.mem_append] at hq ⊢; exact .inr hq))
    · exact I.S.off p (by simp only [List.mem_append]; exact .inr hp') q hq
end
section
variable {d : Nat} {fr : Str → Option V} {hp hp₁ hp₂ : List O}
omit [HasK] [HasF] in
theorem foldl_one (r : Value) : ∀ (k : Nat) (acc : Array Value), List.foldl (fun x1 x2 => x1 ++ x2) acc (List.replicate k #[r]) = acc ++ (List.replicate k r).toArray
  | 0, acc => by simp
  | k + 1, acc => by
    rw [List.replicate_succ, List.foldl_cons, foldl_one r k, List.replicate_succ]
    apply Array.toList_inj.mp
    simp
omit [HasK] [HasF] in
theorem VRs.rep {ρ : List Addr} {imm : Led} {v : V} {r : Value} (h : VR ρ imm v r) : ∀ k, VRs ρ imm (List.replicate k v) (List.replicate k r)
  | 0 => .nil
  | k + 1 => .cons h (VRs.rep h k)
omit [HasF] in
theorem snd_mulL {l r : Expr} {p : Pos} {i : Nat} {k : Nat} {v : V} (h1 : Snd d (.e l fr hp) (.v (.ref i) hp₁)) (h2 : Snd d (.e r fr hp₁) (.v (.int k) hp₂)) (hi : hp₂[i]? = some (.list [v])) (hk : k < 1000) :
    Snd d (.e (.BinOp l .Mult r p) fr hp) (.v (.ref hp₂.length) (hp₂ ++ [.list (List.replicate k v)])) := by
  refine ⟨?_⟩
  intro w A env h₀ L out ρ imm s C R S
  refine wpAny_BinOp (wpAny_mono (h1.go w A env h₀ L out ρ imm s C R S) (fun ra s₁ q => ?_) fun _ _ x => x)
  obtain ⟨ρ', imm', h', tk', rfl, S', x, ka⟩ := q
  refine wpAny_mono (h2.go w A env h₀ L out ρ' imm' _ C R S') (fun rc s₂ q => ?_) fun _ _ x => x
  obtain ⟨ρ'', imm'', h'', tk'', rfl, S'', y, kc⟩ := q
  obtain ⟨a, rfl, ea⟩ := ka.refA
  obtain ⟨t, rfl⟩ := kc.intA
  obtain ⟨a', vs, n, e1, e2, e3, _⟩ := S''.lst hi
  have := y.a _ _ ea
  rw [e1] at this; cases this
  obtain ⟨r, rfl, kr⟩ := e3.one
  obtain ⟨m, news, F, N, re⟩ := S''.newRe
  refine mul_list (s := { s with heap := h'', toks := tk'' }) F N e2 (by (first | lia | omega)) (by (first | lia | omega)) (by simp; (first | lia | omega)) fun h3 F3 N3 => ?_
  have hr := VRs.rep kr k
  have e : List.foldl (fun x1 x2 => x1 ++ x2) #[] (List.replicate (if ([r].toArray).isEmpty = true then 0 else (k : Int).toNat) [r].toArray) = (List.replicate k r).toArray := by
    rw [if_neg (by simp)]
    have := foldl_one r k #[]
    simpa using this
  rw [e] at N3
  obtain ⟨S3, z, z2⟩ := re h3 h''.objs.size (List.replicate k v) (List.replicate k r) 0 (Heap.get?_none_of_le (Nat.le_refl _)) F3 N3 hr
  exact .of S3 ((x.trans y).trans z) (.ref z2)
end

end

section
variable [HasK] [HasF]
section
variable {d : Nat} {fr : Str → Option V} {hp hp₁ hp₂ : List O}
omit [HasF] in
/-- a list from a place on -/
theorem snd_from {o e : Expr} {sp p : Pos} {i k : Nat} {l : List V} (h1 : Snd d (.e o fr hp) (.v (.ref i) hp₁)) (h2 : Snd d (.e e fr hp₁) (.v (.int k) hp₂)) (hi : hp₂[i]? = some (.list l)) (hk : k ≤ l.length) (hz : l.length < 2 ^ 20)
    (ht : ∀ ov r, letTemporaryGo o ov r = pure ()) :
    Snd d (.e (.Subscript o (.Slice (some e) none none sp) p) fr hp) (.v (.ref hp₂.length) (hp₂ ++ [.list (l.drop k)])) := by
  refine ⟨?_⟩
  intro w A env h₀ L out ρ imm s C R S
  refine wpAny_Subscript_Slice list_getitem_lookup (wpAny_mono (h1.go w A env h₀ L out ρ imm s C R S) (fun ra s₁ q => ?_) fun _ _ x => x) ht
  obtain ⟨ρ', imm', h', tk', rfl, S', x, ka⟩ := q
  refine wpAny_Slice (wpAny_mono (h2.go w A env h₀ L out ρ' imm' _ C R S') (fun rc s₂ q => ?_) fun _ _ x => x)
  obtain ⟨ρ'', imm'', h'', tk'', rfl, S'', y, kc⟩ := q
  rw [evalPart_none]
  refine wpAny_pure (wpAny_pure ?_)
  obtain ⟨a, rfl, ea⟩ := ka.refA
  obtain ⟨t, rfl⟩ := kc.intA
  obtain ⟨a', vs, n, e1, e2, e3, _⟩ := S''.lst hi
  have := y.a _ _ ea
  rw [e1] at this; cases this
  have hl : h''.IsList a vs.toArray := isList_of e2
  have S3 := S''.grow (h' := h''.push { cls := .type "slice", data := .fields #[.int k t, .none, .none] }) (fun b o e => Heap.get?_push_of_some _ e)
  obtain ⟨m, news, F, N, re⟩ := S3.newRe
  refine ⟨(hl.push _).typeIs, wpAny_getItem_list_slice (hl.push _) (Heap.IsSliceOf.new ..) (.int _ _) .none .none (by simp) ?_ (by rw [List.size_toArray, e3.length, sizeLine_eq]; (first | lia | omega))⟩
  rw [slicePick_from _ _ (by rw [List.size_toArray, e3.length]; exact hk)]
  have N3 := News.push F N { cls := .type "list", data := .seq (vs.drop k).toArray }
  obtain ⟨S4, z, z2⟩ := re _ _ (l.drop k) (vs.drop k) 0 (Heap.get?_none_of_le (Nat.le_refl _)) (F.push _) N3 (e3.drop k)
  exact .of S4 ((x.trans y).trans z) (.ref z2)
end

end

section
variable [HasK] [HasF]
omit [HasK] [HasF] in
theorem cut_list {sel : Nat → Bool} {k : Nat} : ∀ (l : List Value) (o : Nat), (∀ i, i < o + l.length → sel i = decide (k ≤ i)) → (l.zipIdx o).filterMap (fun x => if sel x.2 = true then none else some x.1) = l.take (k - o)
  | [], o, _ => by simp
  | a :: l, o, h => by
    rw [List.zipIdx_cons, List.filterMap_cons]
    have h0 := h o (by simp)
    have ih := cut_list l (o + 1) fun i hi => h i (by simp at hi ⊢; (first | lia | omega))
    by_cases q : k ≤ o
    · rw [h0]
      simp only [q, decide_true, if_true]
      rw [ih, show k - (o + 1) = 0 by (first | lia | omega), show k - o = 0 by (first | lia | omega)]; simp
    · rw [h0]
      simp only [q, decide_false, Bool.false_eq_true, if_false]
      rw [ih, show k - o = (k - (o + 1)) + 1 by (first | lia | omega), List.take_succ_cons]
section
variable {w : World} {A : Around} {s : Shared}
omit [HasK] [HasF] in
theorem del_from {a sl : Addr} {vs : List Value} {n k : Nat} {t : Tok} {Q : Unit → Shared → Prop} {E : Value → Shared → Prop} (ho : s.heap.get? a = some (lstOf vs n)) (hs : s.heap.IsSliceOf sl (.int k t) .none .none) (hk : k ≤ vs.length) (hz : vs.length < 2 ^ 20)
    (h : ∀ h', Heap.SameBut a s.heap h' → (∃ n', h'.get? a = some (lstOf (vs.take k) n')) → Q () { s with heap := h' }) : wpAny (model pR w) A (delItem (.ref a) (.ref sl)) Q E s := by
  obtain ⟨os, hos, hcs, hds⟩ := id hs
  have hTs : s.TypeIs (.ref sl) "slice" := ⟨os, hos, hcs⟩
  have hT : s.TypeIs (.ref a) "list" := ⟨_, ho, rfl⟩
  refine wpAny_delItem_slot hT (by decide) PySem.F.slot_list_delitem (wpAny_call_entry PySem.F.slot_list_delitem hT PySem.F.entry_list_delitem ?_ (PySem.F.args_list_delitem_2 _ _))
  show wpAny _ _ (Builtin.List.listSubscript? (.ref sl) >>= _) _ _ s
  refine wpAny_bind ?_
  unfold Builtin.List.listSubscript?
  refine wpAny_bind (wpAny_specialOf hTs slice_no_index ?_)
  simp only [Option.isNone_none, if_true]
  refine wpAny_pure ?_
  show wpAny _ _ (typeOf (.ref sl) >>= _) _ _ s
  refine wpAny_bind (wpAny_typeOf hTs ?_)
  rw [if_neg (by decide)]
  rw [listSliceParts_eq]
  refine wpAny_bind (wpAny_bind (wpAny_field hos hds (x := .none) rfl (wpAny_bind (wpAny_listPart .none ?_))))
  rw [if_neg (by decide)]
  refine wpAny_bind (wpAny_field hos hds (x := .int k t) rfl (wpAny_bind (wpAny_listPart (.int _ _) ?_)))
  refine wpAny_bind (wpAny_field hos hds (x := .none) rfl (wpAny_bind (wpAny_listPart .none (wpAny_pure ?_))))
  refine wpAny_bind (m := Builtin.List.listItems (.ref a)) ?_
  unfold Builtin.List.listItems
  refine wpAny_bind (wpAny_seqItems ho rfl (wpAny_pure ?_))
  refine wpAny_bind (wpAny_of_eq (sliceIndices_raw (some (k : Int)) none none vs.toArray.size (by simp)) ?_)
  have eb : sliceBounds (some (k : Int)) none none vs.toArray.size = ((k : Int), (vs.length : Int), 1) := by
    simp [sliceBounds]; (first | lia | omega)
  rw [eb]
  k_delta "selects"
  dsimp only
  refine wpAny_bind (wpAny_rule ?_)
  refine wpAny_bind (wpAny_updateSeq ho rfl ?_ (by rw [List.size_toArray, sizeLine_eq]; (first | lia | omega)) ?_)
  · refine wpAny_bind (wpAny_letGo (wpAny_pure ⟨_, rfl, ?_⟩))
    refine h _ (Heap.SameBut.update ..) ?_
    have e := cut_list (sel := fun (i : Nat) => if (1 : Int) > 0 then decide ((k : Int) ≤ i) && decide ((i : Int) < vs.length) && ((i : Int) - k) % 1 == 0 else decide ((vs.length : Int) < i) && decide ((i : Int) ≤ k) && ((k : Int) - i) % (-1) == 0) (k := k) vs 0 (fun i hi => by
      have h1 : (i : Int) < vs.length := by simp at hi; (first | lia | omega)
      have h2 : i < vs.length := by (first | lia | omega)
      simp [h1, h2])
    exact ⟨_, (PySem.IsL.update ho _).trans (congrArg some (congrArg (fun l => lstOf l _) e))⟩
  · refine Nat.le_trans (?_ : _ ≤ vs.length) (by rw [sizeLine_eq]; (first | lia | omega))
    rw [List.size_toArray]
    refine Nat.le_trans (List.length_filterMap_le _ _) (by simp)
end

end

section
variable [HasK] [HasF]
section
variable {d : Nat} {sc : Scope} {fr : Str → Option V} {hp hp₁ hp₂ : List O}
omit [HasF] in
theorem snd_delfrom {o e : Expr} {sp p p' : Pos} {i k : Nat} {l : List V} (h1 : Snd d (.e o fr hp) (.v (.ref i) hp₁)) (h2 : Snd d (.e e fr hp₁) (.v (.int k) hp₂)) (hi : hp₂[i]? = some (.list l)) (hk : k ≤ l.length) (hz : l.length < 2 ^ 20) :
    Snd d (.s sc (.Delete [.Subscript o (.Slice (some e) none none sp) p'] p) fr hp) (.f .nx fr (hp₂.set i (.list (l.take k)))) := by
  refine ⟨?_⟩
  intro w A env h₀ L out ρ imm s C R hL hsc S
  refine wpAny_Delete (wpAny_deleteEach_cons ?_)
  rw [arm_delete_Subscript]
  refine wpAny_bind (wpAny_mono (h1.go w A env h₀ L out ρ imm s C R S) (fun ra s₁ q => ?_) fun _ _ x => x)
  obtain ⟨ρ', imm', h', tk', rfl, S', x, ka⟩ := q
  refine wpAny_bind (wpAny_holding (wpAny_Slice (wpAny_mono (h2.go w A env h₀ L out ρ' imm' _ C R S') (fun rc s₂ q => ?_) fun _ _ x => x)))
  obtain ⟨ρ'', imm'', h'', tk'', rfl, S'', y, kc⟩ := q
  rw [evalPart_none]
  refine wpAny_pure (wpAny_pure ?_)
  obtain ⟨a, rfl, ea⟩ := ka.refA
  obtain ⟨t, rfl⟩ := kc.intA
  have S3 := S''.grow (h' := h''.push { cls := .type "slice", data := .fields #[.int k t, .none, .none] }) (fun b o e => Heap.get?_push_of_some _ e)
  obtain ⟨a', vs, n, e1, e2, e3, up⟩ := S3.lst hi
  have := y.a _ _ ea
  rw [e1] at this; cases this
  refine wpAny_bind (wpAny_standAt (wpAny_bind (wpAny_holding (del_from (s := { s with heap := h''.push { cls := .type "slice", data := .fields #[.int k t, .none, .none] }, toks := tk'' }) e2 (Heap.IsSliceOf.new ..) (by rw [e3.length]; exact hk) (by rw [e3.length]; exact hz) fun h3 hs hn => ?_))))
  obtain ⟨n', hn⟩ := hn
  have S4 := up (e3.take k) hs hn
  exact wpAny_release (wpAny_deleteEach_nil ⟨ρ'', imm'', h3, tk'', rfl, S4, x.trans y, .nx⟩)
end

end

section
variable [HasK] [HasF]
omit [HasF] in
theorem Snd.eq {d : Nat} {t : Tk} {r r' : Rs} (h : Snd d t r) (e : r = r') : Snd d t r' := e ▸ h
/-- terms of the law's own model -/
inductive Tm where
  | v (n : Int)
  | a
  | s1 (f : Int) (t : Tm)
  | s2 (f : Int) (t u : Tm)
noncomputable def tv : Tm → V
  | .v n => .tup [.str "v", .int n]
  | .a => .tup [.str "a", .int 0]
  | .s1 f t => .tup [.str "s", .int f, .tup [tv t]]
  | .s2 f t u => .tup [.str "s", .int f, .tup [tv t, tv u]]
noncomputable def ht : Tm → Nat
  | .v _ => 0
  | .a => 0
  | .s1 _ t => ht t + 1
  | .s2 _ t u => max (ht t) (ht u) + 1
noncomputable def lv : Tm → Nat
  | .v _ => 1
  | .a => 0
  | .s1 _ t => lv t
  | .s2 _ t u => lv t + lv u
/-- the variables seen, in order -/
noncomputable def cnt : Tm → List Int → List Int
  | .v n, S => if n ∈ S then S else S ++ [n]
  | .a, S => S
  | .s1 _ t, S => cnt t S
  | .s2 _ t u, S => cnt u (cnt t S)
noncomputable def ix : List Int → Int → Nat
  | [], _ => 0
  | x :: r, n => if x = n then 0 else ix r n + 1
omit [HasK] [HasF] in
theorem ix_app {n : Int} : ∀ {S : List Int} (r : List Int), n ∈ S → ix (S ++ r) n = ix S n
  | x :: S, r, h => by
    show (if x = n then 0 else ix (S ++ r) n + 1) = if x = n then 0 else ix S n + 1
    by_cases q : x = n
    · rw [if_pos q, if_pos q]
    · rw [if_neg q, if_neg q, ix_app r ((List.mem_cons.mp h).resolve_left fun e => q e.symm)]
omit [HasK] [HasF] in
theorem ix_spec {n : Int} : ∀ {S : List Int}, n ∈ S → S[ix S n]? = some n ∧ ∀ m, m < ix S n → S[m]? ≠ some n
  | x :: S, h => by
    by_cases q : x = n
    · have e : ix (x :: S) n = 0 := if_pos q
      rw [e]
      exact ⟨by simp [q], fun m hm => absurd hm (Nat.not_lt_zero _)⟩
    · have e : ix (x :: S) n = ix S n + 1 := if_neg q
      rw [e]
      obtain ⟨h1, h2⟩ := ix_spec ((List.mem_cons.mp h).resolve_left fun e => q e.symm)
      refine ⟨by simpa using h1, fun m hm => ?_⟩
      cases m with
      | zero => simpa using q
      | succ m => simpa using h2 m (Nat.lt_of_succ_lt_succ hm)
noncomputable def ren (S : List Int) : Tm → Tm
  | .v n => .v (ix S n)
  | .a => .a
  | .s1 f t => .s1 f (ren S t)
  | .s2 f t u => .s2 f (ren S t) (ren S u)
omit [HasK] [HasF] in
theorem cnt_len : ∀ (t : Tm) (S : List Int), (cnt t S).length ≤ S.length + lv t
  | .v n, S => by
    unfold cnt lv
    split <;> simp
  | .a, S => by simp [cnt, lv]
  | .s1 _ t, S => cnt_len t S
  | .s2 _ t u, S => by
    have h1 := cnt_len t S
    have h2 := cnt_len u (cnt t S)
    show (cnt u (cnt t S)).length ≤ S.length + (lv t + lv u)
    (first | lia | omega)
omit [HasK] [HasF] in
theorem cnt_pre : ∀ (t : Tm) (S : List Int), ∃ r, cnt t S = S ++ r
  | .v n, S => by
    unfold cnt
    split
    · exact ⟨[], by simp⟩
    · exact ⟨[n], rfl⟩
  | .a, S => ⟨[], by simp [cnt]⟩
  | .s1 _ t, S => cnt_pre t S
  | .s2 _ t u, S => by
    obtain ⟨r, h1⟩ := cnt_pre t S
    obtain ⟨q, h2⟩ := cnt_pre u (cnt t S)
    exact ⟨r ++ q, by show cnt u (cnt t S) = _; rw [h2, h1, List.append_assoc]⟩
/-- all variables of a term have been seen -/
noncomputable def inS (S : List Int) : Tm → Prop
  | .v n => n ∈ S
  | .a => True
  | .s1 _ t => inS S t
  | .s2 _ t u => inS S t ∧ inS S u
omit [HasK] [HasF] in
theorem inS_app : ∀ (t : Tm) {S : List Int} (r : List Int), inS S t → inS (S ++ r) t
  | .v n, S, r, h => List.mem_append_left _ h
  | .a, _, _, _ => trivial
  | .s1 _ t, _, r, h => inS_app t r h
  | .s2 _ t u, _, r, h => ⟨inS_app t r h.1, inS_app u r h.2⟩
omit [HasK] [HasF] in
theorem inS_cnt : ∀ (t : Tm) (S : List Int), inS (cnt t S) t
  | .v n, S => by
    show n ∈ cnt (.v n) S
    unfold cnt
    split
    · assumption
    · simp
  | .a, S => trivial
  | .s1 _ t, S => inS_cnt t S
  | .s2 _ t u, S => by
    obtain ⟨q, h2⟩ := cnt_pre u (cnt t S)
    refine ⟨?_, inS_cnt u _⟩
    show inS (cnt u (cnt t S)) t
    rw [h2]
    exact inS_app t q (inS_cnt t S)
omit [HasK] [HasF] in
theorem ren_app : ∀ (t : Tm) {S : List Int} (r : List Int), inS S t → ren (S ++ r) t = ren S t
  | .v n, S, r, h => by
    show Tm.v (ix (S ++ r) n : Nat) = Tm.v (ix S n : Nat)
    rw [ix_app r h]
  | .a, _, _, _ => rfl
  | .s1 f t, _, r, h => by show Tm.s1 f _ = Tm.s1 f _; rw [ren_app t r h]
  | .s2 f t u, _, r, h => by show Tm.s2 f _ _ = Tm.s2 f _ _; rw [ren_app t r h.1, ren_app u r h.2]
omit [HasK] [HasF] in
theorem cnt_in : ∀ (t : Tm) {S : List Int}, inS S t → cnt t S = S
  | .v n, S, h => by
    unfold cnt
    exact if_pos h
  | .a, _, _ => rfl
  | .s1 _ t, _, h => cnt_in t h
  | .s2 _ t u, _, h => by show cnt u (cnt t _) = _; rw [cnt_in t h.1, cnt_in u h.2]

theorem g_counted : GOk "_law_counted" (.obj (.ref 676)) := (HasF.gr _ _ (by decide))
local macro_rules | `(tactic| walk_at "m fnc2") => `(tactic| exact HasF.fC)
noncomputable abbrev glC : List (Str × V) := [("tuple", .obj (.type "tuple"))]
omit [HasK] [HasF] in
theorem set_snoc {hp r : List O} {i : Nat} {o : O} (h : i < hp.length) : (hp ++ r).set i o = hp.set i o ++ r := List.set_append_left _ _ h
omit [HasK] [HasF] in
theorem inTail {S : List Int} {n : Int} : n ∈ S ↔ (V.int n) ∈ S.map V.int := by
  rw [List.mem_map]
  exact ⟨fun h => ⟨n, h, rfl⟩, fun ⟨m, h, e⟩ => by cases e; exact h⟩
omit [HasK] [HasF] in
theorem set_same {hp : List O} {i : Nat} {o : O} (h : hp[i]? = some o) : hp.set i o = hp := by
  obtain ⟨hl, e⟩ := List.getElem?_eq_some_iff.mp h
  rw [← e]; exact List.set_getElem_self hl
omit [HasK] [HasF] in
theorem pv_ints {S : List Int} : ∀ u ∈ S.map V.int, pv 20 u = true := fun u hu => by
  obtain ⟨n, _, rfl⟩ := List.mem_map.mp hu
  rfl
theorem sp_cntV {d : Nat} {n : Int} {i : Nat} {S : List Int} {hp : List O} (hi : hp[i]? = some (.list (S.map .int))) (hl : S.length < 1000) :
    Snd (d + 1) (.call (.ref 676) [.tup [.str "v", .int n], .ref i] hp) (.v (.tup [.str "v", .int (ix (cnt (.v n) S) n : Nat)]) (hp.set i (.list ((cnt (.v n) S).map .int)))) := by
  have hil : i < hp.length := (List.getElem?_eq_some_iff.mp hi).1
  apply snd_callC (ps := ["tree", "seen"]) (ds := []) (gl := glC)
  case H => walk_at "m fnc2"
  case hn => rfl
  case hg => exact gl_cons g_tuple gl_nil
  case hg2 => rfl
  case hb => constructor
  case h =>
    apply snd_weakN
    apply snd_stop
    · apply snd_ifT'
      · walk_at "m t"
      · rfl
      · by_cases hm : n ∈ S
        · have ec : cnt (.v n) S = S := by unfold cnt; rw [if_pos hm]
          rw [ec, set_same hi]
          apply snd_seq
          · apply snd_ifF'
            · apply snd_tcmp
              walk_at "m e"
              walk_at "m e"
              exact .niL hi pv_ints rfl (b := true) (by simp [hm])
              rfl
            · rfl
            · apply snd_end
          · apply snd_stop
            · apply snd_ret
              apply snd_tup
              · apply snd_cons
                rfl
                walk_at "m e"
                apply snd_cons
                rfl
                apply snd_mcall
                walk_at "m e"
                exact Meth.lst hi PySem.F.slot_list_index PySem.F.type_list_index
                walk_at "m es"
                exact sndb_index hi (by (first | lia | omega)) (ix_spec hm).1 (ix_spec hm).2
                exact fun _ => ⟨_, rfl⟩
                apply snd_nil
              · exact Nat.le_of_ble_eq_true rfl
            · exact fun h => nomatch h
        · have ec : cnt (.v n) S = S ++ [n] := by unfold cnt; rw [if_neg hm]
          rw [ec]
          have hi2 : (hp.set i (.list (S.map .int ++ [.int n])))[i]? = some (.list ((S ++ [n]).map .int)) := by simp [hil]
          have hm2 : n ∈ S ++ [n] := by simp
          rw [List.map_append, List.map_cons, List.map_nil]
          apply snd_seq
          · apply snd_ifT'
            · apply snd_tcmp
              walk_at "m e"
              walk_at "m e"
              exact .niL hi pv_ints rfl (b := false) (by simp [hm])
              rfl
            · rfl
            · apply snd_seq
              · apply snd_expr
                apply snd_mcall
                walk_at "m e"
                exact Meth.lst hi PySem.F.slot_list_append PySem.F.type_list_append
                walk_at "m es"
                exact sndb_append hi (by rw [List.length_map]; (first | lia | omega))
                exact fun _ => ⟨_, rfl⟩
                exact fun _ => rfl
              · apply snd_end
          · apply snd_stop
            · apply snd_ret
              apply snd_tup
              · apply snd_cons
                rfl
                walk_at "m e"
                apply snd_cons
                rfl
                apply snd_mcall
                walk_at "m e"
                exact Meth.lst hi2 PySem.F.slot_list_index PySem.F.type_list_index
                walk_at "m es"
                exact sndb_index hi2 (by simp; (first | lia | omega)) (ix_spec hm2).1 (ix_spec hm2).2
                exact fun _ => ⟨_, rfl⟩
                apply snd_nil
              · exact Nat.le_of_ble_eq_true rfl
            · exact fun h => nomatch h
    · exact fun h => nomatch h
theorem sp_cntA {d : Nat} {i : Nat} {hp : List O} : Snd (d + 1) (.call (.ref 676) [.tup [.str "a", .int 0], .ref i] hp) (.v (.tup [.str "a", .int 0]) hp) := by
  apply snd_callC (ps := ["tree", "seen"]) (ds := []) (gl := glC)
  case H => walk_at "m fnc2"
  case hn => rfl
  case hg => exact gl_cons g_tuple gl_nil
  case hg2 => rfl
  case hb => constructor
  case h =>
    walk_at "m ifF"
    walk_at "m ss"
    walk_at "m ifF"
    walk_at "m ss"
    walk_at "m ss"
omit [HasK] [HasF] in
theorem mem2 {α : Type} {P : α → Prop} {a b : α} (h : P a) (k : P b) : ∀ p ∈ [a, b], P p := fun p hp => by
  simp only [List.mem_cons, List.not_mem_nil, or_false] at hp
  rcases hp with rfl | rfl
  · exact h
  · exact k
omit [HasK] [HasF] in
theorem mem1 {α : Type} {P : α → Prop} {a : α} (h : P a) : ∀ p ∈ [a], P p := fun p hp => by
  rw [List.mem_singleton.mp hp]; exact h
omit [HasK] [HasF] in
theorem get_snoc {hp gb : List O} {o : O} : (hp ++ [o] ++ gb)[hp.length]? = some o := by
  rw [List.append_assoc, List.getElem?_append_right (Nat.le_refl _)]; simp
omit [HasK] [HasF] in
theorem set_snoc2 {hp gb : List O} {o o' : O} : (hp ++ [o] ++ gb).set hp.length o' = hp ++ [o'] ++ gb := by
  rw [List.append_assoc, List.append_assoc, List.set_append_right _ _ (Nat.le_refl _)]; simp
noncomputable abbrev cntF : Value := .ref 676
theorem sp_cntS1 {d : Nat} {f : Int} {t : Tm} {i : Nat} {S : List Int} {hp : List O} (hi : hp[i]? = some (.list (S.map .int)))
    (IH : ∃ gb, Snd d (.call cntF [tv t, .ref i] (hp ++ [O.list []])) (.v (tv (ren (cnt t S) t)) ((hp ++ [O.list []]).set i (.list ((cnt t S).map .int)) ++ gb))) :
    ∃ gb, Snd (d + 1) (.call cntF [tv (.s1 f t), .ref i] hp) (.v (tv (ren (cnt (.s1 f t) S) (.s1 f t))) (hp.set i (.list ((cnt (.s1 f t) S).map .int)) ++ gb)) := by
  have hil : i < hp.length := (List.getElem?_eq_some_iff.mp hi).1
  obtain ⟨gb, IH⟩ := IH
  rw [set_snoc hil] at IH
  refine ⟨[O.list [tv (ren (cnt t S) t)]] ++ gb, ?_⟩
  show Snd (d + 1) (.call cntF [.tup [.str "s", .int f, .tup [tv t]], .ref i] hp) (.v (.tup [.str "s", .int f, .tup [tv (ren (cnt t S) t)]]) (hp.set i (.list ((cnt t S).map .int)) ++ ([O.list [tv (ren (cnt t S) t)]] ++ gb)))
  rw [← List.append_assoc]
  have hl : (hp.set i (.list ((cnt t S).map .int))).length = hp.length := List.length_set
  apply snd_callC (ps := ["tree", "seen"]) (ds := []) (gl := glC)
  case H => walk_at "m fnc2"
  case hn => rfl
  case hg => exact gl_cons g_tuple gl_nil
  case hg2 => rfl
  case hb => constructor
  case h =>
    walk_at "m ifF"
    walk_at "m ss"
    apply snd_stop
    · apply snd_ifT'
      · walk_at "m t"
      · rfl
      · apply snd_stop
        · apply snd_retE
          intro env hsc
          apply EAt.tup
          · apply EsAt.cons
            rfl
            apply EAt.of
            walk_at "m e"
            apply EsAt.cons
            rfl
            apply EAt.of
            walk_at "m e"
            apply EsAt.cons
            rfl
            · apply EAt.call
              · rfl
              · rfl
              · apply EAt.comp (ct := none) (xs := [tv t]) (gl := [("seen", .ref i), ("_law_counted", .obj cntF)])
                case hsc => exact hsc
                case K => exact ⟨rfl, by decide, by decide, by decide, rfl, rfl, rfl, mem2 (.inl ⟨rfl, rfl, rfl⟩) (.inr ⟨rfl, g_counted⟩)⟩
                case hsrc => apply src_tup; walk_at "m e"
                case hif => rfl
                case hs => exact fun _ _ => rfl
                case Cp =>
                  apply Cps.yes (ys := [])
                  · exact fun c q => nomatch q
                  · exact fun _ => rfl
                  · apply snd_ecall
                    rfl
                    walk_at "m kept"
                    walk_at "m es"
                    exact IH
                  · rw [← hl]; exact get_snoc
                  · exact Nat.le_of_ble_eq_true rfl
                  · rw [← hl, set_snoc2]
                    apply Cps.done
              · apply sndb_tuple
                rw [← hl]; exact get_snoc
                exact Nat.le_of_ble_eq_true rfl
            apply EsAt.nil
          · exact Nat.le_of_ble_eq_true rfl
        · exact fun h => nomatch h
    · exact fun h => nomatch h
theorem sp_cntS2 {d : Nat} {f : Int} {t u : Tm} {i : Nat} {S : List Int} {hp : List O} (hi : hp[i]? = some (.list (S.map .int)))
    (IH : ∃ gb, Snd d (.call cntF [tv t, .ref i] (hp ++ [O.list []])) (.v (tv (ren (cnt t S) t)) ((hp ++ [O.list []]).set i (.list ((cnt t S).map .int)) ++ gb)))
    (IH2 : ∀ H : List O, H[i]? = some (.list ((cnt t S).map .int)) → ∃ gb, Snd d (.call cntF [tv u, .ref i] H) (.v (tv (ren (cnt u (cnt t S)) u)) (H.set i (.list ((cnt u (cnt t S)).map .int)) ++ gb))) :
    ∃ gb, Snd (d + 1) (.call cntF [tv (.s2 f t u), .ref i] hp) (.v (tv (ren (cnt (.s2 f t u) S) (.s2 f t u))) (hp.set i (.list ((cnt (.s2 f t u) S).map .int)) ++ gb)) := by
  have hil : i < hp.length := (List.getElem?_eq_some_iff.mp hi).1
  obtain ⟨gb, IH⟩ := IH
  rw [set_snoc hil] at IH
  have e1 : ren (cnt (.s2 f t u) S) t = ren (cnt t S) t := by
    obtain ⟨q, h2⟩ := cnt_pre u (cnt t S)
    show ren (cnt u (cnt t S)) t = _
    rw [h2]
    exact ren_app t q (inS_cnt t S)
  obtain ⟨gb2, IH2⟩ := IH2 (hp.set i (.list ((cnt t S).map .int)) ++ [O.list [tv (ren (cnt t S) t)]] ++ gb) (by
    rw [List.append_assoc, List.getElem?_append_left (by simpa using hil)]; simp [hil])
  have hl : (hp.set i (.list ((cnt t S).map .int))).length = hp.length := List.length_set
  have hl2 : (hp.set i (.list ((cnt u (cnt t S)).map .int))).length = hp.length := List.length_set
  have IH3 := IH2.eq (r' := .v (tv (ren (cnt u (cnt t S)) u)) (hp.set i (.list ((cnt u (cnt t S)).map .int)) ++ [O.list [tv (ren (cnt t S) t)]] ++ (gb ++ gb2))) (congrArg (Rs.v _) (by
    rw [List.append_assoc, set_snoc (by rw [hl]; exact hil), List.set_set]; simp only [List.append_assoc]))
  refine ⟨[O.list [tv (ren (cnt t S) t), tv (ren (cnt u (cnt t S)) u)]] ++ (gb ++ gb2), ?_⟩
  show Snd (d + 1) (.call cntF [.tup [.str "s", .int f, .tup [tv t, tv u]], .ref i] hp) (.v (.tup [.str "s", .int f, .tup [tv (ren (cnt (.s2 f t u) S) t), tv (ren (cnt u (cnt t S)) u)]]) (hp.set i (.list ((cnt u (cnt t S)).map .int)) ++ ([O.list [tv (ren (cnt t S) t), tv (ren (cnt u (cnt t S)) u)]] ++ (gb ++ gb2))))
  rw [← List.append_assoc, e1]
  apply snd_callC (ps := ["tree", "seen"]) (ds := []) (gl := glC)
  case H => walk_at "m fnc2"
  case hn => rfl
  case hg => exact gl_cons g_tuple gl_nil
  case hg2 => rfl
  case hb => constructor
  case h =>
    walk_at "m ifF"
    walk_at "m ss"
    apply snd_stop
    · apply snd_ifT'
      · walk_at "m t"
      · rfl
      · apply snd_stop
        · apply snd_retE
          intro env hsc
          apply EAt.tup
          · apply EsAt.cons
            rfl
            apply EAt.of
            walk_at "m e"
            apply EsAt.cons
            rfl
            apply EAt.of
            walk_at "m e"
            apply EsAt.cons
            rfl
            · apply EAt.call
              · rfl
              · rfl
              · apply EAt.comp (ct := none) (xs := [tv t, tv u]) (gl := [("seen", .ref i), ("_law_counted", .obj cntF)])
                case hsrc => apply src_tup; walk_at "m e"
                case hif => rfl
                case hs => exact fun _ _ => rfl
                case hsc => exact hsc
                case K => exact ⟨rfl, by decide, by decide, by decide, rfl, rfl, rfl, mem2 (.inl ⟨rfl, rfl, rfl⟩) (.inr ⟨rfl, g_counted⟩)⟩
                case Cp =>
                  apply Cps.yes (ys := [])
                  · exact fun c q => nomatch q
                  · exact fun _ => rfl
                  · apply snd_ecall
                    rfl
                    walk_at "m kept"
                    walk_at "m es"
                    exact IH
                  · rw [← hl]; exact get_snoc
                  · exact Nat.le_of_ble_eq_true rfl
                  · rw [← hl, set_snoc2]
                    apply Cps.yes (ys := [tv (ren (cnt t S) t)])
                    · exact fun c q => nomatch q
                    · exact fun _ => rfl
                    · apply snd_ecall
                      rfl
                      walk_at "m kept"
                      walk_at "m es"
                      exact IH3
                    · rw [hl, ← hl2]; exact get_snoc
                    · exact Nat.le_of_ble_eq_true rfl
                    · rw [hl, ← hl2, set_snoc2]
                      apply Cps.done
              · apply sndb_tuple
                rw [← hl2]; exact get_snoc
                exact Nat.le_of_ble_eq_true rfl
            apply EsAt.nil
          · exact Nat.le_of_ble_eq_true rfl
        · exact fun h => nomatch h
    · exact fun h => nomatch h
theorem sp_counted {d : Nat} : ∀ (k : Nat) (t : Tm), ht t ≤ k → ∀ {i : Nat} {S : List Int} {hp : List O}, hp[i]? = some (.list (S.map .int)) → S.length + lv t < 1000 →
    ∃ gb, Snd (d + k + 1) (.call cntF [tv t, .ref i] hp) (.v (tv (ren (cnt t S) t)) (hp.set i (.list ((cnt t S).map .int)) ++ gb)) := by
  intro k
  induction k with
  | zero =>
    intro t h0 i S hp hi hl
    cases t with
    | s1 f t => simp [ht] at h0
    | s2 f t u => simp [ht] at h0
    | v n => exact ⟨[], by rw [List.append_nil]; exact sp_cntV hi (by simp [lv] at hl; (first | lia | omega))⟩
    | a => exact ⟨[], by rw [List.append_nil]; show Snd _ _ (.v _ (hp.set i (.list (S.map .int)))); rw [set_same hi]; exact sp_cntA⟩
  | succ k ih =>
    intro t h0 i S hp hi hl
    have hil : i < hp.length := (List.getElem?_eq_some_iff.mp hi).1
    have hi' : (hp ++ [O.list []])[i]? = some (.list (S.map .int)) := by rw [List.getElem?_append_left hil]; exact hi
    cases t with
    | v n => exact ⟨[], by rw [List.append_nil]; exact sp_cntV hi (by simp [lv] at hl; (first | lia | omega))⟩
    | a => exact ⟨[], by rw [List.append_nil]; show Snd _ _ (.v _ (hp.set i (.list (S.map .int)))); rw [set_same hi]; exact sp_cntA⟩
    | s1 f t => exact sp_cntS1 hi (ih t (by simp [ht] at h0; (first | lia | omega)) hi' (by simpa [lv] using hl))
    | s2 f t u =>
      simp only [ht, lv] at h0 hl
      have := cnt_len t S
      exact sp_cntS2 hi (ih t (by (first | lia | omega)) hi' (by (first | lia | omega))) fun H hH => ih u (by (first | lia | omega)) hH (by (first | lia | omega))

end

section
variable [HasK] [HasF]
omit [HasK] [HasF] in
theorem rng_n (w : Nat) (h : w < 128) : Builtin.Range.rangeSize 0 (w : Int) 1 = ((w : Nat) : Int) ∧ Builtin.Range.small 0 (w : Int) 1 = true := by
  have : ∀ w : Fin 128, Builtin.Range.rangeSize 0 ((w.1 : Nat) : Int) 1 = ((w.1 : Nat) : Int) ∧ Builtin.Range.small 0 ((w.1 : Nat) : Int) 1 = true := by decide +kernel
  exact this ⟨w, h⟩
omit [HasK] [HasF] in
theorem rng_d (w : Nat) (h : w < 128) : Builtin.Range.rangeSize ((w : Int) - 1) (-1) (-1) = ((w : Nat) : Int) ∧ Builtin.Range.small ((w : Int) - 1) (-1) (-1) = true ∧ Builtin.divisionGoesByPylong ((-1) - ((w : Int) - 1)) (-1) = false := by
  have : ∀ w : Fin 128, Builtin.Range.rangeSize (((w.1 : Nat) : Int) - 1) (-1) (-1) = ((w.1 : Nat) : Int) ∧ Builtin.Range.small (((w.1 : Nat) : Int) - 1) (-1) (-1) = true ∧ Builtin.divisionGoesByPylong ((-1) - (((w.1 : Nat) : Int) - 1)) (-1) = false := by decide +kernel
  exact this ⟨w, h⟩
omit [HasF] in
/-- turns of a «for» over a range, each told by its number -/
theorem lps_go {d : Nat} {sc : Scope} {x : Str} {b : List Stmt} (a c : Int) (l : Nat → List (Str × V)) (hp : Nat → List O) : ∀ (w i : Nat), (∀ j, i ≤ j → j < i + w → Snd d (.ss sc b (lk ((x, .int (a + (j : Int) * c)) :: l j)) (hp j)) (.f .nx (lk (l (j + 1))) (hp (j + 1)))) →
    Lps d sc x b ((List.range' i w).map fun (j : Nat) => .int (a + (j : Int) * c)) (l i) (hp i) .nx (l (i + w)) (hp (i + w))
  | 0, i, _ => .done
  | w + 1, i, h => by
    rw [List.range'_succ, List.map_cons]
    have := lps_go a c l hp w (i + 1) fun j h1 h2 => h j (by (first | lia | omega)) (by (first | lia | omega))
    rw [show i + 1 + w = i + (w + 1) by (first | lia | omega)] at this
    exact .turn (h i (Nat.le_refl _) (by (first | lia | omega))) (.inl rfl) this
omit [HasF] in
theorem lps_ix {d : Nat} {sc : Scope} {x : Str} {b : List Stmt} {a c : Int} (l : Nat → List (Str × V)) (hp : Nat → List O) (w : Nat) (h : ∀ j, j < w → Snd d (.ss sc b (lk ((x, .int (a + (j : Int) * c)) :: l j)) (hp j)) (.f .nx (lk (l (j + 1))) (hp (j + 1)))) :
    Lps d sc x b (rngL a c w) (l 0) (hp 0) .nx (l w) (hp w) := by
  have := lps_go a c l hp w 0 fun j _ h2 => h j (by (first | lia | omega))
  rw [Nat.zero_add] at this
  unfold rngL
  rw [List.range_eq_range']
  exact this
noncomputable abbrev HT (o0 o1 : O) (b : Bk) (o7 : O) (C K X : List V) (R1 R2 : List O) (tb kn sz : List (Int × V)) (rs W : List V) (g : List O) : List O :=
  HM o0 o1 b o7 C K X (R1 ++ .dI tb :: (R2 ++ (.dI kn :: .dI sz :: .list rs :: .list W :: g)))
section
variable {o0 o1 o7 : O} {b : Bk} {C K X : List V} {R1 R2 g : List O} {tb kn sz tb' kn' sz' : List (Int × V)} {rs W rs' W' : List V} {q n : Nat}
omit [HasK] [HasF] in
theorem tl_get {R1 R2 r : List O} {t : O} {q n j : Nat} (hq : R1.length = q) (hn : q + 1 + R2.length = n) : (R1 ++ t :: (R2 ++ r))[n + j]? = r[j]? := by
  subst hq hn
  rw [List.getElem?_append_right (by (first | lia | omega)), show R1.length + 1 + R2.length + j - R1.length = (R2.length + j) + 1 by (first | lia | omega), List.getElem?_cons_succ, List.getElem?_append_right (by (first | lia | omega))]
  congr 1; (first | lia | omega)
omit [HasK] [HasF] in
theorem tl_set {R1 R2 r : List O} {t x : O} {q n j : Nat} (hq : R1.length = q) (hn : q + 1 + R2.length = n) : (R1 ++ t :: (R2 ++ r)).set (n + j) x = R1 ++ t :: (R2 ++ r.set j x) := by
  subst hq hn
  rw [List.set_append_right _ _ (by (first | lia | omega)), show R1.length + 1 + R2.length + j - R1.length = (R2.length + j) + 1 by (first | lia | omega), List.set_cons_succ, List.set_append_right _ _ (by (first | lia | omega))]
  congr 4; (first | lia | omega)
omit [HasK] [HasF] in
theorem at_t (hq : R1.length = q) : (HT o0 o1 b o7 C K X R1 R2 tb kn sz rs W g)[q + 14]? = some (.dI tb) := by
  show (R1 ++ .dI tb :: (R2 ++ (.dI kn :: .dI sz :: .list rs :: .list W :: g)))[q]? = _
  subst hq
  rw [List.getElem?_append_right (Nat.le_refl _)]; simp
omit [HasK] [HasF] in
theorem at_k (hq : R1.length = q) (hn : q + 1 + R2.length = n) : (HT o0 o1 b o7 C K X R1 R2 tb kn sz rs W g)[n + 14]? = some (.dI kn) := tl_get (j := 0) hq hn
omit [HasK] [HasF] in
theorem at_z (hq : R1.length = q) (hn : q + 1 + R2.length = n) : (HT o0 o1 b o7 C K X R1 R2 tb kn sz rs W g)[n + 15]? = some (.dI sz) := tl_get (j := 1) hq hn
omit [HasK] [HasF] in
theorem at_r (hq : R1.length = q) (hn : q + 1 + R2.length = n) : (HT o0 o1 b o7 C K X R1 R2 tb kn sz rs W g)[n + 16]? = some (.list rs) := tl_get (j := 2) hq hn
omit [HasK] [HasF] in
theorem at_w (hq : R1.length = q) (hn : q + 1 + R2.length = n) : (HT o0 o1 b o7 C K X R1 R2 tb kn sz rs W g)[n + 17]? = some (.list W) := tl_get (j := 3) hq hn
omit [HasK] [HasF] in
theorem HM_set {R : List O} {j : Nat} {x : O} : (HM o0 o1 b o7 C K X R).set (j + 14) x = HM o0 o1 b o7 C K X (R.set j x) := rfl
omit [HasK] [HasF] in
theorem set_t (hq : R1.length = q) : (HT o0 o1 b o7 C K X R1 R2 tb kn sz rs W g).set (q + 14) (.dI tb') = HT o0 o1 b o7 C K X R1 R2 tb' kn sz rs W g := by
  rw [HM_set]
  subst hq
  rw [List.set_append_right _ _ (Nat.le_refl _)]; simp
omit [HasK] [HasF] in
theorem set_k (hq : R1.length = q) (hn : q + 1 + R2.length = n) : (HT o0 o1 b o7 C K X R1 R2 tb kn sz rs W g).set (n + 14) (.dI kn') = HT o0 o1 b o7 C K X R1 R2 tb kn' sz rs W g := by
  rw [HM_set, show n = n + 0 from rfl, tl_set hq hn]; rfl
omit [HasK] [HasF] in
theorem set_z (hq : R1.length = q) (hn : q + 1 + R2.length = n) : (HT o0 o1 b o7 C K X R1 R2 tb kn sz rs W g).set (n + 15) (.dI sz') = HT o0 o1 b o7 C K X R1 R2 tb kn sz' rs W g := by
  show (HT o0 o1 b o7 C K X R1 R2 tb kn sz rs W g).set (n + 1 + 14) _ = _
  rw [HM_set, tl_set hq hn]; rfl
omit [HasK] [HasF] in
theorem set_r (hq : R1.length = q) (hn : q + 1 + R2.length = n) : (HT o0 o1 b o7 C K X R1 R2 tb kn sz rs W g).set (n + 16) (.list rs') = HT o0 o1 b o7 C K X R1 R2 tb kn sz rs' W g := by
  show (HT o0 o1 b o7 C K X R1 R2 tb kn sz rs W g).set (n + 2 + 14) _ = _
  rw [HM_set, tl_set hq hn]; rfl
omit [HasK] [HasF] in
theorem set_w (hq : R1.length = q) (hn : q + 1 + R2.length = n) : (HT o0 o1 b o7 C K X R1 R2 tb kn sz rs W g).set (n + 17) (.list W') = HT o0 o1 b o7 C K X R1 R2 tb kn sz rs W' g := by
  show (HT o0 o1 b o7 C K X R1 R2 tb kn sz rs W g).set (n + 3 + 14) _ = _
  rw [HM_set, tl_set hq hn]; rfl
omit [HasK] [HasF] in
theorem add_g {x : O} : HT o0 o1 b o7 C K X R1 R2 tb kn sz rs W g ++ [x] = HT o0 o1 b o7 C K X R1 R2 tb kn sz rs W (g ++ [x]) := by
  simp
end
/-- a compound cell: its functor, its width, where its arguments lie -/
structure StrAt (b : Bk) (C : List V) (t p f w bs : Int) : Prop where
  isc : ∀ {d : Nat} {o0 o1 o7 : O} {K X : List V} {rest : List O}, Snd (d + 1) (.call (.ref 286) [.ref 9, cel t p] (HM o0 o1 b o7 C K X rest)) (.v (.bool true) (HM o0 o1 b o7 C K X rest))
  fn : ∀ {d : Nat} {o0 o1 o7 : O} {K X : List V} {rest : List O}, Snd (d + 1) (.call (.ref 293) [.ref 9, cel t p] (HM o0 o1 b o7 C K X rest)) (.v (.int f) (HM o0 o1 b o7 C K X rest))
  wd : ∀ {d : Nat} {o0 o1 o7 : O} {K X : List V} {rest : List O}, Snd (d + 2) (.call (.ref 300) [.ref 9, cel t p] (HM o0 o1 b o7 C K X rest)) (.v (.int w) (HM o0 o1 b o7 C K X rest))
  bas : ∀ {d : Nat} {o0 o1 o7 : O} {K X : List V} {rest : List O}, Snd (d + 1) (.call (.ref 307) [.ref 9, cel t p] (HM o0 o1 b o7 C K X rest)) (.v (.int bs) (HM o0 o1 b o7 C K X rest))
  tg : t = 2 ∨ t = 3
theorem StrAt.lis {b : Bk} {C : List V} {p : Int} : StrAt b C 3 p 0 2 p := ⟨sp_isc3, sp_fun3, Snd.up sp_wid3 (Nat.le_succ _), sp_bas3, .inr rfl⟩
theorem StrAt.str {b : Bk} {C : List V} {p x w : Int} {f : Nat} (h0 : 0 ≤ p) (h1 : p < 2 ^ 60) (h : C[p.toNat]? = some (cel 6 f)) (hf : b.F[f]? = some (x, w)) (hf2 : f < 1000) : StrAt b C 2 p f w (p + 1) :=
  ⟨sp_isc2, sp_fun2 h0 h1 h, sp_wid2 h0 h1 h hf hf2, sp_bas2, .inl rfl⟩
/-- the size of a part -/
noncomputable def PS (sz : List (Int × V)) (t a z : Int) : Prop := ((t = 2 ∨ t = 3) ∧ sz.lookup a = some (.int z)) ∨ (t ≠ 2 ∧ t ≠ 3 ∧ z = 1)
noncomputable def zsum (z : Nat → Int) : Nat → Int
  | 0 => 1
  | i + 1 => zsum z i + z i
theorem sp_isc {d : Nat} {o0 o1 o7 : O} {b : Bk} {C K X : List V} {rest : List O} {t a : Int} : Snd (d + 1) (.call (.ref 286) [.ref 9, cel t a] (HM o0 o1 b o7 C K X rest)) (.v (.bool (decide (t = 2 ∨ t = 3))) (HM o0 o1 b o7 C K X rest)) := by
  by_cases h2 : t = 2
  · subst h2; exact sp_isc2
  by_cases h3 : t = 3
  · subst h3; exact sp_isc3
  rw [decide_eq_false (by simp [h2, h3])]
  exact sp_isc0 h2 h3
section
variable {d : Nat} {o0 o1 o7 : O} {b : Bk} {C K X : List V} {rest : List O}
theorem sp_whole {t p f bs : Int} {w i : Nat} {sz : List (Int × V)} {tg ad z : Nat → Int} (hi : (HM o0 o1 b o7 C K X rest)[i]? = some (.dI sz)) (hS : StrAt b C t p f w bs) (h0 : 0 ≤ bs) (h1 : bs < 2 ^ 51) (hw : w ≤ 100)
    (hc : ∀ j, j < w → C[(bs + (j : Int)).toNat]? = some (cel (tg j) (ad j))) (hd : ∀ j, j < w → Der C K (tg j) (ad j) (tg j) (ad j)) (hz : ∀ j, j < w → PS sz (tg j) (ad j) (z j)) :
    Snd (d + 5) (.call (.ref 371) [.ref 9, cel t p, .ref i] (HM o0 o1 b o7 C K X rest)) (.v (.int (zsum z w)) (HM o0 o1 b o7 C K X rest)) := by
  apply snd_call (ps := ["self", "cell", "sizes"]) (ds := []) (gl := [("range", .obj (.type "range"))]) (fl := .rt (.int (zsum z w))) (fr' := nofr)
  case H => walk_at "m fn3"
  case hn => rfl
  case hg => exact gl_cons g_range gl_nil
  case hg2 => rfl
  case hb => constructor
  case h =>
    apply snd_weakN
    walk_at "m ss"
    apply snd_seq
    · apply snd_asg
      apply snd_mcall
      walk_at "m e"
      walk_at "m meth"
      walk_at "m es"
      exact hS.bas
      exact fun _ => ⟨_, rfl⟩
      exact .inl rfl
      rfl
      exact fun _ => rfl
    apply snd_weakI (fr₁ := lk (("size", .int (zsum z 0)) :: [("place", .int bs), ("self", .ref 9), ("cell", cel t p), ("sizes", .ref i), ("range", .obj (.type "range"))]))
    case q => walk_at "m wk"
    apply snd_seq (hp₁ := HM o0 o1 b o7 C K X rest)
    · apply snd_forR [(w : Int)]
      rfl
      · apply snd_cons
        rfl
        apply snd_mcall
        walk_at "m e"
        walk_at "m meth"
        walk_at "m es"
        exact hS.wd
        exact fun _ => ⟨_, rfl⟩
        apply snd_nil
      rfl
      exact .one _
      case hn => exact (rng_n w (by (first | lia | omega))).1
      case hsm => exact (rng_n w (by (first | lia | omega))).2
      exact .inl rfl
      rfl
      · apply lps_ix (fun j => ("size", .int (zsum z j)) :: [("place", .int bs), ("self", .ref 9), ("cell", cel t p), ("sizes", .ref i), ("range", .obj (.type "range"))]) (fun _ => HM o0 o1 b o7 C K X rest)
        intro j hj
        have e1 : bs + (0 + (j : Int) * 1) = bs + (j : Int) := by (first | lia | omega)
        apply snd_weakB
        · apply snd_seq
          · apply snd_asg
            apply snd_mcall
            walk_at "m e"
            walk_at "m meth"
            · apply snd_cons
              rfl
              apply snd_sub
              walk_at "m e"
              walk_at "m e"
              · apply SubI.lst
                rfl
                (first | lia | omega)
                (first | lia | omega)
                rw [e1]; exact hc j hj
              rfl
              apply snd_nil
            exact sp_deref (hd j hj)
            exact fun _ => ⟨_, rfl⟩
            exact .inl rfl
            rfl
            exact fun _ => rfl
          apply snd_seq (fr₁ := lk (("size", .int (zsum z (j + 1))) :: [("place", .int bs), ("self", .ref 9), ("cell", cel t p), ("sizes", .ref i), ("range", .obj (.type "range"))])) (hp₁ := HM o0 o1 b o7 C K X rest)
          · apply snd_if (b := decide (tg j = 2 ∨ tg j = 3))
            · apply snd_tpl
              apply snd_mcall
              walk_at "m e"
              walk_at "m meth"
              walk_at "m es"
              exact sp_isc
              exact fun _ => ⟨_, rfl⟩
              rfl
            · intro hb
              have hb := of_decide_eq_true hb
              rcases hz j hj with ⟨_, hz⟩ | ⟨h2, h3, _⟩
              · apply snd_weakB
                · apply snd_seq
                  · apply snd_augname
                    rfl
                    · apply snd_sub
                      walk_at "m e"
                      walk_at "m e"
                      exact .dI hi hz
                      rfl
                    exact .add _ _
                    rfl
                    rfl
                  apply snd_end
                · walk_at "m wk"
              · rcases hb with hb | hb
                · exact absurd hb h2
                · exact absurd hb h3
            · intro hb
              have hb := of_decide_eq_false hb
              rcases hz j hj with ⟨h2, _⟩ | ⟨_, _, hz⟩
              · exact absurd h2 hb
              · have e2 : zsum z (j + 1) = zsum z j + 1 := by show _ + z j = _; rw [hz]
                rw [e2]
                apply snd_weakB
                · apply snd_seq
                  · apply snd_augname
                    rfl
                    walk_at "m e"
                    exact .add _ _
                    rfl
                    rfl
                  apply snd_end
                · walk_at "m wk"
          apply snd_end
        · exact fun x v h => h
      exact fun _ _ => rfl
    apply snd_stop
    · apply snd_ret
      walk_at "m e"
    · exact fun h => nomatch h
end

end

section
variable [HasK] [HasF]
/-- terms in the heap -/
inductive Rep (C : List V) (F : List (Int × Int)) (lc : Int → Int) (D : List Int) : Int → Tm → Int → Int → Prop
  | var {B n : Int} : n ∈ D → 0 ≤ lc n → lc n < 2 ^ 50 → C[(lc n).toNat]? = some (cel 0 (lc n)) → Rep C F lc D B (.v n) 0 (lc n)
  | con {B : Int} : Rep C F lc D B .a 4 0
  | lis {B p t1 a1 t2 a2 : Int} {t u : Tm} : 0 ≤ p → p < B → p < 2 ^ 50 → C[p.toNat]? = some (cel t1 a1) → C[(p + 1).toNat]? = some (cel t2 a2) → Rep C F lc D p t t1 a1 → Rep C F lc D p u t2 a2 → Rep C F lc D B (.s2 0 t u) 3 p
  | st1 {B p t1 a1 x : Int} {f : Nat} {t : Tm} : 0 ≤ p → p < B → p < 2 ^ 50 → C[p.toNat]? = some (cel 6 f) → F[f]? = some (x, 1) → f < 1000 → C[(p + 1).toNat]? = some (cel t1 a1) → Rep C F lc D p t t1 a1 → Rep C F lc D B (.s1 f t) 2 p
  | st2 {B p t1 a1 t2 a2 x : Int} {f : Nat} {t u : Tm} : 0 ≤ p → p < B → p < 2 ^ 50 → C[p.toNat]? = some (cel 6 f) → F[f]? = some (x, 2) → f < 1000 → C[(p + 1).toNat]? = some (cel t1 a1) → C[(p + 2).toNat]? = some (cel t2 a2) →
      Rep C F lc D p t t1 a1 → Rep C F lc D p u t2 a2 → Rep C F lc D B (.s2 f t u) 2 p
section
variable {C : List V} {F : List (Int × Int)} {lc : Int → Int} {D : List Int}
omit [HasK] [HasF] in
theorem Rep.tag {B t a : Int} {T : Tm} (h : Rep C F lc D B T t a) : t = 0 ∨ t = 4 ∨ t = 3 ∨ t = 2 := by cases h <;> simp
omit [HasK] [HasF] in
theorem Rep.der {K : List V} {B t a : Int} {T : Tm} (h : Rep C F lc D B T t a) : Der C K t a t a := by
  cases h with
  | var h1 h2 h3 h4 => exact .rs h2 (by (first | lia | omega)) h4
  | con => exact .v (by decide) (by decide)
  | lis => exact .v (by decide) (by decide)
  | st1 => exact .v (by decide) (by decide)
  | st2 => exact .v (by decide) (by decide)
omit [HasK] [HasF] in
theorem Rep.up {B B' t a : Int} {T : Tm} (h : Rep C F lc D B T t a) (hb : B ≤ B') : Rep C F lc D B' T t a := by
  cases h with
  | var h1 h2 h3 h4 => exact .var h1 h2 h3 h4
  | con => exact .con
  | lis h1 h2 h3 h4 h5 h6 h7 => exact .lis h1 (by (first | lia | omega)) h3 h4 h5 h6 h7
  | st1 h1 h2 h3 h4 h5 h6 h7 h8 => exact .st1 h1 (by (first | lia | omega)) h3 h4 h5 h6 h7 h8
  | st2 h1 h2 h3 h4 h5 h6 h7 h8 h9 h10 => exact .st2 h1 (by (first | lia | omega)) h3 h4 h5 h6 h7 h8 h9 h10
omit [HasK] [HasF] in
theorem Rep.uniq (inj : ∀ m ∈ D, ∀ n ∈ D, lc m = lc n → m = n) {B t a : Int} {T : Tm} (h : Rep C F lc D B T t a) : ∀ {B' t' : Int} {T' : Tm}, Rep C F lc D B' T' t' a → (t = t' ∨ ((t = 2 ∨ t = 3) ∧ (t' = 2 ∨ t' = 3))) → T = T' := by
  induction h with
  | @var B n h1 h2 h3 h4 =>
    intro B' t' T' k e
    generalize ha : lc n = a at k
    cases k with
    | var k1 => rw [inj _ h1 _ k1 ha]
    | _ => simp at e
  | con =>
    intro B' t' T' k e
    generalize (0 : Int) = a0 at k
    cases k with
    | con => rfl
    | _ => simp at e
  | lis h1 h2 h3 h4 h5 h6 h7 i1 i2 =>
    intro B' t' T' k e
    cases k with
    | lis k1 k2 k3 k4 k5 k6 k7 =>
      rw [h4] at k4; (first | obtain ⟨_, rfl⟩ := VR.intI k4 | obtain rfl := VR.objI k4 | obtain rfl := VR.boolI k4 | obtain ⟨_, rfl⟩ := VR.strI k4 | obtain rfl := VR.noneI k4 | obtain rfl := VRs.nilI k4 | obtain rfl := FR.nxI k4 | cases k4)
      rw [h5] at k5; (first | obtain ⟨_, rfl⟩ := VR.intI k5 | obtain rfl := VR.objI k5 | obtain rfl := VR.boolI k5 | obtain ⟨_, rfl⟩ := VR.strI k5 | obtain rfl := VR.noneI k5 | obtain rfl := VRs.nilI k5 | obtain rfl := FR.nxI k5 | cases k5)
      rw [i1 k6 (.inl rfl), i2 k7 (.inl rfl)]
    | st1 k1 k2 k3 k4 => rw [h4] at k4; (first | obtain ⟨_, rfl⟩ := VR.intI k4 | obtain rfl := VR.objI k4 | obtain rfl := VR.boolI k4 | obtain ⟨_, rfl⟩ := VR.strI k4 | obtain rfl := VR.noneI k4 | obtain rfl := VRs.nilI k4 | obtain rfl := FR.nxI k4 | cases k4); have := h6.tag; simp at this
    | st2 k1 k2 k3 k4 => rw [h4] at k4; (first | obtain ⟨_, rfl⟩ := VR.intI k4 | obtain rfl := VR.objI k4 | obtain rfl := VR.boolI k4 | obtain ⟨_, rfl⟩ := VR.strI k4 | obtain rfl := VR.noneI k4 | obtain rfl := VRs.nilI k4 | obtain rfl := FR.nxI k4 | cases k4); have := h6.tag; simp at this
    | var => simp at e
    | con => simp at e
  | st1 h1 h2 h3 h4 h5 h6 h7 h8 i1 =>
    intro B' t' T' k e
    cases k with
    | st1 k1 k2 k3 k4 k5 k6 k7 k8 =>
      rw [h4] at k4
      have e1 : _ = _ := Option.some.inj k4
      simp only [V.tup.injEq, List.cons.injEq, V.int.injEq, and_true, true_and] at e1
      rw [h7] at k7; (first | obtain ⟨_, rfl⟩ := VR.intI k7 | obtain rfl := VR.objI k7 | obtain rfl := VR.boolI k7 | obtain ⟨_, rfl⟩ := VR.strI k7 | obtain rfl := VR.noneI k7 | obtain rfl := VRs.nilI k7 | obtain rfl := FR.nxI k7 | cases k7)
      rw [e1, i1 k8 (.inl rfl)]
    | st2 k1 k2 k3 k4 k5 =>
      rw [h4] at k4
      have e1 : _ = _ := Option.some.inj k4
      simp only [V.tup.injEq, List.cons.injEq, V.int.injEq, and_true, true_and, Int.ofNat_inj] at e1
      subst e1
      rw [h5] at k5; simp at k5
    | lis k1 k2 k3 k4 k5 k6 => rw [h4] at k4; (first | obtain ⟨_, rfl⟩ := VR.intI k4 | obtain rfl := VR.objI k4 | obtain rfl := VR.boolI k4 | obtain ⟨_, rfl⟩ := VR.strI k4 | obtain rfl := VR.noneI k4 | obtain rfl := VRs.nilI k4 | obtain rfl := FR.nxI k4 | cases k4); have := k6.tag; simp at this
    | var => simp at e
    | con => simp at e
  | st2 h1 h2 h3 h4 h5 h6 h7 h8 h9 h10 i1 i2 =>
    intro B' t' T' k e
    cases k with
    | st2 k1 k2 k3 k4 k5 k6 k7 k8 k9 k10 =>
      rw [h4] at k4
      have e1 : _ = _ := Option.some.inj k4
      simp only [V.tup.injEq, List.cons.injEq, V.int.injEq, and_true, true_and] at e1
      rw [h7] at k7; (first | obtain ⟨_, rfl⟩ := VR.intI k7 | obtain rfl := VR.objI k7 | obtain rfl := VR.boolI k7 | obtain ⟨_, rfl⟩ := VR.strI k7 | obtain rfl := VR.noneI k7 | obtain rfl := VRs.nilI k7 | obtain rfl := FR.nxI k7 | cases k7)
      rw [h8] at k8; (first | obtain ⟨_, rfl⟩ := VR.intI k8 | obtain rfl := VR.objI k8 | obtain rfl := VR.boolI k8 | obtain ⟨_, rfl⟩ := VR.strI k8 | obtain rfl := VR.noneI k8 | obtain rfl := VRs.nilI k8 | obtain rfl := FR.nxI k8 | cases k8)
      rw [e1, i1 k9 (.inl rfl), i2 k10 (.inl rfl)]
    | st1 k1 k2 k3 k4 k5 =>
      rw [h4] at k4
      have e1 : _ = _ := Option.some.inj k4
      simp only [V.tup.injEq, List.cons.injEq, V.int.injEq, and_true, true_and, Int.ofNat_inj] at e1
      subst e1
      rw [h5] at k5; simp at k5
    | lis k1 k2 k3 k4 k5 k6 => rw [h4] at k4; (first | obtain ⟨_, rfl⟩ := VR.intI k4 | obtain rfl := VR.objI k4 | obtain rfl := VR.boolI k4 | obtain ⟨_, rfl⟩ := VR.strI k4 | obtain rfl := VR.noneI k4 | obtain rfl := VRs.nilI k4 | obtain rfl := FR.nxI k4 | cases k4); have := k6.tag; simp at this
    | var => simp at e
    | con => simp at e
omit [HasK] [HasF] in
theorem Rep.inD {B t a : Int} {T : Tm} (h : Rep C F lc D B T t a) : ∀ {S : List Int}, (∀ m ∈ S, m ∈ D) → ∀ m ∈ cnt T S, m ∈ D := by
  induction h with
  | var h1 =>
    intro S hS m hm
    unfold cnt at hm
    split at hm
    · exact hS m hm
    · rcases List.mem_append.mp hm with hm | hm
      · exact hS m hm
      · rw [List.mem_singleton.mp hm]; exact h1
  | con => intro S hS m hm; exact hS m hm
  | lis _ _ _ _ _ _ _ i1 i2 => intro S hS m hm; exact i2 (i1 hS) m hm
  | st1 _ _ _ _ _ _ _ _ i1 => intro S hS m hm; exact i1 hS m hm
  | st2 _ _ _ _ _ _ _ _ _ _ i1 i2 => intro S hS m hm; exact i2 (i1 hS) m hm
end
noncomputable def szT : Tm → Nat
  | .v _ => 1
  | .a => 1
  | .s1 _ t => szT t + 1
  | .s2 _ t u => szT t + szT u + 1
omit [HasK] [HasF] in
theorem szT_pos : ∀ t : Tm, 1 ≤ szT t
  | .v _ => Nat.le_refl _
  | .a => Nat.le_refl _
  | .s1 _ _ => Nat.succ_le_succ (Nat.zero_le _)
  | .s2 _ _ _ => Nat.succ_le_succ (Nat.zero_le _)
omit [HasK] [HasF] in
theorem lv_sz : ∀ t : Tm, lv t ≤ szT t
  | .v _ => Nat.le_refl _
  | .a => Nat.zero_le _
  | .s1 _ t => Nat.le_succ_of_le (lv_sz t)
  | .s2 _ t u => by have := lv_sz t; have := lv_sz u; show lv t + lv u ≤ szT t + szT u + 1; (first | lia | omega)
/-- the table of what has been seen -/
noncomputable def tblF (lc : Int → Int) : Nat → List Int → List (Int × V)
  | _, [] => []
  | k, n :: r => (lc n, .int k) :: tblF lc (k + 1) r
omit [HasK] [HasF] in
theorem tblF_len {lc : Int → Int} : ∀ {S : List Int} {k : Nat}, (tblF lc k S).length = S.length
  | [], _ => rfl
  | n :: r, k => by show (tblF lc (k + 1) r).length + 1 = r.length + 1; rw [tblF_len]
omit [HasK] [HasF] in
theorem tblF_snoc {lc : Int → Int} {n : Int} : ∀ {S : List Int} {k : Nat}, tblF lc k (S ++ [n]) = tblF lc k S ++ [(lc n, .int (k + S.length : Nat))]
  | [], k => rfl
  | m :: r, k => by
    show (lc m, _) :: tblF lc (k + 1) (r ++ [n]) = (lc m, _) :: (tblF lc (k + 1) r ++ _)
    rw [tblF_snoc]
    congr 5
    simp only [List.length_cons]; (first | lia | omega)
omit [HasK] [HasF] in
theorem tblF_none {lc : Int → Int} {a : Int} : ∀ {S : List Int} {k : Nat}, (∀ m ∈ S, lc m ≠ a) → (tblF lc k S).lookup a = none
  | [], _, _ => rfl
  | m :: r, k, h => by
    show List.lookup a ((lc m, _) :: tblF lc (k + 1) r) = none
    have q : (a == lc m) = false := by simpa using fun e => h m (.head _) e.symm
    rw [List.lookup_cons, q]
    exact tblF_none fun m hm => h m (.tail _ hm)
omit [HasK] [HasF] in
theorem tblF_at {lc : Int → Int} {n : Int} : ∀ {S : List Int} {k : Nat}, (∀ m ∈ S, lc m = lc n → m = n) → n ∈ S → (tblF lc k S).lookup (lc n) = some (.int (k + ix S n : Nat))
  | m :: r, k, inj, h => by
    show List.lookup (lc n) ((lc m, _) :: tblF lc (k + 1) r) = _
    by_cases q : m = n
    · subst q
      have e : ix (m :: r) m = 0 := if_pos rfl
      rw [List.lookup_cons]; simp [e]
    · have q1 : (lc n == lc m) = false := by simpa using fun e => q (inj m (.head _) e.symm)
      have e : ix (m :: r) n = ix r n + 1 := if_neg q
      rw [List.lookup_cons, q1, e]
      show (tblF lc (k + 1) r).lookup (lc n) = _
      rw [tblF_at (fun m hm => inj m (.tail _ hm)) ((List.mem_cons.mp h).resolve_left fun e => q e.symm)]
      congr 3; (first | lia | omega)
omit [HasK] [HasF] in
theorem lookD {l : List (Int × V)} {k j : Int} {v : V} : (setD l k v).lookup j = if j = k then some v else l.lookup j := by
  have hm : ∀ l : List (Int × V), (l.map fun p => if p.1 = k then (p.1, v) else p).lookup j = if j = k then (l.lookup j).map fun _ => v else l.lookup j := by
    intro l
    induction l with
    | nil => simp
    | cons p l ih =>
      obtain ⟨a, u⟩ := p
      have e : List.lookup j (((a, u) :: l).map fun p => if p.1 = k then (p.1, v) else p) = if j = a then some (if a = k then v else u) else List.lookup j (l.map fun p => if p.1 = k then (p.1, v) else p) := by
        rw [List.map_cons]
        by_cases q : a = k
        · subst q
          simp only [if_true, List.lookup_cons]
          by_cases q2 : j = a
          · subst q2; simp
          · have : (j == a) = false := by simpa using q2
            simp [this, q2]
        · simp only [q, if_false, List.lookup_cons]
          by_cases q2 : j = a
          · subst q2; simp
          · have : (j == a) = false := by simpa using q2
            simp [this, q2]
      have e2 : List.lookup j ((a, u) :: l) = if j = a then some u else List.lookup j l := by
        rw [List.lookup_cons]
        by_cases q2 : j = a
        · subst q2; simp
        · have : (j == a) = false := by simpa using q2
          simp [this, q2]
      rw [e, e2, ih]
      by_cases q : j = k
      · subst q
        by_cases q2 : j = a
        · subst q2; simp
        · simp [q2]
      · by_cases q2 : j = a
        · subst q2; simp [q]
        · simp [q, q2]
  have ha : ∀ l : List (Int × V), (l ++ [(k, v)]).lookup j = match l.lookup j with | some u => some u | none => if j = k then some v else none := by
    intro l
    induction l with
    | nil =>
      simp only [List.nil_append, List.lookup_cons, List.lookup_nil]
      by_cases q : j = k
      · subst q; simp
      · have : (j == k) = false := by simpa using q
        simp [this, q]
    | cons p l ih =>
      obtain ⟨a, u⟩ := p
      simp only [List.cons_append, List.lookup_cons]
      cases q2 : j == a with
      | true => rfl
      | false => exact ih
  have key : l.any (fun p => decide (p.1 = k)) = (l.lookup k).isSome := by
    clear hm ha
    induction l with
    | nil => rfl
    | cons p l ih =>
      obtain ⟨a, u⟩ := p
      simp only [List.any_cons, List.lookup_cons, ih]
      by_cases q : a = k
      · subst q; simp
      · have : (k == a) = false := by simpa using fun e => q e.symm
        simp [q, this]
  unfold setD
  split
  · rename_i h
    rw [hm]
    by_cases q : j = k
    · subst q
      rw [key] at h
      obtain ⟨u, hu⟩ := Option.isSome_iff_exists.mp h
      simp [hu]
    · simp [q]
  · rename_i h
    rw [ha]
    rw [key] at h
    by_cases q : j = k
    · subst q
      have : l.lookup j = none := Option.not_isSome_iff_eq_none.mp h
      simp [this]
    · simp only [q, if_false]
      cases l.lookup j <;> rfl
omit [HasK] [HasF] in
theorem setD_len {l : List (Int × V)} {k : Int} {v : V} : (setD l k v).length ≤ l.length + 1 := by
  unfold setD
  split <;> simp
omit [HasK] [HasF] in
theorem setD_none {l : List (Int × V)} {k : Int} {v : V} (h : l.lookup k = none) : setD l k v = l ++ [(k, v)] := by
  unfold setD
  rw [if_neg]
  intro q
  rw [List.any_eq_true] at q
  obtain ⟨p, hp, e⟩ := q
  have e : p.1 = k := of_decide_eq_true e
  have : ∀ l : List (Int × V), p ∈ l → l.lookup k ≠ none := by
    intro l
    induction l with
    | nil => intro h; cases h
    | cons r l ih =>
      intro hm
      obtain ⟨a, u⟩ := r
      rw [List.lookup_cons]
      cases q2 : k == a with
      | true => simp
      | false =>
        rcases List.mem_cons.mp hm with hm | hm
        · subst hm; simp at e; subst e; simp at q2
        · exact ih hm
  exact this l hp h

end

section
variable [HasK] [HasF]
noncomputable abbrev FLt (q n : Nat) : List (Str × V) := [("self", .ref 9), ("table", .ref (q + 14)), ("known", .ref (n + 14)), ("sizes", .ref (n + 15)), ("results", .ref (n + 16)), ("work", .ref (n + 17)), ("VISIT", .int 0), ("BUILD", .int 1), ("len", .obj (.builtin "len")), ("tuple", .obj (.type "tuple")), ("REF", .int 0), ("CON", .int 4), ("INT", .int 5), ("range", .obj (.type "range"))]
noncomputable abbrev vis (c : V) : V := .tup [.int 0, c]
noncomputable abbrev bld (c : V) : V := .tup [.int 1, c]
noncomputable def visL (tg ad : Nat → Int) (w : Nat) : Nat → List V
  | 0 => []
  | i + 1 => visL tg ad w i ++ [vis (cel (tg (w - 1 - i)) (ad (w - 1 - i)))]
/-- what the turns of the work loop do -/
structure Turns (d : Nat) (sc : Scope) (tst : Expr) (body : List Stmt) (o0 o1 : O) (b : Bk) (o7 : O) (C K X : List V) (R1 R2 : List O) (q n : Nat) : Prop where
  go : ∀ tb kn sz rs W x g, (W : List V).length < 1000 → Snd d (.t tst (lk (FLt q n)) (HT o0 o1 b o7 C K X R1 R2 tb kn sz rs (W ++ [x]) g)) (.b true (HT o0 o1 b o7 C K X R1 R2 tb kn sz rs (W ++ [x]) g))
  st : ∀ tb kn sz rs g, Snd d (.t tst (lk (FLt q n)) (HT o0 o1 b o7 C K X R1 R2 tb kn sz rs [] g)) (.b false (HT o0 o1 b o7 C K X R1 R2 tb kn sz rs [] g))
  v1 : ∀ tb kn sz rs W g a i, (rs : List V).length < 1000 → (W : List V).length < 1000 → Der C K 0 a 0 a → (tb : List (Int × V)).lookup a = some (.int i) →
    Snd d (.ss sc body (lk (FLt q n)) (HT o0 o1 b o7 C K X R1 R2 tb kn sz rs (W ++ [vis (cel 0 a)]) g)) (.f .nx (lk (FLt q n)) (HT o0 o1 b o7 C K X R1 R2 tb kn sz (rs ++ [.tup [.str "v", .int i]]) W g))
  v2 : ∀ tb kn sz rs W g a, (rs : List V).length < 1000 → (W : List V).length < 1000 → (tb : List (Int × V)).length < 1000 → Der C K 0 a 0 a → tb.lookup a = none →
    Snd d (.ss sc body (lk (FLt q n)) (HT o0 o1 b o7 C K X R1 R2 tb kn sz rs (W ++ [vis (cel 0 a)]) g)) (.f .nx (lk (FLt q n)) (HT o0 o1 b o7 C K X R1 R2 (tb ++ [(a, .int tb.length)]) kn sz (rs ++ [.tup [.str "v", .int tb.length]]) W g))
  c : ∀ tb kn sz rs W g, (rs : List V).length < 1000 → (W : List V).length < 1000 →
    Snd d (.ss sc body (lk (FLt q n)) (HT o0 o1 b o7 C K X R1 R2 tb kn sz rs (W ++ [vis (cel 4 0)]) g)) (.f .nx (lk (FLt q n)) (HT o0 o1 b o7 C K X R1 R2 tb kn sz (rs ++ [.tup [.str "a", .int 0]]) W g))
  k : ∀ tb kn sz rs W g t p l, (rs : List V).length < 1000 → (W : List V).length < 1000 → (t = 2 ∨ t = 3) → (kn : List (Int × V)).lookup p = some (.tup l) →
    Snd d (.ss sc body (lk (FLt q n)) (HT o0 o1 b o7 C K X R1 R2 tb kn sz rs (W ++ [vis (cel t p)]) g)) (.f .nx (lk (FLt q n)) (HT o0 o1 b o7 C K X R1 R2 tb kn sz (rs ++ [.tup l]) W g))
  nw : ∀ tb kn sz rs W g t p f bs, ∀ tg ad : Nat → Int, ∀ w : Nat, (W : List V).length < 1000 → (kn : List (Int × V)).length < 1000 → StrAt b C t p f w bs → 0 ≤ bs → bs < 2 ^ 51 → w ≤ 100 → (∀ j : Nat, j < w → C[(bs + (j : Int)).toNat]? = some (cel (tg j) (ad j))) → kn.lookup p = none →
    Snd d (.ss sc body (lk (FLt q n)) (HT o0 o1 b o7 C K X R1 R2 tb kn sz rs (W ++ [vis (cel t p)]) g)) (.f .nx (lk (FLt q n)) (HT o0 o1 b o7 C K X R1 R2 tb (setD kn p .none) sz rs (W ++ [bld (cel t p)] ++ visL tg ad w w) g))
  bd : ∀ tb kn sz rs as W g t p f bs, ∀ tg ad z : Nat → Int, ∀ w : Nat, (rs : List V).length < 1000 → (W : List V).length < 1000 → (kn : List (Int × V)).length < 1000 → (sz : List (Int × V)).length < 1000 → StrAt b C t p f w bs → 0 ≤ bs → bs < 2 ^ 51 → w ≤ 100 →
    (∀ j : Nat, j < w → C[(bs + (j : Int)).toNat]? = some (cel (tg j) (ad j))) → (∀ j : Nat, j < w → Der C K (tg j) (ad j) (tg j) (ad j)) → (∀ j : Nat, j < w → PS sz (tg j) (ad j) (z j)) → (as : List V).length = w → zsum z w ≤ 1000 →
    Snd d (.ss sc body (lk (FLt q n)) (HT o0 o1 b o7 C K X R1 R2 tb kn sz (rs ++ as) (W ++ [bld (cel t p)]) g)) (.f .ct (lk (FLt q n)) (HT o0 o1 b o7 C K X R1 R2 tb (setD kn p (.tup [.str "s", .int f, .tup as])) (setD sz p (.int (zsum z w))) (rs ++ [.tup [.str "s", .int f, .tup as]]) W (g ++ [.list as])))

/-- finished terms -/
noncomputable def KnOk (C : List V) (F : List (Int × Int)) (lc : Int → Int) (D : List Int) (kn sz : List (Int × V)) (S : List Int) (B : Int) : Prop :=
  ∀ p, p < B → ∀ x, kn.lookup p = some x → ∃ T t B', (t = 2 ∨ t = 3) ∧ Rep C F lc D B' T t p ∧ inS S T ∧ x = tv (ren S T) ∧ sz.lookup p = some (.int (szT T))
omit [HasK] [HasF] in
theorem KnOk.app {C : List V} {F : List (Int × Int)} {lc : Int → Int} {D : List Int} {kn sz : List (Int × V)} {S : List Int} {B : Int} (h : KnOk C F lc D kn sz S B) (r : List Int) : KnOk C F lc D kn sz (S ++ r) B := fun p hp x hx => by
  obtain ⟨T, t, B', h1, h2, h3, h4, h5⟩ := h p hp x hx
  exact ⟨T, t, B', h1, h2, inS_app T r h3, by rw [ren_app T r h3]; exact h4, h5⟩
omit [HasK] [HasF] in
theorem tv_tup (T : Tm) : ∃ l, tv T = .tup l := by cases T <;> exact ⟨_, rfl⟩

section
variable {d : Nat} {sc : Scope} {tst : Expr} {body : List Stmt} {o0 o1 : O} {b : Bk} {o7 : O} {C K X : List V} {R1 R2 : List O} {q n : Nat} {lc : Int → Int} {D : List Int}
/-- what a visit leaves -/
structure Vst (d : Nat) (sc : Scope) (tst : Expr) (body : List Stmt) (o0 o1 : O) (b : Bk) (o7 : O) (C K X : List V) (R1 R2 : List O) (q n : Nat) (lc : Int → Int) (D : List Int) (B : Int) (T : Tm) (t a : Int) (S : List Int) (kn sz : List (Int × V)) (rs W : List V) (g : List O) (kn' sz' : List (Int × V)) (g' : List O) : Prop where
  ok : KnOk C b.F lc D kn' sz' (cnt T S) B
  above : ∀ p, B ≤ p → kn'.lookup p = kn.lookup p ∧ sz'.lookup p = sz.lookup p
  old : ∀ p x, kn.lookup p = some x → kn'.lookup p = some x ∧ sz'.lookup p = sz.lookup p
  self : (t = 2 ∨ t = 3) → kn'.lookup a = some (tv (ren (cnt T S) T)) ∧ sz'.lookup a = some (.int (szT T))
  l1 : kn'.length ≤ kn.length + 2 * szT T
  l2 : sz'.length ≤ sz.length + szT T
  run : ∀ fl fr' hpf, WhlE d sc tst body (lk (FLt q n)) (HT o0 o1 b o7 C K X R1 R2 (tblF lc 0 (cnt T S)) kn' sz' (rs ++ [tv (ren (cnt T S) T)]) W g') fl fr' hpf →
    WhlE d sc tst body (lk (FLt q n)) (HT o0 o1 b o7 C K X R1 R2 (tblF lc 0 S) kn sz rs (W ++ [vis (cel t a)]) g) fl fr' hpf

omit [HasK] [HasF] in
theorem Rep.one {C : List V} {F : List (Int × Int)} {B t a : Int} {T : Tm} (h : Rep C F lc D B T t a) (h2 : t ≠ 2) (h3 : t ≠ 3) : szT T = 1 := by
  cases h <;> first | rfl | exact absurd rfl h2 | exact absurd rfl h3
noncomputable abbrev IHv (d : Nat) (sc : Scope) (tst : Expr) (body : List Stmt) (o0 o1 : O) (b : Bk) (o7 : O) (C K X : List V) (R1 R2 : List O) (q n : Nat) (lc : Int → Int) (D : List Int) (B : Int) (T : Tm) (t a : Int) : Prop :=
  ∀ (S : List Int) (kn sz : List (Int × V)) (rs W : List V) (g : List O), (∀ m ∈ S, m ∈ D) → KnOk C b.F lc D kn sz S B → S.length + szT T ≤ 900 → kn.length + 2 * szT T ≤ 900 → sz.length + szT T ≤ 900 → rs.length + szT T ≤ 900 → W.length + 2 * szT T ≤ 900 →
      ∃ kn' sz' g', Vst d sc tst body o0 o1 b o7 C K X R1 R2 q n lc D B T t a S kn sz rs W g kn' sz' g'
theorem visit2 (H : Turns d sc tst body o0 o1 b o7 C K X R1 R2 q n) (inj : ∀ m ∈ D, ∀ n ∈ D, lc m = lc n → m = n) {B t p f bs t1 a1 t2 a2 : Int} {T1 T2 : Tm} (hr : Rep C b.F lc D B (.s2 f T1 T2) t p) (hpB : p < B) (hS : StrAt b C t p f (2 : Nat) bs) (h0 : 0 ≤ bs) (h1 : bs < 2 ^ 51)
    (hc0 : C[bs.toNat]? = some (cel t1 a1)) (hc1 : C[(bs + 1).toNat]? = some (cel t2 a2)) (r1 : Rep C b.F lc D p T1 t1 a1) (r2 : Rep C b.F lc D p T2 t2 a2)
    (ih1 : IHv d sc tst body o0 o1 b o7 C K X R1 R2 q n lc D p T1 t1 a1) (ih2 : IHv d sc tst body o0 o1 b o7 C K X R1 R2 q n lc D p T2 t2 a2) :
    IHv d sc tst body o0 o1 b o7 C K X R1 R2 q n lc D B (.s2 f T1 T2) t p := by
  intro S kn sz rs W g hSD hk b1 b2 b3 b4 b5
  simp only [szT] at b1 b2 b3 b4 b5
  cases hkp : kn.lookup p with
  | some x =>
    obtain ⟨T', t', B', e1, e2, e3, e4, e5⟩ := hk p hpB x hkp
    have eT := hr.uniq inj e2 (.inr ⟨hS.tg, e1⟩)
    subst eT
    have ec := cnt_in _ e3
    refine ⟨kn, sz, g, by rw [ec]; exact hk, fun _ _ => ⟨rfl, rfl⟩, fun _ _ e => ⟨e, rfl⟩, fun _ => by rw [ec, ← e4]; exact ⟨hkp, e5⟩, Nat.le_add_right _ _, Nat.le_add_right _ _, fun fl fr' hpf k => ?_⟩
    obtain ⟨l, el⟩ := tv_tup (ren S (.s2 f T1 T2))
    rw [ec, el] at k
    exact whl_turn (H.go _ _ _ _ _ _ _ (by (first | lia | omega))) (H.k _ _ _ _ _ _ _ _ _ (by (first | lia | omega)) (by (first | lia | omega)) hS.tg (by rw [hkp, e4, el])) (.inl rfl) (fun _ _ q => q) k
  | none =>
    have p1 := szT_pos T1
    have p2 := szT_pos T2
    have kl : (setD kn p V.none).length ≤ kn.length + 1 := setD_len
    have k1 : KnOk C b.F lc D (setD kn p .none) sz S p := fun r hr' x hx => by
      rw [lookD, if_neg (by (first | lia | omega))] at hx
      exact hk r (by (first | lia | omega)) x hx
    obtain ⟨kn2, sz2, g2, V1⟩ := ih1 S (setD kn p .none) sz rs (W ++ [bld (cel t p), vis (cel t2 a2)]) g hSD k1 (by (first | lia | omega)) (by (first | lia | omega)) (by (first | lia | omega)) (by (first | lia | omega)) (by simp only [List.length_append, List.length_cons, List.length_nil]; (first | lia | omega))
    have cl1 := cnt_len T1 S
    have lv1 := lv_sz T1
    have l1 := V1.l1
    have l2 := V1.l2
    obtain ⟨kn3, sz3, g3, V2⟩ := ih2 (cnt T1 S) kn2 sz2 (rs ++ [tv (ren (cnt T1 S) T1)]) (W ++ [bld (cel t p)]) g2 (r1.inD hSD) V1.ok (by (first | lia | omega)) (by (first | lia | omega)) (by (first | lia | omega)) (by simp only [List.length_append, List.length_cons, List.length_nil]; (first | lia | omega)) (by simp only [List.length_append, List.length_cons, List.length_nil]; (first | lia | omega))
    have l3 := V2.l1
    have l4 := V2.l2
    have e1 : ren (cnt T2 (cnt T1 S)) T1 = ren (cnt T1 S) T1 := by
      obtain ⟨w, h2⟩ := cnt_pre T2 (cnt T1 S)
      rw [h2]
      exact ren_app T1 w (inS_cnt T1 S)
    have eT : tv (ren (cnt (.s2 f T1 T2) S) (.s2 f T1 T2)) = .tup [.str "s", .int f, .tup [tv (ren (cnt T1 S) T1), tv (ren (cnt T2 (cnt T1 S)) T2)]] := by
      show V.tup [.str "s", .int f, .tup [tv (ren (cnt T2 (cnt T1 S)) T1), tv (ren (cnt T2 (cnt T1 S)) T2)]] = _
      rw [e1]
    have ez : zsum (fun j => if j = 0 then (szT T1 : Int) else (szT T2 : Int)) 2 = (szT (.s2 f T1 T2) : Int) := by
      show (1 : Int) + (szT T1 : Int) + (szT T2 : Int) = ((szT T1 + szT T2 + 1 : Nat) : Int)
      (first | lia | omega)
    have ln3 : (setD kn3 p (tv (ren (cnt (.s2 f T1 T2) S) (.s2 f T1 T2)))).length ≤ kn3.length + 1 := setD_len
    have lz3 : (setD sz3 p (V.int (szT (.s2 f T1 T2)))).length ≤ sz3.length + 1 := setD_len
    refine ⟨setD kn3 p (tv (ren (cnt (.s2 f T1 T2) S) (.s2 f T1 T2))), setD sz3 p (.int (szT (.s2 f T1 T2))), g3 ++ [.list [tv (ren (cnt T1 S) T1), tv (ren (cnt T2 (cnt T1 S)) T2)]], ?_, fun r hr' => ?_, fun r x hx => ?_, fun _ => ?_, ?_, ?_, fun fl fr' hpf k => ?_⟩
    · intro r hr' x hx
      rw [lookD] at hx
      by_cases q : r = p
      · subst q
        rw [if_pos rfl] at hx
        cases hx
        exact ⟨_, t, B, hS.tg, hr, inS_cnt _ _, rfl, by rw [lookD, if_pos rfl]⟩
      · rw [if_neg q] at hx
        rw [lookD, if_neg q]
        by_cases q2 : r < p
        · exact V2.ok r q2 x hx
        · obtain ⟨a1', a2'⟩ := V2.above r (by (first | lia | omega))
          obtain ⟨a3', a4'⟩ := V1.above r (by (first | lia | omega))
          rw [a1', a3', lookD, if_neg q] at hx
          rw [a2', a4']
          obtain ⟨w, hw⟩ := cnt_pre (.s2 f T1 T2) S
          rw [hw]
          exact hk.app w r hr' x hx
    · have q : r ≠ p := by (first | lia | omega)
      obtain ⟨a1', a2'⟩ := V2.above r (by (first | lia | omega))
      obtain ⟨a3', a4'⟩ := V1.above r (by (first | lia | omega))
      rw [lookD, if_neg q, lookD, if_neg q, a1', a2', a3', a4', lookD, if_neg q]
      exact ⟨rfl, rfl⟩
    · have q : r ≠ p := fun e => by subst e; rw [hkp] at hx; cases hx
      have hx1 : (setD kn p V.none).lookup r = some x := by rw [lookD, if_neg q]; exact hx
      obtain ⟨c1, c2⟩ := V1.old r x hx1
      obtain ⟨c3, c4⟩ := V2.old r x c1
      rw [lookD, if_neg q, lookD, if_neg q, c3, c4, c2]
      exact ⟨rfl, rfl⟩
    · rw [lookD, if_pos rfl, lookD, if_pos rfl]
      exact ⟨rfl, rfl⟩
    · show _ ≤ kn.length + 2 * (szT T1 + szT T2 + 1); (first | lia | omega)
    · show _ ≤ sz.length + (szT T1 + szT T2 + 1); (first | lia | omega)
    · have N := H.nw (tblF lc 0 S) kn sz rs W g t p f bs (fun j => if j = 0 then t1 else t2) (fun j => if j = 0 then a1 else a2) 2 (by (first | lia | omega)) (by (first | lia | omega)) hS h0 (by (first | lia | omega)) (by (first | lia | omega)) (fun j hj => by
        match j, hj with
        | 0, _ => simpa using hc0
        | 1, _ => simpa using hc1) hkp
      have eW : W ++ [bld (cel t p)] ++ visL (fun j => if j = 0 then t1 else t2) (fun j => if j = 0 then a1 else a2) 2 2 = (W ++ [bld (cel t p), vis (cel t2 a2)]) ++ [vis (cel t1 a1)] := by
        simp [visL]
      rw [eW] at N
      refine whl_turn (H.go _ _ _ _ _ _ _ (by (first | lia | omega))) N (.inl rfl) (fun _ _ q => q) (V1.run fl fr' hpf ?_)
      have eW2 : W ++ [bld (cel t p), vis (cel t2 a2)] = (W ++ [bld (cel t p)]) ++ [vis (cel t2 a2)] := by simp
      rw [eW2]
      refine V2.run fl fr' hpf ?_
      have Bd := H.bd (tblF lc 0 (cnt T2 (cnt T1 S))) kn3 sz3 rs [tv (ren (cnt T1 S) T1), tv (ren (cnt T2 (cnt T1 S)) T2)] W g3 t p f bs (fun j => if j = 0 then t1 else t2) (fun j => if j = 0 then a1 else a2) (fun j => if j = 0 then (szT T1 : Int) else (szT T2 : Int)) 2 (by (first | lia | omega)) (by (first | lia | omega)) (by (first | lia | omega)) (by (first | lia | omega)) hS h0 h1 (by (first | lia | omega)) (fun j hj => by
        match j, hj with
        | 0, _ => simpa using hc0
        | 1, _ => simpa using hc1) (fun j hj => by
        match j, hj with
        | 0, _ => simpa using r1.der
        | 1, _ => simpa using r2.der) (fun j hj => by
        match j, hj with
        | 0, _ =>
          show PS sz3 t1 a1 _
          by_cases q2 : t1 = 2 ∨ t1 = 3
          · obtain ⟨s1, s2⟩ := V1.self q2
            obtain ⟨s3, s4⟩ := V2.old a1 _ s1
            exact .inl ⟨q2, by rw [s4, s2]; rfl⟩
          · have n2 : t1 ≠ 2 := fun e => q2 (.inl e)
            have n3 : t1 ≠ 3 := fun e => q2 (.inr e)
            exact .inr ⟨n2, n3, by simp [r1.one n2 n3]⟩
        | 1, _ =>
          show PS sz3 t2 a2 _
          by_cases q2 : t2 = 2 ∨ t2 = 3
          · obtain ⟨s1, s2⟩ := V2.self q2
            exact .inl ⟨q2, by rw [s2]; rfl⟩
          · have n2 : t2 ≠ 2 := fun e => q2 (.inl e)
            have n3 : t2 ≠ 3 := fun e => q2 (.inr e)
            exact .inr ⟨n2, n3, by simp [r2.one n2 n3]⟩) rfl (by rw [ez]; show ((szT T1 + szT T2 + 1 : Nat) : Int) ≤ 1000; (first | lia | omega))
      rw [ez, ← eT] at Bd
      have er : rs ++ [tv (ren (cnt T1 S) T1)] ++ [tv (ren (cnt T2 (cnt T1 S)) T2)] = rs ++ [tv (ren (cnt T1 S) T1), tv (ren (cnt T2 (cnt T1 S)) T2)] := by simp
      rw [er]
      exact whl_turn (H.go _ _ _ _ _ _ _ (by (first | lia | omega))) Bd (.inr rfl) (fun _ _ q => q) k
theorem visit1 (H : Turns d sc tst body o0 o1 b o7 C K X R1 R2 q n) (inj : ∀ m ∈ D, ∀ n ∈ D, lc m = lc n → m = n) {B t p f bs t1 a1 : Int} {T1 : Tm} (hr : Rep C b.F lc D B (.s1 f T1) t p) (hpB : p < B) (hS : StrAt b C t p f (1 : Nat) bs) (h0 : 0 ≤ bs) (h1 : bs < 2 ^ 51)
    (hc0 : C[bs.toNat]? = some (cel t1 a1)) (r1 : Rep C b.F lc D p T1 t1 a1)
    (ih1 : IHv d sc tst body o0 o1 b o7 C K X R1 R2 q n lc D p T1 t1 a1) :
    IHv d sc tst body o0 o1 b o7 C K X R1 R2 q n lc D B (.s1 f T1) t p := by
  intro S kn sz rs W g hSD hk b1 b2 b3 b4 b5
  simp only [szT] at b1 b2 b3 b4 b5
  cases hkp : kn.lookup p with
  | some x =>
    obtain ⟨T', t', B', e1, e2, e3, e4, e5⟩ := hk p hpB x hkp
    have eT := hr.uniq inj e2 (.inr ⟨hS.tg, e1⟩)
    subst eT
    have ec := cnt_in _ e3
    refine ⟨kn, sz, g, by rw [ec]; exact hk, fun _ _ => ⟨rfl, rfl⟩, fun _ _ e => ⟨e, rfl⟩, fun _ => by rw [ec, ← e4]; exact ⟨hkp, e5⟩, Nat.le_add_right _ _, Nat.le_add_right _ _, fun fl fr' hpf k => ?_⟩
    obtain ⟨l, el⟩ := tv_tup (ren S (.s1 f T1))
    rw [ec, el] at k
    exact whl_turn (H.go _ _ _ _ _ _ _ (by (first | lia | omega))) (H.k _ _ _ _ _ _ _ _ _ (by (first | lia | omega)) (by (first | lia | omega)) hS.tg (by rw [hkp, e4, el])) (.inl rfl) (fun _ _ q => q) k
  | none =>
    have p1 := szT_pos T1
    have kl : (setD kn p V.none).length ≤ kn.length + 1 := setD_len
    have k1 : KnOk C b.F lc D (setD kn p .none) sz S p := fun r hr' x hx => by
      rw [lookD, if_neg (by (first | lia | omega))] at hx
      exact hk r (by (first | lia | omega)) x hx
    obtain ⟨kn3, sz3, g3, V2⟩ := ih1 S (setD kn p .none) sz rs (W ++ [bld (cel t p)]) g hSD k1 (by (first | lia | omega)) (by (first | lia | omega)) (by (first | lia | omega)) (by (first | lia | omega)) (by simp only [List.length_append, List.length_cons, List.length_nil]; (first | lia | omega))
    have l3 := V2.l1
    have l4 := V2.l2
    have eT : tv (ren (cnt (.s1 f T1) S) (.s1 f T1)) = .tup [.str "s", .int f, .tup [tv (ren (cnt T1 S) T1)]] := rfl
    have ez : zsum (fun _ => (szT T1 : Int)) 1 = (szT (.s1 f T1) : Int) := by
      show (1 : Int) + (szT T1 : Int) = ((szT T1 + 1 : Nat) : Int)
      (first | lia | omega)
    have ln3 : (setD kn3 p (tv (ren (cnt (.s1 f T1) S) (.s1 f T1)))).length ≤ kn3.length + 1 := setD_len
    have lz3 : (setD sz3 p (V.int (szT (.s1 f T1)))).length ≤ sz3.length + 1 := setD_len
    refine ⟨setD kn3 p (tv (ren (cnt (.s1 f T1) S) (.s1 f T1))), setD sz3 p (.int (szT (.s1 f T1))), g3 ++ [.list [tv (ren (cnt T1 S) T1)]], ?_, fun r hr' => ?_, fun r x hx => ?_, fun _ => ?_, ?_, ?_, fun fl fr' hpf k => ?_⟩
    · intro r hr' x hx
      rw [lookD] at hx
      by_cases q : r = p
      · subst q
        rw [if_pos rfl] at hx
        cases hx
        exact ⟨_, t, B, hS.tg, hr, inS_cnt _ _, rfl, by rw [lookD, if_pos rfl]⟩
      · rw [if_neg q] at hx
        rw [lookD, if_neg q]
        by_cases q2 : r < p
        · exact V2.ok r q2 x hx
        · obtain ⟨a1', a2'⟩ := V2.above r (by (first | lia | omega))
          rw [a1', lookD, if_neg q] at hx
          rw [a2']
          obtain ⟨w, hw⟩ := cnt_pre (.s1 f T1) S
          rw [hw]
          exact hk.app w r hr' x hx
    · have q : r ≠ p := by (first | lia | omega)
      obtain ⟨a1', a2'⟩ := V2.above r (by (first | lia | omega))
      rw [lookD, if_neg q, lookD, if_neg q, a1', a2', lookD, if_neg q]
      exact ⟨rfl, rfl⟩
    · have q : r ≠ p := fun e => by subst e; rw [hkp] at hx; cases hx
      have hx1 : (setD kn p V.none).lookup r = some x := by rw [lookD, if_neg q]; exact hx
      obtain ⟨c3, c4⟩ := V2.old r x hx1
      rw [lookD, if_neg q, lookD, if_neg q, c3, c4]
      exact ⟨rfl, rfl⟩
    · rw [lookD, if_pos rfl, lookD, if_pos rfl]
      exact ⟨rfl, rfl⟩
    · show _ ≤ kn.length + 2 * (szT T1 + 1); (first | lia | omega)
    · show _ ≤ sz.length + (szT T1 + 1); (first | lia | omega)
    · have N := H.nw (tblF lc 0 S) kn sz rs W g t p f bs (fun _ => t1) (fun _ => a1) 1 (by (first | lia | omega)) (by (first | lia | omega)) hS h0 (by (first | lia | omega)) (by (first | lia | omega)) (fun j hj => by
        match j, hj with
        | 0, _ => simpa using hc0) hkp
      have eW : W ++ [bld (cel t p)] ++ visL (fun _ => t1) (fun _ => a1) 1 1 = (W ++ [bld (cel t p)]) ++ [vis (cel t1 a1)] := by
        simp [visL]
      rw [eW] at N
      refine whl_turn (H.go _ _ _ _ _ _ _ (by (first | lia | omega))) N (.inl rfl) (fun _ _ q => q) (V2.run fl fr' hpf ?_)
      have Bd := H.bd (tblF lc 0 (cnt T1 S)) kn3 sz3 rs [tv (ren (cnt T1 S) T1)] W g3 t p f bs (fun _ => t1) (fun _ => a1) (fun _ => (szT T1 : Int)) 1 (by (first | lia | omega)) (by (first | lia | omega)) (by (first | lia | omega)) (by (first | lia | omega)) hS h0 h1 (by (first | lia | omega)) (fun j hj => by
        match j, hj with
        | 0, _ => simpa using hc0) (fun j hj => r1.der) (fun j hj => by
          show PS sz3 t1 a1 _
          by_cases q2 : t1 = 2 ∨ t1 = 3
          · obtain ⟨s1, s2⟩ := V2.self q2
            exact .inl ⟨q2, by rw [s2]⟩
          · have n2 : t1 ≠ 2 := fun e => q2 (.inl e)
            have n3 : t1 ≠ 3 := fun e => q2 (.inr e)
            exact .inr ⟨n2, n3, by simp [r1.one n2 n3]⟩) rfl (by rw [ez]; show ((szT T1 + 1 : Nat) : Int) ≤ 1000; (first | lia | omega))
      rw [ez, ← eT] at Bd
      exact whl_turn (H.go _ _ _ _ _ _ _ (by (first | lia | omega))) Bd (.inr rfl) (fun _ _ q => q) k
theorem visit (H : Turns d sc tst body o0 o1 b o7 C K X R1 R2 q n) (inj : ∀ m ∈ D, ∀ n ∈ D, lc m = lc n → m = n) {B t a : Int} {T : Tm} (h : Rep C b.F lc D B T t a) :
    ∀ (S : List Int) (kn sz : List (Int × V)) (rs W : List V) (g : List O), (∀ m ∈ S, m ∈ D) → KnOk C b.F lc D kn sz S B → S.length + szT T ≤ 900 → kn.length + 2 * szT T ≤ 900 → sz.length + szT T ≤ 900 → rs.length + szT T ≤ 900 → W.length + 2 * szT T ≤ 900 →
      ∃ kn' sz' g', Vst d sc tst body o0 o1 b o7 C K X R1 R2 q n lc D B T t a S kn sz rs W g kn' sz' g' := by
  have hr := h
  induction h with
  | @var B m h1 h2 h3 h4 =>
    intro S kn sz rs W g hS hk b1 b2 b3 b4 b5
    simp only [szT] at b1 b2 b3 b4 b5
    refine ⟨kn, sz, g, ?_, fun p _ => ⟨rfl, rfl⟩, fun p x e => ⟨e, rfl⟩, fun e => by simp at e, Nat.le_add_right _ _, Nat.le_add_right _ _, fun fl fr' hpf k => ?_⟩
    · obtain ⟨r, e⟩ := cnt_pre (.v m) S
      rw [e]; exact hk.app r
    · by_cases hm : m ∈ S
      · have e : cnt (.v m) S = S := cnt_in (.v m) hm
        rw [e] at k
        have at1 := tblF_at (lc := lc) (k := 0) (fun x hx => inj x (hS x hx) m h1) hm
        rw [Nat.zero_add] at at1
        exact whl_turn (H.go _ _ _ _ _ _ _ (by (first | lia | omega))) (H.v1 _ _ _ _ _ _ _ _ (by (first | lia | omega)) (by (first | lia | omega)) hr.der at1) (.inl rfl) (fun _ _ q => q) k
      · have e : cnt (.v m) S = S ++ [m] := by unfold cnt; exact if_neg hm
        have e2 : ix (S ++ [m]) m = S.length := by
          clear b1 hS hk k e
          induction S with
          | nil => exact if_pos rfl
          | cons x S ih =>
            simp only [List.mem_cons, not_or] at hm
            show (if x = m then 0 else ix (S ++ [m]) m + 1) = _
            rw [if_neg (fun e => hm.1 e.symm), ih hm.2]; rfl
        rw [e, tblF_snoc, show ren (S ++ [m]) (.v m) = .v (ix (S ++ [m]) m : Nat) from rfl, e2, Nat.zero_add] at k
        have at1 := tblF_none (lc := lc) (a := lc m) (k := 0) (S := S) fun x hx e => hm (inj x (hS x hx) m h1 e ▸ hx)
        have tl : (tblF lc 0 S).length = S.length := tblF_len
        have t2 := H.v2 (tblF lc 0 S) kn sz rs W g (lc m) (by (first | lia | omega)) (by (first | lia | omega)) (by (first | lia | omega)) hr.der at1
        rw [tl] at t2
        exact whl_turn (H.go _ _ _ _ _ _ _ (by (first | lia | omega))) t2 (.inl rfl) (fun _ _ q => q) k
  | con =>
    intro S kn sz rs W g hS hk b1 b2 b3 b4 b5
    simp only [szT] at b1 b2 b3 b4 b5
    refine ⟨kn, sz, g, hk, fun p _ => ⟨rfl, rfl⟩, fun p x e => ⟨e, rfl⟩, fun e => by simp at e, Nat.le_add_right _ _, Nat.le_add_right _ _, fun fl fr' hpf k => ?_⟩
    exact whl_turn (H.go _ _ _ _ _ _ _ (by (first | lia | omega))) (H.c _ _ _ _ _ _ (by (first | lia | omega)) (by (first | lia | omega))) (.inl rfl) (fun _ _ q => q) k
  | lis h1 h2 h3 h4 h5 h6 h7 i1 i2 => exact visit2 H inj hr h2 .lis h1 (by (first | lia | omega)) h4 h5 h6 h7 (i1 h6) (i2 h7)
  | st1 h1 h2 h3 h4 h5 h6 h7 h8 i1 => exact visit1 H inj hr h2 (.str h1 (by (first | lia | omega)) h4 h5 h6) (by (first | lia | omega)) (by (first | lia | omega)) h7 h8 (i1 h8)
  | @st2 B p t1 a1 t2 a2 x f t u h1 h2 h3 h4 h5 h6 h7 h8 h9 h10 i1 i2 =>
    have e : p + 1 + 1 = p + 2 := by (first | lia | omega)
    exact visit2 H inj hr h2 (.str h1 (by (first | lia | omega)) h4 h5 h6) (by (first | lia | omega)) (by (first | lia | omega)) h7 (e ▸ h8) h9 h10 (i1 h9) (i2 h10)
end

end

section
variable [HasK] [HasF]
noncomputable abbrev glT : List (Str × V) := [("VISIT", .int 0), ("BUILD", .int 1), ("len", .obj (.builtin "len")), ("tuple", .obj (.type "tuple")), ("REF", .int 0), ("CON", .int 4), ("INT", .int 5), ("range", .obj (.type "range"))]
section
variable {d : Nat} {o0 o1 : O} {b : Bk} {o7 : O} {C0 C K0 K X : List V} {R1 R2 : List O} {q n : Nat}
omit [HasF] in
theorem new_dict {tb : List (Int × V)} {r : List O} {fr : Str → Option V} {p : Pos} {m : Nat} (hq : R1.length = q) (hm : q + 1 + r.length = m) :
    Snd d (.e (.Dict [] [] p) fr (HM o0 o1 b o7 C K X (R1 ++ .dI tb :: r))) (.v (.ref (m + 14)) (HM o0 o1 b o7 C K X (R1 ++ .dI tb :: (r ++ [.dI []])))) := by
  refine (snd_dict0 (.dI []) .i).eq ?_
  subst hq hm
  congr 1
  · congr 1
    simp [HM, Hp, HpB]
    (first | lia | omega)
  · simp [HM, Hp, HpB]
omit [HasF] in
theorem new_list {tb : List (Int × V)} {r : List O} {fr : Str → Option V} {p : Pos} {m : Nat} {es : List Expr} {l : List V} {hp : List O} (hq : R1.length = q) (hm : q + 1 + r.length = m) (h : Snd d (.es es fr hp) (.vs l (HM o0 o1 b o7 C K X (R1 ++ .dI tb :: r)))) (hl : l.length ≤ 1000) :
    Snd d (.e (.List es p) fr hp) (.v (.ref (m + 14)) (HM o0 o1 b o7 C K X (R1 ++ .dI tb :: (r ++ [.list l])))) := by
  refine (snd_list h hl).eq ?_
  subst hq hm
  congr 1
  · congr 1
    simp [HM, Hp, HpB]
    (first | lia | omega)
  · simp [HM, Hp, HpB]
theorem sp_take_pack {tb : List (Int × V)} {c0 : V} {t a : Int} (hq : R1.length = q) (hn : q + 1 + R2.length = n)
    (hG : ∀ {rest : List O}, Snd (d + 6) (.call (.ref 258) [.ref 9, c0] (HM o0 o1 b o7 C0 K0 X rest)) (.v (cel t a) (HM o0 o1 b o7 C K X rest))) :
    ∃ sc tst body, Turns (d + 6) sc tst body o0 o1 b o7 C K X R1 R2 q n ∧ ∀ tb' kn' sz' v g',
      WhlE (d + 6) sc tst body (lk (FLt q n)) (HT o0 o1 b o7 C K X R1 R2 tb [] [] [] [vis (cel t a)] []) .nx (lk (FLt q n)) (HT o0 o1 b o7 C K X R1 R2 tb' kn' sz' [v] [] g') →
      Snd (d + 6 + 1) (.call (.ref 378) [.ref 9, c0, .ref (q + 14)] (HM o0 o1 b o7 C0 K0 X (R1 ++ .dI tb :: R2))) (.v v (HT o0 o1 b o7 C K X R1 R2 tb' kn' sz' [v] [] g')) := by
  refine ⟨?sc, ?tst, ?body, ?turns, fun tb' kn' sz' v g' hW => ?call⟩
  case call =>
    apply snd_call (ps := ["self", "cell", "table"]) (ds := []) (gl := glT) (fl := .rt v) (fr' := nofr)
    case H => walk_at "m fn3"
    case hn => rfl
    case hg => exact gl_cons g_VISIT (gl_cons g_BUILD (gl_cons g_len (gl_cons g_tuple (gl_cons g_REF (gl_cons g_CON (gl_cons g_INT (gl_cons g_range gl_nil)))))))
    case hg2 => rfl
    case hb => constructor
    case h =>
      apply snd_weakN
      apply snd_seq
      · apply snd_asg (v := .ref (n + 14))
        exact new_dict hq hn
        exact .inl rfl
        rfl
        exact fun _ => rfl
      apply snd_seq
      · apply snd_asg (v := .ref (n + 15))
        exact new_dict (m := n + 1) hq (by simp; (first | lia | omega))
        exact .inl rfl
        rfl
        exact fun _ => rfl
      apply snd_seq
      · apply snd_asg (v := .ref (n + 16))
        exact new_list (m := n + 2) hq (by simp; (first | lia | omega)) snd_nil (by simp)
        exact .inl rfl
        rfl
        exact fun _ => rfl
      apply snd_seq (hp₁ := HT o0 o1 b o7 C K X R1 R2 tb [] [] [] [vis (cel t a)] [])
      · apply snd_as
        apply snd_asg (v := .ref (n + 17))
        apply new_list (m := n + 3) (r := R2 ++ [.dI []] ++ [.dI []] ++ [.list []]) hq (by simp; (first | lia | omega))
        apply snd_cons
        rfl
        apply snd_tup
        apply snd_cons
        rfl
        walk_at "m e"
        apply snd_cons
        rfl
        apply snd_mcall
        walk_at "m e"
        walk_at "m meth"
        walk_at "m es"
        exact hG
        exact fun _ => ⟨_, rfl⟩
        apply snd_nil
        exact Nat.le_of_ble_eq_true rfl
        apply snd_nil
        exact Nat.le_of_ble_eq_true rfl
        exact .inl rfl
        rfl
        exact fun _ => rfl
        simp
      apply snd_weakI (fr₁ := lk (FLt q n))
      case q => walk_at "m wk"
      apply snd_seq
      · apply snd_whileE
        exact hW
      apply snd_stop
      · apply snd_ret
        apply snd_sub
        walk_at "m e"
        walk_at "m e"
        exact .lst (at_r hq hn) (by decide) (by decide) rfl
        rfl
      · exact fun h => nomatch h
  case turns =>
    refine ⟨?t_go, ?t_st, ?t_v1, ?t_v2, ?t_c, ?t_k, ?t_nw, ?t_bd⟩
    case t_go =>
      intro tb kn sz rs W x g hW
      apply snd_tcmp
      · apply snd_ecall
        rfl
        walk_at "m kept"
        walk_at "m es"
        exact sndb_lenL (at_w hq hn) (by simp; (first | lia | omega))
      walk_at "m e"
      exact cmp_as (.gtI _ _ _) (by simp)
      rfl
    case t_st =>
      intro tb kn sz rs g
      apply snd_tcmp
      · apply snd_ecall
        rfl
        walk_at "m kept"
        walk_at "m es"
        exact sndb_lenL (at_w hq hn) (by simp)
      walk_at "m e"
      exact cmp_as (.gtI _ _ _) (by simp)
      rfl
    case t_v1 =>
      intro tb kn sz rs W g a i hrs hW hd hl
      apply snd_weakB
      apply snd_seq (hp₁ := HT o0 o1 b o7 C K X R1 R2 tb kn sz rs W g)
      · apply snd_as
        apply snd_unpack2
        apply snd_mcall0
        walk_at "m e"
        exact Meth.lst (at_w hq hn) PySem.F.slot_list_pop PySem.F.type_list_pop
        exact sndb_pop (at_w hq hn) (by (first | lia | omega))
        exact fun _ => ⟨_, rfl⟩
        exact .inl rfl
        rfl
        exact .inl rfl
        rfl
        exact fun _ => rfl
        exact fun _ => rfl
        exact set_w hq hn
      walk_at "m ifF"
      walk_at "m ss"
      apply snd_seq
      · apply snd_asg
        apply snd_mcall
        walk_at "m e"
        walk_at "m meth"
        walk_at "m es"
        exact sp_deref hd
        exact fun _ => ⟨_, rfl⟩
        exact .inl rfl
        rfl
        exact fun _ => rfl
      walk_at "m ss"
      apply snd_seq (hp₁ := HT o0 o1 b o7 C K X R1 R2 tb kn sz (rs ++ [.tup [.str "v", .int i]]) W g)
      · apply snd_ifT'
        · walk_at "m t"
        · rfl
        · apply snd_seq (hp₁ := HT o0 o1 b o7 C K X R1 R2 tb kn sz rs W g)
          · apply snd_ifF'
            · apply snd_tcmp
              walk_at "m e"
              walk_at "m e"
              exact cmp_as (.niD (at_t hq)) (by rw [hl] <;> rfl)
              rfl
            · rfl
            · apply snd_end
          apply snd_seq (hp₁ := HT o0 o1 b o7 C K X R1 R2 tb kn sz (rs ++ [.tup [.str "v", .int i]]) W g)
          · apply snd_as
            apply snd_expr
            apply snd_mcall
            walk_at "m e"
            exact Meth.lst (at_r hq hn) PySem.F.slot_list_append PySem.F.type_list_append
            · (apply snd_cons; rfl; apply snd_tup; apply snd_cons; rfl; walk_at "m e"; apply snd_cons; rfl; apply snd_sub; walk_at "m e"; walk_at "m e"; exact .dI (at_t hq) hl; rfl; apply snd_nil; exact Nat.le_of_ble_eq_true rfl; apply snd_nil)
            exact sndb_append (at_r hq hn) (by (first | lia | omega))
            exact fun _ => ⟨_, rfl⟩
            exact fun _ => rfl
            exact set_r hq hn
          apply snd_end
      apply snd_end
      walk_at "m wk"
    case t_v2 =>
      intro tb kn sz rs W g a hrs hW htb hd hl0
      have hl : (tb ++ [(a, V.int tb.length)]).lookup a = some (.int tb.length) := by rw [← setD_none hl0, lookD, if_pos rfl]
      apply snd_weakB
      apply snd_seq (hp₁ := HT o0 o1 b o7 C K X R1 R2 tb kn sz rs W g)
      · apply snd_as
        apply snd_unpack2
        apply snd_mcall0
        walk_at "m e"
        exact Meth.lst (at_w hq hn) PySem.F.slot_list_pop PySem.F.type_list_pop
        exact sndb_pop (at_w hq hn) (by (first | lia | omega))
        exact fun _ => ⟨_, rfl⟩
        exact .inl rfl
        rfl
        exact .inl rfl
        rfl
        exact fun _ => rfl
        exact fun _ => rfl
        exact set_w hq hn
      walk_at "m ifF"
      walk_at "m ss"
      apply snd_seq
      · apply snd_asg
        apply snd_mcall
        walk_at "m e"
        walk_at "m meth"
        walk_at "m es"
        exact sp_deref hd
        exact fun _ => ⟨_, rfl⟩
        exact .inl rfl
        rfl
        exact fun _ => rfl
      walk_at "m ss"
      apply snd_seq (hp₁ := HT o0 o1 b o7 C K X R1 R2 (tb ++ [(a, .int tb.length)]) kn sz (rs ++ [.tup [.str "v", .int tb.length]]) W g)
      · apply snd_ifT'
        · walk_at "m t"
        · rfl
        · apply snd_seq (hp₁ := HT o0 o1 b o7 C K X R1 R2 (tb ++ [(a, .int tb.length)]) kn sz rs W g)
          · apply snd_ifT'
            · apply snd_tcmp
              walk_at "m e"
              walk_at "m e"
              exact cmp_as (.niD (at_t hq)) (by rw [hl0] <;> rfl)
              rfl
            · rfl
            · apply snd_seq (hp₁ := HT o0 o1 b o7 C K X R1 R2 (tb ++ [(a, .int tb.length)]) kn sz rs W g)
              · apply snd_as
                apply snd_setitem
                · apply snd_ecall
                  rfl
                  walk_at "m kept"
                  walk_at "m es"
                  exact sndb_lenD (at_t hq) (by (first | lia | omega))
                walk_at "m e"
                walk_at "m e"
                exact .dI (at_t hq) (by (first | lia | omega))
                exact fun _ => rfl
                rw [set_t hq, setD_none hl0]
              apply snd_end
          apply snd_seq (hp₁ := HT o0 o1 b o7 C K X R1 R2 (tb ++ [(a, .int tb.length)]) kn sz (rs ++ [.tup [.str "v", .int tb.length]]) W g)
          · apply snd_as
            apply snd_expr
            apply snd_mcall
            walk_at "m e"
            exact Meth.lst (at_r hq hn) PySem.F.slot_list_append PySem.F.type_list_append
            · (apply snd_cons; rfl; apply snd_tup; apply snd_cons; rfl; walk_at "m e"; apply snd_cons; rfl; apply snd_sub; walk_at "m e"; walk_at "m e"; exact .dI (at_t hq) hl; rfl; apply snd_nil; exact Nat.le_of_ble_eq_true rfl; apply snd_nil)
            exact sndb_append (at_r hq hn) (by (first | lia | omega))
            exact fun _ => ⟨_, rfl⟩
            exact fun _ => rfl
            exact set_r hq hn
          apply snd_end
      apply snd_end
      walk_at "m wk"
    case t_c =>
      intro tb kn sz rs W g hrs hW
      apply snd_weakB
      apply snd_seq (hp₁ := HT o0 o1 b o7 C K X R1 R2 tb kn sz rs W g)
      · apply snd_as
        apply snd_unpack2
        apply snd_mcall0
        walk_at "m e"
        exact Meth.lst (at_w hq hn) PySem.F.slot_list_pop PySem.F.type_list_pop
        exact sndb_pop (at_w hq hn) (by (first | lia | omega))
        exact fun _ => ⟨_, rfl⟩
        exact .inl rfl
        rfl
        exact .inl rfl
        rfl
        exact fun _ => rfl
        exact fun _ => rfl
        exact set_w hq hn
      walk_at "m ifF"
      walk_at "m ss"
      apply snd_seq
      · apply snd_asg
        apply snd_mcall
        walk_at "m e"
        walk_at "m meth"
        walk_at "m es"
        exact sp_deref (.v (by decide) (by decide))
        exact fun _ => ⟨_, rfl⟩
        exact .inl rfl
        rfl
        exact fun _ => rfl
      walk_at "m ss"
      apply snd_seq (hp₁ := HT o0 o1 b o7 C K X R1 R2 tb kn sz (rs ++ [.tup [.str "a", .int 0]]) W g)
      · apply snd_ifF'
        · walk_at "m t"
        · rfl
        · apply snd_seq (hp₁ := HT o0 o1 b o7 C K X R1 R2 tb kn sz (rs ++ [.tup [.str "a", .int 0]]) W g)
          · apply snd_ifT'
            · walk_at "m t"
            · rfl
            · skip
              apply snd_seq (hp₁ := HT o0 o1 b o7 C K X R1 R2 tb kn sz (rs ++ [.tup [.str "a", .int 0]]) W g)
              · apply snd_as
                apply snd_expr
                apply snd_mcall
                walk_at "m e"
                exact Meth.lst (at_r hq hn) PySem.F.slot_list_append PySem.F.type_list_append
                · walk_at "m es"
                exact sndb_append (at_r hq hn) (by (first | lia | omega))
                exact fun _ => ⟨_, rfl⟩
                exact fun _ => rfl
                exact set_r hq hn
              apply snd_end
          apply snd_end
      apply snd_end
      walk_at "m wk"
    case t_k =>
      intro tb kn sz rs W g t p l hrs hW ht hl
      rcases ht with rfl | rfl
      all_goals
      apply snd_weakB
      apply snd_seq (hp₁ := HT o0 o1 b o7 C K X R1 R2 tb kn sz rs W g)
      · apply snd_as
        apply snd_unpack2
        apply snd_mcall0
        walk_at "m e"
        exact Meth.lst (at_w hq hn) PySem.F.slot_list_pop PySem.F.type_list_pop
        exact sndb_pop (at_w hq hn) (by (first | lia | omega))
        exact fun _ => ⟨_, rfl⟩
        exact .inl rfl
        rfl
        exact .inl rfl
        rfl
        exact fun _ => rfl
        exact fun _ => rfl
        exact set_w hq hn
      walk_at "m ifF"
      walk_at "m ss"
      apply snd_seq
      · apply snd_asg
        apply snd_mcall
        walk_at "m e"
        walk_at "m meth"
        walk_at "m es"
        exact sp_deref (.v (by decide) (by decide))
        exact fun _ => ⟨_, rfl⟩
        exact .inl rfl
        rfl
        exact fun _ => rfl
      walk_at "m ss"
      apply snd_seq (hp₁ := HT o0 o1 b o7 C K X R1 R2 tb kn sz (rs ++ [.tup l]) W g)
      · apply snd_ifF'
        · walk_at "m t"
        · rfl
        · apply snd_seq (hp₁ := HT o0 o1 b o7 C K X R1 R2 tb kn sz (rs ++ [.tup l]) W g)
          · apply snd_ifF'
            · walk_at "m t"
            · rfl
            · apply snd_seq (hp₁ := HT o0 o1 b o7 C K X R1 R2 tb kn sz (rs ++ [.tup l]) W g)
              · apply snd_ifF'
                · walk_at "m t"
                · rfl
                · apply snd_seq (hp₁ := HT o0 o1 b o7 C K X R1 R2 tb kn sz (rs ++ [.tup l]) W g)
                  · apply snd_ifT'
                    · apply snd_tcmp
                      walk_at "m e"
                      walk_at "m e"
                      exact cmp_as (.inD (at_k hq hn)) (by rw [hl] <;> rfl)
                      rfl
                    · rfl
                    · apply snd_seq
                      · apply snd_asg
                        apply snd_sub
                        walk_at "m e"
                        walk_at "m e"
                        exact .dI (at_k hq hn) hl
                        rfl
                        exact .inl rfl
                        rfl
                        exact fun _ => rfl
                      apply snd_seq (hp₁ := HT o0 o1 b o7 C K X R1 R2 tb kn sz rs W g)
                      · apply snd_ifF'
                        · apply snd_tcmp
                          walk_at "m e"
                          walk_at "m e"
                          exact .isN
                          rfl
                        · rfl
                        · apply snd_end
                      apply snd_seq (hp₁ := HT o0 o1 b o7 C K X R1 R2 tb kn sz (rs ++ [.tup l]) W g)
                      · apply snd_as
                        apply snd_expr
                        apply snd_mcall
                        walk_at "m e"
                        exact Meth.lst (at_r hq hn) PySem.F.slot_list_append PySem.F.type_list_append
                        · walk_at "m es"
                        exact sndb_append (at_r hq hn) (by (first | lia | omega))
                        exact fun _ => ⟨_, rfl⟩
                        exact fun _ => rfl
                        exact set_r hq hn
                      apply snd_end
                  apply snd_end
              apply snd_end
          apply snd_end
      apply snd_end
      walk_at "m wk"
    case t_nw =>
      intro tb kn sz rs W g t p f bs tg ad w hW hkl hS h0 h1 hw hc hl
      have hd : Der C K t p t p := by rcases hS.tg with h | h <;> (rw [h]; exact .v (by decide) (by decide))
      have e0 : (t == 0) = false := by rcases hS.tg with h | h <;> rw [h] <;> rfl
      have e4 : (t == 4) = false := by rcases hS.tg with h | h <;> rw [h] <;> rfl
      have e5 : (t == 5) = false := by rcases hS.tg with h | h <;> rw [h] <;> rfl
      apply snd_weakB
      apply snd_seq (hp₁ := HT o0 o1 b o7 C K X R1 R2 tb kn sz rs W g)
      · apply snd_as
        apply snd_unpack2
        apply snd_mcall0
        walk_at "m e"
        exact Meth.lst (at_w hq hn) PySem.F.slot_list_pop PySem.F.type_list_pop
        exact sndb_pop (at_w hq hn) (by (first | lia | omega))
        exact fun _ => ⟨_, rfl⟩
        exact .inl rfl
        rfl
        exact .inl rfl
        rfl
        exact fun _ => rfl
        exact fun _ => rfl
        exact set_w hq hn
      walk_at "m ifF"
      walk_at "m ss"
      apply snd_seq
      · apply snd_asg
        apply snd_mcall
        walk_at "m e"
        walk_at "m meth"
        walk_at "m es"
        exact sp_deref hd
        exact fun _ => ⟨_, rfl⟩
        exact .inl rfl
        rfl
        exact fun _ => rfl
      walk_at "m ss"
      apply snd_seq (hp₁ := HT o0 o1 b o7 C K X R1 R2 tb (setD kn p .none) sz rs (W ++ [bld (cel t p)] ++ visL tg ad w w) g)
      · apply snd_ifF'
        · walk_at "m t"
        · exact e0
        · apply snd_seq (hp₁ := HT o0 o1 b o7 C K X R1 R2 tb (setD kn p .none) sz rs (W ++ [bld (cel t p)] ++ visL tg ad w w) g)
          · apply snd_ifF'
            · walk_at "m t"
            · exact e4
            · apply snd_seq (hp₁ := HT o0 o1 b o7 C K X R1 R2 tb (setD kn p .none) sz rs (W ++ [bld (cel t p)] ++ visL tg ad w w) g)
              · apply snd_ifF'
                · walk_at "m t"
                · exact e5
                · apply snd_seq (hp₁ := HT o0 o1 b o7 C K X R1 R2 tb (setD kn p .none) sz rs (W ++ [bld (cel t p)] ++ visL tg ad w w) g)
                  · apply snd_ifF'
                    · apply snd_tcmp
                      walk_at "m e"
                      walk_at "m e"
                      exact cmp_as (.inD (at_k hq hn)) (by rw [hl] <;> rfl)
                      rfl
                    · rfl
                    · apply snd_seq (hp₁ := HT o0 o1 b o7 C K X R1 R2 tb (setD kn p .none) sz rs W g)
                      · apply snd_as
                        apply snd_setitem
                        walk_at "m e"
                        walk_at "m e"
                        walk_at "m e"
                        exact .dI (at_k hq hn) (by (first | lia | omega))
                        exact fun _ => rfl
                        exact set_k hq hn
                      apply snd_seq (hp₁ := HT o0 o1 b o7 C K X R1 R2 tb (setD kn p .none) sz rs (W ++ [bld (cel t p)] ++ visL tg ad w 0) g)
                      · apply snd_as
                        apply snd_expr
                        apply snd_mcall
                        walk_at "m e"
                        exact Meth.lst (at_w hq hn) PySem.F.slot_list_append PySem.F.type_list_append
                        walk_at "m es"
                        exact sndb_append (at_w hq hn) (by (first | lia | omega))
                        exact fun _ => ⟨_, rfl⟩
                        exact fun _ => rfl
                        rw [set_w hq hn]; simp [visL]
                      apply snd_seq
                      · apply snd_asg
                        apply snd_mcall
                        walk_at "m e"
                        walk_at "m meth"
                        walk_at "m es"
                        exact hS.bas
                        exact fun _ => ⟨_, rfl⟩
                        exact .inl rfl
                        rfl
                        exact fun _ => rfl
                      apply snd_weakI (fr₁ := lk (("place", .int bs) :: ("cell", cel t p) :: FLt q n))
                      case q => walk_at "m wk"
                      apply snd_seq (hp₁ := HT o0 o1 b o7 C K X R1 R2 tb (setD kn p .none) sz rs (W ++ [bld (cel t p)] ++ visL tg ad w w) g)
                      · apply snd_forR [(w : Int) - 1, -1, -1]
                        rfl
                        · apply snd_cons
                          rfl
                          · apply snd_bin
                            · apply snd_mcall
                              walk_at "m e"
                              walk_at "m meth"
                              walk_at "m es"
                              exact hS.wd
                              exact fun _ => ⟨_, rfl⟩
                            walk_at "m e"
                            exact .sub _ _
                          walk_at "m es"
                        rfl
                        exact .three _ _ _ (by decide) (rng_d w (by (first | lia | omega))).2.2
                        case hn => exact (rng_d w (by (first | lia | omega))).1
                        case hsm => exact (rng_d w (by (first | lia | omega))).2.1
                        exact .inl rfl
                        rfl
                        · apply lps_ix (fun _ => ("place", .int bs) :: ("cell", cel t p) :: FLt q n) (fun j => HT o0 o1 b o7 C K X R1 R2 tb (setD kn p .none) sz rs (W ++ [bld (cel t p)] ++ visL tg ad w j) g)
                          intro j hj
                          have vl : ∀ j, (visL tg ad w j).length = j := fun j => by
                            induction j with
                            | zero => rfl
                            | succ j ih => simp [visL, ih]
                          have e1 : bs + (((w : Int) - 1) + (j : Int) * -1) = bs + ((w - 1 - j : Nat) : Int) := by (first | lia | omega)
                          apply snd_weakB
                          · apply snd_seq (hp₁ := HT o0 o1 b o7 C K X R1 R2 tb (setD kn p .none) sz rs (W ++ [bld (cel t p)] ++ visL tg ad w (j + 1)) g)
                            · apply snd_as
                              apply snd_expr
                              apply snd_mcall
                              walk_at "m e"
                              exact Meth.lst (at_w hq hn) PySem.F.slot_list_append PySem.F.type_list_append
                              · apply snd_cons
                                rfl
                                apply snd_tup
                                apply snd_cons
                                rfl
                                walk_at "m e"
                                apply snd_cons
                                rfl
                                · apply snd_sub
                                  walk_at "m e"
                                  walk_at "m e"
                                  · apply SubI.lst
                                    rfl
                                    (first | lia | omega)
                                    (first | lia | omega)
                                    rw [e1]; exact hc (w - 1 - j) (by (first | lia | omega))
                                  rfl
                                apply snd_nil
                                exact Nat.le_of_ble_eq_true rfl
                                apply snd_nil
                              exact sndb_append (at_w hq hn) (by simp only [List.length_append, List.length_singleton, vl]; (first | lia | omega))
                              exact fun _ => ⟨_, rfl⟩
                              exact fun _ => rfl
                              · rw [set_w hq hn, List.append_assoc]; rfl
                            apply snd_end
                          · walk_at "m wk"
                        exact fun _ _ => rfl
                      apply snd_end
                  apply snd_end
              apply snd_end
          apply snd_end
      apply snd_end
      walk_at "m wk"
    case t_bd =>
      intro tb kn sz rs as W g t p f bs tg ad z w hrs hW hkl hzl hS h0 h1 hw hc hd hz ha hzs
      apply snd_weakB
      apply snd_seq (hp₁ := HT o0 o1 b o7 C K X R1 R2 tb kn sz (rs ++ as) W g)
      · apply snd_as
        apply snd_unpack2
        apply snd_mcall0
        walk_at "m e"
        exact Meth.lst (at_w hq hn) PySem.F.slot_list_pop PySem.F.type_list_pop
        exact sndb_pop (at_w hq hn) (by (first | lia | omega))
        exact fun _ => ⟨_, rfl⟩
        exact .inl rfl
        rfl
        exact .inl rfl
        rfl
        exact fun _ => rfl
        exact fun _ => rfl
        exact set_w hq hn
      apply snd_stop
      · apply snd_ifT'
        · walk_at "m t"
        · rfl
        · apply snd_seq
          · apply snd_asg
            apply snd_mcall
            walk_at "m e"
            walk_at "m meth"
            walk_at "m es"
            exact hS.fn
            exact fun _ => ⟨_, rfl⟩
            exact .inl rfl
            rfl
            exact fun _ => rfl
          apply snd_seq
          · apply snd_asg (v := .int (rs.length : Nat))
            · refine (snd_bin (hp₁ := HT o0 o1 b o7 C K X R1 R2 tb kn sz (rs ++ as) W g) (hp₂ := HT o0 o1 b o7 C K X R1 R2 tb kn sz (rs ++ as) W g) (a := ((rs ++ as).length : Int)) (b := (w : Int)) ?ha ?hb (.sub _ _)).eq ?hc
              case ha =>
                apply snd_ecall
                rfl
                walk_at "m kept"
                walk_at "m es"
                exact sndb_lenL (at_r hq hn) (by simp only [List.length_append]; (first | lia | omega))
              case hb =>
                apply snd_mcall
                walk_at "m e"
                walk_at "m meth"
                walk_at "m es"
                exact hS.wd
                exact fun _ => ⟨_, rfl⟩
              case hc =>
                congr 2
                simp only [List.length_append]; (first | lia | omega)
            exact .inl rfl
            rfl
            exact fun _ => rfl
          apply snd_seq (hp₁ := HT o0 o1 b o7 C K X R1 R2 tb kn sz (rs ++ as) W (g ++ [.list as]))
          · apply snd_asg (v := .tup [.str "s", .int f, .tup as])
            · apply snd_tup
              · apply snd_cons
                rfl
                walk_at "m e"
                apply snd_cons
                rfl
                walk_at "m e"
                apply snd_cons
                rfl
                · apply snd_ecall
                  rfl
                  walk_at "m kept"
                  · apply snd_cons
                    rfl
                    · refine (snd_from (k := rs.length) (l := rs ++ as) (i := n + 16) (hp₁ := HT o0 o1 b o7 C K X R1 R2 tb kn sz (rs ++ as) W g) (hp₂ := HT o0 o1 b o7 C K X R1 R2 tb kn sz (rs ++ as) W g) ?ha ?hb (at_r hq hn) (by simp) (by simp only [List.length_append]; (first | lia | omega)) (fun _ _ => rfl)).eq (r' := .v (.ref (HT o0 o1 b o7 C K X R1 R2 tb kn sz (rs ++ as) W g).length) (HT o0 o1 b o7 C K X R1 R2 tb kn sz (rs ++ as) W (g ++ [.list as]))) ?hc
                      case ha => walk_at "m e"
                      case hb => walk_at "m e"
                      case hc => rw [List.drop_left, add_g]
                    apply snd_nil
                  exact sndb_tuple (by rw [← add_g]; simp) (by (first | lia | omega))
                apply snd_nil
              exact Nat.le_of_ble_eq_true rfl
            exact .inl rfl
            rfl
            exact fun _ => rfl
          apply snd_seq (hp₁ := HT o0 o1 b o7 C K X R1 R2 tb kn sz rs W (g ++ [.list as]))
          · apply snd_as
            apply snd_delfrom (k := rs.length)
            walk_at "m e"
            walk_at "m e"
            exact at_r hq hn
            simp
            simp only [List.length_append]; (first | lia | omega)
            rw [set_r hq hn, List.take_left]
          apply snd_seq (hp₁ := HT o0 o1 b o7 C K X R1 R2 tb (setD kn p (.tup [.str "s", .int f, .tup as])) sz rs W (g ++ [.list as]))
          · apply snd_as
            apply snd_setitem
            walk_at "m e"
            walk_at "m e"
            walk_at "m e"
            exact .dI (at_k hq hn) (by (first | lia | omega))
            exact fun _ => rfl
            exact set_k hq hn
          apply snd_seq (hp₁ := HT o0 o1 b o7 C K X R1 R2 tb (setD kn p (.tup [.str "s", .int f, .tup as])) (setD sz p (.int (zsum z w))) rs W (g ++ [.list as]))
          · apply snd_as
            apply snd_setitem
            · apply snd_mcall
              walk_at "m e"
              walk_at "m meth"
              walk_at "m es"
              exact sp_whole (at_z hq hn) hS h0 h1 hw hc hd hz
              exact fun _ => ⟨_, rfl⟩
            walk_at "m e"
            walk_at "m e"
            exact .dI (at_z hq hn) (by (first | lia | omega))
            exact fun _ => rfl
            exact set_z hq hn
          apply snd_seq (hp₁ := HT o0 o1 b o7 C K X R1 R2 tb (setD kn p (.tup [.str "s", .int f, .tup as])) (setD sz p (.int (zsum z w))) rs W (g ++ [.list as]))
          · apply snd_ifF'
            · apply snd_tcmp
              · apply snd_sub
                walk_at "m e"
                walk_at "m e"
                exact .dI (at_z hq hn) (by rw [lookD, if_pos rfl])
                rfl
              walk_at "m e"
              exact .gtI _ _ _
              rfl
            · exact decide_eq_false (by (first | lia | omega))
            · apply snd_end
          apply snd_seq (hp₁ := HT o0 o1 b o7 C K X R1 R2 tb (setD kn p (.tup [.str "s", .int f, .tup as])) (setD sz p (.int (zsum z w))) (rs ++ [.tup [.str "s", .int f, .tup as]]) W (g ++ [.list as]))
          · apply snd_as
            apply snd_expr
            apply snd_mcall
            walk_at "m e"
            exact Meth.lst (at_r hq hn) PySem.F.slot_list_append PySem.F.type_list_append
            walk_at "m es"
            exact sndb_append (at_r hq hn) (by (first | lia | omega))
            exact fun _ => ⟨_, rfl⟩
            exact fun _ => rfl
            exact set_r hq hn
          apply snd_stop
          apply snd_cont
          exact fun h => nomatch h
      · exact fun h => nomatch h
      · walk_at "m wk"
end
section
variable {d : Nat} {o0 o1 : O} {b : Bk} {o7 : O} {C0 C K0 K X : List V} {R1 R2 : List O} {q n : Nat}
theorem sp_take {lc : Int → Int} {D S : List Int} {B t a : Int} {T : Tm} {c0 : V} (hq : R1.length = q) (inj : ∀ m ∈ D, ∀ n ∈ D, lc m = lc n → m = n) (hr : Rep C b.F lc D B T t a) (hS : ∀ m ∈ S, m ∈ D) (h1 : S.length + szT T ≤ 900) (h2 : 2 * szT T ≤ 900)
    (hG : ∀ {rest : List O}, Snd (d + 6) (.call (.ref 258) [.ref 9, c0] (HM o0 o1 b o7 C0 K0 X rest)) (.v (cel t a) (HM o0 o1 b o7 C K X rest))) :
    ∃ g', Snd (d + 6 + 1) (.call (.ref 378) [.ref 9, c0, .ref (q + 14)] (HM o0 o1 b o7 C0 K0 X (R1 ++ .dI (tblF lc 0 S) :: R2))) (.v (tv (ren (cnt T S) T)) (HM o0 o1 b o7 C K X (R1 ++ .dI (tblF lc 0 (cnt T S)) :: (R2 ++ g')))) := by
  obtain ⟨sc, tst, body, H, call⟩ := sp_take_pack (R2 := R2) (tb := tblF lc 0 S) (n := q + 1 + R2.length) hq rfl hG
  have p := szT_pos T
  obtain ⟨kn', sz', g', V⟩ := visit H inj hr S [] [] [] [] [] hS (fun p _ x hx => nomatch hx) h1 (by simp; (first | lia | omega)) (by simp; (first | lia | omega)) (by simp; (first | lia | omega)) (by simp; (first | lia | omega))
  exact ⟨_, call _ _ _ _ _ (V.run .nx _ _ (whl_stop (H.st _ _ _ _ _)))⟩
end

end

section
variable [HasK] [HasF]
/-- statements whose end is only known to be one of some -/
noncomputable def SX (d : Nat) (sc : Scope) (l : List Stmt) (fr : Str → Option V) (hp : List O) (Q : Fl → (Str → Option V) → List O → Prop) : Prop := ∃ fl fr' hp', Snd d (.ss sc l fr hp) (.f fl fr' hp') ∧ Q fl fr' hp'
noncomputable def S1 (d : Nat) (sc : Scope) (st : Stmt) (fr : Str → Option V) (hp : List O) (Q : Fl → (Str → Option V) → List O → Prop) : Prop := ∃ fl fr' hp', Snd d (.s sc st fr hp) (.f fl fr' hp') ∧ Q fl fr' hp'
section
variable {d : Nat} {sc : Scope} {fr fr₁ fr₂ : Str → Option V} {l : List (Str × V)} {hp hp₁ hp₂ : List O} {Q Q' : Fl → (Str → Option V) → List O → Prop}
omit [HasF] in
theorem sx_nil (h : Q .nx fr hp) : SX d sc [] fr hp Q := ⟨_, _, _, snd_end, h⟩
omit [HasF] in
theorem sx_seq {st : Stmt} {rest : List Stmt} (h : Snd d (.s sc st fr hp) (.f .nx fr₁ hp₁)) (k : SX d sc rest fr₁ hp₁ Q) : SX d sc (st :: rest) fr hp Q := let ⟨_, _, _, a, b⟩ := k; ⟨_, _, _, snd_seq h a, b⟩
omit [HasF] in
theorem sx_stop {st : Stmt} {rest : List Stmt} {fl : Fl} (h : Snd d (.s sc st fr hp) (.f fl fr₁ hp₁)) (hf : fl ≠ .nx) (k : Q fl fr₁ hp₁) : SX d sc (st :: rest) fr hp Q := ⟨_, _, _, snd_stop h hf, k⟩
omit [HasF] in
/-- one statement that runs through, then the rest -/
theorem sx_cons {st : Stmt} {rest : List Stmt} (h : S1 d sc st fr hp fun fl fr₁ hp₁ => fl = .nx ∧ SX d sc rest fr₁ hp₁ Q) : SX d sc (st :: rest) fr hp Q := by
  obtain ⟨fl, fr', hp', a, rfl, k⟩ := h
  exact sx_seq a k
omit [HasF] in
theorem s1_if {t : Expr} {b₁ b₂ : List Stmt} {p : Pos} {b : Bool} (h : Snd d (.t t fr hp) (.b b hp₁)) (h1 : b = true → SX d sc b₁ fr hp₁ Q) (h2 : b = false → SX d sc b₂ fr hp₁ Q) : S1 d sc (.If t b₁ b₂ p) fr hp Q := by
  cases b with
  | true => obtain ⟨fl, fr', hp', a, k⟩ := h1 rfl; exact ⟨_, _, _, snd_ifT h a, k⟩
  | false => obtain ⟨fl, fr', hp', a, k⟩ := h2 rfl; exact ⟨_, _, _, snd_ifF h a, k⟩
omit [HasF] in
theorem s1_ifT {t : Expr} {b₁ b₂ : List Stmt} {p : Pos} {b : Bool} (h : Snd d (.t t fr hp) (.b b hp₁)) (hb : b = true) (h1 : SX d sc b₁ fr hp₁ Q) : S1 d sc (.If t b₁ b₂ p) fr hp Q := s1_if h (fun _ => h1) fun e => by rw [hb] at e; cases e
omit [HasF] in
theorem s1_ifF {t : Expr} {b₁ b₂ : List Stmt} {p : Pos} {b : Bool} (h : Snd d (.t t fr hp) (.b b hp₁)) (hb : b = false) (h1 : SX d sc b₂ fr hp₁ Q) : S1 d sc (.If t b₁ b₂ p) fr hp Q := s1_if h (fun e => by rw [hb] at e; cases e) fun _ => h1
omit [HasF] in
theorem sx_mono {ss : List Stmt} (h : SX d sc ss fr hp Q) (k : ∀ fl fr' hp', Q fl fr' hp' → Q' fl fr' hp') : SX d sc ss fr hp Q' := let ⟨_, _, _, a, b⟩ := h; ⟨_, _, _, a, k _ _ _ b⟩
omit [HasF] in
theorem s1_mono {st : Stmt} (h : S1 d sc st fr hp Q) (k : ∀ fl fr' hp', Q fl fr' hp' → Q' fl fr' hp') : S1 d sc st fr hp Q' := let ⟨_, _, _, a, b⟩ := h; ⟨_, _, _, a, k _ _ _ b⟩
omit [HasF] in
theorem sx_weak {ss : List Stmt} (h : SX d sc ss fr₁ hp Q) (q : ∀ x v, fr₁ x = some v → fr x = some v) : SX d sc ss fr hp Q := let ⟨_, _, _, a, b⟩ := h; ⟨_, _, _, snd_weakI a q, b⟩
omit [HasF] in
theorem sx_eq {ss : List Stmt} (h : SX d sc ss fr hp₁ Q) (e : hp = hp₁) : SX d sc ss fr hp Q := e ▸ h
/-- what a turn ends in -/
noncomputable def Nx (P : List (Str × V) → List O → Prop) (fl : Fl) (fr' : Str → Option V) (hp' : List O) : Prop := fl = .nx ∧ ∃ l', (∀ y v, lk l' y = some v → fr' y = some v) ∧ P l' hp'
omit [HasK] [HasF] in
theorem Nx.mk {P : List (Str × V) → List O → Prop} {l : List (Str × V)} {fr : Str → Option V} {hp : List O} (w : ∀ y v, lk l y = some v → fr y = some v) (p : P l hp) : Nx P .nx fr hp := ⟨rfl, l, w, p⟩
omit [HasK] [HasF] in
@[elab_as_elim] theorem Nx.elim {P : List (Str × V) → List O → Prop} {fl : Fl} {fr : Str → Option V} {hp : List O} {motive : Fl → Prop} (q : Nx P fl fr hp) (k : ∀ l, (∀ y v, lk l y = some v → fr y = some v) → P l hp → motive .nx) : motive fl := by
  obtain ⟨rfl, l, w, p⟩ := q; exact k l w p
omit [HasF] in
theorem lps_inv {x : Str} {b : List Stmt} {a c : Int} (P : Nat → List (Str × V) → List O → Prop) (w : Nat) (h : ∀ j l hp, j < w → P j l hp → SX d sc b (lk ((x, .int (a + (j : Int) * c)) :: l)) hp (Nx (P (j + 1)))) :
    ∀ {l hp}, P 0 l hp → ∃ l' hp', Lps d sc x b (rngL a c w) l hp .nx l' hp' ∧ P w l' hp' := by
  have go : ∀ (n i : Nat) (l : List (Str × V)) (hp : List O), i + n = w → P i l hp → ∃ l' hp', Lps d sc x b ((List.range' i n).map fun (j : Nat) => .int (a + (j : Int) * c)) l hp .nx l' hp' ∧ P w l' hp' := by
    intro n
    induction n with
    | zero => intro i l hp e p; rw [Nat.add_zero] at e; subst e; exact ⟨l, hp, .done, p⟩
    | succ n ih =>
      intro i l hp e p
      obtain ⟨fl, fr', hp', s, rfl, l', wk, p'⟩ := h i l hp (by (first | lia | omega)) p
      obtain ⟨l2, hp2, L, q⟩ := ih (i + 1) l' hp' (by (first | lia | omega)) p'
      rw [List.range'_succ, List.map_cons]
      exact ⟨l2, hp2, .turn (snd_weakB s wk) (.inl rfl) L, q⟩
  intro l hp p
  have := go w 0 l hp (by (first | lia | omega)) p
  unfold rngL
  rw [List.range_eq_range']
  exact this
omit [HasF] in
theorem s1_forR {x y : Str} {px py pc p : Pos} {e : Expr} {es : List Expr} {body : List Stmt} {vs : List V} (is : List Int) {a b c : Int} {n : Nat} (hx : lk l y = some (.obj (.type "range"))) (h1 : Snd d (.es (e :: es) (lk l) hp) (.vs vs hp₁)) (hv : vs = is.map .int) (k : Rng is a b c)
    (hn : Builtin.Range.rangeSize a b c = n) (hsm : Builtin.Range.small a b c = true) (kx : sc.names.lookup x = some .local ∨ sc.names.lookup x = some .cell) (hd : (x == ("__debug__" : Str)) = false)
    (hs : ∀ env v, foldedSetIterable (.Call (.Name y py) (e :: es) [] pc) env v = pure v) (Lp : ∃ l' hp', Lps d sc x body (rngL a c n) l hp₁ .nx l' hp' ∧ Q .nx (lk l') hp') : S1 d sc (.For (.Name x px) (.Call (.Name y py) (e :: es) [] pc) body [] p) (lk l) hp Q := by
  obtain ⟨l', hp', L, q⟩ := Lp
  exact ⟨_, _, _, snd_forR is hx h1 hv k hn hsm kx hd L hs, q⟩
end
omit [HasF] in
/-- the numbers that pass a test, as a list comprehension makes them -/
theorem cps_filter {d : Nat} {x : Str} {c : Expr} {px : Pos} {gl : List (Str × V)} {hp : List O} (p : Int → Bool) : ∀ (xs : List Int) (acc : List V), (∀ k ∈ xs, ∀ acc : List V, Snd d (.t c (lk ((x, .int k) :: gl)) (hp ++ [.list acc])) (.b (p k) (hp ++ [.list acc]))) → acc.length + xs.length < 1000 →
    Cps d hp.length x (some c) (.Name x px) gl (xs.map .int) (hp ++ [.list acc]) (hp ++ [.list (acc ++ (xs.filter p).map .int)])
  | [], acc, _, _ => by simp only [List.map_nil, List.filter_nil, List.append_nil]; exact .done
  | k :: xs, acc, h, hl => by
    have hk := h k (.head _) acc
    simp only [List.length_cons] at hl
    cases q : p k with
    | false =>
      rw [List.filter_cons_of_neg (by simp [q]), List.map_cons]
      rw [q] at hk
      exact .no rfl hk (cps_filter p xs acc (fun k' h' => h k' (.tail _ h')) (by (first | lia | omega)))
    | true =>
      rw [List.filter_cons_of_pos q, List.map_cons]
      rw [q] at hk
      have ih := cps_filter (px := px) p xs (acc ++ [.int k]) (fun k' h' => h k' (.tail _ h')) (by simp only [List.length_append, List.length_singleton]; (first | lia | omega))
      rw [List.append_assoc] at ih
      refine .yes (u := .int k) (ys := acc) (fun c' e => by cases e; exact hk) (fun e => nomatch e) (snd_name (by simp [lk])) (by simp) (by (first | lia | omega)) ?_
      have e : (hp ++ [O.list acc]).set hp.length (.list (acc ++ [.int k])) = hp ++ [.list (acc ++ [.int k])] := by
        rw [List.set_append_right _ _ (Nat.le_refl _)]; simp
      rw [e]
      exact ih
noncomputable abbrev lawS : Scope := scopeF (fnS 681)
noncomputable abbrev lawB : List Stmt := bodyF (fnS 681)
noncomputable def forB : Stmt → List Stmt
  | .For _ _ b _ _ => b
  | _ => []
noncomputable def ifT : Stmt → List Stmt
  | .If _ b _ _ => b
  | _ => []
noncomputable def ifE : Stmt → List Stmt
  | .If _ _ b _ => b
  | _ => []

end

section
variable [HasK] [HasF]
noncomputable def upd (lc : Int → Int) (m a : Int) : Int → Int := fun n => if n = m then a else lc n
omit [HasK] [HasF] in
theorem upd_self {lc : Int → Int} {m a : Int} : upd lc m a m = a := if_pos rfl
omit [HasK] [HasF] in
theorem upd_ne {lc : Int → Int} {m a n : Int} (h : n ≠ m) : upd lc m a n = lc n := if_neg h
noncomputable def updH (H : Nat → Option Tm) (k : Nat) (T : Option Tm) : Nat → Option Tm := fun j => if j = k then T else H j
omit [HasK] [HasF] in
theorem updH_self {H : Nat → Option Tm} {k : Nat} {T : Option Tm} : updH H k T k = T := if_pos rfl
omit [HasK] [HasF] in
theorem updH_ne {H : Nat → Option Tm} {k j : Nat} {T : Option Tm} (h : j ≠ k) : updH H k T j = H j := if_neg h
omit [HasK] [HasF] in
theorem app_get {C : List V} {c v : V} {i : Nat} (h : C[i]? = some v) : (C ++ [c])[i]? = some v := by
  rw [List.getElem?_append_left (List.getElem?_eq_some_iff.mp h).1]; exact h
omit [HasK] [HasF] in
theorem Rep.grow {C C' : List V} {F : List (Int × Int)} {lc lc' : Int → Int} {D D' : List Int} {B t a : Int} {T : Tm} (h : Rep C F lc D B T t a) (hC : ∀ (i : Nat) (v : V), C[i]? = some v → C'[i]? = some v) (hD : ∀ m ∈ D, m ∈ D' ∧ lc' m = lc m) : Rep C' F lc' D' B T t a := by
  induction h with
  | @var B n h1 h2 h3 h4 =>
    obtain ⟨d1, d2⟩ := hD _ h1
    have := Rep.var (C := C') (F := F) (lc := lc') (D := D') (B := B) d1 (by rw [d2]; exact h2) (by rw [d2]; exact h3) (by rw [d2]; exact hC _ _ h4)
    rw [d2] at this; exact this
  | con => exact .con
  | lis h1 h2 h3 h4 h5 _ _ i1 i2 => exact .lis h1 h2 h3 (hC _ _ h4) (hC _ _ h5) i1 i2
  | st1 h1 h2 h3 h4 h5 h6 h7 _ i1 => exact .st1 h1 h2 h3 (hC _ _ h4) h5 h6 (hC _ _ h7) i1
  | st2 h1 h2 h3 h4 h5 h6 h7 h8 _ _ i1 i2 => exact .st2 h1 h2 h3 (hC _ _ h4) h5 h6 (hC _ _ h7) (hC _ _ h8) i1 i2
omit [HasK] [HasF] in
theorem Rep.growF {C : List V} {F F' : List (Int × Int)} {lc : Int → Int} {D : List Int} {B t a : Int} {T : Tm} (h : Rep C F lc D B T t a) (hF : ∀ (i : Nat) (v : Int × Int), F[i]? = some v → F'[i]? = some v) : Rep C F' lc D B T t a := by
  induction h with
  | var h1 h2 h3 h4 => exact .var h1 h2 h3 h4
  | con => exact .con
  | lis h1 h2 h3 h4 h5 _ _ i1 i2 => exact .lis h1 h2 h3 h4 h5 i1 i2
  | st1 h1 h2 h3 h4 h5 h6 h7 _ i1 => exact .st1 h1 h2 h3 h4 (hF _ _ h5) h6 h7 i1
  | st2 h1 h2 h3 h4 h5 h6 h7 h8 _ _ i1 i2 => exact .st2 h1 h2 h3 h4 (hF _ _ h5) h6 h7 h8 i1 i2
/-- a cell that stands for a term -/
noncomputable def Val (C : List V) (F : List (Int × Int)) (lc : Int → Int) (D : List Int) (B : Int) (H : Nat → Option Tm) (T : Tm) (t a : Int) : Prop :=
  Rep C F lc D B T t a ∨ (t = 1 ∧ ∃ (k : Nat) (m : Int), 3 ≤ k ∧ k < 6 ∧ a = ((k - 1 : Nat) : Int) ∧ T = .v m ∧ H k = some (.v m))
structure Core (F : List (Int × Int)) (C K X : List V) (H : Nat → Option Tm) (r : Nat → Bool) (L : List Int) (cnt B : Int) (lc : Int → Int) (D : List Int) : Prop where
  kl : K.length = 5
  xl : X.length ≤ 4
  cells : ∀ j, j < C.length → ∃ t a, C[j]? = some (cel t a) ∧ t ≠ 1 ∧ (t = 0 → 0 ≤ a ∧ a ≤ (j : Int))
  inj : ∀ m ∈ D, ∀ n ∈ D, lc m = lc n → m = n
  dom : ∀ m ∈ D, m ≤ cnt ∧ 0 ≤ lc m ∧ lc m < C.length ∧ C[(lc m).toNat]? = some (cel 0 (lc m))
  ld : ∀ m ∈ L, m ∉ D ∧ m ≤ cnt
  ln : L.Nodup
  val : ∀ k, k < 6 → ∀ T, H k = some T → ∃ t a, getR K X k = some (cel t a) ∧ Val C F lc D B H T t a ∧ (r k = false → t ≠ 1)
  sl : ∀ k, 3 ≤ k → k < 6 → ∀ T, H k = some T → ∃ m, T = .v m ∧ ((m ∈ L ∧ K[k - 1]? = some (cel 1 (k - 1 : Nat))) ∨ (m ∈ D ∧ K[k - 1]? = some (cel 0 (lc m))))
  su : ∀ k k' m, 3 ≤ k → k < 6 → 3 ≤ k' → k' < 6 → H k = some (.v m) → H k' = some (.v m) → k = k'
section
variable {F : List (Int × Int)} {C K X : List V} {H : Nat → Option Tm} {r : Nat → Bool} {L : List Int} {cnt B : Int} {lc : Int → Int} {D : List Int}
omit [HasK] [HasF] in
/-- where a held term is found -/
theorem Core.look (I : Core F C K X H r L cnt B lc D) (hc : C.length ≤ 1000) {k : Nat} {T : Tm} (hk : k < 6) (h : H k = some T) :
    (∃ (m : Int) (k' : Nat) (t a : Int), T = .v m ∧ m ∈ L ∧ 3 ≤ k' ∧ k' < 6 ∧ H k' = some (.v m) ∧ K[k' - 1]? = some (cel 1 (k' - 1 : Nat)) ∧ getR K X k = some (cel t a) ∧ Der C K t a 1 ((k' - 1 : Nat) : Int)) ∨
    (∃ t a q s, getR K X k = some (cel t a) ∧ Der C K t a q s ∧ q ≠ 1 ∧ Rep C F lc D B T q s ∧ ∀ m, T = .v m → m ∉ L) := by
  obtain ⟨t, a, h1, h2, h3⟩ := I.val k hk T h
  have notL : ∀ {q s : Int}, Rep C F lc D B T q s → ∀ m, T = .v m → m ∉ L := by
    intro q s R m e hm
    subst e
    cases R with
    | var d => exact (I.ld m hm).1 d
  rcases h2 with R | ⟨rfl, k', m, g1, g2, rfl, rfl, g3⟩
  · refine .inr ⟨t, a, t, a, h1, R.der, ?_, R, notL R⟩
    rcases R.tag with e | e | e | e <;> rw [e] <;> decide
  · obtain ⟨m', e, s1 | s1⟩ := I.sl k' g1 g2 _ g3
    · cases e
      exact .inl ⟨m, k', 1, _, rfl, s1.1, g1, g2, g3, s1.2, h1, .ss (by (first | lia | omega)) (by (first | lia | omega)) (by simpa using s1.2)⟩
    · cases e
      obtain ⟨d1, d2, d3, d4⟩ := I.dom m s1.1
      have R : Rep C F lc D B (.v m) 0 (lc m) := .var s1.1 d2 (by (first | lia | omega)) d4
      exact .inr ⟨1, _, 0, lc m, h1, .sn (by (first | lia | omega)) (by (first | lia | omega)) (by simpa using s1.2) (by simp) R.der, by decide, R, notL R⟩
omit [HasK] [HasF] in
theorem Core.app (I : Core F C K X H r L cnt B lc D) {t a : Int} (ht : t ≠ 1) (h0 : t = 0 → 0 ≤ a ∧ a ≤ C.length) : Core F (C ++ [cel t a]) K X H r L cnt B lc D := by
  have gR : ∀ {T : Tm} {q s : Int}, Val C F lc D B H T q s → Val (C ++ [cel t a]) F lc D B H T q s := fun h => h.imp (fun R => R.grow (fun i v e => app_get e) fun m hm => ⟨hm, rfl⟩) id
  refine { I with cells := fun j hj => ?_, dom := fun m hm => ?_, val := fun k hk T h => ?_ }
  · rw [List.length_append, List.length_singleton] at hj
    by_cases q : j < C.length
    · obtain ⟨t', a', e1, e2, e3⟩ := I.cells j q
      exact ⟨t', a', app_get e1, e2, e3⟩
    · have : j = C.length := by (first | lia | omega)
      subst this
      exact ⟨t, a, by simp, ht, h0⟩
  · obtain ⟨d1, d2, d3, d4⟩ := I.dom m hm
    exact ⟨d1, d2, by rw [List.length_append, List.length_singleton]; (first | lia | omega), app_get d4⟩
  · obtain ⟨t', a', e1, e2, e3⟩ := I.val k hk T h
    exact ⟨t', a', e1, gR e2, e3⟩
omit [HasK] [HasF] in
/-- the map of variables grows by one new heap variable -/
theorem Core.var (I : Core F C K X H r L cnt B lc D) {m : Int} (hm : m ∉ D) (hL : m ∉ L) {cnt' : Int} (hc : cnt ≤ cnt') (hmc : m ≤ cnt') : Core F (C ++ [cel 0 C.length]) K X H r L cnt' B (upd lc m C.length) (m :: D) := by
  have I' := I.app (t := 0) (a := C.length) (by decide) (fun _ => ⟨by (first | lia | omega), Int.le_refl _⟩)
  have hD : ∀ n ∈ D, n ∈ m :: D ∧ upd lc m C.length n = lc n := fun n hn => ⟨.tail _ hn, upd_ne fun e => hm (e ▸ hn)⟩
  have gR : ∀ {T : Tm} {q s : Int}, Val (C ++ [cel 0 C.length]) F lc D B H T q s → Val (C ++ [cel 0 C.length]) F (upd lc m C.length) (m :: D) B H T q s := fun h => h.imp (fun R => R.grow (fun i v e => e) hD) id
  refine { I' with inj := fun x hx y hy e => ?_, dom := fun x hx => ?_, ld := fun x hx => ?_, val := fun k hk T h => ?_, sl := fun k h1 h2 T h => ?_ }
  · rcases List.mem_cons.mp hx with ex | hx' <;> rcases List.mem_cons.mp hy with ey | hy'
    · rw [ex, ey]
    · rw [ex, upd_self, (hD y hy').2] at e
      have := (I.dom y hy').2.2.1; (first | lia | omega)
    · rw [ey, upd_self, (hD x hx').2] at e
      have := (I.dom x hx').2.2.1; (first | lia | omega)
    · rw [(hD x hx').2, (hD y hy').2] at e
      exact I.inj x hx' y hy' e
  · rcases List.mem_cons.mp hx with ex | hx'
    · rw [ex, upd_self]
      exact ⟨hmc, by (first | lia | omega), by simp; (first | lia | omega), by simp⟩
    · rw [(hD x hx').2]
      obtain ⟨d1, d2, d3, d4⟩ := I'.dom x hx'
      exact ⟨by (first | lia | omega), d2, d3, d4⟩
  · obtain ⟨d1, d2⟩ := I.ld x hx
    refine ⟨fun e => ?_, by (first | lia | omega)⟩
    rcases List.mem_cons.mp e with ex | e'
    · exact hL (ex ▸ hx)
    · exact d1 e'
  · obtain ⟨t', a', e1, e2, e3⟩ := I'.val k hk T h
    exact ⟨t', a', e1, gR e2, e3⟩
  · obtain ⟨n, e, s | s⟩ := I'.sl k h1 h2 T h
    · exact ⟨n, e, .inl s⟩
    · exact ⟨n, e, .inr ⟨.tail _ s.1, by rw [(hD n s.1).2]; exact s.2⟩⟩
omit [HasK] [HasF] in
/-- a stack variable moved to the heap -/
theorem Core.bind (I : Core F C K X H r L cnt B lc D) {m : Int} {k' : Nat} {L' : List Int} (hc : C.length ≤ 1000) (hm : m ∈ L) (h3 : 3 ≤ k') (h6 : k' < 6) (hk : H k' = some (.v m)) (hL : ∀ n, n ∈ L' ↔ n ∈ L ∧ n ≠ m) (hn : L'.Nodup) :
    Core F (C ++ [cel 0 C.length]) (K.set (k' - 1) (cel 0 C.length)) X H r L' cnt B (upd lc m C.length) (m :: D) := by
  obtain ⟨md, mc⟩ := I.ld m hm
  have I' := I.app (t := 0) (a := C.length) (by decide) (fun _ => ⟨by (first | lia | omega), Int.le_refl _⟩)
  have hD : ∀ n ∈ D, n ∈ m :: D ∧ upd lc m C.length n = lc n := fun n hn => ⟨.tail _ hn, upd_ne fun e => md (e ▸ hn)⟩
  have gR : ∀ {T : Tm} {q s : Int}, Val (C ++ [cel 0 C.length]) F lc D B H T q s → Val (C ++ [cel 0 C.length]) F (upd lc m C.length) (m :: D) B H T q s := fun h => h.imp (fun R => R.grow (fun i v e => e) hD) id
  have kl := I.kl
  have other : ∀ k, 3 ≤ k → k < 6 → k ≠ k' → (K.set (k' - 1) (cel 0 C.length))[k - 1]? = K[k - 1]? := fun k h1 h2 q => by
    rw [List.getElem?_set_ne (by (first | lia | omega))]
  have self : (K.set (k' - 1) (cel 0 C.length))[k' - 1]? = some (cel 0 C.length) := by
    rw [List.getElem?_set_self (by (first | lia | omega))]
  refine { I' with kl := by rw [List.length_set]; exact kl, inj := fun x hx y hy e => ?_, dom := fun x hx => ?_, ld := fun x hx => ?_, ln := hn, val := fun k hk2 T h => ?_, sl := fun k h1 h2 T h => ?_ }
  · rcases List.mem_cons.mp hx with ex | hx' <;> rcases List.mem_cons.mp hy with ey | hy'
    · rw [ex, ey]
    · rw [ex, upd_self, (hD y hy').2] at e
      have := (I.dom y hy').2.2.1; (first | lia | omega)
    · rw [ey, upd_self, (hD x hx').2] at e
      have := (I.dom x hx').2.2.1; (first | lia | omega)
    · rw [(hD x hx').2, (hD y hy').2] at e
      exact I.inj x hx' y hy' e
  · rcases List.mem_cons.mp hx with ex | hx'
    · rw [ex, upd_self]
      exact ⟨mc, by (first | lia | omega), by simp; (first | lia | omega), by simp⟩
    · rw [(hD x hx').2]
      exact I'.dom x hx'
  · obtain ⟨x1, x2⟩ := (hL x).mp hx
    obtain ⟨d1, d2⟩ := I.ld x x1
    refine ⟨fun e => ?_, d2⟩
    rcases List.mem_cons.mp e with e | e
    · exact x2 e
    · exact d1 e
  · obtain ⟨t', a', e1, e2, e3⟩ := I'.val k hk2 T h
    by_cases q3 : k < 3
    · refine ⟨t', a', ?_, gR e2, e3⟩
      unfold getR at e1 ⊢
      rw [if_pos q3] at e1 ⊢
      exact e1
    · by_cases qk : k = k'
      · subst qk
        rw [hk] at h; cases h
        refine ⟨0, C.length, ?_, .inl ?_, fun _ => by decide⟩
        · unfold getR; rw [if_neg q3]; exact self
        · have := Rep.var (C := C ++ [cel 0 C.length]) (F := F) (lc := upd lc m C.length) (D := m :: D) (B := B) (n := m) (.head _)
          rw [upd_self] at this
          exact this (by (first | lia | omega)) (by (first | lia | omega)) (by simp)
      · refine ⟨t', a', ?_, gR e2, e3⟩
        unfold getR at e1 ⊢
        rw [if_neg q3] at e1 ⊢
        rw [other k (by (first | lia | omega)) hk2 qk]
        exact e1
  · by_cases qk : k = k'
    · subst qk
      rw [hk] at h; cases h
      exact ⟨m, rfl, .inr ⟨.head _, by rw [upd_self]; exact self⟩⟩
    · obtain ⟨n, e, s | s⟩ := I'.sl k h1 h2 T h
      · refine ⟨n, e, .inl ⟨(hL n).mpr ⟨s.1, fun e2 => ?_⟩, by rw [other k h1 h2 qk]; exact s.2⟩⟩
        subst e2; subst e
        exact qk (I.su k k' n h1 h2 h3 h6 h hk)
      · exact ⟨n, e, .inr ⟨.tail _ s.1, by rw [other k h1 h2 qk, (hD n s.1).2]; exact s.2⟩⟩
omit [HasK] [HasF] in
theorem getR_x {K X : List V} {k j : Nat} {v : V} (hk : k < 3) (hX : X.length ≤ 4) (hj : j < 6) : (getR (rK K k v) (rX X k v) j = if j = k then some v else getR K X j) ∨ (j ≠ k ∧ getR K X j = none) := by
  unfold getR rK rX padX
  rw [if_pos hk, if_pos hk]
  by_cases q : j = k
  · subst q
    left
    rw [if_pos hk, if_pos rfl, List.getElem?_set_self (by simp; (first | lia | omega))]
  · rw [if_neg q]
    by_cases h3 : j < 3
    · rw [if_pos h3, if_pos h3, List.getElem?_set_ne (by (first | lia | omega))]
      by_cases hl : j + 1 < X.length
      · left; rw [List.getElem?_append_left hl]
      · right; exact ⟨q, by simp; (first | lia | omega)⟩
    · rw [if_neg h3, if_neg h3]; left; trivial
omit [HasK] [HasF] in
theorem Core.put (I : Core F C K X H r L cnt B lc D) {k : Nat} {T : Tm} {t a : Int} {r' : Nat → Bool} (hk : k < 3) (hv : Val C F lc D B H T t a) (hr : r' k = false → t ≠ 1) (hr' : ∀ j, j ≠ k → r' j = false → r j = false) :
    Core F C (rK K k (cel t a)) (rX X k (cel t a)) (updH H k (some T)) r' L cnt B lc D := by
  have hH : ∀ j, 3 ≤ j → updH H k (some T) j = H j := fun j hj => updH_ne (by (first | lia | omega))
  have gV : ∀ {T' : Tm} {q s : Int}, Val C F lc D B H T' q s → Val C F lc D B (updH H k (some T)) T' q s := fun h => h.imp id fun ⟨e, j, m, g1, g2, g3, g4, g5⟩ => ⟨e, j, m, g1, g2, g3, g4, by rw [hH j g1]; exact g5⟩
  have eK : rK K k (cel t a) = K := if_pos hk
  refine { I with kl := by rw [eK]; exact I.kl, xl := rX_len I.xl, val := fun j hj T' h => ?_, sl := fun j h1 h2 T' h => ?_, su := fun j j' m h1 h2 h3 h4 e1 e2 => I.su j j' m h1 h2 h3 h4 (by rw [hH j h1] at e1; exact e1) (by rw [hH j' h3] at e2; exact e2) }
  · have gx := getR_x (K := K) (X := X) (v := cel t a) hk I.xl hj
    by_cases q : j = k
    · subst q
      rw [updH_self] at h; cases h
      rcases gx with gx | gx
      · rw [if_pos rfl] at gx
        exact ⟨t, a, gx, gV hv, hr⟩
      · exact absurd rfl gx.1
    · rw [updH_ne q] at h
      obtain ⟨t', a', e1, e2, e3⟩ := I.val j hj T' h
      rcases gx with gx | gx
      · rw [if_neg q] at gx
        exact ⟨t', a', gx.trans e1, gV e2, fun z => e3 (hr' j q z)⟩
      · rw [e1] at gx; exact absurd gx.2 (by simp)
  · rw [hH j h1] at h
    rw [eK]
    exact I.sl j h1 h2 T' h
omit [HasK] [HasF] in
theorem Core.slotD (I : Core F C K X H r L cnt B lc D) {k : Nat} {m : Int} {r' : Nat → Bool} (h3 : 3 ≤ k) (h6 : k < 6) (hk : H k = none) (hm : m ∈ D) (hf : ∀ j, 3 ≤ j → j < 6 → H j ≠ some (.v m)) (hr' : ∀ j, j ≠ k → r' j = false → r j = false) (hc : C.length ≤ 1000) :
    Core F C (rK K k (cel 0 (lc m))) (rX X k (cel 0 (lc m))) (updH H k (some (.v m))) r' L cnt B lc D := by
  obtain ⟨d1, d2, d3, d4⟩ := I.dom m hm
  have kl := I.kl
  have eX : rX X k (cel 0 (lc m)) = X := if_neg (by (first | lia | omega))
  have eK : rK K k (cel 0 (lc m)) = K.set (k - 1) (cel 0 (lc m)) := if_neg (by (first | lia | omega))
  rw [eX, eK]
  have gV : ∀ {T' : Tm} {q s : Int}, Val C F lc D B H T' q s → Val C F lc D B (updH H k (some (.v m))) T' q s := fun h => h.imp id fun ⟨e, j, n, g1, g2, g3, g4, g5⟩ => ⟨e, j, n, g1, g2, g3, g4, by rw [updH_ne (fun e => by subst e; rw [hk] at g5; cases g5)]; exact g5⟩
  have self : (K.set (k - 1) (cel 0 (lc m)))[k - 1]? = some (cel 0 (lc m)) := by rw [List.getElem?_set_self (by (first | lia | omega))]
  have other : ∀ j, 3 ≤ j → j ≠ k → (K.set (k - 1) (cel 0 (lc m)))[j - 1]? = K[j - 1]? := fun j h1 q => by rw [List.getElem?_set_ne (by (first | lia | omega))]
  refine { I with kl := by rw [List.length_set]; exact kl, val := fun j hj T' h => ?_, sl := fun j h1 h2 T' h => ?_, su := fun j j' n h1 h2 h3' h4 e1 e2 => ?_ }
  · by_cases q : j = k
    · subst q
      rw [updH_self] at h; cases h
      refine ⟨0, lc m, ?_, .inl (.var hm d2 (by (first | lia | omega)) d4), fun _ => by decide⟩
      unfold getR; rw [if_neg (by (first | lia | omega))]; exact self
    · rw [updH_ne q] at h
      obtain ⟨t', a', e1, e2, e3⟩ := I.val j hj T' h
      refine ⟨t', a', ?_, gV e2, fun z => e3 (hr' j q z)⟩
      unfold getR at e1 ⊢
      by_cases q3 : j < 3
      · rw [if_pos q3] at e1 ⊢; exact e1
      · rw [if_neg q3] at e1 ⊢; rw [other j (by (first | lia | omega)) q]; exact e1
  · by_cases q : j = k
    · subst q
      rw [updH_self] at h; cases h
      exact ⟨m, rfl, .inr ⟨hm, self⟩⟩
    · rw [updH_ne q] at h
      rw [other j h1 q]
      exact I.sl j h1 h2 T' h
  · by_cases q : j = k <;> by_cases q' : j' = k
    · rw [q, q']
    · rw [q, updH_self] at e1; cases e1
      rw [updH_ne q'] at e2
      exact absurd e2 (hf j' h3' h4)
    · rw [q', updH_self] at e2; cases e2
      rw [updH_ne q] at e1
      exact absurd e1 (hf j h1 h2)
    · rw [updH_ne q] at e1; rw [updH_ne q'] at e2
      exact I.su j j' n h1 h2 h3' h4 e1 e2
omit [HasK] [HasF] in
theorem Core.slotL (I : Core F C K X H r L cnt B lc D) {k : Nat} {m : Int} {r' : Nat → Bool} (h3 : 3 ≤ k) (h6 : k < 6) (hk : H k = none) (hm : m ∉ D) (hL : m ∉ L) {cnt' : Int} (hc : cnt ≤ cnt') (hmc : m ≤ cnt') (hf : ∀ j, 3 ≤ j → j < 6 → H j ≠ some (.v m)) (hr' : ∀ j, j ≠ k → r' j = false → r j = false) (hrk : r' k = true) :
    Core F C (rK K k (cel 1 (k - 1 : Nat))) (rX X k (cel 1 (k - 1 : Nat))) (updH H k (some (.v m))) r' (L ++ [m]) cnt' B lc D := by
  have kl := I.kl
  have eX : rX X k (cel 1 (k - 1 : Nat)) = X := if_neg (by (first | lia | omega))
  have eK : rK K k (cel 1 (k - 1 : Nat)) = K.set (k - 1) (cel 1 (k - 1 : Nat)) := if_neg (by (first | lia | omega))
  rw [eX, eK]
  have gV : ∀ {T' : Tm} {q s : Int}, Val C F lc D B H T' q s → Val C F lc D B (updH H k (some (.v m))) T' q s := fun h => h.imp id fun ⟨e, j, n, g1, g2, g3, g4, g5⟩ => ⟨e, j, n, g1, g2, g3, g4, by rw [updH_ne (fun e => by subst e; rw [hk] at g5; cases g5)]; exact g5⟩
  have self : (K.set (k - 1) (cel 1 (k - 1 : Nat)))[k - 1]? = some (cel 1 (k - 1 : Nat)) := by rw [List.getElem?_set_self (by (first | lia | omega))]
  have other : ∀ j, 3 ≤ j → j ≠ k → (K.set (k - 1) (cel 1 (k - 1 : Nat)))[j - 1]? = K[j - 1]? := fun j h1 q => by rw [List.getElem?_set_ne (by (first | lia | omega))]
  refine { I with kl := by rw [List.length_set]; exact kl, dom := fun x hx => ?_, ld := fun x hx => ?_, ln := ?_, val := fun j hj T' h => ?_, sl := fun j h1 h2 T' h => ?_, su := fun j j' n h1 h2 h3' h4 e1 e2 => ?_ }
  · obtain ⟨d1, d2⟩ := I.dom x hx
    exact ⟨by (first | lia | omega), d2⟩
  · rcases List.mem_append.mp hx with hx | hx
    · obtain ⟨d1, d2⟩ := I.ld x hx
      exact ⟨d1, by (first | lia | omega)⟩
    · rw [List.mem_singleton.mp hx]; exact ⟨hm, hmc⟩
  · rw [List.nodup_append]
    refine ⟨I.ln, by simp, fun x hx y hy e => ?_⟩
    rw [List.mem_singleton.mp hy] at e
    exact hL (e ▸ hx)
  · by_cases q : j = k
    · subst q
      rw [updH_self] at h; cases h
      refine ⟨1, (j - 1 : Nat), ?_, .inr ⟨rfl, j, m, h3, h6, rfl, rfl, updH_self⟩, fun z => by rw [hrk] at z; cases z⟩
      unfold getR; rw [if_neg (by (first | lia | omega))]; exact self
    · rw [updH_ne q] at h
      obtain ⟨t', a', e1, e2, e3⟩ := I.val j hj T' h
      refine ⟨t', a', ?_, gV e2, fun z => e3 (hr' j q z)⟩
      unfold getR at e1 ⊢
      by_cases q3 : j < 3
      · rw [if_pos q3] at e1 ⊢; exact e1
      · rw [if_neg q3] at e1 ⊢; rw [other j (by (first | lia | omega)) q]; exact e1
  · by_cases q : j = k
    · subst q
      rw [updH_self] at h; cases h
      exact ⟨m, rfl, .inl ⟨by simp, self⟩⟩
    · rw [updH_ne q] at h
      rw [other j h1 q]
      obtain ⟨n, e, s | s⟩ := I.sl j h1 h2 T' h
      · exact ⟨n, e, .inl ⟨List.mem_append_left _ s.1, s.2⟩⟩
      · exact ⟨n, e, .inr s⟩
  · by_cases q : j = k <;> by_cases q' : j' = k
    · rw [q, q']
    · rw [q, updH_self] at e1; cases e1
      rw [updH_ne q'] at e2
      exact absurd e2 (hf j' h3' h4)
    · rw [q', updH_self] at e2; cases e2
      rw [updH_ne q] at e1
      exact absurd e1 (hf j h1 h2)
    · rw [updH_ne q] at e1; rw [updH_ne q'] at e2
      exact I.su j j' n h1 h2 h3' h4 e1 e2
omit [HasK] [HasF] in
theorem Core.forget (I : Core F C K X H r L cnt B lc D) {k : Nat} (hk : k < 3) : Core F C K X (updH H k none) r L cnt B lc D := by
  have hH : ∀ j, 3 ≤ j → updH H k none j = H j := fun j hj => updH_ne (by (first | lia | omega))
  have gV : ∀ {T' : Tm} {q s : Int}, Val C F lc D B H T' q s → Val C F lc D B (updH H k none) T' q s := fun h => h.imp id fun ⟨e, j, m, g1, g2, g3, g4, g5⟩ => ⟨e, j, m, g1, g2, g3, g4, by rw [hH j g1]; exact g5⟩
  refine { I with val := fun j hj T' h => ?_, sl := fun j h1 h2 T' h => I.sl j h1 h2 T' (by rw [hH j h1] at h; exact h), su := fun j j' m h1 h2 h3 h4 e1 e2 => I.su j j' m h1 h2 h3 h4 (by rw [hH j h1] at e1; exact e1) (by rw [hH j' h3] at e2; exact e2) }
  by_cases q : j = k
  · rw [q, updH_self] at h; cases h
  · rw [updH_ne q] at h
    obtain ⟨t', a', e1, e2, e3⟩ := I.val j hj T' h
    exact ⟨t', a', e1, gV e2, e3⟩
omit [HasK] [HasF] in
/-- a register that is not looked at may hold anything -/
theorem Core.junk (I : Core F C K X H r L cnt B lc D) {k : Nat} {v : V} (hk : k < 3) (h : H k = none) : Core F C (rK K k v) (rX X k v) H r L cnt B lc D := by
  have eK : rK K k v = K := if_pos hk
  refine { I with kl := by rw [eK]; exact I.kl, xl := rX_len I.xl, val := fun j hj T' h' => ?_, sl := fun j h1 h2 T' h' => by rw [eK]; exact I.sl j h1 h2 T' h' }
  have gx := getR_x (K := K) (X := X) (v := v) hk I.xl hj
  by_cases q : j = k
  · rw [q, h] at h'; cases h'
  · obtain ⟨t', a', e1, e2, e3⟩ := I.val j hj T' h'
    rcases gx with gx | gx
    · rw [if_neg q] at gx
      exact ⟨t', a', gx.trans e1, e2, e3⟩
    · rw [e1] at gx; exact absurd gx.2 (by simp)
omit [HasK] [HasF] in
theorem Core.ease (I : Core F C K X H r L cnt B lc D) {cnt' B' : Int} {r' : Nat → Bool} (hc : cnt ≤ cnt') (hB : B ≤ B') (hr : ∀ j, r' j = false → r j = false) : Core F C K X H r' L cnt' B' lc D := by
  refine { I with dom := fun m hm => ⟨by have := (I.dom m hm).1; (first | lia | omega), (I.dom m hm).2⟩, ld := fun m hm => ⟨(I.ld m hm).1, by have := (I.ld m hm).2; (first | lia | omega)⟩, val := fun j hj T' h => ?_ }
  obtain ⟨t', a', e1, e2, e3⟩ := I.val j hj T' h
  exact ⟨t', a', e1, e2.imp (fun R => R.up hB) id, fun z => e3 (hr j z)⟩
omit [HasK] [HasF] in
theorem Core.growF (I : Core F C K X H r L cnt B lc D) {F' : List (Int × Int)} (hF : ∀ (i : Nat) (v : Int × Int), F[i]? = some v → F'[i]? = some v) : Core F' C K X H r L cnt B lc D := by
  refine { I with val := fun j hj T' h => ?_ }
  obtain ⟨t', a', e1, e2, e3⟩ := I.val j hj T' h
  exact ⟨t', a', e1, e2.imp (fun R => R.growF hF) id, e3⟩
omit [HasK] [HasF] in
/-- what a register holds may be told -/
theorem Core.know (I : Core F C K X H r L cnt B lc D) {k : Nat} {T : Tm} {t a : Int} {r' : Nat → Bool} (hk : k < 3) (hx : X[k + 1]? = some (cel t a)) (hv : Val C F lc D B H T t a) (hr : r' k = false → t ≠ 1) (hr' : ∀ j, j ≠ k → r' j = false → r j = false) :
    Core F C K X (updH H k (some T)) r' L cnt B lc D := by
  have hH : ∀ j, 3 ≤ j → updH H k (some T) j = H j := fun j hj => updH_ne (by (first | lia | omega))
  have gV : ∀ {T' : Tm} {q s : Int}, Val C F lc D B H T' q s → Val C F lc D B (updH H k (some T)) T' q s := fun h => h.imp id fun ⟨e, j, m, g1, g2, g3, g4, g5⟩ => ⟨e, j, m, g1, g2, g3, g4, by rw [hH j g1]; exact g5⟩
  refine { I with val := fun j hj T' h => ?_, sl := fun j h1 h2 T' h => I.sl j h1 h2 T' (by rw [hH j h1] at h; exact h), su := fun j j' m h1 h2 h3 h4 e1 e2 => I.su j j' m h1 h2 h3 h4 (by rw [hH j h1] at e1; exact e1) (by rw [hH j' h3] at e2; exact e2) }
  by_cases q : j = k
  · subst q
    rw [updH_self] at h; cases h
    exact ⟨t, a, by unfold getR; rw [if_pos hk]; exact hx, gV hv, hr⟩
  · rw [updH_ne q] at h
    obtain ⟨t', a', e1, e2, e3⟩ := I.val j hj T' h
    exact ⟨t', a', e1, gV e2, fun z => e3 (hr' j q z)⟩
end

end

section
variable [HasK] [HasF]
noncomputable def chain : Nat → Stmt → List Stmt
  | 0, s => ifE s
  | n + 1, s => chain n (at_ (ifE s) 0)
noncomputable def loopB : List Stmt := forB (at_ lawB 11)
noncomputable def bodyS : List Stmt := chain 5 (at_ loopB 7)
noncomputable def argB : List Stmt := forB (at_ bodyS 3)
noncomputable abbrev spotsV : List V := [.tup [.str "x", .int 1], .tup [.str "x", .int 2], .tup [.str "x", .int 3], .tup [.str "y", .int 1], .tup [.str "y", .int 2], .tup [.str "y", .int 3]]
omit [HasK] [HasF] in
theorem spots_at : ∀ {k : Nat}, k < 6 → spotsV[k]? = some (opd k)
  | 0, _ => rfl
  | 1, _ => rfl
  | 2, _ => rfl
  | 3, _ => rfl
  | 4, _ => rfl
  | 5, _ => rfl
/-- the law's heap -/
noncomputable abbrev HL (sc : List Int) (u : Int) (p : Nat) (b : Bk) (C K X : List V) (hl : List (Int × V)) (rk ls : List V) (G : List O) : List O :=
  HM (.list (sc.map .int)) (.list (urnL u p)) b (.list [.tup [.str "call", .int 24, .int 3]]) C K X (.list [] :: .dI [] :: .list spotsV :: .dI hl :: .list [.bool false] :: .list rk :: .list ls :: G)
theorem pickE {d : Nat} {sc : List Int} {u : Int} {p : Nat} (n : Nat) (hn : 0 < n) (hs : sc.length ≤ 100) (hp : p ≤ sc.length) : ∃ (u' : Int) (p' r : Nat), p' ≤ sc.length ∧ r < n ∧ ∀ {rest : List O},
    Snd (d + 1) (.call (.ref 671) [.ref 1, .int n] (.list (sc.map .int) :: .list (urnL u p) :: rest)) (.v (.int (r : Nat)) (.list (sc.map .int) :: .list (urnL u' p') :: rest)) := by
  have hn' : (n : Int) ≠ 0 := by (first | lia | omega)
  have hp' : (pickU sc u p).2 ≤ sc.length := by
    unfold pickU
    cases e : sc[p]? with
    | none => exact hp
    | some i =>
      have := (List.getElem?_eq_some_iff.mp e).1
      dsimp only
      split
      · exact this
      · exact hp
  have h0 : 0 ≤ (pickU sc u p).1.fmod n := Int.fmod_nonneg_of_pos _ (by (first | lia | omega))
  have h1 : (pickU sc u p).1.fmod n < n := Int.fmod_lt_of_pos _ (by (first | lia | omega))
  refine ⟨(pickU sc u p).1.fdiv n, (pickU sc u p).2, ((pickU sc u p).1.fmod n).toNat, hp', by (first | lia | omega), fun {rest} => ?_⟩
  have := sp_pick (d := d) (u := u) (rest := rest) hn' hs hp
  rw [show (((pickU sc u p).1.fmod n).toNat : Int) = (pickU sc u p).1.fmod n by (first | lia | omega)]
  exact this
noncomputable abbrev gLaw : List (Str × V) := [("_law_pick", .obj (.ref 671)), ("range", .obj (.type "range")), ("len", .obj (.builtin "len")), ("put_variable", .obj (.ref 425)), ("put_value", .obj (.ref 439)), ("put_unsafe_value", .obj (.ref 446)), ("put_constant", .obj (.ref 453)), ("put_void", .obj (.ref 432)), ("put_list", .obj (.ref 460)), ("put_structure", .obj (.ref 467)),
  ("set_local_value", .obj (.ref 488)), ("set_value", .obj (.ref 481)), ("set_constant", .obj (.ref 495)), ("set_variable", .obj (.ref 474)), ("set_void", .obj (.ref 502)), ("CON", .int 4), ("A_NIL", .int 0), ("SRF", .int 1), ("REF", .int 0), ("F_DOT", .int 0), ("tuple", .obj (.type "tuple")), ("F_CALL1", .int 24), ("Symbols", .obj (.ref 154)), ("Areas", .obj (.ref 660)), ("read", .obj (.ref 397)), ("_law_counted", .obj (.ref 676))]
theorem g_f671 : GOk "_law_pick" (.obj (.ref 671)) := HasF.gr _ _ (by decide)
theorem g_f425 : GOk "put_variable" (.obj (.ref 425)) := HasF.gr _ _ (by decide)
theorem g_f439 : GOk "put_value" (.obj (.ref 439)) := HasF.gr _ _ (by decide)
theorem g_f446 : GOk "put_unsafe_value" (.obj (.ref 446)) := HasF.gr _ _ (by decide)
theorem g_f453 : GOk "put_constant" (.obj (.ref 453)) := HasF.gr _ _ (by decide)
theorem g_f432 : GOk "put_void" (.obj (.ref 432)) := HasF.gr _ _ (by decide)
theorem g_f460 : GOk "put_list" (.obj (.ref 460)) := HasF.gr _ _ (by decide)
theorem g_f467 : GOk "put_structure" (.obj (.ref 467)) := HasF.gr _ _ (by decide)
theorem g_f488 : GOk "set_local_value" (.obj (.ref 488)) := HasF.gr _ _ (by decide)
theorem g_f481 : GOk "set_value" (.obj (.ref 481)) := HasF.gr _ _ (by decide)
theorem g_f495 : GOk "set_constant" (.obj (.ref 495)) := HasF.gr _ _ (by decide)
theorem g_f474 : GOk "set_variable" (.obj (.ref 474)) := HasF.gr _ _ (by decide)
theorem g_f502 : GOk "set_void" (.obj (.ref 502)) := HasF.gr _ _ (by decide)
theorem g_f154 : GOk "Symbols" (.obj (.ref 154)) := HasF.gr _ _ (by decide)
theorem g_f660 : GOk "Areas" (.obj (.ref 660)) := HasF.gr _ _ (by decide)
theorem gLaw_ok : ∀ p ∈ gLaw, GOk p.1 p.2 :=
  gl_cons g_f671 (gl_cons g_range (gl_cons g_len (gl_cons g_f425 (gl_cons g_f439 (gl_cons g_f446 (gl_cons g_f453 (gl_cons g_f432 (gl_cons g_f460 (gl_cons g_f467
  (gl_cons g_f488 (gl_cons g_f481 (gl_cons g_f495 (gl_cons g_f474 (gl_cons g_f502 (gl_cons g_CON (gl_cons g_A_NIL (gl_cons g_SRF (gl_cons g_REF (gl_cons g_F_DOT (gl_cons g_tuple (gl_cons g_F_CALL1 (gl_cons g_f154 (gl_cons g_f660 (gl_cons g_read (gl_cons g_counted gl_nil)))))))))))))))))))))))))
omit [HasK] [HasF] in
theorem gLaw_sc : (gLaw.all fun p => lawS.names.lookup p.1 == some .globalImplicit) = true := rfl
noncomputable abbrev FM (len cnt : Int) : List (Str × V) := ("length", .int len) :: ("count", .int cnt) :: ("urn", .ref 1) :: ("book", .ref 2) :: ("m", .ref 8) :: ("spots", .ref 16) :: ("held", .ref 17) :: ("risky", .ref 19) :: ("loose", .ref 20) :: gLaw
/-- what the law's own lists say, but for one place -/
structure Rel (g M h : Nat) (hl : List (Int × V)) (rk ls : List V) (H : Nat → Option Tm) (r : Nat → Bool) (L : List Int) : Prop where
  hl : ∀ k : Nat, k < 6 → k ≠ g → hl.lookup (k : Int) = (H k).map tv
  rl : rk.length = 6
  rk : ∀ k, k < 6 → rk[k]? = some (.bool (r k))
  ls : ls = L.map fun m => tv (.v m)
  bd : ∀ k T, H k = some T → szT T ≤ M ∧ ht T ≤ h
omit [HasK] [HasF] in
theorem strOk_s : PyData.strOk "s" = true := by decide +kernel
omit [HasK] [HasF] in
theorem strOk_v : PyData.strOk "v" = true := by decide +kernel
omit [HasK] [HasF] in
theorem strOk_a : PyData.strOk "a" = true := by decide +kernel
omit [HasK] [HasF] in
theorem pv_ht : ∀ (T : Tm) (n : Nat), 2 * ht T + 1 ≤ n → pv n (tv T) = true
  | .v _, n + 1, _ => by simp [tv, pv, strOk_v]
  | .a, n + 1, _ => by simp [tv, pv, strOk_a]
  | .s1 f t, n, h => by
    obtain ⟨k, rfl⟩ : ∃ k, n = k + 2 := ⟨n - 2, by simp only [ht] at h; (first | lia | omega)⟩
    have := pv_ht t k (by simp only [ht] at h; (first | lia | omega))
    simp [tv, pv, this, strOk_s]
  | .s2 f t u, n, h => by
    obtain ⟨k, rfl⟩ : ∃ k, n = k + 2 := ⟨n - 2, by simp only [ht] at h; (first | lia | omega)⟩
    have h1 := pv_ht t k (by simp only [ht] at h; (first | lia | omega))
    have h2 := pv_ht u k (by simp only [ht] at h; (first | lia | omega))
    simp [tv, pv, h1, h2, strOk_s]

end

section
variable [HasK] [HasF]
/-- what grows keeps its terms -/
noncomputable def Gr (F : List (Int × Int)) (C : List V) (lc : Int → Int) (D : List Int) (C' : List V) (lc' : Int → Int) (D' : List Int) : Prop := (∀ (i : Nat) (v : V), C[i]? = some v → C'[i]? = some v) ∧ ∀ m ∈ D, m ∈ D' ∧ lc' m = lc m
omit [HasK] [HasF] in
theorem Gr.rep {F : List (Int × Int)} {C C' : List V} {lc lc' : Int → Int} {D D' : List Int} (g : Gr F C lc D C' lc' D') {B t a : Int} {T : Tm} (h : Rep C F lc D B T t a) : Rep C' F lc' D' B T t a := h.grow g.1 g.2
noncomputable abbrev HH (o0 o1 o7 : O) (b : Bk) (C K X : List V) (rest : List O) : List O := HM o0 o1 b o7 C K X rest
omit [HasK] [HasF] in
theorem first_at {α : Type} [DecidableEq α] {n : α} : ∀ {L : List α}, n ∈ L → ∃ i : Nat, L[i]? = some n ∧ ∀ x, x < i → L[x]? ≠ some n
  | x :: L, h => by
    by_cases q : x = n
    · exact ⟨0, by simp [q], fun y hy => absurd hy (Nat.not_lt_zero _)⟩
    · obtain ⟨i, h1, h2⟩ := first_at ((List.mem_cons.mp h).resolve_left fun e => q e.symm)
      refine ⟨i + 1, by simpa using h1, fun y hy => ?_⟩
      cases y with
      | zero => simpa using q
      | succ y => simpa using h2 y (by (first | lia | omega))
omit [HasK] [HasF] in
theorem erase_mem {L : List Int} {m : Int} {i : Nat} (hn : L.Nodup) (h : L[i]? = some m) : (∀ n, n ∈ L.eraseIdx i ↔ n ∈ L ∧ n ≠ m) ∧ (L.eraseIdx i).Nodup := by
  induction L generalizing i with
  | nil => simp at h
  | cons x L ih =>
    rw [List.nodup_cons] at hn
    cases i with
    | zero =>
      simp at h; subst h
      refine ⟨fun n => ?_, hn.2⟩
      show n ∈ L ↔ _
      rw [List.mem_cons]
      exact ⟨fun hm => ⟨.inr hm, fun e => hn.1 (e ▸ hm)⟩, fun ⟨h1, h2⟩ => h1.resolve_left h2⟩
    | succ i =>
      have h' : L[i]? = some m := by simpa using h
      obtain ⟨i1, i2⟩ := ih hn.2 h'
      have hm : m ∈ L := List.mem_of_getElem? h'
      rw [List.eraseIdx_cons_succ]
      refine ⟨fun n => ?_, List.nodup_cons.mpr ⟨fun e => hn.1 ((i1 x).mp e).1, i2⟩⟩
      rw [List.mem_cons, List.mem_cons, i1 n]
      constructor
      · rintro (rfl | ⟨h1, h2⟩)
        · exact ⟨.inl rfl, fun e => hn.1 (e ▸ hm)⟩
        · exact ⟨.inr h1, h2⟩
      · rintro ⟨rfl | h1, h2⟩
        · exact .inl rfl
        · exact .inr ⟨h1, h2⟩
section
variable {d : Nat} {b : Bk} {C K X : List V} {H : Nat → Option Tm} {r : Nat → Bool} {L : List Int} {cnt B : Int} {lc : Int → Int} {D : List Int} {s : V}
omit [HasK] [HasF] in
theorem rX_other {X : List V} {k j : Nat} {v c : V} (hj : j < 3) (q : j ≠ k) (h : X[j + 1]? = some c) : (rX X k v)[j + 1]? = some c := by
  unfold rX padX
  by_cases hk : k < 3
  · rw [if_pos hk, List.getElem?_set_ne (by (first | lia | omega)), List.getElem?_append_left (List.getElem?_eq_some_iff.mp h).1]; exact h
  · rw [if_neg hk]; exact h
/-- an argument set as a local value -/
theorem do_setloc (I : Core b.F C K X H r L cnt B lc D) (hc : C.length ≤ 900) {k : Nat} {T : Tm} (hk : k < 6) (h : H k = some T) : ∃ (K' X' : List V) (t a : Int) (L' : List Int) (lc' : Int → Int) (D' : List Int),
    (∀ {o0 o1 o7 : O} {rest : List O}, Snd (d + 5) (.call (.ref 488) [.ref 8, .tup [s, opd k]] (HH o0 o1 o7 b C K X rest)) (.v (.bool true) (HH o0 o1 o7 b (C ++ [cel t a]) K' X' rest))) ∧
    Core b.F (C ++ [cel t a]) K' X' H (fun j => if j = k ∧ k < 3 then false else r j) L' cnt B lc' D' ∧ Rep (C ++ [cel t a]) b.F lc' D' B T t a ∧ Gr b.F C lc D (C ++ [cel t a]) lc' D' ∧
    ((∃ m i, T = .v m ∧ m ∈ L ∧ L[i]? = some m ∧ (∀ x, x < i → L[x]? ≠ some m) ∧ L' = L.eraseIdx i) ∨ ((∀ m, T = .v m → m ∉ L) ∧ L' = L)) ∧ (∀ j c, j < 3 → j ≠ k → X[j + 1]? = some c → X'[j + 1]? = some c) := by
  have kl := I.kl
  have xl := I.xl
  have rr : ∀ j, (fun j => if j = k ∧ k < 3 then false else r j) j = false → (j = k ∧ k < 3) ∨ r j = false := fun j e => by
    by_cases q : j = k ∧ k < 3
    · exact .inl q
    · right; simpa [q] using e
  have hH : updH H k (some T) = H := by
    funext j
    by_cases q : j = k
    · subst q; rw [updH_self, h]
    · rw [updH_ne q]
  rcases I.look (by (first | lia | omega)) hk h with ⟨m, k', t, a, rfl, hm, h3, h6, hk', hKk, hR, hd⟩ | ⟨t, a, q, s', hR, hd, hq, R, hn⟩
  · obtain ⟨i, i1, i2⟩ := first_at hm
    obtain ⟨e1, e2⟩ := erase_mem I.ln i1
    have I2 := I.bind (by (first | lia | omega)) hm h3 h6 hk' e1 e2
    have hmD : m ∉ D := (I.ld m hm).1
    have R2 : Rep (C ++ [cel 0 C.length]) b.F (upd lc m C.length) (m :: D) B (.v m) 0 C.length := by
      have := Rep.var (C := C ++ [cel 0 C.length]) (F := b.F) (lc := upd lc m C.length) (D := m :: D) (B := B) (n := m) (.head _)
      rw [upd_self] at this
      exact this (by (first | lia | omega)) (by (first | lia | omega)) (by simp)
    refine ⟨K.set (k' - 1) (cel 0 C.length), rX X k (cel 0 C.length), 0, C.length, L.eraseIdx i, upd lc m C.length, m :: D, ?_, ?_, R2, ⟨fun i v e => app_get e, fun n hn => ⟨.tail _ hn, upd_ne fun e => hmD (e ▸ hn)⟩⟩, .inl ⟨m, i, rfl, hm, i1, i2, rfl⟩, fun j c hj q e => rX_other hj q e⟩
    · intro o0 o1 o7 rest
      have := sp_setlocS (d := d) (o0 := o0) (o1 := o1) (T := bT b) (At := bA b) (F := bF b) (Fn := bN b) (o7 := o7) (rest := rest) (s := s) hk hR hd (by (first | lia | omega)) (by (first | lia | omega)) kl (by (first | lia | omega)) (by (first | lia | omega))
      simpa using this
    · by_cases q3 : k < 3
      · have I3 := I2.put (k := k) (T := .v m) (t := 0) (a := C.length) (r' := fun j => if j = k ∧ k < 3 then false else r j) q3 (.inl R2) (fun _ => by decide) (fun j hj e => by
          rcases rr j e with z | z
          · exact absurd z.1 hj
          · exact z)
        rw [hH, show rK (K.set (k' - 1) (cel 0 C.length)) k (cel 0 C.length) = K.set (k' - 1) (cel 0 C.length) from if_pos q3] at I3
        exact I3
      · rw [show rX X k (cel 0 C.length) = X from if_neg q3]
        exact I2.ease (Int.le_refl _) (Int.le_refl _) fun j e => (rr j e).resolve_left fun z => q3 z.2
  · have I2 := I.app (t := q) (a := s') hq fun e => by
      subst e
      cases R with
      | var g1 g2 g3 g4 =>
        obtain ⟨d1, d2, d3, d4⟩ := I.dom _ g1
        exact ⟨d2, by (first | lia | omega)⟩
    have R2 : Rep (C ++ [cel q s']) b.F lc D B T q s' := R.grow (fun i v e => app_get e) fun m hm => ⟨hm, rfl⟩
    refine ⟨K, rX X k (cel q s'), q, s', L, lc, D, ?_, ?_, R2, ⟨fun i v e => app_get e, fun n hn => ⟨hn, rfl⟩⟩, .inr ⟨hn, rfl⟩, fun j c hj q e => rX_other hj q e⟩
    · intro o0 o1 o7 rest
      exact sp_setlocV hk hR hd hq (by (first | lia | omega)) (by (first | lia | omega))
    · by_cases q3 : k < 3
      · have I3 := I2.put (k := k) (T := T) (t := q) (a := s') (r' := fun j => if j = k ∧ k < 3 then false else r j) q3 (.inl R2) (fun _ => hq) (fun j hj e => by
          rcases rr j e with z | z
          · exact absurd z.1 hj
          · exact z)
        rw [hH, show rK K k (cel q s') = K from if_pos q3] at I3
        exact I3
      · rw [show rX X k (cel q s') = X from if_neg q3]
        exact I2.ease (Int.le_refl _) (Int.le_refl _) fun j e => (rr j e).resolve_left fun z => q3 z.2
theorem do_setval (I : Core b.F C K X H r L cnt B lc D) (hc : C.length ≤ 900) {k : Nat} {T : Tm} (hk : k < 6) (h : H k = some T) (hr : r k = false) : ∃ (t a : Int),
    (∀ {o0 o1 o7 : O} {rest : List O}, Snd (d + 4) (.call (.ref 481) [.ref 8, .tup [s, opd k]] (HH o0 o1 o7 b C K X rest)) (.v (.bool true) (HH o0 o1 o7 b (C ++ [cel t a]) K X rest))) ∧
    Core b.F (C ++ [cel t a]) K X H r L cnt B lc D ∧ Rep (C ++ [cel t a]) b.F lc D B T t a ∧ Gr b.F C lc D (C ++ [cel t a]) lc D := by
  obtain ⟨t, a, e1, e2, e3⟩ := I.val k hk T h
  have R : Rep C b.F lc D B T t a := e2.resolve_right fun z => e3 hr z.1
  refine ⟨t, a, fun {o0 o1 o7 rest} => sp_setval hk e1 (by (first | lia | omega)), ?_, R.grow (fun i v e => app_get e) fun m hm => ⟨hm, rfl⟩, ⟨fun i v e => app_get e, fun n hn => ⟨hn, rfl⟩⟩⟩
  refine I.app (e3 hr) fun e => ?_
  subst e
  cases R with
  | var g1 g2 g3 g4 =>
    obtain ⟨d1, d2, d3, d4⟩ := I.dom _ g1
    exact ⟨d2, by (first | lia | omega)⟩
/-- a new variable as an argument -/
theorem do_newvar (I : Core b.F C K X H r L cnt B lc D) (hc : C.length ≤ 900) {m : Int} (hm : m = cnt + 1) :
    Core b.F (C ++ [cel 0 C.length]) K X H r L m B (upd lc m C.length) (m :: D) ∧ Rep (C ++ [cel 0 C.length]) b.F (upd lc m C.length) (m :: D) B (.v m) 0 C.length ∧ Gr b.F C lc D (C ++ [cel 0 C.length]) (upd lc m C.length) (m :: D) ∧ (∀ k, H k ≠ some (.v m) ∨ 6 ≤ k) := by
  have mD : m ∉ D := fun e => by have := (I.dom m e).1; (first | lia | omega)
  have mL : m ∉ L := fun e => by have := (I.ld m e).2; (first | lia | omega)
  refine ⟨I.var mD mL (by (first | lia | omega)) (Int.le_refl _), ?_, ⟨fun i v e => app_get e, fun n hn => ⟨.tail _ hn, upd_ne fun e => mD (e ▸ hn)⟩⟩, fun k => ?_⟩
  · have := Rep.var (C := C ++ [cel 0 C.length]) (F := b.F) (lc := upd lc m C.length) (D := m :: D) (B := B) (n := m) (.head _)
    rw [upd_self] at this
    exact this (by (first | lia | omega)) (by (first | lia | omega)) (by simp)
  · by_cases q : 6 ≤ k
    · exact .inr q
    · refine .inl fun e => ?_
      obtain ⟨t, a, _, v, _⟩ := I.val k (by (first | lia | omega)) _ e
      rcases v with R | ⟨_, k', n, g1, g2, _, g4, g5⟩
      · cases R with | var g => exact mD g
      · cases g4
        obtain ⟨n', e', s1 | s1⟩ := I.sl k' g1 g2 _ g5
        · cases e'; exact mL s1.1
        · cases e'; exact mD s1.1
theorem do_setvar (I : Core b.F C K X H r L cnt B lc D) (hc : C.length ≤ 900) {m : Int} (hm : m = cnt + 1) {k : Nat} (hk : k < 6) (hf : k < 3 ∨ H k = none) : ∃ (K' X' : List V),
    (∀ {o0 o1 o7 : O} {rest : List O}, Snd (d + 4) (.call (.ref 474) [.ref 8, .tup [s, opd k]] (HH o0 o1 o7 b C K X rest)) (.v (.bool true) (HH o0 o1 o7 b (C ++ [cel 0 C.length]) K' X' rest))) ∧
    Core b.F (C ++ [cel 0 C.length]) K' X' (updH H k (some (.v m))) (fun j => if j = k then false else r j) L m B (upd lc m C.length) (m :: D) ∧ Rep (C ++ [cel 0 C.length]) b.F (upd lc m C.length) (m :: D) B (.v m) 0 C.length ∧ Gr b.F C lc D (C ++ [cel 0 C.length]) (upd lc m C.length) (m :: D) ∧ (∀ j c, j < 3 → j ≠ k → X[j + 1]? = some c → X'[j + 1]? = some c) := by
  obtain ⟨I2, R, g, fr⟩ := do_newvar I hc hm
  have rr : ∀ j, j ≠ k → (fun j => if j = k then false else r j) j = false → r j = false := fun j hj e => by simpa [hj] using e
  refine ⟨rK K k (cel 0 C.length), rX X k (cel 0 C.length), fun {o0 o1 o7 rest} => sp_setvar hk I.kl (by have := I.xl; (first | lia | omega)) (by (first | lia | omega)), ?_, R, g, fun j c hj q e => rX_other hj q e⟩
  by_cases q3 : k < 3
  · exact I2.put q3 (.inl R) (fun _ => by decide) rr
  · have := I2.slotD (k := k) (m := m) (r' := fun j => if j = k then false else r j) (by (first | lia | omega)) hk (hf.resolve_left q3) (.head _) (fun j _ hj => (fr j).resolve_right (by (first | lia | omega))) rr (by simp; (first | lia | omega))
    rw [upd_self] at this
    exact this
end

end

section
variable [HasK] [HasF]
section
variable {d : Nat} {fr : Str → Option V} {hp : List O}
omit [HasF] in
theorem snd_tand2 {e1 e2 : Expr} {p : Pos} {b1 b2 : Bool} (h1 : Snd d (.t e1 fr hp) (.b b1 hp)) (h2 : Snd d (.t e2 fr hp) (.b b2 hp)) : Snd d (.t (.BoolOp .And [e1, e2] p) fr hp) (.b (b1 && b2) hp) := by
  cases b1 with
  | false => exact snd_tandF h1
  | true =>
    refine snd_tandT h1 ?_
    cases b2 with
    | false => exact snd_tandF h2
    | true => exact snd_tandT h2 snd_tand0
omit [HasF] in
theorem snd_tor2 {e1 e2 : Expr} {p : Pos} {b1 b2 : Bool} (h1 : Snd d (.t e1 fr hp) (.b b1 hp)) (h2 : Snd d (.t e2 fr hp) (.b b2 hp)) : Snd d (.t (.BoolOp .Or [e1, e2] p) fr hp) (.b (b1 || b2) hp) := by
  cases b1 with
  | true => exact snd_torT h1
  | false =>
    refine snd_torF h1 ?_
    cases b2 with
    | true => exact snd_torT h2
    | false => exact snd_torF h2 snd_tor0
end
omit [HasK] [HasF] in
theorem filt_at {p : Int → Bool} {xs : List Int} (hx : ∀ k ∈ xs, ∃ n : Nat, k = n ∧ n < 6) {i : Nat} (h : i < (xs.filter p).length) : ∃ k : Nat, ((xs.filter p).map V.int)[i]? = some (.int k) ∧ k < 6 ∧ p k = true ∧ (k : Int) ∈ xs := by
  have hm := List.getElem_mem h
  obtain ⟨h1, h2⟩ := List.mem_filter.mp hm
  obtain ⟨n, e, hn⟩ := hx _ h1
  refine ⟨n, ?_, hn, e ▸ h2, e ▸ h1⟩
  rw [List.getElem?_map, List.getElem?_eq_getElem h, ← e]; rfl
omit [HasK] [HasF] in
theorem six : ∀ k ∈ ([0, 1, 2, 3, 4, 5] : List Int), ∃ n : Nat, k = n ∧ n < 6 := by
  intro k hk
  simp only [List.mem_cons, List.not_mem_nil, or_false] at hk
  rcases hk with rfl | rfl | rfl | rfl | rfl | rfl
  · exact ⟨0, rfl, by decide⟩
  · exact ⟨1, rfl, by decide⟩
  · exact ⟨2, rfl, by decide⟩
  · exact ⟨3, rfl, by decide⟩
  · exact ⟨4, rfl, by decide⟩
  · exact ⟨5, rfl, by decide⟩
noncomputable abbrev FA (g f pj : Nat) (len cnt : Int) : List (Str × V) := ("goal", .int g) :: ("f", .int f) :: ("parts", .ref (pj + 21)) :: FM len cnt
omit [HasF] in
theorem sx_one {d : Nat} {sc : Scope} {st : Stmt} {fr : Str → Option V} {hp : List O} {Q : Fl → (Str → Option V) → List O → Prop} (h : S1 d sc st fr hp Q) : SX d sc [st] fr hp Q := by
  obtain ⟨fl, fr', hp', a, k⟩ := h
  cases fl with
  | nx => exact ⟨_, _, _, snd_seq a snd_end, k⟩
  | ct => exact ⟨_, _, _, snd_stop a (fun e => nomatch e), k⟩
  | rt v => exact ⟨_, _, _, snd_stop a (fun e => nomatch e), k⟩
/-- what holds between the arguments of a structure -/
noncomputable def ArgQ (sc : List Int) (b : Bk) (g f pj : Nat) (C0 : List V) (B : Int) (M h n0 nl : Nat) (cg : V) (len : Int) (j : Nat) (l : List (Str × V)) (hp : List O) : Prop :=
  ∃ (u : Int) (p : Nat) (C K X : List V) (hl : List (Int × V)) (rk ls : List V) (G : List O) (H : Nat → Option Tm) (r : Nat → Bool) (L : List Int) (cnt : Int) (lc : Int → Int) (D : List Int) (ts : List Tm),
    l = FA g f pj len cnt ∧ hp = HL sc u p b C K X hl rk ls G ∧ p ≤ sc.length ∧ G[pj]? = some (.list (ts.map tv)) ∧ ts.length = j ∧
    Core b.F C K X H r L cnt B lc D ∧ Rel g M h hl rk ls H r L ∧ H g = none ∧ C.length = C0.length + j ∧ (∀ (i : Nat) (v : V), C0[i]? = some v → C[i]? = some v) ∧
    (∀ i T, ts[i]? = some T → ∃ t a, C[C0.length + i]? = some (cel t a) ∧ Rep C b.F lc D B T t a) ∧ hl.length ≤ n0 + j ∧ L.length ≤ nl ∧ X[g + 1]? = some cg ∧ ∀ T ∈ ts, szT T ≤ M ∧ ht T ≤ h
omit [HasK] [HasF] in
theorem ArgQ.mk {sc : List Int} {b : Bk} {g f pj : Nat} {C0 : List V} {B : Int} {M h n0 nl : Nat} {cg : V} {len : Int} {j : Nat} (u : Int) (p : Nat) (C K X : List V) (hl : List (Int × V)) (rk ls : List V) (G : List O) (H : Nat → Option Tm) (r : Nat → Bool) (L : List Int) (cnt : Int) (lc : Int → Int) (D : List Int) (ts : List Tm) (a1 : p ≤ sc.length) (a2 : G[pj]? = some (.list (ts.map tv))) (a3 : ts.length = j) (a4 : Core b.F C K X H r L cnt B lc D) (a5 : Rel g M h hl rk ls H r L) (a6 : H g = none) (a7 : C.length = C0.length + j) (a8 : (∀ (i : Nat) (v : V), C0[i]? = some v → C[i]? = some v)) (a9 : (∀ i T, ts[i]? = some T → ∃ t a, C[C0.length + i]? = some (cel t a) ∧ Rep C b.F lc D B T t a)) (a10 : hl.length ≤ n0 + j) (a11 : L.length ≤ nl) (a12 : X[g + 1]? = some cg) (a13 : (∀ T ∈ ts, szT T ≤ M ∧ ht T ≤ h)) : ArgQ sc b g f pj C0 B M h n0 nl cg len j (FA g f pj len cnt) (HL sc u p b C K X hl rk ls G) := ⟨u, p, C, K, X, hl, rk, ls, G, H, r, L, cnt, lc, D, ts, rfl, rfl, a1, a2, a3, a4, a5, a6, a7, a8, a9, a10, a11, a12, a13⟩
omit [HasK] [HasF] in
@[elab_as_elim] theorem ArgQ.elim {sc : List Int} {b : Bk} {g f pj : Nat} {C0 : List V} {B : Int} {M h n0 nl : Nat} {cg : V} {len : Int} {j : Nat} {l : List (Str × V)} {hp : List O} {motive : List (Str × V) → List O → Prop} (q : ArgQ sc b g f pj C0 B M h n0 nl cg len j l hp)
  (k : ∀ (u : Int) (p : Nat) (C K X : List V) (hl : List (Int × V)) (rk ls : List V) (G : List O) (H : Nat → Option Tm) (r : Nat → Bool) (L : List Int) (cnt : Int) (lc : Int → Int) (D : List Int) (ts : List Tm),
    p ≤ sc.length → G[pj]? = some (.list (ts.map tv)) → ts.length = j →
    Core b.F C K X H r L cnt B lc D → Rel g M h hl rk ls H r L → H g = none → C.length = C0.length + j → (∀ (i : Nat) (v : V), C0[i]? = some v → C[i]? = some v) →
    (∀ i T, ts[i]? = some T → ∃ t a, C[C0.length + i]? = some (cel t a) ∧ Rep C b.F lc D B T t a) → hl.length ≤ n0 + j → L.length ≤ nl → X[g + 1]? = some cg → (∀ T ∈ ts, szT T ≤ M ∧ ht T ≤ h) →
    motive (FA g f pj len cnt) (HL sc u p b C K X hl rk ls G)) : motive l hp := by
  obtain ⟨u, p, C, K, X, hl, rk, ls, G, H, r, L, cnt, lc, D, ts, rfl, rfl, a1, a2, a3, a4, a5, a6, a7, a8, a9, a10, a11, a12, a13⟩ := q
  exact k u p C K X hl rk ls G H r L cnt lc D ts a1 a2 a3 a4 a5 a6 a7 a8 a9 a10 a11 a12 a13
omit [HasK] [HasF] in
theorem hl_app {sc : List Int} {u : Int} {p : Nat} {b : Bk} {C K X : List V} {hl : List (Int × V)} {rk ls : List V} {G : List O} {x y : O} {j : Nat} (h : G[j]? = some x) : (HL sc u p b C K X hl rk ls (G ++ [y]))[j + 21]? = some x := by
  show (G ++ [y])[j]? = _
  rw [List.getElem?_append_left (List.getElem?_eq_some_iff.mp h).1]; exact h
omit [HasK] [HasF] in
theorem hl_last {sc : List Int} {u : Int} {p : Nat} {b : Bk} {C K X : List V} {hl : List (Int × V)} {rk ls : List V} {G : List O} {x : O} : (HL sc u p b C K X hl rk ls (G ++ [x]))[G.length + 21]? = some x := by
  show (G ++ [x])[G.length]? = _
  simp
section
variable {d : Nat} {sc0 : Scope} {fr : Str → Option V} {hp : List O} {Q : Fl → (Str → Option V) → List O → Prop}
omit [HasF] in
theorem snd_tor1 {e : Expr} {p : Pos} {b : Bool} {hp' : List O} (h : Snd d (.t e fr hp) (.b b hp')) : Snd d (.t (.BoolOp .Or [e] p) fr hp) (.b b hp') := by
  cases b with
  | true => exact snd_torT h
  | false => exact snd_torF h snd_tor0
omit [HasF] in
theorem s1_ifE {t : Expr} {b₁ b₂ : List Stmt} {p : Pos} (P : Bool → List O → Prop) (h : ∃ b hp₁, P b hp₁ ∧ Snd d (.t t fr hp) (.b b hp₁)) (h1 : ∀ hp₁, P true hp₁ → SX d sc0 b₁ fr hp₁ Q) (h2 : ∀ hp₁, P false hp₁ → SX d sc0 b₂ fr hp₁ Q) : S1 d sc0 (.If t b₁ b₂ p) fr hp Q := by
  obtain ⟨b, hp₁, hP, k⟩ := h
  exact s1_if k (fun e => by subst e; exact h1 _ hP) (fun e => by subst e; exact h2 _ hP)
end
omit [HasK] [HasF] in
theorem argQ_mk {sc : List Int} {b : Bk} {g f pj : Nat} {C0 : List V} {B : Int} {M h n0 nl : Nat} {cg : V} {len : Int} {j u p : _} {C K X : List V} {hl : List (Int × V)} {rk ls : List V} {G : List O} {H : Nat → Option Tm} {r : Nat → Bool} {L : List Int} {cnt : Int} {lc : Int → Int} {D : List Int} {ts : List Tm} {t a : Int} {T : Tm} {lc0 : Int → Int} {D0 : List Int}
    (hp : p ≤ sc.length) (hG : G[pj]? = some (.list ((ts ++ [T]).map tv))) (htl : ts.length = j) (I : Core b.F (C ++ [cel t a]) K X H r L cnt B lc D) (R : Rel g M h hl rk ls H r L) (hg : H g = none) (hC : C.length = C0.length + j) (hpre : ∀ (i : Nat) (v : V), C0[i]? = some v → C[i]? = some v)
    (hts : ∀ i T, ts[i]? = some T → ∃ t a, C[C0.length + i]? = some (cel t a) ∧ Rep C b.F lc0 D0 B T t a) (gr : Gr b.F C lc0 D0 (C ++ [cel t a]) lc D) (RT : Rep (C ++ [cel t a]) b.F lc D B T t a) (hhl : hl.length ≤ n0 + (j + 1)) (hL : L.length ≤ nl) (hX : X[g + 1]? = some cg) (hbd : ∀ T ∈ ts, szT T ≤ M ∧ ht T ≤ h) (hT : szT T ≤ M ∧ ht T ≤ h) :
    ArgQ sc b g f pj C0 B M h n0 nl cg len (j + 1) (FA g f pj len cnt) (HL sc u p b (C ++ [cel t a]) K X hl rk ls G) := by
  refine ⟨u, p, C ++ [cel t a], K, X, hl, rk, ls, G, H, r, L, cnt, lc, D, ts ++ [T], rfl, rfl, hp, hG, by simp [htl], I, R, hg, by simp; (first | lia | omega), fun i v e => app_get (hpre i v e), fun i T' e => ?_, hhl, hL, hX, fun T' hT' => ?_⟩
  · by_cases q : i < ts.length
    · rw [List.getElem?_append_left q] at e
      obtain ⟨t', a', e1, e2⟩ := hts i T' e
      exact ⟨t', a', app_get e1, gr.rep e2⟩
    · have hi : i = ts.length := by
        have := (List.getElem?_eq_some_iff.mp e).1
        simp at this; (first | lia | omega)
      subst hi
      rw [List.getElem?_append_right (Nat.le_refl _)] at e
      simp at e; subst e
      exact ⟨t, a, by rw [htl, ← hC]; simp, RT⟩
  · rcases List.mem_append.mp hT' with z | z
    · exact hbd T' z
    · rw [List.mem_singleton.mp z]; exact hT
omit [HasK] [HasF] in
theorem rk_set {rk : List V} {r : Nat → Bool} {k : Nat} (rl : rk.length = 6) (h : ∀ j, j < 6 → rk[j]? = some (.bool (r j))) (v : Bool) (hk : k < 6) : (rk.set k (.bool v)).length = 6 ∧ ∀ j, j < 6 → (rk.set k (.bool v))[j]? = some (.bool (if j = k then v else r j)) := by
  refine ⟨by rw [List.length_set]; exact rl, fun j hj => ?_⟩
  by_cases q : j = k
  · subst q
    rw [List.getElem?_set_self (by (first | lia | omega)), if_pos rfl]
  · rw [List.getElem?_set_ne (fun e => q e.symm), if_neg q]; exact h j hj
omit [HasK] [HasF] in
theorem in_loose {L : List Int} {T : Tm} : tv T ∈ L.map (fun m => tv (.v m)) ↔ ∃ m ∈ L, T = .v m := by
  rw [List.mem_map]
  constructor
  · rintro ⟨m, hm, e⟩
    refine ⟨m, hm, ?_⟩
    cases T with
    | v n => simp [tv] at e; rw [e]
    | a => simp [tv] at e; exact absurd e.1 (by decide)
    | s1 f t => simp [tv] at e
    | s2 f t u => simp [tv] at e
  · rintro ⟨m, hm, rfl⟩
    exact ⟨m, hm, rfl⟩
omit [HasK] [HasF] in
theorem eraseIdx_map {L : List Int} {f : Int → V} : ∀ {i : Nat}, (L.map f).eraseIdx i = (L.eraseIdx i).map f := by
  induction L with
  | nil => intro i; rfl
  | cons x L ih =>
    intro i
    cases i with
    | zero => rfl
    | succ i => simp [ih]
omit [HasK] [HasF] in
theorem set_get {G : List O} {i : Nat} {x y : O} (h : G[i]? = some x) : (G.set i y)[i]? = some y := by
  rw [List.getElem?_set_self (List.getElem?_eq_some_iff.mp h).1]
omit [HasK] [HasF] in
theorem app_getO {G : List O} {i : Nat} {x y : O} (h : G[i]? = some x) : (G ++ [y])[i]? = some x := by
  rw [List.getElem?_append_left (List.getElem?_eq_some_iff.mp h).1]; exact h
section
variable {d : Nat} {sc : List Int} {b : Bk} {g f pj : Nat} {C0 : List V} {B : Int} {M h n0 nl : Nat} {cg : V}
theorem arg_turn (hsc : sc.length ≤ 100) (hg3 : g < 3) (hM : 1 ≤ M) (hh : h ≤ 9) (hn0 : n0 ≤ 800) (hnl : nl ≤ 800) (hC0 : C0.length ≤ 800) {j : Nat} (hj : j < 10) {l : List (Str × V)} {hp : List O} (P : ArgQ sc b g f pj C0 B M h n0 nl cg ((C0.length + j : Nat) : Int) j l hp) :
    SX (d + 8) lawS argB (lk (("place", .int (0 + (j : Int) * 1)) :: l)) hp (Nx (ArgQ sc b g f pj C0 B M h n0 nl cg ((C0.length + (j + 1) : Nat) : Int) (j + 1))) := by
  refine ArgQ.elim P fun u p C K X hl rk ls G H r L cnt lc D ts hp hG htl I R hg hC hpre hts hhl hL hXg hbd => ?_
  obtain ⟨u1, p1, kd, hp1, hkd, Pk⟩ := pickE (d := d + 7) (u := u) 4 (by decide) hsc hp
  apply sx_seq (hp₁ := HL sc u1 p1 b C K X hl rk ls G)
  · apply snd_asg
    · apply snd_ecall
      rfl
      walk_at "m kept"
      walk_at "m es"
      exact Pk
    exact .inl rfl
    rfl
    exact fun _ => rfl
  apply sx_seq (hp₁ := HL sc u1 p1 b C K X hl rk ls (G ++ [.list ((([0, 1, 2, 3, 4, 5] : List Int).filter fun k => (hl.lookup k).isSome && k != (g : Int)).map .int)]))
  · apply snd_asgC (ct := some _) (gl := [("held", .ref 17), ("goal", .int g)])
    case hsrc =>
      apply src_range [6]
      rfl
      walk_at "m es"
      rfl
      exact .one _
      rfl
      rfl
    case K => exact ⟨rfl, by decide, by decide, by decide, rfl, rfl, rfl, mem2 (.inl ⟨rfl, rfl, rfl⟩) (.inl ⟨rfl, rfl, rfl⟩)⟩
    case hif => rfl
    case Cp =>
      refine cps_filter (fun k => (hl.lookup k).isSome && k != (g : Int)) [0, 1, 2, 3, 4, 5] [] (fun k _ acc => ?_) (by decide)
      apply snd_tand2
      · apply snd_tcmp
        walk_at "m e"
        walk_at "m e"
        exact .inD rfl
        rfl
      · apply snd_tcmp
        walk_at "m e"
        walk_at "m e"
        exact .neI _ _ _
        rfl
    case hs => exact fun _ _ => rfl
    case hy => rfl
    case hyd => rfl
    case hw => rfl
  apply sx_seq
  · apply snd_augname
    rfl
    walk_at "m e"
    exact .add _ _
    rfl
    rfl
  apply sx_weak (fr₁ := lk (("kind", .int kd) :: ("others", .ref (G.length + 21)) :: FA g f pj ((C0.length + j : Nat) : Int) (cnt + 1)))
  case q => walk_at "m wk"
  generalize ho : (([0, 1, 2, 3, 4, 5] : List Int).filter fun k => (hl.lookup k).isSome && k != (g : Int)) = oth
  have hol : oth.length ≤ 6 := by rw [← ho]; exact List.length_filter_le _ _
  refine sx_cons (s1_mono (Q := Nx (ArgQ sc b g f pj C0 B M h n0 nl cg ((C0.length + j : Nat) : Int) (j + 1))) ?goA ?goB)
  case goB =>
    intro fl fr1 hp1 P'
    refine Nx.elim P' fun l' wk P' => ⟨rfl, ?_⟩
    apply sx_weak (q := wk)
    refine ArgQ.elim P' fun u' p' C' K' X' hl' rk' ls' G' H' r' L' cnt' lc' D' ts' q1 q2 q3 q4 q5 q6 q7 q8 q9 q10 q11 q12 q13 => ?_
    apply sx_seq
    · apply snd_augname
      rfl
      walk_at "m e"
      exact .add _ _
      rfl
      rfl
    apply sx_nil
    refine Nx.mk (l := FA g f pj ((C0.length + (j + 1) : Nat) : Int) cnt') ?_ (ArgQ.mk u' p' C' K' X' hl' rk' ls' G' H' r' L' cnt' lc' D' ts' q1 q2 q3 q4 q5 q6 q7 q8 q9 q10 q11 q12 q13)
    rw [show ((C0.length + (j + 1) : Nat) : Int) = ((C0.length + j : Nat) : Int) + 1 by (first | lia | omega)]
    walk_at "m wk"
  case goA =>
    apply s1_if (b := ((kd : Int) == 0) && decide (0 < ((oth.map V.int).length : Int)))
    · apply snd_tand2
      · apply snd_tcmp
        walk_at "m e"
        walk_at "m e"
        exact .eqI _ _ _
        rfl
      · apply snd_tcmp
        · apply snd_ecall
          rfl
          walk_at "m kept"
          walk_at "m es"
          exact sndb_lenL hl_last (by rw [List.length_map]; (first | lia | omega))
        walk_at "m e"
        exact .gtI _ _ _
        rfl
    · intro hb
      rw [Bool.and_eq_true, List.length_map] at hb
      have hne : 0 < oth.length := by have := of_decide_eq_true hb.2; (first | lia | omega)
      obtain ⟨u2, p2, i, hp2, hi, Pi⟩ := pickE (d := d + 7) (u := u1) oth.length hne hsc hp1
      obtain ⟨k, hk1, hk6, hkp, _⟩ := filt_at (p := fun k => (hl.lookup k).isSome && k != (g : Int)) six (i := i) (by rw [ho]; exact hi)
      rw [ho] at hk1
      rw [Bool.and_eq_true] at hkp
      have hkg : k ≠ g := fun e => by have := hkp.2; subst e; simp at this
      have hkl := R.hl k hk6 hkg
      obtain ⟨T, hT, hTl⟩ : ∃ T, H k = some T ∧ hl.lookup (k : Int) = some (tv T) := by
        cases e : H k with
        | none => rw [e] at hkl; have := hkp.1; rw [hkl] at this; simp at this
        | some T => exact ⟨T, rfl, by rw [hkl, e]; rfl⟩
      apply sx_seq (hp₁ := HL sc u2 p2 b C K X hl rk ls (G ++ [.list (oth.map .int)]))
      · apply snd_asg
        · apply snd_sub
          walk_at "m e"
          · apply snd_ecall
            rfl
            walk_at "m kept"
            · apply snd_cons
              rfl
              walk_at "m e"
              apply snd_cons
              rfl
              · apply snd_ecall
                rfl
                walk_at "m kept"
                walk_at "m es"
                exact sndb_lenL hl_last (by rw [List.length_map]; (first | lia | omega))
              apply snd_nil
            rw [List.length_map]
            exact Pi
          · exact .lst hl_last (by (first | lia | omega)) (by (first | lia | omega)) (by rw [Int.toNat_natCast]; exact hk1)
          rfl
        exact .inl rfl
        rfl
        exact fun _ => rfl
      apply sx_weak (fr₁ := lk (("k", .int k) :: FA g f pj ((C0.length + j : Nat) : Int) (cnt + 1)))
      case q => walk_at "m wk"
      apply sx_seq (hp₁ := HL sc u2 p2 b C K X hl rk ls ((G ++ [O.list (oth.map .int)]).set pj (.list (ts.map tv ++ [tv T]))))
      · apply snd_as
        apply snd_expr
        apply snd_mcall
        walk_at "m e"
        exact Meth.lst (hl_app hG) PySem.F.slot_list_append PySem.F.type_list_append
        · (apply snd_cons; rfl; apply snd_sub; walk_at "m e"; walk_at "m e"; exact .dI rfl hTl; rfl; apply snd_nil)
        exact sndb_append (hl_app hG) (by rw [List.length_map]; (first | lia | omega))
        exact fun _ => ⟨_, rfl⟩
        exact fun _ => rfl
        rfl
      have hG2 : ((G ++ [O.list (oth.map .int)]).set pj (.list (ts.map tv ++ [tv T])))[pj]? = some (.list ((ts ++ [T]).map tv)) := by
        rw [set_get (app_getO hG)]; simp
      generalize (G ++ [O.list (oth.map .int)]).set pj (.list (ts.map tv ++ [tv T])) = G2 at hG2
      have hTb := R.bd k T hT
      refine sx_one ?goC
      case goC =>
        apply s1_ifE (fun bb hp₁ => (bb = false → r k = false) ∧ ∃ (u : Int) (p : Nat), p ≤ sc.length ∧ hp₁ = HL sc u p b C K X hl rk ls G2)
        · cases hrk : r k with
          | true =>
            refine ⟨true, _, ⟨(fun z => nomatch z), u2, p2, hp2, rfl⟩, ?_⟩
            apply snd_torT
            apply snd_tpl
            apply snd_sub
            walk_at "m e"
            walk_at "m e"
            exact .lst rfl (by (first | lia | omega)) (by (first | lia | omega)) (by rw [Int.toNat_natCast, ← hrk]; exact R.rk k hk6)
            rfl
            rfl
          | false =>
            obtain ⟨u3, p3, i3, hp3, _, P3⟩ := pickE (d := d + 7) (u := u2) 2 (by decide) hsc hp2
            refine ⟨(i3 : Int) == 1, HL sc u3 p3 b C K X hl rk ls G2, ⟨fun _ => rfl, u3, p3, hp3, rfl⟩, ?_⟩
            apply snd_torF
            · apply snd_tpl
              apply snd_sub
              walk_at "m e"
              walk_at "m e"
              exact .lst rfl (by (first | lia | omega)) (by (first | lia | omega)) (by rw [Int.toNat_natCast, ← hrk]; exact R.rk k hk6)
              rfl
              rfl
            apply snd_tor1
            apply snd_tcmp
            · apply snd_ecall
              rfl
              walk_at "m kept"
              walk_at "m es"
              exact P3
            apply snd_cint
            exact .eqI _ _ _
            rfl
        · rintro _ ⟨_, u3, p3, hp3, rfl⟩
          obtain ⟨K', X', t, a, L', lc', D', call, I2, RT, gr, cs, hX2⟩ := do_setloc (d := d + 3) (s := .str "set_local_value") I (by (first | lia | omega)) hk6 hT
          apply sx_seq (hp₁ := HL sc u3 p3 b (C ++ [cel t a]) K' X' hl rk ls G2)
          · apply snd_expr
            apply snd_ecall
            rfl
            walk_at "m kept"
            · apply snd_cons
              rfl
              walk_at "m e"
              apply snd_cons
              rfl
              · apply snd_tup
                apply snd_cons
                rfl
                walk_at "m e"
                apply snd_cons
                rfl
                · apply snd_sub
                  walk_at "m e"
                  walk_at "m e"
                  exact .lst rfl (by (first | lia | omega)) (by (first | lia | omega)) (by rw [Int.toNat_natCast]; exact spots_at hk6)
                  rfl
                apply snd_nil
                exact Nat.le_of_ble_eq_true rfl
              apply snd_nil
            exact call
            exact fun _ => rfl
          have hL' : L'.length ≤ nl := by
            rcases cs with ⟨m, i, _, _, _, _, rfl⟩ | ⟨_, rfl⟩
            · have : (L.eraseIdx i).length ≤ L.length := List.length_eraseIdx_le _ _
              (first | lia | omega)
            · exact hL
          refine sx_cons (s1_mono (Q := fun fl fr₁ hp₁ => fl = .nx ∧ fr₁ = lk (("k", .int k) :: FA g f pj ((C0.length + j : Nat) : Int) (cnt + 1)) ∧ hp₁ = HL sc u3 p3 b (C ++ [cel t a]) K' X' hl rk (L'.map fun m => tv (.v m)) G2) ?goE ?goF)
          case goE =>
            have hpl : ∀ v ∈ ls, pv 20 v = true := fun v hv => by
              rw [R.ls] at hv
              obtain ⟨m, _, rfl⟩ := List.mem_map.mp hv
              exact pv_ht _ _ (by show 2 * 0 + 1 ≤ 20; (first | lia | omega))
            have hpT : pv 20 (tv T) = true := pv_ht _ _ (by (first | lia | omega))
            rcases cs with ⟨m, i, rfl, hm, i1, i2, rfl⟩ | ⟨hno, rfl⟩
            · apply s1_ifT (b := true)
              · apply snd_tcmp
                · apply snd_sub
                  walk_at "m e"
                  walk_at "m e"
                  exact .dI rfl hTl
                  rfl
                walk_at "m e"
                exact .inL rfl hpl hpT (by rw [R.ls, in_loose]; simp; exact hm)
                rfl
              · rfl
              · apply sx_seq (hp₁ := HL sc u3 p3 b (C ++ [cel t a]) K' X' hl rk ((L.eraseIdx i).map fun m => tv (.v m)) G2)
                · apply snd_as
                  apply snd_expr
                  apply snd_mcall
                  walk_at "m e"
                  exact Meth.lst rfl PySem.F.slot_list_remove PySem.F.type_list_remove
                  · apply snd_cons
                    rfl
                    apply snd_sub
                    walk_at "m e"
                    walk_at "m e"
                    exact .dI rfl hTl
                    rfl
                    apply snd_nil
                  · refine sndb_remove (j := i) (l := ls) rfl (by rw [R.ls, List.length_map]; (first | lia | omega)) hpl hpT (by rw [R.ls, List.getElem?_map, i1]; rfl) (fun x hx e => ?_)
                    rw [R.ls, List.getElem?_map] at e
                    cases ex : L[x]? with
                    | none => rw [ex] at e; cases e
                    | some y =>
                      rw [ex] at e
                      have := Option.some.inj e
                      simp [tv] at this
                      subst this
                      exact i2 x hx ex
                  exact fun _ => ⟨_, rfl⟩
                  exact fun _ => rfl
                  · rw [R.ls, eraseIdx_map]; rfl
                apply sx_nil
                exact ⟨rfl, rfl, rfl⟩
            · apply s1_ifF (b := false)
              · apply snd_tcmp
                · apply snd_sub
                  walk_at "m e"
                  walk_at "m e"
                  exact .dI rfl hTl
                  rfl
                walk_at "m e"
                exact .inL rfl hpl hpT (by rw [R.ls, in_loose]; simp; exact fun m hm e => hno m e hm)
                rfl
              · rfl
              · apply sx_nil
                exact ⟨rfl, rfl, by rw [R.ls]⟩
          case goF =>
            rintro _ _ _ ⟨rfl, rfl, rfl⟩
            refine ⟨rfl, ?_⟩
            have Rn : ∀ rk', (rk'.length = 6 ∧ ∀ j, j < 6 → rk'[j]? = some (.bool (if j = k ∧ k < 3 then false else r j))) → ArgQ sc b g f pj C0 B M h n0 nl cg ((C0.length + j : Nat) : Int) (j + 1) (FA g f pj ((C0.length + j : Nat) : Int) (cnt + 1)) (HL sc u3 p3 b (C ++ [cel t a]) K' X' hl rk' (L'.map fun m => tv (.v m)) G2) := fun rk' hrk' =>
              argQ_mk hp3 hG2 htl (I2.ease (by (first | lia | omega)) (Int.le_refl _) fun _ z => z) ⟨R.hl, hrk'.1, hrk'.2, rfl, R.bd⟩ hg hC hpre hts gr RT (by (first | lia | omega)) hL' (hX2 g cg hg3 (fun e => hkg e.symm) hXg) hbd hTb
            refine sx_cons (s1_if (hp₁ := HL sc u3 p3 b (C ++ [cel t a]) K' X' hl rk (L'.map fun m => tv (.v m)) G2) (b := decide ((k : Int) < 3)) ?goG (fun hk3 => ?goH) (fun hk3 => ?goI))
            case goG =>
              apply snd_tcmp
              walk_at "m e"
              walk_at "m e"
              exact .ltI _ _ _
              rfl
            case goH =>
              have hk3 : k < 3 := by have := of_decide_eq_true hk3; (first | lia | omega)
              apply sx_seq (hp₁ := HL sc u3 p3 b (C ++ [cel t a]) K' X' hl (rk.set k (.bool false)) (L'.map fun m => tv (.v m)) G2)
              · apply snd_as
                apply snd_setitem
                walk_at "m e"
                walk_at "m e"
                walk_at "m e"
                exact .lst rfl (by (first | lia | omega)) (by rw [R.rl]; (first | lia | omega)) (by rw [R.rl]; (first | lia | omega))
                exact fun _ => rfl
                rw [Int.toNat_natCast]; rfl
              apply sx_nil
              refine ⟨rfl, sx_nil (Nx.mk ?_ (Rn _ ?_))⟩
              · walk_at "m wk"
              · obtain ⟨q1, q2⟩ := rk_set R.rl R.rk false hk6
                refine ⟨q1, fun x hx => ?_⟩
                rw [q2 x hx]
                by_cases e : x = k <;> simp [e, hk3]
            case goI =>
              have hk3 : ¬ k < 3 := by have := of_decide_eq_false hk3; (first | lia | omega)
              apply sx_nil
              refine ⟨rfl, sx_nil (Nx.mk ?_ (Rn _ ?_))⟩
              · walk_at "m wk"
              · refine ⟨R.rl, fun x hx => ?_⟩
                rw [R.rk x hx]
                simp [hk3]
        · rintro _ ⟨hrk, u3, p3, hp3, rfl⟩
          obtain ⟨t, a, call, I2, RT, gr⟩ := do_setval (d := d + 4) (s := .str "set_value") I (by (first | lia | omega)) hk6 hT (hrk rfl)
          apply sx_seq (hp₁ := HL sc u3 p3 b (C ++ [cel t a]) K X hl rk ls G2)
          · apply snd_expr
            apply snd_ecall
            rfl
            walk_at "m kept"
            · apply snd_cons
              rfl
              walk_at "m e"
              apply snd_cons
              rfl
              · apply snd_tup
                apply snd_cons
                rfl
                walk_at "m e"
                apply snd_cons
                rfl
                · apply snd_sub
                  walk_at "m e"
                  walk_at "m e"
                  exact .lst rfl (by (first | lia | omega)) (by (first | lia | omega)) (by rw [Int.toNat_natCast]; exact spots_at hk6)
                  rfl
                apply snd_nil
                exact Nat.le_of_ble_eq_true rfl
              apply snd_nil
            exact call
            exact fun _ => rfl
          apply sx_nil
          refine Nx.mk (l := FA g f pj ((C0.length + j : Nat) : Int) (cnt + 1)) ?_ (argQ_mk hp3 hG2 htl (I2.ease (by (first | lia | omega)) (Int.le_refl _) fun _ z => z) R hg hC hpre hts gr RT (by (first | lia | omega)) hL hXg hbd hTb)
          walk_at "m wk"
    · intro hb
      have hG1 : (G ++ [O.list (oth.map .int)])[pj]? = some (.list (ts.map tv)) := app_getO hG
      generalize (G ++ [O.list (oth.map .int)]) = G1 at hG1
      apply sx_weak (fr₁ := lk (("kind", .int kd) :: FA g f pj ((C0.length + j : Nat) : Int) (cnt + 1)))
      case q => walk_at "m wk"
      refine sx_one ?goC
      case goC =>
        have fin : ∀ {u : Int} {p : Nat} {K' X' : List V} {hl' : List (Int × V)} {rk' : List V} {H' : Nat → Option Tm} {r' : Nat → Bool} {lc' : Int → Int} {D' : List Int} {t a : Int} {T : Tm} {G' : List O}, p ≤ sc.length → G'[pj]? = some (.list (ts.map tv)) → Core b.F (C ++ [cel t a]) K' X' H' r' L (cnt + 1) B lc' D' → Rel g M h hl' rk' ls H' r' L → H' g = none →
            Gr b.F C lc D (C ++ [cel t a]) lc' D' → Rep (C ++ [cel t a]) b.F lc' D' B T t a → hl'.length ≤ n0 + (j + 1) → X'[g + 1]? = some cg → szT T ≤ M ∧ ht T ≤ h → ArgQ sc b g f pj C0 B M h n0 nl cg ((C0.length + j : Nat) : Int) (j + 1) (FA g f pj ((C0.length + j : Nat) : Int) (cnt + 1)) (HL sc u p b (C ++ [cel t a]) K' X' hl' rk' ls (G'.set pj (.list (ts.map tv ++ [tv T])))) := by
          intro u p K' X' hl' rk' H' r' lc' D' t a T G' q1 q2 q3 q4 q5 q6 q7 q8 qX q9
          exact argQ_mk q1 (by rw [set_get q2]; simp) htl q3 q4 q5 hC hpre hts q6 q7 q8 hL qX hbd q9
        refine s1_if (hp₁ := HL sc u1 p1 b C K X hl rk ls G1) (b := (kd : Int) == 1) ?e_t1 (fun h1 => ?e_b1) (fun h1 => ?e_b2)
        case e_t1 =>
          apply snd_tcmp
          walk_at "m e"
          walk_at "m e"
          exact .eqI _ _ _
          rfl
        case e_b1 =>
          have I2 := I.app (t := 4) (a := 0) (by decide) (fun e => by simp at e)
          apply sx_seq (hp₁ := HL sc u1 p1 b (C ++ [cel 4 0]) K X hl rk ls G1)
          · apply snd_expr
            apply snd_ecall
            rfl
            walk_at "m kept"
            walk_at "m es"
            exact sp_setcon (by (first | lia | omega))
            exact fun _ => rfl
          apply sx_seq (hp₁ := HL sc u1 p1 b (C ++ [cel 4 0]) K X hl rk ls (G1.set pj (.list (ts.map tv ++ [tv .a]))))
          · apply snd_as
            apply snd_expr
            apply snd_mcall
            walk_at "m e"
            exact Meth.lst (show (HL sc u1 p1 b (C ++ [cel 4 0]) K X hl rk ls G1)[pj + 21]? = _ from hG1) PySem.F.slot_list_append PySem.F.type_list_append
            · walk_at "m es"
            exact sndb_append (show (HL sc u1 p1 b (C ++ [cel 4 0]) K X hl rk ls G1)[pj + 21]? = _ from hG1) (by rw [List.length_map]; (first | lia | omega))
            exact fun _ => ⟨_, rfl⟩
            exact fun _ => rfl
            rfl
          apply sx_nil
          refine Nx.mk ?_ (fin hp1 hG1 (I2.ease (by (first | lia | omega)) (Int.le_refl _) fun _ z => z) R hg ⟨fun i v e => app_get e, fun n hn => ⟨hn, rfl⟩⟩ .con (by (first | lia | omega)) hXg ⟨hM, Nat.zero_le _⟩)
          walk_at "m wk"
        case e_b2 =>
          refine sx_one ?goE
          case goE =>
            refine s1_if (hp₁ := HL sc u1 p1 b C K X hl rk ls G1) (b := (kd : Int) == 2) ?e_t2 (fun h2 => ?e_b3) (fun h2 => ?e_b4)
            case e_t2 =>
              apply snd_tcmp
              walk_at "m e"
              walk_at "m e"
              exact .eqI _ _ _
              rfl
            case e_b3 =>
              apply sx_seq (hp₁ := HL sc u1 p1 b C K X hl rk ls (G1 ++ [.list ((([0, 1, 2, 3, 4, 5] : List Int).filter fun k => (k != (g : Int)) && (decide (k < 3) || !(hl.lookup k).isSome)).map .int)]))
              · apply snd_asgC (ct := some _) (gl := [("held", .ref 17), ("goal", .int g)])
                case hsrc =>
                  apply src_range [6]
                  rfl
                  walk_at "m es"
                  rfl
                  exact .one _
                  rfl
                  rfl
                case K => exact ⟨rfl, by decide, by decide, by decide, rfl, rfl, rfl, mem2 (.inl ⟨rfl, rfl, rfl⟩) (.inl ⟨rfl, rfl, rfl⟩)⟩
                case hif => rfl
                case Cp =>
                  refine cps_filter (fun k => (k != (g : Int)) && (decide (k < 3) || !(hl.lookup k).isSome)) [0, 1, 2, 3, 4, 5] [] (fun k _ acc => ?_) (by decide)
                  apply snd_tand2
                  · apply snd_tcmp
                    walk_at "m e"
                    walk_at "m e"
                    exact .neI _ _ _
                    rfl
                  · apply snd_tor2
                    · apply snd_tcmp
                      walk_at "m e"
                      walk_at "m e"
                      exact .ltI _ _ _
                      rfl
                    · apply snd_tcmp
                      walk_at "m e"
                      walk_at "m e"
                      exact .niD rfl
                      rfl
                case hs => exact fun _ _ => rfl
                case hy => rfl
                case hyd => rfl
                case hw => rfl
              have hfr : 0 < ((([0, 1, 2, 3, 4, 5] : List Int).filter fun k => (k != (g : Int)) && (decide (k < 3) || !(hl.lookup k).isSome))).length := by
                rw [List.length_pos_iff_exists_mem]
                by_cases q : g = 0
                · exact ⟨1, List.mem_filter.mpr ⟨by simp, by subst q; rfl⟩⟩
                · exact ⟨0, List.mem_filter.mpr ⟨by simp, by simp; (first | lia | omega)⟩⟩
              generalize hfe : (([0, 1, 2, 3, 4, 5] : List Int).filter fun k => (k != (g : Int)) && (decide (k < 3) || !(hl.lookup k).isSome)) = fre at hfr
              have hfl : fre.length ≤ 6 := by rw [← hfe]; exact List.length_filter_le _ _
              obtain ⟨u2, p2, i, hp2, hi, Pi⟩ := pickE (d := d + 7) (u := u1) fre.length hfr hsc hp1
              obtain ⟨k, hk1, hk6, hkp, _⟩ := filt_at (p := fun k => (k != (g : Int)) && (decide (k < 3) || !(hl.lookup k).isSome)) six (i := i) (by rw [hfe]; exact hi)
              rw [hfe] at hk1
              rw [Bool.and_eq_true, Bool.or_eq_true] at hkp
              have hkg : k ≠ g := fun e => by have := hkp.1; subst e; simp at this
              have hkf : k < 3 ∨ H k = none := by
                rcases hkp.2 with q | q
                · left; have := of_decide_eq_true q; (first | lia | omega)
                · right
                  rw [R.hl k hk6 hkg] at q
                  cases e : H k with
                  | none => rfl
                  | some T => rw [e] at q; simp at q
              have hG2 : (G1 ++ [O.list (fre.map .int)])[pj]? = some (.list (ts.map tv)) := app_getO hG1
              apply sx_seq (hp₁ := HL sc u2 p2 b C K X hl rk ls (G1 ++ [.list (fre.map .int)]))
              · apply snd_asg
                · apply snd_sub
                  walk_at "m e"
                  · apply snd_ecall
                    rfl
                    walk_at "m kept"
                    · apply snd_cons
                      rfl
                      walk_at "m e"
                      apply snd_cons
                      rfl
                      · apply snd_ecall
                        rfl
                        walk_at "m kept"
                        walk_at "m es"
                        exact sndb_lenL hl_last (by rw [List.length_map]; (first | lia | omega))
                      apply snd_nil
                    rw [List.length_map]
                    exact Pi
                  · exact .lst hl_last (by (first | lia | omega)) (by (first | lia | omega)) (by rw [Int.toNat_natCast]; exact hk1)
                  rfl
                exact .inl rfl
                rfl
                exact fun _ => rfl
              apply sx_weak (fr₁ := lk (("k", .int k) :: FA g f pj ((C0.length + j : Nat) : Int) (cnt + 1)))
              case q => walk_at "m wk"
              generalize (G1 ++ [O.list (fre.map .int)]) = G2 at hG2
              obtain ⟨K', X', call, I2, RT, gr, hX2⟩ := do_setvar (d := d + 4) (s := .str "set_variable") I (by (first | lia | omega)) (m := cnt + 1) rfl hk6 hkf
              apply sx_seq (hp₁ := HL sc u2 p2 b (C ++ [cel 0 C.length]) K' X' hl rk ls G2)
              · apply snd_expr
                apply snd_ecall
                rfl
                walk_at "m kept"
                · apply snd_cons
                  rfl
                  walk_at "m e"
                  apply snd_cons
                  rfl
                  · apply snd_tup
                    apply snd_cons
                    rfl
                    walk_at "m e"
                    apply snd_cons
                    rfl
                    · apply snd_sub
                      walk_at "m e"
                      walk_at "m e"
                      exact .lst rfl (by (first | lia | omega)) (by (first | lia | omega)) (by rw [Int.toNat_natCast]; exact spots_at hk6)
                      rfl
                    apply snd_nil
                    exact Nat.le_of_ble_eq_true rfl
                  apply snd_nil
                exact call
                exact fun _ => rfl
              apply sx_seq (hp₁ := HL sc u2 p2 b (C ++ [cel 0 C.length]) K' X' (setD hl k (tv (.v (cnt + 1)))) rk ls G2)
              · apply snd_as
                apply snd_setitem
                walk_at "m e"
                walk_at "m e"
                walk_at "m e"
                exact .dI rfl (by (first | lia | omega))
                exact fun _ => rfl
                rfl
              apply sx_seq (hp₁ := HL sc u2 p2 b (C ++ [cel 0 C.length]) K' X' (setD hl k (tv (.v (cnt + 1)))) (rk.set k (.bool false)) ls G2)
              · apply snd_as
                apply snd_setitem
                walk_at "m e"
                walk_at "m e"
                walk_at "m e"
                exact .lst rfl (by (first | lia | omega)) (by rw [R.rl]; (first | lia | omega)) (by rw [R.rl]; (first | lia | omega))
                exact fun _ => rfl
                rw [Int.toNat_natCast]; rfl
              apply sx_seq (hp₁ := HL sc u2 p2 b (C ++ [cel 0 C.length]) K' X' (setD hl k (tv (.v (cnt + 1)))) (rk.set k (.bool false)) ls (G2.set pj (.list (ts.map tv ++ [tv (.v (cnt + 1))]))))
              · apply snd_as
                apply snd_expr
                apply snd_mcall
                walk_at "m e"
                exact Meth.lst (show (HL sc u2 p2 b (C ++ [cel 0 C.length]) K' X' (setD hl k (tv (.v (cnt + 1)))) (rk.set k (.bool false)) ls G2)[pj + 21]? = _ from hG2) PySem.F.slot_list_append PySem.F.type_list_append
                · (apply snd_cons; rfl; apply snd_sub; walk_at "m e"; walk_at "m e"; exact .dI rfl (by rw [lookD, if_pos rfl]); rfl; apply snd_nil)
                exact sndb_append (show (HL sc u2 p2 b (C ++ [cel 0 C.length]) K' X' (setD hl k (tv (.v (cnt + 1)))) (rk.set k (.bool false)) ls G2)[pj + 21]? = _ from hG2) (by rw [List.length_map]; (first | lia | omega))
                exact fun _ => ⟨_, rfl⟩
                exact fun _ => rfl
                rfl
              apply sx_nil
              have sl : (setD hl (k : Int) (tv (.v (cnt + 1)))).length ≤ hl.length + 1 := setD_len
              obtain ⟨q1, q2⟩ := rk_set R.rl R.rk false hk6
              refine Nx.mk ?_ (fin hp2 hG2 I2 ⟨fun x hx hxg => ?_, q1, q2, R.ls, fun x T e => ?_⟩ (by rw [updH_ne (fun e => hkg e.symm)]; exact hg) gr RT (by (first | lia | omega)) (hX2 g cg hg3 (fun e => hkg e.symm) hXg) ⟨hM, Nat.zero_le _⟩)
              · walk_at "m wk"
              · rw [lookD]
                by_cases e : x = k
                · subst e; rw [if_pos rfl, updH_self]; rfl
                · rw [if_neg (by (first | lia | omega)), updH_ne e]; exact R.hl x hx hxg
              · by_cases q : x = k
                · subst q; rw [updH_self] at e; cases e; exact ⟨hM, Nat.zero_le _⟩
                · rw [updH_ne q] at e; exact R.bd x T e
            case e_b4 =>
              obtain ⟨I2, RT, gr, _⟩ := do_newvar I (by (first | lia | omega)) (m := cnt + 1) rfl
              apply sx_seq (hp₁ := HL sc u1 p1 b (C ++ [cel 0 C.length]) K X hl rk ls G1)
              · apply snd_expr
                apply snd_ecall
                rfl
                walk_at "m kept"
                walk_at "m es"
                exact sp_setvoid (by (first | lia | omega))
                exact fun _ => rfl
              apply sx_seq (hp₁ := HL sc u1 p1 b (C ++ [cel 0 C.length]) K X hl rk ls (G1.set pj (.list (ts.map tv ++ [tv (.v (cnt + 1))]))))
              · apply snd_as
                apply snd_expr
                apply snd_mcall
                walk_at "m e"
                exact Meth.lst (show (HL sc u1 p1 b (C ++ [cel 0 C.length]) K X hl rk ls G1)[pj + 21]? = _ from hG1) PySem.F.slot_list_append PySem.F.type_list_append
                · walk_at "m es"
                exact sndb_append (show (HL sc u1 p1 b (C ++ [cel 0 C.length]) K X hl rk ls G1)[pj + 21]? = _ from hG1) (by rw [List.length_map]; (first | lia | omega))
                exact fun _ => ⟨_, rfl⟩
                exact fun _ => rfl
                rfl
              apply sx_nil
              refine Nx.mk ?_ (fin hp1 hG1 I2 R hg gr RT (by (first | lia | omega)) hXg ⟨hM, Nat.zero_le _⟩)
              walk_at "m wk"
end

end

section
variable [HasK] [HasF]
noncomputable def Mb : Nat → Nat
  | 0 => 1
  | i + 1 => 2 * Mb i + 1
omit [HasK] [HasF] in
theorem Mb_pos : ∀ i, 1 ≤ Mb i
  | 0 => Nat.le_refl _
  | i + 1 => Nat.le_add_left _ _
omit [HasK] [HasF] in
theorem Mb_up (i : Nat) : Mb i ≤ Mb (i + 1) := by show Mb i ≤ 2 * Mb i + 1; (first | lia | omega)
/-- what holds between the deeds -/
noncomputable def TurnP (sc : List Int) (b0 b2 : Bk) (i : Nat) (l : List (Str × V)) (hp : List O) : Prop :=
  ∃ (u : Int) (p : Nat) (b : Bk) (C K X : List V) (hl : List (Int × V)) (rk ls : List V) (G : List O) (H : Nat → Option Tm) (r : Nat → Bool) (L : List Int) (cnt : Int) (lc : Int → Int) (D : List Int),
    l = FM (C.length : Int) cnt ∧ hp = HL sc u p b C K X hl rk ls G ∧ p ≤ sc.length ∧ (b = b0 ∨ b = b2) ∧ Core b.F C K X H r L cnt C.length lc D ∧ Rel 6 (Mb i) i hl rk ls H r L ∧ C.length ≤ 5 * i ∧ hl.length ≤ 5 * i ∧ L.length ≤ i
omit [HasK] [HasF] in
theorem TurnP.mk {sc : List Int} {b0 b2 : Bk} {i : Nat} (u : Int) (p : Nat) (b : Bk) (C K X : List V) (hl : List (Int × V)) (rk ls : List V) (G : List O) (H : Nat → Option Tm) (r : Nat → Bool) (L : List Int) (cnt : Int) (lc : Int → Int) (D : List Int) (a1 : p ≤ sc.length) (a2 : (b = b0 ∨ b = b2)) (a3 : Core b.F C K X H r L cnt C.length lc D) (a4 : Rel 6 (Mb i) i hl rk ls H r L) (a5 : C.length ≤ 5 * i) (a6 : hl.length ≤ 5 * i) (a7 : L.length ≤ i) : TurnP sc b0 b2 i (FM (C.length : Int) cnt) (HL sc u p b C K X hl rk ls G) := ⟨u, p, b, C, K, X, hl, rk, ls, G, H, r, L, cnt, lc, D, rfl, rfl, a1, a2, a3, a4, a5, a6, a7⟩
omit [HasK] [HasF] in
@[elab_as_elim] theorem TurnP.elim {sc : List Int} {b0 b2 : Bk} {i : Nat} {l : List (Str × V)} {hp : List O} {motive : List (Str × V) → List O → Prop} (q : TurnP sc b0 b2 i l hp)
  (k : ∀ (u : Int) (p : Nat) (b : Bk) (C K X : List V) (hl : List (Int × V)) (rk ls : List V) (G : List O) (H : Nat → Option Tm) (r : Nat → Bool) (L : List Int) (cnt : Int) (lc : Int → Int) (D : List Int),
    p ≤ sc.length → (b = b0 ∨ b = b2) → Core b.F C K X H r L cnt C.length lc D → Rel 6 (Mb i) i hl rk ls H r L → C.length ≤ 5 * i → hl.length ≤ 5 * i → L.length ≤ i →
    motive (FM (C.length : Int) cnt) (HL sc u p b C K X hl rk ls G)) : motive l hp := by
  obtain ⟨u, p, b, C, K, X, hl, rk, ls, G, H, r, L, cnt, lc, D, rfl, rfl, a1, a2, a3, a4, a5, a6, a7⟩ := q
  exact k u p b C K X hl rk ls G H r L cnt lc D a1 a2 a3 a4 a5 a6 a7
omit [HasK] [HasF] in
theorem funcB_F (b : Bk) (t : Str) (n : Int) : ∀ (i : Nat) (v : Int × Int), b.F[i]? = some v → (funcB b t n).1.F[i]? = some v := by
  intro i v h
  have hA : (atomB b t).1.F = b.F := (atomB_len b t).2.2.1
  unfold funcB functorB
  split
  · rw [hA]; exact h
  · show ((atomB b t).1.F ++ [_])[i]? = _
    rw [hA, List.getElem?_append_left (List.getElem?_eq_some_iff.mp h).1]; exact h
omit [HasK] [HasF] in
/-- the book ahead of a deed: what the two calls give -/
theorem books2 {b0 b1 b2 : Bk} {fh fg : Nat} (K : BkOk b0 b1 b2 fh fg) {b : Bk} (hb : b = b0 ∨ b = b2) : ∃ bm, funcB b "h" 2 = (bm, fh) ∧ funcB bm "g" 1 = (b2, fg) ∧ (b.T.length < 1000 ∧ b.A.length < 1000 ∧ b.F.length < 1000 ∧ b.N.length < 1000) ∧ (bm.T.length < 1000 ∧ bm.A.length < 1000 ∧ bm.F.length < 1000 ∧ bm.N.length < 1000) ∧
    ∀ (i : Nat) (v : Int × Int), b.F[i]? = some v → b2.F[i]? = some v := by
  rcases hb with rfl | rfl
  · refine ⟨b1, K.e1, K.e2, ⟨by have := K.l1; (first | lia | omega), by have := K.l1; (first | lia | omega), by have := K.l1; (first | lia | omega), by have := K.l1; (first | lia | omega)⟩, ?_, fun i v h => ?_⟩
    · have := funcB_len b "h" 2
      rw [K.e1] at this
      have l := K.l1
      dsimp only at this
      exact ⟨by (first | lia | omega), by (first | lia | omega), by (first | lia | omega), by (first | lia | omega)⟩
    · have h1 := funcB_F b "h" 2 i v h
      rw [K.e1] at h1
      have h2 := funcB_F b1 "g" 1 i v h1
      rw [K.e2] at h2
      exact h2
  · have l := K.l2
    exact ⟨b, K.e3, K.e4, ⟨by (first | lia | omega), by (first | lia | omega), by (first | lia | omega), by (first | lia | omega)⟩, ⟨by (first | lia | omega), by (first | lia | omega), by (first | lia | omega), by (first | lia | omega)⟩, fun _ _ h => h⟩
section
variable {d : Nat} {sc : List Int} {b0 b1 b2 b : Bk} {fh fg : Nat} {g i : Nat} {u : Int} {p : Nat} {C K X : List V} {hl : List (Int × V)} {rk ls : List V} {G : List O} {H : Nat → Option Tm} {r : Nat → Bool} {L : List Int} {cnt : Int} {lc : Int → Int} {D : List Int}
theorem struct_turn (BK : BkOk b0 b1 b2 fh fg) (hsc : sc.length ≤ 100) (hg3 : g < 3) (hi : i < 5) (hp : p ≤ sc.length) (hb : b = b0 ∨ b = b2) (I : Core b.F C K X H r L cnt C.length lc D) (R : Rel 6 (Mb i) i hl rk ls H r L) (hC : C.length ≤ 5 * i) (hhl : hl.length ≤ 5 * i) (hL : L.length ≤ i) :
    SX (d + 8) lawS bodyS (lk (("goal", .int g) :: ("spot", opd g) :: FM (C.length : Int) cnt)) (HL sc u p b C K X hl rk ls G) (Nx (TurnP sc b0 b2 (i + 1))) := by
  obtain ⟨bm, e1, e2, z1, z2, hF⟩ := books2 BK hb
  obtain ⟨u1, p1, q, hp1, hq, Pq⟩ := pickE (d := d + 7) (u := u) 3 (by decide) hsc hp
  have n1 := BK.n1
  simp only [Bool.and_eq_true, bne_iff_ne, ne_eq, Nat.blt_eq] at n1
  have F1 : ∀ {o0 o1 : O} {rest : List O}, Snd (d + 8) (.call (.ref 109) [.ref 2, .str "h", .int 2] (HB o0 o1 b rest)) (.v (.int fh) (HB o0 o1 bm rest)) := fun {o0 o1 rest} => by
    have := sp_func (d := d + 6) (o0 := o0) (o1 := o1) (b := b) (t := "h") (n := 2) (rest := rest) z1.1 z1.2.1 z1.2.2.1 z1.2.2.2
    rw [e1] at this
    exact this
  have F2 : ∀ {o0 o1 : O} {rest : List O}, Snd (d + 8) (.call (.ref 109) [.ref 2, .str "g", .int 1] (HB o0 o1 bm rest)) (.v (.int fg) (HB o0 o1 b2 rest)) := fun {o0 o1 rest} => by
    have := sp_func (d := d + 6) (o0 := o0) (o1 := o1) (b := bm) (t := "g") (n := 1) (rest := rest) z2.1 z2.2.1 z2.2.2.1 z2.2.2.2
    rw [e2] at this
    exact this
  obtain ⟨fv, w, x, hfv, hw, hx, hf0, hfl⟩ : ∃ (fv w : Nat) (x : Int), [V.int 0, .int fh, .int fg][q]? = some (.int fv) ∧ (w = 1 ∨ w = 2) ∧ b2.F[fv]? = some (x, (w : Int)) ∧ (fv = 0 → w = 2) ∧ fv < 900 := by
    have get : ∀ {j k : Nat}, (b2.F[j]?).map (·.2) = some (k : Int) → ∃ x, b2.F[j]? = some (x, (k : Int)) := fun {j k} h => by
      cases e : b2.F[j]? with
      | none => rw [e] at h; cases h
      | some v => rw [e] at h; exact ⟨v.1, by have := Option.some.inj h; rw [← this]⟩
    match q, hq with
    | 0, _ => obtain ⟨x, hx⟩ := get (k := 2) BK.a0; exact ⟨0, 2, x, rfl, .inr rfl, hx, fun _ => rfl, by decide⟩
    | 1, _ => obtain ⟨x, hx⟩ := get (k := 2) BK.a1; exact ⟨fh, 2, x, rfl, .inr rfl, hx, fun _ => rfl, by (first | lia | omega)⟩
    | 2, _ => obtain ⟨x, hx⟩ := get (k := 1) BK.a2; exact ⟨fg, 1, x, rfl, .inl rfl, hx, fun e => by (first | lia | omega), by (first | lia | omega)⟩
  apply sx_seq (hp₁ := HL sc u1 p1 b2 C K X hl rk ls (G ++ [.list [.int 0, .int fh, .int fg]]))
  · apply snd_asg (v := .int fv)
    · apply snd_sub
      · apply snd_list
        · apply snd_cons
          rfl
          walk_at "m e"
          apply snd_cons
          rfl
          · apply snd_mcall
            walk_at "m e"
            walk_at "m meth"
            walk_at "m es"
            exact F1
            exact fun _ => ⟨_, rfl⟩
          apply snd_cons
          rfl
          · apply snd_mcall
            walk_at "m e"
            walk_at "m meth"
            walk_at "m es"
            exact F2
            exact fun _ => ⟨_, rfl⟩
          apply snd_nil
        exact Nat.le_of_ble_eq_true rfl
      · apply snd_ecall
        rfl
        walk_at "m kept"
        walk_at "m es"
        exact Pq
      · exact .lst hl_last (by (first | lia | omega)) (by (first | lia | omega)) (by rw [Int.toNat_natCast]; exact hfv)
      rfl
    exact .inl rfl
    rfl
    exact fun _ => rfl
  have hCn : C.length ≤ 25 := by (first | lia | omega)
  have xl := I.xl
  have I0 := (I.growF hF).forget hg3
  have rg : ∀ v : V, (rX X g v)[g + 1]? = some v := fun v => by
    rcases getR_x (K := K) (v := v) hg3 xl (by (first | lia | omega) : g < 6) with e | e
    · unfold getR at e; rw [if_pos hg3, if_pos rfl] at e; exact e
    · exact absurd rfl e.1
  refine sx_cons (s1_mono (Q := fun fl fr₁ hp₁ => fl = .nx ∧ ∃ (C0 K' X' : List V) (tt : Int), (∀ y v, lk (("f", .int fv) :: ("goal", .int g) :: FM (C0.length : Int) cnt) y = some v → fr₁ y = some v) ∧ hp₁ = HL sc u1 p1 b2 C0 K' X' hl rk ls (G ++ [.list [.int 0, .int fh, .int fg]]) ∧
    Core b2.F C0 K' X' (updH H g none) r L cnt C.length lc D ∧ X'[g + 1]? = some (cel tt C.length) ∧ ((tt = 3 ∧ C0 = C ∧ fv = 0) ∨ (tt = 2 ∧ C0 = C ++ [cel 6 fv]))) ?goA ?goB)
  case goA =>
    refine s1_if (hp₁ := HL sc u1 p1 b2 C K X hl rk ls (G ++ [.list [.int 0, .int fh, .int fg]])) (b := (fv : Int) == 0) ?e_t (fun h1 => ?e_a) (fun h1 => ?e_b)
    case e_t =>
      apply snd_tcmp
      walk_at "m e"
      walk_at "m e"
      exact .eqI _ _ _
      rfl
    case e_a =>
      have h1 : fv = 0 := by simpa using h1
      apply sx_seq (hp₁ := HL sc u1 p1 b2 C (rK K g (cel 3 C.length)) (rX X g (cel 3 C.length)) hl rk ls (G ++ [.list [.int 0, .int fh, .int fg]]))
      · apply snd_expr
        apply snd_ecall
        rfl
        walk_at "m kept"
        walk_at "m es"
        exact sp_putlist (d := d + 4) (by (first | lia | omega)) I.kl (by (first | lia | omega)) (by (first | lia | omega))
        exact fun _ => rfl
      apply sx_nil
      refine ⟨rfl, C, _, _, 3, ?_, rfl, I0.junk hg3 updH_self, rg _, .inl ⟨rfl, rfl, h1⟩⟩
      walk_at "m wk"
    case e_b =>
      apply sx_seq (hp₁ := HL sc u1 p1 b2 (C ++ [cel 6 fv]) (rK K g (cel 2 C.length)) (rX X g (cel 2 C.length)) hl rk ls (G ++ [.list [.int 0, .int fh, .int fg]]))
      · apply snd_expr
        apply snd_ecall
        rfl
        walk_at "m kept"
        walk_at "m es"
        exact sp_putstr (d := d + 4) (by (first | lia | omega)) I.kl (by (first | lia | omega)) (by (first | lia | omega))
        exact fun _ => rfl
      apply sx_seq
      · apply snd_augname
        rfl
        walk_at "m e"
        exact .add _ _
        rfl
        rfl
      apply sx_nil
      refine ⟨rfl, C ++ [cel 6 fv], _, _, 2, ?_, rfl, (I0.app (t := 6) (a := fv) (by decide) (fun e => by simp at e)).junk hg3 updH_self, rg _, .inr ⟨rfl, rfl⟩⟩
      rw [show ((C ++ [cel 6 fv]).length : Int) = (C.length : Int) + 1 by simp]
      walk_at "m wk"
  case goB =>
    rintro fl fr1 hp₁ ⟨rfl, C0, K', X', tt, wk, rfl, I1, hXg, hcs⟩
    refine ⟨rfl, ?_⟩
    apply sx_weak (q := wk)
    generalize (G ++ [O.list [.int 0, .int fh, .int fg]]) = G1
    have hC0 : C0.length ≤ C.length + 1 := by rcases hcs with ⟨_, rfl, _⟩ | ⟨_, rfl⟩ <;> simp
    have hC0' : C.length ≤ C0.length := by rcases hcs with ⟨_, rfl, _⟩ | ⟨_, rfl⟩ <;> simp
    apply sx_seq (hp₁ := HL sc u1 p1 b2 C0 K' X' hl rk ls (G1 ++ [.list []]))
    · apply snd_asg (v := .ref (G1.length + 21))
      exact snd_list (hp₁ := HL sc u1 p1 b2 C0 K' X' hl rk ls G1) (l := []) snd_nil (Nat.le_of_ble_eq_true rfl)
      exact .inl rfl
      rfl
      exact fun _ => rfl
    apply sx_weak (fr₁ := lk (FA g fv G1.length ((C0.length + 0 : Nat) : Int) cnt))
    case q => walk_at "m wk"
    have bd0 : ∀ k T, updH H g none k = some T → szT T ≤ Mb i ∧ ht T ≤ i := fun k T e => by
      by_cases q2 : k = g
      · rw [q2, updH_self] at e; cases e
      · rw [updH_ne q2] at e; exact R.bd k T e
    have P0 : ArgQ sc b2 g fv G1.length C0 (C.length : Int) (Mb i) i (5 * i) i (cel tt C.length) ((C0.length + 0 : Nat) : Int) 0 (FA g fv G1.length ((C0.length + 0 : Nat) : Int) cnt) (HL sc u1 p1 b2 C0 K' X' hl rk ls (G1 ++ [.list []])) :=
      ⟨u1, p1, C0, K', X', hl, rk, ls, G1 ++ [.list []], updH H g none, r, L, cnt, lc, D, [], rfl, rfl, hp1, by simp, rfl, I1, ⟨fun k hk hkg => by rw [updH_ne hkg]; exact R.hl k hk (by (first | lia | omega)), R.rl, R.rk, R.ls, bd0⟩, updH_self, by simp, fun _ _ e => e, fun _ _ e => by simp at e, by (first | lia | omega), hL, hXg, fun T hT => nomatch hT⟩
    apply sx_cons
    apply s1_forR [(w : Int)]
    case hx => rfl
    case h1 =>
      apply snd_cons
      rfl
      · apply snd_mcall
        walk_at "m e"
        walk_at "m meth"
        walk_at "m es"
        exact sp_arity (d := d + 7) hx (by (first | lia | omega))
        exact fun _ => ⟨_, rfl⟩
      apply snd_nil
    case hv => rfl
    case k => exact .one _
    case hn => exact (rng_n w (by (first | lia | omega))).1
    case hsm => exact (rng_n w (by (first | lia | omega))).2
    case kx => exact .inl rfl
    case hd => rfl
    case hs => exact fun _ _ => rfl
    case Lp =>
      obtain ⟨l', hp', Lp, P'⟩ := lps_inv (d := d + 8) (sc := lawS) (x := "place") (b := argB) (a := 0) (c := 1) (fun j l hp => ArgQ sc b2 g fv G1.length C0 (C.length : Int) (Mb i) i (5 * i) i (cel tt C.length) ((C0.length + j : Nat) : Int) j l hp) w
        (fun j l hp hj P => arg_turn hsc hg3 (Mb_pos i) (by (first | lia | omega)) (by (first | lia | omega)) (by (first | lia | omega)) (by (first | lia | omega)) (by (first | lia | omega)) P) P0
      refine ⟨l', hp', Lp, rfl, ?_⟩
      refine ArgQ.elim P' fun u' p' C' K2 X2 hl' rk' ls' G' H' r' L' cnt' lc' D' ts hp2 hG' htl I2 R2 hg2 hC2 hpre hts hhl2 hL2 hX2 hbd => ?_
      obtain ⟨Tn, eT, hsz, hht, hRep⟩ : ∃ Tn, tv Tn = .tup [.str "s", .int fv, .tup (ts.map tv)] ∧ szT Tn ≤ Mb (i + 1) ∧ ht Tn ≤ i + 1 ∧ Rep C' b2.F lc' D' C'.length Tn tt C.length := by
        have f0 : ∀ T t a, Rep C' b2.F lc' D' C.length T t a → Rep C' b2.F lc' D' ((C.length : Nat) : Int) T t a := fun _ _ _ h => h
        rcases hw with rfl | rfl
        · match ts, htl with
          | [T0], _ =>
            obtain ⟨t0, a0, c0, r0⟩ := hts 0 T0 rfl
            obtain ⟨s0, s0'⟩ := hbd T0 (by simp)
            refine ⟨.s1 fv T0, rfl, by show szT T0 + 1 ≤ 2 * Mb i + 1; (first | lia | omega), by show ht T0 + 1 ≤ i + 1; (first | lia | omega), ?_⟩
            rcases hcs with ⟨_, _, h0⟩ | ⟨rfl, rfl⟩
            · have := hf0 h0; (first | lia | omega)
            · have cF : C'[C.length]? = some (cel 6 fv) := hpre _ _ (by simp)
              refine .st1 (by (first | lia | omega)) (by simp at hC2; (first | lia | omega)) (by (first | lia | omega)) (by simpa using cF) hx (by (first | lia | omega)) ?_ r0
              rw [show ((C.length : Int) + 1).toNat = (C ++ [cel 6 (fv : Int)]).length + 0 by simp]
              exact c0
        · match ts, htl with
          | [T0, T1], _ =>
            obtain ⟨t0, a0, c0, r0⟩ := hts 0 T0 rfl
            obtain ⟨t1, a1, c1, r1⟩ := hts 1 T1 rfl
            obtain ⟨s0, s0'⟩ := hbd T0 (by simp)
            obtain ⟨s1, s1'⟩ := hbd T1 (by simp)
            refine ⟨.s2 fv T0 T1, rfl, by show szT T0 + szT T1 + 1 ≤ 2 * Mb i + 1; (first | lia | omega), by show max (ht T0) (ht T1) + 1 ≤ i + 1; (first | lia | omega), ?_⟩
            rcases hcs with ⟨rfl, rfl, h0⟩ | ⟨rfl, rfl⟩
            · rw [h0]
              refine .lis (by (first | lia | omega)) (by (first | lia | omega)) (by (first | lia | omega)) (by simpa using c0) ?_ r0 r1
              rw [show ((C0.length : Int) + 1).toNat = C0.length + 1 by (first | lia | omega)]
              exact c1
            · have cF : C'[C.length]? = some (cel 6 fv) := hpre _ _ (by simp)
              refine .st2 (by (first | lia | omega)) (by simp at hC2; (first | lia | omega)) (by (first | lia | omega)) (by simpa using cF) hx (by (first | lia | omega)) ?_ ?_ r0 r1
              · rw [show ((C.length : Int) + 1).toNat = (C ++ [cel 6 (fv : Int)]).length + 0 by simp]
                exact c0
              · rw [show ((C.length : Int) + 2).toNat = (C ++ [cel 6 (fv : Int)]).length + 1 by simp; (first | lia | omega)]
                exact c1
      have hgP : (HL sc u' p' b2 C' K2 X2 hl' rk' ls' G')[G1.length + 21]? = some (.list (ts.map tv)) := hG'
      apply sx_seq (hp₁ := HL sc u' p' b2 C' K2 X2 (setD hl' g (tv Tn)) rk' ls' G')
      · apply snd_as
        apply snd_setitem
        · apply snd_tup
          apply snd_cons
          rfl
          walk_at "m e"
          apply snd_cons
          rfl
          walk_at "m e"
          apply snd_cons
          rfl
          · apply snd_ecall
            rfl
            walk_at "m kept"
            walk_at "m es"
            exact sndb_tuple hgP (by rw [List.length_map]; (first | lia | omega))
          apply snd_nil
          exact Nat.le_of_ble_eq_true rfl
        walk_at "m e"
        walk_at "m e"
        exact .dI rfl (by (first | lia | omega))
        exact fun _ => rfl
        rw [eT]; rfl
      apply sx_seq (hp₁ := HL sc u' p' b2 C' K2 X2 (setD hl' g (tv Tn)) (rk'.set g (.bool false)) ls' G')
      · apply snd_as
        apply snd_setitem
        walk_at "m e"
        walk_at "m e"
        walk_at "m e"
        exact .lst rfl (by (first | lia | omega)) (by rw [R2.rl]; (first | lia | omega)) (by rw [R2.rl]; (first | lia | omega))
        exact fun _ => rfl
        rw [Int.toNat_natCast]; rfl
      apply sx_nil
      have sl : (setD hl' (g : Int) (tv Tn)).length ≤ hl'.length + 1 := setD_len
      obtain ⟨q1, q2⟩ := rk_set R2.rl R2.rk false (by (first | lia | omega) : g < 6)
      have I3 := I2.ease (cnt' := cnt') (B' := C'.length) (r' := r') (Int.le_refl _) (by (first | lia | omega)) (fun _ z => z)
      have I4 := I3.know (k := g) (T := Tn) (t := tt) (a := C.length) (r' := fun j => if j = g then false else r' j) hg3 hX2 (.inl hRep) (fun _ => by rcases hcs with ⟨rfl, _⟩ | ⟨rfl, _⟩ <;> decide) (fun j hj e => by simpa [hj] using e)
      refine Nx.mk (l := FM (C'.length : Int) cnt') ?_ (TurnP.mk u' p' b2 C' K2 X2 (setD hl' g (tv Tn)) (rk'.set g (.bool false)) ls' G' (updH H' g (some Tn)) _ L' cnt' lc' D' hp2 (.inr rfl) I4 ⟨fun k hk _ => ?_, q1, q2, R2.ls, fun k T e => ?_⟩ (by (first | lia | omega)) (by (first | lia | omega)) (by (first | lia | omega)))
      · rw [hC2]; walk_at "m wk"
      · rw [lookD]
        by_cases e : k = g
        · subst e; rw [if_pos rfl, updH_self]; rfl
        · rw [if_neg (by (first | lia | omega)), updH_ne e]; exact R2.hl k hk e
      · by_cases e2 : k = g
        · subst e2; rw [updH_self] at e; cases e; exact ⟨hsz, hht⟩
        · rw [updH_ne e2] at e
          obtain ⟨y1, y2⟩ := R2.bd k T e
          exact ⟨Nat.le_trans y1 (Mb_up i), by (first | lia | omega)⟩
end

end

section
variable [HasK] [HasF]
/-- the if of a deed -/
noncomputable def deed : Nat → List Stmt
  | 0 => ifT (at_ loopB 7)
  | n + 1 => ifT (at_ (chain n (at_ loopB 7)) 0)
noncomputable abbrev FD (g : Nat) (n1 n2 n3 : Nat) (len cnt : Int) : List (Str × V) := ("known", .ref (n1 + 21)) :: ("blank", .ref (n2 + 21)) :: ("filled", .ref (n3 + 21)) :: ("spot", opd g) :: ("goal", .int g) :: FM len cnt
noncomputable abbrev Post (sc : List Int) (b0 b2 : Bk) (i : Nat) : Fl → (Str → Option V) → List O → Prop := (Nx (TurnP sc b0 b2 (i + 1)))
omit [HasK] [HasF] in
theorem len1I {C : List V} {c : V} : ((C ++ [c]).length : Int) = (C.length : Int) + 1 := by simp
omit [HasK] [HasF] in
theorem three : ∀ k ∈ ([3, 4, 5] : List Int), ∃ n : Nat, k = n ∧ n < 6 := by
  intro k hk
  exact six k (by simp only [List.mem_cons, List.not_mem_nil, or_false] at hk ⊢; (first | lia | omega))
omit [HasK] [HasF] in
theorem held_of {hl : List (Int × V)} {H : Nat → Option Tm} {k : Nat} (h : hl.lookup (k : Int) = (H k).map tv) (q : (hl.lookup (k : Int)).isSome = true) : ∃ T, H k = some T ∧ hl.lookup (k : Int) = some (tv T) := by
  cases e : H k with
  | none => rw [h, e] at q; simp at q
  | some T => exact ⟨T, rfl, by rw [h, e]; rfl⟩
omit [HasK] [HasF] in
theorem rel_set {M h M' h' : Nat} {hl : List (Int × V)} {rk ls : List V} {H : Nat → Option Tm} {r : Nat → Bool} {L : List Int} (R : Rel 6 M h hl rk ls H r L) {k : Nat} {T : Tm} (v : Bool) (hk : k < 6) (hM : M ≤ M') (hh : h ≤ h') (hT : szT T ≤ M' ∧ ht T ≤ h') :
    Rel 6 M' h' (setD hl k (tv T)) (rk.set k (.bool v)) ls (updH H k (some T)) (fun j => if j = k then v else r j) L := by
  obtain ⟨q1, q2⟩ := rk_set R.rl R.rk v hk
  refine ⟨fun j hj _ => ?_, q1, q2, R.ls, fun j T' e => ?_⟩
  · rw [lookD]
    by_cases e : j = k
    · subst e; rw [if_pos rfl, updH_self]; rfl
    · rw [if_neg (by (first | lia | omega)), updH_ne e]; exact R.hl j hj (by (first | lia | omega))
  · by_cases e2 : j = k
    · subst e2; rw [updH_self] at e; cases e; exact hT
    · rw [updH_ne e2] at e
      obtain ⟨y1, y2⟩ := R.bd j T' e
      exact ⟨by (first | lia | omega), by (first | lia | omega)⟩
section
variable {d : Nat} {sc : List Int} {b0 b1 b2 b : Bk} {fh fg : Nat} {g i n1 n2 n3 : Nat} {u : Int} {p : Nat} {C K X : List V} {hl : List (Int × V)} {rk ls : List V} {G : List O} {H : Nat → Option Tm} {r : Nat → Bool} {L : List Int} {cnt : Int} {lc : Int → Int} {D : List Int}
theorem deed4 (hsc : sc.length ≤ 100) (hg3 : g < 3) (hi : i < 5) (hp : p ≤ sc.length) (hb : b = b0 ∨ b = b2) (I : Core b.F C K X H r L cnt C.length lc D) (R : Rel 6 (Mb i) i hl rk ls H r L) (hC : C.length ≤ 5 * i) (hhl : hl.length ≤ 5 * i) (hL : L.length ≤ i) :
    SX (d + 8) lawS (deed 4) (lk (FD g n1 n2 n3 (C.length : Int) (cnt + 1))) (HL sc u p b C K X hl rk ls G) (Post sc b0 b2 i) := by
  have xl := I.xl
  have g6 : g < 6 := by (first | lia | omega)
  have sl1 : (setD hl (g : Int) (tv .a)).length ≤ hl.length + 1 := setD_len
  apply sx_seq (hp₁ := HL sc u p b C (rK K g (cel 4 0)) (rX X g (cel 4 0)) hl rk ls G)
  · apply snd_expr
    apply snd_ecall
    rfl
    walk_at "m kept"
    · walk_at "m es"
    exact sp_putcon (d := d + 4) g6 I.kl (by (first | lia | omega))
    exact fun _ => rfl
  apply sx_seq (hp₁ := HL sc u p b C (rK K g (cel 4 0)) (rX X g (cel 4 0)) (setD hl g (tv .a)) rk ls G)
  · apply snd_as
    apply snd_setitem
    walk_at "m e"
    walk_at "m e"
    walk_at "m e"
    exact .dI rfl (by (first | lia | omega))
    exact fun _ => rfl
    rfl
  apply sx_seq (hp₁ := HL sc u p b C (rK K g (cel 4 0)) (rX X g (cel 4 0)) (setD hl g (tv .a)) (rk.set g (.bool false)) ls G)
  · apply snd_as
    apply snd_setitem
    walk_at "m e"
    walk_at "m e"
    walk_at "m e"
    exact .lst rfl (by (first | lia | omega)) (by rw [R.rl]; (first | lia | omega)) (by rw [R.rl]; (first | lia | omega))
    exact fun _ => rfl
    rw [Int.toNat_natCast]; rfl
  apply sx_nil
  have I2 := (I.put (k := g) (T := .a) (t := 4) (a := 0) (r' := fun j => if j = g then false else r j) hg3 (.inl .con) (fun _ => by decide) (fun j hj e => by simpa [hj] using e)).ease (cnt' := cnt + 1) (by (first | lia | omega)) (Int.le_refl _) fun _ z => z
  refine Nx.mk (l := FM (C.length : Int) (cnt + 1)) ?_ (TurnP.mk u p b C _ _ _ _ ls G _ _ L (cnt + 1) lc D hp hb I2 (rel_set R false g6 (Mb_up i) (by (first | lia | omega)) ⟨Mb_pos _, Nat.zero_le _⟩) (by (first | lia | omega)) (by (first | lia | omega)) (by (first | lia | omega)))
  walk_at "m wk"
theorem deed5 (hsc : sc.length ≤ 100) (hg3 : g < 3) (hi : i < 5) (hp : p ≤ sc.length) (hb : b = b0 ∨ b = b2) (I : Core b.F C K X H r L cnt C.length lc D) (R : Rel 6 (Mb i) i hl rk ls H r L) (hC : C.length ≤ 5 * i) (hhl : hl.length ≤ 5 * i) (hL : L.length ≤ i) :
    SX (d + 8) lawS (deed 5) (lk (FD g n1 n2 n3 (C.length : Int) (cnt + 1))) (HL sc u p b C K X hl rk ls G) (Post sc b0 b2 i) := by
  have xl := I.xl
  have g6 : g < 6 := by (first | lia | omega)
  have sl1 : (setD hl (g : Int) (tv (.v (cnt + 1)))).length ≤ hl.length + 1 := setD_len
  obtain ⟨I1, RT, gr, _⟩ := do_newvar I (by (first | lia | omega)) (m := cnt + 1) rfl
  apply sx_seq (hp₁ := HL sc u p b (C ++ [cel 0 C.length]) (rK K g (cel 0 C.length)) (rX X g (cel 0 C.length)) hl rk ls G)
  · apply snd_expr
    apply snd_ecall
    rfl
    walk_at "m kept"
    · walk_at "m es"
    exact sp_putvoid (d := d + 4) g6 I.kl (by (first | lia | omega)) (by (first | lia | omega))
    exact fun _ => rfl
  apply sx_seq (hp₁ := HL sc u p b (C ++ [cel 0 C.length]) (rK K g (cel 0 C.length)) (rX X g (cel 0 C.length)) (setD hl g (tv (.v (cnt + 1)))) rk ls G)
  · apply snd_as
    apply snd_setitem
    walk_at "m e"
    walk_at "m e"
    walk_at "m e"
    exact .dI rfl (by (first | lia | omega))
    exact fun _ => rfl
    rfl
  apply sx_seq (hp₁ := HL sc u p b (C ++ [cel 0 C.length]) (rK K g (cel 0 C.length)) (rX X g (cel 0 C.length)) (setD hl g (tv (.v (cnt + 1)))) (rk.set g (.bool false)) ls G)
  · apply snd_as
    apply snd_setitem
    walk_at "m e"
    walk_at "m e"
    walk_at "m e"
    exact .lst rfl (by (first | lia | omega)) (by rw [R.rl]; (first | lia | omega)) (by rw [R.rl]; (first | lia | omega))
    exact fun _ => rfl
    rw [Int.toNat_natCast]; rfl
  apply sx_seq
  · apply snd_augname
    rfl
    walk_at "m e"
    exact .add _ _
    rfl
    rfl
  apply sx_nil
  have I2 := (I1.put (k := g) (T := .v (cnt + 1)) (t := 0) (a := C.length) (r' := fun j => if j = g then false else r j) hg3 (.inl RT) (fun _ => by decide) (fun j hj e => by simpa [hj] using e)).ease (cnt' := cnt + 1) (B' := ((C ++ [cel 0 C.length]).length : Int)) (Int.le_refl _) (by rw [len1I]; (first | lia | omega)) fun _ z => z
  refine Nx.mk (l := FM ((C ++ [cel 0 C.length]).length : Int) (cnt + 1)) ?_ (TurnP.mk u p b (C ++ [cel 0 C.length]) _ _ _ _ ls G _ _ L (cnt + 1) _ _ hp hb I2 (rel_set R false g6 (Mb_up i) (by (first | lia | omega)) ⟨Mb_pos _, Nat.zero_le _⟩) (by simp; (first | lia | omega)) (by (first | lia | omega)) (by (first | lia | omega)))
  rw [len1I]
  walk_at "m wk"
theorem deed0 (hsc : sc.length ≤ 100) (hg3 : g < 3) (hi : i < 5) (hp : p ≤ sc.length) (hb : b = b0 ∨ b = b2) (I : Core b.F C K X H r L cnt C.length lc D) (R : Rel 6 (Mb i) i hl rk ls H r L) (hC : C.length ≤ 5 * i) (hhl : hl.length ≤ 5 * i) (hL : L.length ≤ i) (hG : G[n2]? = some (.list ((([3, 4, 5] : List Int).filter fun k => !(hl.lookup k).isSome).map .int))) (hne : 0 < (([3, 4, 5] : List Int).filter fun k => !(hl.lookup k).isSome).length) :
    SX (d + 8) lawS (deed 0) (lk (FD g n1 n2 n3 (C.length : Int) (cnt + 1))) (HL sc u p b C K X hl rk ls G) (Post sc b0 b2 i) := by
  have xl := I.xl
  have g6 : g < 6 := by (first | lia | omega)
  generalize hbe : (([3, 4, 5] : List Int).filter fun k => !(hl.lookup k).isSome) = oth at hG hne
  have hol : oth.length ≤ 6 := by rw [← hbe]; exact Nat.le_trans (List.length_filter_le _ _) (by decide)
  obtain ⟨u2, p2, q, hp2, hq, Pi⟩ := pickE (d := d + 7) (u := u) oth.length hne hsc hp
  obtain ⟨k, hk1, hk6, hkp, hkm⟩ := filt_at (p := fun k => !(hl.lookup k).isSome) three (i := q) (by rw [hbe]; exact hq)
  rw [hbe] at hk1
  have hkl := R.hl k hk6 (by (first | lia | omega))
  have hk3 : 3 ≤ k := by
    simp only [List.mem_cons, List.not_mem_nil, or_false] at hkm
    (first | lia | omega)
  have hkn : H k = none := by
    cases e : H k with
    | none => rfl
    | some T => rw [hkl, e] at hkp; simp at hkp
  have sl1 : (setD hl (k : Int) (tv (.v (cnt + 1)))).length ≤ hl.length + 1 := setD_len
  have sl2 : (setD (setD hl (k : Int) (tv (.v (cnt + 1)))) (g : Int) (tv (.v (cnt + 1)))).length ≤ (setD hl (k : Int) (tv (.v (cnt + 1)))).length + 1 := setD_len
  obtain ⟨_, _, _, fr⟩ := do_newvar I (by (first | lia | omega)) (m := cnt + 1) rfl
  have mD : cnt + 1 ∉ D := fun e => by have := (I.dom _ e).1; (first | lia | omega)
  have mL : cnt + 1 ∉ L := fun e => by have := (I.ld _ e).2; (first | lia | omega)
  apply sx_seq (hp₁ := HL sc u2 p2 b C K X hl rk ls G)
  · apply snd_asg
    · apply snd_sub
      walk_at "m e"
      · apply snd_ecall
        rfl
        walk_at "m kept"
        · apply snd_cons
          rfl
          walk_at "m e"
          apply snd_cons
          rfl
          · apply snd_ecall
            rfl
            walk_at "m kept"
            walk_at "m es"
            exact sndb_lenL (show (HL sc u p b C K X hl rk ls G)[n2 + 21]? = _ from hG) (by rw [List.length_map]; (first | lia | omega))
          apply snd_nil
        rw [List.length_map]
        exact Pi
      · exact .lst (show (HL sc u2 p2 b C K X hl rk ls G)[n2 + 21]? = _ from hG) (by (first | lia | omega)) (by (first | lia | omega)) (by rw [Int.toNat_natCast]; exact hk1)
      rfl
    exact .inl rfl
    rfl
    exact fun _ => rfl
  apply sx_seq (hp₁ := HL sc u2 p2 b C (rK (rK K k (cel 1 (k - 1 : Nat))) g (cel 1 (k - 1 : Nat))) (rX (rX X k (cel 1 (k - 1 : Nat))) g (cel 1 (k - 1 : Nat))) hl rk ls G)
  · apply snd_expr
    apply snd_ecall
    rfl
    walk_at "m kept"
    · (apply snd_cons; rfl; walk_at "m e"; apply snd_cons; rfl; apply snd_tup; apply snd_cons; rfl; walk_at "m e"; apply snd_cons; rfl; apply snd_sub; walk_at "m e"; walk_at "m e"; exact .lst rfl (by (first | lia | omega)) (by (first | lia | omega)) (by rw [Int.toNat_natCast]; exact spots_at hk6); rfl; apply snd_cons; rfl; walk_at "m e"; apply snd_nil; exact Nat.le_of_ble_eq_true rfl; apply snd_nil)
    exact sp_putvarY (d := d + 4) (by (first | lia | omega)) hk6 g6 I.kl xl
    exact fun _ => rfl
  apply sx_seq (hp₁ := HL sc u2 p2 b C (rK (rK K k (cel 1 (k - 1 : Nat))) g (cel 1 (k - 1 : Nat))) (rX (rX X k (cel 1 (k - 1 : Nat))) g (cel 1 (k - 1 : Nat))) (setD hl k (tv (.v (cnt + 1)))) rk ls G)
  · apply snd_as
    apply snd_setitem
    walk_at "m e"
    walk_at "m e"
    walk_at "m e"
    exact .dI rfl (by (first | lia | omega))
    exact fun _ => rfl
    rfl
  apply sx_seq (hp₁ := HL sc u2 p2 b C (rK (rK K k (cel 1 (k - 1 : Nat))) g (cel 1 (k - 1 : Nat))) (rX (rX X k (cel 1 (k - 1 : Nat))) g (cel 1 (k - 1 : Nat))) (setD (setD hl k (tv (.v (cnt + 1)))) g (tv (.v (cnt + 1)))) rk ls G)
  · apply snd_as
    apply snd_setitem
    walk_at "m e"
    walk_at "m e"
    walk_at "m e"
    exact .dI rfl (by (first | lia | omega))
    exact fun _ => rfl
    rfl
  apply sx_seq (hp₁ := HL sc u2 p2 b C (rK (rK K k (cel 1 (k - 1 : Nat))) g (cel 1 (k - 1 : Nat))) (rX (rX X k (cel 1 (k - 1 : Nat))) g (cel 1 (k - 1 : Nat))) (setD (setD hl k (tv (.v (cnt + 1)))) g (tv (.v (cnt + 1)))) (rk.set k (.bool true)) ls G)
  · apply snd_as
    apply snd_setitem
    walk_at "m e"
    walk_at "m e"
    walk_at "m e"
    exact .lst rfl (by (first | lia | omega)) (by rw [R.rl]; (first | lia | omega)) (by rw [R.rl]; (first | lia | omega))
    exact fun _ => rfl
    rw [Int.toNat_natCast]; rfl
  apply sx_seq (hp₁ := HL sc u2 p2 b C (rK (rK K k (cel 1 (k - 1 : Nat))) g (cel 1 (k - 1 : Nat))) (rX (rX X k (cel 1 (k - 1 : Nat))) g (cel 1 (k - 1 : Nat))) (setD (setD hl k (tv (.v (cnt + 1)))) g (tv (.v (cnt + 1)))) ((rk.set k (.bool true)).set g (.bool true)) ls G)
  · apply snd_as
    apply snd_setitem
    walk_at "m e"
    walk_at "m e"
    walk_at "m e"
    exact .lst rfl (by (first | lia | omega)) (by rw [List.length_set, R.rl]; (first | lia | omega)) (by rw [List.length_set, R.rl]; (first | lia | omega))
    exact fun _ => rfl
    rw [Int.toNat_natCast]; rfl
  apply sx_seq (hp₁ := HL sc u2 p2 b C (rK (rK K k (cel 1 (k - 1 : Nat))) g (cel 1 (k - 1 : Nat))) (rX (rX X k (cel 1 (k - 1 : Nat))) g (cel 1 (k - 1 : Nat))) (setD (setD hl k (tv (.v (cnt + 1)))) g (tv (.v (cnt + 1)))) ((rk.set k (.bool true)).set g (.bool true)) (ls ++ [tv (.v (cnt + 1))]) G)
  · apply snd_as
    apply snd_expr
    apply snd_mcall
    walk_at "m e"
    exact Meth.lst rfl PySem.F.slot_list_append PySem.F.type_list_append
    walk_at "m es"
    exact sndb_append rfl (by rw [R.ls, List.length_map]; (first | lia | omega))
    exact fun _ => ⟨_, rfl⟩
    exact fun _ => rfl
    rfl
  apply sx_nil
  have I1 := I.slotL (k := k) (m := cnt + 1) (r' := fun j => if j = k then true else r j) hk3 hk6 hkn mD mL (cnt' := cnt + 1) (by (first | lia | omega)) (Int.le_refl _) (fun j _ hj => (fr j).resolve_right (by (first | lia | omega))) (fun j hj e => by simpa [hj] using e) (by simp)
  have I2 := I1.put (k := g) (T := .v (cnt + 1)) (t := 1) (a := ((k - 1 : Nat) : Int)) (r' := fun j => if j = g then true else if j = k then true else r j) hg3 (.inr ⟨rfl, k, cnt + 1, hk3, hk6, rfl, rfl, updH_self⟩) (fun z => by simp at z) (fun j hj e => by simpa [hj] using e)
  have R2 := rel_set (rel_set R (k := k) (T := .v (cnt + 1)) true hk6 (Mb_up i) (Nat.le_succ i) ⟨Mb_pos _, Nat.zero_le _⟩) (k := g) (T := .v (cnt + 1)) true g6 (Nat.le_refl _) (Nat.le_refl _) ⟨Mb_pos _, Nat.zero_le _⟩
  have R3 : Rel 6 (Mb (i + 1)) (i + 1) _ _ (ls ++ [tv (.v (cnt + 1))]) _ _ (L ++ [cnt + 1]) := ⟨R2.hl, R2.rl, R2.rk, by rw [R.ls, List.map_append]; rfl, R2.bd⟩
  refine Nx.mk (l := FM (C.length : Int) (cnt + 1)) ?_ (TurnP.mk u2 p2 b C _ _ _ _ _ G _ _ (L ++ [cnt + 1]) (cnt + 1) lc D hp2 hb I2 R3 (by (first | lia | omega)) (by (first | lia | omega)) (by simp; (first | lia | omega)))
  walk_at "m wk"
theorem deed1 (hsc : sc.length ≤ 100) (hg3 : g < 3) (hi : i < 5) (hp : p ≤ sc.length) (hb : b = b0 ∨ b = b2) (I : Core b.F C K X H r L cnt C.length lc D) (R : Rel 6 (Mb i) i hl rk ls H r L) (hC : C.length ≤ 5 * i) (hhl : hl.length ≤ 5 * i) (hL : L.length ≤ i) :
    SX (d + 8) lawS (deed 1) (lk (FD g n1 n2 n3 (C.length : Int) (cnt + 1))) (HL sc u p b C K X hl rk ls G) (Post sc b0 b2 i) := by
  have xl := I.xl
  have g6 : g < 6 := by (first | lia | omega)
  obtain ⟨u2, p2, k, hp2, hk3, Pi⟩ := pickE (d := d + 7) (u := u) 3 (by decide) hsc hp
  have hk6 : k < 6 := by (first | lia | omega)
  have sl1 : (setD hl (k : Int) (tv (.v (cnt + 1)))).length ≤ hl.length + 1 := setD_len
  have sl2 : (setD (setD hl (k : Int) (tv (.v (cnt + 1)))) (g : Int) (tv (.v (cnt + 1)))).length ≤ (setD hl (k : Int) (tv (.v (cnt + 1)))).length + 1 := setD_len
  obtain ⟨I1, RT, gr, _⟩ := do_newvar I (by (first | lia | omega)) (m := cnt + 1) rfl
  apply sx_seq (hp₁ := HL sc u2 p2 b C K X hl rk ls G)
  · apply snd_asg
    · apply snd_ecall
      rfl
      walk_at "m kept"
      walk_at "m es"
      exact Pi
    exact .inl rfl
    rfl
    exact fun _ => rfl
  apply sx_seq (hp₁ := HL sc u2 p2 b (C ++ [(cel 0 C.length)]) (rK (rK K k (cel 0 C.length)) g (cel 0 C.length)) (rX (rX X k (cel 0 C.length)) g (cel 0 C.length)) hl rk ls G)
  · apply snd_expr
    apply snd_ecall
    rfl
    walk_at "m kept"
    · (apply snd_cons; rfl; walk_at "m e"; apply snd_cons; rfl; apply snd_tup; apply snd_cons; rfl; walk_at "m e"; apply snd_cons; rfl; apply snd_sub; walk_at "m e"; walk_at "m e"; exact .lst rfl (by (first | lia | omega)) (by (first | lia | omega)) (by rw [Int.toNat_natCast]; exact spots_at hk6); rfl; apply snd_cons; rfl; walk_at "m e"; apply snd_nil; exact Nat.le_of_ble_eq_true rfl; apply snd_nil)
    exact sp_putvarX (d := d + 4) hk3 g6 I.kl xl (by (first | lia | omega))
    exact fun _ => rfl
  apply sx_seq (hp₁ := HL sc u2 p2 b (C ++ [(cel 0 C.length)]) (rK (rK K k (cel 0 C.length)) g (cel 0 C.length)) (rX (rX X k (cel 0 C.length)) g (cel 0 C.length)) (setD hl k (tv (.v (cnt + 1)))) rk ls G)
  · apply snd_as
    apply snd_setitem
    walk_at "m e"
    walk_at "m e"
    walk_at "m e"
    exact .dI rfl (by (first | lia | omega))
    exact fun _ => rfl
    rfl
  apply sx_seq (hp₁ := HL sc u2 p2 b (C ++ [(cel 0 C.length)]) (rK (rK K k (cel 0 C.length)) g (cel 0 C.length)) (rX (rX X k (cel 0 C.length)) g (cel 0 C.length)) (setD (setD hl k (tv (.v (cnt + 1)))) g (tv (.v (cnt + 1)))) rk ls G)
  · apply snd_as
    apply snd_setitem
    walk_at "m e"
    walk_at "m e"
    walk_at "m e"
    exact .dI rfl (by (first | lia | omega))
    exact fun _ => rfl
    rfl
  apply sx_seq (hp₁ := HL sc u2 p2 b (C ++ [(cel 0 C.length)]) (rK (rK K k (cel 0 C.length)) g (cel 0 C.length)) (rX (rX X k (cel 0 C.length)) g (cel 0 C.length)) (setD (setD hl k (tv (.v (cnt + 1)))) g (tv (.v (cnt + 1)))) (rk.set k (.bool false)) ls G)
  · apply snd_as
    apply snd_setitem
    walk_at "m e"
    walk_at "m e"
    walk_at "m e"
    exact .lst rfl (by (first | lia | omega)) (by rw [R.rl]; (first | lia | omega)) (by rw [R.rl]; (first | lia | omega))
    exact fun _ => rfl
    rw [Int.toNat_natCast]; rfl
  apply sx_seq (hp₁ := HL sc u2 p2 b (C ++ [(cel 0 C.length)]) (rK (rK K k (cel 0 C.length)) g (cel 0 C.length)) (rX (rX X k (cel 0 C.length)) g (cel 0 C.length)) (setD (setD hl k (tv (.v (cnt + 1)))) g (tv (.v (cnt + 1)))) ((rk.set k (.bool false)).set g (.bool false)) ls G)
  · apply snd_as
    apply snd_setitem
    walk_at "m e"
    walk_at "m e"
    walk_at "m e"
    exact .lst rfl (by (first | lia | omega)) (by rw [List.length_set, R.rl]; (first | lia | omega)) (by rw [List.length_set, R.rl]; (first | lia | omega))
    exact fun _ => rfl
    rw [Int.toNat_natCast]; rfl
  apply sx_seq
  · apply snd_augname
    rfl
    walk_at "m e"
    exact .add _ _
    rfl
    rfl
  apply sx_nil
  have I2 := I1.put (k := k) (T := .v (cnt + 1)) (t := 0) (a := C.length) (r' := fun j => if j = k then false else r j) hk3 (.inl RT) (fun _ => by decide) (fun j hj e => by simpa [hj] using e)
  have I3 := (I2.put (k := g) (T := .v (cnt + 1)) (t := 0) (a := C.length) (r' := fun j => if j = g then false else if j = k then false else r j) hg3 (.inl RT) (fun _ => by decide) (fun j hj e => by simpa [hj] using e)).ease (cnt' := cnt + 1) (B' := ((C ++ [cel 0 C.length]).length : Int)) (Int.le_refl _) (by rw [len1I]; (first | lia | omega)) fun _ z => z
  have R2 := rel_set (rel_set R (k := k) (T := .v (cnt + 1)) false hk6 (Mb_up i) (Nat.le_succ i) ⟨Mb_pos _, Nat.zero_le _⟩) (k := g) (T := .v (cnt + 1)) false g6 (Nat.le_refl _) (Nat.le_refl _) ⟨Mb_pos _, Nat.zero_le _⟩
  refine Nx.mk (l := FM ((C ++ [cel 0 C.length]).length : Int) (cnt + 1)) ?_ (TurnP.mk u2 p2 b (C ++ [cel 0 C.length]) _ _ _ _ ls G _ _ L (cnt + 1) _ _ hp2 hb I3 R2 (by simp; (first | lia | omega)) (by (first | lia | omega)) (by (first | lia | omega)))
  rw [len1I]
  walk_at "m wk"
theorem deed2 (hsc : sc.length ≤ 100) (hg3 : g < 3) (hi : i < 5) (hp : p ≤ sc.length) (hb : b = b0 ∨ b = b2) (I : Core b.F C K X H r L cnt C.length lc D) (R : Rel 6 (Mb i) i hl rk ls H r L) (hC : C.length ≤ 5 * i) (hhl : hl.length ≤ 5 * i) (hL : L.length ≤ i) (hG : G[n1]? = some (.list ((([0, 1, 2, 3, 4, 5] : List Int).filter fun k => (hl.lookup k).isSome).map .int))) (hne : 0 < (([0, 1, 2, 3, 4, 5] : List Int).filter fun k => (hl.lookup k).isSome).length) :
    SX (d + 8) lawS (deed 2) (lk (FD g n1 n2 n3 (C.length : Int) (cnt + 1))) (HL sc u p b C K X hl rk ls G) (Post sc b0 b2 i) := by
  have xl := I.xl
  have g6 : g < 6 := by (first | lia | omega)
  generalize hbe : (([0, 1, 2, 3, 4, 5] : List Int).filter fun k => (hl.lookup k).isSome) = oth at hG hne
  have hol : oth.length ≤ 6 := by rw [← hbe]; exact Nat.le_trans (List.length_filter_le _ _) (by decide)
  obtain ⟨u2, p2, q, hp2, hq, Pi⟩ := pickE (d := d + 7) (u := u) oth.length hne hsc hp
  obtain ⟨k, hk1, hk6, hkp, hkm⟩ := filt_at (p := fun k => (hl.lookup k).isSome) six (i := q) (by rw [hbe]; exact hq)
  rw [hbe] at hk1
  have hkl := R.hl k hk6 (by (first | lia | omega))
  obtain ⟨T, hT, hTl⟩ := held_of hkl hkp
  obtain ⟨t, a, e1, e2, e3⟩ := I.val k hk6 T hT
  have hTb := R.bd k T hT
  have sl1 : (setD hl (g : Int) (tv T)).length ≤ hl.length + 1 := setD_len
  apply sx_seq (hp₁ := HL sc u2 p2 b C K X hl rk ls G)
  · apply snd_asg
    · apply snd_sub
      walk_at "m e"
      · apply snd_ecall
        rfl
        walk_at "m kept"
        · apply snd_cons
          rfl
          walk_at "m e"
          apply snd_cons
          rfl
          · apply snd_ecall
            rfl
            walk_at "m kept"
            walk_at "m es"
            exact sndb_lenL (show (HL sc u p b C K X hl rk ls G)[n1 + 21]? = _ from hG) (by rw [List.length_map]; (first | lia | omega))
          apply snd_nil
        rw [List.length_map]
        exact Pi
      · exact .lst (show (HL sc u2 p2 b C K X hl rk ls G)[n1 + 21]? = _ from hG) (by (first | lia | omega)) (by (first | lia | omega)) (by rw [Int.toNat_natCast]; exact hk1)
      rfl
    exact .inl rfl
    rfl
    exact fun _ => rfl
  apply sx_seq (hp₁ := HL sc u2 p2 b C (rK K g (cel t a)) (rX X g (cel t a)) hl rk ls G)
  · apply snd_expr
    apply snd_ecall
    rfl
    walk_at "m kept"
    · (apply snd_cons; rfl; walk_at "m e"; apply snd_cons; rfl; apply snd_tup; apply snd_cons; rfl; walk_at "m e"; apply snd_cons; rfl; apply snd_sub; walk_at "m e"; walk_at "m e"; exact .lst rfl (by (first | lia | omega)) (by (first | lia | omega)) (by rw [Int.toNat_natCast]; exact spots_at hk6); rfl; apply snd_cons; rfl; walk_at "m e"; apply snd_nil; exact Nat.le_of_ble_eq_true rfl; apply snd_nil)
    exact sp_putval (d := d + 4) hk6 g6 e1 I.kl (by (first | lia | omega))
    exact fun _ => rfl
  apply sx_seq (hp₁ := HL sc u2 p2 b C (rK K g (cel t a)) (rX X g (cel t a)) (setD hl g (tv T)) rk ls G)
  · apply snd_as
    apply snd_setitem
    · apply snd_sub
      walk_at "m e"
      walk_at "m e"
      exact .dI rfl hTl
      rfl
    walk_at "m e"
    walk_at "m e"
    exact .dI rfl (by (first | lia | omega))
    exact fun _ => rfl
    rfl
  apply sx_seq (hp₁ := HL sc u2 p2 b C (rK K g (cel t a)) (rX X g (cel t a)) (setD hl g (tv T)) (rk.set g (.bool (r k))) ls G)
  · apply snd_as
    apply snd_setitem
    · apply snd_sub
      walk_at "m e"
      walk_at "m e"
      exact .lst rfl (by (first | lia | omega)) (by (first | lia | omega)) (by rw [Int.toNat_natCast]; exact R.rk k hk6)
      rfl
    walk_at "m e"
    walk_at "m e"
    exact .lst rfl (by (first | lia | omega)) (by rw [R.rl]; (first | lia | omega)) (by rw [R.rl]; (first | lia | omega))
    exact fun _ => rfl
    rw [Int.toNat_natCast]; rfl
  apply sx_nil
  have I2 := (I.put (k := g) (T := T) (t := t) (a := a) (r' := fun j => if j = g then r k else r j) hg3 e2 (fun z => e3 (by simpa using z)) (fun j hj e => by simpa [hj] using e)).ease (cnt' := cnt + 1) (by (first | lia | omega)) (Int.le_refl _) fun _ z => z
  refine Nx.mk (l := FM (C.length : Int) (cnt + 1)) ?_ (TurnP.mk u2 p2 b C _ _ _ _ ls G _ _ L (cnt + 1) lc D hp2 hb I2 (rel_set R (r k) g6 (Mb_up i) (by (first | lia | omega)) ⟨by have := Mb_up i; (first | lia | omega), by (first | lia | omega)⟩) (by (first | lia | omega)) (by (first | lia | omega)) (by (first | lia | omega)))
  walk_at "m wk"
theorem deed3 (hsc : sc.length ≤ 100) (hg3 : g < 3) (hi : i < 5) (hp : p ≤ sc.length) (hb : b = b0 ∨ b = b2) (I : Core b.F C K X H r L cnt C.length lc D) (R : Rel 6 (Mb i) i hl rk ls H r L) (hC : C.length ≤ 5 * i) (hhl : hl.length ≤ 5 * i) (hL : L.length ≤ i) (hG : G[n3]? = some (.list ((([3, 4, 5] : List Int).filter fun k => (hl.lookup k).isSome).map .int))) (hne : 0 < (([3, 4, 5] : List Int).filter fun k => (hl.lookup k).isSome).length) :
    SX (d + 8) lawS (deed 3) (lk (FD g n1 n2 n3 (C.length : Int) (cnt + 1))) (HL sc u p b C K X hl rk ls G) (Post sc b0 b2 i) := by
  have xl := I.xl
  have g6 : g < 6 := by (first | lia | omega)
  generalize hbe : (([3, 4, 5] : List Int).filter fun k => (hl.lookup k).isSome) = oth at hG hne
  have hol : oth.length ≤ 6 := by rw [← hbe]; exact Nat.le_trans (List.length_filter_le _ _) (by decide)
  obtain ⟨u2, p2, q, hp2, hq, Pi⟩ := pickE (d := d + 7) (u := u) oth.length hne hsc hp
  obtain ⟨k, hk1, hk6, hkp, hkm⟩ := filt_at (p := fun k => (hl.lookup k).isSome) three (i := q) (by rw [hbe]; exact hq)
  rw [hbe] at hk1
  have hkl := R.hl k hk6 (by (first | lia | omega))
  obtain ⟨T, hT, hTl⟩ := held_of hkl hkp
  have hTb := R.bd k T hT
  have sl1 : (setD hl (g : Int) (tv T)).length ≤ hl.length + 1 := setD_len
  have rg : ∀ v : V, (rX X g v)[g + 1]? = some v := fun v => by
    rcases getR_x (K := K) (v := v) hg3 xl (by (first | lia | omega) : g < 6) with e | e
    · unfold getR at e; rw [if_pos hg3, if_pos rfl] at e; exact e
    · exact absurd rfl e.1
  have hpl : ∀ v ∈ ls, pv 20 v = true := fun v hv => by
    rw [R.ls] at hv
    obtain ⟨m, _, rfl⟩ := List.mem_map.mp hv
    exact pv_ht _ _ (by show 2 * 0 + 1 ≤ 20; (first | lia | omega))
  have hpT : pv 20 (tv T) = true := pv_ht _ _ (by (first | lia | omega))
  apply sx_seq (hp₁ := HL sc u2 p2 b C K X hl rk ls G)
  · apply snd_asg
    · apply snd_sub
      walk_at "m e"
      · apply snd_ecall
        rfl
        walk_at "m kept"
        · apply snd_cons
          rfl
          walk_at "m e"
          apply snd_cons
          rfl
          · apply snd_ecall
            rfl
            walk_at "m kept"
            walk_at "m es"
            exact sndb_lenL (show (HL sc u p b C K X hl rk ls G)[n3 + 21]? = _ from hG) (by rw [List.length_map]; (first | lia | omega))
          apply snd_nil
        rw [List.length_map]
        exact Pi
      · exact .lst (show (HL sc u2 p2 b C K X hl rk ls G)[n3 + 21]? = _ from hG) (by (first | lia | omega)) (by (first | lia | omega)) (by rw [Int.toNat_natCast]; exact hk1)
      rfl
    exact .inl rfl
    rfl
    exact fun _ => rfl
  rcases I.look (by (first | lia | omega)) hk6 hT with ⟨m, k', t, a, hTm, hm, h3, h6, hk', hKk, hR, hd⟩ | ⟨t, a, q2, s2, hR, hd, hq2, RT, hn⟩
  · obtain ⟨x, i1, i2⟩ := first_at hm
    obtain ⟨e1, e2⟩ := erase_mem I.ln i1
    have I1 := I.bind (by (first | lia | omega)) hm h3 h6 hk' e1 e2
    have kl := I.kl
    have ll : (L.eraseIdx x).length ≤ L.length := List.length_eraseIdx_le _ _
    apply sx_seq (hp₁ := HL sc u2 p2 b (C ++ [cel 0 C.length]) (rK (K.set ((k' - 1 : Nat) : Int).toNat (cel 0 C.length)) g (cel 0 C.length)) (rX X g (cel 0 C.length)) hl rk ls G)
    · apply snd_expr
      apply snd_ecall
      rfl
      walk_at "m kept"
      · (apply snd_cons; rfl; walk_at "m e"; apply snd_cons; rfl; apply snd_tup; apply snd_cons; rfl; walk_at "m e"; apply snd_cons; rfl; apply snd_sub; walk_at "m e"; walk_at "m e"; exact .lst rfl (by (first | lia | omega)) (by (first | lia | omega)) (by rw [Int.toNat_natCast]; exact spots_at hk6); rfl; apply snd_cons; rfl; walk_at "m e"; apply snd_nil; exact Nat.le_of_ble_eq_true rfl; apply snd_nil)
      exact sp_putunsS (d := d + 3) hk6 g6 hR hd (by (first | lia | omega)) (by (first | lia | omega)) (by (first | lia | omega)) kl (by (first | lia | omega))
      exact fun _ => rfl
    refine sx_cons (s1_mono (Q := fun fl fr₁ hp₁ => fl = .nx ∧ (∀ y v, lk (("k", .int k) :: FD g n1 n2 n3 ((C ++ [cel 0 C.length]).length : Int) (cnt + 1)) y = some v → fr₁ y = some v) ∧ hp₁ = HL sc u2 p2 b (C ++ [cel 0 C.length]) (rK (K.set ((k' - 1 : Nat) : Int).toNat (cel 0 C.length)) g (cel 0 C.length)) (rX X g (cel 0 C.length)) hl rk ((L.eraseIdx x).map fun m => tv (.v m)) G) ?goA ?goB)
    case goA =>
      apply s1_ifT (b := true)
      · apply snd_tcmp
        · apply snd_sub
          walk_at "m e"
          walk_at "m e"
          exact .dI rfl hTl
          rfl
        walk_at "m e"
        exact .inL (b := true) rfl hpl hpT ⟨fun _ => by rw [R.ls, in_loose]; exact ⟨m, hm, hTm⟩, fun _ => rfl⟩
        rfl
      · rfl
      · apply sx_seq (hp₁ := HL sc u2 p2 b (C ++ [cel 0 C.length]) (rK (K.set ((k' - 1 : Nat) : Int).toNat (cel 0 C.length)) g (cel 0 C.length)) (rX X g (cel 0 C.length)) hl rk ((L.eraseIdx x).map fun m => tv (.v m)) G)
        · apply snd_as
          apply snd_expr
          apply snd_mcall
          walk_at "m e"
          exact Meth.lst rfl PySem.F.slot_list_remove PySem.F.type_list_remove
          · apply snd_cons
            rfl
            apply snd_sub
            walk_at "m e"
            walk_at "m e"
            exact .dI rfl hTl
            rfl
            apply snd_nil
          · refine sndb_remove (j := x) (l := ls) rfl (by rw [R.ls, List.length_map]; (first | lia | omega)) hpl hpT (by rw [R.ls, List.getElem?_map, i1, hTm]; rfl) (fun y hy e => ?_)
            rw [R.ls, List.getElem?_map, hTm] at e
            cases ex : L[y]? with
            | none => rw [ex] at e; cases e
            | some z =>
              rw [ex] at e
              have := Option.some.inj e
              simp [tv] at this
              subst this
              exact i2 y hy ex
          exact fun _ => ⟨_, rfl⟩
          exact fun _ => rfl
          · rw [R.ls, eraseIdx_map]; rfl
        apply sx_seq
        · apply snd_augname
          rfl
          walk_at "m e"
          exact .add _ _
          rfl
          rfl
        apply sx_nil
        refine ⟨rfl, ?_, rfl⟩
        rw [len1I]
        walk_at "m wk"
    case goB =>
      rintro fl fr1 hp₁ ⟨rfl, wk, rfl⟩
      refine ⟨rfl, ?_⟩
      apply sx_weak (q := wk)
      have hXg : (rX X g (cel 0 C.length))[g + 1]? = some (cel 0 C.length) := rg _
      apply sx_seq (hp₁ := HL sc u2 p2 b (C ++ [cel 0 C.length]) (rK (K.set ((k' - 1 : Nat) : Int).toNat (cel 0 C.length)) g (cel 0 C.length)) (rX X g (cel 0 C.length)) (setD hl g (tv T)) rk ((L.eraseIdx x).map fun m => tv (.v m)) G)
      · apply snd_as
        apply snd_setitem
        · apply snd_sub
          walk_at "m e"
          walk_at "m e"
          exact .dI rfl hTl
          rfl
        walk_at "m e"
        walk_at "m e"
        exact .dI rfl (by (first | lia | omega))
        exact fun _ => rfl
        rfl
      apply sx_seq (hp₁ := HL sc u2 p2 b (C ++ [cel 0 C.length]) (rK (K.set ((k' - 1 : Nat) : Int).toNat (cel 0 C.length)) g (cel 0 C.length)) (rX X g (cel 0 C.length)) (setD hl g (tv T)) (rk.set g (.bool false)) ((L.eraseIdx x).map fun m => tv (.v m)) G)
      · apply snd_as
        apply snd_setitem
        walk_at "m e"
        walk_at "m e"
        walk_at "m e"
        exact .lst rfl (by (first | lia | omega)) (by rw [R.rl]; (first | lia | omega)) (by rw [R.rl]; (first | lia | omega))
        exact fun _ => rfl
        rw [Int.toNat_natCast]; rfl
      apply sx_seq (hp₁ := HL sc u2 p2 b (C ++ [cel 0 C.length]) (rK (K.set ((k' - 1 : Nat) : Int).toNat (cel 0 C.length)) g (cel 0 C.length)) (rX X g (cel 0 C.length)) (setD hl g (tv T)) (rk.set g (.bool false)) ((L.eraseIdx x).map fun m => tv (.v m)) G)
      · apply snd_ifF'
        · apply snd_tcmp
          · apply snd_sub
            · apply snd_sub
              walk_at "m e"
              · apply snd_sub (a := .tup [.str "x", .int (g + 1 : Nat)])
                · apply snd_name
                  show some (opd g) = _
                  rw [opd_x hg3]
                walk_at "m e"
                exact .tup (by decide) (by decide) rfl
                rfl
              · exact .lst rfl (by (first | lia | omega)) (by (first | lia | omega)) (by rw [Int.toNat_natCast]; exact hXg)
              rfl
            walk_at "m e"
            exact .tup (by decide) (by decide) rfl
            rfl
          walk_at "m e"
          exact .eqI _ _ _
          rfl
        · rfl
        · apply snd_end
      apply sx_nil
      have RTv : Rep (C ++ [cel 0 C.length]) b.F (upd lc m C.length) (m :: D) C.length T 0 C.length := by
        rw [hTm]
        have := Rep.var (C := C ++ [cel 0 C.length]) (F := b.F) (lc := upd lc m C.length) (D := m :: D) (B := C.length) (n := m) (.head _)
        rw [upd_self] at this
        exact this (by (first | lia | omega)) (by (first | lia | omega)) (by simp)
      have I2 := I1.put (k := g) (T := T) (t := 0) (a := C.length) (r' := fun j => if j = g then false else r j) hg3 (.inl RTv) (fun _ => by decide) (fun j hj e => by simpa [hj] using e)
      rw [show K.set (k' - 1) (cel 0 C.length) = K.set ((k' - 1 : Nat) : Int).toNat (cel 0 C.length) by rw [Int.toNat_natCast]] at I2
      have I3 := I2.ease (cnt' := cnt + 1) (B' := ((C ++ [cel 0 C.length]).length : Int)) (by (first | lia | omega)) (by rw [len1I]; (first | lia | omega)) fun _ z => z
      have R3 : Rel 6 (Mb (i + 1)) (i + 1) (setD hl g (tv T)) (rk.set g (.bool false)) ((L.eraseIdx x).map fun m => tv (.v m)) (updH H g (some T)) (fun j => if j = g then false else r j) (L.eraseIdx x) := by
        have R2 := rel_set R (k := g) (T := T) false g6 (Mb_up i) (Nat.le_succ i) ⟨by have := Mb_up i; (first | lia | omega), by (first | lia | omega)⟩
        exact ⟨R2.hl, R2.rl, R2.rk, rfl, R2.bd⟩
      refine Nx.mk (l := FM ((C ++ [cel 0 C.length]).length : Int) (cnt + 1)) ?_ (TurnP.mk u2 p2 b (C ++ [cel 0 C.length]) _ _ _ _ _ G _ _ (L.eraseIdx x) (cnt + 1) _ _ hp2 hb I3 R3 (by simp; (first | lia | omega)) (by (first | lia | omega)) (by (first | lia | omega)))
      walk_at "m wk"
  · have hcond : True := trivial
    apply sx_seq (hp₁ := HL sc u2 p2 b C (rK K g (cel q2 s2)) (rX X g (cel q2 s2)) hl rk ls G)
    · apply snd_expr
      apply snd_ecall
      rfl
      walk_at "m kept"
      · (apply snd_cons; rfl; walk_at "m e"; apply snd_cons; rfl; apply snd_tup; apply snd_cons; rfl; walk_at "m e"; apply snd_cons; rfl; apply snd_sub; walk_at "m e"; walk_at "m e"; exact .lst rfl (by (first | lia | omega)) (by (first | lia | omega)) (by rw [Int.toNat_natCast]; exact spots_at hk6); rfl; apply snd_cons; rfl; walk_at "m e"; apply snd_nil; exact Nat.le_of_ble_eq_true rfl; apply snd_nil)
      exact sp_putunsV (d := d + 3) hk6 g6 hR hd hq2 I.kl (by (first | lia | omega))
      exact fun _ => rfl
    apply sx_seq (hp₁ := HL sc u2 p2 b C (rK K g (cel q2 s2)) (rX X g (cel q2 s2)) hl rk ls G)
    · apply snd_ifF'
      · apply snd_tcmp
        · apply snd_sub
          walk_at "m e"
          walk_at "m e"
          exact .dI rfl hTl
          rfl
        walk_at "m e"
        exact .inL (b := false) rfl hpl hpT ⟨(fun z => nomatch z), fun z => by rw [R.ls, in_loose] at z; obtain ⟨m, hm, e⟩ := z; exact absurd hm (hn m e)⟩
        rfl
      · rfl
      · apply snd_end
    have hXg : (rX X g (cel q2 s2))[g + 1]? = some (cel q2 s2) := rg _
    apply sx_seq (hp₁ := HL sc u2 p2 b C (rK K g (cel q2 s2)) (rX X g (cel q2 s2)) (setD hl g (tv T)) rk ls G)
    · apply snd_as
      apply snd_setitem
      · apply snd_sub
        walk_at "m e"
        walk_at "m e"
        exact .dI rfl hTl
        rfl
      walk_at "m e"
      walk_at "m e"
      exact .dI rfl (by (first | lia | omega))
      exact fun _ => rfl
      rfl
    apply sx_seq (hp₁ := HL sc u2 p2 b C (rK K g (cel q2 s2)) (rX X g (cel q2 s2)) (setD hl g (tv T)) (rk.set g (.bool false)) ls G)
    · apply snd_as
      apply snd_setitem
      walk_at "m e"
      walk_at "m e"
      walk_at "m e"
      exact .lst rfl (by (first | lia | omega)) (by rw [R.rl]; (first | lia | omega)) (by rw [R.rl]; (first | lia | omega))
      exact fun _ => rfl
      rw [Int.toNat_natCast]; rfl
    apply sx_seq (hp₁ := HL sc u2 p2 b C (rK K g (cel q2 s2)) (rX X g (cel q2 s2)) (setD hl g (tv T)) (rk.set g (.bool false)) ls G)
    · apply snd_ifF'
      · apply snd_tcmp
        · apply snd_sub
          · apply snd_sub
            walk_at "m e"
            · apply snd_sub (a := .tup [.str "x", .int (g + 1 : Nat)])
              · apply snd_name
                show some (opd g) = _
                rw [opd_x hg3]
              walk_at "m e"
              exact .tup (by decide) (by decide) rfl
              rfl
            · exact .lst rfl (by (first | lia | omega)) (by (first | lia | omega)) (by rw [Int.toNat_natCast]; exact hXg)
            rfl
          walk_at "m e"
          exact .tup (by decide) (by decide) rfl
          rfl
        walk_at "m e"
        exact .eqI _ _ _
        rfl
      · exact (by simpa using hq2)
      · apply snd_end
    apply sx_nil
    have I3 := (I.put (k := g) (T := T) (t := q2) (a := s2) (r' := fun j => if j = g then false else r j) hg3 (.inl RT) (fun _ => hq2) (fun j hj e => by simpa [hj] using e)).ease (cnt' := cnt + 1) (by (first | lia | omega)) (Int.le_refl _) fun _ z => z
    have R3 : Rel 6 (Mb (i + 1)) (i + 1) (setD hl g (tv T)) (rk.set g (.bool false)) ls (updH H g (some T)) (fun j => if j = g then false else r j) L := by
      have R2 := rel_set R (k := g) (T := T) false g6 (Mb_up i) (Nat.le_succ i) ⟨by have := Mb_up i; (first | lia | omega), by (first | lia | omega)⟩
      exact ⟨R2.hl, R2.rl, R2.rk, R.ls, R2.bd⟩
    refine Nx.mk (l := FM (C.length : Int) (cnt + 1)) ?_ (TurnP.mk u2 p2 b C _ _ _ _ _ G _ _ L (cnt + 1) _ _ hp2 hb I3 R3 (by (first | lia | omega)) (by (first | lia | omega)) (by (first | lia | omega)))
    walk_at "m wk"

end

end

section
variable [HasK] [HasF]
omit [HasK] [HasF] in
theorem getG {G : List O} {x y : O} : (G ++ [x] ++ [y])[G.length]? = some x := by simp
section
variable {d : Nat} {sc : List Int} {b0 b1 b2 : Bk} {fh fg : Nat} {i : Nat}
set_option maxHeartbeats 4000000 in
theorem main_turn (BK : BkOk b0 b1 b2 fh fg) (hsc : sc.length ≤ 100) (hi : i < 5) {l : List (Str × V)} {hp : List O} (P : TurnP sc b0 b2 i l hp) :
    SX (d + 8) lawS loopB (lk (("step", .int (0 + (i : Int) * 1)) :: l)) hp (Nx (TurnP sc b0 b2 (i + 1))) := by
  refine TurnP.elim P fun u p b C K X hl rk ls G H r L cnt lc D hp hb I R hC hhl hL => ?_
  obtain ⟨u1, p1, g, hp1, hg3, P1⟩ := pickE (d := d + 7) (u := u) 3 (by decide) hsc hp
  obtain ⟨u2, p2, wy, hp2, hwy, P2⟩ := pickE (d := d + 7) (u := u1) 7 (by decide) hsc hp1
  apply sx_seq (hp₁ := HL sc u1 p1 b C K X hl rk ls G)
  · apply snd_asg
    · apply snd_ecall
      rfl
      walk_at "m kept"
      walk_at "m es"
      exact P1
    exact .inr rfl
    rfl
    exact fun _ => rfl
  apply sx_seq (hp₁ := HL sc u1 p1 b C K X hl rk ls G)
  · apply snd_asg (v := opd g)
    · apply snd_sub
      walk_at "m e"
      walk_at "m e"
      exact .lst rfl (by (first | lia | omega)) (by (first | lia | omega)) (by rw [Int.toNat_natCast]; exact spots_at (by (first | lia | omega)))
      rfl
    exact .inl rfl
    rfl
    exact fun _ => rfl
  apply sx_seq (hp₁ := HL sc u2 p2 b C K X hl rk ls G)
  · apply snd_asg
    · apply snd_ecall
      rfl
      walk_at "m kept"
      walk_at "m es"
      exact P2
    exact .inl rfl
    rfl
    exact fun _ => rfl
  apply sx_seq (hp₁ := HL sc u2 p2 b C K X hl rk ls (G ++ [.list ((([0, 1, 2, 3, 4, 5] : List Int).filter fun k => (hl.lookup k).isSome).map .int)]))
  · apply snd_asgC (ct := some _) (gl := [("held", .ref 17)])
    case hsrc =>
      apply src_range [6]
      rfl
      walk_at "m es"
      rfl
      exact .one _
      rfl
      rfl
    case K => exact ⟨rfl, by decide, by decide, by decide, rfl, rfl, rfl, mem1 (.inl ⟨rfl, rfl, rfl⟩)⟩
    case hif => rfl
    case Cp =>
      refine cps_filter (fun k => (hl.lookup k).isSome) [0, 1, 2, 3, 4, 5] [] (fun k _ acc => ?_) (by decide)
      apply snd_tcmp
      walk_at "m e"
      walk_at "m e"
      exact .inD rfl
      rfl
    case hs => exact fun _ _ => rfl
    case hy => rfl
    case hyd => rfl
    case hw => rfl
  generalize hkn : ((([0, 1, 2, 3, 4, 5] : List Int).filter fun k => (hl.lookup k).isSome).map V.int) = KL
  apply sx_seq (hp₁ := HL sc u2 p2 b C K X hl rk ls (G ++ [.list KL] ++ [.list ((([3, 4, 5] : List Int).filter fun k => !(hl.lookup k).isSome).map .int)]))
  · apply snd_asgC (ct := some _) (gl := [("held", .ref 17)])
    case hsrc =>
      apply src_range [3, 6]
      rfl
      walk_at "m es"
      rfl
      exact .two _ _
      rfl
      rfl
    case K => exact ⟨rfl, by decide, by decide, by decide, rfl, rfl, rfl, mem1 (.inl ⟨rfl, rfl, rfl⟩)⟩
    case hif => rfl
    case Cp =>
      refine cps_filter (fun k => !(hl.lookup k).isSome) [3, 4, 5] [] (fun k _ acc => ?_) (by decide)
      apply snd_tcmp
      walk_at "m e"
      walk_at "m e"
      exact .niD rfl
      rfl
    case hs => exact fun _ _ => rfl
    case hy => rfl
    case hyd => rfl
    case hw => rfl
  generalize hbn : ((([3, 4, 5] : List Int).filter fun k => !(hl.lookup k).isSome).map V.int) = BL
  apply sx_seq (hp₁ := HL sc u2 p2 b C K X hl rk ls (G ++ [.list KL] ++ [.list BL] ++ [.list ((([3, 4, 5] : List Int).filter fun k => (hl.lookup k).isSome).map .int)]))
  · apply snd_asgC (ct := some _) (gl := [("held", .ref 17)])
    case hsrc =>
      apply src_range [3, 6]
      rfl
      walk_at "m es"
      rfl
      exact .two _ _
      rfl
      rfl
    case K => exact ⟨rfl, by decide, by decide, by decide, rfl, rfl, rfl, mem1 (.inl ⟨rfl, rfl, rfl⟩)⟩
    case hif => rfl
    case Cp =>
      refine cps_filter (fun k => (hl.lookup k).isSome) [3, 4, 5] [] (fun k _ acc => ?_) (by decide)
      apply snd_tcmp
      walk_at "m e"
      walk_at "m e"
      exact .inD rfl
      rfl
    case hs => exact fun _ _ => rfl
    case hy => rfl
    case hyd => rfl
    case hw => rfl
  generalize hfn : ((([3, 4, 5] : List Int).filter fun k => (hl.lookup k).isSome).map V.int) = FL
  apply sx_seq
  · apply snd_augname
    rfl
    walk_at "m e"
    exact .add _ _
    rfl
    rfl
  apply sx_weak (fr₁ := lk (("way", .int wy) :: FD g G.length (G ++ [O.list KL]).length (G ++ [O.list KL] ++ [O.list BL]).length (C.length : Int) (cnt + 1)))
  case q => walk_at "m wk"
  have g1 : (G ++ [O.list KL] ++ [O.list BL] ++ [O.list FL])[G.length]? = some (.list KL) := by simp
  have g2 : (G ++ [O.list KL] ++ [O.list BL] ++ [O.list FL])[(G ++ [O.list KL]).length]? = some (.list BL) := by simp
  have g3 : (G ++ [O.list KL] ++ [O.list BL] ++ [O.list FL])[(G ++ [O.list KL] ++ [O.list BL]).length]? = some (.list FL) := by simp
  generalize (G ++ [O.list KL] ++ [O.list BL] ++ [O.list FL]) = G3 at g1 g2 g3
  generalize (G ++ [O.list KL] ++ [O.list BL]).length = n3 at g3
  generalize (G ++ [O.list KL]).length = n2 at g2
  generalize G.length = n1 at g1
  have kll : KL.length ≤ 6 := by rw [← hkn, List.length_map]; exact Nat.le_trans (List.length_filter_le _ _) (by decide)
  have bll : BL.length ≤ 6 := by rw [← hbn, List.length_map]; exact Nat.le_trans (List.length_filter_le _ _) (by decide)
  have fll : FL.length ≤ 6 := by rw [← hfn, List.length_map]; exact Nat.le_trans (List.length_filter_le _ _) (by decide)
  refine sx_cons (s1_mono (Q := Post sc b0 b2 i) ?goA ?goB)
  case goB =>
    intro fl fr1 hp₁ P'
    refine Nx.elim P' fun l' wk P' => ⟨rfl, ?_⟩
    apply sx_weak (q := wk)
    refine TurnP.elim P' fun u' p' b' C' K' X' hl' rk' ls' G' H' r' L' cnt' lc' D' z1 z2 z3 z4 z5 z6 z7 => ?_
    apply sx_seq (hp₁ := HL sc u' p' b' C' K' X' hl' rk' ls' G')
    · apply snd_ifF'
      · apply snd_tcmp
        · apply snd_ecall
          rfl
          walk_at "m kept"
          walk_at "m es"
          exact sndb_lenL rfl (by have := z5; (first | lia | omega))
        walk_at "m e"
        exact .neI _ _ _
        rfl
      · simp
      · apply snd_end
    apply sx_nil
    exact Nx.mk (fun _ _ e => e) (TurnP.mk u' p' b' C' K' X' hl' rk' ls' G' H' r' L' cnt' lc' D' z1 z2 z3 z4 z5 z6 z7)
  case goA =>
    refine s1_if (hp₁ := HL sc u2 p2 b C K X hl rk ls G3) (b := ((wy : Int) == 0) && decide (0 < (BL.length : Int))) ?e_t0 (fun h0 => ?e_a0) (fun h0 => ?e_b0)
    case e_t0 =>
      apply snd_tand2
      · apply snd_tcmp
        walk_at "m e"
        walk_at "m e"
        exact .eqI _ _ _
        rfl
      · apply snd_tcmp
        · apply snd_ecall
          rfl
          walk_at "m kept"
          walk_at "m es"
          exact sndb_lenL (show (HL sc u2 p2 b C K X hl rk ls G3)[n2 + 21]? = _ from g2) (by (first | lia | omega))
        walk_at "m e"
        exact .gtI _ _ _
        rfl
    case e_a0 =>
      rw [Bool.and_eq_true] at h0
      have hne : 0 < BL.length := by have := of_decide_eq_true h0.2; (first | lia | omega)
      rw [← hbn, List.length_map] at hne
      apply sx_weak (fr₁ := lk (FD g n1 n2 n3 (C.length : Int) (cnt + 1)))
      case q => walk_at "m wk"
      exact deed0 hsc hg3 hi hp2 hb I R hC hhl hL (by rw [hbn]; exact g2) hne
    case e_b0 =>
      apply sx_one
      refine s1_if (hp₁ := HL sc u2 p2 b C K X hl rk ls G3) (b := (wy : Int) == 1) ?e_t1 (fun h1 => ?e_a1) (fun h1 => ?e_b1)
      case e_t1 =>
        apply snd_tcmp
        walk_at "m e"
        walk_at "m e"
        exact .eqI _ _ _
        rfl
      case e_a1 =>
        apply sx_weak (fr₁ := lk (FD g n1 n2 n3 (C.length : Int) (cnt + 1)))
        case q => walk_at "m wk"
        exact deed1 hsc hg3 hi hp2 hb I R hC hhl hL
      case e_b1 =>
        apply sx_one
        refine s1_if (hp₁ := HL sc u2 p2 b C K X hl rk ls G3) (b := ((wy : Int) == 2) && decide (0 < (KL.length : Int))) ?e_t2 (fun h2 => ?e_a2) (fun h2 => ?e_b2)
        case e_t2 =>
          apply snd_tand2
          · apply snd_tcmp
            walk_at "m e"
            walk_at "m e"
            exact .eqI _ _ _
            rfl
          · apply snd_tcmp
            · apply snd_ecall
              rfl
              walk_at "m kept"
              walk_at "m es"
              exact sndb_lenL (show (HL sc u2 p2 b C K X hl rk ls G3)[n1 + 21]? = _ from g1) (by (first | lia | omega))
            walk_at "m e"
            exact .gtI _ _ _
            rfl
        case e_a2 =>
          rw [Bool.and_eq_true] at h2
          have hne : 0 < KL.length := by have := of_decide_eq_true h2.2; (first | lia | omega)
          rw [← hkn, List.length_map] at hne
          apply sx_weak (fr₁ := lk (FD g n1 n2 n3 (C.length : Int) (cnt + 1)))
          case q => walk_at "m wk"
          exact deed2 hsc hg3 hi hp2 hb I R hC hhl hL (by rw [hkn]; exact g1) hne
        case e_b2 =>
          apply sx_one
          refine s1_if (hp₁ := HL sc u2 p2 b C K X hl rk ls G3) (b := ((wy : Int) == 3) && decide (0 < (FL.length : Int))) ?e_t3 (fun h3 => ?e_a3) (fun h3 => ?e_b3)
          case e_t3 =>
            apply snd_tand2
            · apply snd_tcmp
              walk_at "m e"
              walk_at "m e"
              exact .eqI _ _ _
              rfl
            · apply snd_tcmp
              · apply snd_ecall
                rfl
                walk_at "m kept"
                walk_at "m es"
                exact sndb_lenL (show (HL sc u2 p2 b C K X hl rk ls G3)[n3 + 21]? = _ from g3) (by (first | lia | omega))
              walk_at "m e"
              exact .gtI _ _ _
              rfl
          case e_a3 =>
            rw [Bool.and_eq_true] at h3
            have hne : 0 < FL.length := by have := of_decide_eq_true h3.2; (first | lia | omega)
            rw [← hfn, List.length_map] at hne
            apply sx_weak (fr₁ := lk (FD g n1 n2 n3 (C.length : Int) (cnt + 1)))
            case q => walk_at "m wk"
            exact deed3 hsc hg3 hi hp2 hb I R hC hhl hL (by rw [hfn]; exact g3) hne
          case e_b3 =>
            apply sx_one
            refine s1_if (hp₁ := HL sc u2 p2 b C K X hl rk ls G3) (b := (wy : Int) == 4) ?e_t4 (fun h4 => ?e_a4) (fun h4 => ?e_b4)
            case e_t4 =>
              apply snd_tcmp
              walk_at "m e"
              walk_at "m e"
              exact .eqI _ _ _
              rfl
            case e_a4 =>
              apply sx_weak (fr₁ := lk (FD g n1 n2 n3 (C.length : Int) (cnt + 1)))
              case q => walk_at "m wk"
              exact deed4 hsc hg3 hi hp2 hb I R hC hhl hL
            case e_b4 =>
              apply sx_one
              refine s1_if (hp₁ := HL sc u2 p2 b C K X hl rk ls G3) (b := (wy : Int) == 5) ?e_t5 (fun h5 => ?e_a5) (fun h5 => ?e_b5)
              case e_t5 =>
                apply snd_tcmp
                walk_at "m e"
                walk_at "m e"
                exact .eqI _ _ _
                rfl
              case e_a5 =>
                apply sx_weak (fr₁ := lk (FD g n1 n2 n3 (C.length : Int) (cnt + 1)))
                case q => walk_at "m wk"
                exact deed5 hsc hg3 hi hp2 hb I R hC hhl hL
              case e_b5 =>
                apply sx_weak (fr₁ := lk (("goal", .int g) :: ("spot", opd g) :: FM (C.length : Int) (cnt + 1)))
                case q => walk_at "m wk"
                exact struct_turn BK hsc hg3 hi hp2 hb (I.ease (by (first | lia | omega)) (Int.le_refl _) fun _ z => z) R hC hhl hL
end

end

section
variable [HasK] [HasF]
noncomputable def finB : List Stmt := forB (at_ lawB 15)
/-- the law's heap behind the deeds -/
noncomputable abbrev HF (sc : List Int) (u : Int) (p : Nat) (b : Bk) (C K X : List V) (hl : List (Int × V)) (rk ls : List V) (G0 : List O) (S : List Int) (tb : List (Int × V)) (g : List O) : List O :=
  HM (.list (sc.map .int)) (.list (urnL u p)) b (.list [.tup [.str "call", .int 24, .int 3]]) C K X ((.list [] :: .dI [] :: .list spotsV :: .dI hl :: .list [.bool false] :: .list rk :: .list ls :: (G0 ++ [.list (S.map .int)])) ++ .dI tb :: g)
noncomputable abbrev FF (sj : Nat) (len cnt : Int) : List (Str × V) := ("seen", .ref (sj + 21)) :: ("table", .ref (sj + 22)) :: FM len cnt
noncomputable def FinP (sc : List Int) (G0 : List O) (len cnt0 : Int) (k : Nat) (l : List (Str × V)) (hp : List O) : Prop :=
  ∃ (u : Int) (p : Nat) (b : Bk) (C K X : List V) (hl : List (Int × V)) (rk ls : List V) (g : List O) (H : Nat → Option Tm) (r : Nat → Bool) (L : List Int) (cnt B : Int) (lc : Int → Int) (D S : List Int),
    l = FF G0.length len cnt0 ∧ hp = HF sc u p b C K X hl rk ls G0 S (tblF lc 0 S) g ∧ Core b.F C K X H r L cnt B lc D ∧ (∀ k : Nat, k < 6 → hl.lookup (k : Int) = (H k).map tv) ∧ (∀ k T, H k = some T → szT T ≤ 63 ∧ ht T ≤ 5) ∧ C.length ≤ 100 + k ∧ (∀ m ∈ S, m ∈ D) ∧ S.length ≤ 63 * k
omit [HasK] [HasF] in
theorem FinP.mk {sc : List Int} {G0 : List O} {len cnt0 : Int} {k : Nat} (u : Int) (p : Nat) (b : Bk) (C K X : List V) (hl : List (Int × V)) (rk ls : List V) (g : List O) (H : Nat → Option Tm) (r : Nat → Bool) (L : List Int) (cnt B : Int) (lc : Int → Int) (D S : List Int) (a1 : Core b.F C K X H r L cnt B lc D) (a2 : (∀ k : Nat, k < 6 → hl.lookup (k : Int) = (H k).map tv)) (a3 : (∀ k T, H k = some T → szT T ≤ 63 ∧ ht T ≤ 5)) (a4 : C.length ≤ 100 + k) (a5 : (∀ m ∈ S, m ∈ D)) (a6 : S.length ≤ 63 * k) : FinP sc G0 len cnt0 k (FF G0.length len cnt0) (HF sc u p b C K X hl rk ls G0 S (tblF lc 0 S) g) := ⟨u, p, b, C, K, X, hl, rk, ls, g, H, r, L, cnt, B, lc, D, S, rfl, rfl, a1, a2, a3, a4, a5, a6⟩
omit [HasK] [HasF] in
@[elab_as_elim] theorem FinP.elim {sc : List Int} {G0 : List O} {len cnt0 : Int} {k : Nat} {l : List (Str × V)} {hp : List O} {motive : List (Str × V) → List O → Prop} (q : FinP sc G0 len cnt0 k l hp)
  (f : ∀ (u : Int) (p : Nat) (b : Bk) (C K X : List V) (hl : List (Int × V)) (rk ls : List V) (g : List O) (H : Nat → Option Tm) (r : Nat → Bool) (L : List Int) (cnt B : Int) (lc : Int → Int) (D S : List Int),
    Core b.F C K X H r L cnt B lc D → (∀ k : Nat, k < 6 → hl.lookup (k : Int) = (H k).map tv) → (∀ k T, H k = some T → szT T ≤ 63 ∧ ht T ≤ 5) → C.length ≤ 100 + k → (∀ m ∈ S, m ∈ D) → S.length ≤ 63 * k →
    motive (FF G0.length len cnt0) (HF sc u p b C K X hl rk ls G0 S (tblF lc 0 S) g)) : motive l hp := by
  obtain ⟨u, p, b, C, K, X, hl, rk, ls, g, H, r, L, cn, B, lc, D, S, rfl, rfl, a1, a2, a3, a4, a5, a6⟩ := q
  exact f u p b C K X hl rk ls g H r L cn B lc D S a1 a2 a3 a4 a5 a6
omit [HasK] [HasF] in
theorem ht_ren (S : List Int) : ∀ T : Tm, ht (ren S T) = ht T
  | .v _ => rfl
  | .a => rfl
  | .s1 _ t => by show ht (ren S t) + 1 = ht t + 1; rw [ht_ren S t]
  | .s2 _ t u => by show max (ht (ren S t)) (ht (ren S u)) + 1 = max (ht t) (ht u) + 1; rw [ht_ren S t, ht_ren S u]
omit [HasK] [HasF] in
theorem tblF_upd {lc : Int → Int} {m a : Int} : ∀ {S : List Int} {k : Nat}, m ∉ S → tblF (upd lc m a) k S = tblF lc k S
  | [], _, _ => rfl
  | x :: S, k, h => by
    simp only [List.mem_cons, not_or] at h
    show (upd lc m a x, _) :: tblF (upd lc m a) (k + 1) S = (lc x, _) :: tblF lc (k + 1) S
    rw [upd_ne (fun e => h.1 e.symm), tblF_upd h.2]
section
variable {d : Nat} {sc : List Int} {G0 : List O} {len cnt0 : Int}
/-- one place read with the table -/
theorem take_at {u : Int} {p : Nat} {b : Bk} {C K X : List V} {hl : List (Int × V)} {rk ls : List V} {g : List O} {H : Nat → Option Tm} {r : Nat → Bool} {L : List Int} {cn B : Int} {lc : Int → Int} {D S : List Int} (I : Core b.F C K X H r L cn B lc D) (hC : C.length ≤ 200) (hS : ∀ m ∈ S, m ∈ D) {k : Nat} {T : Tm} (hk : k < 6) (hT : H k = some T) (hz : szT T ≤ 63) (hSl : S.length ≤ 500) :
    ∃ (t a : Int) (C' K' : List V) (L' : List Int) (lc' : Int → Int) (D' : List Int) (g' : List O), getR K X k = some (cel t a) ∧
      Snd (d + 8) (.call (.ref 378) [.ref 9, cel t a, .ref (G0.length + 22)] (HF sc u p b C K X hl rk ls G0 S (tblF lc 0 S) g)) (.v (tv (ren (cnt T S) T)) (HF sc u p b C' K' X hl rk ls G0 S (tblF lc' 0 (cnt T S)) (g ++ g'))) ∧
      Core b.F C' K' X H r L' cn B lc' D' ∧ (∀ m ∈ cnt T S, m ∈ D') ∧ C'.length ≤ C.length + 1 := by
  rcases I.look (by (first | lia | omega)) hk hT with ⟨m, k', t, a, hTm, hm, h3, h6, hk', hKk, hR, hd⟩ | ⟨t, a, q, s, hR, hd, hq, RT, hn⟩
  · obtain ⟨x, i1, i2⟩ := first_at hm
    obtain ⟨e1, e2⟩ := erase_mem I.ln i1
    have I1 := I.bind (by (first | lia | omega)) hm h3 h6 hk' e1 e2
    have kl := I.kl
    have mD : m ∉ D := (I.ld m hm).1
    have RT : Rep (C ++ [cel 0 C.length]) b.F (upd lc m C.length) (m :: D) B T 0 C.length := by
      rw [hTm]
      have := Rep.var (C := C ++ [cel 0 C.length]) (F := b.F) (lc := upd lc m C.length) (D := m :: D) (B := B) (n := m) (.head _)
      rw [upd_self] at this
      exact this (by (first | lia | omega)) (by (first | lia | omega)) (by simp)
    have hG : ∀ {rest : List O}, Snd (d + 1 + 6) (.call (.ref 258) [.ref 9, cel t a] (HM (.list (sc.map .int)) (.list (urnL u p)) b (.list [.tup [.str "call", .int 24, .int 3]]) C K X rest)) (.v (cel 0 C.length) (HM (.list (sc.map .int)) (.list (urnL u p)) b (.list [.tup [.str "call", .int 24, .int 3]]) (C ++ [cel 0 C.length]) (K.set (k' - 1) (cel 0 C.length)) X rest)) := fun {rest} => by
      have := sp_globS (d := d + 4) (o0 := .list (sc.map .int)) (o1 := .list (urnL u p)) (T := bT b) (At := bA b) (F := bF b) (Fn := bN b) (o7 := .list [.tup [.str "call", .int 24, .int 3]]) (X := X) (e := 0) (rest := rest) hd (by (first | lia | omega)) (by (first | lia | omega)) (by (first | lia | omega)) (by (first | lia | omega))
      rw [Int.toNat_natCast] at this
      exact this
    obtain ⟨g', Tk⟩   := sp_take (d := d + 1) (R1 := .list [] :: .dI [] :: .list spotsV :: .dI hl :: .list [.bool false] :: .list rk :: .list ls :: (G0 ++ [.list (S.map .int)])) (R2 := g) (q := G0.length + 8) (S := S) (by simp) I1.inj RT (fun n hn => .tail _ (hS n hn)) (by (first | lia | omega)) (by (first | lia | omega)) hG
    rw [tblF_upd (fun e => mD (hS m e))] at Tk
    exact ⟨t, a, _, _, _, _, _, g', hR, Tk, I1, RT.inD (fun n hn => .tail _ (hS n hn)), by simp⟩
  · have hG : ∀ {rest : List O}, Snd (d + 1 + 6) (.call (.ref 258) [.ref 9, cel t a] (HM (.list (sc.map .int)) (.list (urnL u p)) b (.list [.tup [.str "call", .int 24, .int 3]]) C K X rest)) (.v (cel q s) (HM (.list (sc.map .int)) (.list (urnL u p)) b (.list [.tup [.str "call", .int 24, .int 3]]) C K X rest)) := fun {rest} => sp_globV (d := d + 4) hd hq
    obtain ⟨g', Tk⟩   := sp_take (d := d + 1) (R1 := .list [] :: .dI [] :: .list spotsV :: .dI hl :: .list [.bool false] :: .list rk :: .list ls :: (G0 ++ [.list (S.map .int)])) (R2 := g) (q := G0.length + 8) (S := S) (by simp) I.inj RT hS (by (first | lia | omega)) (by (first | lia | omega)) hG
    exact ⟨t, a, C, K, L, lc, D, g', hR, Tk, I, RT.inD hS, by (first | lia | omega)⟩
theorem fin_turn {k : Nat} (hk : k < 6) {l : List (Str × V)} {hp : List O} (P : FinP sc G0 len cnt0 k l hp) :
    SX (d + 8) lawS finB (lk (("k", .int (0 + (k : Int) * 1)) :: l)) hp (Nx (FinP sc G0 len cnt0 (k + 1))) := by
  refine FinP.elim P fun u p b C K X hl rk ls g H r L cn B lc D S I hH hbd hC hS hSl => ?_
  rw [show (0 + (k : Int) * 1) = k by (first | lia | omega)]
  cases hT : H k with
  | none =>
    have e := hH k hk
    rw [hT] at e
    apply sx_seq (hp₁ := HF sc u p b C K X hl rk ls G0 S (tblF lc 0 S) g)
    · apply snd_ifF' (b := false)
      · apply snd_tandF
        apply snd_tcmp
        walk_at "m e"
        walk_at "m e"
        exact cmp_as (.inD rfl) (by rw [e]; rfl)
        rfl
      · rfl
      · apply snd_end
    apply sx_nil
    refine Nx.mk (l := FF G0.length len cnt0) ?_ (FinP.mk u p b C K X hl rk ls g H r L cn B lc D S I hH hbd (by (first | lia | omega)) hS (by (first | lia | omega)))
    walk_at "m wk"
  | some T =>
    have e := hH k hk
    rw [hT] at e
    obtain ⟨z1, z2⟩ := hbd k T hT
    obtain ⟨t, a, C', K', L', lc', D', g', hR, Tk, I', hS', hC'⟩ := take_at (d := d) (sc := sc) (G0 := G0) (u := u) (p := p) (hl := hl) (rk := rk) (ls := ls) (g := g) I (by (first | lia | omega)) hS hk hT z1 (by (first | lia | omega))
    have hi : (HF sc u p b C' K' X hl rk ls G0 S (tblF lc' 0 (cnt T S)) (g ++ g'))[G0.length + 21]? = some (.list (S.map .int)) := by
      show ((G0 ++ [O.list (S.map .int)]) ++ .dI (tblF lc' 0 (cnt T S)) :: (g ++ g'))[G0.length]? = _
      simp
    have lvb := lv_sz T
    obtain ⟨gb, Cn⟩ := sp_counted (d := d + 2) 5 T z2 hi (by (first | lia | omega))
    have eS : (HF sc u p b C' K' X hl rk ls G0 S (tblF lc' 0 (cnt T S)) (g ++ g')).set (G0.length + 21) (.list ((cnt T S).map .int)) ++ gb = HF sc u p b C' K' X hl rk ls G0 (cnt T S) (tblF lc' 0 (cnt T S)) (g ++ g' ++ gb) := by
      show HM (.list (sc.map .int)) (.list (urnL u p)) b (.list [.tup [.str "call", .int 24, .int 3]]) C' K' X (.list [] :: .dI [] :: .list spotsV :: .dI hl :: .list [.bool false] :: .list rk :: .list ls :: (((G0 ++ [O.list (S.map .int)]) ++ .dI (tblF lc' 0 (cnt T S)) :: (g ++ g')).set G0.length (.list ((cnt T S).map .int)) ++ gb)) = HM (.list (sc.map .int)) (.list (urnL u p)) b (.list [.tup [.str "call", .int 24, .int 3]]) C' K' X (.list [] :: .dI [] :: .list spotsV :: .dI hl :: .list [.bool false] :: .list rk :: .list ls :: ((G0 ++ [O.list ((cnt T S).map .int)]) ++ .dI (tblF lc' 0 (cnt T S)) :: (g ++ g' ++ gb)))
      congr 8
      simp
    rw [eS] at Cn
    have cl := cnt_len T S
    apply sx_seq (hp₁ := HF sc u p b C' K' X hl rk ls G0 (cnt T S) (tblF lc' 0 (cnt T S)) (g ++ g' ++ gb))
    · apply snd_ifF' (b := false)
      · apply snd_tandT
        · apply snd_tcmp
          walk_at "m e"
          walk_at "m e"
          exact cmp_as (.inD rfl) (by rw [e]; rfl)
          rfl
        · apply snd_tandF
          apply snd_tcmp
          · apply snd_mcall
            walk_at "m e"
            walk_at "m meth"
            · apply snd_cons
              rfl
              · apply snd_ecall
                rfl
                walk_at "m kept"
                · apply snd_cons
                  rfl
                  walk_at "m e"
                  apply snd_cons
                  rfl
                  · apply snd_sub
                    walk_at "m e"
                    walk_at "m e"
                    exact .lst rfl (by (first | lia | omega)) (by (first | lia | omega)) (by rw [Int.toNat_natCast]; exact spots_at hk)
                    rfl
                  apply snd_nil
                exact sp_read (d := d + 6) hk hR
              apply snd_cons
              rfl
              walk_at "m e"
              apply snd_nil
            exact Tk
            exact fun _ => ⟨_, rfl⟩
          · apply snd_ecall
            rfl
            walk_at "m kept"
            · apply snd_cons
              rfl
              · apply snd_sub
                walk_at "m e"
                walk_at "m e"
                exact .dI rfl e
                rfl
              apply snd_cons
              rfl
              walk_at "m e"
              apply snd_nil
            exact Cn
          exact .neT (b := true) (pv_ht _ _ (by rw [ht_ren]; (first | lia | omega))) (pv_ht _ _ (by rw [ht_ren]; (first | lia | omega))) ⟨fun _ => rfl, fun _ => rfl⟩
          rfl
      · rfl
      · apply snd_end
    apply sx_nil
    refine Nx.mk (l := FF G0.length len cnt0) ?_ (FinP.mk u p b C' K' X hl rk ls (g ++ g' ++ gb) H r L' cn B lc' D' (cnt T S) I' hH hbd (by (first | lia | omega)) hS' (by (first | lia | omega)))
    walk_at "m wk"
end

end

section
variable [HasK] [HasF]
omit [HasK] [HasF] in
theorem Mb_le : ∀ {n : Nat}, n ≤ 5 → Mb n ≤ 63
  | 0, _ => by decide
  | 1, _ => by decide
  | 2, _ => by decide
  | 3, _ => by decide
  | 4, _ => by decide
  | 5, _ => by decide
noncomputable abbrev oC : O := .list [.tup [.str "call", .int 24, .int 3]]
section
variable {d : Nat} {sc : List Int}
set_option maxHeartbeats 4000000 in
theorem law_rest (hsc : sc.length ≤ 100) : SX (d + 8) lawS (lawB.drop 1) (lk (("urn", .ref 1) :: gLaw)) [.list (sc.map .int), .list (urnL 0 0)] (fun fl _ _ => fl = .rt (.bool true)) := by
  obtain ⟨b0, b1, b2, fh, fg, BK, S0⟩ := sp_init (d := d + 3) (o0 := .list (sc.map .int)) (o1 := .list (urnL 0 0))
  apply sx_seq (hp₁ := HB (.list (sc.map .int)) (.list (urnL 0 0)) b0 [])
  · apply snd_asg (v := .ref 2)
    · apply snd_ecall0
      rfl
      walk_at "m kept"
      apply snd_cls (f := 81)
      exact HasF.co _ _ (by decide)
      exact S0
    exact .inl rfl
    rfl
    exact fun _ => rfl
  apply sx_seq (hp₁ := HB (.list (sc.map .int)) (.list (urnL 0 0)) b0 [oC, .inst 660 (mAtt (-1)), .inst 381 [("symbols", .ref 2), ("max_heap", .int 100000), ("heap", .ref 10), ("stack", .ref 11), ("trail", .ref 12), ("hb", .int 0), ("bb", .int 0)], .list [], .list [], .list [], .list [.obj (.ref 180)], .list [], .dI []])
  · apply snd_asg (v := .ref 8)
    · apply snd_ecall
      rfl
      walk_at "m kept"
      walk_at "m es"
      apply snd_cls (f := 517)
      exact HasF.co _ _ (by decide)
      exact sp_minit (d := d + 3) (o7 := oC)
    exact .inl rfl
    rfl
    exact fun _ => rfl
  apply sx_seq (hp₁ := Hp (.list (sc.map .int)) (.list (urnL 0 0)) (bT b0) (bA b0) (bF b0) (bN b0) oC [] [] [VD] (-1) [.list [], .dI []])
  · apply snd_as
    walk_at "m s"
    rfl
  apply sx_seq (hp₁ := HM (.list (sc.map .int)) (.list (urnL 0 0)) b0 oC [] K0 [VD] [.list [], .dI []])
  · apply snd_expr
    apply snd_mcall
    walk_at "m e"
    walk_at "m meth"
    walk_at "m es"
    exact sp_penv (d := d + 5)
    exact fun _ => ⟨_, rfl⟩
    exact fun _ => rfl
  apply sx_seq (hp₁ := HM (.list (sc.map .int)) (.list (urnL 0 0)) b0 oC [] K0 [VD] [.list [], .dI [], .list spotsV])
  · apply snd_asg (v := .ref 16)
    · exact snd_list (hp₁ := HM (.list (sc.map .int)) (.list (urnL 0 0)) b0 oC [] K0 [VD] [.list [], .dI []]) (l := spotsV) (by walk_at "m es") (Nat.le_of_ble_eq_true rfl)
    exact .inl rfl
    rfl
    exact fun _ => rfl
  apply sx_seq (hp₁ := HM (.list (sc.map .int)) (.list (urnL 0 0)) b0 oC [] K0 [VD] [.list [], .dI [], .list spotsV, .dI []])
  · apply snd_asg (v := .ref 17)
    · exact snd_dict0 (hp := HM (.list (sc.map .int)) (.list (urnL 0 0)) b0 oC [] K0 [VD] [.list [], .dI [], .list spotsV]) (.dI []) .i
    exact .inr rfl
    rfl
    exact fun _ => rfl
  apply sx_seq (hp₁ := HM (.list (sc.map .int)) (.list (urnL 0 0)) b0 oC [] K0 [VD] [.list [], .dI [], .list spotsV, .dI [], .list [.bool false], .list (List.replicate 6 (.bool false))])
  · apply snd_asg (v := .ref 19)
    · refine snd_mulL (hp₁ := HM (.list (sc.map .int)) (.list (urnL 0 0)) b0 oC [] K0 [VD] [.list [], .dI [], .list spotsV, .dI [], .list [.bool false]]) (hp₂ := HM (.list (sc.map .int)) (.list (urnL 0 0)) b0 oC [] K0 [VD] [.list [], .dI [], .list spotsV, .dI [], .list [.bool false]]) (i := 18) (k := 6) (v := .bool false) ?ha ?hb rfl (by decide)
      case ha => exact snd_list (hp₁ := HM (.list (sc.map .int)) (.list (urnL 0 0)) b0 oC [] K0 [VD] [.list [], .dI [], .list spotsV, .dI []]) (l := [.bool false]) (by walk_at "m es") (Nat.le_of_ble_eq_true rfl)
      case hb => exact snd_cint
    exact .inl rfl
    rfl
    exact fun _ => rfl
  apply sx_seq (hp₁ := HL sc 0 0 b0 [] K0 [VD] [] (List.replicate 6 (.bool false)) [] [])
  · apply snd_asg (v := .ref 20)
    · exact snd_list (hp₁ := HM (.list (sc.map .int)) (.list (urnL 0 0)) b0 oC [] K0 [VD] [.list [], .dI [], .list spotsV, .dI [], .list [.bool false], .list (List.replicate 6 (.bool false))]) (l := []) snd_nil (Nat.le_of_ble_eq_true rfl)
    exact .inl rfl
    rfl
    exact fun _ => rfl
  apply sx_seq
  · apply snd_asg
    walk_at "m e"
    exact .inl rfl
    rfl
    exact fun _ => rfl
  apply sx_seq
  · apply snd_asg
    walk_at "m e"
    exact .inl rfl
    rfl
    exact fun _ => rfl
  apply sx_weak (fr₁ := lk (FM 0 0))
  case q => walk_at "m wk"
  obtain ⟨u1, p1, n, hp1, hn, P1⟩ := pickE (d := d + 7) (u := 0) (p := 0) 5 (by decide) hsc (Nat.zero_le _)
  have T0 : TurnP sc b0 b2 0 (FM 0 0) (HL sc u1 p1 b0 [] K0 [VD] [] (List.replicate 6 (.bool false)) [] []) := by
    refine TurnP.mk u1 p1 b0 [] K0 [VD] [] (List.replicate 6 (.bool false)) [] [] (fun _ => none) (fun _ => false) [] 0 id [] hp1 (.inl rfl) ?_ ⟨fun _ _ _ => rfl, rfl, fun k hk => ?_, rfl, (fun _ _ e => nomatch e)⟩ (Nat.le_refl _) (Nat.le_refl _) (Nat.le_refl _)
    · exact ⟨rfl, by decide, fun j hj => absurd hj (Nat.not_lt_zero _), (fun m hm => nomatch hm), (fun m hm => nomatch hm), (fun m hm => nomatch hm), List.nodup_nil, (fun k _ T e => nomatch e), (fun k _ _ T e => nomatch e), (fun k k' m _ _ _ _ e => nomatch e)⟩
    · rw [List.getElem?_replicate]; simp [hk]
  apply sx_cons
  apply s1_forR [((1 + n : Nat) : Int)]
  case hx => rfl
  case h1 =>
    apply snd_cons
    rfl
    · apply snd_bin
      · walk_at "m e"
      · apply snd_ecall
        rfl
        walk_at "m kept"
        walk_at "m es"
        exact P1
      exact .add _ _
    apply snd_nil
  case hv => simp
  case k => exact .one _
  case hn => exact (rng_n (1 + n) (by (first | lia | omega))).1
  case hsm => exact (rng_n (1 + n) (by (first | lia | omega))).2
  case kx => exact .inl rfl
  case hd => rfl
  case hs => exact fun _ _ => rfl
  case Lp =>
    obtain ⟨l', hp', Lp, P'⟩ := lps_inv (d := d + 8) (sc := lawS) (x := "step") (b := loopB) (a := 0) (c := 1) (fun j l hp => TurnP sc b0 b2 j l hp) (1 + n) (fun j l hp hj P => main_turn BK hsc (by (first | lia | omega)) P) T0
    refine ⟨l', hp', Lp, rfl, ?_⟩
    refine TurnP.elim P' fun u p b C K X hl rk ls G H r L cn lc D hp2 hb I R hC hhl hL => ?_
    have hn5 : 1 + n ≤ 5 := by (first | lia | omega)
    have hC : C.length ≤ 25 := by (first | lia | omega)
    apply sx_cons
    apply s1_forR [(C.length : Int)]
    case hx => rfl
    case h1 => walk_at "m es"
    case hv => rfl
    case k => exact .one _
    case hn => exact (rng_n C.length (by (first | lia | omega))).1
    case hsm => exact (rng_n C.length (by (first | lia | omega))).2
    case kx => exact .inl rfl
    case hd => rfl
    case hs => exact fun _ _ => rfl
    case Lp =>
      obtain ⟨l2, hp3, Lp2, rfl, rfl⟩ := lps_inv (d := d + 8) (sc := lawS) (x := "address") (b := forB (at_ lawB 12)) (a := 0) (c := 1) (fun j l hp => l = FM (C.length : Int) cn ∧ hp = HL sc u p b C K X hl rk ls G) C.length (fun j l hp hj P => by
        obtain ⟨rfl, rfl⟩ := P
        obtain ⟨t, a, c1, c2, c3⟩ := I.cells j hj
        apply sx_seq
        · apply snd_unpack2 (v := .int t) (u := .int a)
          · apply snd_sub
            walk_at "m e"
            walk_at "m e"
            exact .lst rfl (by (first | lia | omega)) (by (first | lia | omega)) (by rw [show (0 + (j : Int) * 1).toNat = j by (first | lia | omega)]; exact c1)
            rfl
          exact .inl rfl
          rfl
          exact .inl rfl
          rfl
          exact fun _ => rfl
          exact fun _ => rfl
        apply sx_seq (hp₁ := HL sc u p b C K X hl rk ls G)
        · apply snd_ifF' (b := (t == 1) || ((t == 0) && decide ((0 + (j : Int) * 1) < a)))
          · apply snd_tor2
            · apply snd_tcmp
              walk_at "m e"
              walk_at "m e"
              exact .eqI _ _ _
              rfl
            · apply snd_tand2
              · apply snd_tcmp
                walk_at "m e"
                walk_at "m e"
                exact .eqI _ _ _
                rfl
              · apply snd_tcmp
                walk_at "m e"
                walk_at "m e"
                exact .gtI _ _ _
                rfl
          · by_cases q : t = 0
            · have := c3 q
              simp [c2]
              intro _
              (first | lia | omega)
            · simp [c2, q]
          · apply snd_end
        apply sx_nil
        refine ⟨rfl, _, ?_, rfl, rfl⟩
        walk_at "m wk") (l := FM (C.length : Int) cn) (hp := HL sc u p b C K X hl rk ls G) ⟨rfl, rfl⟩
      refine ⟨_, _, Lp2, rfl, ?_⟩
      apply sx_seq (hp₁ := HL sc u p b C K X hl rk ls (G ++ [.list []]))
      · apply snd_asg (v := .ref (G.length + 21))
        exact snd_list (hp₁ := HL sc u p b C K X hl rk ls G) (l := []) snd_nil (Nat.le_of_ble_eq_true rfl)
        exact .inl rfl
        rfl
        exact fun _ => rfl
      apply sx_seq (hp₁ := HF sc u p b C K X hl rk ls G [] [] [])
      · apply snd_asg (v := .ref (G.length + 22))
        · refine (snd_dict0 (hp := HL sc u p b C K X hl rk ls (G ++ [.list []])) (.dI []) .i).eq ?_
          have e : (HL sc u p b C K X hl rk ls (G ++ [.list []])).length = G.length + 22 := by
            show (G ++ [O.list []]).length + 21 = _
            simp
          rw [e]
          rfl
        exact .inl rfl
        rfl
        exact fun _ => rfl
      apply sx_weak (fr₁ := lk (FF G.length (C.length : Int) cn))
      case q => walk_at "m wk"
      have F0 : FinP sc G (C.length : Int) cn 0 (FF G.length (C.length : Int) cn) (HF sc u p b C K X hl rk ls G [] [] []) :=
        FinP.mk u p b C K X hl rk ls [] H r L cn _ lc D [] I (fun k hk => R.hl k hk (by (first | lia | omega))) (fun k T e => ⟨Nat.le_trans (R.bd k T e).1 (Mb_le hn5), by have := (R.bd k T e).2; (first | lia | omega)⟩) (by (first | lia | omega)) (fun m hm => nomatch hm) (Nat.zero_le _)
      apply sx_cons
      apply s1_forR (n := 6) [6]
      case hx => rfl
      case h1 => walk_at "m es"
      case hv => rfl
      case k => exact .one _
      case hn => rfl
      case hsm => rfl
      case kx => exact .inl rfl
      case hd => rfl
      case hs => exact fun _ _ => rfl
      case Lp =>
        obtain ⟨l3, hp4, Lp3, F6⟩ := lps_inv (d := d + 8) (sc := lawS) (x := "k") (b := finB) (a := 0) (c := 1) (fun j l hp => FinP sc G (C.length : Int) cn j l hp) 6 (fun j l hp hj P => fin_turn hj P) F0
        refine ⟨_, _, Lp3, rfl, ?_⟩
        apply sx_stop (fl := .rt (.bool true))
        · apply snd_ret
          exact snd_cbool
        · exact fun h => nomatch h
        · rfl
end

end

section
variable [HasK] [HasF]
section
variable {w : World} {A : Around} {env : Env} {h₀ : Heap} {L : Addr} {out : Led}
noncomputable def EFix (w : World) (A : Around) (env : Env) (h₀ : Heap) (L : Addr) (out : Led) (e : Expr) (fr : Str → Option V) (hp : List O) (v : V) (hp' : List O) : Prop :=
  ∀ (ρ : List Addr) (imm : Led) (s : Shared), St w env h₀ L s.heap ρ hp out imm fr → wpAny (model pR w) A (eval e env) (PV w env h₀ L out fr ρ imm s v hp') Fal s
noncomputable def EsFix (w : World) (A : Around) (env : Env) (h₀ : Heap) (L : Addr) (out : Led) (es : List Expr) (fr : Str → Option V) (hp : List O) (l : List V) (hp' : List O) : Prop :=
  ∀ (ρ : List Addr) (imm : Led) (s : Shared) (pos : Pos), St w env h₀ L s.heap ρ hp out imm fr → wpAny (model pR w) A (spliced (backTo pos (starEach es env))) (PVs w env h₀ L out fr ρ imm s l hp') Fal s
variable {d : Nat} {fr : Str → Option V} {hp hp₁ hp₂ : List O}
omit [HasF] in
theorem EFix.of (C : Cx w A h₀ L) (R : Room d A) {e : Expr} {v : V} (h : Snd d (.e e fr hp) (.v v hp₁)) : EFix w A env h₀ L out e fr hp v hp₁ := fun ρ imm s S => h.go w A env h₀ L out ρ imm s C R S
omit [HasF] in
theorem EsFix.nil : EsFix w A env h₀ L out [] fr hp [] hp := fun ρ imm s pos S => spliced_none ⟨ρ, imm, _, s.toks, rfl, S, .refl _ _, .nil⟩
omit [HasF] in
theorem EsFix.cons {e : Expr} {es : List Expr} {v : V} {l : List V} (hs : isStarred e = false) (h1 : EFix w A env h₀ L out e fr hp v hp₁) (h2 : EsFix w A env h₀ L out es fr hp₁ l hp₂) : EsFix w A env h₀ L out (e :: es) fr hp (v :: l) hp₂ := by
  intro ρ imm s pos S
  refine spliced_more (wpAny_mono (h1 ρ imm s S) (fun r s₁ p => ?_) fun _ _ x => x) (star_cons hs es env)
  obtain ⟨ρ', imm', h', tk', rfl, S', x, k⟩ := p
  refine wpAny_mono (h2 ρ' imm' _ pos S') (fun rs s₂ q => ?_) fun _ _ x => x
  obtain ⟨ρ'', imm'', h'', tk'', rfl, S'', y, ks⟩ := q
  exact ⟨ρ'', imm'', h'', tk'', rfl, S'', x.trans y, .cons (k.mono y) ks⟩
omit [HasF] in
theorem EFix.list {es : List Expr} {p : Pos} {l : List V} (h : EsFix w A env h₀ L out es fr hp l hp₁) (hz : l.length ≤ 1000) : EFix w A env h₀ L out (.List es p) fr hp (.ref hp₁.length) (hp₁ ++ [.list l]) := by
  intro ρ imm s S
  refine List_ (wpAny_mono (h ρ imm s p S) (fun rs s₁ q => ?_) fun _ _ x => x)
  obtain ⟨ρ', imm', h', tk', rfl, S', x, ks⟩ := q
  have hl : ρ'.length = hp₁.length := by obtain ⟨m, mE, led, cells, I⟩ := S'; exact I.R.len.1
  unfold newList
  refine wpAny_newObj_type ?_ (by show rs.toArray.size ≤ sizeLine; rw [List.size_toArray, ks.length, sizeLine_eq]; (first | lia | omega))
  obtain ⟨S'', y⟩ := S'.new (h' := h'.push (lstOf rs 0)) (fun b o e => Heap.get?_push_of_some _ e) (o := .list l) (a := h'.objs.size) (es := [(h'.objs.size, lstOf rs 0)]) ⟨rs, 0, rfl, ks⟩
    (fun p hp => by cases List.mem_singleton.mp hp; exact ⟨Heap.get?_none_of_le (Nat.le_refl _), Heap.get?_push_size _ rfl⟩) (by simp)
  exact .of S'' (x.trans y) (.ref (by rw [List.getElem?_append_right (by (first | lia | omega))]; simp [hl]))
omit [HasF] in
/-- the first items of a list that lay there before -/
theorem EFix.upto {x : Str} {px pk sp p : Pos} {k n : Nat} {a : Addr} {vs : List Value} {l : List V} (C : Cx w A h₀ L) (R : Room d A) (hx : fr x = some (.obj (.ref a))) (hl : h₀.IsList a vs.toArray) (ks : VRs [] [] l vs) (hz : vs.length ≤ 1000) :
    EFix w A env h₀ L out (.Subscript (.Name x px) (.Slice none (some (.Constant (.int k) n pk)) none sp) p) fr hp (.ref hp.length) (hp ++ [.list (l.take k)]) := by
  intro ρ imm s S
  refine wpAny_Subscript_Slice list_getitem_lookup (wpAny_mono ((snd_name (d := d) hx).go w A env h₀ L out ρ imm s C R S) (fun ra s₁ q => ?_) fun _ _ x => x) (fun _ _ => rfl)
  obtain ⟨ρ', imm', h', tk', rfl, S', x, ka⟩ := q
  (first | obtain ⟨_, rfl⟩ := VR.intI ka | obtain rfl := VR.objI ka | obtain rfl := VR.boolI ka | obtain ⟨_, rfl⟩ := VR.strI ka | obtain rfl := VR.noneI ka | obtain rfl := VRs.nilI ka | obtain rfl := FR.nxI ka | cases ka)
  refine wpAny_Slice ?_
  rw [evalPart_none]
  refine wpAny_pure ?_
  refine wpAny_mono ((snd_cint (d := d) (i := k) (k := n) (p := pk)).go w A env h₀ L out ρ' imm' _ C R S') (fun rc s₂ q => ?_) fun _ _ x => x
  obtain ⟨ρ'', imm'', h'', tk'', rfl, S'', y, kc⟩ := q
  obtain ⟨t, rfl⟩ := kc.intA
  refine wpAny_pure ?_
  have hl2 : h''.IsList a vs.toArray := by
    obtain ⟨m, mE, led, cells, I⟩ := S''
    obtain ⟨o, e1, e2⟩ := hl
    exact ⟨o, I.F.keep _ _ e1, e2⟩
  have S3 := S''.grow (h' := h''.push { cls := .type "slice", data := .fields #[.none, .int k t, .none] }) (fun b o e => Heap.get?_push_of_some _ e)
  obtain ⟨m, news, F, N, re⟩ := S3.newRe
  refine ⟨(hl2.push _).typeIs, wpAny_getItem_list_slice (hl2.push _) (Heap.IsSliceOf.new ..) .none (.int _ _) .none (by simp) ?_ (by rw [List.size_toArray, sizeLine_eq]; (first | lia | omega))⟩
  rw [slicePick_upto']
  have N3 := News.push F N { cls := .type "list", data := .seq (vs.take k).toArray }
  obtain ⟨S4, z, z2⟩ := re _ _ (l.take k) (vs.take k) 0 (Heap.get?_none_of_le (Nat.le_refl _)) (F.push _) N3 ((ks.mono .nil).take k)
  exact .of S4 ((x.trans y).trans z) (.ref z2)
omit [HasK] [HasF] in
theorem ints_V {vs : List Value} {is : List Int} (h : IntsAre vs is) : VRs [] [] (is.map .int) vs := by
  induction h with
  | nil => exact .nil
  | cons n t _ ih => exact .cons (.int _ _) ih
theorem law_go {s : Shared} {a : Addr} {is : List Int} {vs : List Value} (C : Cx w A h₀ L) (R : Room (d + 8) A) (hL : Own env L) (hsc : env.scope = lawS) (S : St w env h₀ L s.heap [] [] [] [] (lk (("script", .obj (.ref a)) :: gLaw))) (hl : h₀.IsList a vs.toArray) (hi : IntsAre vs is) (hz : is.length ≤ 100) :
    wpAny (model pR w) A (execs lawB env) (fun f s' => f = .ret (.bool true) ∧ ∃ h' tk' m, s' = { s with heap := h', toks := tk' } ∧ Fr h₀ L h' m) Fal s := by
  have ks := ints_V hi
  have hlen : vs.length = is.length := by have := ks.length; simpa using this
  have key : ∀ {lp : Pos} {c1 c2 : Nat} {q1 q2 q3 q4 q5 q6 : Pos} {kk : Nat}, EFix w A env h₀ L [] (.List [.Constant (.int 0) c1 q1, .Subscript (.Name "script" q2) (.Slice none (some (.Constant (.int ((60 : Nat) : Int)) kk q3)) none q4) q5, .Constant (.int 0) c2 q6] lp) (lk (("script", .obj (.ref a)) :: gLaw)) [] (.ref 1) [.list ((is.take 60).map .int), .list (urnL 0 0)] := by
    intro lp c1 c2 q1 q2 q3 q4 q5 q6 kk
    have := EFix.list (p := lp) (EsFix.cons rfl (EFix.of (env := env) (out := []) C R (snd_cint (i := 0) (k := c1) (p := q1) (fr := lk (("script", .obj (.ref a)) :: gLaw)) (hp := []))) (EsFix.cons rfl (EFix.upto (x := "script") (px := q2) (pk := q3) (sp := q4) (p := q5) (k := 60) (n := kk) C R rfl hl ks (by (first | lia | omega))) (EsFix.cons rfl (EFix.of C R (snd_cint (i := 0) (k := c2) (p := q6))) EsFix.nil))) (by simp)
    rw [← List.map_take] at this
    exact this
  obtain ⟨fl, fr', hp', Sn, e⟩ := law_rest (d := d) (sc := is.take 60) (by rw [List.length_take]; (first | lia | omega))
  subst e
  show wpAny _ A (execs (_ :: lawB.drop 1) env) _ _ _
  refine wpAny_execs_cons (wpAny_mono (Q := PF w env h₀ L [] [] [] s .nx (lk (("urn", .ref 1) :: ("script", .obj (.ref a)) :: gLaw)) [.list ((is.take 60).map .int), .list (urnL 0 0)]) ?h0 (fun f s' p => ?h1) fun _ _ x => x)
  case h0 =>
    refine wpAny_Assign_Name (wpAny_mono (key [] [] s S) (fun r s' p => ?_) fun _ _ x => x) rfl
    obtain ⟨ρ', imm', h', tk', rfl, S', x, k⟩ := p
    refine wpAny_mono (S'.setN (s := { s with heap := h', toks := tk' }) hL k (by unfold Env.kindOf; rw [hsc]; exact .inl rfl) rfl) (fun _ s₂ q => ?_) fun _ _ x => x
    obtain ⟨h'', tk'', rfl, S''⟩ := q
    exact ⟨ρ', imm', h'', tk'', rfl, S'', x, .nx⟩
  case h1 =>
    obtain ⟨ρ', imm', h', tk', rfl, S', x, k⟩ := p
    (first | obtain ⟨_, rfl⟩ := VR.intI k | obtain rfl := VR.objI k | obtain rfl := VR.boolI k | obtain ⟨_, rfl⟩ := VR.strI k | obtain rfl := VR.noneI k | obtain rfl := VRs.nilI k | obtain rfl := FR.nxI k | cases k)
    have S2 : St w env h₀ L h' ρ' [.list ((is.take 60).map .int), .list (urnL 0 0)] [] imm' (lk (("urn", .ref 1) :: gLaw)) := St.weak (s := { s with heap := h' }) S' (by walk_at "m wk")
    refine wpAny_mono (Sn.go w A env h₀ L [] ρ' imm' { s with heap := h', toks := tk' } C R hL hsc S2) (fun f s' p => ?_) fun _ _ x => x
    obtain ⟨ρ2, imm2, h2, tk2, rfl, S3, x2, k2⟩ := p
    cases k2 with
    | rt k2 =>
      (first | obtain ⟨_, rfl⟩ := VR.intI k2 | obtain rfl := VR.objI k2 | obtain rfl := VR.boolI k2 | obtain ⟨_, rfl⟩ := VR.strI k2 | obtain rfl := VR.noneI k2 | obtain rfl := VRs.nilI k2 | obtain rfl := FR.nxI k2 | cases k2)
      obtain ⟨m, mE, led, cells, I⟩ := S3
      exact ⟨rfl, h2, tk2, m, rfl, I.F⟩
end

end


/-! the facts of the frozen heap, one by one -/
theorem fcons {α : Type} {P : α → Prop} {a : α} {l : List α} (h : P a) (k : ∀ p ∈ l, P p) : ∀ p ∈ a :: l, P p := fun p hp => by
  rcases List.mem_cons.mp hp with e | hp
  · rw [e]; exact h
  · exact k p hp
theorem fnil {α : Type} {P : α → Prop} : ∀ p ∈ ([] : List α), P p := fun p hp => nomatch hp
theorem of_lookup {α β : Type} [BEq α] [LawfulBEq α] {a : α} {b : β} : ∀ {l : List (α × β)}, l.lookup a = some b → (a, b) ∈ l
  | (c, d) :: l, h => by
    rw [List.lookup_cons] at h
    split at h
    · rename_i e; cases h; rw [eq_of_beq e]; exact .head _
    · exact .tail _ (of_lookup h)
noncomputable abbrev Seer (view : Program) : Prop := ∀ {mean : ExcName → Option Value} {mg mb : Str → Option Value} {h : Heap}, Top view (looseW view [Str.ofString "VOID", Str.ofString "Store"]) mean mg mb h → h.NoSeer
noncomputable abbrev mkK (K : Params → Frag) (view : Program) (hs : Seer view) : HasK := ⟨K, view, hs⟩
theorem fn0 {rs : List Value} (hr : rs.length + ([] : List V).length = ([] : List Str).length) : rs = [] := by
  match rs, hr with
  | [], _ => rfl
theorem fn1 {rs : List Value} {a : Str} (hr : rs.length + ([] : List V).length = [a].length) : ∃ x, rs = [x] := by
  match rs, hr with
  | [x], _ => exact ⟨x, rfl⟩
theorem fn2 {rs : List Value} {a b : Str} (hr : rs.length + ([] : List V).length = [a, b].length) : ∃ x y, rs = [x, y] := by
  match rs, hr with
  | [x, y], _ => exact ⟨x, y, rfl⟩
theorem fn3 {rs : List Value} {a b c : Str} (hr : rs.length + ([] : List V).length = [a, b, c].length) : ∃ x y z, rs = [x, y, z] := by
  match rs, hr with
  | [x, y, z], _ => exact ⟨x, y, z, rfl⟩
theorem fn6 {rs : List Value} {a b c d e f : Str} {x y z : V} (hr : rs.length + [x, y, z].length = [a, b, c, d, e, f].length) : ∃ x y z, rs = [x, y, z] := by
  match rs, hr with
  | [x, y, z], _ => exact ⟨x, y, z, rfl⟩
section
variable {K : Params → Frag} {view : Program} {hs : Seer view}
theorem ao_of {c : Addr} {x : Str} (h : ∀ w : World, plainGet (K w.params) c x = true ∧ hasDictIn (K w.params) c = true ∧ ∃ attr, findIn (K w.params) (.ref c) x = some attr ∧ noGet (K w.params) attr = true) : @AttrOk (mkK K view hs) c x := h
theorem mo_of {c f : Addr} {x : Str} (h : ∀ w : World, plainGet (K w.params) c x = true ∧ findIn (K w.params) (.ref c) x = some (some (.ref f)) ∧ isFn (K w.params) (.ref f) = true ∧ keepIn (K w.params) (.ref f) = true) : @MethOk (mkK K view hs) c x f := h
theorem so_of {c : Addr} {x : Str} (h : ∀ w : World, findIn (K w.params) (.ref c) "__setattr__" = some (some (.builtin "object.__setattr__")) ∧ plainOver (K w.params) c = true ∧ takerIn (K w.params) c x = some none ∧ hasDictIn (K w.params) c = true) : @SetOk (mkK K view hs) c x := h
theorem co_of {c f : Addr} (h : ∀ w : World, makesIn (K w.params) c = true ∧ findIn (K w.params) (.ref c) "__init__" = some (some (.ref f)) ∧ isFn (K w.params) (.ref f) = true) : @ClsOk (mkK K view hs) c f := h
theorem gi_of {x : Str} {i : Int} (hd : (x == ("__debug__" : Str)) = false) (h : ∀ w : World, ∃ t, nsIn (K w.params) mainGlobals x = some (some (.int i t))) : @GOk (mkK K view hs) x (.int i) := ⟨hd, fun w => let ⟨t, e⟩ := h w; .inl ⟨_, e, .int _ _⟩⟩
theorem gs_of {x y : Str} (hd : (x == ("__debug__" : Str)) = false) (h : ∀ w : World, ∃ t, nsIn (K w.params) mainGlobals x = some (some (.str y t))) : @GOk (mkK K view hs) x (.str y) := ⟨hd, fun w => let ⟨t, e⟩ := h w; .inl ⟨_, e, .str _ _⟩⟩
theorem go_of {x : Str} {v : Value} (hd : (x == ("__debug__" : Str)) = false) (h : ∀ w : World, nsIn (K w.params) mainGlobals x = some (some v)) : @GOk (mkK K view hs) x (.obj v) := ⟨hd, fun w => .inl ⟨_, h w, .obj _⟩⟩
theorem gb_of {x : Str} {v : Value} (hd : (x == ("__debug__" : Str)) = false) (hn : x ≠ "__name__") (hb : bootBuiltins x = some v) (h : ∀ w : World, nsIn (K w.params) mainGlobals x = some none) : @GOk (mkK K view hs) x (.obj v) := ⟨hd, fun w => .inr ⟨h w, hn, v, hb, .obj _⟩⟩
/-- a function in the heap, as FnAt and FnAtC want it -/
noncomputable abbrev FnIn (K : Params → Frag) (f : Addr) (ps : List Str) (ds : List V) (body : List Stmt) (scope : Scope) : Prop :=
  ∀ w : World, ∃ (name qual : Str) (params : Arguments) (dV kV doc pm cdv ct oc : Value) (an od : Option Addr) (osl : Array (Option Value)),
    (K w.params).lookup f = some ⟨oc, od, .func (fnOf name qual params body scope dV kV doc pm an cdv ct), osl⟩ ∧ codeIn (K w.params) cdv qual = true ∧
    ∀ (s : Shared) (rs : List Value), (K w.params).In s.heap → rs.length + ds.length = ps.length → ∃ rds, VRs [] [] ds rds ∧ BindsTo s (fnOf name qual params body scope dV kV doc pm an cdv ct) ⟨rs, []⟩ (ps.zip (rs ++ rds))
theorem fnA_of {f : Addr} {ps : List Str} {ds : List V} {body : List Stmt} {scope : Scope} (h : FnIn K f ps ds body scope)
  (nd : ps.Nodup) (loc : (ps.all fun p => scope.names.lookup p == some .local && !(p == ("__debug__" : Str))) = true) (cell : (scope.names.all fun x => match x.2 with | .cell => false | _ => true) = true) (co : scope.isCoroutine = false) (gen : scope.isGenerator = false) (kind : scope.kind = .function) :
  @FnAt (mkK K view hs) f ps ds body scope := @FnAt.mk (mkK K view hs) f ps ds body scope h nd loc cell co gen kind
theorem fnC_of {f : Addr} {ps : List Str} {ds : List V} {body : List Stmt} {scope : Scope} (h : FnIn K f ps ds body scope)
  (nd : ps.Nodup) (loc : (ps.all fun p => (scope.names.lookup p == some .local || scope.names.lookup p == some .cell) && !(p == ("__debug__" : Str))) = true) (ndc : ((cellsFrom 0 scope.names []).map (·.1)).Nodup) (co : scope.isCoroutine = false) (gen : scope.isGenerator = false) (kind : scope.kind = .function) :
  @FnAtC (mkK K view hs) f ps ds body scope := @FnAtC.mk (mkK K view hs) f ps ds body scope h nd loc ndc co gen kind
/-- a plain signature -/
noncomputable abbrev sigA (l : List Arg) : Arguments := ⟨[], l, none, [], [], none, []⟩
section
variable {f : Addr} {a b c : Str} {p q r : Pos} {body : List Stmt} {scope : Scope} {name qual : Str} {doc pm cdv ct oc : Value} {an od : Option Addr} {osl : Array (Option Value)}
theorem fnA0 (e1 : ∀ w : World, (K w.params).lookup f = some ⟨oc, od, .func (fnOf name qual (sigA []) body scope .none .none doc pm an cdv ct), osl⟩) (e2 : ∀ w : World, codeIn (K w.params) cdv qual = true)
  (cell : (scope.names.all fun x => match x.2 with | .cell => false | _ => true) = true) (co : scope.isCoroutine = false) (gen : scope.isGenerator = false) (kind : scope.kind = .function) :
  @FnAt (mkK K view hs) f [] [] body scope := fnA_of (fun w => ⟨_, _, _, _, _, _, _, _, _, _, _, _, _, e1 w, e2 w, fun s rs X hr => ⟨[], .nil, by
      obtain rfl := fn0 hr; exact BindsTo.of_eq rfl⟩⟩) (by decide) rfl cell co gen kind
theorem fnA1 (e1 : ∀ w : World, (K w.params).lookup f = some ⟨oc, od, .func (fnOf name qual (sigA [⟨a, none, p⟩]) body scope .none .none doc pm an cdv ct), osl⟩) (e2 : ∀ w : World, codeIn (K w.params) cdv qual = true)
  (e3 : ∀ x : Value, bindArgs (fnOf name qual (sigA [⟨a, none, p⟩]) body scope .none .none doc pm an cdv ct) ⟨[x], []⟩ = pure ([a].zip ([x] ++ [])))
  (loc : ([a].all fun p => scope.names.lookup p == some .local && !(p == ("__debug__" : Str))) = true) (cell : (scope.names.all fun x => match x.2 with | .cell => false | _ => true) = true) (co : scope.isCoroutine = false) (gen : scope.isGenerator = false) (kind : scope.kind = .function) :
  @FnAt (mkK K view hs) f [a] [] body scope := fnA_of (fun w => ⟨_, _, _, _, _, _, _, _, _, _, _, _, _, e1 w, e2 w, fun s rs X hr => ⟨[], .nil, by
      obtain ⟨x, rfl⟩ := fn1 hr; exact BindsTo.of_eq (e3 x)⟩⟩) (by simp) loc cell co gen kind
theorem fnA2 (e1 : ∀ w : World, (K w.params).lookup f = some ⟨oc, od, .func (fnOf name qual (sigA [⟨a, none, p⟩, ⟨b, none, q⟩]) body scope .none .none doc pm an cdv ct), osl⟩) (e2 : ∀ w : World, codeIn (K w.params) cdv qual = true)
  (e3 : ∀ x y : Value, bindArgs (fnOf name qual (sigA [⟨a, none, p⟩, ⟨b, none, q⟩]) body scope .none .none doc pm an cdv ct) ⟨[x, y], []⟩ = pure ([a, b].zip ([x, y] ++ [])))
  (nd : [a, b].Nodup) (loc : ([a, b].all fun p => scope.names.lookup p == some .local && !(p == ("__debug__" : Str))) = true) (cell : (scope.names.all fun x => match x.2 with | .cell => false | _ => true) = true) (co : scope.isCoroutine = false) (gen : scope.isGenerator = false) (kind : scope.kind = .function) :
  @FnAt (mkK K view hs) f [a, b] [] body scope := fnA_of (fun w => ⟨_, _, _, _, _, _, _, _, _, _, _, _, _, e1 w, e2 w, fun s rs X hr => ⟨[], .nil, by
      obtain ⟨x, y, rfl⟩ := fn2 hr; exact BindsTo.of_eq (e3 x y)⟩⟩) nd loc cell co gen kind
theorem fnA3 (e1 : ∀ w : World, (K w.params).lookup f = some ⟨oc, od, .func (fnOf name qual (sigA [⟨a, none, p⟩, ⟨b, none, q⟩, ⟨c, none, r⟩]) body scope .none .none doc pm an cdv ct), osl⟩) (e2 : ∀ w : World, codeIn (K w.params) cdv qual = true)
  (e3 : ∀ x y z : Value, bindArgs (fnOf name qual (sigA [⟨a, none, p⟩, ⟨b, none, q⟩, ⟨c, none, r⟩]) body scope .none .none doc pm an cdv ct) ⟨[x, y, z], []⟩ = pure ([a, b, c].zip ([x, y, z] ++ [])))
  (nd : [a, b, c].Nodup) (loc : ([a, b, c].all fun p => scope.names.lookup p == some .local && !(p == ("__debug__" : Str))) = true) (cell : (scope.names.all fun x => match x.2 with | .cell => false | _ => true) = true) (co : scope.isCoroutine = false) (gen : scope.isGenerator = false) (kind : scope.kind = .function) :
  @FnAt (mkK K view hs) f [a, b, c] [] body scope := fnA_of (fun w => ⟨_, _, _, _, _, _, _, _, _, _, _, _, _, e1 w, e2 w, fun s rs X hr => ⟨[], .nil, by
      obtain ⟨x, y, z, rfl⟩ := fn3 hr; exact BindsTo.of_eq (e3 x y z)⟩⟩) nd loc cell co gen kind
end
theorem hasF_mk (ao : ∀ p ∈ aoL, @AttrOk (mkK K view hs) p.1 p.2) (mo : ∀ p ∈ moL, @MethOk (mkK K view hs) p.1.1 p.1.2 p.2) (so : ∀ p ∈ aoL, @SetOk (mkK K view hs) p.1 p.2) (co : ∀ p ∈ coL, @ClsOk (mkK K view hs) p.1 p.2)
  (kp : ∀ f ∈ kpL, ∀ w : World, keepIn (K w.params) (.ref f) = true) (gi : ∀ p ∈ giL, @GOk (mkK K view hs) p.1 (.int p.2)) (gr : ∀ p ∈ grL, @GOk (mkK K view hs) p.1 (.obj (.ref p.2)))
  (g1 : @GOk (mkK K view hs) "READ" (.str "read")) (g2 : @GOk (mkK K view hs) "len" (.obj (.builtin "len"))) (g3 : @GOk (mkK K view hs) "range" (.obj (.type "range"))) (g4 : @GOk (mkK K view hs) "abs" (.obj (.builtin "abs"))) (g5 : @GOk (mkK K view hs) "int" (.obj (.type "int"))) (g6 : @GOk (mkK K view hs) "tuple" (.obj (.type "tuple")))
  (fn : ∀ p ∈ fnL, @FnAt (mkK K view hs) p.1 p.2 [] (bodyF (fnS p.1)) (scopeF (fnS p.1)))
  (fM : @FnAt (mkK K view hs) 517 ["self", "symbols", "code", "max_heap", "occurs", "max_bits"] [.int 100000, .bool true, .int 4096] (bodyF (fnS 517)) (scopeF (fnS 517)))
  (fC : @FnAtC (mkK K view hs) 676 ["tree", "seen"] [] (bodyF (fnS 676)) (scopeF (fnS 676))) (fL : @FnAtC (mkK K view hs) 681 ["script"] [] (bodyF (fnS 681)) (scopeF (fnS 681))) : @HasF (mkK K view hs) :=
  @HasF.mk (mkK K view hs) (fun c x h => ao (c, x) h) (fun c x f h => mo ((c, x), f) (of_lookup h)) (fun c x h => so (c, x) h) (fun c f h => co (c, f) h) kp (fun x i h => gi (x, i) h) (fun x f h => gr (x, f) h) g1 g2 g3 g4 g5 g6 (fun f ps h => fn (f, ps) h) fM fC fL
end
theorem ends {K : Params → Frag} {view : Program} {w : World} {h : Heap} {mean : ExcName → Option Value} {mg mb : Str → Option Value} {P : Prop}
  (KX : (K w.params).In h) (T : Top view (looseW view [Str.ofString "VOID", Str.ofString "Store"]) mean mg mb h) (hs : Seer view) (hf : @HasF (mkK K view hs))
  (k : ∀ [I : HasK] [HasF], (HasK.heap w.params).In h → Top HasK.view (looseW HasK.view [Str.ofString "VOID", Str.ofString "Store"]) mean mg mb h → P) : P :=
  @k (mkK K view hs) hf KX T
theorem fin.tw8025084765662995669 : True := trivial
theorem fin.tw3558005061807245919 : True := trivial
theorem fin.tw8097654560655122648 : True := trivial
theorem fin.tw8370555248988390076 : True := trivial
theorem fin.tw14969715616416898430 : True := trivial
theorem fin.tw895571856199123645 : True := trivial
theorem fin.tw1252854909445205041 : True := trivial
theorem fin.tw14279960228734115912 : True := trivial
theorem fin.tw13574545013463194659 : True := trivial
theorem fin.tw3955986520655104412 : True := trivial
theorem fin.tw17204297501091165112 : True := trivial
theorem fin.tw7282745182861764756 : True := trivial
theorem fin.tw14497727239971306367 : True := trivial
theorem fin.tw3399429508193669907 : True := trivial
theorem fin.tw15741700470354863883 : True := trivial
theorem fin.tw5106123347721008290 : True := trivial
theorem fin.tw6766378078585498003 : True := trivial
theorem fin.tw12996517811204074000 : True := trivial
theorem fin.tw14786503066443513839 : True := trivial
theorem fin.tw15069271281064182630 : True := trivial
theorem fin.tw3263211703599914710 : True := trivial
theorem fin.tw11227884535216515135 : True := trivial
theorem fin.tw1080700006314346644 : True := trivial
theorem fin.tw8999559765510592377 : True := trivial
theorem fin.tw13162651487661262736 : True := trivial
theorem fin.tw7021976415091001641 : True := trivial
theorem fin.tw10504543856557348713 : True := trivial
theorem fin.tw11615019562542576733 : True := trivial
theorem fin.tw3788772014149755174 : True := trivial
theorem fin.tw7779959011674639804 : True := trivial
theorem fin.tw16237762584071213788 : True := trivial
theorem fin.tw16530489862217454893 : True := trivial
theorem fin.tw500868675978126160 : True := trivial
theorem fin.tw18176387895596863783 : True := trivial
theorem fin.tw11395320378806372228 : True := trivial
theorem fin.tw7830629276484211593 : True := trivial
theorem fin.tw12629903358213643309 : True := trivial
theorem fin.tw8344675336782298973 : True := trivial
theorem fin.tw14541005305830221311 : True := trivial
theorem fin.tw17869975865946814897 : True := trivial
theorem fin.tw8668149382578428375 : True := trivial
theorem fin.tw1951045429614898598 : True := trivial
theorem fin.tw8272817396058243321 : True := trivial
theorem fin.tw9524518906428321964 : True := trivial
theorem fin.tw4928979718650693569 : True := trivial
theorem fin.tw846297522682114974 : True := trivial
theorem fin.tw8289400949097046189 : True := trivial
theorem fin.tw10391319463526535247 : True := trivial
theorem fin.tw16708981103961760564 : True := trivial
theorem fin.tw7844069586390513008 : True := trivial
theorem fin.tw3812028171767442716 : True := trivial
theorem fin.tw8776770756819070316 : True := trivial
theorem fin.tw2185935427153128515 : True := trivial
theorem fin.tw5663504974038819100 : True := trivial
theorem fin.tw4716181948101807 : True := trivial
theorem fin.tw12780881840741157306 : True := trivial
theorem fin.tw9059937348426287209 : True := trivial
theorem fin.tw12847644182280273618 : True := trivial
theorem fin.tw13516622038369049944 : True := trivial
theorem fin.tw12612204703400128841 : True := trivial
theorem fin.tw10807920368746810246 : True := trivial
theorem fin.tw6341822008880759003 : True := trivial
theorem fin.tw11039862389202566683 : True := trivial
theorem fin.tw5402249366112354979 : True := trivial
theorem fin.tw4013537778516871869 : True := trivial
theorem fin.tw5901363791540438844 : True := trivial
theorem fin.tw6846200578177281708 : True := trivial
theorem fin.tw10567028658651823492 : True := trivial
theorem fin.tw17234587430967350031 : True := trivial
theorem fin.tw8053913732961167717 : True := trivial
theorem fin.tw4040260094072895976 : True := trivial
theorem fin.tw5011121235533021005 : True := trivial
theorem fin.tw4878226113927451544 : True := trivial
theorem fin.tw10696652717036330658 : True := trivial
theorem fin.tw17628183408451194143 : True := trivial
theorem fin.tw7028063314416541132 : True := trivial
theorem fin.tw13175226182763708026 : True := trivial
theorem fin.tw7336344344812659824 : True := trivial
theorem fin.tw5115476493328737885 : True := trivial
theorem fin.tw3236217559460173300 : True := trivial
theorem fin.tw452842511749404161 : True := trivial
theorem fin.tw8919302590299486024 : True := trivial
theorem fin.tw757079261281740938 : True := trivial
theorem fin.tw2441168790927817222 : True := trivial
theorem fin.tw4265850918314828415 : True := trivial
theorem fin.tw4170516301191304579 : True := trivial
theorem fin.tw14943911441677524827 : True := trivial
theorem fin.tw8352470293576582857 : True := trivial
theorem fin.tw17821466097196317003 : True := trivial
theorem fin.tw7684487725183542926 : True := trivial
theorem fin.tw3762306804915933987 : True := trivial
theorem fin.tw7976502392129159676 : True := trivial
theorem fin.tw13295704053362595847 : True := trivial
theorem fin.tw848606289541702500 : True := trivial
theorem fin.tw16275787546110486726 : True := trivial
theorem fin.tw4306616734650971735 : True := trivial
theorem fin.tw10196768644732416780 : True := trivial
theorem fin.tw3752056022367304142 : True := trivial
theorem fin.tw8075192146702601997 : True := trivial
theorem fin.tw7249652514872940865 : True := trivial
theorem fin.tw7522001649326652513 : True := trivial
theorem fin.tw1035503724928835527 : True := trivial
theorem fin.tw16192418988078311159 : True := trivial
theorem fin.tw4424551920762525699 : True := trivial
theorem fin.tw16145351769185666540 : True := trivial
theorem fin.tw3885313090954376144 : True := trivial
theorem fin.tw10329872625359487480 : True := trivial
theorem fin.tw3598329298470268980 : True := trivial
theorem fin.tw5098551885099359569 : True := trivial
theorem fin.tw12833947400113492166 : True := trivial
theorem fin.tw14165584387687976329 : True := trivial
theorem fin.tw6567050819087999508 : True := trivial
theorem fin.tw2305881189932309285 : True := trivial
theorem fin.tw14132750550173504768 : True := trivial
theorem fin.tw6127190174262240918 : True := trivial
theorem fin.tw7930893340574950883 : True := trivial
theorem fin.tw16678980180976206529 : True := trivial
theorem fin.tw2608567993692976607 : True := trivial
theorem fin.tw997887282184280819 : True := trivial
theorem fin.tw4538191230965241994 : True := trivial
theorem fin.tw16448676403291746579 : True := trivial
theorem fin.tw12876116671307685997 : True := trivial
theorem fin.tw1613116972386908190 : True := trivial
theorem fin.tw9997704412844104603 : True := trivial
theorem fin.tw1580780407708033493 : True := trivial
theorem fin.tw7070210977369740762 : True := trivial
theorem fin.tw13815853411582834384 : True := trivial
theorem fin.tw13898374239775968522 : True := trivial
theorem fin.tw11432402860279490204 : True := trivial
theorem fin.tw12149302876761508202 : True := trivial
theorem fin.tw999798209818781672 : True := trivial
theorem fin.tw17109930996152030393 : True := trivial
theorem fin.tw3373110491918621954 : True := trivial
theorem fin.tw2789213428527533208 : True := trivial
theorem fin.tw15832999045522443761 : True := trivial
theorem fin.tw5196160543931855155 : True := trivial
theorem fin.tw15273852366172491244 : True := trivial
theorem fin.tw1213908355484861934 : True := trivial
theorem fin.tw10907391636593693970 : True := trivial
theorem fin.tw12669758225909598566 : True := trivial
theorem fin.tw1635022588487117616 : True := trivial
theorem fin.tw9682595657389325823 : True := trivial
theorem fin.tw16625790000389398615 : True := trivial
theorem fin.tw13790858721211988464 : True := trivial
theorem fin.tw4312942655851389009 : True := trivial
theorem fin.tw13412572060209156058 : True := trivial
theorem fin.tw10790007923984976650 : True := trivial
theorem fin.tw982560976839675504 : True := trivial
theorem fin.tw6113989636485653130 : True := trivial
theorem fin.tw876206183137641144 : True := trivial
theorem fin.tw17406136962360114138 : True := trivial
theorem fin.tw10751089155417173751 : True := trivial
theorem fin.tw10656291684629039791 : True := trivial
theorem fin.tw12962497063298326498 : True := trivial
theorem fin.tw8004206274103572539 : True := trivial
theorem fin.tw6973266500810094378 : True := trivial
theorem fin.tw10939691994893167182 : True := trivial
theorem fin.tw1713156846745171867 : True := trivial
theorem fin.tw8288733244629462318 : True := trivial
theorem fin.tw1012361349325877821 : True := trivial
theorem fin.tw1921391257341544841 : True := trivial
theorem fin.tw6400248389586479577 : True := trivial
theorem fin.tw3683778510129048087 : True := trivial
theorem fin.tw4924110625330727750 : True := trivial
theorem fin.tw17344254963278052338 : True := trivial
theorem fin.tw15309079848183770524 : True := trivial
theorem fin.tw13423622936843584764 : True := trivial
theorem fin.tw12292906935544458286 : True := trivial
theorem fin.tw16496857829328116044 : True := trivial
theorem fin.tw16269368082590959529 : True := trivial
theorem fin.tw4043148821406017626 : True := trivial
theorem fin.tw11872632619743157287 : True := trivial
theorem fin.tw16540275574145912595 : True := trivial
theorem fin.tw9247658263007524724 : True := trivial
theorem fin.tw4026100201820347962 : True := trivial
theorem fin.tw15219631101029703214 : True := trivial
theorem fin.tw3738894495883498167 : True := trivial
theorem fin.tw15434440284735832900 : True := trivial
theorem fin.tw7929640520542984453 : True := trivial
theorem fin.tw6872408275531757542 : True := trivial
theorem fin.tw3839206501371402102 : True := trivial
theorem fin.tw6525817661751114472 : True := trivial
theorem fin.tw5920281757701029450 : True := trivial
theorem fin.tw12977279227502587607 : True := trivial
theorem fin.tw10393886385942881009 : True := trivial
theorem fin.tw612862322836996645 : True := trivial
theorem fin.tw2468895432071198214 : True := trivial
theorem fin.tw9221430085559818832 : True := trivial
theorem fin.tw14075178694198228753 : True := trivial
theorem fin.tw891787732878383699 : True := trivial
theorem fin.tw2218633174628956881 : True := trivial
theorem fin.tw333583748066197110 : True := trivial
theorem fin.tw7890596953891613788 : True := trivial
theorem fin.tw5293390819737331289 : True := trivial
theorem fin.tw9297318355482256503 : True := trivial
theorem fin.tw9113340658982188547 : True := trivial
theorem fin.tw7613945582906998725 : True := trivial
theorem fin.tw9962418760945406050 : True := trivial
theorem fin.tw9725021084223525626 : True := trivial
theorem fin.tw17130245016438642246 : True := trivial
theorem fin.tw14568449535678555946 : True := trivial
theorem fin.tw1545086475593560577 : True := trivial
theorem fin.tw14347400895652799225 : True := trivial
theorem fin.tw12868640280835112553 : True := trivial
theorem fin.tw11151619158091525091 : True := trivial
theorem fin.tw16488607150827929282 : True := trivial
theorem fin.tw16429022384663243119 : True := trivial
theorem fin.tw3550807849831375056 : True := trivial
theorem fin.tw1128348596072947701 : True := trivial
theorem fin.tw5230622158679508976 : True := trivial
theorem fin.tw16285329926789087883 : True := trivial
theorem fin.tw10895054467252067526 : True := trivial
theorem fin.tw4209717502836232480 : True := trivial
theorem fin.tw15815952407149668801 : True := trivial
theorem fin.tw14979938633740849765 : True := trivial
theorem fin.tw12171577908484138354 : True := trivial
theorem fin.tw15701818922362908474 : True := trivial
theorem fin.tw4613182775407389354 : True := trivial
theorem fin.tw2462912638960843985 : True := trivial
theorem fin.tw8511326990415419460 : True := trivial
theorem fin.tw15094949803261831281 : True := trivial
theorem fin.tw8331973007464152698 : True := trivial
theorem fin.tw830653844747074499 : True := trivial
theorem fin.tw17449020081951674710 : True := trivial
theorem fin.tw17260493314774615805 : True := trivial
theorem fin.tw18082680734076937219 : True := trivial
theorem fin.tw3112429581023547943 : True := trivial
theorem fin.tw1535588207084551279 : True := trivial
theorem fin.tw13523910257889291827 : True := trivial
theorem fin.tw10372454290965829033 : True := trivial
theorem fin.tw380778119907437045 : True := trivial
theorem fin.tw15240623583426463711 : True := trivial
theorem fin.tw8185091604740117843 : True := trivial
theorem fin.tw5734618986648460908 : True := trivial
theorem fin.tw1202912048536075021 : True := trivial
theorem fin.tw1963134401048803436 : True := trivial
theorem fin.tw12740692763255036000 : True := trivial
theorem fin.tw1346022578215293949 : True := trivial
theorem fin.tw14431720936831517352 : True := trivial
theorem fin.tw11273041486466551846 : True := trivial
theorem fin.tw14468091648759818802 : True := trivial
theorem fin.tw2995622967998787300 : True := trivial
theorem fin.tw3810570522144960214 : True := trivial
theorem fin.tw2885147992704089249 : True := trivial
theorem fin.tw2321816554428607280 : True := trivial
theorem fin.tw7055459427971326715 : True := trivial
theorem fin.tw15234240111613058569 : True := trivial
theorem fin.tw10818889477481085253 : True := trivial
theorem fin.tw9711862698833617823 : True := trivial
theorem fin.tw9562769462328344092 : True := trivial
theorem fin.tw9597861255099599992 : True := trivial
theorem fin.tw11707752901727499235 : True := trivial
theorem fin.tw8472697214298850164 : True := trivial
theorem fin.tw12738864244801774330 : True := trivial
theorem fin.tw15216479089859931547 : True := trivial
theorem fin.tw4218790737952374519 : True := trivial
theorem fin.tw11936995450923721628 : True := trivial
theorem fin.tw4879674094562380441 : True := trivial
theorem fin.tw13066358836101814915 : True := trivial
theorem fin.tw11336253725339858928 : True := trivial
theorem fin.tw16502652511500755 : True := trivial
theorem fin.tw2976117146107443816 : True := trivial
theorem fin.tw16103849850496634939 : True := trivial
theorem fin.tw2523478847598653984 : True := trivial
theorem fin.tw7033882931294258662 : True := trivial
theorem fin.tw14060254640080698258 : True := trivial
theorem fin.tw216489041496292469 : True := trivial
theorem fin.tw8590288500278120515 : True := trivial
theorem fin.tw4302917861877037783 : True := trivial
theorem fin.tw12932903420030652473 : True := trivial
theorem fin.tw9437242357050131058 : True := trivial
theorem fin.tw11414674201277728305 : True := trivial
theorem fin.tw12580147959424536363 : True := trivial
theorem fin.tw6113892759573084369 : True := trivial
theorem fin.tw13235901397817054834 : True := trivial
theorem fin.tw6485783843944922600 : True := trivial
theorem fin.tw4640724917100965312 : True := trivial
theorem fin.tw12135189313929291683 : True := trivial
theorem fin.tw9387745189664136937 : True := trivial
theorem fin.tw11750646167744613905 : True := trivial
theorem fin.tw12649782002744950493 : True := trivial
theorem fin.tw15205425988870721313 : True := trivial
theorem fin.tw9913140749668108558 : True := trivial
theorem fin.tw3810338749695602999 : True := trivial
theorem fin.tw3246839028233683650 : True := trivial
theorem fin.tw6515953530934532768 : True := trivial
theorem fin.tw17662344363894024548 : True := trivial
theorem fin.tw17784850919643140607 : True := trivial
theorem fin.tw3018758056844737939 : True := trivial
theorem fin.tw5805905742469029177 : True := trivial
theorem fin.tw1544503264643628384 : True := trivial
theorem fin.tw488218634404078324 : True := trivial
theorem fin.tw12237877928780879103 : True := trivial
theorem fin.tw10147658903529517814 : True := trivial
theorem fin.tw1887099378405440850 : True := trivial
theorem fin.tw15476544859757588837 : True := trivial
theorem fin.tw12487371901255815361 : True := trivial
theorem fin.tw5978438607452443526 : True := trivial
theorem fin.tw4719063310657182621 : True := trivial
theorem fin.tw17217429795192226366 : True := trivial
theorem fin.tw12718612220689870738 : True := trivial
theorem fin.tw1088692219920020602 : True := trivial
theorem fin.tw17347454772498655404 : True := trivial
theorem fin.tw18195182924450695511 : True := trivial
theorem fin.tw3125960719983571848 : True := trivial
theorem fin.tw9825859731914700964 : True := trivial
theorem fin.tw12567809125941998234 : True := trivial
theorem fin.tw4950403968356008110 : True := trivial
theorem fin.tw799341379326975648 : True := trivial
theorem fin.tw7773504467932542270 : True := trivial
theorem fin.tw11079828417688620724 : True := trivial
theorem fin.tw10671828304227620169 : True := trivial
theorem fin.tw17485583185531914963 : True := trivial
theorem fin.tw17809232949079649038 : True := trivial
theorem fin.tw18075230132384515194 : True := trivial
theorem fin.tw17067295170570645592 : True := trivial
theorem fin.tw9806666330580929782 : True := trivial
theorem fin.tw3199103547748192838 : True := trivial
theorem fin.tw1014637456484912126 : True := trivial
theorem fin.tw5555312102172926907 : True := trivial
theorem fin.tw14297971457927632359 : True := trivial
theorem fin.tw3293696948919318046 : True := trivial
theorem fin.tw2067723777617599883 : True := trivial
theorem fin.tw14178952322520976695 : True := trivial
theorem fin.tw4180101509539245183 : True := trivial
theorem fin.tw14210890002308233579 : True := trivial
theorem fin.tw17717364068325071970 : True := trivial
theorem fin.tw945457799607111265 : True := trivial
theorem fin.tw4788878847521262168 : True := trivial
theorem fin.tw10699407837109476802 : True := trivial
theorem fin.tw16375469754199864689 : True := trivial
theorem fin.tw12273546716903637868 : True := trivial
theorem fin.tw6058378993454661626 : True := trivial
theorem fin.tw6455845175183424153 : True := trivial
theorem fin.tw16771295499568265973 : True := trivial
theorem fin.tw6388184931127306564 : True := trivial
theorem fin.tw17963964198891936676 : True := trivial
theorem fin.tw2275749259730422485 : True := trivial
theorem fin.tw10043950574865488231 : True := trivial
theorem fin.tw7130589087949165531 : True := trivial
theorem fin.tw5647864574477489665 : True := trivial
theorem fin.tw6956187926921108005 : True := trivial
theorem fin.tw15583698165555649274 : True := trivial
theorem fin.tw15566928917628492161 : True := trivial
theorem fin.tw2620492485814837118 : True := trivial
theorem fin.tw8947099994592609211 : True := trivial
theorem fin.tw13093503161671486093 : True := trivial
theorem fin.tw4868334931027891882 : True := trivial
theorem fin.tw17611727573569791414 : True := trivial
theorem fin.tw1982079694162106894 : True := trivial
theorem fin.tw10279692637995926009 : True := trivial
theorem fin.tw1239743038759826550 : True := trivial
theorem fin.tw10242451874928486539 : True := trivial
theorem fin.tw1666694428299288667 : True := trivial
theorem fin.tw18230178534529381785 : True := trivial
theorem fin.tw2603282792292808943 : True := trivial
theorem fin.tw11293339424137598113 : True := trivial
theorem fin.tw10875463905939285979 : True := trivial
theorem fin.tw16307707646766795581 : True := trivial
theorem fin.tw8261031787919469916 : True := trivial
theorem fin.tw6232080684201472732 : True := trivial
theorem fin.tw584112131590315491 : True := trivial
theorem fin.tw13925877587632400325 : True := trivial
theorem fin.tw7636574776371312073 : True := trivial
theorem fin.tw7380833856163905736 : True := trivial
theorem fin.tw5962627729488381771 : True := trivial
theorem fin.tw6289197191216398940 : True := trivial
theorem fin.tw16867096813858660809 : True := trivial
theorem fin.tw14814673180317915700 : True := trivial
theorem fin.tw5678346346211369953 : True := trivial
theorem fin.tw6081921254191324426 : True := trivial
theorem fin.tw2516017022742817472 : True := trivial
theorem fin.tw418608610138435605 : True := trivial
theorem fin.tw8383268338085895543 : True := trivial
theorem fin.tw14109310954907245088 : True := trivial
theorem fin.tw18164189302063226315 : True := trivial
theorem fin.tw17495881415371897999 : True := trivial
theorem fin.tw428092273266315144 : True := trivial
theorem fin.tw783483362715066742 : True := trivial
theorem fin.tw862447977868951606 : True := trivial
theorem fin.tw12105171945263650130 : True := trivial
theorem fin.tw13199158710529813207 : True := trivial
theorem fin.tw16401934584784274106 : True := trivial
theorem fin.tw15564276425815640635 : True := trivial
theorem fin.tw4898026214463823928 : True := trivial
theorem fin.tw17911201065640838737 : True := trivial
theorem fin.tw5792265106169080782 : True := trivial
theorem fin.tw14578271805448956485 : True := trivial
theorem fin.tw7439575562449295702 : True := trivial
theorem fin.tw13929302177132474383 : True := trivial
theorem fin.tw17974384156558142227 : True := trivial
theorem fin.tw5576714124690252594 : True := trivial
theorem fin.tw17637551073024348614 : True := trivial
theorem fin.tw3906754673857718949 : True := trivial
theorem fin.tw9746901515087519452 : True := trivial
theorem fin.tw15913912297419572864 : True := trivial
theorem fin.tw15846704840505152836 : True := trivial
theorem fin.tw11325060847842403200 : True := trivial
theorem fin.tw2375283059286425376 : True := trivial
theorem fin.tw11772964195913830049 : True := trivial
theorem fin.tw11277597615667878183 : True := trivial
theorem fin.tw12343934877155477432 : True := trivial
theorem fin.tw16903924287465469464 : True := trivial
theorem fin.tw15675102808854859970 : True := trivial
theorem fin.tw4768634762848416435 : True := trivial
theorem fin.tw8643116662766533202 : True := trivial
theorem fin.tw2304379251839397102 : True := trivial
theorem fin.tw13635414795387738630 : True := trivial
theorem fin.tw17186005699333237546 : True := trivial
theorem fin.tw251868834278440796 : True := trivial
theorem fin.tw6766580051018981234 : True := trivial
theorem fin.tw11471956102464614933 : True := trivial
theorem fin.tw857469055436470443 : True := trivial
theorem fin.tw1560641971993327685 : True := trivial
theorem fin.tw12876064707754696378 : True := trivial
theorem fin.tw9260378047223084069 : True := trivial
theorem fin.tw12355744275394475900 : True := trivial
theorem fin.tw12711679700452659978 : True := trivial
theorem fin.tw15396384818603876561 : True := trivial
theorem fin.tw5897612983314593646 : True := trivial
theorem fin.tw9357874355931990178 : True := trivial
theorem fin.tw17149882997012438147 : True := trivial
theorem fin.tw416177051242630535 : True := trivial
theorem fin.tw12448240930570709186 : True := trivial
theorem fin.tw15530151957754944063 : True := trivial
theorem fin.tw16503470079419688546 : True := trivial
theorem fin.tw9339408515151402362 : True := trivial
theorem fin.tw10708223146118651492 : True := trivial
theorem fin.tw17344510285554748771 : True := trivial
theorem fin.tw7177338460636591580 : True := trivial
theorem fin.tw2320886540369039338 : True := trivial
theorem fin.tw1625080806587739848 : True := trivial
theorem fin.tw17535827442545306379 : True := trivial
theorem fin.tw6449190631224713292 : True := trivial
theorem fin.tw13337293482115323266 : True := trivial
theorem fin.tw6068950659093879613 : True := trivial
theorem fin.tw6385529401280152062 : True := trivial
theorem fin.tw5011227242324532581 : True := trivial
theorem fin.tw12118000046449163591 : True := trivial
theorem fin.tw14667941539000003185 : True := trivial
theorem fin.tw5598441983335636414 : True := trivial
theorem fin.tw4395496475954998127 : True := trivial
theorem fin.tw10234915967203826555 : True := trivial
theorem fin.tw11298980531735778240 : True := trivial
theorem fin.tw17041991840579044601 : True := trivial
theorem fin.tw12180539936304867106 : True := trivial
theorem fin.tw5102460946473063141 : True := trivial
theorem fin.tw7237211504229103197 : True := trivial
theorem fin.tw14166196953294261902 : True := trivial
theorem fin.tw9712136527352899355 : True := trivial
theorem fin.tw14018533915963200917 : True := trivial
theorem fin.tw2824846461999071874 : True := trivial
theorem fin.tw8924392036579600891 : True := trivial
theorem fin.tw3939050589584296047 : True := trivial
theorem fin.tw2711489104339610207 : True := trivial
theorem fin.tw8119881530291889089 : True := trivial
theorem fin.tw14134379338385194387 : True := trivial
theorem fin.tw16229209127682248589 : True := trivial
theorem fin.tw8166985623705000286 : True := trivial
theorem fin.tw2512408688544751470 : True := trivial
theorem fin.tw16252508478716706905 : True := trivial
theorem fin.tw2021336271155450331 : True := trivial
theorem fin.tw3302319216010004292 : True := trivial
theorem fin.tw13272504610945704091 : True := trivial
theorem fin.tw4588413851689716618 : True := trivial
theorem fin.tw11192643925408225281 : True := trivial
theorem fin.tw15621619335703214680 : True := trivial
theorem fin.tw1209720653154232198 : True := trivial
theorem fin.tw16912196016219973028 : True := trivial
theorem fin.tw14239432107786713131 : True := trivial
theorem fin.tw8569027658895312972 : True := trivial
theorem fin.tw373065315874586923 : True := trivial
theorem fin.tw12983801754500030112 : True := trivial
theorem fin.tw4652738160404261841 : True := trivial
theorem fin.tw744865244796547220 : True := trivial
theorem fin.tw7267163888087337239 : True := trivial
theorem fin.tw17656766251404061198 : True := trivial
theorem fin.tw1281744992317467088 : True := trivial
theorem fin.tw11989984593139433840 : True := trivial
theorem fin.tw13781542876482819989 : True := trivial
theorem fin.tw2086631506510373192 : True := trivial
theorem fin.tw14333544728242365436 : True := trivial
theorem fin.tw7451905468542833597 : True := trivial
theorem fin.tw6620434350048004 : True := trivial
theorem fin.tw828056024939588000 : True := trivial
theorem fin.tw670465573061467203 : True := trivial
theorem fin.tw16908780153626456763 : True := trivial
theorem fin.tw15225332579556243176 : True := trivial
theorem fin.tw16593498308125037870 : True := trivial
theorem fin.tw5372875611105449904 : True := trivial
theorem fin.tw12403690455625630471 : True := trivial
theorem fin.tw2775396313129547428 : True := trivial
theorem fin.tw1903126291601959907 : True := trivial
theorem fin.tw1348009686575996458 : True := trivial
theorem fin.tw17416127249078093707 : True := trivial
theorem fin.tw5969918560705584894 : True := trivial
theorem fin.tw480829909506669009 : True := trivial
theorem fin.tw7661832156752021035 : True := trivial
theorem fin.tw17430205856086898164 : True := trivial
theorem fin.tw4704930585520482657 : True := trivial
theorem fin.tw11607805686811502034 : True := trivial
theorem fin.tw16497079637816224013 : True := trivial
theorem fin.tw9038226972742754082 : True := trivial
theorem fin.tw14254621764821748828 : True := trivial
theorem fin.tw14449560505687523246 : True := trivial
theorem fin.tw4440197508161821537 : True := trivial
theorem fin.tw17362494058136835672 : True := trivial
theorem fin.tw7000300075881102575 : True := trivial
theorem fin.tw520194297998822909 : True := trivial
theorem fin.tw6498334528663615478 : True := trivial
theorem fin.tw17570509445847580414 : True := trivial
theorem fin.tw17896612028031085017 : True := trivial
theorem fin.tw10684981021144957211 : True := trivial
theorem fin.tw3794220679723124481 : True := trivial
theorem fin.tw1206694682578267724 : True := trivial
theorem fin.tw12979919090201106820 : True := trivial
theorem fin.tw14752907821818930876 : True := trivial
theorem fin.tw11277574374343807151 : True := trivial
theorem fin.tw9610726530385051774 : True := trivial
theorem fin.tw11462241541112437924 : True := trivial
theorem fin.tw4833179351181384845 : True := trivial
theorem fin.tw6712194924023145494 : True := trivial
theorem fin.tw7547296005191728479 : True := trivial
theorem fin.tw8088732932480780420 : True := trivial
theorem fin.tw17698704350827878285 : True := trivial
theorem fin.tw10007411396671696613 : True := trivial
theorem fin.tw5776136370200156792 : True := trivial
theorem fin.tw14560573928864763818 : True := trivial
theorem fin.tw10599938827571368224 : True := trivial
theorem fin.tw15019234207855213703 : True := trivial
theorem fin.tw11693106759165616088 : True := trivial
theorem fin.tw5250828734511838712 : True := trivial
theorem fin.tw13469397999491448738 : True := trivial
theorem fin.tw4759752924163587094 : True := trivial
theorem fin.tw17971676594858020690 : True := trivial
theorem fin.tw8656503046869711584 : True := trivial
theorem fin.tw8629152706101051812 : True := trivial
theorem fin.tw9363291351745731410 : True := trivial
theorem fin.tw13177410634674063896 : True := trivial
theorem fin.tw9508293364712189505 : True := trivial
theorem fin.tw14139026862911339306 : True := trivial
theorem fin.tw14895270292469626870 : True := trivial
theorem fin.tw14658254696389335927 : True := trivial
theorem fin.tw1324748791087667916 : True := trivial
theorem fin.tw1422313219903470601 : True := trivial
theorem fin.tw7518579229450374285 : True := trivial
theorem fin.tw4124276233288881987 : True := trivial
theorem fin.tw4499257904209204147 : True := trivial
theorem fin.tw824797018042769846 : True := trivial
theorem fin.tw4723787954990577340 : True := trivial
theorem fin.tw6381419901266130222 : True := trivial
theorem fin.tw6061592489118403721 : True := trivial
theorem fin.tw5514125408013525434 : True := trivial
theorem fin.tw17461915456910197578 : True := trivial
theorem fin.tw2236755162388048479 : True := trivial
theorem fin.tw7786677914034681988 : True := trivial
theorem fin.tw1547390860169783007 : True := trivial
theorem fin.tw2415902012162501839 : True := trivial
theorem fin.tw13383306551100868464 : True := trivial
theorem fin.tw5227809002895711924 : True := trivial
theorem fin.tw6968583824967984638 : True := trivial
theorem fin.tw3767311804947220896 : True := trivial
theorem fin.tw14685975602060884167 : True := trivial
theorem fin.tw14728723275428758510 : True := trivial
theorem fin.tw2617349483901765261 : True := trivial
theorem fin.tw807531904560671035 : True := trivial
theorem fin.tw12809788781938459499 : True := trivial
theorem fin.tw14679806638718605512 : True := trivial
theorem fin.tw14245171486683049214 : True := trivial
theorem fin.tw7008622114716911220 : True := trivial
theorem fin.tw13294311002278339166 : True := trivial
theorem fin.tw5585719645790517573 : True := trivial
theorem fin.tw7803649310394182010 : True := trivial
theorem fin.tw11819170096642289871 : True := trivial
theorem fin.tw10874316729293906858 : True := trivial
theorem fin.tw17696989986258524660 : True := trivial
theorem fin.tw14637358334870819178 : True := trivial
theorem fin.tw5266742908149448401 : True := trivial
theorem fin.tw6707113841082798463 : True := trivial
theorem fin.tw10511823565363050587 : True := trivial
theorem fin.tw4598667867955821814 : True := trivial
theorem fin.tw4806268862455609328 : True := trivial
theorem fin.tw13662234377613046438 : True := trivial
theorem fin.tw18387650150990424433 : True := trivial
theorem fin.tw8896352889252549814 : True := trivial
theorem fin.tw884059145510264010 : True := trivial
theorem fin.tw7845872953664198349 : True := trivial
theorem fin.tw8013244705931419473 : True := trivial
theorem fin.tw2910385600587045654 : True := trivial
theorem fin.tw3975253019698251321 : True := trivial
theorem fin.tw12356021495744459628 : True := trivial
theorem fin.tw8559517257967667466 : True := trivial
theorem fin.tw888132650186811988 : True := trivial
theorem fin.tw14517287926952318261 : True := trivial
theorem fin.tw13718649260633737024 : True := trivial
theorem fin.tw1921165311934587177 : True := trivial
theorem fin.tw2367325634123391141 : True := trivial
theorem fin.tw9487260019516590291 : True := trivial
theorem fin.tw4985728507212818316 : True := trivial
theorem fin.tw18105942590061964161 : True := trivial
theorem fin.tw13894747593318719542 : True := trivial
theorem fin.tw7321584467024264148 : True := trivial
theorem fin.tw7334248845499685764 : True := trivial
theorem fin.tw6435670951450185984 : True := trivial
theorem fin.tw16906536467411238026 : True := trivial
theorem fin.tw16958243865122950064 : True := trivial
theorem fin.tw2980313836526270443 : True := trivial
theorem fin.tw8281523328739849912 : True := trivial
theorem fin.tw5486226609284752418 : True := trivial
theorem fin.tw7650283484787511029 : True := trivial
theorem fin.tw13501502787908985413 : True := trivial
theorem fin.tw15399907426655090358 : True := trivial
theorem fin.tw16196181902256332553 : True := trivial
theorem fin.tw6323506392446703087 : True := trivial
theorem fin.tw13700621096757390547 : True := trivial
theorem fin.tw3998398428148030388 : True := trivial
theorem fin.tw3863403702602939814 : True := trivial
theorem fin.tw17743408960866722510 : True := trivial
theorem fin.tw11061592194353771069 : True := trivial
theorem fin.tw13870153662132920491 : True := trivial
theorem fin.tw15279137341521000952 : True := trivial
theorem fin.tw7822013112032934038 : True := trivial
theorem fin.tw7613857476909055813 : True := trivial
theorem fin.tw6474043946942992101 : True := trivial
theorem fin.tw17933470926392208243 : True := trivial
theorem fin.tw6468635061937337160 : True := trivial
theorem fin.tw10580198807604790814 : True := trivial
theorem fin.tw5073790198343104882 : True := trivial
theorem fin.tw12464766053444552404 : True := trivial
theorem fin.tw15942684835789789487 : True := trivial
theorem fin.tw8330952907988395303 : True := trivial
theorem fin.tw7995362448368537469 : True := trivial
theorem fin.tw12946824338688289833 : True := trivial
theorem fin.tw16205109500356779066 : True := trivial
theorem fin.tw220677088936066577 : True := trivial
theorem fin.tw11897717083992391400 : True := trivial
theorem fin.tw13582292425324344769 : True := trivial
theorem fin.tw12494888245299231016 : True := trivial
theorem fin.tw6667815254911646788 : True := trivial
theorem fin.tw15153159077126877473 : True := trivial
theorem fin.tw1105837973531982728 : True := trivial
theorem fin.tw10469515968555745039 : True := trivial
theorem fin.tw16570786720924097770 : True := trivial
theorem fin.tw17197158672614542318 : True := trivial
theorem fin.tw6454446336052903152 : True := trivial
theorem fin.tw13593179597827634900 : True := trivial
theorem fin.tw15523922138108190246 : True := trivial
theorem fin.tw6577878126316647860 : True := trivial
theorem fin.tw14899709244077398024 : True := trivial
theorem fin.tw2046393882495617769 : True := trivial
theorem fin.tw9578429878718019509 : True := trivial
theorem fin.tw12751662967071866640 : True := trivial
theorem fin.tw11291055956478989865 : True := trivial
theorem fin.tw17267618260052754613 : True := trivial
theorem fin.tw7470013935711676318 : True := trivial
theorem fin.tw3541825141892303889 : True := trivial
theorem fin.tw12291753297600562012 : True := trivial
theorem fin.tw11209750170652599755 : True := trivial
theorem fin.tw111200028466390044 : True := trivial
theorem fin.tw7319501015663598286 : True := trivial
theorem fin.tw3004984022683251337 : True := trivial
theorem fin.tw16584127079891442865 : True := trivial
theorem fin.tw10170948947761517979 : True := trivial
theorem fin.tw6214469639950668122 : True := trivial
theorem fin.tw273201369580953799 : True := trivial
theorem fin.tw7830602891274557492 : True := trivial
theorem fin.tw16798467561266328274 : True := trivial
theorem fin.tw11024638832163780183 : True := trivial
theorem fin.tw3008263204520378139 : True := trivial
theorem fin.tw295240868970151085 : True := trivial
theorem fin.tw10553471711426338075 : True := trivial
theorem fin.tw10782327089294195420 : True := trivial
theorem fin.tw12757720458447036936 : True := trivial
theorem fin.tw11040825799340251285 : True := trivial
theorem fin.tw423345284130997744 : True := trivial
theorem fin.tw16125780511175521129 : True := trivial
theorem fin.tw7278507554335971580 : True := trivial
theorem fin.tw6718411051458867188 : True := trivial
theorem fin.tw14021872759519490765 : True := trivial
theorem fin.tw3857263333814641470 : True := trivial
theorem fin.tw8660049834305141905 : True := trivial
theorem fin.tw16510490156224867327 : True := trivial
theorem fin.tw12072802829135307789 : True := trivial
theorem fin.tw3028926083550364057 : True := trivial
theorem fin.tw4326780796455107134 : True := trivial
theorem fin.tw8151358987872166243 : True := trivial
theorem fin.tw4162185377826839926 : True := trivial
theorem fin.tw4754365596532378047 : True := trivial
theorem fin.tw2656788454239962097 : True := trivial
theorem fin.tw3680538572021651005 : True := trivial
theorem fin.tw13183061134860383702 : True := trivial
theorem fin.tw13566729865485783148 : True := trivial
theorem fin.tw448459338275823397 : True := trivial
theorem fin.tw3211687289105081006 : True := trivial
theorem fin.tw17314879045244329059 : True := trivial
theorem fin.tw2565351972500760935 : True := trivial
theorem fin.tw12557769604369416430 : True := trivial
theorem fin.tw783276788638174711 : True := trivial
theorem fin.tw9445451236469955387 : True := trivial
theorem fin.tw14111491100615862519 : True := trivial
theorem fin.tw8269367382603917829 : True := trivial
theorem fin.tw3229026465367968156 : True := trivial
theorem fin.tw18087328562809068087 : True := trivial
theorem fin.tw2366236672687842684 : True := trivial
theorem fin.tw14336544582882092262 : True := trivial
theorem fin.tw11575174756993882273 : True := trivial
theorem fin.tw10852849658779182186 : True := trivial
theorem fin.tw10313180648002132564 : True := trivial
theorem fin.tw4329306826757983850 : True := trivial
theorem fin.tw4992356995671143779 : True := trivial
theorem fin.tw14855157385224911753 : True := trivial
theorem fin.tw16934629359412608497 : True := trivial
theorem fin.tw1992996095170833049 : True := trivial
theorem fin.tw5285785234609935064 : True := trivial
theorem fin.tw17502855826952124057 : True := trivial
theorem fin.tw6531376189190222733 : True := trivial
theorem fin.tw4144819383078699286 : True := trivial
theorem fin.tw14345562132136545540 : True := trivial
theorem fin.tw5741801548637672665 : True := trivial
theorem fin.tw14856888987745899463 : True := trivial
theorem fin.tw8126443298418566877 : True := trivial
theorem fin.tw5689665320540551426 : True := trivial
theorem fin.tw4910921440188858082 : True := trivial
theorem fin.tw3222278782482380304 : True := trivial
theorem fin.tw6951216239237536575 : True := trivial
theorem fin.tw891448327626169016 : True := trivial
theorem fin.tw3129228512308937268 : True := trivial
theorem fin.tw11179249921394602866 : True := trivial
theorem fin.tw17164383140453370395 : True := trivial
theorem fin.tw10411508006071892022 : True := trivial
theorem fin.tw8018989035897545986 : True := trivial
theorem fin.tw8416529770105884409 : True := trivial
theorem fin.tw15144710454662140524 : True := trivial
theorem fin.tw17356987340757268870 : True := trivial
theorem fin.tw13119895379190043232 : True := trivial
theorem fin.tw7193555501269276637 : True := trivial
theorem fin.tw4337157586716928682 : True := trivial
theorem fin.tw12705944875615423002 : True := trivial
theorem fin.tw9735714214384596553 : True := trivial
theorem fin.tw17311274769643918242 : True := trivial
theorem fin.tw9722632081671974098 : True := trivial
theorem fin.tw8399098705505230059 : True := trivial
theorem fin.tw4145619633490157487 : True := trivial
theorem fin.tw18105285910621931680 : True := trivial
theorem fin.tw17570709534508481193 : True := trivial
theorem fin.tw15373703851562958014 : True := trivial
theorem fin.tw3599858809825778643 : True := trivial
theorem fin.tw544173102793226557 : True := trivial
theorem fin.tw17719728818120068181 : True := trivial
theorem fin.tw10936777179133785780 : True := trivial
theorem fin.tw1730459228097980354 : True := trivial
theorem fin.tw11454252539852477091 : True := trivial
theorem fin.tw16115155874713506467 : True := trivial
theorem fin.tw2277568627679802767 : True := trivial
theorem fin.tw12757126508119417436 : True := trivial
theorem fin.tw9883050511414546368 : True := trivial
theorem fin.tw10194128795564708546 : True := trivial
theorem fin.tw8622160174418277736 : True := trivial
theorem fin.tw11346557470443003569 : True := trivial
theorem fin.tw12696600883282566439 : True := trivial
theorem fin.tw947276838399291496 : True := trivial
theorem fin.tw12869217540446652890 : True := trivial
theorem fin.tw12586190556516072552 : True := trivial
theorem fin.tw14838103818555229697 : True := trivial
theorem fin.tw15243534294739168615 : True := trivial
theorem fin.tw3706278936589646884 : True := trivial
set_option Elab.async true
set_option maxHeartbeats 8000000 in
theorem fin : PySem.Challenge.rw_rh0110_01.Holds := by
  w_on
  o_law
  k_head
  (case hw => w_witness2)
  k_go0
  rename_i w s₀ s₁ mg mb G Y fa o pm doc ho hg KX X V GL T B TE TW a11 a10 M a9 a8 hcd is hs hlay0 hL1 hr1 hl2 a6 a5 a4 vs a2 hL ra w1 r0 hI hr hcond1 hcond K0 hD h₁ tk₁ F c1 c2 hc1 hc2 N0 X0
  refine ends KX T (fun T => T.seer (by decide +kernel)) ?hf fun KX T => ?go
  case hf =>
    refine hasF_mk ?ao ?mo ?so ?co ?kp ?gi ?gr ?g1 ?g2 ?g3 ?g4 ?g5 ?g6 ?fn ?fM ?fC ?fL
    case ao => as_aux_lemma => exact fcons (ao_of fun w => ⟨by k_is, by k_is, _, by k_is, by k_is⟩) (fcons (ao_of fun w => ⟨by k_is, by k_is, _, by k_is, by k_is⟩) (fcons (ao_of fun w => ⟨by k_is, by k_is, _, by k_is, by k_is⟩) (fcons (ao_of fun w => ⟨by k_is, by k_is, _, by k_is, by k_is⟩) (fcons (ao_of fun w => ⟨by k_is, by k_is, _, by k_is, by k_is⟩) (fcons (ao_of fun w => ⟨by k_is, by k_is, _, by k_is, by k_is⟩) (fcons (ao_of fun w => ⟨by k_is, by k_is, _, by k_is, by k_is⟩) (fcons (ao_of fun w => ⟨by k_is, by k_is, _, by k_is, by k_is⟩) (fcons (ao_of fun w => ⟨by k_is, by k_is, _, by k_is, by k_is⟩) (fcons (ao_of fun w => ⟨by k_is, by k_is, _, by k_is, by k_is⟩) (fcons (ao_of fun w => ⟨by k_is, by k_is, _, by k_is, by k_is⟩) (fcons (ao_of fun w => ⟨by k_is, by k_is, _, by k_is, by k_is⟩) (fcons (ao_of fun w => ⟨by k_is, by k_is, _, by k_is, by k_is⟩) (fcons (ao_of fun w => ⟨by k_is, by k_is, _, by k_is, by k_is⟩) (fcons (ao_of fun w => ⟨by k_is, by k_is, _, by k_is, by k_is⟩) (fcons (ao_of fun w => ⟨by k_is, by k_is, _, by k_is, by k_is⟩) (fcons (ao_of fun w => ⟨by k_is, by k_is, _, by k_is, by k_is⟩) (fcons (ao_of fun w => ⟨by k_is, by k_is, _, by k_is, by k_is⟩) (fcons (ao_of fun w => ⟨by k_is, by k_is, _, by k_is, by k_is⟩) (fcons (ao_of fun w => ⟨by k_is, by k_is, _, by k_is, by k_is⟩) (fcons (ao_of fun w => ⟨by k_is, by k_is, _, by k_is, by k_is⟩) (fcons (ao_of fun w => ⟨by k_is, by k_is, _, by k_is, by k_is⟩) (fcons (ao_of fun w => ⟨by k_is, by k_is, _, by k_is, by k_is⟩) (fcons (ao_of fun w => ⟨by k_is, by k_is, _, by k_is, by k_is⟩) (fcons (ao_of fun w => ⟨by k_is, by k_is, _, by k_is, by k_is⟩) (fcons (ao_of fun w => ⟨by k_is, by k_is, _, by k_is, by k_is⟩) (fcons (ao_of fun w => ⟨by k_is, by k_is, _, by k_is, by k_is⟩) (fcons (ao_of fun w => ⟨by k_is, by k_is, _, by k_is, by k_is⟩) (fcons (ao_of fun w => ⟨by k_is, by k_is, _, by k_is, by k_is⟩) (fnil)))))))))))))))))))))))))))))
    case mo => as_aux_lemma => exact fcons (mo_of fun w => ⟨by k_is, by k_is, by k_is, by k_is⟩) (fcons (mo_of fun w => ⟨by k_is, by k_is, by k_is, by k_is⟩) (fcons (mo_of fun w => ⟨by k_is, by k_is, by k_is, by k_is⟩) (fcons (mo_of fun w => ⟨by k_is, by k_is, by k_is, by k_is⟩) (fcons (mo_of fun w => ⟨by k_is, by k_is, by k_is, by k_is⟩) (fcons (mo_of fun w => ⟨by k_is, by k_is, by k_is, by k_is⟩) (fcons (mo_of fun w => ⟨by k_is, by k_is, by k_is, by k_is⟩) (fcons (mo_of fun w => ⟨by k_is, by k_is, by k_is, by k_is⟩) (fcons (mo_of fun w => ⟨by k_is, by k_is, by k_is, by k_is⟩) (fcons (mo_of fun w => ⟨by k_is, by k_is, by k_is, by k_is⟩) (fcons (mo_of fun w => ⟨by k_is, by k_is, by k_is, by k_is⟩) (fcons (mo_of fun w => ⟨by k_is, by k_is, by k_is, by k_is⟩) (fcons (mo_of fun w => ⟨by k_is, by k_is, by k_is, by k_is⟩) (fcons (mo_of fun w => ⟨by k_is, by k_is, by k_is, by k_is⟩) (fcons (mo_of fun w => ⟨by k_is, by k_is, by k_is, by k_is⟩) (fcons (mo_of fun w => ⟨by k_is, by k_is, by k_is, by k_is⟩) (fcons (mo_of fun w => ⟨by k_is, by k_is, by k_is, by k_is⟩) (fcons (mo_of fun w => ⟨by k_is, by k_is, by k_is, by k_is⟩) (fcons (mo_of fun w => ⟨by k_is, by k_is, by k_is, by k_is⟩) (fcons (mo_of fun w => ⟨by k_is, by k_is, by k_is, by k_is⟩) (fnil))))))))))))))))))))
    case so => as_aux_lemma => exact fcons (so_of fun w => ⟨by k_is, by k_is, by k_is, by k_is⟩) (fcons (so_of fun w => ⟨by k_is, by k_is, by k_is, by k_is⟩) (fcons (so_of fun w => ⟨by k_is, by k_is, by k_is, by k_is⟩) (fcons (so_of fun w => ⟨by k_is, by k_is, by k_is, by k_is⟩) (fcons (so_of fun w => ⟨by k_is, by k_is, by k_is, by k_is⟩) (fcons (so_of fun w => ⟨by k_is, by k_is, by k_is, by k_is⟩) (fcons (so_of fun w => ⟨by k_is, by k_is, by k_is, by k_is⟩) (fcons (so_of fun w => ⟨by k_is, by k_is, by k_is, by k_is⟩) (fcons (so_of fun w => ⟨by k_is, by k_is, by k_is, by k_is⟩) (fcons (so_of fun w => ⟨by k_is, by k_is, by k_is, by k_is⟩) (fcons (so_of fun w => ⟨by k_is, by k_is, by k_is, by k_is⟩) (fcons (so_of fun w => ⟨by k_is, by k_is, by k_is, by k_is⟩) (fcons (so_of fun w => ⟨by k_is, by k_is, by k_is, by k_is⟩) (fcons (so_of fun w => ⟨by k_is, by k_is, by k_is, by k_is⟩) (fcons (so_of fun w => ⟨by k_is, by k_is, by k_is, by k_is⟩) (fcons (so_of fun w => ⟨by k_is, by k_is, by k_is, by k_is⟩) (fcons (so_of fun w => ⟨by k_is, by k_is, by k_is, by k_is⟩) (fcons (so_of fun w => ⟨by k_is, by k_is, by k_is, by k_is⟩) (fcons (so_of fun w => ⟨by k_is, by k_is, by k_is, by k_is⟩) (fcons (so_of fun w => ⟨by k_is, by k_is, by k_is, by k_is⟩) (fcons (so_of fun w => ⟨by k_is, by k_is, by k_is, by k_is⟩) (fcons (so_of fun w => ⟨by k_is, by k_is, by k_is, by k_is⟩) (fcons (so_of fun w => ⟨by k_is, by k_is, by k_is, by k_is⟩) (fcons (so_of fun w => ⟨by k_is, by k_is, by k_is, by k_is⟩) (fcons (so_of fun w => ⟨by k_is, by k_is, by k_is, by k_is⟩) (fcons (so_of fun w => ⟨by k_is, by k_is, by k_is, by k_is⟩) (fcons (so_of fun w => ⟨by k_is, by k_is, by k_is, by k_is⟩) (fcons (so_of fun w => ⟨by k_is, by k_is, by k_is, by k_is⟩) (fcons (so_of fun w => ⟨by k_is, by k_is, by k_is, by k_is⟩) (fnil)))))))))))))))))))))))))))))
    case co => as_aux_lemma => exact fcons (co_of fun w => ⟨by k_is, by k_is, by k_is⟩) (fcons (co_of fun w => ⟨by k_is, by k_is, by k_is⟩) (fcons (co_of fun w => ⟨by k_is, by k_is, by k_is⟩) (fnil)))
    case kp => as_aux_lemma => exact fcons (fun w => by k_is) (fcons (fun w => by k_is) (fcons (fun w => by k_is) (fcons (fun w => by k_is) (fcons (fun w => by k_is) (fcons (fun w => by k_is) (fcons (fun w => by k_is) (fcons (fun w => by k_is) (fcons (fun w => by k_is) (fcons (fun w => by k_is) (fcons (fun w => by k_is) (fcons (fun w => by k_is) (fcons (fun w => by k_is) (fcons (fun w => by k_is) (fcons (fun w => by k_is) (fcons (fun w => by k_is) (fcons (fun w => by k_is) (fcons (fun w => by k_is) (fcons (fun w => by k_is) (fcons (fun w => by k_is) (fcons (fun w => by k_is) (fcons (fun w => by k_is) (fcons (fun w => by k_is) (fcons (fun w => by k_is) (fcons (fun w => by k_is) (fcons (fun w => by k_is) (fcons (fun w => by k_is) (fcons (fun w => by k_is) (fcons (fun w => by k_is) (fcons (fun w => by k_is) (fcons (fun w => by k_is) (fcons (fun w => by k_is) (fcons (fun w => by k_is) (fcons (fun w => by k_is) (fcons (fun w => by k_is) (fcons (fun w => by k_is) (fcons (fun w => by k_is) (fcons (fun w => by k_is) (fcons (fun w => by k_is) (fcons (fun w => by k_is) (fcons (fun w => by k_is) (fcons (fun w => by k_is) (fcons (fun w => by k_is) (fcons (fun w => by k_is) (fnil))))))))))))))))))))))))))))))))))))))))))))
    case gi => as_aux_lemma => exact fcons (gi_of rfl fun w => ⟨_, by k_is⟩) (fcons (gi_of rfl fun w => ⟨_, by k_is⟩) (fcons (gi_of rfl fun w => ⟨_, by k_is⟩) (fcons (gi_of rfl fun w => ⟨_, by k_is⟩) (fcons (gi_of rfl fun w => ⟨_, by k_is⟩) (fcons (gi_of rfl fun w => ⟨_, by k_is⟩) (fcons (gi_of rfl fun w => ⟨_, by k_is⟩) (fcons (gi_of rfl fun w => ⟨_, by k_is⟩) (fcons (gi_of rfl fun w => ⟨_, by k_is⟩) (fcons (gi_of rfl fun w => ⟨_, by k_is⟩) (fcons (gi_of rfl fun w => ⟨_, by k_is⟩) (fcons (gi_of rfl fun w => ⟨_, by k_is⟩) (fcons (gi_of rfl fun w => ⟨_, by k_is⟩) (fnil)))))))))))))
    case gr => as_aux_lemma => exact fcons (go_of rfl fun w => by k_is) (fcons (go_of rfl fun w => by k_is) (fcons (go_of rfl fun w => by k_is) (fcons (go_of rfl fun w => by k_is) (fcons (go_of rfl fun w => by k_is) (fcons (go_of rfl fun w => by k_is) (fcons (go_of rfl fun w => by k_is) (fcons (go_of rfl fun w => by k_is) (fcons (go_of rfl fun w => by k_is) (fcons (go_of rfl fun w => by k_is) (fcons (go_of rfl fun w => by k_is) (fcons (go_of rfl fun w => by k_is) (fcons (go_of rfl fun w => by k_is) (fcons (go_of rfl fun w => by k_is) (fcons (go_of rfl fun w => by k_is) (fcons (go_of rfl fun w => by k_is) (fcons (go_of rfl fun w => by k_is) (fcons (go_of rfl fun w => by k_is) (fcons (go_of rfl fun w => by k_is) (fcons (go_of rfl fun w => by k_is) (fcons (go_of rfl fun w => by k_is) (fcons (go_of rfl fun w => by k_is) (fcons (go_of rfl fun w => by k_is) (fcons (go_of rfl fun w => by k_is) (fcons (go_of rfl fun w => by k_is) (fnil)))))))))))))))))))))))))
    case g1 => as_aux_lemma => exact gs_of rfl fun w => ⟨_, by k_is⟩
    case g2 => as_aux_lemma => exact gb_of rfl (by decide) (by decide +kernel) fun w => by k_is
    case g3 => as_aux_lemma => exact gb_of rfl (by decide) (by decide +kernel) fun w => by k_is
    case g4 => as_aux_lemma => exact gb_of rfl (by decide) (by decide +kernel) fun w => by k_is
    case g5 => as_aux_lemma => exact gb_of rfl (by decide) (by decide +kernel) fun w => by k_is
    case g6 => as_aux_lemma => exact gb_of rfl (by decide) (by decide +kernel) fun w => by k_is
    case fn => as_aux_lemma => exact fcons (fnA0 (fun w => by k_is) (fun w => by k_is) rfl rfl rfl rfl) (fcons (fnA0 (fun w => by k_is) (fun w => by k_is) rfl rfl rfl rfl) (fcons (fnA1 (fun w => by k_is) (fun w => by k_is) (fun _ => rfl) rfl rfl rfl rfl rfl) (fcons (fnA2 (fun w => by k_is) (fun w => by k_is) (fun _ _ => rfl) (by decide) rfl rfl rfl rfl rfl) (fcons (fnA3 (fun w => by k_is) (fun w => by k_is) (fun _ _ _ => rfl) (by decide) rfl rfl rfl rfl rfl) (fcons (fnA3 (fun w => by k_is) (fun w => by k_is) (fun _ _ _ => rfl) (by decide) rfl rfl rfl rfl rfl) (fcons (fnA2 (fun w => by k_is) (fun w => by k_is) (fun _ _ => rfl) (by decide) rfl rfl rfl rfl rfl) (fcons (fnA_of (fun w => ⟨_, _, _, _, _, _, _, _, _, _, _, _, _, by k_is, by k_is, fun s rs X hr => ⟨[], .nil, by
      obtain ⟨x, y, z, rfl⟩ := fn3 hr; exact binds_K X rfl (by k_is) rfl rfl rfl⟩⟩) (by decide) rfl rfl rfl rfl rfl) (fcons (fnA2 (fun w => by k_is) (fun w => by k_is) (fun _ _ => rfl) (by decide) rfl rfl rfl rfl rfl) (fcons (fnA1 (fun w => by k_is) (fun w => by k_is) (fun _ => rfl) rfl rfl rfl rfl rfl) (fcons (fnA2 (fun w => by k_is) (fun w => by k_is) (fun _ _ => rfl) (by decide) rfl rfl rfl rfl rfl) (fcons (fnA3 (fun w => by k_is) (fun w => by k_is) (fun _ _ _ => rfl) (by decide) rfl rfl rfl rfl rfl) (fcons (fnA2 (fun w => by k_is) (fun w => by k_is) (fun _ _ => rfl) (by decide) rfl rfl rfl rfl rfl) (fcons (fnA3 (fun w => by k_is) (fun w => by k_is) (fun _ _ _ => rfl) (by decide) rfl rfl rfl rfl rfl) (fcons (fnA2 (fun w => by k_is) (fun w => by k_is) (fun _ _ => rfl) (by decide) rfl rfl rfl rfl rfl) (fcons (fnA2 (fun w => by k_is) (fun w => by k_is) (fun _ _ => rfl) (by decide) rfl rfl rfl rfl rfl) (fcons (fnA2 (fun w => by k_is) (fun w => by k_is) (fun _ _ => rfl) (by decide) rfl rfl rfl rfl rfl) (fcons (fnA2 (fun w => by k_is) (fun w => by k_is) (fun _ _ => rfl) (by decide) rfl rfl rfl rfl rfl) (fcons (fnA3 (fun w => by k_is) (fun w => by k_is) (fun _ _ _ => rfl) (by decide) rfl rfl rfl rfl rfl) (fcons (fnA3 (fun w => by k_is) (fun w => by k_is) (fun _ _ _ => rfl) (by decide) rfl rfl rfl rfl rfl) (fcons (fnA2 (fun w => by k_is) (fun w => by k_is) (fun _ _ => rfl) (by decide) rfl rfl rfl rfl rfl) (fcons (fnA2 (fun w => by k_is) (fun w => by k_is) (fun _ _ => rfl) (by decide) rfl rfl rfl rfl rfl) (fcons (fnA3 (fun w => by k_is) (fun w => by k_is) (fun _ _ _ => rfl) (by decide) rfl rfl rfl rfl rfl) (fcons (fnA2 (fun w => by k_is) (fun w => by k_is) (fun _ _ => rfl) (by decide) rfl rfl rfl rfl rfl) (fcons (fnA2 (fun w => by k_is) (fun w => by k_is) (fun _ _ => rfl) (by decide) rfl rfl rfl rfl rfl) (fcons (fnA2 (fun w => by k_is) (fun w => by k_is) (fun _ _ => rfl) (by decide) rfl rfl rfl rfl rfl) (fcons (fnA2 (fun w => by k_is) (fun w => by k_is) (fun _ _ => rfl) (by decide) rfl rfl rfl rfl rfl) (fcons (fnA2 (fun w => by k_is) (fun w => by k_is) (fun _ _ => rfl) (by decide) rfl rfl rfl rfl rfl) (fcons (fnA2 (fun w => by k_is) (fun w => by k_is) (fun _ _ => rfl) (by decide) rfl rfl rfl rfl rfl) (fcons (fnA2 (fun w => by k_is) (fun w => by k_is) (fun _ _ => rfl) (by decide) rfl rfl rfl rfl rfl) (fcons (fnA2 (fun w => by k_is) (fun w => by k_is) (fun _ _ => rfl) (by decide) rfl rfl rfl rfl rfl) (fcons (fnA2 (fun w => by k_is) (fun w => by k_is) (fun _ _ => rfl) (by decide) rfl rfl rfl rfl rfl) (fcons (fnA2 (fun w => by k_is) (fun w => by k_is) (fun _ _ => rfl) (by decide) rfl rfl rfl rfl rfl) (fcons (fnA2 (fun w => by k_is) (fun w => by k_is) (fun _ _ => rfl) (by decide) rfl rfl rfl rfl rfl) (fcons (fnA2 (fun w => by k_is) (fun w => by k_is) (fun _ _ => rfl) (by decide) rfl rfl rfl rfl rfl) (fcons (fnA2 (fun w => by k_is) (fun w => by k_is) (fun _ _ => rfl) (by decide) rfl rfl rfl rfl rfl) (fcons (fnA2 (fun w => by k_is) (fun w => by k_is) (fun _ _ => rfl) (by decide) rfl rfl rfl rfl rfl) (fcons (fnA1 (fun w => by k_is) (fun w => by k_is) (fun _ => rfl) rfl rfl rfl rfl rfl) (fcons (fnA3 (fun w => by k_is) (fun w => by k_is) (fun _ _ _ => rfl) (by decide) rfl rfl rfl rfl rfl) (fcons (fnA1 (fun w => by k_is) (fun w => by k_is) (fun _ => rfl) rfl rfl rfl rfl rfl) (fcons (fnA2 (fun w => by k_is) (fun w => by k_is) (fun _ _ => rfl) (by decide) rfl rfl rfl rfl rfl) (fcons (fnA2 (fun w => by k_is) (fun w => by k_is) (fun _ _ => rfl) (by decide) rfl rfl rfl rfl rfl) (fnil))))))))))))))))))))))))))))))))))))))))))
    case fM => as_aux_lemma => exact fnA_of (fun w => ⟨_, _, _, _, _, _, _, _, _, _, _, _, _, by k_is, by k_is, fun s rs X hr => ⟨[.int 100000 _, .bool true, .int 4096 _], .cons (.int _ _) (.cons (.bool _) (.cons (.int _ _) .nil)), by
      obtain ⟨x, y, z, rfl⟩ := fn6 hr; exact binds_K X rfl (by k_is) rfl rfl rfl⟩⟩) (by decide) rfl rfl rfl rfl rfl
    case fC => as_aux_lemma => exact fnC_of (fun w => ⟨_, _, _, _, _, _, _, _, _, _, _, _, _, by k_is, by k_is, fun s rs X hr => ⟨[], .nil, by
      obtain ⟨x, y, rfl⟩ := fn2 hr; exact BindsTo.of_eq rfl⟩⟩) (by decide) rfl (by decide) rfl rfl rfl
    case fL => as_aux_lemma => exact fnC_of (fun w => ⟨_, _, _, _, _, _, _, _, _, _, _, _, _, by k_is, by k_is, fun s rs X hr => ⟨[], .nil, by
      obtain ⟨x, rfl⟩ := fn1 hr; exact BindsTo.of_eq rfl⟩⟩) (by decide) rfl (by decide) rfl rfl rfl
  case go =>
    have HC := HasF.fL
    have S := enterC (w := w) (scope := lawS) (ps := ["script"]) (l := [.obj (.ref a4)]) (rs := [.ref a4]) (gl := gLaw) (ρ := []) (hp := []) (led := []) (cells := []) (out := []) (imm := []) HC.nd HC.loc HC.ndc HC.kind gLaw_ok gLaw_sc (.cons (.obj _) .nil) rfl F (own := [(s₁.heap.objs.size + 1 + 1, c1), (s₁.heap.objs.size + 1, c2)]) (by simpa using N0) X0 (fun p hp => nomatch hp) .nil ⟨List.nodup_nil, (fun p hp => nomatch hp), (fun p hp => nomatch hp)⟩
    refine wpAny_mono (law_go (d := 0) ?cx ⟨?r1, ?r2⟩ ⟨rfl, nofun⟩ rfl S hL hI (by omega)) (fun f s' q => ?fin) fun _ _ x => x.elim
    case cx => exact ⟨⟨_, ExcName.means s₀.heap, mg, mb, s₁.heap, [], callerA, K0, T, Around.frames_deeper rfl, .inl rfl, HC.kind⟩, KX, rfl, ⟨_, _, Around.frames_deeper rfl, HC.gen, HC.co, rfl, rfl⟩⟩
    case r1 => show callerA.depth + 1 + (0 + 8) + 110 < recursionLimit; decide
    case r2 => show callerA.units + 3 + 8 * (0 + 8) + 80 < cLine; decide
    case fin =>
      obtain ⟨rfl, h', tk', m, rfl, F'⟩ := q
      exact ⟨.inl ⟨.bool true, .bool true, [], rfl, fun _ => rfl, .bool _, (by with_unfolding_all rfl), fun _ => ⟨List.nodup_nil, fun _ h => nomatch h⟩⟩, F'.keep, rfl, hg⟩
set_option Elab.async false
end Mine
theorem PySem.Challenge.cw_rh0110_01_holds : PySem.Challenge.rw_rh0110_01.Holds :=
  Mine.fin
